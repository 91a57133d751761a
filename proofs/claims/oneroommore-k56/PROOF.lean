import PyProof.Rows.All
import Wide.All
import OpenK.AllK
import Wide.FinOn
import KE.KDictDisplayH
import HandS.ForMost
import HandS.ForExc
import HandS.Strs
import HandS.SetFor
import HandS.IsInst
import HandS.TupAny
import HandS.Style
import HandS.Wide
import HandS.OwnEq
import HandS.Walk
import HandS.Codes
import KE.GoesEnum
import HandS.More
import HandS.Text
import HandS.RaiseMore
import HandS.Ends
import HandS.HeadEnd
import PyProof.ReprRoads
import PyProof.CallFns
import PyProof.InstNe
import PyProof.ReprBulk
import PyProof.Rows.ReprShort
import HandS.TupLe
import HandS.HeadHook1
import HandS.HeadHook2
import HandS.HeadHook3
import Lean
import HandS.Words
import HandS.WordsExc
import HandS.Defaults
import HandS.Head0
import HandS.Head1
import HandS.Head2
import HandS.HeadNt
import PySem.Challenge.RW_oneroommore_k56_whole_makings_of_fewest
set_option Elab.async false
set_option linter.all false
set_option maxRecDepth 100000
set_option maxHeartbeats 4000000
/-! RX1: rules of our own: sorted and set of tuples and lists of ints, enumerate of a tuple, a display with one tuple key. -/
namespace RX
open PySem PySem.Spec PyProof.Rows L2

/-! ### sorted(t), t a tuple of ints -/
section
variable {prog : Program} {w : World} {A : Around} {E : Value → Shared → Prop} {s : Shared}
theorem collect_tup {l : Addr} {vs : List Value} {Q : List Value → Shared → Prop} (hl : s.heap.IsTuple l vs.toArray)
    (h : Q vs { s with heap := (s.heap.push (seqObj "list" #[] 0)).update s.heap.objs.size (Obj.mapSeq (· ++ vs.toArray)) }) (hsz : vs.length ≤ sizeLine := by size_fits) :
    wpAny (model prog w) A (collect (.ref l)) Q E s := by
  obtain ⟨o, ho, hc, n, hd⟩ := id hl
  unfold collect
  refine wpAny_bind (wpAny_runValue (codeAny_builtin entry_proto_collect' ?_))
  show wpAny _ _ (do again (.builtin "list.__iadd__" ⟨[← newList [], .ref l], []⟩)) _ _ s
  refine wpAny_bind (wpAny_newList (wpAny_pure ⟨Code.quiet_builtin _ (by decide +kernel), codeAny_builtin entry_list_iadd' ?_⟩))
  show wpAny _ _ (Builtin.List.listExtendWith (.ref s.heap.objs.size) (.ref l) (.ref s.heap.objs.size)) _ _ { s with heap := s.heap.push (seqObj "list" #[] 0) }
  unfold Builtin.List.listExtendWith
  have ho' : (s.heap.push (seqObj "list" #[] 0)).get? l = some o := Heap.get?_push_of_some _ ho
  refine wpAny_bind (wpAny_typeOf (T := "tuple") ⟨o, ho', hc⟩ ?_)
  have ht : (Value.type "tuple" == Value.type "tuple") = true := by rfl
  rw [if_pos (by rw [ht]; simp)]
  refine wpAny_bind (listItems_at ho' hd ?_)
  refine wpAny_bind (listItems_at (xs := #[]) (n := 0) (Heap.get?_push_size _ rfl) rfl ?_)
  rw [if_neg (by simp)]
  refine wpAny_bind (listUpdate_at (xs := #[]) (n := 0) (Heap.get?_push_size _ rfl) rfl ?_ (Nat.zero_le _) (by show (#[] ++ vs.toArray).size ≤ sizeLine + 1; simp only [Array.size_append, List.size_toArray, List.length_nil]; omega))
  refine wpAny_pure ?_
  show wpAny (model prog w) A (do
      let o ← load s.heap.objs.size
      match o.data with
      | .seq xs _ => pure xs.toList
      | _ => unsupported "internal:collect") Q E { s with heap := (s.heap.push (seqObj "list" #[] 0)).update s.heap.objs.size (Obj.mapSeq (· ++ vs.toArray)) }
  refine wpAny_bind (wpAny_load (get?_update_seq (Heap.get?_push_size _ rfl) _) ?_)
  show wpAny _ _ (pure ((#[] : Array Value) ++ vs.toArray).toList) Q E _
  rw [show ((#[] : Array Value) ++ vs.toArray).toList = vs by simp]
  exact wpAny_pure h
theorem sorted_tup {l : Addr} {vs : List Value} {ns : List Int} {Q : Value → Shared → Prop} (hl : s.heap.IsTuple l vs.toArray) (hI : IntsAre vs ns) (h64 : vs.length < 64)
    (h : ∀ (out : Array Value) (ns' : List Int), IntsAre out.toList ns' → ns'.Perm ns → ns'.Pairwise (· ≤ ·) → Q (.ref (s.heap.objs.size + 1)) { s with heap := sortedAll s.heap vs out }) :
    wpAny (model prog w) A (call (.builtin "sorted") [.ref l]) Q E s := by
  refine Calls.call_function_entry kind_sorted plain_sorted entry_sorted (args_sorted1 _) ?_
  unfold Builtin.«sorted»
  refine wpAny_bind (m := checkCount "sorted" 1 1 _) (wpAny_pure ?_)
  refine wpAny_bind (collect_tup hl ?_ (by rw [sizeLine_eq]; omega))
  refine wpAny_bind (wpAny_newList ?_ (by rw [sizeLine_eq]; omega))
  have hsz : ((s.heap.push (seqObj "list" #[] 0)).update s.heap.objs.size (Obj.mapSeq (· ++ vs.toArray))).objs.size = s.heap.objs.size + 1 := by
    rw [Heap.size_update, size_push']
  have hoL : (((s.heap.push (seqObj "list" #[] 0)).update s.heap.objs.size (Obj.mapSeq (· ++ vs.toArray))).push (seqObj "list" vs.toArray 0)).get? (s.heap.objs.size + 1) = some (seqObj "list" vs.toArray 0) := by
    rw [← hsz]; exact Heap.get?_push_size _ rfl
  show wpAny _ _ _ _ _ { s with heap := ((s.heap.push (seqObj "list" #[] 0)).update s.heap.objs.size (Obj.mapSeq (· ++ vs.toArray))).push (seqObj "list" vs.toArray 0) }
  rw [hsz]
  refine wpAny_bind (wpAny_holding (wpAny_call_entry slot_list_sort ⟨_, hoL, rfl⟩ entry_list_sort (list_sort_tree hoL hI h64 fun out ns' a1 a2 a3 => ⟨_, rfl, ?_⟩) (args_list_sort _)))
  exact wpAny_pure ⟨_, rfl, h out ns' a1 a2 a3⟩
end
def rSortedTI (K : PySem.W.Frag) : List V → Hp → VK → Prop := fun vs H Q => ∃ (a : Addr) (ns : List Int), vs = [V.ref a] ∧ SqT K H a (ns.map V.int) ∧ ns.length < 64 ∧
  ∀ (ns' : List Int) (p : Addr), ns'.Perm ns → ns'.Pairwise (· ≤ ·) → H p = none → Q (.ref p) (upd H p (.lst (ns'.map V.int)))
theorem cr_sortedTI {X : Cx} : CallR X (.builtin "sorted") (rSortedTI X.K) := by
  intro pins s σ H vs us Q I r h
  obtain ⟨a, ns, rfl, hs, h64, q⟩ := h
  obtain ⟨its, rv, hl, _⟩ := I.tuple hs
  rw [Vals.ref1 r]
  have hi := rv.ints
  refine sorted_tup hl hi (by rw [hi.length]; exact h64) fun out ns' h1 h2 h3 => ?_
  obtain ⟨ep, he'⟩ := PyProof.Rows.sortedAll_at s.heap its out
  have hlen : (ns'.map V.int).length ≤ sizeLine := by rw [List.length_map, h2.length_eq]; exact small64 h64
  exact ⟨.ref _, upd H (s.heap.objs.size + 1) (.lst (ns'.map V.int)), I.laid (t' := s.toks) (fun _ _ => PyProof.Rows.sortedAll_old) (Nat.le_succ _) ⟨hlen, out.toList, ep, vals_of_ints h1, he'⟩, rfl, q ns' _ h2 h3 (I.hok.fresh (Nat.le_succ _))⟩

/-! ### set(t) of a tuple of ints -/
def rSetT (K : PySem.W.Frag) (w : World) : List V → Hp → VK → Prop := fun vs H Q => ∃ (a : Addr) (ns : List Int), vs = [V.ref a] ∧ SqT K H a (ns.map V.int) ∧ ns.length + 1 < scanBound ∧
  ∀ (p : Addr) (c : Nat), c ≤ ns.length → H p = none → Q (.ref p) (upd H p (SetO w p (fun j => decide (j ∈ ns)) c))
theorem cr_setT {X : Cx} (hc : X.calm = true) : CallR X (.type "set") (rSetT X.K X.w) := by
  intro pins s σ H vs us Q I r h
  obtain ⟨a, ns, rfl, hs, hb, q⟩ := h
  obtain ⟨its, rv, hl, _⟩ := I.tuple hs
  rw [Vals.ref1 r]
  have hi := rv.ints
  refine call_set_tupI (items := its.toArray) ns (I.ok.hd hc) hl (by simpa using hi) hb fun h' tk c hS hcl hk => ?_
  exact ⟨.ref _, upd H s.heap.objs.size (SetO X.w s.heap.objs.size (fun j => decide (j ∈ ns)) c), I.laid (t' := tk) hk (Nat.le_refl _) (setO_new hS), rfl, q _ c hcl (I.hok.fresh (Nat.le_refl _))⟩
end RX
set_option Elab.async false
set_option linter.all false
set_option maxRecDepth 100000
set_option maxHeartbeats 4000000
namespace RX
open PySem PySem.Spec PyProof.Rows L2

/-! ### enumerate(t), t a tuple -/
def IteT (K : PySem.W.Frag) (a : Addr) : It :=
  ⟨fun i H => ∃ (xs : List V) (x : V), SqT K H a xs ∧ xs[i]? = some x, fun i H v H' => ∃ T x, v = .ref T ∧ H T = none ∧ H' = upd H T (.tup [.int (i : Nat), x]) ∧ ∀ xs, SqT K H a xs → xs[i]? = some x, fun i H => ∃ xs : List V, SqT K H a xs ∧ xs.length = i⟩
theorem turn_enumT {P : Program} {w : World} {K : PySem.W.Frag} {elts : List Expr} {kk : Nat} {tpos : Pos} (a e it : Addr) :
    Turn P w K (.Tuple elts kk tpos) (IteT K a) [e, it] e (fun i h => (∃ old, IsEnum h e it ((i : Nat) : Int) old) ∧ h.IsTupleIter it a i ∧ e ≠ it) where
  mem := by simp
  obj := fun i h st b hb => by
    obtain ⟨⟨old, he⟩, ⟨o, ho, hc, hd⟩, _⟩ := st
    have e' : b = e ∨ b = it := by simpa using hb
    rcases e' with z | z
    · rw [z]; exact ⟨_, he, fun v q => nomatch q⟩
    · rw [z]; exact ⟨o, ho, fun v q => by rw [hd] at q; cases q⟩
  keep := fun i h h' st k => let ⟨⟨old, he⟩, hi, hne⟩ := st; ⟨⟨old, k e (by simp) _ he⟩, hi.at fun o q => k it (by simp) o q, hne⟩
  item := by
    intro X hP hw hK hc i pins s σ H E I hf st hg
    subst hP hw hK
    obtain ⟨⟨old, he⟩, hit, hne⟩ := st
    obtain ⟨xs, x, hq, hx⟩ := hg
    obtain ⟨its, rv, p, hz⟩ := I.tuple hq
    obtain ⟨u, hu, ru⟩ := rv.get hx
    have hel : e < s.heap.objs.size := Heap.lt_size he
    have hil : it < s.heap.objs.size := by obtain ⟨_, q, _⟩ := hit; exact Heap.lt_size q
    have hal : a < s.heap.objs.size := by obtain ⟨_, q, _⟩ := id p; exact Heap.lt_size q
    have hia : a ≠ it := by
      rintro rfl
      obtain ⟨o1, q1, c1, _⟩ := id p
      obtain ⟨o2, q2, c2, _⟩ := hit
      rw [q1] at q2
      cases q2
      rw [c1] at c2
      exact absurd (show Value.type "tuple" = Value.type "tuple_iterator" from c2) (by decide)
    have hea : e ≠ a := by
      rintro rfl
      obtain ⟨o1, q1, c1, _⟩ := id p
      have q2 := he
      unfold IsEnum at q2
      rw [q1] at q2
      cases q2
      exact absurd (show Value.type "enumerate" = Value.type "tuple" from c1) (by decide)
    have D : Draws X.prog X.w X.A.in1 it [it, a] its.toArray.size (fun i v => its.toArray[i]? = some v) (fun i h => h.IsTupleIter it a i ∧ h.IsTuple a its.toArray) := Draws.tuple (show X.A.in1.handled = none from I.ok.hd hc) it a hia its.toArray
    have hlt : i < its.toArray.size := by
      have q := (List.getElem?_eq_some_iff.mp hu).1
      simpa using q
    refine wpAny_pyNext_enum_itemD D he ⟨hit, p⟩ hlt hne (by simp [hne, hea]) fun y h' tk hP ho hst' hT hsz hk => ?_
    have hy : y = u := by
      have q : its.toArray[i]? = some u := by simpa using hu
      exact Option.some.inj (hP.symm.trans q)
    subst hy
    obtain ⟨hit', hp'⟩ := hst'
    refine ⟨_, rfl, wpAny_letOwnedTupleGo_enum (s := { s with heap := h', toks := tk + 1 }) ho fun h'' he' sb => ?_⟩
    have hT2 : h''.get? s.heap.objs.size = some { cls := .type "tuple", data := .seq #[.int i tk, y] } := (sb.2 _ (Nat.ne_of_gt hel)).trans hT
    have new : ObjOk X.prog X.w (upd H s.heap.objs.size (.tup [.int (i : Nat), x])) h'' s.heap.objs.size (.tup [.int (i : Nat), x]) :=
      ⟨by show 2 ≤ sizeLine; decide, [.int i tk, y], .cons ⟨_, rfl⟩ (.cons ru .nil), ⟨_, hT2, rfl, _, rfl⟩⟩
    have I1 : Inv X pins σ (upd H s.heap.objs.size (.tup [.int (i : Nat), x])) { s with heap := h'', toks := tk + 1 } :=
      I.turnedNew (ch := [e, it]) (fun b ob hb q => (sb.2 b (fun z => hb (by simp [z]))).trans (hk b ob (fun z => hb (by simp [z])) (fun z => hb (by simp [z])) q)) hf (Nat.le_refl _) new
    refine ⟨.ref s.heap.objs.size, _, I1, rfl, ⟨_, x, rfl, I.hok.fresh (Nat.le_refl _), rfl, fun ys hy => by rw [I.tuple_inj hy hq]; exact hx⟩, ⟨⟨y, ?_⟩, hit'.at fun o q => (sb.2 it (Ne.symm hne)).trans q, hne⟩, fun b hb => ?_⟩
    · have e1 : ((i + 1 : Nat) : Int) = (i : Int) + 1 := by omega
      rw [e1]; exact he'
    · have hb' : b < s.heap.objs.size := by
        have e' : b = e ∨ b = it := by simpa using hb
        rcases e' with z | z
        · rw [z]; exact hel
        · rw [z]; exact hil
      rw [upd_ne (Nat.ne_of_lt hb')]
      exact (hf b hb).1
  done := by
    intro X hP hw hK hc i pins s σ H E I hf st hg
    subst hP hw hK
    obtain ⟨⟨old, he⟩, hit, hne⟩ := st
    obtain ⟨xs, hq, hx⟩ := hg
    obtain ⟨its, rv, p, hz⟩ := I.tuple hq
    obtain ⟨f0, f1, f2, f3, f4, f5⟩ := hf it (by simp)
    have hl := rv.length
    have hia : a ≠ it := by
      rintro rfl
      obtain ⟨o1, q1, c1, _⟩ := id p
      obtain ⟨o2, q2, c2, _⟩ := hit
      rw [q1] at q2
      cases q2
      rw [c1] at c2
      exact absurd (show Value.type "tuple" = Value.type "tuple_iterator" from c2) (by decide)
    have hsz : its.toArray.size = i := by rw [List.size_toArray, ← hl]; exact hx
    have D : Draws X.prog X.w X.A.in1 it [it, a] its.toArray.size (fun i v => its.toArray[i]? = some v) (fun i h => h.IsTupleIter it a i ∧ h.IsTuple a its.toArray) := Draws.tuple (show X.A.in1.handled = none from I.ok.hd hc) it a hia its.toArray
    exact wpAny_pyNext_enum_endD D he ⟨by rw [hsz]; exact hit, p⟩ fun h' eb => ⟨rfl, I.turned (t' := s.toks) (fun b o hb q => eb b o hb q) f0 f1 f3 f4 f5⟩
  self := fun A i s Q E st h => let ⟨⟨_, he⟩, _⟩ := st; wpAny_pyIter_enum he h

set_option maxHeartbeats 1000000 in
theorem meets_enum_new1 {v : Value} {o : Obj} {H : Heap → Prop} (B : Begins v o H) :
    Meets (Builtin.«enumerate.__new__» ⟨[.type "enumerate", v], []⟩) (fun _ R s => H s.heap ∧
      R (.ok (.ret (.ref (s.heap.push o).objs.size))) { s with heap := (s.heap.push o).push { cls := .type "enumerate", data := .fields #[.none, .bool false, .ref s.heap.objs.size, rawInt 0, .none, .none] } }) :=
  .of_wp fun prog w A R s h => by
    obtain ⟨hp, g, d, tk, os⟩ := s; obtain ⟨h1, h⟩ := h
    have hsub := sub_enumerate
    have q1 : ∀ {A' : Around} {E : Value → Shared → Prop} {Q : Value → Shared → Prop}, Q (.ref hp.objs.size) ⟨hp.push o, g, d, tk, os⟩ → wpAny (model prog w) A' (pyIter v) Q E ⟨hp, g, d, tk, os⟩ :=
      fun q => B.iter prog w _ _ ⟨hp, g, d, tk, os⟩ _ h1 q
    wp_walk using q1
    refine wpAny_stack_any fun st => wpAny_pure ?_
    split
    · rename_i c _ _ _ _ _
      cases (c == Value.type "enumerate")
      · wp_walk using q1
        exact ⟨_, rfl, h⟩
      · wp_walk using q1
        exact ⟨_, rfl, h⟩
    · wp_walk using q1
      exact ⟨_, rfl, h⟩
section
variable {prog : Program} {w : World} {A : Around} {E : Value → Shared → Prop} {s : Shared}
theorem enum_begins1 {v : Value} {o : Obj} {H : Heap → Prop} {Q : Value → Shared → Prop} (B : Begins v o H) (h1 : H s.heap)
    (h : ∀ h', IsEnum h' (s.heap.objs.size + 1) s.heap.objs.size 0 .none → h'.get? s.heap.objs.size = some o → h'.objs.size = s.heap.objs.size + 2 →
      (∀ b o, s.heap.get? b = some o → h'.get? b = some o) → Q (.ref (s.heap.objs.size + 1)) { s with heap := h' }) :
    wpAny (model prog w) A (call (.type "enumerate") [v]) Q E s := by
  refine callType_new F.called_enumerate (by decide) (F.typeCall_enumerate_1 _) (F.newCall_enumerate_1 _) (fun obj => F.args_object_init_2 obj _) F.entry_enumerate_new
    (meets_enum_new1 B) ⟨h1, ?_⟩
  have hz : (s.heap.push o).objs.size = s.heap.objs.size + 1 := Heap.size_push ..
  show _ ∧ _
  rw [hz]
  have he : IsEnum ((s.heap.push o).push { cls := .type "enumerate", data := .fields #[.none, .bool false, .ref s.heap.objs.size, rawInt 0, .none, .none] }) (s.heap.objs.size + 1) s.heap.objs.size 0 .none := by
    have := Heap.get?_push_size (s.heap.push o) (o := { cls := .type "enumerate", data := .fields #[.none, .bool false, .ref s.heap.objs.size, rawInt 0, .none, .none] }) rfl
    rw [hz] at this; exact this
  refine ⟨⟨_, he, rfl⟩, h _ he (Heap.get?_push_of_some _ (Heap.get?_push_size _ B.free)) (by rw [Heap.size_push, hz]) fun b o x => Heap.get?_push_of_some _ (Heap.get?_push_of_some _ x)⟩
end
def iEnumT (K : PySem.W.Frag) (ta : TA) : TI := fun σ H R => ta σ H fun vs H1 => ∃ a xs, vs = [.ref a] ∧ SqT K H1 a xs ∧ R (IteT K a) H1
theorem pi_enumT {X : Cx} {e : Expr} {ta : TA} {p pos tpos : Pos} {elts : List Expr} {kk : Nat} (hg : Gl X "enumerate") (hm : X.mg "enumerate" = none) (ha : PA X [e] ta) (hs : starEach [e] X.env = [(false, eval e X.env)] := by rfl) :
    PI X (.Tuple elts kk tpos) (.Call (.Name "enumerate" p) [e] [] pos) (iEnumT X.K ta) := by
  refine ⟨fun pins s σ H R I h => ?_⟩
  refine Call_ (ld_blt I hg hm boot_enumerate (PyProof.Rows.callWith_type1 (thn (ha.run pos pins s σ H _ I h) fun us s1 ⟨vs, H1, I1, r1, q1⟩ => ?_) hs rfl))
  obtain ⟨a, xs, ex, hq, q⟩ := q1
  subst ex
  cases r1 with
  | cons r rr =>
    cases rr
    cases r
    obtain ⟨its, rv, p', hz⟩ := I1.tuple hq
    refine enum_begins1 (begins_tuple a its.toArray) p' fun h' he hit hsz hk => wpAny_pyIter_enum he ?_
    have I2 : Inv X pins σ H1 { s1 with heap := h' } := I1.kept (t' := s1.toks) hk
    refine ⟨s1.heap.objs.size + 1, [s1.heap.objs.size + 1, s1.heap.objs.size], _, _, H1, rfl, I2, turn_enumT a (s1.heap.objs.size + 1) s1.heap.objs.size, ⟨⟨.none, he⟩, ⟨_, hit, rfl, rfl⟩, Nat.succ_ne_self _⟩, fun b hb => ?_, q⟩
    have e' : b = s1.heap.objs.size + 1 ∨ b = s1.heap.objs.size := by simpa using hb
    have hle : s1.heap.objs.size ≤ b := by
      rcases e' with z | z
      · rw [z]; exact Nat.le_add_right _ _
      · rw [z]; exact Nat.le_refl _
    exact I1.fpOk hle (I1.hok.fresh hle)
end RX
set_option Elab.async false
set_option linter.all false
set_option maxRecDepth 100000
set_option maxHeartbeats 4000000
namespace RX
open PySem PySem.Spec PyProof.Rows L2
section
variable {P : Program} {w : World} {A : Around} {E : Value → Shared → Prop} {s : Shared}
abbrev emptySet (w : World) : Obj := { cls := .type "set", dict := none, data := .set #[] 0 (.fresh 0 0 (!w.params.followText "set-order")) }
/-- what a set that was filled from a list is like -/
def Filled (w : World) (S : Addr) (ns : List Int) (s0 : Shared) (r : Value) (s2 : Shared) : Prop :=
  r = .none ∧ ∃ (h' : Heap) (tk c : Nat), s2 = { s0 with heap := h', toks := tk } ∧ SetR w h' S (fun j => decide (j ∈ ns)) c ∧ c ≤ ns.length ∧ ∀ b o, b ≠ S → s0.heap.get? b = some o → h'.get? b = some o
theorem fill_list {S l : Addr} {items : Array Value} (ns : List Int) (hh : A.handled = none) (hS : s.heap.get? S = some (emptySet w)) (hl : s.heap.IsList l items) (hit : IntsAre items.toList ns) (hb : ns.length + 1 < scanBound) (hlS : l ≠ S) :
    wpAny (model P w) A.in1 (Builtin.«set.__init__» ⟨[.ref S, .ref l], []⟩) (GQ.FinOf P w A (wants (Filled w S ns s) E)) (fun e s' => wants (Filled w S ns s) E (.error e) s') s := by
  have hn : items.size = ns.length := by
    have q := IntsAre.length hit
    rwa [Array.length_toList] at q
  have hSlt : S < s.heap.objs.size := Heap.lt_size hS
  obtain ⟨⟨c, dc, dt, sl⟩, ho, hc, n, hd⟩ := id hl
  cases (show c = .type "list" from hc)
  cases (show dt = .seq items n from hd)
  have hllt : l < s.heap.objs.size := Heap.lt_size ho
  have k1 := F.sub_list_set
  have k2 := F.sub_list_frozenset
  have k3 : (Value.type "list" == Value.type "dict") = false := by decide
  obtain ⟨hp, g, d, tk, os⟩ := s
  unfold Builtin.«set.__init__» noKeywords Builtin.Frozenset.updateFrom
  generalize hPI : pyIter = PI
  wp_walk
  subst hPI
  refine wpAny_pyIter_list hl ?_
  refine wpAny_bind (wpAny_runValue ?_)
  have hit2 : (hp.push { cls := .type "list_iterator", data := .fields #[.ref l, .int 0 0] }).get? S = some (emptySet w) := Heap.get?_push_of_some _ hS
  have hv : ∀ (i : Nat) (v : Value), items[i]? = some v → ∃ k t, ns[i]? = some k ∧ v = .int k t := fun i v e => by
    have hi : i < ns.length := by rw [← hn]; exact (Array.getElem?_eq_some_iff.mp e).1
    obtain ⟨t, q⟩ := IntsAre.int_at hit i v (by rw [Array.getElem?_toList]; exact e)
    exact ⟨ns[i], t, List.getElem?_eq_getElem hi, by rw [q]; simp [hi]⟩
  refine set_update_ints ((Walks.list (by simp [hh]) _ l (Nat.ne_of_lt hllt) items).toS) S (by simp only [List.mem_cons, List.not_mem_nil, or_false, not_or]; exact ⟨Nat.ne_of_lt hSlt, Ne.symm hlS⟩) ns hn hb hv items.size 0 _ (by omega) (Nat.zero_le _)
    ⟨⟨_, Heap.get?_push_size _ rfl, rfl, rfl⟩, hl.push _⟩ ⟨0, Nat.le_refl 0, setR_new_at hit2⟩ fun s2 c2 hm hc2 hR => ?_
  obtain ⟨h2, g2, d2, tk2, os2⟩ := s2
  cases (show g2 = g from hm.gens)
  cases (show d2 = d from hm.drawn)
  cases (show os2 = os from hm.os)
  show wpAny _ _ _ _ _ _
  refine wpAny_pure ?_
  show wpAny _ _ (ret Value.none) _ _ _
  refine wpAny_pure ⟨rfl, h2, tk2, c2, rfl, hR, by omega, fun b o hbS e => hm.heap b o (fun z => ?_) (Heap.get?_push_of_some _ e)⟩
  simp only [List.mem_cons, List.not_mem_nil, or_false] at z
  rcases z with z | z
  · exact hbS z
  · exact absurd (Heap.lt_size e) (by rw [z]; exact Nat.lt_irrefl _)
theorem call_set_listI {l : Addr} {items : Array Value} (ns : List Int) {Q : Value → Shared → Prop} (hh : A.handled = none) (hl : s.heap.IsList l items) (hit : IntsAre items.toList ns) (hb : ns.length + 1 < scanBound)
    (h : ∀ (h' : Heap) (tk c : Nat), SetR w h' s.heap.objs.size (fun j => decide (j ∈ ns)) c → c ≤ ns.length → (∀ b o, s.heap.get? b = some o → h'.get? b = some o) → Q (.ref s.heap.objs.size) { s with heap := h', toks := tk }) :
    wpAny (model P w) A (call (.type "set") [.ref l]) Q E s := by
  obtain ⟨c0, tl0, m1⟩ := F.called_set.mro
  have m2 := F.called_set.made
  have m3 := F.called_set.sub
  have m4 := F.called_set.notType
  have m5 := F.called_set.canCreate
  have m6 := F.typeCall_set_1 (.ref l)
  refine wpAny_call (codeAny_of_tree ?_)
  show wpAny _ _ (callAny (.type "set") _) _ _ _
  refine wpAny_pure ⟨Code.quiet_builtin _ (by decide +kernel), codeAny_builtin F.entry_type_call ?_⟩
  rw [Around.under_plain (weight_type_call_type "set" [.ref l] []) rfl]
  repeat (any_goals (first | assumption | wp_step))
  have hS : (s.heap.push (emptySet w)).get? s.heap.objs.size = some (emptySet w) := Heap.get?_push_size _ rfl
  have hTS : Shared.TypeIs { s with heap := s.heap.push (emptySet w) } (.ref s.heap.objs.size) "set" := ⟨_, hS, rfl⟩
  have hlS : l ≠ s.heap.objs.size := by
    obtain ⟨o, e, _⟩ := id hl
    exact Nat.ne_of_lt (Heap.lt_size e)
  refine codeAny_mono (code_set_led1 (.ref l) (E := E) (Q₁ := fun v s1 => v = .ref s.heap.objs.size ∧ s1 = { s with heap := s.heap.push (emptySet w) }) ⟨rfl, rfl⟩) fun r s1 hr => ?_
  match r, hr with
  | .error e, hr => exact hr
  | .ok (.ret v), ⟨e1, e2⟩ =>
    subst e1 e2
    have m7 := F.called_set.init.lookup
    have m8 := F.called_set.init.bind (.ref s.heap.objs.size)
    repeat (any_goals (first | assumption | wp_step))
    refine codeAny_mono (codeAny_call_builtin (R := wants (Filled w s.heap.objs.size ns { s with heap := s.heap.push (emptySet w) }) E) F.called_set.init.plain F.entry_set_init (check_set_init_1 hTS
      (fill_list (A := _) ns (by simpa using hh) hS (hl.push _) hit hb hlS))) fun r2 s2 hr2 => ?_
    match r2, hr2 with
    | .error e, hr2 => exact hr2
    | .ok (.ret v2), ⟨e1, h2, tk2, c2, e2, hR, hc, hk⟩ =>
      subst e1 e2
      repeat (any_goals (first | assumption | wp_step))
      exact h _ _ _ hR hc fun b o e => hk b o (Nat.ne_of_lt (Heap.lt_size e)) (Heap.get?_push_of_some _ e)
end
def rSetL (K : PySem.W.Frag) (w : World) : List V → Hp → VK → Prop := fun vs H Q => ∃ (a : Addr) (ns : List Int), vs = [V.ref a] ∧ SqL K H a (ns.map V.int) ∧ ns.length + 1 < scanBound ∧
  ∀ (p : Addr) (c : Nat), c ≤ ns.length → H p = none → Q (.ref p) (upd H p (SetO w p (fun j => decide (j ∈ ns)) c))
theorem cr_setL {X : Cx} (hc : X.calm = true) : CallR X (.type "set") (rSetL X.K X.w) := by
  intro pins s σ H vs us Q I r h
  obtain ⟨a, ns, rfl, hs, hb, q⟩ := h
  obtain ⟨its, rv, hl, _⟩ := I.list hs
  rw [Vals.ref1 r]
  have hi := rv.ints
  refine call_set_listI (items := its.toArray) ns (I.ok.hd hc) hl.isList (by simpa using hi) hb fun h' tk c hS hcl hk => ?_
  exact ⟨.ref _, upd H s.heap.objs.size (SetO X.w s.heap.objs.size (fun j => decide (j ∈ ns)) c), I.laid (t' := tk) hk (Nat.le_refl _) (setO_new hS), rfl, q _ c hcl (I.hok.fresh (Nat.le_refl _))⟩

/-! ### {k: v}, k a tuple of ints and texts -/
def tDispT (tk tv : TE) : TE := fun σ H Q => ∀ p, H p = none → tk σ (upd H p (.dT [])) fun x H1 => tv σ H1 fun y H2 => H2 p = some (.dT []) ∧ ∃ (k : List Key) (b : Addr), x = .ref b ∧ H2 b = some (.tup (k.map kV)) ∧ Q (.ref p) (upd H2 p (.dT [(k, y)]))
theorem pe_dispT {X : Cx} {pos : Pos} {ke ve : Expr} {tk tv : TE} (hu : X.A.units + 2 < cLine) (hk : PE X ke tk) (hv : PE X ve tv) : PE X (.Dict [some ke] [ve] pos) (tDispT tk tv) := by
  refine ⟨fun pins s σ H Q I q => ?_⟩
  have hn := I.hok.fresh (Nat.le_refl s.heap.objs.size)
  have I1 := I.laid (a := s.heap.objs.size) (o := .dT []) (h' := s.heap.push { cls := .type "dict", data := .dict #[] }) (t' := s.toks) (fun _ _ q => Heap.get?_push_of_some _ q) (Nat.le_refl _) (dt_empty s.heap I.big)
  have q1 := q _ hn
  have hu' : (tupleKind (mixKind X.prog X.w)).room X.A := (show X.A.units < cLine by omega)
  have hpt := pairTrees_length [some ke] [ve] X.env pos rfl rfl
  rw [arm_eval_Dict, zip_pairTrees [some ke] [ve] X.env pos rfl rfl, dictDisplay_pairs _ (by intro z; rw [z] at hpt; cases hpt) (by rw [hpt]; show 1 < 17; decide)]
  refine wpAny_bind (wpAny_standAt (wpAny_bind (wpAny_subDictH (knd := tupleKind (mixKind X.prog X.w)) hu' (by rw [hpt]; show 1 ≤ 15; decide) ?_)))
  refine pairTrees_cons_walk (thn (hk.run pins _ σ _ _ I1 q1) fun u s1 ⟨x, H1, I2, rx, q2⟩ => thn (hv.run pins s1 σ H1 _ I2 q2) fun w2 s2 ⟨y, H2, I3, ry, q3⟩ => pairTrees_nil_walk ?_)
  obtain ⟨e, k, b, ex, eb, q4⟩ := q3
  subst ex
  cases (show u = Value.ref b from rx)
  obtain ⟨z, hd, xs, rel, dd⟩ := dt_of I3.hok e
  cases rel
  refine ⟨[(k, b, w2)], ⟨rfl, rfl, key_of I3.hok eb, trivial⟩, dd, fun h' tk dd' hs => wpAny_pure ?_⟩
  obtain ⟨o, es, ep, hq, h2, h3, h4, _, h5⟩ := dd'
  refine ⟨.ref s.heap.objs.size, _, d_write (ob := .dT [(k, y)]) I3 (by rw [e]; exact True.intro) hs ⟨o, hq⟩ ⟨by show 1 ≤ sizeLine; decide, hd, [(k, b, w2)], .cons ⟨rfl, ?_, ry⟩ .nil, o, es, ep, hq, h2, h3, h4, h5⟩, rfl, q4⟩
  rw [upd_ne (ne_of eb e (fun z => nomatch z))]
  exact eb
end RX
set_option linter.all false
/-! M1: breadth first search in the plain, and webs in the plain. No program here. -/
namespace WB
section
variable {α β : Type} (R : α → β → α → Prop)
inductive Path : α → List β → α → Prop
  | nil (a : α) : Path a [] a
  | snoc {a b c : α} {ms : List β} {m : β} : Path a ms b → R b m c → Path a (ms ++ [m]) c
structure Ent (α β : Type) where
  key : α
  tr : List β
/-- ws: all that was met, in the order in which it was met; the first at_ are gone through; G: what is sought -/
structure BInv (s0 : α) (G : α → Prop) (ws : List (Ent α β)) (at_ : Nat) : Prop where
  zero : ws[0]? = some ⟨s0, []⟩
  nd : (ws.map Ent.key).Nodup
  path : ∀ e ∈ ws, Path R s0 e.tr e.key
  mono : ws.Pairwise (fun a b => a.tr.length ≤ b.tr.length)
  near : ∀ c, ws[at_]? = some c → ∀ e ∈ ws, e.tr.length ≤ c.tr.length + 1
  done : ∀ j e, j < at_ → ws[j]? = some e → ¬ G e.key ∧ ∀ m b, R e.key m b → ∃ e' ∈ ws, e'.key = b ∧ e'.tr.length ≤ e.tr.length + 1
variable {R} {s0 : α} {G : α → Prop} {ws : List (Ent α β)} {k : Nat}
theorem BInv.init : BInv R s0 G [⟨s0, []⟩] 0 where
  zero := rfl
  nd := by simp
  path := fun e he => by
    have : e = ⟨s0, []⟩ := by simpa using he
    subst this
    exact .nil _
  mono := by simp
  near := fun c hc e he => by
    have : e = ⟨s0, []⟩ := by simpa using he
    subst this
    simp
  done := fun j e h => absurd h (Nat.not_lt_zero _)
theorem mono_at (h : ws.Pairwise (fun a b => a.tr.length ≤ b.tr.length)) {i j : Nat} {a b : Ent α β} (hi : ws[i]? = some a) (hj : ws[j]? = some b) (hij : i ≤ j) : a.tr.length ≤ b.tr.length := by
  rcases Nat.lt_or_ge i j with q | q
  · obtain ⟨h1, e1⟩ := List.getElem?_eq_some_iff.mp hi
    obtain ⟨h2, e2⟩ := List.getElem?_eq_some_iff.mp hj
    have := List.pairwise_iff_getElem.mp h i j h1 h2 q
    rw [e1, e2] at this
    exact this
  · have : i = j := Nat.le_antisymm hij q
    subst this
    rw [hi] at hj
    cases hj
    exact Nat.le_refl _
theorem BInv.add (B : BInv R s0 G ws k) {c : Ent α β} (hc : ws[k]? = some c) {m : β} {b : α} (hr : R c.key m b) (hn : b ∉ ws.map Ent.key) : BInv R s0 G (ws ++ [⟨b, c.tr ++ [m]⟩]) k := by
  have hk : k < ws.length := (List.getElem?_eq_some_iff.mp hc).1
  have same : ∀ j, j < ws.length → (ws ++ [(⟨b, c.tr ++ [m]⟩ : Ent α β)])[j]? = ws[j]? := fun j hj => List.getElem?_append_left hj
  have hcm : c ∈ ws := List.mem_of_getElem? hc
  refine ⟨?_, ?_, ?_, ?_, ?_, ?_⟩
  · rw [same 0 (Nat.lt_of_le_of_lt (Nat.zero_le _) hk)]
    exact B.zero
  · rw [List.map_append, List.nodup_append]
    refine ⟨B.nd, by simp, fun a ha b' hb => ?_⟩
    have : b' = b := by simpa using hb
    subst this
    exact fun z => hn (z ▸ ha)
  · intro e he
    rcases List.mem_append.mp he with he | he
    · exact B.path e he
    · have : e = ⟨b, c.tr ++ [m]⟩ := by simpa using he
      subst this
      exact .snoc (B.path c hcm) hr
  · rw [List.pairwise_append]
    refine ⟨B.mono, by simp, fun a ha b' hb => ?_⟩
    have : b' = ⟨b, c.tr ++ [m]⟩ := by simpa using hb
    subst this
    have := B.near c hc a ha
    simpa using this
  · intro c' hc' e he
    rw [same k hk, hc] at hc'
    cases hc'
    rcases List.mem_append.mp he with he | he
    · exact B.near c hc e he
    · have : e = ⟨b, c.tr ++ [m]⟩ := by simpa using he
      subst this
      simp
  · intro j e hj he
    rw [same j (Nat.lt_trans hj hk)] at he
    obtain ⟨h1, h2⟩ := B.done j e hj he
    refine ⟨h1, fun m' b' r => ?_⟩
    obtain ⟨e', he', q⟩ := h2 m' b' r
    exact ⟨e', List.mem_append_left _ he', q⟩
theorem BInv.next (B : BInv R s0 G ws k) {c : Ent α β} (hc : ws[k]? = some c) (hg : ¬ G c.key) (hs : ∀ m b, R c.key m b → b ∈ ws.map Ent.key) : BInv R s0 G ws (k + 1) := by
  refine ⟨B.zero, B.nd, B.path, B.mono, fun c2 hc2 e he => ?_, fun j e hj he => ?_⟩
  · have h1 := B.near c hc e he
    have h2 := mono_at B.mono hc hc2 (Nat.le_succ _)
    omega
  · rcases Nat.lt_or_ge j k with q | q
    · exact B.done j e q he
    · have : j = k := Nat.le_antisymm (Nat.le_of_lt_succ hj) q
      subst this
      rw [hc] at he
      cases he
      refine ⟨hg, fun m b r => ?_⟩
      obtain ⟨e', he', q⟩ := List.mem_map.mp (hs m b r)
      exact ⟨e', he', q, B.near c hc e' he'⟩
/-- what is nearer than the place where one is is gone through -/
theorem BInv.reach (B : BInv R s0 G ws k) {c : Ent α β} (hc : ws[k]? = some c) : ∀ {ms : List β} {g : α}, Path R s0 ms g → ms.length < c.tr.length → ∃ j e, j < k ∧ ws[j]? = some e ∧ e.key = g ∧ e.tr.length ≤ ms.length := by
  have place : ∀ {j : Nat} {e : Ent α β}, ws[j]? = some e → e.tr.length < c.tr.length → j < k := fun {j e} hj hl => by
    rcases Nat.lt_or_ge j k with q | q
    · exact q
    · have := mono_at B.mono hc hj q
      omega
  intro ms g p
  induction p with
  | nil =>
    intro h
    exact ⟨0, ⟨s0, []⟩, place B.zero h, B.zero, rfl, Nat.le_refl _⟩
  | @snoc b c' ms m p r ih =>
    intro h
    rw [List.length_append, List.length_singleton] at h
    obtain ⟨j, e, hj, he, e1, e2⟩ := ih (by omega)
    subst e1
    obtain ⟨e', he', q1, q2⟩ := (B.done j e hj he).2 m c' r
    obtain ⟨j', h', he''⟩ := List.mem_iff_getElem.mp he'
    have hje : ws[j']? = some e' := by rw [List.getElem?_eq_getElem h', he'']
    refine ⟨j', e', place hje (by omega), hje, q1, ?_⟩
    rw [List.length_append, List.length_singleton]
    omega
theorem BInv.found (B : BInv R s0 G ws k) {c : Ent α β} (hc : ws[k]? = some c) {ms : List β} {g : α} (p : Path R s0 ms g) (hg : G g) : c.tr.length ≤ ms.length := by
  rcases Nat.lt_or_ge ms.length c.tr.length with q | q
  · obtain ⟨j, e, hj, he, e1, _⟩ := B.reach hc p q
    subst e1
    exact absurd hg (B.done j e hj he).1
  · exact q
theorem BInv.none (B : BInv R s0 G ws ws.length) {ms : List β} {g : α} (p : Path R s0 ms g) : ¬ G g := by
  have all : ∀ {ms : List β} {g : α}, Path R s0 ms g → ∃ (j : Nat) (e : Ent α β), ws[j]? = some e ∧ e.key = g := by
    intro ms g p
    induction p with
    | nil => exact ⟨0, _, B.zero, rfl⟩
    | @snoc b c' ms m p r ih =>
      obtain ⟨j, e, he, e1⟩ := ih
      subst e1
      obtain ⟨e', he', q1, _⟩ := (B.done j e (List.getElem?_eq_some_iff.mp he).1 he).2 m c' r
      obtain ⟨j', h', he''⟩ := List.mem_iff_getElem.mp he'
      exact ⟨j', e', by rw [List.getElem?_eq_getElem h', he''], q1⟩
  obtain ⟨j, e, he, e1⟩ := all p
  subst e1
  exact (B.done j e (List.getElem?_eq_some_iff.mp he).1 he).1
theorem BInv.key_inj (B : BInv R s0 G ws k) {e e' : Ent α β} (h : e ∈ ws) (h' : e' ∈ ws) (q : e.key = e'.key) : e = e' := by
  obtain ⟨i, hi, ei⟩ := List.mem_iff_getElem.mp h
  obtain ⟨j, hj, ej⟩ := List.mem_iff_getElem.mp h'
  have n := List.pairwise_iff_getElem.mp (List.nodup_iff_pairwise_ne.mp B.nd)
  rcases Nat.lt_trichotomy i j with z | z | z
  · have := n i j (by simpa using hi) (by simpa using hj) z
    simp only [List.getElem_map] at this
    rw [ei, ej] at this
    exact absurd q this
  · subst z
    rw [← ei, ← ej]
  · have := n j i (by simpa using hj) (by simpa using hi) z
    simp only [List.getElem_map] at this
    rw [ei, ej] at this
    exact absurd q.symm this
/-- Path is kept by a map of the steps -/
theorem Path.mono {R' : α → β → α → Prop} (h : ∀ a m b, R a m b → R' a m b) {a : α} {ms : List β} {b : α} (p : Path R a ms b) : Path R' a ms b := by
  induction p with
  | nil => exact .nil _
  | snoc p r ih => exact .snoc ih (h _ _ _ r)
theorem Path.inv {I : α → Prop} (h : ∀ a m b, I a → R a m b → I b) {a : α} {ms : List β} {b : α} (p : Path R a ms b) (ha : I a) : I b := by
  induction p with
  | nil => exact ha
  | snoc p r ih => exact h _ _ _ ih r
theorem Path.trans {a b c : α} {ms ns : List β} (p : Path R a ms b) (q : Path R b ns c) : Path R a (ms ++ ns) c := by
  induction q with
  | nil => rw [List.append_nil]; exact p
  | snoc q r ih => rw [← List.append_assoc]; exact .snoc ih r
end

/-! ### lots -/
abbrev Asc (l : List Nat) : Prop := l.Pairwise (· < ·)
theorem asc_ext {l l' : List Nat} (h : Asc l) (h' : Asc l') (e : ∀ x, x ∈ l ↔ x ∈ l') : l = l' := by
  have nd : l.Nodup := List.Pairwise.imp (fun h => Nat.ne_of_lt h) h
  have nd' : l'.Nodup := List.Pairwise.imp (fun h => Nat.ne_of_lt h) h'
  have p : l.Perm l' := by
    rw [List.perm_iff_count]
    intro a
    have c : ∀ {q : List Nat}, q.Nodup → q.count a = if a ∈ q then 1 else 0 := fun {q} hq => by
      split
      · rename_i hm
        have h1 := List.nodup_iff_count.mp hq a
        have h2 := List.count_pos_iff.mpr hm
        omega
      · exact List.count_eq_zero_of_not_mem (by assumption)
    rw [c nd, c nd']
    by_cases ha : a ∈ l
    · rw [if_pos ha, if_pos ((e a).mp ha)]
    · rw [if_neg ha, if_neg (fun z => ha ((e a).mpr z))]
  exact List.Perm.eq_of_pairwise (le := (· < ·)) (fun a b _ _ h1 h2 => absurd h1 (Nat.lt_asymm h2)) h h' p
/-- sorted -/
def srt (l : List Nat) : List Nat := l.mergeSort (fun a b => decide (a ≤ b))
theorem srt_perm (l : List Nat) : (srt l).Perm l := List.mergeSort_perm _ _
theorem srt_le (l : List Nat) : (srt l).Pairwise (· ≤ ·) := by
  have := List.pairwise_mergeSort (le := fun a b : Nat => decide (a ≤ b)) (fun a b c h1 h2 => by simp at *; omega) (fun a b => by simp; omega) l
  exact List.Pairwise.imp (fun h => by simpa using h) this
theorem srt_mem {l : List Nat} {x : Nat} : x ∈ srt l ↔ x ∈ l := (srt_perm l).mem_iff
theorem srt_len (l : List Nat) : (srt l).length = l.length := (srt_perm l).length_eq
theorem srt_asc {l : List Nat} (h : l.Nodup) : Asc (srt l) := by
  have nd : (srt l).Nodup := (srt_perm l).nodup_iff.mpr h
  have := srt_le l
  exact List.Pairwise.imp₂ (R := (· ≤ ·)) (S := (· ≠ ·)) (fun a b h1 h2 => Nat.lt_of_le_of_ne h1 h2) this (List.nodup_iff_pairwise_ne.mp nd)
theorem srt_eq {l l' : List Nat} (h : l'.Perm l) (s : l'.Pairwise (· ≤ ·)) : l' = srt l :=
  List.Perm.eq_of_pairwise (le := (· ≤ ·)) (fun a b _ _ h1 h2 => Nat.le_antisymm h1 h2) s (srt_le l) (h.trans (srt_perm l).symm)

/-! ### a lot as a number of ones -/
def mask (l : List Nat) : Nat := (l.map (2 ^ ·)).sum
theorem mask_nil : mask [] = 0 := rfl
theorem mask_cons (x : Nat) (l : List Nat) : mask (x :: l) = 2 ^ x + mask l := rfl
theorem mask_append (l l' : List Nat) : mask (l ++ l') = mask l + mask l' := by
  unfold mask
  rw [List.map_append, List.sum_append]
theorem mask_perm {l l' : List Nat} (h : l.Perm l') : mask l = mask l' := (h.map _).sum_nat
theorem mask_srt (l : List Nat) : mask (srt l) = mask l := mask_perm (srt_perm l)
theorem mask_lt : ∀ {l : List Nat} {n : Nat}, Asc l → (∀ x ∈ l, x < n) → mask l < 2 ^ n := by
  intro l n
  induction n generalizing l with
  | zero =>
    intro _ h
    cases l with
    | nil => decide
    | cons x l => exact absurd (h x List.mem_cons_self) (Nat.not_lt_zero _)
  | succ n ih =>
    intro ha h
    by_cases hn : n ∈ l
    · obtain ⟨a, b, e⟩ := List.append_of_mem hn
      subst e
      have hb : b = [] := by
        cases b with
        | nil => rfl
        | cons y b =>
          have h1 := h y (by simp)
          have := (List.pairwise_append.mp ha).2.1
          have := (List.pairwise_cons.mp this).1 y (by simp)
          omega
      subst hb
      have h2 : mask a < 2 ^ n := ih (List.pairwise_append.mp ha).1 fun x hx => (List.pairwise_append.mp ha).2.2 x hx n (by simp)
      rw [mask_append, mask_cons, mask_nil, Nat.pow_succ]
      omega
    · have h2 : mask l < 2 ^ n := ih ha fun x hx => by
        have := h x hx
        have : x ≠ n := fun z => hn (z ▸ hx)
        omega
      rw [Nat.pow_succ]
      omega
theorem mask_bit : ∀ {l : List Nat} (t : Nat), Asc l → (mask l).testBit t = l.contains t
  | [], t, _ => by simp [mask_nil]
  | x :: l, t, h => by
    obtain ⟨h1, h2⟩ := List.pairwise_cons.mp h
    have ih := mask_bit t h2
    have big : ∃ q, mask l = 2 ^ (x + 1) * q := by
      clear ih
      induction l with
      | nil => exact ⟨0, rfl⟩
      | cons y l ihl =>
        have hy : x < y := h1 y List.mem_cons_self
        obtain ⟨q, hq⟩ := ihl (List.pairwise_cons.mpr ⟨fun z hz => h1 z (List.mem_cons_of_mem _ hz), (List.pairwise_cons.mp h2).2⟩) (fun z hz => h1 z (List.mem_cons_of_mem _ hz)) (List.pairwise_cons.mp h2).2
        refine ⟨2 ^ (y - (x + 1)) + q, ?_⟩
        rw [mask_cons, hq, Nat.mul_add, ← Nat.pow_add]
        congr 2
        omega
    obtain ⟨q, hq⟩ := big
    rw [mask_cons]
    rcases Nat.lt_trichotomy t x with z | z | z
    · have e1 : (2 ^ x + mask l).testBit t = (mask l).testBit t := Nat.testBit_two_pow_add_gt z _
      have e2 : (t == x) = false := by simpa using Nat.ne_of_lt z
      rw [e1, ih, List.contains_cons, e2, Bool.false_or]
    · subst z
      rw [Nat.testBit_two_pow_add_eq, ih]
      have : l.contains t = false := by
        cases hc : l.contains t with
        | false => rfl
        | true =>
          have := h1 t (by simpa using hc)
          omega
      rw [this, List.contains_cons]
      simp
    · have e2 : (t == x) = false := by simpa using Nat.ne_of_gt z
      rw [List.contains_cons, e2, Bool.false_or, ← ih, hq]
      have e : 2 ^ x + 2 ^ (x + 1) * q = 2 ^ x * (1 + 2 * q) := by rw [Nat.mul_add, Nat.pow_succ, Nat.mul_one, Nat.mul_assoc]
      have e' : 2 ^ (x + 1) * q = 2 ^ x * (0 + 2 * q) := by rw [Nat.zero_add, Nat.pow_succ, Nat.mul_assoc]
      rw [e, e']
      obtain ⟨d, hd⟩ : ∃ d, t = x + (d + 1) := ⟨t - x - 1, by omega⟩
      subst hd
      rw [Nat.testBit_two_pow_mul, Nat.testBit_two_pow_mul]
      have s : ∀ y : Nat, y.testBit (d + 1) = (y / 2).testBit d := fun y => by rw [Nat.testBit_succ]
      have f : x + (d + 1) - x = d + 1 := by omega
      rw [f, s, s]
      have g1 : (1 + 2 * q) / 2 = q := by omega
      have g2 : (0 + 2 * q) / 2 = q := by omega
      rw [g1, g2]
theorem mask_inj {l l' : List Nat} (h : Asc l) (h' : Asc l') (e : mask l = mask l') : l = l' :=
  asc_ext h h' fun x => by
    have h1 := mask_bit x h
    have h2 := mask_bit x h'
    rw [e, h2] at h1
    constructor
    · intro q
      have : l.contains x = true := by simpa using q
      rw [this] at h1
      simpa using h1
    · intro q
      have : l'.contains x = true := by simpa using q
      rw [this] at h1
      simpa using h1.symm
/-- a & b == b: all of b is in a -/
theorem mask_sub {l l' : List Nat} (h : Asc l) (h' : Asc l') : (mask l &&& mask l' = mask l') ↔ ∀ x ∈ l', x ∈ l := by
  constructor
  · intro e x hx
    have h1 : (mask l &&& mask l').testBit x = (mask l').testBit x := by rw [e]
    rw [Nat.testBit_and, mask_bit x h, mask_bit x h'] at h1
    have : l'.contains x = true := by simpa using hx
    rw [this] at h1
    simpa using h1
  · intro hs
    apply Nat.eq_of_testBit_eq
    intro i
    rw [Nat.testBit_and, mask_bit i h, mask_bit i h']
    cases hc : l'.contains i with
    | false => simp
    | true =>
      have := hs i (by simpa using hc)
      simpa using this
theorem mask_one {l : List Nat} (h : Asc l) (t : Nat) : (mask l &&& 2 ^ t ≠ 0) ↔ t ∈ l := by
  have e : (mask l &&& 2 ^ t) = if (mask l).testBit t then 2 ^ t else 0 := by
    apply Nat.eq_of_testBit_eq
    intro i
    rw [Nat.testBit_and, Nat.testBit_two_pow]
    by_cases hi : t = i
    · subst hi
      cases (mask l).testBit t <;> simp
    · cases (mask l).testBit t <;> simp [hi, Nat.testBit_two_pow]
  rw [e, mask_bit t h]
  cases hc : l.contains t with
  | false =>
    have : t ∉ l := by simpa using hc
    simp [this]
  | true =>
    have : t ∈ l := by simpa using hc
    have p : 2 ^ t ≠ 0 := Nat.ne_of_gt (Nat.two_pow_pos t)
    simp [this, p]
theorem mask_drop {l : List Nat} (h : Asc l) {t : Nat} (ht : t ∈ l) : mask l = mask (l.filter (· != t)) + 2 ^ t := by
  induction l with
  | nil => exact absurd ht List.not_mem_nil
  | cons x l ih =>
    obtain ⟨h1, h2⟩ := List.pairwise_cons.mp h
    by_cases e : x = t
    · subst e
      have f : l.filter (· != x) = l := List.filter_eq_self.mpr fun y hy => by
        have := h1 y hy
        have : y ≠ x := Nat.ne_of_gt this
        simpa using this
      rw [List.filter_cons_of_neg (by simp), f, mask_cons]
      omega
    · have ht' : t ∈ l := by
        rcases List.mem_cons.mp ht with q | q
        · exact absurd q.symm e
        · exact q
      rw [List.filter_cons_of_pos (by simpa using e), mask_cons, mask_cons, ih h2 ht']
      omega
end WB

namespace WB
section
variable {α β : Type} [DecidableEq α] (mv : α → List β) (af : α → β → Option α) (s0 : α)
/-- one move more is looked at -/
def grow (c : Ent α β) (ws : List (Ent α β)) (m : β) : List (Ent α β) := match af c.key m with
  | some b => if b ∈ ws.map Ent.key then ws else ws ++ [⟨b, c.tr ++ [m]⟩]
  | none => ws
/-- what is met when the first k are gone through -/
def iter : Nat → List (Ent α β)
  | 0 => [⟨s0, []⟩]
  | k + 1 => match (iter k)[k]? with
    | some c => (mv c.key).foldl (grow af c) (iter k)
    | none => iter k
/-- what the search tells: the way to the first that is sought -/
def Found (G : α → Prop) (tr : List β) : Prop := ∃ k c, (iter mv af s0 k)[k]? = some c ∧ G c.key ∧ (∀ j, j < k → ∀ e, (iter mv af s0 j)[j]? = some e → ¬ G e.key) ∧ tr = c.tr
variable {mv : α → List β} {af : α → β → Option α} {s0 : α}
theorem Found.unique {G : α → Prop} {tr tr' : List β} (h : Found mv af s0 G tr) (h' : Found mv af s0 G tr') : tr = tr' := by
  obtain ⟨k, c, h1, h2, h3, h4⟩ := h
  obtain ⟨k', c', h1', h2', h3', h4'⟩ := h'
  rcases Nat.lt_trichotomy k k' with z | z | z
  · exact absurd h2 (h3' k z c h1)
  · subst z
    rw [h1] at h1'
    cases h1'
    rw [h4, h4']
  · exact absurd h2' (h3 k' z c' h1')
theorem iter_succ {k : Nat} {c : Ent α β} (h : (iter mv af s0 k)[k]? = some c) : iter mv af s0 (k + 1) = (mv c.key).foldl (grow af c) (iter mv af s0 k) := by
  show (match (iter mv af s0 k)[k]? with
    | some c => (mv c.key).foldl (grow af c) (iter mv af s0 k)
    | none => iter mv af s0 k) = _
  rw [h]
theorem foldl_take {γ δ : Type} (f : γ → δ → γ) (a : γ) {l : List δ} {j : Nat} {m : δ} (h : l[j]? = some m) : (l.take (j + 1)).foldl f a = f ((l.take j).foldl f a) m := by
  rw [List.take_add_one, h, List.foldl_append]
  rfl
end
end WB
set_option linter.all false
/-! M2: webs in the plain: moves, steps, what can be reached, the sixth fact. -/
namespace WB
inductive Mv where
  | clear (t : Nat)
  | fill (t : Nat)
  | slide (t o : Nat)
  deriving DecidableEq
def Mv.thing : Mv → Nat
  | .clear t => t
  | .fill t => t
  | .slide t _ => t
def Mv.slid : Mv → Bool
  | .slide _ _ => true
  | _ => false
def lot (rs : List (List Nat)) (t : Nat) : List Nat := rs.getD t []
/-- right reads -/
structure Good (rs : List (List Nat)) : Prop where
  pos : 0 < rs.length
  le : rs.length ≤ 10
  asc : ∀ j l, rs[j]? = some l → Asc l ∧ ∀ x ∈ l, x < j
theorem lot_at {rs : List (List Nat)} {j : Nat} {l : List Nat} (h : rs[j]? = some l) : lot rs j = l := by
  unfold lot
  rw [List.getD_eq_getElem?_getD, h]
  rfl
theorem at_lot {rs : List (List Nat)} {j : Nat} (h : j < rs.length) : rs[j]? = some (lot rs j) := by
  unfold lot
  rw [List.getD_eq_getElem?_getD, List.getElem?_eq_getElem h]
  rfl
theorem Good.lot_asc {rs : List (List Nat)} (g : Good rs) (t : Nat) : Asc (lot rs t) := by
  rcases Nat.lt_or_ge t rs.length with h | h
  · exact (g.asc t _ (at_lot h)).1
  · unfold lot
    rw [List.getD_eq_getElem?_getD, List.getElem?_eq_none h]
    exact List.Pairwise.nil
theorem Good.lot_lt {rs : List (List Nat)} (g : Good rs) {t x : Nat} (hx : x ∈ lot rs t) : x < t ∧ t < rs.length := by
  rcases Nat.lt_or_ge t rs.length with h | h
  · exact ⟨(g.asc t _ (at_lot h)).2 x hx, h⟩
  · unfold lot at hx
    rw [List.getD_eq_getElem?_getD, List.getElem?_eq_none h] at hx
    exact absurd hx List.not_mem_nil
def mayB (rs : List (List Nat)) (l : List Nat) (t : Nat) : Bool := !l.contains t && (lot rs t).all fun o => l.contains o
theorem mayB_iff {rs : List (List Nat)} {l : List Nat} {t : Nat} : mayB rs l t = true ↔ t ∉ l ∧ ∀ o ∈ lot rs t, o ∈ l := by
  unfold mayB
  simp
def drop (l : List Nat) (t : Nat) : List Nat := l.filter (· != t)
theorem mem_drop {l : List Nat} {t x : Nat} : x ∈ drop l t ↔ x ∈ l ∧ x ≠ t := by
  unfold drop
  simp
theorem drop_asc {l : List Nat} (h : Asc l) (t : Nat) : Asc (drop l t) := h.filter _
theorem drop_len {l : List Nat} (h : Asc l) {t : Nat} (ht : t ∈ l) : (drop l t).length + 1 = l.length := by
  unfold drop
  induction l with
  | nil => exact absurd ht List.not_mem_nil
  | cons x l ih =>
    obtain ⟨h1, h2⟩ := List.pairwise_cons.mp h
    by_cases e : x = t
    · subst e
      have f : l.filter (· != x) = l := List.filter_eq_self.mpr fun y hy => by
        have := h1 y hy
        have : y ≠ x := Nat.ne_of_gt this
        simpa using this
      rw [List.filter_cons_of_neg (by simp), f, List.length_cons]
    · have ht' : t ∈ l := by
        rcases List.mem_cons.mp ht with q | q
        · exact absurd q.symm e
        · exact q
      rw [List.filter_cons_of_pos (by simpa using e), List.length_cons, List.length_cons, ih h2 ht']
/-- what is in rooms behind a move -/
def after (rs : List (List Nat)) (l : List Nat) : Mv → Option (List Nat)
  | .clear t => if l.contains t then some (drop l t) else none
  | .fill t => if mayB rs l t then some (srt (l ++ [t])) else none
  | .slide t o => if mayB rs l t && (lot rs t).contains o then some (srt (drop l o ++ [t])) else none
theorem after_clear {rs : List (List Nat)} {l l' : List Nat} {t : Nat} : after rs l (.clear t) = some l' ↔ t ∈ l ∧ l' = drop l t := by
  show (if l.contains t = true then some (drop l t) else none) = some l' ↔ _
  by_cases h : l.contains t = true
  · rw [if_pos h]
    have : t ∈ l := by simpa using h
    simp [this, eq_comm]
  · rw [if_neg h]
    have : t ∉ l := by simpa using h
    simp [this]
theorem after_fill {rs : List (List Nat)} {l l' : List Nat} {t : Nat} : after rs l (.fill t) = some l' ↔ mayB rs l t = true ∧ l' = srt (l ++ [t]) := by
  show (if mayB rs l t = true then some (srt (l ++ [t])) else none) = some l' ↔ _
  by_cases h : mayB rs l t = true
  · rw [if_pos h]
    simp [h, eq_comm]
  · rw [if_neg h]
    simp [h]
theorem after_slide {rs : List (List Nat)} {l l' : List Nat} {t o : Nat} : after rs l (.slide t o) = some l' ↔ mayB rs l t = true ∧ o ∈ lot rs t ∧ l' = srt (drop l o ++ [t]) := by
  show (if (mayB rs l t && (lot rs t).contains o) = true then some (srt (drop l o ++ [t])) else none) = some l' ↔ _
  by_cases h : (mayB rs l t && (lot rs t).contains o) = true
  · rw [if_pos h]
    have h' : mayB rs l t = true ∧ o ∈ lot rs t := by simpa using h
    simp [h'.1, h'.2, eq_comm]
  · rw [if_neg h]
    have h' : ¬ (mayB rs l t = true ∧ o ∈ lot rs t) := by simpa using h
    constructor
    · intro z
      cases z
    · rintro ⟨a, b, _⟩
      exact absurd ⟨a, b⟩ h'
def Valid (n : Nat) (l : List Nat) : Prop := Asc l ∧ ∀ x ∈ l, x < n
theorem valid_nil (n : Nat) : Valid n [] := ⟨List.Pairwise.nil, fun _ h => absurd h List.not_mem_nil⟩
theorem Valid.nodup {n : Nat} {l : List Nat} (v : Valid n l) : l.Nodup := List.Pairwise.imp (fun h => Nat.ne_of_lt h) v.1
theorem nodup_snoc {l : List Nat} {t : Nat} (h : l.Nodup) (ht : t ∉ l) : (l ++ [t]).Nodup := by
  rw [List.nodup_append]
  exact ⟨h, by simp, fun a ha b hb => by
    have : b = t := by simpa using hb
    subst this
    exact fun z => ht (z ▸ ha)⟩
theorem Valid.drop {n : Nat} {l : List Nat} (v : Valid n l) (t : Nat) : Valid n (drop l t) := ⟨drop_asc v.1 t, fun x hx => v.2 x (mem_drop.mp hx).1⟩
theorem Valid.add {n : Nat} {l : List Nat} (v : Valid n l) {t : Nat} (ht : t ∉ l) (hn : t < n) : Valid n (srt (l ++ [t])) :=
  ⟨srt_asc (nodup_snoc v.nodup ht), fun x hx => by
    rcases List.mem_append.mp (srt_mem.mp hx) with h | h
    · exact v.2 x h
    · have : x = t := by simpa using h
      omega⟩
/-- a lot below n has at most n -/
theorem Valid.len {n : Nat} {l : List Nat} (v : Valid n l) : l.length ≤ n := by
  have := List.Nodup.length_le_of_subset (l₂ := List.range n) v.nodup fun x hx => List.mem_range.mpr (v.2 x hx)
  simpa using this
/-- many unlike lots below n: at most 2 ^ n -/
theorem many_le {n : Nat} {ks : List (List Nat)} (nd : ks.Nodup) (v : ∀ l ∈ ks, Valid n l) : ks.length ≤ 2 ^ n := by
  have nd' : (ks.map mask).Nodup := by
    rw [List.nodup_iff_pairwise_ne, List.pairwise_map]
    exact List.Pairwise.imp_of_mem (fun {a b} ha hb h z => h (mask_inj (v a ha).1 (v b hb).1 z)) (List.nodup_iff_pairwise_ne.mp nd)
  have := List.Nodup.length_le_of_subset (l₂ := List.range (2 ^ n)) nd' fun x hx => by
    obtain ⟨l, hl, e⟩ := List.mem_map.mp hx
    rw [← e]
    exact List.mem_range.mpr (mask_lt (v l hl).1 (v l hl).2)
  simpa using this
/-- a step: a move of a thing of the web that can be done, no more rooms than there are, no slide if it is to be apart -/
structure Step (rs : List (List Nat)) (rooms : Nat) (apart : Bool) (l : List Nat) (m : Mv) (l' : List Nat) : Prop where
  lt : m.thing < rs.length
  eq : after rs l m = some l'
  few : l'.length ≤ rooms
  ap : apart = true → m.slid = false
theorem after_valid {rs : List (List Nat)} {l l' : List Nat} {m : Mv} (v : Valid rs.length l) (ht : m.thing < rs.length) (e : after rs l m = some l') : Valid rs.length l' := by
  cases m with
  | clear t =>
    obtain ⟨_, rfl⟩ := after_clear.mp e
    exact v.drop t
  | fill t =>
    obtain ⟨h, rfl⟩ := after_fill.mp e
    exact v.add (mayB_iff.mp h).1 ht
  | slide t o =>
    obtain ⟨h, _, rfl⟩ := after_slide.mp e
    exact (v.drop o).add (fun z => (mayB_iff.mp h).1 (mem_drop.mp z).1) ht
theorem Step.valid {rs : List (List Nat)} {rooms : Nat} {apart : Bool} {l l' : List Nat} {m : Mv} (s : Step rs rooms apart l m l') (v : Valid rs.length l) : Valid rs.length l' := after_valid v s.lt s.eq
theorem after_len {rs : List (List Nat)} {n : Nat} {l l' : List Nat} {m : Mv} (v : Valid n l) (e : after rs l m = some l') :
    match m with
    | .clear _ => l'.length + 1 = l.length
    | .fill _ => l'.length = l.length + 1
    | .slide _ _ => l'.length = l.length := by
  cases m with
  | clear t =>
    obtain ⟨h, rfl⟩ := after_clear.mp e
    exact drop_len v.1 h
  | fill t =>
    obtain ⟨h, rfl⟩ := after_fill.mp e
    show (srt (l ++ [t])).length = _
    rw [srt_len, List.length_append]
    rfl
  | slide t o =>
    obtain ⟨h, ho, rfl⟩ := after_slide.mp e
    show (srt (drop l o ++ [t])).length = _
    have := drop_len v.1 ((mayB_iff.mp h).2 o ho)
    rw [srt_len, List.length_append, List.length_singleton]
    omega
theorem after_mask {rs : List (List Nat)} {n : Nat} {l l' : List Nat} {m : Mv} (v : Valid n l) (e : after rs l m = some l') :
    match m with
    | .clear t => mask l' + 2 ^ t = mask l
    | .fill t => mask l' = mask l + 2 ^ t
    | .slide t o => mask l' + 2 ^ o = mask l + 2 ^ t := by
  cases m with
  | clear t =>
    obtain ⟨h, rfl⟩ := after_clear.mp e
    exact (mask_drop v.1 h).symm
  | fill t =>
    obtain ⟨h, rfl⟩ := after_fill.mp e
    show mask (srt (l ++ [t])) = _
    rw [mask_srt, mask_append]
    rfl
  | slide t o =>
    obtain ⟨h, ho, rfl⟩ := after_slide.mp e
    show mask (srt (drop l o ++ [t])) + 2 ^ o = _
    have := mask_drop v.1 ((mayB_iff.mp h).2 o ho)
    have e1 : mask [t] = 2 ^ t := rfl
    rw [mask_srt, mask_append, e1, this]
    unfold drop
    omega
/-- all moves from a lot, in the program's order -/
def movesL (rs : List (List Nat)) (l : List Nat) (rooms : Nat) (apart : Bool) : List Mv :=
  l.map .clear ++ (List.range rs.length).flatMap fun t => if mayB rs l t then (if l.length < rooms then [.fill t] else []) ++ (if apart then [] else (lot rs t).map (.slide t)) else []
theorem moves_iff {rs : List (List Nat)} {l : List Nat} {rooms : Nat} {apart : Bool} (v : Valid rs.length l) (hl : l.length ≤ rooms) (m : Mv) : m ∈ movesL rs l rooms apart ↔ ∃ l', Step rs rooms apart l m l' := by
  unfold movesL
  rw [List.mem_append]
  constructor
  · rintro (h | h)
    · obtain ⟨t, ht, rfl⟩ := List.mem_map.mp h
      refine ⟨drop l t, v.2 t ht, after_clear.mpr ⟨ht, rfl⟩, ?_, fun _ => rfl⟩
      have := drop_len v.1 ht
      omega
    · obtain ⟨t, ht, h⟩ := List.mem_flatMap.mp h
      have hn := List.mem_range.mp ht
      by_cases hm : mayB rs l t = true
      · rw [if_pos hm] at h
        rcases List.mem_append.mp h with h | h
        · by_cases hr : l.length < rooms
          · rw [if_pos hr] at h
            have : m = .fill t := by simpa using h
            subst this
            refine ⟨srt (l ++ [t]), hn, after_fill.mpr ⟨hm, rfl⟩, ?_, fun _ => rfl⟩
            rw [srt_len, List.length_append, List.length_singleton]
            exact hr
          · rw [if_neg hr] at h
            exact absurd h List.not_mem_nil
        · cases apart with
          | true => exact absurd h List.not_mem_nil
          | false =>
            obtain ⟨o, ho, rfl⟩ := List.mem_map.mp h
            have e := after_slide (rs := rs) (l := l) (t := t) (o := o) (l' := srt (drop l o ++ [t])) |>.mpr ⟨hm, ho, rfl⟩
            exact ⟨_, hn, e, by have := after_len v e; simp only at this; omega, fun z => nomatch z⟩
      · rw [if_neg hm] at h
        exact absurd h List.not_mem_nil
  · rintro ⟨l', s⟩
    cases m with
    | clear t =>
      obtain ⟨h, _⟩ := after_clear.mp s.eq
      exact .inl (List.mem_map.mpr ⟨t, h, rfl⟩)
    | fill t =>
      obtain ⟨h, _⟩ := after_fill.mp s.eq
      have hr : l.length < rooms := by
        have := after_len v s.eq
        have := s.few
        simp only at *
        omega
      refine .inr (List.mem_flatMap.mpr ⟨t, List.mem_range.mpr s.lt, ?_⟩)
      rw [if_pos h, if_pos hr]
      simp
    | slide t o =>
      obtain ⟨h, ho, _⟩ := after_slide.mp s.eq
      have ha : apart = false := by
        cases apart with
        | false => rfl
        | true => exact absurd (show true = false from s.ap rfl) (by decide)
      refine .inr (List.mem_flatMap.mpr ⟨t, List.mem_range.mpr s.lt, ?_⟩)
      rw [if_pos h, ha]
      refine List.mem_append_right _ ?_
      exact List.mem_map.mpr ⟨o, ho, rfl⟩
/-- all moves from a lot, in the law's order, with no limit of rooms -/
def movesW (rs : List (List Nat)) (l : List Nat) (apart : Bool) : List Mv :=
  (List.range rs.length).flatMap fun t => if l.contains t then [.clear t] else if (lot rs t).all (fun o => l.contains o) then .fill t :: (if apart then [] else (lot rs t).map (.slide t)) else []
theorem movesW_iff {rs : List (List Nat)} {l : List Nat} {apart : Bool} (m : Mv) : m ∈ movesW rs l apart ↔ m.thing < rs.length ∧ (∃ l', after rs l m = some l') ∧ (apart = true → m.slid = false) := by
  unfold movesW
  rw [List.mem_flatMap]
  constructor
  · rintro ⟨t, ht, h⟩
    have hn := List.mem_range.mp ht
    by_cases hc : l.contains t = true
    · rw [if_pos hc] at h
      have : m = .clear t := by simpa using h
      subst this
      exact ⟨hn, ⟨_, after_clear.mpr ⟨by simpa using hc, rfl⟩⟩, fun _ => rfl⟩
    · rw [if_neg hc] at h
      by_cases ha : ((lot rs t).all fun o => l.contains o) = true
      · rw [if_pos ha] at h
        have hm : mayB rs l t = true := by
          unfold mayB
          rw [ha]
          simpa using hc
        rcases List.mem_cons.mp h with e | h
        · subst e
          exact ⟨hn, ⟨_, after_fill.mpr ⟨hm, rfl⟩⟩, fun _ => rfl⟩
        · cases apart with
          | true => exact absurd h List.not_mem_nil
          | false =>
            obtain ⟨o, ho, rfl⟩ := List.mem_map.mp h
            exact ⟨hn, ⟨_, after_slide.mpr ⟨hm, ho, rfl⟩⟩, fun z => nomatch z⟩
      · rw [if_neg ha] at h
        exact absurd h List.not_mem_nil
  · rintro ⟨hn, ⟨l', e⟩, hp⟩
    refine ⟨m.thing, List.mem_range.mpr hn, ?_⟩
    have key : mayB rs l m.thing = true → l.contains m.thing = false ∧ ((lot rs m.thing).all fun o => l.contains o) = true := fun h => by
      unfold mayB at h
      simpa using h
    cases m with
    | clear t =>
      obtain ⟨h, _⟩ := after_clear.mp e
      have : l.contains t = true := by simpa using h
      rw [if_pos (show l.contains (Mv.clear t).thing = true from this)]
      exact List.mem_singleton.mpr rfl
    | fill t =>
      obtain ⟨h, _⟩ := after_fill.mp e
      obtain ⟨a, b⟩ := key h
      rw [if_neg (by rw [a]; decide), if_pos b]
      exact List.mem_cons_self
    | slide t o =>
      obtain ⟨h, ho, _⟩ := after_slide.mp e
      obtain ⟨a, b⟩ := key h
      have hf : apart = false := by
        cases apart with
        | false => rfl
        | true => exact absurd (show true = false from hp rfl) (by decide)
      rw [if_neg (by rw [a]; decide), if_pos b, hf]
      refine List.mem_cons_of_mem _ ?_
      exact List.mem_map.mpr ⟨o, ho, rfl⟩

/-! ### what can be reached -/
abbrev Goal (rs : List (List Nat)) (l : List Nat) : Prop := rs.length - 1 ∈ l
def Reach (rs : List (List Nat)) (rooms : Nat) (apart : Bool) : Prop := ∃ ms l, Path (Step rs rooms apart) [] ms l ∧ Goal rs l
structure Least (rs : List (List Nat)) (apart : Bool) (r : Nat) : Prop where
  pos : 1 ≤ r
  reach : Reach rs r apart
  no : ∀ r', 1 ≤ r' → r' < r → ¬ Reach rs r' apart
theorem Least.unique {rs : List (List Nat)} {apart : Bool} {r r' : Nat} (h : Least rs apart r) (h' : Least rs apart r') : r = r' := by
  rcases Nat.lt_trichotomy r r' with z | z | z
  · exact absurd h.reach (h'.no r h.pos z)
  · exact z
  · exact absurd h'.reach (h.no r' h'.pos z)
theorem srt_range (k : Nat) : srt (List.range k ++ [k]) = List.range (k + 1) := by
  rw [← List.range_succ]
  exact (srt_eq (List.Perm.refl _) (List.Pairwise.imp (fun h => Nat.le_of_lt h) List.pairwise_lt_range)).symm
theorem reach_full {rs : List (List Nat)} (g : Good rs) (apart : Bool) : Reach rs rs.length apart := by
  have : ∀ k, k ≤ rs.length → ∃ ms, Path (Step rs rs.length apart) [] ms (List.range k) := by
    intro k
    induction k with
    | zero => intro _; exact ⟨[], .nil _⟩
    | succ k ih =>
      intro hk
      obtain ⟨ms, p⟩ := ih (by omega)
      refine ⟨ms ++ [.fill k], .snoc (m := Mv.fill k) p ⟨hk, after_fill.mpr ⟨mayB_iff.mpr ⟨by simp, fun o ho => List.mem_range.mpr (g.lot_lt ho).1⟩, (srt_range k).symm⟩, by simpa using hk, fun _ => rfl⟩⟩
  obtain ⟨ms, p⟩ := this rs.length (Nat.le_refl _)
  exact ⟨ms, _, p, List.mem_range.mpr (Nat.sub_lt g.pos (by decide))⟩
theorem path_valid {rs : List (List Nat)} {rooms : Nat} {apart : Bool} {ms : List Mv} {l l' : List Nat} (p : Path (Step rs rooms apart) l ms l') (v : Valid rs.length l) : Valid rs.length l' :=
  p.inv (I := Valid rs.length) (fun _ _ _ v s => s.valid v) v
theorem path_few {rs : List (List Nat)} {rooms : Nat} {apart : Bool} {ms : List Mv} {l l' : List Nat} (p : Path (Step rs rooms apart) l ms l') (h : l.length ≤ rooms) : l'.length ≤ rooms :=
  p.inv (I := fun l => l.length ≤ rooms) (fun _ _ _ _ s => s.few) h

/-! ### the sixth fact -/
theorem part_one {rs : List (List Nat)} {r : Nat} {l l' : List Nat} {t o : Nat} (v : Valid rs.length l) (s : Step rs r false l (.slide t o) l') :
    ∃ l1, Step rs (r + 1) true l (.fill t) l1 ∧ Step rs (r + 1) true l1 (.clear o) l' := by
  obtain ⟨h, ho, e⟩ := after_slide.mp s.eq
  have ht := (mayB_iff.mp h).1
  have hol : o ∈ l := (mayB_iff.mp h).2 o ho
  have hot : o ≠ t := fun z => ht (z ▸ hol)
  have e1 : after rs l (.fill t) = some (srt (l ++ [t])) := after_fill.mpr ⟨h, rfl⟩
  have hlen := after_len v s.eq
  have hlen1 := after_len v e1
  have := s.few
  simp only at hlen hlen1
  refine ⟨srt (l ++ [t]), ⟨s.lt, e1, by omega, fun _ => rfl⟩, ⟨v.2 o hol, after_clear.mpr ⟨srt_mem.mpr (List.mem_append_left _ hol), ?_⟩, by omega, fun _ => rfl⟩⟩
  have v' : Valid rs.length l' := s.valid v
  refine asc_ext v'.1 (drop_asc (v.add ht s.lt).1 o) fun x => ?_
  rw [e, srt_mem, mem_drop, srt_mem, List.mem_append, List.mem_append, mem_drop, List.mem_singleton]
  constructor
  · rintro (⟨a, b⟩ | a)
    · exact ⟨.inl a, b⟩
    · exact ⟨.inr a, by rw [a]; exact hot.symm⟩
  · rintro ⟨a | a, b⟩
    · exact .inl ⟨a, b⟩
    · exact .inr a
theorem reach_part {rs : List (List Nat)} {r : Nat} (h : Reach rs r false) : Reach rs (r + 1) true := by
  obtain ⟨ms, l, p, hg⟩ := h
  have : ∃ ms', Path (Step rs (r + 1) true) [] ms' l := by
    clear hg
    induction p with
    | nil => exact ⟨[], .nil _⟩
    | @snoc b c ms m p s ih =>
      obtain ⟨ms', p'⟩ := ih
      cases m with
      | clear t => exact ⟨_, p'.snoc ⟨s.lt, s.eq, Nat.le_succ_of_le s.few, fun _ => rfl⟩⟩
      | fill t => exact ⟨_, p'.snoc ⟨s.lt, s.eq, Nat.le_succ_of_le s.few, fun _ => rfl⟩⟩
      | slide t o =>
        obtain ⟨l1, s1, s2⟩ := part_one (path_valid p (valid_nil _)) s
        exact ⟨_, (p'.snoc s1).snoc s2⟩
  obtain ⟨ms', p'⟩ := this
  exact ⟨ms', l, p', hg⟩
theorem slid_one {rs : List (List Nat)} {r : Nat} {l0 b c : List Nat} {t o : Nat} (v : Valid rs.length l0) (hl : l0.length = r) (ht : t < rs.length) (e : after rs l0 (.fill t) = some b) (ho : o < rs.length) (e2 : after rs b (.clear o) = some c) :
    ∃ ms, Path (Step rs r false) l0 ms c := by
  obtain ⟨h, rfl⟩ := after_fill.mp e
  obtain ⟨ho2, rfl⟩ := after_clear.mp e2
  obtain ⟨hn, hr⟩ := mayB_iff.mp h
  have hb : Valid rs.length (srt (l0 ++ [t])) := v.add hn ht
  by_cases hot : o = t
  · subst hot
    have : drop (srt (l0 ++ [o])) o = l0 := asc_ext (drop_asc hb.1 o) v.1 fun x => by
      rw [mem_drop, srt_mem, List.mem_append, List.mem_singleton]
      constructor
      · rintro ⟨a | a, b⟩
        · exact a
        · exact absurd a b
      · intro a
        exact ⟨.inl a, fun z => hn (z ▸ a)⟩
    rw [this]
    exact ⟨[], .nil _⟩
  · have hol : o ∈ l0 := by
      rcases List.mem_append.mp (srt_mem.mp ho2) with q | q
      · exact q
      · exact absurd (List.mem_singleton.mp q) hot
    have same : drop (srt (l0 ++ [t])) o = srt (drop l0 o ++ [t]) := by
      have hn' : t ∉ drop l0 o := fun z => hn (mem_drop.mp z).1
      refine asc_ext (drop_asc hb.1 o) ((v.drop o).add hn' ht).1 fun x => ?_
      rw [mem_drop, srt_mem, srt_mem, List.mem_append, List.mem_append, mem_drop, List.mem_singleton]
      constructor
      · rintro ⟨a | a, b⟩
        · exact .inl ⟨a, b⟩
        · exact .inr a
      · rintro (⟨a, b⟩ | a)
        · exact ⟨.inl a, b⟩
        · exact ⟨.inr a, by rw [a]; exact fun z => hot z.symm⟩
    have hd := drop_len v.1 hol
    have hlen : (srt (drop l0 o ++ [t])).length = r := by
      rw [srt_len, List.length_append, List.length_singleton]
      omega
    rw [same]
    by_cases hlo : o ∈ lot rs t
    · exact ⟨_, (Path.nil l0).snoc (m := Mv.slide t o) (c := srt (drop l0 o ++ [t])) ⟨ht, after_slide.mpr ⟨h, hlo, rfl⟩, by omega, fun z => nomatch z⟩⟩
    · refine ⟨_, ((Path.nil l0).snoc (m := Mv.clear o) (c := drop l0 o) ⟨ho, after_clear.mpr ⟨hol, rfl⟩, by omega, fun z => nomatch z⟩).snoc (m := Mv.fill t) (c := srt (drop l0 o ++ [t])) ⟨ht, after_fill.mpr ⟨mayB_iff.mpr ⟨fun z => hn (mem_drop.mp z).1, fun x hx => mem_drop.mpr ⟨hr x hx, fun z => hlo (by rw [← z]; exact hx)⟩⟩, rfl⟩, by omega, fun z => nomatch z⟩⟩
theorem reach_slid {rs : List (List Nat)} (g : Good rs) {r : Nat} (hne : lot rs (rs.length - 1) ≠ []) (h : Reach rs (r + 1) true) : Reach rs r false := by
  obtain ⟨ms, l, p, hg⟩ := h
  have main : (l.length ≤ r → ∃ ms', Path (Step rs r false) [] ms' l) ∧ (l.length = r + 1 → ∃ l0 t ms', Path (Step rs r false) [] ms' l0 ∧ l0.length = r ∧ t < rs.length ∧ after rs l0 (.fill t) = some l) := by
    clear hg
    induction p with
    | nil => exact ⟨fun _ => ⟨[], .nil _⟩, fun h => by simp at h⟩
    | @snoc b c ms m p s ih =>
      have vb : Valid rs.length b := path_valid p (valid_nil _)
      have fb : b.length ≤ r + 1 := path_few p (Nat.zero_le _)
      have hlen := after_len vb s.eq
      have hfew := s.few
      obtain ⟨i1, i2⟩ := ih
      rcases Nat.lt_or_ge r b.length with q | q
      · obtain ⟨l0, t0, ms', p', h0, ht0, e0⟩ := i2 (by omega)
        cases m with
        | slide t o => exact absurd (show true = false from s.ap rfl) (by decide)
        | fill t =>
          simp only at hlen
          omega
        | clear o =>
          simp only at hlen
          obtain ⟨ms2, p2⟩ := slid_one (path_valid p' (valid_nil _)) h0 ht0 e0 s.lt s.eq
          exact ⟨fun _ => ⟨_, p'.trans p2⟩, fun z => by omega⟩
      · obtain ⟨ms', p'⟩ := i1 q
        cases m with
        | slide t o => exact absurd (show true = false from s.ap rfl) (by decide)
        | fill t =>
          simp only at hlen
          refine ⟨fun z => ⟨_, p'.snoc ⟨s.lt, s.eq, z, fun z => nomatch z⟩⟩, fun z => ⟨b, t, ms', p', by omega, s.lt, s.eq⟩⟩
        | clear o =>
          simp only at hlen
          exact ⟨fun z => ⟨_, p'.snoc ⟨s.lt, s.eq, z, fun z => nomatch z⟩⟩, fun z => by omega⟩
  rcases Nat.lt_or_ge r l.length with q | q
  · have fl : l.length ≤ r + 1 := path_few p (Nat.zero_le _)
    obtain ⟨l0, t, ms', p', h0, ht, e0⟩ := main.2 (by omega)
    have v0 := path_valid p' (valid_nil _)
    obtain ⟨hm, rfl⟩ := after_fill.mp e0
    rcases List.mem_append.mp (srt_mem.mp hg) with z | z
    · exact ⟨ms', l0, p', z⟩
    · have ez : rs.length - 1 = t := by simpa using z
      cases hl : lot rs t with
      | nil => rw [ez] at hne; exact absurd hl hne
      | cons o os =>
        have e := after_slide (rs := rs) (l := l0) (t := t) (o := o) (l' := srt (drop l0 o ++ [t])) |>.mpr ⟨hm, by rw [hl]; exact List.mem_cons_self, rfl⟩
        have := after_len v0 e
        simp only at this
        refine ⟨_, _, p'.snoc (m := Mv.slide t o) (c := srt (drop l0 o ++ [t])) ⟨ht, e, by omega, fun z => nomatch z⟩, ?_⟩
        exact srt_mem.mpr (List.mem_append_right _ (by rw [ez]; exact List.mem_singleton.mpr rfl))
  · obtain ⟨ms', p'⟩ := main.1 q
    exact ⟨ms', l, p', hg⟩
theorem reach_pos {rs : List (List Nat)} {r : Nat} {apart : Bool} (h : Reach rs r apart) : 1 ≤ r := by
  obtain ⟨ms, l, p, hg⟩ := h
  have := path_few p (Nat.zero_le _)
  have : 0 < l.length := List.length_pos_of_mem hg
  omega
theorem reach_bare {rs : List (List Nat)} (g : Good rs) (apart : Bool) (he : lot rs (rs.length - 1) = []) : Reach rs 1 apart :=
  ⟨_, _, (Path.nil []).snoc (m := Mv.fill (rs.length - 1)) ⟨Nat.sub_lt g.pos (by decide), after_fill.mpr ⟨mayB_iff.mpr ⟨by simp, fun o ho => by rw [he] at ho; exact absurd ho List.not_mem_nil⟩, rfl⟩, by rw [srt_len]; simp, fun _ => rfl⟩,
    srt_mem.mpr (by simp)⟩
/-- THE SIXTH FACT -/
theorem sixth {rs : List (List Nat)} (g : Good rs) {a b : Nat} (ha : Least rs false a) (hb : Least rs true b) : (lot rs (rs.length - 1) ≠ [] → b = a + 1) ∧ (lot rs (rs.length - 1) = [] → a = 1 ∧ b = 1) := by
  constructor
  · intro hne
    have h1 : b ≤ a + 1 := by
      rcases Nat.lt_or_ge (a + 1) b with q | q
      · exact absurd (reach_part ha.reach) (hb.no _ (by omega) q)
      · exact q
    have hbp := hb.pos
    have hr := reach_slid (r := b - 1) g hne (by
      have e : b - 1 + 1 = b := by omega
      rw [e]
      exact hb.reach)
    have h2 : a ≤ b - 1 := by
      rcases Nat.lt_or_ge (b - 1) a with q | q
      · exact absurd hr (ha.no _ (reach_pos hr) q)
      · exact q
    omega
  · intro he
    have h1 := reach_bare g false he
    have h2 := reach_bare g true he
    have ha1 := ha.pos
    have hb1 := hb.pos
    constructor
    · rcases Nat.lt_or_ge 1 a with q | q
      · exact absurd h1 (ha.no 1 (Nat.le_refl _) q)
      · omega
    · rcases Nat.lt_or_ge 1 b with q | q
      · exact absurd h2 (hb.no 1 (Nat.le_refl _) q)
      · omega
end WB
set_option Elab.async false
set_option linter.all false
set_option maxRecDepth 100000
/-! S: the defs of the text by their places. -/
namespace TX
open PySem L2
def top (i : Nat) : Stmt := PySem.Challenge.pw_oneroommore_k56_whole_makings_of_fewest.main.body.getD i (.Pass ⟨0, 0, 0, 0⟩)
abbrev s_BadWeb_init : Stmt := inClass (top 2) 0
abbrev s_is_integer : Stmt := top 8
abbrev s_is_within : Stmt := top 9
abbrev s_are_within : Stmt := top 10
abbrev s_is_lot : Stmt := top 11
abbrev s_is_sized : Stmt := top 12
abbrev s_check_rooms : Stmt := top 13
abbrev s_check_flag : Stmt := top 14
abbrev s_Web_init : Stmt := inClass (top 18) 0
abbrev s_Web_eq : Stmt := inClass (top 18) 1
abbrev s_is_move : Stmt := top 19
abbrev s_may_be_made : Stmt := top 20
abbrev s_behind_move : Stmt := top 21
abbrev s_most_taken : Stmt := top 22
abbrev s_is_slide : Stmt := top 23
abbrev s_is_making_in : Stmt := top 24
abbrev s_is_making : Stmt := top 25
abbrev s_moves_from : Stmt := top 26
abbrev s_shortest_making : Stmt := top 27
abbrev s_moves_to : Stmt := top 28
abbrev s_making : Stmt := top 29
abbrev s_taken : Stmt := top 30
abbrev s_law_pool : Stmt := top 32
abbrev s_law_draw : Stmt := top 33
abbrev s_law_is : Stmt := top 34
abbrev s_law_is_number : Stmt := top 35
abbrev s_law_web_reads : Stmt := top 36
abbrev s_law_counts : Stmt := top 37
abbrev s_law_masks_of : Stmt := top 38
abbrev s_law_moves_from : Stmt := top 39
abbrev s_law_fewest : Stmt := top 40
abbrev s_law_least : Stmt := top 41
abbrev s_law_move_word : Stmt := top 42
abbrev s_law_taken : Stmt := top 43
abbrev s_law : Stmt := top 44
end TX
set_option Elab.async false
set_option linter.all false
set_option maxRecDepth 100000
set_option maxHeartbeats 4000000
/-! W1: defs of the text as data; is_integer, is_within, are_within, is_sized, is_lot. -/
namespace TX
open PySem PySem.Spec PyProof.Rows L2 RX WB
/-- a def that stands as a global -/
structure DefAt (K : PySem.W.Frag) (mg : Str → Option Value) (x : Str) (st : Stmt) (ps : List Str) where
  f : Addr
  fd : FuncData
  F : Fun K x x st f fd
  g : mg x = some (.ref f)
  b : Binds K fd ps []
/-- the built-ins that the text reads -/
structure Bts (mg : Str → Option Value) : Prop where
  isi : mg "isinstance" = none
  int : mg "int" = none
  bool : mg "bool" = none
  tuple : mg "tuple" = none
  all : mg "all" = none
  list : mg "list" = none
  sorted : mg "sorted" = none
  set : mg "set" = none
  len : mg "len" = none
  enum : mg "enumerate" = none
  range : mg "range" = none
  sum : mg "sum" = none
  abs : mg "abs" = none
  repr : mg "repr" = none
theorem boot_bool' : bootBuiltins "bool" = some (.type "bool") := by decide +kernel
section
variable {X : Cx} {K : PySem.W.Frag} {mg : Str → Option Value} {x : Str} {st : Stmt} {ps : List Str}
/-- f(e, ..) of a def that stands as a global and lets nothing out -/
theorem pcl {k : Nat} {sp : Sp} {e : Expr} {es : List Expr} {t : TA} {p pos : Pos} (D : DefAt X.K X.mg x st ps) (G : FnOk X.prog X.w X.K X.mg X.base CX0 k D.f D.fd ps sp) (hr : Room k X.A) (hg : Gl X x) (ha : PA X (e :: es) t)
    (hdb : (x == ("__debug__" : Str)) = false := by decide) (he : starEach (e :: es) X.env = (false, eval e X.env) :: starEach es X.env := by rfl) (hpl : (backTo pos (starEach es X.env)).any (·.1) = false := by rfl) :
    PE X (.Call (.Name x p) (e :: es) [] pos) (tCall sp [] E0 t) := pe_call G hr hg D.g D.F.kp D.b .nil pass0 ha hdb he hpl
end

/-! ### values by their type -/
/-- what isinstance says of an int, of a bool, of a tuple -/
def NotInt (K : PySem.W.Frag) (t : Value) : Prop := PySem.W.kitOne K t (.type "int") = some false ∨ (PySem.W.kitOne K t (.type "int") = some true ∧ PySem.W.kitOne K t (.type "bool") = some true)
def isInt : V → Bool
  | .int _ => true
  | _ => false
/-- the thing's kind is known -/
def Okv (K : PySem.W.Frag) (H : Hp) (x : V) : Prop := isInt x = true ∨ (isInt x = false ∧ ∃ t, TyX K H x t ∧ NotInt K t)
def wi (l m : Int) : V → Bool
  | .int i => decide (l ≤ i) && decide (i ≤ m)
  | _ => false
theorem okv_int {K : PySem.W.Frag} {H : Hp} (i : Int) : Okv K H (.int i) := .inl rfl
theorem kit_int_int {K : PySem.W.Frag} : PySem.W.kitOne K (.type "int") (.type "int") = some true := kit_ty (by decide +kernel)
theorem kit_int_bool {K : PySem.W.Frag} : PySem.W.kitOne K (.type "int") (.type "bool") = some false := kit_ty (by decide +kernel)
theorem kit_tup_tup {K : PySem.W.Frag} : PySem.W.kitOne K (.type "tuple") (.type "tuple") = some true := kit_ty (by decide +kernel)
def spIsInt (K : PySem.W.Frag) : Sp := fun vs H Q _ => ∃ x, vs = [x] ∧ Okv K H x ∧ Q (.bl (isInt x)) H
def spWithin (K : PySem.W.Frag) : Sp := fun vs H Q _ => ∃ (x : V) (l m : Int), vs = [x, .int l, .int m] ∧ Okv K H x ∧ Q (.bl (wi l m x)) H
section
variable {P : Program} {w : World} {K : PySem.W.Frag} {mg : Str → Option Value} {base : Heap}
theorem sc_isInt : FnScope ["thing"] ["thing"] (defScope s_is_integer) := ⟨rfl, rfl, rfl, by decide +kernel, rfl, by decide +kernel, by decide +kernel⟩
theorem ok_isInt (B : Bts mg) (D : DefAt K mg "is_integer" s_is_integer ["thing"]) : FnOk P w K mg base CX0 1 D.f D.fd ["thing"] (spIsInt K) := by
  refine D.F.ok sc_isInt (fun vs H Q E h => ?_) (fun cdv A outer s H vs Q E hr h => ?_)
  · obtain ⟨x, rfl, _⟩ := h
    rfl
  · obtain ⟨x, rfl, ok, k⟩ := h
    refine ⟨_, pss_one (ps_ret (pe_and (pe_callB call_isi (by rfl) B.isi boot_isinstance (pa_cons (pv 0) (pa_cons (pe_bltn (v := .ty "int") (by rfl) B.int PyProof.Rows.boot_int rfl) pa_nil)))
      (pe_one (pe_not (pe_callB call_isi (by rfl) B.isi boot_isinstance (pa_cons (pv 0) (pa_cons (pe_bltn (v := .ty "bool") (by rfl) B.bool boot_bool' rfl) pa_nil))))))), ?_⟩
    rcases ok with ok | ⟨ok, t, ty, nt⟩
    · cases x with
      | int i =>
        refine ⟨_, rfl, _, _, _, _, _, rfl, ClsV.ty "int", TyX.base (TyOf.int i), kit_int_int, true, rfl, iteT ?_⟩
        exact ⟨_, rfl, _, _, _, _, _, rfl, ClsV.ty "bool", TyX.base (TyOf.int i), kit_int_bool, false, rfl, k⟩
      | _ => cases ok
    · rw [ok] at k
      rcases nt with n1 | ⟨n1, n2⟩
      · exact ⟨_, rfl, _, _, _, _, _, rfl, ClsV.ty "int", ty, n1, false, rfl, iteF k⟩
      · refine ⟨_, rfl, _, _, _, _, _, rfl, ClsV.ty "int", ty, n1, true, rfl, iteT ?_⟩
        exact ⟨_, rfl, _, _, _, _, _, rfl, ClsV.ty "bool", ty, n2, true, rfl, k⟩
theorem sc_within : FnScope ["thing", "least", "most"] ["thing", "least", "most"] (defScope s_is_within) := ⟨rfl, rfl, rfl, by decide +kernel, rfl, by decide +kernel, by decide +kernel⟩
theorem ok_within (B : Bts mg) (D1 : DefAt K mg "is_integer" s_is_integer ["thing"]) (D : DefAt K mg "is_within" s_is_within ["thing", "least", "most"]) : FnOk P w K mg base CX0 2 D.f D.fd ["thing", "least", "most"] (spWithin K) := by
  refine D.F.ok sc_within (fun vs H Q E h => ?_) (fun cdv A outer s H vs Q E hr h => ?_)
  · obtain ⟨x, l, m, rfl, _⟩ := h
    rfl
  · obtain ⟨x, l, m, rfl, ok, k⟩ := h
    refine ⟨_, pss_one (ps_ret (pe_and (pcl D1 (ok_isInt B D1) hr (by rfl) (pa_cons (pv 0) pa_nil)) (pe_one (pe_chain op_le op_le (pv 1) (pv 0) (pv 2))))), ?_⟩
    refine ⟨_, rfl, x, rfl, ok, isInt x, rfl, ?_⟩
    cases x with
    | int i =>
      refine iteT ⟨_, rfl, _, rfl, _, _, rfl, rfl, decide (l ≤ i), rfl, ?_⟩
      by_cases h : l ≤ i
      · rw [decide_eq_true h]
        refine iteT ⟨_, rfl, _, _, rfl, rfl, ?_⟩
        have e : wi l m (.int i) = decide (i ≤ m) := by
          show (decide (l ≤ i) && decide (i ≤ m)) = _
          rw [decide_eq_true h, Bool.true_and]
        rw [e] at k
        exact k
      · rw [decide_eq_false h]
        refine iteF ?_
        have e : wi l m (.int i) = false := by
          show (decide (l ≤ i) && decide (i ≤ m)) = _
          rw [decide_eq_false h, Bool.false_and]
        rw [e] at k
        exact k
    | _ => exact iteF k
/-- a tuple is looked at item by item -/
def spAreWithin (K : PySem.W.Frag) : Sp := fun vs H Q _ => ∃ (a : Addr) (xs : List V) (l m : Int), vs = [.ref a, .int l, .int m] ∧ H a = some (.tup xs) ∧ xs.length ≤ 100000 ∧ (∀ x ∈ xs, Okv K H x) ∧ ∀ H', Same H H' → Q (.bl (xs.all (wi l m))) H'
theorem Okv.mono_int {H H' : Hp} {x : V} (h : isInt x = true) : Okv K H' x := .inl h
theorem TyOf.same {H H' : Hp} (s : Same H H') {x : V} {t : Value} (h : TyOf K H x t) : TyOf K H' x t := by
  cases h with
  | non => exact .non
  | bl x => exact .bl x
  | int i => exact .int i
  | str x => exact .str x
  | flt x => exact .flt x
  | lst e => exact .lst (s _ _ e)
  | frz e => exact .frz (s _ _ e)
  | tup e => exact .tup (s _ _ e)
  | dK e => exact .dK (s _ _ e)
  | dT e => exact .dT (s _ _ e)
  | ins e cl a b c d => exact .ins (s _ _ e) cl a b c d
theorem TyX.same {H H' : Hp} (s : Same H H') {x : V} {t : Value} (h : TyX K H x t) : TyX K H' x t := by
  cases h with
  | base h => exact .base (TyOf.same s h)
  | byt b => exact .byt b
  | set e => exact .set (s _ _ e)
  | kList e c => exact .kList e c
  | kTuple e c => exact .kTuple e c
  | kDict e c => exact .kDict e c
  | fTuple e => exact .fTuple (s _ _ e)
  | fDict e => exact .fDict (s _ _ e)
theorem Okv.same {H H' : Hp} (s : Same H H') {x : V} (h : Okv K H x) : Okv K H' x := by
  rcases h with h | ⟨h, t, ty, n⟩
  · exact .inl h
  · exact .inr ⟨h, t, TyX.same s ty, n⟩
theorem same_new {H : Hp} {p : Addr} {o : HO} (h : H p = none) : Same H (upd H p o) := fun b u e => by
  rw [upd_ne (ne_of_none e h)]
  exact e
/-- an own list was written -/
theorem same_at {H H1 : Hp} (s : Same H H1) {p : Addr} {o : HO} (h : H p = none) : Same H (upd H1 p o) := fun b u e => by
  rw [upd_ne (ne_of_none e h)]
  exact s b u e
theorem take_succ_map {α β : Type} (f : α → β) {xs : List α} {i : Nat} {x : α} (h : xs[i]? = some x) : (xs.take (i + 1)).map f = (xs.take i).map f ++ [f x] := by
  rw [List.take_add_one, h]
  simp
theorem size_ok {n : Nat} (h : n ≤ 100000) : n < sizeLine := by rw [sizeLine_eq]; omega
theorem sc_areWithin : FnScope ["thing", "least", "most", "item"] ["thing", "least", "most"] (defScope s_are_within) := ⟨rfl, rfl, rfl, by decide +kernel, rfl, by decide +kernel, by decide +kernel⟩
theorem ok_areWithin (B : Bts mg) (D1 : DefAt K mg "is_integer" s_is_integer ["thing"]) (D2 : DefAt K mg "is_within" s_is_within ["thing", "least", "most"]) (D : DefAt K mg "are_within" s_are_within ["thing", "least", "most"]) :
    FnOk P w K mg base CX0 3 D.f D.fd ["thing", "least", "most"] (spAreWithin K) := by
  refine D.F.ok sc_areWithin (fun vs H Q E h => ?_) (fun cdv A outer s H vs Q E hr h => ?_)
  · obtain ⟨a, xs, l, m, rfl, _⟩ := h
    rfl
  · obtain ⟨a, xs, l, m, rfl, ha, hlen, hok, k⟩ := h
    refine ⟨_, pss_one (ps_ret (pe_and (pe_callB call_isi (by rfl) B.isi boot_isinstance (pa_cons (pv 0) (pa_cons (pe_bltn (v := .ty "tuple") (by rfl) B.tuple PyProof.Rows.boot_tuple rfl) pa_nil)))
      (pe_one (pe_callB (cr_all rfl) (by rfl) B.all boot_all (pa_cons
        (pe_lc (own := [("item", 3)]) (g := gName 3) (tt := tYes) (by rfl) sc_areWithin.nd (pi_tup (pv 0)) (blkOk_by (N := ["thing", "least", "most", "item"]) (sc := defScope s_are_within) (by decide +kernel))
          (fun _ _ _ _ _ => pg_name (i := 3) sc_areWithin.nd rfl (Or.inl rfl)) (fun _ _ _ _ _ => pts_nil)
          (fun _ _ _ _ _ => pcl D2 (ok_within B D1 D2) hr (by rfl) (pa_cons (pv 3) (pa_cons (pv 1) (pa_cons (pv 2) pa_nil)))))
        pa_nil))))), ?_⟩
    refine ⟨_, rfl, _, _, _, _, _, rfl, ClsV.ty "tuple", TyX.base (TyOf.tup ha), kit_tup_tup, true, rfl, iteT ?_⟩
    refine ⟨_, rfl, a, rfl, ⟨xs, SqT.of ha⟩, fun D hD => ?_⟩
    refine lc_it (walk_tup (K := K) (a := a) (xs := xs)) (fun i H1 => Same H H1 ∧ H1 D = some (.lst ((xs.take i).map fun x => V.bl (wi l m x)))) ⟨same_new hD, upd_same⟩ (fun i H1 _ p => SqT.of (p.1 _ _ ha)) ?_ ?_
    · rintro i x H1 H1' hi ⟨s1, d1⟩ ⟨rfl, hx⟩
      refine ⟨rfl, _, rfl, _, rfl, _, rfl, _, l, m, rfl, (hok x (List.mem_of_getElem? hx)).same s1, ?_⟩
      refine ⟨_, d1, ?_, same_at s1 hD, ?_⟩
      · rw [List.length_map, List.length_take]
        exact size_ok (by omega)
      · rw [take_succ_map _ hx]
        exact upd_same
    · rintro H1 ⟨s1, d1⟩
      rw [List.take_of_length_le (Nat.le_refl _)] at d1
      refine ⟨D, xs.map (wi l m), rfl, SqL.of (by rw [d1, List.map_map]; rfl), ?_⟩
      have e : (xs.map (wi l m)).all id = xs.all (wi l m) := by
        rw [List.all_map]
        rfl
      rw [e]
      exact k H1 s1
end
end TX
set_option Elab.async false
set_option linter.all false
set_option maxRecDepth 100000
set_option maxHeartbeats 4000000
/-! W2: is_sized, is_lot, Web(reads). -/
namespace TX
open PySem PySem.Spec PyProof.Rows L2 RX WB
/-! ### lots in the heap -/
def numI (l : List Nat) : List Int := l.map fun (n : Nat) => ((n : Nat) : Int)
def vNs (l : List Nat) : List V := (numI l).map V.int
theorem vNs_len (l : List Nat) : (vNs l).length = l.length := by unfold vNs numI; rw [List.length_map, List.length_map]
theorem numI_len (l : List Nat) : (numI l).length = l.length := by unfold numI; rw [List.length_map]
theorem vNs_at {l : List Nat} {i : Nat} : (vNs l)[i]? = (l[i]?).map fun (n : Nat) => V.int ((n : Nat) : Int) := by
  unfold vNs numI
  rw [List.getElem?_map, List.getElem?_map]
  cases l[i]? <;> rfl
theorem vNs_get {l : List Nat} {i : Nat} {x : V} (h : (vNs l)[i]? = some x) : ∃ n : Nat, l[i]? = some n ∧ x = .int ((n : Nat) : Int) := by
  rw [vNs_at] at h
  cases e : l[i]? with
  | none => rw [e] at h; cases h
  | some n => rw [e] at h; exact ⟨n, rfl, (Option.some.inj h).symm⟩
theorem mem_vNs {l : List Nat} {x : V} (h : x ∈ vNs l) : ∃ n : Nat, n ∈ l ∧ x = .int ((n : Nat) : Int) := by
  unfold vNs numI at h
  rw [List.map_map] at h
  obtain ⟨n, hn, e⟩ := List.mem_map.mp h
  exact ⟨n, hn, e.symm⟩
abbrev LotAt (H : Hp) (a : Addr) (l : List Nat) : Prop := H a = some (.tup (vNs l))
structure ReadsAt (H : Hp) (T : Addr) (rs : List (List Nat)) : Prop where
  ex : ∃ as : List Addr, H T = some (.tup (as.map V.ref)) ∧ as.length = rs.length ∧ ∀ (j : Nat) (a : Addr) (l : List Nat), as[j]? = some a → rs[j]? = some l → LotAt H a l
theorem ReadsAt.same {H H' : Hp} {T : Addr} {rs : List (List Nat)} (h : ReadsAt H T rs) (s : Same H H') : ReadsAt H' T rs := by
  obtain ⟨as, h1, h2, h3⟩ := h.ex
  exact ⟨as, s _ _ h1, h2, fun j a l e1 e2 => s _ _ (h3 j a l e1 e2)⟩
/-- a web stands at x, its reads at T -/
structure WebAt (C : Addr) (H : Hp) (x T : Addr) (rs : List (List Nat)) : Prop where
  ob : ∃ dx, H x = some (.ins C dx [("reads", .ref T)])
  rd : ReadsAt H T rs
theorem WebAt.same {C : Addr} {H H' : Hp} {x T : Addr} {rs : List (List Nat)} (h : WebAt C H x T rs) (s : Same H H') : WebAt C H' x T rs := by
  obtain ⟨⟨dx, h1⟩, h2⟩ := h
  exact ⟨⟨dx, s _ _ h1⟩, h2.same s⟩
/-- the class Web as the top has made it -/
structure WebC (K : PySem.W.Frag) (mg : Str → Option Value) where
  C : Addr
  cl : Cls K C
  nR : NoAttr K C "reads"
  mgC : mg "Web" = some (.ref C)
  fI : Addr
  fdI : FuncData
  mkr : Mk K C fI
  FI : Fun K "__init__" "Web.__init__" s_Web_init fI fdI
  bI : Binds K fdI ["self", "reads"] []
def spSized (K : PySem.W.Frag) : Sp := fun vs H Q _ => ∃ (x : V) (l m : Int), vs = [x, .int l, .int m] ∧
  ((∃ a xs, x = .ref a ∧ H a = some (.tup xs) ∧ Q (.bl (decide (l ≤ (xs.length : Int)) && decide ((xs.length : Int) ≤ m))) H) ∨ (∃ t, TyX K H x t ∧ PySem.W.kitOne K t (.type "tuple") = some false ∧ Q (.bl false) H))
def spLot : Sp := fun vs H Q _ => ∃ (a : Addr) (ns : List Int) (below : Int), vs = [.ref a, .int below] ∧ H a = some (.tup (ns.map V.int)) ∧ ns.length ≤ 60 ∧
  ∀ (b : Bool) (H' : Hp), Same H H' → (b = true ↔ (∀ x ∈ ns, 0 ≤ x ∧ x < below) ∧ ns.Pairwise (· < ·)) → Q (.bl b) H'
/-! ### data -/
theorem dpAll_ints {K : PySem.W.Frag} {H : Hp} : ∀ ns : List Int, DpAll K H (ns.map V.int) (ns.map PyData.int)
  | [] => .nil
  | n :: ns => .cons (.int n) (dpAll_ints ns)
theorem eqvAll_ints : ∀ ns ms : List Int, PyData.eqvAll (ns.map PyData.int) (ms.map PyData.int) = decide (ns = ms)
  | [], [] => by simp [PyData.eqvAll]
  | [], _ :: _ => by simp [PyData.eqvAll]
  | _ :: _, [] => by simp [PyData.eqvAll]
  | n :: ns, m :: ms => by
    have ih := eqvAll_ints ns ms
    simp only [List.map_cons, PyData.eqvAll, PyData.eqv, ih]
    by_cases e : n = m
    · subst e
      by_cases e2 : ns = ms <;> simp [e2]
    · simp [e]
theorem lay_ints : ∀ ns : List Int, PyData.canLayAll0 (ns.map PyData.int) = true
  | [] => by simp [PyData.canLayAll0]
  | n :: ns => by simp [PyData.canLayAll0, PyData.canLay0, lay_ints ns]
theorem depth_ints : ∀ ns : List Int, PyData.depthAll (ns.map PyData.int) = 0
  | [] => by simp [PyData.depthAll]
  | n :: ns => by simp [PyData.depthAll, PyData.depth, depth_ints ns]
theorem shaped_ints (ns : List Int) : SeqAt.shaped (.list (ns.map PyData.int)) = true := by
  unfold SeqAt.shaped
  rw [PyData.canLay0, lay_ints, PyData.depth, depth_ints]
  rfl
theorem shaped_intsT (ns : List Int) : SeqAt.shaped (.tuple (ns.map PyData.int)) = true := by
  unfold SeqAt.shaped
  rw [PyData.canLay0, lay_ints, PyData.depth, depth_ints]
  rfl
section
variable {P : Program} {w : World} {K : PySem.W.Frag} {mg : Str → Option Value} {base : Heap}
theorem sc_sized : FnScope ["thing", "least", "most"] ["thing", "least", "most"] (defScope s_is_sized) := ⟨rfl, rfl, rfl, by decide +kernel, rfl, by decide +kernel, by decide +kernel⟩
theorem ok_sized (B : Bts mg) (D : DefAt K mg "is_sized" s_is_sized ["thing", "least", "most"]) : FnOk P w K mg base CX0 1 D.f D.fd ["thing", "least", "most"] (spSized K) := by
  refine D.F.ok sc_sized (fun vs H Q E h => ?_) (fun cdv A outer s H vs Q E hr h => ?_)
  · obtain ⟨x, l, m, rfl, _⟩ := h
    rfl
  · obtain ⟨x, l, m, rfl, h⟩ := h
    refine ⟨_, pss_one (ps_ret (pe_and (pe_callB call_isi (by rfl) B.isi boot_isinstance (pa_cons (pv 0) (pa_cons (pe_bltn (v := .ty "tuple") (by rfl) B.tuple PyProof.Rows.boot_tuple rfl) pa_nil)))
      (pe_one (pe_chain op_le op_le (pv 1) (pe_callB call_len_seq (by rfl) B.len PySem.boot_len (pa_cons (pv 0) pa_nil)) (pv 2))))), ?_⟩
    rcases h with ⟨a, xs, rfl, ha, k⟩ | ⟨t, ty, n, k⟩
    · refine ⟨_, rfl, _, _, _, _, _, rfl, ClsV.ty "tuple", TyX.base (TyOf.tup ha), kit_tup_tup, true, rfl, iteT ?_⟩
      refine ⟨_, rfl, _, rfl, a, xs, rfl, .inr (SqT.of ha), _, _, rfl, rfl, decide (l ≤ (xs.length : Int)), rfl, ?_⟩
      by_cases h : l ≤ (xs.length : Int)
      · rw [decide_eq_true h] at k ⊢
        rw [Bool.true_and] at k
        exact iteT ⟨_, rfl, _, _, rfl, rfl, k⟩
      · rw [decide_eq_false h] at k ⊢
        rw [Bool.false_and] at k
        exact iteF k
    · exact ⟨_, rfl, _, _, _, _, _, rfl, ClsV.ty "tuple", ty, n, false, rfl, iteF k⟩
theorem sc_lot : FnScope ["thing", "below"] ["thing", "below"] (defScope s_is_lot) := ⟨rfl, rfl, rfl, by decide +kernel, rfl, by decide +kernel, by decide +kernel⟩
theorem asc_of_set {ns ms : List Int} (h : ms.Pairwise (· < ·)) (hm : ∀ k, k ∈ ms ↔ k ∈ ns) : ns = ms ↔ ns.Pairwise (· < ·) := by
  constructor
  · intro e
    rw [e]
    exact h
  · intro h'
    have nd : ns.Nodup := List.Pairwise.imp (fun h => Int.ne_of_lt h) h'
    have nd' : ms.Nodup := List.Pairwise.imp (fun h => Int.ne_of_lt h) h
    have p : ns.Perm ms := by
      rw [List.perm_iff_count]
      intro a
      have c : ∀ {q : List Int}, q.Nodup → q.count a = if a ∈ q then 1 else 0 := fun {q} hq => by
        split
        · rename_i hq2
          have h1 := List.nodup_iff_count.mp hq a
          have h2 := List.count_pos_iff.mpr hq2
          omega
        · exact List.count_eq_zero_of_not_mem (by assumption)
      rw [c nd, c nd']
      by_cases ha : a ∈ ns
      · rw [if_pos ha, if_pos ((hm a).mpr ha)]
      · rw [if_neg ha, if_neg (fun z => ha ((hm a).mp z))]
    exact List.Perm.eq_of_pairwise (le := (· < ·)) (fun a b _ _ h1 h2 => absurd h1 (Int.lt_asymm h2)) h' h p
theorem ok_lot (B : Bts mg) (D1 : DefAt K mg "is_integer" s_is_integer ["thing"]) (D2 : DefAt K mg "is_within" s_is_within ["thing", "least", "most"]) (D3 : DefAt K mg "are_within" s_are_within ["thing", "least", "most"])
    (D : DefAt K mg "is_lot" s_is_lot ["thing", "below"]) : FnOk P w K mg base CX0 4 D.f D.fd ["thing", "below"] spLot := by
  refine D.F.ok sc_lot (fun vs H Q E h => ?_) (fun cdv A outer s H vs Q E hr h => ?_)
  · obtain ⟨a, ns, b, rfl, _⟩ := h
    rfl
  · obtain ⟨a, ns, b, rfl, ha, hlen, k⟩ := h
    refine ⟨_, pss_one (ps_ret (pe_and (pcl D3 (ok_areWithin B D1 D2 D3) hr (by rfl) (pa_cons (pv 0) (pa_cons pe_int (pa_cons (pe_op op_sub (pv 1) pe_int) pa_nil))))
      (pe_one (pe_cmpR (op_eqD hr.units) (pe_callTy call_list_of (by rfl) B.list PyProof.Rows.boot_list (pa_cons (pv 0) pa_nil))
        (pe_callB (cr_sortedSet rfl) (by rfl) B.sorted boot_sorted (pa_cons (pe_callTy (cr_setT rfl) (by rfl) B.set PyProof.Rows.boot_set (pa_cons (pv 0) pa_nil)) pa_nil)) (nomark _))))), ?_⟩
    refine ⟨_, rfl, _, rfl, _, _, rfl, rfl, a, ns.map V.int, 0, b - 1, rfl, ha, ?_, ?_, fun H1 s1 => ⟨_, rfl, ?_⟩⟩
    · rw [List.length_map]
      omega
    · intro x hx
      obtain ⟨n, _, rfl⟩ := List.mem_map.mp hx
      exact okv_int n
    have ew : ((ns.map V.int).all (wi 0 (b - 1)) = true) ↔ ∀ x ∈ ns, 0 ≤ x ∧ x < b := by
      rw [List.all_map, List.all_eq_true]
      constructor
      · intro h x hx
        have := h x hx
        have e : (wi 0 (b - 1) ∘ V.int) x = (decide (0 ≤ x) && decide (x ≤ b - 1)) := rfl
        rw [e] at this
        simp at this
        omega
      · intro h x hx
        have := h x hx
        show (decide (0 ≤ x) && decide (x ≤ b - 1)) = true
        simp
        omega
    cases hall : (ns.map V.int).all (wi 0 (b - 1)) with
    | false =>
      refine iteF ?_
      refine k false H1 s1 ⟨fun z => (nomatch z), fun z => ?_⟩
      have := ew.mpr z.1
      rw [hall] at this
      cases this
    | true =>
      refine iteT ?_
      have hin := ew.mp hall
      refine ⟨_, rfl, a, ns.map V.int, rfl, .inr (SqT.of (s1 _ _ ha)), fun L hL => ?_⟩
      have s2 : Same H (upd H1 L (.lst (ns.map V.int))) := s1.trans (same_new hL)
      refine ⟨_, rfl, a, ns, rfl, SqT.of (s2 _ _ ha), by unfold scanBound; omega, fun S c hc hS => ?_⟩
      have s3 : Same H (upd (upd H1 L (.lst (ns.map V.int))) S (SetO w S (fun j => decide (j ∈ ns)) c)) := s2.trans (same_new hS)
      refine ⟨S, _, c, rfl, upd_same, by omega, fun ms p hms hmem hml hp => ?_⟩
      have s4 : Same H (upd (upd (upd H1 L (.lst (ns.map V.int))) S (SetO w S (fun j => decide (j ∈ ns)) c)) p (.lst (ms.map V.int))) := s3.trans (same_new hp)
      have hLp : L ≠ p := ne_of_none (by rw [upd_ne (ne_of_none upd_same hS)]; exact upd_same) hp
      refine ⟨.list (ns.map PyData.int), .list (ms.map PyData.int), .lst (SqL.of (xs := ns.map V.int) ?_) (dpAll_ints ns), .lst (SqL.of (xs := ms.map V.int) upd_same) (dpAll_ints ms), shaped_ints ns, shaped_ints ms, ?_⟩
      · rw [upd_ne hLp, upd_ne (ne_of_none upd_same hS)]
        exact upd_same
      · rw [PyData.eqv, eqvAll_ints]
        refine k _ _ s4 ?_
        rw [decide_eq_true_eq, asc_of_set hms (fun q => by rw [hmem q, decide_eq_true_eq])]
        exact ⟨fun z => ⟨hin, z⟩, fun z => z.2⟩
end
end TX
set_option Elab.async false
set_option linter.all false
set_option maxRecDepth 100000
set_option maxHeartbeats 4000000
/-! W3: Web(reads), may_be_made, behind_move. -/
namespace TX
open PySem PySem.Spec PyProof.Rows L2 RX WB
theorem walk_enumT {K : PySem.W.Frag} {a : Addr} {xs : List V} : Walk (IteT K a) xs.length (fun H => SqT K H a xs) (YPair (fun i => some (.int (i : Nat))) (fun i => xs[i]?)) := by
  refine ⟨fun i _ hi q => ⟨xs, xs[i], q, by simp [hi]⟩, fun _ q => ⟨xs, q, rfl⟩, fun i H v H' _ q y => ?_⟩
  obtain ⟨T, x, h1, h2, h3, h4⟩ := y
  exact ⟨T, .int (i : Nat), x, h1, h2, h3, rfl, h4 xs q⟩
/-- the defs of checks -/
structure Chk (K : PySem.W.Frag) (mg : Str → Option Value) where
  B : Bts mg
  d1 : DefAt K mg "is_integer" s_is_integer ["thing"]
  d2 : DefAt K mg "is_within" s_is_within ["thing", "least", "most"]
  d3 : DefAt K mg "are_within" s_are_within ["thing", "least", "most"]
  d4 : DefAt K mg "is_lot" s_is_lot ["thing", "below"]
  d5 : DefAt K mg "is_sized" s_is_sized ["thing", "least", "most"]
  most : ∃ t, mg "MOST_THINGS" = some (.int 10 t)
def spWebInit (C : Addr) : Sp := fun vs H Q _ => ∃ (x dx T : Addr) (rs : List (List Nat)), vs = [.ref x, .ref T] ∧ H x = some (.ins C dx []) ∧ ReadsAt H T rs ∧ Good rs ∧
  ∀ H', WebAt C H' x T rs → (∀ b o, H b = some o → b ≠ x → H' b = some o) → Q .non H'
theorem asc_num {l : List Nat} : (numI l).Pairwise (· < ·) ↔ Asc l := by
  unfold numI
  rw [List.pairwise_map]
  constructor
  · exact fun h => List.Pairwise.imp (fun h => by omega) h
  · exact fun h => List.Pairwise.imp (fun h => by omega) h
theorem mem_num {l : List Nat} {x : Int} : x ∈ numI l ↔ ∃ n : Nat, n ∈ l ∧ x = (n : Int) := by
  unfold numI
  rw [List.mem_map]
  exact ⟨fun ⟨n, a, b⟩ => ⟨n, a, b.symm⟩, fun ⟨n, a, b⟩ => ⟨n, a, b.symm⟩⟩
theorem lot_right {rs : List (List Nat)} (g : Good rs) {j : Nat} {l : List Nat} (h : rs[j]? = some l) : (∀ x ∈ numI l, 0 ≤ x ∧ x < (j : Int)) ∧ (numI l).Pairwise (· < ·) := by
  obtain ⟨h1, h2⟩ := g.asc j l h
  refine ⟨fun x hx => ?_, asc_num.mpr h1⟩
  obtain ⟨n, hn, rfl⟩ := mem_num.mp hx
  have := h2 n hn
  omega
theorem good_small {rs : List (List Nat)} (g : Good rs) {j : Nat} {l : List Nat} (h : rs[j]? = some l) : l.length ≤ 10 := by
  obtain ⟨h1, h2⟩ := g.asc j l h
  have hj := (List.getElem?_eq_some_iff.mp h).1
  have := (show Valid j l from ⟨h1, h2⟩).len
  have := g.le
  omega
section
variable {P : Program} {w : World} {K : PySem.W.Frag} {mg : Str → Option Value} {base : Heap}
theorem sc_webInit : FnScope ["self", "reads", "number", "lot"] ["self", "reads"] (defScope s_Web_init) := ⟨rfl, rfl, rfl, by decide +kernel, rfl, by decide +kernel, by decide +kernel⟩
theorem ok_webInit (Z : Chk K mg) (W : WebC K mg) : FnOk P w K mg base CX0 5 W.fI W.fdI ["self", "reads"] (spWebInit W.C) := by
  obtain ⟨tm, hM⟩ := Z.most
  refine W.FI.ok sc_webInit (fun vs H Q E h => ?_) (fun cdv A outer s H vs Q E hr h => ?_)
  · obtain ⟨x, dx, T, rs, rfl, _⟩ := h
    rfl
  · obtain ⟨x, dx, T, rs, rfl, hx, hR, g, k⟩ := h
    obtain ⟨as, hT, hal, hat⟩ := hR.ex
    refine ⟨_, pss_cons (ps_if (pt_not (pt_val (pcl Z.d5 (ok_sized Z.B Z.d5) (hr.mono (by decide)) (by rfl) (pa_cons (pv 1) (pa_cons pe_int (pa_cons (pe_glob (v := .int 10) rfl hM ⟨_, rfl⟩) pa_nil)))))) (pss_one ps_never) pss_nil)
      (pss_cons (ps_for PassesOwn.never rfl (pi_enumT (by rfl) Z.B.enum (pa_cons (pv 1) pa_nil)) (pg_tup rfl (pgs_cons (pg_name (i := 2) sc_webInit.nd rfl (.inl rfl)) (pgs_cons (pg_name (i := 3) sc_webInit.nd rfl (.inl rfl)) pgs_nil)))
        (pss_one (ps_if (pt_not (pt_val (pcl Z.d4 (ok_lot Z.B Z.d1 Z.d2 Z.d3 Z.d4) hr (by rfl) (pa_cons (pv 3) (pa_cons (pv 2) pa_nil))))) (pss_one ps_never) pss_nil)))
      (pss_one (ps_fld (pv 0) (pv 1) rfl))), ?_⟩
    -- is_sized(reads, 1, MOST_THINGS)
    have hlen : (as.map V.ref).length = rs.length := by rw [List.length_map, hal]
    refine ⟨_, rfl, .ref T, 1, 10, rfl, .inl ⟨T, _, rfl, hT, ?_⟩⟩
    have g1 := g.pos
    have g2 := g.le
    have hd : (decide ((1 : Int) ≤ ((as.map V.ref).length : Int)) && decide (((as.map V.ref).length : Int) ≤ 10)) = true := by
      rw [hlen, decide_eq_true (by omega), decide_eq_true (by omega)]
      rfl
    refine ⟨true, congrArg V.bl hd, iteF ?_⟩
    -- for number, lot in enumerate(reads)
    refine ⟨_, rfl, T, as.map V.ref, rfl, SqT.of hT, ?_⟩
    refine for_it (walk_enumT (K := K) (a := T) (xs := as.map V.ref)) (fun i σ H1 => ∃ v2 v3 : Option V, σ = [some (.ref x), some (.ref T), v2, v3] ∧ Same H H1) ⟨none, none, rfl, Same.refl H⟩ (fun i σ H1 _ ⟨_, _, _, s1⟩ => SqT.of (s1 _ _ hT)) ?_ ?_
    · rintro i y σ H1 H1' hi ⟨v2, v3, rfl, s1⟩ ⟨p, a, b, rfl, hp, rfl, e1, e2⟩
      cases e1
      have e2' : (as.map V.ref)[i]? = some b := e2
      rw [List.getElem?_map] at e2'
      obtain ⟨c, hc, rfl⟩ := Option.map_eq_some_iff.mp e2'
      have hir : i < rs.length := by rw [← hlen]; exact hi
      have hrs := at_lot hir
      have s2 : Same H (upd H1 p (.tup [.int (i : Nat), .ref c])) := s1.trans (same_new hp)
      refine ⟨p, _, rfl, SqT.of upd_same, rfl, _, _, rfl, _, _, rfl, rfl, ?_⟩
      refine ⟨_, rfl, _, rfl, c, numI (lot rs i), (i : Nat), rfl, s2 _ _ (hat i c _ hc hrs), by rw [numI_len]; have := good_small g hrs; omega, fun b H2 s3 hb => ?_⟩
      have hbt : b = true := hb.mpr (lot_right g hrs)
      subst hbt
      exact ⟨true, rfl, iteF ⟨_, _, rfl, s2.trans s3⟩⟩
    · rintro σ H1 ⟨v2, v3, rfl, s1⟩
      -- self.reads = reads
      refine ⟨_, rfl, _, rfl, x, W.C, dx, [], rfl, s1 _ _ hx, W.cl, W.nR, (by show 0 < 1000; decide), ?_⟩
      have hxT : T ≠ x := ne_of hT hx (by intro z; cases z)
      refine k _ ⟨⟨dx, upd_same⟩, ⟨as, by rw [upd_ne hxT]; exact s1 _ _ hT, hal, fun j a l ha hl => ?_⟩⟩ fun b o e hb => ?_
      · have q := hat j a l ha hl
        show upd _ _ _ _ = _
        rw [upd_ne (ne_of q hx (by intro z; cases z))]
        exact s1 _ _ q
      · rw [upd_ne hb]
        exact s1 _ _ e
end
end TX
set_option Elab.async false
set_option linter.all false
set_option maxRecDepth 100000
set_option maxHeartbeats 4000000
/-! W4: may_be_made, behind_move. -/
namespace TX
open PySem PySem.Spec PyProof.Rows L2 RX WB
/-! ### lots as values -/
theorem vNs_flat (l : List Nat) : (vNs l).all flatV = true := by
  rw [List.all_eq_true]
  intro x hx
  obtain ⟨n, _, rfl⟩ := mem_vNs hx
  rfl
theorem inV_vNs (l : List Nat) (t : Nat) : inV (.int (t : Int)) (vNs l) = l.contains t := by
  induction l with
  | nil => rfl
  | cons x l ih =>
    have e : inV (.int (t : Int)) (vNs (x :: l)) = ((((x : Nat) : Int) == (t : Int)) || inV (.int (t : Int)) (vNs l)) := rfl
    rw [e, ih, List.contains_cons]
    have e2 : (((x : Nat) : Int) == (t : Int)) = (t == x) := by
      rw [Bool.eq_iff_iff, beq_iff_eq, beq_iff_eq]
      omega
    rw [e2]
theorem vNs_append (a b : List Nat) : vNs (a ++ b) = vNs a ++ vNs b := by
  unfold vNs numI
  rw [List.map_append, List.map_append]
theorem numI_append (a b : List Nat) : numI (a ++ b) = numI a ++ numI b := by
  unfold numI
  rw [List.map_append]
/-- a sorted arrangement of a lot's numbers is the sorted lot -/
theorem num_srt {ns : List Int} {q : List Nat} (h : ns.Perm (numI q)) (s : ns.Pairwise (· ≤ ·)) : ns = numI (srt q) := by
  have p2 : ns.Perm (numI (srt q)) := h.trans ((srt_perm q).symm.map _)
  have s2 : (numI (srt q)).Pairwise (· ≤ ·) := by
    unfold numI
    rw [List.pairwise_map]
    exact List.Pairwise.imp (fun h => by omega) (srt_le q)
  exact List.Perm.eq_of_pairwise (le := (· ≤ ·)) (fun a b _ _ h1 h2 => Int.le_antisymm h1 h2) s s2 p2
/-! ### moves in the heap -/
def MvAt (H : Hp) (m : Addr) : Mv → Prop
  | .clear t => H m = some (.tup [.str "clear", .int (t : Nat)])
  | .fill t => H m = some (.tup [.str "fill", .int (t : Nat)])
  | .slide t o => H m = some (.tup [.str "slide", .int (t : Nat), .int (o : Nat)])
theorem MvAt.same {H H' : Hp} {m : Addr} {v : Mv} (h : MvAt H m v) (s : Same H H') : MvAt H' m v := by
  cases v with
  | clear t => exact s _ _ h
  | fill t => exact s _ _ h
  | slide t o => exact s _ _ h
def spMay (C : Addr) : Sp := fun vs H Q _ => ∃ (x T a : Addr) (rs : List (List Nat)) (l : List Nat) (t : Nat), vs = [.ref x, .ref a, .int (t : Nat)] ∧ WebAt C H x T rs ∧ WB.Good rs ∧ LotAt H a l ∧ l.length ≤ 1000 ∧ t < rs.length ∧
  ∀ H', Same H H' → Q (.bl (mayB rs l t)) H'
def spBehind (C : Addr) : Sp := fun vs H Q _ => ∃ (x T a m : Addr) (rs : List (List Nat)) (l : List Nat) (v : Mv), vs = [.ref x, .ref a, .ref m] ∧ WebAt C H x T rs ∧ WB.Good rs ∧ LotAt H a l ∧ l.length ≤ 20 ∧ MvAt H m v ∧ v.thing < rs.length ∧
  (∀ H', Same H H' → after rs l v = none → Q .non H') ∧ ∀ (H' : Hp) (b : Addr) (l' : List Nat), Same H H' → after rs l v = some l' → LotAt H' b l' → Q (.ref b) H'
section
variable {P : Program} {w : World} {K : PySem.W.Frag} {mg : Str → Option Value} {base : Heap}
theorem sc_may : FnScope ["web", "here", "thing", "other"] ["web", "here", "thing"] (defScope s_may_be_made) := ⟨rfl, rfl, rfl, by decide +kernel, rfl, by decide +kernel, by decide +kernel⟩
theorem all_take {α : Type} (f : α → Bool) (l : List α) : (l.map f).all id = l.all f := by
  rw [List.all_map]
  rfl
theorem WebAt.lot {C : Addr} {H : Hp} {x T : Addr} {rs : List (List Nat)} (W : WebAt C H x T rs) {t : Nat} (ht : t < rs.length) :
    ∃ (dx : Addr) (as : List Addr) (c : Addr), H x = some (.ins C dx [("reads", .ref T)]) ∧ H T = some (.tup (as.map V.ref)) ∧ as.length = rs.length ∧ (as.map V.ref)[t]? = some (.ref c) ∧ LotAt H c (lot rs t) := by
  obtain ⟨⟨dx, hx⟩, ⟨as, hT, hl, hat⟩⟩ := W
  have hta : t < as.length := by omega
  refine ⟨dx, as, as[t], hx, hT, hl, by rw [List.getElem?_map, List.getElem?_eq_getElem hta]; rfl, hat t _ _ (List.getElem?_eq_getElem hta) (at_lot ht)⟩
theorem lookup_reads (v : V) : ([("reads", v)] : List (Str × V)).lookup ("reads" : Str) = some v := by
  rw [List.lookup_cons]
  have : (("reads" : Str) == ("reads" : Str)) = true := by decide +kernel
  rw [this]
theorem ok_may (B : Bts mg) (W : WebC K mg) (D : DefAt K mg "may_be_made" s_may_be_made ["web", "here", "thing"]) : FnOk P w K mg base CX0 1 D.f D.fd ["web", "here", "thing"] (spMay W.C) := by
  refine D.F.ok sc_may (fun vs H Q E h => ?_) (fun cdv A outer s H vs Q E hr h => ?_)
  · obtain ⟨x, T, a, rs, l, t, rfl, _⟩ := h
    rfl
  · obtain ⟨x, T, a, rs, l, t, rfl, hW, g, ha, hl, ht, k⟩ := h
    obtain ⟨dx, as, c, hx, hT, hal, hc, hL⟩ := hW.lot ht
    refine ⟨_, pss_one (ps_ret (pe_and (pe_cmpR op_notIn_seq (pv 2) (pv 1) (by rfl)) (pe_one (pe_callB (cr_all rfl) (by rfl) B.all boot_all (pa_cons
        (pe_lc (own := [("other", 3)]) (g := gName 3) (tt := tYes) (te := tOp (rIn K false) (tVar 3) (tVar 1)) (by rfl) sc_may.nd (pi_tup (pe_ix ix_tup (pe_fld (pv 0) rfl) (pv 2) (fun _ _ => rfl))) (blkOk_by (N := ["web", "here", "thing", "other"]) (sc := defScope s_may_be_made) (by decide +kernel))
          (fun _ _ _ _ _ => pg_name (i := 3) sc_may.nd rfl (Or.inl rfl)) (fun _ _ _ _ _ => pts_nil)
          (fun _ _ _ _ _ => pe_cmpR op_in_seq (pv 3) (pv 1) (by rfl)))
        pa_nil))))), ?_⟩
    refine ⟨_, rfl, _, rfl, a, vNs l, rfl, .inr (SqT.of ha), rfl, vNs_flat l, !inV (.int (t : Nat)) (vNs l), rfl, ?_⟩
    rw [inV_vNs]
    have em : mayB rs l t = (!l.contains t && (lot rs t).all fun o => l.contains o) := rfl
    rw [em] at k
    cases e0 : l.contains t with
    | true =>
      rw [e0] at k
      exact iteF (k H (Same.refl H))
    | false =>
      rw [e0] at k
      refine iteT ?_
      refine ⟨_, rfl, x, W.C, dx, _, _, rfl, hx, W.cl, W.nR, lookup_reads _, _, rfl, T, _, _, _, rfl, rfl, SqT.of hT, atI_nat hc, c, rfl, ⟨_, SqT.of hL⟩, fun D hD => ?_⟩
      refine lc_it (walk_tup (K := K) (a := c) (xs := vNs (lot rs t))) (fun i H1 => Same H H1 ∧ H1 D = some (.lst (((lot rs t).take i).map fun o => V.bl (l.contains o)))) ⟨same_new hD, upd_same⟩ (fun i H1 _ p => SqT.of (p.1 _ _ hL)) ?_ ?_
      · rintro i y H1 H1' hi ⟨s1, d1⟩ ⟨rfl, hy⟩
        obtain ⟨o, ho, rfl⟩ := vNs_get hy
        have hsm : (lot rs t).length ≤ 10 := good_small g (at_lot ht)
        refine ⟨rfl, _, rfl, _, rfl, a, vNs l, rfl, .inr (SqT.of (s1 _ _ ha)), rfl, vNs_flat l, ?_⟩
        refine ⟨_, d1, ?_, same_at s1 hD, ?_⟩
        · rw [List.length_map, List.length_take]
          exact size_ok (by omega)
        · rw [take_succ_map _ ho]
          show upd _ _ (.lst (_ ++ [V.bl (inV (.int (o : Nat)) (vNs l))])) D = _
          rw [inV_vNs]
          exact upd_same
      · rintro H1 ⟨s1, d1⟩
        rw [vNs_len, List.take_of_length_le (Nat.le_refl _)] at d1
        refine ⟨D, (lot rs t).map (fun o => l.contains o), rfl, SqL.of (by rw [d1, List.map_map]; rfl), ?_⟩
        rw [all_take]
        exact k H1 s1
end
end TX
set_option Elab.async false
set_option linter.all false
set_option maxRecDepth 100000
set_option maxHeartbeats 4000000
/-! W5: behind_move. -/
namespace TX
open PySem PySem.Spec PyProof.Rows L2 RX WB
theorem iteD {c A B : Prop} [Decidable c] (h : c) (x : A) : if decide c = true then A else B := by
  rw [decide_eq_true h]
  exact iteT x
theorem iteN {c A B : Prop} [Decidable c] (h : ¬ c) (x : B) : if decide c = true then A else B := by
  rw [decide_eq_false h]
  exact iteF x
theorem ne_cf : ¬ (V.str "clear" = V.str "fill") := by decide +kernel
theorem ne_fc : ¬ (V.str "fill" = V.str "clear") := by decide +kernel
theorem ne_sc : ¬ (V.str "slide" = V.str "clear") := by decide +kernel
theorem ne_sf : ¬ (V.str "slide" = V.str "fill") := by decide +kernel
theorem after_none_clear {rs : List (List Nat)} {l : List Nat} {t : Nat} (h : l.contains t = false) : after rs l (.clear t) = none := by
  show (if l.contains t = true then some (drop l t) else none) = none
  rw [if_neg (by rw [h]; decide)]
theorem after_none_may {rs : List (List Nat)} {l : List Nat} {v : Mv} (h : mayB rs l v.thing = false) (hv : ∀ t, v ≠ .clear t) : after rs l v = none := by
  cases v with
  | clear t => exact absurd rfl (hv t)
  | fill t =>
    show (if mayB rs l t = true then some (srt (l ++ [t])) else none) = none
    rw [if_neg (by rw [show mayB rs l t = false from h]; decide)]
  | slide t o =>
    show (if (mayB rs l t && (lot rs t).contains o) = true then some (srt (drop l o ++ [t])) else none) = none
    rw [if_neg (by rw [show mayB rs l t = false from h]; simp)]
theorem take_filter_yes {l : List Nat} {i n : Nat} {p : Nat → Bool} (h : l[i]? = some n) (hp : p n = true) : (l.take (i + 1)).filter p = (l.take i).filter p ++ [n] := by
  rw [List.take_add_one, h, List.filter_append]
  simp [hp]
theorem take_filter_no {l : List Nat} {i n : Nat} {p : Nat → Bool} (h : l[i]? = some n) (hp : p n = false) : (l.take (i + 1)).filter p = (l.take i).filter p := by
  rw [List.take_add_one, h, List.filter_append]
  simp [hp]
theorem filter_small {l : List Nat} {p : Nat → Bool} {n i : Nat} (h : l.length ≤ n) : ((l.take i).filter p).length ≤ n := by
  have h1 := List.length_filter_le p (l.take i)
  have h2 : (l.take i).length ≤ l.length := by rw [List.length_take]; omega
  omega
section
variable {P : Program} {w : World} {K : PySem.W.Frag} {mg : Str → Option Value} {base : Heap}
theorem sc_behind : FnScope ["web", "here", "move", "thing", "other"] ["web", "here", "move"] (defScope s_behind_move) := ⟨rfl, rfl, rfl, by decide +kernel, rfl, by decide +kernel, by decide +kernel⟩
theorem ne_dec (n t : Nat) : (!decide (V.int (n : Int) = V.int (t : Int))) = (n != t) := by
  by_cases h : n = t
  · subst h
    simp
  · have h' : ¬ (V.int (n : Int) = V.int (t : Int)) := fun z => h (by injection z; omega)
    rw [decide_eq_false h']
    simp [h]
/-- the web's defs -/
structure Wbs (K : PySem.W.Frag) (mg : Str → Option Value) where
  Z : Chk K mg
  W : WebC K mg
  e1 : DefAt K mg "may_be_made" s_may_be_made ["web", "here", "thing"]
  e2 : DefAt K mg "behind_move" s_behind_move ["web", "here", "move"]
/-- [other for other in here if other != n] of a lot: what it reads -/
theorem lc_drop {K : PySem.W.Frag} {a : Addr} {l : List Nat} {t : Nat} {te : TE} {σ : L2.St} {H H1 : Hp} {D : Addr} {Qd : Hp → Prop} {tt : TT} {vs : List Nat} (hD : H1 D = none) (sH : Same H H1) (ha : LotAt H a l) (hl : l.length ≤ 1000)
    (hw : ∀ n : Nat, wipe ((wipe σ vs).set 4 (some (.int (n : Nat)))) vs = wipe σ vs)
    (ht : ∀ (n : Nat) (H2 : Hp) (R : Bool → Hp → Prop), Same H H2 → R (n != t) H2 → tt ((wipe σ vs).set 4 (some (.int (n : Nat)))) H2 R)
    (he : ∀ (n : Nat) (H2 : Hp) (R : VK), Same H H2 → R (.int (n : Nat)) H2 → te ((wipe σ vs).set 4 (some (.int (n : Nat)))) H2 R)
    (hd : ∀ H2, Same H H2 → H2 D = some (.lst (vNs (drop l t))) → Qd H2) :
    ∃ W : Nat → Nat → Hp → Prop, (∃ m, W 0 m (upd H1 D (.lst []))) ∧ ∀ i m H, W i m H →
      ((Itt K a).stop i H ∧ Qd H) ∨ ((Itt K a).go i H ∧ ∃ Nx : Hp → Prop, (∀ H', Nx H' → ∃ m', m' < m ∧ W (i + 1) m' H') ∧ ∀ x H', (Itt K a).yld i H x H' → gName 4 x (wipe σ vs) H' fun σ2 H2 => wipe σ2 vs = wipe σ vs ∧ tt σ2 H2 fun b H3 =>
        if b = true then te σ2 H3 fun y H4 => ∃ acc, H4 D = some (.lst acc) ∧ acc.length < sizeLine ∧ Nx (upd H4 D (.lst (acc ++ [y]))) else Nx H3) := by
  have hD0 : H D = none := sH.free hD
  refine lc_it (walk_tup (K := K) (a := a) (xs := vNs l)) (fun i H2 => Same H H2 ∧ H2 D = some (.lst (vNs ((l.take i).filter (· != t))))) ⟨same_at sH hD0, upd_same⟩ (fun i H2 _ p => SqT.of (p.1 _ _ ha)) ?_ ?_
  · rintro i y H2 H2' hi ⟨s1, d1⟩ ⟨rfl, hy⟩
    obtain ⟨n, hn, rfl⟩ := vNs_get hy
    refine ⟨hw n, ht n _ _ s1 ?_⟩
    cases hp : (n != t) with
    | true =>
      refine iteT (he n _ _ s1 ⟨_, d1, ?_, same_at s1 hD0, ?_⟩)
      · rw [vNs_len]
        have := filter_small (p := (· != t)) (i := i) hl
        exact size_ok (by omega)
      · rw [take_filter_yes hn hp, vNs_append]
        exact upd_same
    | false =>
      refine iteF ⟨s1, ?_⟩
      rw [take_filter_no hn hp]
      exact d1
  · rintro H2 ⟨s1, d1⟩
    rw [vNs_len, List.take_of_length_le (Nat.le_refl _)] at d1
    exact hd H2 s1 d1
theorem ok_behind (S : Wbs K mg) : FnOk P w K mg base CX0 2 S.e2.f S.e2.fd ["web", "here", "move"] (spBehind S.W.C) := by
  have B := S.Z.B
  refine S.e2.F.ok sc_behind (fun vs H Q E h => ?_) (fun cdv A outer s H vs Q E hr h => ?_)
  · obtain ⟨x, T, a, m, rs, l, v, rfl, _⟩ := h
    rfl
  · obtain ⟨x, T, a, m, rs, l, v, rfl, hW, g, ha, hl, hm, ht, k0, k1⟩ := h
    have GM : FnOk P w K mg base CX0 1 S.e1.f S.e1.fd ["web", "here", "thing"] (spMay S.W.C) := ok_may B S.W S.e1
    refine ⟨_, pss_cons (ps_set (i := 3) sc_behind.nd rfl (Or.inr rfl) (pe_ix ix_tup (pv 2) pe_int (fun _ _ => rfl)))
      (pss_cons (ps_if (pt_cmpR op_eq (pe_ix ix_tup (pv 2) pe_int (fun _ _ => rfl)) pe_str (nomark _))
        (pss_one (ps_ret (pe_ifExp (pt_cmpR op_in_seq (pv 3) (pv 1) (by rfl)) (pe_callTy call_tuple_of (by rfl) B.tuple PyProof.Rows.boot_tuple (pa_cons
          (pe_lc (own := [("other", 4)]) (g := gName 4) (tt := tTest (tOp rNe (tVar 4) (tVar 3))) (te := tVar 4) (by rfl) sc_behind.nd (pi_tup (pv 1)) (blkOk_by (N := ["web", "here", "move", "thing", "other"]) (sc := defScope s_behind_move) (by decide +kernel))
            (fun _ _ _ _ _ => pg_name (i := 4) sc_behind.nd rfl (Or.inl rfl)) (fun _ _ _ _ _ => pts_one (pt_cmpR op_ne (pv 4) (pv 3) (nomark _))) (fun _ _ _ _ _ => pv 4)) pa_nil)) pe_non))) pss_nil)
      (pss_cons (ps_if (pt_not (pt_val (pcl S.e1 GM hr (by rfl) (pa_cons (pv 0) (pa_cons (pv 1) (pa_cons (pv 3) pa_nil)))))) (pss_one (ps_ret pe_non)) pss_nil)
      (pss_cons (ps_if (pt_cmpR op_eq (pe_ix ix_tup (pv 2) pe_int (fun _ _ => rfl)) pe_str (nomark _))
        (pss_one (ps_ret (pe_callTy call_tuple_of (by rfl) B.tuple PyProof.Rows.boot_tuple (pa_cons (pe_callB cr_sortedTI (by rfl) B.sorted boot_sorted (pa_cons (pe_op op_catA (pv 1) (pe_tup (pa_cons (pv 3) pa_nil))) pa_nil)) pa_nil)))) pss_nil)
      (pss_cons (ps_if (pt_cmpR op_notIn_seq (pe_ix ix_tup (pv 2) pe_int (fun _ _ => rfl)) (pe_ix ix_tup (pe_fld (pv 0) rfl) (pv 3) (fun _ _ => rfl)) (by rfl)) (pss_one (ps_ret pe_non)) pss_nil)
      (pss_one (ps_ret (pe_callTy call_tuple_of (by rfl) B.tuple PyProof.Rows.boot_tuple (pa_cons (pe_callB cr_sorted (by rfl) B.sorted boot_sorted (pa_cons (pe_op op_cat
          (pe_lc (own := [("other", 4)]) (g := gName 4) (tt := tTest (tOp rNe (tVar 4) (tOp (rIxT K) (tVar 2) (tC (.int 2))))) (te := tVar 4) (by rfl) sc_behind.nd (pi_tup (pv 1)) (blkOk_by (N := ["web", "here", "move", "thing", "other"]) (sc := defScope s_behind_move) (by decide +kernel))
            (fun _ _ _ _ _ => pg_name (i := 4) sc_behind.nd rfl (Or.inl rfl)) (fun _ _ _ _ _ => pts_one (pt_cmpR op_ne (pv 4) (pe_ix ix_tup (pv 2) pe_int (fun _ _ => rfl)) (nomark _))) (fun _ _ _ _ _ => pv 4))
          (pe_lst (pa_cons (pv 3) pa_nil))) pa_nil)) pa_nil)))))))), ?_⟩
    cases v with
    | clear t =>
      have hm : H m = some (.tup [.str "clear", .int (t : Nat)]) := hm
      refine ⟨_, rfl, m, _, _, _, rfl, rfl, SqT.of hm, rfl, ?_⟩
      refine ⟨_, rfl, m, _, _, _, rfl, rfl, SqT.of hm, rfl, rfl, _, rfl, iteD rfl ?_⟩
      refine ⟨_, rfl, _, rfl, a, vNs l, rfl, .inr (SqT.of ha), rfl, vNs_flat l, inV (.int (t : Nat)) (vNs l), rfl, ?_⟩
      rw [inV_vNs]
      cases e0 : l.contains t with
      | false => exact iteF (k0 H (Same.refl H) (after_none_clear e0))
      | true =>
        refine iteT ⟨_, rfl, a, rfl, ⟨_, SqT.of ha⟩, fun D hD => ?_⟩
        refine lc_drop (l := l) (t := t) hD (Same.refl H) ha (by omega) (fun n => rfl) (fun n H2 R s1 r => ⟨_, rfl, _, rfl, rfl, _, rfl, ?_⟩) (fun n H2 R s1 r => ⟨_, rfl, r⟩) fun H2 s1 d1 => ?_
        · rw [ne_dec]
          exact r
        · exact ⟨D, _, rfl, .inl ⟨SqL.of d1, fun b hb => k1 _ b (drop l t) (s1.trans (same_new hb)) (after_clear.mpr ⟨by simpa using e0, rfl⟩) upd_same⟩⟩
    | fill t =>
      have hm : H m = some (.tup [.str "fill", .int (t : Nat)]) := hm
      refine ⟨_, rfl, m, _, _, _, rfl, rfl, SqT.of hm, rfl, ?_⟩
      refine ⟨_, rfl, m, _, _, _, rfl, rfl, SqT.of hm, rfl, rfl, _, rfl, iteN ne_fc ?_⟩
      refine ⟨_, rfl, _, rfl, _, rfl, x, T, a, rs, l, t, rfl, hW, g, ha, by omega, ht, fun H1 s1 => ⟨_, rfl, ?_⟩⟩
      cases e0 : mayB rs l t with
      | false => exact iteT (k0 H1 s1 (after_none_may e0 (fun _ z => nomatch z)))
      | true =>
        refine iteF ?_
        refine ⟨_, rfl, m, _, _, _, rfl, rfl, SqT.of (s1 _ _ hm), rfl, rfl, _, rfl, iteD rfl ?_⟩
        have ha1 := s1 _ _ ha
        refine ⟨_, rfl, _, rfl, by show 1 ≤ sizeLine; decide, fun p hp => ?_⟩
        have s2 : Same H (upd H1 p (.tup [.int (t : Nat)])) := s1.trans (same_new hp)
        have two : ∀ (H2 : Hp) (q : Addr), Same H H2 → H2 q = some (.tup (vNs (l ++ [t]))) → (rSortedTI K [.ref q] H2 fun v H3 => ∃ p ys, [v] = [.ref p] ∧ ((SqL K H3 p ys ∧ ∀ l', H3 l' = none → Q (.ref l') (upd H3 l' (.tup ys))) ∨ (SqT K H3 p ys ∧ Q (.ref p) H3))) := by
          intro H2 q s3 hq
          refine ⟨q, numI (l ++ [t]), rfl, SqT.of hq, ?_, fun ns p2 hperm hle hp2 => ?_⟩
          · rw [numI_len, List.length_append, List.length_singleton]
            omega
          · have e := num_srt hperm hle
            subst e
            refine ⟨p2, _, rfl, .inl ⟨SqL.of upd_same, fun b hb => ?_⟩⟩
            exact k1 _ b (srt (l ++ [t])) ((s3.trans (same_new hp2)).trans (same_new hb)) (after_fill.mpr ⟨e0, rfl⟩) upd_same
        refine ⟨a, p, vNs l, [.int (t : Nat)], rfl, rfl, SqT.of (s2 _ _ ha), SqT.of upd_same, ?_, fun hnil => ?_, fun _ z => (nomatch z), fun _ _ q hq => ?_⟩
        · rw [vNs_len]
          have := size_ok (n := 20 + 1) (by omega)
          show l.length + 1 ≤ sizeLine
          omega
        · refine two _ p s2 ?_
          rw [vNs_append, hnil]
          exact upd_same
        · refine two _ q (s2.trans (same_new hq)) ?_
          rw [vNs_append]
          exact upd_same
    | slide t o =>
      have hm : H m = some (.tup [.str "slide", .int (t : Nat), .int (o : Nat)]) := hm
      refine ⟨_, rfl, m, _, _, _, rfl, rfl, SqT.of hm, rfl, ?_⟩
      refine ⟨_, rfl, m, _, _, _, rfl, rfl, SqT.of hm, rfl, rfl, _, rfl, iteN ne_sc ?_⟩
      refine ⟨_, rfl, _, rfl, _, rfl, x, T, a, rs, l, t, rfl, hW, g, ha, by omega, ht, fun H1 s1 => ⟨_, rfl, ?_⟩⟩
      cases e0 : mayB rs l t with
      | false => exact iteT (k0 H1 s1 (after_none_may e0 (fun _ z => nomatch z)))
      | true =>
        refine iteF ?_
        refine ⟨_, rfl, m, _, _, _, rfl, rfl, SqT.of (s1 _ _ hm), rfl, rfl, _, rfl, iteN ne_sf ?_⟩
        have ha1 := s1 _ _ ha
        obtain ⟨dx, as, c, hx, hT, hal, hc, hL⟩ := (hW.same s1).lot ht
        refine ⟨_, rfl, m, _, _, _, rfl, rfl, SqT.of (s1 _ _ hm), rfl, ?_⟩
        refine ⟨_, rfl, x, S.W.C, dx, _, _, rfl, hx, S.W.cl, S.W.nR, lookup_reads _, _, rfl, T, _, _, _, rfl, rfl, SqT.of hT, atI_nat hc, c, vNs (lot rs t), rfl, .inr (SqT.of hL), rfl, vNs_flat _, !inV (.int (o : Nat)) (vNs (lot rs t)), rfl, ?_⟩
        rw [inV_vNs]
        cases e1 : (lot rs t).contains o with
        | false =>
          refine iteT (k0 H1 s1 ?_)
          show (if (mayB rs l t && (lot rs t).contains o) = true then some (srt (drop l o ++ [t])) else none) = none
          rw [e1, if_neg (by simp)]
        | true =>
          refine iteF ⟨_, rfl, a, rfl, ⟨_, SqT.of ha1⟩, fun D hD => ?_⟩
          refine lc_drop (l := l) (t := o) hD s1 ha (by omega) (fun n => rfl) (fun n H2 R s2 r => ⟨_, rfl, _, rfl, m, _, _, _, rfl, rfl, SqT.of (s2 _ _ hm), rfl, rfl, _, rfl, ?_⟩) (fun n H2 R s2 r => ⟨_, rfl, r⟩) fun H2 s2 d2 => ?_
          · rw [ne_dec]
            exact r
          · refine ⟨_, rfl, by show 1 ≤ sizeLine; decide, fun p hp => ?_⟩
            have hDp : D ≠ p := ne_of_none d2 hp
            have s3 : Same H (upd H2 p (.lst [.int (t : Nat)])) := s2.trans (same_new hp)
            have hdl : (drop l o).length ≤ 20 := by
              have := List.length_filter_le (· != o) l
              unfold drop
              omega
            refine ⟨D, p, vNs (drop l o), [.int (t : Nat)], rfl, rfl, by rw [upd_ne hDp]; exact d2, upd_same, ?_, fun q hq => ?_⟩
            · rw [vNs_len]
              have := size_ok (n := 20 + 1) (by omega)
              show (drop l o).length + 1 ≤ sizeLine
              omega
            · have s4 : Same H (upd (upd H2 p (.lst [.int (t : Nat)])) q (.lst (vNs (drop l o) ++ [.int (t : Nat)]))) := s3.trans (same_new hq)
              refine ⟨q, numI (drop l o ++ [t]), rfl, SqL.of ?_, ?_, fun ns p2 hperm hle hp2 => ?_⟩
              · show upd _ q _ q = some (.lst (vNs (drop l o ++ [t])))
                rw [vNs_append]
                exact upd_same
              · rw [numI_len, List.length_append, List.length_singleton]
                omega
              · have e := num_srt hperm hle
                subst e
                refine ⟨p2, _, rfl, .inl ⟨SqL.of upd_same, fun b hb => ?_⟩⟩
                exact k1 _ b (srt (drop l o ++ [t])) ((s4.trans (same_new hp2)).trans (same_new hb)) (after_slide.mpr ⟨e0, by simpa using e1, rfl⟩) upd_same
end
end TX
set_option Elab.async false
set_option linter.all false
set_option maxRecDepth 100000
set_option maxHeartbeats 4000000
/-! W6: moves_from. -/
namespace TX
open PySem PySem.Spec PyProof.Rows L2 RX WB
/-- tuples stay -/
def TK (H H' : Hp) : Prop := ∀ b xs, H b = some (.tup xs) → H' b = some (.tup xs)
theorem TK.of {H H' : Hp} (s : Same H H') : TK H H' := fun b xs e => s _ _ e
theorem TK.trans {H H1 H2 : Hp} (a : TK H H1) (b : TK H1 H2) : TK H H2 := fun c xs e => b c xs (a c xs e)
theorem TK.lst {H : Hp} {D : Addr} {ys : List V} {o : HO} (h : H D = some (.lst ys)) : TK H (upd H D o) := fun b xs e => by
  rw [upd_ne (ne_of e h (by intro z; cases z))]
  exact e
theorem TK.dT {H : Hp} {D : Addr} {ys : List (List Key × V)} {o : HO} (h : H D = some (.dT ys)) : TK H (upd H D o) := fun b xs e => by
  rw [upd_ne (ne_of e h (by intro z; cases z))]
  exact e
theorem TK.dK {H : Hp} {D : Addr} {ys : List (Key × V)} {o : HO} (h : H D = some (.dK ys)) : TK H (upd H D o) := fun b xs e => by
  rw [upd_ne (ne_of e h (by intro z; cases z))]
  exact e
theorem MvAt.keep {H H' : Hp} {m : Addr} {v : Mv} (h : MvAt H m v) (s : TK H H') : MvAt H' m v := by
  cases v with
  | clear t => exact s _ _ h
  | fill t => exact s _ _ h
  | slide t o => exact s _ _ h
inductive MvsAt (H : Hp) : List Addr → List Mv → Prop
  | nil : MvsAt H [] []
  | cons {a : Addr} {v : Mv} {as : List Addr} {vs : List Mv} : MvAt H a v → MvsAt H as vs → MvsAt H (a :: as) (v :: vs)
theorem MvsAt.keep {H H' : Hp} {as : List Addr} {vs : List Mv} (h : MvsAt H as vs) (s : TK H H') : MvsAt H' as vs := by
  induction h with
  | nil => exact .nil
  | cons a _ ih => exact .cons (a.keep s) ih
theorem MvsAt.length {H : Hp} {as : List Addr} {vs : List Mv} (h : MvsAt H as vs) : as.length = vs.length := by
  induction h with
  | nil => rfl
  | cons _ _ ih => rw [List.length_cons, List.length_cons, ih]
theorem MvsAt.append {H : Hp} {as bs : List Addr} {vs ws : List Mv} (h : MvsAt H as vs) (h' : MvsAt H bs ws) : MvsAt H (as ++ bs) (vs ++ ws) := by
  induction h with
  | nil => exact h'
  | cons a _ ih => exact .cons a ih
theorem MvsAt.snoc {H : Hp} {as : List Addr} {vs : List Mv} {a : Addr} {v : Mv} (h : MvsAt H as vs) (h' : MvAt H a v) : MvsAt H (as ++ [a]) (vs ++ [v]) := h.append (.cons h' .nil)
theorem MvsAt.get {H : Hp} {as : List Addr} {vs : List Mv} (h : MvsAt H as vs) : ∀ {i : Nat} {a : Addr}, as[i]? = some a → ∃ v, vs[i]? = some v ∧ MvAt H a v := by
  induction h with
  | nil => intro i a e; simp at e
  | cons q _ ih =>
    intro i a e
    cases i with
    | zero =>
      simp at e
      subst e
      exact ⟨_, rfl, q⟩
    | succ i =>
      simp at e
      obtain ⟨v, h1, h2⟩ := ih e
      exact ⟨v, by simpa using h1, h2⟩
/-- the moves that fill or slide one thing -/
def mvF (rs : List (List Nat)) (l : List Nat) (rooms : Nat) (apart : Bool) (t : Nat) : List Mv :=
  if mayB rs l t then (if l.length < rooms then [.fill t] else []) ++ (if apart then [] else (lot rs t).map (.slide t)) else []
theorem movesL_eq (rs : List (List Nat)) (l : List Nat) (rooms : Nat) (apart : Bool) : movesL rs l rooms apart = l.map .clear ++ (List.range rs.length).flatMap (mvF rs l rooms apart) := rfl
theorem lot_small {rs : List (List Nat)} (g : WB.Good rs) (t : Nat) : (lot rs t).length ≤ 10 := by
  rcases Nat.lt_or_ge t rs.length with h | h
  · exact good_small g (at_lot h)
  · unfold lot
    rw [List.getD_eq_getElem?_getD, List.getElem?_eq_none h]
    exact Nat.zero_le _
theorem mvF_len {rs : List (List Nat)} (g : WB.Good rs) (l : List Nat) (rooms : Nat) (apart : Bool) (t : Nat) : (mvF rs l rooms apart t).length ≤ 11 := by
  have h := lot_small g t
  unfold mvF
  cases mayB rs l t with
  | false => simp
  | true =>
    rw [if_pos rfl, List.length_append]
    have h1 : (if l.length < rooms then [Mv.fill t] else []).length ≤ 1 := by split <;> simp
    have h2 : (if apart = true then [] else (lot rs t).map (Mv.slide t)).length ≤ 10 := by
      cases apart with
      | true => simp
      | false => simpa using h
    omega
theorem mvFs_len {rs : List (List Nat)} (g : WB.Good rs) (l : List Nat) (rooms : Nat) (apart : Bool) (i : Nat) : ((List.range i).flatMap (mvF rs l rooms apart)).length ≤ 11 * i := by
  induction i with
  | zero => simp
  | succ i ih =>
    have := mvF_len g l rooms apart i
    rw [List.range_succ, List.flatMap_append, List.length_append]
    simp only [List.flatMap_cons, List.flatMap_nil, List.append_nil]
    omega
def spMoves (C : Addr) : Sp := fun vs H Q _ => ∃ (x T a : Addr) (rs : List (List Nat)) (l : List Nat) (rooms : Nat) (apart : Bool), vs = [.ref x, .ref a, .int (rooms : Nat), .bl apart] ∧ WebAt C H x T rs ∧ WB.Good rs ∧ LotAt H a l ∧ Valid rs.length l ∧
  ∀ (H' : Hp) (F : Addr) (as : List Addr), Same H H' → H F = none → H' F = some (.lst (as.map V.ref)) → MvsAt H' as (movesL rs l rooms apart) → Q (.ref F) H'
section
variable {P : Program} {w : World} {K : PySem.W.Frag} {mg : Str → Option Value} {base : Heap}
theorem sc_moves : FnScope ["web", "here", "rooms", "apart", "found", "thing", "other"] ["web", "here", "rooms", "apart"] (defScope s_moves_from) := ⟨rfl, rfl, rfl, by decide +kernel, rfl, by decide +kernel, by decide +kernel⟩
theorem ok_moves (S : Wbs K mg) (D : DefAt K mg "moves_from" s_moves_from ["web", "here", "rooms", "apart"]) : FnOk P w K mg base CX0 2 D.f D.fd ["web", "here", "rooms", "apart"] (spMoves S.W.C) := by
  have B := S.Z.B
  refine D.F.ok sc_moves (fun vs H Q E h => ?_) (fun cdv A outer s H vs Q E hr h => ?_)
  · obtain ⟨x, T, a, rs, l, rooms, apart, rfl, _⟩ := h
    rfl
  · obtain ⟨x, T, a, rs, l, rooms, apart, rfl, hW, g, ha, hv, k⟩ := h
    have GM : FnOk P w K mg base CX0 1 S.e1.f S.e1.fd ["web", "here", "thing"] (spMay S.W.C) := ok_may B S.W S.e1
    refine ⟨_, pss_cons (ps_setLc (i := 4) (own := [("thing", 5)]) (g := gName 5) (tt := tYes) (te := tTup (tCons (tC (.str "clear")) (tCons (tVar 5) tNil))) (by rfl) sc_moves.nd rfl rfl (sw_true rfl rfl rfl (by decide +kernel)) (pi_tup (pv 1)) (blkOk_by (N := ["web", "here", "rooms", "apart", "found", "thing", "other"]) (sc := defScope s_moves_from) (by decide +kernel))
            (fun _ _ _ _ _ => pg_name (i := 5) sc_moves.nd rfl (Or.inl rfl)) (fun _ _ _ _ _ => pts_nil) (fun _ _ _ _ _ => pe_tup (pa_cons pe_str (pa_cons (pv 5) pa_nil))))
      (pss_cons (ps_for PassesOwn.never rfl (pi_range1 rfl B.range (pa_cons (pe_callB call_len_seq (by rfl) B.len PySem.boot_len (pa_cons (pe_fld (pv 0) rfl) pa_nil)) pa_nil)) (pg_name (i := 5) sc_moves.nd rfl (Or.inr rfl))
        (pss_one (ps_if (pt_val (pcl S.e1 GM hr (by rfl) (pa_cons (pv 0) (pa_cons (pv 1) (pa_cons (pv 5) pa_nil)))))
          (C8.pss_cut (ps_if (pt_cmpR op_lt (pe_callB call_len_seq (by rfl) B.len PySem.boot_len (pa_cons (pv 1) pa_nil)) (pv 2) (nomark _))
            (pss_one (ps_expr (pe_bm PySem.F.plainAttrs_list PySem.F.slot_list_append PySem.F.type_list_append mt_append (pv 4) (pa_cons (pe_tup (pa_cons pe_str (pa_cons (pv 5) pa_nil))) pa_nil)))) pss_nil)
          (pss_one (ps_if (pt_not (pt_val (pv 3)))
            (pss_one (ps_expr (pe_bm PySem.F.plainAttrs_list PySem.F.slot_list_extend PySem.F.type_list_extend mt_extend (pv 4) (pa_cons
              (pe_lc (own := [("other", 6)]) (g := gName 6) (tt := tYes) (te := tTup (tCons (tC (.str "slide")) (tCons (tVar 5) (tCons (tVar 6) tNil)))) (by rfl) sc_moves.nd (pi_tup (pe_ix ix_tup (pe_fld (pv 0) rfl) (pv 5) (fun _ _ => rfl))) (blkOk_by (N := ["web", "here", "rooms", "apart", "found", "thing", "other"]) (sc := defScope s_moves_from) (by decide +kernel))
                (fun _ _ _ _ _ => pg_name (i := 6) sc_moves.nd rfl (Or.inl rfl)) (fun _ _ _ _ _ => pts_nil) (fun _ _ _ _ _ => pe_tup (pa_cons pe_str (pa_cons (pv 5) (pa_cons (pv 6) pa_nil))))) pa_nil)))) pss_nil)))
          pss_nil)))
      (pss_one (ps_ret (pv 4)))), ?_⟩
    have hl20 : l.length ≤ 10 := Nat.le_trans hv.len g.le
    refine ⟨_, rfl, a, rfl, ⟨_, SqT.of ha⟩, fun F hF => ?_⟩
    refine lc_it (walk_tup (K := K) (a := a) (xs := vNs l)) (fun i H2 => Same H H2 ∧ ∃ as : List Addr, H2 F = some (.lst (as.map V.ref)) ∧ MvsAt H2 as ((l.take i).map Mv.clear)) ⟨same_new hF, [], upd_same, .nil⟩ (fun i H2 _ p => SqT.of (p.1 _ _ ha)) ?_ ?_
    · rintro i y H2 H2' hi ⟨s1, as, d1, m1⟩ ⟨rfl, hy⟩
      obtain ⟨n, hn, rfl⟩ := vNs_get hy
      refine ⟨rfl, _, rfl, by show 2 ≤ sizeLine; decide, fun p hp => ⟨as.map V.ref, ?_, ?_, ?_⟩⟩
      · rw [upd_ne (ne_of_none d1 hp)]
        exact d1
      · have e1 := m1.length
        rw [List.length_map, List.length_take] at e1
        rw [List.length_map]
        exact size_ok (by omega)
      · have dp : upd H2' p (.tup [.str "clear", .int (n : Nat)]) F = some (.lst (as.map V.ref)) := by
          rw [upd_ne (ne_of_none d1 hp)]
          exact d1
        refine ⟨same_at (s1.trans (same_new hp)) hF, as ++ [p], by rw [List.map_append]; exact upd_same, ?_⟩
        rw [take_succ_map _ hn]
        refine (m1.keep ((TK.of (same_new hp)).trans (TK.lst dp))).snoc ?_
        show upd _ _ _ p = _
        rw [upd_ne (ne_of_none d1 hp).symm]
        exact upd_same
    · rintro H2 ⟨s1, as, d1, m1⟩
      rw [vNs_len, List.take_of_length_le (Nat.le_refl _)] at m1
      obtain ⟨dx, hx⟩ := hW.ob
      obtain ⟨ws, hT, hal, hat⟩ := hW.rd.ex
      have hlen : (ws.map V.ref).length = rs.length := by rw [List.length_map, hal]
      have g2 := g.le
      refine ⟨_, rfl, x, S.W.C, dx, _, _, rfl, s1 _ _ hx, S.W.cl, S.W.nR, lookup_reads _, T, _, rfl, .inr (SqT.of (s1 _ _ hT)), _, rfl, ?_, ?_, ?_⟩
      · have : -(2 ^ 62) ≤ (((ws.map V.ref).length : Nat) : Int) := by rw [hlen]; omega
        exact this
      · have : (((ws.map V.ref).length : Nat) : Int) < 2 ^ 62 := by rw [hlen]; omega
        exact this
      have en : ((((ws.map V.ref).length : Nat) : Int)).toNat = rs.length := by rw [hlen]; omega
      rw [en]
      refine for_it (walk_range (lo := 0) (n := rs.length)) (fun i σ H1 => ∃ v5 : Option V, σ = [some (.ref x), some (.ref a), some (.int (rooms : Nat)), some (.bl apart), some (.ref F), v5, none] ∧ Same H H1 ∧
        ∃ as : List Addr, H1 F = some (.lst (as.map V.ref)) ∧ MvsAt H1 as (l.map Mv.clear ++ (List.range i).flatMap (mvF rs l rooms apart))) ⟨none, rfl, s1, as, d1, by simpa using m1⟩ (fun _ _ _ _ _ => trivial) ?_ ?_
      · rintro t y σ H1 H1' ht ⟨v5, rfl, s2, as, d2, m2⟩ ⟨rfl, hy⟩
        have ey : y = .int (t : Nat) := hy.trans (congrArg V.int (Int.zero_add _))
        subst ey
        have hpre : as.length ≤ 10 + 11 * t := by
          have h1 := m2.length
          have h2 := mvFs_len g l rooms apart t
          rw [List.length_append, List.length_map] at h1
          omega
        refine ⟨_, rfl, _, rfl, _, rfl, x, T, a, rs, l, t, rfl, hW.same s2, g, s2 _ _ ha, by omega, ht, fun H2 s3 => ⟨_, rfl, ?_⟩⟩
        have d3 := s3 _ _ d2
        have m3 := m2.keep (TK.of s3)
        have s4 := s2.trans s3
        have step : (List.range (t + 1)).flatMap (mvF rs l rooms apart) = (List.range t).flatMap (mvF rs l rooms apart) ++ mvF rs l rooms apart t := by
          rw [List.range_succ, List.flatMap_append]
          simp
        cases e0 : mayB rs l t with
        | false =>
          refine iteF ⟨_, rfl, s4, as, d3, ?_⟩
          have ef : mvF rs l rooms apart t = [] := by unfold mvF; rw [e0]; rfl
          rw [step, ef, List.append_nil]
          exact m3
        | true =>
          refine iteT ?_
          refine ⟨fun σ H3 => σ = [some (.ref x), some (.ref a), some (.int (rooms : Nat)), some (.bl apart), some (.ref F), some (.int (t : Nat)), none] ∧ Same H H3 ∧
            ∃ as : List Addr, H3 F = some (.lst (as.map V.ref)) ∧ as.length ≤ 11 + 11 * t ∧ MvsAt H3 as ((l.map Mv.clear ++ (List.range t).flatMap (mvF rs l rooms apart)) ++ (if l.length < rooms then [.fill t] else [])), ?_, ?_⟩
          · refine ⟨_, rfl, a, vNs l, rfl, .inr (SqT.of (s4 _ _ ha)), _, rfl, _, _, rfl, rfl, _, rfl, ?_⟩
            rw [vNs_len]
            refine ite2 (fun h => ?_) (fun h => ?_)
            · have h' : l.length < rooms := by have := of_decide_eq_true h; omega
              refine ⟨_, rfl, .inl ⟨rfl, _, SqL.of d3⟩, _, rfl, by show 2 ≤ sizeLine; decide, fun p hp => ?_⟩
              have dp : upd H2 p (.tup [.str "fill", .int (t : Nat)]) F = some (.lst (as.map V.ref)) := by
                rw [upd_ne (ne_of_none d3 hp)]
                exact d3
              refine ⟨F, _, _, rfl, rfl, dp, by rw [List.length_map]; exact size_ok (by omega), rfl, same_at (s4.trans (same_new hp)) hF, as ++ [p], by rw [List.map_append]; exact upd_same, by rw [List.length_append, List.length_singleton]; omega, ?_⟩
              rw [if_pos h']
              refine (m3.keep ((TK.of (same_new hp)).trans (TK.lst dp))).snoc ?_
              show upd _ _ _ p = _
              rw [upd_ne (ne_of_none d3 hp).symm]
              exact upd_same
            · have h' : ¬ l.length < rooms := fun z => h (decide_eq_true (by omega))
              refine ⟨rfl, s4, as, d3, by omega, ?_⟩
              rw [if_neg h', List.append_nil]
              exact m3
          · rintro σ H3 ⟨rfl, s5, as3, d5, hl3, m5⟩
            refine ⟨_, rfl, apart, rfl, ?_⟩
            cases apart with
            | true =>
              refine iteF ⟨_, rfl, s5, as3, d5, ?_⟩
              have ef : mvF rs l rooms true t = (if l.length < rooms then [.fill t] else []) := by unfold mvF; rw [e0, if_pos rfl, if_pos rfl, List.append_nil]
              rw [step, ef, ← List.append_assoc]
              exact m5
            | false =>
              refine iteT ?_
              obtain ⟨dx', as', c, hx', hT', hal', hc', hL⟩ := (hW.same s5).lot ht
              have hls := lot_small g t
              refine ⟨_, rfl, .inl ⟨rfl, _, SqL.of d5⟩, _, rfl, x, S.W.C, dx', _, _, rfl, hx', S.W.cl, S.W.nR, lookup_reads _, _, rfl, T, _, _, _, rfl, rfl, SqT.of hT', atI_nat hc', c, rfl, ⟨_, SqT.of hL⟩, fun G hG => ?_⟩
              have hFG : F ≠ G := ne_of_none d5 hG
              refine lc_it (walk_tup (K := K) (a := c) (xs := vNs (lot rs t))) (fun i H4 => Same H3 H4 ∧ ∃ bs : List Addr, H4 G = some (.lst (bs.map V.ref)) ∧ MvsAt H4 bs (((lot rs t).take i).map (Mv.slide t))) ⟨same_new hG, [], upd_same, .nil⟩ (fun i H4 _ p => SqT.of (p.1 _ _ hL)) ?_ ?_
              · rintro i y H4 H4' hi ⟨s6, bs, d6, m6⟩ ⟨rfl, hy⟩
                obtain ⟨o, ho, rfl⟩ := vNs_get hy
                refine ⟨rfl, _, rfl, _, rfl, by show 3 ≤ sizeLine; decide, fun p hp => ⟨bs.map V.ref, ?_, ?_, ?_⟩⟩
                · rw [upd_ne (ne_of_none d6 hp)]
                  exact d6
                · have e1 := m6.length
                  rw [List.length_map, List.length_take] at e1
                  rw [List.length_map]
                  exact size_ok (by omega)
                · have dp : upd H4' p (.tup [.str "slide", .int (t : Nat), .int (o : Nat)]) G = some (.lst (bs.map V.ref)) := by
                    rw [upd_ne (ne_of_none d6 hp)]
                    exact d6
                  refine ⟨same_at (s6.trans (same_new hp)) hG, bs ++ [p], by rw [List.map_append]; exact upd_same, ?_⟩
                  rw [take_succ_map _ ho]
                  refine (m6.keep ((TK.of (same_new hp)).trans (TK.lst dp))).snoc ?_
                  show upd _ _ _ p = _
                  rw [upd_ne (ne_of_none d6 hp).symm]
                  exact upd_same
              · rintro H4 ⟨s6, bs, d6, m6⟩
                rw [vNs_len, List.take_of_length_le (Nat.le_refl _)] at m6
                have hbl := m6.length
                rw [List.length_map] at hbl
                refine ⟨F, G, _, _, rfl, rfl, s6 _ _ d5, d6, ?_, ?_⟩
                · rw [List.length_map, List.length_map]
                  exact Nat.le_of_lt (size_ok (by omega))
                · refine ⟨_, rfl, same_at (s5.trans s6) hF, as3 ++ bs, by rw [List.map_append]; exact upd_same, ?_⟩
                  have ef : mvF rs l rooms false t = (if l.length < rooms then [.fill t] else []) ++ (lot rs t).map (Mv.slide t) := by unfold mvF; rw [e0, if_pos rfl]; rfl
                  rw [step, ef, ← List.append_assoc, ← List.append_assoc]
                  exact ((m5.keep (TK.of s6)).append m6).keep (TK.lst (s6 _ _ d5))
      · rintro σ H1 ⟨v5, rfl, s2, as, d2, m2⟩
        exact ⟨_, rfl, k H1 F as s2 hF d2 m2⟩
end
end TX
set_option Elab.async false
set_option linter.all false
set_option maxRecDepth 100000
set_option maxHeartbeats 4000000
/-! W7: moves_to, the dict of ways. -/
namespace TX
open PySem PySem.Spec PyProof.Rows L2 RX WB
abbrev WEnt := Ent (List Nat) Mv
def kk (l : List Nat) : List Key := (numI l).map Sum.inl
theorem kk_map (l : List Nat) : (kk l).map kV = vNs l := by
  unfold kk vNs
  rw [List.map_map]
  rfl
theorem kk_inj {l l' : List Nat} (h : kk l = kk l') : l = l' := by
  unfold kk numI at h
  rw [List.map_map, List.map_map] at h
  have inj : ∀ a b : Nat, (Sum.inl ((a : Nat) : Int) : Key) = Sum.inl ((b : Nat) : Int) → a = b := fun a b q => by
    have := Sum.inl.inj q
    omega
  induction l generalizing l' with
  | nil =>
    cases l' with
    | nil => rfl
    | cons => simp at h
  | cons x l ih =>
    cases l' with
    | nil => simp at h
    | cons y l' =>
      simp only [List.map_cons, List.cons.injEq] at h
      rw [inj x y h.1, ih h.2]
/-- what the dict of ways holds for one that was met -/
def ValAt (H : Hp) (ws : List WEnt) (e : WEnt) (v : V) : Prop :=
  (e.tr = [] ∧ v = .non) ∨ ∃ (e' : WEnt) (m : Mv) (p a b : Addr), e' ∈ ws ∧ e.tr = e'.tr ++ [m] ∧ v = .ref p ∧ H p = some (.tup [.ref a, .ref b]) ∧ LotAt H a e'.key ∧ MvAt H b m
structure WaysOk (H : Hp) (kvs : List (List Key × V)) (ws : List WEnt) : Prop where
  keys : kvs.map (·.1) = ws.map fun e => kk e.key
  nd : (ws.map Ent.key).Nodup
  vals : ∀ (i : Nat) (e : WEnt) (kv : List Key × V), ws[i]? = some e → kvs[i]? = some kv → ValAt H ws e kv.2
theorem ValAt.keep {H H' : Hp} {ws ws' : List WEnt} {e : WEnt} {v : V} (h : ValAt H ws e v) (s : TK H H') (hw : ∀ e ∈ ws, e ∈ ws') : ValAt H' ws' e v := by
  rcases h with h | ⟨e', m, p, a, b, h1, h2, h3, h4, h5, h6⟩
  · exact .inl h
  · exact .inr ⟨e', m, p, a, b, hw _ h1, h2, h3, s _ _ h4, s _ _ h5, h6.keep s⟩
theorem WaysOk.keep {H H' : Hp} {kvs : List (List Key × V)} {ws : List WEnt} (h : WaysOk H kvs ws) (s : TK H H') : WaysOk H' kvs ws :=
  ⟨h.keys, h.nd, fun i e kv h1 h2 => (h.vals i e kv h1 h2).keep s fun _ z => z⟩
theorem WaysOk.len {H : Hp} {kvs : List (List Key × V)} {ws : List WEnt} (h : WaysOk H kvs ws) : kvs.length = ws.length := by
  have := congrArg List.length h.keys
  simpa using this
theorem valV_at {kvs : List (List Key × V)} (nd : (kvs.map (·.1)).Nodup) {i : Nat} {kv : List Key × V} (h : kvs[i]? = some kv) : valV kvs kv.1 = some kv.2 := by
  induction kvs generalizing i with
  | nil => simp at h
  | cons p r ih =>
    rw [List.map_cons, List.nodup_cons] at nd
    cases i with
    | zero =>
      simp at h
      subst h
      exact valV_pos rfl
    | succ i =>
      simp at h
      have hm : kv.1 ∈ r.map (·.1) := List.mem_map.mpr ⟨kv, List.mem_of_getElem? h, rfl⟩
      rw [valV_neg (fun z => nd.1 (z ▸ hm))]
      exact ih nd.2 h
theorem WaysOk.knd {H : Hp} {kvs : List (List Key × V)} {ws : List WEnt} (h : WaysOk H kvs ws) : (kvs.map (·.1)).Nodup := by
  rw [h.keys, List.nodup_iff_pairwise_ne, List.pairwise_map]
  have := List.nodup_iff_pairwise_ne.mp h.nd
  rw [List.pairwise_map] at this
  exact List.Pairwise.imp (fun q z => q (kk_inj z)) this
theorem WaysOk.get {H : Hp} {kvs : List (List Key × V)} {ws : List WEnt} (h : WaysOk H kvs ws) {e : WEnt} (he : e ∈ ws) : ∃ v, valV kvs (kk e.key) = some v ∧ ValAt H ws e v := by
  obtain ⟨i, hi, ei⟩ := List.mem_iff_getElem.mp he
  have hw : ws[i]? = some e := by rw [List.getElem?_eq_getElem hi, ei]
  have hk : i < kvs.length := by rw [h.len]; exact hi
  have hkv : kvs[i]? = some kvs[i] := List.getElem?_eq_getElem hk
  have e1 : (kvs.map (·.1))[i]? = (ws.map fun e => kk e.key)[i]? := by rw [h.keys]
  rw [List.getElem?_map, List.getElem?_map, hw, hkv] at e1
  have e2 : kvs[i].1 = kk e.key := Option.some.inj e1
  refine ⟨kvs[i].2, ?_, h.vals i e _ hw hkv⟩
  rw [← e2]
  exact valV_at h.knd hkv
theorem WaysOk.isSome {H : Hp} {kvs : List (List Key × V)} {ws : List WEnt} (h : WaysOk H kvs ws) (l : List Nat) : (valV kvs (kk l)).isSome = true ↔ l ∈ ws.map Ent.key := by
  constructor
  · intro q
    obtain ⟨v, hv⟩ := Option.isSome_iff_exists.mp q
    have := valV_in hv
    rw [h.keys] at this
    obtain ⟨e, he, z⟩ := List.mem_map.mp this
    exact List.mem_map.mpr ⟨e, he, kk_inj z⟩
  · intro q
    obtain ⟨e, he, rfl⟩ := List.mem_map.mp q
    obtain ⟨v, hv, _⟩ := h.get he
    rw [hv]
    rfl
theorem WaysOk.add {H : Hp} {kvs : List (List Key × V)} {ws : List WEnt} (h : WaysOk H kvs ws) {l : List Nat} {tr : List Mv} {v : V} (hn : l ∉ ws.map Ent.key) (hv : ValAt H (ws ++ [⟨l, tr⟩]) ⟨l, tr⟩ v) : putK kvs (kk l) v = kvs ++ [(kk l, v)] ∧ WaysOk H (kvs ++ [(kk l, v)]) (ws ++ [⟨l, tr⟩]) := by
  have h0 : valV kvs (kk l) = none := by
    cases e : valV kvs (kk l) with
    | none => rfl
    | some x => exact absurd ((h.isSome l).mp (by rw [e]; rfl)) hn
  refine ⟨putK_new v h0, ⟨?_, ?_, fun i e kv h1 h2 => ?_⟩⟩
  · rw [List.map_append, List.map_append, h.keys]
    rfl
  · rw [List.map_append, List.nodup_append]
    refine ⟨h.nd, by simp, fun a ha b hb => ?_⟩
    have : b = l := by simpa using hb
    subst this
    exact fun z => hn (z ▸ ha)
  · rcases Nat.lt_or_ge i ws.length with q | q
    · rw [List.getElem?_append_left q] at h1
      rw [List.getElem?_append_left (by rw [h.len]; exact q)] at h2
      exact (h.vals i e kv h1 h2).keep (fun _ _ z => z) fun _ z => List.mem_append_left _ z
    · rw [List.getElem?_append_right q] at h1
      rw [List.getElem?_append_right (by rw [h.len]; exact q), h.len] at h2
      cases hi : i - ws.length with
      | zero =>
        rw [hi] at h1 h2
        simp at h1 h2
        subst h1 h2
        exact hv
      | succ j =>
        rw [hi] at h1
        simp at h1
def spMovesTo : Sp := fun vs H Q _ => ∃ (Wd a : Addr) (kvs : List (List Key × V)) (ws : List WEnt) (e : WEnt), vs = [.ref Wd, .ref a] ∧ H Wd = some (.dT kvs) ∧ WaysOk H kvs ws ∧ e ∈ ws ∧ LotAt H a e.key ∧ e.tr.length ≤ 90000 ∧
  ∀ (H' : Hp) (T : Addr) (bs : List Addr), Same H H' → H T = none → H' T = some (.tup (bs.map V.ref)) → MvsAt H' bs e.tr → Q (.ref T) H'
theorem MvsAt.rev {H : Hp} {as : List Addr} {vs : List Mv} (h : MvsAt H as vs) : MvsAt H as.reverse vs.reverse := by
  induction h with
  | nil => exact .nil
  | cons a _ ih =>
    rw [List.reverse_cons, List.reverse_cons]
    exact ih.snoc a
section
variable {P : Program} {w : World} {K : PySem.W.Frag} {mg : Str → Option Value} {base : Heap}
theorem sc_movesTo : FnScope ["ways", "here", "found", "move"] ["ways", "here"] (defScope s_moves_to) := ⟨rfl, rfl, rfl, by decide +kernel, rfl, by decide +kernel, by decide +kernel⟩
theorem ok_movesTo (B : Bts mg) (D : DefAt K mg "moves_to" s_moves_to ["ways", "here"]) : FnOk P w K mg base CX0 1 D.f D.fd ["ways", "here"] spMovesTo := by
  refine D.F.ok sc_movesTo (fun vs H Q E h => ?_) (fun cdv A outer s H vs Q E hr h => ?_)
  · obtain ⟨Wd, a, kvs, ws, e, rfl, _⟩ := h
    rfl
  · obtain ⟨Wd, a, kvs, ws, e, rfl, hd, ok, he, ha, hlen, k⟩ := h
    have hu := hu_of hr
    refine ⟨_, pss_cons (ps_set (i := 2) sc_movesTo.nd rfl (Or.inl rfl) (pe_lst pa_nil))
      (pss_cons (ps_while PassesOwn.never (pt_cmpR op_notN (pe_dget hu (pv 0) (pv 1) (fun _ _ => rfl)) pe_non (nomark _))
        (pss_cons (ps_asg (pe_dget hu (pv 0) (pv 1) (fun _ _ => rfl)) (pg_tup rfl (pgs_cons (pg_name (i := 1) sc_movesTo.nd rfl (.inl rfl)) (pgs_cons (pg_name (i := 3) sc_movesTo.nd rfl (.inl rfl)) pgs_nil))))
        (pss_one (ps_expr (pe_bm PySem.F.plainAttrs_list PySem.F.slot_list_append PySem.F.type_list_append mt_append (pv 2) (pa_cons (pv 3) pa_nil))))))
      (pss_one (ps_ret (pe_callTy call_tuple_of (by rfl) B.tuple PyProof.Rows.boot_tuple (pa_cons (pe_revL (pv 2)) pa_nil))))), ?_⟩
    refine ⟨Nat.zero_le _, fun F hF => ?_⟩
    have s0 : Same H (upd H F (.lst [])) := same_new hF
    refine ⟨fun m σ H1 => ∃ (e' : WEnt) (a' : Addr) (bs : List Addr) (rest : List Mv) (v3 : Option V), σ = [some (.ref Wd), some (.ref a'), some (.ref F), v3] ∧ Same H H1 ∧ e' ∈ ws ∧ LotAt H1 a' e'.key ∧ e.tr = e'.tr ++ rest ∧
        H1 F = some (.lst (bs.map V.ref)) ∧ MvsAt H1 bs rest.reverse ∧ m = e'.tr.length, ⟨_, e, a, [], [], none, rfl, s0, he, s0 _ _ ha, by simp, upd_same, .nil, rfl⟩, ?_⟩
    rintro m σ H1 ⟨e', a', bs, rest, v3, rfl, s1, he', ha', etr, d1, m1, rfl⟩
    have ok1 := ok.keep (TK.of s1)
    obtain ⟨v, hv, hval⟩ := ok1.get he'
    have hbl : bs.length ≤ 90000 := by
      have h1 := m1.length
      have h2 := congrArg List.length etr
      rw [List.length_append] at h2
      rw [List.length_reverse] at h1
      omega
    have dg : DGet H1 Wd (.ref a') (some v) := by
      rw [← hv]
      exact DGet.t (s1 _ _ hd) (by rw [kk_map]; exact ha')
    refine ⟨_, rfl, _, rfl, Wd, v, rfl, dg, rfl, _, rfl, ?_⟩
    rcases hval with ⟨h0, rfl⟩ | ⟨e2, mv, p, a2, b2, he2, etr2, rfl, hp, ha2, hb2⟩
    · refine iteF ?_
      have er : e.tr = rest := by rw [etr, h0, List.nil_append]
      refine ⟨_, rfl, F, _, rfl, SqL.of d1, fun G hG => ?_⟩
      refine ⟨G, _, rfl, .inl ⟨SqL.of upd_same, fun T hT => ?_⟩⟩
      have s2 : Same H1 (upd H1 G (.lst (bs.map V.ref).reverse)) := same_new hG
      have s3 : Same H1 (upd (upd H1 G (.lst (bs.map V.ref).reverse)) T (.tup (bs.map V.ref).reverse)) := s2.trans (same_new hT)
      refine k _ T bs.reverse (s1.trans s3) ((s1.trans s2).free hT) (by rw [List.map_reverse]; exact upd_same) ?_
      rw [er]
      have := (m1.keep (TK.of s3)).rev
      rw [List.reverse_reverse] at this
      exact this
    · refine iteT ⟨fun σ' H' => ∃ m', m' < e'.tr.length ∧ ∃ (e'' : WEnt) (a'' : Addr) (bs : List Addr) (rest : List Mv) (v3 : Option V), σ' = [some (.ref Wd), some (.ref a''), some (.ref F), v3] ∧ Same H H' ∧ e'' ∈ ws ∧ LotAt H' a'' e''.key ∧ e.tr = e''.tr ++ rest ∧
        H' F = some (.lst (bs.map V.ref)) ∧ MvsAt H' bs rest.reverse ∧ m' = e''.tr.length, fun σ' H' z => z, ?_⟩
      refine ⟨_, rfl, _, rfl, Wd, _, rfl, dg, p, _, rfl, SqT.of hp, rfl, _, _, rfl, _, _, rfl, rfl, ?_⟩
      refine ⟨_, rfl, .inl ⟨rfl, _, SqL.of d1⟩, _, rfl, F, _, _, rfl, rfl, d1, by rw [List.length_map]; exact size_ok (by omega), ?_⟩
      have e3 := congrArg List.length etr2
      rw [List.length_append, List.length_singleton] at e3
      refine ⟨e2.tr.length, by omega, e2, a2, bs ++ [b2], mv :: rest, _, rfl, same_at s1 hF, he2, ?_, by rw [etr, etr2, List.append_assoc]; rfl, by rw [List.map_append]; exact upd_same, ?_, rfl⟩
      · exact TK.lst d1 _ _ ha2
      · rw [List.reverse_cons]
        exact (m1.keep (TK.lst d1)).snoc (hb2.keep (TK.lst d1))
end
end TX
set_option Elab.async false
set_option linter.all false
set_option maxRecDepth 100000
set_option maxHeartbeats 8000000
/-! W8: shortest_making, least_rooms. -/
namespace TX
open PySem PySem.Spec PyProof.Rows L2 RX WB
structure StateAt (H : Hp) (Wd Lw : Addr) (ws : List WEnt) : Prop where
  ex : ∃ (kvs : List (List Key × V)) (ks : List Addr), H Wd = some (.dT kvs) ∧ H Lw = some (.lst (ks.map V.ref)) ∧ WaysOk H kvs ws ∧ ks.length = ws.length ∧ ∀ (i : Nat) (a : Addr) (e : WEnt), ks[i]? = some a → ws[i]? = some e → LotAt H a e.key
theorem StateAt.keep {H H' : Hp} {Wd Lw : Addr} {ws : List WEnt} (h : StateAt H Wd Lw ws) (s : Same H H') : StateAt H' Wd Lw ws := by
  obtain ⟨kvs, ks, h1, h2, h3, h4, h5⟩ := h.ex
  exact ⟨kvs, ks, s _ _ h1, s _ _ h2, h3.keep (TK.of s), h4, fun i a e q r => s _ _ (h5 i a e q r)⟩
/-- the way that the search tells -/
abbrev shIt (rs : List (List Nat)) (rooms : Nat) (apart : Bool) (k : Nat) : List WEnt := WB.iter (fun l => movesL rs l rooms apart) (after rs) ([] : List Nat) k
abbrev Short (rs : List (List Nat)) (rooms : Nat) (apart : Bool) (ms : List Mv) : Prop := WB.Found (fun l => movesL rs l rooms apart) (after rs) ([] : List Nat) (Goal rs) ms
theorem grow_old {rs : List (List Nat)} {c : WEnt} {ws : List WEnt} {m : Mv} {l : List Nat} (e : after rs c.key m = some l) (h : l ∈ ws.map Ent.key) : WB.grow (after rs) c ws m = ws := by
  unfold WB.grow
  rw [e]
  exact if_pos h
theorem grow_new {rs : List (List Nat)} {c : WEnt} {ws : List WEnt} {m : Mv} {l : List Nat} (e : after rs c.key m = some l) (h : l ∉ ws.map Ent.key) : WB.grow (after rs) c ws m = ws ++ [⟨l, c.tr ++ [m]⟩] := by
  unfold WB.grow
  rw [e]
  exact if_neg h
def spShort (C : Addr) : Sp := fun vs H Q _ => ∃ (x T : Addr) (rs : List (List Nat)) (rooms : Nat) (apart : Bool), vs = [.ref x, .int (rooms : Nat), .bl apart] ∧ WebAt C H x T rs ∧ WB.Good rs ∧
  (∀ H', Same H H' → ¬ Reach rs rooms apart → Q .non H') ∧
  ∀ (H' : Hp) (M : Addr) (bs : List Addr) (ms : List Mv) (l : List Nat), Same H H' → H M = none → H' M = some (.tup (bs.map V.ref)) → MvsAt H' bs ms → Path (Step rs rooms apart) [] ms l → Goal rs l →
    (∀ ms' l', Path (Step rs rooms apart) [] ms' l' → Goal rs l' → ms.length ≤ ms'.length) → Short rs rooms apart ms → ms.length ≤ 1024 → Q (.ref M) H'
section
variable {P : Program} {w : World} {K : PySem.W.Frag} {mg : Str → Option Value} {base : Heap}
/-- all that was met is right, and not too much -/
theorem binv_valid {rs : List (List Nat)} {rooms : Nat} {apart : Bool} {ws : List WEnt} {k : Nat} (b : BInv (Step rs rooms apart) [] (Goal rs) ws k) : ∀ e ∈ ws, Valid rs.length e.key ∧ e.key.length ≤ rooms := fun e he =>
  ⟨path_valid (b.path e he) (valid_nil _), path_few (b.path e he) (Nat.zero_le _)⟩
theorem binv_len {rs : List (List Nat)} (g : WB.Good rs) {rooms : Nat} {apart : Bool} {ws : List WEnt} {k : Nat} (b : BInv (Step rs rooms apart) [] (Goal rs) ws k) : ws.length ≤ 1024 := by
  have h1 := many_le (n := rs.length) b.nd fun l hl => by
    obtain ⟨e, he, rfl⟩ := List.mem_map.mp hl
    exact (binv_valid b e he).1
  rw [List.length_map] at h1
  have h2 : 2 ^ rs.length ≤ 2 ^ 10 := Nat.pow_le_pow_right (by decide) g.le
  exact Nat.le_trans h1 h2
def TrOk (ws : List WEnt) : Prop := ∀ (i : Nat) (e : WEnt), ws[i]? = some e → e.tr.length ≤ i
theorem TrOk.add {ws : List WEnt} (h : TrOk ws) {k : Nat} {c : WEnt} (hc : ws[k]? = some c) (l : List Nat) (m : Mv) : TrOk (ws ++ [⟨l, c.tr ++ [m]⟩]) := fun i e he => by
  rcases Nat.lt_or_ge i ws.length with q | q
  · rw [List.getElem?_append_left q] at he
    exact h i e he
  · rw [List.getElem?_append_right q] at he
    cases hi : i - ws.length with
    | zero =>
      rw [hi] at he
      simp at he
      subst he
      have h1 := h k c hc
      have h2 := (List.getElem?_eq_some_iff.mp hc).1
      show (c.tr ++ [m]).length ≤ i
      rw [List.length_append, List.length_singleton]
      omega
    | succ j =>
      rw [hi] at he
      simp at he
/-- ahead of each turn of the search -/
def ShInv (H : Hp) (x : Addr) (rs : List (List Nat)) (rooms : Nat) (apart : Bool) (gi : Int) (Wd Lw : Addr) (m : Nat) (σ : L2.St) (H1 : Hp) : Prop :=
  ∃ (k : Nat) (ws : List WEnt) (v7 v8 v9 : Option V), σ = [some (.ref x), some (.int (rooms : Nat)), some (.bl apart), some (.int gi), some (.ref Wd), some (.ref Lw), some (.int (k : Nat)), v7, v8, v9] ∧
    Same H H1 ∧ StateAt H1 Wd Lw ws ∧ BInv (Step rs rooms apart) [] (Goal rs) ws k ∧ TrOk ws ∧ k ≤ ws.length ∧ ws = shIt rs rooms apart k ∧ (∀ j, j < k → ∀ e, (shIt rs rooms apart j)[j]? = some e → ¬ Goal rs e.key) ∧ m = 1025 - k
theorem sc_short : FnScope ["web", "rooms", "apart", "goal", "ways", "waiting", "at", "here", "move", "there"] ["web", "rooms", "apart"] (defScope s_shortest_making) := ⟨rfl, rfl, rfl, by decide +kernel, rfl, by decide +kernel, by decide +kernel⟩
theorem ok_short (S : Wbs K mg) (D1 : DefAt K mg "moves_from" s_moves_from ["web", "here", "rooms", "apart"]) (D2 : DefAt K mg "moves_to" s_moves_to ["ways", "here"]) (D : DefAt K mg "shortest_making" s_shortest_making ["web", "rooms", "apart"]) :
    FnOk P w K mg base CX0 3 D.f D.fd ["web", "rooms", "apart"] (spShort S.W.C) := by
  have B := S.Z.B
  refine D.F.ok sc_short (fun vs H Q E h => ?_) (fun cdv A outer s H vs Q E hr h => ?_)
  · obtain ⟨x, T, rs, rooms, apart, rfl, _⟩ := h
    rfl
  · obtain ⟨x, T, rs, rooms, apart, rfl, hW, g, k0, k1⟩ := h
    have hu := hu_of hr
    have hu3 := Nat.lt_of_le_of_lt (Nat.add_le_add_left (by decide : 2 ≤ 64) _) hr.units
    refine ⟨_, pss_cons (ps_set (i := 3) sc_short.nd rfl (Or.inl rfl) (pe_op op_sub (pe_callB call_len_seq (by rfl) B.len PySem.boot_len (pa_cons (pe_fld (pv 0) rfl) pa_nil)) pe_int))
      (pss_cons (ps_set (i := 4) sc_short.nd rfl (Or.inl rfl) (pe_dispT hu3 (pe_tup pa_nil) pe_non))
      (pss_cons (ps_set (i := 5) sc_short.nd rfl (Or.inl rfl) (pe_lst (pa_cons (pe_tup pa_nil) pa_nil)))
      (pss_cons (ps_set (i := 6) sc_short.nd rfl (Or.inl rfl) pe_int)
      (pss_cons (ps_while PassesOwn.never (pt_cmpR op_lt (pv 6) (pe_callB call_len_seq (by rfl) B.len PySem.boot_len (pa_cons (pv 5) pa_nil)) (nomark _))
        (pss_cons (ps_set (i := 7) sc_short.nd rfl (Or.inl rfl) (pe_ix ix_list (pv 5) (pv 6) (fun _ _ => rfl)))
        (pss_cons (ps_aug (i := 6) sc_short.nd rfl (Or.inl rfl) pe_int ip_add)
        (pss_cons (ps_if (pt_cmpR op_in_seq (pv 3) (pv 7) (by rfl)) (pss_one (ps_ret (pcl D2 (ok_movesTo B D2) (hr.mono (by decide)) (by rfl) (pa_cons (pv 4) (pa_cons (pv 7) pa_nil))))) pss_nil)
        (pss_one (ps_for PassesOwn.never rfl (pi_list (pcl D1 (ok_moves S D1) hr (by rfl) (pa_cons (pv 0) (pa_cons (pv 7) (pa_cons (pv 1) (pa_cons (pv 2) pa_nil)))))) (pg_name (i := 8) sc_short.nd rfl (Or.inl rfl))
          (pss_cons (ps_set (i := 9) sc_short.nd rfl (Or.inl rfl) (pcl S.e2 (ok_behind S) hr (by rfl) (pa_cons (pv 0) (pa_cons (pv 7) (pa_cons (pv 8) pa_nil)))))
          (pss_one (ps_if (pt_cmp (pc_dnotin hu (pv 9) (pv 4)))
            (pss_cons (ps_dput hu (pv 4) (pv 9) (pe_tup (pa_cons (pv 7) (pa_cons (pv 8) pa_nil))) rfl)
            (pss_one (ps_expr (pe_bm PySem.F.plainAttrs_list PySem.F.slot_list_append PySem.F.type_list_append mt_append (pv 5) (pa_cons (pv 9) pa_nil)))))
            pss_nil)))))))))
      (pss_one (ps_ret pe_non)))))), ?_⟩
    obtain ⟨dx, hx⟩ := hW.ob
    obtain ⟨wr, hT, hal, hat⟩ := hW.rd.ex
    have hlen : (wr.map V.ref).length = rs.length := by rw [List.length_map, hal]
    have gp := g.pos
    have eg : ((((wr.map V.ref).length : Nat) : Int) - 1) = ((rs.length - 1 : Nat) : Int) := by rw [hlen]; omega
    refine ⟨_, rfl, x, S.W.C, dx, _, _, rfl, hx, S.W.cl, S.W.nR, lookup_reads _, T, _, rfl, .inr (SqT.of hT), _, _, rfl, rfl, ?_⟩
    refine fun Wd hWd => ⟨Nat.zero_le _, fun p hp => ?_⟩
    have nWp : Wd ≠ p := ne_of_none upd_same hp
    refine ⟨by rw [upd_ne nWp]; exact upd_same, [], p, rfl, upd_same, Nat.zero_le _, fun q hq => ⟨by show 1 ≤ sizeLine; decide, fun Lw hLw => ?_⟩⟩
    have nWq : Wd ≠ q := ne_of_none upd_same hq
    have nWL : Wd ≠ Lw := ne_of_none (by rw [upd_ne nWq]; exact upd_same) hLw
    have nqL : q ≠ Lw := ne_of_none upd_same hLw
    have sA : Same H (upd (upd H Wd (.dT [])) p (.tup [])) := (same_new hWd).trans (same_new hp)
    have sB : Same H (upd (upd (upd (upd (upd H Wd (.dT [])) p (.tup [])) Wd (.dT [([], V.non)])) q (.tup [])) Lw (.lst [.ref q])) := ((same_at sA hWd).trans (same_new hq)).trans (same_new hLw)
    refine ⟨ShInv H x rs rooms apart ((((wr.map V.ref).length : Nat) : Int) - 1) Wd Lw, ⟨1025, 0, [⟨[], []⟩], none, none, none, rfl, sB, ⟨[([], V.non)], [q], ?_, upd_same, ⟨rfl, by simp, fun i e kv h1 h2 => ?_⟩, rfl, fun i a e h1 h2 => ?_⟩, .init, fun i e he => ?_, Nat.zero_le _, rfl, fun j z => absurd z (Nat.not_lt_zero _), rfl⟩, ?_⟩
    · rw [upd_ne nWL, upd_ne nWq]
      exact upd_same
    · cases i with
      | zero =>
        simp at h1 h2
        subst h1 h2
        exact .inl ⟨rfl, rfl⟩
      | succ i => simp at h1
    · cases i with
      | zero =>
        simp at h1 h2
        subst h1 h2
        show upd _ _ _ q = _
        rw [upd_ne nqL]
        exact upd_same
      | succ i => simp at h1
    · cases i with
      | zero =>
        simp at he
        subst he
        exact Nat.zero_le _
      | succ i => simp at he
    rintro m σ H1 ⟨k, ws, v7, v8, v9, rfl, s1, st, b, tro, hk, eit, eno, rfl⟩
    obtain ⟨kvs, ks, d1, l1, ok, kl, kat⟩ := id st.ex
    have hksl : (ks.map V.ref).length = ws.length := by rw [List.length_map, kl]
    refine ⟨_, rfl, _, rfl, Lw, _, rfl, .inl (SqL.of l1), _, _, rfl, rfl, _, rfl, ?_⟩
    refine ite2 (fun h => ?_) (fun h => ?_)
    · have hkw : k < ws.length := by have := of_decide_eq_true h; rw [hksl] at this; omega
      refine ⟨fun σ' H' => ∃ m', m' < 1025 - k ∧ ShInv H x rs rooms apart ((((wr.map V.ref).length : Nat) : Int) - 1) Wd Lw m' σ' H', fun σ' H' z => z, ?_⟩
      obtain ⟨c, hc⟩ : ∃ c, ws[k]? = some c := ⟨ws[k], List.getElem?_eq_getElem hkw⟩
      have hcm : c ∈ ws := List.mem_of_getElem? hc
      obtain ⟨a, hka⟩ : ∃ a, ks[k]? = some a := ⟨ks[k]'(by omega), List.getElem?_eq_getElem (by omega)⟩
      have hca := kat k a c hka hc
      obtain ⟨vc, fc⟩ := binv_valid b c hcm
      have h1024 := binv_len g b
      have cl10 : c.key.length ≤ 10 := Nat.le_trans vc.len g.le
      refine ⟨_, rfl, _, rfl, Lw, _, _, _, rfl, rfl, SqL.of l1, atI_nat (v := V.ref a) (by rw [List.getElem?_map, hka]; rfl), ?_⟩
      refine ⟨_, rfl, _, _, rfl, rfl, ?_⟩
      refine ⟨_, rfl, _, rfl, a, vNs c.key, rfl, .inr (SqT.of hca), rfl, vNs_flat _, inV (.int ((((wr.map V.ref).length : Nat) : Int) - 1)) (vNs c.key), rfl, ?_⟩
      have e9 : inV (.int ((((wr.map V.ref).length : Nat) : Int) - 1)) (vNs c.key) = c.key.contains (rs.length - 1) := by rw [eg, inV_vNs]
      rw [e9]
      cases e0 : c.key.contains (rs.length - 1) with
      | true =>
        have hg : Goal rs c.key := by simpa using e0
        have htr := tro k c hc
        have hcit0 : (shIt rs rooms apart k)[k]? = some c := eit ▸ hc
        refine iteT ⟨_, rfl, _, rfl, Wd, a, kvs, ws, c, rfl, d1, ok, hcm, hca, by omega, fun H2 M bs s2 hM hm2 mm => ?_⟩
        exact k1 H2 M bs c.tr c.key (s1.trans s2) (s1.free hM) hm2 mm (b.path c hcm) hg (fun ms' l' p' g' => b.found hc p' g') ⟨k, c, hcit0, hg, eno, rfl⟩ (by omega)
      | false =>
        have hng : ¬ Goal rs c.key := fun z => by
          have : c.key.contains (rs.length - 1) = true := by simpa using z
          rw [this] at e0
          cases e0
        refine iteF ?_
        refine ⟨_, rfl, _, rfl, _, rfl, _, rfl, x, T, a, rs, c.key, rooms, apart, rfl, hW.same s1, g, hca, vc, fun H2 G as s2 hG dG mG => ⟨G, rfl, ⟨_, SqL.of dG⟩, ?_⟩⟩
        have nLG : Lw ≠ G := ne_of_none l1 hG
        have hML := mG.length
        refine for_it (walk_list (K := K) (a := G) (xs := as.map V.ref)) (fun j σ H3 => ∃ (ws' : List WEnt) (v8 v9 : Option V), σ = [some (.ref x), some (.int (rooms : Nat)), some (.bl apart), some (.int ((((wr.map V.ref).length : Nat) : Int) - 1)), some (.ref Wd), some (.ref Lw), some (.int ((k + 1 : Nat) : Int)), some (.ref a), v8, v9] ∧
          Same H H3 ∧ StateAt H3 Wd Lw ws' ∧ BInv (Step rs rooms apart) [] (Goal rs) ws' k ∧ TrOk ws' ∧ ws'[k]? = some c ∧ H3 G = some (.lst (as.map V.ref)) ∧ MvsAt H3 as (movesL rs c.key rooms apart) ∧ LotAt H3 a c.key ∧
          (∀ (i : Nat) (m : Mv) (l' : List Nat), i < j → (movesL rs c.key rooms apart)[i]? = some m → after rs c.key m = some l' → l' ∈ ws'.map Ent.key) ∧ ws' = ((movesL rs c.key rooms apart).take j).foldl (WB.grow (after rs) c) ws)
          ⟨ws, v8, v9, rfl, s1.trans s2, st.keep s2, b, tro, hc, dG, mG, s2 _ _ hca, fun i m l' z => absurd z (Nat.not_lt_zero _), rfl⟩ (fun j σ H3 _ ⟨_, _, _, _, _, _, _, _, _, z, _⟩ => SqL.of z) ?_ ?_
        · rintro j y σ H3 H3' hj ⟨ws', v8, v9, rfl, s3, st3, b3, tro3, hc3, dG3, mG3, hca3, old, efold⟩ ⟨rfl, hy⟩
          rw [List.getElem?_map] at hy
          obtain ⟨mb, hmb, rfl⟩ := Option.map_eq_some_iff.mp hy
          obtain ⟨mv, hmv, hat3⟩ := mG3.get hmb
          obtain ⟨l', stp⟩ := (moves_iff vc fc mv).mp (List.mem_of_getElem? hmv)
          refine ⟨_, rfl, _, rfl, _, rfl, x, T, a, mb, rs, c.key, mv, rfl, hW.same s3, g, hca3, by omega, hat3, stp.lt, (fun H4 _ z => by rw [stp.eq] at z; cases z), fun H4 q4 l2 s4 e2 hq4 => ?_⟩
          have el : l2 = l' := Option.some.inj (e2.symm.trans stp.eq)
          subst el
          have st4 := st3.keep s4
          obtain ⟨kvs4, ks4, d4, l4, ok4, kl4, kat4⟩ := id st4.ex
          have hq4' : H4 q4 = some (.tup ((kk l2).map kV)) := by rw [kk_map]; exact hq4
          refine ⟨_, rfl, _, rfl, Wd, _, rfl, DGet.t d4 hq4', _, rfl, ?_⟩
          have h4len := binv_len g b3
          have cov : ∀ ws2 : List WEnt, (∀ l, l ∈ ws'.map Ent.key → l ∈ ws2.map Ent.key) → l2 ∈ ws2.map Ent.key → ∀ (i : Nat) (m : Mv) (l' : List Nat), i < j + 1 → (movesL rs c.key rooms apart)[i]? = some m → after rs c.key m = some l' → l' ∈ ws2.map Ent.key := by
            intro ws2 hsub hin i m l' hi hm ha
            rcases Nat.lt_or_ge i j with z | z
            · exact hsub _ (old i m l' z hm ha)
            · have : i = j := by omega
              subst this
              have em : m = mv := Option.some.inj (hm.symm.trans hmv)
              subst em
              have : l' = l2 := Option.some.inj (ha.symm.trans stp.eq)
              subst this
              exact hin
          cases eo : (valV kvs4 (kk l2)).isSome with
          | true =>
            refine iteF ⟨ws', _, _, rfl, s3.trans s4, st4, b3, tro3, hc3, s4 _ _ dG3, mG3.keep (TK.of s4), s4 _ _ hca3, cov ws' (fun _ z => z) ((ok4.isSome l2).mp eo), by rw [WB.foldl_take _ _ hmv, ← efold, grow_old stp.eq ((ok4.isSome l2).mp eo)]⟩
          | false =>
            have hnew : l2 ∉ ws'.map Ent.key := fun z => by rw [(ok4.isSome l2).mpr z] at eo; cases eo
            refine iteT ⟨_, rfl, _, rfl, by show 2 ≤ sizeLine; decide, fun p5 hp5 => ?_⟩
            have s5 : Same H4 (upd H4 p5 (.tup [.ref a, .ref mb])) := same_new hp5
            have d5 := s5 _ _ d4
            have l5 := s5 _ _ l4
            refine ⟨_, rfl, _, rfl, Wd, _, rfl, DPut.t d5 (s5 _ _ hq4') ?_, ?_⟩
            · rw [ok4.len]
              exact size_ok (by omega)
            have hc3m : c ∈ ws' := List.mem_of_getElem? hc3
            have nWL4 : Lw ≠ Wd := nWL.symm
            have l6 : upd (upd H4 p5 (.tup [.ref a, .ref mb])) Wd (.dT (putK kvs4 (kk l2) (.ref p5))) Lw = some (.lst (ks4.map V.ref)) := by
              rw [upd_ne nWL4]
              exact l5
            refine ⟨_, rfl, .inl ⟨rfl, _, SqL.of l6⟩, _, rfl, Lw, _, _, rfl, rfl, l6, by rw [List.length_map, kl4]; exact size_ok (by omega), ?_⟩
            have t6 : TK (upd H4 p5 (.tup [.ref a, .ref mb])) (upd (upd (upd H4 p5 (.tup [.ref a, .ref mb])) Wd (.dT (putK kvs4 (kk l2) (.ref p5)))) Lw (.lst (ks4.map V.ref ++ [.ref q4]))) := (TK.dT d5).trans (TK.lst l6)
            have t46 := (TK.of s5).trans t6
            have s36 : Same H (upd (upd (upd H4 p5 (.tup [.ref a, .ref mb])) Wd (.dT (putK kvs4 (kk l2) (.ref p5)))) Lw (.lst (ks4.map V.ref ++ [.ref q4]))) := fun bb o eo => by
              have e1 := (s3.trans (s4.trans s5)) bb o eo
              have n1 : bb ≠ Wd := ne_of_none eo hWd
              have n2 : bb ≠ Lw := ne_of_none eo (((same_at sA hWd).trans (same_new hq)).free hLw)
              rw [upd_ne n2, upd_ne n1]
              exact e1
            obtain ⟨eput, ok6⟩ := (ok4.keep (TK.of s5)).add (tr := c.tr ++ [mv]) (v := .ref p5) hnew (.inr ⟨c, mv, p5, a, mb, List.mem_append_left _ hc3m, rfl, rfl, upd_same, s5 _ _ (s4 _ _ hca3), (hat3.keep (TK.of s4)).keep (TK.of s5)⟩)
            have b6 := b3.add hc3 stp hnew
            have hkl' : k < ws'.length := (List.getElem?_eq_some_iff.mp hc3).1
            refine ⟨ws' ++ [⟨l2, c.tr ++ [mv]⟩], _, _, rfl, s36, ⟨kvs4 ++ [(kk l2, .ref p5)], ks4 ++ [q4], ?_, ?_, ok6.keep t6, ?_, fun i a' e' h1 h2 => ?_⟩, b6, tro3.add hc3 l2 mv, ?_, ?_, (mG3.keep (TK.of s4)).keep t46, t46 _ _ (s4 _ _ hca3), cov _ (fun l z => ?_) ?_, by rw [WB.foldl_take _ _ hmv, ← efold, grow_new stp.eq hnew]⟩
            · rw [upd_ne nWL, upd_same, eput]
            · rw [List.map_append]
              exact upd_same
            · rw [List.length_append, List.length_append, kl4]
              rfl
            · rcases Nat.lt_or_ge i ws'.length with z | z
              · rw [List.getElem?_append_left (by omega)] at h1
                rw [List.getElem?_append_left z] at h2
                exact t46 _ _ (kat4 i a' e' h1 h2)
              · rw [List.getElem?_append_right (by omega), kl4] at h1
                rw [List.getElem?_append_right z] at h2
                cases hi : i - ws'.length with
                | zero =>
                  rw [hi] at h1 h2
                  simp at h1 h2
                  subst h1 h2
                  exact t46 _ _ hq4
                | succ jj =>
                  rw [hi] at h1
                  simp at h1
            · rw [List.getElem?_append_left hkl']
              exact hc3
            · have dG5 := s5 _ _ (s4 _ _ dG3)
              rw [upd_ne nLG.symm, upd_ne (ne_of dG5 d5 (by intro z; cases z))]
              exact dG5
            · rw [List.map_append]
              exact List.mem_append_left _ z
            · rw [List.map_append]
              exact List.mem_append_right _ (by simp)
        · rintro σ H3 ⟨ws', v8, v9, rfl, s3, st3, b3, tro3, hc3, dG3, mG3, hca3, old, efold⟩
          have hkl' : k < ws'.length := (List.getElem?_eq_some_iff.mp hc3).1
          have h4len := binv_len g b3
          refine ⟨1025 - (k + 1), by omega, k + 1, ws', _, _, _, rfl, s3, st3, b3.next hc3 hng fun m l' stp => ?_, tro3, hkl', ?_, fun j hj e he => ?_, rfl⟩
          · have hm := (moves_iff vc fc m).mpr ⟨l', stp⟩
            obtain ⟨i, hi, ei⟩ := List.mem_iff_getElem.mp hm
            refine old i m l' ?_ (by rw [List.getElem?_eq_getElem hi, ei]) stp.eq
            rw [List.length_map, hML]
            exact hi
          · rw [List.length_map, hML, List.take_of_length_le (Nat.le_refl _)] at efold
            have hcit : (shIt rs rooms apart k)[k]? = some c := eit ▸ hc
            rw [efold, eit]
            exact (WB.iter_succ hcit).symm
          · rcases Nat.lt_or_ge j k with z | z
            · exact eno j z e he
            · have : j = k := by omega
              subst this
              have hcit : (shIt rs rooms apart j)[j]? = some c := eit ▸ hc
              have ee : c = e := Option.some.inj (hcit.symm.trans he)
              rw [← ee]
              exact hng
    · have hke : k = ws.length := by
        have h' : ¬ k < ws.length := fun z => h (decide_eq_true (by rw [hksl]; omega))
        omega
      subst hke
      exact k0 H1 s1 fun ⟨ms, l, p', g'⟩ => b.none p' g'
end
end TX
set_option linter.all false
/-! PM: a row of moves in the plain: what it comes to, the most that it takes. -/
namespace WB
def runM (rs : List (List Nat)) : List Nat → Nat → List Mv → Option (List Nat × Nat)
  | l, m, [] => some (l, m)
  | l, m, v :: vs => match after rs l v with
    | none => none
    | some l' => runM rs l' (max m l'.length) vs
theorem runM_append (rs : List (List Nat)) : ∀ (a b : List Mv) (l : List Nat) (m : Nat), runM rs l m (a ++ b) = (runM rs l m a).bind fun p => runM rs p.1 p.2 b
  | [], _, _, _ => rfl
  | v :: a, b, l, m => by
    show (match after rs l v with
      | none => none
      | some l' => runM rs l' (max m l'.length) (a ++ b)) = Option.bind (match after rs l v with
      | none => none
      | some l' => runM rs l' (max m l'.length) a) _
    cases after rs l v with
    | none => rfl
    | some l' => exact runM_append rs a b l' _
theorem runM_snoc {rs : List (List Nat)} {vs : List Mv} {l0 l : List Nat} {m0 m : Nat} (h : runM rs l0 m0 vs = some (l, m)) (v : Mv) : runM rs l0 m0 (vs ++ [v]) = (after rs l v).map fun l' => (l', max m l'.length) := by
  rw [runM_append, h]
  show (match after rs l v with
    | none => none
    | some l' => runM rs l' (max m l'.length) []) = _
  cases after rs l v with
  | none => rfl
  | some l' => rfl
theorem runM_none {rs : List (List Nat)} {vs : List Mv} {l0 : List Nat} {m0 i : Nat} (h : runM rs l0 m0 (vs.take i) = none) : runM rs l0 m0 vs = none := by
  have : vs = vs.take i ++ vs.drop i := (List.take_append_drop i vs).symm
  rw [this, runM_append, h]
  rfl
/-- the most that a row of moves from bare rooms takes, if it makes the goal -/
def takenM (rs : List (List Nat)) (vs : List Mv) : Option Nat := match runM rs [] 0 vs with
  | none => none
  | some (l, m) => if l.contains (rs.length - 1) then some m else none
/-- a way of steps is such a row -/
theorem runM_path {rs : List (List Nat)} {rooms : Nat} {apart : Bool} {ms : List Mv} {l0 l : List Nat} (p : Path (Step rs rooms apart) l0 ms l) {m0 : Nat} (h0 : m0 ≤ rooms) : ∃ m, runM rs l0 m0 ms = some (l, m) ∧ m ≤ rooms := by
  induction p with
  | nil => exact ⟨m0, rfl, h0⟩
  | @snoc b c ms v p s ih =>
    obtain ⟨m, h1, h2⟩ := ih
    refine ⟨max m c.length, ?_, ?_⟩
    · rw [runM_snoc h1, s.eq]
      rfl
    · have := s.few
      omega
theorem path_ap {rs : List (List Nat)} {rooms : Nat} {apart : Bool} {ms : List Mv} {l0 l : List Nat} (p : Path (Step rs rooms apart) l0 ms l) : ∀ v ∈ ms, v.thing < rs.length ∧ (apart = true → v.slid = false) ∧ ∃ b c, after rs b v = some c := by
  induction p with
  | nil => exact fun v hv => absurd hv List.not_mem_nil
  | @snoc b c ms m p s ih =>
    intro v hv
    rcases List.mem_append.mp hv with z | z
    · exact ih v z
    · rw [List.mem_singleton.mp z]
      exact ⟨s.lt, s.ap, b, c, s.eq⟩
/-- rooms beyond the number of things are of no use -/
theorem step_min {rs : List (List Nat)} {rooms : Nat} {apart : Bool} {ms : List Mv} {l0 l : List Nat} (v0 : Valid rs.length l0) : Path (Step rs rooms apart) l0 ms l ↔ Path (Step rs (min rooms rs.length) apart) l0 ms l := by
  constructor
  · intro p
    induction p with
    | nil => exact .nil _
    | @snoc b c ms m p s ih =>
      have vb := path_valid p v0
      have vc := s.valid vb
      exact .snoc ih ⟨s.lt, s.eq, by have := s.few; have := vc.len; omega, s.ap⟩
  · intro p
    exact p.mono fun a m b s => ⟨s.lt, s.eq, by have := s.few; omega, s.ap⟩
end WB
set_option Elab.async false
set_option linter.all false
set_option maxRecDepth 100000
set_option maxHeartbeats 8000000
/-! V9: check_rooms, check_flag, making (what is right). -/
namespace TX
open PySem PySem.Spec PyProof.Rows L2 RX WB
/-- the search's defs -/
structure Srch (K : PySem.W.Frag) (mg : Str → Option Value) where
  S : Wbs K mg
  d1 : DefAt K mg "moves_from" s_moves_from ["web", "here", "rooms", "apart"]
  d2 : DefAt K mg "moves_to" s_moves_to ["ways", "here"]
  d3 : DefAt K mg "shortest_making" s_shortest_making ["web", "rooms", "apart"]
/-- the checks' defs -/
structure Cks (K : PySem.W.Frag) (mg : Str → Option Value) where
  h1 : DefAt K mg "check_rooms" s_check_rooms ["thing"]
  h2 : DefAt K mg "check_flag" s_check_flag ["thing"]
  mr : ∃ t, mg "MOST_ROOMS" = some (.int 12 t)
def spRoomsR : Sp := fun vs H Q _ => ∃ i : Int, vs = [.int i] ∧ 0 ≤ i ∧ i ≤ 12 ∧ Q .non H
def spFlagR : Sp := fun vs H Q _ => ∃ b : Bool, vs = [.bl b] ∧ Q .non H
def spMaking (C : Addr) : Sp := fun vs H Q _ => ∃ (x T : Addr) (rs : List (List Nat)) (rooms : Nat) (apart : Bool), vs = [.ref x, .int (rooms : Nat), .bl apart] ∧ WebAt C H x T rs ∧ WB.Good rs ∧ rooms ≤ 12 ∧
  (∀ H', Same H H' → ¬ Reach rs rooms apart → Q .non H') ∧
  ∀ (H' : Hp) (M : Addr) (bs : List Addr) (ms : List Mv) (l : List Nat), Same H H' → H' M = some (.tup (bs.map V.ref)) → MvsAt H' bs ms → Path (Step rs rooms apart) [] ms l → Goal rs l →
    (∀ ms' l', Path (Step rs rooms apart) [] ms' l' → Goal rs l' → ms.length ≤ ms'.length) → Short rs rooms apart ms → ms.length ≤ 1024 → Q (.ref M) H'
section
variable {P : Program} {w : World} {K : PySem.W.Frag} {mg : Str → Option Value} {base : Heap}
theorem sc_rooms : FnScope ["thing"] ["thing"] (defScope s_check_rooms) := ⟨rfl, rfl, rfl, by decide +kernel, rfl, by decide +kernel, by decide +kernel⟩
theorem ok_roomsR (Z : Chk K mg) (C : Cks K mg) : FnOk P w K mg base CX0 3 C.h1.f C.h1.fd ["thing"] spRoomsR := by
  obtain ⟨tm, hM⟩ := C.mr
  refine C.h1.F.ok sc_rooms (fun vs H Q E h => ?_) (fun cdv A outer s H vs Q E hr h => ?_)
  · obtain ⟨i, rfl, _⟩ := h
    rfl
  · obtain ⟨i, rfl, h0, h1, k⟩ := h
    refine ⟨_, pss_one (ps_if (pt_not (pt_val (pcl Z.d2 (ok_within Z.B Z.d1 Z.d2) hr (by rfl) (pa_cons (pv 0) (pa_cons pe_int (pa_cons (pe_glob (v := .int 12) rfl hM ⟨_, rfl⟩) pa_nil)))))) (pss_one ps_never) pss_nil), ?_⟩
    refine ⟨_, rfl, .int i, 0, 12, rfl, okv_int i, true, ?_, iteF k⟩
    refine congrArg V.bl ?_
    show (decide ((0 : Int) ≤ i) && decide (i ≤ 12)) = true
    rw [decide_eq_true h0, decide_eq_true h1]
    rfl
theorem sc_flag : FnScope ["thing"] ["thing"] (defScope s_check_flag) := ⟨rfl, rfl, rfl, by decide +kernel, rfl, by decide +kernel, by decide +kernel⟩
theorem kit_bool_bool {K : PySem.W.Frag} : PySem.W.kitOne K (.type "bool") (.type "bool") = some true := kit_ty (by decide +kernel)
theorem ok_flagR (B : Bts mg) (C : Cks K mg) : FnOk P w K mg base CX0 1 C.h2.f C.h2.fd ["thing"] spFlagR := by
  refine C.h2.F.ok sc_flag (fun vs H Q E h => ?_) (fun cdv A outer s H vs Q E hr h => ?_)
  · obtain ⟨b, rfl, _⟩ := h
    rfl
  · obtain ⟨b, rfl, k⟩ := h
    refine ⟨_, pss_one (ps_if (pt_not (pt_val (pe_callB call_isi (by rfl) B.isi boot_isinstance (pa_cons (pv 0) (pa_cons (pe_bltn (v := .ty "bool") (by rfl) B.bool boot_bool' rfl) pa_nil))))) (pss_one ps_never) pss_nil), ?_⟩
    exact ⟨_, rfl, _, _, _, _, _, rfl, ClsV.ty "bool", TyX.base (TyOf.bl b), kit_bool_bool, true, rfl, iteF k⟩
theorem sc_making : FnScope ["web", "rooms", "apart"] ["web", "rooms", "apart"] (defScope s_making) := ⟨rfl, rfl, rfl, by decide +kernel, rfl, by decide +kernel, by decide +kernel⟩
theorem ok_making (R : Srch K mg) (C : Cks K mg) (D : DefAt K mg "making" s_making ["web", "rooms", "apart"]) : FnOk P w K mg base CX0 4 D.f D.fd ["web", "rooms", "apart"] (spMaking R.S.W.C) := by
  refine D.F.ok sc_making (fun vs H Q E h => ?_) (fun cdv A outer s H vs Q E hr h => ?_)
  · obtain ⟨x, T, rs, rooms, apart, rfl, _⟩ := h
    rfl
  · obtain ⟨x, T, rs, rooms, apart, rfl, hW, g, hr12, k0, k1⟩ := h
    refine ⟨_, pss_cons (ps_expr (pcl C.h1 (ok_roomsR R.S.Z C) hr (by rfl) (pa_cons (pv 1) pa_nil)))
      (pss_cons (ps_expr (pcl C.h2 (ok_flagR R.S.Z.B C) (hr.mono (by decide)) (by rfl) (pa_cons (pv 2) pa_nil)))
      (pss_one (ps_ret (pcl R.d3 (ok_short R.S R.d1 R.d2 R.d3) hr (by rfl) (pa_cons (pv 0) (pa_cons (pv 1) (pa_cons (pv 2) pa_nil))))))), ?_⟩
    refine ⟨_, rfl, (rooms : Nat), rfl, by omega, by omega, ?_⟩
    refine ⟨_, rfl, apart, rfl, ?_⟩
    exact ⟨_, rfl, _, rfl, _, rfl, x, T, rs, rooms, apart, rfl, hW, g, k0, fun H' M bs ms l s1 _ hM mm p hg hmin hsh hle => k1 H' M bs ms l s1 hM mm p hg hmin hsh hle⟩
end
end TX
set_option Elab.async false
set_option linter.all false
set_option maxRecDepth 100000
set_option maxHeartbeats 8000000
/-! V10: things that may be moves; is_move. -/
namespace TX
open PySem PySem.Spec PyProof.Rows L2 RX WB
def mvV : Mv → List V
  | .clear t => [.str "clear", .int (t : Nat)]
  | .fill t => [.str "fill", .int (t : Nat)]
  | .slide t o => [.str "slide", .int (t : Nat), .int (o : Nat)]
theorem mvAt_iff {H : Hp} {a : Addr} {v : Mv} : MvAt H a v ↔ H a = some (.tup (mvV v)) := by cases v <;> exact Iff.rfl
def insM (n : Nat) : Mv → Prop
  | .clear t => t < n
  | .fill t => t < n
  | .slide t o => t < n ∧ o < n
theorem insM.lt {n : Nat} {v : Mv} (h : insM n v) : v.thing < n := by
  cases v with
  | clear t => exact h
  | fill t => exact h
  | slide t o => exact h.1
def words : List Str := ["fill", "slide", "clear", "Fill"]
def sizeW (z : Str) : Option Nat := if z = "fill" then some 2 else if z = "slide" then some 3 else if z = "clear" then some 2 else none
def okW (n : Nat) (z : Str) (xs : List V) : Bool := match sizeW z with
  | none => false
  | some k => decide (xs.length + 1 = k) && xs.all (wi 0 ((n : Int) - 1))
def NotTup (K : PySem.W.Frag) (H : Hp) (x : V) : Prop := ∃ t, TyX K H x t ∧ PySem.W.kitOne K t (.type "tuple") = some false
def NotStr (K : PySem.W.Frag) (H : Hp) (x : V) : Prop := ∃ t, TyX K H x t ∧ PySem.W.kitOne K t (.type "str") = some false
/-- what a thing is as a move of a web of n things -/
inductive MvK (K : PySem.W.Frag) (n : Nat) (H : Hp) : V → Option Mv → Prop
  | yes {a : Addr} {v : Mv} (h : MvAt H a v) (i : insM n v) : MvK K n H (.ref a) (some v)
  | notTup {x : V} (h : NotTup K H x) : MvK K n H x none
  | nil {a : Addr} (h : H a = some (.tup [])) : MvK K n H (.ref a) none
  | noStr {a : Addr} {x : V} {xs : List V} (h : H a = some (.tup (x :: xs))) (ns : NotStr K H x) (ok : ∀ y ∈ xs, Okv K H y) (hl : xs.length ≤ 100) : MvK K n H (.ref a) none
  | word {a : Addr} {z : Str} {xs : List V} (h : H a = some (.tup (.str z :: xs))) (hz : z ∈ words) (ok : ∀ y ∈ xs, Okv K H y) (hl : xs.length ≤ 100) (no : ∀ v, mvV v = .str z :: xs → ¬ insM n v) : MvK K n H (.ref a) none
theorem MvK.same {K : PySem.W.Frag} {n : Nat} {H H' : Hp} {x : V} {v : Option Mv} (h : MvK K n H x v) (s : Same H H') : MvK K n H' x v := by
  cases h with
  | yes h i => exact .yes (h.same s) i
  | notTup h =>
    obtain ⟨t, ty, k⟩ := h
    exact .notTup ⟨t, TyX.same s ty, k⟩
  | nil h => exact .nil (s _ _ h)
  | noStr h ns ok hl =>
    obtain ⟨t, ty, k⟩ := ns
    exact .noStr (s _ _ h) ⟨t, TyX.same s ty, k⟩ (fun y hy => (ok y hy).same s) hl
  | word h hz ok hl no => exact .word (s _ _ h) hz (fun y hy => (ok y hy).same s) hl no
theorem wi_nat {n : Nat} (t : Nat) : wi 0 ((n : Int) - 1) (.int (t : Nat)) = decide (t < n) := by
  show (decide ((0 : Int) ≤ ((t : Nat) : Int)) && decide (((t : Nat) : Int) ≤ (n : Int) - 1)) = _
  by_cases h : t < n
  · rw [decide_eq_true h, decide_eq_true (by omega), decide_eq_true (by omega)]
    rfl
  · rw [decide_eq_false h, decide_eq_true (by omega), decide_eq_false (by omega)]
    rfl
theorem wi_in {n : Nat} {x : V} (h : wi 0 ((n : Int) - 1) x = true) : ∃ t : Nat, x = .int (t : Nat) ∧ t < n := by
  cases x with
  | int i =>
    have h' : (decide ((0 : Int) ≤ i) && decide (i ≤ (n : Int) - 1)) = true := h
    obtain ⟨a, b⟩ := Bool.and_eq_true_iff.mp h'
    have a' := of_decide_eq_true a
    have b' := of_decide_eq_true b
    exact ⟨i.toNat, by congr 1; omega, by omega⟩
  | _ => cases h
theorem sz_fill : sizeW "fill" = some 2 := by decide +kernel
theorem sz_slide : sizeW "slide" = some 3 := by decide +kernel
theorem sz_clear : sizeW "clear" = some 2 := by decide +kernel
theorem sz_Fill : sizeW "Fill" = none := by decide +kernel
theorem okW_yes {n : Nat} {v : Mv} (h : insM n v) : ∃ z xs, mvV v = .str z :: xs ∧ z ∈ words ∧ okW n z xs = true ∧ (∀ y ∈ xs, isInt y = true) ∧ xs.length ≤ 100 := by
  cases v with
  | clear t =>
    refine ⟨"clear", [.int (t : Nat)], rfl, by decide +kernel, ?_, fun y hy => by rw [List.mem_singleton.mp hy]; rfl, by simp⟩
    unfold okW
    rw [sz_clear]
    show (decide (1 + 1 = 2) && ([V.int (t : Nat)].all (wi 0 ((n : Int) - 1)))) = true
    simp [wi_nat, show t < n from h]
  | fill t =>
    refine ⟨"fill", [.int (t : Nat)], rfl, by decide +kernel, ?_, fun y hy => by rw [List.mem_singleton.mp hy]; rfl, by simp⟩
    unfold okW
    rw [sz_fill]
    show (decide (1 + 1 = 2) && ([V.int (t : Nat)].all (wi 0 ((n : Int) - 1)))) = true
    simp [wi_nat, show t < n from h]
  | slide t o =>
    refine ⟨"slide", [.int (t : Nat), .int (o : Nat)], rfl, by decide +kernel, ?_, fun y hy => ?_, by simp⟩
    · unfold okW
      rw [sz_slide]
      show (decide (2 + 1 = 3) && ([V.int (t : Nat), V.int (o : Nat)].all (wi 0 ((n : Int) - 1)))) = true
      simp [wi_nat, show t < n ∧ o < n from h]
    · rcases List.mem_cons.mp hy with z | z
      · rw [z]; rfl
      · rw [List.mem_singleton.mp z]; rfl
theorem okW_no {n : Nat} {z : Str} {xs : List V} (hz : z ∈ words) (no : ∀ v, mvV v = .str z :: xs → ¬ insM n v) : okW n z xs = false := by
  cases e : okW n z xs with
  | false => rfl
  | true =>
    exfalso
    have one : ∀ {w : Str} {k : Nat}, sizeW w = some k → okW n w xs = true → xs.length + 1 = k ∧ ∀ y ∈ xs, wi 0 ((n : Int) - 1) y = true := fun {w k} hs e => by
      unfold okW at e
      rw [hs] at e
      obtain ⟨a, b⟩ := Bool.and_eq_true_iff.mp e
      exact ⟨of_decide_eq_true a, List.all_eq_true.mp b⟩
    unfold words at hz
    simp only [List.mem_cons, List.not_mem_nil, or_false] at hz
    rcases hz with rfl | rfl | rfl | rfl
    · obtain ⟨a, b⟩ := one sz_fill e
      obtain ⟨x, rfl⟩ := List.length_eq_one_iff.mp (show xs.length = 1 by omega)
      obtain ⟨t, rfl, ht⟩ := wi_in (b x (by simp))
      exact no (.fill t) rfl ht
    · obtain ⟨a, b⟩ := one sz_slide e
      have a2 : xs.length = 2 := by omega
      clear e one
      match xs, a2, b, no with
      | [x, y], _, b, no =>
        obtain ⟨t, rfl, ht⟩ := wi_in (b x (by simp))
        obtain ⟨o, rfl, ho⟩ := wi_in (b y (by simp))
        exact no (.slide t o) rfl ⟨ht, ho⟩
    · obtain ⟨a, b⟩ := one sz_clear e
      obtain ⟨x, rfl⟩ := List.length_eq_one_iff.mp (show xs.length = 1 by omega)
      obtain ⟨t, rfl, ht⟩ := wi_in (b x (by simp))
      exact no (.clear t) rfl ht
    · unfold okW at e
      rw [sz_Fill] at e
      cases e
theorem MvK.look {K : PySem.W.Frag} {n : Nat} {H : Hp} {y : V} {v : Option Mv} (h : MvK K n H y v) :
    (NotTup K H y ∧ v = none) ∨ (∃ a, y = .ref a ∧ H a = some (.tup []) ∧ v = none) ∨ (∃ a x xs, y = .ref a ∧ H a = some (.tup (x :: xs)) ∧ NotStr K H x ∧ (∀ u ∈ xs, Okv K H u) ∧ xs.length ≤ 100 ∧ v = none) ∨
    (∃ a z xs, y = .ref a ∧ H a = some (.tup (.str z :: xs)) ∧ z ∈ words ∧ (∀ u ∈ xs, Okv K H u) ∧ xs.length ≤ 100 ∧ okW n z xs = v.isSome) := by
  cases h with
  | yes h i =>
    obtain ⟨z, xs, e, hz, e2, hi, hl⟩ := okW_yes i
    rw [mvAt_iff, e] at h
    exact .inr (.inr (.inr ⟨_, z, xs, rfl, h, hz, fun u hu => .inl (hi u hu), hl, e2⟩))
  | notTup h => exact .inl ⟨h, rfl⟩
  | nil h => exact .inr (.inl ⟨_, rfl, h, rfl⟩)
  | noStr h ns ok hl => exact .inr (.inr (.inl ⟨_, _, _, rfl, h, ns, ok, hl, rfl⟩))
  | word h hz ok hl no => exact .inr (.inr (.inr ⟨_, _, _, rfl, h, hz, ok, hl, okW_no hz no⟩))
/-- the table of sizes -/
structure Siz (K : PySem.W.Frag) (w : World) (mg : Str → Option Value) where
  d : Addr
  es : Array DictEntry
  n : Nat
  D : KDict K w d es n
  g : mg "SIZES" = some (.ref d)
  v1 : ∃ u, PySem.W.nsIn K d "fill" = some (some u) ∧ RelV (.int 2) u
  v2 : ∃ u, PySem.W.nsIn K d "slide" = some (some u) ∧ RelV (.int 3) u
  v3 : ∃ u, PySem.W.nsIn K d "clear" = some (some u) ∧ RelV (.int 2) u
  v4 : PySem.W.nsIn K d "Fill" = some none
theorem Siz.get {K : PySem.W.Frag} {w : World} {mg : Str → Option Value} (Z : Siz K w mg) {z : Str} (hz : z ∈ words) : (∃ u k, sizeW z = some k ∧ PySem.W.nsIn K Z.d z = some (some u) ∧ RelV (.int (k : Nat)) u) ∨ (sizeW z = none ∧ PySem.W.nsIn K Z.d z = some none) := by
  unfold words at hz
  simp only [List.mem_cons, List.not_mem_nil, or_false] at hz
  rcases hz with rfl | rfl | rfl | rfl
  · obtain ⟨u, h1, h2⟩ := Z.v1
    exact .inl ⟨u, 2, sz_fill, h1, h2⟩
  · obtain ⟨u, h1, h2⟩ := Z.v2
    exact .inl ⟨u, 3, sz_slide, h1, h2⟩
  · obtain ⟨u, h1, h2⟩ := Z.v3
    exact .inl ⟨u, 2, sz_clear, h1, h2⟩
  · exact .inr ⟨sz_Fill, Z.v4⟩
def spIsMove (K : PySem.W.Frag) (C : Addr) : Sp := fun vs H Q _ => ∃ (x T : Addr) (y : V) (rs : List (List Nat)) (v : Option Mv), vs = [.ref x, y] ∧ WebAt C H x T rs ∧ WB.Good rs ∧ MvK K rs.length H y v ∧ ∀ H', Same H H' → Q (.bl v.isSome) H'
section
variable {P : Program} {w : World} {K : PySem.W.Frag} {mg : Str → Option Value} {base : Heap}
theorem kit_tup_str {K : PySem.W.Frag} : PySem.W.kitOne K (.type "str") (.type "str") = some true := kit_ty (by decide +kernel)
theorem cut_tail (x : V) (xs : List V) : cutV (x :: xs) (some 1) none = xs := by
  have e1 : HT.sIx (x :: xs).length 0 (some 1) = 1 := by
    have := HT.sIx_nat (x :: xs).length 0 1
    rw [List.length_cons] at this ⊢
    rw [show (some (1 : Int)) = some ((1 : Nat) : Int) from rfl, this]
    omega
  unfold cutV
  rw [e1, HT.sIx_none, List.drop_one, List.tail_cons, List.length_cons, Nat.add_sub_cancel, List.take_of_length_le (Nat.le_refl _)]
theorem not_whole (x : V) (xs : List V) (n : Nat) : ¬ (HT.sIx (x :: xs).length 0 (some 1) = 0 ∧ n = (x :: xs).length) := by
  have := HT.sIx_nat (x :: xs).length 0 1
  rintro ⟨z, _⟩
  rw [show (some (1 : Int)) = some ((1 : Nat) : Int) from rfl, this, List.length_cons] at z
  omega
theorem sc_isMove : FnScope ["web", "thing", "item"] ["web", "thing"] (defScope s_is_move) := ⟨rfl, rfl, rfl, by decide +kernel, rfl, by decide +kernel, by decide +kernel⟩
theorem ok_isMove (Y : Chk K mg) (W : WebC K mg) (Z : Siz K w mg) (us : mg "str" = none) (D : DefAt K mg "is_move" s_is_move ["web", "thing"]) : FnOk P w K mg base CX0 3 D.f D.fd ["web", "thing"] (spIsMove K W.C) := by
  have B := Y.B
  refine D.F.ok sc_isMove (fun vs H Q E h => ?_) (fun cdv A outer s H vs Q E hr h => ?_)
  · obtain ⟨x, T, y, rs, v, rfl, _⟩ := h
    rfl
  · obtain ⟨x, T, y, rs, v, rfl, hW, g, hv, k⟩ := h
    refine ⟨_, pss_cons (ps_if (PW.pt (pw_or (pt_not (pt_val (pe_callB call_isi (by rfl) B.isi boot_isinstance (pa_cons (pv 1) (pa_cons (pe_bltn (v := .ty "tuple") (by rfl) B.tuple PyProof.Rows.boot_tuple rfl) pa_nil)))))
        (pw_or (pt_cmpR op_eq (pe_callB call_len_seq (by rfl) B.len PySem.boot_len (pa_cons (pv 1) pa_nil)) pe_int (nomark _))
        (pw_or (pt_not (pt_val (pe_callB call_isi (by rfl) B.isi boot_isinstance (pa_cons (pe_ix ix_tup (pv 1) pe_int (fun _ _ => rfl)) (pa_cons (pe_bltn (v := .ty "str") (by rfl) us PyProof.Rows.boot_str rfl) pa_nil)))))
        (pw_or1 (pt_cmpR (op_notIn_kd Z.D) (pe_ix ix_tup (pv 1) pe_int (fun _ _ => rfl)) (pe_glob (v := .ref Z.d) rfl Z.g rfl) (by rfl))))))) (pss_one (ps_ret pe_bl)) pss_nil)
      (pss_one (ps_ret (pe_and (pe_cmpR op_eq (pe_callB call_len_seq (by rfl) B.len PySem.boot_len (pa_cons (pv 1) pa_nil)) (pe_ix ix_kdict (pe_glob (v := .ref Z.d) rfl Z.g rfl) (pe_ix ix_tup (pv 1) pe_int (fun _ _ => rfl)) (fun _ _ => rfl)) (nomark _))
        (pe_one (pe_callB (cr_all rfl) (by rfl) B.all boot_all (pa_cons
          (pe_lc (own := [("item", 2)]) (g := gName 2) (tt := tYes) (te := tCall (spWithin K) [] E0 (tCons (tVar 2) (tCons (tC (.int 0)) (tCons (tOp (rI0 fun i j => .int (i - j)) (tCB (fun xs H Q => ∃ p ys, xs = [.ref p] ∧ (SqL K H p ys ∨ SqT K H p ys) ∧ Q (.int ys.length) H) (tCons (tFld K (tVar 0) "reads") tNil)) (tC (.int 1))) tNil)))) (by rfl) sc_isMove.nd (pi_tup (pe_slice sl_tupA (pv 1) (po_some pe_int) po_none)) (blkOk_by (N := ["web", "thing", "item"]) (sc := defScope s_is_move) (by decide +kernel))
            (fun _ _ _ _ _ => pg_name (i := 2) sc_isMove.nd rfl (Or.inl rfl)) (fun _ _ _ _ _ => pts_nil)
            (fun _ _ _ _ _ => pcl Y.d2 (ok_within B Y.d1 Y.d2) hr (by rfl) (pa_cons (pv 2) (pa_cons pe_int (pa_cons (pe_op op_sub (pe_callB call_len_seq (by rfl) B.len PySem.boot_len (pa_cons (pe_fld (pv 0) rfl) pa_nil)) pe_int) pa_nil)))))
          pa_nil)))))), ?_⟩
    rcases hv.look with ⟨⟨t, ty, kt⟩, rfl⟩ | ⟨a, rfl, h, rfl⟩ | ⟨a, x0, xs, rfl, h, ⟨t, ty, kt⟩, ok, hl, rfl⟩ | ⟨a, z, xs, rfl, h, hz, ok, hl, e⟩
    · exact ⟨_, rfl, _, _, _, _, _, rfl, ClsV.ty "tuple", ty, kt, false, rfl, k H (Same.refl H)⟩
    · refine ⟨_, rfl, _, _, _, _, _, rfl, ClsV.ty "tuple", TyX.base (TyOf.tup h), kit_tup_tup, true, rfl, ?_⟩
      exact ⟨_, rfl, a, _, rfl, .inr (SqT.of h), rfl, _, rfl, iteD rfl (k H (Same.refl H))⟩
    · refine ⟨_, rfl, _, _, _, _, _, rfl, ClsV.ty "tuple", TyX.base (TyOf.tup h), kit_tup_tup, true, rfl, ?_⟩
      refine ⟨_, rfl, a, _, rfl, .inr (SqT.of h), rfl, _, rfl, iteN (fun z => ?_) ?_⟩
      · injection z with z
        rw [List.length_cons] at z
        omega
      exact ⟨_, rfl, a, _, _, _, rfl, rfl, SqT.of h, atI_nat (j := 0) rfl, _, _, _, _, _, rfl, ClsV.ty "str", ty, kt, false, rfl, k H (Same.refl H)⟩
    · refine ⟨_, rfl, _, _, _, _, _, rfl, ClsV.ty "tuple", TyX.base (TyOf.tup h), kit_tup_tup, true, rfl, ?_⟩
      refine ⟨_, rfl, a, _, rfl, .inr (SqT.of h), rfl, _, rfl, iteN (fun z => ?_) ?_⟩
      · injection z with z
        rw [List.length_cons] at z
        omega
      refine ⟨_, rfl, a, _, _, _, rfl, rfl, SqT.of h, atI_nat (j := 0) rfl, _, _, _, _, _, rfl, ClsV.ty "str", TyX.base (TyOf.str z), kit_tup_str, true, rfl, ?_⟩
      refine ⟨_, rfl, a, _, _, _, rfl, rfl, SqT.of h, atI_nat (j := 0) rfl, ?_⟩
      rcases Z.get hz with ⟨u, kk, hs, hns, ru⟩ | ⟨hs, hns⟩
      · refine ⟨z, some u, rfl, rfl, hns, false, rfl, iteF ?_⟩
        refine ⟨_, rfl, a, _, rfl, .inr (SqT.of h), ?_⟩
        refine ⟨_, rfl, a, _, _, _, rfl, rfl, SqT.of h, atI_nat (j := 0) rfl, Z.d, z, _, rfl, rfl, ⟨Z.es, Z.n, u, Z.D.at_, Z.D.lit, hns, ru⟩, rfl, _, rfl, ?_⟩
        have eo : okW rs.length z xs = (decide (xs.length + 1 = kk) && xs.all (wi 0 ((rs.length : Int) - 1))) := by unfold okW; rw [hs]
        refine ite2 (fun c => ?_) (fun c => ?_)
        · have c' : xs.length + 1 = kk := by
            have c1 := of_decide_eq_true c
            injection c1 with c1
            rw [List.length_cons] at c1
            omega
          rw [decide_eq_true c', Bool.true_and] at eo
          have keyO : v.isSome = xs.all (wi 0 ((rs.length : Int) - 1)) := e.symm.trans eo
          obtain ⟨dx, hx⟩ := hW.ob
          obtain ⟨wr, hT, hal, hat⟩ := hW.rd.ex
          have hlen : (wr.map V.ref).length = rs.length := by rw [List.length_map, hal]
          refine ⟨_, rfl, 1, rfl, a, _, rfl, SqT.of h, fun zz => absurd zz (not_whole _ _ _), fun _ p hp => ⟨p, rfl, ⟨_, SqT.of upd_same⟩, fun D hD => ?_⟩⟩
          rw [cut_tail] at hD ⊢
          have s1 : Same H (upd H p (.tup xs)) := same_new hp
          refine lc_it (walk_tup (K := K) (a := p) (xs := xs)) (fun i H1 => Same (upd H p (.tup xs)) H1 ∧ H1 D = some (.lst ((xs.take i).map fun x => V.bl (wi 0 ((rs.length : Int) - 1) x)))) ⟨same_new hD, upd_same⟩ (fun i H1 _ q => SqT.of (q.1 _ _ upd_same)) ?_ ?_
          · rintro i y H1 H1' hi ⟨s2, d1⟩ ⟨rfl, hy⟩
            have s12 := s1.trans s2
            refine ⟨rfl, _, rfl, _, rfl, x, W.C, dx, _, _, rfl, s12 _ _ hx, W.cl, W.nR, lookup_reads _, T, _, rfl, .inr (SqT.of (s12 _ _ hT)), _, _, rfl, rfl, y, 0, _, rfl, (ok y (List.mem_of_getElem? hy)).same s12, ?_⟩
            rw [hlen]
            refine ⟨_, d1, ?_, same_at s2 hD, ?_⟩
            · rw [List.length_map, List.length_take]
              exact size_ok (by omega)
            · rw [take_succ_map _ hy]
              exact upd_same
          · rintro H1 ⟨s2, d1⟩
            rw [List.take_of_length_le (Nat.le_refl _)] at d1
            refine ⟨D, xs.map (wi 0 ((rs.length : Int) - 1)), rfl, SqL.of (by rw [d1, List.map_map]; rfl), ?_⟩
            have e : (xs.map (wi 0 ((rs.length : Int) - 1))).all id = xs.all (wi 0 ((rs.length : Int) - 1)) := by
              rw [List.all_map]
              rfl
            rw [e, ← keyO]
            exact k H1 (s1.trans s2)
        · have c' : ¬ xs.length + 1 = kk := fun q => c (decide_eq_true (by rw [List.length_cons, q]))
          rw [decide_eq_false c', Bool.false_and, e] at eo
          have := k H (Same.refl H)
          rw [eo] at this
          exact this
      · refine ⟨z, none, rfl, rfl, hns, true, rfl, iteT ?_⟩
        have : v.isSome = false := by
          rw [← e]
          unfold okW
          rw [hs]
        have q := k H (Same.refl H)
        rw [this] at q
        exact q
end
end TX
set_option Elab.async false
set_option linter.all false
set_option maxRecDepth 100000
set_option maxHeartbeats 8000000
/-! V11: most_taken. -/
namespace TX
open PySem PySem.Spec PyProof.Rows L2 RX WB
/-- things that may be moves, in a row -/
structure MvKs (K : PySem.W.Frag) (n : Nat) (H : Hp) (xs : List V) (vs : List (Option Mv)) : Prop where
  len : xs.length = vs.length
  at_ : ∀ (i : Nat) (x : V) (v : Option Mv), xs[i]? = some x → vs[i]? = some v → MvK K n H x v
theorem MvKs.same {K : PySem.W.Frag} {n : Nat} {H H' : Hp} {xs : List V} {vs : List (Option Mv)} (h : MvKs K n H xs vs) (s : Same H H') : MvKs K n H' xs vs := ⟨h.len, fun i x v e1 e2 => (h.at_ i x v e1 e2).same s⟩
/-- what a thing that may be a making takes -/
def takenO (rs : List (List Nat)) (vs : List (Option Mv)) : Option Nat := if vs.all Option.isSome then takenM rs (vs.filterMap id) else none
def optV : Option Nat → V
  | none => .non
  | some m => .int (m : Nat)
theorem all_some {vs : List (Option Mv)} (h : vs.all Option.isSome = true) : ∃ ms : List Mv, vs = ms.map some := by
  induction vs with
  | nil => exact ⟨[], rfl⟩
  | cons v vs ih =>
    rw [List.all_cons] at h
    obtain ⟨a, b⟩ := Bool.and_eq_true_iff.mp h
    obtain ⟨ms, rfl⟩ := ih b
    obtain ⟨m, rfl⟩ := Option.isSome_iff_exists.mp a
    exact ⟨m :: ms, rfl⟩
theorem filter_some (ms : List Mv) : (ms.map some).filterMap id = ms := by
  induction ms with
  | nil => rfl
  | cons m ms ih => simp
theorem takenO_some (rs : List (List Nat)) (ms : List Mv) : takenO rs (ms.map some) = takenM rs ms := by
  unfold takenO
  rw [if_pos (by rw [List.all_map, List.all_eq_true]; exact fun _ _ => rfl), filter_some]
def spMost (K : PySem.W.Frag) (C : Addr) : Sp := fun vs H Q _ => ∃ (x T : Addr) (y : V) (rs : List (List Nat)), vs = [.ref x, y] ∧ WebAt C H x T rs ∧ WB.Good rs ∧
  ((NotTup K H y ∧ Q .non H) ∨ (∃ (a : Addr) (xs : List V) (ms : List (Option Mv)), y = .ref a ∧ H a = some (.tup xs) ∧ xs.length ≤ 5000 ∧ MvKs K rs.length H xs ms ∧ ∀ H', Same H H' → Q (optV (takenO rs ms)) H'))
theorem MvK.yesAt {K : PySem.W.Frag} {n : Nat} {H : Hp} {x : V} {v : Mv} (h : MvK K n H x (some v)) : ∃ a, x = .ref a ∧ MvAt H a v ∧ insM n v := by
  cases h with
  | yes h i => exact ⟨_, rfl, h, i⟩
section
variable {P : Program} {w : World} {K : PySem.W.Frag} {mg : Str → Option Value} {base : Heap}
/-- the judge's defs -/
structure Jdg (K : PySem.W.Frag) (w : World) (mg : Str → Option Value) where
  S : Wbs K mg
  Z : Siz K w mg
  us : mg "str" = none
  um : mg "max" = none
  j1 : DefAt K mg "is_move" s_is_move ["web", "thing"]
  j2 : DefAt K mg "most_taken" s_most_taken ["web", "thing"]
theorem sc_most : FnScope ["web", "thing", "move", "here", "most"] ["web", "thing"] (defScope s_most_taken) := ⟨rfl, rfl, rfl, by decide +kernel, rfl, by decide +kernel, by decide +kernel⟩
theorem ok_most (J : Jdg K w mg) : FnOk P w K mg base CX0 4 J.j2.f J.j2.fd ["web", "thing"] (spMost K J.S.W.C) := by
  have B := J.S.Z.B
  refine J.j2.F.ok sc_most (fun vs H Q E h => ?_) (fun cdv A outer s H vs Q E hr h => ?_)
  · obtain ⟨x, T, y, rs, rfl, _⟩ := h
    rfl
  · obtain ⟨x, T, y, rs, rfl, hW, g, h⟩ := h
    have GM : FnOk P w K mg base CX0 3 J.j1.f J.j1.fd ["web", "thing"] (spIsMove K J.S.W.C) := ok_isMove J.S.Z J.S.W J.Z J.us J.j1
    refine ⟨_, pss_cons (ps_if (PW.pt (pw_or (pt_not (pt_val (pe_callB call_isi (by rfl) B.isi boot_isinstance (pa_cons (pv 1) (pa_cons (pe_bltn (v := .ty "tuple") (by rfl) B.tuple PyProof.Rows.boot_tuple rfl) pa_nil)))))
        (pw_or1 (pt_not (pt_val (pe_callB (cr_all rfl) (by rfl) B.all boot_all (pa_cons
          (pe_lc (own := [("move", 2)]) (g := gName 2) (tt := tYes) (te := tCall (spIsMove K J.S.W.C) [] E0 (tCons (tVar 0) (tCons (tVar 2) tNil))) (by rfl) sc_most.nd (pi_tup (pv 1)) (blkOk_by (N := ["web", "thing", "move", "here", "most"]) (sc := defScope s_most_taken) (by decide +kernel))
            (fun _ _ _ _ _ => pg_name (i := 2) sc_most.nd rfl (Or.inl rfl)) (fun _ _ _ _ _ => pts_nil)
            (fun _ _ _ _ _ => pcl J.j1 GM hr (by rfl) (pa_cons (pv 0) (pa_cons (pv 2) pa_nil))))
          pa_nil))))))) (pss_one (ps_ret pe_non)) pss_nil)
      (pss_cons (ps_set (i := 3) sc_most.nd rfl (Or.inl rfl) (pe_tup pa_nil))
      (pss_cons (ps_set (i := 4) sc_most.nd rfl (Or.inl rfl) pe_int)
      (pss_cons (ps_for PassesOwn.never rfl (pi_tup (pv 1)) (pg_name (i := 2) sc_most.nd rfl (Or.inl rfl))
        (pss_cons (ps_set (i := 3) sc_most.nd rfl (Or.inl rfl) (pcl J.S.e2 (ok_behind J.S) (hr.mono (by decide)) (by rfl) (pa_cons (pv 0) (pa_cons (pv 3) (pa_cons (pv 2) pa_nil)))))
        (pss_cons (ps_if (pt_cmpR op_isN (pv 3) pe_non (nomark _)) (pss_one (ps_ret pe_non)) pss_nil)
        (pss_one (ps_set (i := 4) sc_most.nd rfl (Or.inl rfl) (pe_callB (call_max2 rfl) (by rfl) J.um boot_max (pa_cons (pv 4) (pa_cons (pe_callB call_len_seq (by rfl) B.len PySem.boot_len (pa_cons (pv 3) pa_nil)) pa_nil))))))))
      (pss_one (ps_ret (pe_ifExp (pt_cmpR op_in_seq (pe_op op_sub (pe_callB call_len_seq (by rfl) B.len PySem.boot_len (pa_cons (pe_fld (pv 0) rfl) pa_nil)) pe_int) (pv 3) (by rfl)) (pv 4) pe_non)))))), ?_⟩
    rcases h with ⟨⟨t, ty, kt⟩, k⟩ | ⟨a, xs, ms, rfl, ha, hl, hm, k⟩
    · exact ⟨_, rfl, _, _, _, _, _, rfl, ClsV.ty "tuple", ty, kt, false, rfl, k⟩
    refine ⟨_, rfl, _, _, _, _, _, rfl, ClsV.ty "tuple", TyX.base (TyOf.tup ha), kit_tup_tup, true, rfl, ?_⟩
    refine ⟨_, rfl, a, rfl, ⟨_, SqT.of ha⟩, fun D hD => ?_⟩
    refine lc_it (walk_tup (K := K) (a := a) (xs := xs)) (fun i H1 => Same H H1 ∧ H1 D = some (.lst ((ms.take i).map fun v => V.bl v.isSome))) ⟨same_new hD, upd_same⟩ (fun i H1 _ q => SqT.of (q.1 _ _ ha)) ?_ ?_
    · rintro i y H1 H1' hi ⟨s1, d1⟩ ⟨rfl, hy⟩
      obtain ⟨v, hv⟩ : ∃ v, ms[i]? = some v := ⟨ms[i]'(by rw [← hm.len]; exact hi), List.getElem?_eq_getElem _⟩
      refine ⟨rfl, _, rfl, _, rfl, x, T, y, rs, v, rfl, hW.same s1, g, (hm.at_ i y v hy hv).same s1, fun H2 s2 => ⟨_, s2 _ _ d1, ?_, same_at (s1.trans s2) hD, ?_⟩⟩
      · have := hm.len
        rw [List.length_map, List.length_take]
        exact size_ok (by omega)
      · rw [take_succ_map _ hv]
        exact upd_same
    rintro H1 ⟨s1, d1⟩
    rw [List.take_of_length_le (by rw [hm.len]; exact Nat.le_refl _)] at d1
    refine ⟨D, ms.map Option.isSome, rfl, SqL.of (by rw [d1, List.map_map]; rfl), _, rfl, ?_⟩
    have eall : (ms.map Option.isSome).all id = ms.all Option.isSome := by
      rw [List.all_map]
      rfl
    rw [eall]
    cases e0 : ms.all Option.isSome with
    | false =>
      have q := k H1 s1
      unfold takenO at q
      rw [e0] at q
      exact q
    | true =>
      obtain ⟨vs, rfl⟩ := all_some e0
      rw [takenO_some] at k
      have hml := hm.len
      rw [List.length_map] at hml
      refine ⟨Nat.zero_le _, fun p0 hp0 => ?_⟩
      have s2 := s1.trans (same_new (o := .tup []) hp0)
      refine ⟨_, rfl, a, rfl, ⟨_, SqT.of (s2 _ _ ha)⟩, ?_⟩
      refine for_it (walk_tup (K := K) (a := a) (xs := xs)) (fun i σ H3 => ∃ (v2 : Option V) (b : Addr) (l : List Nat) (m : Nat), σ = [some (.ref x), some (.ref a), v2, some (.ref b), some (.int (m : Nat))] ∧ Same H H3 ∧ LotAt H3 b l ∧ Valid rs.length l ∧ runM rs [] 0 (vs.take i) = some (l, m))
        ⟨none, p0, [], 0, rfl, s2, upd_same, valid_nil _, rfl⟩ (fun i σ H3 _ ⟨_, _, _, _, _, z, _⟩ => SqT.of (z _ _ ha)) ?_ ?_
      · rintro i y σ H3 H3' hi ⟨v2, b, l, m, rfl, s3, hb, vl, hrun⟩ ⟨rfl, hy⟩
        obtain ⟨v, hv⟩ : ∃ v, vs[i]? = some v := ⟨vs[i]'(by omega), List.getElem?_eq_getElem _⟩
        have hk := (hm.at_ i y (some v) hy (by rw [List.getElem?_map, hv]; rfl)).same s3
        obtain ⟨mb, rfl, hmb, hins⟩ := hk.yesAt
        have hl10 : l.length ≤ 10 := Nat.le_trans vl.len g.le
        have estep : runM rs [] 0 (vs.take (i + 1)) = (after rs l v).map fun l' => (l', max m l'.length) := by
          rw [List.take_add_one, hv]
          exact runM_snoc hrun v
        refine ⟨_, rfl, _, rfl, _, rfl, x, T, b, mb, rs, l, v, rfl, hW.same s3, g, hb, by omega, hmb, hins.lt, fun H4 s4 en => ?_, fun H4 q l' s4 en hq => ?_⟩
        · refine ⟨_, rfl, rfl, _, rfl, iteD rfl ?_⟩
          have q := k H4 (s3.trans s4)
          unfold takenM at q
          rw [en] at estep
          rw [runM_none (i := i + 1) estep] at q
          exact q
        · refine ⟨_, rfl, rfl, _, rfl, iteN (by intro z; cases z) ?_⟩
          refine ⟨_, rfl, _, rfl, q, _, rfl, .inr (SqT.of hq), _, _, rfl, ?_⟩
          rw [en] at estep
          refine ⟨some (.ref mb), q, l', max m l'.length, ?_, s3.trans s4, hq, after_valid vl hins.lt en, estep⟩
          have ei : (if (((vNs l').length : Nat) : Int) > ((m : Nat) : Int) then (((vNs l').length : Nat) : Int) else ((m : Nat) : Int)) = ((max m l'.length : Nat) : Int) := by
            rw [vNs_len]
            split <;> omega
          show [some (V.ref x), some (V.ref a), some (V.ref mb), some (V.ref q), some (V.int (if (((vNs l').length : Nat) : Int) > ((m : Nat) : Int) then (((vNs l').length : Nat) : Int) else ((m : Nat) : Int)))] = _
          rw [ei]
      · rintro σ H3 ⟨v2, b, l, m, rfl, s3, hb, vl, hrun⟩
        rw [List.take_of_length_le (by omega)] at hrun
        obtain ⟨dx, hx⟩ := (hW.same s3).ob
        obtain ⟨wr, hT, hal, hat⟩ := (hW.same s3).rd.ex
        have hlen : (wr.map V.ref).length = rs.length := by rw [List.length_map, hal]
        have gp := g.pos
        have eg : ((((wr.map V.ref).length : Nat) : Int) - 1) = ((rs.length - 1 : Nat) : Int) := by rw [hlen]; omega
        refine ⟨_, rfl, x, J.S.W.C, dx, _, _, rfl, hx, J.S.W.cl, J.S.W.nR, lookup_reads _, T, _, rfl, .inr (SqT.of hT), _, _, rfl, rfl, _, rfl, b, vNs l, rfl, .inr (SqT.of hb), rfl, vNs_flat l, inV (.int ((((wr.map V.ref).length : Nat) : Int) - 1)) (vNs l), rfl, ?_⟩
        rw [eg, inV_vNs]
        have q := k H3 s3
        unfold takenM at q
        rw [hrun] at q
        cases hc : l.contains (rs.length - 1) with
        | true =>
          have q' : Q (optV (if l.contains (rs.length - 1) = true then some m else none)) H3 := q
          rw [hc] at q'
          exact iteT ⟨_, rfl, q'⟩
        | false =>
          have q' : Q (optV (if l.contains (rs.length - 1) = true then some m else none)) H3 := q
          rw [hc] at q'
          exact iteF q'
end
end TX
set_option Elab.async false
set_option linter.all false
set_option maxRecDepth 100000
set_option maxHeartbeats 8000000
/-! V12: is_slide, is_making_in, is_making, taken. -/
namespace TX
open PySem PySem.Spec PyProof.Rows L2 RX WB
def slidO : Option Mv → Bool
  | some v => v.slid
  | none => false
def isMakingO (rs : List (List Nat)) (rooms : Nat) (apart : Bool) (ms : List (Option Mv)) : Bool := match takenO rs ms with
  | none => false
  | some m => decide (m ≤ rooms) && (!apart || !(ms.any slidO))
def spSlide : Sp := fun vs H Q _ => ∃ (a : Addr) (v : Mv), vs = [.ref a] ∧ MvAt H a v ∧ Q (.bl v.slid) H
def spMakIn (K : PySem.W.Frag) (C : Addr) : Sp := fun vs H Q _ => ∃ (x T : Addr) (y : V) (rs : List (List Nat)) (rooms : Nat) (apart : Bool), vs = [.ref x, .int (rooms : Nat), .bl apart, y] ∧ rooms ≤ 12 ∧ WebAt C H x T rs ∧ WB.Good rs ∧
  ((NotTup K H y ∧ Q (.bl false) H) ∨ (∃ (a : Addr) (xs : List V) (ms : List (Option Mv)), y = .ref a ∧ H a = some (.tup xs) ∧ xs.length ≤ 5000 ∧ MvKs K rs.length H xs ms ∧ ∀ H', Same H H' → Q (.bl (isMakingO rs rooms apart ms)) H'))
def spTakenR (K : PySem.W.Frag) (C : Addr) : Sp := fun vs H Q _ => ∃ (x T a : Addr) (rs : List (List Nat)) (xs : List V) (ms : List (Option Mv)) (m : Nat), vs = [.ref x, .ref a] ∧ WebAt C H x T rs ∧ WB.Good rs ∧
  H a = some (.tup xs) ∧ xs.length ≤ 5000 ∧ MvKs K rs.length H xs ms ∧ takenO rs ms = some m ∧ ∀ H', Same H H' → Q (.int (m : Nat)) H'
section
variable {P : Program} {w : World} {K : PySem.W.Frag} {mg : Str → Option Value} {base : Heap}
structure Mkg (K : PySem.W.Frag) (w : World) (mg : Str → Option Value) where
  J : Jdg K w mg
  C : Cks K mg
  ua : mg "any" = none
  m1 : DefAt K mg "is_slide" s_is_slide ["move"]
  m2 : DefAt K mg "is_making_in" s_is_making_in ["web", "rooms", "apart", "thing"]
  m3 : DefAt K mg "is_making" s_is_making ["web", "rooms", "apart", "thing"]
  m4 : DefAt K mg "taken" s_taken ["web", "moves"]
theorem sc_slide : FnScope ["move"] ["move"] (defScope s_is_slide) := ⟨rfl, rfl, rfl, by decide +kernel, rfl, by decide +kernel, by decide +kernel⟩
theorem ne_fs : ¬ (V.str "fill" = V.str "slide") := by decide +kernel
theorem ne_cs : ¬ (V.str "clear" = V.str "slide") := by decide +kernel
theorem ok_slide (D : DefAt K mg "is_slide" s_is_slide ["move"]) : FnOk P w K mg base CX0 1 D.f D.fd ["move"] spSlide := by
  refine D.F.ok sc_slide (fun vs H Q E h => ?_) (fun cdv A outer s H vs Q E hr h => ?_)
  · obtain ⟨a, v, rfl, _⟩ := h
    rfl
  · obtain ⟨a, v, rfl, hv, k⟩ := h
    refine ⟨_, pss_one (ps_ret (pe_cmpR op_eq (pe_ix ix_tup (pv 0) pe_int (fun _ _ => rfl)) pe_str (nomark _))), ?_⟩
    rw [mvAt_iff] at hv
    cases v with
    | clear t =>
      refine ⟨_, rfl, a, _, _, _, rfl, rfl, SqT.of hv, atI_nat (j := 0) rfl, rfl, ?_⟩
      rw [decide_eq_false ne_cs]
      exact k
    | fill t =>
      refine ⟨_, rfl, a, _, _, _, rfl, rfl, SqT.of hv, atI_nat (j := 0) rfl, rfl, ?_⟩
      rw [decide_eq_false ne_fs]
      exact k
    | slide t o =>
      refine ⟨_, rfl, a, _, _, _, rfl, rfl, SqT.of hv, atI_nat (j := 0) rfl, rfl, ?_⟩
      rw [decide_eq_true rfl]
      exact k
theorem sc_makIn : FnScope ["web", "rooms", "apart", "thing", "most", "move"] ["web", "rooms", "apart", "thing"] (defScope s_is_making_in) := ⟨rfl, rfl, rfl, by decide +kernel, rfl, by decide +kernel, by decide +kernel⟩
theorem ok_makIn (G : Mkg K w mg) : FnOk P w K mg base CX0 5 G.m2.f G.m2.fd ["web", "rooms", "apart", "thing"] (spMakIn K G.J.S.W.C) := by
  have B := G.J.S.Z.B
  refine G.m2.F.ok sc_makIn (fun vs H Q E h => ?_) (fun cdv A outer s H vs Q E hr h => ?_)
  · obtain ⟨x, T, y, rs, rooms, apart, rfl, _⟩ := h
    rfl
  · obtain ⟨x, T, y, rs, rooms, apart, rfl, hr12, hW, g, h⟩ := h
    have GM : FnOk P w K mg base CX0 4 G.J.j2.f G.J.j2.fd ["web", "thing"] (spMost K G.J.S.W.C) := ok_most G.J
    refine ⟨_, pss_cons (ps_set (i := 4) sc_makIn.nd rfl (Or.inl rfl) (pcl G.J.j2 GM hr (by rfl) (pa_cons (pv 0) (pa_cons (pv 3) pa_nil))))
      (pss_cons (ps_if (PW.pt (pw_or (pt_cmpR op_isN (pv 4) pe_non (nomark _)) (pw_or1 (pt_cmpR op_gt (pv 4) (pv 1) (nomark _))))) (pss_one (ps_ret pe_bl)) pss_nil)
      (pss_one (ps_ret (pe_or (pe_not (pv 2)) (pe_one (pe_not (pe_callB (cr_any rfl) (by rfl) G.ua boot_any (pa_cons
          (pe_lc (own := [("move", 5)]) (g := gName 5) (tt := tYes) (te := tCall spSlide [] E0 (tCons (tVar 5) tNil)) (by rfl) sc_makIn.nd (pi_tup (pv 3)) (blkOk_by (N := ["web", "rooms", "apart", "thing", "most", "move"]) (sc := defScope s_is_making_in) (by decide +kernel))
            (fun _ _ _ _ _ => pg_name (i := 5) sc_makIn.nd rfl (Or.inl rfl)) (fun _ _ _ _ _ => pts_nil)
            (fun _ _ _ _ _ => pcl G.m1 (ok_slide G.m1) (hr.mono (by decide)) (by rfl) (pa_cons (pv 5) pa_nil)))
          pa_nil)))))))), ?_⟩
    rcases h with ⟨nt, k⟩ | ⟨a, xs, ms, rfl, ha, hl, hm, k⟩
    · refine ⟨_, rfl, _, rfl, x, T, y, rs, rfl, hW, g, .inl ⟨nt, ?_⟩⟩
      exact ⟨_, rfl, rfl, _, rfl, iteD rfl k⟩
    · refine ⟨_, rfl, _, rfl, x, T, .ref a, rs, rfl, hW, g, .inr ⟨a, xs, ms, rfl, ha, hl, hm, fun H1 s1 => ?_⟩⟩
      cases e0 : takenO rs ms with
      | none =>
        have q := k H1 s1
        unfold isMakingO at q
        rw [e0] at q
        exact ⟨_, rfl, rfl, _, rfl, iteD rfl q⟩
      | some m =>
        refine ⟨_, rfl, rfl, _, rfl, iteN (by intro z; cases z) ?_⟩
        refine ⟨_, rfl, _, rfl, _, _, rfl, rfl, _, rfl, ?_⟩
        refine ite2 (fun c => ?_) (fun c => ?_)
        · have c' : ¬ m ≤ rooms := by have := of_decide_eq_true c; omega
          have q := k H1 s1
          unfold isMakingO at q
          rw [e0] at q
          simp only [decide_eq_false c', Bool.false_and] at q
          exact q
        · have c' : m ≤ rooms := by
            rcases Nat.lt_or_ge rooms m with z | z
            · exact absurd (decide_eq_true (by omega)) c
            · exact z
          have kk : ∀ H', Same H H' → Q (.bl (!apart || !(ms.any slidO))) H' := fun H' s => by
            have q := k H' s
            unfold isMakingO at q
            rw [e0] at q
            simp only [decide_eq_true c', Bool.true_and] at q
            exact q
          have hall : ms.all Option.isSome = true := by
            cases z : ms.all Option.isSome with
            | true => rfl
            | false =>
              unfold takenO at e0
              rw [z] at e0
              cases e0
          obtain ⟨vs, rfl⟩ := all_some hall
          have hml := hm.len
          rw [List.length_map] at hml
          refine ⟨_, rfl, apart, rfl, !apart, rfl, ?_⟩
          cases apart with
          | false => exact iteT (kk H1 s1)
          | true =>
            refine iteF ?_
            refine ⟨_, rfl, a, rfl, ⟨_, SqT.of (s1 _ _ ha)⟩, fun D hD => ?_⟩
            refine lc_it (walk_tup (K := K) (a := a) (xs := xs)) (fun i H2 => Same H1 H2 ∧ H2 D = some (.lst ((vs.take i).map fun v => V.bl v.slid))) ⟨same_new hD, upd_same⟩ (fun i H2 _ q => SqT.of (q.1 _ _ (s1 _ _ ha))) ?_ ?_
            · rintro i y H2 H2' hi ⟨s2, d2⟩ ⟨rfl, hy⟩
              obtain ⟨v, hv⟩ : ∃ v, vs[i]? = some v := ⟨vs[i]'(by omega), List.getElem?_eq_getElem _⟩
              obtain ⟨mb, rfl, hmb, hins⟩ := ((hm.at_ i y (some v) hy (by rw [List.getElem?_map, hv]; rfl)).same (s1.trans s2)).yesAt
              refine ⟨rfl, _, rfl, mb, v, rfl, hmb, _, d2, ?_, same_at s2 hD, ?_⟩
              · rw [List.length_map, List.length_take]
                exact size_ok (by omega)
              · rw [take_succ_map _ hv]
                exact upd_same
            · rintro H2 ⟨s2, d2⟩
              rw [List.take_of_length_le (by omega)] at d2
              refine ⟨D, vs.map Mv.slid, rfl, SqL.of (by rw [d2, List.map_map]; rfl), _, rfl, ?_⟩
              have q := kk H2 (s1.trans s2)
              have e2 : (vs.map some).any slidO = (vs.map Mv.slid).any id := by
                rw [List.any_map, List.any_map]
                rfl
              rw [e2] at q
              exact q
theorem sc_isMaking : FnScope ["web", "rooms", "apart", "thing"] ["web", "rooms", "apart", "thing"] (defScope s_is_making) := ⟨rfl, rfl, rfl, by decide +kernel, rfl, by decide +kernel, by decide +kernel⟩
theorem ok_isMaking (G : Mkg K w mg) : FnOk P w K mg base CX0 6 G.m3.f G.m3.fd ["web", "rooms", "apart", "thing"] (spMakIn K G.J.S.W.C) := by
  refine G.m3.F.ok sc_isMaking (fun vs H Q E h => ?_) (fun cdv A outer s H vs Q E hr h => ?_)
  · obtain ⟨x, T, y, rs, rooms, apart, rfl, _⟩ := h
    rfl
  · obtain ⟨x, T, y, rs, rooms, apart, rfl, hr12, hW, g, h⟩ := h
    refine ⟨_, pss_cons (ps_expr (pcl G.C.h1 (ok_roomsR G.J.S.Z G.C) (hr.mono (by decide)) (by rfl) (pa_cons (pv 1) pa_nil)))
      (pss_cons (ps_expr (pcl G.C.h2 (ok_flagR G.J.S.Z.B G.C) (hr.mono (by decide)) (by rfl) (pa_cons (pv 2) pa_nil)))
      (pss_one (ps_ret (pcl G.m2 (ok_makIn G) hr (by rfl) (pa_cons (pv 0) (pa_cons (pv 1) (pa_cons (pv 2) (pa_cons (pv 3) pa_nil)))))))), ?_⟩
    refine ⟨_, rfl, (rooms : Nat), rfl, by omega, by omega, ?_⟩
    refine ⟨_, rfl, apart, rfl, ?_⟩
    exact ⟨_, rfl, _, rfl, _, rfl, _, rfl, x, T, y, rs, rooms, apart, rfl, hr12, hW, g, h⟩
theorem sc_taken : FnScope ["web", "moves", "most"] ["web", "moves"] (defScope s_taken) := ⟨rfl, rfl, rfl, by decide +kernel, rfl, by decide +kernel, by decide +kernel⟩
theorem ok_takenR (G : Mkg K w mg) : FnOk P w K mg base CX0 5 G.m4.f G.m4.fd ["web", "moves"] (spTakenR K G.J.S.W.C) := by
  refine G.m4.F.ok sc_taken (fun vs H Q E h => ?_) (fun cdv A outer s H vs Q E hr h => ?_)
  · obtain ⟨x, T, a, rs, xs, ms, m, rfl, _⟩ := h
    rfl
  · obtain ⟨x, T, a, rs, xs, ms, m, rfl, hW, g, ha, hl, hm, e0, k⟩ := h
    refine ⟨_, pss_cons (ps_set (i := 2) sc_taken.nd rfl (Or.inl rfl) (pcl G.J.j2 (ok_most G.J) hr (by rfl) (pa_cons (pv 0) (pa_cons (pv 1) pa_nil))))
      (pss_cons (ps_if (pt_cmpR op_isN (pv 2) pe_non (nomark _)) (pss_one ps_never) pss_nil)
      (pss_one (ps_ret (pv 2)))), ?_⟩
    refine ⟨_, rfl, _, rfl, x, T, .ref a, rs, rfl, hW, g, .inr ⟨a, xs, ms, rfl, ha, hl, hm, fun H1 s1 => ?_⟩⟩
    rw [e0]
    exact ⟨_, rfl, rfl, _, rfl, iteN (by intro z; cases z) ⟨_, rfl, k H1 s1⟩⟩
end
end TX
set_option Elab.async false
set_option linter.all false
set_option maxRecDepth 100000
set_option maxHeartbeats 8000000
/-! LJ: the law's judge: is_number, move_word. -/
namespace TX
open PySem PySem.Spec PyProof.Rows L2 RX WB
def wordO (rs : List (List Nat)) : Option Mv → V
  | some (.clear _) => .str "clear"
  | some (.fill _) => .str "fill"
  | some (.slide t o) => if (lot rs t).contains o then .str "slide" else .non
  | none => .non
def spWord (K : PySem.W.Frag) : Sp := fun vs H Q _ => ∃ (T : Addr) (y : V) (rs : List (List Nat)) (v : Option Mv), vs = [.ref T, y] ∧ ReadsAt H T rs ∧ WB.Good rs ∧ MvK K rs.length H y v ∧ ∀ H', Same H H' → Q (wordO rs v) H'
theorem noStr_in {z : Str} (hz : z ∈ words) : (z = "fill" ∨ z = "slide") ∨ (z = "clear" ∨ z = "Fill") := by
  unfold words at hz
  simp only [List.mem_cons, List.not_mem_nil, or_false] at hz
  rcases hz with h | h | h | h
  · exact .inl (.inl h)
  · exact .inl (.inr h)
  · exact .inr (.inl h)
  · exact .inr (.inr h)
theorem mvV_inj {u v : Mv} (h : mvV u = mvV v) : u = v := by
  have nat : ∀ {a b : Nat}, V.int ((a : Nat) : Int) = V.int ((b : Nat) : Int) → a = b := fun {a b} e => by
    injection e with e
    omega
  have d1 : ¬ (V.str "clear" = V.str "fill") := ne_cf
  have d2 : ¬ (V.str "fill" = V.str "clear") := ne_fc
  cases u <;> cases v <;> simp only [mvV, List.cons.injEq] at h
  · rw [nat h.2.1]
  · exact absurd h.1 d1
  · exact absurd h.2.2 (by simp)
  · exact absurd h.1 d2
  · rw [nat h.2.1]
  · exact absurd h.2.2 (by simp)
  · exact absurd h.2.2 (by simp)
  · exact absurd h.2.2 (by simp)
  · rw [nat h.2.1, nat h.2.2.1]
/-- a thing as a move, all of it told -/
theorem MvK.tell {K : PySem.W.Frag} {n : Nat} {H : Hp} {y : V} {v : Option Mv} (h : MvK K n H y v) :
    (NotTup K H y ∧ v = none) ∨ (∃ a, y = .ref a ∧ H a = some (.tup []) ∧ v = none) ∨ (∃ a x xs, y = .ref a ∧ H a = some (.tup (x :: xs)) ∧ NotStr K H x ∧ (∀ u ∈ xs, Okv K H u) ∧ xs.length ≤ 100 ∧ v = none) ∨
    (∃ a z xs, y = .ref a ∧ H a = some (.tup (.str z :: xs)) ∧ z ∈ words ∧ (∀ u ∈ xs, Okv K H u) ∧ xs.length ≤ 100 ∧ ∀ mv, v = some mv ↔ mvV mv = .str z :: xs ∧ insM n mv) := by
  cases h with
  | @yes a mv h i =>
    obtain ⟨z, xs, e, hz, e2, hi, hl⟩ := okW_yes i
    rw [mvAt_iff, e] at h
    refine .inr (.inr (.inr ⟨_, z, xs, rfl, h, hz, fun u hu => .inl (hi u hu), hl, fun mv' => ⟨fun q => ?_, fun q => ?_⟩⟩))
    · cases q
      exact ⟨e, i⟩
    · rw [mvV_inj (q.1.trans e.symm)]
  | notTup h => exact .inl ⟨h, rfl⟩
  | nil h => exact .inr (.inl ⟨_, rfl, h, rfl⟩)
  | noStr h ns ok hl => exact .inr (.inr (.inl ⟨_, _, _, rfl, h, ns, ok, hl, rfl⟩))
  | word h hz ok hl no => exact .inr (.inr (.inr ⟨_, _, _, rfl, h, hz, ok, hl, fun mv => ⟨fun q => (nomatch q), fun q => absurd q.2 (no mv q.1)⟩⟩))
theorem none_of {v : Option Mv} (h : ∀ mv, v ≠ some mv) : v = none := by
  cases v with
  | none => rfl
  | some mv => exact absurd rfl (h mv)
section
variable {P : Program} {w : World} {K : PySem.W.Frag} {mg : Str → Option Value} {base : Heap}
structure Ljg (K : PySem.W.Frag) (mg : Str → Option Value) where
  B : Bts mg
  us : mg "str" = none
  um : mg "max" = none
  n1 : DefAt K mg "_law_is_number" s_law_is_number ["_law_thing", "_law_least_here", "_law_most"]
  n2 : DefAt K mg "_law_move_word" s_law_move_word ["_law_reads", "_law_thing"]
  n3 : DefAt K mg "_law_taken" s_law_taken ["_law_reads", "_law_apart", "_law_moves"]
theorem sc_number : FnScope ["_law_thing", "_law_least_here", "_law_most"] ["_law_thing", "_law_least_here", "_law_most"] (defScope s_law_is_number) := ⟨rfl, rfl, rfl, by decide +kernel, rfl, by decide +kernel, by decide +kernel⟩
theorem ok_number (L : Ljg K mg) : FnOk P w K mg base CX0 1 L.n1.f L.n1.fd ["_law_thing", "_law_least_here", "_law_most"] (spWithin K) := by
  have B := L.B
  refine L.n1.F.ok sc_number (fun vs H Q E h => ?_) (fun cdv A outer s H vs Q E hr h => ?_)
  · obtain ⟨x, l, m, rfl, _⟩ := h
    rfl
  · obtain ⟨x, l, m, rfl, ok, k⟩ := h
    refine ⟨_, pss_one (ps_ret (pe_and (pe_callB call_isi (by rfl) B.isi boot_isinstance (pa_cons (pv 0) (pa_cons (pe_bltn (v := .ty "int") (by rfl) B.int PyProof.Rows.boot_int rfl) pa_nil)))
      (pe_and (pe_not (pe_callB call_isi (by rfl) B.isi boot_isinstance (pa_cons (pv 0) (pa_cons (pe_bltn (v := .ty "bool") (by rfl) B.bool boot_bool' rfl) pa_nil))))
      (pe_one (pe_chain op_le op_le (pv 1) (pv 0) (pv 2)))))), ?_⟩
    rcases ok with ok | ⟨ok, t, ty, nt⟩
    · cases x with
      | int i =>
        refine ⟨_, rfl, _, _, _, _, _, rfl, ClsV.ty "int", TyX.base (TyOf.int i), kit_int_int, true, rfl, iteT ?_⟩
        refine ⟨_, rfl, _, _, _, _, _, rfl, ClsV.ty "bool", TyX.base (TyOf.int i), kit_int_bool, false, rfl, true, rfl, iteT ?_⟩
        refine ⟨_, rfl, _, rfl, _, _, rfl, rfl, decide (l ≤ i), rfl, ?_⟩
        by_cases h : l ≤ i
        · rw [decide_eq_true h]
          refine iteT ⟨_, rfl, _, _, rfl, rfl, ?_⟩
          have e : wi l m (.int i) = decide (i ≤ m) := by
            show (decide (l ≤ i) && decide (i ≤ m)) = _
            rw [decide_eq_true h, Bool.true_and]
          rw [e] at k
          exact k
        · rw [decide_eq_false h]
          refine iteF ?_
          have e : wi l m (.int i) = false := by
            show (decide (l ≤ i) && decide (i ≤ m)) = _
            rw [decide_eq_false h, Bool.false_and]
          rw [e] at k
          exact k
      | _ => cases ok
    · have e : wi l m x = false := by
        cases x with
        | int i => cases ok
        | _ => rfl
      rw [e] at k
      rcases nt with n1 | ⟨n1, n2⟩
      · exact ⟨_, rfl, _, _, _, _, _, rfl, ClsV.ty "int", ty, n1, false, rfl, iteF k⟩
      · refine ⟨_, rfl, _, _, _, _, _, rfl, ClsV.ty "int", ty, n1, true, rfl, iteT ?_⟩
        exact ⟨_, rfl, _, _, _, _, _, rfl, ClsV.ty "bool", ty, n2, true, rfl, false, rfl, iteF k⟩
theorem sc_word : FnScope ["_law_reads", "_law_thing", "_law_item"] ["_law_reads", "_law_thing"] (defScope s_law_move_word) := ⟨rfl, rfl, rfl, by decide +kernel, rfl, by decide +kernel, by decide +kernel⟩
theorem ok_word (L : Ljg K mg) : FnOk P w K mg base CX0 2 L.n2.f L.n2.fd ["_law_reads", "_law_thing"] (spWord K) := by
  have B := L.B
  refine L.n2.F.ok sc_word (fun vs H Q E h => ?_) (fun cdv A outer s H vs Q E hr h => ?_)
  · obtain ⟨T, y, rs, v, rfl, _⟩ := h
    rfl
  · obtain ⟨T, y, rs, v, rfl, hR, g, hv, k⟩ := h
    refine ⟨_, pss_cons (ps_if (PW.pt (pw_or (pt_not (pt_val (pe_callB call_isi (by rfl) B.isi boot_isinstance (pa_cons (pv 1) (pa_cons (pe_bltn (v := .ty "tuple") (by rfl) B.tuple PyProof.Rows.boot_tuple rfl) pa_nil)))))
        (pw_or (pt_cmpR op_lt (pe_callB call_len_seq (by rfl) B.len PySem.boot_len (pa_cons (pv 1) pa_nil)) pe_int (nomark _))
        (pw_or1 (pt_not (pt_val (pe_callB call_isi (by rfl) B.isi boot_isinstance (pa_cons (pe_ix ix_tup (pv 1) pe_int (fun _ _ => rfl)) (pa_cons (pe_bltn (v := .ty "str") (by rfl) L.us PyProof.Rows.boot_str rfl) pa_nil))))))))) (pss_one (ps_ret pe_non)) pss_nil)
      (C8.pss_cut (ps_if (pt_not (pt_val (pe_callB (cr_all rfl) (by rfl) B.all boot_all (pa_cons
          (pe_lc (own := [("_law_item", 2)]) (g := gName 2) (tt := tYes) (te := tCall (spWithin K) [] E0 (tCons (tVar 2) (tCons (tC (.int 0)) (tCons (tOp (rI0 fun i j => .int (i - j)) (tCB (fun xs H Q => ∃ p ys, xs = [.ref p] ∧ (SqL K H p ys ∨ SqT K H p ys) ∧ Q (.int ys.length) H) (tCons (tVar 0) tNil)) (tC (.int 1))) tNil)))) (by rfl) sc_word.nd (pi_tup (pe_slice sl_tupA (pv 1) (po_some pe_int) po_none)) (blkOk_by (N := ["_law_reads", "_law_thing", "_law_item"]) (sc := defScope s_law_move_word) (by decide +kernel))
            (fun _ _ _ _ _ => pg_name (i := 2) sc_word.nd rfl (Or.inl rfl)) (fun _ _ _ _ _ => pts_nil)
            (fun _ _ _ _ _ => pcl L.n1 (ok_number L) hr (by rfl) (pa_cons (pv 2) (pa_cons pe_int (pa_cons (pe_op op_sub (pe_callB call_len_seq (by rfl) B.len PySem.boot_len (pa_cons (pv 0) pa_nil)) pe_int) pa_nil)))))
          pa_nil)))) (pss_one (ps_ret pe_non)) pss_nil)
      (C8.pss_cut (ps_if (PW.pt (pw_and (pt_cmpR op_eq (pe_ix ix_tup (pv 1) pe_int (fun _ _ => rfl)) pe_str (nomark _)) (pw_and (pt_cmpR op_eq (pe_callB call_len_seq (by rfl) B.len PySem.boot_len (pa_cons (pv 1) pa_nil)) pe_int (nomark _))
          (pw_and1 (pt_cmpR op_in_seq (pe_ix ix_tup (pv 1) pe_int (fun _ _ => rfl)) (pe_ix ix_tup (pv 0) (pe_ix ix_tup (pv 1) pe_int (fun _ _ => rfl)) (fun _ _ => rfl)) (by rfl)))))) (pss_one (ps_ret pe_str)) pss_nil)
      (pss_one (ps_ret (pe_ifExp (PW.pt (pw_and (pt_cmpR op_in_seq (pe_ix ix_tup (pv 1) pe_int (fun _ _ => rfl)) (pe_tup (pa_cons pe_str (pa_cons pe_str pa_nil))) (by rfl)) (pw_and1 (pt_cmpR op_eq (pe_callB call_len_seq (by rfl) B.len PySem.boot_len (pa_cons (pv 1) pa_nil)) pe_int (nomark _))))) (pe_ix ix_tup (pv 1) pe_int (fun _ _ => rfl)) pe_non))))), ?_⟩
    obtain ⟨wr, hT, hal, hat⟩ := id hR.ex
    have hlen : (wr.map V.ref).length = rs.length := by rw [List.length_map, hal]
    rcases hv.tell with ⟨⟨t, ty, kt⟩, rfl⟩ | ⟨a, rfl, h, rfl⟩ | ⟨a, x0, xs, rfl, h, ⟨t, ty, kt⟩, ok, hl, rfl⟩ | ⟨a, z, xs, rfl, h, hz, ok, hl, iff⟩
    · exact ⟨_, rfl, _, _, _, _, _, rfl, ClsV.ty "tuple", ty, kt, false, rfl, k H (Same.refl H)⟩
    · refine ⟨_, rfl, _, _, _, _, _, rfl, ClsV.ty "tuple", TyX.base (TyOf.tup h), kit_tup_tup, true, rfl, ?_⟩
      exact ⟨_, rfl, a, _, rfl, .inr (SqT.of h), _, _, rfl, rfl, _, rfl, iteD (by decide) (k H (Same.refl H))⟩
    · refine ⟨_, rfl, _, _, _, _, _, rfl, ClsV.ty "tuple", TyX.base (TyOf.tup h), kit_tup_tup, true, rfl, ?_⟩
      refine ⟨_, rfl, a, _, rfl, .inr (SqT.of h), _, _, rfl, rfl, _, rfl, ite2 (fun _ => k H (Same.refl H)) (fun _ => ?_)⟩
      exact ⟨_, rfl, a, _, _, _, rfl, rfl, SqT.of h, atI_nat (j := 0) rfl, _, _, _, _, _, rfl, ClsV.ty "str", ty, kt, false, rfl, k H (Same.refl H)⟩
    · refine ⟨_, rfl, _, _, _, _, _, rfl, ClsV.ty "tuple", TyX.base (TyOf.tup h), kit_tup_tup, true, rfl, ?_⟩
      refine ⟨_, rfl, a, _, rfl, .inr (SqT.of h), _, _, rfl, rfl, _, rfl, ite2 (fun c => ?_) (fun c => ?_)⟩
      · have hx : xs = [] := by
          have c' := of_decide_eq_true c
          rw [List.length_cons] at c'
          exact List.length_eq_zero_iff.mp (by omega)
        subst hx
        have hn : v = none := none_of fun mv q => by
          have := ((iff mv).mp q).1
          cases mv <;> simp [mvV] at this
        rw [hn] at k
        exact k H (Same.refl H)
      have hx0 : 0 < xs.length := by
        rcases Nat.eq_zero_or_pos xs.length with q | q
        · exact absurd (decide_eq_true (by rw [List.length_cons]; omega)) c
        · exact q
      refine ⟨_, rfl, a, _, _, _, rfl, rfl, SqT.of h, atI_nat (j := 0) rfl, _, _, _, _, _, rfl, ClsV.ty "str", TyX.base (TyOf.str z), kit_tup_str, true, rfl, ?_⟩
      refine ⟨fun σ H1 => σ = [some (.ref T), some (.ref a), none] ∧ Same H H1 ∧ xs.all (wi 0 ((rs.length : Int) - 1)) = true, ?_, ?_⟩
      · refine ⟨_, rfl, 1, rfl, a, _, rfl, SqT.of h, fun zz => absurd zz (not_whole _ _ _), fun _ p hp => ⟨p, rfl, ⟨_, SqT.of upd_same⟩, fun D hD => ?_⟩⟩
        rw [cut_tail] at hD ⊢
        have s1 : Same H (upd H p (.tup xs)) := same_new hp
        refine lc_it (walk_tup (K := K) (a := p) (xs := xs)) (fun i H1 => Same (upd H p (.tup xs)) H1 ∧ H1 D = some (.lst ((xs.take i).map fun x => V.bl (wi 0 ((rs.length : Int) - 1) x)))) ⟨same_new hD, upd_same⟩ (fun i H1 _ q => SqT.of (q.1 _ _ upd_same)) ?_ ?_
        · rintro i y H1 H1' hi ⟨s2, d1⟩ ⟨rfl, hy⟩
          have s12 := s1.trans s2
          refine ⟨rfl, _, rfl, _, rfl, T, _, rfl, .inr (SqT.of (s12 _ _ hT)), _, _, rfl, rfl, y, 0, _, rfl, (ok y (List.mem_of_getElem? hy)).same s12, ?_⟩
          rw [hlen]
          refine ⟨_, d1, ?_, same_at s2 hD, ?_⟩
          · rw [List.length_map, List.length_take]
            exact size_ok (by omega)
          · rw [take_succ_map _ hy]
            exact upd_same
        · rintro H1 ⟨s2, d1⟩
          rw [List.take_of_length_le (Nat.le_refl _)] at d1
          refine ⟨D, xs.map (wi 0 ((rs.length : Int) - 1)), rfl, SqL.of (by rw [d1, List.map_map]; rfl), _, rfl, ?_⟩
          have e : (xs.map (wi 0 ((rs.length : Int) - 1))).all id = xs.all (wi 0 ((rs.length : Int) - 1)) := by
            rw [List.all_map]
            rfl
          rw [e]
          cases hall : xs.all (wi 0 ((rs.length : Int) - 1)) with
          | true => exact iteF ⟨rfl, s1.trans s2, rfl⟩
          | false =>
            have hn : v = none := none_of fun mv q => by
              obtain ⟨q1, q2⟩ := (iff mv).mp q
              have q3 : ∀ y ∈ xs, wi 0 ((rs.length : Int) - 1) y = true := by
                intro y hy
                cases mv with
                | clear t =>
                  simp only [mvV, List.cons.injEq] at q1
                  rw [← q1.2, List.mem_singleton] at hy
                  rw [hy, wi_nat]
                  exact decide_eq_true q2
                | fill t =>
                  simp only [mvV, List.cons.injEq] at q1
                  rw [← q1.2, List.mem_singleton] at hy
                  rw [hy, wi_nat]
                  exact decide_eq_true q2
                | slide t o =>
                  simp only [mvV, List.cons.injEq] at q1
                  rw [← q1.2] at hy
                  rcases List.mem_cons.mp hy with z | z
                  · rw [z, wi_nat]
                    exact decide_eq_true q2.1
                  · rw [List.mem_singleton.mp z, wi_nat]
                    exact decide_eq_true q2.2
              rw [List.all_eq_true.mpr q3] at hall
              cases hall
            rw [hn] at k
            exact iteT (k H1 (s1.trans s2))
      rintro σ H1 ⟨rfl, s1, hall⟩
      have hin := List.all_eq_true.mp hall
      have h1 := s1 _ _ h
      have hT1 := s1 _ _ hT
      have fin : ∀ u : V, wordO rs v = u → Q u H1 := fun u e => by
        rw [← e]
        exact k H1 s1
      refine ⟨fun σ H2 => σ = [some (.ref T), some (.ref a), none] ∧ H2 = H1 ∧ (z = "slide" → wordO rs v = .non), ?_, ?_⟩
      · refine ⟨_, rfl, a, _, _, _, rfl, rfl, SqT.of h1, atI_nat (j := 0) rfl, rfl, _, rfl, ite2 (fun c => ?_) (fun c => ?_)⟩
        · have ez : z = "slide" := by
            have c' := of_decide_eq_true c
            injection c' with c'
          refine ⟨_, rfl, a, _, rfl, .inr (SqT.of h1), rfl, _, rfl, ite2 (fun d => ?_) (fun d => ?_)⟩
          · have d' := of_decide_eq_true d
            injection d' with d'
            rw [List.length_cons] at d'
            have a2 : xs.length = 2 := by omega
            clear d d' c hall hl hx0
            match xs, a2, h1, hin, iff with
            | [x, y], _, h1, hin, iff =>
              obtain ⟨t, rfl, ht⟩ := wi_in (hin x (by simp))
              obtain ⟨o, rfl, ho⟩ := wi_in (hin y (by simp))
              have hv : v = some (.slide t o) := (iff _).mpr ⟨by rw [ez]; rfl, ht, ho⟩
              have hta : t < wr.length := by omega
              have hcV : (wr.map V.ref)[t]? = some (V.ref wr[t]) := by rw [List.getElem?_map, List.getElem?_eq_getElem hta]; rfl
              have hL := s1 _ _ (hat t _ _ (List.getElem?_eq_getElem hta) (at_lot ht))
              refine ⟨_, rfl, a, _, _, _, rfl, rfl, SqT.of h1, atI_nat (j := 2) rfl, _, rfl, _, rfl, a, _, _, _, rfl, rfl, SqT.of h1, atI_nat (j := 1) rfl, T, _, _, _, rfl, rfl, SqT.of hT1, atI_nat hcV, wr[t], vNs (lot rs t), rfl, .inr (SqT.of hL), rfl, vNs_flat _, inV (.int (o : Nat)) (vNs (lot rs t)), rfl, ?_⟩
              rw [inV_vNs]
              have ew : wordO rs v = if (lot rs t).contains o then .str "slide" else .non := by rw [hv]; rfl
              cases hc : (lot rs t).contains o with
              | true =>
                rw [hc] at ew
                exact iteT (fin _ ew)
              | false =>
                rw [hc] at ew
                exact iteF ⟨rfl, rfl, fun _ => ew⟩
          · refine ⟨rfl, rfl, fun _ => ?_⟩
            have hn : v = none := none_of fun mv q => by
              obtain ⟨q1, _⟩ := (iff mv).mp q
              cases mv with
              | clear t =>
                simp only [mvV, List.cons.injEq] at q1
                rw [ez] at q1
                exact ne_sc q1.1.symm
              | fill t =>
                simp only [mvV, List.cons.injEq] at q1
                rw [ez] at q1
                exact ne_sf q1.1.symm
              | slide t o =>
                simp only [mvV, List.cons.injEq] at q1
                exact d (by rw [← q1.2]; exact decide_eq_true rfl)
            rw [hn]
            rfl
        · exact ⟨rfl, rfl, fun ez => absurd (by rw [ez]; exact decide_eq_true rfl) c⟩
      rintro σ H2 ⟨rfl, rfl, hsl⟩
      refine ⟨_, rfl, a, _, _, _, rfl, rfl, SqT.of h1, atI_nat (j := 0) rfl, by show 2 ≤ sizeLine; decide, fun p hp => ?_⟩
      have sp : Same H2 (upd H2 p (.tup [.str "fill", .str "clear"])) := same_new hp
      have h2 := sp _ _ h1
      have fin2 : ∀ u : V, wordO rs v = u → Q u (upd H2 p (.tup [.str "fill", .str "clear"])) := fun u e => by
        rw [← e]
        exact k _ (s1.trans sp)
      refine ⟨p, [.str "fill", .str "clear"], rfl, .inr (SqT.of upd_same), rfl, rfl, inV (.str z) [.str "fill", .str "clear"], rfl, ?_⟩
      -- a word of two: the whole of it
      have two : ∀ (mk : Nat → Mv), (∀ t, mvV (mk t) = [.str z, .int (t : Nat)]) → (∀ t, t < rs.length → insM rs.length (mk t)) → (∀ t, wordO rs (some (mk t)) = .str z) → xs.length = 1 → wordO rs v = .str z := fun mk e1 e2 e3 hl1 => by
        obtain ⟨x, rfl⟩ := List.length_eq_one_iff.mp hl1
        obtain ⟨t, rfl, ht⟩ := wi_in (hin x (by simp))
        rw [(iff (mk t)).mpr ⟨e1 t, e2 t ht⟩]
        exact e3 t
      have long : (∀ o t, mvV (.slide t o) ≠ .str z :: xs) → ¬ xs.length = 1 → wordO rs v = .non := fun ns hl1 => by
        have hn : v = none := none_of fun mv q => by
          obtain ⟨q1, _⟩ := (iff mv).mp q
          cases mv with
          | clear t =>
            simp only [mvV, List.cons.injEq] at q1
            exact hl1 (by rw [← q1.2]; rfl)
          | fill t =>
            simp only [mvV, List.cons.injEq] at q1
            exact hl1 (by rw [← q1.2]; rfl)
          | slide t o => exact ns o t q1
        rw [hn]
        rfl
      unfold words at hz
      simp only [List.mem_cons, List.not_mem_nil, or_false] at hz
      rcases hz with rfl | rfl | rfl | rfl
      · rw [show inV (.str "fill") [.str "fill", .str "clear"] = true by decide +kernel]
        refine iteT ⟨_, rfl, a, _, rfl, .inr (SqT.of h2), rfl, _, rfl, ite2 (fun d => ?_) (fun d => ?_)⟩
        · have d' := of_decide_eq_true d
          injection d' with d'
          rw [List.length_cons] at d'
          exact ⟨_, rfl, a, _, _, _, rfl, rfl, SqT.of h2, atI_nat (j := 0) rfl, fin2 _ (two .fill (fun _ => rfl) (fun _ h => h) (fun _ => rfl) (by omega))⟩
        · exact fin2 _ (long (fun o t q => by
            simp only [mvV, List.cons.injEq] at q
            exact ne_sf q.1) fun q => d (decide_eq_true (by rw [List.length_cons, q]; rfl)))
      · rw [show inV (.str "slide") [.str "fill", .str "clear"] = false by decide +kernel]
        exact iteF (fin2 _ (hsl rfl))
      · rw [show inV (.str "clear") [.str "fill", .str "clear"] = true by decide +kernel]
        refine iteT ⟨_, rfl, a, _, rfl, .inr (SqT.of h2), rfl, _, rfl, ite2 (fun d => ?_) (fun d => ?_)⟩
        · have d' := of_decide_eq_true d
          injection d' with d'
          rw [List.length_cons] at d'
          exact ⟨_, rfl, a, _, _, _, rfl, rfl, SqT.of h2, atI_nat (j := 0) rfl, fin2 _ (two .clear (fun _ => rfl) (fun _ h => h) (fun _ => rfl) (by omega))⟩
        · exact fin2 _ (long (fun o t q => by
            simp only [mvV, List.cons.injEq] at q
            exact ne_sc q.1) fun q => d (decide_eq_true (by rw [List.length_cons, q]; rfl)))
      · rw [show inV (.str "Fill") [.str "fill", .str "clear"] = false by decide +kernel]
        have f1 : ¬ (V.str "fill" = V.str "Fill") := by decide +kernel
        have f2 : ¬ (V.str "clear" = V.str "Fill") := by decide +kernel
        have f3 : ¬ (V.str "slide" = V.str "Fill") := by decide +kernel
        refine iteF (fin2 _ ?_)
        have hn : v = none := none_of fun mv q => by
          obtain ⟨q1, _⟩ := (iff mv).mp q
          cases mv with
          | clear t =>
            simp only [mvV, List.cons.injEq] at q1
            exact f2 q1.1
          | fill t =>
            simp only [mvV, List.cons.injEq] at q1
            exact f1 q1.1
          | slide t o =>
            simp only [mvV, List.cons.injEq] at q1
            exact f3 q1.1
        rw [hn]
        rfl
end
end TX
set_option Elab.async false
set_option linter.all false
set_option maxRecDepth 100000
set_option maxHeartbeats 8000000
/-! LT: the law's taken. -/
namespace TX
open PySem PySem.Spec PyProof.Rows L2 RX WB
def takenLO (rs : List (List Nat)) (apart : Bool) (ms : List (Option Mv)) : Option Nat := if apart = true ∧ ms.any slidO = true then none else takenO rs ms
theorem takenO_bad {rs : List (List Nat)} {ms : List (Option Mv)} {i : Nat} (h : ms[i]? = some none) : takenO rs ms = none := by
  unfold takenO
  rw [if_neg]
  intro z
  have := List.all_eq_true.mp z none (List.mem_of_getElem? h)
  cases this
theorem takenLO_of {rs : List (List Nat)} {apart : Bool} {ms : List (Option Mv)} (h : takenO rs ms = none) : takenLO rs apart ms = none := by
  unfold takenLO
  split
  · rfl
  · exact h
theorem takenLO_slid {rs : List (List Nat)} {ms : List (Option Mv)} {i : Nat} {v : Mv} (h : ms[i]? = some (some v)) (hs : v.slid = true) : takenLO rs true ms = none := by
  unfold takenLO
  rw [if_pos]
  exact ⟨rfl, List.any_eq_true.mpr ⟨some v, List.mem_of_getElem? h, hs⟩⟩
theorem takenO_run {rs : List (List Nat)} {ms : List (Option Mv)} {i : Nat} {vs : List Mv} {l : List Nat} {m : Nat} {v : Mv} (ht : ms.take i = vs.map some) (hr : runM rs [] 0 vs = some (l, m)) (hi : ms[i]? = some (some v)) (ha : after rs l v = none) : takenO rs ms = none := by
  cases e0 : ms.all Option.isSome with
  | false =>
    unfold takenO
    rw [e0]
    rfl
  | true =>
    obtain ⟨ws, rfl⟩ := all_some e0
    rw [takenO_some]
    have e1 : ws.take i = vs := by
      rw [← List.map_take] at ht
      exact List.map_inj_right (fun a b q => Option.some.inj q) |>.mp ht
    have e2 : ws[i]? = some v := by
      rw [List.getElem?_map] at hi
      obtain ⟨u, hu, q⟩ := Option.map_eq_some_iff.mp hi
      rw [hu, Option.some.inj q]
    have e3 : runM rs [] 0 (ws.take (i + 1)) = none := by
      rw [List.take_add_one, e2, e1]
      show runM rs [] 0 (vs ++ [v]) = none
      rw [runM_snoc hr, ha]
      rfl
    unfold takenM
    rw [runM_none e3]
def spTakenL (K : PySem.W.Frag) : Sp := fun vs H Q _ => ∃ (T : Addr) (y : V) (rs : List (List Nat)) (apart : Bool), vs = [.ref T, .bl apart, y] ∧ ReadsAt H T rs ∧ WB.Good rs ∧
  ((NotTup K H y ∧ Q .non H) ∨ (∃ (a : Addr) (xs : List V) (ms : List (Option Mv)), y = .ref a ∧ H a = some (.tup xs) ∧ xs.length ≤ 5000 ∧ MvKs K rs.length H xs ms ∧ ∀ H', Same H H' → Q (optV (takenLO rs apart ms)) H'))
theorem erase_map {α β : Type} (f : α → β) : ∀ (l : List α) (j : Nat), (l.map f).eraseIdx j = (l.eraseIdx j).map f
  | [], _ => by simp
  | _ :: _, 0 => by simp
  | x :: l, j + 1 => by simp [erase_map f l j]
theorem erase_perm {α : Type} : ∀ {l : List α} {j : Nat} {x : α}, l[j]? = some x → (x :: l.eraseIdx j).Perm l
  | [], _, _, h => by simp at h
  | y :: l, 0, x, h => by
    simp at h
    subst h
    simp
  | y :: l, j + 1, x, h => by
    have h' : l[j]? = some x := by simpa using h
    have ih := erase_perm h'
    show (x :: y :: l.eraseIdx j).Perm (y :: l)
    exact (List.Perm.swap y x _).trans (ih.cons y)
theorem numI_erase (hl : List Nat) (j : Nat) : ((numI hl).eraseIdx j).map V.int = vNs (hl.eraseIdx j) := by
  unfold vNs numI
  rw [erase_map]
/-- where a number stands in a list without doubles -/
theorem stands {hl : List Nat} {t : Nat} (nd : hl.Nodup) (h : t ∈ hl) : ∃ j, (numI hl)[j]? = some ((t : Nat) : Int) ∧ (∀ m : Nat, m < j → (numI hl)[m]? ≠ some ((t : Nat) : Int)) ∧ (t :: hl.eraseIdx j).Perm hl := by
  obtain ⟨j, hj, ej⟩ := List.mem_iff_getElem.mp h
  have gi : ∀ m : Nat, (numI hl)[m]? = (hl[m]?).map fun (n : Nat) => ((n : Nat) : Int) := fun m => by
    unfold numI
    rw [List.getElem?_map]
  refine ⟨j, ?_, fun m hm q => ?_, ?_⟩
  · rw [gi, List.getElem?_eq_getElem hj, ej]
    rfl
  · rw [gi, List.getElem?_eq_getElem (Nat.lt_trans hm hj)] at q
    have e : hl[m] = t := by
      have q' : ((hl[m] : Nat) : Int) = ((t : Nat) : Int) := Option.some.inj q
      omega
    have := List.pairwise_iff_getElem.mp (List.nodup_iff_pairwise_ne.mp nd) m j (Nat.lt_trans hm hj) hj hm
    exact this (e.trans ej.symm)
  · exact erase_perm (by rw [List.getElem?_eq_getElem hj, ej])
theorem drop_perm {l : List Nat} {t : Nat} (nd : l.Nodup) (h : t ∈ l) : (t :: drop l t).Perm l := by
  unfold drop
  rw [← List.Nodup.erase_eq_filter nd]
  exact (List.perm_cons_erase h).symm
section
variable {P : Program} {w : World} {K : PySem.W.Frag} {mg : Str → Option Value} {base : Heap}
theorem sc_takenL : FnScope ["_law_reads", "_law_apart", "_law_moves", "_law_held", "_law_most", "_law_move", "_law_word", "_law_other"] ["_law_reads", "_law_apart", "_law_moves"] (defScope s_law_taken) := ⟨rfl, rfl, rfl, by decide +kernel, rfl, by decide +kernel, by decide +kernel⟩
theorem ok_takenL (L : Ljg K mg) : FnOk P w K mg base CX0 3 L.n3.f L.n3.fd ["_law_reads", "_law_apart", "_law_moves"] (spTakenL K) := by
  have B := L.B
  refine L.n3.F.ok sc_takenL (fun vs H Q E h => ?_) (fun cdv A outer s H vs Q E hr h => ?_)
  · obtain ⟨T, y, rs, apart, rfl, _⟩ := h
    rfl
  · obtain ⟨T, y, rs, apart, rfl, hR, g, h⟩ := h
    refine ⟨_, pss_cons (ps_if (pt_not (pt_val (pe_callB call_isi (by rfl) B.isi boot_isinstance (pa_cons (pv 2) (pa_cons (pe_bltn (v := .ty "tuple") (by rfl) B.tuple PyProof.Rows.boot_tuple rfl) pa_nil))))) (pss_one (ps_ret pe_non)) pss_nil)
      (pss_cons (ps_set (i := 3) sc_takenL.nd rfl (Or.inr rfl) (pe_lst pa_nil))
      (pss_cons (ps_set (i := 4) sc_takenL.nd rfl (Or.inl rfl) pe_int)
      (pss_cons (ps_for PassesOwn.never rfl (pi_tup (pv 2)) (pg_name (i := 5) sc_takenL.nd rfl (Or.inl rfl))
        (pss_cons (ps_set (i := 6) sc_takenL.nd rfl (Or.inl rfl) (pcl L.n2 (ok_word L) hr (by rfl) (pa_cons (pv 0) (pa_cons (pv 5) pa_nil))))
        (pss_cons (ps_if (PW.pt (pw_or (pt_cmpR op_isN (pv 6) pe_non (nomark _)) (pw_or1 (PW.pt (pw_and (pt_cmpR op_eq (pv 6) pe_str (nomark _)) (pw_and1 (pt_val (pv 1)))))))) (pss_one (ps_ret pe_non)) pss_nil)
        (C8.pss_cut (ps_if (pt_cmpR op_eq (pv 6) pe_str (nomark _))
          (pss_cons (ps_if (pt_cmpR op_notIn_seq (pe_ix ix_tup (pv 5) pe_int (fun _ _ => rfl)) (pv 3) (by rfl)) (pss_one (ps_ret pe_non)) pss_nil)
          (pss_one (ps_expr (pe_bm PySem.F.plainAttrs_list PySem.F.slot_list_remove PySem.F.type_list_remove mt_remove (pv 3) (pa_cons (pe_ix ix_tup (pv 5) pe_int (fun _ _ => rfl)) pa_nil)))))
          (pss_cons (ps_if (PW.pt (pw_or (pt_cmpR op_in_seq (pe_ix ix_tup (pv 5) pe_int (fun _ _ => rfl)) (pv 3) (by rfl)) (pw_or1 (pt_not (pt_val (pe_callB (cr_all rfl) (by rfl) B.all boot_all (pa_cons
              (pe_lc (own := [("_law_other", 7)]) (g := gName 7) (tt := tYes) (te := tOp (rIn K false) (tVar 7) (tVar 3)) (by rfl) sc_takenL.nd (pi_tup (pe_ix ix_tup (pv 0) (pe_ix ix_tup (pv 5) pe_int (fun _ _ => rfl)) (fun _ _ => rfl))) (blkOk_by (N := ["_law_reads", "_law_apart", "_law_moves", "_law_held", "_law_most", "_law_move", "_law_word", "_law_other"]) (sc := defScope s_law_taken) (by decide +kernel))
                (fun _ _ _ _ _ => pg_name (i := 7) sc_takenL.nd rfl (Or.inl rfl)) (fun _ _ _ _ _ => pts_nil)
                (fun _ _ _ _ _ => pe_cmpR op_in_seq (pv 7) (pv 3) (by rfl)))
              pa_nil))))))) (pss_one (ps_ret pe_non)) pss_nil)
          (C8.pss_cut (ps_if (pt_cmpR op_eq (pv 6) pe_str (nomark _)) (pss_one (ps_expr (pe_bm PySem.F.plainAttrs_list PySem.F.slot_list_remove PySem.F.type_list_remove mt_remove (pv 3) (pa_cons (pe_ix ix_tup (pv 5) pe_int (fun _ _ => rfl)) pa_nil)))) pss_nil)
          (pss_one (ps_expr (pe_bm PySem.F.plainAttrs_list PySem.F.slot_list_append PySem.F.type_list_append mt_append (pv 3) (pa_cons (pe_ix ix_tup (pv 5) pe_int (fun _ _ => rfl)) pa_nil)))))))
        (pss_one (ps_set (i := 4) sc_takenL.nd rfl (Or.inl rfl) (pe_callB (call_max2 rfl) (by rfl) L.um boot_max (pa_cons (pv 4) (pa_cons (pe_callB call_len_seq (by rfl) B.len PySem.boot_len (pa_cons (pv 3) pa_nil)) pa_nil)))))))))
      (pss_one (ps_ret (pe_ifExp (pt_cmpR op_in_seq (pe_op op_sub (pe_callB call_len_seq (by rfl) B.len PySem.boot_len (pa_cons (pv 0) pa_nil)) pe_int) (pv 3) (by rfl)) (pv 4) pe_non)))))), ?_⟩
    obtain ⟨wr, hT, hal, hat⟩ := id hR.ex
    have hlen : (wr.map V.ref).length = rs.length := by rw [List.length_map, hal]
    have gp := g.pos
    rcases h with ⟨⟨t, ty, kt⟩, k⟩ | ⟨a, xs, ms, rfl, ha, hl, hm, k⟩
    · exact ⟨_, rfl, _, _, _, _, _, rfl, ClsV.ty "tuple", ty, kt, false, rfl, k⟩
    refine ⟨_, rfl, _, _, _, _, _, rfl, ClsV.ty "tuple", TyX.base (TyOf.tup ha), kit_tup_tup, true, rfl, ?_⟩
    refine ⟨Nat.zero_le _, fun Hd hHd => ?_⟩
    have s0 : Same H (upd H Hd (.lst [])) := same_new hHd
    refine ⟨_, rfl, a, rfl, ⟨_, SqT.of (s0 _ _ ha)⟩, ?_⟩
    refine for_it (walk_tup (K := K) (a := a) (xs := xs)) (fun i σ H1 => ∃ (v5 v6 : Option V) (hl l : List Nat) (m : Nat) (vs : List Mv), σ = [some (.ref T), some (.bl apart), some (.ref a), some (.ref Hd), some (.int (m : Nat)), v5, v6, none] ∧ Same H H1 ∧ H1 Hd = some (.lst (vNs hl)) ∧ hl.Perm l ∧ Valid rs.length l ∧ ms.take i = vs.map some ∧ runM rs [] 0 vs = some (l, m) ∧ (apart = true → ∀ v ∈ vs, v.slid = false))
      ⟨none, none, [], [], 0, [], rfl, s0, upd_same, .refl _, valid_nil _, rfl, rfl, fun _ v hv => absurd hv List.not_mem_nil⟩ (fun i σ H1 _ ⟨_, _, _, _, _, _, _, z, _⟩ => SqT.of (z _ _ ha)) ?_ ?_
    · rintro i y σ H1 H1' hi ⟨v5, v6, hl, l, m, vs, rfl, s1, dH, hp, vl, htk, hrun, hsl⟩ ⟨rfl, hy⟩
      obtain ⟨v, hv⟩ : ∃ v, ms[i]? = some v := ⟨ms[i]'(by rw [← hm.len]; exact hi), List.getElem?_eq_getElem _⟩
      have hk := (hm.at_ i y v hy hv).same s1
      have hl10 : l.length ≤ 10 := Nat.le_trans vl.len g.le
      have hll := hp.length_eq
      have nd : hl.Nodup := hp.nodup_iff.mpr vl.nodup
      refine ⟨_, rfl, _, rfl, T, y, rs, v, rfl, hR.same s1, g, hk, fun H2 s2 => ?_⟩
      have s12 := s1.trans s2
      have dH2 := s2 _ _ dH
      -- None: nothing is told
      have bad : takenLO rs apart ms = none → Q .non H2 := fun e => by
        have q := k H2 s12
        rw [e] at q
        exact q
      cases v with
      | none => exact ⟨_, rfl, rfl, _, rfl, iteD rfl (bad (takenLO_of (takenO_bad hv)))⟩
      | some v =>
        obtain ⟨mb, rfl, hmb, hins⟩ := (hk.same s2).yesAt
        rw [mvAt_iff] at hmb
        have estep : ∀ l', after rs l v = some l' → runM rs [] 0 (vs ++ [v]) = some (l', max m l'.length) := fun l' e => by
          rw [runM_snoc hrun, e]
          rfl
        have etk : ms.take (i + 1) = (vs ++ [v]).map some := by
          rw [List.take_add_one, hv, htk, List.map_append]
          rfl
        have fail : after rs l v = none → takenLO rs apart ms = none := fun e => takenLO_of (takenO_run htk hrun hv e)
        have tail : ∀ (H3 : Hp) (hl' l' : List Nat) (w6 : V), Same H H3 → H3 Hd = some (.lst (vNs hl')) → hl'.Perm l' → after rs l v = some l' → (apart = true → v.slid = false) →
            ∃ (v5 v6 : Option V) (hl l : List Nat) (m' : Nat) (vs : List Mv), [some (V.ref T), some (.bl apart), some (.ref a), some (.ref Hd), some (.int (if (((vNs hl').length : Nat) : Int) > ((m : Nat) : Int) then (((vNs hl').length : Nat) : Int) else ((m : Nat) : Int))), some (.ref mb), some w6, none] = [some (.ref T), some (.bl apart), some (.ref a), some (.ref Hd), some (.int (m' : Nat)), v5, v6, none] ∧ Same H H3 ∧ H3 Hd = some (.lst (vNs hl)) ∧ hl.Perm l ∧ Valid rs.length l ∧ ms.take (i + 1) = vs.map some ∧ runM rs [] 0 vs = some (l, m') ∧ (apart = true → ∀ v ∈ vs, v.slid = false) := fun H3 hl' l' w6 s3 d3 p3 e3 ap => by
          refine ⟨some (.ref mb), some w6, hl', l', max m l'.length, vs ++ [v], ?_, s3, d3, p3, after_valid vl hins.lt e3, etk, estep l' e3, fun ha u hu => ?_⟩
          · have ei : (if (((vNs hl').length : Nat) : Int) > ((m : Nat) : Int) then (((vNs hl').length : Nat) : Int) else ((m : Nat) : Int)) = ((max m l'.length : Nat) : Int) := by
              rw [vNs_len, p3.length_eq]
              split <;> omega
            rw [ei]
          · rcases List.mem_append.mp hu with z | z
            · exact hsl ha u z
            · rw [List.mem_singleton.mp z]
              exact ap ha
        have ec : ∀ t, hl.contains t = l.contains t := fun t => by
          rw [Bool.eq_iff_iff]
          simp [hp.mem_iff]
        -- a thing is taken away
        have take : ∀ t, t ∈ l → ∃ j, (numI hl)[j]? = some ((t : Nat) : Int) ∧ (∀ m : Nat, m < j → (numI hl)[m]? ≠ some ((t : Nat) : Int)) ∧ (hl.eraseIdx j).Perm (drop l t) := fun t ht => by
          obtain ⟨j, h1, h2, h3⟩ := stands nd (hp.mem_iff.mpr ht)
          exact ⟨j, h1, h2, List.Perm.cons_inv (h3.trans (hp.trans (drop_perm vl.nodup ht).symm))⟩
        have fin : ∀ (H3 : Hp) (hl' l' : List Nat) (w6 : V), Same H H3 → H3 Hd = some (.lst (vNs hl')) → hl'.Perm l' → after rs l v = some l' → (apart = true → v.slid = false) →
            ∃ (hl' l' : List Nat) (w6' : V), [some (V.ref T), some (.bl apart), some (.ref a), some (.ref Hd), some (.int (m : Nat)), some (.ref mb), some w6, none] = [some (V.ref T), some (.bl apart), some (.ref a), some (.ref Hd), some (.int (m : Nat)), some (.ref mb), some w6', none] ∧ Same H H3 ∧ H3 Hd = some (.lst (vNs hl')) ∧ hl'.Perm l' ∧ after rs l v = some l' ∧ (apart = true → v.slid = false) :=
          fun H3 hl' l' w6 s3 d3 p3 e3 ap => ⟨hl', l', w6, rfl, s3, d3, p3, e3, ap⟩
        cases v with
        | clear t =>
          refine ⟨_, rfl, rfl, _, rfl, iteN (by intro z; cases z) ⟨_, rfl, rfl, _, rfl, iteN ne_cs ?_⟩⟩
          refine ⟨fun σ H3 => ∃ (hl' l' : List Nat) (w6 : V), σ = [some (V.ref T), some (.bl apart), some (.ref a), some (.ref Hd), some (.int (m : Nat)), some (.ref mb), some w6, none] ∧ Same H H3 ∧ H3 Hd = some (.lst (vNs hl')) ∧ hl'.Perm l' ∧ after rs l (.clear t) = some l' ∧ (apart = true → (Mv.clear t).slid = false), ?_, ?_⟩
          · refine ⟨_, rfl, rfl, _, rfl, iteD rfl ?_⟩
            refine ⟨_, rfl, mb, _, _, _, rfl, rfl, SqT.of hmb, atI_nat (j := 1) rfl, _, rfl, Hd, vNs hl, rfl, .inl (SqL.of dH2), rfl, vNs_flat hl, !inV (.int (t : Nat)) (vNs hl), rfl, ?_⟩
            rw [inV_vNs, ec]
            cases hc : l.contains t with
            | false => exact iteT (bad (fail (after_none_clear hc)))
            | true =>
              have ht : t ∈ l := by simpa using hc
              obtain ⟨j, j1, j2, j3⟩ := take t ht
              refine iteF ⟨_, rfl, .inl ⟨rfl, _, SqL.of dH2⟩, _, rfl, mb, _, _, _, rfl, rfl, SqT.of hmb, atI_nat (j := 1) rfl, Hd, numI hl, _, j, rfl, rfl, dH2, j1, j2, ?_⟩
              exact fin _ (hl.eraseIdx j) (drop l t) _ (same_at s12 hHd) (by rw [← numI_erase]; exact upd_same) j3 (after_clear.mpr ⟨ht, rfl⟩) (fun _ => rfl)
          · rintro σ H3 ⟨hl', l', w6, rfl, s3, d3, p3, e3, ap⟩
            exact ⟨_, rfl, _, rfl, Hd, _, rfl, .inl (SqL.of d3), _, _, rfl, tail H3 hl' l' w6 s3 d3 p3 e3 ap⟩
        | fill t =>
          refine ⟨_, rfl, rfl, _, rfl, iteN (by intro z; cases z) ⟨_, rfl, rfl, _, rfl, iteN ne_fs ?_⟩⟩
          refine ⟨fun σ H3 => ∃ (hl' l' : List Nat) (w6 : V), σ = [some (V.ref T), some (.bl apart), some (.ref a), some (.ref Hd), some (.int (m : Nat)), some (.ref mb), some w6, none] ∧ Same H H3 ∧ H3 Hd = some (.lst (vNs hl')) ∧ hl'.Perm l' ∧ after rs l (.fill t) = some l' ∧ (apart = true → (Mv.fill t).slid = false), ?_, ?_⟩
          · refine ⟨_, rfl, rfl, _, rfl, iteN ne_fc ?_⟩
            have ht : t < rs.length := hins.lt
            have hta : t < wr.length := by omega
            have hcV : (wr.map V.ref)[t]? = some (V.ref wr[t]) := by rw [List.getElem?_map, List.getElem?_eq_getElem hta]; rfl
            have hL := s12 _ _ (hat t _ _ (List.getElem?_eq_getElem hta) (at_lot ht))
            have hls := lot_small g t
            have notm : mayB rs l t = false → takenLO rs apart ms = none := fun e => fail (after_none_may (v := Mv.fill t) e (fun t' z => by cases z))
            refine ⟨_, rfl, mb, _, _, _, rfl, rfl, SqT.of hmb, atI_nat (j := 1) rfl, _, rfl, Hd, vNs hl, rfl, .inl (SqL.of dH2), rfl, vNs_flat hl, inV (.int (t : Nat)) (vNs hl), rfl, ?_⟩
            rw [inV_vNs, ec]
            cases hc : l.contains t with
            | true => exact iteT (bad (notm (by unfold mayB; rw [hc]; rfl)))
            | false =>
              refine iteF ⟨_, rfl, _, rfl, mb, _, _, _, rfl, rfl, SqT.of hmb, atI_nat (j := 1) rfl, T, _, _, _, rfl, rfl, SqT.of (s12 _ _ hT), atI_nat hcV, wr[t], rfl, ⟨_, SqT.of hL⟩, fun D hD => ?_⟩
              refine lc_it (walk_tup (K := K) (a := wr[t]) (xs := vNs (lot rs t))) (fun i H3 => Same H2 H3 ∧ H3 D = some (.lst (((lot rs t).take i).map fun o => V.bl (l.contains o)))) ⟨same_new hD, upd_same⟩ (fun i H3 _ q => SqT.of (q.1 _ _ hL)) ?_ ?_
              · rintro i' y H3 H3' hi' ⟨s3, d3⟩ ⟨rfl, hy'⟩
                obtain ⟨u, hu, rfl⟩ := vNs_get hy'
                refine ⟨rfl, _, rfl, _, rfl, Hd, vNs hl, rfl, .inl (SqL.of (s3 _ _ dH2)), rfl, vNs_flat hl, _, d3, ?_, same_at s3 hD, ?_⟩
                · rw [List.length_map, List.length_take]
                  exact size_ok (by omega)
                · rw [take_succ_map _ hu, inV_vNs, ec]
                  exact upd_same
              · rintro H3 ⟨s3, d3⟩
                rw [vNs_len, List.take_of_length_le (Nat.le_refl _)] at d3
                refine ⟨D, (lot rs t).map (fun o => l.contains o), rfl, SqL.of (by rw [d3, List.map_map]; rfl), _, rfl, ?_⟩
                rw [all_take]
                have s123 := s12.trans s3
                cases hall : (lot rs t).all (fun o => l.contains o) with
                | false =>
                  have q := k H3 s123
                  rw [notm (by unfold mayB; rw [hall, Bool.and_false])] at q
                  exact iteT q
                | true =>
                  have hmay : mayB rs l t = true := by unfold mayB; rw [hc, hall]; rfl
                  have hnt : t ∉ l := by simpa using hc
                  refine iteF ?_
                  have dH3 := s3 _ _ dH2
                  have hmb3 := s3 _ _ hmb
                  refine ⟨fun σ H4 => σ = [some (V.ref T), some (.bl apart), some (.ref a), some (.ref Hd), some (.int (m : Nat)), some (.ref mb), some (.str "fill"), none] ∧ H4 = H3, ?_, ?_⟩
                  · exact ⟨_, rfl, rfl, _, rfl, iteN ne_fs ⟨rfl, rfl⟩⟩
                  · rintro σ H4 ⟨rfl, rfl⟩
                    refine ⟨_, rfl, .inl ⟨rfl, _, SqL.of dH3⟩, _, rfl, mb, _, _, _, rfl, rfl, SqT.of hmb3, atI_nat (j := 1) rfl, Hd, _, _, rfl, rfl, dH3, by rw [vNs_len]; exact size_ok (by omega), ?_⟩
                    exact fin _ (hl ++ [t]) (srt (l ++ [t])) _ (same_at s123 hHd) (by rw [vNs_append]; exact upd_same) ((hp.append_right [t]).trans (srt_perm _).symm) (after_fill.mpr ⟨hmay, rfl⟩) (fun _ => rfl)
          · rintro σ H3 ⟨hl', l', w6, rfl, s3, d3, p3, e3, ap⟩
            exact ⟨_, rfl, _, rfl, Hd, _, rfl, .inl (SqL.of d3), _, _, rfl, tail H3 hl' l' w6 s3 d3 p3 e3 ap⟩
        | slide t o =>
          have ew : wordO rs (some (.slide t o)) = if (lot rs t).contains o then .str "slide" else .non := rfl
          cases hlo' : (lot rs t).contains o with
          | false =>
            have e0 : after rs l (.slide t o) = none := by
              show (if (mayB rs l t && (lot rs t).contains o) = true then some (srt (drop l o ++ [t])) else none) = none
              rw [hlo', Bool.and_false]
              rfl
            rw [ew, hlo']
            exact ⟨_, rfl, rfl, _, rfl, iteD rfl (bad (fail e0))⟩
          | true =>
          have hlo : o ∈ lot rs t := by simpa using hlo'
          rw [ew, hlo']
          refine ⟨_, rfl, rfl, _, rfl, iteN (by intro z; cases z) ⟨_, rfl, rfl, _, rfl, iteD rfl ⟨_, rfl, apart, rfl, ?_⟩⟩⟩
          cases apart with
          | true => exact iteT (bad (takenLO_slid hv rfl))
          | false =>
          have apf : false = true → (Mv.slide t o).slid = false := fun z => by cases z
          refine iteF ?_
          refine ⟨fun σ H3 => ∃ (hl' l' : List Nat) (w6 : V), σ = [some (V.ref T), some (.bl false), some (.ref a), some (.ref Hd), some (.int (m : Nat)), some (.ref mb), some w6, none] ∧ Same H H3 ∧ H3 Hd = some (.lst (vNs hl')) ∧ hl'.Perm l' ∧ after rs l (.slide t o) = some l' ∧ (false = true → (Mv.slide t o).slid = false), ?_, ?_⟩
          · refine ⟨_, rfl, rfl, _, rfl, iteN ne_sc ?_⟩
            have ht : t < rs.length := hins.lt
            have hta : t < wr.length := by omega
            have hcV : (wr.map V.ref)[t]? = some (V.ref wr[t]) := by rw [List.getElem?_map, List.getElem?_eq_getElem hta]; rfl
            have hL := s12 _ _ (hat t _ _ (List.getElem?_eq_getElem hta) (at_lot ht))
            have hls := lot_small g t
            have notm : mayB rs l t = false → takenLO rs false ms = none := fun e => fail (after_none_may (v := Mv.slide t o) e (fun t' z => by cases z))
            refine ⟨_, rfl, mb, _, _, _, rfl, rfl, SqT.of hmb, atI_nat (j := 1) rfl, _, rfl, Hd, vNs hl, rfl, .inl (SqL.of dH2), rfl, vNs_flat hl, inV (.int (t : Nat)) (vNs hl), rfl, ?_⟩
            rw [inV_vNs, ec]
            cases hc : l.contains t with
            | true => exact iteT (bad (notm (by unfold mayB; rw [hc]; rfl)))
            | false =>
              refine iteF ⟨_, rfl, _, rfl, mb, _, _, _, rfl, rfl, SqT.of hmb, atI_nat (j := 1) rfl, T, _, _, _, rfl, rfl, SqT.of (s12 _ _ hT), atI_nat hcV, wr[t], rfl, ⟨_, SqT.of hL⟩, fun D hD => ?_⟩
              refine lc_it (walk_tup (K := K) (a := wr[t]) (xs := vNs (lot rs t))) (fun i H3 => Same H2 H3 ∧ H3 D = some (.lst (((lot rs t).take i).map fun o => V.bl (l.contains o)))) ⟨same_new hD, upd_same⟩ (fun i H3 _ q => SqT.of (q.1 _ _ hL)) ?_ ?_
              · rintro i' y H3 H3' hi' ⟨s3, d3⟩ ⟨rfl, hy'⟩
                obtain ⟨u, hu, rfl⟩ := vNs_get hy'
                refine ⟨rfl, _, rfl, _, rfl, Hd, vNs hl, rfl, .inl (SqL.of (s3 _ _ dH2)), rfl, vNs_flat hl, _, d3, ?_, same_at s3 hD, ?_⟩
                · rw [List.length_map, List.length_take]
                  exact size_ok (by omega)
                · rw [take_succ_map _ hu, inV_vNs, ec]
                  exact upd_same
              · rintro H3 ⟨s3, d3⟩
                rw [vNs_len, List.take_of_length_le (Nat.le_refl _)] at d3
                refine ⟨D, (lot rs t).map (fun o => l.contains o), rfl, SqL.of (by rw [d3, List.map_map]; rfl), _, rfl, ?_⟩
                rw [all_take]
                have s123 := s12.trans s3
                cases hall : (lot rs t).all (fun o => l.contains o) with
                | false =>
                  have q := k H3 s123
                  rw [notm (by unfold mayB; rw [hall, Bool.and_false])] at q
                  exact iteT q
                | true =>
                  have hmay : mayB rs l t = true := by unfold mayB; rw [hc, hall]; rfl
                  have hnt : t ∉ l := by simpa using hc
                  refine iteF ?_
                  have dH3 := s3 _ _ dH2
                  have hmb3 := s3 _ _ hmb
                  have hol : o ∈ l := (mayB_iff.mp hmay).2 o hlo
                  obtain ⟨j, j1, j2, j3⟩ := take o hol
                  refine ⟨fun σ H4 => σ = [some (V.ref T), some (.bl false), some (.ref a), some (.ref Hd), some (.int (m : Nat)), some (.ref mb), some (.str "slide"), none] ∧ Same H H4 ∧ H4 Hd = some (.lst (vNs (hl.eraseIdx j))) ∧ H4 mb = H3 mb, ?_, ?_⟩
                  · refine ⟨_, rfl, rfl, _, rfl, iteD rfl ⟨_, rfl, .inl ⟨rfl, _, SqL.of dH3⟩, _, rfl, mb, _, _, _, rfl, rfl, SqT.of hmb3, atI_nat (j := 2) rfl, Hd, numI hl, _, j, rfl, rfl, dH3, j1, j2, ?_⟩⟩
                    exact ⟨rfl, same_at s123 hHd, by rw [← numI_erase]; exact upd_same, upd_ne (ne_of hmb3 dH3 (by intro z; cases z))⟩
                  · rintro σ H4 ⟨rfl, s4, dH4, em⟩
                    have hmb4 := em.trans hmb3
                    refine ⟨_, rfl, .inl ⟨rfl, _, SqL.of dH4⟩, _, rfl, mb, _, _, _, rfl, rfl, SqT.of hmb4, atI_nat (j := 1) rfl, Hd, _, _, rfl, rfl, dH4, by rw [vNs_len]; have := j3.length_eq; have := drop_len vl.1 hol; exact size_ok (by omega), ?_⟩
                    exact fin _ (hl.eraseIdx j ++ [t]) (srt (drop l o ++ [t])) _ (same_at s4 hHd) (by rw [vNs_append]; exact upd_same) ((j3.append_right [t]).trans (srt_perm _).symm) (after_slide.mpr ⟨hmay, hlo, rfl⟩) apf
          · rintro σ H3 ⟨hl', l', w6, rfl, s3, d3, p3, e3, ap⟩
            exact ⟨_, rfl, _, rfl, Hd, _, rfl, .inl (SqL.of d3), _, _, rfl, tail H3 hl' l' w6 s3 d3 p3 e3 ap⟩
    · rintro σ H1 ⟨v5, v6, hl, l, m, vs, rfl, s1, dH, hp, vl, htk, hrun, hsl⟩
      rw [List.take_of_length_le (by rw [hm.len]; exact Nat.le_refl _)] at htk
      have eg : ((((wr.map V.ref).length : Nat) : Int) - 1) = ((rs.length - 1 : Nat) : Int) := by rw [hlen]; omega
      have hT1 := s1 _ _ hT
      refine ⟨_, rfl, T, _, rfl, .inr (SqT.of hT1), _, _, rfl, rfl, _, rfl, Hd, vNs hl, rfl, .inl (SqL.of dH), rfl, vNs_flat hl, inV (.int ((((wr.map V.ref).length : Nat) : Int) - 1)) (vNs hl), rfl, ?_⟩
      rw [eg, inV_vNs]
      have ec : hl.contains (rs.length - 1) = l.contains (rs.length - 1) := by
        rw [Bool.eq_iff_iff]
        simp [hp.mem_iff]
      rw [ec]
      have q := k H1 s1
      have e1 : takenLO rs apart ms = takenM rs vs := by
        unfold takenLO
        rw [if_neg, htk, takenO_some]
        rintro ⟨z1, z2⟩
        rw [htk, List.any_map, List.any_eq_true] at z2
        obtain ⟨u, hu, z3⟩ := z2
        have z4 := hsl z1 u hu
        have z5 : u.slid = true := z3
        rw [z4] at z5
        cases z5
      rw [e1] at q
      unfold takenM at q
      rw [hrun] at q
      have q' : Q (optV (if l.contains (rs.length - 1) = true then some m else none)) H1 := q
      cases hc : l.contains (rs.length - 1) with
      | true =>
        rw [hc] at q'
        exact iteT ⟨_, rfl, q'⟩
      | false =>
        rw [hc] at q'
        exact iteF q'
end
end TX
set_option Elab.async false
set_option linter.all false
set_option maxRecDepth 100000
set_option maxHeartbeats 8000000
/-! L1: the law's pool and its draws. -/
namespace TX
open PySem PySem.Spec PyProof.Rows L2 RX WB
/-- all but what stands at p is kept -/
def SameX (p : Addr) (H H' : Hp) : Prop := ∀ b o, H b = some o → b ≠ p → H' b = some o
theorem SameX.refl (p : Addr) (H : Hp) : SameX p H H := fun _ _ h _ => h
theorem SameX.trans {p : Addr} {H H1 H2 : Hp} (a : SameX p H H1) (b : SameX p H1 H2) : SameX p H H2 := fun c o h n => b c o (a c o h n) n
theorem SameX.of {p : Addr} {H H' : Hp} (s : Same H H') : SameX p H H' := fun b o e _ => s b o e
theorem SameX.at {p : Addr} {H : Hp} {o : HO} : SameX p H (upd H p o) := fun b u e n => by
  rw [upd_ne n]
  exact e
structure PoolAt (H : Hp) (p : Addr) : Prop where
  ex : ∃ (g s : Addr) (gs ss : List Int) (x c : Int), H p = some (.lst [.ref g, .ref s, .int x, .int c]) ∧ H g = some (.lst (gs.map V.int)) ∧ H s = some (.lst (ss.map V.int))
theorem PoolAt.keep {H H' : Hp} {p : Addr} (h : PoolAt H p) (s : Same H H') : PoolAt H' p := by
  obtain ⟨g, s', gs, ss, x, c, h1, h2, h3⟩ := h.ex
  exact ⟨g, s', gs, ss, x, c, s _ _ h1, s _ _ h2, s _ _ h3⟩
theorem pool_apart {H : Hp} {p g : Addr} {gs : List Int} {a b c d : V} (h1 : H p = some (.lst [a, b, c, d])) (hr : ∀ i, a ≠ .int i) (h2 : H g = some (.lst (gs.map V.int))) : g ≠ p := by
  rintro rfl
  rw [h1] at h2
  cases gs with
  | nil => cases h2
  | cons z zs =>
    have e := Option.some.inj h2
    injection e with e
    rw [List.map_cons] at e
    injection e with e1 _
    exact hr z e1
theorem cutV_nums (ns : List Int) (lo hi : Option Int) : ∃ ms : List Int, cutV (ns.map V.int) lo hi = ms.map V.int ∧ ms.length ≤ ns.length := by
  refine ⟨(ns.drop (HT.sIx (ns.map V.int).length 0 lo)).take (HT.sIx (ns.map V.int).length (ns.map V.int).length hi - HT.sIx (ns.map V.int).length 0 lo), ?_, ?_⟩
  · unfold cutV
    rw [List.map_take, List.map_drop]
  · rw [List.length_take, List.length_drop]
    omega
/-- b is no part of the pool -/
def PoolN (H : Hp) (p b : Addr) : Prop := ∃ (g s : Addr) (x c : Int), H p = some (.lst [.ref g, .ref s, .int x, .int c]) ∧ b ≠ g ∧ b ≠ s
/-- a draw: all but the pool is kept, and what was no part of it is none -/
structure PoolStep (p : Addr) (H H' : Hp) : Prop where
  po : PoolAt H' p
  sx : SameX p H H'
  nn : ∀ b o, b ≠ p → H b = some o → PoolN H p b → PoolN H' p b
theorem PoolStep.refl {p : Addr} {H : Hp} (h : PoolAt H p) : PoolStep p H H := ⟨h, SameX.refl p H, fun _ _ _ _ z => z⟩
theorem PoolStep.trans {p : Addr} {H H1 H2 : Hp} (a : PoolStep p H H1) (b : PoolStep p H1 H2) : PoolStep p H H2 :=
  ⟨b.po, a.sx.trans b.sx, fun c o n e z => b.nn c o n (a.sx c o e n) (a.nn c o n e z)⟩
theorem PoolStep.put {p g s : Addr} {H : Hp} {gs ss : List Int} {x c x' c' : Int} (h1 : H p = some (.lst [.ref g, .ref s, .int x, .int c])) (h2 : H g = some (.lst (gs.map V.int))) (h3 : H s = some (.lst (ss.map V.int))) (gp : g ≠ p) (sp : s ≠ p) :
    PoolStep p H (upd H p (.lst [.ref g, .ref s, .int x', .int c'])) := by
  refine ⟨⟨g, s, gs, ss, x', c', upd_same, by rw [upd_ne gp]; exact h2, by rw [upd_ne sp]; exact h3⟩, SameX.at, fun b o n e z => ?_⟩
  obtain ⟨g1, s1, x1, c1, e1, n1, n2⟩ := z
  rw [h1] at e1
  cases e1
  exact ⟨g, s, x', c', upd_same, n1, n2⟩
theorem PoolStep.new {p q : Addr} {H : Hp} {o : HO} (h : PoolAt H p) (hq : H q = none) : PoolStep p H (upd H q o) := by
  refine ⟨h.keep (same_new hq), .of (same_new hq), fun b u n e z => ?_⟩
  obtain ⟨g1, s1, x1, c1, e1, n1, n2⟩ := z
  exact ⟨g1, s1, x1, c1, same_new hq _ _ e1, n1, n2⟩
/-- a list that is no part of the pool is written -/
theorem PoolStep.own {p q : Addr} {H : Hp} {o : HO} (h : PoolAt H p) (nq : q ≠ p) (n : PoolN H p q) : PoolAt (upd H q o) p := by
  obtain ⟨g, s, gs, ss, x, c, h1, h2, h3⟩ := h.ex
  obtain ⟨g1, s1, x1, c1, e1, n1, n2⟩ := n
  rw [h1] at e1
  cases e1
  exact ⟨g, s, gs, ss, x, c, by rw [upd_ne (Ne.symm nq)]; exact h1, by rw [upd_ne (Ne.symm n1)]; exact h2, by rw [upd_ne (Ne.symm n2)]; exact h3⟩
theorem PoolN.own {p q b : Addr} {H : Hp} {o : HO} (nq : q ≠ p) (n : PoolN H p b) : PoolN (upd H q o) p b := by
  obtain ⟨g1, s1, x1, c1, e1, n1, n2⟩ := n
  exact ⟨g1, s1, x1, c1, by rw [upd_ne (Ne.symm nq)]; exact e1, n1, n2⟩
/-- what is new is no part of the pool -/
theorem PoolAt.fresh {p q : Addr} {H : Hp} (h : PoolAt H p) (hq : H q = none) : PoolN H p q := by
  obtain ⟨g, s, gs, ss, x, c, h1, h2, h3⟩ := h.ex
  exact ⟨g, s, x, c, h1, (ne_of_none h2 hq).symm, (ne_of_none h3 hq).symm⟩
def spPool (K : PySem.W.Frag) : Sp := fun vs H Q _ => ∃ (a : Addr) (ns : List Int), vs = [.ref a] ∧ SqL K H a (ns.map V.int) ∧ ns.length ≤ 63 ∧ ∀ (H' : Hp) (p : Addr), Same H H' → H p = none → PoolAt H' p → Q (.ref p) H'
def spDraw : Sp := fun vs H Q _ => ∃ (p : Addr) (many : Int), vs = [.ref p, .int many] ∧ PoolAt H p ∧ 0 < many ∧ many < 1073741824 ∧ ∀ (H' : Hp) (d : Int), PoolStep p H H' → 0 ≤ d → d < many → Q (.int d) H'
theorem take_filter_yesI {l : List Int} {i : Nat} {n : Int} {p : Int → Bool} (h : l[i]? = some n) (hp : p n = true) : (l.take (i + 1)).filter p = (l.take i).filter p ++ [n] := by
  rw [List.take_add_one, h, List.filter_append]
  simp [hp]
section
variable {P : Program} {w : World} {K : PySem.W.Frag} {mg : Str → Option Value} {base : Heap}
theorem sc_pool : FnScope ["_law_script", "_law_great", "_law_small", "_law_cell"] ["_law_script"] (defScope s_law_pool) := ⟨rfl, rfl, rfl, by decide +kernel, rfl, by decide +kernel, by decide +kernel⟩
theorem ok_pool (B : Bts mg) (D : DefAt K mg "_law_pool" s_law_pool ["_law_script"]) : FnOk P w K mg base CX0 1 D.f D.fd ["_law_script"] (spPool K) := by
  refine D.F.ok sc_pool (fun vs H Q E h => ?_) (fun cdv A outer s H vs Q E hr h => ?_)
  · obtain ⟨a, ns, rfl, _⟩ := h
    rfl
  · obtain ⟨a, ns, rfl, ha, hlen, k⟩ := h
    refine ⟨_, pss_cons (ps_setLc (i := 1) (own := [("_law_cell", 3)]) (g := gName 3) (by rfl) sc_pool.nd rfl rfl (sw_true rfl rfl rfl (by decide +kernel)) (pi_list (pe_slice sl_list (pv 0) po_none (po_some pe_int))) (blkOk_by (N := ["_law_script", "_law_great", "_law_small", "_law_cell"]) (sc := defScope s_law_pool) (by decide +kernel))
            (fun _ _ _ _ _ => pg_name (i := 3) sc_pool.nd rfl (Or.inl rfl)) (fun _ _ _ _ _ => pts_one (pt_cmpR op_ge (pe_callB call_abs (by rfl) B.abs boot_abs (pa_cons (pv 3) pa_nil)) (pe_op op_pow pe_int pe_int) (nomark _))) (fun _ _ _ _ _ => pe_callB call_abs (by rfl) B.abs boot_abs (pa_cons (pv 3) pa_nil)))
      (pss_cons (ps_setLc (i := 2) (own := [("_law_cell", 3)]) (g := gName 3) (by rfl) sc_pool.nd rfl rfl (sw_true rfl rfl rfl (by decide +kernel)) (pi_list (pe_slice sl_list (pv 0) po_none (po_some pe_int))) (blkOk_by (N := ["_law_script", "_law_great", "_law_small", "_law_cell"]) (sc := defScope s_law_pool) (by decide +kernel))
            (fun _ _ _ _ _ => pg_name (i := 3) sc_pool.nd rfl (Or.inl rfl)) (fun _ _ _ _ _ => pts_one (pt_cmpR op_lt (pe_callB call_abs (by rfl) B.abs boot_abs (pa_cons (pv 3) pa_nil)) (pe_op op_pow pe_int pe_int) (nomark _))) (fun _ _ _ _ _ => pe_op op_mod (pe_callTy call_int1 (by rfl) B.int PyProof.Rows.boot_int (pa_cons (pv 3) pa_nil)) pe_int))
      (pss_one (ps_ret (pe_lst (pa_cons (pv 1) (pa_cons (pv 2) (pa_cons pe_int (pa_cons pe_int pa_nil)))))))), ?_⟩
    obtain ⟨ms, hms, hml⟩ := cutV_nums ns none (some 63)
    refine ⟨_, rfl, 63, rfl, a, _, rfl, ha, fun p hp => ⟨p, rfl, ⟨_, SqL.of upd_same⟩, fun G hG => ?_⟩⟩
    have s1 : Same H (upd H p (.lst (cutV (ns.map V.int) none (some 63)))) := same_new hp
    refine lc_it (walk_list (K := K) (a := p) (xs := cutV (ns.map V.int) none (some 63))) (fun i H2 => Same (upd H p (.lst (cutV (ns.map V.int) none (some 63)))) H2 ∧ ∃ zs : List Int, H2 G = some (.lst (zs.map V.int)) ∧ zs.length ≤ i) ⟨same_new hG, [], upd_same, Nat.le_refl _⟩ (fun i H2 _ q => SqL.of (q.1 _ _ upd_same)) ?_ ?_
    · rintro i y H2 H2' hi ⟨s2, zs, d2, hz⟩ ⟨rfl, hy⟩
      rw [hms] at hy hi
      rw [List.getElem?_map] at hy
      obtain ⟨z, hz1, rfl⟩ := Option.map_eq_some_iff.mp hy
      rw [List.length_map] at hi
      refine ⟨rfl, _, rfl, _, rfl, _, _, rfl, rfl, ⟨by decide, by decide, by decide⟩, _, _, rfl, rfl, _, rfl, ?_⟩
      refine ite2 (fun h => ?_) (fun h => ?_)
      · refine ⟨_, rfl, _, rfl, _, d2, by rw [List.length_map]; exact size_ok (by omega), same_at s2 hG, zs ++ [_], by rw [List.map_append]; exact upd_same, by rw [List.length_append, List.length_singleton]; omega⟩
      · exact ⟨s2, zs, d2, by omega⟩
    rintro H2 ⟨s2, gs, dG, hgl⟩
    have s12 := s1.trans s2
    refine ⟨_, rfl, 63, rfl, a, _, rfl, s12.seq ha, fun p2 hp2 => ⟨p2, rfl, ⟨_, SqL.of upd_same⟩, fun G2 hG2 => ?_⟩⟩
    have s3 : Same H2 (upd H2 p2 (.lst (cutV (ns.map V.int) none (some 63)))) := same_new hp2
    refine lc_it (walk_list (K := K) (a := p2) (xs := cutV (ns.map V.int) none (some 63))) (fun i H3 => Same (upd H2 p2 (.lst (cutV (ns.map V.int) none (some 63)))) H3 ∧ ∃ zs : List Int, H3 G2 = some (.lst (zs.map V.int)) ∧ zs.length ≤ i) ⟨same_new hG2, [], upd_same, Nat.le_refl _⟩ (fun i H2 _ q => SqL.of (q.1 _ _ upd_same)) ?_ ?_
    · rintro i y H3 H3' hi ⟨s4, zs, d2, hz⟩ ⟨rfl, hy⟩
      rw [hms] at hy hi
      rw [List.getElem?_map] at hy
      obtain ⟨z, hz1, rfl⟩ := Option.map_eq_some_iff.mp hy
      rw [List.length_map] at hi
      refine ⟨rfl, _, rfl, _, rfl, _, _, rfl, rfl, ⟨by decide, by decide, by decide⟩, _, _, rfl, rfl, _, rfl, ?_⟩
      refine ite2 (fun h => ?_) (fun h => ?_)
      · refine ⟨_, rfl, .inl ⟨_, rfl, _, _, rfl, rfl, (by show (0 : Int) < 1000003; decide), _, d2, by rw [List.length_map]; exact size_ok (by omega), same_at s4 hG2, zs ++ [_], by rw [List.map_append]; exact upd_same, by rw [List.length_append, List.length_singleton]; omega⟩⟩
      · exact ⟨s4, zs, d2, by omega⟩
    rintro H3 ⟨s4, ss, dG2, hsl⟩
    have s34 := s3.trans s4
    refine ⟨_, rfl, _, rfl, by show 4 ≤ sizeLine; decide, fun q hq => ?_⟩
    have s5 : Same H3 (upd H3 q (.lst [.ref G, .ref G2, .int 0, .int 0])) := same_new hq
    exact k _ q ((s12.trans s34).trans s5) ((s12.trans s34).free hq) ⟨G, G2, gs, ss, 0, 0, upd_same, s5 _ _ (s34 _ _ dG), s5 _ _ dG2⟩
end
end TX
set_option Elab.async false
set_option linter.all false
set_option maxRecDepth 100000
set_option maxHeartbeats 8000000
/-! LD: the law's draw. -/
namespace TX
open PySem PySem.Spec PyProof.Rows L2 RX WB
theorem atI_in {α : Type} {xs : List α} {i : Int} (h0 : 0 ≤ i) (h1 : i < (xs.length : Int)) : ∃ v, atI xs i = some v ∧ v ∈ xs := by
  obtain ⟨j, rfl⟩ : ∃ j : Nat, i = (j : Int) := ⟨i.toNat, by omega⟩
  have hj : j < xs.length := by omega
  exact ⟨xs[j], atI_nat (List.getElem?_eq_getElem hj), List.getElem_mem hj⟩
theorem mulOk {i M j : Int} (h0 : 0 < M) (h1 : M < 2147483648) : CMul (i % M) j := by
  have a := Int.emod_nonneg i (by omega : M ≠ 0)
  have b := Int.emod_lt_of_pos i h0
  refine .inl ⟨?_, ?_⟩
  · exact Int.lt_of_lt_of_le (by decide) a
  · exact Int.lt_trans (Int.lt_trans b h1) (by decide)
section
variable {P : Program} {w : World} {K : PySem.W.Frag} {mg : Str → Option Value} {base : Heap}
theorem sc_draw : FnScope ["_law_pool_here", "_law_many", "_law_digit", "_law_cell", "_law_number"] ["_law_pool_here", "_law_many"] (defScope s_law_draw) := ⟨rfl, rfl, rfl, by decide +kernel, rfl, by decide +kernel, by decide +kernel⟩
theorem ok_draw (B : Bts mg) (D : DefAt K mg "_law_draw" s_law_draw ["_law_pool_here", "_law_many"]) : FnOk P w K mg base CX0 1 D.f D.fd ["_law_pool_here", "_law_many"] spDraw := by
  refine D.F.ok sc_draw (fun vs H Q E h => ?_) (fun cdv A outer s H vs Q E hr h => ?_)
  · obtain ⟨p, many, rfl, _⟩ := h
    rfl
  · obtain ⟨p, many, rfl, hP, hm0, hm1, k⟩ := h
    refine ⟨_, C8.pss_cut (ps_if (PW.pt (pw_and (pt_cmpR op_le (pe_ix ix_list (pv 0) pe_int (fun _ _ => rfl)) pe_int (nomark _)) (pw_and1 (pt_cmpR op_gt (pe_callB call_len_seq (by rfl) B.len PySem.boot_len (pa_cons (pe_ix ix_list (pv 0) pe_int (fun _ _ => rfl)) pa_nil)) pe_int (nomark _)))))
          (pss_cons (ps_asg (pe_ix ix_list (pe_ix ix_list (pv 0) pe_int (fun _ _ => rfl)) pe_int (fun _ _ => rfl)) (pg_sub (pv 0) pe_int set_list))
          (pss_one (ps_asg (pe_slice sl_list (pe_ix ix_list (pv 0) pe_int (fun _ _ => rfl)) (po_some pe_int) po_none) (pg_sub (pv 0) pe_int set_list)))) pss_nil)
      (pss_cons (ps_if (pt_cmpR op_gt (pe_ix ix_list (pv 0) pe_int (fun _ _ => rfl)) pe_int (nomark _))
          (pss_cons (ps_set (i := 2) sc_draw.nd rfl (Or.inl rfl) (pe_op op_mod (pe_callTy call_int1 (by rfl) B.int PyProof.Rows.boot_int (pa_cons (pe_ix ix_list (pv 0) pe_int (fun _ _ => rfl)) pa_nil)) (pv 1)))
          (pss_cons (ps_asg (pe_op op_fdiv (pe_ix ix_list (pv 0) pe_int (fun _ _ => rfl)) (pv 1)) (pg_sub (pv 0) pe_int set_list))
          (pss_one (ps_ret (pv 2))))) pss_nil)
      (pss_cons (ps_asg (pe_op op_add (pe_ix ix_list (pv 0) pe_int (fun _ _ => rfl)) pe_int) (pg_sub (pv 0) pe_int set_list))
      (pss_cons (ps_set (i := 3) sc_draw.nd rfl (Or.inl rfl) pe_int)
      (C8.pss_cut (ps_if (pt_cmpR op_gt (pe_callB call_len_seq (by rfl) B.len PySem.boot_len (pa_cons (pe_ix ix_list (pv 0) pe_int (fun _ _ => rfl)) pa_nil)) pe_int (nomark _))
          (pss_one (ps_set (i := 3) sc_draw.nd rfl (Or.inl rfl) (pe_ix ix_list (pe_ix ix_list (pv 0) pe_int (fun _ _ => rfl)) (pe_op op_mod (pe_callTy call_int1 (by rfl) B.int PyProof.Rows.boot_int (pa_cons (pe_ix ix_list (pv 0) pe_int (fun _ _ => rfl)) pa_nil)) (pe_callB call_len_seq (by rfl) B.len PySem.boot_len (pa_cons (pe_ix ix_list (pv 0) pe_int (fun _ _ => rfl)) pa_nil))) (fun _ _ => rfl)))) pss_nil)
      (pss_cons (ps_set (i := 4) sc_draw.nd rfl (Or.inl rfl) (pe_op op_mod (pe_callTy call_int1 (by rfl) B.int PyProof.Rows.boot_int (pa_cons (pe_op op_mul (pe_op op_add (pe_op op_add (pv 3) (pe_op op_mul pe_int (pe_ix ix_list (pv 0) pe_int (fun _ _ => rfl)))) pe_int) pe_int) pa_nil)) pe_int))
      (pss_cons (ps_set (i := 4) sc_draw.nd rfl (Or.inl rfl) (pe_op op_mod (pe_callTy call_int1 (by rfl) B.int PyProof.Rows.boot_int (pa_cons (pe_op op_mul (pv 4) (pe_op op_add (pe_op op_fdiv (pv 4) pe_int) pe_int)) pa_nil)) pe_int))
      (pss_cons (ps_set (i := 4) sc_draw.nd rfl (Or.inl rfl) (pe_op op_mod (pe_callTy call_int1 (by rfl) B.int PyProof.Rows.boot_int (pa_cons (pe_op op_mul (pv 4) (pe_op op_add (pe_op op_fdiv (pv 4) pe_int) pe_int)) pa_nil)) pe_int))
      (pss_one (ps_ret (pe_op op_mod (pe_callTy call_int1 (by rfl) B.int PyProof.Rows.boot_int (pa_cons (pe_op op_fdiv (pv 4) pe_int) pa_nil)) (pv 1))))))))))), ?_⟩
    refine ⟨fun σ H1 => σ = [some (.ref p), some (.int many), none, none, none] ∧ PoolStep p H H1, ?_, ?_⟩
    · obtain ⟨g, sm, gs, ss, x, c, h1, h2, h3⟩ := hP.ex
      have gp := pool_apart h1 (fun i z => by cases z) h2
      have sp : sm ≠ p := by
        rintro rfl
        rw [h1] at h3
        cases ss with
        | nil => cases h3
        | cons z zs =>
          have e := Option.some.inj h3
          injection e with e
          rw [List.map_cons] at e
          injection e with e1 _
          cases e1
      refine ⟨_, rfl, p, _, _, _, rfl, rfl, SqL.of h1, rfl, _, _, rfl, rfl, _, rfl, ?_⟩
      refine ite2 (fun c1 => ?_) (fun c1 => ⟨rfl, .refl hP⟩)
      refine ⟨_, rfl, p, _, _, _, rfl, rfl, SqL.of h1, rfl, g, _, rfl, .inl (SqL.of h2), _, _, rfl, rfl, _, rfl, ?_⟩
      refine ite2 (fun c2 => ?_) (fun c2 => ⟨rfl, .refl hP⟩)
      cases gs with
      | nil => exact absurd (of_decide_eq_true c2) (by show ¬ ((0 : Int) < (0 : Nat)); decide)
      | cons z zs =>
        refine ⟨_, rfl, p, _, _, _, rfl, rfl, SqL.of h1, rfl, g, _, _, _, rfl, rfl, SqL.of h2, atI_nat (j := 0) rfl, _, rfl, p, _, _, _, rfl, rfl, h1, rfl, ?_⟩
        refine ⟨_, rfl, p, _, _, _, rfl, rfl, SqL.of upd_same, rfl, 1, rfl, g, _, rfl, SqL.of (by rw [upd_ne gp]; exact h2), fun q hq => ?_⟩
        have qp : q ≠ p := by
          rintro rfl
          rw [upd_same] at hq
          cases hq
        refine ⟨_, rfl, p, _, _, _, rfl, rfl, by rw [upd_ne (Ne.symm qp)]; exact upd_same, rfl, ?_⟩
        obtain ⟨ms, hms, _⟩ := cutV_nums (z :: zs) (some 1) none
        have hqH : H q = none := by
          rw [upd_ne qp] at hq
          exact hq
        refine ⟨rfl, ⟨q, sm, ms, ss, z, c, upd_same, ?_, ?_⟩, fun b o e n => ?_, fun b o n e zz => ?_⟩
        · rw [upd_ne qp, upd_same, ← hms]
        · rw [upd_ne sp, upd_ne (ne_of_none h3 hqH), upd_ne sp]
          exact h3
        · rw [upd_ne n, upd_ne (ne_of_none e hqH), upd_ne n]
          exact e
        · obtain ⟨g1, s1, x1, c1, e1, n1, n2⟩ := zz
          rw [h1] at e1
          cases e1
          exact ⟨q, sm, z, c, upd_same, ne_of_none e hqH, n2⟩
    · rintro σ H1 ⟨rfl, s1⟩
      obtain ⟨g, sm, gs, ss, x, c, h1, h2, h3⟩ := s1.po.ex
      have gp := pool_apart h1 (fun i z => by cases z) h2
      have sp : sm ≠ p := by
        rintro rfl
        rw [h1] at h3
        cases ss with
        | nil => cases h3
        | cons z zs =>
          have e := Option.some.inj h3
          injection e with e
          rw [List.map_cons] at e
          injection e with e1 _
          cases e1
      refine ⟨_, rfl, p, _, _, _, rfl, rfl, SqL.of h1, rfl, _, _, rfl, rfl, _, rfl, ?_⟩
      refine ite2 (fun c1 => ?_) (fun c1 => ?_)
      · refine ⟨_, rfl, p, _, _, _, rfl, rfl, SqL.of h1, rfl, .inl ⟨_, rfl, _, rfl, _, _, rfl, rfl, hm0, ?_⟩⟩
        refine ⟨_, rfl, p, _, _, _, rfl, rfl, SqL.of h1, rfl, _, rfl, _, _, rfl, rfl, ⟨hm0, hm1⟩, _, rfl, p, _, _, _, rfl, rfl, h1, rfl, ?_⟩
        refine ⟨_, rfl, k _ _ (s1.trans (.put h1 h2 h3 gp sp)) (Int.emod_nonneg _ (by omega)) (Int.emod_lt_of_pos _ hm0)⟩
      · refine ⟨_, rfl, p, _, _, _, rfl, rfl, SqL.of h1, rfl, _, _, rfl, rfl, _, rfl, p, _, _, _, rfl, rfl, h1, rfl, ?_⟩
        have s2 : PoolStep p H (upd H1 p (.lst ([.ref g, .ref sm, .int x, .int c].set 3 (.int (c + 1))))) := s1.trans (.put h1 h2 h3 gp sp)
        have g2 : upd H1 p (.lst ([.ref g, .ref sm, .int x, .int c].set 3 (.int (c + 1)))) p = some (.lst [.ref g, .ref sm, .int x, .int (c + 1)]) := upd_same
        have g3 : upd H1 p (.lst ([.ref g, .ref sm, .int x, .int c].set 3 (.int (c + 1)))) sm = some (.lst (ss.map V.int)) := by rw [upd_ne sp]; exact h3
        have g4 : upd H1 p (.lst ([.ref g, .ref sm, .int x, .int c].set 3 (.int (c + 1)))) g = some (.lst (gs.map V.int)) := by rw [upd_ne gp]; exact h2
        refine ⟨fun σ H3 => PoolStep p H H3 ∧ (∃ n : Int, ∃ a b d : V, H3 p = some (.lst [a, b, d, .int n])) ∧ ∃ z : Int, σ = [some (.ref p), some (.int many), none, some (.int z), none], ?_, ?_⟩
        · refine ⟨_, rfl, p, _, _, _, rfl, rfl, SqL.of g2, rfl, sm, _, rfl, .inl (SqL.of g3), _, _, rfl, rfl, _, rfl, ?_⟩
          refine ite2 (fun c2 => ?_) (fun c2 => ⟨s2, ⟨_, _, _, _, g2⟩, 0, rfl⟩)
          have c3 := of_decide_eq_true c2
          obtain ⟨v, hv, hvm⟩ := atI_in (xs := ss.map V.int) (Int.emod_nonneg (c + 1) (by omega : ((ss.map V.int).length : Int) ≠ 0)) (Int.emod_lt_of_pos (c + 1) c3)
          obtain ⟨z, _, rfl⟩ := List.mem_map.mp hvm
          refine ⟨_, rfl, p, _, _, _, rfl, rfl, SqL.of g2, rfl, _, rfl, p, _, _, _, rfl, rfl, SqL.of g2, rfl, .inl ⟨_, rfl, _, rfl, p, _, _, _, rfl, rfl, SqL.of g2, rfl, sm, _, rfl, .inl (SqL.of g3), _, _, rfl, rfl, c3, sm, _, _, _, rfl, rfl, SqL.of g3, hv, s2, ⟨_, _, _, _, g2⟩, z, rfl⟩⟩
        · rintro σ H3 ⟨s3, ⟨n, a, b, d, hp3⟩, z, rfl⟩
          refine ⟨_, rfl, _, rfl, p, _, _, _, rfl, rfl, SqL.of hp3, rfl, _, _, rfl, rfl, .inl ⟨by decide, by decide⟩, _, _, rfl, rfl, _, _, rfl, rfl, _, _, rfl, rfl, .inr ⟨by decide, by decide⟩, .inl ⟨_, rfl, _, _, rfl, rfl, by show (0 : Int) < 2147483647; decide, ?_⟩⟩
          refine ⟨_, rfl, _, rfl, _, _, rfl, rfl, ⟨by decide, by decide⟩, _, _, rfl, rfl, _, _, rfl, rfl, mulOk (by decide) (by decide), .inl ⟨_, rfl, _, _, rfl, rfl, by show (0 : Int) < 2147483647; decide, ?_⟩⟩
          refine ⟨_, rfl, _, rfl, _, _, rfl, rfl, ⟨by decide, by decide⟩, _, _, rfl, rfl, _, _, rfl, rfl, mulOk (by decide) (by decide), .inl ⟨_, rfl, _, _, rfl, rfl, by show (0 : Int) < 2147483399; decide, ?_⟩⟩
          refine ⟨_, rfl, _, _, rfl, rfl, ⟨by decide, by decide⟩, .inl ⟨_, rfl, _, rfl, _, _, rfl, rfl, hm0, k _ _ s3 (Int.emod_nonneg _ (by omega)) (Int.emod_lt_of_pos _ hm0)⟩⟩
end
end TX
set_option Elab.async false
set_option linter.all false
set_option maxRecDepth 100000
set_option maxHeartbeats 8000000
/-! LW: the law's draw of a web's reads. -/
namespace TX
open PySem PySem.Spec PyProof.Rows L2 RX WB
theorem PoolAt.tk {H H' : Hp} {p : Addr} (h : PoolAt H p) (s : SameX p H H') : TK H H' := fun b xs e => s b _ e (by
  rintro rfl
  obtain ⟨_, _, _, _, _, _, h1, _⟩ := h.ex
  rw [h1] at e
  cases e)
theorem PoolAt.some {H : Hp} {p : Addr} (h : PoolAt H p) : ∃ o, H p = some o := by
  obtain ⟨_, _, _, _, _, _, h1, _⟩ := h.ex
  exact ⟨_, h1⟩
theorem PoolAt.ne {H : Hp} {p q : Addr} (h : PoolAt H p) (hq : H q = none) : q ≠ p := by
  rintro rfl
  obtain ⟨o, e⟩ := h.some
  rw [hq] at e
  cases e
theorem sameX_new {p q : Addr} {H : Hp} {o : HO} (h : H q = none) : SameX p H (upd H q o) := .of (same_new h)
theorem sameX_at {p q : Addr} {H H1 : Hp} {o : HO} (s : SameX p H H1) (h : H q = none) : SameX p H (upd H1 q o) := fun b u e n => by
  rw [upd_ne (ne_of_none e h)]
  exact s b u e n
theorem PoolAt.new {H : Hp} {p q : Addr} {o : HO} (h : PoolAt H p) (hq : H q = none) : PoolAt (upd H q o) p := h.keep (same_new hq)
/-- lots that stand in a row -/
structure LA (H : Hp) (as : List Addr) (rs : List (List Nat)) : Prop where
  len : as.length = rs.length
  at_ : ∀ (j : Nat) (a : Addr) (l : List Nat), as[j]? = some a → rs[j]? = some l → LotAt H a l
theorem LA.keep {H H' : Hp} {as : List Addr} {rs : List (List Nat)} (h : LA H as rs) (t : TK H H') : LA H' as rs := ⟨h.len, fun j a l e1 e2 => t _ _ (h.at_ j a l e1 e2)⟩
theorem LA.snoc {H : Hp} {as : List Addr} {rs : List (List Nat)} (h : LA H as rs) {a : Addr} {l : List Nat} (q : LotAt H a l) : LA H (as ++ [a]) (rs ++ [l]) := by
  refine ⟨by rw [List.length_append, List.length_append, h.len]; rfl, fun j a' l' e1 e2 => ?_⟩
  rcases Nat.lt_or_ge j rs.length with z | z
  · rw [List.getElem?_append_left (by rw [h.len]; exact z)] at e1
    rw [List.getElem?_append_left z] at e2
    exact h.at_ j a' l' e1 e2
  · rw [List.getElem?_append_right (by rw [h.len]; exact z), h.len] at e1
    rw [List.getElem?_append_right z] at e2
    cases hi : j - rs.length with
    | zero =>
      rw [hi] at e1 e2
      simp at e1 e2
      subst e1 e2
      exact q
    | succ jj =>
      rw [hi] at e1
      simp at e1
def Lots (rs : List (List Nat)) : Prop := ∀ (j : Nat) (l : List Nat), rs[j]? = some l → Asc l ∧ ∀ x ∈ l, x < j
theorem Lots.snoc {rs : List (List Nat)} (h : Lots rs) {l : List Nat} (a : Asc l) (b : ∀ x ∈ l, x < rs.length) : Lots (rs ++ [l]) := fun j l' e => by
  rcases Nat.lt_or_ge j rs.length with z | z
  · rw [List.getElem?_append_left z] at e
    exact h j l' e
  · rw [List.getElem?_append_right z] at e
    cases hi : j - rs.length with
    | zero =>
      rw [hi] at e
      simp at e
      subst e
      have : j = rs.length := by omega
      subst this
      exact ⟨a, b⟩
    | succ jj =>
      rw [hi] at e
      simp at e
theorem PoolStep.write {p q : Addr} {H H1 : Hp} {o : HO} (s : PoolStep p H H1) (h : H q = none) (nq : q ≠ p) (n : PoolN H1 p q) : PoolStep p H (upd H1 q o) :=
  ⟨PoolStep.own s.po nq n, sameX_at s.sx h, fun b u nb e z => (s.nn b u nb e z).own nq⟩
theorem PoolStep.free {p q : Addr} {H H1 : Hp} (s : PoolStep p H H1) (n : q ≠ p) (h : H1 q = none) : H q = none := by
  cases e : H q with
  | none => rfl
  | some o =>
    have := s.sx _ _ e n
    rw [h] at this
    cases this
def spWebReads : Sp := fun vs H Q _ => ∃ (p : Addr) (most : Nat), vs = [.ref p, .int (most : Nat)] ∧ PoolAt H p ∧ 1 ≤ most ∧ most ≤ 10 ∧
  ∀ (H' : Hp) (T : Addr) (rs : List (List Nat)), PoolStep p H H' → ReadsAt H' T rs → WB.Good rs → rs.length ≤ most → Q (.ref T) H'
section
variable {P : Program} {w : World} {K : PySem.W.Frag} {mg : Str → Option Value} {base : Heap}
theorem sc_webReads : FnScope ["_law_pool_here", "_law_most", "_law_many", "_law_kind", "_law_found", "_law_thing", "_law_lot", "_law_other"] ["_law_pool_here", "_law_most"] (defScope s_law_web_reads) := ⟨rfl, rfl, rfl, by decide +kernel, rfl, by decide +kernel, by decide +kernel⟩
theorem ok_webReads (B : Bts mg) (D1 : DefAt K mg "_law_draw" s_law_draw ["_law_pool_here", "_law_many"]) (D : DefAt K mg "_law_web_reads" s_law_web_reads ["_law_pool_here", "_law_most"]) :
    FnOk P w K mg base CX0 2 D.f D.fd ["_law_pool_here", "_law_most"] spWebReads := by
  refine D.F.ok sc_webReads (fun vs H Q E h => ?_) (fun cdv A outer s H vs Q E hr h => ?_)
  · obtain ⟨p, most, rfl, _⟩ := h
    rfl
  · obtain ⟨p, most, rfl, hP, hm1, hm2, k⟩ := h
    have GD : FnOk P w K mg base CX0 1 D1.f D1.fd ["_law_pool_here", "_law_many"] spDraw := ok_draw B D1
    refine ⟨_, pss_cons (ps_set (i := 2) sc_webReads.nd rfl (Or.inl rfl) (pe_op op_add pe_int (pcl D1 GD hr (by rfl) (pa_cons (pv 0) (pa_cons (pv 1) pa_nil)))))
      (pss_cons (ps_set (i := 3) sc_webReads.nd rfl (Or.inl rfl) (pcl D1 GD hr (by rfl) (pa_cons (pv 0) (pa_cons pe_int pa_nil))))
      (pss_cons (ps_set (i := 4) sc_webReads.nd rfl (Or.inl rfl) (pe_lst pa_nil))
      (pss_cons (ps_for PassesOwn.never rfl (pi_range1 rfl B.range (pa_cons (pv 2) pa_nil)) (pg_name (i := 5) sc_webReads.nd rfl (Or.inl rfl))
        (C8.pss_cut (ps_setLc (i := 6) (own := [("_law_other", 7)]) (g := gName 7) (te := tVar 7) (tt := tTest (tOp rEq (tCall spDraw [] E0 (tCons (tVar 0) (tCons (tC (.int 3)) tNil))) (tC (.int 0)))) (by rfl) sc_webReads.nd rfl rfl (sw_true rfl rfl rfl (by decide +kernel)) (pi_range1 rfl B.range (pa_cons (pv 5) pa_nil)) (blkOk_by (N := ["_law_pool_here", "_law_most", "_law_many", "_law_kind", "_law_found", "_law_thing", "_law_lot", "_law_other"]) (sc := defScope s_law_web_reads) (by decide +kernel))
            (fun _ _ _ _ _ => pg_name (i := 7) sc_webReads.nd rfl (Or.inl rfl)) (fun _ _ _ _ _ => pts_one (pt_cmpR op_eq (pcl D1 GD hr (by rfl) (pa_cons (pv 0) (pa_cons pe_int pa_nil))) pe_int (nomark _))) (fun _ _ _ _ _ => pv 7))
        (C8.pss_cut (ps_if (PW.pt (pw_and (pt_cmpR op_eq (pv 3) pe_int (nomark _)) (pw_and1 (pt_cmpR op_gt (pv 5) pe_int (nomark _)))))
            (pss_one (ps_set (i := 6) sc_webReads.nd rfl (Or.inl rfl) (pe_callB (cr_sortedSet rfl) (by rfl) B.sorted boot_sorted (pa_cons (pe_callTy (cr_setL rfl) (by rfl) B.set PyProof.Rows.boot_set (pa_cons (pe_lst (pa_cons (pe_op op_sub (pv 5) pe_int) (pa_cons (pcl D1 GD hr (by rfl) (pa_cons (pv 0) (pa_cons (pv 5) pa_nil))) pa_nil))) pa_nil)) pa_nil)))) pss_nil)
        (C8.pss_cut (ps_if (PW.pt (pw_and (pt_cmpR op_eq (pv 3) pe_int (nomark _)) (pw_and1 (pt_cmpR op_gt (pv 5) pe_int (nomark _)))))
            (pss_one (ps_set (i := 6) sc_webReads.nd rfl (Or.inl rfl) (pe_lst (pa_cons (pe_op op_sub (pv 5) pe_int) (pa_cons (pe_op op_sub (pv 5) pe_int) pa_nil))))) pss_nil)
        (pss_one (ps_expr (pe_bm PySem.F.plainAttrs_list PySem.F.slot_list_append PySem.F.type_list_append mt_append (pv 4) (pa_cons (pe_callTy call_tuple_of (by rfl) B.tuple PyProof.Rows.boot_tuple (pa_cons (pv 6) pa_nil)) pa_nil))))))))
      (pss_one (ps_ret (pe_callTy call_tuple_of (by rfl) B.tuple PyProof.Rows.boot_tuple (pa_cons (pv 4) pa_nil))))))), ?_⟩
    refine ⟨_, rfl, _, rfl, p, _, rfl, hP, by omega, by omega, fun H1 d s1 hd0 hd1 => ⟨_, _, rfl, rfl, ?_⟩⟩
    refine ⟨_, rfl, p, _, rfl, s1.po, by decide, by decide, fun H2 kind s2 hk0 hk1 => ?_⟩
    refine ⟨by show 0 ≤ sizeLine; decide, fun F hF => ?_⟩
    obtain ⟨many, rfl⟩ : ∃ n : Nat, d = (n : Int) := ⟨d.toNat, by omega⟩
    have s12 := s1.trans s2
    have hFp := s2.po.ne hF
    have hF0 : H F = none := s12.free hFp hF
    refine ⟨_, rfl, _, rfl, ?_, ?_, ?_⟩
    · have : -(2 ^ 62) ≤ (1 + (many : Int)) := by omega
      exact this
    · have : (1 + (many : Int)) < 2 ^ 62 := by omega
      exact this
    have en : ((1 + (many : Int))).toNat = many + 1 := by omega
    rw [en]
    refine for_it (walk_range (lo := 0) (n := many + 1)) (fun i σ H3 => ∃ (as : List Addr) (rs : List (List Nat)) (v5 v6 : Option V), σ = [some (.ref p), some (.int (most : Nat)), some (.int (1 + (many : Int))), some (.int kind), some (.ref F), v5, v6, none] ∧ PoolStep p H H3 ∧ PoolN H3 p F ∧ H3 F = some (.lst (as.map V.ref)) ∧ LA H3 as rs ∧ rs.length = i ∧ Lots rs)
      ⟨[], [], none, none, rfl, s12.trans (.new s2.po hF), (s2.po.fresh hF).own hFp, upd_same, ⟨rfl, fun j a l e => by simp at e⟩, rfl, fun j l e => by simp at e⟩ (fun _ _ _ _ _ => trivial) ?_ ?_
    · rintro t y σ H3 H3' ht ⟨as, rs, v5, v6, rfl, s3, nF, dF, la, hrl, hlo⟩ ⟨rfl, hy⟩
      have ey : y = .int (t : Nat) := hy.trans (congrArg V.int (Int.zero_add _))
      subst ey
      have hP3 := s3.po
      refine ⟨fun σ H4 => ∃ (G : Addr) (l : List Nat), σ = [some (.ref p), some (.int (most : Nat)), some (.int (1 + (many : Int))), some (.int kind), some (.ref F), some (.int (t : Nat)), some (.ref G), none] ∧ PoolStep p H3' H4 ∧ H4 G = some (.lst (vNs l)) ∧ Asc l ∧ (∀ x ∈ l, x < t), ?_, ?_⟩
      · refine ⟨_, rfl, _, rfl, ?_, ?_, ?_⟩
        · have : -(2 ^ 62) ≤ ((t : Nat) : Int) := by omega
          exact this
        · have : ((t : Nat) : Int) < 2 ^ 62 := by omega
          exact this
        have en : (((t : Nat) : Int)).toNat = t := by omega
        rw [en]
        refine fun G hG => ?_
        have nGp := hP3.ne hG
        refine lc_it (walk_range (lo := 0) (n := t)) (fun i H2 => PoolStep p H3' H2 ∧ PoolN H2 p G ∧ ∃ l : List Nat, H2 G = some (.lst (vNs l)) ∧ Asc l ∧ (∀ x ∈ l, x < i) ∧ l.length ≤ i) ⟨.new hP3 hG, (hP3.fresh hG).own nGp, [], upd_same, .nil, fun x hx => by simp at hx, Nat.le_refl _⟩ (fun _ _ _ _ => trivial) ?_ ?_
        · rintro i y H5 H5' hi ⟨s5, nG, l, dG, hl, hlt, hll⟩ ⟨rfl, hy⟩
          have ey : y = .int (i : Nat) := hy.trans (congrArg V.int (Int.zero_add _))
          subst ey
          refine ⟨rfl, _, rfl, p, _, rfl, s5.po, by decide, by decide, fun H6 d s6 h0 h1 => ⟨rfl, _, rfl, ?_⟩⟩
          have dG6 := s6.sx _ _ dG nGp
          have nG6 := s6.nn _ _ nGp dG nG
          refine ite2 (fun _ => ?_) (fun _ => ?_)
          · refine ⟨_, rfl, _, dG6, by rw [vNs_len]; exact size_ok (by omega), ?_⟩
            refine ⟨(s5.trans s6).write hG nGp nG6, nG6.own nGp, l ++ [i], ?_, ?_, ?_, by rw [List.length_append, List.length_singleton]; omega⟩
            · rw [vNs_append]
              exact upd_same
            · exact List.pairwise_append.mpr ⟨hl, List.pairwise_singleton _ _, fun a ha b hb => by rw [List.mem_singleton.mp hb]; exact hlt a ha⟩
            · intro x hx
              rcases List.mem_append.mp hx with z | z
              · exact Nat.lt_succ_of_lt (hlt x z)
              · rw [List.mem_singleton.mp z]
                exact Nat.lt_succ_self _
          · exact ⟨s5.trans s6, nG6, l, dG6, hl, fun x hx => Nat.lt_succ_of_lt (hlt x hx), by omega⟩
        · rintro H5 ⟨s5, nG, l, dG, hl, hlt, hll⟩
          exact ⟨G, l, rfl, s5, dG, hl, hlt⟩
      rintro σ H4 ⟨G, l, rfl, s4, dG, hl, hlt⟩
      refine ⟨fun σ H4 => ∃ (G : Addr) (l : List Nat), σ = [some (.ref p), some (.int (most : Nat)), some (.int (1 + (many : Int))), some (.int kind), some (.ref F), some (.int (t : Nat)), some (.ref G), none] ∧ PoolStep p H3' H4 ∧ H4 G = some (.lst (vNs l)) ∧ Asc l ∧ (∀ x ∈ l, x < t), ?_, ?_⟩
      · refine ⟨_, rfl, rfl, _, rfl, ?_⟩
        refine ite2 (fun _ => ?_) (fun _ => ⟨G, l, rfl, s4, dG, hl, hlt⟩)
        refine ⟨_, rfl, _, _, rfl, rfl, _, rfl, ?_⟩
        refine ite2 (fun c2 => ?_) (fun _ => ⟨G, l, rfl, s4, dG, hl, hlt⟩)
        have c3 : 0 < t := by have := of_decide_eq_true c2; omega
        refine ⟨_, rfl, _, _, rfl, rfl, _, rfl, _, rfl, p, _, rfl, s4.po, by omega, by omega, fun H5 d s5 h0 h1 => ⟨by show 2 ≤ sizeLine; decide, fun N1 hN1 => ?_⟩⟩
        obtain ⟨e, rfl⟩ : ∃ n : Nat, d = (n : Int) := ⟨d.toNat, by omega⟩
        have n1p := s5.po.ne hN1
        refine ⟨N1, [((t : Nat) : Int) - 1, ((e : Nat) : Int)], rfl, SqL.of upd_same, by show 3 < scanBound; decide, fun S c hc hS => ?_⟩
        refine ⟨S, _, c, rfl, upd_same, by have : c ≤ 2 := hc; omega, fun ms q hms hmem hml hq => ?_⟩
        have ms0 : ∀ x ∈ ms, ∃ n : Nat, x = (n : Int) ∧ n < t := fun x hx => by
          have := (hmem x).mp hx
          rw [decide_eq_true_eq] at this
          rcases List.mem_cons.mp this with z | z
          · exact ⟨t - 1, by omega, by omega⟩
          · exact ⟨e, List.mem_singleton.mp z, by omega⟩
        obtain ⟨l2, el2, hl2⟩ : ∃ l2 : List Nat, ms = numI l2 ∧ ∀ n ∈ l2, n < t := by
          refine ⟨ms.map Int.toNat, ?_, fun n hn => ?_⟩
          · unfold numI
            rw [List.map_map]
            refine (List.map_id ms).symm.trans (List.map_congr_left fun x hx => ?_)
            obtain ⟨n, rfl, _⟩ := ms0 x hx
            show (n : Int) = (((n : Int).toNat : Nat) : Int)
            omega
          · obtain ⟨x, hx, rfl⟩ := List.mem_map.mp hn
            obtain ⟨n, rfl, hn⟩ := ms0 x hx
            omega
        subst el2
        exact ⟨q, l2, rfl, ((((s4.trans s5).trans (.new s5.po hN1)).trans (.new (s5.po.new hN1) hS)).trans (.new ((s5.po.new hN1).new hS) hq)), upd_same, asc_num.mp hms, hl2⟩
      clear dG hl hlt s4 H4 G l
      rintro σ H4 ⟨G, l, rfl, s4, dG, hl, hlt⟩
      refine ⟨fun σ H4 => ∃ (G : Addr) (l : List Nat), σ = [some (.ref p), some (.int (most : Nat)), some (.int (1 + (many : Int))), some (.int kind), some (.ref F), some (.int (t : Nat)), some (.ref G), none] ∧ PoolStep p H3' H4 ∧ H4 G = some (.lst (vNs l)) ∧ Asc l ∧ (∀ x ∈ l, x < t), ?_, ?_⟩
      · refine ⟨_, rfl, rfl, _, rfl, ?_⟩
        refine ite2 (fun _ => ?_) (fun _ => ⟨G, l, rfl, s4, dG, hl, hlt⟩)
        refine ⟨_, rfl, _, _, rfl, rfl, _, rfl, ?_⟩
        refine ite2 (fun c2 => ?_) (fun _ => ⟨G, l, rfl, s4, dG, hl, hlt⟩)
        have c3 : 1 < t := by have := of_decide_eq_true c2; omega
        refine ⟨_, rfl, _, _, rfl, rfl, _, rfl, _, _, rfl, rfl, by show 2 ≤ sizeLine; decide, fun N1 hN1 => ?_⟩
        refine ⟨N1, [t - 2, t - 1], rfl, s4.trans (.new s4.po hN1), ?_, ?_, ?_⟩
        · have e1 : ((t : Nat) : Int) - 2 = ((t - 2 : Nat) : Int) := by omega
          have e2 : ((t : Nat) : Int) - 1 = ((t - 1 : Nat) : Int) := by omega
          show upd H4 N1 (HO.lst [.int (((t : Nat) : Int) - 2), .int (((t : Nat) : Int) - 1)]) N1 = _
          rw [e1, e2]
          exact upd_same
        · refine List.pairwise_cons.mpr ⟨fun a ha => ?_, List.pairwise_singleton _ _⟩
          rw [List.mem_singleton.mp ha]
          omega
        · intro x hx
          rcases List.mem_cons.mp hx with z | z
          · omega
          · rw [List.mem_singleton.mp z]
            omega
      clear dG hl hlt s4 H4 G l
      rintro σ H4 ⟨G, l, rfl, s4, dG, hl, hlt⟩
      have dF4 := s4.sx _ _ dF hFp
      have nF4 := s4.nn _ _ hFp dF nF
      have tk4 := hP3.tk s4.sx
      refine ⟨_, rfl, .inl ⟨rfl, _, SqL.of dF4⟩, _, rfl, G, _, rfl, .inl ⟨SqL.of dG, fun q hq => ?_⟩⟩
      have s5 := PoolStep.new (o := .tup (vNs l)) s4.po hq
      have dF5 := s5.sx _ _ dF4 hFp
      refine ⟨F, _, _, rfl, rfl, dF5, by rw [List.length_map, la.len]; exact size_ok (by omega), ?_⟩
      subst hrl
      refine ⟨as ++ [q], rs ++ [l], _, _, rfl, ((s3.trans s4).trans s5).write hF0 hFp (s5.nn _ _ hFp dF4 nF4), (s5.nn _ _ hFp dF4 nF4).own hFp, by rw [List.map_append]; exact upd_same, ?_, by rw [List.length_append, List.length_singleton], hlo.snoc hl hlt⟩
      have t5 : TK (upd H4 q (.tup (vNs l))) (upd (upd H4 q (.tup (vNs l))) F (.lst (as.map V.ref ++ [.ref q]))) := TK.lst dF5
      exact (((la.keep tk4).keep (TK.of (same_new hq))).keep t5).snoc (t5 _ _ upd_same)
    · rintro σ H3 ⟨as, rs, v5, v6, rfl, s3, nF, dF, la, hrl, hlo⟩
      refine ⟨_, rfl, F, _, rfl, .inl ⟨SqL.of dF, fun T hT => ?_⟩⟩
      have s4 := PoolStep.new (o := .tup (as.map V.ref)) s3.po hT
      exact k _ T rs (s3.trans s4) ⟨as, upd_same, la.len, fun j a l e1 e2 => same_new hT _ _ (la.at_ j a l e1 e2)⟩ ⟨by omega, by omega, hlo⟩ (by omega)
end
end TX
set_option Elab.async false
set_option linter.all false
set_option maxRecDepth 100000
set_option maxHeartbeats 8000000
/-! LM: the law's counts and masks. -/
namespace TX
open PySem PySem.Spec PyProof.Rows L2 RX WB
def countsL : Nat → List Nat
  | 0 => [0]
  | n + 1 => countsL n ++ (countsL n).map (· + 1)
theorem countsL_len (n : Nat) : (countsL n).length = 2 ^ n := by
  induction n with
  | zero => rfl
  | succ n ih => rw [countsL, List.length_append, List.length_map, ih, Nat.pow_succ]; omega
theorem countsL_at {l : List Nat} {n : Nat} (ha : Asc l) (h : ∀ x ∈ l, x < n) : (countsL n)[mask l]? = some l.length := by
  induction n generalizing l with
  | zero =>
    cases l with
    | nil => rfl
    | cons x l => exact absurd (h x List.mem_cons_self) (Nat.not_lt_zero _)
  | succ n ih =>
    by_cases hn : n ∈ l
    · obtain ⟨a, b, e⟩ := List.append_of_mem hn
      subst e
      have hb : b = [] := by
        cases b with
        | nil => rfl
        | cons y b =>
          have h1 := h y (by simp)
          have := (List.pairwise_append.mp ha).2.1
          have := (List.pairwise_cons.mp this).1 y (by simp)
          omega
      subst hb
      have ha1 := (List.pairwise_append.mp ha).1
      have ha2 : ∀ x ∈ a, x < n := fun x hx => (List.pairwise_append.mp ha).2.2 x hx n (by simp)
      have h2 := ih ha1 ha2
      have e1 : mask a + (2 ^ n + 0) - 2 ^ n = mask a := by omega
      rw [mask_append, mask_cons, mask_nil, countsL, List.getElem?_append_right (by rw [countsL_len]; omega), countsL_len, e1, List.getElem?_map, h2, List.length_append]
      rfl
    · have h1 : ∀ x ∈ l, x < n := fun x hx => by
        have := h x hx
        have : x ≠ n := fun z => hn (z ▸ hx)
        omega
      rw [countsL, List.getElem?_append_left (by rw [countsL_len]; exact mask_lt ha h1)]
      exact ih ha h1
def spCounts : Sp := fun vs H Q _ => ∃ (n : Nat), vs = [.int (n : Nat)] ∧ n ≤ 10 ∧ ∀ (H' : Hp) (C : Addr), Same H H' → H' C = some (.lst (vNs (countsL n))) → Q (.ref C) H'
def spMasks : Sp := fun vs H Q _ => ∃ (T : Addr) (rs : List (List Nat)), vs = [.ref T] ∧ ReadsAt H T rs ∧ WB.Good rs ∧ ∀ (H' : Hp) (M : Addr), Same H H' → H' M = some (.lst (vNs (rs.map mask))) → Q (.ref M) H'
section
variable {P : Program} {w : World} {K : PySem.W.Frag} {mg : Str → Option Value} {base : Heap}
theorem sc_counts : FnScope ["_law_many", "_law_found", "_law_turn", "_law_count"] ["_law_many"] (defScope s_law_counts) := ⟨rfl, rfl, rfl, by decide +kernel, rfl, by decide +kernel, by decide +kernel⟩
theorem vNs_map_succ (l : List Nat) : (l.map (· + 1)).length = l.length := List.length_map ..
theorem ok_counts (B : Bts mg) (D : DefAt K mg "_law_counts" s_law_counts ["_law_many"]) :
    FnOk P w K mg base CX0 1 D.f D.fd ["_law_many"] spCounts := by
  refine D.F.ok sc_counts (fun vs H Q E h => ?_) (fun cdv A outer s H vs Q E hr h => ?_)
  · obtain ⟨n, rfl, _⟩ := h
    rfl
  · obtain ⟨n, rfl, hn, k⟩ := h
    refine ⟨_, pss_cons (ps_set (i := 1) sc_counts.nd rfl (Or.inl rfl) (pe_lst (pa_cons pe_int pa_nil)))
      (pss_cons (ps_for PassesOwn.never rfl (pi_range1 rfl B.range (pa_cons (pv 0) pa_nil)) (pg_name (i := 2) sc_counts.nd rfl (Or.inl rfl))
        (pss_one (ps_set (i := 1) sc_counts.nd rfl (Or.inl rfl) (pe_op op_cat (pv 1) (pe_lc (own := [("_law_count", 3)]) (g := gName 3) (tt := tYes) (te := tOp (rI0 fun i j => .int (i + j)) (tVar 3) (tC (.int 1))) (by rfl) sc_counts.nd (pi_list (pv 1)) (blkOk_by (N := ["_law_many", "_law_found", "_law_turn", "_law_count"]) (sc := defScope s_law_counts) (by decide +kernel))
          (fun _ _ _ _ _ => pg_name (i := 3) sc_counts.nd rfl (Or.inl rfl)) (fun _ _ _ _ _ => pts_nil)
          (fun _ _ _ _ _ => pe_op op_add (pv 3) pe_int))))))
      (pss_one (ps_ret (pv 1)))), ?_⟩
    refine ⟨by show 1 ≤ sizeLine; decide, fun F hF => ?_⟩
    refine ⟨_, rfl, _, rfl, ?_, ?_, ?_⟩
    · have : -(2 ^ 62) ≤ ((n : Nat) : Int) := by omega
      exact this
    · have : ((n : Nat) : Int) < 2 ^ 62 := by omega
      exact this
    have en : (((n : Nat) : Int)).toNat = n := by omega
    rw [en]
    refine for_it (walk_range (lo := 0) (n := n)) (fun i σ H3 => ∃ (C : Addr) (v2 : Option V), σ = [some (.int (n : Nat)), some (.ref C), v2, none] ∧ Same H H3 ∧ H3 C = some (.lst (vNs (countsL i))))
      ⟨F, none, rfl, same_new hF, upd_same⟩ (fun _ _ _ _ _ => trivial) ?_ ?_
    · rintro t y σ H3 H3' ht ⟨C, v2, rfl, s3, dC⟩ ⟨rfl, hy⟩
      have hcl : (countsL t).length ≤ 1024 := by
        rw [countsL_len]
        exact Nat.pow_le_pow_right (n := 2) (by decide) (by omega : t ≤ 10)
      refine ⟨_, rfl, _, rfl, C, rfl, ⟨_, SqL.of dC⟩, fun G hG => ?_⟩
      refine lc_it (walk_list (K := K) (a := C) (xs := vNs (countsL t))) (fun i H2 => Same H3' H2 ∧ H2 G = some (.lst (vNs (((countsL t).take i).map (· + 1))))) ⟨same_new hG, upd_same⟩ (fun i H2 _ q => SqL.of (q.1 _ _ dC)) ?_ ?_
      · rintro i y H5 H5' hi ⟨s5, dG⟩ ⟨rfl, hy⟩
        obtain ⟨c, hc, rfl⟩ := vNs_get hy
        refine ⟨rfl, _, rfl, _, _, rfl, rfl, _, dG, ?_, same_at s5 hG, ?_⟩
        · rw [vNs_len, List.length_map, List.length_take]
          exact size_ok (by omega)
        · rw [take_succ_map _ hc, vNs_append]
          exact upd_same
      · rintro H5 ⟨s5, dG⟩
        rw [vNs_len, List.take_of_length_le (Nat.le_refl _)] at dG
        refine ⟨C, G, _, _, rfl, rfl, s5 _ _ dC, dG, ?_, fun q hq => ?_⟩
        · rw [vNs_len, vNs_len, List.length_map]
          have : 4096 ≤ sizeLine := by decide
          omega
        · refine ⟨q, _, rfl, (s3.trans s5).trans (same_new hq), ?_⟩
          rw [countsL, vNs_append]
          exact upd_same
    · rintro σ H3 ⟨C, v2, rfl, s3, dC⟩
      exact ⟨_, rfl, k H3 C s3 dC⟩
theorem sc_masks : FnScope ["_law_reads", "_law_lot", "_law_other"] ["_law_reads"] (defScope s_law_masks_of) := ⟨rfl, rfl, rfl, by decide +kernel, rfl, by decide +kernel, by decide +kernel⟩
theorem ok_masks (B : Bts mg) (D : DefAt K mg "_law_masks_of" s_law_masks_of ["_law_reads"]) :
    FnOk P w K mg base CX0 1 D.f D.fd ["_law_reads"] spMasks := by
  refine D.F.ok sc_masks (fun vs H Q E h => ?_) (fun cdv A outer s H vs Q E hr h => ?_)
  · obtain ⟨T, rs, rfl, _⟩ := h
    rfl
  · obtain ⟨T, rs, rfl, hR, g, k⟩ := h
    refine ⟨_, pss_one (ps_ret (pe_lc (own := [("_law_lot", 1)]) (g := gName 1) (tt := tYes) (te := tCB (rSum K) (tCons (tLc (iTup K (tVar 1)) (gName 2) tYes (tOp (rI CPow fun i j => .int (i * 2 ^ j.toNat)) (tC (.int 1)) (tVar 2)) [2]) tNil)) (by rfl) sc_masks.nd (pi_tup (pv 0)) (blkOk_by (N := ["_law_reads", "_law_lot", "_law_other"]) (sc := defScope s_law_masks_of) (by decide +kernel))
          (fun _ _ _ _ _ => pg_name (i := 1) sc_masks.nd rfl (Or.inl rfl)) (fun _ _ _ _ _ => pts_nil)
          (fun _ _ _ _ _ => pe_callB (cr_sum rfl) (by rfl) B.sum boot_sum (pa_cons
             (pe_lc (own := [("_law_other", 2)]) (g := gName 2) (tt := tYes) (te := tOp (rI CPow fun i j => .int (i * 2 ^ j.toNat)) (tC (.int 1)) (tVar 2)) (by rfl) sc_masks.nd (pi_tup (pv 1)) (blkOk_by (by rfl))
              (fun _ _ _ _ _ => pg_name (i := 2) sc_masks.nd rfl (Or.inl rfl)) (fun _ _ _ _ _ => pts_nil)
              (fun _ _ _ _ _ => pe_op op_shl pe_int (pv 2))) pa_nil)))), ?_⟩
    obtain ⟨as, hT, hal, hat⟩ := hR.ex
    have hlen : (as.map V.ref).length = rs.length := by rw [List.length_map, hal]
    refine ⟨_, rfl, T, rfl, ⟨_, SqT.of hT⟩, fun M hM => ?_⟩
    have g2 := g.le
    refine lc_it (walk_tup (K := K) (a := T) (xs := as.map V.ref)) (fun i H2 => Same H H2 ∧ H2 M = some (.lst (vNs ((rs.take i).map mask)))) ⟨same_new hM, upd_same⟩ (fun i H2 _ q => SqT.of (q.1 _ _ hT)) ?_ ?_
    · rintro i y H2 H2' hi ⟨s2, dM⟩ ⟨rfl, hy⟩
      rw [List.getElem?_map] at hy
      obtain ⟨c, hc, rfl⟩ := Option.map_eq_some_iff.mp hy
      have hir : i < rs.length := by rw [← hlen]; exact hi
      have hrs := at_lot hir
      have hL := hat i c _ hc hrs
      have hls := lot_small g i
      refine ⟨rfl, _, rfl, c, rfl, ⟨_, SqT.of (s2 _ _ hL)⟩, fun G hG => ?_⟩
      refine lc_it (walk_tup (K := K) (a := c) (xs := vNs (lot rs i))) (fun i' H3 => Same H2' H3 ∧ H3 G = some (.lst (vNs (((lot rs i).take i').map (2 ^ ·))))) ⟨same_new hG, upd_same⟩ (fun i H3 _ q => SqT.of ((s2.trans q.1) _ _ hL)) ?_ ?_
      · rintro i' y H3 H3' hi' ⟨s3, dG⟩ ⟨rfl, hy⟩
        obtain ⟨o, ho, rfl⟩ := vNs_get hy
        have hol : o < 10 := by
          have := (g.asc i _ hrs).2 o (List.mem_of_getElem? ho)
          omega
        refine ⟨rfl, _, rfl, _, _, rfl, rfl, ⟨by omega, by omega, by decide⟩, _, dG, ?_, same_at s3 hG, ?_⟩
        · rw [vNs_len, List.length_map, List.length_take]
          exact size_ok (by omega)
        · have e : (1 : Int) * 2 ^ ((o : Nat) : Int).toNat = ((2 ^ o : Nat) : Int) := by
            rw [Int.one_mul, Int.toNat_natCast]
            exact (Int.natCast_pow 2 o).symm
          rw [take_succ_map _ ho, vNs_append]
          show upd _ _ (.lst (_ ++ [V.int (1 * 2 ^ ((o : Nat) : Int).toNat)])) G = _
          rw [e]
          exact upd_same
      · rintro H3 ⟨s3, dG⟩
        rw [vNs_len, List.take_of_length_le (Nat.le_refl _)] at dG
        refine ⟨G, numI ((lot rs i).map (2 ^ ·)), rfl, SqL.of dG, _, s3 _ _ dM, ?_, same_at (s2.trans s3) hM, ?_⟩
        · rw [vNs_len, List.length_map, List.length_take]
          exact size_ok (by omega)
        · have e : (numI ((lot rs i).map (2 ^ ·))).sum = ((mask (lot rs i) : Nat) : Int) := by
            have gen : ∀ l : List Nat, (numI l).sum = ((l.sum : Nat) : Int) := fun l => by
              induction l with
              | nil => rfl
              | cons x l ih =>
                show (x : Int) + (numI l).sum = _
                rw [ih, List.sum_cons]
                omega
            exact gen _
          rw [take_succ_map _ hrs, vNs_append, e]
          exact upd_same
    · rintro H2 ⟨s2, dM⟩
      rw [hlen, List.take_of_length_le (Nat.le_refl _)] at dM
      exact k H2 M s2 dM
end
end TX
set_option Elab.async false
set_option linter.all false
set_option maxRecDepth 100000
set_option maxHeartbeats 8000000
/-! LV: the law's moves. -/
namespace TX
open PySem PySem.Spec PyProof.Rows L2 RX WB
/-- a move and what is held behind it -/
def PrAt (rs : List (List Nat)) (l : List Nat) (H : Hp) (q : Addr) (m : Mv) : Prop := ∃ (a : Addr) (l' : List Nat), H q = some (.tup [.ref a, .int ((mask l' : Nat) : Int)]) ∧ MvAt H a m ∧ after rs l m = some l'
theorem PrAt.keep {rs : List (List Nat)} {l : List Nat} {H H' : Hp} {q : Addr} {m : Mv} (h : PrAt rs l H q m) (s : TK H H') : PrAt rs l H' q m := by
  obtain ⟨a, l', h1, h2, h3⟩ := h
  exact ⟨a, l', s _ _ h1, h2.keep s, h3⟩
inductive PrsAt (rs : List (List Nat)) (l : List Nat) (H : Hp) : List Addr → List Mv → Prop
  | nil : PrsAt rs l H [] []
  | cons {a : Addr} {v : Mv} {as : List Addr} {vs : List Mv} : PrAt rs l H a v → PrsAt rs l H as vs → PrsAt rs l H (a :: as) (v :: vs)
section
variable {rs : List (List Nat)} {l : List Nat}
theorem PrsAt.keep {H H' : Hp} {as : List Addr} {vs : List Mv} (h : PrsAt rs l H as vs) (s : TK H H') : PrsAt rs l H' as vs := by
  induction h with
  | nil => exact .nil
  | cons a _ ih => exact .cons (a.keep s) ih
theorem PrsAt.length {H : Hp} {as : List Addr} {vs : List Mv} (h : PrsAt rs l H as vs) : as.length = vs.length := by
  induction h with
  | nil => rfl
  | cons _ _ ih => rw [List.length_cons, List.length_cons, ih]
theorem PrsAt.append {H : Hp} {as bs : List Addr} {vs ws : List Mv} (h : PrsAt rs l H as vs) (h' : PrsAt rs l H bs ws) : PrsAt rs l H (as ++ bs) (vs ++ ws) := by
  induction h with
  | nil => exact h'
  | cons a _ ih => exact .cons a ih
theorem PrsAt.snoc {H : Hp} {as : List Addr} {vs : List Mv} {a : Addr} {v : Mv} (h : PrsAt rs l H as vs) (h' : PrAt rs l H a v) : PrsAt rs l H (as ++ [a]) (vs ++ [v]) := h.append (.cons h' .nil)
theorem PrsAt.get {H : Hp} {as : List Addr} {vs : List Mv} (h : PrsAt rs l H as vs) : ∀ {i : Nat} {a : Addr}, as[i]? = some a → ∃ v, vs[i]? = some v ∧ PrAt rs l H a v := by
  induction h with
  | nil => intro i a e; simp at e
  | cons q _ ih =>
    intro i a e
    cases i with
    | zero =>
      simp at e
      subst e
      exact ⟨_, rfl, q⟩
    | succ i =>
      simp at e
      obtain ⟨v, h1, h2⟩ := ih e
      exact ⟨v, by simpa using h1, h2⟩
end
/-- the law's moves of one thing -/
def wF (rs : List (List Nat)) (l : List Nat) (apart : Bool) (t : Nat) : List Mv :=
  if l.contains t then [.clear t] else if (lot rs t).all (fun o => l.contains o) then .fill t :: (if apart then [] else (lot rs t).map (.slide t)) else []
theorem movesW_eq (rs : List (List Nat)) (l : List Nat) (apart : Bool) : movesW rs l apart = (List.range rs.length).flatMap (wF rs l apart) := rfl
theorem wF_len {rs : List (List Nat)} (g : WB.Good rs) (l : List Nat) (apart : Bool) (t : Nat) : (wF rs l apart t).length ≤ 11 := by
  have h := lot_small g t
  unfold wF
  split
  · simp
  · split
    · cases apart with
      | true => simp
      | false => simp; omega
    · simp
theorem wFs_len {rs : List (List Nat)} (g : WB.Good rs) (l : List Nat) (apart : Bool) (i : Nat) : ((List.range i).flatMap (wF rs l apart)).length ≤ 11 * i := by
  induction i with
  | zero => simp
  | succ i ih =>
    have := wF_len g l apart i
    rw [List.range_succ, List.flatMap_append, List.length_append]
    simp only [List.flatMap_cons, List.flatMap_nil, List.append_nil]
    omega
theorem bitAnd_nat (a b : Nat) : Builtin.bitAnd (a : Int) (b : Int) = ((a &&& b : Nat) : Int) := by
  rw [bitAnd_pp (by omega) (by omega), Int.toNat_natCast, Int.toNat_natCast]
theorem shl_one (t : Nat) : (1 : Int) * 2 ^ ((t : Nat) : Int).toNat = ((2 ^ t : Nat) : Int) := by
  rw [Int.one_mul, Int.toNat_natCast]
  exact (Int.natCast_pow 2 t).symm
theorem sub_all {rs : List (List Nat)} {l : List Nat} (g : WB.Good rs) (h : Asc l) (t : Nat) : (mask l &&& mask (lot rs t) = mask (lot rs t)) ↔ ((lot rs t).all (fun o => l.contains o)) = true := by
  rw [mask_sub h (g.lot_asc t), List.all_eq_true]
  constructor
  · intro z x hx
    simpa using z x hx
  · intro z x hx
    simpa using z x hx
theorem pair_in {rs : List (List Nat)} {l l' : List Nat} {H H2 : Hp} {F p q : Addr} {as : List Addr} {vs : List Mv} {mt : List V} {h : Int} (v : Mv) (sH : Same H H2) (hF : H F = none) (dF : H2 F = some (.lst (as.map V.ref))) (m : PrsAt rs l H2 as vs)
    (hp : H2 p = none) (hq : upd H2 p (.tup mt) q = none) (hm : ∀ H', H' p = some (.tup mt) → MvAt H' p v) (ha : after rs l v = some l') (hh : h = ((mask l' : Nat) : Int)) :
    upd (upd H2 p (.tup mt)) q (.tup [.ref p, .int h]) F = some (.lst (as.map V.ref)) ∧
    Same H (upd (upd (upd H2 p (.tup mt)) q (.tup [.ref p, .int h])) F (.lst (as.map V.ref ++ [.ref q]))) ∧
    upd (upd (upd H2 p (.tup mt)) q (.tup [.ref p, .int h])) F (.lst (as.map V.ref ++ [.ref q])) F = some (.lst ((as ++ [q]).map V.ref)) ∧
    PrsAt rs l (upd (upd (upd H2 p (.tup mt)) q (.tup [.ref p, .int h])) F (.lst (as.map V.ref ++ [.ref q]))) (as ++ [q]) (vs ++ [v]) := by
  subst hh
  have s1 : Same H2 (upd H2 p (.tup mt)) := same_new hp
  have s2 : Same (upd H2 p (.tup mt)) (upd (upd H2 p (.tup mt)) q (.tup [.ref p, .int ((mask l' : Nat) : Int)])) := same_new hq
  have d2 := s2 _ _ (s1 _ _ dF)
  have t3 : TK (upd (upd H2 p (.tup mt)) q (.tup [.ref p, .int ((mask l' : Nat) : Int)])) (upd (upd (upd H2 p (.tup mt)) q (.tup [.ref p, .int ((mask l' : Nat) : Int)])) F (.lst (as.map V.ref ++ [.ref q]))) := TK.lst d2
  refine ⟨d2, same_at ((sH.trans s1).trans s2) hF, by rw [List.map_append]; exact upd_same, ?_⟩
  exact ((m.keep (TK.of (s1.trans s2))).keep t3).snoc ⟨p, l', t3 _ _ upd_same, hm _ (t3 _ _ (s2 _ _ upd_same)), ha⟩
def spMovesW : Sp := fun vs H Q _ => ∃ (T M : Addr) (rs : List (List Nat)) (l : List Nat) (apart : Bool), vs = [.ref T, .ref M, .int ((mask l : Nat) : Int), .bl apart] ∧ ReadsAt H T rs ∧ WB.Good rs ∧ H M = some (.lst (vNs (rs.map mask))) ∧ Valid rs.length l ∧
  ∀ (H' : Hp) (F : Addr) (as : List Addr), Same H H' → H F = none → H' F = some (.lst (as.map V.ref)) → PrsAt rs l H' as (movesW rs l apart) → Q (.ref F) H'
section
variable {P : Program} {w : World} {K : PySem.W.Frag} {mg : Str → Option Value} {base : Heap}
theorem sc_movesW : FnScope ["_law_reads", "_law_masks", "_law_held", "_law_apart", "_law_found", "_law_thing", "_law_bit", "_law_other"] ["_law_reads", "_law_masks", "_law_held", "_law_apart"] (defScope s_law_moves_from) := ⟨rfl, rfl, rfl, by decide +kernel, rfl, by decide +kernel, by decide +kernel⟩
theorem ok_movesW (B : Bts mg) (D : DefAt K mg "_law_moves_from" s_law_moves_from ["_law_reads", "_law_masks", "_law_held", "_law_apart"]) :
    FnOk P w K mg base CX0 1 D.f D.fd ["_law_reads", "_law_masks", "_law_held", "_law_apart"] spMovesW := by
  refine D.F.ok sc_movesW (fun vs H Q E h => ?_) (fun cdv A outer s H vs Q E hr h => ?_)
  · obtain ⟨T, M, rs, l, apart, rfl, _⟩ := h
    rfl
  · obtain ⟨T, M, rs, l, apart, rfl, hR, g, hM, hv, k⟩ := h
    refine ⟨_, pss_cons (ps_set (i := 4) sc_movesW.nd rfl (Or.inl rfl) (pe_lst pa_nil))
      (pss_cons (ps_for PassesOwn.never rfl (pi_range1 rfl B.range (pa_cons (pe_callB call_len_seq (by rfl) B.len PySem.boot_len (pa_cons (pv 0) pa_nil)) pa_nil)) (pg_name (i := 5) sc_movesW.nd rfl (Or.inr rfl))
        (pss_cons (ps_set (i := 6) sc_movesW.nd rfl (Or.inr rfl) (pe_op op_shl pe_int (pv 5)))
        (pss_one (ps_if (pt_cmpR op_ne (pe_op op_and (pv 2) (pv 6)) pe_int (nomark _))
          (pss_one (ps_expr (pe_bm PySem.F.plainAttrs_list PySem.F.slot_list_append PySem.F.type_list_append mt_append (pv 4) (pa_cons (pe_tup (pa_cons (pe_tup (pa_cons pe_str (pa_cons (pv 5) pa_nil))) (pa_cons (pe_op op_sub (pv 2) (pv 6)) pa_nil))) pa_nil))))
          (pss_one (ps_if (pt_cmpR op_eq (pe_op op_and (pv 2) (pe_ix ix_list (pv 1) (pv 5) (fun _ _ => rfl))) (pe_ix ix_list (pv 1) (pv 5) (fun _ _ => rfl)) (nomark _))
            (pss_cons (ps_expr (pe_bm PySem.F.plainAttrs_list PySem.F.slot_list_append PySem.F.type_list_append mt_append (pv 4) (pa_cons (pe_tup (pa_cons (pe_tup (pa_cons pe_str (pa_cons (pv 5) pa_nil))) (pa_cons (pe_op op_add (pv 2) (pv 6)) pa_nil))) pa_nil)))
            (pss_one (ps_if (pt_not (pt_val (pv 3)))
              (pss_one (ps_expr (pe_bm PySem.F.plainAttrs_list PySem.F.slot_list_extend PySem.F.type_list_extend mt_extend (pv 4) (pa_cons
                (pe_lc (own := [("_law_other", 7)]) (g := gName 7) (tt := tYes) (te := tTup (tCons (tTup (tCons (tC (.str "slide")) (tCons (tVar 5) (tCons (tVar 7) tNil)))) (tCons (tOp (rI0 fun i j => .int (i - j)) (tOp (rI0 fun i j => .int (i + j)) (tVar 2) (tVar 6)) (tOp (rI CPow fun i j => .int (i * 2 ^ j.toNat)) (tC (.int 1)) (tVar 7))) tNil))) (by rfl) sc_movesW.nd (pi_tup (pe_ix ix_tup (pv 0) (pv 5) (fun _ _ => rfl))) (blkOk_by (N := ["_law_reads", "_law_masks", "_law_held", "_law_apart", "_law_found", "_law_thing", "_law_bit", "_law_other"]) (sc := defScope s_law_moves_from) (by decide +kernel))
                  (fun _ _ _ _ _ => pg_name (i := 7) sc_movesW.nd rfl (Or.inl rfl)) (fun _ _ _ _ _ => pts_nil) (fun _ _ _ _ _ => pe_tup (pa_cons (pe_tup (pa_cons pe_str (pa_cons (pv 5) (pa_cons (pv 7) pa_nil)))) (pa_cons (pe_op op_sub (pe_op op_add (pv 2) (pv 6)) (pe_op op_shl pe_int (pv 7))) pa_nil)))) pa_nil)))) pss_nil)))
            pss_nil))))))
      (pss_one (ps_ret (pv 4)))), ?_⟩
    obtain ⟨ws, hT, hal, hat⟩ := id hR.ex
    have hlen : (ws.map V.ref).length = rs.length := by rw [List.length_map, hal]
    have g2 := g.le
    refine ⟨by show 0 ≤ sizeLine; decide, fun F hF => ?_⟩
    refine ⟨_, rfl, T, _, rfl, .inr (SqT.of (same_new hF _ _ hT)), _, rfl, ?_, ?_, ?_⟩
    · have : -(2 ^ 62) ≤ (((ws.map V.ref).length : Nat) : Int) := by rw [hlen]; omega
      exact this
    · have : (((ws.map V.ref).length : Nat) : Int) < 2 ^ 62 := by rw [hlen]; omega
      exact this
    have en : ((((ws.map V.ref).length : Nat) : Int)).toNat = rs.length := by rw [hlen]; omega
    rw [en]
    refine for_it (walk_range (lo := 0) (n := rs.length)) (fun i σ H1 => ∃ v5 v6 : Option V, σ = [some (.ref T), some (.ref M), some (.int ((mask l : Nat) : Int)), some (.bl apart), some (.ref F), v5, v6, none] ∧ Same H H1 ∧
      ∃ as : List Addr, H1 F = some (.lst (as.map V.ref)) ∧ PrsAt rs l H1 as ((List.range i).flatMap (wF rs l apart))) ⟨none, none, rfl, same_new hF, [], upd_same, .nil⟩ (fun _ _ _ _ _ => trivial) ?_ ?_
    · rintro t y σ H1 H1' ht ⟨v5, v6, rfl, s2, as, d2, m2⟩ ⟨rfl, hy⟩
      have ey : y = .int (t : Nat) := hy.trans (congrArg V.int (Int.zero_add _))
      subst ey
      have hpre : as.length ≤ 11 * t := by
        have h1 := m2.length
        have h2 := wFs_len g l apart t
        omega
      have step : (List.range (t + 1)).flatMap (wF rs l apart) = (List.range t).flatMap (wF rs l apart) ++ wF rs l apart t := by
        rw [List.range_succ, List.flatMap_append]
        simp
      refine ⟨_, rfl, _, _, rfl, rfl, ⟨by omega, by omega, by decide⟩, ?_⟩
      refine ⟨_, rfl, _, rfl, _, _, rfl, rfl, rfl, _, rfl, ?_⟩
      have e1 : Builtin.bitAnd ((mask l : Nat) : Int) (1 * 2 ^ ((t : Nat) : Int).toNat) = ((mask l &&& 2 ^ t : Nat) : Int) := by rw [shl_one, bitAnd_nat]
      have hone := mask_one hv.1 t
      refine ite2 (fun c => ?_) (fun c => ?_)
      · have hc : t ∈ l := by
          refine hone.mp fun z => ?_
          have c' : (!decide (V.int (Builtin.bitAnd ((mask l : Nat) : Int) (1 * 2 ^ ((t : Nat) : Int).toNat)) = V.int 0)) = true := c
          rw [e1, z] at c'
          exact absurd c' (by decide)
        have hc' : l.contains t = true := by simpa using hc
        have ea : after rs l (.clear t) = some (drop l t) := after_clear.mpr ⟨hc, rfl⟩
        have em := after_mask hv ea
        simp only at em
        have eh : ((mask l : Nat) : Int) - 1 * 2 ^ ((t : Nat) : Int).toNat = ((mask (drop l t) : Nat) : Int) := by rw [shl_one]; omega
        have ew : wF rs l apart t = [.clear t] := by unfold wF; rw [if_pos hc']
        refine ⟨_, rfl, .inl ⟨rfl, _, SqL.of d2⟩, _, rfl, by show 2 ≤ sizeLine; decide, fun p hp => ?_⟩
        refine ⟨_, rfl, _, rfl, _, _, rfl, rfl, by show 2 ≤ sizeLine; decide, fun q hq => ?_⟩
        obtain ⟨r1, r2, r3, r4⟩ := pair_in (mt := [.str "clear", .int ((t : Nat) : Int)]) (.clear t) s2 hF d2 m2 hp hq (fun H' e => e) ea eh
        refine ⟨F, _, _, rfl, rfl, r1, by rw [List.length_map]; exact size_ok (by omega), _, _, rfl, r2, as ++ [q], r3, ?_⟩
        rw [step, ew]
        exact r4
      · have hc : t ∉ l := fun z => by
          have c' : ¬ (!decide (V.int (Builtin.bitAnd ((mask l : Nat) : Int) (1 * 2 ^ ((t : Nat) : Int).toNat)) = V.int 0)) = true := c
          rw [e1] at c'
          refine c' ?_
          have h0 := hone.mpr z
          rw [decide_eq_false (fun zz => h0 (by injection zz; omega))]
          rfl
        have hc' : l.contains t = false := by simpa using hc
        have hMt : (vNs (rs.map mask))[t]? = some (.int ((mask (lot rs t) : Nat) : Int)) := by
          rw [vNs_at, List.getElem?_map, at_lot ht]
          rfl
        have dM := s2 _ _ hM
        refine ⟨_, rfl, _, rfl, _, rfl, M, _, _, _, rfl, rfl, SqL.of dM, atI_nat hMt, _, _, rfl, rfl, _, rfl, _, rfl, M, _, _, _, rfl, rfl, SqL.of dM, atI_nat hMt, rfl, _, rfl, ?_⟩
        have e2 : Builtin.bitAnd ((mask l : Nat) : Int) ((mask (lot rs t) : Nat) : Int) = ((mask l &&& mask (lot rs t) : Nat) : Int) := bitAnd_nat _ _
        have hsub := sub_all g hv.1 t
        refine ite2 (fun d => ?_) (fun d => ?_)
        · have ha : ((lot rs t).all (fun o => l.contains o)) = true := by
            have d' := of_decide_eq_true d
            have d2' : V.int (Builtin.bitAnd ((mask l : Nat) : Int) ((mask (lot rs t) : Nat) : Int)) = V.int ((mask (lot rs t) : Nat) : Int) := d'
            rw [e2] at d2'
            refine hsub.mp ?_
            injection d2'
            omega
          have hm : mayB rs l t = true := by
            unfold mayB
            rw [hc', ha]
            rfl
          have ea : after rs l (.fill t) = some (srt (l ++ [t])) := after_fill.mpr ⟨hm, rfl⟩
          have em := after_mask hv ea
          simp only at em
          have eh : ((mask l : Nat) : Int) + 1 * 2 ^ ((t : Nat) : Int).toNat = ((mask (srt (l ++ [t])) : Nat) : Int) := by rw [shl_one]; omega
          refine ⟨_, rfl, .inl ⟨rfl, _, SqL.of d2⟩, _, rfl, by show 2 ≤ sizeLine; decide, fun p hp => ?_⟩
          refine ⟨_, rfl, _, rfl, _, _, rfl, rfl, by show 2 ≤ sizeLine; decide, fun q hq => ?_⟩
          obtain ⟨r1, r2, r3, r4⟩ := pair_in (mt := [.str "fill", .int ((t : Nat) : Int)]) (.fill t) s2 hF d2 m2 hp hq (fun H' e => e) ea eh
          refine ⟨F, _, _, rfl, rfl, r1, by rw [List.length_map]; exact size_ok (by omega), ?_⟩
          revert r2 r3 r4
          generalize upd (upd (upd H1' p (.tup [.str "fill", .int ((t : Nat) : Int)])) q (.tup [.ref p, .int (((mask l : Nat) : Int) + 1 * 2 ^ ((t : Nat) : Int).toNat)])) F (.lst (as.map V.ref ++ [.ref q])) = H3
          intro r2 r3 r4
          refine ⟨_, rfl, apart, rfl, ?_⟩
          cases apart with
          | true =>
            have ew : wF rs l true t = [.fill t] := by unfold wF; rw [if_neg (by rw [hc']; decide), if_pos ha]; rfl
            refine iteF ⟨_, _, rfl, r2, as ++ [q], r3, ?_⟩
            rw [step, ew]
            exact r4
          | false =>
            have ew : wF rs l false t = [.fill t] ++ (lot rs t).map (.slide t) := by unfold wF; rw [if_neg (by rw [hc']; decide), if_pos ha]; rfl
            refine iteT ?_
            obtain ⟨c, hcw⟩ : ∃ c, ws[t]? = some c := ⟨ws[t]'(by omega), List.getElem?_eq_getElem (by omega)⟩
            have hrs := at_lot ht
            have hL := r2 _ _ (hat t c _ hcw hrs)
            have hls := lot_small g t
            have hcV : (ws.map V.ref)[t]? = some (V.ref c) := by rw [List.getElem?_map, hcw]; rfl
            refine ⟨_, rfl, .inl ⟨rfl, _, SqL.of r3⟩, _, rfl, _, rfl, T, _, _, _, rfl, rfl, SqT.of (r2 _ _ hT), atI_nat hcV, c, rfl, ⟨_, SqT.of hL⟩, fun G hG => ?_⟩
            refine lc_it (walk_tup (K := K) (a := c) (xs := vNs (lot rs t))) (fun i H4 => Same H3 H4 ∧ ∃ bs : List Addr, H4 G = some (.lst (bs.map V.ref)) ∧ PrsAt rs l H4 bs (((lot rs t).take i).map (Mv.slide t))) ⟨same_new hG, [], upd_same, .nil⟩ (fun i H4 _ p => SqT.of (p.1 _ _ hL)) ?_ ?_
            · rintro i y H4 H4' hi ⟨s6, bs, d6, m6⟩ ⟨rfl, hy⟩
              obtain ⟨o, ho, rfl⟩ := vNs_get hy
              have hol : o < 10 := by
                have := (g.asc t _ hrs).2 o (List.mem_of_getElem? ho)
                omega
              have eo : after rs l (.slide t o) = some (srt (drop l o ++ [t])) := after_slide.mpr ⟨hm, List.mem_of_getElem? ho, rfl⟩
              have eom := after_mask hv eo
              simp only at eom
              have ehs : ((mask l : Nat) : Int) + 1 * 2 ^ ((t : Nat) : Int).toNat - 1 * 2 ^ ((o : Nat) : Int).toNat = ((mask (srt (drop l o ++ [t])) : Nat) : Int) := by rw [shl_one, shl_one]; omega
              refine ⟨rfl, _, rfl, _, rfl, by show 3 ≤ sizeLine; decide, fun p5 hp5 => ?_⟩
              refine ⟨_, rfl, _, rfl, _, _, rfl, rfl, _, rfl, _, _, rfl, rfl, ⟨by omega, by omega, by decide⟩, _, _, rfl, rfl, by show 2 ≤ sizeLine; decide, fun q5 hq5 => ?_⟩
              have m6l := m6.length
              rw [List.length_map, List.length_take] at m6l
              obtain ⟨u1, u2, u3, u4⟩ := pair_in (mt := [.str "slide", .int ((t : Nat) : Int), .int ((o : Nat) : Int)]) (.slide t o) s6 hG d6 m6 hp5 hq5 (fun H' e => e) eo ehs
              refine ⟨_, u1, by rw [List.length_map]; exact size_ok (by omega), u2, bs ++ [q5], u3, ?_⟩
              rw [take_succ_map _ ho]
              exact u4
            · rintro H4 ⟨s6, bs, d6, m6⟩
              rw [vNs_len, List.take_of_length_le (Nat.le_refl _)] at m6
              have hbl := m6.length
              rw [List.length_map] at hbl
              have hasl : (as ++ [q]).length = as.length + 1 := by rw [List.length_append, List.length_singleton]
              refine ⟨F, G, _, _, rfl, rfl, s6 _ _ r3, d6, ?_, ?_⟩
              · rw [List.length_map, List.length_map]
                exact Nat.le_of_lt (size_ok (by omega))
              · refine ⟨_, _, rfl, same_at (r2.trans s6) hF, (as ++ [q]) ++ bs, by simp only [List.map_append]; exact upd_same, ?_⟩
                rw [step, ew, ← List.append_assoc]
                exact ((r4.keep (TK.of s6)).append m6).keep (TK.lst (s6 _ _ r3))
        · have ha : ((lot rs t).all (fun o => l.contains o)) = false := by
            cases hx : (lot rs t).all (fun o => l.contains o) with
            | false => rfl
            | true =>
              have := hsub.mpr hx
              exact absurd (show decide (V.int (Builtin.bitAnd ((mask l : Nat) : Int) ((mask (lot rs t) : Nat) : Int)) = V.int ((mask (lot rs t) : Nat) : Int)) = true from by rw [e2, this]; exact decide_eq_true rfl) d
          have ew : wF rs l apart t = [] := by unfold wF; rw [if_neg (by rw [hc']; decide), if_neg (by rw [ha]; decide)]
          refine ⟨_, _, rfl, s2, as, d2, ?_⟩
          rw [step, ew, List.append_nil]
          exact m2
    · rintro σ H1 ⟨v5, v6, rfl, s2, as, d2, m2⟩
      exact ⟨_, rfl, k H1 F as s2 hF d2 m2⟩
end
end TX
set_option Elab.async false
set_option linter.all false
set_option maxRecDepth 100000
set_option maxHeartbeats 8000000
/-! LF: the law's search: what it knows. -/
namespace TX
open PySem PySem.Spec PyProof.Rows L2 RX WB
def mk2 (l : List Nat) : Key := Sum.inl ((mask l : Nat) : Int)
theorem mk2_inj {l l' : List Nat} (a : Asc l) (b : Asc l') (h : mk2 l = mk2 l') : l = l' := mask_inj a b (by
  have := Sum.inl.inj h
  omega)
theorem mk2_v (l : List Nat) : kV (mk2 l) = .int ((mask l : Nat) : Int) := rfl
def TrAt (H : Hp) (tr : List Mv) (v : V) : Prop := ∃ (q : Addr) (bs : List Addr), v = .ref q ∧ H q = some (.tup (bs.map V.ref)) ∧ MvsAt H bs tr
theorem TrAt.keep {H H' : Hp} {tr : List Mv} {v : V} (h : TrAt H tr v) (s : TK H H') : TrAt H' tr v := by
  obtain ⟨q, bs, h1, h2, h3⟩ := h
  exact ⟨q, bs, h1, s _ _ h2, h3.keep s⟩
structure KnOk (H : Hp) (kvs : List (Key × V)) (ws : List WEnt) : Prop where
  keys : kvs.map (·.1) = ws.map fun e => mk2 e.key
  nd : (ws.map Ent.key).Nodup
  asc : ∀ e ∈ ws, Asc e.key
  vals : ∀ (i : Nat) (e : WEnt) (kv : Key × V), ws[i]? = some e → kvs[i]? = some kv → TrAt H e.tr kv.2
theorem KnOk.keep {H H' : Hp} {kvs : List (Key × V)} {ws : List WEnt} (h : KnOk H kvs ws) (s : TK H H') : KnOk H' kvs ws :=
  ⟨h.keys, h.nd, h.asc, fun i e kv h1 h2 => (h.vals i e kv h1 h2).keep s⟩
theorem KnOk.len {H : Hp} {kvs : List (Key × V)} {ws : List WEnt} (h : KnOk H kvs ws) : kvs.length = ws.length := by
  have := congrArg List.length h.keys
  simpa using this
theorem valV_at2 {kvs : List (Key × V)} (nd : (kvs.map (·.1)).Nodup) {i : Nat} {kv : Key × V} (h : kvs[i]? = some kv) : valV kvs kv.1 = some kv.2 := by
  induction kvs generalizing i with
  | nil => simp at h
  | cons p r ih =>
    rw [List.map_cons, List.nodup_cons] at nd
    cases i with
    | zero =>
      simp at h
      subst h
      exact valV_pos rfl
    | succ i =>
      simp at h
      have hm : kv.1 ∈ r.map (·.1) := List.mem_map.mpr ⟨kv, List.mem_of_getElem? h, rfl⟩
      rw [valV_neg (fun z => nd.1 (z ▸ hm))]
      exact ih nd.2 h
theorem KnOk.knd {H : Hp} {kvs : List (Key × V)} {ws : List WEnt} (h : KnOk H kvs ws) : (kvs.map (·.1)).Nodup := by
  rw [h.keys, List.nodup_iff_pairwise_ne, List.pairwise_map]
  have := List.nodup_iff_pairwise_ne.mp h.nd
  rw [List.pairwise_map] at this
  exact List.Pairwise.imp_of_mem (fun {a b} ha hb q z => q (mk2_inj (h.asc a ha) (h.asc b hb) z)) this
theorem KnOk.get {H : Hp} {kvs : List (Key × V)} {ws : List WEnt} (h : KnOk H kvs ws) {e : WEnt} (he : e ∈ ws) : ∃ v, valV kvs (mk2 e.key) = some v ∧ TrAt H e.tr v := by
  obtain ⟨i, hi, ei⟩ := List.mem_iff_getElem.mp he
  have hw : ws[i]? = some e := by rw [List.getElem?_eq_getElem hi, ei]
  have hk : i < kvs.length := by rw [h.len]; exact hi
  have hkv : kvs[i]? = some kvs[i] := List.getElem?_eq_getElem hk
  have e1 : (kvs.map (·.1))[i]? = (ws.map fun e => mk2 e.key)[i]? := by rw [h.keys]
  rw [List.getElem?_map, List.getElem?_map, hw, hkv] at e1
  have e2 : kvs[i].1 = mk2 e.key := Option.some.inj e1
  refine ⟨kvs[i].2, ?_, h.vals i e _ hw hkv⟩
  rw [← e2]
  exact valV_at2 h.knd hkv
theorem KnOk.isSome {H : Hp} {kvs : List (Key × V)} {ws : List WEnt} (h : KnOk H kvs ws) {l : List Nat} (hl : Asc l) : (valV kvs (mk2 l)).isSome = true ↔ l ∈ ws.map Ent.key := by
  constructor
  · intro q
    obtain ⟨v, hv⟩ := Option.isSome_iff_exists.mp q
    have := valV_in hv
    rw [h.keys] at this
    obtain ⟨e, he, z⟩ := List.mem_map.mp this
    exact List.mem_map.mpr ⟨e, he, mk2_inj (h.asc e he) hl z⟩
  · intro q
    obtain ⟨e, he, rfl⟩ := List.mem_map.mp q
    obtain ⟨v, hv, _⟩ := h.get he
    rw [hv]
    rfl
theorem KnOk.add {H : Hp} {kvs : List (Key × V)} {ws : List WEnt} (h : KnOk H kvs ws) {l : List Nat} {tr : List Mv} {v : V} (hl : Asc l) (hn : l ∉ ws.map Ent.key) (hv : TrAt H tr v) : putK kvs (mk2 l) v = kvs ++ [(mk2 l, v)] ∧ KnOk H (kvs ++ [(mk2 l, v)]) (ws ++ [⟨l, tr⟩]) := by
  have h0 : valV kvs (mk2 l) = none := by
    cases e : valV kvs (mk2 l) with
    | none => rfl
    | some x => exact absurd ((h.isSome hl).mp (by rw [e]; rfl)) hn
  refine ⟨putK_new v h0, ⟨?_, ?_, fun e he => ?_, fun i e kv h1 h2 => ?_⟩⟩
  · rw [List.map_append, List.map_append, h.keys]
    rfl
  · rw [List.map_append, List.nodup_append]
    refine ⟨h.nd, by simp, fun a ha b hb => ?_⟩
    have : b = l := by simpa using hb
    subst this
    exact fun z => hn (z ▸ ha)
  · rcases List.mem_append.mp he with z | z
    · exact h.asc e z
    · rw [List.mem_singleton.mp z]
      exact hl
  · rcases Nat.lt_or_ge i ws.length with q | q
    · rw [List.getElem?_append_left q] at h1
      rw [List.getElem?_append_left (by rw [h.len]; exact q)] at h2
      exact h.vals i e kv h1 h2
    · rw [List.getElem?_append_right q] at h1
      rw [List.getElem?_append_right (by rw [h.len]; exact q), h.len] at h2
      cases hi : i - ws.length with
      | zero =>
        rw [hi] at h1 h2
        simp at h1 h2
        subst h1 h2
        exact hv
      | succ j =>
        rw [hi] at h1
        simp at h1
/-- the search from a lot: all that was met is right, and not too much -/
theorem bin2_valid {rs : List (List Nat)} {rooms : Nat} {apart : Bool} {l0 : List Nat} {ws : List WEnt} {k : Nat} (v0 : Valid rs.length l0) (f0 : l0.length ≤ rooms) (b : BInv (Step rs rooms apart) l0 (Goal rs) ws k) : ∀ e ∈ ws, Valid rs.length e.key ∧ e.key.length ≤ rooms := fun e he =>
  ⟨path_valid (b.path e he) v0, path_few (b.path e he) f0⟩
theorem bin2_len {rs : List (List Nat)} (g : WB.Good rs) {rooms : Nat} {apart : Bool} {l0 : List Nat} {ws : List WEnt} {k : Nat} (v0 : Valid rs.length l0) (b : BInv (Step rs rooms apart) l0 (Goal rs) ws k) : ws.length ≤ 1024 := by
  have h1 := many_le (n := rs.length) b.nd fun l hl => by
    obtain ⟨e, he, rfl⟩ := List.mem_map.mp hl
    exact path_valid (b.path e he) v0
  rw [List.length_map] at h1
  have h2 : 2 ^ rs.length ≤ 2 ^ 10 := Nat.pow_le_pow_right (by decide) g.le
  exact Nat.le_trans h1 h2
/-- what is not gone through yet, as numbers -/
def rest (ws : List WEnt) (k : Nat) : List Nat := (ws.drop k).map fun e => mask e.key
theorem rest_len (ws : List WEnt) (k : Nat) : (rest ws k).length = ws.length - k := by unfold rest; rw [List.length_map, List.length_drop]
theorem rest_at {ws : List WEnt} {k j m : Nat} (h : (rest ws k)[j]? = some m) : ∃ c, ws[k + j]? = some c ∧ m = mask c.key := by
  unfold rest at h
  rw [List.getElem?_map, List.getElem?_drop] at h
  obtain ⟨c, hc, e⟩ := Option.map_eq_some_iff.mp h
  exact ⟨c, hc, e.symm⟩
theorem rest_snoc {ws : List WEnt} {k : Nat} (h : k ≤ ws.length) (e : WEnt) : rest (ws ++ [e]) k = rest ws k ++ [mask e.key] := by
  unfold rest
  rw [List.drop_append_of_le_length h, List.map_append]
  rfl
def spFewest : Sp := fun vs H Q _ => ∃ (T : Addr) (rs : List (List Nat)) (rooms : Nat) (apart : Bool) (l0 : List Nat), vs = [.ref T, .int (rooms : Nat), .bl apart, .int ((mask l0 : Nat) : Int)] ∧ ReadsAt H T rs ∧ WB.Good rs ∧ Valid rs.length l0 ∧ l0.length ≤ rooms ∧
  (∀ H', Same H H' → (∀ ms l, Path (Step rs rooms apart) l0 ms l → ¬ Goal rs l) → Q .non H') ∧
  ∀ (H' : Hp) (M : Addr) (bs : List Addr) (ms : List Mv) (l : List Nat), Same H H' → H' M = some (.tup (bs.map V.ref)) → MvsAt H' bs ms → Path (Step rs rooms apart) l0 ms l → Goal rs l →
    (∀ ms' l', Path (Step rs rooms apart) l0 ms' l' → Goal rs l' → ms.length ≤ ms'.length) → Q (.ref M) H'
end TX
set_option Elab.async false
set_option linter.all false
set_option maxRecDepth 100000
set_option maxHeartbeats 8000000
/-! LG: the law's search. -/
namespace TX
open PySem PySem.Spec PyProof.Rows L2 RX WB
theorem catA_any {K : PySem.W.Frag} {a b : Addr} {xs ys : List V} {H : Hp} {Q : VK} (ha : H a = some (.tup xs)) (hb : H b = some (.tup ys)) (hl : xs.length + ys.length ≤ sizeLine) (hy : ys ≠ []) (k : ∀ (H' : Hp) (p : Addr), Same H H' → H' p = some (.tup (xs ++ ys)) → Q (.ref p) H') :
    rCatA K (.ref a) (.ref b) H Q :=
  ⟨a, b, xs, ys, rfl, rfl, SqT.of ha, SqT.of hb, hl, fun hx => by subst hx; exact k H b (Same.refl H) hb, fun _ z => absurd z hy, fun _ _ p hp => k _ p (same_new hp) upd_same⟩
def FInv (Hb : Hp) (T M C Dk : Addr) (rs : List (List Nat)) (rooms : Nat) (apart : Bool) (l0 : List Nat) (gi : Int) (m : Nat) (σ : L2.St) (H1 : Hp) : Prop :=
  ∃ (k : Nat) (ws : List WEnt) (kvs : List (Key × V)) (Lw : Addr) (v9 v10 v11 v12 : Option V), σ = [some (.ref T), some (.int (rooms : Nat)), some (.bl apart), some (.int ((mask l0 : Nat) : Int)), some (.ref M), some (.ref C), some (.int gi), some (.ref Dk), some (.ref Lw), v9, v10, v11, v12] ∧
    Same Hb H1 ∧ H1 Dk = some (.dK kvs) ∧ KnOk H1 kvs ws ∧ H1 Lw = some (.lst (vNs (rest ws k))) ∧ BInv (Step rs rooms apart) l0 (Goal rs) ws k ∧ TrOk ws ∧ (∃ d, ∀ (i : Nat) (c : WEnt), k ≤ i → ws[i]? = some c → c.tr.length = d) ∧ k ≤ ws.length ∧ m = 1025 - k
section
variable {P : Program} {w : World} {K : PySem.W.Frag} {mg : Str → Option Value} {base : Heap}
theorem sc_fewest : FnScope ["_law_reads", "_law_rooms", "_law_apart", "_law_begun", "_law_masks", "_law_counts_here", "_law_goal", "_law_known", "_law_layer", "_law_held", "_law_later", "_law_move", "_law_behind"] ["_law_reads", "_law_rooms", "_law_apart", "_law_begun"] (defScope s_law_fewest) := ⟨rfl, rfl, rfl, by decide +kernel, rfl, by decide +kernel, by decide +kernel⟩
/-- the law's own defs for the search -/
structure Lws (K : PySem.W.Frag) (mg : Str → Option Value) where
  B : Bts mg
  f1 : DefAt K mg "_law_masks_of" s_law_masks_of ["_law_reads"]
  f2 : DefAt K mg "_law_counts" s_law_counts ["_law_many"]
  f3 : DefAt K mg "_law_moves_from" s_law_moves_from ["_law_reads", "_law_masks", "_law_held", "_law_apart"]
theorem ok_fewest (Z : Lws K mg) (D : DefAt K mg "_law_fewest" s_law_fewest ["_law_reads", "_law_rooms", "_law_apart", "_law_begun"]) :
    FnOk P w K mg base CX0 2 D.f D.fd ["_law_reads", "_law_rooms", "_law_apart", "_law_begun"] spFewest := by
  have B := Z.B
  refine D.F.ok sc_fewest (fun vs H Q E h => ?_) (fun cdv A outer s H vs Q E hr h => ?_)
  · obtain ⟨T, rs, rooms, apart, l0, rfl, _⟩ := h
    rfl
  · obtain ⟨T, rs, rooms, apart, l0, rfl, hR, g, v0, f0, k0, k1⟩ := h
    have hu := hu_of hr
    have G1 : FnOk P w K mg base CX0 1 Z.f1.f Z.f1.fd ["_law_reads"] spMasks := ok_masks B Z.f1
    have G2 : FnOk P w K mg base CX0 1 Z.f2.f Z.f2.fd ["_law_many"] spCounts := ok_counts B Z.f2
    have G3 : FnOk P w K mg base CX0 1 Z.f3.f Z.f3.fd ["_law_reads", "_law_masks", "_law_held", "_law_apart"] spMovesW := ok_movesW B Z.f3
    refine ⟨_, pss_cons (ps_set (i := 4) sc_fewest.nd rfl (Or.inl rfl) (pcl Z.f1 G1 hr (by rfl) (pa_cons (pv 0) pa_nil)))
      (pss_cons (ps_set (i := 5) sc_fewest.nd rfl (Or.inl rfl) (pcl Z.f2 G2 hr (by rfl) (pa_cons (pe_callB call_len_seq (by rfl) B.len PySem.boot_len (pa_cons (pv 0) pa_nil)) pa_nil)))
      (pss_cons (ps_set (i := 6) sc_fewest.nd rfl (Or.inl rfl) (pe_op op_shl pe_int (pe_op op_sub (pe_callB call_len_seq (by rfl) B.len PySem.boot_len (pa_cons (pv 0) pa_nil)) pe_int)))
      (pss_cons (ps_set (i := 7) sc_fewest.nd rfl (Or.inl rfl) (pe_disp (pps_cons (pv 3) (pe_tup pa_nil) pps_nil) rfl rfl (by simp) (by decide)))
      (pss_cons (ps_set (i := 8) sc_fewest.nd rfl (Or.inl rfl) (pe_lst (pa_cons (pv 3) pa_nil)))
      (pss_cons (ps_while PassesOwn.never (pt_cmpR op_gt (pe_callB call_len_seq (by rfl) B.len PySem.boot_len (pa_cons (pv 8) pa_nil)) pe_int (nomark _))
        (C8.pss_cut (ps_for PassesOwn.never rfl (pi_list (pv 8)) (pg_name (i := 9) sc_fewest.nd rfl (Or.inl rfl))
          (pss_one (ps_if (pt_cmpR op_ne (pe_op op_and (pv 9) (pv 6)) pe_int (nomark _)) (pss_one (ps_ret (pe_dget hu (pv 7) (pv 9) (fun _ _ => rfl)))) pss_nil)))
        (pss_cons (ps_set (i := 10) sc_fewest.nd rfl (Or.inl rfl) (pe_lst pa_nil))
        (C8.pss_cut (ps_for PassesOwn.never rfl (pi_list (pv 8)) (pg_name (i := 9) sc_fewest.nd rfl (Or.inl rfl))
          (pss_one (ps_for PassesOwn.never rfl (pi_list (pcl Z.f3 G3 hr (by rfl) (pa_cons (pv 0) (pa_cons (pv 4) (pa_cons (pv 9) (pa_cons (pv 2) pa_nil)))))) (pg_tup rfl (pgs_cons (pg_name (i := 11) sc_fewest.nd rfl (.inl rfl)) (pgs_cons (pg_name (i := 12) sc_fewest.nd rfl (.inl rfl)) pgs_nil)))
            (pss_one (ps_if (PW.pt (pw_and (pt_cmp (pc_dnotin hu (pv 12) (pv 7))) (pw_and1 (pt_cmpR op_le (pe_ix ix_list (pv 5) (pv 12) (fun _ _ => rfl)) (pv 1) (nomark _)))))
              (pss_cons (ps_dput hu (pv 7) (pv 12) (pe_op op_catA (pe_dget hu (pv 7) (pv 9) (fun _ _ => rfl)) (pe_tup (pa_cons (pv 11) pa_nil))) rfl)
              (pss_one (ps_expr (pe_bm PySem.F.plainAttrs_list PySem.F.slot_list_append PySem.F.type_list_append mt_append (pv 10) (pa_cons (pv 12) pa_nil)))))
              pss_nil)))))
        (pss_one (ps_set (i := 8) sc_fewest.nd rfl (Or.inl rfl) (pv 10)))))))
      (pss_one (ps_ret pe_non))))))), ?_⟩
    obtain ⟨as, hT, hal, hat⟩ := id hR.ex
    have hlen : (as.map V.ref).length = rs.length := by rw [List.length_map, hal]
    have gp := g.pos
    have g2 := g.le
    refine ⟨_, rfl, T, rs, rfl, hR, g, fun H1 M s1 dM => ?_⟩
    refine ⟨_, rfl, T, _, rfl, .inr (SqT.of (s1 _ _ hT)), _, rfl, by rw [hlen]; exact g.le, fun H2 C s2 dC => ?_⟩
    rw [hlen] at dC
    have hT2 := s2 _ _ (s1 _ _ hT)
    refine ⟨_, rfl, T, _, rfl, .inr (SqT.of hT2), _, _, rfl, rfl, _, _, rfl, rfl, ⟨by rw [hlen]; omega, by rw [hlen]; omega, by decide⟩, ?_⟩
    have egi : (1 : Int) * 2 ^ ((((as.map V.ref).length : Nat) : Int) - 1).toNat = ((2 ^ (rs.length - 1) : Nat) : Int) := by
      have : (((as.map V.ref).length : Nat) : Int) - 1 = ((rs.length - 1 : Nat) : Int) := by rw [hlen]; omega
      rw [this, shl_one]
    have dM2 := s2 _ _ dM
    have s12 := s1.trans s2
    have hR2 := hR.same s12
    refine fun Dk hDk => ⟨_, rfl, Nat.zero_le _, fun q0 hq0 => ⟨?_, [(mk2 l0, .ref q0)], rfl, by show 1 ≤ 15; decide, ?_⟩⟩
    · rw [upd_ne (ne_of_none upd_same hq0)]
      exact upd_same
    have nDq : Dk ≠ q0 := ne_of_none upd_same hq0
    refine ⟨_, rfl, by show 1 ≤ sizeLine; decide, fun Lw hLw => ?_⟩
    have sA : Same H2 (upd (upd H2 Dk (.dK [])) q0 (.tup [])) := (same_new hDk).trans (same_new hq0)
    have sB : Same H2 (upd (upd (upd (upd H2 Dk (.dK [])) q0 (.tup [])) Dk (.dK (mergeK [] [(mk2 l0, .ref q0)]))) Lw (.lst [.int ((mask l0 : Nat) : Int)])) := (same_at sA hDk).trans (same_new hLw)
    have nDL : Dk ≠ Lw := ne_of_none upd_same hLw
    have nqL : q0 ≠ Lw := ne_of_none (by rw [upd_ne nDq.symm]; exact upd_same) hLw
    refine ⟨FInv H2 T M C Dk rs rooms apart l0 (1 * 2 ^ ((((as.map V.ref).length : Nat) : Int) - 1).toNat), ⟨1025, 0, [⟨l0, []⟩], [(mk2 l0, .ref q0)], Lw, none, none, none, none, rfl, sB, ?_, ⟨rfl, by simp, fun e he => ?_, fun i e kv h1 h2 => ?_⟩, upd_same, .init, fun i e he => ?_, ⟨0, fun i c hi hc => ?_⟩, Nat.zero_le _, rfl⟩, ?_⟩
    · rw [upd_ne nDL]
      exact upd_same
    · rw [List.mem_singleton.mp he]
      exact v0.1
    · cases i with
      | zero =>
        simp at h1 h2
        subst h1 h2
        refine ⟨q0, [], rfl, ?_, .nil⟩
        rw [upd_ne nqL, upd_ne nDq.symm]
        exact upd_same
      | succ i => simp at h1
    · cases i with
      | zero =>
        simp at he
        subst he
        exact Nat.zero_le _
      | succ i => simp at he
    · cases i with
      | zero =>
        simp at hc
        subst hc
        rfl
      | succ i => simp at hc
    clear sB nDL nqL hLw Lw
    rintro m σ H3 ⟨k, ws, kvs, Lw, v9, v10, v11, v12, rfl, s3, dD, ok, dL, b, tro, ⟨d, hd⟩, hk, rfl⟩
    refine ⟨_, rfl, Lw, _, rfl, .inl (SqL.of dL), _, _, rfl, rfl, _, rfl, ?_⟩
    refine ite2 (fun c => ?_) (fun c => ?_)
    · have hkw : k < ws.length := by
        have := of_decide_eq_true c
        rw [vNs_len, rest_len] at this
        omega
      refine ⟨fun σ' H' => ∃ m', m' < 1025 - k ∧ FInv H2 T M C Dk rs rooms apart l0 (1 * 2 ^ ((((as.map V.ref).length : Nat) : Int) - 1).toNat) m' σ' H', fun σ' H' z => z, ?_⟩
      have h1024 := bin2_len g v0 b
      -- for held in layer: the goal
      refine ⟨fun σ H4 => ∃ v9 : Option V, σ = [some (.ref T), some (.int (rooms : Nat)), some (.bl apart), some (.int ((mask l0 : Nat) : Int)), some (.ref M), some (.ref C), some (.int (1 * 2 ^ ((((as.map V.ref).length : Nat) : Int) - 1).toNat)), some (.ref Dk), some (.ref Lw), v9, v10, v11, v12] ∧ H4 = H3 ∧
        ∀ (i : Nat) (c : WEnt), k ≤ i → ws[i]? = some c → ¬ Goal rs c.key, ?_, ?_⟩
      · refine ⟨_, rfl, Lw, rfl, ⟨_, SqL.of dL⟩, ?_⟩
        refine for_it (walk_list (K := K) (a := Lw) (xs := vNs (rest ws k))) (fun j σ H4 => ∃ v9 : Option V, σ = [some (.ref T), some (.int (rooms : Nat)), some (.bl apart), some (.int ((mask l0 : Nat) : Int)), some (.ref M), some (.ref C), some (.int (1 * 2 ^ ((((as.map V.ref).length : Nat) : Int) - 1).toNat)), some (.ref Dk), some (.ref Lw), v9, v10, v11, v12] ∧ H4 = H3 ∧
          ∀ (i : Nat) (c : WEnt), k ≤ i → i < k + j → ws[i]? = some c → ¬ Goal rs c.key) ⟨v9, rfl, rfl, fun i c a b => by omega⟩ (fun j σ H4 _ ⟨_, _, z, _⟩ => by subst z; exact SqL.of dL) ?_ ?_
        · rintro j y σ H4 H4' hj ⟨v9, rfl, rfl, hno⟩ ⟨rfl, hy⟩
          obtain ⟨mm, hmm, rfl⟩ := vNs_get hy
          obtain ⟨e, he, rfl⟩ := rest_at hmm
          have hem : e ∈ ws := List.mem_of_getElem? he
          obtain ⟨ve, fe⟩ := bin2_valid v0 f0 b e hem
          have hone := mask_one ve.1 (rs.length - 1)
          have e1 : Builtin.bitAnd ((mask e.key : Nat) : Int) (1 * 2 ^ ((((as.map V.ref).length : Nat) : Int) - 1).toNat) = ((mask e.key &&& 2 ^ (rs.length - 1) : Nat) : Int) := by rw [egi, bitAnd_nat]
          refine ⟨_, rfl, _, rfl, _, _, rfl, rfl, rfl, _, rfl, ?_⟩
          refine ite2 (fun c => ?_) (fun c => ?_)
          · have hg : Goal rs e.key := by
              refine hone.mp fun z => ?_
              have c' : (!decide (V.int (Builtin.bitAnd ((mask e.key : Nat) : Int) (1 * 2 ^ ((((as.map V.ref).length : Nat) : Int) - 1).toNat)) = V.int 0)) = true := c
              rw [e1, z] at c'
              exact absurd c' (by decide)
            obtain ⟨v, hv, q, bs, rfl, hq, hm⟩ := ok.get hem
            have dg : DGet H4' Dk (kV (mk2 e.key)) (some (.ref q)) := by
              rw [← hv]
              exact DGet.k dD
            refine ⟨_, rfl, _, rfl, Dk, _, rfl, dg, ?_⟩
            refine k1 H4' q bs e.tr e.key (s12.trans s3) hq hm (b.path e hem) hg fun ms' l' p' g' => ?_
            obtain ⟨c0, hc0⟩ : ∃ c, ws[k]? = some c := ⟨ws[k], List.getElem?_eq_getElem hkw⟩
            have h1 := b.found hc0 p' g'
            rw [hd _ _ (Nat.le_refl _) hc0] at h1
            rw [hd _ _ (by omega) he]
            exact h1
          · refine ⟨_, rfl, rfl, fun i c' hi hlt hc' => ?_⟩
            rcases Nat.lt_or_ge i (k + j) with z | z
            · exact hno i c' hi z hc'
            · have : i = k + j := by omega
              subst this
              rw [he] at hc'
              cases hc'
              intro hg
              refine c ?_
              show (!decide (V.int (Builtin.bitAnd ((mask e.key : Nat) : Int) (1 * 2 ^ ((((as.map V.ref).length : Nat) : Int) - 1).toNat)) = V.int 0)) = true
              have h0 := hone.mpr hg
              rw [e1, decide_eq_false (fun zz => h0 (by injection zz; omega))]
              rfl
        · rintro σ H4 ⟨v9, rfl, rfl, hno⟩
          refine ⟨v9, rfl, rfl, fun i c hi hc => hno i c hi ?_ hc⟩
          have := (List.getElem?_eq_some_iff.mp hc).1
          rw [vNs_len, rest_len]
          omega
      rintro σ H4 ⟨v9, rfl, rfl, hng⟩
      refine ⟨Nat.zero_le _, fun N hN => ?_⟩
      have nLN : Lw ≠ N := ne_of_none dL hN
      have nDN : Dk ≠ N := ne_of_none dD hN
      have hN2 : H2 N = none := s3.free hN
      have hr0 : rest ws ws.length = [] := by unfold rest; rw [List.drop_length]; rfl
      refine ⟨fun σ H5 => ∃ (ws2 : List WEnt) (kvs2 : List (Key × V)) (v9 v11 v12 : Option V), σ = [some (.ref T), some (.int (rooms : Nat)), some (.bl apart), some (.int ((mask l0 : Nat) : Int)), some (.ref M), some (.ref C), some (.int (1 * 2 ^ ((((as.map V.ref).length : Nat) : Int) - 1).toNat)), some (.ref Dk), some (.ref Lw), v9, some (.ref N), v11, v12] ∧
        Same H2 H5 ∧ H5 Dk = some (.dK kvs2) ∧ KnOk H5 kvs2 ws2 ∧ H5 N = some (.lst (vNs (rest ws2 ws.length))) ∧ BInv (Step rs rooms apart) l0 (Goal rs) ws2 ws.length ∧ TrOk ws2 ∧ ws.length ≤ ws2.length ∧ (∀ (i : Nat) (c : WEnt), ws.length ≤ i → ws2[i]? = some c → c.tr.length = d + 1), ?_, ?_⟩
      · refine ⟨_, rfl, Lw, rfl, ⟨_, SqL.of (by rw [upd_ne nLN]; exact dL)⟩, ?_⟩
        refine for_it (walk_list (K := K) (a := Lw) (xs := vNs (rest ws k))) (fun j σ H5 => ∃ (ws2 : List WEnt) (kvs2 : List (Key × V)) (v9 v11 v12 : Option V), σ = [some (.ref T), some (.int (rooms : Nat)), some (.bl apart), some (.int ((mask l0 : Nat) : Int)), some (.ref M), some (.ref C), some (.int (1 * 2 ^ ((((as.map V.ref).length : Nat) : Int) - 1).toNat)), some (.ref Dk), some (.ref Lw), v9, some (.ref N), v11, v12] ∧
          Same H2 H5 ∧ H5 Dk = some (.dK kvs2) ∧ KnOk H5 kvs2 ws2 ∧ H5 Lw = some (.lst (vNs (rest ws k))) ∧ H5 N = some (.lst (vNs (rest ws2 ws.length))) ∧ BInv (Step rs rooms apart) l0 (Goal rs) ws2 (k + j) ∧ TrOk ws2 ∧ ws.length ≤ ws2.length ∧ (∀ (i : Nat) (c : WEnt), ws.length ≤ i → ws2[i]? = some c → c.tr.length = d + 1) ∧ ∀ i, i < ws.length → ws2[i]? = ws[i]?)
          ⟨ws, kvs, v9, v11, v12, rfl, s3.trans (same_new hN), by rw [upd_ne nDN]; exact dD, ok.keep (TK.of (same_new hN)), by rw [upd_ne nLN]; exact dL, by rw [hr0]; exact upd_same, b, tro, Nat.le_refl _, fun i c hi hc => absurd (List.getElem?_eq_some_iff.mp hc).1 (by omega), fun _ _ => rfl⟩
          (fun j σ H5 _ ⟨_, _, _, _, _, _, _, _, _, z, _⟩ => SqL.of z) ?_ ?_
        · rintro j y σ H5 H5' hj ⟨ws2, kvs2, v9, v11, v12, rfl, s5, dD5, ok5, dL5, dN5, b5, tro5, hle5, hd5, hsame5⟩ ⟨rfl, hy⟩
          obtain ⟨mm, hmm, rfl⟩ := vNs_get hy
          obtain ⟨e, he, rfl⟩ := rest_at hmm
          have hkj : k + j < ws.length := (List.getElem?_eq_some_iff.mp he).1
          have he5 : ws2[k + j]? = some e := by rw [hsame5 _ hkj]; exact he
          have hem : e ∈ ws := List.mem_of_getElem? he
          obtain ⟨ve, fe⟩ := bin2_valid v0 f0 b e hem
          have hde : e.tr.length = d := hd _ _ (by omega) he
          refine ⟨_, rfl, _, rfl, _, rfl, _, rfl, T, M, rs, e.key, apart, rfl, hR2.same s5, g, s5 _ _ dM2, ve, fun H6 F bs s6 hF dF mF => ⟨F, rfl, ⟨_, SqL.of dF⟩, ?_⟩⟩
          have nFN : F ≠ N := (ne_of_none dN5 hF).symm
          refine for_it (walk_list (K := K) (a := F) (xs := bs.map V.ref)) (fun t σ H7 => ∃ (ws2 : List WEnt) (kvs2 : List (Key × V)) (v11 v12 : Option V), σ = [some (.ref T), some (.int (rooms : Nat)), some (.bl apart), some (.int ((mask l0 : Nat) : Int)), some (.ref M), some (.ref C), some (.int (1 * 2 ^ ((((as.map V.ref).length : Nat) : Int) - 1).toNat)), some (.ref Dk), some (.ref Lw), some (.int ((mask e.key : Nat) : Int)), some (.ref N), v11, v12] ∧
            Same H2 H7 ∧ H7 Dk = some (.dK kvs2) ∧ KnOk H7 kvs2 ws2 ∧ H7 Lw = some (.lst (vNs (rest ws k))) ∧ H7 N = some (.lst (vNs (rest ws2 ws.length))) ∧ BInv (Step rs rooms apart) l0 (Goal rs) ws2 (k + j) ∧ TrOk ws2 ∧ ws.length ≤ ws2.length ∧ (∀ (i : Nat) (c : WEnt), ws.length ≤ i → ws2[i]? = some c → c.tr.length = d + 1) ∧ (∀ i, i < ws.length → ws2[i]? = ws[i]?) ∧
            H7 F = some (.lst (bs.map V.ref)) ∧ PrsAt rs e.key H7 bs (movesW rs e.key apart) ∧ ∀ (i : Nat) (m : Mv) (l' : List Nat), i < t → (movesW rs e.key apart)[i]? = some m → after rs e.key m = some l' → l'.length ≤ rooms → l' ∈ ws2.map Ent.key)
            ⟨ws2, kvs2, v11, v12, rfl, s5.trans s6, s6 _ _ dD5, ok5.keep (TK.of s6), s6 _ _ dL5, s6 _ _ dN5, b5, tro5, hle5, hd5, hsame5, dF, mF, fun i m l' z => absurd z (Nat.not_lt_zero _)⟩
            (fun t σ H7 _ ⟨_, _, _, _, _, _, _, _, _, _, _, _, _, _, _, z, _⟩ => SqL.of z) ?_ ?_
          · clear dF mF dN5 dL5 ok5 dD5 b5 tro5 hle5 hd5 he5 hsame5 v11 v12
            rintro t y σ H7 H7' ht ⟨ws3, kvs3, v11, v12, rfl, s7, dD7, ok7, dL7, dN7, b7, tro7, hle7, hd7, hsame7, dF7, mF7, old⟩ ⟨rfl, hy⟩
            rw [List.getElem?_map] at hy
            obtain ⟨pr, hpr, rfl⟩ := Option.map_eq_some_iff.mp hy
            obtain ⟨mv, hmv, ma, l', hpt, hma, hafter⟩ := mF7.get hpr
            have he7 : ws3[k + j]? = some e := by rw [hsame7 _ hkj]; exact he
            have hem7 : e ∈ ws3 := List.mem_of_getElem? he7
            obtain ⟨mlt, _, map⟩ := (movesW_iff mv).mp (List.mem_of_getElem? hmv)
            have vl' : Valid rs.length l' := after_valid ve mlt hafter
            have hCt : (vNs (countsL rs.length))[mask l']? = some (.int ((l'.length : Nat) : Int)) := by
              rw [vNs_at, countsL_at vl'.1 vl'.2]
              rfl
            have dC7 := s7 _ _ dC
            have cov : ∀ ws4 : List WEnt, (∀ l, l ∈ ws3.map Ent.key → l ∈ ws4.map Ent.key) → (l'.length ≤ rooms → l' ∈ ws4.map Ent.key) → ∀ (i : Nat) (m : Mv) (l'' : List Nat), i < t + 1 → (movesW rs e.key apart)[i]? = some m → after rs e.key m = some l'' → l''.length ≤ rooms → l'' ∈ ws4.map Ent.key := by
              intro ws4 hsub hin i m l'' hi hm ha hfew
              rcases Nat.lt_or_ge i t with z | z
              · exact hsub _ (old i m l'' z hm ha hfew)
              · have : i = t := by omega
                subst this
                have em : m = mv := Option.some.inj (hm.symm.trans hmv)
                subst em
                have : l'' = l' := Option.some.inj (ha.symm.trans hafter)
                subst this
                exact hin hfew
            refine ⟨pr, _, rfl, SqT.of hpt, rfl, _, _, rfl, _, _, rfl, rfl, ?_⟩
            refine ⟨_, rfl, _, rfl, Dk, _, rfl, DGet.k (k := mk2 l') dD7, _, rfl, ?_⟩
            cases eo : (valV kvs3 (mk2 l')).isSome with
            | true =>
              refine iteF ⟨ws3, kvs3, _, _, rfl, s7, dD7, ok7, dL7, dN7, b7, tro7, hle7, hd7, hsame7, dF7, mF7, cov ws3 (fun _ z => z) fun _ => (ok7.isSome vl'.1).mp eo⟩
            | false =>
              have hnew : l' ∉ ws3.map Ent.key := fun z => by rw [(ok7.isSome vl'.1).mpr z] at eo; cases eo
              refine iteT ⟨_, rfl, _, rfl, C, _, _, _, rfl, rfl, SqL.of dC7, atI_nat hCt, _, rfl, _, _, rfl, rfl, _, rfl, ?_⟩
              refine ite2 (fun c => ?_) (fun c => ?_)
              · have hfew : l'.length ≤ rooms := by have := of_decide_eq_true c; omega
                have stp : Step rs rooms apart e.key mv l' := ⟨mlt, hafter, hfew, map⟩
                obtain ⟨v, hv, q, qs, rfl, hq, hmq⟩ := ok7.get hem7
                have dg : DGet H7' Dk (kV (mk2 e.key)) (some (.ref q)) := by
                  rw [← hv]
                  exact DGet.k dD7
                have hql := hmq.length
                have h1024 := bin2_len g v0 b7
                have htr := tro7 _ _ he7
                refine ⟨_, rfl, _, rfl, Dk, _, rfl, dg, _, rfl, by show 1 ≤ sizeLine; decide, fun p5 hp5 => ?_⟩
                have s8 : Same H7' (upd H7' p5 (.tup [.ref ma])) := same_new hp5
                refine catA_any (s8 _ _ hq) upd_same ?_ (by simp) fun H9 q9 s9 d9 => ?_
                · rw [List.length_map]
                  have : 4096 ≤ sizeLine := by decide
                  show qs.length + 1 ≤ sizeLine
                  omega
                have s89 := s8.trans s9
                have dD9 := s89 _ _ dD7
                have dN9 := s89 _ _ dN7
                refine ⟨_, rfl, _, rfl, Dk, _, rfl, DPut.k (k := mk2 l') dD9 ?_, ?_⟩
                · rw [ok7.len]
                  exact size_ok (by omega)
                obtain ⟨eput, ok9⟩ := (ok7.keep (TK.of s89)).add (tr := e.tr ++ [mv]) (v := .ref q9) vl'.1 hnew ⟨q9, qs ++ [ma], rfl, by rw [d9, List.map_append]; rfl, (hmq.keep (TK.of s89)).snoc (hma.keep (TK.of s89))⟩
                rw [eput]
                have dN10 : upd H9 Dk (.dK (kvs3 ++ [(mk2 l', .ref q9)])) N = some (.lst (vNs (rest ws3 ws.length))) := by
                  rw [upd_ne nDN.symm]
                  exact dN9
                refine ⟨_, rfl, .inl ⟨rfl, _, SqL.of dN10⟩, _, rfl, N, _, _, rfl, rfl, dN10, by rw [vNs_len, rest_len]; exact size_ok (by omega), ?_⟩
                have t10 : TK H9 (upd (upd H9 Dk (.dK (kvs3 ++ [(mk2 l', .ref q9)]))) N (.lst (vNs (rest ws3 ws.length) ++ [.int ((mask l' : Nat) : Int)]))) := (TK.dK dD9).trans (TK.lst dN10)
                have keepL : ∀ (q : Addr) (ys : List V), H9 q = some (.lst ys) → q ≠ N → upd (upd H9 Dk (.dK (kvs3 ++ [(mk2 l', .ref q9)]))) N (.lst (vNs (rest ws3 ws.length) ++ [.int ((mask l' : Nat) : Int)])) q = some (.lst ys) := fun q ys hq' n => by
                  rw [upd_ne n, upd_ne (ne_of hq' dD9 (by intro z; cases z))]
                  exact hq'
                refine ⟨ws3 ++ [⟨l', e.tr ++ [mv]⟩], kvs3 ++ [(mk2 l', .ref q9)], _, _, rfl, ?_, ?_, ok9.keep t10, keepL _ _ (s89 _ _ dL7) nLN, ?_, b7.add he7 stp hnew, tro7.add he7 l' mv, ?_, fun i c hi hc => ?_, fun i hi => ?_, keepL _ _ (s89 _ _ dF7) nFN, mF7.keep ((TK.of s89).trans t10), cov _ (fun l z => ?_) fun _ => ?_⟩
                · exact same_at (same_at (s7.trans s89) hDk) hN2
                · rw [upd_ne nDN]
                  exact upd_same
                · rw [rest_snoc hle7, vNs_append]
                  exact upd_same
                · rw [List.length_append, List.length_singleton]
                  omega
                · rcases Nat.lt_or_ge i ws3.length with z | z
                  · rw [List.getElem?_append_left z] at hc
                    exact hd7 i c hi hc
                  · rw [List.getElem?_append_right z] at hc
                    cases hi' : i - ws3.length with
                    | zero =>
                      rw [hi'] at hc
                      simp at hc
                      subst hc
                      show (e.tr ++ [mv]).length = d + 1
                      rw [List.length_append, List.length_singleton, hde]
                    | succ jj =>
                      rw [hi'] at hc
                      simp at hc
                · rw [List.getElem?_append_left (by omega)]
                  exact hsame7 i hi
                · rw [List.map_append]
                  exact List.mem_append_left _ z
                · rw [List.map_append]
                  exact List.mem_append_right _ (by simp)
              · refine ⟨ws3, kvs3, _, _, rfl, s7, dD7, ok7, dL7, dN7, b7, tro7, hle7, hd7, hsame7, dF7, mF7, cov ws3 (fun _ z => z) fun z => ?_⟩
                exact absurd (decide_eq_true (by omega)) c
          · rintro σ H7 ⟨ws3, kvs3, v11, v12, rfl, s7, dD7, ok7, dL7, dN7, b7, tro7, hle7, hd7, hsame7, dF7, mF7, old⟩
            have he7 : ws3[k + j]? = some e := by rw [hsame7 _ hkj]; exact he
            refine ⟨ws3, kvs3, _, _, _, rfl, s7, dD7, ok7, dL7, dN7, b7.next he7 (hng _ _ (by omega) he) fun m l' stp => ?_, tro7, hle7, hd7, hsame7⟩
            have hm := (movesW_iff (apart := apart) m).mpr ⟨stp.lt, ⟨_, stp.eq⟩, stp.ap⟩
            obtain ⟨i, hi, ei⟩ := List.mem_iff_getElem.mp hm
            refine old i m l' ?_ (by rw [List.getElem?_eq_getElem hi, ei]) stp.eq stp.few
            rw [List.length_map, mF7.length]
            exact hi
        · rintro σ H5 ⟨ws2, kvs2, v9, v11, v12, rfl, s5, dD5, ok5, dL5, dN5, b5, tro5, hle5, hd5, hsame5⟩
          rw [vNs_len, rest_len, show k + (ws.length - k) = ws.length by omega] at b5
          exact ⟨ws2, kvs2, v9, v11, v12, rfl, s5, dD5, ok5, dN5, b5, tro5, hle5, hd5⟩
      · rintro σ H5 ⟨ws2, kvs2, v9, v11, v12, rfl, s5, dD5, ok5, dN5, b5, tro5, hle5, hd5⟩
        exact ⟨_, rfl, 1025 - ws.length, by omega, ws.length, ws2, kvs2, N, _, _, _, _, rfl, s5, dD5, ok5, dN5, b5, tro5, ⟨d + 1, hd5⟩, hle5, rfl⟩
    · have hke : k = ws.length := by
        have h' : ¬ k < ws.length := fun z => c (decide_eq_true (by rw [vNs_len, rest_len]; omega))
        omega
      subst hke
      exact k0 H3 (s12.trans s3) fun ms l p' g' => b.none p' g'
end
end TX
set_option Elab.async false
set_option linter.all false
set_option maxRecDepth 100000
set_option maxHeartbeats 8000000
/-! LL: the law's least, its 'is'. -/
namespace TX
open PySem PySem.Spec PyProof.Rows L2 RX WB
def spLeastW : Sp := fun vs H Q _ => ∃ (T : Addr) (rs : List (List Nat)) (apart : Bool), vs = [.ref T, .bl apart] ∧ ReadsAt H T rs ∧ WB.Good rs ∧ ∀ (H' : Hp) (r : Nat), Same H H' → Least rs apart r → r ≤ rs.length → Q (.int (r : Nat)) H'
def spIsI : Sp := fun vs H Q _ => ∃ i : Int, vs = [.int i, .int i] ∧ i.natAbs.log2 < 1920 ∧ Q (.bl true) H
section
variable {P : Program} {w : World} {K : PySem.W.Frag} {mg : Str → Option Value} {base : Heap}
theorem sc_leastW : FnScope ["_law_reads", "_law_apart", "_law_rooms"] ["_law_reads", "_law_apart"] (defScope s_law_least) := ⟨rfl, rfl, rfl, by decide +kernel, rfl, by decide +kernel, by decide +kernel⟩
theorem ok_leastW (Z : Lws K mg) (D1 : DefAt K mg "_law_fewest" s_law_fewest ["_law_reads", "_law_rooms", "_law_apart", "_law_begun"]) (D : DefAt K mg "_law_least" s_law_least ["_law_reads", "_law_apart"]) :
    FnOk P w K mg base CX0 3 D.f D.fd ["_law_reads", "_law_apart"] spLeastW := by
  have B := Z.B
  refine D.F.ok sc_leastW (fun vs H Q E h => ?_) (fun cdv A outer s H vs Q E hr h => ?_)
  · obtain ⟨T, rs, apart, rfl, _⟩ := h
    rfl
  · obtain ⟨T, rs, apart, rfl, hR, g, k⟩ := h
    have G1 : FnOk P w K mg base CX0 2 D1.f D1.fd ["_law_reads", "_law_rooms", "_law_apart", "_law_begun"] spFewest := ok_fewest Z D1
    refine ⟨_, pss_cons (ps_for PassesOwn.never rfl (pi_range2 (by rfl) B.range (pa_cons pe_int (pa_cons (pe_op op_add (pe_callB call_len_seq (by rfl) B.len PySem.boot_len (pa_cons (pv 0) pa_nil)) pe_int) pa_nil))) (pg_name (i := 2) sc_leastW.nd rfl (Or.inl rfl))
        (pss_one (ps_if (pt_cmpR op_notN (pcl D1 G1 hr (by rfl) (pa_cons (pv 0) (pa_cons (pv 2) (pa_cons (pv 1) (pa_cons pe_int pa_nil))))) pe_non (nomark _)) (pss_one (ps_ret (pv 2))) pss_nil)))
      (pss_one (ps_ret pe_non)), ?_⟩
    obtain ⟨as, hT, hal, hat⟩ := id hR.ex
    have hlen : (as.map V.ref).length = rs.length := by rw [List.length_map, hal]
    have gp := g.pos
    have g2 := g.le
    refine ⟨_, rfl, T, _, rfl, .inr (SqT.of hT), _, _, rfl, rfl, _, _, rfl, ⟨by decide, by decide, ?_, ?_⟩, ?_⟩
    · have : -(2 ^ 62) ≤ (((as.map V.ref).length : Nat) : Int) + 1 := by rw [hlen]; omega
      exact this
    · have : (((as.map V.ref).length : Nat) : Int) + 1 < 2 ^ 62 := by rw [hlen]; omega
      exact this
    have en : ((((as.map V.ref).length : Nat) : Int) + 1 - 1).toNat = rs.length := by rw [hlen]; omega
    show _
    rw [en]
    refine for_it (walk_range (lo := 1) (n := rs.length)) (fun i σ H1 => ∃ v2 : Option V, σ = [some (.ref T), some (.bl apart), v2] ∧ Same H H1 ∧ ∀ r', 1 ≤ r' → r' < 1 + i → ¬ Reach rs r' apart) ⟨none, rfl, Same.refl H, fun r' a b => by omega⟩ (fun _ _ _ _ _ => trivial) ?_ ?_
    · rintro t y σ H1 H1' ht ⟨v2, rfl, s1, hno⟩ ⟨rfl, hy⟩
      have ey : y = .int ((t + 1 : Nat) : Int) := by
        refine hy.trans (congrArg V.int ?_)
        omega
      subst ey
      refine ⟨_, rfl, _, rfl, _, rfl, T, rs, t + 1, apart, [], rfl, hR.same s1, g, valid_nil _, Nat.zero_le _, fun H2 s2 hn => ?_, fun H2 M bs ms l s2 hM mm p hg hmin => ?_⟩
      · refine ⟨rfl, _, rfl, iteF ⟨_, rfl, s1.trans s2, fun r' h1 h2 => ?_⟩⟩
        rcases Nat.lt_or_ge r' (1 + t) with z | z
        · exact hno r' h1 z
        · have : r' = t + 1 := by omega
          subst this
          rintro ⟨ms, l, p, hg⟩
          exact hn ms l p hg
      · refine ⟨rfl, _, rfl, iteT ?_⟩
        exact ⟨_, rfl, k H2 (t + 1) (s1.trans s2) ⟨by omega, ⟨ms, l, p, hg⟩, fun r' a b => hno r' a (by omega)⟩ (by omega)⟩
    · rintro σ H1 ⟨v2, rfl, s1, hno⟩
      exact absurd (reach_full g apart) (hno rs.length gp (by omega))
theorem sc_is : FnScope ["_law_told", "_law_due"] ["_law_told", "_law_due"] (defScope s_law_is) := ⟨rfl, rfl, rfl, by decide +kernel, rfl, by decide +kernel, by decide +kernel⟩
theorem ok_isI (B : Bts mg) (D : DefAt K mg "_law_is" s_law_is ["_law_told", "_law_due"]) : FnOk P w K mg base CX0 1 D.f D.fd ["_law_told", "_law_due"] spIsI := by
  refine D.F.ok sc_is (fun vs H Q E h => ?_) (fun cdv A outer s H vs Q E hr h => ?_)
  · obtain ⟨i, rfl, _⟩ := h
    rfl
  · obtain ⟨i, rfl, hi, k⟩ := h
    refine ⟨_, pss_one (ps_ret (pe_cmpR op_eq (pe_callB SkE.call_repr_int (by rfl) B.repr boot_repr (pa_cons (pv 0) pa_nil)) (pe_callB SkE.call_repr_int (by rfl) B.repr boot_repr (pa_cons (pv 1) pa_nil)) (nomark _))), ?_⟩
    refine ⟨_, rfl, i, rfl, hi, _, rfl, i, rfl, hi, rfl, ?_⟩
    rw [decide_eq_true rfl]
    exact k
end
end TX
set_option Elab.async false
set_option linter.all false
set_option maxRecDepth 100000
set_option maxHeartbeats 4000000
/-! RG: defs that are called where no guard stands: repr of nested data. -/
namespace RX
open PySem PySem.Spec PyProof.Rows L2
/-- repr(x) of a datum, where no other repr is under way -/
def rRepr (K : PySem.W.Frag) : List V → Hp → VK → Prop := fun vs H Q => ∃ (x : V) (d : PyData), vs = [x] ∧ Dp K H x d ∧ d.showable = true ∧ d.hasDict = false ∧ d.depth ≤ 60 ∧ d.shown.length ≤ sizeLine ∧ Q (.str d.shown) H
theorem cr_repr {X : Cx} (hg : X.A.guards = some []) (hu : X.A.units + 64 < cLine) : CallR X (.builtin "repr") (rRepr X.K) := by
  intro pins s σ H vs us Q I r h
  obtain ⟨x, d, rfl, hd, hs, hn, hp, hz, q⟩ := h
  obtain ⟨u, rfl, ru⟩ := vals1 r
  obtain ⟨as, hr⟩ := Dp.reads I d x u hd ru
  have room : X.A.units + (d.depth + 1) < cLine := by omega
  have big : ∀ a, u = .ref a → wpAny (model X.prog X.w) X.A (call (.builtin "repr") [u]) (EP X pins σ Q) X.xe s := fun a e => by
    subst e
    exact repr_of_reads' hr hs (PyData.noDict_hsm hn) hg room (fun _ _ e => e) (fun h' t tk hk => ⟨.str d.shown, H, I.kept hk, ⟨t, rfl⟩, q⟩) hz
  cases hd with
  | non =>
    cases ru
    exact P.repr_of_none ⟨.str _, H, I.tok _, ⟨_, rfl⟩, q⟩
  | bl b =>
    cases ru
    refine P.repr_of_bool ⟨.str _, H, I.tok _, ⟨_, rfl⟩, ?_⟩
    cases b <;> exact q
  | int i =>
    obtain ⟨t, rfl⟩ := ru
    refine P.repr_of_int ?_ ⟨.str _, H, I.tok _, ⟨_, rfl⟩, q⟩
    simpa [PyData.showable] using hs
  | str z =>
    obtain ⟨t, rfl⟩ := ru
    exact P.repr_of_str ⟨.str _, H, I.tok _, ⟨_, rfl⟩, q⟩ hz
  | lst a b =>
    cases ru
    exact big _ rfl
  | tup a b =>
    cases ru
    exact big _ rfl
/-- a def's promise where no guard stands -/
structure FnG (P : Program) (w : World) (K : PySem.W.Frag) (mg : Str → Option Value) (base : Heap) (CX : CXT) (k : Nat) (f : Addr) (fd : FuncData) (ps : List Str) (sp : Sp) : Prop where
  len : ∀ vs H Q E, sp vs H Q E → vs.length = ps.length
  run : ∀ (A : Around) (outer : List Env) (s : Shared) (H : Hp) (args : Args) (us : List Value) (vs : List V) (Q : VK) (E : XK), A.guards = some [] → Room k A → Env0 P w K mg base A outer s H → BindsTo s fd args (ps.zip us) → Vals vs us → sp vs H Q E →
    codeAny (model P w) A (.call (.ref f) args) (CR CX outer P w H s Q E) s
section
variable {P : Program} {w : World} {K : PySem.W.Frag} {mg : Str → Option Value} {base : Heap} {x qual : Str} {st : Stmt} {f : Addr} {fd : FuncData} {N ps : List Str} {k : Nat} {sp : Sp}
theorem okG (F : Fun K x qual st f fd) (S : FnScope N ps (defScope st)) (len : ∀ vs H Q E, sp vs H Q E → vs.length = ps.length)
    (hbody : ∀ (cdv : Value) (A : Around) (outer : List Env) (s : Shared) (H : Hp) (vs : List V) (Q : VK) (E : XK), A.guards = some [] → Room k (A.deeper (envOfC qual (defScope st) s.heap.objs.size f cdv)) → sp vs H Q E →
      ∃ t, PSs (cxOf CX0 P w K mg base N qual (defScope st) f cdv A outer s H E).nox (defBody st) t ∧ t { nx := fun _ H' => Q .non H', rt := Q } (start N vs) H) : FnG P w K mg base CX0 (k + 1) f fd ps sp := by
  obtain ⟨oc, od, kV, doc, pm, an, cdv, ct, osl, rfl, lk, hcd⟩ := F.ex
  refine ⟨len, fun A outer s H args us vs Q E gd room e0 hb rel hsp => ?_⟩
  have hmods : ∀ b o, base.get? b = some o → s.heap.get? b = some o := fun b o e => (e0.bs b o e).1
  have KX : K.In s.heap := e0.mod.kin.keeps hmods
  have params : ∀ y ∈ ps.zip us, (defScope st).names.lookup y.1 = some .local ∨ ((defScope st).names.lookup y.1 = some .cell ∧ ((cellsFrom (s.heap.objs.size + 1) (defScope st).names []).lookup y.1).isSome = true) := by
    rintro ⟨n, v⟩ hy
    exact (S.par n (List.of_mem_zip hy).1).imp id fun q => ⟨q, PySem.W.cellsFrom_some _ _ _ (.inl q)⟩
  refine codeAny_call_function room.depth (KX _ _ lk) rfl S.co S.gen rfl (PySem.W.codeRec_of KX hcd) (hb _ _ _ _ (wpAny_newFunctionEnv_cells S.kind params fun env he s1 x1 => ?_))
  subst he
  obtain ⟨t, ht, hq⟩ := hbody cdv A outer s H vs Q E gd (room.deeper _) hsp
  refine ⟨(e0.mod.nolimit.keeps hmods).keeps x1.toInCall.keep, codeAny_func ?_⟩
  have I := inv_start (CX := CX0) (E := E) S room.hd e0 (len _ _ _ _ hsp) rel x1
  refine wpAny_mono (ht.nox.run [] s1 (start N vs) H _ I hq) (fun fl s' hs => ?_) fun e s' hs => hs
  cases fl with
  | ret u =>
    obtain ⟨v, σ', H', J, rv, q⟩ := hs
    exact ⟨v, H', J.os, J.bare, J.base, J.hok, rv, q⟩
  | next =>
    obtain ⟨σ', H', J, q⟩ := hs
    exact ⟨V.non, H', J.os, J.bare, J.base, J.hok, rfl, q⟩
  | brk =>
    obtain ⟨_, _, _, z⟩ := hs
    cases z
  | cont =>
    obtain ⟨_, _, _, z⟩ := hs
    cases z
end
section
variable {X : Cx} {CX : CXT} {k : Nat} {f : Addr} {fd : FuncData} {ps : List Str} {sp : Sp} {E : XK} {x : Str} {p pos : Pos} {e : Expr} {es : List Expr} {t : TA} {ds : List Value} {dvs : List V}
/-- f(e, ..) of such a def -/
theorem pe_callG (F : FnG X.prog X.w X.K X.mg X.base CX k f fd ps sp) (gd : X.A.guards = some []) (hr : Room k X.A) (hg : Gl X x) (hm : X.mg x = some (.ref f)) (hk : PySem.W.keepIn X.K (.ref f) = true) (hb : Binds X.K fd ps ds) (hd : Vals dvs ds) (hx : Passes CX X E)
    (ha : PA X (e :: es) t) (hdb : (x == ("__debug__" : Str)) = false := by decide) (he : starEach (e :: es) X.env = (false, eval e X.env) :: starEach es X.env := by rfl) (hpl : (backTo pos (starEach es X.env)).any (·.1) = false := by rfl) :
    PE X (.Call (.Name x p) (e :: es) [] pos) (tCall sp dvs E t) := by
  refine ⟨fun pins s σ H Q I h => wpAny_Call_Name_kw (ld_glob I hg hm ?_ hdb)⟩
  refine PySem.W.callWith_K (h₀ := X.base) I.ok.mod.kin hk (thn (ha.run pos pins s σ H _ I h) fun us s1 ⟨vs, H1, I1, r, q⟩ => ⟨I1.kIn, ?_⟩) he hpl
  have rel : Vals (vs ++ dvs) (us ++ ds) := r.append hd
  have hl : (us ++ ds).length = ps.length := by
    rw [← rel.length]
    exact F.len _ _ _ _ q
  refine wpAny_call (codeAny_mono (F.run X.A X.stack s1 H1 ⟨us, []⟩ (us ++ ds) (vs ++ dvs) Q E gd hr I1.env0 (hb s1 us I1.kIn hl) rel q) fun r s' hq => ?_)
  cases r with
  | error e => exact hx pins σ H1 s1 e s' I1 hq
  | ok fl =>
    cases fl with
    | ret u => exact I1.after hq
    | next => cases hq
    | brk => cases hq
    | cont => cases hq
end
section
variable {P : Program} {w : World} {K : PySem.W.Frag} {mg mb : Str → Option Value} {CX : CXT} {k : Nat} {fa a : Addr} {fd : FuncData} {x : Str} {sp : Sp} {s₁ : Shared} {vs : List Value} {ns : List Int}
/-- the script as it is seen: tracked, unless the module itself has it -/
def seen (K : PySem.W.Frag) (a : Addr) (vs : List Value) (ns : List Int) : Hp := fun b => if b = a ∧ K.lookup a = none then some (.frz { cls := .type "list", data := .seq vs.toArray } (.lst (ns.map V.int))) else none
theorem seen_at {b : Addr} {u : HO} (h : seen K a vs ns b = some u) : b = a ∧ K.lookup a = none ∧ u = .frz { cls := .type "list", data := .seq vs.toArray } (.lst (ns.map V.int)) := by
  unfold seen at h
  split at h
  · rename_i c
    exact ⟨c.1, c.2, (Option.some.inj h).symm⟩
  · cases h
theorem seen_none {b : Addr} (h : b ≠ a ∨ K.lookup a ≠ none) : seen K a vs ns b = none := by
  unfold seen
  rw [if_neg]
  rintro ⟨h1, h2⟩
  rcases h with h | h
  · exact h h1
  · exact h h2
/-- the law's promise at the heap behind the top, where no guard stands -/
theorem law_callG (KX : K.In s₁.heap) (hns : s₁.heap.Ns mainGlobals mg) (hb : s₁.heap.Ns builtinsNs mb) (hbb : ∀ x : Str, x ≠ "__name__" → mb x = bootBuiltins x) (hlim : s₁.heap.NoLimit) (hg : s₁.gens = #[])
    (ha : s₁.heap.get? a = some { cls := .type "list", data := .seq vs.toArray }) (hi : IntsAre vs ns) (hl : ns.length ≤ sizeLine) (hr : Room k callerA)
    (F : ∀ base : Heap, K.In base → base.Ns mainGlobals mg → FnG P w K mg base CX k fa fd [x] sp) (hbind : ∀ (s : Shared) (u : Value), BindsTo s fd ⟨[u], []⟩ [(x, u)])
    (hsp : ∀ H : Hp, SqL K H a (ns.map V.int) → sp [.ref a] H (fun v _ => v = .bl true) fun _ _ _ => False)
    (hCX : ∀ H e s', CX [] H s₁ (fun _ _ _ => False) e s' → False) :
    codeAny (model P w) callerA (.call (.ref fa) ⟨[.ref a], []⟩) (fun r s' => r = .ok (.ret (.bool true)) ∧ OldK s₁.heap s'.heap ∧ s'.os = s₁.os ∧ AllBare s'.gens) s₁ := by
  have rv := vals_ints hi
  have lenV := hi.length
  have sz : (ns.map V.int).length ≤ sizeLine := by
    rw [List.length_map]
    exact hl
  have under : ∀ {b : Addr} {o : Obj}, s₁.heap.get? b = some o → (b = a → K.lookup a ≠ none) → (hidT s₁.heap (seen K a vs ns)).get? b = some o := fun {b o} e n => hidT_get e (seen_none (by
    by_cases q : b = a
    · exact .inr (n q)
    · exact .inl q))
  have dicts : ∀ {b : Addr} {m : Str → Option Value}, s₁.heap.Ns b m → (hidT s₁.heap (seen K a vs ns)).Ns b m := by
    rintro b m ⟨o, es, ep, e, d, r⟩
    refine ⟨o, es, ep, under e fun q => ?_, d, r⟩
    subst q
    rw [ha] at e
    cases e
    cases d
  have kin : K.In (hidT s₁.heap (seen K a vs ns)) := fun b o e => under (KX b o e) fun q z => by
    rw [q, z] at e
    cases e
  obtain ⟨mc, l1, l2⟩ := hlim
  have hM : Mod K mg (hidT s₁.heap (seen K a vs ns)) := ⟨kin, dicts hns, ⟨mb, dicts hb, hbb⟩, ⟨mc, dicts l1, l2⟩⟩
  have hok : HOk P w (seen K a vs ns) s₁.heap := fun b u z => by
    obtain ⟨q1, _, q2⟩ := seen_at z
    subst q1 q2
    exact ⟨ha, sz, vs, _, rv, ha⟩
  have hS : SqL K (seen K a vs ns) a (ns.map V.int) := by
    cases hk : K.lookup a with
    | none => exact .inl (.inr ⟨_, if_pos ⟨rfl, hk⟩⟩)
    | some o =>
      have e := KX a o hk
      rw [ha] at e
      cases e
      exact .inr ⟨_, vs.toArray, _, hk, rfl, rfl, rfl, by rw [List.size_toArray, lenV]; exact hl, by simpa using rv⟩
  have e0 : Env0 P w K mg (hidT s₁.heap (seen K a vs ns)) callerA [] s₁ (seen K a vs ns) :=
    ⟨rfl, hM, fun b o e => of_hidT e, Nat.le_of_eq (hidT_size _ _), trivial, fun b hb => absurd (show b ∈ ([] : List Addr) from hb) List.not_mem_nil, hok, .of_eq hg⟩
  refine codeAny_mono ((F _ kin (dicts hns)).run callerA [] s₁ _ ⟨[.ref a], []⟩ [.ref a] [.ref a] _ _ rfl hr e0 (hbind s₁ (.ref a)) (.cons rfl .nil) (hsp _ hS)) fun r s' h => ?_
  cases r with
  | error e => exact (hCX _ e s' h).elim
  | ok fl =>
    cases fl with
    | next => cases h
    | brk => cases h
    | cont => cases h
    | ret u =>
      obtain ⟨v, H', os, bare, un, hok', r', q⟩ := h
      have q' : v = .bl true := q
      subst q'
      obtain rfl : u = Value.bool true := r'
      refine ⟨rfl, OldK.of_keep fun b o e => ?_, os, bare⟩
      cases z : seen K a vs ns b with
      | none => exact un.keep b o e z (fun y => absurd (show b ∈ ([] : List Addr) from y) List.not_mem_nil) List.not_mem_nil
      | some u2 =>
        obtain ⟨q1, _, q2⟩ := seen_at z
        subst q2
        have z3 := hok' b _ (un.frzs b _ _ z)
        subst q1
        rw [ha] at e
        cases e
        exact z3.1
end
theorem walk_ofG {l : PySem.W.OpenLaw} {n k : Nat} {q : Program} {loose : List Str} {XP : (Str → Option Value) → Heap → Prop} {YP : World → Heap → Prop} {d : DefRec} {CX : CXT} {x : Str}
    (hn : l.most = some n) (hn2 : n ≤ sizeLine) (hdf : d.params.defaults = []) (hr : Room k callerA)
    (F : ∀ (w : World) (mg : Str → Option Value) (fa : Addr) (h : Heap), YP w h → h.Ns mainGlobals mg → mg d.name = some (.ref fa) →
      ∃ (K : PySem.W.Frag) (fd : FuncData) (sp : Sp), K.In h ∧ (∀ (s : Shared) (u : Value), BindsTo s fd ⟨[u], []⟩ [(x, u)]) ∧
        (∀ (H : Hp) (a : Addr) (ns : List Int), ns.length ≤ n → SqL K H a (ns.map V.int) → sp [.ref a] H (fun v _ => v = .bl true) fun _ _ _ => False) ∧
        ∀ base : Heap, K.In base → base.Ns mainGlobals mg → FnG l.prog w K mg base CX k fa fd [x] sp)
    (hCX : ∀ (H : Hp) (s : Shared) (e : Value) (s' : Shared), CX [] H s (fun _ _ _ => False) e s' → False) :
    PySem.W.WalkO q loose XP YP l.row.toRowW d [] (fun f vs => PySem.call f vs) := by
  refine Att.attach_call hn hdf fun w s₀ s₁ mg mb fa o pm cd doc a vs ns G Y ho hd hcd hmg hobj hints hlen hg => ?_
  obtain ⟨K, fd, sp, KX, hb, hsp, hF⟩ := F w mg fa _ Y G.T.g hmg
  exact law_callG KX G.T.g G.T.b G.T.builtins G.T.nolimit hg hobj hints (Nat.le_trans hlen hn2) hr hF hb (fun H hS => hsp H a ns hlen hS) fun H e s' => hCX H s₁ e s'
end RX
set_option Elab.async false
set_option linter.all false
set_option maxRecDepth 100000
set_option maxHeartbeats 4000000
/-! RN: x == y and x != y where x is an instance with its own == and no own !=. -/
namespace PySem
open PySem.Spec PyProof.Rows
section
variable {prog : Program} {w : World} {A : Around} {E : Value → Shared → Prop} {s : Shared} {K : PySem.W.Frag} {x C f L : Addr} {ox : Obj} {od : Option Obj} {b tb : Value} {h₀ : Heap} {m : Str → Option Value}
/-- object.__ne__ asks the own == -/
theorem ne_entry {Q : Fin → Shared → Prop} (hu : A.units < cLine) (X : K.In s.heap) (I : PySem.W.InstAt s.heap x ox C od) (hs : PySem.W.findIn K (.ref C) "__eq__" = some (some (.ref f))) (hf : PySem.W.isFn K (.ref f) = true)
    (h : wpAny (model prog w) A (call (.ref f) [.ref x, b]) (fun v s' => ∃ c, v = .bool c ∧ Q (.done (.ret (.bool (!c)))) s') E s) :
    wpAny (model prog w) A (Builtin.«object.__ne__» ⟨[.ref x, b], []⟩) Q E s := by
  have ask : wpAny (model prog w) A (callSpecialIfBound? (.ref x) "__eq__" [b]) (fun r s' => ∃ c, r = some (.bool c) ∧ Q (.done (.ret (.bool (!c)))) s') E s :=
    PySem.W.ifBound_K X I hs hf (wpAny_mono h (fun v s' ⟨c, e, q⟩ => ⟨c, by rw [e], q⟩) fun _ _ e => e)
  unfold Builtin.«object.__ne__»
  repeat (first
    | with_reducible refine wpAny_cRoomFor hu ?_
    | (refine wpAny_bind (m := callSpecialIfBound? (.ref x) (Str.ofString "__eq__") [b]) (wpAny_mono ask (fun r s' hr => by
          obtain ⟨c, rfl, hq⟩ := hr
          repeat (first | exact hq | exact wpAny_pure hq | exact wpAny_truthy_bool hq | (refine wpAny_bind (m := truthy (.bool _)) (wpAny_truthy_bool ?_)) | wp_step)) fun _ _ e => e))
    | wp_step)
/-- the special method __ne__, which is object's -/
theorem ifBound_ne {M : Model} {args : List Value} {Q : Option Value → Shared → Prop} (X : K.In s.heap) (I : PySem.W.InstAt s.heap x ox C od) (hs : PySem.W.findIn K (.ref C) "__ne__" = some (some (.builtin "object.__ne__")))
    (h : wpAny M A (call (.builtin "object.__ne__") (.ref x :: args)) (fun v => Q (some v)) E s) : wpAny M A (callSpecialIfBound? (.ref x) "__ne__" args) Q E s := by
  have last : wpAny M A (call (.builtin "object.__ne__") ([.ref x] ++ args) >>= fun v => pure (some v)) Q E s := wpAny_bind (wpAny_mono h (fun _ _ z => wpAny_pure z) fun _ _ z => z)
  simp only [callSpecialIfBound?, bindSpecialIfBound?]
  refine wpAny_holding (wpAny_bind (wpAny_bind (wpAny_bind (I.type.here ((PySem.W.looks_findIn X hs).here (wpAny_bind (wpAny_askSetting (wpAny_ite ?_))))))))
  split
  · exact wpAny_bind (wpAny_of_eq (F.cmp_object.ne.bind _) (wpAny_pure (by exact last)))
  · exact wpAny_tryCatch (wpAny_bind (wpAny_of_eq (F.cmp_object.ne.bind _) (wpAny_pure (by exact last))))
theorem ne_K {Q : Value → Shared → Prop} (hu : A.units + 1 < cLine) (F0 : Fr h₀ L s.heap m) (X₀ : K.In h₀) (I : PySem.W.InstAt s.heap x ox C od) (hb : PySem.W.Looks (model prog w) s.heap (typeOf b) tb) (hn : PySem.W.notFirst K C tb = true)
    (ho : PySem.W.mroIn K C (.type "object") = some true) (hs : PySem.W.findIn K (.ref C) "__eq__" = some (some (.ref f))) (hf : PySem.W.isFn K (.ref f) = true) (hne : PySem.W.findIn K (.ref C) "__ne__" = some (some (.builtin "object.__ne__")))
    (h : wpAny (model prog w) A.in1 (call (.ref f) [.ref x, b]) (fun v s' => ∃ c, v = .bool c ∧ Q (.bool (!c)) s') E s) : wpAny (model prog w) A (richCompare .NotEq (.ref x) b) Q E s := by
  have X := X₀.keeps F0.keep
  have one : wpAny (model prog w) A (tryCompare (.ref x) "__ne__" b) (fun r s' => ∃ v, r = some v ∧ Q v s') E s := by
    unfold tryCompare
    refine wpAny_bind (ifBound_ne X I hne (wpAny_call (codeAny_call_builtin F.cmp_object.ne.plain F.cmpEntry_ne (PySem.W.check_slot F.cmpKind_ne F.cmpSplit_ne (I.type.andThen (PySem.W.looks_mroIn X ho)) (F.cmpArgs_ne _ _)
      (ne_entry (A := A.in1) hu X I hs hf (wpAny_mono h (fun v s' hv => ?_) fun _ _ e => e))))))
    obtain ⟨c, rfl, hq⟩ := hv
    first | exact ⟨c, rfl, wpAny_pure ⟨_, rfl, hq⟩⟩ | exact ⟨c, rfl, wpAny_pure (wpAny_pure ⟨_, rfl, hq⟩)⟩ | exact ⟨c, rfl, ⟨_, rfl, hq⟩⟩
  unfold richCompare
  simp only [oneThing_ref]
  rw [cmpInfo_NotEq]
  refine wpAny_holding (wpAny_bind (wpAny_cRoomFor (Nat.lt_of_succ_lt hu) (wpAny_bind (I.type.here (wpAny_bind (hb.here ?_))))))
  split
  · rename_i q
    have e : PySem.W.subIn K tb (.ref C) = some false := (Bool.or_eq_true_iff.mp hn).elim (fun e => by rw [beq_iff_eq.mp e] at q; simp at q) fun e => beq_iff_eq.mp e
    refine wpAny_bind ((PySem.W.looks_subIn X e).here ?_)
    simp only [Bool.false_eq_true, if_false]
    refine wpAny_bind (wpAny_mono one (fun r s' z => ?_) fun _ _ e => e)
    obtain ⟨v, rfl, hq⟩ := z
    exact wpAny_pure hq
  · refine wpAny_bind (wpAny_pure ?_)
    simp only [Bool.false_eq_true, if_false]
    refine wpAny_bind (wpAny_mono one (fun r s' z => ?_) fun _ _ e => e)
    obtain ⟨v, rfl, hq⟩ := z
    exact wpAny_pure hq
end
end PySem

namespace RX
open PySem PySem.Spec PyProof.Rows L2
/-- an instance of C and something else, asked by C's own == : g is told of its answer -/
def rOwn (K : PySem.W.Frag) (C : Addr) (sp : Sp) (E : XK) (g : Bool → Bool) : R2 := fun x y H Q => ∃ (a dx : Addr) (fs : List (Str × V)) (t : Value), x = .ref a ∧ H a = some (.ins C dx fs) ∧ TyX K H y t ∧ PySem.W.notFirst K C t = true ∧
  sp [x, y] H (fun v H' => ∃ c, v = .bl c ∧ Q (.bl (g c)) H') E
section
variable {X : Cx} {CX : CXT} {n : Nat} {C f : Addr} {fd : FuncData} {ps : List Str} {sp : Sp} {E : XK}
theorem own_run {A : Around} {pins : List (Addr × Obj)} {s : Shared} {σ : L2.St} {H : Hp} {x y : V} {u v : Value} {Q : VK} (F : FnOk X.prog X.w X.K X.mg X.base CX n f fd ps sp) (hr : Room n A) (hA : A.frames = X.A.frames) (hb : Binds X.K fd ps []) (hx : Passes CX X E)
    (I : Inv X pins σ H s) (rx : RelV x u) (ry : RelV y v) (h : sp [x, y] H Q E) : wpAny (model X.prog X.w) A (call (.ref f) [u, v]) (fun r s' => ∃ z H', Inv X pins σ H' s' ∧ RelV z r ∧ Q z H') X.xe s := by
  have e := I.env0
  have e0 : Env0 X.prog X.w X.K X.mg X.base A X.stack s H := ⟨hA.trans e.frames, e.mod, e.bs, e.bsz, e.funs, e.frf, e.hok, e.bare⟩
  have r2 : Vals [x, y] [u, v] := .cons rx (.cons ry .nil)
  have hl := F.len _ _ _ _ h
  refine wpAny_call (codeAny_mono (F.run A X.stack s H ⟨[u, v], []⟩ [u, v] [x, y] Q E hr e0 (by
    have := hb s [u, v] I.kIn (by simpa using hl)
    simpa using this) r2 h) fun r s' hq => ?_)
  cases r with
  | error e => exact hx pins σ H s e s' I hq
  | ok fl =>
    cases fl with
    | ret w =>
      obtain ⟨z, H', I', rz, q⟩ := I.after hq
      exact ⟨z, H', I', rz, q⟩
    | next => cases hq
    | brk => cases hq
    | cont => cases hq
/-- x == y by the own == -/
theorem op_ownEq (F : FnOk X.prog X.w X.K X.mg X.base CX n f fd ps sp) (hr : Room n X.A) (hs : PySem.W.findIn X.K (.ref C) "__eq__" = some (some (.ref f))) (hf : PySem.W.isFn X.K (.ref f) = true) (hb : Binds X.K fd ps []) (hx : Passes CX X E) :
    OpR X (compareOp .Eq) (rOwn X.K C sp E fun c => c) := by
  intro pins s σ H x y v u Q I rx ry h
  obtain ⟨a, dx, fs, t, rfl, ha, ty, hn, hq⟩ := h
  cases rx
  obtain ⟨mA, J, _⟩ := ins_get I.hok ha
  obtain ⟨od, J, _⟩ := J.look
  obtain ⟨m, hF⟩ := I.fr
  obtain ⟨P, Z, p, _⟩ := kit_of I ry ty
  show wpAny (model X.prog X.w) X.A (richCompare .Eq _ u) (EP X pins σ Q) X.xe s
  refine PySem.W.cmp_K (op := .Eq) (tb := t) hr.units0 hF I.ok.mod.kin J (Z.ty _ _ I.kIn p) hn hs hf ?_
  refine wpAny_mono (own_run F hr rfl hb hx I (show RelV (.ref a) (.ref a) from rfl) ry hq) (fun r s' z => ?_) fun _ _ e => e
  obtain ⟨z, H', I', rz, c, rfl, q⟩ := z
  cases rz
  exact ⟨.bl c, H', I', rfl, q⟩
/-- x != y by the own == -/
theorem op_ownNe (F : FnOk X.prog X.w X.K X.mg X.base CX n f fd ps sp) (hr : Room (n + 1) X.A) (hs : PySem.W.findIn X.K (.ref C) "__eq__" = some (some (.ref f))) (hf : PySem.W.isFn X.K (.ref f) = true) (hb : Binds X.K fd ps []) (hx : Passes CX X E)
    (ho : PySem.W.mroIn X.K C (.type "object") = some true) (hne : PySem.W.findIn X.K (.ref C) "__ne__" = some (some (.builtin "object.__ne__"))) :
    OpR X (compareOp .NotEq) (rOwn X.K C sp E fun c => !c) := by
  intro pins s σ H x y v u Q I rx ry h
  obtain ⟨a, dx, fs, t, rfl, ha, ty, hn, hq⟩ := h
  cases rx
  obtain ⟨mA, J, _⟩ := ins_get I.hok ha
  obtain ⟨od, J, _⟩ := J.look
  obtain ⟨m, hF⟩ := I.fr
  obtain ⟨P, Z, p, _⟩ := kit_of I ry ty
  show wpAny (model X.prog X.w) X.A (richCompare .NotEq _ u) (EP X pins σ Q) X.xe s
  refine ne_K (tb := t) (hr.in1).units0 hF I.ok.mod.kin J (Z.ty _ _ I.kIn p) hn ho hs hf hne ?_
  refine wpAny_mono (own_run F hr.in1 rfl hb hx I (show RelV (.ref a) (.ref a) from rfl) ry hq) (fun r s' z => ?_) fun _ _ e => e
  obtain ⟨z, H', I', rz, c, rfl, q⟩ := z
  cases rz
  exact ⟨c, rfl, .bl (!c), H', I', rfl, q⟩
theorem notFirst_ty {K : PySem.W.Frag} {C : Addr} {n : String} {l : List String} (e : fastBuiltinMro n = some (l.map Value.type)) : PySem.W.notFirst K C (.type n) = true := by
  have : PySem.W.subIn K (.type n) (.ref C) = some false := by
    show (fastBuiltinMro n).map (·.contains (.ref C)) = some false
    rw [e]
    refine congrArg some ?_
    induction l with
    | nil => rfl
    | cons x l ih => simp
  unfold PySem.W.notFirst
  rw [this]
  simp
end
end RX
set_option Elab.async false
set_option linter.all false
set_option maxRecDepth 100000
set_option maxHeartbeats 4000000
/-! DT: small data: their size, their text; a web's reads as a datum. -/
namespace TX
open PySem PySem.Spec PyProof.Rows L2 RX WB
/-- small data: at most b nodes and signs, at most k deep -/
structure Sm (b k : Nat) (d : PyData) : Prop where
  lay : d.canLay0 = true
  shw : d.showable = true
  nod : d.hasDict = false
  dep : d.depth ≤ k
  blk : d.bulk ≤ b
  lvs : d.leavesShort 13 = true
theorem Sm.mono {b k b' k' : Nat} {d : PyData} (h : Sm b k d) (hb : b ≤ b') (hk : k ≤ k') : Sm b' k' d := ⟨h.lay, h.shw, h.nod, Nat.le_trans h.dep hk, Nat.le_trans h.blk hb, h.lvs⟩
theorem sm_int {i : Int} (h1 : -1000 ≤ i) (h2 : i ≤ 100000) : Sm 0 0 (.int i) where
  lay := by simp [PyData.canLay0]
  shw := by
    have : i.natAbs.log2 < 1920 := by
      rcases Nat.eq_zero_or_pos i.natAbs with z | z
      · rw [z]; decide
      · refine (Nat.log2_lt (by omega)).mpr (Nat.lt_of_le_of_lt (show i.natAbs ≤ 2 ^ 17 by omega) (Nat.pow_lt_pow_right (by decide) (by decide)))
    simpa [PyData.showable] using this
  nod := by simp [PyData.hasDict]
  dep := by simp [PyData.depth]
  blk := by simp [PyData.bulk]
  lvs := by
    have := PyData.shown_int_le2 (i := i) (by omega) (by omega)
    simpa [PyData.leavesShort] using this
theorem sm_non : Sm 0 0 .none := ⟨by simp [PyData.canLay0], by simp [PyData.showable], by simp [PyData.hasDict], by simp [PyData.depth], by simp [PyData.bulk], by simp [PyData.leavesShort]⟩
theorem sm_bl (x : Bool) : Sm 0 0 (.bool x) := ⟨by simp [PyData.canLay0], by simp [PyData.showable], by simp [PyData.hasDict], by simp [PyData.depth], by simp [PyData.bulk], by simp [PyData.leavesShort]⟩
theorem sm_all {b k : Nat} : ∀ {xs : List PyData}, (∀ x ∈ xs, Sm b k x) → PyData.canLayAll0 xs = true ∧ PyData.showableAll xs = true ∧ PyData.hasDictAll xs = false ∧ PyData.depthAll xs ≤ k ∧ PyData.bulkAll xs ≤ xs.length * (b + 1) ∧ PyData.leavesShortAll 13 xs = true
  | [], _ => ⟨by simp [PyData.canLayAll0], by simp [PyData.showableAll], by simp [PyData.hasDictAll], by simp [PyData.depthAll], by simp [PyData.bulkAll], by simp [PyData.leavesShortAll]⟩
  | x :: xs, h => by
    obtain ⟨a1, a2, a3, a4, a5, a6⟩ := sm_all fun y hy => h y (List.mem_cons_of_mem _ hy)
    have s := h x List.mem_cons_self
    refine ⟨?_, ?_, ?_, ?_, ?_, ?_⟩
    · simp [PyData.canLayAll0, s.lay, a1]
    · simp [PyData.showableAll, s.shw, a2]
    · simp [PyData.hasDictAll, s.nod, a3]
    · simp only [PyData.depthAll]
      have := s.dep
      omega
    · simp only [PyData.bulkAll, List.length_cons]
      have := s.blk
      have e : (xs.length + 1) * (b + 1) = xs.length * (b + 1) + (b + 1) := Nat.succ_mul _ _
      omega
    · simp [PyData.leavesShortAll, s.lvs, a6]
theorem sm_tup {b k n : Nat} {xs : List PyData} (h : ∀ x ∈ xs, Sm b k x) (hl : xs.length ≤ n) : Sm (n * (b + 1)) (k + 1) (.tuple xs) := by
  obtain ⟨a1, a2, a3, a4, a5, a6⟩ := sm_all h
  exact ⟨by simpa [PyData.canLay0] using a1, by simpa [PyData.showable] using a2, by simpa [PyData.hasDict] using a3, by simp only [PyData.depth]; omega,
    by simp only [PyData.bulk]; exact Nat.le_trans a5 (Nat.mul_le_mul_right _ hl), by simpa [PyData.leavesShort] using a6⟩
theorem sm_lst {b k n : Nat} {xs : List PyData} (h : ∀ x ∈ xs, Sm b k x) (hl : xs.length ≤ n) : Sm (n * (b + 1)) (k + 1) (.list xs) := by
  obtain ⟨a1, a2, a3, a4, a5, a6⟩ := sm_all h
  exact ⟨by simpa [PyData.canLay0] using a1, by simpa [PyData.showable] using a2, by simpa [PyData.hasDict] using a3, by simp only [PyData.depth]; omega,
    by simp only [PyData.bulk]; exact Nat.le_trans a5 (Nat.mul_le_mul_right _ hl), by simpa [PyData.leavesShort] using a6⟩
theorem Sm.shaped {b k : Nat} {d : PyData} (h : Sm b k d) (hk : k ≤ 60) : SeqAt.shaped d = true := by
  unfold SeqAt.shaped
  rw [h.lay, decide_eq_true (Nat.le_trans h.dep (by omega))]
  rfl
theorem Sm.short {b k : Nat} {d : PyData} (h : Sm b k d) (hb : b ≤ 1000000) : d.shown.length ≤ sizeLine := by
  have h1 := PyData.shown_le_bulk 13 (by decide) d h.lvs
  have h2 := h.blk
  have : (16777216 : Nat) = sizeLine := by decide
  omega
/-- repr of a small datum -/
theorem rRepr_of {K : PySem.W.Frag} {b k : Nat} {x : V} {d : PyData} {H : Hp} {Q : VK} (h : Sm b k d) (hb : b ≤ 1000000) (hk : k ≤ 60) (hd : Dp K H x d) (q : Q (.str d.shown) H) : rRepr K [x] H Q :=
  ⟨x, d, rfl, hd, h.shw, h.nod, Nat.le_trans h.dep hk, h.short hb, q⟩
/-! ### lots and reads as data -/
def lotD (l : List Nat) : PyData := .tuple ((numI l).map PyData.int)
def readsD (rs : List (List Nat)) : PyData := .tuple (rs.map lotD)
theorem dp_lot {K : PySem.W.Frag} {H : Hp} {a : Addr} {l : List Nat} (h : LotAt H a l) : Dp K H (.ref a) (lotD l) := .tup (SqT.of (xs := vNs l) h) (dpAll_ints (numI l))
theorem eqv_lot (l l' : List Nat) : PyData.eqv (lotD l) (lotD l') = decide (l = l') := by
  unfold lotD
  rw [PyData.eqv, eqvAll_ints]
  have inj : numI l = numI l' ↔ l = l' := by
    constructor
    · intro h
      unfold numI at h
      exact List.map_inj_right (fun a b q => by omega) |>.mp h
    · rintro rfl
      rfl
  by_cases e : l = l'
  · rw [decide_eq_true e, decide_eq_true (inj.mpr e)]
  · rw [decide_eq_false e, decide_eq_false (fun z => e (inj.mp z))]
theorem sm_lot {l : List Nat} (hl : l.length ≤ 20) (h : ∀ x ∈ l, x < 10000) : Sm 20 1 (lotD l) := by
  refine (sm_tup (b := 0) (k := 0) (n := 20) (fun x hx => ?_) ?_).mono (by omega) (by omega)
  · obtain ⟨i, hi, rfl⟩ := List.mem_map.mp hx
    unfold numI at hi
    obtain ⟨n, hn, rfl⟩ := List.mem_map.mp hi
    have := h n hn
    exact sm_int (by omega) (by omega)
  · rw [List.length_map, numI_len]
    exact hl
theorem dpAll_reads {K : PySem.W.Frag} {H : Hp} : ∀ {as : List Addr} {rs : List (List Nat)}, as.length = rs.length → (∀ (j : Nat) (a : Addr) (l : List Nat), as[j]? = some a → rs[j]? = some l → LotAt H a l) → DpAll K H (as.map V.ref) (rs.map lotD)
  | [], [], _, _ => .nil
  | [], _ :: _, h, _ => by simp at h
  | _ :: _, [], h, _ => by simp at h
  | a :: as, l :: rs, h, hat => .cons (dp_lot (hat 0 a l rfl rfl)) (dpAll_reads (by simpa using h) fun j a' l' h1 h2 => hat (j + 1) a' l' (by simpa using h1) (by simpa using h2))
theorem dp_reads {K : PySem.W.Frag} {H : Hp} {T : Addr} {rs : List (List Nat)} (h : ReadsAt H T rs) : Dp K H (.ref T) (readsD rs) := by
  obtain ⟨as, h1, h2, h3⟩ := h.ex
  exact .tup (SqT.of h1) (dpAll_reads h2 h3)
theorem eqvAll_lots : ∀ rs rs' : List (List Nat), PyData.eqvAll (rs.map lotD) (rs'.map lotD) = decide (rs = rs')
  | [], [] => by simp [PyData.eqvAll]
  | [], _ :: _ => by simp [PyData.eqvAll]
  | _ :: _, [] => by simp [PyData.eqvAll]
  | l :: rs, l' :: rs' => by
    simp only [List.map_cons, PyData.eqvAll, eqvAll_lots rs rs', eqv_lot]
    by_cases e : l = l'
    · subst e
      by_cases e2 : rs = rs' <;> simp [e2]
    · simp [e]
theorem eqv_reads (rs rs' : List (List Nat)) : PyData.eqv (readsD rs) (readsD rs') = decide (rs = rs') := by
  unfold readsD
  rw [PyData.eqv, eqvAll_lots]
theorem sm_reads {rs : List (List Nat)} (g : WB.Good rs) : Sm 210 2 (readsD rs) := by
  refine sm_tup (b := 20) (k := 1) (n := 10) (fun x hx => ?_) ?_
  · obtain ⟨l, hl, rfl⟩ := List.mem_map.mp hx
    obtain ⟨j, hj, ej⟩ := List.mem_iff_getElem.mp hl
    obtain ⟨h1, h2⟩ := g.asc j l (by rw [List.getElem?_eq_getElem hj, ej])
    have := g.le
    have hlen := (show Valid j l from ⟨h1, h2⟩).len
    exact sm_lot (by omega) fun x hx => by have := h2 x hx; omega
  · rw [List.length_map]
    exact g.le
end TX
set_option Elab.async false
set_option linter.all false
set_option maxRecDepth 100000
set_option maxHeartbeats 4000000
/-! LI: the law's 'is' over data. -/
namespace TX
open PySem PySem.Spec PyProof.Rows L2 RX WB
/-- two things that are told alike -/
def spIs (K : PySem.W.Frag) : Sp := fun vs H Q _ => ∃ (x y : V) (d : PyData) (b k : Nat), vs = [x, y] ∧ Dp K H x d ∧ Dp K H y d ∧ Sm b k d ∧ b ≤ 1000000 ∧ k ≤ 60 ∧ Q (.bl true) H
section
variable {P : Program} {w : World} {K : PySem.W.Frag} {mg : Str → Option Value} {base : Heap}
theorem ok_is (B : Bts mg) (D : DefAt K mg "_law_is" s_law_is ["_law_told", "_law_due"]) : FnG P w K mg base CX0 1 D.f D.fd ["_law_told", "_law_due"] (spIs K) := by
  refine okG D.F sc_is (fun vs H Q E h => ?_) (fun cdv A outer s H vs Q E gd hr h => ?_)
  · obtain ⟨x, y, d, b, k, rfl, _⟩ := h
    rfl
  · obtain ⟨x, y, d, b, k, rfl, h1, h2, sm, hb, hk, q⟩ := h
    refine ⟨_, pss_one (ps_ret (pe_cmpR op_eq (pe_callB (cr_repr gd hr.units) (by rfl) B.repr boot_repr (pa_cons (pv 0) pa_nil)) (pe_callB (cr_repr gd hr.units) (by rfl) B.repr boot_repr (pa_cons (pv 1) pa_nil)) (nomark _))), ?_⟩
    refine ⟨_, rfl, x, d, rfl, h1, sm.shw, sm.nod, Nat.le_trans sm.dep hk, sm.short hb, ?_⟩
    refine ⟨_, rfl, y, d, rfl, h2, sm.shw, sm.nod, Nat.le_trans sm.dep hk, sm.short hb, rfl, ?_⟩
    rw [decide_eq_true rfl]
    exact q
/-- f(e, ..) of a def that stands as a global, where no guard stands -/
theorem pclG {X : Cx} {x : Str} {st : Stmt} {ps : List Str} {k : Nat} {sp : Sp} {e : Expr} {es : List Expr} {t : TA} {p pos : Pos} (D : DefAt X.K X.mg x st ps) (G : FnG X.prog X.w X.K X.mg X.base CX0 k D.f D.fd ps sp) (gd : X.A.guards = some []) (hr : Room k X.A) (hg : Gl X x) (ha : PA X (e :: es) t)
    (hdb : (x == ("__debug__" : Str)) = false := by decide) (he : starEach (e :: es) X.env = (false, eval e X.env) :: starEach es X.env := by rfl) (hpl : (backTo pos (starEach es X.env)).any (·.1) = false := by rfl) :
    PE X (.Call (.Name x p) (e :: es) [] pos) (tCall sp [] E0 t) := pe_callG G gd hr hg D.g D.F.kp D.b .nil pass0 ha hdb he hpl
end
end TX
set_option Elab.async false
set_option linter.all false
set_option maxRecDepth 100000
set_option maxHeartbeats 4000000
/-! DM: moves as data. -/
namespace TX
open PySem PySem.Spec PyProof.Rows L2 RX WB
def mvD : Mv → PyData
  | .clear t => .tuple [.str "clear", .int (t : Nat)]
  | .fill t => .tuple [.str "fill", .int (t : Nat)]
  | .slide t o => .tuple [.str "slide", .int (t : Nat), .int (o : Nat)]
def movesD (ms : List Mv) : PyData := .tuple (ms.map mvD)
theorem dp_mv {K : PySem.W.Frag} {H : Hp} {a : Addr} {v : Mv} (h : MvAt H a v) : Dp K H (.ref a) (mvD v) := by
  cases v with
  | clear t => exact .tup (SqT.of h) (.cons (.str _) (.cons (.int _) .nil))
  | fill t => exact .tup (SqT.of h) (.cons (.str _) (.cons (.int _) .nil))
  | slide t o => exact .tup (SqT.of h) (.cons (.str _) (.cons (.int _) (.cons (.int _) .nil)))
theorem dpAll_mvs {K : PySem.W.Frag} {H : Hp} {as : List Addr} {ms : List Mv} (h : MvsAt H as ms) : DpAll K H (as.map V.ref) (ms.map mvD) := by
  induction h with
  | nil => exact .nil
  | cons a _ ih => exact .cons (dp_mv a) ih
theorem dp_moves {K : PySem.W.Frag} {H : Hp} {T : Addr} {as : List Addr} {ms : List Mv} (h : H T = some (.tup (as.map V.ref))) (m : MvsAt H as ms) : Dp K H (.ref T) (movesD ms) := .tup (SqT.of h) (dpAll_mvs m)
theorem sm_str {z : Str} (h1 : PyData.canLay0 (.str z) = true) (h2 : PyData.leavesShort 13 (.str z) = true) (h3 : z.cps.size ≤ 20) : Sm 20 0 (.str z) :=
  ⟨h1, by simp [PyData.showable], by simp [PyData.hasDict], by simp [PyData.depth], by simpa [PyData.bulk] using h3, h2⟩
theorem sm_clear : Sm 20 0 (.str "clear") := sm_str (by decide +kernel) (by decide +kernel) (by decide +kernel)
theorem sm_fill : Sm 20 0 (.str "fill") := sm_str (by decide +kernel) (by decide +kernel) (by decide +kernel)
theorem sm_slide : Sm 20 0 (.str "slide") := sm_str (by decide +kernel) (by decide +kernel) (by decide +kernel)
theorem sm_mv {n : Nat} (hn : n ≤ 1000) {v : Mv} (h : insM n v) : Sm 63 1 (mvD v) := by
  have num : ∀ t : Nat, t < n → Sm 20 0 (.int (t : Nat)) := fun t ht => (sm_int (by omega) (by omega)).mono (by omega) (by omega)
  cases v with
  | clear t =>
    refine (sm_tup (b := 20) (k := 0) (n := 3) (fun x hx => ?_) (by simp)).mono (by omega) (by omega)
    simp only [List.mem_cons, List.not_mem_nil, or_false] at hx
    rcases hx with rfl | rfl
    · exact sm_clear
    · exact num t h
  | fill t =>
    refine (sm_tup (b := 20) (k := 0) (n := 3) (fun x hx => ?_) (by simp)).mono (by omega) (by omega)
    simp only [List.mem_cons, List.not_mem_nil, or_false] at hx
    rcases hx with rfl | rfl
    · exact sm_fill
    · exact num t h
  | slide t o =>
    refine (sm_tup (b := 20) (k := 0) (n := 3) (fun x hx => ?_) (by simp)).mono (by omega) (by omega)
    simp only [List.mem_cons, List.not_mem_nil, or_false] at hx
    rcases hx with rfl | rfl | rfl
    · exact sm_slide
    · exact num t h.1
    · exact num o h.2
theorem sm_moves {n : Nat} (hn : n ≤ 1000) {ms : List Mv} (hl : ms.length ≤ 2000) (h : ∀ v ∈ ms, insM n v) : Sm 128000 2 (movesD ms) := by
  refine sm_tup (b := 63) (k := 1) (n := 2000) (fun x hx => ?_) (by rw [List.length_map]; exact hl)
  obtain ⟨v, hv, rfl⟩ := List.mem_map.mp hx
  exact sm_mv hn (h v hv)
theorem eqv_mv (v : Mv) : PyData.eqv (mvD v) (mvD v) = true := by
  cases v <;> simp [mvD, PyData.eqv, PyData.eqvAll]
theorem eqv_moves (ms : List Mv) : PyData.eqv (movesD ms) (movesD ms) = true := by
  unfold movesD
  rw [PyData.eqv]
  induction ms with
  | nil => simp [PyData.eqvAll]
  | cons v ms ih => simp [PyData.eqvAll, eqv_mv, ih]
/-- moves of steps are such as the judge asks -/
theorem insM_path {rs : List (List Nat)} (g : WB.Good rs) {rooms : Nat} {apart : Bool} {ms : List Mv} {l0 l : List Nat} (p : Path (Step rs rooms apart) l0 ms l) : ∀ v ∈ ms, insM rs.length v := fun v hv => by
  obtain ⟨h1, _, b, c, h2⟩ := path_ap p v hv
  cases v with
  | clear t => exact h1
  | fill t => exact h1
  | slide t o =>
    obtain ⟨_, ho, _⟩ := after_slide.mp h2
    have := g.lot_lt ho
    exact ⟨h1, by omega⟩
theorem MvsAt.at {H : Hp} {as : List Addr} {ms : List Mv} (h : MvsAt H as ms) : ∀ {i : Nat} {a : Addr} {v : Mv}, as[i]? = some a → ms[i]? = some v → MvAt H a v := fun {i a v} e1 e2 => by
  obtain ⟨u, h1, h2⟩ := h.get e1
  rw [e2] at h1
  cases h1
  exact h2
theorem mvKs_of {K : PySem.W.Frag} {n : Nat} {H : Hp} {as : List Addr} {ms : List Mv} (h : MvsAt H as ms) (hi : ∀ v ∈ ms, insM n v) : MvKs K n H (as.map V.ref) (ms.map some) := by
  refine ⟨by rw [List.length_map, List.length_map, h.length], fun i x v e1 e2 => ?_⟩
  rw [List.getElem?_map] at e1 e2
  obtain ⟨a, ha, rfl⟩ := Option.map_eq_some_iff.mp e1
  obtain ⟨u, hu, rfl⟩ := Option.map_eq_some_iff.mp e2
  exact .yes (h.at ha hu) (hi u (List.mem_of_getElem? hu))
end TX
set_option Elab.async false
set_option linter.all false
set_option maxRecDepth 100000
set_option maxHeartbeats 8000000
/-! K56: the law of k56. -/
namespace TX
open PySem PySem.Spec PyProof.Rows L2 RX WB
def spLaw (K : PySem.W.Frag) : Sp := fun vs H Q _ => ∃ (a : Addr) (ns : List Int), vs = [.ref a] ∧ SqL K H a (ns.map V.int) ∧ ns.length ≤ 63 ∧ ∀ H', Q (.bl true) H'
theorem ReadsAt.tk {H H' : Hp} {T : Addr} {rs : List (List Nat)} (h : ReadsAt H T rs) (t : TK H H') : ReadsAt H' T rs := by
  obtain ⟨as, h1, h2, h3⟩ := h.ex
  exact ⟨as, t _ _ h1, h2, fun j a l e1 e2 => t _ _ (h3 j a l e1 e2)⟩
theorem WebAt.px {C x T p : Addr} {H H' : Hp} {rs : List (List Nat)} (h : WebAt C H x T rs) (hp : PoolAt H p) (n : x ≠ p) (s : PoolStep p H H') : WebAt C H' x T rs := by
  obtain ⟨⟨dx, hx⟩, hr⟩ := h
  exact ⟨⟨dx, s.sx _ _ hx n⟩, hr.tk (hp.tk s.sx)⟩
/-- a shortest way is judged right -/
theorem judged {rs : List (List Nat)} {rooms : Nat} {apart : Bool} {ms : List Mv} {l : List Nat} (p : Path (Step rs rooms apart) [] ms l) (hg : Goal rs l) :
    ∃ m, takenO rs (ms.map some) = some m ∧ m ≤ rooms ∧ takenLO rs apart (ms.map some) = some m ∧ isMakingO rs rooms apart (ms.map some) = true := by
  obtain ⟨m, h1, h2⟩ := runM_path p (m0 := 0) (Nat.zero_le _)
  have e1 : takenO rs (ms.map some) = some m := by
    rw [takenO_some]
    unfold takenM
    rw [h1]
    show (if l.contains (rs.length - 1) = true then some m else none) = some m
    rw [if_pos (by simpa using hg)]
  have ns : apart = true → (ms.map some).any slidO = false := fun ha => by
    cases e : (ms.map some).any slidO with
    | false => rfl
    | true =>
      rw [List.any_map, List.any_eq_true] at e
      obtain ⟨u, hu, z⟩ := e
      have := (path_ap p u hu).2.1 ha
      have z' : u.slid = true := z
      rw [this] at z'
      cases z'
  refine ⟨m, e1, h2, ?_, ?_⟩
  · unfold takenLO
    rw [if_neg, e1]
    rintro ⟨z1, z2⟩
    rw [ns z1] at z2
    cases z2
  · unfold isMakingO
    rw [e1]
    show (decide (m ≤ rooms) && (!apart || !((ms.map some).any slidO))) = true
    rw [decide_eq_true h2, Bool.true_and]
    cases apart with
    | false => rfl
    | true => rw [ns rfl]; rfl
section
variable {P : Program} {w : World} {K : PySem.W.Frag} {mg : Str → Option Value} {base : Heap}
theorem sc_law : FnScope ["_law_script", "_law_pool_here", "_law_turn", "_law_reads", "_law_web", "_law_apart", "_law_least_here", "_law_rooms", "_law_due", "_law_told", "_law_many"] ["_law_script"] (defScope s_law) := ⟨rfl, rfl, rfl, by decide +kernel, rfl, by decide +kernel, by decide +kernel⟩
/-- all defs of the text -/
structure All (K : PySem.W.Frag) (w : World) (mg : Str → Option Value) where
  G : Mkg K w mg
  R : Srch K mg
  eS : R.S = G.J.S
  L : Lws K mg
  J : Ljg K mg
  un : mg "min" = none
  a1 : DefAt K mg "making" s_making ["web", "rooms", "apart"]
  b1 : DefAt K mg "_law_pool" s_law_pool ["_law_script"]
  b2 : DefAt K mg "_law_draw" s_law_draw ["_law_pool_here", "_law_many"]
  b3 : DefAt K mg "_law_web_reads" s_law_web_reads ["_law_pool_here", "_law_most"]
  b4 : DefAt K mg "_law_fewest" s_law_fewest ["_law_reads", "_law_rooms", "_law_apart", "_law_begun"]
  b5 : DefAt K mg "_law_least" s_law_least ["_law_reads", "_law_apart"]
  b6 : DefAt K mg "_law_is" s_law_is ["_law_told", "_law_due"]
theorem ok_law (Z : All K w mg) (D : DefAt K mg "law" s_law ["_law_script"]) : FnG P w K mg base CX0 7 D.f D.fd ["_law_script"] (spLaw K) := by
  have B := Z.L.B
  refine okG D.F sc_law (fun vs H Q E h => ?_) (fun cdv A outer s H vs Q E gd hr h => ?_)
  · obtain ⟨a, ns, rfl, _⟩ := h
    rfl
  · obtain ⟨a, ns, rfl, hS, hn, k⟩ := h
    have GP : FnOk P w K mg base CX0 1 Z.b1.f Z.b1.fd ["_law_script"] (spPool K) := ok_pool B Z.b1
    have GD : FnOk P w K mg base CX0 1 Z.b2.f Z.b2.fd ["_law_pool_here", "_law_many"] spDraw := ok_draw B Z.b2
    have GR : FnOk P w K mg base CX0 2 Z.b3.f Z.b3.fd ["_law_pool_here", "_law_most"] spWebReads := ok_webReads B Z.b2 Z.b3
    have GW : FnOk P w K mg base CX0 5 Z.R.S.W.fI Z.R.S.W.fdI ["self", "reads"] (spWebInit Z.R.S.W.C) := ok_webInit Z.R.S.Z Z.R.S.W
    have GL : FnOk P w K mg base CX0 3 Z.b5.f Z.b5.fd ["_law_reads", "_law_apart"] spLeastW := ok_leastW Z.L Z.b4 Z.b5
    have GF : FnOk P w K mg base CX0 2 Z.b4.f Z.b4.fd ["_law_reads", "_law_rooms", "_law_apart", "_law_begun"] spFewest := ok_fewest Z.L Z.b4
    have GI : FnG P w K mg base CX0 1 Z.b6.f Z.b6.fd ["_law_told", "_law_due"] (spIs K) := ok_is B Z.b6
    have GM : FnOk P w K mg base CX0 4 Z.a1.f Z.a1.fd ["web", "rooms", "apart"] (spMaking Z.R.S.W.C) := ok_making Z.R Z.G.C Z.a1
    have GT : FnOk P w K mg base CX0 3 Z.J.n3.f Z.J.n3.fd ["_law_reads", "_law_apart", "_law_moves"] (spTakenL K) := ok_takenL Z.J
    have GK : FnOk P w K mg base CX0 6 Z.G.m3.f Z.G.m3.fd ["web", "rooms", "apart", "thing"] (spMakIn K Z.G.J.S.W.C) := ok_isMaking Z.G
    have GN : FnOk P w K mg base CX0 5 Z.G.m4.f Z.G.m4.fd ["web", "moves"] (spTakenR K Z.G.J.S.W.C) := ok_takenR Z.G
    refine ⟨_, pss_cons (ps_set (i := 1) sc_law.nd rfl (Or.inl rfl) (pcl Z.b1 GP (hr.mono (by decide)) (by rfl) (pa_cons (pv 0) pa_nil)))
      (pss_cons (ps_for PassesOwn.never rfl (pi_range1 rfl B.range (pa_cons pe_int pa_nil)) (pg_name (i := 2) sc_law.nd rfl (Or.inl rfl))
        (pss_cons (ps_set (i := 3) sc_law.nd rfl (Or.inl rfl) (pcl Z.b3 GR (hr.mono (by decide)) (by rfl) (pa_cons (pv 1) (pa_cons pe_int pa_nil))))
        (pss_cons (ps_set (i := 4) sc_law.nd rfl (Or.inl rfl) (pe_make Z.R.S.W.mkr GW hr (by rfl) Z.R.S.W.mgC Z.R.S.W.bI .nil pass0 (pa_cons (pv 3) pa_nil)))
        (pss_one (ps_for PassesOwn.never rfl (pi_tup (pe_tup (pa_cons pe_bl (pa_cons pe_bl pa_nil)))) (pg_name (i := 5) sc_law.nd rfl (Or.inl rfl))
          (pss_cons (ps_set (i := 6) sc_law.nd rfl (Or.inl rfl) (pcl Z.b5 GL (hr.mono (by decide)) (by rfl) (pa_cons (pv 3) (pa_cons (pv 5) pa_nil))))
          (pss_one (ps_for PassesOwn.never rfl (pi_list (pe_lst (pa_cons (pe_op op_sub (pv 6) pe_int) (pa_cons (pv 6) (pa_cons (pe_op op_add (pe_op op_add (pv 6) pe_int) (pcl Z.b2 GD (hr.mono (by decide)) (by rfl) (pa_cons (pv 1) (pa_cons pe_int pa_nil)))) (pa_cons (pe_ix ix_list (pe_lst (pa_cons pe_int (pa_cons pe_int pa_nil))) (pcl Z.b2 GD (hr.mono (by decide)) (by rfl) (pa_cons (pv 1) (pa_cons pe_int pa_nil))) (fun _ _ => rfl)) pa_nil)))))) (pg_name (i := 7) sc_law.nd rfl (Or.inl rfl))
            (pss_cons (ps_set (i := 8) sc_law.nd rfl (Or.inl rfl) (pcl Z.b4 GF (hr.mono (by decide)) (by rfl) (pa_cons (pv 3) (pa_cons (pe_callB (call_min2 rfl) (by rfl) Z.un boot_min (pa_cons (pv 7) (pa_cons (pe_callB call_len_seq (by rfl) B.len PySem.boot_len (pa_cons (pv 3) pa_nil)) pa_nil))) (pa_cons (pv 5) (pa_cons pe_int pa_nil))))))
            (pss_cons (ps_set (i := 9) sc_law.nd rfl (Or.inl rfl) (pcl Z.a1 GM (hr.mono (by decide)) (by rfl) (pa_cons (pv 4) (pa_cons (pv 7) (pa_cons (pv 5) pa_nil)))))
            (pss_cons (ps_if (PW.pt (pw_or (pt_cmpR op_ne (pe_cmpR op_isN (pv 9) pe_non (nomark _)) (pe_cmpR op_isN (pv 8) pe_non (nomark _)) (nomark _))
                (pw_or1 (pt_cmpR (op_neD hr.units) (pv 9) (pcl Z.a1 GM (hr.mono (by decide)) (by rfl) (pa_cons (pv 4) (pa_cons (pv 7) (pa_cons (pv 5) pa_nil)))) (nomark _))))) (pss_one (ps_ret pe_bl)) pss_nil)
            (pss_one (ps_if (pt_cmpR op_notN (pv 9) pe_non (nomark _))
              (pss_cons (ps_set (i := 10) sc_law.nd rfl (Or.inl rfl) (pcl Z.J.n3 GT (hr.mono (by decide)) (by rfl) (pa_cons (pv 3) (pa_cons (pv 5) (pa_cons (pv 9) pa_nil)))))
              (pss_cons (ps_if (PW.pt (pw_or (pt_cmpR op_isN (pv 10) pe_non (nomark _)) (pw_or (pt_cmpR op_gt (pv 10) (pv 7) (nomark _)) (pw_or1 (pt_cmpR op_ne (pe_callB call_len_seq (by rfl) B.len PySem.boot_len (pa_cons (pv 9) pa_nil)) (pe_callB call_len_seq (by rfl) B.len PySem.boot_len (pa_cons (pv 8) pa_nil)) (nomark _)))))) (pss_one (ps_ret pe_bl)) pss_nil)
              (pss_one (ps_if (PW.pt (pw_or (pt_cmpR op_isnot_bl (pcl Z.G.m3 GK hr (by rfl) (pa_cons (pv 4) (pa_cons (pv 7) (pa_cons (pv 5) (pa_cons (pv 9) pa_nil))))) pe_bl (nomark _))
                  (pw_or1 (pt_not (pt_val (pclG Z.b6 GI gd (hr.mono (by decide)) (by rfl) (pa_cons (pcl Z.G.m4 GN (hr.mono (by decide)) (by rfl) (pa_cons (pv 4) (pa_cons (pv 9) pa_nil))) (pa_cons (pv 10) pa_nil)))))))) (pss_one (ps_ret pe_bl)) pss_nil)))) pss_nil)))))))))))))
      (pss_one (ps_ret pe_bl))), ?_⟩
    have hC : Z.G.J.S.W.C = Z.R.S.W.C := by rw [Z.eS]
    refine ⟨_, rfl, a, ns, rfl, hS, hn, fun H1 p s1 hp0 hP => ?_⟩
    refine ⟨_, rfl, by decide, by decide, ?_⟩
    refine for_it (walk_range (lo := 0) (n := (2 : Int).toNat)) (fun i σ H1 => ∃ v2 v3 v4 v5 v6 v7 v8 v9 v10 : Option V, σ = [some (.ref a), some (.ref p), v2, v3, v4, v5, v6, v7, v8, v9, v10] ∧ PoolAt H1 p) ⟨none, none, none, none, none, none, none, none, none, rfl, hP⟩ (fun _ _ _ _ _ => trivial) ?_ ?_
    · rintro t y σ H2 H2' ht ⟨v2, v3, v4, v5, v6, v7, v8, v9, v10, rfl, hP2⟩ ⟨rfl, hy⟩
      refine ⟨_, rfl, p, 7, rfl, hP2, by decide, by decide, fun H3 T rs s3 hR g _ => ?_⟩
      have hP3 := s3.po
      have g2 := g.le
      refine ⟨_, rfl, fun x dx hx hdx hne => ?_⟩
      have s4 : Same H3 (upd (upd H3 dx (.own x)) x (.ins Z.R.S.W.C dx [])) := same_at (same_new hdx) hx
      refine ⟨x, dx, T, rs, rfl, upd_same, hR.same s4, g, fun H4 hW hk => ⟨rfl, ?_⟩⟩
      have s5 : Same H3 H4 := fun b o e => hk b o (s4 b o e) (ne_of_none e hx)
      have hP4 := hP3.keep s5
      have nxp : x ≠ p := hP3.ne hx
      refine ⟨by show 2 ≤ sizeLine; decide, fun q2 hq2 => ⟨q2, rfl, ⟨_, SqT.of upd_same⟩, ?_⟩⟩
      have s6 : Same H4 (upd H4 q2 (.tup [.bl false, .bl true])) := same_new hq2
      refine for_it (walk_tup (K := K) (a := q2) (xs := [.bl false, .bl true])) (fun i σ H5 => ∃ v5 v6 v7 v8 v9 v10 : Option V, σ = [some (.ref a), some (.ref p), some y, some (.ref T), some (.ref x), v5, v6, v7, v8, v9, v10] ∧ PoolAt H5 p ∧ WebAt Z.R.S.W.C H5 x T rs ∧ H5 q2 = some (.tup [.bl false, .bl true]))
        ⟨v5, v6, v7, v8, v9, v10, rfl, hP4.keep s6, hW.same s6, upd_same⟩ (fun i σ H5 _ ⟨_, _, _, _, _, _, _, _, _, z⟩ => SqT.of z) ?_ ?_
      · rintro i ya σ H5 H5' hi ⟨v5, v6, v7, v8, v9, v10, rfl, hP5, hW5, dq5⟩ ⟨rfl, hya⟩
        obtain ⟨b, rfl⟩ : ∃ b : Bool, ya = .bl b := by
          have := List.mem_of_getElem? hya
          simp only [List.mem_cons, List.not_mem_nil, or_false] at this
          rcases this with h | h
          · exact ⟨_, h⟩
          · exact ⟨_, h⟩
        refine ⟨_, rfl, _, rfl, T, rs, b, rfl, hW5.rd, g, fun H6 r s7 hr6 hr6l => ?_⟩
        have hP6 := hP5.keep s7
        have hW6 := hW5.same s7
        have rp := hr6.pos
        refine ⟨_, rfl, _, _, rfl, rfl, _, rfl, _, rfl, _, _, rfl, rfl, _, rfl, p, _, rfl, hP6, by decide, by decide, fun H7 d s8 hd0 hd1 => ⟨_, _, rfl, rfl, ?_⟩⟩
        refine ⟨by show 2 ≤ sizeLine; decide, fun q3 hq3 => ?_⟩
        have hP8 := s8.po.new (o := .lst [.int 0, .int 12]) hq3
        refine ⟨_, rfl, p, _, rfl, hP8, by decide, by decide, fun H8 d2 s9 he0 he1 => ?_⟩
        have nq3 : q3 ≠ p := s8.po.ne hq3
        have dq8 := s9.sx _ _ (upd_same : upd H7 q3 (.lst [.int 0, .int 12]) q3 = _) nq3
        obtain ⟨n2, hn2, hn2l⟩ : ∃ n : Nat, atI [V.int 0, V.int 12] d2 = some (.int (n : Nat)) ∧ n ≤ 12 := by
          rcases (show d2 = 0 ∨ d2 = 1 by omega) with rfl | rfl
          · exact ⟨0, atI_nat (j := 0) rfl, by decide⟩
          · exact ⟨12, atI_nat (j := 1) rfl, by decide⟩
        refine ⟨q3, _, _, _, rfl, rfl, SqL.of dq8, hn2, ?_⟩
        refine ⟨by show 4 ≤ sizeLine; decide, fun Lr hLr => ⟨Lr, rfl, ⟨_, SqL.of upd_same⟩, ?_⟩⟩
        have st8 := (s8.trans (.new s8.po hq3)).trans s9
        have hW8 := hW6.px hP6 nxp st8
        have dq28 : H8 q2 = some (.tup [.bl false, .bl true]) := hP6.tk st8.sx _ _ (s7 _ _ dq5)
        have four : ∀ (i : Nat) (y : V), [V.int (((r : Nat) : Int) - 1), .int ((r : Nat) : Int), .int (((r : Nat) : Int) + 1 + d), .int ((n2 : Nat) : Int)][i]? = some y → ∃ n : Nat, y = .int (n : Nat) ∧ n ≤ 12 := fun i y e => by
          have := List.mem_of_getElem? e
          simp only [List.mem_cons, List.not_mem_nil, or_false] at this
          rcases this with rfl | rfl | rfl | rfl
          · exact ⟨r - 1, congrArg V.int (by omega), by omega⟩
          · exact ⟨r, rfl, by omega⟩
          · exact ⟨(((r : Nat) : Int) + 1 + d).toNat, congrArg V.int (by omega), by omega⟩
          · exact ⟨n2, rfl, hn2l⟩
        have s10 : Same H8 (upd H8 Lr (.lst [V.int (((r : Nat) : Int) - 1), .int ((r : Nat) : Int), .int (((r : Nat) : Int) + 1 + d), .int ((n2 : Nat) : Int)])) := same_new hLr
        refine for_it (walk_list (K := K) (a := Lr) (xs := [V.int (((r : Nat) : Int) - 1), .int ((r : Nat) : Int), .int (((r : Nat) : Int) + 1 + d), .int ((n2 : Nat) : Int)])) (fun j σ H9 => ∃ v7 v8 v9 v10 : Option V, σ = [some (.ref a), some (.ref p), some y, some (.ref T), some (.ref x), some (.bl b), some (.int (r : Nat)), v7, v8, v9, v10] ∧ Same (upd H8 Lr (.lst [V.int (((r : Nat) : Int) - 1), .int ((r : Nat) : Int), .int (((r : Nat) : Int) + 1 + d), .int ((n2 : Nat) : Int)])) H9)
          ⟨v7, v8, v9, v10, rfl, Same.refl _⟩ (fun j σ H9 _ ⟨_, _, _, _, _, z⟩ => SqL.of (z _ _ upd_same)) ?_ ?_
        · rintro j yr σ H9 H9' hj ⟨v7, v8, v9, v10, rfl, s11⟩ ⟨rfl, hyr⟩
          obtain ⟨n, rfl, hn12⟩ := four j yr hyr
          have hW9 := hW8.same (s10.trans s11)
          obtain ⟨wr, hT, hal, hat⟩ := hW9.rd.ex
          have hlen : (wr.map V.ref).length = rs.length := by rw [List.length_map, hal]
          have emin : (if (((wr.map V.ref).length : Nat) : Int) < ((n : Nat) : Int) then (((wr.map V.ref).length : Nat) : Int) else ((n : Nat) : Int)) = ((min n rs.length : Nat) : Int) := by
            rw [hlen]
            split <;> omega
          refine ⟨_, rfl, _, rfl, _, rfl, T, _, rfl, .inr (SqT.of hT), _, _, rfl, _, rfl, T, rs, min n rs.length, b, [], ?_, hW9.rd, g, valid_nil _, Nat.zero_le _, fun H10 s12 hno => ?_, fun H10 Md bd msd ld s12 hMd mmd pd hgd hmind => ?_⟩
          · rw [emin]
            rfl
          · -- nothing is due
            have nor : ¬ Reach rs n b := fun ⟨ms, l, p, hg⟩ => hno ms l ((step_min (valid_nil _)).mp p) hg
            have hW10 := hW9.same s12
            refine ⟨_, rfl, _, rfl, _, rfl, x, T, rs, n, b, rfl, hW10, g, hn12, fun H11 s13 _ => ?_, fun H11 M bs ms l s13 _ _ p hg _ _ _ => absurd ⟨ms, l, p, hg⟩ nor⟩
            have hW11 := hW10.same s13
            refine ⟨_, rfl, rfl, _, rfl, rfl, rfl, _, rfl, ite2 (fun c => absurd c (by simp)) (fun _ => ?_)⟩
            refine ⟨_, rfl, _, rfl, _, rfl, _, rfl, x, T, rs, n, b, rfl, hW11, g, hn12, fun H12 s14 _ => ?_, fun H12 M bs ms l s14 _ _ p hg _ _ _ => absurd ⟨ms, l, p, hg⟩ nor⟩
            refine ⟨_, _, .non, .non, sm_non.shaped (by decide), sm_non.shaped (by decide), _, rfl, ite2 (fun c => absurd c (by simp [PyData.eqv])) (fun _ => ?_)⟩
            exact ⟨_, rfl, rfl, _, rfl, iteF ⟨_, _, _, _, rfl, ((s11.trans s12).trans s13).trans s14⟩⟩
          · -- a making is due
            have rea : Path (Step rs n b) [] msd ld := (step_min (valid_nil _)).mpr pd
            have hW10 := hW9.same s12
            refine ⟨_, rfl, _, rfl, _, rfl, x, T, rs, n, b, rfl, hW10, g, hn12, fun H11 s13 nor => absurd ⟨msd, ld, rea, hgd⟩ nor, fun H11 M bs ms l s13 hM mm pm hg hmin hsh hle => ?_⟩
            have hW11 := hW10.same s13
            refine ⟨_, rfl, rfl, _, rfl, rfl, rfl, _, rfl, ite2 (fun c => absurd c (by simp)) (fun _ => ?_)⟩
            refine ⟨_, rfl, _, rfl, _, rfl, _, rfl, x, T, rs, n, b, rfl, hW11, g, hn12, fun H12 s14 nor => absurd ⟨msd, ld, rea, hgd⟩ nor, fun H12 M2 bs2 ms2 l2 s14 hM2 mm2 _ _ _ hsh2 _ => ?_⟩
            have e2 : ms2 = ms := hsh2.unique hsh
            subst e2
            have hM12 := s14 _ _ hM
            have mm12 := mm.keep (TK.of s14)
            have ins := insM_path g pm
            have sm := sm_moves (n := rs.length) (by omega) (ms := ms2) (by omega) ins
            have hlb := mm.length
            refine ⟨_, _, dp_moves hM12 mm12, dp_moves hM2 mm2, sm.shaped (by decide), sm.shaped (by decide), _, rfl, ite2 (fun c => absurd c (by rw [eqv_moves]; simp)) (fun _ => ?_)⟩
            refine ⟨_, rfl, rfl, _, rfl, iteT ?_⟩
            have hW12 := hW11.same s14
            obtain ⟨m, j1, j2, j3, j4⟩ := judged pm hg
            have K12 := mvKs_of (K := K) mm12 ins
            have hl5 : (bs.map V.ref).length ≤ 5000 := by rw [List.length_map]; omega
            refine ⟨_, rfl, _, rfl, _, rfl, T, .ref M, rs, b, rfl, hW12.rd, g, .inr ⟨M, _, _, rfl, hM12, hl5, K12, fun H13 s15 => ?_⟩⟩
            rw [j3]
            have hM13 := s15 _ _ hM12
            have hMd13 := (s13.trans (s14.trans s15)) _ _ hMd
            have hld := mmd.length
            have elen : ms2.length = msd.length := by
              have a1 := hmin msd ld rea hgd
              have a2 := hmind ms2 l ((step_min (valid_nil _)).mp pm) hg
              omega
            refine ⟨_, rfl, rfl, _, rfl, iteN (by intro z; cases z) ?_⟩
            refine ⟨_, rfl, _, rfl, _, _, rfl, rfl, _, rfl, iteN (by omega) ?_⟩
            refine ⟨_, rfl, M, _, rfl, .inr (SqT.of hM13), _, rfl, Md, _, rfl, .inr (SqT.of hMd13), rfl, _, rfl, ite2 (fun c => absurd c ?_) (fun _ => ?_)⟩
            · rw [List.length_map, List.length_map, hlb, hld, elen]
              simp
            have hW13 := hW12.same s15
            have hW13e : WebAt Z.G.J.S.W.C H13 x T rs := by rw [hC]; exact hW13
            have K13 := K12.same s15
            refine ⟨_, rfl, _, rfl, _, rfl, _, rfl, x, T, .ref M, rs, n, b, rfl, hn12, hW13e, g, .inr ⟨M, _, _, rfl, hM13, hl5, K13, fun H14 s16 => ?_⟩⟩
            rw [j4]
            refine ⟨_, _, rfl, rfl, _, rfl, ite2 (fun c => absurd c (by simp)) (fun _ => ?_)⟩
            refine ⟨_, rfl, _, rfl, x, T, M, rs, _, _, m, rfl, hW13e.same s16, g, s16 _ _ hM13, hl5, K13.same s16, j1, fun H15 s17 => ?_⟩
            exact ⟨_, rfl, _, _, .int ((m : Nat) : Int), 0, 0, rfl, .int _, .int _, sm_int (by omega) (by omega), by decide, by decide, true, rfl, iteF ⟨_, _, _, _, rfl, ((((s11.trans s12).trans s13).trans s14).trans s15).trans (s16.trans s17)⟩⟩
        · rintro σ H9 ⟨v7, v8, v9, v10, rfl, s11⟩
          have s12 := s10.trans s11
          exact ⟨_, _, _, _, _, _, rfl, st8.po.keep s12, hW8.same s12, s12 _ _ dq28⟩
      · rintro σ H5 ⟨v5, v6, v7, v8, v9, v10, rfl, hP5, hW5, dq5⟩
        exact ⟨_, _, _, _, _, _, _, _, _, rfl, hP5⟩
    · rintro σ H2 ⟨v2, v3, v4, v5, v6, v7, v8, v9, v10, rfl, hP2⟩
      exact k H2
end
end TX
set_option Elab.async false
set_option linter.all false
set_option maxRecDepth 100000
set_option maxHeartbeats 4000000
/-! HX: a head's facts with a further look at the part of the heap. -/
namespace HX
open PySem PySem.Spec PyProof.Rows L2
abbrev AlE : Type := He.AlD × Bool
def obsE (ex : PySem.W.Frag → Bool) (n : Nat) (fa : List He.Fa) (fn : List He.DefD) (g : Addr → Option Obj) : AlE := (He.obsD fa fn (He.frG g (He.asD g n)), ex (He.frG g (He.asD g n)))
def hookE (ex : PySem.W.Frag → Bool) (n : Nat) (fa : List He.Fa) (fn : List He.DefD) : PySem.W.Hook where
  α := AlE
  obs := fun s => obsE ex n fa fn s.heap.get?
  val := fun _ => (He.valD fn, true)
  says := fun _ h => ∃ K : PySem.W.Frag, K.In h ∧ He.SaysD fa fn K ∧ ex K = true
  of := fun _ _ e => ⟨_, He.frG_in, congrArg Prod.fst e, congrArg Prod.snd e⟩
  keeps := fun _ _ _ ⟨K, hK, c, d⟩ k => ⟨K, PySem.W.Frag.In.keeps hK k, c, d⟩
theorem obsE_eq {ex : PySem.W.Frag → Bool} {n : Nat} {fa : List He.Fa} {fn : List He.DefD} {g : Addr → Option Obj} {s : Shared} (h : ∀ a, g a = s.heap.get? a) : obsE ex n fa fn g = (hookE ex n fa fn).obs s := by
  have e : g = s.heap.get? := funext h
  rw [e] <;> rfl
/-- what a class with an own == and no own != must have -/
def eqCls (K : PySem.W.Frag) (x : Str) : Bool :=
  decide (PySem.W.findIn K (.ref (He.ga K x)) "__ne__" = some (some (.builtin "object.__ne__"))) && (decide (PySem.W.mroIn K (He.ga K x) (.type "object") = some true) &&
  (decide (PySem.W.kitOne K (.ref (He.ga K x)) (.ref (He.ga K x)) = some true) && decide (PySem.W.kitOne K (.type "tuple") (.ref (He.ga K x)) = some false)))
/-- what isinstance asks of an instance's class -/
def isiCls (K : PySem.W.Frag) (x : Str) : Bool :=
  decide (PySem.W.findIn K (.ref (He.ga K x)) "__class__" = some (some (.builtin "object.__class__"))) && (decide (PySem.W.specialIn K (.builtin "object.__class__") "__get__" = some (some (.builtin "getset_descriptor.__get__"))) &&
  decide (PySem.W.takesIn K (.builtin "object.__class__") = some true))
end HX
namespace HX
open PySem PySem.Spec PyProof.Rows L2
abbrev AlTE : Type := He.AlT × Bool
def obsTE (ex : PySem.W.Frag → Bool) (n : Nat) (fa : List He.Fa) (fn : List He.DefD) (ts : List He.Tab) (g : Addr → Option Obj) : AlTE := (He.obsT fa fn ts (He.frG g (He.asD g n)), ex (He.frG g (He.asD g n)))
def hookTE (ex : PySem.W.Frag → Bool) (n : Nat) (fa : List He.Fa) (fn : List He.DefD) (ts : List He.Tab) : PySem.W.Hook where
  α := AlTE
  obs := fun s => obsTE ex n fa fn ts s.heap.get?
  val := fun w => (He.valT fn ts w, true)
  says := fun w h => ∃ K : PySem.W.Frag, K.In h ∧ He.SaysT fa fn ts w K ∧ ex K = true
  of := fun _ _ e => ⟨_, He.frG_in, congrArg Prod.fst e, congrArg Prod.snd e⟩
  keeps := fun _ _ _ ⟨K, hK, c, d⟩ k => ⟨K, PySem.W.Frag.In.keeps hK k, c, d⟩
theorem obsTE_eq {ex : PySem.W.Frag → Bool} {n : Nat} {fa : List He.Fa} {fn : List He.DefD} {ts : List He.Tab} {g : Addr → Option Obj} {s : Shared} (h : ∀ a, g a = s.heap.get? a) : obsTE ex n fa fn ts g = (hookTE ex n fa fn ts).obs s := by
  have e : g = s.heap.get? := funext h
  rw [e] <;> rfl
end HX
set_option Elab.async false
set_option linter.all false
set_option maxRecDepth 100000
set_option maxHeartbeats 0
/-! The head: each def a datum, the facts of the names, the run of the top. -/
namespace TX
open PySem PySem.Spec PyProof.Rows L2 RX WB
def e_is_integer : He.DefD := ⟨("is_integer", none), "is_integer", "is_integer", defArgs s_is_integer, defBody s_is_integer, defScope s_is_integer, [], []⟩
def e_is_within : He.DefD := ⟨("is_within", none), "is_within", "is_within", defArgs s_is_within, defBody s_is_within, defScope s_is_within, [], []⟩
def e_are_within : He.DefD := ⟨("are_within", none), "are_within", "are_within", defArgs s_are_within, defBody s_are_within, defScope s_are_within, [], []⟩
def e_is_lot : He.DefD := ⟨("is_lot", none), "is_lot", "is_lot", defArgs s_is_lot, defBody s_is_lot, defScope s_is_lot, [], []⟩
def e_is_sized : He.DefD := ⟨("is_sized", none), "is_sized", "is_sized", defArgs s_is_sized, defBody s_is_sized, defScope s_is_sized, [], []⟩
def e_check_rooms : He.DefD := ⟨("check_rooms", none), "check_rooms", "check_rooms", defArgs s_check_rooms, defBody s_check_rooms, defScope s_check_rooms, [], []⟩
def e_check_flag : He.DefD := ⟨("check_flag", none), "check_flag", "check_flag", defArgs s_check_flag, defBody s_check_flag, defScope s_check_flag, [], []⟩
def e_Web_init : He.DefD := ⟨("Web", some "__init__"), "__init__", "Web.__init__", defArgs s_Web_init, defBody s_Web_init, defScope s_Web_init, [], []⟩
def e_is_move : He.DefD := ⟨("is_move", none), "is_move", "is_move", defArgs s_is_move, defBody s_is_move, defScope s_is_move, [], []⟩
def e_may_be_made : He.DefD := ⟨("may_be_made", none), "may_be_made", "may_be_made", defArgs s_may_be_made, defBody s_may_be_made, defScope s_may_be_made, [], []⟩
def e_behind_move : He.DefD := ⟨("behind_move", none), "behind_move", "behind_move", defArgs s_behind_move, defBody s_behind_move, defScope s_behind_move, [], []⟩
def e_most_taken : He.DefD := ⟨("most_taken", none), "most_taken", "most_taken", defArgs s_most_taken, defBody s_most_taken, defScope s_most_taken, [], []⟩
def e_is_slide : He.DefD := ⟨("is_slide", none), "is_slide", "is_slide", defArgs s_is_slide, defBody s_is_slide, defScope s_is_slide, [], []⟩
def e_is_making_in : He.DefD := ⟨("is_making_in", none), "is_making_in", "is_making_in", defArgs s_is_making_in, defBody s_is_making_in, defScope s_is_making_in, [], []⟩
def e_is_making : He.DefD := ⟨("is_making", none), "is_making", "is_making", defArgs s_is_making, defBody s_is_making, defScope s_is_making, [], []⟩
def e_moves_from : He.DefD := ⟨("moves_from", none), "moves_from", "moves_from", defArgs s_moves_from, defBody s_moves_from, defScope s_moves_from, [], []⟩
def e_shortest_making : He.DefD := ⟨("shortest_making", none), "shortest_making", "shortest_making", defArgs s_shortest_making, defBody s_shortest_making, defScope s_shortest_making, [], []⟩
def e_moves_to : He.DefD := ⟨("moves_to", none), "moves_to", "moves_to", defArgs s_moves_to, defBody s_moves_to, defScope s_moves_to, [], []⟩
def e_making : He.DefD := ⟨("making", none), "making", "making", defArgs s_making, defBody s_making, defScope s_making, [], []⟩
def e_taken : He.DefD := ⟨("taken", none), "taken", "taken", defArgs s_taken, defBody s_taken, defScope s_taken, [], []⟩
def e_law_pool : He.DefD := ⟨("_law_pool", none), "_law_pool", "_law_pool", defArgs s_law_pool, defBody s_law_pool, defScope s_law_pool, [], []⟩
def e_law_draw : He.DefD := ⟨("_law_draw", none), "_law_draw", "_law_draw", defArgs s_law_draw, defBody s_law_draw, defScope s_law_draw, [], []⟩
def e_law_is : He.DefD := ⟨("_law_is", none), "_law_is", "_law_is", defArgs s_law_is, defBody s_law_is, defScope s_law_is, [], []⟩
def e_law_is_number : He.DefD := ⟨("_law_is_number", none), "_law_is_number", "_law_is_number", defArgs s_law_is_number, defBody s_law_is_number, defScope s_law_is_number, [], []⟩
def e_law_web_reads : He.DefD := ⟨("_law_web_reads", none), "_law_web_reads", "_law_web_reads", defArgs s_law_web_reads, defBody s_law_web_reads, defScope s_law_web_reads, [], []⟩
def e_law_counts : He.DefD := ⟨("_law_counts", none), "_law_counts", "_law_counts", defArgs s_law_counts, defBody s_law_counts, defScope s_law_counts, [], []⟩
def e_law_masks_of : He.DefD := ⟨("_law_masks_of", none), "_law_masks_of", "_law_masks_of", defArgs s_law_masks_of, defBody s_law_masks_of, defScope s_law_masks_of, [], []⟩
def e_law_moves_from : He.DefD := ⟨("_law_moves_from", none), "_law_moves_from", "_law_moves_from", defArgs s_law_moves_from, defBody s_law_moves_from, defScope s_law_moves_from, [], []⟩
def e_law_fewest : He.DefD := ⟨("_law_fewest", none), "_law_fewest", "_law_fewest", defArgs s_law_fewest, defBody s_law_fewest, defScope s_law_fewest, [], []⟩
def e_law_least : He.DefD := ⟨("_law_least", none), "_law_least", "_law_least", defArgs s_law_least, defBody s_law_least, defScope s_law_least, [], []⟩
def e_law_move_word : He.DefD := ⟨("_law_move_word", none), "_law_move_word", "_law_move_word", defArgs s_law_move_word, defBody s_law_move_word, defScope s_law_move_word, [], []⟩
def e_law_taken : He.DefD := ⟨("_law_taken", none), "_law_taken", "_law_taken", defArgs s_law_taken, defBody s_law_taken, defScope s_law_taken, [], []⟩
def e_law : He.DefD := ⟨("law", none), "law", "law", defArgs s_law, defBody s_law, defScope s_law, [], []⟩
def hfn : List He.DefD := [e_is_integer, e_is_within, e_are_within, e_is_lot, e_is_sized, e_check_rooms, e_check_flag, e_Web_init, e_is_move, e_may_be_made, e_behind_move, e_most_taken, e_is_slide, e_is_making_in, e_is_making, e_moves_from, e_shortest_making, e_moves_to, e_making, e_taken, e_law_pool, e_law_draw, e_law_is, e_law_is_number, e_law_web_reads, e_law_counts, e_law_masks_of, e_law_moves_from, e_law_fewest, e_law_least, e_law_move_word, e_law_taken, e_law]
def hfa : List He.Fa := [.glo "is_integer", .glo "is_within", .glo "are_within", .glo "is_lot", .glo "is_sized", .glo "check_rooms", .glo "check_flag", .glo "is_move", .glo "may_be_made", .glo "behind_move", .glo "most_taken", .glo "is_slide", .glo "is_making_in", .glo "is_making", .glo "moves_from", .glo "shortest_making", .glo "moves_to", .glo "making", .glo "taken", .glo "_law_pool", .glo "_law_draw", .glo "_law_is", .glo "_law_is_number", .glo "_law_web_reads", .glo "_law_counts", .glo "_law_masks_of", .glo "_law_moves_from", .glo "_law_fewest", .glo "_law_least", .glo "_law_move_word", .glo "_law_taken", .glo "law", .free "isinstance", .free "int", .free "bool", .free "tuple", .free "all", .free "list", .free "sorted", .free "set", .free "len", .free "enumerate", .free "range", .free "sum", .free "abs", .free "repr", .free "str", .free "max", .free "any", .free "min", .int "MOST_THINGS" 10, .int "MOST_ROOMS" 12, .cls "Web", .noat "Web" "reads", .mkr "Web", .glo "Web", .glo "SIZES"]
abbrev HR : PySem.W.OpenRow := PySem.W.OpenLaw.row PySem.Challenge.rw_oneroommore_k56_whole_makings_of_fewest
def hEx (K : PySem.W.Frag) : Bool := He.valsB K (He.ga K "SIZES") [("fill", .int 2), ("slide", .int 3), ("clear", .int 2)] && He.eqO (PySem.W.nsIn K (He.ga K "SIZES") "Fill") (some none)
def hts : List He.Tab := [((fun K => He.ga K "SIZES"), ["fill", "slide", "clear"])]
abbrev hHook : PySem.W.Hook := HX.hookTE hEx 5 hfa hfn hts
def hOb (s : PySem.W.SharedT) : HX.AlTE := HX.obsTE hEx 5 hfa hfn hts (HandSHeadRun.getT s)
theorem hOb_eq (s : PySem.W.SharedT) : hOb s = hHook.obs s.abs := HX.obsTE_eq (HandSHeadRun.getT_eq s)
theorem hRun (w : World) : HandSHeadRun.RunEq HR (PySem.W.view HR.prog [44]) hHook hOb 4000 ((["RoomError", "BadWeb", "NoRooms", "NoFlag", "NoMoves", "MOST_ROOMS", "is_integer", "is_within", "are_within", "is_lot", "is_sized", "check_rooms", "check_flag", "MOST_THINGS", "SIZES", "Web", "is_move", "may_be_made", "behind_move", "most_taken"] : List PySem.Str) ++ (["is_slide", "is_making_in", "is_making", "moves_from", "shortest_making", "moves_to", "making", "taken", "_law_pool", "_law_draw", "_law_is", "_law_is_number", "_law_web_reads", "_law_counts", "_law_masks_of", "_law_moves_from", "_law_fewest", "_law_least", "_law_move_word", "_law_taken"] : List PySem.Str)) w := by
  refine PySem.W.byRow2 "special-get-raises" (P := fun w => HandSHeadRun.RunEq HR (PySem.W.view HR.prog [44]) hHook hOb 4000 ((["RoomError", "BadWeb", "NoRooms", "NoFlag", "NoMoves", "MOST_ROOMS", "is_integer", "is_within", "are_within", "is_lot", "is_sized", "check_rooms", "check_flag", "MOST_THINGS", "SIZES", "Web", "is_move", "may_be_made", "behind_move", "most_taken"] : List PySem.Str) ++ (["is_slide", "is_making_in", "is_making", "moves_from", "shortest_making", "moves_to", "making", "taken", "_law_pool", "_law_draw", "_law_is", "_law_is_number", "_law_web_reads", "_law_counts", "_law_masks_of", "_law_moves_from", "_law_fewest", "_law_least", "_law_move_word", "_law_taken"] : List PySem.Str)) w) (fun w => ?_) (fun w => ?_) w
  · intro os
    kernel_rfl
  · intro os
    kernel_rfl
def mkDef {K : PySem.W.Frag} {h : Heap} {mg : Str → Option Value} {x : Str} {st : Stmt} {ps : List Str} {fd : FuncData} (X : K.In h) (G : h.Ns mainGlobals mg) (F : FunD K x x (defArgs st) (defBody st) (defScope st) [] [] (He.ga K x) fd)
    (g : (He.Fa.glo x).ok K = true) (b : Binds K fd ps []) : DefAt K mg x st ps := ⟨He.ga K x, fd, He5.fun_of F, He.glo_ok X G g, b⟩
theorem hFacts {P : Program} {w : World} {K : PySem.W.Frag} {h : Heap} {mg : Str → Option Value} {f : Addr} (X : K.In h) (G : h.Ns mainGlobals mg) (hf : mg ("law" : Str) = some (.ref f)) (ct : He.SaysT hfa hfn hts w K) (cx : hEx K = true) :
    ∃ fd : FuncData, (∀ (s : Shared) (v : Value), BindsTo s fd ⟨[v], []⟩ [("_law_script", v)]) ∧ ∀ base : Heap, K.In base → base.Ns mainGlobals mg → FnG P w K mg base CX0 7 f fd ["_law_script"] (spLaw K) := by
  have c := ct.d
  obtain ⟨g0, F0⟩ := c.def_ 0 (d := e_is_integer) rfl
  obtain ⟨g1, F1⟩ := c.def_ 1 (d := e_is_within) rfl
  obtain ⟨g2, F2⟩ := c.def_ 2 (d := e_are_within) rfl
  obtain ⟨g3, F3⟩ := c.def_ 3 (d := e_is_lot) rfl
  obtain ⟨g4, F4⟩ := c.def_ 4 (d := e_is_sized) rfl
  obtain ⟨g5, F5⟩ := c.def_ 5 (d := e_check_rooms) rfl
  obtain ⟨g6, F6⟩ := c.def_ 6 (d := e_check_flag) rfl
  obtain ⟨g7, F7⟩ := c.def_ 7 (d := e_Web_init) rfl
  obtain ⟨g8, F8⟩ := c.def_ 8 (d := e_is_move) rfl
  obtain ⟨g9, F9⟩ := c.def_ 9 (d := e_may_be_made) rfl
  obtain ⟨g10, F10⟩ := c.def_ 10 (d := e_behind_move) rfl
  obtain ⟨g11, F11⟩ := c.def_ 11 (d := e_most_taken) rfl
  obtain ⟨g12, F12⟩ := c.def_ 12 (d := e_is_slide) rfl
  obtain ⟨g13, F13⟩ := c.def_ 13 (d := e_is_making_in) rfl
  obtain ⟨g14, F14⟩ := c.def_ 14 (d := e_is_making) rfl
  obtain ⟨g15, F15⟩ := c.def_ 15 (d := e_moves_from) rfl
  obtain ⟨g16, F16⟩ := c.def_ 16 (d := e_shortest_making) rfl
  obtain ⟨g17, F17⟩ := c.def_ 17 (d := e_moves_to) rfl
  obtain ⟨g18, F18⟩ := c.def_ 18 (d := e_making) rfl
  obtain ⟨g19, F19⟩ := c.def_ 19 (d := e_taken) rfl
  obtain ⟨g20, F20⟩ := c.def_ 20 (d := e_law_pool) rfl
  obtain ⟨g21, F21⟩ := c.def_ 21 (d := e_law_draw) rfl
  obtain ⟨g22, F22⟩ := c.def_ 22 (d := e_law_is) rfl
  obtain ⟨g23, F23⟩ := c.def_ 23 (d := e_law_is_number) rfl
  obtain ⟨g24, F24⟩ := c.def_ 24 (d := e_law_web_reads) rfl
  obtain ⟨g25, F25⟩ := c.def_ 25 (d := e_law_counts) rfl
  obtain ⟨g26, F26⟩ := c.def_ 26 (d := e_law_masks_of) rfl
  obtain ⟨g27, F27⟩ := c.def_ 27 (d := e_law_moves_from) rfl
  obtain ⟨g28, F28⟩ := c.def_ 28 (d := e_law_fewest) rfl
  obtain ⟨g29, F29⟩ := c.def_ 29 (d := e_law_least) rfl
  obtain ⟨g30, F30⟩ := c.def_ 30 (d := e_law_move_word) rfl
  obtain ⟨g31, F31⟩ := c.def_ 31 (d := e_law_taken) rfl
  obtain ⟨g32, F32⟩ := c.def_ 32 (d := e_law) rfl
  have D_is_integer : DefAt K mg "is_integer" s_is_integer ["thing"] := mkDef X G F0 (c.fact 0 (f := .glo "is_integer") rfl) (F0.bindsN fun _ _ _ _ _ _ us hl => match us, hl with | [_], _ => rfl)
  have D_is_within : DefAt K mg "is_within" s_is_within ["thing", "least", "most"] := mkDef X G F1 (c.fact 1 (f := .glo "is_within") rfl) (F1.bindsN fun _ _ _ _ _ _ us hl => match us, hl with | [_, _, _], _ => rfl)
  have D_are_within : DefAt K mg "are_within" s_are_within ["thing", "least", "most"] := mkDef X G F2 (c.fact 2 (f := .glo "are_within") rfl) (F2.bindsN fun _ _ _ _ _ _ us hl => match us, hl with | [_, _, _], _ => rfl)
  have D_is_lot : DefAt K mg "is_lot" s_is_lot ["thing", "below"] := mkDef X G F3 (c.fact 3 (f := .glo "is_lot") rfl) (F3.bindsN fun _ _ _ _ _ _ us hl => match us, hl with | [_, _], _ => rfl)
  have D_is_sized : DefAt K mg "is_sized" s_is_sized ["thing", "least", "most"] := mkDef X G F4 (c.fact 4 (f := .glo "is_sized") rfl) (F4.bindsN fun _ _ _ _ _ _ us hl => match us, hl with | [_, _, _], _ => rfl)
  have D_check_rooms : DefAt K mg "check_rooms" s_check_rooms ["thing"] := mkDef X G F5 (c.fact 5 (f := .glo "check_rooms") rfl) (F5.bindsN fun _ _ _ _ _ _ us hl => match us, hl with | [_], _ => rfl)
  have D_check_flag : DefAt K mg "check_flag" s_check_flag ["thing"] := mkDef X G F6 (c.fact 6 (f := .glo "check_flag") rfl) (F6.bindsN fun _ _ _ _ _ _ us hl => match us, hl with | [_], _ => rfl)
  have M_Web_init : Binds K g7 ["self", "reads"] [] := F7.bindsN fun _ _ _ _ _ _ us hl => match us, hl with | [_, _], _ => rfl
  have N_Web_init : Fun K "__init__" "Web.__init__" s_Web_init (He.ma K (He.ga K "Web") "__init__") g7 := He5.fun_of F7
  have D_is_move : DefAt K mg "is_move" s_is_move ["web", "thing"] := mkDef X G F8 (c.fact 7 (f := .glo "is_move") rfl) (F8.bindsN fun _ _ _ _ _ _ us hl => match us, hl with | [_, _], _ => rfl)
  have D_may_be_made : DefAt K mg "may_be_made" s_may_be_made ["web", "here", "thing"] := mkDef X G F9 (c.fact 8 (f := .glo "may_be_made") rfl) (F9.bindsN fun _ _ _ _ _ _ us hl => match us, hl with | [_, _, _], _ => rfl)
  have D_behind_move : DefAt K mg "behind_move" s_behind_move ["web", "here", "move"] := mkDef X G F10 (c.fact 9 (f := .glo "behind_move") rfl) (F10.bindsN fun _ _ _ _ _ _ us hl => match us, hl with | [_, _, _], _ => rfl)
  have D_most_taken : DefAt K mg "most_taken" s_most_taken ["web", "thing"] := mkDef X G F11 (c.fact 10 (f := .glo "most_taken") rfl) (F11.bindsN fun _ _ _ _ _ _ us hl => match us, hl with | [_, _], _ => rfl)
  have D_is_slide : DefAt K mg "is_slide" s_is_slide ["move"] := mkDef X G F12 (c.fact 11 (f := .glo "is_slide") rfl) (F12.bindsN fun _ _ _ _ _ _ us hl => match us, hl with | [_], _ => rfl)
  have D_is_making_in : DefAt K mg "is_making_in" s_is_making_in ["web", "rooms", "apart", "thing"] := mkDef X G F13 (c.fact 12 (f := .glo "is_making_in") rfl) (F13.bindsN fun _ _ _ _ _ _ us hl => match us, hl with | [_, _, _, _], _ => rfl)
  have D_is_making : DefAt K mg "is_making" s_is_making ["web", "rooms", "apart", "thing"] := mkDef X G F14 (c.fact 13 (f := .glo "is_making") rfl) (F14.bindsN fun _ _ _ _ _ _ us hl => match us, hl with | [_, _, _, _], _ => rfl)
  have D_moves_from : DefAt K mg "moves_from" s_moves_from ["web", "here", "rooms", "apart"] := mkDef X G F15 (c.fact 14 (f := .glo "moves_from") rfl) (F15.bindsN fun _ _ _ _ _ _ us hl => match us, hl with | [_, _, _, _], _ => rfl)
  have D_shortest_making : DefAt K mg "shortest_making" s_shortest_making ["web", "rooms", "apart"] := mkDef X G F16 (c.fact 15 (f := .glo "shortest_making") rfl) (F16.bindsN fun _ _ _ _ _ _ us hl => match us, hl with | [_, _, _], _ => rfl)
  have D_moves_to : DefAt K mg "moves_to" s_moves_to ["ways", "here"] := mkDef X G F17 (c.fact 16 (f := .glo "moves_to") rfl) (F17.bindsN fun _ _ _ _ _ _ us hl => match us, hl with | [_, _], _ => rfl)
  have D_making : DefAt K mg "making" s_making ["web", "rooms", "apart"] := mkDef X G F18 (c.fact 17 (f := .glo "making") rfl) (F18.bindsN fun _ _ _ _ _ _ us hl => match us, hl with | [_, _, _], _ => rfl)
  have D_taken : DefAt K mg "taken" s_taken ["web", "moves"] := mkDef X G F19 (c.fact 18 (f := .glo "taken") rfl) (F19.bindsN fun _ _ _ _ _ _ us hl => match us, hl with | [_, _], _ => rfl)
  have D_law_pool : DefAt K mg "_law_pool" s_law_pool ["_law_script"] := mkDef X G F20 (c.fact 19 (f := .glo "_law_pool") rfl) (F20.bindsN fun _ _ _ _ _ _ us hl => match us, hl with | [_], _ => rfl)
  have D_law_draw : DefAt K mg "_law_draw" s_law_draw ["_law_pool_here", "_law_many"] := mkDef X G F21 (c.fact 20 (f := .glo "_law_draw") rfl) (F21.bindsN fun _ _ _ _ _ _ us hl => match us, hl with | [_, _], _ => rfl)
  have D_law_is : DefAt K mg "_law_is" s_law_is ["_law_told", "_law_due"] := mkDef X G F22 (c.fact 21 (f := .glo "_law_is") rfl) (F22.bindsN fun _ _ _ _ _ _ us hl => match us, hl with | [_, _], _ => rfl)
  have D_law_is_number : DefAt K mg "_law_is_number" s_law_is_number ["_law_thing", "_law_least_here", "_law_most"] := mkDef X G F23 (c.fact 22 (f := .glo "_law_is_number") rfl) (F23.bindsN fun _ _ _ _ _ _ us hl => match us, hl with | [_, _, _], _ => rfl)
  have D_law_web_reads : DefAt K mg "_law_web_reads" s_law_web_reads ["_law_pool_here", "_law_most"] := mkDef X G F24 (c.fact 23 (f := .glo "_law_web_reads") rfl) (F24.bindsN fun _ _ _ _ _ _ us hl => match us, hl with | [_, _], _ => rfl)
  have D_law_counts : DefAt K mg "_law_counts" s_law_counts ["_law_many"] := mkDef X G F25 (c.fact 24 (f := .glo "_law_counts") rfl) (F25.bindsN fun _ _ _ _ _ _ us hl => match us, hl with | [_], _ => rfl)
  have D_law_masks_of : DefAt K mg "_law_masks_of" s_law_masks_of ["_law_reads"] := mkDef X G F26 (c.fact 25 (f := .glo "_law_masks_of") rfl) (F26.bindsN fun _ _ _ _ _ _ us hl => match us, hl with | [_], _ => rfl)
  have D_law_moves_from : DefAt K mg "_law_moves_from" s_law_moves_from ["_law_reads", "_law_masks", "_law_held", "_law_apart"] := mkDef X G F27 (c.fact 26 (f := .glo "_law_moves_from") rfl) (F27.bindsN fun _ _ _ _ _ _ us hl => match us, hl with | [_, _, _, _], _ => rfl)
  have D_law_fewest : DefAt K mg "_law_fewest" s_law_fewest ["_law_reads", "_law_rooms", "_law_apart", "_law_begun"] := mkDef X G F28 (c.fact 27 (f := .glo "_law_fewest") rfl) (F28.bindsN fun _ _ _ _ _ _ us hl => match us, hl with | [_, _, _, _], _ => rfl)
  have D_law_least : DefAt K mg "_law_least" s_law_least ["_law_reads", "_law_apart"] := mkDef X G F29 (c.fact 28 (f := .glo "_law_least") rfl) (F29.bindsN fun _ _ _ _ _ _ us hl => match us, hl with | [_, _], _ => rfl)
  have D_law_move_word : DefAt K mg "_law_move_word" s_law_move_word ["_law_reads", "_law_thing"] := mkDef X G F30 (c.fact 29 (f := .glo "_law_move_word") rfl) (F30.bindsN fun _ _ _ _ _ _ us hl => match us, hl with | [_, _], _ => rfl)
  have D_law_taken : DefAt K mg "_law_taken" s_law_taken ["_law_reads", "_law_apart", "_law_moves"] := mkDef X G F31 (c.fact 30 (f := .glo "_law_taken") rfl) (F31.bindsN fun _ _ _ _ _ _ us hl => match us, hl with | [_, _, _], _ => rfl)
  have U_isinstance : mg "isinstance" = none := He.free_ok X G (c.fact 32 (f := .free "isinstance") rfl)
  have U_int : mg "int" = none := He.free_ok X G (c.fact 33 (f := .free "int") rfl)
  have U_bool : mg "bool" = none := He.free_ok X G (c.fact 34 (f := .free "bool") rfl)
  have U_tuple : mg "tuple" = none := He.free_ok X G (c.fact 35 (f := .free "tuple") rfl)
  have U_all : mg "all" = none := He.free_ok X G (c.fact 36 (f := .free "all") rfl)
  have U_list : mg "list" = none := He.free_ok X G (c.fact 37 (f := .free "list") rfl)
  have U_sorted : mg "sorted" = none := He.free_ok X G (c.fact 38 (f := .free "sorted") rfl)
  have U_set : mg "set" = none := He.free_ok X G (c.fact 39 (f := .free "set") rfl)
  have U_len : mg "len" = none := He.free_ok X G (c.fact 40 (f := .free "len") rfl)
  have U_enumerate : mg "enumerate" = none := He.free_ok X G (c.fact 41 (f := .free "enumerate") rfl)
  have U_range : mg "range" = none := He.free_ok X G (c.fact 42 (f := .free "range") rfl)
  have U_sum : mg "sum" = none := He.free_ok X G (c.fact 43 (f := .free "sum") rfl)
  have U_abs : mg "abs" = none := He.free_ok X G (c.fact 44 (f := .free "abs") rfl)
  have U_repr : mg "repr" = none := He.free_ok X G (c.fact 45 (f := .free "repr") rfl)
  have U_str : mg "str" = none := He.free_ok X G (c.fact 46 (f := .free "str") rfl)
  have U_max : mg "max" = none := He.free_ok X G (c.fact 47 (f := .free "max") rfl)
  have U_any : mg "any" = none := He.free_ok X G (c.fact 48 (f := .free "any") rfl)
  have U_min : mg "min" = none := He.free_ok X G (c.fact 49 (f := .free "min") rfl)
  have C_int_MOST_THINGS_10 := c.fact 50 (f := .int "MOST_THINGS" 10) rfl
  have C_int_MOST_ROOMS_12 := c.fact 51 (f := .int "MOST_ROOMS" 12) rfl
  have C_cls_Web := c.fact 52 (f := .cls "Web") rfl
  have C_noat_Web_reads := c.fact 53 (f := .noat "Web" "reads") rfl
  have C_mkr_Web := c.fact 54 (f := .mkr "Web") rfl
  have C_glo_Web := c.fact 55 (f := .glo "Web") rfl
  have C_glo_SIZES := c.fact 56 (f := .glo "SIZES") rfl
  have e := hf.symm.trans (He.glo_ok X G (c.fact 31 (f := .glo "law") rfl))
  cases e
  have b := FunD.bindsA (ps := ["_law_script"]) F32 fun _ _ _ _ _ _ us hl => match us, hl with | [_], _ => rfl
  have B : Bts mg := ⟨U_isinstance, U_int, U_bool, U_tuple, U_all, U_list, U_sorted, U_set, U_len, U_enumerate, U_range, U_sum, U_abs, U_repr⟩
  have Z : Chk K mg := ⟨B, D_is_integer, D_is_within, D_are_within, D_is_lot, D_is_sized, He.int_ok X G C_int_MOST_THINGS_10⟩
  let W : WebC K mg := ⟨He.ga K "Web", He.cls_ok C_cls_Web, He.noat_ok C_noat_Web_reads, He.glo_ok X G C_glo_Web, He.ma K (He.ga K "Web") "__init__", _, He.mkr_ok C_mkr_Web, N_Web_init, M_Web_init⟩
  let S : Wbs K mg := ⟨Z, W, D_may_be_made, D_behind_move⟩
  let R : Srch K mg := ⟨S, D_moves_from, D_moves_to, D_shortest_making⟩
  have L : Lws K mg := ⟨B, D_law_masks_of, D_law_counts, D_law_moves_from⟩
  have J : Ljg K mg := ⟨B, U_str, U_max, D_law_is_number, D_law_move_word, D_law_taken⟩
  obtain ⟨x1, x2⟩ := He.ba cx
  obtain ⟨es, n, kd⟩ := ct.tab 0 (t := ((fun K => He.ga K "SIZES"), ["fill", "slide", "clear"])) rfl
  let Y : Siz K w mg := ⟨He.ga K "SIZES", es, n, kd, He.glo_ok X G C_glo_SIZES, He.valsB_ok x1 (q := ("fill", .int 2)) (by simp), He.valsB_ok x1 (q := ("slide", .int 3)) (by simp), He.valsB_ok x1 (q := ("clear", .int 2)) (by simp), He.eqO_ok x2⟩
  have Ck : Cks K mg := ⟨D_check_rooms, D_check_flag, He.int_ok X G C_int_MOST_ROOMS_12⟩
  let Jd : Jdg K w mg := ⟨S, Y, U_str, U_max, D_is_move, D_most_taken⟩
  let Mk : Mkg K w mg := ⟨Jd, Ck, U_any, D_is_slide, D_is_making_in, D_is_making, D_taken⟩
  have A : All K w mg := ⟨Mk, R, rfl, L, J, U_min, D_making, D_law_pool, D_law_draw, D_law_web_reads, D_law_fewest, D_law_least, D_law_is⟩
  exact ⟨g32, fun s v => b s [v] rfl, fun base _ _ => ok_law A (DefAt.mk (He.ga K "law") g32 (He5.fun_of F32) (He.glo_ok X G (c.fact 31 (f := .glo "law") rfl)) (F32.bindsN fun _ _ _ _ _ _ us hl => match us, hl with | [_], _ => rfl))⟩
end TX
open PySem PySem.W PySem.Calls PyProof.Rows
theorem PySem.Challenge.cw_oneroommore_k56_whole_makings_of_fewest_holds : PySem.Challenge.rw_oneroommore_k56_whole_makings_of_fewest.Holds := by
  w_on; o_law
  refine HandSHeadRun.head_any (r := OpenLaw.row PySem.Challenge.rw_oneroommore_k56_whole_makings_of_fewest) (q := view (OpenLaw.row PySem.Challenge.rw_oneroommore_k56_whole_makings_of_fewest).prog [44]) (H := TX.hHook) (ob := TX.hOb) (M := 4000) (loose := ((["RoomError", "BadWeb", "NoRooms", "NoFlag", "NoMoves", "MOST_ROOMS", "is_integer", "is_within", "are_within", "is_lot", "is_sized", "check_rooms", "check_flag", "MOST_THINGS", "SIZES", "Web", "is_move", "may_be_made", "behind_move", "most_taken"] : List PySem.Str) ++ (["is_slide", "is_making_in", "is_making", "moves_from", "shortest_making", "moves_to", "making", "taken", "_law_pool", "_law_draw", "_law_is", "_law_is_number", "_law_web_reads", "_law_counts", "_law_masks_of", "_law_moves_from", "_law_fewest", "_law_least", "_law_move_word", "_law_taken"] : List PySem.Str))) (d := HandSHeadRun.topDef (OpenLaw.row PySem.Challenge.rw_oneroommore_k56_whole_makings_of_fewest).prog 44) (kwd := []) TX.hOb_eq
    (by kernel_rfl) (fun s => by kernel_rfl) TX.hRun (by kernel_rfl) (by kernel_rfl) (by kernel_rfl) (by rfl) (by first | assumption | decide +kernel) (by decide +kernel) ⟨rfl, rfl, rfl, rfl, rfl, by decide +kernel⟩ ?hw ?hc
  case hw => w_witness2
  case hc =>
    refine RX.walk_ofG (l := PySem.Challenge.rw_oneroommore_k56_whole_makings_of_fewest) (n := 63) (k := 7) (x := "_law_script") (CX := L2.CX0) rfl (by decide) (by kernel_rfl) ⟨rfl, by decide, by decide⟩ ?F (fun _ _ _ _ z => z)
    intro w mg fa h Y G hmg0
    obtain ⟨K, KX, c, cx⟩ := Y
    have hmg : mg ("law" : PySem.Str) = some (.ref fa) := by
      have e : (HandSHeadRun.topDef (OpenLaw.row PySem.Challenge.rw_oneroommore_k56_whole_makings_of_fewest).prog 44).name = ("law" : PySem.Str) := by kernel_rfl
      rw [← e]
      exact hmg0
    obtain ⟨fd, hb, hF⟩ := TX.hFacts (P := (PySem.Challenge.rw_oneroommore_k56_whole_makings_of_fewest).prog) (w := w) KX G hmg c cx
    exact ⟨K, fd, TX.spLaw K, KX, hb, fun H a ns hl hS => ⟨a, ns, rfl, hS, hl, fun _ => rfl⟩, hF⟩
