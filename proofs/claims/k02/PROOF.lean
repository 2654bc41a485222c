import PyProof.Rows.All
import Wide.All
import OpenK.AllK
import Wide.FinOn
import HandS.TupSets
import HandS.Zip
import KE.GoesMore
import HandS.Iter
import HandS.ForMost
import HandS.ForExc
import HandS.Deep
import HandS.SortInts
import HandS.TupMul
import KE.DataMinMax
import HandS.Lambda
import HandS.EndTab
import HandS.Walk
import HandS.TupAny
import HandS.Conv
import HandS.ExcInit
import HandS.CallSlots
import HandS.IsInst
import HandS.Replace
import HandS.ExcField
import HandS.Style
import HandS.HeadWalk
import HandS.Head0
import HandS.Head1
import HandS.Head2
import HandS.HeadEnd
import HandS.HeadHook1
import HandS.HeadHook2
import HandS.HeadHook3
import HandS.HeadHook4
import HandS.NestedK
import KE.BitLaws
import PySem.Challenge.RW_specksgrid_k02_whole_boards_drawn_and_re
set_option Elab.async false
set_option linter.all false
set_option maxRecDepth 100000
/-! RS: the size of a set that is made from a tuple of distinct tuples of ints. -/
namespace Rf
open PySem L2 PySem.Spec PyProof.Rows
abbrev emp (w : World) : Obj := { cls := .type "set", dict := none, data := .set #[] 0 (.fresh 0 0 (!w.params.followText "set-order")) }
section
variable {P : Program} {w : World} {A : Around} {E : Value → Shared → Prop} {s : Shared}
def madeOf (P : Program) (w : World) (s : Shared) (ks : List (Addr × List Int)) (s2 : Shared) : Prop :=
  ∃ h' tk L es ep t, s2 = { s with heap := h', toks := tk } ∧ SetTR P w h' s.heap.objs.size L es ep t ∧ Got ks ks.length L ∧ ∀ b o, s.heap.get? b = some o → h'.get? b = some o
set_option maxHeartbeats 3200000 in
theorem setTup {q : Addr} {xs : Array Value} (ks : List (Addr × List Int)) {Q : Value → Shared → Prop} (hn : A.handled = none) (hq : s.heap.IsTuple q xs)
    (hx : xs.toList = ks.map fun p => Value.ref p.1) (hk : ∀ p ∈ ks, IsT P w s.heap p.2 p.1) (few : ks.length < 64) (hu : A.units + 3 < cLine)
    (go : ∀ s2, madeOf P w s ks s2 → Q (.ref s.heap.objs.size) s2) : wpAny (model P w) A (call (.type "set") [.ref q]) Q E s := by
  have size : xs.size = ks.length := by
    have z := congrArg List.length hx
    simpa using z
  obtain ⟨cc, ctl, mro⟩ := F.called_set.mro
  have made := F.called_set.made
  have sub0 := F.called_set.sub
  refine wpAny_call (codeAny_of_tree ?_)
  show wpAny _ _ (callAny (.type "set") ⟨[.ref q], []⟩) _ _ _
  refine wpAny_pure ⟨Code.quiet_builtin _ (by decide +kernel), ?_⟩
  refine codeAny_builtin F.entry_type_call ?_
  rw [Around.under_plain (weight_type_call_type "set" [.ref q] []) rfl]
  have t1 := F.called_set.notType
  have t2 := F.called_set.canCreate
  have t3 := F.typeCall_set_1 (.ref q)
  repeat (any_goals (first | assumption | wp_step))
  refine codeAny_mono (L2.code_set_led1 (.ref q) (E := E) (Q₁ := fun ob sb => ob = .ref s.heap.objs.size ∧ sb = { s with heap := s.heap.push (emp w) }) ⟨rfl, rfl⟩) fun r sb hr => ?_
  rcases r with e | fl
  · exact hr
  cases fl with
  | ret ob =>
    obtain ⟨rfl, rfl⟩ := hr
    have hS : (s.heap.push (emp w)).get? s.heap.objs.size = some (emp w) := Heap.get?_push_size _ rfl
    have hT : Shared.TypeIs { s with heap := s.heap.push (emp w) } (.ref s.heap.objs.size) "set" := ⟨_, hS, rfl⟩
    have i1 := F.called_set.init.lookup
    have i2 := F.called_set.init.bind (.ref s.heap.objs.size)
    repeat (any_goals (first | assumption | wp_step))
    refine codeAny_mono (codeAny_call_builtin (R := wants (fun r s2 => r = .none ∧ madeOf P w s ks s2) E) F.called_set.init.plain F.entry_set_init (check_set_init_1 hT ?_)) fun r2 s2 hr2 => ?_
    · obtain ⟨oq, hoq, hcq, nq, hdq⟩ := hq
      obtain ⟨c1, d1, e1, f1⟩ := oq
      simp only at hcq hdq
      subst hcq hdq
      have hoq' : (s.heap.push (emp w)).get? q = some { cls := .type "tuple", dict := d1, data := .seq xs nq, slots := f1 } := Heap.get?_push_of_some _ hoq
      have u1 := F.sub_tuple_set
      have u2 := F.sub_tuple_frozenset
      have u3 : (Value.type "tuple" == Value.type "dict") = false := by decide
      have hq1 : (s.heap.push (emp w)).IsTuple q xs := ⟨_, hoq', rfl, nq, rfl⟩
      unfold Builtin.«set.__init__» noKeywords Builtin.Frozenset.updateFrom
      generalize hPI : pyIter = PI
      wp_walk
      subst hPI
      refine wpAny_pyIter_tuple hq1 ?_
      refine wpAny_bind (wpAny_runValue ?_)
      have lt : q < s.heap.objs.size := Heap.lt_size hoq
      have hn3 : A.in1.in1.in1.handled = none := by simp [hn]
      have sz : (s.heap.push (emp w)).objs.size = s.heap.objs.size + 1 := Heap.size_push ..
      have ne : q ≠ (s.heap.push (emp w)).objs.size := by rw [sz]; exact Nat.ne_of_lt (Nat.lt_succ_of_lt lt)
      have hf : s.heap.objs.size ∉ [(s.heap.push (emp w)).objs.size, q] := by
        rw [sz]
        simp only [List.mem_cons, List.not_mem_nil, or_false, not_or]
        exact ⟨Nat.ne_of_lt (Nat.lt_succ_self _), Nat.ne_of_gt lt⟩
      have val : ∀ (i : Nat) (v : Value), xs[i]? = some v → ∃ p, ks[i]? = some p ∧ v = .ref p.1 := fun i v hv => by
        have z : xs.toList[i]? = some v := by rw [Array.getElem?_toList]; exact hv
        rw [hx, List.getElem?_map] at z
        obtain ⟨p, a, b⟩ := Option.map_eq_some_iff.mp z
        exact ⟨p, a, b.symm⟩
      have non : ∀ b, s.heap.objs.size ≤ b → s.heap.get? b = none := fun b hb => by
        rcases z : s.heap.get? b with _ | o
        · rfl
        · exact absurd (Heap.lt_size z) (Nat.not_lt.mpr hb)
      refine set_update_tups ((Walks.tuple hn3 _ q ne xs).toS) s.heap.objs.size hf ks size few val s.heap hk (non _ (Nat.le_refl _))
        (fun b hb => non b (by rw [List.mem_singleton.mp hb, sz]; exact Nat.le_succ _)) hu (xs.size - 0) 0 _ (by omega) (Nat.zero_le _)
        ⟨⟨_, Heap.get?_push_size _ rfl, rfl, rfl⟩, (hq1.push _)⟩ (fun b o e => Heap.get?_push_of_some _ (Heap.get?_push_of_some _ e)) ?one ?two
      case one =>
        refine ⟨[], #[], 0, _, setTR_fresh ?_, Got.zero ks⟩
        exact Heap.get?_push_of_some _ hS
      case two =>
        intro s' L es ep t hm hS' g' hkp
        obtain ⟨h', g2, d', tk', os'⟩ := s'
        have eg : g2 = s.gens := hm.gens
        have ed : d' = s.drawn := hm.drawn
        have eo : os' = s.os := hm.os
        subst eg ed eo
        show wpAny _ _ _ _ _ _
        refine wpAny_pure ?_
        show wpAny _ _ (ret Value.none) _ _ _
        rw [size] at g'
        exact wpAny_pure ⟨rfl, h', tk', L, es, ep, t, rfl, hS', g', hkp⟩
    · rcases r2 with e | fl2
      · exact hr2
      cases fl2 with
      | ret r =>
        obtain ⟨rfl, hm⟩ := hr2
        repeat (any_goals (first | assumption | wp_step))
        exact go _ hm
      | _ => exact hr2.elim
  | _ => exact hr.elim
end
theorem pigeon {α : Type} [DecidableEq α] : ∀ (l M : List α), l.Nodup → (∀ x ∈ l, x ∈ M) → l.length ≤ M.length
  | [], _, _, _ => Nat.zero_le _
  | a :: l, M, hl, hs => by
    rw [List.nodup_cons] at hl
    have ha := hs a (by simp)
    have r := pigeon l (M.erase a) hl.2 fun y hy => (List.mem_erase_of_ne (fun z => hl.1 (by rw [← z]; exact hy))).2 (hs y (by simp [hy]))
    rw [List.length_erase_of_mem ha] at r
    have := List.length_pos_of_mem ha
    simp only [List.length_cons]
    omega
/-- each once -/
def dd {α : Type} [DecidableEq α] : List α → List α
  | [] => []
  | a :: l => if a ∈ l then dd l else a :: dd l
theorem dd_mem {α : Type} [DecidableEq α] : ∀ {l : List α} {x : α}, x ∈ dd l ↔ x ∈ l
  | [], x => Iff.rfl
  | a :: l, x => by
    unfold dd
    split
    · rename_i h
      rw [dd_mem, List.mem_cons]
      constructor
      · exact .inr
      · rintro (rfl | h')
        · exact h
        · exact h'
    · rw [List.mem_cons, List.mem_cons, dd_mem]
theorem dd_nodup {α : Type} [DecidableEq α] : ∀ l : List α, (dd l).Nodup
  | [] => List.nodup_nil
  | a :: l => by
    unfold dd
    split
    · exact dd_nodup l
    · rename_i h
      exact List.nodup_cons.mpr ⟨fun z => h (dd_mem.mp z), dd_nodup l⟩
theorem dd_self {α : Type} [DecidableEq α] : ∀ {l : List α}, l.Nodup → dd l = l
  | [], _ => rfl
  | a :: l, h => by
    rw [List.nodup_cons] at h
    unfold dd
    rw [if_neg h.1, dd_self h.2]
theorem got_dd {ks L : List (Addr × List Int)} (g : Got ks ks.length L) (hL : (L.map (·.2)).Nodup) : L.length = (dd (ks.map (·.2))).length := by
  refine Nat.le_antisymm ?_ ?_
  · have h : ∀ x ∈ L.map (·.2), x ∈ dd (ks.map (·.2)) := fun x hx => by
      obtain ⟨p, hp, rfl⟩ := List.mem_map.mp hx
      have := g.sub p hp
      rw [List.take_length] at this
      exact dd_mem.mpr (List.mem_map.mpr ⟨p, this, rfl⟩)
    have := pigeon _ _ hL h
    simpa using this
  · have h : ∀ x ∈ dd (ks.map (·.2)), x ∈ L.map (·.2) := fun x hx => by
      obtain ⟨p, hp, rfl⟩ := List.mem_map.mp (dd_mem.mp hx)
      exact g.all p (by rw [List.take_length]; exact hp)
    have := pigeon _ _ (dd_nodup _) h
    simpa using this
theorem got_len {ks L : List (Addr × List Int)} (g : Got ks ks.length L) (hn : (ks.map (·.2)).Nodup) (hL : (L.map (·.2)).Nodup) : L.length = ks.length := by
  refine Nat.le_antisymm ?_ ?_
  · have := g.len; omega
  · have h : ∀ x ∈ ks.map (·.2), x ∈ L.map (·.2) := fun x hx => by
      obtain ⟨p, hp, rfl⟩ := List.mem_map.mp hx
      exact g.all p (by rw [List.take_length]; exact hp)
    have := pigeon _ _ hn h
    simpa using this
end Rf

set_option Elab.async false
set_option linter.all false
set_option maxRecDepth 100000
/-! RE: enumerate of a tuple. -/
namespace Rf
open PySem L2 PySem.Spec PyProof.Rows
open PySem.AutoSeq1 (wpAny_loadPart')
def enu (it : Addr) : Obj := { cls := .type "enumerate", data := .fields #[.none, .bool false, .ref it, rawInt 0, .none, .none] }
def tit (q : Addr) : Obj := { cls := .type "tuple_iterator", data := .fields #[.ref q, .int 0 0] }
theorem enumT_new (q : Addr) (xs : Array Value) (n : Nat) (dc : Option Addr) (sl : Array (Option Value)) :
    Meets (Builtin.«enumerate.__new__» ⟨[.type "enumerate", .ref q], []⟩) (fun _ R s => s.heap.get? q = some { cls := .type "tuple", dict := dc, data := .seq xs n, slots := sl } ∧
      R (.ok (.ret (.ref (s.heap.push (tit q)).objs.size))) { s with heap := (s.heap.push (tit q)).push (enu s.heap.objs.size) }) :=
  .of_wp fun P w A R s h => by
    obtain ⟨hp, g, d, tk, os⟩ := s
    obtain ⟨hq, h⟩ := h
    have sub := sub_enumerate
    have hT : Heap.IsTuple (Shared.heap ⟨hp, g, d, tk, os⟩) q xs := ⟨_, hq, rfl, n, rfl⟩
    wp_walk using wpAny_loadPart' hq
    refine wpAny_stack_any fun st => wpAny_pure ?_
    split
    · rename_i c _ _ _ _ _
      cases (c == Value.type "enumerate") <;>
      · wp_walk using wpAny_loadPart' hq, wpAny_pyIter_tuple hT
        exact ⟨_, rfl, h⟩
    · wp_walk using wpAny_loadPart' hq, wpAny_pyIter_tuple hT
      exact ⟨_, rfl, h⟩
theorem call_enumT {P : Program} {w : World} {A : Around} {E : Value → Shared → Prop} {s : Shared} {q : Addr} {xs : Array Value} {Q : Value → Shared → Prop} (hq : s.heap.IsTuple q xs)
    (go : ∀ h', IsEnum h' (s.heap.objs.size + 1) s.heap.objs.size 0 .none → h'.IsTupleIter s.heap.objs.size q 0 → (∀ b o, s.heap.get? b = some o → h'.get? b = some o) → Q (.ref (s.heap.objs.size + 1)) { s with heap := h' }) :
    wpAny (model P w) A (call (.type "enumerate") [.ref q]) Q E s := by
  obtain ⟨⟨c, dc, dt, sl⟩, hq, hc, n, hd⟩ := hq
  simp only at hc hd
  subst hc hd
  refine callType_new F.called_enumerate (by decide) (F.typeCall_enumerate_1 _) (F.newCall_enumerate_1 _) (fun ob => F.args_object_init_2 ob _) F.entry_enumerate_new (enumT_new q xs n dc sl) ⟨hq, ?_⟩
  have z : (s.heap.push (tit q)).objs.size = s.heap.objs.size + 1 := Heap.size_push ..
  show _ ∧ _
  rw [z]
  have he : IsEnum ((s.heap.push (tit q)).push (enu s.heap.objs.size)) (s.heap.objs.size + 1) s.heap.objs.size 0 .none := by
    have y := Heap.get?_push_size (s.heap.push (tit q)) (o := enu s.heap.objs.size) rfl
    rw [z] at y
    exact y
  exact ⟨⟨_, he, rfl⟩, go _ he ⟨_, Heap.get?_push_of_some _ (Heap.get?_push_size _ rfl), rfl, rfl⟩ fun b o x => Heap.get?_push_of_some _ (Heap.get?_push_of_some _ x)⟩
/-- the tuple at a, each item in a new pair -/
def ItE (K : PySem.W.Frag) (a : Addr) : It where
  go := fun i H => ∃ (xs : List V) (x : V), SqT K H a xs ∧ xs[i]? = some x
  yld := fun i H v H' => ∃ T x, v = .ref T ∧ H T = none ∧ H' = upd H T (.tup [.int (i : Nat), x]) ∧ ∀ xs, SqT K H a xs → xs[i]? = some x
  stop := fun i H => ∃ xs : List V, SqT K H a xs ∧ xs.length = i
theorem turnE {P : Program} {w : World} {K : PySem.W.Frag} {es : List Expr} {kk : Nat} {tp : Pos} (a e it : Addr) :
    Turn P w K (.Tuple es kk tp) (ItE K a) [e, it] e (fun i h => (∃ old, IsEnum h e it ((i : Nat) : Int) old) ∧ h.IsTupleIter it a i ∧ e ≠ it ∧ it ≠ a ∧ e ≠ a) where
  mem := by simp
  obj := fun i h st b hb => by
    obtain ⟨⟨old, he⟩, ⟨o, ho, hc, hd⟩, _⟩ := st
    have z : b = e ∨ b = it := by simpa using hb
    rcases z with rfl | rfl
    · exact ⟨_, he, fun v q => nomatch q⟩
    · exact ⟨o, ho, fun v q => by rw [hd] at q; cases q⟩
  keep := fun i h h' st k => by
    obtain ⟨⟨old, he⟩, hi, hne⟩ := st
    exact ⟨⟨old, k e (by simp) _ he⟩, hi.at fun o q => k it (by simp) o q, hne⟩
  item := by
    intro X hP hw hK hc i pins s σ H E I hf st hg
    subst hP hw hK
    obtain ⟨⟨old, he⟩, hit, hne, hia, hea⟩ := st
    obtain ⟨xs, x, hq, hx⟩ := hg
    obtain ⟨its, rv, pl, _⟩ := I.tuple hq
    obtain ⟨u, hu, ru⟩ := rv.get hx
    have le : e < s.heap.objs.size := Heap.lt_size he
    have li : it < s.heap.objs.size := by obtain ⟨_, q, _⟩ := hit; exact Heap.lt_size q
    have hlt : i < its.toArray.size := by simpa using (List.getElem?_eq_some_iff.mp hu).1
    refine wpAny_pyNext_enum_itemD (Draws.tuple (by simpa using I.ok.hd hc) it a (Ne.symm hia) its.toArray) he ⟨hit, pl⟩ hlt hne (by simp [hne, hea]) fun v h' tk hv ho hs hT hsz hk => ?_
    have hv : its.toArray[i]? = some v := hv
    have ev : v = u := by
      have z : its.toArray[i]? = some u := by simpa using hu
      rw [z] at hv
      exact (Option.some.inj hv).symm
    subst ev
    refine ⟨_, rfl, wpAny_letOwnedTupleGo_enum (s := { s with heap := h', toks := tk + 1 }) ho fun h2 he2 sb => ?_⟩
    have hT2 : h2.get? s.heap.objs.size = some { cls := .type "tuple", data := .seq #[.int i tk, v] } := (sb.2 _ (Nat.ne_of_gt le)).trans hT
    have new : ObjOk X.prog X.w (upd H s.heap.objs.size (.tup [.int (i : Nat), x])) h2 s.heap.objs.size (.tup [.int (i : Nat), x]) := by
      refine ⟨by show 2 ≤ sizeLine; decide, [.int i tk, v], .cons ⟨_, rfl⟩ (.cons ru .nil), ?_⟩
      exact ⟨_, hT2, rfl, _, rfl⟩
    have I1 : Inv X pins σ (upd H s.heap.objs.size (.tup [.int (i : Nat), x])) { s with heap := h2, toks := tk + 1 } := by
      refine I.turnedNew (ch := [e, it]) (fun b ob hb q => ?_) hf (Nat.le_refl _) new
      simp only [List.mem_cons, List.not_mem_nil, or_false, not_or] at hb
      exact (sb.2 b hb.1).trans (hk b ob hb.1 hb.2 q)
    refine ⟨.ref s.heap.objs.size, _, I1, rfl, ⟨_, x, rfl, I.hok.fresh (Nat.le_refl _), rfl, fun ys hy => by rw [I.tuple_inj hy hq]; exact hx⟩, ⟨⟨v, ?_⟩, hs.1.at fun o q => (sb.2 it (Ne.symm hne)).trans q, hne, hia, hea⟩, fun b hb => ?_⟩
    · have z : ((i + 1 : Nat) : Int) = (i : Int) + 1 := by omega
      rw [z]
      exact he2
    · have lb : b < s.heap.objs.size := by
        have z : b = e ∨ b = it := by simpa using hb
        rcases z with rfl | rfl
        · exact le
        · exact li
      rw [upd_ne (Nat.ne_of_lt lb)]
      exact (hf b hb).1
  done := by
    intro X hP hw hK hc i pins s σ H E I hf st hg
    subst hP hw hK
    obtain ⟨⟨old, he⟩, hit, hne, hia, hea⟩ := st
    obtain ⟨xs, hq, hx⟩ := hg
    obtain ⟨its, rv, pl, _⟩ := I.tuple hq
    obtain ⟨f0, f1, f2, f3, f4, f5⟩ := hf it (by simp)
    have len := rv.length
    have ei : i = its.toArray.size := by simp; omega
    subst ei
    refine wpAny_pyNext_enum_endD (Draws.tuple (by simpa using I.ok.hd hc) it a (Ne.symm hia) its.toArray) he ⟨hit, pl⟩ fun h' hx => ⟨rfl, ?_⟩
    exact I.turned (t' := s.toks) (fun b o hb q => hx b o hb q) f0 f1 f3 f4 f5
  self := fun A i s Q E st h => by
    obtain ⟨⟨_, he⟩, _⟩ := st
    exact wpAny_pyIter_enum he h
def iEnumT (K : PySem.W.Frag) (ta : TA) : TI := fun σ H R => ta σ H fun vs H1 => ∃ a xs, vs = [V.ref a] ∧ SqT K H1 a xs ∧ R (ItE K a) H1
theorem pi_enumT {X : Cx} {e : Expr} {ta : TA} {p pos tp : Pos} {es : List Expr} {kk : Nat} (hg : Gl X "enumerate") (hm : X.mg "enumerate" = none) (ha : PA X [e] ta) (hs : starEach [e] X.env = [(false, eval e X.env)]) :
    PI X (.Tuple es kk tp) (.Call (.Name "enumerate" p) [e] [] pos) (iEnumT X.K ta) := by
  refine ⟨fun pins s σ H R I h => ?_⟩
  refine Call_ (ld_blt I hg hm boot_enumerate (PyProof.Rows.callWith_type1 (thn (ha.run pos pins s σ H _ I h) fun us s1 ⟨vs, H1, I1, r1, a, xs, ex, hq, q⟩ => ?_) hs rfl))
  subst ex
  cases r1 with
  | cons r rr =>
  cases rr
  cases r
  obtain ⟨its, rv, pl, _⟩ := I1.tuple hq
  have la : a < s1.heap.objs.size := by obtain ⟨_, z, _⟩ := pl; exact Heap.lt_size z
  refine call_enumT pl fun h' he hit hk => wpAny_pyIter_enum he ?_
  have I2 : Inv X pins σ H1 { s1 with heap := h' } := I1.kept (t' := s1.toks) hk
  refine ⟨s1.heap.objs.size + 1, [s1.heap.objs.size + 1, s1.heap.objs.size], _, _, H1, rfl, I2, turnE a (s1.heap.objs.size + 1) s1.heap.objs.size, ⟨⟨.none, he⟩, hit, Nat.succ_ne_self _, Nat.ne_of_gt la, Nat.ne_of_gt (Nat.lt_succ_of_lt la)⟩, fun b hb => ?_, q⟩
  have z : b = s1.heap.objs.size + 1 ∨ b = s1.heap.objs.size := by simpa using hb
  have hb : s1.heap.objs.size ≤ b := by
    rcases z with rfl | rfl
    · exact Nat.le_succ _
    · exact Nat.le_refl _
  exact I1.fpOk hb (I1.hok.fresh hb)
end Rf

set_option Elab.async false
set_option linter.all false
set_option maxRecDepth 100000
/-! RA: any, all of whole numbers; x in a tuple of data. -/
namespace Rf
open PySem L2 PySem.Spec PyProof.Rows
theorem truth_ints {prog : Program} {w : World} {A : Around} {ns : List Int} {its : List Value} (h : Vals (ns.map V.int) its) : TruthOf prog w A (fun i v => its.toArray[i]? = some v) (fun i => (ns.getD i 0) != 0) := by
  intro i v s Q E hv hq
  have hv' : its[i]? = some v := by simpa using hv
  have hlen : its.length = ns.length := by rw [← h.length, List.length_map]
  have hi : i < ns.length := by
    have := (List.getElem?_eq_some_iff.mp hv').1
    omega
  obtain ⟨u, h1, h2⟩ := h.get (i := i) (x := V.int ns[i]) (by rw [List.getElem?_map, List.getElem?_eq_getElem hi]; rfl)
  rw [hv'] at h1
  cases h1
  obtain ⟨t, rfl⟩ := h2
  have e : ns.getD i 0 = ns[i] := by rw [List.getD_eq_getElem?_getD, List.getElem?_eq_getElem hi]; rfl
  have hq' : Q (ns.getD i 0 != 0) s := hq
  rw [e] at hq'
  exact truthy_int hq'
section
variable {X : Cx}
def rAnyI (K : PySem.W.Frag) : List V → Hp → VK → Prop := fun vs H Q => ∃ (a : Addr) (ns : List Int), vs = [V.ref a] ∧ SqL K H a (ns.map V.int) ∧ Q (.bl (ns.any (· != 0))) H
def rAllI (K : PySem.W.Frag) : List V → Hp → VK → Prop := fun vs H Q => ∃ (a : Addr) (ns : List Int), vs = [V.ref a] ∧ SqL K H a (ns.map V.int) ∧ Q (.bl (ns.all (· != 0))) H
theorem any_rangeI : ∀ bs : List Int, (List.range bs.length).any (fun i => bs.getD i 0 != 0) = bs.any (· != 0)
  | [] => rfl
  | b :: bs => by
    rw [List.length_cons, List.range_succ_eq_map, List.any_cons, List.any_map, List.any_cons, ← any_rangeI bs]
    all_goals rfl
theorem all_rangeI : ∀ bs : List Int, (List.range bs.length).all (fun i => bs.getD i 0 != 0) = bs.all (· != 0)
  | [] => rfl
  | b :: bs => by
    rw [List.length_cons, List.range_succ_eq_map, List.all_cons, List.all_map, List.all_cons, ← all_rangeI bs]
    all_goals rfl
theorem cr_anyI (hc : X.calm = true) : CallR X (.builtin "any") (rAnyI X.K) := by
  intro pins s σ H vs us Q I r h
  obtain ⟨a, ns, rfl, hs, q⟩ := h
  obtain ⟨its, rv, hl, _⟩ := I.list hs
  rw [Vals.ref1 r]
  have hlen : its.length = ns.length := by rw [← rv.length, List.length_map]
  refine call_any_walk (iter_any hl.isList fun s₂ e2 st hne => ?_)
  subst e2
  refine ⟨_, _, _, _, _, _, _, rfl, Walks.list (A := X.A.in1) (I.ok.hd hc) _ a hne its.toArray, st, truth_ints rv, fun h' tk hk => ?_⟩
  refine ⟨.bl _, H, I.kept fun b o eo => hk b o (fun hmem => ?_) (Heap.get?_push_of_some _ eo), ?_, q⟩
  · rcases List.mem_cons.mp hmem with e1 | hmem
    · exact absurd (e1 ▸ Heap.lt_size eo) (Nat.lt_irrefl _)
    · cases hmem
  · show Value.bool _ = Value.bool _
    rw [← any_rangeI, List.size_toArray, hlen]
theorem cr_allI (hc : X.calm = true) : CallR X (.builtin "all") (rAllI X.K) := by
  intro pins s σ H vs us Q I r h
  obtain ⟨a, ns, rfl, hs, q⟩ := h
  obtain ⟨its, rv, hl, _⟩ := I.list hs
  rw [Vals.ref1 r]
  have hlen : its.length = ns.length := by rw [← rv.length, List.length_map]
  refine call_all_walk (iter_any hl.isList fun s₂ e2 st hne => ?_)
  subst e2
  refine ⟨_, _, _, _, _, _, _, rfl, Walks.list (A := X.A.in1) (I.ok.hd hc) _ a hne its.toArray, st, truth_ints rv, fun h' tk hk => ?_⟩
  refine ⟨.bl _, H, I.kept fun b o eo => hk b o (fun hmem => ?_) (Heap.get?_push_of_some _ eo), ?_, q⟩
  · rcases List.mem_cons.mp hmem with e1 | hmem
    · exact absurd (e1 ▸ Heap.lt_size eo) (Nat.lt_irrefl _)
    · cases hmem
  · show Value.bool _ = Value.bool _
    rw [← all_rangeI, List.size_toArray, hlen]
def rInT (K : PySem.W.Frag) : R2 := fun x y H Q => ∃ d ds, Dp K H x d ∧ Dp K H y (.tuple ds) ∧ SeqAt.shaped d = true ∧ SeqAt.shaped (.tuple ds) = true ∧ Q (.bl (ds.any fun z => PyData.eqv z d)) H
def rNotInT (K : PySem.W.Frag) : R2 := fun x y H Q => ∃ d ds, Dp K H x d ∧ Dp K H y (.tuple ds) ∧ SeqAt.shaped d = true ∧ SeqAt.shaped (.tuple ds) = true ∧ Q (.bl (!ds.any fun z => PyData.eqv z d)) H
theorem op_inT (hu : X.A.units + 65 < cLine) : OpR X (compareOp .In) (rInT X.K) := by
  intro pins s σ H x y v u Q I rx ry h
  obtain ⟨d, ds, hd, he, sd, se, q⟩ := h
  obtain ⟨as, r1⟩ := Dp.reads I d x v hd rx
  obtain ⟨bs, r2⟩ := Dp.reads I (.tuple ds) y u he ry
  exact SeqAt.in_tuple_reads r2 r1 (SeqAt.canLay_of_shaped se) (SeqAt.canLay_of_shaped sd) (room_in_shaped sd hu) ⟨.bl _, H, I, rfl, q⟩
theorem op_notInT (hu : X.A.units + 65 < cLine) : OpR X (compareOp .NotIn) (rNotInT X.K) := by
  intro pins s σ H x y v u Q I rx ry h
  obtain ⟨d, ds, hd, he, sd, se, q⟩ := h
  obtain ⟨as, r1⟩ := Dp.reads I d x v hd rx
  obtain ⟨bs, r2⟩ := Dp.reads I (.tuple ds) y u he ry
  exact SeqAt.notIn_tuple_reads r2 r1 (SeqAt.canLay_of_shaped se) (SeqAt.canLay_of_shaped sd) (room_in_shaped sd hu) ⟨.bl _, H, I, rfl, q⟩
end
/-! ### tuple * 1 -/
theorem tuple_mul1 (l : Addr) (items : Array Value) (n : Nat) (dd : Option Addr) (sl : Array (Option Value)) (u : Tok) :
    Meets (Builtin.«tuple.__mul__» ⟨[.ref l, .int 1 u], []⟩) (fun _ R s => s.heap.get? l = some { cls := .type "tuple", dict := dd, data := .seq items n, slots := sl } ∧ R (.ok (.ret (Value.ref l))) s) :=
  .of_wp fun prog w A R s h => by
    obtain ⟨hp, g, d, tk, os⟩ := s
    obtain ⟨hl, h⟩ := h
    have f1 := AutoSeq1.idx_int
    wp_walk using wpAny_loadPart' hl
    exact ⟨_, rfl, h⟩
def rRepT1 (K : PySem.W.Frag) : R2 := fun x y H Q => ∃ l xs, x = .ref l ∧ y = .int 1 ∧ SqT K H l xs ∧ Q (.ref l) H
theorem op_repT1 {X : Cx} : OpR X (binaryOp .Mult) (rRepT1 X.K) := by
  intro pins s σ H x y v u Q I rx ry h
  obtain ⟨l, xs, rfl, rfl, hT, q⟩ := h
  cases rx
  obtain ⟨t, rfl⟩ := ry
  obtain ⟨its, r, ⟨⟨cls, dd, data, sl⟩, ho, hc, n, hd⟩, hs⟩ := I.tuple hT
  simp only at hc hd
  subst hc hd
  exact wpAny_binaryOp_repeat_ref (T := "tuple") (U := "int") (by decide) ⟨_, ho, rfl⟩ (fun s' => typeIs_int s' 1 t) noFill_tuple_mul PySem.F.fills_int_mul PySem.F.slot_int_rmul repeat_tuple PySem.F.slot_int_index.lookup
    (call_meets PySem.F.slot_int_rmul (typeIs_int s 1 t) PySem.F.entry_int_rmul (PySem.F.args_int_rmul_2 _ _) (int_rmul_tuple 1 t l its.toArray n dd sl)
      ⟨ho, rfl, ⟨_, ho, rfl⟩, call_meets PySem.F.slot_tuple_mul ⟨_, ho, rfl⟩ PySem.F.entry_tuple_mul (PySem.F.args_tuple_mul_2 _ _) (tuple_mul1 l its.toArray n dd sl t) ⟨ho, .ref l, H, I, rfl, q⟩⟩)
end Rf

set_option Elab.async false
set_option linter.all false
set_option maxRecDepth 100000
/-! RD: t > u of tuples of whole numbers. -/
namespace Rf
open PySem L2 PySem.Spec PyProof.Rows
section
open PySem.SeqAt PySem.MeetsSeq PySem.MeetsSeq2 PySem.MeetsSeq3
open PySem.AutoSeq1 (wpAny_loadPart')
theorem gt_one {A : Around} {s : Shared} {x y : Int} {t u : Tok} {prog : Program} {w : World} {E Q : Value → Shared → Prop} (k : Q (.bool (decide (y < x))) s) : wpAny (model prog w) A (richCompare .Gt (.int x t) (.int y u)) Q E s := by
  have z : wpAny (model prog w) A (compareOp .Gt (.int x t) (.int y u)) Q E s := PyProof.Rows.gt_int (by simpa using k)
  exact z
theorem tup_gt (p q : Addr) (xs ys : Array Value) (i j : Nat) (dp dq : Option Addr) (tp tq : Array (Option Value)) (as bs : List Int) (ha : IntsAre xs.toList as) (hb : IntsAre ys.toList bs) :
    Meets (Builtin.«tuple.__gt__» ⟨[.ref p, .ref q], []⟩) (fun _ R s => s.heap.get? p = some { cls := .type "tuple", dict := dp, data := .seq xs i, slots := tp } ∧ s.heap.get? q = some { cls := .type "tuple", dict := dq, data := .seq ys j, slots := tq } ∧ R (.ok (.ret (.bool (HT.lexLt bs as)))) s) :=
  .of_wp fun prog w A R s h => by
    obtain ⟨hp0, gs, dr, tk0, os0⟩ := s
    obtain ⟨hP, hQ, fin⟩ := h
    have fsub := AutoSeq1.sub_tuple_tuple
    have la : xs.size = as.length := by rw [← ha.length]; simp
    have lb : ys.size = bs.length := by rw [← hb.length]; simp
    wp_walk using wpAny_loadPart' hP, wpAny_loadPart' hQ, wpAny_forIn_list _ (fun more acc now => acc.1 = none ∧ now = ⟨hp0, gs, dr, tk0, os0⟩ ∧ ∃ (us zs : List Value) (cs es : List Int), more = us.zip zs ∧
      IntsAre us cs ∧ IntsAre zs es ∧ cs.length + ys.size = es.length + xs.size ∧ R (.ok (.ret (.bool (HT.lexLt es cs)))) ⟨hp0, gs, dr, tk0, os0⟩) _
    case turn =>
      rintro ⟨v1, v2⟩ more acc now ⟨hacc, rfl, us, zs, cs, es, hz, hus, hzs, hlen, hR⟩
      cases hus with
      | nil => simp at hz
      | cons x1 t1 hus2 =>
        cases hzs with
        | nil => simp at hz
        | cons x2 t2 hzs2 =>
          simp only [List.zip_cons_cons, List.cons.injEq, Prod.mk.injEq] at hz
          obtain ⟨⟨rfl, rfl⟩, hmore⟩ := hz
          simp only [HT.lexLt_cons] at hR
          simp only [List.length_cons] at hlen
          obtain ⟨eq, heq, hifft⟩ := HT.eqAt_int A.in1 ⟨hp0, gs, dr, tk0, os0⟩ x1 t1 x2 t2
          refine wpAny_bind (heq prog w _ _ ?_)
          cases eq with
          | true =>
            have hx : x2 = x1 := (hifft.mp rfl).symm
            rw [if_pos hx] at hR
            wp_walk
            exact ⟨rfl, rfl, _, _, _, _, hmore, hus2, hzs2, by omega, hR⟩
          | false =>
            have hx : ¬ x2 = x1 := fun z => Bool.false_ne_true (hifft.mpr z.symm)
            rw [if_neg hx] at hR
            have one := @gt_one A.in1 ⟨hp0, gs, dr, tk0, os0⟩ x1 x2 t1 t2 prog w
            wp_walk using one
            exact ⟨_, rfl, by simpa using hR⟩
    case fin =>
      rintro ⟨a1, a2⟩ now ⟨hacc, rfl, us, zs, cs, es, hz, hus, hzs, hlen, hR⟩
      simp only at hacc
      subst hacc
      have key : HT.lexLt es cs = decide (ys.size < xs.size) := by
        cases hus with
        | nil =>
          cases hzs with
          | nil => simp at hlen; rw [HT.lexLt_nil_nil, decide_eq_false (by omega)]
          | cons x2 t2 hzs2 => simp at hlen; rw [HT.lexLt_cons_nil, decide_eq_false (by omega)]
        | cons x1 t1 hus2 =>
          cases hzs with
          | nil => simp at hlen; rw [HT.lexLt_nil_cons, decide_eq_true (by omega)]
          | cons x2 t2 hzs2 => simp at hz
      rw [key] at hR
      wp_walk
      exact ⟨_, rfl, by simpa [Builtin.Tuple.tupleCompareSizes] using hR⟩
    case h =>
      exact ⟨rfl, rfl, xs.toList, ys.toList, as, bs, rfl, ha, hb, by omega, fin⟩
end
def rGtT (K : PySem.W.Frag) : R2 := fun x y H Q => ∃ a b ns ms, x = .ref a ∧ y = .ref b ∧ SqT K H a (ns.map V.int) ∧ SqT K H b (ms.map V.int) ∧ Q (.bl (HT.lexLt ms ns)) H
set_option maxHeartbeats 1600000 in
theorem op_gtT {X : Cx} (hu : X.A.units < cLine) : OpR X (compareOp .Gt) (rGtT X.K) := by
  intro pins s σ H x y v u Q I rx ry h
  obtain ⟨a, b, ns, ms, rfl, rfl, h1, h2, q⟩ := h
  cases rx
  cases ry
  obtain ⟨i1, r1, ⟨⟨c1, d1, dt1, sl1⟩, ho1, hc1, n1, hd1⟩, _⟩ := I.tuple h1
  obtain ⟨i2, r2, ⟨⟨c2, d2, dt2, sl2⟩, ho2, hc2, n2, hd2⟩, _⟩ := I.tuple h2
  simp only at hc1 hd1 hc2 hd2
  subst hc1 hd1 hc2 hd2
  exact richCompare_meets_room (op := .Gt) ⟨_, ho1, rfl⟩ ⟨_, ho2, rfl⟩ PySem.F.slot_tuple_gt PySem.F.entry_tuple_gt (PySem.F.args_tuple_gt_2 _ _) (tup_gt a b i1.toArray i2.toArray n1 n2 d1 d2 sl1 sl2 ns ms (by simpa using r1.ints) (by simpa using r2.ints))
    ⟨ho1, ho2, show Value.bool (HT.lexLt ms ns) ≠ Value.notImplemented ∧ EP X pins σ Q (Value.bool (HT.lexLt ms ns)) s from ⟨(fun z => by cases z), .bl (HT.lexLt ms ns), H, I, rfl, q⟩⟩ hu
end Rf

set_option Elab.async false
set_option linter.all false
set_option maxRecDepth 100000
/-! RM: the least of a list of data that can be compared. -/
namespace Rf
open PySem L2 PySem.Spec PyProof.Rows PySem.SeqAt PySem.W
section
variable {X : Cx}
theorem dpAll_at {K : PySem.W.Frag} {H : Hp} : ∀ {xs : List V} {ps : List PyData} {i : Nat} {x : V}, DpAll K H xs ps → xs[i]? = some x → ∃ p, ps[i]? = some p ∧ Dp K H x p
  | _, _, i, x, .nil, e => by simp at e
  | _, _, 0, x, .cons h _, e => by
    have e := Option.some.inj (show some _ = some x from e)
    subst e
    exact ⟨_, rfl, h⟩
  | _, _, i + 1, x, .cons _ t, e => by
    obtain ⟨p, h1, h2⟩ := dpAll_at (i := i) (x := x) t (by simpa using e)
    exact ⟨p, by simpa using h1, h2⟩
/-- min of a list of data: an item that is the least -/
def rMinD (K : PySem.W.Frag) : List V → Hp → VK → Prop := fun vs H Q => ∃ (a : Addr) (xs : List V) (p : PyData) (ps : List PyData), vs = [V.ref a] ∧ SqL K H a xs ∧ DpAll K H xs (p :: ps) ∧ AlikeAll (p :: ps) ∧ PyData.depthAll (p :: ps) ≤ 64 ∧
  ∀ (i : Nat) (x : V), xs[i]? = some x → (p :: ps)[i]? = some (minD p ps) → Q x H
theorem minD_mem (p : PyData) : ∀ ps : List PyData, minD p ps ∈ p :: ps := by
  intro ps
  unfold minD
  induction ps generalizing p with
  | nil => simp
  | cons q r ih =>
    rw [List.foldl_cons]
    have := ih (if dataLt q p then q else p)
    rcases List.mem_cons.mp this with h | h
    · rw [h]
      split <;> simp
    · simp [h]
theorem cr_minD (hc : X.calm = true) (hu : X.A.units + 65 < cLine) : CallR X (.builtin "min") (rMinD X.K) := by
  intro pins s σ H vs us Q I r h
  obtain ⟨a, xs, p, ps, rfl, hs, hd, hal, hdep, q⟩ := h
  obtain ⟨its, rv, hl, _⟩ := I.list hs
  rw [Vals.ref1 r]
  obtain ⟨as, rd⟩ := Dp.readsAll I (p :: ps) _ its hd rv
  refine min_list_data (vs := its.toArray) (I.ok.hd hc) hl.isList (by simpa using rd) hal (by omega) fun i v h' tk bs hv hr hk => ?_
  have hv' : its[i]? = some v := by simpa using hv
  obtain ⟨bs', r1, i1, i2, i3⟩ := readsAll_at rd i v hv'
  have hlen : xs.length = its.length := rv.length
  have hil : i < xs.length := by
    have := (List.getElem?_eq_some_iff.mp hv').1
    omega
  have hx : xs[i]? = some xs[i] := List.getElem?_eq_getElem hil
  obtain ⟨u, h1, h2⟩ := rv.get hx
  rw [hv'] at h1
  cases h1
  obtain ⟨pi, g1, g2⟩ := dpAll_at hd hx
  have e0 : (p :: ps).getD i .none = pi := by rw [List.getD_eq_getElem?_getD, g1]; rfl
  rw [e0] at r1 i2
  have e1 : pi = minD p ps := alike_unique _ _ _ _ _ (hal.1 _ i2 _ (minD_mem p ps)) (PyProof.Rows.Reads.keeps hk r1) hr
  refine ⟨xs[i], H, I.kept hk, h2, q i _ hx ?_⟩
  rw [g1, e1]
def rMin2 (K : PySem.W.Frag) : List V → Hp → VK → Prop := fun vs H Q => rMin K vs H Q ∨ rMinD K vs H Q
theorem cr_min2 (hc : X.calm = true) (hu : X.A.units + 65 < cLine) : CallR X (.builtin "min") (rMin2 X.K) := by
  intro pins s σ H vs us Q I r h
  rcases h with h | h
  · exact cr_min hc _ _ _ _ _ _ _ I r h
  · exact cr_minD hc hu _ _ _ _ _ _ _ I r h
end
end Rf

set_option Elab.async false
set_option linter.all false
set_option maxRecDepth 100000
/-! R1: the small language: data, trees, the evaluator. No model in sight but its letters (Str, Operator, CmpOp) and PyData's equality. -/
namespace Rf
open PySem

/-- data: fl is a list of another's (the script): read only; ref n: the n-th object of the store -/
inductive D where
  | non | bl (b : Bool) | int (i : Int) | str (x : Str) | tup (ds : List D) | lst (ds : List D) | fl (ns : List Int) | ref (n : Nat)
  deriving Inhabited

mutual
def toP : D → Option PyData
  | .non => some .none
  | .bl b => some (.bool b)
  | .int i => some (.int i)
  | .str x => some (.str x)
  | .tup ds => (toPs ds).map PyData.tuple
  | .lst ds => (toPs ds).map PyData.list
  | .fl _ => none
  | .ref _ => none
def toPs : List D → Option (List PyData)
  | [] => some []
  | d :: ds => (toP d).bind fun x => (toPs ds).map fun xs => x :: xs
end

/-- == of data -/
def eqD (x y : D) : Option Bool :=
  (toP x).bind fun a => (toP y).bind fun b => if SeqAt.shaped a && SeqAt.shaped b then some (PyData.eqv a b) else none

inductive Slot where
  | un | val (d : D) | own (ds : List D)
  deriving Inhabited
/-- an object of the store -/
inductive SObj where
  | lst (ds : List D)
  deriving Inhabited

structure Sg where
  env : List Slot
  sto : List SObj

/-- what an expression hands on: data; the list that the slot i owns; a new list that none else knows -/
inductive Hd where
  | d (x : D) | sl (i : Nat) | own (ds : List D)
  deriving Inhabited

structure Exn where
  cls : Nat
  args : List D
inductive Out (α : Type) where
  | ok (a : α) | exc (x : Exn)
abbrev Rs (α : Type) := Option (Out α × Sg)
def bnd {α β : Type} (m : Rs α) (k : α → Sg → Rs β) : Rs β :=
  match m with
  | none => none
  | some (.exc x, s) => some (.exc x, s)
  | some (.ok a, s) => k a s
abbrev okk {α : Type} (a : α) (s : Sg) : Rs α := some (.ok a, s)
def opt {α : Type} (o : Option α) (s : Sg) : Rs α :=
  match o with
  | none => none
  | some a => some (.ok a, s)
@[simp] theorem bnd_ok {α β : Type} (a : α) (s : Sg) (k : α → Sg → Rs β) : bnd (some (.ok a, s)) k = k a s := rfl
@[simp] theorem bnd_exc {α β : Type} (x : Exn) (s : Sg) (k : α → Sg → Rs β) : bnd (some (.exc x, s) : Rs α) k = some (.exc x, s) := rfl
@[simp] theorem bnd_none {α β : Type} (k : α → Sg → Rs β) : bnd (none : Rs α) k = none := rfl
@[simp] theorem opt_some {α : Type} (a : α) (s : Sg) : opt (some a) s = some (.ok a, s) := rfl
@[simp] theorem opt_none {α : Type} (s : Sg) : opt (none : Option α) s = none := rfl

def Sg.rd (s : Sg) : Hd → Option D
  | .d x => some x
  | .own ds => some (.lst ds)
  | .sl i => match s.env[i]? with
    | some (.own ds) => some (.lst ds)
    | some (.val x) => some x
    | _ => none
/-- it is known to others from now on -/
def Sg.fz (s : Sg) : Hd → Rs D
  | .d x => okk x s
  | .own ds => okk (.lst ds) s
  | .sl i => match s.env[i]? with
    | some (.own ds) => okk (.lst ds) { s with env := s.env.set i (.val (.lst ds)) }
    | some (.val x) => okk x s
    | _ => none

/-! ### operations on data -/
def ixNat (n : Nat) (i : Int) : Option Nat := if 0 ≤ i then (if i < n then some i.toNat else none) else if -(n : Int) ≤ i then some (i + n).toNat else none
def cut {α : Type} (xs : List α) (lo hi : Option Int) : List α := (xs.drop (HT.sIx xs.length 0 lo)).take (HT.sIx xs.length xs.length hi - HT.sIx xs.length 0 lo)

noncomputable def binI (o : Operator) (i j : Int) : Option Int :=
  match o with
  | .Add => some (i + j)
  | .Sub => some (i - j)
  | .Mult => @ite (Option Int) ((-(2 ^ 64) < i ∧ i < 2 ^ 64) ∨ (-(2 ^ 64) < j ∧ j < 2 ^ 64)) (Classical.propDecidable _) (some (i * j)) none
  | .FloorDiv => @ite (Option Int) (0 < j ∧ j < 1073741824) (Classical.propDecidable _) (some (i / j)) none
  | .Mod => @ite (Option Int) (0 < j) (Classical.propDecidable _) (some (i % j)) none
  | .Pow => @ite (Option Int) (0 ≤ j ∧ j ≤ 1000000 ∧ i.natAbs < 2 ^ 64) (Classical.propDecidable _) (some (i ^ j.toNat)) none
  | .LShift => @ite (Option Int) (0 ≤ j ∧ j ≤ 1000000 ∧ i.natAbs < 2 ^ 64) (Classical.propDecidable _) (some (i * 2 ^ j.toNat)) none
  | .RShift => @ite (Option Int) (0 ≤ j) (Classical.propDecidable _) (some (i / 2 ^ j.toNat)) none
  | .BitAnd => some (Builtin.bitAnd i j)
  | .BitOr => some (Builtin.bitOr i j)
  | .BitXor => some (Builtin.bitXor i j)
  | _ => none
noncomputable def bin (o : Operator) (x y : D) : Option Hd :=
  match x, y with
  | .int i, .int j => (binI o i j).map fun k => .d (.int k)
  | .str a, .str b => match o with
    | .Add => if a.length + b.length ≤ sizeLine then some (.d (.str (a ++ b))) else none
    | _ => none
  | .tup a, .tup b => match o with
    | .Add => if a.length + b.length ≤ sizeLine then some (.d (.tup (a ++ b))) else none
    | _ => none
  | .lst a, .lst b => match o with
    | .Add => if a.length + b.length ≤ sizeLine then some (.own (a ++ b)) else none
    | _ => none
  | .lst a, .int k => match o with
    | .Mult => @ite (Option Hd) (-(2 ^ 63) ≤ k ∧ k < 2 ^ 63 ∧ a.length * k.toNat ≤ sizeLine) (Classical.propDecidable _) (some (.own (List.replicate k.toNat a).flatten)) none
    | _ => none
  | .tup a, .int k => match o with
    | .Mult => @ite (Option Hd) (k = 1) (Classical.propDecidable _) (some (.d (.tup a))) (@ite (Option Hd) (a ≠ [] ∧ 2 ≤ k ∧ k ≤ 1000 ∧ a.length ≤ 1000) (Classical.propDecidable _) (some (.d (.tup (List.replicate k.toNat a).flatten))) none)
    | _ => none
  | _, _ => none
def un (o : UnaryOp) (x : D) : Option D :=
  match o, x with
  | .USub, .int i => some (.int (-i))
  | .Invert, .int i => some (.int (Builtin.bitNot i))
  | _, _ => none
def isNon : D → Bool
  | .non => true
  | _ => false
def intsOf : List D → Option (List Int)
  | [] => some []
  | .int b :: r => (intsOf r).map (b :: ·)
  | _ :: _ => none
/-- x in a row of data -/
def inD (x : D) (ds : List D) : Option Bool :=
  (toP x).bind fun a => (toPs ds).bind fun bs => if SeqAt.shaped a && SeqAt.shaped (.list bs) then some (bs.any fun z => PyData.eqv z a) else none
/-- the comparisons -/
def cmp (o : CmpOp) (x y : D) : Option Bool :=
  match o with
  | .Eq => eqD x y
  | .NotEq => (eqD x y).map (!·)
  | .Lt => match x, y with
    | .int i, .int j => some (decide (i < j))
    | .tup a, .tup b => (intsOf a).bind fun ns => (intsOf b).map fun ms => HT.lexLt ns ms
    | _, _ => none
  | .LtE => match x, y with
    | .int i, .int j => some (decide (i ≤ j))
    | _, _ => none
  | .Gt => match x, y with
    | .int i, .int j => some (decide (j < i))
    | .tup a, .tup b => (intsOf a).bind fun ns => (intsOf b).map fun ms => HT.lexLt ms ns
    | _, _ => none
  | .GtE => match x, y with
    | .int i, .int j => some (decide (j ≤ i))
    | _, _ => none
  | .Is => match y with
    | .non => some (isNon x)
    | _ => none
  | .IsNot => match y with
    | .non => some (!isNon x)
    | _ => none
  | .In => match y with
    | .str b => match x with
      | .str a => some (!(Builtin.Str.occurrences b a 0 b.length 1).isEmpty)
      | _ => none
    | .tup ds => inD x ds
    | .lst ds => inD x ds
    | _ => none
  | .NotIn => match y with
    | .str b => match x with
      | .str a => some (!(!(Builtin.Str.occurrences b a 0 b.length 1).isEmpty))
      | _ => none
    | .tup ds => (inD x ds).map (!·)
    | .lst ds => (inD x ds).map (!·)
    | _ => none
def truth : D → Option Bool
  | .non => some false
  | .bl b => some b
  | .int i => some (i != 0)
  | .tup ds => some (!ds.isEmpty)
  | .lst ds => some (!ds.isEmpty)
  | _ => none
def idx (sto : List SObj) (x y : D) : Option D :=
  match y with
  | .int i => match x with
    | .tup ds => (ixNat ds.length i).bind fun j => ds[j]?
    | .lst ds => (ixNat ds.length i).bind fun j => ds[j]?
    | .fl ns => (ixNat ns.length i).bind fun j => (ns[j]?).map D.int
    | .str z => if z.length ≤ sizeLine then (ixNat z.cps.toList.length i).bind fun j => (z.cps.toList[j]?).map fun c => .str ⟨#[c]⟩ else none
    | .ref n => match sto[n]? with
      | some (.lst ds) => (ixNat ds.length i).bind fun j => ds[j]?
      | _ => none
    | _ => none
  | _ => none
def slc (x : D) (lo hi : Option Int) : Option Hd :=
  match x with
  | .tup ds => some (.d (.tup (cut ds lo hi)))
  | .lst ds => some (.own (cut ds lo hi))
  | .str z => if z.length ≤ sizeLine then some (.d (.str (L2.cutS z lo hi))) else none
  | _ => none

inductive B where
  | len | tuple | list | all | any | sum | int | abs | min2 | max2 | isInt | isBool | isTup | isStr | setLen | min1 | max1 | sorted
  deriving DecidableEq
def bools : List D → Option (List Bool)
  | [] => some []
  | .bl b :: r => (bools r).map (b :: ·)
  | _ :: _ => none
/-- tuples of ints -/
def tupInts : List D → Option (List (List Int))
  | [] => some []
  | .tup ds :: r => (intsOf ds).bind fun k => (tupInts r).map (k :: ·)
  | _ :: _ => none
open Classical in
/-- the least of data that can be compared -/
noncomputable def minDD (ds : List D) : Option D := match toPs ds with
  | some (p :: ps) => if W.AlikeAll (p :: ps) ∧ PyData.depthAll (p :: ps) ≤ 64 then ds.find? (fun d => decide (toP d = some (W.minD p ps))) else none
  | _ => none
noncomputable def bcall (b : B) (xs : List D) : Option Hd :=
  match b, xs with
  | .setLen, [.tup ds] => (tupInts ds).bind fun ks => if ks.length < 64 then some (.d (.int (dd ks).length)) else none
  | .len, [.tup ds] => some (.d (.int ds.length))
  | .len, [.lst ds] => some (.d (.int ds.length))
  | .len, [.fl ns] => some (.d (.int ns.length))
  | .len, [.str z] => if z.length ≤ sizeLine then some (.d (.int z.length)) else none
  | .tuple, [.tup ds] => some (.d (.tup ds))
  | .tuple, [.lst ds] => some (.d (.tup ds))
  | .list, [.tup ds] => some (.own ds)
  | .list, [.lst ds] => some (.own ds)
  | .all, [.lst ds] => match bools ds with
    | some bs => some (.d (.bl (bs.all id)))
    | none => (intsOf ds).map fun bs => .d (.bl (bs.all (· != 0)))
  | .any, [.lst ds] => match bools ds with
    | some bs => some (.d (.bl (bs.any id)))
    | none => (intsOf ds).map fun bs => .d (.bl (bs.any (· != 0)))
  | .min1, [.lst ds] => match intsOf ds with
    | some bs => bs.min?.map fun k => .d (.int k)
    | none => (minDD ds).map Hd.d
  | .max1, [.lst ds] => (intsOf ds).bind fun bs => bs.max?.map fun k => .d (.int k)
  | .sorted, [.lst ds] => (intsOf ds).map fun bs => .own ((bs.mergeSort fun a b => decide (a ≤ b)).map D.int)
  | .sum, [.lst ds] => (intsOf ds).map fun bs => .d (.int bs.sum)
  | .int, [.int i] => some (.d (.int i))
  | .int, [.bl b] => some (.d (.int (if b then 1 else 0)))
  | .abs, [.int i] => some (.d (.int (if i < 0 then -i else i)))
  | .min2, [.int i, .int j] => some (.d (.int (if j < i then j else i)))
  | .max2, [.int i, .int j] => some (.d (.int (if j > i then j else i)))
  | .isInt, [x] => (match x with
    | .int _ => some true
    | .bl _ => some true
    | .non => some false
    | .str _ => some false
    | .tup _ => some false
    | .lst _ => some false
    | _ => none).map fun b => .d (.bl b)
  | .isBool, [x] => (match x with
    | .int _ => some false
    | .bl _ => some true
    | .non => some false
    | .str _ => some false
    | .tup _ => some false
    | .lst _ => some false
    | _ => none).map fun b => .d (.bl b)
  | .isTup, [x] => (match x with
    | .int _ => some false
    | .bl _ => some false
    | .non => some false
    | .str _ => some false
    | .tup _ => some true
    | .lst _ => some false
    | _ => none).map fun b => .d (.bl b)
  | .isStr, [x] => (match x with
    | .int _ => some false
    | .bl _ => some false
    | .non => some false
    | .str _ => some true
    | .tup _ => some false
    | .lst _ => some false
    | _ => none).map fun b => .d (.bl b)
  | _, _ => none

/-! ### trees -/
inductive M where
  | append | popAt | extend
  deriving DecidableEq
/-- methods of texts -/
inductive SM where
  | join | split | find | index
  deriving DecidableEq
mutual
inductive E where
  | var (i : Nat)
  | lit (d : D)
  | bin (o : Operator) (a b : E)
  | un (o : UnaryOp) (a : E)
  | cmp (o : CmpOp) (a b : E)
  | chain (o o' : CmpOp) (a b c : E)
  | and (a b : E)
  | or (a b : E)
  | not (a : E)
  | ife (c : T) (a b : E)
  | tup (es : List E)
  | lst (es : List E)
  | idx (a b : E)
  | slc (a : E) (lo hi : Option E)
  | call (f : Nat) (es : List E)
  | callK (f : Nat) (es : List E) (ks : List E) (perm : List Nat)
  | bcall (f : B) (es : List E)
  | rangeL (es : List E)
  | meth (m : M) (i : Nat) (es : List E)
  | comp (vs : List Nat) (elt : E) (t : Tg) (it : I) (c : Option T)
  | refused (e : E)
  | comp2 (vs vs1 : List Nat) (elt : E) (t : Tg) (it : I) (c : Option T) (t1 : Tg) (it1 : I) (c1 : Option T)
  | smeth (m : SM) (o e : E)
inductive T where
  | and (a b : T)
  | or (a b : T)
  | not (a : T)
  | e (a : E)
/-- what a loop walks -/
inductive I where
  | range (es : List E)
  | enum (e : E)
  | zip (a b : E)
  | seq (e : E)
/-- targets -/
inductive Tg where
  | name (i : Nat)
  | tup (ts : List Tg)
  | sub (o i : E)
end
inductive S where
  | asg (t : Tg) (e : E)
  | par (js : List Nat) (es : List E)
  | new (i : Nat) (es : List E)
  | aug (i : Nat) (o : Operator) (e : E)
  | expr (e : E)
  | ret (e : Option E)
  | ife (c : T) (a b : List S)
  | whl (c : T) (b : List S)
  | loop (t : Tg) (it : I) (b : List S)
  | raise (c : Nat) (es : List E)
  | brk
  | cont

/-! ### the evaluator -/
abbrev Call := Nat → List D → List SObj → Option (Out D × List SObj)
def callR (cl : Call) (f : Nat) (ds : List D) (s : Sg) : Rs Hd :=
  match cl f ds s.sto with
  | none => none
  | some (.ok d, st) => okk (.d d) { s with sto := st }
  | some (.exc x, st) => some (.exc x, { s with sto := st })
def frz (m : Rs Hd) : Rs D := bnd m fun h s => s.fz h
noncomputable def rangeI (es : List D) : Option (List D) :=
  match es with
  | [.int n] => @ite (Option (List D)) (-(2 ^ 62) ≤ n ∧ n < 2 ^ 62) (Classical.propDecidable _) (some ((List.range n.toNat).map fun k => D.int (k : Nat))) none
  | [.int a, .int b] => @ite (Option (List D)) (-(2 ^ 62) ≤ a ∧ a < 2 ^ 62 ∧ -(2 ^ 62) ≤ b ∧ b < 2 ^ 62) (Classical.propDecidable _) (some ((List.range (b - a).toNat).map fun k => D.int (a + (k : Nat)))) none
  | _ => none
/-- the items of what is walked -/
def seqI (d : D) : Option (List D) :=
  match d with
  | .tup ds => some ds
  | .lst ds => some ds
  | .str z => some (z.cps.toList.map fun c => .str ⟨#[c]⟩)
  | _ => none
def enumI (d : D) : Option (List D) :=
  match d with
  | .tup ds => some (ds.zipIdx.map fun p => .tup [.int (p.2 : Nat), p.1])
  | .lst ds => some (ds.zipIdx.map fun p => .tup [.int (p.2 : Nat), p.1])
  | _ => none
def zipI (a b : D) : Option (List D) :=
  match a, b with
  | .lst xs, .lst ys => some ((xs.zip ys).map fun p => .tup [p.1, p.2])
  | .tup xs, .tup ys => some ((xs.zip ys).map fun p => .tup [p.1, p.2])
  | _, _ => none
/-- x[i] = v -/
def setI (s : Sg) (h : Hd) (i v : D) : Option Sg :=
  match i with
  | .int k => match h with
    | .sl n => match s.env[n]? with
      | some (.own ds) => (ixNat ds.length k).map fun j => { s with env := s.env.set n (.own (ds.set j v)) }
      | _ => none
    | .d (.ref n) => match s.sto[n]? with
      | some (.lst ds) => (ixNat ds.length k).map fun j => { s with sto := s.sto.set n (.lst (ds.set j v)) }
      | _ => none
    | _ => none
  | _ => none
/-- o.m(..), o the list that a slot owns -/
noncomputable def methI (m : M) (i : Nat) (ds : List D) (s : Sg) : Rs Hd :=
  match s.env[i]? with
  | some (.own xs) => match m, ds with
    | .append, [y] => if xs.length < sizeLine then okk (.d .non) { s with env := s.env.set i (.own (xs ++ [y])) } else none
    | .extend, [.lst zs] => if xs.length + zs.length ≤ sizeLine then okk (.d .non) { s with env := s.env.set i (.own (xs ++ zs)) } else none
    | .popAt, [.int k] => @ite (Rs Hd) (-(2 ^ 63) ≤ k ∧ k < 2 ^ 63) (Classical.propDecidable _) (match ixNat xs.length k with
      | some j => (match xs[j]? with
        | some y => okk (.d y) { s with env := s.env.set i (.own (xs.eraseIdx j)) }
        | none => none)
      | none => none) none
    | _, _ => none
  | _ => none
def strsOf : List D → Option (List Str)
  | [] => some []
  | .str x :: r => (strsOf r).map (x :: ·)
  | _ :: _ => none
/-- x.m(y), x a text -/
def smethI (m : SM) (a : Str) (y : D) : Option Hd :=
  match m, y with
  | .join, .lst ds => (strsOf ds).bind fun ys => if (ys.map (·.length)).sum + ys.length * a.length ≤ 16777216 then some (.d (.str (Txt.join a ys))) else none
  | .join, .tup ds => (strsOf ds).bind fun ys => if (ys.map (·.length)).sum + ys.length * a.length ≤ 16777216 then some (.d (.str (Txt.join a ys))) else none
  | .split, .str b => if (b.length == 0) = false ∧ a.length + 2 ≤ sizeLine ∧ (Txt.split a b).length ≤ sizeLine then some (.own ((Txt.split a b).map D.str)) else none
  | .find, .str b => some (.d (.int (Txt.find a b)))
  | .index, .str b => match Builtin.Str.occurrences a b 0 a.length 1 with
    | i :: _ => some (.d (.int (i : Nat)))
    | [] => none
  | _, _ => none
/-- the slots vs as they stood -/
def restore (vs : List Nat) (ρ0 ρ : List Slot) : List Slot := vs.foldl (fun r i => r.set i (ρ0.getD i .un)) ρ
def wipeE (vs : List Nat) (ρ : List Slot) : List Slot := vs.foldl (fun r i => r.set i .un) ρ
def setSlot (s : Sg) (i : Nat) (h : Hd) : Rs Unit :=
  if i < s.env.length then
    match h with
    | .own ds => okk () { s with env := s.env.set i (.own ds) }
    | h => bnd (s.fz h) fun d s1 => okk () { s1 with env := s1.env.set i (.val d) }
  else none
/-- where nothing may be raised -/
def nox {α : Type} (m : Rs α) : Rs α :=
  match m with
  | some (.exc _, _) => none
  | r => r
@[simp] theorem nox_ok {α : Type} (a : α) (s : Sg) : nox (some (.ok a, s)) = some (.ok a, s) := rfl
open Classical in
/-- the slot owns these items -/
noncomputable def heldB : Option Nat → List D → Sg → Bool
  | none, _, _ => true
  | some i, ds, s => match s.env[i]? with
    | some (.own es) => decide (es = ds)
    | _ => false
@[simp] theorem heldB_none (ds : List D) (s : Sg) : heldB none ds s = true := rfl
open Classical in
theorem heldB_some {i : Nat} {ds : List D} {s : Sg} (h : s.env[i]? = some (.own ds)) : heldB (some i) ds s = true := by
  show (match s.env[i]? with
    | some (.own es) => decide (es = ds)
    | _ => false) = true
  rw [h]
  simp
open Classical in
theorem of_heldB {i : Nat} {ds : List D} {s : Sg} (h : heldB (some i) ds s = true) : s.env[i]? = some (.own ds) := by
  have h : (match s.env[i]? with
    | some (.own es) => decide (es = ds)
    | _ => false) = true := h
  split at h
  · rename_i es e
    rw [e, of_decide_eq_true h]
  · cases h
/-- the turns of a comprehension: what is made so far comes first -/
def compGo (turn : D → Sg → Rs (Option D)) : List D → List D → Sg → Rs (List D)
  | acc, [], s => okk acc s
  | acc, d :: ds, s => bnd (turn d s) fun o s1 => match o with
    | none => compGo turn acc ds s1
    | some x => if acc.length < sizeLine then compGo turn (acc ++ [x]) ds s1 else none
/-- a row that grows turn by turn -/
def foldGo (f : List D → D → Sg → Rs (List D)) : List D → List D → Sg → Rs (List D)
  | acc, [], s => okk acc s
  | acc, d :: ds, s => bnd (f acc d s) fun acc1 s1 => foldGo f acc1 ds s1
def asgAll (f : Tg → D → Sg → Rs Unit) : List Tg → List D → Sg → Rs Unit
  | [], [], s => okk () s
  | t :: ts, d :: ds, s => bnd (f t d s) fun _ s1 => asgAll f ts ds s1
  | _, _, _ => none
mutual
noncomputable def evE (cl : Call) : E → Sg → Rs Hd
  | .var i, s => match s.env[i]? with
    | some (.val d) => okk (.d d) s
    | some (.own _) => okk (.sl i) s
    | _ => none
  | .lit d, s => okk (.d d) s
  | .bin o a b, s => bnd (evE cl a s) fun x s1 => bnd (evE cl b s1) fun y s2 => opt ((s2.rd x).bind fun p => (s2.rd y).bind fun q => bin o p q) s2
  | .un o a, s => bnd (evE cl a s) fun x s1 => opt ((s1.rd x).bind fun p => (un o p).map Hd.d) s1
  | .cmp o a b, s => bnd (evE cl a s) fun x s1 => bnd (evE cl b s1) fun y s2 => opt ((s2.rd x).bind fun p => (s2.rd y).bind fun q => (cmp o p q).map fun t => .d (.bl t)) s2
  | .chain o o' a b c, s => bnd (evE cl a s) fun x s1 => bnd (evE cl b s1) fun y s2 =>
      match (s2.rd x).bind fun p => (s2.rd y).bind fun q => cmp o p q with
      | none => none
      | some false => okk (.d (.bl false)) s2
      | some true => bnd (evE cl c s2) fun z s3 => opt ((s3.rd y).bind fun q => (s3.rd z).bind fun r => (cmp o' q r).map fun t => .d (.bl t)) s3
  | .and a b, s => bnd (evE cl a s) fun x s1 => match x with
    | .d (.bl true) => evE cl b s1
    | .d (.bl false) => okk (.d (.bl false)) s1
    | _ => none
  | .or a b, s => bnd (evE cl a s) fun x s1 => match x with
    | .d (.bl false) => evE cl b s1
    | .d (.bl true) => okk (.d (.bl true)) s1
    | _ => none
  | .not a, s => bnd (evE cl a s) fun x s1 => match x with
    | .d (.bl b) => okk (.d (.bl (!b))) s1
    | _ => none
  | .ife c a b, s => bnd (evT cl c s) fun t s1 => if t = true then evE cl a s1 else evE cl b s1
  | .tup es, s => bnd (evEs cl es s) fun ds s1 => if ds.length ≤ sizeLine then okk (.d (.tup ds)) s1 else none
  | .lst es, s => bnd (evEs cl es s) fun ds s1 => if ds.length ≤ sizeLine then okk (.own ds) s1 else none
  | .idx a b, s => bnd (evE cl a s) fun x s1 => bnd (evE cl b s1) fun y s2 => opt ((s2.rd x).bind fun p => (s2.rd y).bind fun q => (idx s2.sto p q).map Hd.d) s2
  | .slc a lo hi, s => bnd (evE cl a s) fun x s1 => bnd (evO cl lo s1) fun l s2 => bnd (evO cl hi s2) fun h s3 =>
      opt ((s3.rd x).bind fun p => slc p l h) s3
  | .call f es, s => bnd (evEs cl es s) fun ds s1 => callR cl f ds s1
  | .callK f es ks perm, s => bnd (evEs cl es s) fun ds s1 => bnd (evEs cl ks s1) fun zs s2 => callR cl f (ds ++ perm.filterMap fun i => zs[i]?) s2
  | .bcall f es, s => bnd (evHs cl es s) fun hs s1 => opt ((hs.mapM s1.rd).bind fun ds => bcall f ds) s1
  | .rangeL es, s => bnd (evEs cl es s) fun ds s1 => match rangeI ds with
    | none => none
    | some xs => if xs.length ≤ 1000 then okk (.own xs) s1 else none
  | .meth m i es, s => match s.env[i]? with
    | some (.own _) => bnd (evEs cl es s) fun ds s1 => methI m i ds s1
    | _ => none
  | .comp vs elt t it c, s => bnd (evW cl it s) fun p s1 =>
      bnd (compGo (fun d s2 => if heldB p.2 p.1 s2 = true then nox <| bnd (asg cl t d s2) fun _ s3 => bnd (evC cl c s3) fun b s4 =>
          if b = true then bnd (frz (evE cl elt s4)) fun x s5 => okk (some x) { s5 with env := wipeE vs s5.env } else okk none { s4 with env := wipeE vs s4.env } else none)
        [] p.1 { s1 with env := wipeE vs s1.env }) fun xs s6 => if heldB p.2 p.1 s6 = true then okk (.own xs) { s6 with env := restore vs s1.env s6.env } else none
  | .refused e, s => match frz (evE cl e s) with
    | none => none
    | some (.ok _, s1) => okk (.d (.str "")) s1
    | some (.exc x, s1) => match x.cls, x.args with
      | 0, [d] => okk (.d d) s1
      | _, _ => none
  | .comp2 vs vs1 elt t it c t1 it1 c1, s => bnd (evW cl it s) fun p s1 =>
      bnd (foldGo (fun acc d s2 => if heldB p.2 p.1 s2 = true then nox <| bnd (asg cl t d s2) fun _ s3 => bnd (evC cl c s3) fun b s4 =>
          if b = true then bnd (evI cl it1 s4) fun ds s5 => bnd (compGo (fun d s6 => nox <| bnd (asg cl t1 d s6) fun _ s7 => bnd (evC cl c1 s7) fun b s8 =>
              if b = true then bnd (frz (evE cl elt s8)) fun x s9 => okk (some x) { s9 with env := wipeE vs1 s9.env } else okk none { s8 with env := wipeE vs1 s8.env }) acc ds { s5 with env := wipeE vs1 s5.env }) fun acc2 s10 => okk acc2 { s10 with env := wipeE vs s10.env }
          else okk acc { s4 with env := wipeE vs s4.env } else none)
        [] p.1 { s1 with env := wipeE vs s1.env }) fun xs s6 => if heldB p.2 p.1 s6 = true then okk (.own xs) { s6 with env := restore vs s1.env s6.env } else none
  | .smeth m o e, s => bnd (evE cl o s) fun x s1 => match x with
    | .d (.str a) => bnd (evE cl e s1) fun y s2 => opt ((s2.rd y).bind fun q => smethI m a q) s2
    | _ => none
noncomputable def evEs (cl : Call) : List E → Sg → Rs (List D)
  | [], s => okk [] s
  | e :: es, s => bnd (frz (evE cl e s)) fun d s1 => bnd (evEs cl es s1) fun ds s2 => okk (d :: ds) s2
noncomputable def evHs (cl : Call) : List E → Sg → Rs (List Hd)
  | [], s => okk [] s
  | e :: es, s => bnd (evE cl e s) fun d s1 => bnd (evHs cl es s1) fun ds s2 => okk (d :: ds) s2
noncomputable def evO (cl : Call) : Option E → Sg → Rs (Option Int)
  | none, s => okk none s
  | some e, s => bnd (frz (evE cl e s)) fun d s1 => match d with
    | .int i => okk (some i) s1
    | _ => none
noncomputable def evC (cl : Call) : Option T → Sg → Rs Bool
  | none, s => okk true s
  | some c, s => evT cl c s
noncomputable def evT (cl : Call) : T → Sg → Rs Bool
  | .and a b, s => bnd (evT cl a s) fun t s1 => if t = true then evT cl b s1 else okk false s1
  | .or a b, s => bnd (evT cl a s) fun t s1 => if t = true then okk true s1 else evT cl b s1
  | .not a, s => bnd (evT cl a s) fun t s1 => okk (!t) s1
  | .e a, s => bnd (evE cl a s) fun h s1 => opt ((s1.rd h).bind truth) s1
noncomputable def evI (cl : Call) : I → Sg → Rs (List D)
  | .range es, s => bnd (evEs cl es s) fun ds s1 => opt (rangeI ds) s1
  | .enum e, s => bnd (frz (evE cl e s)) fun d s1 => opt (enumI d) s1
  | .zip a b, s => bnd (frz (evE cl a s)) fun x s1 => bnd (frz (evE cl b s1)) fun y s2 => opt (zipI x y) s2
  | .seq e, s => bnd (frz (evE cl e s)) fun d s1 => opt (seqI d) s1
/-- .. a slot's own list as it stands -/
noncomputable def evW (cl : Call) : I → Sg → Rs (List D × Option Nat)
  | .range es, s => bnd (evEs cl es s) fun ds s1 => opt ((rangeI ds).map (·, none)) s1
  | .enum e, s => bnd (frz (evE cl e s)) fun d s1 => opt ((enumI d).map (·, none)) s1
  | .zip a b, s => bnd (frz (evE cl a s)) fun x s1 => bnd (frz (evE cl b s1)) fun y s2 => opt ((zipI x y).map (·, none)) s2
  | .seq e, s => bnd (evE cl e s) fun h s1 => match h with
    | .sl i => (match s1.env[i]? with
      | some (.own ds) => okk (ds, some i) s1
      | _ => none)
    | h => bnd (s1.fz h) fun d s2 => opt ((seqI d).map (·, none)) s2
/-- a target gets data -/
noncomputable def asg (cl : Call) : Tg → D → Sg → Rs Unit
  | .name i, d, s => if i < s.env.length then okk () { s with env := s.env.set i (.val d) } else none
  | .tup ts, d, s => match d with
    | .tup ds => if ds.length = ts.length then asgTs cl ts ds s else none
    | _ => none
  | .sub o i, d, s => bnd (evE cl o s) fun h s1 => bnd (frz (evE cl i s1)) fun k s2 => match setI s2 h k d with
    | none => none
    | some s3 => okk () s3
noncomputable def asgTs (cl : Call) : List Tg → List D → Sg → Rs Unit
  | [], ds, s => match ds with
    | [] => okk () s
    | _ :: _ => none
  | t :: ts, ds, s => match ds with
    | [] => none
    | d :: dr => bnd (asg cl t d s) fun _ s1 => asgTs cl ts dr s1
end

theorem asg_tup (cl : Call) (ts : List Tg) (ds : List D) (s : Sg) : asg cl (.tup ts) (.tup ds) s = if ds.length = ts.length then asgTs cl ts ds s else none := by rw [asg]
theorem asgTs_nil (cl : Call) (s : Sg) : asgTs cl [] [] s = okk () s := by rw [asgTs]
theorem asgTs_nil' (cl : Call) (d : D) (ds : List D) (s : Sg) : asgTs cl [] (d :: ds) s = none := by rw [asgTs]
theorem asgTs_cons (cl : Call) (t : Tg) (ts : List Tg) (d : D) (ds : List D) (s : Sg) : asgTs cl (t :: ts) (d :: ds) s = bnd (asg cl t d s) fun _ s1 => asgTs cl ts ds s1 := by rw [asgTs]
theorem asgTs_cons' (cl : Call) (t : Tg) (ts : List Tg) (s : Sg) : asgTs cl (t :: ts) [] s = none := by rw [asgTs]
/-! ### statements -/
inductive Fl where
  | nx | bk | ct | rt (d : D) | ex (x : Exn)
abbrev Rf' := Option (Fl × Sg)
/-- one statement behind another -/
def seqF (m : Rf') (k : Sg → Rf') : Rf' :=
  match m with
  | some (.nx, s) => k s
  | r => r
@[simp] theorem seqF_nx (s : Sg) (k : Sg → Rf') : seqF (some (.nx, s)) k = k s := rfl
@[simp] theorem seqF_rt (d : D) (s : Sg) (k : Sg → Rf') : seqF (some (.rt d, s)) k = some (.rt d, s) := rfl
@[simp] theorem seqF_bk (s : Sg) (k : Sg → Rf') : seqF (some (.bk, s)) k = some (.bk, s) := rfl
@[simp] theorem seqF_ct (s : Sg) (k : Sg → Rf') : seqF (some (.ct, s)) k = some (.ct, s) := rfl
@[simp] theorem seqF_ex (x : Exn) (s : Sg) (k : Sg → Rf') : seqF (some (.ex x, s)) k = some (.ex x, s) := rfl
@[simp] theorem seqF_none (k : Sg → Rf') : seqF none k = none := rfl
/-- from an expression to a statement -/
def bndF {α : Type} (m : Rs α) (k : α → Sg → Rf') : Rf' :=
  match m with
  | none => none
  | some (.exc x, s) => some (.ex x, s)
  | some (.ok a, s) => k a s
@[simp] theorem bndF_ok {α : Type} (a : α) (s : Sg) (k : α → Sg → Rf') : bndF (some (.ok a, s)) k = k a s := rfl
@[simp] theorem bndF_exc {α : Type} (x : Exn) (s : Sg) (k : α → Sg → Rf') : bndF (some (.exc x, s) : Rs α) k = some (.ex x, s) := rfl
@[simp] theorem bndF_none {α : Type} (k : α → Sg → Rf') : bndF (none : Rs α) k = none := rfl
def loopGo (turn : D → Sg → Rf') : List D → Sg → Rf'
  | [], s => some (.nx, s)
  | d :: ds, s => match turn d s with
    | some (.nx, s1) => loopGo turn ds s1
    | some (.ct, s1) => loopGo turn ds s1
    | some (.bk, s1) => some (.nx, s1)
    | r => r
def whlN (c : Sg → Rs Bool) (b : Sg → Rf') : Nat → Sg → Rf'
  | 0, _ => none
  | n + 1, s => bndF (c s) fun t s1 => if t = true then (match b s1 with
      | some (.nx, s2) => whlN c b n s2
      | some (.ct, s2) => whlN c b n s2
      | some (.bk, s2) => some (.nx, s2)
      | r => r) else some (.nx, s1)
theorem whlN_mono {c : Sg → Rs Bool} {b : Sg → Rf'} : ∀ {n : Nat} {s : Sg} {r : Fl × Sg}, whlN c b n s = some r → whlN c b (n + 1) s = some r
  | 0, _, _, h => by cases h
  | n + 1, s, r, h => by
    unfold whlN at h ⊢
    cases e : c s with
    | none => rw [e] at h; cases h
    | some p =>
      obtain ⟨o, s1⟩ := p
      rw [e] at h
      cases o with
      | exc x => exact h
      | ok t =>
        simp only [bndF_ok] at h ⊢
        cases t with
        | false => exact h
        | true =>
          simp only [if_true] at h ⊢
          cases e2 : b s1 with
          | none => rw [e2] at h; cases h
          | some q =>
            obtain ⟨f, s2⟩ := q
            rw [e2] at h
            cases f with
            | nx => exact whlN_mono h
            | ct => exact whlN_mono h
            | bk => exact h
            | rt d => exact h
            | ex x => exact h
theorem whlN_le {c : Sg → Rs Bool} {b : Sg → Rf'} {n m : Nat} {s : Sg} {r : Fl × Sg} (h : whlN c b n s = some r) (hm : n ≤ m) : whlN c b m s = some r := by
  induction hm with
  | refl => exact h
  | step _ ih => exact whlN_mono ih
open Classical in
/-- a while: what its turns give, if they end -/
noncomputable def whl (c : Sg → Rs Bool) (b : Sg → Rf') (s : Sg) : Rf' :=
  if h : ∃ n r, whlN c b n s = some r then some (h.choose_spec.choose) else none
theorem whl_of {c : Sg → Rs Bool} {b : Sg → Rf'} {n : Nat} {s : Sg} {r : Fl × Sg} (h : whlN c b n s = some r) : whl c b s = some r := by
  have hx : ∃ n r, whlN c b n s = some r := ⟨n, r, h⟩
  unfold whl
  rw [dif_pos hx]
  have h2 := hx.choose_spec.choose_spec
  have a := whlN_le h (Nat.le_max_left n hx.choose)
  have b' := whlN_le h2 (Nat.le_max_right n hx.choose)
  rw [a] at b'
  exact congrArg some (Option.some.inj b').symm
theorem of_whl {c : Sg → Rs Bool} {b : Sg → Rf'} {s : Sg} {r : Fl × Sg} (h : whl c b s = some r) : ∃ n, whlN c b n s = some r := by
  unfold whl at h
  split at h
  · rename_i hx
    have e := Option.some.inj h
    exact ⟨_, by rw [← e]; exact hx.choose_spec.choose_spec⟩
  · cases h
/-- one turn at a time -/
theorem whl_turn {c : Sg → Rs Bool} {b : Sg → Rf'} {s s1 s2 : Sg} {r : Fl × Sg} (hc : c s = some (.ok true, s1)) (hb : b s1 = some (.nx, s2)) (h : whl c b s2 = some r) : whl c b s = some r := by
  obtain ⟨n, hn⟩ := of_whl h
  refine whl_of (n := n + 1) ?_
  unfold whlN
  rw [hc]
  simp only [bndF_ok, if_true, hb]
  exact hn
theorem whl_stop {c : Sg → Rs Bool} {b : Sg → Rf'} {s s1 : Sg} (hc : c s = some (.ok false, s1)) : whl c b s = some (.nx, s1) := by
  refine whl_of (n := 1) ?_
  unfold whlN
  rw [hc]
  rfl
theorem whl_rt {c : Sg → Rs Bool} {b : Sg → Rf'} {s s1 s2 : Sg} {d : D} (hc : c s = some (.ok true, s1)) (hb : b s1 = some (.rt d, s2)) : whl c b s = some (.rt d, s2) := by
  refine whl_of (n := 1) ?_
  unfold whlN
  rw [hc]
  simp only [bndF_ok, if_true, hb]

/-- a new list stays one, what another slot owns is known from now on -/
noncomputable def evP (cl : Call) (e : E) (s : Sg) : Rs Hd := bnd (evE cl e s) fun h s1 => match h with
  | .own ds => okk (.own ds) s1
  | h => bnd (s1.fz h) fun d s2 => okk (.d d) s2
mutual
noncomputable def evS (cl : Call) : S → Sg → Rf'
  | .asg t e, s => match t with
    | .name i => bndF (evE cl e s) fun h s1 => bndF (setSlot s1 i h) fun _ s2 => some (.nx, s2)
    | t => bndF (frz (evE cl e s)) fun d s1 => bndF (asg cl t d s1) fun _ s2 => some (.nx, s2)
  | .par js es, s => match js, es with
    | [i, j], [a, b] => if i ≠ j then bndF (evP cl a s) fun h1 s1 => bndF (evP cl b s1) fun h2 s2 => bndF (setSlot s2 i h1) fun _ s3 => bndF (setSlot s3 j h2) fun _ s4 => some (.nx, s4) else none
    | [i, j, k], [a, b, c] => if (i ≠ j ∧ i ≠ k ∧ j ≠ k) ∧ i < s.env.length ∧ j < s.env.length ∧ k < s.env.length then bndF (evEs cl [a, b, c] s) fun ds s1 => match ds with
      | [x, y, z] => some (.nx, { s1 with env := ((s1.env.set i (.val x)).set j (.val y)).set k (.val z) })
      | _ => none else none
    | _, _ => none
  | .new i es, s => bndF (evEs cl es s) fun ds s1 => if ds.length ≤ sizeLine ∧ i < s1.env.length then some (.nx, { env := s1.env.set i (.val (.ref s1.sto.length)), sto := s1.sto ++ [.lst ds] }) else none
  | .aug i o e, s => match s.env[i]? with
    | some (.val (.int x)) => bndF (frz (evE cl e s)) fun d s1 => match d with
      | .int y => match (match o with
        | .Add => some (x + y)
        | .Sub => some (x - y)
        | _ => none) with
        | some z => if i < s1.env.length then some (.nx, { s1 with env := s1.env.set i (.val (.int z)) }) else none
        | none => none
      | _ => none
    | _ => none
  | .expr e, s => bndF (evE cl e s) fun _ s1 => some (.nx, s1)
  | .ret e, s => match e with
    | none => some (.rt .non, s)
    | some e => bndF (frz (evE cl e s)) fun d s1 => some (.rt d, s1)
  | .ife c a b, s => bndF (evT cl c s) fun t s1 => if t = true then evSs cl a s1 else evSs cl b s1
  | .whl c b, s => whl (fun s => evT cl c s) (fun s => evSs cl b s) s
  | .loop t it b, s => bndF (evI cl it s) fun ds s1 => loopGo (fun d s2 => bndF (asg cl t d s2) fun _ s3 => evSs cl b s3) ds s1
  | .raise c es, s => bndF (evEs cl es s) fun ds s1 => some (.ex ⟨c, ds⟩, s1)
  | .brk, s => some (.bk, s)
  | .cont, s => some (.ct, s)
noncomputable def evSs (cl : Call) : List S → Sg → Rf'
  | [], s => some (.nx, s)
  | c :: cs, s => seqF (evS cl c s) fun s1 => evSs cl cs s1
end
/-- a def: the number of its parameters, of its slots, its body -/
structure Fn where
  np : Nat
  ns : Nat
  body : List S
noncomputable def runFn (cl : Call) (f : Fn) (ds : List D) (sto : List SObj) : Option (Out D × List SObj) :=
  if ds.length = f.np then
    match evSs cl f.body ⟨ds.map Slot.val ++ List.replicate (f.ns - ds.length) .un, sto⟩ with
    | some (.nx, s) => some (.ok .non, s.sto)
    | some (.rt d, s) => some (.ok d, s.sto)
    | some (.ex x, s) => some (.exc x, s.sto)
    | _ => none
  else none
noncomputable def callN (G : List Fn) : Nat → Call
  | 0 => fun _ _ _ => none
  | n + 1 => fun f ds sto => match G[f]? with
    | some fn => runFn (callN G n) fn ds sto
    | none => none
end Rf

set_option Elab.async false
set_option linter.all false
set_option maxRecDepth 100000
/-! R2: from the model's trees to the small language's. -/
namespace Rf
open PySem

structure Cfg where
  N : List Str
  fns : List Str
  cs : List (Str × D)
  /-- calls by keywords: the def, how many arguments stand by place, the keywords' names, where each further parameter's value stands among them -/
  kw : List (Nat × Nat × List Str × List Nat)
  excs : List (Str × List Str)
  lam : Bool := true

def slotOf : List Str → Str → Option Nat
  | [], _ => none
  | y :: ys, x => if y = x then some 0 else (slotOf ys x).map (· + 1)
theorem slotOf_get : ∀ {N : List Str} {x : Str} {i : Nat}, slotOf N x = some i → N[i]? = some x
  | [], _, _, h => by cases h
  | y :: ys, x, i, h => by
    unfold slotOf at h
    split at h
    · rename_i e
      cases h
      rw [e]
      rfl
    · cases q : slotOf ys x with
      | none => rw [q] at h; cases h
      | some j =>
        rw [q] at h
        cases h
        have r := slotOf_get q
        simpa using r
def visB (sc : Scope) (x : Str) : Bool := match sc.names.lookup x with
  | some .local => true
  | some .cell => true
  | some .free => true
  | _ => false
def locB (sc : Scope) (x : Str) : Bool := match sc.names.lookup x with
  | some .local => true
  | some .cell => true
  | _ => false
def glbB (sc : Scope) (x : Str) : Bool := match sc.names.lookup x with
  | some .globalImplicit => true
  | _ => false
def odd (x : Str) : Bool := decide (x = ("__debug__" : Str)) || decide (x = ("__classdict__" : Str))
def bOf2 (x : Str) (n : Nat) : Option B :=
  if x = ("min" : Str) then (if n = 2 then some .min2 else if n = 1 then some .min1 else none)
  else if x = ("max" : Str) then (if n = 2 then some .max2 else if n = 1 then some .max1 else none)
  else if x = ("sorted" : Str) then (if n = 1 then some .sorted else none)
  else none
/-- the methods of texts with one argument -/
def smOf (x : Str) : Option SM :=
  if x = ("join" : Str) then some .join
  else if x = ("split" : Str) then some .split
  else if x = ("find" : Str) then some .find
  else if x = ("index" : Str) then some .index
  else none
/-- a name or a constant -/
def plainE : Expr → Bool
  | .Name _ _ => true
  | .Constant _ _ _ => true
  | _ => false
def bOf (x : Str) (n : Nat) : Option B :=
  if x = ("len" : Str) then (if n = 1 then some .len else none)
  else if x = ("tuple" : Str) then (if n = 1 then some .tuple else none)
  else if x = ("list" : Str) then (if n = 1 then some .list else none)
  else if x = ("all" : Str) then (if n = 1 then some .all else none)
  else if x = ("any" : Str) then (if n = 1 then some .any else none)
  else if x = ("sum" : Str) then (if n = 1 then some .sum else none)
  else if x = ("int" : Str) then (if n = 1 then some .int else none)
  else if x = ("abs" : Str) then (if n = 1 then some .abs else none)
  else bOf2 x n
def isOf (x : Str) : Option B :=
  if x = ("int" : Str) then some .isInt
  else if x = ("bool" : Str) then some .isBool
  else if x = ("tuple" : Str) then some .isTup
  else if x = ("str" : Str) then some .isStr
  else none
/-- the comprehension's own names, with their slots -/
def ownOf (N : List Str) : List (Str × NameKind) → List (Str × Nat)
  | [] => []
  | (x, k) :: r => match k with
    | .local => (match slotOf N x with
      | some i => (x, i) :: ownOf N r
      | none => ownOf N r)
    | .cell => (match slotOf N x with
      | some i => (x, i) :: ownOf N r
      | none => ownOf N r)
    | _ => ownOf N r
def findN (x : Str) : List Str → Option Nat
  | [] => none
  | y :: ys => if y = x then some 0 else (findN x ys).map (· + 1)
def kwNames : List Keyword → Option (List Str)
  | [] => some []
  | ⟨some x, _, _⟩ :: r => (kwNames r).map (x :: ·)
  | ⟨none, _, _⟩ :: _ => none

mutual
/-- the slots of a target's names -/
def tgSl : Tg → List Nat
  | .name i => [i]
  | .tup ts => tgSls ts
  | .sub _ _ => []
def tgSls : List Tg → List Nat
  | [] => []
  | t :: ts => tgSl t ++ tgSls ts
end
mutual
/-- a comprehension's target: names, tuples of them; sc: the comprehension's own scope -/
def trGN (N : List Str) (sc : Scope) : Nat → Expr → Option Tg
  | 0, _ => none
  | n + 1, .Name x _ => if locB sc x = true then (slotOf N x).map Tg.name else none
  | n + 1, .Tuple es _ _ => (trGNs N sc n es).map Tg.tup
  | n + 1, _ => none
def trGNs (N : List Str) (sc : Scope) : Nat → List Expr → Option (List Tg)
  | 0, _ => none
  | n + 1, [] => some []
  | n + 1, e :: es => match trGN N sc n e, trGNs N sc n es with
    | some e', some es' => some (e' :: es')
    | _, _ => none
end
def okOp : Operator → Bool
  | .MatMult => false
  | .Div => false
  | _ => true
mutual
def trE (g : Cfg) : Nat → Scope → Expr → Option E
  | 0, _, _ => none
  | n + 1, sc, .Constant c _ _ => match c with
    | .none => some (.lit .non)
    | .bool b => some (.lit (.bl b))
    | .int i => some (.lit (.int i))
    | .str x => some (.lit (.str x))
    | _ => none
  | n + 1, sc, .Name x _ => if odd x = true then none else if visB sc x = true then (slotOf g.N x).map E.var else if glbB sc x = true then (g.cs.lookup x).map E.lit else none
  | n + 1, sc, .BinOp a o b _ => if okOp o = false then none else match trE g n sc a, trE g n sc b with
    | some a', some b' => some (.bin o a' b')
    | _, _ => none
  | n + 1, sc, .UnaryOp o a _ => match trE g n sc a with
    | some a' => (match o with
      | .Not => some (.not a')
      | .USub => some (.un .USub a')
      | .Invert => some (.un .Invert a')
      | _ => none)
    | none => none
  | n + 1, sc, .Compare a ops cs _ => match ops, cs with
    | [o], [b] => if behindInMarks o b = true then none else (match trE g n sc a, trE g n sc b with
      | some a', some b' => some (.cmp o a' b')
      | _, _ => none)
    | [o, o'], [b, c] => if lastMarks [o, o'] [b, c] = true then none else (match trE g n sc a, trE g n sc b, trE g n sc c with
      | some a', some b', some c' => some (.chain o o' a' b' c')
      | _, _, _ => none)
    | _, _ => none
  | n + 1, sc, .BoolOp o vs pos => match vs with
    | [a] => trE g n sc a
    | a :: b :: r => (match trE g n sc a, trE g n sc (.BoolOp o (b :: r) pos) with
      | some a', some b' => (match o with
        | .And => some (.and a' b')
        | .Or => some (.or a' b'))
      | _, _ => none)
    | [] => none
  | n + 1, sc, .IfExp c a b _ => match trT g n sc c, trE g n sc a, trE g n sc b with
    | some c', some a', some b' => some (.ife c' a' b')
    | _, _, _ => none
  | n + 1, sc, .Tuple es _ _ => (trEs g n sc es).map E.tup
  | n + 1, sc, .List es _ => (trEs g n sc es).map E.lst
  | n + 1, sc, .Subscript a b _ => match trE g n sc a with
    | none => none
    | some a' => (match b with
      | .Slice lo hi st _ => (match st with
        | none => (match trO g n sc lo, trO g n sc hi with
          | some l', some h' => some (.slc a' l' h')
          | _, _ => none)
        | some _ => none)
      | b => (match trE g n sc b with
        | some b' => some (.idx a' b')
        | none => none))
  | n + 1, sc, .Call f es kws pos => match f with
    | .Name x _ => if odd x = true then none else if glbB sc x = false then none else (match es with
      | [] => (match findN x g.fns with
        | some k => (match kws with
          | [] => none
          | kw :: kr => (match trKs g n sc (kw :: kr), kwNames (kw :: kr) with
            | some ks', some names => (match g.kw.find? fun p => decide (p.1 = k ∧ p.2.1 = 0 ∧ p.2.2.1 = names) with
              | some p => some (.callK k [] ks' p.2.2.2)
              | none => none)
            | _, _ => none))
        | none => none)
      | e :: er => (match findN x g.fns with
        | some k => (match kws with
          | [] => (match e, er with
            | .Lambda ⟨[], [], none, [], [], none, []⟩ body lsc _, [] => if x = ("_law_refused" : Str) ∧ g.lam = true ∧ LamX.lamSB sc lsc = true then (match trE { g with lam := false } n lsc body with
                | some b' => some (.refused b')
                | none => none) else none
            | _, _ => (trEs g n sc (e :: er)).map (E.call k))
          | kw :: kr => (match trEs g n sc (e :: er), trKs g n sc (kw :: kr), kwNames (kw :: kr) with
            | some es', some ks', some names => (match g.kw.find? fun p => decide (p.1 = k ∧ p.2.1 = es'.length ∧ p.2.2.1 = names) with
              | some p => some (.callK k es' ks' p.2.2.2)
              | none => none)
            | _, _, _ => none))
        | none => (match kws with
          | [] => (match e, er with
            | .Call (.Name y _) (r :: rs) [] _, [] =>
              if x = ("len" : Str) ∧ y = ("set" : Str) then (if glbB sc y = true then (match rs with
                | [] => (trEs' g n sc [r]).map (E.bcall .setLen)
                | _ => none) else none) else
              if x = ("list" : Str) ∧ y = ("range" : Str) then (if glbB sc y = true then ((match rs with | [] => (trEs g n sc [r]).map E.rangeL | _ => none)) else none)
              else (match bOf x 1 with
                | some b => (trEs' g n sc [e]).map (E.bcall b)
                | none => none)
            | a, [.Name y _] => if x = ("isinstance" : Str) then (if glbB sc y = true then (match isOf y with
                | some b => (trEs' g n sc [a]).map (E.bcall b)
                | none => none) else none)
              else (match bOf x 2 with
                | some b => (trEs' g n sc (e :: er)).map (E.bcall b)
                | none => none)
            | _, _ => (match bOf x (er.length + 1) with
                | some b => (trEs' g n sc (e :: er)).map (E.bcall b)
                | none => none))
          | _ => none)))
    | .Attribute o m ap => (match smOf m with
      | some sm => if (ap.endLine == pos.line) = false then none else if plainE o = false then none else (match es, kws with
        | [e], [] => (match trE g n sc o, trE g n sc e with
          | some o', some e' => some (.smeth sm o' e')
          | _, _ => none)
        | _, _ => none)
      | none => (match o with
    | .Name x _ => if odd x = true then none else if visB sc x = false then none else if (ap.endLine == pos.line) = false then none else (match slotOf g.N x, kws with
      | some i, [] => (match es with
        | [e] => (match trEs g n sc [e] with
          | some es' => if m = ("append" : Str) then some (.meth .append i es') else if m = ("pop" : Str) then some (.meth .popAt i es') else if m = ("extend" : Str) then some (.meth .extend i es') else none
          | none => none)
        | _ => none)
      | _, _ => none)
    | _ => none))
    | _ => none
  | n + 1, sc, .ListComp elt gs scope _ => match gs with
    | [⟨tg, iter, ifs, a⟩] => if a ≠ 0 then none else if L2.blkC g.N sc scope (ownOf g.N scope.names) = true then
        (match trI g n sc tg iter, trGN g.N scope n tg, trE { g with lam := false } n (L2.relS scope sc) elt with
        | some it, some t, some e => if (tgSl t).all (fun i => decide (i ∈ (ownOf g.N scope.names).map (·.2))) = false then none else (match ifs with
          | [] => some (.comp ((ownOf g.N scope.names).map (·.2)) e t it none)
          | [c] => (match trT { g with lam := false } n (L2.relS scope sc) c with
            | some c' => some (.comp ((ownOf g.N scope.names).map (·.2)) e t it (some c'))
            | none => none)
          | _ => none)
        | _, _, _ => none) else none
    | [⟨tg, iter, ifs, a⟩, ⟨tg1, iter1, ifs1, a1⟩] => if a ≠ 0 ∨ a1 ≠ 0 then none else if L2.blkC g.N sc scope (ownOf g.N scope.names) = true then
        (match trI g n sc tg iter, trGN g.N scope n tg, trE { g with lam := false } n (L2.relS scope sc) elt, trI { g with lam := false } n (L2.relS scope sc) tg1 iter1, trGN g.N scope n tg1 with
        | some it, some t, some e, some it1, some t1 => if ((tgSl t).all (fun i => decide (i ∈ (ownOf g.N scope.names).map (·.2))) && (tgSl t1).all (fun i => decide (i ∈ (ownOf g.N scope.names).map (·.2)))) = false then none else
          (match trC { g with lam := false } n (L2.relS scope sc) ifs, trC { g with lam := false } n (L2.relS scope sc) ifs1 with
          | some c, some c1 => some (.comp2 ((ownOf g.N scope.names).map (·.2)) (tgSl t1) e t it c t1 it1 c1)
          | _, _ => none)
        | _, _, _, _, _ => none) else none
    | _ => none
  | n + 1, _, _ => none
def trC (g : Cfg) : Nat → Scope → List Expr → Option (Option T)
  | 0, _, _ => none
  | n + 1, sc, cs => match cs with
    | [] => some none
    | [c] => (trT g n sc c).map some
    | _ => none
def trEs (g : Cfg) : Nat → Scope → List Expr → Option (List E)
  | 0, _, _ => none
  | n + 1, _, [] => some []
  | n + 1, sc, e :: es => match trE g n sc e, trEs g n sc es with
    | some e', some es' => some (e' :: es')
    | _, _ => none
def trEs' (g : Cfg) : Nat → Scope → List Expr → Option (List E)
  | 0, _, _ => none
  | n + 1, _, [] => some []
  | n + 1, sc, e :: es => match trE g n sc e, trEs' g n sc es with
    | some e', some es' => some (e' :: es')
    | _, _ => none
def trKs (g : Cfg) : Nat → Scope → List Keyword → Option (List E)
  | 0, _, _ => none
  | n + 1, _, [] => some []
  | n + 1, sc, ⟨_, e, _⟩ :: es => match trE g n sc e, trKs g n sc es with
    | some e', some es' => some (e' :: es')
    | _, _ => none
def trO (g : Cfg) : Nat → Scope → Option Expr → Option (Option E)
  | 0, _, _ => none
  | n + 1, _, none => some none
  | n + 1, sc, some e => (trE g n sc e).map some
def trT (g : Cfg) : Nat → Scope → Expr → Option T
  | 0, _, _ => none
  | n + 1, sc, .UnaryOp .Not a _ => (trT g n sc a).map T.not
  | n + 1, sc, .BoolOp o vs pos => match vs with
    | [a] => trT g n sc a
    | a :: b :: r => (match trT g n sc a, trT g n sc (.BoolOp o (b :: r) pos) with
      | some a', some b' => (match o with
        | .And => some (.and a' b')
        | .Or => some (.or a' b'))
      | _, _ => none)
    | [] => none
  | n + 1, _, .IfExp _ _ _ _ => none
  | n + 1, sc, e => (trE g n sc e).map T.e
/-- what stands behind in; tg: the target -/
def trI (g : Cfg) : Nat → Scope → Expr → Expr → Option I
  | 0, _, _, _ => none
  | n + 1, sc, tg, .Call f es kws pos => match f, kws with
    | .Name x _, [] => if odd x = true then none else if glbB sc x = false then none
      else if x = ("range" : Str) then (match es with
        | [a] => (trEs g n sc [a]).map I.range
        | [a, b] => (trEs g n sc [a, b]).map I.range
        | _ => none)
      else if x = ("enumerate" : Str) then (match es with
        | [e] => (match tg with
          | .Tuple _ _ _ => (trE g n sc e).map I.enum
          | _ => none)
        | _ => none)
      else if x = ("zip" : Str) then (match es with
        | [a, b] => (match tg with
          | .Tuple _ _ _ => (match trE g n sc a, trE g n sc b with
            | some a', some b' => some (.zip a' b')
            | _, _ => none)
          | _ => none)
        | _ => none)
      else (trE g n sc (.Call f es kws pos)).map I.seq
    | _, _ => (trE g n sc (.Call f es kws pos)).map I.seq
  | n + 1, sc, _, e => (trE g n sc e).map I.seq
def trG (g : Cfg) : Nat → Scope → Expr → Option Tg
  | 0, _, _ => none
  | n + 1, sc, .Name x _ => if locB sc x = true then (slotOf g.N x).map Tg.name else none
  | n + 1, sc, .Tuple es _ _ => (trGs g n sc es).map Tg.tup
  | n + 1, sc, .Subscript o i _ => match i with
    | .Slice _ _ _ _ => none
    | i => (match trE g n sc o, trE g n sc i with
      | some o', some i' => some (.sub o' i')
      | _, _ => none)
  | n + 1, _, _ => none
def trGs (g : Cfg) : Nat → Scope → List Expr → Option (List Tg)
  | 0, _, _ => none
  | n + 1, _, [] => some []
  | n + 1, sc, e :: es => match trG g n sc e, trGs g n sc es with
    | some e', some es' => some (e' :: es')
    | _, _ => none
end
/-! ### statements -/
def isName : Expr → Option (Str × Nat)
  | .Name x pos => some (x, pos.line)
  | _ => none
/-- a, b = x, y, stored from the right: the names -/
def swapN (sc : Scope) (ts vs : List Expr) : Option (List Str) :=
  if (ts.length == 2 || ts.length == 3) && vs.length == ts.length && !(vs.any fun | .Starred .. => true | _ => false) && !(vs.all (foldedForSure 8)) && !(vs.all (constantsAlone 8)) then
    match ts.mapM isName with
    | some xs => if (xs.all fun p => decide (sc.names.lookup p.1 = some .local) && p.2 == ((ts.head?.map (·.pos.line)).getD 0)) && (xs.map (·.1)).eraseDups.length == xs.length then some (xs.map (·.1)) else none
    | none => none
  else none
/-- .. for sure not so -/
def noSwap (sc : Scope) (tg v : Expr) : Bool :=
  match tg, v with
  | .Tuple ts _ _, .Tuple vs _ _ => !(ts.length == 2 || ts.length == 3) || vs.length != ts.length || (vs.any fun | .Starred .. => true | _ => false) || (ts.any fun
      | .Name x _ => !decide (sc.names.lookup x = some .local)
      | _ => true) || vs.all (foldedForSure 8)
  | .List _ _, .Tuple _ _ _ => false
  | _, _ => true
def isLC : Expr → Bool
  | .ListComp .. => true
  | .SetComp .. => true
  | .DictComp .. => true
  | _ => false
/-- two names get two values by a tuple -/
def parP (N : List Str) (sc : Scope) : Expr → Expr → Option (Nat × Nat × Expr × Expr)
  | .Tuple [.Name x _, .Name y _] _ _, .Tuple [a, b] _ _ => match slotOf N x, slotOf N y with
    | some i, some j => if i ≠ j ∧ locB sc x = true ∧ locB sc y = true then some (i, j, a, b) else none
    | _, _ => none
  | _, _ => none
mutual
def trS (g : Cfg) : Nat → Scope → Stmt → Option S
  | 0, _, _ => none
  | n + 1, sc, .Return v _ => match v with
    | none => some (.ret none)
    | some e => (trE g n sc e).map fun e => .ret (some e)
  | n + 1, sc, .Assign ts v _ => match ts with
    | [t] => if noSwap sc t v = true then (match t with
        | .Name x _ => if locB sc x = true then (if x = ("row" : Str) then (match v with
            | .List es _ => (match slotOf g.N x, trEs g n sc es with
              | some i, some es' => some (.new i es')
              | _, _ => none)
            | _ => none) else (match slotOf g.N x, trE g n sc v with
            | some i, some e => some (.asg (.name i) e)
            | _, _ => none)) else none
        | t => if isLC v = true then none else (match parP g.N sc t v with
          | some (i, j, a, b) => (match trE g n sc a, trE g n sc b with
            | some a', some b' => some (.par [i, j] [a', b'])
            | _, _ => none)
          | none => (match trG g n sc t, trE g n sc v with
            | some t', some e => some (.asg t' e)
            | _, _ => none)))
      else (match t, v with
        | .Tuple es _ _, .Tuple vs _ _ => (match swapN sc es vs with
          | some xs => (match xs.mapM (slotOf g.N), trEs g n sc vs with
            | some js, some vs' => if js.length = 2 ∨ js.length = 3 then some (.par js vs') else none
            | _, _ => none)
          | none => none)
        | _, _ => none)
    | _ => none
  | n + 1, sc, .AugAssign t o v _ => match t with
    | .Name x _ => if locB sc x = true then (match o with
      | .Add => (match slotOf g.N x, trE g n sc v with
        | some i, some e => some (.aug i .Add e)
        | _, _ => none)
      | .Sub => (match slotOf g.N x, trE g n sc v with
        | some i, some e => some (.aug i .Sub e)
        | _, _ => none)
      | _ => none) else none
    | _ => none
  | n + 1, sc, .Expr e _ => if isLC e = true then none else (trE g n sc e).map S.expr
  | n + 1, sc, .If c a b _ => match trT g n sc c, trSs g n sc a, trSs g n sc b with
    | some c', some a', some b' => some (.ife c' a' b')
    | _, _, _ => none
  | n + 1, sc, .While c b o _ => match o with
    | [] => (match trT g n sc c, trSs g n sc b with
      | some c', some b' => some (.whl c' b')
      | _, _ => none)
    | _ => none
  | n + 1, sc, .For t it b o _ => match o with
    | [] => (match trG g n sc t, trI g n sc t it, trSs g n sc b with
      | some t', some it', some b' => some (.loop t' it' b')
      | _, _, _ => none)
    | _ => none
  | n + 1, sc, .Raise e c _ => match e, c with
    | some (.Call (.Name x _) es [] _), none => if odd x = true then none else if glbB sc x = false then none else (match findN x (g.excs.map (·.1)), es with
      | some 0, [e] => (trEs g n sc [e]).map (S.raise 0)
      | _, _ => none)
    | _, _ => none
  | n + 1, _, .Break _ => some .brk
  | n + 1, _, .Continue _ => some .cont
  | n + 1, _, _ => none
def trSs (g : Cfg) : Nat → Scope → List Stmt → Option (List S)
  | 0, _, _ => none
  | n + 1, _, [] => some []
  | n + 1, sc, c :: cs => match trS g n sc c, trSs g n sc cs with
    | some c', some cs' => some (c' :: cs')
    | _, _ => none
end
end Rf

set_option Elab.async false
set_option linter.all false
set_option maxRecDepth 100000
/-! R3: how the small language's states stand in the abstract heap. -/
namespace Rf
open PySem L2

section
variable (K : PySem.W.Frag) (F : Hp) (m : List Addr)
mutual
/-- the value v is the datum d, by what is frozen (F) and where the store's objects stand (m) -/
def Rp : D → V → Prop
  | .non, v => v = .non
  | .bl b, v => v = .bl b
  | .int i, v => v = .int i
  | .str x, v => v = .str x
  | .tup ds, v => ∃ a vs, v = .ref a ∧ SqT K F a vs ∧ Rps ds vs
  | .lst ds, v => ∃ a vs, v = .ref a ∧ F a = some (.lst vs) ∧ Rps ds vs
  | .fl ns, v => ∃ a, v = .ref a ∧ SqL K F a (ns.map V.int)
  | .ref n, v => ∃ a, m[n]? = some a ∧ v = .ref a
def Rps : List D → List V → Prop
  | [], vs => vs = []
  | d :: ds, vs => ∃ v vr, vs = v :: vr ∧ Rp d v ∧ Rps ds vr
end
end
def SubF (F F' : Hp) : Prop := ∀ a o, F a = some o → F' a = some o
theorem SubF.refl (F : Hp) : SubF F F := fun _ _ h => h
theorem SubF.trans {F F1 F2 : Hp} (a : SubF F F1) (b : SubF F1 F2) : SubF F F2 := fun x o h => b x o (a x o h)
theorem SubF.seqT {K : PySem.W.Frag} {F F' : Hp} {a : Addr} {xs : List V} (s : SubF F F') (h : SqT K F a xs) : SqT K F' a xs := by
  rcases h with h | h
  · rcases h with h | ⟨o, h⟩
    · exact .inl (.inl (s _ _ h))
    · exact .inl (.inr ⟨o, s _ _ h⟩)
  · exact .inr h
theorem SubF.seqL {K : PySem.W.Frag} {F F' : Hp} {a : Addr} {xs : List V} (s : SubF F F') (h : SqL K F a xs) : SqL K F' a xs := by
  rcases h with h | h
  · rcases h with h | ⟨o, h⟩
    · exact .inl (.inl (s _ _ h))
    · exact .inl (.inr ⟨o, s _ _ h⟩)
  · exact .inr h
theorem pre_get {m m' : List Addr} (h : m <+: m') {n : Nat} {a : Addr} (e : m[n]? = some a) : m'[n]? = some a := by
  obtain ⟨t, rfl⟩ := h
  rw [List.getElem?_append_left (List.getElem?_eq_some_iff.mp e).1]
  exact e
section
variable {K : PySem.W.Frag} {F F' : Hp} {m m' : List Addr}
mutual
theorem Rp.mono (s : SubF F F') (h : m <+: m') : ∀ (d : D) (v : V), Rp K F m d v → Rp K F' m' d v
  | .non, _, r => r
  | .bl _, _, r => r
  | .int _, _, r => r
  | .str _, _, r => r
  | .tup ds, v, r => by
    rw [Rp] at r ⊢
    obtain ⟨a, vs, e, q, t⟩ := r
    exact ⟨a, vs, e, s.seqT q, Rps.mono s h ds vs t⟩
  | .lst ds, v, r => by
    rw [Rp] at r ⊢
    obtain ⟨a, vs, e, q, t⟩ := r
    exact ⟨a, vs, e, s _ _ q, Rps.mono s h ds vs t⟩
  | .fl ns, v, r => by
    rw [Rp] at r ⊢
    obtain ⟨a, e, q⟩ := r
    exact ⟨a, e, s.seqL q⟩
  | .ref n, v, r => by
    rw [Rp] at r ⊢
    obtain ⟨a, e, q⟩ := r
    exact ⟨a, pre_get h e, q⟩
theorem Rps.mono (s : SubF F F') (h : m <+: m') : ∀ (ds : List D) (vs : List V), Rps K F m ds vs → Rps K F' m' ds vs
  | [], _, r => r
  | d :: ds, vs, r => by
    rw [Rps] at r ⊢
    obtain ⟨v, vr, e, q, t⟩ := r
    exact ⟨v, vr, e, Rp.mono s h d v q, Rps.mono s h ds vr t⟩
end
theorem Rps.len : ∀ {ds : List D} {vs : List V}, Rps K F m ds vs → ds.length = vs.length
  | [], _, r => by rw [Rps] at r; rw [r]; rfl
  | d :: ds, vs, r => by
    rw [Rps] at r
    obtain ⟨v, vr, e, q, t⟩ := r
    rw [e, List.length_cons, List.length_cons, Rps.len t]
theorem Rps.nil : Rps K F m [] [] := by rw [Rps]
theorem Rps.cons {d : D} {v : V} {ds : List D} {vs : List V} (h : Rp K F m d v) (t : Rps K F m ds vs) : Rps K F m (d :: ds) (v :: vs) := by
  rw [Rps]
  exact ⟨v, vs, rfl, h, t⟩
theorem Rps.get : ∀ {ds : List D} {vs : List V} {i : Nat} {d : D}, Rps K F m ds vs → ds[i]? = some d → ∃ v, vs[i]? = some v ∧ Rp K F m d v
  | [], _, _, _, _, e => by simp at e
  | d :: ds, vs, i, x, r, e => by
    rw [Rps] at r
    obtain ⟨v, vr, rfl, q, t⟩ := r
    cases i with
    | zero =>
      have e' : d = x := by simpa using e
      subst e'
      exact ⟨v, rfl, q⟩
    | succ i =>
      obtain ⟨w, h1, h2⟩ := Rps.get (i := i) t (by simpa using e)
      exact ⟨w, by simpa using h1, h2⟩
theorem Rps.append : ∀ {ds es : List D} {vs ws : List V}, Rps K F m ds vs → Rps K F m es ws → Rps K F m (ds ++ es) (vs ++ ws)
  | [], _, _, _, r, t => by rw [Rps] at r; rw [r]; exact t
  | d :: ds, es, vs, ws, r, t => by
    rw [Rps] at r
    obtain ⟨v, vr, rfl, q, u⟩ := r
    exact Rps.cons q (Rps.append u t)
theorem Rps.set : ∀ {ds : List D} {vs : List V} {d : D} {v : V} (i : Nat), Rps K F m ds vs → Rp K F m d v → Rps K F m (ds.set i d) (vs.set i v)
  | [], _, _, _, _, r, _ => by rw [Rps] at r; rw [r]; exact Rps.nil
  | d :: ds, vs, x, w, i, r, h => by
    rw [Rps] at r
    obtain ⟨v, vr, rfl, q, u⟩ := r
    cases i with
    | zero => exact Rps.cons h u
    | succ i => exact Rps.cons q (Rps.set i u h)
theorem Rps.erase : ∀ {ds : List D} {vs : List V} (i : Nat), Rps K F m ds vs → Rps K F m (ds.eraseIdx i) (vs.eraseIdx i)
  | [], _, _, r => by rw [Rps] at r; rw [r]; exact Rps.nil
  | d :: ds, vs, i, r => by
    rw [Rps] at r
    obtain ⟨v, vr, rfl, q, u⟩ := r
    cases i with
    | zero => exact u
    | succ i => exact Rps.cons q (Rps.erase i u)
theorem Rps.take : ∀ {ds : List D} {vs : List V} (i : Nat), Rps K F m ds vs → Rps K F m (ds.take i) (vs.take i)
  | _, _, 0, _ => Rps.nil
  | [], _, _ + 1, r => by rw [Rps] at r; rw [r]; exact Rps.nil
  | d :: ds, vs, i + 1, r => by
    rw [Rps] at r
    obtain ⟨v, vr, rfl, q, u⟩ := r
    exact Rps.cons q (Rps.take i u)
theorem Rps.drop : ∀ {ds : List D} {vs : List V} (i : Nat), Rps K F m ds vs → Rps K F m (ds.drop i) (vs.drop i)
  | _, _, 0, r => r
  | [], _, _ + 1, r => by rw [Rps] at r; rw [r]; exact Rps.nil
  | d :: ds, vs, i + 1, r => by
    rw [Rps] at r
    obtain ⟨v, vr, rfl, q, u⟩ := r
    exact Rps.drop i u
theorem Rps.cut {ds : List D} {vs : List V} {lo hi : Option Int} (r : Rps K F m ds vs) : Rps K F m (Rf.cut ds lo hi) (cutV vs lo hi) := by
  unfold Rf.cut cutV
  rw [← r.len]
  exact (r.drop _).take _
theorem Rps.rep {ds : List D} {vs : List V} (r : Rps K F m ds vs) : ∀ k : Nat, Rps K F m (List.replicate k ds).flatten (List.replicate k vs).flatten
  | 0 => Rps.nil
  | k + 1 => by
    rw [List.replicate_succ, List.replicate_succ, List.flatten_cons, List.flatten_cons]
    exact r.append (Rps.rep r k)
theorem Rps.cat : ∀ {ds : List D} {vs : List V} {es : List D} {ws : List V}, Rps K F m ds vs → Rps K F m es ws → ds.length + es.length = vs.length + ws.length := fun r t => by rw [r.len, t.len]
end

/-- an object of the store -/
def ORep (K : PySem.W.Frag) (F : Hp) (m : List Addr) : SObj → Option HO → Prop
  | .lst ds, ho => ∃ vs, ho = some (.lst vs) ∧ Rps K F m ds vs

structure HR (K : PySem.W.Frag) (TT : List (Addr × Str)) (F : Hp) (m : List Addr) (sto : List SObj) (H : Hp) : Prop where
  sub : SubF F H
  len : m.length = sto.length
  nd : m.Nodup
  mF : ∀ a ∈ m, F a = none
  obj : ∀ (n : Nat) a o, m[n]? = some a → sto[n]? = some o → ORep K F m o (H a)
  tabs : LamX.Tabs TT H
  noTab : ∀ a ps, F a ≠ some (.tbl ps)

structure SR (K : PySem.W.Frag) (env : List Slot) (σ : L2.St) (F : Hp) (m : List Addr) (H : Hp) : Prop where
  len : env.length = σ.length
  val : ∀ (i : Nat) d, env[i]? = some (.val d) → ∃ v, σ[i]? = some (some v) ∧ Rp K F m d v
  own : ∀ (i : Nat) ds, env[i]? = some (.own ds) → ∃ a vs, σ[i]? = some (some (.ref a)) ∧ H a = some (.lst vs) ∧ Rps K F m ds vs ∧ F a = none ∧ a ∉ m
  apart : ∀ (i j : Nat) ds es a, i ≠ j → env[i]? = some (.own ds) → env[j]? = some (.own es) → σ[i]? = some (some (.ref a)) → σ[j]? = some (some (.ref a)) → False

structure Rel (K : PySem.W.Frag) (TT : List (Addr × Str)) (s : Sg) (σ : L2.St) (F : Hp) (m : List Addr) (H : Hp) : Prop where
  hr : HR K TT F m s.sto H
  sr : SR K s.env σ F m H

def OwnA (env : List Slot) (σ : L2.St) (a : Addr) : Prop := ∃ (i : Nat) (ds : List D), env[i]? = some (.own ds) ∧ σ[i]? = some (some (V.ref a))
def OwnSub (env' env : List Slot) : Prop := ∀ (i : Nat) ds, env'[i]? = some (.own ds) → ∃ ds0, env[i]? = some (.own ds0)
theorem OwnSub.refl (e : List Slot) : OwnSub e e := fun _ ds h => ⟨ds, h⟩
theorem OwnSub.trans {a b c : List Slot} (x : OwnSub a b) (y : OwnSub b c) : OwnSub a c := fun i ds h => let ⟨d1, h1⟩ := x i ds h; y i d1 h1
theorem OwnSub.ownA {e' e : List Slot} {σ : L2.St} {a : Addr} (x : OwnSub e' e) (h : OwnA e' σ a) : OwnA e σ a := let ⟨i, ds, h1, h2⟩ := h; let ⟨d0, h3⟩ := x i ds h1; ⟨i, d0, h3, h2⟩
/-- a thing that is no table stands at a -/
def Nt (H : Hp) (a : Addr) : Prop := ∃ o, H a = some o ∧ ∀ ps, o ≠ .tbl ps
theorem Nt.lst {H : Hp} {a : Addr} {vs : List V} (h : H a = some (.lst vs)) : Nt H a := ⟨_, h, fun ps z => by cases z⟩
theorem Nt.no {H : Hp} {a : Addr} (h : H a = none) : ¬ Nt H a := fun ⟨o, e, _⟩ => by rw [h] at e; cases e
/-- from one state to a later one: what may change -/
structure Fr (env : List Slot) (σ : L2.St) (F : Hp) (m : List Addr) (H : Hp) (F' : Hp) (m' : List Addr) (H' : Hp) : Prop where
  ff : SubF F F'
  mm : m <+: m'
  mf : ∀ a ∈ m', a ∈ m ∨ ¬ Nt H a
  keep : ∀ a o, H a = some o → a ∉ m → ¬ OwnA env σ a → (∀ ps, o ≠ .tbl ps) → H' a = some o
  kF : ∀ a, Nt H a → ¬ OwnA env σ a → F' a = F a
  dom : ∀ a, Nt H a → Nt H' a
structure Nx (K : PySem.W.Frag) (TT : List (Addr × Str)) (s : Sg) (σ : L2.St) (F : Hp) (m : List Addr) (H : Hp) (s' : Sg) (F' : Hp) (m' : List Addr) (H' : Hp) : Prop where
  rel : Rel K TT s' σ F' m' H'
  fr : Fr s.env σ F m H F' m' H'
  os : OwnSub s'.env s.env
section
variable {K : PySem.W.Frag} {TT : List (Addr × Str)} {s s' s1 s2 : Sg} {σ : L2.St} {F F' F1 F2 : Hp} {m m' m1 m2 : List Addr} {H H' H1 H2 : Hp} {env : List Slot}
theorem Fr.refl : Fr env σ F m H F m H := ⟨SubF.refl _, List.prefix_rfl, fun _ h => .inl h, fun _ _ h _ _ _ => h, fun _ _ _ => rfl, fun _ h => h⟩
theorem Nx.refl (r : Rel K TT s σ F m H) : Nx K TT s σ F m H s F m H := ⟨r, Fr.refl, OwnSub.refl _⟩
theorem Fr.trans {env1 : List Slot} {σ1 : L2.St} (a : Fr env σ F m H F1 m1 H1) (b : Fr env1 σ1 F1 m1 H1 F2 m2 H2) (o : ∀ x, Nt H x → OwnA env1 σ1 x → OwnA env σ x) : Fr env σ F m H F2 m2 H2 where
  ff := a.ff.trans b.ff
  mm := a.mm.trans b.mm
  mf := fun x hx => by
    rcases b.mf x hx with h | h
    · exact a.mf x h
    · exact .inr fun q => h (a.dom x q)
  keep := fun x u h hm hn ht => by
    have h1 := a.keep x u h hm hn ht
    have hm1 : x ∉ m1 := fun z => by
      rcases a.mf x z with q | q
      · exact hm q
      · exact q ⟨u, h, ht⟩
    exact b.keep x u h1 hm1 (fun z => hn (o x ⟨u, h, ht⟩ z)) ht
  kF := fun x h hn => by rw [b.kF x (a.dom x h) (fun z => hn (o x h z)), a.kF x h hn]
  dom := fun x h => b.dom x (a.dom x h)
theorem Nx.trans (a : Nx K TT s σ F m H s1 F1 m1 H1) (b : Nx K TT s1 σ F1 m1 H1 s2 F2 m2 H2) : Nx K TT s σ F m H s2 F2 m2 H2 :=
  ⟨b.rel, a.fr.trans b.fr fun _ _ z => a.os.ownA z, b.os.trans a.os⟩
/-- the value at hand, by the handle -/
def HdR (K : PySem.W.Frag) (env : List Slot) (σ : L2.St) (F : Hp) (m : List Addr) (H : Hp) : Hd → V → Prop
  | .d x, v => Rp K F m x v
  | .sl i, v => σ[i]? = some (some v)
  | .own ds, v => ∃ a vs, v = .ref a ∧ H a = some (.lst vs) ∧ Rps K F m ds vs ∧ F a = none ∧ a ∉ m ∧ ¬ OwnA env σ a
theorem HdR.next {h : Hd} {v : V} (r : HdR K s.env σ F m H h v) (n : Nx K TT s σ F m H s' F' m' H') : HdR K s'.env σ F' m' H' h v := by
  cases h with
  | d x => exact Rp.mono n.fr.ff n.fr.mm _ _ r
  | sl i => exact r
  | own ds =>
    obtain ⟨a, vs, e, h1, h2, h3, h4, h5⟩ := r
    refine ⟨a, vs, e, n.fr.keep a _ h1 h4 h5 (fun _ z => by cases z), Rps.mono n.fr.ff n.fr.mm _ _ h2, ?_, ?_, fun z => h5 (n.os.ownA z)⟩
    · rw [n.fr.kF a (.lst h1) h5, h3]
    · intro z
      rcases n.fr.mf a z with q | q
      · exact h4 q
      · exact q (.lst h1)
/-- what may be read as a datum now -/
def RdP (K : PySem.W.Frag) (F : Hp) (m : List Addr) (H : Hp) (x : D) (v : V) : Prop :=
  Rp K F m x v ∨ ∃ ds a vs, x = .lst ds ∧ v = .ref a ∧ H a = some (.lst vs) ∧ Rps K F m ds vs
theorem RdP.lst {ds : List D} {v : V} (h : HR K TT F m s.sto H) (r : RdP K F m H (.lst ds) v) : ∃ a vs, v = .ref a ∧ H a = some (.lst vs) ∧ Rps K F m ds vs := by
  rcases r with r | ⟨es, a, vs, e, r⟩
  · rw [Rp] at r
    obtain ⟨a, vs, e, q, t⟩ := r
    exact ⟨a, vs, e, h.sub _ _ q, t⟩
  · cases e
    exact ⟨a, vs, r⟩
theorem Rel.rd {h : Hd} {v : V} {x : D} (r : Rel K TT s σ F m H) (hv : HdR K s.env σ F m H h v) (e : s.rd h = some x) : RdP K F m H x v := by
  cases h with
  | d y => cases e; exact .inl hv
  | own ds =>
    cases e
    obtain ⟨a, vs, e, h1, h2, _⟩ := hv
    exact .inr ⟨ds, a, vs, rfl, e, h1, h2⟩
  | sl i =>
    have hv : σ[i]? = some (some v) := hv
    cases q : s.env[i]? with
    | none => simp [Sg.rd, q] at e
    | some sl =>
      cases sl with
      | un => simp [Sg.rd, q] at e
      | own ds =>
        simp only [Sg.rd, q, Option.some.injEq] at e
        subst e
        obtain ⟨a, vs, h1, h2, h3, _⟩ := r.sr.own i ds q
        rw [hv] at h1
        cases h1
        exact .inr ⟨ds, a, vs, rfl, rfl, h2, h3⟩
      | val y =>
        simp only [Sg.rd, q, Option.some.injEq] at e
        subst e
        obtain ⟨w, h1, h2⟩ := r.sr.val i y q
        rw [hv] at h1
        cases h1
        exact .inl h2
theorem ownA_set {env : List Slot} {σ : L2.St} {i : Nat} {d : D} {a : Addr} (h : OwnA (env.set i (.val d)) σ a) : OwnA env σ a := by
  obtain ⟨j, ds, h1, h2⟩ := h
  by_cases e : i = j
  · subst e
    by_cases hl : i < env.length
    · rw [List.getElem?_set_self hl] at h1; cases h1
    · rw [List.getElem?_eq_none (by simpa using hl)] at h1; cases h1
  · rw [List.getElem?_set_ne e] at h1
    exact ⟨j, ds, h1, h2⟩
theorem subF_upd {a : Addr} {o : HO} (h : F a = none) : SubF F (upd F a o) := fun b u e => by rw [upd_ne (ne_of_none e h)]; exact e
/-- the frozen part grows by a (a list or a tuple that stands in H), none of the store, no slot's own -/
theorem HR.grow {sto : List SObj} {a : Addr} {o : HO} (r : HR K TT F m sto H) (h1 : H a = some o) (h3 : F a = none) (h4 : a ∉ m) (ht : ∀ ps, o ≠ .tbl ps) : HR K TT (upd F a o) m sto H := by
  refine ⟨fun b u e => ?_, r.len, r.nd, fun b hb => ?_, fun n b u e1 e2 => ?_, r.tabs, fun b ps e => ?_⟩
  · by_cases q : b = a
    · subst q; rw [upd_same] at e; cases e; exact h1
    · rw [upd_ne q] at e; exact r.sub b u e
  · have q : b ≠ a := fun z => h4 (by rw [← z]; exact hb)
    rw [upd_ne q]
    exact r.mF b hb
  · have := r.obj n b u e1 e2
    cases u with
    | lst ds =>
      obtain ⟨vs, e, q⟩ := this
      exact ⟨vs, e, Rps.mono (subF_upd h3) List.prefix_rfl _ _ q⟩
  · by_cases q : b = a
    · subst q; rw [upd_same] at e; exact ht ps (Option.some.inj e)
    · rw [upd_ne q] at e; exact r.noTab b ps e
theorem SR.grow {a : Addr} {o : HO} (r : SR K env σ F m H) (h3 : F a = none) (h5 : ¬ OwnA env σ a) : SR K env σ (upd F a o) m H := by
  refine ⟨r.len, fun i d e => ?_, fun i ds e => ?_, r.apart⟩
  · obtain ⟨v, e1, q⟩ := r.val i d e
    exact ⟨v, e1, Rp.mono (subF_upd h3) List.prefix_rfl _ _ q⟩
  · obtain ⟨b, ws, e1, e2, e3, e4, e5⟩ := r.own i ds e
    refine ⟨b, ws, e1, e2, Rps.mono (subF_upd h3) List.prefix_rfl _ _ e3, ?_, e5⟩
    have q : b ≠ a := fun z => h5 ⟨i, ds, e, by rw [← z]; exact e1⟩
    rw [upd_ne q]
    exact e4
/-- behind a step, what is new may be frozen -/
theorem Nx.grow {a : Addr} {o : HO} (n : Nx K TT s σ F m H s' F' m' H') (h0 : ¬ Nt H a) (h1 : H' a = some o) (h3 : F' a = none) (h4 : a ∉ m') (h5 : ¬ OwnA s'.env σ a) (ht : ∀ ps, o ≠ .tbl ps) :
    Nx K TT s σ F m H s' (upd F' a o) m' H' := by
  refine ⟨⟨n.rel.hr.grow h1 h3 h4 ht, n.rel.sr.grow h3 h5⟩, ⟨n.fr.ff.trans (subF_upd h3), n.fr.mm, n.fr.mf, n.fr.keep, fun b hb hn => ?_, n.fr.dom⟩, n.os⟩
  have q : b ≠ a := fun z => h0 (by rw [← z]; exact hb)
  rw [upd_ne q]
  exact n.fr.kF b hb hn
/-- a new object is laid, not frozen -/
theorem HR.laid {sto : List SObj} {a : Addr} {o : HO} (r : HR K TT F m sto H) (h : H a = none) : HR K TT F m sto (upd H a o) := by
  refine ⟨fun b u e => ?_, r.len, r.nd, r.mF, fun n b u e1 e2 => ?_, ?_, r.noTab⟩
  · rw [upd_ne (ne_of_none (r.sub b u e) h)]
    exact r.sub b u e
  · have := r.obj n b u e1 e2
    cases u with
    | lst ds =>
      obtain ⟨vs, e, q⟩ := this
      exact ⟨vs, by rw [upd_ne (ne_of_none e h)]; exact e, q⟩
  · exact r.tabs.ext fun b u e => by rw [upd_ne (ne_of_none e h)]; exact e
theorem SR.laid {a : Addr} {o : HO} (r : SR K env σ F m H) (h : H a = none) : SR K env σ F m (upd H a o) := by
  refine ⟨r.len, r.val, fun i ds e => ?_, r.apart⟩
  obtain ⟨b, ws, e1, e2, e3, e4, e5⟩ := r.own i ds e
  exact ⟨b, ws, e1, by rw [upd_ne (ne_of_none e2 h)]; exact e2, e3, e4, e5⟩
theorem Rel.laid {a : Addr} {o : HO} (r : Rel K TT s σ F m H) (h : H a = none) : Nx K TT s σ F m H s F m (upd H a o) := by
  refine ⟨⟨r.hr.laid h, r.sr.laid h⟩, ⟨SubF.refl _, List.prefix_rfl, fun _ h => .inl h, fun b u e _ _ _ => by rw [upd_ne (ne_of_none e h)]; exact e, fun _ _ _ => rfl, fun b hb => ?_⟩, OwnSub.refl _⟩
  obtain ⟨u, e, ht⟩ := hb
  exact ⟨u, by rw [upd_ne (ne_of_none e h)]; exact e, ht⟩
theorem Rel.newF {a : Addr} (r : Rel K TT s σ F m H) (h : H a = none) : F a = none ∧ a ∉ m ∧ ¬ OwnA s.env σ a := by
  refine ⟨?_, fun z => ?_, fun ⟨i, ds, e1, e2⟩ => ?_⟩
  · cases q : F a with
    | none => rfl
    | some o => rw [r.hr.sub a o q] at h; cases h
  · obtain ⟨n, hn, e⟩ := List.mem_iff_getElem.mp z
    have e1 : m[n]? = some a := by rw [List.getElem?_eq_getElem hn, e]
    have hl : n < s.sto.length := by rw [← r.hr.len]; exact hn
    have := r.hr.obj n a _ e1 (List.getElem?_eq_getElem hl)
    cases q : s.sto[n] with
    | lst ds =>
      rw [q] at this
      obtain ⟨vs, e, _⟩ := this
      rw [h] at e; cases e
  · obtain ⟨b, ws, e3, e4, _⟩ := r.sr.own i ds e1
    rw [e2] at e3
    cases e3
    rw [h] at e4; cases e4
/-- a new list, none knows it -/
theorem Rel.newOwn {a : Addr} {ds : List D} {vs : List V} (r : Rel K TT s σ F m H) (h : H a = none) (q : Rps K F m ds vs) :
    Nx K TT s σ F m H s F m (upd H a (.lst vs)) ∧ HdR K s.env σ F m (upd H a (.lst vs)) (.own ds) (.ref a) := by
  obtain ⟨h1, h2, h3⟩ := r.newF h
  exact ⟨r.laid h, a, vs, rfl, upd_same, q, h1, h2, h3⟩
/-- a new tuple -/
theorem Rel.newTup {a : Addr} {ds : List D} {vs : List V} (r : Rel K TT s σ F m H) (h : H a = none) (q : Rps K F m ds vs) :
    Nx K TT s σ F m H s (upd F a (.tup vs)) m (upd H a (.tup vs)) ∧ Rp K (upd F a (.tup vs)) m (.tup ds) (.ref a) := by
  obtain ⟨h1, h2, h3⟩ := r.newF h
  refine ⟨(r.laid h).grow (Nt.no h) upd_same h1 h2 h3 (fun ps z => by cases z), ?_⟩
  rw [Rp]
  exact ⟨a, vs, rfl, .inl (.inl upd_same), Rps.mono (subF_upd h1) List.prefix_rfl _ _ q⟩
/-- what a handle freezes to -/
theorem Nx.fz {h : Hd} {v : V} {d : D} {s2 : Sg} (n : Nx K TT s σ F m H s' F' m' H') (hv : HdR K s'.env σ F' m' H' h v) (hn : ∀ ds, h = .own ds → ∀ a, v = .ref a → ¬ Nt H a) (e : s'.fz h = some (.ok d, s2)) :
    ∃ F2, Nx K TT s σ F m H s2 F2 m' H' ∧ Rp K F2 m' d v := by
  cases h with
  | d x =>
    simp only [Sg.fz, Option.some.injEq, Prod.mk.injEq, Out.ok.injEq] at e
    obtain ⟨rfl, rfl⟩ := e
    exact ⟨F', n, hv⟩
  | own ds =>
    simp only [Sg.fz, Option.some.injEq, Prod.mk.injEq, Out.ok.injEq] at e
    obtain ⟨rfl, rfl⟩ := e
    obtain ⟨a, vs, e1, h1, h2, h3, h4, h5⟩ := hv
    refine ⟨upd F' a (.lst vs), n.grow (hn ds rfl a e1) h1 h3 h4 h5 (fun ps z => by cases z), ?_⟩
    rw [Rp]
    exact ⟨a, vs, e1, upd_same, Rps.mono (subF_upd h3) List.prefix_rfl _ _ h2⟩
  | sl i =>
    have hv : σ[i]? = some (some v) := hv
    cases q : s'.env[i]? with
    | none => simp [Sg.fz, q] at e
    | some sl =>
      cases sl with
      | un => simp [Sg.fz, q] at e
      | val y =>
        simp only [Sg.fz, q, Option.some.injEq, Prod.mk.injEq, Out.ok.injEq] at e
        obtain ⟨rfl, rfl⟩ := e
        obtain ⟨w, h1, h2⟩ := n.rel.sr.val i y q
        rw [hv] at h1
        cases h1
        exact ⟨F', n, h2⟩
      | own ds =>
        simp only [Sg.fz, q, Option.some.injEq, Prod.mk.injEq, Out.ok.injEq] at e
        obtain ⟨rfl, rfl⟩ := e
        obtain ⟨a, vs, h1, h2, h3, h4, h5⟩ := n.rel.sr.own i ds q
        rw [hv] at h1
        cases h1
        have hi : i < s'.env.length := (List.getElem?_eq_some_iff.mp q).1
        have nown : ¬ OwnA (s'.env.set i (.val (.lst ds))) σ a := fun ⟨j, es, q1, q2⟩ => by
          by_cases ej : i = j
          · subst ej
            rw [List.getElem?_set_self hi] at q1; cases q1
          · rw [List.getElem?_set_ne ej] at q1
            exact n.rel.sr.apart i j ds es a ej q q1 hv q2
        have sub2 : OwnSub (s'.env.set i (.val (.lst ds))) s'.env := fun j es q1 => by
          by_cases ej : i = j
          · subst ej
            rw [List.getElem?_set_self hi] at q1; cases q1
          · rw [List.getElem?_set_ne ej] at q1
            exact ⟨es, q1⟩
        have rp : Rp K (upd F' a (.lst vs)) m' (.lst ds) (.ref a) := by
          rw [Rp]
          exact ⟨a, vs, rfl, upd_same, Rps.mono (subF_upd h4) List.prefix_rfl _ _ h3⟩
        refine ⟨upd F' a (.lst vs), ⟨⟨n.rel.hr.grow h2 h4 h5 (fun ps z => by cases z), ⟨by simpa using n.rel.sr.len, fun j d q1 => ?_, fun j es q1 => ?_, fun j k d1 d2 b hne q1 q2 q3 q4 => ?_⟩⟩,
          ⟨n.fr.ff.trans (subF_upd h4), n.fr.mm, n.fr.mf, n.fr.keep, fun b hb hn' => ?_, n.fr.dom⟩, sub2.trans n.os⟩, rp⟩
        · by_cases ej : i = j
          · subst ej
            rw [List.getElem?_set_self hi] at q1
            cases q1
            exact ⟨_, hv, rp⟩
          · rw [List.getElem?_set_ne ej] at q1
            obtain ⟨w, g1, g2⟩ := n.rel.sr.val j d q1
            exact ⟨w, g1, Rp.mono (subF_upd h4) List.prefix_rfl _ _ g2⟩
        · by_cases ej : i = j
          · subst ej
            rw [List.getElem?_set_self hi] at q1; cases q1
          · rw [List.getElem?_set_ne ej] at q1
            obtain ⟨b, ws, g1, g2, g3, g4, g5⟩ := n.rel.sr.own j es q1
            refine ⟨b, ws, g1, g2, Rps.mono (subF_upd h4) List.prefix_rfl _ _ g3, ?_, g5⟩
            have qb : b ≠ a := fun z => n.rel.sr.apart i j ds es a ej q q1 hv (by rw [← z]; exact g1)
            rw [upd_ne qb]
            exact g4
        · by_cases e1 : i = j
          · subst e1
            rw [List.getElem?_set_self hi] at q1; cases q1
          · by_cases e2 : i = k
            · subst e2
              rw [List.getElem?_set_self hi] at q2; cases q2
            · rw [List.getElem?_set_ne e1] at q1
              rw [List.getElem?_set_ne e2] at q2
              exact n.rel.sr.apart j k d1 d2 b hne q1 q2 q3 q4
        · have qb : b ≠ a := fun z => hn' (by rw [z]; exact n.os.ownA ⟨i, ds, q, hv⟩)
          rw [upd_ne qb]
          exact n.fr.kF b hb hn'
end
end Rf

set_option Elab.async false
set_option linter.all false
set_option maxRecDepth 100000
/-! R4: readings of the small language's trees, and why each rule of the layer gives them (expressions). -/
namespace Rf
open PySem L2

/-- what is fixed through a law -/
structure Gx where
  K : PySem.W.Frag
  TT : List (Addr × Str)
  cls : List Addr
  flds : List (List Str)
  G : List Fn
noncomputable abbrev Gx.cl (g : Gx) (n : Nat) : Call := callN g.G n

def Res {α : Type} (r : Rs α) (P : α → Sg → Prop) (X : Exn → Sg → Prop) : Prop :=
  match r with
  | none => False
  | some (.ok a, s) => P a s
  | some (.exc x, s) => X x s
theorem Res.mono {α : Type} {r : Rs α} {P P' : α → Sg → Prop} {X X' : Exn → Sg → Prop} (h : Res r P X) (hp : ∀ a s, r = some (.ok a, s) → P a s → P' a s) (hx : ∀ x s, r = some (.exc x, s) → X x s → X' x s) : Res r P' X' := by
  cases r with
  | none => exact h
  | some p =>
    obtain ⟨o, s⟩ := p
    cases o with
    | ok a => exact hp a s rfl h
    | exc x => exact hx x s rfl h
theorem Res.bnd {α β : Type} {r : Rs α} {k : α → Sg → Rs β} {P : β → Sg → Prop} {X : Exn → Sg → Prop} (h : Res (Rf.bnd r k) P X) : Res r (fun a s => Res (k a s) P X) X := by
  cases r with
  | none => exact h
  | some p =>
    obtain ⟨o, s⟩ := p
    cases o with
    | ok a => exact h
    | exc x => exact h
theorem Res.ok {α : Type} {a : α} {s : Sg} {P : α → Sg → Prop} {X : Exn → Sg → Prop} (h : Res (some (.ok a, s)) P X) : P a s := h
theorem Res.opt {α : Type} {o : Option α} {s : Sg} {P : α → Sg → Prop} {X : Exn → Sg → Prop} (h : Res (Rf.opt o s) P X) : ∃ a, o = some a ∧ P a s := by
  cases o with
  | none => exact h.elim
  | some a => exact ⟨a, rfl, h⟩

/-- an exception: its class, its dict -/
def ExR (g : Gx) (F : Hp) (m : List Addr) (H : Hp) (x : Exn) (cls : Value) (d : Addr) : Prop :=
  ∃ C fl fs, g.cls[x.cls]? = some C ∧ cls = .ref C ∧ g.flds[x.cls]? = some fl ∧ H d = some (.xd fs) ∧ ∀ (i : Nat) f a, fl[i]? = some f → x.args[i]? = some a → ∃ v, fs.lookup f = some v ∧ Rp g.K F m a v
abbrev NX (g : Gx) (s : Sg) (σ : L2.St) (F : Hp) (m : List Addr) (H : Hp) (s' : Sg) (F' : Hp) (m' : List Addr) (H' : Hp) : Prop := Nx g.K g.TT s σ F m H s' F' m' H'
def PX (g : Gx) (W : WX) (s : Sg) (σ : L2.St) (F : Hp) (m : List Addr) (H : Hp) : Exn → Sg → Prop := fun x s' =>
  ∀ cls d F' m' H', NX g s σ F m H s' F' m' H' → ExR g F' m' H' x cls d → W cls (some d) σ H'
theorem PX.next {g : Gx} {W : WX} {s s1 : Sg} {σ : L2.St} {F F1 : Hp} {m m1 : List Addr} {H H1 : Hp} {x : Exn} {s' : Sg} (h : PX g W s σ F m H x s') (n : NX g s σ F m H s1 F1 m1 H1) : PX g W s1 σ F1 m1 H1 x s' :=
  fun cls d F' m' H' n' e => h cls d F' m' H' (n.trans n') e
/-- a new list is not of the start -/
def New (H : Hp) (h : Hd) (v : V) : Prop := ∀ ds, h = .own ds → ∀ a, v = .ref a → ¬ Nt H a
theorem New.d {H : Hp} {x : D} {v : V} : New H (.d x) v := fun ds e => by cases e
theorem New.sl {H : Hp} {i : Nat} {v : V} : New H (.sl i) v := fun ds e => by cases e
theorem New.back {g : Gx} {s : Sg} {σ : L2.St} {F F1 : Hp} {m m1 : List Addr} {H H1 : Hp} {s1 : Sg} {h : Hd} {v : V} (n : NX g s σ F m H s1 F1 m1 H1) (w : New H1 h v) : New H h v := fun ds e a ea => by
  have z := w ds e a ea
  exact fun q => z (n.fr.dom a q)

/-- readings -/
def RdE (g : Gx) (W : WX) {α β : Type} (ev : Sg → Rs α) (rep : α → Sg → L2.St → Hp → List Addr → Hp → Hp → β → Prop) : L2.St → Hp → (β → Hp → Prop) → Prop := fun σ H Q =>
  ∃ s F m, Rel g.K g.TT s σ F m H ∧ Res (ev s) (fun a s' => ∀ v F' m' H', NX g s σ F m H s' F' m' H' → rep a s' σ F' m' H' H v → Q v H') (PX g W s σ F m H)
def repH (g : Gx) : Hd → Sg → L2.St → Hp → List Addr → Hp → Hp → V → Prop := fun h s' σ F' m' H' H v => HdR g.K s'.env σ F' m' H' h v ∧ New H h v
def repD (g : Gx) : D → Sg → L2.St → Hp → List Addr → Hp → Hp → V → Prop := fun d _ _ F' m' _ _ v => Rp g.K F' m' d v
def repDs (g : Gx) : List D → Sg → L2.St → Hp → List Addr → Hp → Hp → List V → Prop := fun d _ _ F' m' _ _ v => Rps g.K F' m' d v
inductive HdRs (K : PySem.W.Frag) (env : List Slot) (σ : L2.St) (F : Hp) (m : List Addr) (H H0 : Hp) : List Hd → List V → Prop
  | nil : HdRs K env σ F m H H0 [] []
  | cons {h : Hd} {v : V} {hs : List Hd} {vs : List V} : HdR K env σ F m H h v → New H0 h v → HdRs K env σ F m H H0 hs vs → HdRs K env σ F m H H0 (h :: hs) (v :: vs)
def repHs (g : Gx) : List Hd → Sg → L2.St → Hp → List Addr → Hp → Hp → List V → Prop := fun h s' σ F' m' H' H v => HdRs g.K s'.env σ F' m' H' H h v
def repB (g : Gx) : Bool → Sg → L2.St → Hp → List Addr → Hp → Hp → Bool → Prop := fun b _ _ _ _ _ _ v => v = b
def repO (g : Gx) : Option Int → Sg → L2.St → Hp → List Addr → Hp → Hp → Option Int → Prop := fun o _ _ _ _ _ _ v => v = o

def tE (g : Gx) (n : Nat) (W : WX) (e : E) : TE := RdE g W (evE (g.cl n) e) (repH g)
def tD (g : Gx) (n : Nat) (W : WX) (e : E) : TE := RdE g W (fun s => frz (evE (g.cl n) e s)) (repD g)
def tEs (g : Gx) (n : Nat) (W : WX) (es : List E) : TA := RdE g W (evEs (g.cl n) es) (repDs g)
def tHs (g : Gx) (n : Nat) (W : WX) (es : List E) : TA := RdE g W (evHs (g.cl n) es) (repHs g)
def tT (g : Gx) (n : Nat) (W : WX) (c : T) : TT := RdE g W (evT (g.cl n) c) (repB g)
def tOp' (g : Gx) (n : Nat) (W : WX) (o : Option E) : TO := RdE g W (evO (g.cl n) o) (repO g)

theorem _root_.L2.PE.imp {X : Cx} {e : Expr} {t t' : TE} (h : PE X e t') (i : ∀ σ H Q, t σ H Q → t' σ H Q) : PE X e t := ⟨fun pins s σ H Q I q => h.run pins s σ H Q I (i σ H Q q)⟩
theorem _root_.L2.PT.imp {X : Cx} {e : Expr} {t t' : TT} (h : PT X e t') (i : ∀ σ H Q, t σ H Q → t' σ H Q) : PT X e t := ⟨fun pins s σ H Q I q => h.run pins s σ H Q I (i σ H Q q)⟩
theorem _root_.L2.PW.imp {X : Cx} {e : Expr} {t t' : TT} (h : PW X e t') (i : ∀ σ H Q, t σ H Q → t' σ H Q) : PW X e t := ⟨fun wh pins s σ H Q I q => h.run wh pins s σ H Q I (i σ H Q q)⟩
theorem _root_.L2.PA.imp {X : Cx} {e : List Expr} {t t' : TA} (h : PA X e t') (i : ∀ σ H Q, t σ H Q → t' σ H Q) : PA X e t := ⟨fun pos pins s σ H Q I q => h.run pos pins s σ H Q I (i σ H Q q)⟩

section
variable {g : Gx} {n : Nat} {W : WX} {σ : L2.St} {H : Hp}
/-- the heart: one reading behind another -/
theorem RdE.step {α β γ : Type} {ev : Sg → Rs α} {rep : α → Sg → L2.St → Hp → List Addr → Hp → Hp → β → Prop} {s : Sg} {F : Hp} {m : List Addr} {s0 : Sg} {F0 : Hp} {m0 : List Addr} {H0 : Hp} {k : α → Sg → Rs γ} {P : γ → Sg → Prop} {Q : β → Hp → Prop}
    (n0 : NX g s0 σ F0 m0 H0 s F m H) (h : Res (bnd (ev s) k) P (PX g W s0 σ F0 m0 H0))
    (next : ∀ a s1 v F1 m1 H1, Res (k a s1) P (PX g W s0 σ F0 m0 H0) → NX g s σ F m H s1 F1 m1 H1 → NX g s0 σ F0 m0 H0 s1 F1 m1 H1 → rep a s1 σ F1 m1 H1 H v → Q v H1) : RdE g W ev rep σ H Q :=
  ⟨s, F, m, n0.rel, h.bnd.mono (fun a s1 _ hp v F1 m1 H1 nx r => next a s1 v F1 m1 H1 hp nx (n0.trans nx) r) fun x s1 _ hx => hx.next n0⟩
theorem fz_exc {s s' : Sg} {h : Hd} {x : Exn} : ¬ s.fz h = some (.exc x, s') := fun q => by
  cases h with
  | d x => cases q
  | own ds => cases q
  | sl i =>
    cases e : s.env[i]? with
    | none => simp [Sg.fz, e] at q
    | some sl => cases sl <;> simp [Sg.fz, e] at q
theorem tD_of {e : E} {Q : VK} (h : tD g n W e σ H Q) : tE g n W e σ H Q := by
  obtain ⟨s, F, m, r, h⟩ := h
  refine RdE.step (Nx.refl r) h fun hd s1 v F1 m1 H1 hp nx _ rp => ?_
  cases q : s1.fz hd with
  | none => rw [q] at hp; exact hp.elim
  | some p =>
    obtain ⟨o, s2⟩ := p
    rw [q] at hp
    cases o with
    | exc x =>
      exact absurd q fz_exc
    | ok d =>
      obtain ⟨F2, n2, r2⟩ := nx.fz rp.1 rp.2 q
      exact hp v F2 m1 H1 n2 r2
theorem pe_D {X : Cx} {e : Expr} {a : E} (h : PE X e (tE g n W a)) : PE X e (tD g n W a) := h.imp fun _ _ _ q => tD_of q

/-! ### names, constants -/
theorem sd_var {X : Cx} {x : Str} {i : Nat} {pos : Pos} (hN : X.N[i]? = some x) (hv : Vis X.env.scope x) (hd : (x == ("__debug__" : Str)) = false) (hcd : (x == ("__classdict__" : Str)) = false) : PE X (.Name x pos) (tE g n W (.var i)) := by
  refine (pe_var hN hv hd hcd).imp fun σ H Q ⟨s, F, m, r, h⟩ => ?_
  rw [evE] at h
  cases q : s.env[i]? with
  | none => rw [q] at h; exact h.elim
  | some sl =>
    rw [q] at h
    cases sl with
    | un => exact h.elim
    | val d =>
      obtain ⟨v, h1, h2⟩ := r.sr.val i d q
      exact ⟨v, h1, h.ok v F m H (Nx.refl r) ⟨h2, New.d⟩⟩
    | own ds =>
      obtain ⟨a, vs, h1, _⟩ := r.sr.own i ds q
      exact ⟨.ref a, h1, h.ok (.ref a) F m H (Nx.refl r) ⟨h1, New.sl⟩⟩
theorem sd_lit {X : Cx} {e : Expr} {d : D} {v : V} (h : PE X e (tC v)) (hr : ∀ F m, Rp g.K F m d v) : PE X e (tE g n W (.lit d)) := by
  refine h.imp fun σ H Q ⟨s, F, m, r, h⟩ => ?_
  rw [evE] at h
  exact h.ok v F m H (Nx.refl r) ⟨hr F m, New.d⟩

/-! ### operators -/
/-- what an operation on data is worth on values -/
def GoodR (g : Gx) (r : R2) (f : List SObj → D → D → Option Hd) : Prop := ∀ (s : Sg) (σ : L2.St) (F : Hp) (m : List Addr) (H : Hp) (p q : D) (x y : V) (h : Hd) (Q : VK), Rel g.K g.TT s σ F m H → RdP g.K F m H p x → RdP g.K F m H q y → f s.sto p q = some h →
  (∀ v F' m' H', NX g s σ F m H s F' m' H' → HdR g.K s.env σ F' m' H' h v → New H h v → Q v H') → r x y H Q
theorem sd_bin {X : Cx} {a b e : Expr} {r : R2} {a' b' : E} {ev : E} {f : List SObj → D → D → Option Hd} (ha : PE X a (tE g n W a')) (hb : PE X b (tE g n W b'))
    (rule : ∀ {ta tb : TE}, PE X a ta → PE X b tb → PE X e (tOp r ta tb)) (hev : ∀ s, evE (g.cl n) ev s = bnd (evE (g.cl n) a' s) fun x s1 => bnd (evE (g.cl n) b' s1) fun y s2 => opt ((s2.rd x).bind fun p => (s2.rd y).bind fun q => f s2.sto p q) s2)
    (good : GoodR g r f) : PE X e (tE g n W ev) := by
  refine (rule ha hb).imp fun σ H Q ⟨s, F, m, r, h⟩ => ?_
  rw [hev] at h
  refine RdE.step (Nx.refl r) h fun hx s1 x F1 m1 H1 h1 n1 t1 r1 => ?_
  refine RdE.step t1 h1 fun hy s2 y F2 m2 H2 h2 n2 t2 r2 => ?_
  obtain ⟨hd, e1, h3⟩ := h2.opt
  cases q1 : s2.rd hx with
  | none => rw [q1] at e1; cases e1
  | some p =>
    cases q2 : s2.rd hy with
    | none => rw [q1, q2] at e1; cases e1
    | some q =>
      rw [q1, q2] at e1
      exact good s2 σ F2 m2 H2 p q x y hd Q t2.rel (t2.rel.rd (r1.1.next n2) q1) (t2.rel.rd r2.1 q2) e1 fun v F' m' H' n3 hv nw => h3 v F' m' H' (t2.trans n3) ⟨hv, nw.back t2⟩
theorem RdP.int {F : Hp} {m : List Addr} {H : Hp} {i : Int} {v : V} (h : RdP g.K F m H (.int i) v) : v = .int i := by
  rcases h with h | ⟨_, _, _, e, _⟩
  · rw [Rp] at h; exact h
  · cases e
theorem RdP.str {F : Hp} {m : List Addr} {H : Hp} {i : Str} {v : V} (h : RdP g.K F m H (.str i) v) : v = .str i := by
  rcases h with h | ⟨_, _, _, e, _⟩
  · rw [Rp] at h; exact h
  · cases e
theorem RdP.bl {F : Hp} {m : List Addr} {H : Hp} {i : Bool} {v : V} (h : RdP g.K F m H (.bl i) v) : v = .bl i := by
  rcases h with h | ⟨_, _, _, e, _⟩
  · rw [Rp] at h; exact h
  · cases e
theorem RdP.non {F : Hp} {m : List Addr} {H : Hp} {v : V} (h : RdP g.K F m H .non v) : v = .non := by
  rcases h with h | ⟨_, _, _, e, _⟩
  · rw [Rp] at h; exact h
  · cases e
theorem RdP.tup {s : Sg} {F : Hp} {m : List Addr} {H : Hp} {ds : List D} {v : V} (r : HR g.K g.TT F m s.sto H) (h : RdP g.K F m H (.tup ds) v) : ∃ a vs, v = .ref a ∧ SqT g.K H a vs ∧ Rps g.K F m ds vs := by
  rcases h with h | ⟨_, _, _, e, _⟩
  · rw [Rp] at h
    obtain ⟨a, vs, e, q, t⟩ := h
    exact ⟨a, vs, e, r.sub.seqT q, t⟩
  · cases e
theorem RdP.fl {s : Sg} {F : Hp} {m : List Addr} {H : Hp} {ns : List Int} {v : V} (r : HR g.K g.TT F m s.sto H) (h : RdP g.K F m H (.fl ns) v) : ∃ a, v = .ref a ∧ SqL g.K H a (ns.map V.int) := by
  rcases h with h | ⟨_, _, _, e, _⟩
  · rw [Rp] at h
    obtain ⟨a, e, q⟩ := h
    exact ⟨a, e, r.sub.seqL q⟩
  · cases e
theorem RdP.ref {F : Hp} {m : List Addr} {H : Hp} {k : Nat} {v : V} (h : RdP g.K F m H (.ref k) v) : ∃ a, m[k]? = some a ∧ v = .ref a := by
  rcases h with h | ⟨_, _, _, e, _⟩
  · rw [Rp] at h; exact h
  · cases e
theorem PX.none {s : Sg} {F : Hp} {m : List Addr} : True := trivial
end
end Rf

set_option Elab.async false
set_option linter.all false
set_option maxRecDepth 100000
/-! R5: operators, comparisons, subscripts, built-ins on data. -/
namespace Rf
open PySem L2
section
variable {g : Gx} {n : Nat} {W : WX} {X : Cx}

theorem GoodR.or1 {r r' : R2} {f : List SObj → D → D → Option Hd} (h : GoodR g r f) : GoodR g (fun x y H Q => r x y H Q ∨ r' x y H Q) f := fun s σ F m H p q x y hd Q R a b e k => .inl (h s σ F m H p q x y hd Q R a b e k)
/-- by cases of the data -/
theorem good_add : GoodR g (fun x y H Q => rI0 (fun i j => .int (i + j)) x y H Q ∨ (∃ i j, x = .str i ∧ y = .str j ∧ i.length + j.length ≤ sizeLine ∧ Q (.str (i ++ j)) H) ∨ rCatA g.K x y H Q ∨ rCat x y H Q) (fun _ => bin .Add) := by
  intro s σ F m H p q x y hd Q R a b e k
  cases p with
  | int i =>
    cases q with
    | int j =>
      cases e
      rw [RdP.int a, RdP.int b]
      exact .inl ⟨i, j, rfl, rfl, k _ F m H (Nx.refl R) (by show Rp _ _ _ _ _; rw [Rp]) New.d⟩
    | _ => cases e
  | str i =>
    cases q with
    | str j =>
      have e : (if i.length + j.length ≤ sizeLine then some (Hd.d (.str (i ++ j))) else none) = some hd := e
      split at e
      · rename_i z
        cases e
        rw [RdP.str a, RdP.str b]
        exact .inr (.inl ⟨i, j, rfl, rfl, z, k _ F m H (Nx.refl R) (by show Rp _ _ _ _ _; rw [Rp]) New.d⟩)
      · cases e
    | _ => cases e
  | tup ds =>
    cases q with
    | tup es =>
      have e : (if ds.length + es.length ≤ sizeLine then some (Hd.d (.tup (ds ++ es))) else none) = some hd := e
      split at e
      · rename_i z
        cases e
        obtain ⟨a1, vs, rfl, h1, h2⟩ := RdP.tup R.hr a
        obtain ⟨b1, ws, rfl, h3, h4⟩ := RdP.tup R.hr b
        refine .inr (.inr (.inl ⟨a1, b1, vs, ws, rfl, rfl, h1, h3, by rw [← h2.len, ← h4.len]; exact z, fun e0 => ?_, fun _ e0 => ?_, fun _ _ p hp => ?_⟩))
        · have : ds = [] := List.eq_nil_of_length_eq_zero (by rw [h2.len, e0]; rfl)
          subst this
          rcases b with b | ⟨_, _, _, e', _⟩
          · exact k _ F m H (Nx.refl R) b New.d
          · cases e'
        · have : es = [] := List.eq_nil_of_length_eq_zero (by rw [h4.len, e0]; rfl)
          subst this
          rw [List.append_nil] at k
          rcases a with a | ⟨_, _, _, e', _⟩
          · exact k _ F m H (Nx.refl R) a New.d
          · cases e'
        · obtain ⟨n1, r1⟩ := R.newTup hp (h2.append h4)
          exact k _ _ _ _ n1 r1 New.d
      · cases e
    | int j => cases e
    | _ => cases e
  | lst ds =>
    cases q with
    | lst es =>
      have e : (if ds.length + es.length ≤ sizeLine then some (Hd.own (ds ++ es)) else none) = some hd := e
      split at e
      · rename_i z
        cases e
        obtain ⟨a1, vs, rfl, h1, h2⟩ := RdP.lst R.hr a
        obtain ⟨b1, ws, rfl, h3, h4⟩ := RdP.lst R.hr b
        refine .inr (.inr (.inr ⟨a1, b1, vs, ws, rfl, rfl, h1, h3, by rw [← h2.len, ← h4.len]; exact z, fun p hp => ?_⟩))
        obtain ⟨n1, r1⟩ := R.newOwn hp (h2.append h4)
        exact k _ _ _ _ n1 r1 (fun _ _ c ec => by cases ec; exact Nt.no hp)
      · cases e
    | int j => cases e
    | _ => cases e
  | _ => cases q <;> cases e
theorem op_addAll : OpR X (binaryOp .Add) (fun x y H Q => rI0 (fun i j => .int (i + j)) x y H Q ∨ (∃ i j, x = .str i ∧ y = .str j ∧ i.length + j.length ≤ sizeLine ∧ Q (.str (i ++ j)) H) ∨ rCatA X.K x y H Q ∨ rCat x y H Q) :=
  OpR.or op_add (OpR.or op_add_str (OpR.or op_catA op_cat))
theorem good_mul : GoodR g (fun x y H Q => rI CMul (fun i j => .int (i * j)) x y H Q ∨ rRep x y H Q ∨ rRepT g.K x y H Q ∨ rRepT1 g.K x y H Q) (fun _ => bin .Mult) := by
  intro s σ F m H p q x y hd Q R a b e k
  cases p with
  | int i =>
    cases q with
    | int j =>
      have e : ((@ite (Option Int) ((-(2 ^ 64) < i ∧ i < 2 ^ 64) ∨ (-(2 ^ 64) < j ∧ j < 2 ^ 64)) (Classical.propDecidable _) (some (i * j)) none).map fun k => Hd.d (.int k)) = some hd := e
      split at e
      · rename_i z
        cases e
        rw [RdP.int a, RdP.int b]
        exact .inl ⟨i, j, rfl, rfl, z, k _ F m H (Nx.refl R) (by show Rp _ _ _ _ _; rw [Rp]) New.d⟩
      · cases e
    | _ => cases e
  | tup ds =>
    cases q with
    | int j =>
      have e : (@ite (Option Hd) (j = 1) (Classical.propDecidable _) (some (Hd.d (.tup ds))) (@ite (Option Hd) (ds ≠ [] ∧ 2 ≤ j ∧ j ≤ 1000 ∧ ds.length ≤ 1000) (Classical.propDecidable _) (some (Hd.d (.tup (List.replicate j.toNat ds).flatten))) none)) = some hd := e
      split at e
      · rename_i z1
        cases e
        subst z1
        have ha := a
        obtain ⟨a1, vs, rfl, h1, h2⟩ := RdP.tup R.hr a
        rw [RdP.int b]
        refine .inr (.inr (.inr ⟨a1, vs, rfl, rfl, h1, k _ F m H (Nx.refl R) ?_ New.d⟩))
        rcases ha with ha | ⟨_, _, _, e', _⟩
        · exact ha
        · cases e'
      split at e
      · rename_i z
        cases e
        obtain ⟨a1, vs, rfl, h1, h2⟩ := RdP.tup R.hr a
        rw [RdP.int b]
        refine .inr (.inr (.inl ⟨a1, j, vs, rfl, rfl, h1, fun e0 => z.1 (List.eq_nil_of_length_eq_zero (by rw [h2.len, e0]; rfl)), z.2.1, z.2.2.1, by rw [← h2.len]; exact z.2.2.2, fun p hp => ?_⟩))
        obtain ⟨n1, r1⟩ := R.newTup hp (h2.rep j.toNat)
        exact k _ _ _ _ n1 r1 New.d
      · cases e
    | _ => cases e
  | lst ds =>
    cases q with
    | int j =>
      have e : (@ite (Option Hd) (-(2 ^ 63) ≤ j ∧ j < 2 ^ 63 ∧ ds.length * j.toNat ≤ sizeLine) (Classical.propDecidable _) (some (Hd.own (List.replicate j.toNat ds).flatten)) none) = some hd := e
      split at e
      · rename_i z
        cases e
        obtain ⟨a1, vs, rfl, h1, h2⟩ := RdP.lst R.hr a
        rw [RdP.int b]
        refine .inr (.inl ⟨a1, j, vs, rfl, rfl, h1, z.1, z.2.1, by rw [← h2.len]; exact z.2.2, fun p hp => ?_⟩)
        obtain ⟨n1, r1⟩ := R.newOwn hp (h2.rep j.toNat)
        exact k _ _ _ _ n1 r1 (fun _ _ c ec => by cases ec; exact Nt.no hp)
      · cases e
    | _ => cases e
  | _ => cases q <;> cases e
theorem op_mulAll : OpR X (binaryOp .Mult) (fun x y H Q => rI CMul (fun i j => .int (i * j)) x y H Q ∨ rRep x y H Q ∨ rRepT X.K x y H Q ∨ rRepT1 X.K x y H Q) := OpR.or op_mul (OpR.or op_rep (OpR.or op_repT op_repT1))
/-- operators of ints alone -/
theorem good_I {o : Operator} {C : Int → Int → Prop} {f : Int → Int → Int} (ho : ∀ p q hd, bin o p q = some hd → ∃ i j, p = .int i ∧ q = .int j ∧ C i j ∧ hd = .d (.int (f i j))) : GoodR g (rI C fun i j => .int (f i j)) (fun _ => bin o) := by
  intro s σ F m H p q x y hd Q R a b e k
  obtain ⟨i, j, rfl, rfl, hc, rfl⟩ := ho p q hd e
  rw [RdP.int a, RdP.int b]
  exact ⟨i, j, rfl, rfl, hc, k _ F m H (Nx.refl R) (by show Rp _ _ _ _ _; rw [Rp]) New.d⟩
theorem good_I0 {o : Operator} {f : Int → Int → Int} (ho : ∀ p q hd, bin o p q = some hd → ∃ i j, p = .int i ∧ q = .int j ∧ hd = .d (.int (f i j))) : GoodR g (rI0 fun i j => .int (f i j)) (fun _ => bin o) := by
  intro s σ F m H p q x y hd Q R a b e k
  obtain ⟨i, j, rfl, rfl, rfl⟩ := ho p q hd e
  rw [RdP.int a, RdP.int b]
  exact ⟨i, j, rfl, rfl, k _ F m H (Nx.refl R) (by show Rp _ _ _ _ _; rw [Rp]) New.d⟩
theorem bin_int {o : Operator} (h1 : o ≠ .Add) (h2 : o ≠ .Mult) {p q : D} {hd : Hd} (e : bin o p q = some hd) : ∃ i j k, p = .int i ∧ q = .int j ∧ binI o i j = some k ∧ hd = .d (.int k) := by
  cases p with
  | int i =>
    cases q with
    | int j =>
      have e : (binI o i j).map (fun k => Hd.d (.int k)) = some hd := e
      cases z : binI o i j with
      | none => rw [z] at e; cases e
      | some k =>
        rw [z] at e
        cases e
        exact ⟨i, j, k, rfl, rfl, z, rfl⟩
    | _ => cases e
  | _ => cases q <;> cases o <;> first | cases e; done | exact absurd rfl h1 | exact absurd rfl h2
theorem ite_some {c : Prop} {dc : Decidable c} {a k : Int} (h : @ite (Option Int) c dc (some a) none = some k) : c ∧ k = a := by
  split at h
  · rename_i z
    cases h
    exact ⟨z, rfl⟩
  · cases h
theorem bin_sub : ∀ p q hd, bin .Sub p q = some hd → ∃ i j, p = .int i ∧ q = .int j ∧ hd = .d (.int (i - j)) := fun p q hd e =>
  let ⟨i, j, k, h1, h2, h3, h4⟩ := bin_int (by decide) (by decide) e; ⟨i, j, h1, h2, by rw [h4, ← Option.some.inj h3]⟩
theorem bin_fdiv : ∀ p q hd, bin .FloorDiv p q = some hd → ∃ i j, p = .int i ∧ q = .int j ∧ CDiv i j ∧ hd = .d (.int (i / j)) := fun p q hd e =>
  let ⟨i, j, k, h1, h2, h3, h4⟩ := bin_int (by decide) (by decide) e; let ⟨c, z⟩ := ite_some h3; ⟨i, j, h1, h2, c, by rw [h4, z]⟩
theorem bin_mod : ∀ p q hd, bin .Mod p q = some hd → ∃ i j, p = .int i ∧ q = .int j ∧ 0 < j ∧ hd = .d (.int (i % j)) := fun p q hd e =>
  let ⟨i, j, k, h1, h2, h3, h4⟩ := bin_int (by decide) (by decide) e; let ⟨c, z⟩ := ite_some h3; ⟨i, j, h1, h2, c, by rw [h4, z]⟩
theorem bin_pow : ∀ p q hd, bin .Pow p q = some hd → ∃ i j, p = .int i ∧ q = .int j ∧ CPow i j ∧ hd = .d (.int (i ^ j.toNat)) := fun p q hd e =>
  let ⟨i, j, k, h1, h2, h3, h4⟩ := bin_int (by decide) (by decide) e; let ⟨c, z⟩ := ite_some h3; ⟨i, j, h1, h2, c, by rw [h4, z]⟩
theorem bin_shl : ∀ p q hd, bin .LShift p q = some hd → ∃ i j, p = .int i ∧ q = .int j ∧ CPow i j ∧ hd = .d (.int (i * 2 ^ j.toNat)) := fun p q hd e =>
  let ⟨i, j, k, h1, h2, h3, h4⟩ := bin_int (by decide) (by decide) e; let ⟨c, z⟩ := ite_some h3; ⟨i, j, h1, h2, c, by rw [h4, z]⟩
theorem bin_shr : ∀ p q hd, bin .RShift p q = some hd → ∃ i j, p = .int i ∧ q = .int j ∧ 0 ≤ j ∧ hd = .d (.int (i / 2 ^ j.toNat)) := fun p q hd e =>
  let ⟨i, j, k, h1, h2, h3, h4⟩ := bin_int (by decide) (by decide) e; let ⟨c, z⟩ := ite_some h3; ⟨i, j, h1, h2, c, by rw [h4, z]⟩
theorem bin_and : ∀ p q hd, bin .BitAnd p q = some hd → ∃ i j, p = .int i ∧ q = .int j ∧ hd = .d (.int (Builtin.bitAnd i j)) := fun p q hd e =>
  let ⟨i, j, k, h1, h2, h3, h4⟩ := bin_int (by decide) (by decide) e; ⟨i, j, h1, h2, by rw [h4, ← Option.some.inj h3]⟩
theorem bin_or : ∀ p q hd, bin .BitOr p q = some hd → ∃ i j, p = .int i ∧ q = .int j ∧ hd = .d (.int (Builtin.bitOr i j)) := fun p q hd e =>
  let ⟨i, j, k, h1, h2, h3, h4⟩ := bin_int (by decide) (by decide) e; ⟨i, j, h1, h2, by rw [h4, ← Option.some.inj h3]⟩
theorem bin_xor : ∀ p q hd, bin .BitXor p q = some hd → ∃ i j, p = .int i ∧ q = .int j ∧ hd = .d (.int (Builtin.bitXor i j)) := fun p q hd e =>
  let ⟨i, j, k, h1, h2, h3, h4⟩ := bin_int (by decide) (by decide) e; ⟨i, j, h1, h2, by rw [h4, ← Option.some.inj h3]⟩
theorem sd_BinOp {a b : Expr} {o : Operator} {a' b' : E} {pos : Pos} (hK : X.K = g.K) (hok : okOp o = true) (ha : PE X a (tE g n W a')) (hb : PE X b (tE g n W b')) : PE X (.BinOp a o b pos) (tE g n W (.bin o a' b')) := by
  have hev : ∀ s, evE (g.cl n) (.bin o a' b') s = bnd (evE (g.cl n) a' s) fun x s1 => bnd (evE (g.cl n) b' s1) fun y s2 => opt ((s2.rd x).bind fun p => (s2.rd y).bind fun q => (fun _ => bin o) s2.sto p q) s2 := fun s => by rw [evE]
  have go : ∀ {r : R2}, OpR X (binaryOp o) r → GoodR g r (fun _ => bin o) → PE X (.BinOp a o b pos) (tE g n W (.bin o a' b')) := fun ho hg => sd_bin ha hb (fun h1 h2 => pe_op ho h1 h2) hev hg
  cases o with
  | Add => exact go op_addAll (by rw [hK]; exact good_add)
  | Mult => exact go op_mulAll (by rw [hK]; exact good_mul)
  | Sub => exact go op_sub (good_I0 bin_sub)
  | FloorDiv => exact go op_fdiv (good_I bin_fdiv)
  | Mod => exact go op_mod (good_I bin_mod)
  | Pow => exact go op_pow (good_I bin_pow)
  | LShift => exact go op_shl (good_I bin_shl)
  | RShift => exact go op_shr (good_I bin_shr)
  | BitAnd => exact go op_and (good_I0 bin_and)
  | BitOr => exact go op_or (good_I0 bin_or)
  | BitXor => exact go op_xor (good_I0 bin_xor)
  | MatMult => cases hok
  | Div => cases hok
/-! ### comparisons -/
mutual
theorem dp_of {F H : Hp} {m : List Addr} (sf : SubF F H) : ∀ (d : D) (v : V) (p : PyData), Rp g.K F m d v → toP d = some p → Dp g.K H v p
  | .non, v, p, h, e => by rw [Rp] at h; rw [toP] at e; cases e; rw [h]; exact .non
  | .bl b, v, p, h, e => by rw [Rp] at h; rw [toP] at e; cases e; rw [h]; exact .bl b
  | .int b, v, p, h, e => by rw [Rp] at h; rw [toP] at e; cases e; rw [h]; exact .int b
  | .str b, v, p, h, e => by rw [Rp] at h; rw [toP] at e; cases e; rw [h]; exact .str b
  | .tup ds, v, p, h, e => by
    rw [Rp] at h
    rw [toP] at e
    obtain ⟨a, vs, rfl, q, t⟩ := h
    cases z : toPs ds with
    | none => rw [z] at e; cases e
    | some ps =>
      rw [z] at e
      cases e
      exact .tup (sf.seqT q) (dps_of sf ds vs ps t z)
  | .lst ds, v, p, h, e => by
    rw [Rp] at h
    rw [toP] at e
    obtain ⟨a, vs, rfl, q, t⟩ := h
    cases z : toPs ds with
    | none => rw [z] at e; cases e
    | some ps =>
      rw [z] at e
      cases e
      exact .lst (SqL.of (sf _ _ q)) (dps_of sf ds vs ps t z)
  | .fl _, v, p, h, e => by rw [toP] at e; cases e
  | .ref _, v, p, h, e => by rw [toP] at e; cases e
theorem dps_of {F H : Hp} {m : List Addr} (sf : SubF F H) : ∀ (ds : List D) (vs : List V) (ps : List PyData), Rps g.K F m ds vs → toPs ds = some ps → DpAll g.K H vs ps
  | [], vs, ps, h, e => by rw [Rps] at h; rw [toPs] at e; cases e; rw [h]; exact .nil
  | d :: ds, vs, ps, h, e => by
    rw [Rps] at h
    rw [toPs] at e
    obtain ⟨v, vr, rfl, q, t⟩ := h
    cases z : toP d with
    | none => rw [z] at e; cases e
    | some p =>
      cases z2 : toPs ds with
      | none => rw [z, z2] at e; cases e
      | some pr =>
        rw [z, z2] at e
        cases e
        exact .cons (dp_of sf d v p q z) (dps_of sf ds vr pr t z2)
end
theorem rdp_dp {s : Sg} {F : Hp} {m : List Addr} {H : Hp} {d : D} {v : V} {p : PyData} (r : HR g.K g.TT F m s.sto H) (h : RdP g.K F m H d v) (e : toP d = some p) : Dp g.K H v p := by
  rcases h with h | ⟨ds, a, vs, rfl, rfl, q, t⟩
  · exact dp_of r.sub d v p h e
  · rw [toP] at e
    cases z : toPs ds with
    | none => rw [z] at e; cases e
    | some ps =>
      rw [z] at e
      cases e
      exact .lst (SqL.of q) (dps_of r.sub ds vs ps t z)
theorem eqD_some {p q : D} {b : Bool} (h : eqD p q = some b) : ∃ x y, toP p = some x ∧ toP q = some y ∧ SeqAt.shaped x = true ∧ SeqAt.shaped y = true ∧ b = PyData.eqv x y := by
  unfold eqD at h
  cases z : toP p with
  | none => rw [z] at h; cases h
  | some x =>
    cases z2 : toP q with
    | none => rw [z, z2] at h; cases h
    | some y =>
      rw [z, z2] at h
      simp only [Option.bind_some] at h
      split at h
      · rename_i c
        obtain ⟨c1, c2⟩ := Bool.and_eq_true_iff.mp c
        exact ⟨x, y, rfl, rfl, c1, c2, (Option.some.inj h).symm⟩
      · cases h
/-- a comparison of data -/
def GoodC (g : Gx) (r : R2) (f : D → D → Option Bool) : Prop := ∀ (s : Sg) (σ : L2.St) (F : Hp) (m : List Addr) (H : Hp) (p q : D) (x y : V) (b : Bool) (Q : VK), Rel g.K g.TT s σ F m H → RdP g.K F m H p x → RdP g.K F m H q y → f p q = some b → Q (.bl b) H → r x y H Q
theorem goodc_ii {f : Int → Int → Bool} {o : CmpOp} (ho : ∀ p q b, cmp o p q = some b → ∃ i j, p = .int i ∧ q = .int j ∧ b = f i j) : GoodC g (rI0 fun i j => .bl (f i j)) (cmp o) := by
  intro s σ F m H p q x y b Q R a c e k
  obtain ⟨i, j, rfl, rfl, rfl⟩ := ho p q b e
  rw [RdP.int a, RdP.int c]
  exact ⟨i, j, rfl, rfl, k⟩
theorem cmp_ii {o : CmpOp} {f : Int → Int → Bool} (h : ∀ i j, cmp o (.int i) (.int j) = some (f i j)) (h2 : ∀ p q, (∀ i j, ¬ (p = .int i ∧ q = .int j)) → cmp o p q = none) : ∀ p q b, cmp o p q = some b → ∃ i j, p = .int i ∧ q = .int j ∧ b = f i j := fun p q b e => by
  by_cases z : ∃ i j, p = .int i ∧ q = .int j
  · obtain ⟨i, j, rfl, rfl⟩ := z
    rw [h] at e
    exact ⟨i, j, rfl, rfl, (Option.some.inj e).symm⟩
  · rw [h2 p q (fun i j w => z ⟨i, j, w⟩)] at e
    cases e
theorem cmp_nonint {o : CmpOp} (ho : o = .LtE ∨ o = .GtE) : ∀ p q, (∀ i j, ¬ (p = .int i ∧ q = .int j)) → cmp o p q = none := fun p q h => by
  cases p with
  | int i =>
    cases q with
    | int j => exact absurd ⟨rfl, rfl⟩ (h i j)
    | _ => rcases ho with rfl | rfl <;> rfl
  | _ => rcases ho with rfl | rfl <;> rfl
def rEq2 (K : PySem.W.Frag) : R2 := rEqD K
theorem goodc_eq : GoodC g (rEqD g.K) (cmp .Eq) := by
  intro s σ F m H p q x y b Q R a c e k
  obtain ⟨u, w, h1, h2, h3, h4, rfl⟩ := eqD_some e
  exact ⟨u, w, rdp_dp R.hr a h1, rdp_dp R.hr c h2, h3, h4, k⟩
theorem goodc_ne : GoodC g (rNeD g.K) (cmp .NotEq) := by
  intro s σ F m H p q x y b Q R a c e k
  have e : (eqD p q).map (!·) = some b := e
  cases z : eqD p q with
  | none => rw [z] at e; cases e
  | some t =>
    rw [z] at e
    obtain ⟨u, w, h1, h2, h3, h4, rfl⟩ := eqD_some z
    cases e
    exact ⟨u, w, rdp_dp R.hr a h1, rdp_dp R.hr c h2, h3, h4, k⟩
theorem isNon_eq {s : Sg} {F : Hp} {m : List Addr} {H : Hp} {d : D} {v : V} (h : RdP g.K F m H d v) : isNon d = decide (v = .non) := by
  rcases h with h | ⟨ds, a, vs, rfl, rfl, _⟩
  · cases d with
    | non => rw [Rp] at h; rw [h]; rfl
    | bl b => rw [Rp] at h; rw [h]; rfl
    | int b => rw [Rp] at h; rw [h]; rfl
    | str b => rw [Rp] at h; rw [h]; rfl
    | tup ds => rw [Rp] at h; obtain ⟨a, vs, rfl, _⟩ := h; rfl
    | lst ds => rw [Rp] at h; obtain ⟨a, vs, rfl, _⟩ := h; rfl
    | fl ds => rw [Rp] at h; obtain ⟨a, rfl, _⟩ := h; rfl
    | ref k => rw [Rp] at h; obtain ⟨a, _, rfl⟩ := h; rfl
  · rfl
theorem goodc_is : GoodC g (fun x y H Q => y = .non ∧ Q (.bl (decide (x = .non))) H) (cmp .Is) := by
  intro s σ F m H p q x y b Q R a c e k
  cases q with
  | non =>
    cases e
    rw [isNon_eq (s := s) a] at k
    exact ⟨RdP.non c, k⟩
  | _ => cases e
theorem goodc_isn : GoodC g (fun x y H Q => y = .non ∧ Q (.bl (!decide (x = .non))) H) (cmp .IsNot) := by
  intro s σ F m H p q x y b Q R a c e k
  cases q with
  | non =>
    cases e
    rw [isNon_eq (s := s) a] at k
    exact ⟨RdP.non c, k⟩
  | _ => cases e
theorem inD_some {x : D} {ds : List D} {b : Bool} (h : inD x ds = some b) : ∃ a bs, toP x = some a ∧ toPs ds = some bs ∧ SeqAt.shaped a = true ∧ SeqAt.shaped (.list bs) = true ∧ b = bs.any fun z => PyData.eqv z a := by
  unfold inD at h
  cases z : toP x with
  | none => rw [z] at h; cases h
  | some a =>
    cases z2 : toPs ds with
    | none => rw [z, z2] at h; cases h
    | some bs =>
      rw [z, z2] at h
      simp only [Option.bind_some] at h
      split at h
      · rename_i c
        obtain ⟨c1, c2⟩ := Bool.and_eq_true_iff.mp c
        exact ⟨a, bs, rfl, rfl, c1, c2, (Option.some.inj h).symm⟩
      · cases h
theorem shaped_lt {bs : List PyData} (h : SeqAt.shaped (.list bs) = true) : SeqAt.shaped (.tuple bs) = true := by
  have e1 : (PyData.list bs).canLay0 = (PyData.tuple bs).canLay0 := by simp only [PyData.canLay0]
  have e2 : (PyData.list bs).depth = (PyData.tuple bs).depth := by simp only [PyData.depth]
  unfold SeqAt.shaped at h ⊢
  rw [← e1, ← e2]
  exact h
abbrev rInA (K : PySem.W.Frag) : R2 := fun x y H Q => (∃ i j, x = .str i ∧ y = .str j ∧ Q (.bl (!(Builtin.Str.occurrences j i 0 j.length 1).isEmpty)) H) ∨ (rInD K x y H Q ∨ rInT K x y H Q)
abbrev rNinA (K : PySem.W.Frag) : R2 := fun x y H Q => (∃ i j, x = .str i ∧ y = .str j ∧ Q (.bl (!(!(Builtin.Str.occurrences j i 0 j.length 1).isEmpty))) H) ∨ (rNotInD K x y H Q ∨ rNotInT K x y H Q)
theorem goodc_in : GoodC g (rInA g.K) (cmp .In) := by
  intro s σ F m H p q x y b Q R a c e k
  cases q with
  | str j =>
    cases p with
    | str i =>
      cases e
      exact .inl ⟨i, j, RdP.str a, RdP.str c, k⟩
    | _ => cases e
  | lst ds =>
    have e : inD p ds = some b := e
    obtain ⟨u, bs, h1, h2, h3, h4, rfl⟩ := inD_some e
    exact .inr (.inl ⟨u, bs, rdp_dp R.hr a h1, rdp_dp R.hr c (by rw [toP, h2]; rfl), h3, h4, k⟩)
  | tup ds =>
    have e : inD p ds = some b := e
    obtain ⟨u, bs, h1, h2, h3, h4, rfl⟩ := inD_some e
    exact .inr (.inr ⟨u, bs, rdp_dp R.hr a h1, rdp_dp R.hr c (by rw [toP, h2]; rfl), h3, shaped_lt h4, k⟩)
  | _ => cases e
theorem goodc_nin : GoodC g (rNinA g.K) (cmp .NotIn) := by
  intro s σ F m H p q x y b Q R a c e k
  cases q with
  | str j =>
    cases p with
    | str i =>
      cases e
      exact .inl ⟨i, j, RdP.str a, RdP.str c, k⟩
    | _ => cases e
  | lst ds =>
    have e : (inD p ds).map (!·) = some b := e
    obtain ⟨b', e', rfl⟩ := Option.map_eq_some_iff.mp e
    obtain ⟨u, bs, h1, h2, h3, h4, rfl⟩ := inD_some e'
    exact .inr (.inl ⟨u, bs, rdp_dp R.hr a h1, rdp_dp R.hr c (by rw [toP, h2]; rfl), h3, h4, k⟩)
  | tup ds =>
    have e : (inD p ds).map (!·) = some b := e
    obtain ⟨b', e', rfl⟩ := Option.map_eq_some_iff.mp e
    obtain ⟨u, bs, h1, h2, h3, h4, rfl⟩ := inD_some e'
    exact .inr (.inr ⟨u, bs, rdp_dp R.hr a h1, rdp_dp R.hr c (by rw [toP, h2]; rfl), h3, shaped_lt h4, k⟩)
  | _ => cases e
theorem ints_vals0 {F : Hp} {m : List Addr} : ∀ {ds : List D} {vs : List V} {bs : List Int}, Rps g.K F m ds vs → intsOf ds = some bs → vs = bs.map V.int
  | [], vs, bs, r, e => by cases e; rw [Rps] at r; rw [r]; rfl
  | .int b :: ds, vs, bs, r, e => by
    rw [Rps] at r
    obtain ⟨v, vr, rfl, h1, h2⟩ := r
    rw [Rp] at h1
    have e : (intsOf ds).map (b :: ·) = some bs := e
    obtain ⟨br, q, rfl⟩ := Option.map_eq_some_iff.mp e
    rw [h1, ints_vals0 h2 q]
    rfl
  | .non :: _, _, _, _, e => by cases e
  | .bl _ :: _, _, _, _, e => by cases e
  | .str _ :: _, _, _, _, e => by cases e
  | .tup _ :: _, _, _, _, e => by cases e
  | .lst _ :: _, _, _, _, e => by cases e
  | .fl _ :: _, _, _, _, e => by cases e
  | .ref _ :: _, _, _, _, e => by cases e
theorem goodc_lt : GoodC g (fun x y H Q => rI0 (fun i j => .bl (decide (i < j))) x y H Q ∨ rLtT g.K x y H Q) (cmp .Lt) := by
  intro s σ F m H p q x y b Q R a c e k
  cases p with
  | int i =>
    cases q with
    | int j =>
      cases e
      exact .inl ⟨i, j, RdP.int a, RdP.int c, k⟩
    | _ => cases e
  | tup ds =>
    cases q with
    | tup es =>
      have e : ((intsOf ds).bind fun ns => (intsOf es).map fun ms => HT.lexLt ns ms) = some b := e
      obtain ⟨ns, e1, e2⟩ := Option.bind_eq_some_iff.mp e
      obtain ⟨ms, e3, rfl⟩ := Option.map_eq_some_iff.mp e2
      obtain ⟨a1, vs, rfl, h1, h2⟩ := RdP.tup R.hr a
      obtain ⟨b1, ws, rfl, h3, h4⟩ := RdP.tup R.hr c
      rw [ints_vals0 h2 e1] at h1
      rw [ints_vals0 h4 e3] at h3
      exact .inr ⟨a1, b1, ns, ms, rfl, rfl, h1, h3, k⟩
    | _ => cases e
  | _ => cases q <;> cases e
theorem goodc_gt : GoodC g (fun x y H Q => rI0 (fun i j => .bl (decide (j < i))) x y H Q ∨ rGtT g.K x y H Q) (cmp .Gt) := by
  intro s σ F m H p q x y b Q R a c e k
  cases p with
  | int i =>
    cases q with
    | int j =>
      cases e
      exact .inl ⟨i, j, RdP.int a, RdP.int c, k⟩
    | _ => cases e
  | tup ds =>
    cases q with
    | tup es =>
      have e : ((intsOf ds).bind fun ns => (intsOf es).map fun ms => HT.lexLt ms ns) = some b := e
      obtain ⟨ns, e1, e2⟩ := Option.bind_eq_some_iff.mp e
      obtain ⟨ms, e3, rfl⟩ := Option.map_eq_some_iff.mp e2
      obtain ⟨a1, vs, rfl, h1, h2⟩ := RdP.tup R.hr a
      obtain ⟨b1, ws, rfl, h3, h4⟩ := RdP.tup R.hr c
      rw [ints_vals0 h2 e1] at h1
      rw [ints_vals0 h4 e3] at h3
      exact .inr ⟨a1, b1, ns, ms, rfl, rfl, h1, h3, k⟩
    | _ => cases e
  | _ => cases q <;> cases e
/-- each comparison's rule -/
theorem cmp_rule (hK : X.K = g.K) (hu0 : X.A.units + 65 < cLine) (o : CmpOp) : ∃ r : R2, OpR X (compareOp o) r ∧ GoodC g r (cmp o) := by
  have hu : X.A.units + 64 < cLine := by omega
  cases o with
  | Eq => exact ⟨_, op_eqD hu, by rw [hK]; exact goodc_eq⟩
  | NotEq => exact ⟨_, op_neD hu, by rw [hK]; exact goodc_ne⟩
  | Lt => exact ⟨_, OpR.or op_lt (op_ltT (by omega)), by rw [hK]; exact goodc_lt⟩
  | LtE => exact ⟨_, op_le, goodc_ii (f := fun i j => decide (i ≤ j)) (cmp_ii (fun _ _ => rfl) (cmp_nonint (by simp)))⟩
  | Gt => exact ⟨_, OpR.or op_gt (op_gtT (by omega)), by rw [hK]; exact goodc_gt⟩
  | GtE => exact ⟨_, op_ge, goodc_ii (f := fun i j => decide (j ≤ i)) (cmp_ii (fun _ _ => rfl) (cmp_nonint (by simp)))⟩
  | Is => exact ⟨_, op_isN, goodc_is⟩
  | IsNot => exact ⟨_, op_notN, goodc_isn⟩
  | In => exact ⟨_, OpR.or op_in_str (OpR.or (op_inD hu0) (op_inT hu0)), by rw [hK]; exact goodc_in⟩
  | NotIn => exact ⟨_, OpR.or op_notin_str (OpR.or (op_notInD hu0) (op_notInT hu0)), by rw [hK]; exact goodc_nin⟩
theorem GoodC.good {r : R2} {f : D → D → Option Bool} (h : GoodC g r f) : GoodR g r (fun _ p q => (f p q).map fun t => .d (.bl t)) := by
  intro s σ F m H p q x y hd Q R a c e k
  have e : (f p q).map (fun t => Hd.d (.bl t)) = some hd := e
  cases z : f p q with
  | none => rw [z] at e; cases e
  | some b =>
    rw [z] at e
    cases e
    exact h s σ F m H p q x y b Q R a c z (k _ F m H (Nx.refl R) (by show Rp _ _ _ _ _; rw [Rp]) New.d)
theorem sd_Cmp {a b : Expr} {o : CmpOp} {a' b' : E} {pos : Pos} (hK : X.K = g.K) (hu : X.A.units + 65 < cLine) (hm : behindInMarks o b = false) (ha : PE X a (tE g n W a')) (hb : PE X b (tE g n W b')) : PE X (.Compare a [o] [b] pos) (tE g n W (.cmp o a' b')) := by
  obtain ⟨r, ho, hg⟩ := cmp_rule hK hu o
  exact sd_bin ha hb (fun h1 h2 => pe_cmpR ho h1 h2 hm) (fun s => by rw [evE]) hg.good
/-- a test: from the value's reading -/
theorem tT_of {e : E} {Q : Bool → Hp → Prop} {σ : L2.St} {H : Hp} (h : tT g n W (.e e) σ H Q) : tE g n W e σ H fun x H1 => (∃ k, x = .bl k ∧ Q k H1) ∨ ∃ k, TruV g.K x H1 k ∧ Q k H1 := by
  obtain ⟨s, F, m, r, h⟩ := h
  rw [evT] at h
  refine RdE.step (Nx.refl r) h fun hd s1 v F1 m1 H1 hp nx _ rp => ?_
  obtain ⟨t, e1, k⟩ := hp.opt
  cases z : s1.rd hd with
  | none => rw [z] at e1; cases e1
  | some d =>
    rw [z] at e1
    have rd := nx.rel.rd rp.1 z
    have e1 : truth d = some t := e1
    have kk := k t F1 m1 H1 nx rfl
    cases d with
    | non => cases e1; rw [RdP.non rd]; exact .inr ⟨_, rfl, kk⟩
    | bl b => cases e1; rw [RdP.bl rd]; exact .inl ⟨_, rfl, kk⟩
    | int b => cases e1; rw [RdP.int rd]; exact .inr ⟨_, rfl, kk⟩
    | str b => cases e1
    | tup ds =>
      cases e1
      obtain ⟨a, vs, rfl, h1, h2⟩ := RdP.tup nx.rel.hr rd
      refine .inr ⟨_, .inr (.inl ⟨vs, h1, rfl⟩), ?_⟩
      have : vs.isEmpty = ds.isEmpty := by
        cases ds with
        | nil => rw [Rps] at h2; rw [h2]; rfl
        | cons d dr => rw [Rps] at h2; obtain ⟨v, vr, rfl, _⟩ := h2; rfl
      rw [this]
      exact kk
    | lst ds =>
      cases e1
      obtain ⟨a, vs, rfl, h1, h2⟩ := RdP.lst nx.rel.hr rd
      refine .inr ⟨_, .inl ⟨vs, SqL.of h1, rfl⟩, ?_⟩
      have : vs.isEmpty = ds.isEmpty := by
        cases ds with
        | nil => rw [Rps] at h2; rw [h2]; rfl
        | cons d dr => rw [Rps] at h2; obtain ⟨v, vr, rfl, _⟩ := h2; rfl
      rw [this]
      exact kk
    | fl _ => cases e1
    | ref _ => cases e1
theorem truV_bl {K : PySem.W.Frag} {b k : Bool} {H : Hp} (h : TruV K (.bl b) H k) : k = b := h
theorem tE_mono {e : E} {Q Q' : VK} {σ : L2.St} {H : Hp} (h : tE g n W e σ H Q) (k : ∀ v H, Q v H → Q' v H) : tE g n W e σ H Q' := by
  obtain ⟨s, F, m, r, h⟩ := h
  exact ⟨s, F, m, r, h.mono (fun a s' _ hp v F' m' H' nx rp => k _ _ (hp v F' m' H' nx rp)) fun _ _ _ hx => hx⟩
theorem sd_truth {a : Expr} {a' : E} (hK : X.K = g.K) (ha : PE X a (tE g n W a')) (he : ∀ whole, isTrue a X.env whole = (do let v ← whole; standAt a.pos; holding [v] (truthy v))) : PT X a (tT g n W (.e a')) := by
  refine (pt_truth ha he).imp fun σ H Q h => ?_
  refine tE_mono (tT_of h) fun v H1 q => ?_
  rcases q with ⟨k, rfl, q⟩ | ⟨k, h1, q⟩
  · exact ⟨k, rfl, q⟩
  · exact ⟨k, by rw [hK]; exact h1, q⟩
theorem sd_CmpT {a b : Expr} {o : CmpOp} {a' b' : E} {pos : Pos} (hK : X.K = g.K) (hu : X.A.units + 65 < cLine) (hm : behindInMarks o b = false) (ha : PE X a (tE g n W a')) (hb : PE X b (tE g n W b')) : PT X (.Compare a [o] [b] pos) (tT g n W (.e (.cmp o a' b'))) := by
  obtain ⟨r, ho, hg⟩ := cmp_rule hK hu o
  refine (pt_cmpR ho ha hb hm).imp fun σ H Q h => ?_
  have h2 := tT_of h
  obtain ⟨s, F, m, r0, h⟩ := h2
  rw [evE] at h
  refine RdE.step (Nx.refl r0) h fun hx s1 x F1 m1 H1 h1 n1 t1 r1 => ?_
  refine RdE.step t1 h1 fun hy s2 y F2 m2 H2 h2 n2 t2 r2 => ?_
  obtain ⟨hd, e1, h3⟩ := h2.opt
  cases q1 : s2.rd hx with
  | none => rw [q1] at e1; cases e1
  | some p =>
    cases q2 : s2.rd hy with
    | none => rw [q1, q2] at e1; cases e1
    | some q =>
      rw [q1, q2] at e1
      have e1 : (cmp o p q).map (fun t => Hd.d (.bl t)) = some hd := e1
      cases z : cmp o p q with
      | none => rw [z] at e1; cases e1
      | some b =>
        rw [z] at e1
        cases e1
        refine hg s2 σ F2 m2 H2 p q x y b _ t2.rel (t2.rel.rd (r1.1.next n2) q1) (t2.rel.rd r2.1 q2) z ?_
        rcases h3 (.bl b) F2 m2 H2 t2 ⟨by show Rp _ _ _ _ _; rw [Rp], New.d⟩ with ⟨k, e, qk⟩ | ⟨k, e, qk⟩
        · exact ⟨k, e, qk⟩
        · exact ⟨b, rfl, by rw [← truV_bl e]; exact qk⟩
end
end Rf

set_option Elab.async false
set_option linter.all false
set_option maxRecDepth 100000
/-! R6: chains, and, or, not, displays, subscripts, slices, calls of defs and of built-ins. -/
namespace Rf
open PySem L2
section
variable {g : Gx} {n : Nat} {W : WX} {X : Cx}

/-! ### logic -/
theorem rp_bl {F : Hp} {m : List Addr} {b : Bool} : Rp g.K F m (.bl b) (.bl b) := by rw [Rp]
theorem rp_int {F : Hp} {m : List Addr} {b : Int} : Rp g.K F m (.int b) (.int b) := by rw [Rp]
theorem rp_str {F : Hp} {m : List Addr} {b : Str} : Rp g.K F m (.str b) (.str b) := by rw [Rp]
theorem rp_non {F : Hp} {m : List Addr} : Rp g.K F m .non .non := by rw [Rp]
theorem repH.d {s : Sg} {σ : L2.St} {F : Hp} {m : List Addr} {H H0 : Hp} {x : D} {v : V} (h : Rp g.K F m x v) : repH g (.d x) s σ F m H H0 v := ⟨h, New.d⟩
theorem repH.un {s : Sg} {σ : L2.St} {F : Hp} {m : List Addr} {H H0 : Hp} {x : D} {v : V} (h : repH g (.d x) s σ F m H H0 v) : Rp g.K F m x v := h.1
theorem hdr_d {env : List Slot} {σ : L2.St} {F : Hp} {m : List Addr} {H : Hp} {x : D} {v : V} (h : Rp g.K F m x v) : HdR g.K env σ F m H (.d x) v := h
theorem sd_Chain {a b c : Expr} {o o' : CmpOp} {a' b' c' : E} {pos : Pos} (hK : X.K = g.K) (hu : X.A.units + 65 < cLine) (hm : lastMarks [o, o'] [b, c] = false) (ha : PE X a (tE g n W a')) (hb : PE X b (tE g n W b')) (hc : PE X c (tE g n W c')) :
    PE X (.Compare a [o, o'] [b, c] pos) (tE g n W (.chain o o' a' b' c')) ∧ PT X (.Compare a [o, o'] [b, c] pos) (tT g n W (.e (.chain o o' a' b' c'))) := by
  obtain ⟨r, ho, hg⟩ := cmp_rule hK hu o
  obtain ⟨r', ho', hg'⟩ := cmp_rule hK hu o'
  have main : ∀ σ H Q, tE g n W (.chain o o' a' b' c') σ H Q → tChain r r' (tE g n W a') (tE g n W b') (tE g n W c') σ H Q := by
    rintro σ H Q ⟨s, F, m, r0, h⟩
    rw [evE] at h
    refine RdE.step (Nx.refl r0) h fun hx s1 x F1 m1 H1 h1 n1 t1 r1 => ?_
    refine RdE.step t1 h1 fun hy s2 y F2 m2 H2 h2 n2 t2 r2 => ?_
    cases q1 : s2.rd hx with
    | none => rw [q1] at h2; exact h2.elim
    | some p =>
      cases q2 : s2.rd hy with
      | none => rw [q1, q2] at h2; exact h2.elim
      | some q =>
        cases z : cmp o p q with
        | none =>
          rw [q1, q2] at h2
          simp only [Option.bind_some, z] at h2
          exact h2.elim
        | some b =>
          refine hg s2 σ F2 m2 H2 p q x y b _ t2.rel (t2.rel.rd (r1.1.next n2) q1) (t2.rel.rd r2.1 q2) z ?_
          rw [q1, q2] at h2
          simp only [Option.bind_some, z] at h2
          refine ⟨b, rfl, ?_⟩
          cases b with
          | false =>
            rw [if_neg (by decide)]
            exact h2 (.bl false) F2 m2 H2 t2 (.d rp_bl)
          | true =>
            rw [if_pos rfl]
            refine RdE.step t2 h2 fun hz s3 w F3 m3 H3 h3 n3 t3 r3 => ?_
            obtain ⟨hd, e1, k⟩ := h3.opt
            cases q3 : s3.rd hy with
            | none => rw [q3] at e1; cases e1
            | some q' =>
              cases q4 : s3.rd hz with
              | none => rw [q3, q4] at e1; cases e1
              | some rr =>
                rw [q3, q4] at e1
                have e1 : (cmp o' q' rr).map (fun t => Hd.d (.bl t)) = some hd := e1
                cases z2 : cmp o' q' rr with
                | none => rw [z2] at e1; cases e1
                | some b2 =>
                  rw [z2] at e1
                  cases e1
                  exact hg' s3 σ F3 m3 H3 q' rr y w b2 Q t3.rel (t3.rel.rd (r2.1.next n3) q3) (t3.rel.rd r3.1 q4) z2 (k (.bl b2) F3 m3 H3 t3 (.d rp_bl))
  refine ⟨(pe_chain ho ho' ha hb hc hm).imp main, (pt_chain ho ho' ha hb hc hm).imp fun σ H Q h => ?_⟩
  show tChain r r' (tE g n W a') (tE g n W b') (tE g n W c') σ H fun x H' => ∃ k, x = .bl k ∧ Q k H'
  refine main σ H _ ?_
  have h2 := tT_of h
  obtain ⟨s, F, m, r0, h3⟩ := h2
  refine ⟨s, F, m, r0, ?_⟩
  rw [evE] at h3 ⊢
  refine h3.mono (fun hd s' e hp v F' m' H' nx rp => ?_) fun _ _ _ hx => hx
  -- the handle is a bool
  have isb : ∃ b, hd = .d (.bl b) := by
    revert e
    cases evE (g.cl n) a' s with
    | none => intro e; cases e
    | some p1 =>
      obtain ⟨o1, s1⟩ := p1
      cases o1 with
      | exc x => intro e; cases e
      | ok hx =>
        simp only [bnd_ok]
        cases evE (g.cl n) b' s1 with
        | none => intro e; cases e
        | some p2 =>
          obtain ⟨o2, s2⟩ := p2
          cases o2 with
          | exc x => intro e; cases e
          | ok hy =>
            simp only [bnd_ok]
            cases (s2.rd hx).bind fun p => (s2.rd hy).bind fun q => cmp o p q with
            | none => intro e; cases e
            | some t =>
              cases t with
              | false => intro e; cases e; exact ⟨false, rfl⟩
              | true =>
                simp only
                cases evE (g.cl n) c' s2 with
                | none => intro e; cases e
                | some p3 =>
                  obtain ⟨o3, s3⟩ := p3
                  cases o3 with
                  | exc x => intro e; cases e
                  | ok hz =>
                    simp only [bnd_ok]
                    cases q3 : s3.rd hy with
                    | none => intro e; cases e
                    | some y3 =>
                      cases q4 : s3.rd hz with
                      | none => intro e; cases e
                      | some z3 =>
                        simp only [Option.bind_some]
                        cases cmp o' y3 z3 with
                        | none => intro e; cases e
                        | some t => intro e; cases e; exact ⟨t, rfl⟩
  obtain ⟨b, rfl⟩ := isb
  have ev : v = .bl b := by
    have := rp.1
    have this : Rp g.K F' m' (.bl b) v := this
    rw [Rp] at this
    exact this
  rcases hp v F' m' H' nx rp with ⟨k, e, q⟩ | ⟨k, e, q⟩
  · exact ⟨k, e, q⟩
  · subst ev
    exact ⟨b, rfl, by rw [← truV_bl e]; exact q⟩
theorem rp_blv {F : Hp} {m : List Addr} {b : Bool} {v : V} (h : Rp g.K F m (.bl b) v) : v = .bl b := by rw [Rp] at h; exact h
theorem sd_And {a b : Expr} {r : List Expr} {a' b' : E} {pos : Pos} (ha : PE X a (tE g n W a')) (hb : PE X (.BoolOp .And (b :: r) pos) (tE g n W b')) : PE X (.BoolOp .And (a :: b :: r) pos) (tE g n W (.and a' b')) := by
  refine (pe_and ha hb).imp fun σ H Q ⟨s, F, m, r0, h⟩ => ?_
  rw [evE] at h
  refine RdE.step (Nx.refl r0) h fun hx s1 x F1 m1 H1 h1 n1 t1 r1 => ?_
  cases hx with
  | sl i => exact h1.elim
  | own ds => exact h1.elim
  | d d =>
    cases d with
    | bl c =>
      refine ⟨c, rp_blv r1.un, ?_⟩
      cases c with
      | false =>
        rw [if_neg (by decide)]
        exact h1 (.bl false) F1 m1 H1 t1 (.d rp_bl)
      | true =>
        rw [if_pos rfl]
        exact ⟨s1, F1, m1, t1.rel, Res.mono (r := evE (g.cl n) b' s1) h1 (fun hd s' _ hp v F' m' H' nx rp => hp v F' m' H' (t1.trans nx) ⟨rp.1, rp.2.back t1⟩) fun _ _ _ hx => hx.next t1⟩
    | _ => exact h1.elim
theorem sd_Or {a b : Expr} {r : List Expr} {a' b' : E} {pos : Pos} (ha : PE X a (tE g n W a')) (hb : PE X (.BoolOp .Or (b :: r) pos) (tE g n W b')) : PE X (.BoolOp .Or (a :: b :: r) pos) (tE g n W (.or a' b')) := by
  refine (pe_or ha hb).imp fun σ H Q ⟨s, F, m, r0, h⟩ => ?_
  rw [evE] at h
  refine RdE.step (Nx.refl r0) h fun hx s1 x F1 m1 H1 h1 n1 t1 r1 => ?_
  cases hx with
  | sl i => exact h1.elim
  | own ds => exact h1.elim
  | d d =>
    cases d with
    | bl c =>
      refine ⟨c, rp_blv r1.un, ?_⟩
      cases c with
      | true =>
        rw [if_pos rfl]
        exact h1 (.bl true) F1 m1 H1 t1 (.d rp_bl)
      | false =>
        rw [if_neg (by decide)]
        exact ⟨s1, F1, m1, t1.rel, Res.mono (r := evE (g.cl n) b' s1) h1 (fun hd s' _ hp v F' m' H' nx rp => hp v F' m' H' (t1.trans nx) ⟨rp.1, rp.2.back t1⟩) fun _ _ _ hx => hx.next t1⟩
    | _ => exact h1.elim
theorem sd_Not {a : Expr} {a' : E} {pos : Pos} (ha : PE X a (tE g n W a')) : PE X (.UnaryOp .Not a pos) (tE g n W (.not a')) := by
  refine (pe_not ha).imp fun σ H Q ⟨s, F, m, r0, h⟩ => ?_
  rw [evE] at h
  refine RdE.step (Nx.refl r0) h fun hx s1 x F1 m1 H1 h1 n1 t1 r1 => ?_
  cases hx with
  | sl i => exact h1.elim
  | own ds => exact h1.elim
  | d d =>
    cases d with
    | bl c => exact ⟨c, rp_blv r1.un, h1 (.bl (!c)) F1 m1 H1 t1 (.d rp_bl)⟩
    | _ => exact h1.elim
theorem sd_Un {a : Expr} {a' : E} {o : UnaryOp} {pos : Pos} (ho : o = .USub ∨ o = .Invert) (ha : PE X a (tE g n W a')) : PE X (.UnaryOp o a pos) (tE g n W (.un o a')) := by
  have go : ∀ (f : Int → Int), UnR X (unaryOp o) (rU fun i => .int (f i)) → (∀ d r, Rf.un o d = some r → ∃ i, d = .int i ∧ r = .int (f i)) → PE X (.UnaryOp o a pos) (tE g n W (.un o a')) := fun f hr hf => by
    refine (pe_un hr ha).imp fun σ H Q ⟨s, F, m, r0, h⟩ => ?_
    rw [evE] at h
    refine RdE.step (Nx.refl r0) h fun hx s1 x F1 m1 H1 h1 n1 t1 r1 => ?_
    obtain ⟨hd, e1, k⟩ := h1.opt
    cases q : s1.rd hx with
    | none => rw [q] at e1; cases e1
    | some d =>
      rw [q] at e1
      have e1 : (Rf.un o d).map Hd.d = some hd := e1
      cases z : Rf.un o d with
      | none => rw [z] at e1; cases e1
      | some rr =>
        rw [z] at e1
        cases e1
        obtain ⟨i, rfl, rfl⟩ := hf d rr z
        rw [RdP.int (t1.rel.rd r1.1 q)]
        exact ⟨i, rfl, k _ F1 m1 H1 t1 (.d rp_int)⟩
  rcases ho with rfl | rfl
  · exact go (fun i => -i) un_neg fun d r e => by
      cases d with
      | int i => cases e; exact ⟨i, rfl, rfl⟩
      | _ => cases e
  · exact go (fun i => Builtin.bitNot i) un_inv fun d r e => by
      cases d with
      | int i => cases e; exact ⟨i, rfl, rfl⟩
      | _ => cases e
theorem sd_One {o : BoolOp} {a : Expr} {a' : E} {pos : Pos} (ha : PE X a (tE g n W a')) : PE X (.BoolOp o [a] pos) (tE g n W a') := pe_one ha
theorem Res.mono2 {α : Type} {r : Rs α} {s : Sg} {σ : L2.St} {F : Hp} {m : List Addr} {H : Hp} {s0 : Sg} {F0 : Hp} {m0 : List Addr} {H0 : Hp} {P P' : α → Sg → Prop} (t : NX g s0 σ F0 m0 H0 s F m H) (h : Res r P (PX g W s0 σ F0 m0 H0))
    (k : ∀ a s', P a s' → P' a s') : Res r P' (PX g W s σ F m H) := h.mono (fun a s' _ hp => k a s' hp) fun _ _ _ hx => hx.next t
theorem sd_Ife {c a b : Expr} {c' : T} {a' b' : E} {pos : Pos} (hc : PT X c (tT g n W c')) (ha : PE X a (tE g n W a')) (hb : PE X b (tE g n W b')) : PE X (.IfExp c a b pos) (tE g n W (.ife c' a' b')) := by
  refine (pe_ifExp hc ha hb).imp fun σ H Q ⟨s, F, m, r0, h⟩ => ?_
  rw [evE] at h
  refine RdE.step (Nx.refl r0) h fun t s1 x F1 m1 H1 h1 n1 t1 r1 => ?_
  have r1 : x = t := r1
  subst r1
  cases x with
  | true =>
    rw [if_pos rfl] at h1 ⊢
    exact ⟨s1, F1, m1, t1.rel, h1.mono2 t1 fun hd s' hp v F' m' H' nx rp => hp v F' m' H' (t1.trans nx) ⟨rp.1, rp.2.back t1⟩⟩
  | false =>
    rw [if_neg (by decide)] at h1 ⊢
    exact ⟨s1, F1, m1, t1.rel, h1.mono2 t1 fun hd s' hp v F' m' H' nx rp => hp v F' m' H' (t1.trans nx) ⟨rp.1, rp.2.back t1⟩⟩
/-! ### tests -/
theorem sd_TAnd {a b : Expr} {r : List Expr} {a' b' : T} {pos : Pos} (ha : PT X a (tT g n W a')) (hb : PW X (.BoolOp .And (b :: r) pos) (tT g n W b')) : PW X (.BoolOp .And (a :: b :: r) pos) (tT g n W (.and a' b')) := by
  refine (pw_and ha hb).imp fun σ H Q ⟨s, F, m, r0, h⟩ => ?_
  rw [evT] at h
  refine RdE.step (Nx.refl r0) h fun t s1 x F1 m1 H1 h1 n1 t1 r1 => ?_
  have r1 : x = t := r1
  subst r1
  cases x with
  | true =>
    rw [if_pos rfl] at h1 ⊢
    exact ⟨s1, F1, m1, t1.rel, h1.mono2 t1 fun hd s' hp v F' m' H' nx rp => hp v F' m' H' (t1.trans nx) rp⟩
  | false =>
    rw [if_neg (by decide)] at h1 ⊢
    exact h1 false F1 m1 H1 t1 rfl
theorem sd_TOr {a b : Expr} {r : List Expr} {a' b' : T} {pos : Pos} (ha : PT X a (tT g n W a')) (hb : PW X (.BoolOp .Or (b :: r) pos) (tT g n W b')) : PW X (.BoolOp .Or (a :: b :: r) pos) (tT g n W (.or a' b')) := by
  refine (pw_or ha hb).imp fun σ H Q ⟨s, F, m, r0, h⟩ => ?_
  rw [evT] at h
  refine RdE.step (Nx.refl r0) h fun t s1 x F1 m1 H1 h1 n1 t1 r1 => ?_
  have r1 : x = t := r1
  subst r1
  cases x with
  | false =>
    rw [if_neg (by decide)] at h1 ⊢
    exact ⟨s1, F1, m1, t1.rel, h1.mono2 t1 fun hd s' hp v F' m' H' nx rp => hp v F' m' H' (t1.trans nx) rp⟩
  | true =>
    rw [if_pos rfl] at h1 ⊢
    exact h1 true F1 m1 H1 t1 rfl
theorem sd_TNot {a : Expr} {a' : T} {pos : Pos} (ha : PT X a (tT g n W a')) : PT X (.UnaryOp .Not a pos) (tT g n W (.not a')) := by
  refine (pt_not ha).imp fun σ H Q ⟨s, F, m, r0, h⟩ => ?_
  rw [evT] at h
  refine RdE.step (Nx.refl r0) h fun t s1 x F1 m1 H1 h1 n1 t1 r1 => ?_
  have r1 : x = t := r1
  subst r1
  exact h1 (!x) F1 m1 H1 t1 rfl
/-! ### several -/
theorem sd_pnil : PA X [] (tEs g n W []) := by
  refine pa_nil.imp fun σ H Q ⟨s, F, m, r0, h⟩ => ?_
  rw [evEs] at h
  exact h.ok [] F m H (Nx.refl r0) Rps.nil
theorem sd_pcons {e : Expr} {es : List Expr} {e' : E} {es' : List E} (ha : PE X e (tE g n W e')) (hr : PA X es (tEs g n W es')) (hs : starEach (e :: es) X.env = (false, eval e X.env) :: starEach es X.env) : PA X (e :: es) (tEs g n W (e' :: es')) := by
  refine (pa_cons (pe_D ha) hr hs).imp fun σ H Q ⟨s, F, m, r0, h⟩ => ?_
  rw [evEs] at h
  refine RdE.step (Nx.refl r0) h fun d s1 x F1 m1 H1 h1 n1 t1 r1 => ?_
  refine RdE.step t1 h1 fun ds s2 xs F2 m2 H2 h2 n2 t2 r2 => ?_
  exact h2.ok (x :: xs) F2 m2 H2 t2 (Rps.cons (Rp.mono n2.fr.ff n2.fr.mm _ _ r1) r2)
theorem HdRs.next {s s' : Sg} {σ : L2.St} {F F' : Hp} {m m' : List Addr} {H H' H0 : Hp} {hs : List Hd} {vs : List V} (r : HdRs g.K s.env σ F m H H0 hs vs) (nx : NX g s σ F m H s' F' m' H') : HdRs g.K s'.env σ F' m' H' H0 hs vs := by
  induction r with
  | nil => exact .nil
  | cons a b _ ih => exact .cons (a.next nx) b ih
theorem HdRs.back {s1 : Sg} {env : List Slot} {σ : L2.St} {F F1 F2 : Hp} {m m1 m2 : List Addr} {H H1 H2 : Hp} {s : Sg} {hs : List Hd} {vs : List V} (r : HdRs g.K env σ F2 m2 H2 H1 hs vs) (nx : NX g s σ F m H s1 F1 m1 H1) : HdRs g.K env σ F2 m2 H2 H hs vs := by
  induction r with
  | nil => exact .nil
  | cons a b _ ih => exact .cons a (b.back nx) ih
theorem sd_hnil : PA X [] (tHs g n W []) := by
  refine pa_nil.imp fun σ H Q ⟨s, F, m, r0, h⟩ => ?_
  rw [evHs] at h
  exact h.ok [] F m H (Nx.refl r0) .nil
theorem sd_hcons {e : Expr} {es : List Expr} {e' : E} {es' : List E} (ha : PE X e (tE g n W e')) (hr : PA X es (tHs g n W es')) (hs : starEach (e :: es) X.env = (false, eval e X.env) :: starEach es X.env) : PA X (e :: es) (tHs g n W (e' :: es')) := by
  refine (pa_cons ha hr hs).imp fun σ H Q ⟨s, F, m, r0, h⟩ => ?_
  rw [evHs] at h
  refine RdE.step (Nx.refl r0) h fun d s1 x F1 m1 H1 h1 n1 t1 r1 => ?_
  refine RdE.step t1 h1 fun ds s2 xs F2 m2 H2 h2 n2 t2 r2 => ?_
  exact h2.ok (x :: xs) F2 m2 H2 t2 (.cons (r1.1.next n2) r1.2 (HdRs.back r2 t1))
theorem PK.imp {kws : List Keyword} {t t' : TA} (h : PK X kws t') (i : ∀ σ H Q, t σ H Q → t' σ H Q) : PK X kws t := ⟨fun pos pins s σ H Q I q => h.run pos pins s σ H Q I (i σ H Q q)⟩
theorem sd_knil : PK X [] (tEs g n W []) := by
  refine PK.imp pk_nil fun σ H Q ⟨s, F, m, r0, h⟩ => ?_
  rw [evEs] at h
  exact h.ok [] F m H (Nx.refl r0) Rps.nil
theorem sd_kcons {e : Expr} {es : List Keyword} {e' : E} {es' : List E} {nm : Option Str} {kpos : Pos} (ha : PE X e (tE g n W e')) (hr : PK X es (tEs g n W es')) : PK X (⟨nm, e, kpos⟩ :: es) (tEs g n W (e' :: es')) := by
  refine PK.imp (pk_cons (pe_D ha) hr) fun σ H Q ⟨s, F, m, r0, h⟩ => ?_
  rw [evEs] at h
  refine RdE.step (Nx.refl r0) h fun d s1 x F1 m1 H1 h1 n1 t1 r1 => ?_
  refine RdE.step t1 h1 fun ds s2 xs F2 m2 H2 h2 n2 t2 r2 => ?_
  exact h2.ok (x :: xs) F2 m2 H2 t2 (Rps.cons (Rp.mono n2.fr.ff n2.fr.mm _ _ r1) r2)
theorem sd_Tup {es : List Expr} {es' : List E} {k : Nat} {pos : Pos} (ha : PA X es (tEs g n W es')) : PE X (.Tuple es k pos) (tE g n W (.tup es')) := by
  refine (pe_tup ha).imp fun σ H Q ⟨s, F, m, r0, h⟩ => ?_
  rw [evE] at h
  refine RdE.step (Nx.refl r0) h fun ds s1 xs F1 m1 H1 h1 n1 t1 r1 => ?_
  have r1 : Rps g.K F1 m1 ds xs := r1
  split at h1
  · rename_i z
    refine ⟨by rw [← r1.len]; exact z, fun p hp => ?_⟩
    obtain ⟨n2, r2⟩ := t1.rel.newTup hp r1
    exact h1 (.ref p) _ _ _ (t1.trans n2) (.d r2)
  · exact h1.elim
theorem sd_Lst {es : List Expr} {es' : List E} {pos : Pos} (ha : PA X es (tEs g n W es')) : PE X (.List es pos) (tE g n W (.lst es')) := by
  refine (pe_lst ha).imp fun σ H Q ⟨s, F, m, r0, h⟩ => ?_
  rw [evE] at h
  refine RdE.step (Nx.refl r0) h fun ds s1 xs F1 m1 H1 h1 n1 t1 r1 => ?_
  have r1 : Rps g.K F1 m1 ds xs := r1
  split at h1
  · rename_i z
    refine ⟨by rw [← r1.len]; exact z, fun p hp => ?_⟩
    obtain ⟨n2, r2⟩ := t1.rel.newOwn hp r1
    exact h1 (.ref p) _ _ _ (t1.trans n2) ⟨r2, New.back t1 (fun _ _ c ec => by cases ec; exact Nt.no hp)⟩
  · exact h1.elim
/-! ### subscripts, slices -/
theorem ixN_eq (k : Nat) (i : Int) : ixN k i = ixNat k i := rfl
theorem idx_seq {ds : List D} {vs : List V} {F : Hp} {m : List Addr} {i : Int} {d : D} (r : Rps g.K F m ds vs) (e : ((ixNat ds.length i).bind fun j => ds[j]?) = some d) : ∃ v, atI vs i = some v ∧ Rp g.K F m d v := by
  cases z : ixNat ds.length i with
  | none => rw [z] at e; cases e
  | some j =>
    rw [z] at e
    obtain ⟨v, h1, h2⟩ := r.get (i := j) e
    refine ⟨v, ?_, h2⟩
    unfold atI
    rw [← r.len, ixN_eq, z]
    exact h1
theorem good_idx : GoodR g (rIx g.K) (fun sto p q => (idx sto p q).map Hd.d) := by
  intro s σ F m H p q x y hd Q R a b e k
  have e : (idx s.sto p q).map Hd.d = some hd := e
  cases z : idx s.sto p q with
  | none => rw [z] at e; cases e
  | some r =>
    rw [z] at e
    cases e
    cases q with
    | int i =>
      rw [RdP.int b]
      cases p with
      | tup ds =>
        obtain ⟨c, vs, rfl, h1, h2⟩ := RdP.tup R.hr a
        obtain ⟨v, h3, h4⟩ := idx_seq h2 z
        exact .inr (.inl ⟨c, vs, i, v, rfl, rfl, h1, h3, k v F m H (Nx.refl R) (hdr_d h4) New.d⟩)
      | lst ds =>
        obtain ⟨c, vs, rfl, h1, h2⟩ := RdP.lst R.hr a
        obtain ⟨v, h3, h4⟩ := idx_seq h2 z
        exact .inl ⟨c, vs, i, v, rfl, rfl, SqL.of h1, h3, k v F m H (Nx.refl R) (hdr_d h4) New.d⟩
      | fl ns =>
        obtain ⟨c, rfl, h1⟩ := RdP.fl R.hr a
        have z : ((ixNat ns.length i).bind fun j => (ns[j]?).map D.int) = some r := z
        cases z1 : ixNat ns.length i with
        | none => rw [z1] at z; cases z
        | some j =>
          rw [z1] at z
          have z : (ns[j]?).map D.int = some r := z
          cases z2 : ns[j]? with
          | none => rw [z2] at z; cases z
          | some w =>
            rw [z2] at z
            cases z
            refine .inl ⟨c, ns.map V.int, i, .int w, rfl, rfl, h1, ?_, k _ F m H (Nx.refl R) (hdr_d rp_int) New.d⟩
            unfold atI
            rw [List.length_map, ixN_eq, z1]
            show (ns.map V.int)[j]? = _
            rw [List.getElem?_map, z2]
            rfl
      | str w =>
        have z : (if w.length ≤ sizeLine then (ixNat w.cps.toList.length i).bind fun j => (w.cps.toList[j]?).map fun c => D.str ⟨#[c]⟩ else none) = some r := z
        split at z
        · rename_i zl
          cases z1 : ixNat w.cps.toList.length i with
          | none => rw [z1] at z; cases z
          | some j =>
            rw [z1] at z
            have z : (w.cps.toList[j]?).map (fun c => D.str ⟨#[c]⟩) = some r := z
            cases z2 : w.cps.toList[j]? with
            | none => rw [z2] at z; cases z
            | some c =>
              rw [z2] at z
              cases z
              rw [RdP.str a]
              refine .inr (.inr ⟨w, i, c, rfl, rfl, zl, ?_, k _ F m H (Nx.refl R) (hdr_d rp_str) New.d⟩)
              unfold atI
              rw [ixN_eq, z1]
              exact z2
        · cases z
      | ref t =>
        obtain ⟨c, h1, rfl⟩ := RdP.ref a
        have z : (match s.sto[t]? with
          | some (.lst ds) => (ixNat ds.length i).bind fun j => ds[j]?
          | _ => none) = some r := z
        cases z1 : s.sto[t]? with
        | none => rw [z1] at z; cases z
        | some o =>
          cases o with
          | lst ds =>
            rw [z1] at z
            obtain ⟨vs, h2, h3⟩ := R.hr.obj t c _ h1 z1
            obtain ⟨v, h4, h5⟩ := idx_seq h3 z
            exact .inl ⟨c, vs, i, v, rfl, rfl, SqL.of h2, h4, k v F m H (Nx.refl R) (hdr_d h5) New.d⟩
      | _ => cases z
    | _ => cases z
theorem sd_Idx {a b : Expr} {a' b' : E} {pos : Pos} (hK : X.K = g.K) (ha : PE X a (tE g n W a')) (hb : PE X b (tE g n W b')) (hs : PlainIx b) : PE X (.Subscript a b pos) (tE g n W (.idx a' b')) :=
  sd_bin (f := fun sto p q => (idx sto p q).map Hd.d) ha hb (fun h1 h2 => pe_ix ix_seq h1 h2 hs) (fun s => by rw [evE]) (by rw [hK]; exact good_idx)
theorem _root_.L2.PO.imp {e : Option Expr} {t t' : TO} (h : PO X e t') (i : ∀ σ H Q, t σ H Q → t' σ H Q) : PO X e t := ⟨fun pins s σ H Q I q => h.run pins s σ H Q I (i σ H Q q)⟩
end
end Rf

set_option Elab.async false
set_option linter.all false
set_option maxRecDepth 100000
/-! R7: slices, calls of defs, built-ins, methods. -/
namespace Rf
open PySem L2
section
variable {g : Gx} {n : Nat} {W : WX} {X : Cx}

theorem sd_onone : PO X none (tOp' g n W none) := by
  refine po_none.imp fun σ H Q ⟨s, F, m, r0, h⟩ => ?_
  rw [evO] at h
  exact h.ok none F m H (Nx.refl r0) rfl
theorem sd_osome {e : Expr} {e' : E} (he : PE X e (tE g n W e')) : PO X (some e) (tOp' g n W (some e')) := by
  refine (po_some (pe_D he)).imp fun σ H Q ⟨s, F, m, r0, h⟩ => ?_
  rw [evO] at h
  refine RdE.step (Nx.refl r0) h fun d s1 x F1 m1 H1 h1 n1 t1 r1 => ?_
  have r1 : Rp g.K F1 m1 d x := r1
  cases d with
  | int i =>
    rw [Rp] at r1
    exact ⟨i, r1, h1 (some i) F1 m1 H1 t1 rfl⟩
  | _ => exact h1.elim
def rSl2 (K : PySem.W.Frag) : V → Option Int → Option Int → Hp → VK → Prop := fun x lo hi H Q => rSlA K x lo hi H Q ∨ rSlL K x lo hi H Q ∨ rSlS x lo hi H Q
theorem sl_all : SlR X (rSl2 X.K) := sl_tupA.or (sl_list.or sl_str)
theorem cut_whole {α : Type} {xs : List α} {lo hi : Option Int} (h : HT.sIx xs.length 0 lo = 0 ∧ HT.sIx xs.length xs.length hi = xs.length) : Rf.cut xs lo hi = xs := by
  unfold Rf.cut
  rw [h.1, h.2]
  simp
theorem good_slc {s : Sg} {σ : L2.St} {F : Hp} {m : List Addr} {H : Hp} {p : D} {x : V} {lo hi : Option Int} {hd : Hd} {Q : VK} (R : Rel g.K g.TT s σ F m H) (a : RdP g.K F m H p x) (e : slc p lo hi = some hd)
    (k : ∀ v F' m' H', NX g s σ F m H s F' m' H' → HdR g.K s.env σ F' m' H' hd v → New H hd v → Q v H') : rSl2 g.K x lo hi H Q := by
  cases p with
  | tup ds =>
    cases e
    obtain ⟨c, vs, rfl, h1, h2⟩ := RdP.tup R.hr a
    refine .inl ⟨c, vs, rfl, h1, fun hw => ?_, fun _ p hp => ?_⟩
    · have hw' : HT.sIx ds.length 0 lo = 0 ∧ HT.sIx ds.length ds.length hi = ds.length := by rw [h2.len]; exact hw
      rw [cut_whole hw'] at k
      rcases a with a | ⟨_, _, _, e', _⟩
      · exact k _ F m H (Nx.refl R) (hdr_d a) New.d
      · cases e'
    · obtain ⟨n1, r1⟩ := R.newTup hp (h2.cut (lo := lo) (hi := hi))
      exact k _ _ _ _ n1 (hdr_d r1) New.d
  | lst ds =>
    cases e
    obtain ⟨c, vs, rfl, h1, h2⟩ := RdP.lst R.hr a
    refine .inr (.inl ⟨c, vs, rfl, SqL.of h1, fun p hp => ?_⟩)
    obtain ⟨n1, r1⟩ := R.newOwn hp (h2.cut (lo := lo) (hi := hi))
    exact k _ _ _ _ n1 r1 (fun _ _ c ec => by cases ec; exact Nt.no hp)
  | str z =>
    have e : (if z.length ≤ sizeLine then some (Hd.d (.str (cutS z lo hi))) else none) = some hd := e
    split at e
    · rename_i zl
      cases e
      rw [RdP.str a]
      exact .inr (.inr ⟨z, rfl, zl, k _ F m H (Nx.refl R) (hdr_d rp_str) New.d⟩)
    · cases e
  | _ => cases e
theorem sd_Slc {a : Expr} {lo hi : Option Expr} {a' : E} {lo' hi' : Option E} {p2 pos : Pos} (hK : X.K = g.K) (ha : PE X a (tE g n W a')) (hl : PO X lo (tOp' g n W lo')) (hh : PO X hi (tOp' g n W hi')) :
    PE X (.Subscript a (.Slice lo hi none p2) pos) (tE g n W (.slc a' lo' hi')) := by
  refine (pe_slice sl_all ha hl hh).imp fun σ H Q ⟨s, F, m, r0, h⟩ => ?_
  rw [evE] at h
  refine RdE.step (Nx.refl r0) h fun hx s1 x F1 m1 H1 h1 n1 t1 r1 => ?_
  refine RdE.step t1 h1 fun l s2 lv F2 m2 H2 h2 n2 t2 r2 => ?_
  refine RdE.step t2 h2 fun u s3 uv F3 m3 H3 h3 n3 t3 r3 => ?_
  obtain ⟨hd, e1, k⟩ := h3.opt
  have r2 : lv = l := r2
  have r3 : uv = u := r3
  subst r2 r3
  cases q : s3.rd hx with
  | none => rw [q] at e1; cases e1
  | some p =>
    rw [q] at e1
    rw [hK]
    exact good_slc t3.rel (t3.rel.rd ((r1.1.next n2).next n3) q) e1 fun v F' m' H' nx hv nw => k v F' m' H' (t3.trans nx) ⟨hv, nw.back t3⟩

/-! ### defs: what they promise -/
/-- behind a call: the store, what is frozen -/
structure FNx (g : Gx) (F : Hp) (m : List Addr) (H : Hp) (sto' : List SObj) (F' : Hp) (m' : List Addr) (H' : Hp) : Prop where
  hr : HR g.K g.TT F' m' sto' H'
  fr : Fr [] [] F m H F' m' H'
def ResC {α : Type} (r : Option (Out α × List SObj)) (P : α → List SObj → Prop) (E : Exn → List SObj → Prop) : Prop :=
  match r with
  | none => False
  | some (.ok a, s) => P a s
  | some (.exc x, s) => E x s
/-- the promise of the k-th def, at the depth n -/
def spF (g : Gx) (n k : Nat) : Sp := fun vs H Q E => ∃ ds sto F m, HR g.K g.TT F m sto H ∧ Rps g.K F m ds vs ∧ ResC (callN g.G n k ds sto)
  (fun d sto' => ∀ v F' m' H', FNx g F m H sto' F' m' H' → Rp g.K F' m' d v → Q v H')
  (fun x sto' => ∀ cls d F' m' H', FNx g F m H sto' F' m' H' → ExR g F' m' H' x cls d → E cls (some d) H')
theorem notOwn {σ : L2.St} {a : Addr} : ¬ OwnA [] σ a := fun ⟨i, ds, h, _⟩ => by simp at h
/-- behind a call, in the caller -/
theorem FNx.nx {s : Sg} {σ : L2.St} {F F' : Hp} {m m' : List Addr} {H H' : Hp} {sto' : List SObj} (R : Rel g.K g.TT s σ F m H) (f : FNx g F m H sto' F' m' H') : NX g s σ F m H { s with sto := sto' } F' m' H' := by
  refine ⟨⟨f.hr, ⟨R.sr.len, fun i d e => ?_, fun i ds e => ?_, R.sr.apart⟩⟩, ⟨f.fr.ff, f.fr.mm, f.fr.mf, fun a o h1 h2 _ h3 => f.fr.keep a o h1 h2 notOwn h3, fun a h1 _ => f.fr.kF a h1 notOwn, f.fr.dom⟩, OwnSub.refl _⟩
  · obtain ⟨v, h1, h2⟩ := R.sr.val i d e
    exact ⟨v, h1, Rp.mono f.fr.ff f.fr.mm _ _ h2⟩
  · obtain ⟨a, vs, h1, h2, h3, h4, h5⟩ := R.sr.own i ds e
    refine ⟨a, vs, h1, f.fr.keep a _ h2 h5 notOwn (fun ps z => by cases z), Rps.mono f.fr.ff f.fr.mm _ _ h3, ?_, fun z => ?_⟩
    · rw [f.fr.kF a (.lst h2) notOwn, h4]
    · rcases f.fr.mf a z with q | q
      · exact h5 q
      · exact q (.lst h2)
theorem callR_ok {s0 s : Sg} {σ : L2.St} {F0 F : Hp} {m0 m : List Addr} {H0 H : Hp} {k : Nat} {ds : List D} {vs : List V} {Q : VK} (t : NX g s0 σ F0 m0 H0 s F m H) (r : Rps g.K F m ds vs)
    (h : Res (callR (g.cl n) k ds s) (fun h s' => ∀ v F' m' H', NX g s0 σ F0 m0 H0 s' F' m' H' → repH g h s' σ F' m' H' H0 v → Q v H') (PX g W s0 σ F0 m0 H0)) : spF g n k vs H Q (WE W σ) := by
  refine ⟨ds, s.sto, F, m, t.rel.hr, r, ?_⟩
  unfold callR at h
  have e : (g.cl n) k ds s.sto = callN g.G n k ds s.sto := rfl
  rw [e] at h
  cases q : callN g.G n k ds s.sto with
  | none => rw [q] at h; exact h.elim
  | some p =>
    obtain ⟨o, sto'⟩ := p
    rw [q] at h
    cases o with
    | ok d => exact fun v F' m' H' f rv => h v F' m' H' (t.trans (f.nx t.rel)) (.d rv)
    | exc x => exact fun cls d F' m' H' f ex => h cls d F' m' H' (t.trans (f.nx t.rel)) ex
theorem sd_Call {CXn : Nat} {x : Str} {f : Addr} {fd : FuncData} {ps : List Str} {k : Nat} {e : Expr} {es : List Expr} {es' : List E} {p pos : Pos} (hF : FnOk X.prog X.w X.K X.mg X.base (L2.CX X.prog X.w) CXn f fd ps (spF g n k)) (hr : Room CXn X.A) (hg : Gl X x)
    (hm : X.mg x = some (.ref f)) (hk : PySem.W.keepIn X.K (.ref f) = true) (hb : Binds X.K fd ps []) (tk : Takes X W) (ha : PA X (e :: es) (tEs g n W es')) (hdb : (x == ("__debug__" : Str)) = false)
    (he : starEach (e :: es) X.env = (false, eval e X.env) :: starEach es X.env) (hpl : (backTo pos (starEach es X.env)).any (·.1) = false) : PE X (.Call (.Name x p) (e :: es) [] pos) (tE g n W (.call k es')) := by
  refine (pe_callS (E := WE W) hF hr hg hm hk hb (fun σ => passAt tk σ) ha hdb he hpl).imp fun σ H Q ⟨s, F, m, r0, h⟩ => ?_
  rw [evE] at h
  refine RdE.step (Nx.refl r0) h fun ds s1 vs F1 m1 H1 h1 n1 t1 r1 => ?_
  exact callR_ok t1 r1 h1
end
end Rf

set_option Elab.async false
set_option linter.all false
set_option maxRecDepth 100000
/-! R8: built-ins, calls by keywords, methods of a slot's list. -/
namespace Rf
open PySem L2
section
variable {g : Gx} {n : Nat} {W : WX} {X : Cx}

inductive RdPs (K : PySem.W.Frag) (F : Hp) (m : List Addr) (H : Hp) : List D → List V → Prop
  | nil : RdPs K F m H [] []
  | cons {d : D} {v : V} {ds : List D} {vs : List V} : RdP K F m H d v → RdPs K F m H ds vs → RdPs K F m H (d :: ds) (v :: vs)
theorem rdAll {s : Sg} {σ : L2.St} {F : Hp} {m : List Addr} {H H0 : Hp} (R : Rel g.K g.TT s σ F m H) {hs : List Hd} {vs : List V} (h : HdRs g.K s.env σ F m H H0 hs vs) : ∀ {ds : List D}, hs.mapM s.rd = some ds → RdPs g.K F m H ds vs := by
  induction h with
  | nil => intro ds e; cases e; exact .nil
  | @cons hd v hs vs a b _ ih =>
    intro ds e
    rw [List.mapM_cons] at e
    cases q : s.rd hd with
    | none => rw [q] at e; cases e
    | some d =>
      cases q2 : hs.mapM s.rd with
      | none => rw [q, q2] at e; cases e
      | some dr =>
        rw [q, q2] at e
        cases e
        exact .cons (R.rd a q) (ih q2)
theorem RdPs.one {F : Hp} {m : List Addr} {H : Hp} {d : D} {vs : List V} (h : RdPs g.K F m H [d] vs) : ∃ v, vs = [v] ∧ RdP g.K F m H d v := by
  cases h with
  | cons a b => cases b; exact ⟨_, rfl, a⟩
theorem RdPs.two {F : Hp} {m : List Addr} {H : Hp} {d e : D} {vs : List V} (h : RdPs g.K F m H [d, e] vs) : ∃ v w, vs = [v, w] ∧ RdP g.K F m H d v ∧ RdP g.K F m H e w := by
  cases h with
  | cons a b =>
    cases b with
    | cons c d => cases d; exact ⟨_, _, rfl, a, c⟩
/-- a built-in on data -/
def GoodB (g : Gx) (r : List V → Hp → VK → Prop) (b : B) : Prop := ∀ (s : Sg) (σ : L2.St) (F : Hp) (m : List Addr) (H : Hp) (ds : List D) (vs : List V) (hd : Hd) (Q : VK), Rel g.K g.TT s σ F m H → RdPs g.K F m H ds vs → bcall b ds = some hd →
  (∀ v F' m' H', NX g s σ F m H s F' m' H' → HdR g.K s.env σ F' m' H' hd v → New H hd v → Q v H') → r vs H Q
theorem sd_builtin {e : Expr} {es : List Expr} {es' : List E} {b : B} {r : List V → Hp → VK → Prop} {ex : Expr} (ha : PA X (e :: es) (tHs g n W es')) (rule : ∀ {t : TA}, PA X (e :: es) t → PE X ex (tCB r t)) (good : GoodB g r b) : PE X ex (tE g n W (.bcall b es')) := by
  refine (rule ha).imp fun σ H Q ⟨s, F, m, r0, h⟩ => ?_
  rw [evE] at h
  refine RdE.step (Nx.refl r0) h fun hs s1 vs F1 m1 H1 h1 n1 t1 r1 => ?_
  obtain ⟨hd, e1, k⟩ := h1.opt
  cases q : hs.mapM s1.rd with
  | none => rw [q] at e1; cases e1
  | some ds =>
    rw [q] at e1
    exact good s1 σ F1 m1 H1 ds vs hd Q t1.rel (rdAll t1.rel r1 q) e1 fun v F' m' H' nx hv nw => k v F' m' H' (t1.trans nx) ⟨hv, nw.back t1⟩
theorem good_len : GoodB g (fun xs H Q => (∃ p ys, xs = [V.ref p] ∧ (SqL g.K H p ys ∨ SqT g.K H p ys) ∧ Q (.int ys.length) H) ∨ ∃ z, xs = [V.str z] ∧ z.length ≤ sizeLine ∧ Q (.int z.length) H) .len := by
  intro s σ F m H ds vs hd Q R h e k
  match ds, e with
  | [.tup ds], e =>
    cases e
    obtain ⟨v, rfl, hh⟩ := h.one
    obtain ⟨a, ws, rfl, h1, h2⟩ := RdP.tup R.hr hh
    exact .inl ⟨a, ws, rfl, .inr h1, by rw [← h2.len]; exact k _ F m H (Nx.refl R) (hdr_d rp_int) New.d⟩
  | [.lst ds], e =>
    cases e
    obtain ⟨v, rfl, hh⟩ := h.one
    obtain ⟨a, ws, rfl, h1, h2⟩ := RdP.lst R.hr hh
    exact .inl ⟨a, ws, rfl, .inl (SqL.of h1), by rw [← h2.len]; exact k _ F m H (Nx.refl R) (hdr_d rp_int) New.d⟩
  | [.fl ns], e =>
    cases e
    obtain ⟨v, rfl, hh⟩ := h.one
    obtain ⟨a, rfl, h1⟩ := RdP.fl R.hr hh
    exact .inl ⟨a, _, rfl, .inl h1, by rw [List.length_map]; exact k _ F m H (Nx.refl R) (hdr_d rp_int) New.d⟩
  | [.str z], e =>
    have e : (if z.length ≤ sizeLine then some (Hd.d (.int z.length)) else none) = some hd := e
    split at e
    · rename_i zl
      cases e
      obtain ⟨v, rfl, hh⟩ := h.one
      rw [RdP.str hh]
      exact .inr ⟨z, rfl, zl, k _ F m H (Nx.refl R) (hdr_d rp_int) New.d⟩
    · cases e
theorem good_tuple : GoodB g (fun xs H Q => ∃ p ys, xs = [V.ref p] ∧ ((SqL g.K H p ys ∧ ∀ l, H l = none → Q (.ref l) (upd H l (.tup ys))) ∨ (SqT g.K H p ys ∧ Q (.ref p) H))) .tuple := by
  intro s σ F m H ds vs hd Q R h e k
  match ds, e with
  | [.tup ds], e =>
    cases e
    obtain ⟨v, rfl, hh⟩ := h.one
    obtain ⟨a, ws, rfl, h1, h2⟩ := RdP.tup R.hr hh
    refine ⟨a, ws, rfl, .inr ⟨h1, ?_⟩⟩
    rcases hh with hh | ⟨_, _, _, e', _⟩
    · exact k _ F m H (Nx.refl R) (hdr_d hh) New.d
    · cases e'
  | [.lst ds], e =>
    cases e
    obtain ⟨v, rfl, hh⟩ := h.one
    obtain ⟨a, ws, rfl, h1, h2⟩ := RdP.lst R.hr hh
    refine ⟨a, ws, rfl, .inl ⟨SqL.of h1, fun l hl => ?_⟩⟩
    obtain ⟨n1, r1⟩ := R.newTup hl h2
    exact k _ _ _ _ n1 (hdr_d r1) New.d
theorem good_list : GoodB g (fun xs H Q => ∃ p ys, xs = [V.ref p] ∧ (SqL g.K H p ys ∨ SqT g.K H p ys) ∧ ∀ l, H l = none → Q (.ref l) (upd H l (.lst ys))) .list := by
  intro s σ F m H ds vs hd Q R h e k
  match ds, e with
  | [.tup ds], e =>
    cases e
    obtain ⟨v, rfl, hh⟩ := h.one
    obtain ⟨a, ws, rfl, h1, h2⟩ := RdP.tup R.hr hh
    refine ⟨a, ws, rfl, .inr h1, fun l hl => ?_⟩
    obtain ⟨n1, r1⟩ := R.newOwn hl h2
    exact k _ _ _ _ n1 r1 (fun _ _ c ec => by cases ec; exact Nt.no hl)
  | [.lst ds], e =>
    cases e
    obtain ⟨v, rfl, hh⟩ := h.one
    obtain ⟨a, ws, rfl, h1, h2⟩ := RdP.lst R.hr hh
    refine ⟨a, ws, rfl, .inl (SqL.of h1), fun l hl => ?_⟩
    obtain ⟨n1, r1⟩ := R.newOwn hl h2
    exact k _ _ _ _ n1 r1 (fun _ _ c ec => by cases ec; exact Nt.no hl)
theorem bools_vals {F : Hp} {m : List Addr} : ∀ {ds : List D} {vs : List V} {bs : List Bool}, Rps g.K F m ds vs → bools ds = some bs → vs = bs.map V.bl
  | [], vs, bs, r, e => by cases e; rw [Rps] at r; rw [r]; rfl
  | .bl b :: ds, vs, bs, r, e => by
    rw [Rps] at r
    obtain ⟨v, vr, rfl, h1, h2⟩ := r
    rw [Rp] at h1
    have e : (bools ds).map (b :: ·) = some bs := e
    cases q : bools ds with
    | none => rw [q] at e; cases e
    | some br =>
      rw [q] at e
      cases e
      rw [h1, bools_vals h2 q]
      rfl
  | .non :: _, _, _, _, e => by cases e
  | .int _ :: _, _, _, _, e => by cases e
  | .str _ :: _, _, _, _, e => by cases e
  | .tup _ :: _, _, _, _, e => by cases e
  | .lst _ :: _, _, _, _, e => by cases e
  | .fl _ :: _, _, _, _, e => by cases e
  | .ref _ :: _, _, _, _, e => by cases e
theorem ints_vals {F : Hp} {m : List Addr} : ∀ {ds : List D} {vs : List V} {bs : List Int}, Rps g.K F m ds vs → intsOf ds = some bs → vs = bs.map V.int
  | [], vs, bs, r, e => by cases e; rw [Rps] at r; rw [r]; rfl
  | .int b :: ds, vs, bs, r, e => by
    rw [Rps] at r
    obtain ⟨v, vr, rfl, h1, h2⟩ := r
    rw [Rp] at h1
    have e : (intsOf ds).map (b :: ·) = some bs := e
    cases q : intsOf ds with
    | none => rw [q] at e; cases e
    | some br =>
      rw [q] at e
      cases e
      rw [h1, ints_vals h2 q]
      rfl
  | .non :: _, _, _, _, e => by cases e
  | .bl _ :: _, _, _, _, e => by cases e
  | .str _ :: _, _, _, _, e => by cases e
  | .tup _ :: _, _, _, _, e => by cases e
  | .lst _ :: _, _, _, _, e => by cases e
  | .fl _ :: _, _, _, _, e => by cases e
  | .ref _ :: _, _, _, _, e => by cases e
theorem good_all : GoodB g (fun vs H Q => rAll g.K vs H Q ∨ rAllI g.K vs H Q) .all := by
  intro s σ F m H ds vs hd Q R h e k
  match ds, e with
  | [.lst ds], e =>
    have e : (match bools ds with
      | some bs => some (Hd.d (.bl (bs.all id)))
      | none => (intsOf ds).map fun bs => Hd.d (.bl (bs.all (· != 0)))) = some hd := e
    obtain ⟨v, rfl, hh⟩ := h.one
    obtain ⟨a, ws, rfl, h1, h2⟩ := RdP.lst R.hr hh
    cases q : bools ds with
    | none =>
      rw [q] at e
      obtain ⟨bs, q2, rfl⟩ := Option.map_eq_some_iff.mp e
      rw [ints_vals h2 q2] at h1
      exact .inr ⟨a, bs, rfl, SqL.of h1, k _ F m H (Nx.refl R) (hdr_d rp_bl) New.d⟩
    | some bs =>
      rw [q] at e
      cases e
      rw [bools_vals h2 q] at h1
      exact .inl ⟨a, bs, rfl, SqL.of h1, k _ F m H (Nx.refl R) (hdr_d rp_bl) New.d⟩
theorem good_any : GoodB g (fun vs H Q => rAny g.K vs H Q ∨ rAnyI g.K vs H Q) .any := by
  intro s σ F m H ds vs hd Q R h e k
  match ds, e with
  | [.lst ds], e =>
    have e : (match bools ds with
      | some bs => some (Hd.d (.bl (bs.any id)))
      | none => (intsOf ds).map fun bs => Hd.d (.bl (bs.any (· != 0)))) = some hd := e
    obtain ⟨v, rfl, hh⟩ := h.one
    obtain ⟨a, ws, rfl, h1, h2⟩ := RdP.lst R.hr hh
    cases q : bools ds with
    | none =>
      rw [q] at e
      obtain ⟨bs, q2, rfl⟩ := Option.map_eq_some_iff.mp e
      rw [ints_vals h2 q2] at h1
      exact .inr ⟨a, bs, rfl, SqL.of h1, k _ F m H (Nx.refl R) (hdr_d rp_bl) New.d⟩
    | some bs =>
      rw [q] at e
      cases e
      rw [bools_vals h2 q] at h1
      exact .inl ⟨a, bs, rfl, SqL.of h1, k _ F m H (Nx.refl R) (hdr_d rp_bl) New.d⟩
theorem good_max1 : GoodB g (rMax g.K) .max1 := by
  intro s σ F m H ds vs hd Q R h e k
  match ds, e with
  | [.lst ds], e =>
    have e : ((intsOf ds).bind fun bs => bs.max?.map fun k => Hd.d (.int k)) = some hd := e
    obtain ⟨v, rfl, hh⟩ := h.one
    obtain ⟨a, ws, rfl, h1, h2⟩ := RdP.lst R.hr hh
    obtain ⟨bs, q2, e3⟩ := Option.bind_eq_some_iff.mp e
    obtain ⟨m0, e4, rfl⟩ := Option.map_eq_some_iff.mp e3
    rw [ints_vals h2 q2] at h1
    obtain ⟨m1, m2⟩ := List.max?_eq_some_iff.mp e4
    refine ⟨a, bs, rfl, SqL.of h1, List.length_pos_of_mem m1, fun x hx hle => ?_⟩
    have : x = m0 := Int.le_antisymm (m2 x hx) (hle m0 m1)
    subst this
    exact k _ F m H (Nx.refl R) (hdr_d rp_int) New.d
mutual
theorem toP_inj : ∀ (d e : D) (p : PyData), toP d = some p → toP e = some p → d = e
  | .non, e, p, h1, h2 => by
    rw [toP] at h1; cases h1
    cases e with
    | non => rfl
    | tup ds => rw [toP] at h2; obtain ⟨_, _, q⟩ := Option.map_eq_some_iff.mp h2; cases q
    | lst ds => rw [toP] at h2; obtain ⟨_, _, q⟩ := Option.map_eq_some_iff.mp h2; cases q
    | _ => rw [toP] at h2; cases h2
  | .bl b, e, p, h1, h2 => by
    rw [toP] at h1; cases h1
    cases e with
    | bl c => rw [toP] at h2; cases h2; rfl
    | tup ds => rw [toP] at h2; obtain ⟨_, _, q⟩ := Option.map_eq_some_iff.mp h2; cases q
    | lst ds => rw [toP] at h2; obtain ⟨_, _, q⟩ := Option.map_eq_some_iff.mp h2; cases q
    | _ => rw [toP] at h2; cases h2
  | .int b, e, p, h1, h2 => by
    rw [toP] at h1; cases h1
    cases e with
    | int c => rw [toP] at h2; cases h2; rfl
    | tup ds => rw [toP] at h2; obtain ⟨_, _, q⟩ := Option.map_eq_some_iff.mp h2; cases q
    | lst ds => rw [toP] at h2; obtain ⟨_, _, q⟩ := Option.map_eq_some_iff.mp h2; cases q
    | _ => rw [toP] at h2; cases h2
  | .str b, e, p, h1, h2 => by
    rw [toP] at h1; cases h1
    cases e with
    | str c => rw [toP] at h2; cases h2; rfl
    | tup ds => rw [toP] at h2; obtain ⟨_, _, q⟩ := Option.map_eq_some_iff.mp h2; cases q
    | lst ds => rw [toP] at h2; obtain ⟨_, _, q⟩ := Option.map_eq_some_iff.mp h2; cases q
    | _ => rw [toP] at h2; cases h2
  | .tup ds, e, p, h1, h2 => by
    rw [toP] at h1
    obtain ⟨ps, q1, rfl⟩ := Option.map_eq_some_iff.mp h1
    cases e with
    | tup es =>
      rw [toP] at h2
      obtain ⟨qs, q2, q⟩ := Option.map_eq_some_iff.mp h2
      cases q
      rw [toPs_inj ds es ps q1 q2]
    | lst es => rw [toP] at h2; obtain ⟨_, _, q⟩ := Option.map_eq_some_iff.mp h2; cases q
    | _ => rw [toP] at h2; cases h2
  | .lst ds, e, p, h1, h2 => by
    rw [toP] at h1
    obtain ⟨ps, q1, rfl⟩ := Option.map_eq_some_iff.mp h1
    cases e with
    | lst es =>
      rw [toP] at h2
      obtain ⟨qs, q2, q⟩ := Option.map_eq_some_iff.mp h2
      cases q
      rw [toPs_inj ds es ps q1 q2]
    | tup es => rw [toP] at h2; obtain ⟨_, _, q⟩ := Option.map_eq_some_iff.mp h2; cases q
    | _ => rw [toP] at h2; cases h2
  | .fl _, e, p, h1, h2 => by rw [toP] at h1; cases h1
  | .ref _, e, p, h1, h2 => by rw [toP] at h1; cases h1
theorem toPs_inj : ∀ (ds es : List D) (ps : List PyData), toPs ds = some ps → toPs es = some ps → ds = es
  | [], es, ps, h1, h2 => by
    rw [toPs] at h1; cases h1
    cases es with
    | nil => rfl
    | cons e es =>
      rw [toPs] at h2
      obtain ⟨_, _, q⟩ := Option.bind_eq_some_iff.mp h2
      obtain ⟨_, _, q⟩ := Option.map_eq_some_iff.mp q
      cases q
  | d :: ds, es, ps, h1, h2 => by
    rw [toPs] at h1
    obtain ⟨p, q1, q2⟩ := Option.bind_eq_some_iff.mp h1
    obtain ⟨pr, q3, rfl⟩ := Option.map_eq_some_iff.mp q2
    cases es with
    | nil => rw [toPs] at h2; cases h2
    | cons e es =>
      rw [toPs] at h2
      obtain ⟨p', r1, r2⟩ := Option.bind_eq_some_iff.mp h2
      obtain ⟨pr', r3, r4⟩ := Option.map_eq_some_iff.mp r2
      cases r4
      rw [toP_inj d e p q1 r1, toPs_inj ds es pr q3 r3]
end
theorem toPs_at : ∀ {ds : List D} {ps : List PyData} {i : Nat} {p : PyData}, toPs ds = some ps → ps[i]? = some p → ∃ d, ds[i]? = some d ∧ toP d = some p
  | [], ps, i, p, h, e => by rw [toPs] at h; cases h; simp at e
  | d :: ds, ps, i, p, h, e => by
    rw [toPs] at h
    obtain ⟨q, q1, q2⟩ := Option.bind_eq_some_iff.mp h
    obtain ⟨pr, q3, rfl⟩ := Option.map_eq_some_iff.mp q2
    cases i with
    | zero =>
      have e := Option.some.inj (show some q = some p from e)
      subst e
      exact ⟨d, rfl, q1⟩
    | succ i => exact toPs_at (i := i) q3 (by simpa using e)
theorem rps_at {F : Hp} {m : List Addr} : ∀ {ds : List D} {vs : List V} {i : Nat} {d : D} {v : V}, Rps g.K F m ds vs → ds[i]? = some d → vs[i]? = some v → Rp g.K F m d v
  | [], _, _, _, _, _, e, _ => by simp at e
  | d :: ds, vs, i, d', v', h, e1, e2 => by
    rw [Rps] at h
    obtain ⟨v, vr, rfl, q, t⟩ := h
    cases i with
    | zero =>
      have e1 := Option.some.inj (show some d = some d' from e1)
      have e2 := Option.some.inj (show some v = some v' from e2)
      subst e1 e2
      exact q
    | succ i => exact rps_at (i := i) t (by simpa using e1) (by simpa using e2)
theorem good_min1 : GoodB g (rMin2 g.K) .min1 := by
  intro s σ F m H ds vs hd Q R h e k
  match ds, e with
  | [.lst ds], e =>
    have e : (match intsOf ds with
      | some bs => bs.min?.map fun k => Hd.d (.int k)
      | none => (minDD ds).map Hd.d) = some hd := e
    obtain ⟨v, rfl, hh⟩ := h.one
    obtain ⟨a, ws, rfl, h1, h2⟩ := RdP.lst R.hr hh
    cases q2 : intsOf ds with
    | some bs =>
      rw [q2] at e
      obtain ⟨m0, e4, rfl⟩ := Option.map_eq_some_iff.mp e
      rw [ints_vals h2 q2] at h1
      obtain ⟨m1, m2⟩ := List.min?_eq_some_iff.mp e4
      refine .inl ⟨a, bs, rfl, SqL.of h1, List.length_pos_of_mem m1, fun x hx hle => ?_⟩
      have : x = m0 := Int.le_antisymm (hle m0 m1) (m2 x hx)
      subst this
      exact k _ F m H (Nx.refl R) (hdr_d rp_int) New.d
    | none =>
      rw [q2] at e
      obtain ⟨d0, e4, rfl⟩ := Option.map_eq_some_iff.mp e
      unfold minDD at e4
      split at e4
      · rename_i p ps q3
        split at e4
        · rename_i hc
          have hd0 := List.find?_some e4
          simp only [decide_eq_true_eq] at hd0
          refine .inr ⟨a, ws, p, ps, rfl, SqL.of h1, dps_of R.hr.sub ds ws (p :: ps) h2 q3, hc.1, hc.2, fun i x hx hp => ?_⟩
          obtain ⟨d, g1, g2⟩ := toPs_at q3 hp
          have e5 : d = d0 := toP_inj _ _ _ g2 hd0
          subst e5
          exact k _ F m H (Nx.refl R) (hdr_d (rps_at h2 g1 hx)) New.d
        · cases e4
      · cases e4
theorem rps_ints {F : Hp} {m : List Addr} : ∀ l : List Int, Rps g.K F m (l.map D.int) (l.map V.int)
  | [] => Rps.nil
  | i :: l => Rps.cons rp_int (rps_ints l)
theorem sorted_eq {a b : List Int} (hp : a.Perm b) (ha : a.Pairwise (· ≤ ·)) (hb : b.Pairwise (· ≤ ·)) : a = b := by
  induction a generalizing b with
  | nil => exact (List.Perm.nil_eq hp)
  | cons x a ih =>
    cases b with
    | nil => exact absurd hp.length_eq (by simp)
    | cons y b =>
      have e : x = y := by
        have h1 : x ∈ y :: b := hp.mem_iff.mp (by simp)
        have h2 : y ∈ x :: a := hp.mem_iff.mpr (by simp)
        rcases List.mem_cons.mp h1 with h1 | h1
        · exact h1
        · rcases List.mem_cons.mp h2 with h2 | h2
          · exact h2.symm
          · exact Int.le_antisymm ((List.pairwise_cons.mp ha).1 y h2) ((List.pairwise_cons.mp hb).1 x h1)
      subst e
      rw [ih (List.perm_cons x |>.mp hp) (List.pairwise_cons.mp ha).2 (List.pairwise_cons.mp hb).2]
theorem merge_ok (l : List Int) : (l.mergeSort fun a b => decide (a ≤ b)).Pairwise (· ≤ ·) := by
  have := List.pairwise_mergeSort (le := fun a b : Int => decide (a ≤ b)) (fun a b c h1 h2 => by simp at *; omega) (fun a b => by simp; omega) l
  exact this.imp fun h => by simpa using h
theorem good_sorted : GoodB g (rSortedI g.K) .sorted := by
  intro s σ F m H ds vs hd Q R h e k
  match ds, e with
  | [.lst ds], e =>
    have e : ((intsOf ds).map fun bs => Hd.own ((bs.mergeSort fun a b => decide (a ≤ b)).map D.int)) = some hd := e
    obtain ⟨v, rfl, hh⟩ := h.one
    obtain ⟨a, ws, rfl, h1, h2⟩ := RdP.lst R.hr hh
    obtain ⟨bs, q2, rfl⟩ := Option.map_eq_some_iff.mp e
    rw [ints_vals h2 q2] at h1
    refine ⟨a, bs, rfl, SqL.of h1, fun ns' l hp hs hl => ?_⟩
    rw [sorted_eq (hp.trans (List.mergeSort_perm bs _).symm) hs (merge_ok bs)]
    obtain ⟨n1, r1⟩ := R.newOwn hl (rps_ints (F := F) (m := m) (bs.mergeSort fun a b => decide (a ≤ b)))
    exact k _ _ _ _ n1 r1 (fun _ _ c ec => by cases ec; exact Nt.no hl)
theorem good_sum : GoodB g (rSum g.K) .sum := by
  intro s σ F m H ds vs hd Q R h e k
  match ds, e with
  | [.lst ds], e =>
    have e : (intsOf ds).map (fun bs => Hd.d (.int bs.sum)) = some hd := e
    cases q : intsOf ds with
    | none => rw [q] at e; cases e
    | some bs =>
      rw [q] at e
      cases e
      obtain ⟨v, rfl, hh⟩ := h.one
      obtain ⟨a, ws, rfl, h1, h2⟩ := RdP.lst R.hr hh
      rw [ints_vals h2 q] at h1
      exact ⟨a, bs, rfl, SqL.of h1, k _ F m H (Nx.refl R) (hdr_d rp_int) New.d⟩
theorem good_int : GoodB g (fun xs H Q => (∃ i, xs = [V.int i] ∧ Q (.int i) H) ∨ ∃ k, xs = [V.bl k] ∧ Q (.int (if k then 1 else 0)) H) .int := by
  intro s σ F m H ds vs hd Q R h e k
  match ds, e with
  | [.int i], e =>
    cases e
    obtain ⟨v, rfl, hh⟩ := h.one
    rw [RdP.int hh]
    exact .inl ⟨i, rfl, k _ F m H (Nx.refl R) (hdr_d rp_int) New.d⟩
  | [.bl i], e =>
    cases e
    obtain ⟨v, rfl, hh⟩ := h.one
    rw [RdP.bl hh]
    exact .inr ⟨i, rfl, k _ F m H (Nx.refl R) (hdr_d rp_int) New.d⟩
theorem good_abs : GoodB g (fun xs H Q => ∃ i, xs = [V.int i] ∧ Q (.int (if i < 0 then -i else i)) H) .abs := by
  intro s σ F m H ds vs hd Q R h e k
  match ds, e with
  | [.int i], e =>
    cases e
    obtain ⟨v, rfl, hh⟩ := h.one
    rw [RdP.int hh]
    exact ⟨i, rfl, k _ F m H (Nx.refl R) (hdr_d rp_int) New.d⟩
theorem good_min2 : GoodB g (fun xs H Q => ∃ i j, xs = [V.int i, V.int j] ∧ Q (.int (if j < i then j else i)) H) .min2 := by
  intro s σ F m H ds vs hd Q R h e k
  match ds, e with
  | [.int i, .int j], e =>
    cases e
    obtain ⟨v, w, rfl, hh, hh'⟩ := h.two
    rw [RdP.int hh, RdP.int hh']
    exact ⟨i, j, rfl, k _ F m H (Nx.refl R) (hdr_d rp_int) New.d⟩
theorem good_max2 : GoodB g (fun xs H Q => ∃ i j, xs = [V.int i, V.int j] ∧ Q (.int (if j > i then j else i)) H) .max2 := by
  intro s σ F m H ds vs hd Q R h e k
  match ds, e with
  | [.int i, .int j], e =>
    cases e
    obtain ⟨v, w, rfl, hh, hh'⟩ := h.two
    rw [RdP.int hh, RdP.int hh']
    exact ⟨i, j, rfl, k _ F m H (Nx.refl R) (hdr_d rp_int) New.d⟩
/-! ### isinstance -/
/-- the type of a datum -/
def tyD : D → Option String
  | .non => some "NoneType"
  | .bl _ => some "bool"
  | .int _ => some "int"
  | .str _ => some "str"
  | .tup _ => some "tuple"
  | .lst _ => some "list"
  | _ => none
theorem tyD_ok {s : Sg} {F : Hp} {m : List Addr} {H : Hp} {d : D} {v : V} {t : String} (r : HR g.K g.TT F m s.sto H) (h : RdP g.K F m H d v) (e : tyD d = some t) : TyX g.K H v (.type t) := by
  cases d with
  | non => cases e; rw [RdP.non h]; exact .base .non
  | bl b => cases e; rw [RdP.bl h]; exact .base (.bl b)
  | int b => cases e; rw [RdP.int h]; exact .base (.int b)
  | str b => cases e; rw [RdP.str h]; exact .base (.str b)
  | tup ds =>
    cases e
    obtain ⟨a, vs, rfl, h1, _⟩ := RdP.tup r h
    rcases h1 with (h1 | ⟨o, h1⟩) | ⟨o, its, n, h1, h2, _⟩
    · exact .base (.tup h1)
    · exact .fTuple h1
    · exact .kTuple h1 h2
  | lst ds =>
    cases e
    obtain ⟨a, vs, rfl, h1, _⟩ := RdP.lst r h
    exact .base (.lst h1)
  | fl _ => cases e
  | ref _ => cases e
def tyB : B → String
  | .isInt => "int"
  | .isBool => "bool"
  | .isTup => "tuple"
  | _ => "str"
def isB : B → Bool
  | .isInt => true
  | .isBool => true
  | .isTup => true
  | .isStr => true
  | _ => false
theorem isB_val {b : B} (hb : isB b = true) {ds : List D} {hd : Hd} (e : bcall b ds = some hd) : ∃ d t k, ds = [d] ∧ tyD d = some t ∧ hd = .d (.bl k) ∧ ∀ K, PySem.W.kitOne K (.type t) (.type (tyB b)) = some k := by
  cases b with
  | isInt =>
    match ds, e with
    | [d], e =>
      cases d with
      | fl _ => cases e
      | ref _ => cases e
      | _ => cases e; exact ⟨_, _, _, rfl, rfl, rfl, fun K => kit_ty (by decide +kernel)⟩
  | isBool =>
    match ds, e with
    | [d], e =>
      cases d with
      | fl _ => cases e
      | ref _ => cases e
      | _ => cases e; exact ⟨_, _, _, rfl, rfl, rfl, fun K => kit_ty (by decide +kernel)⟩
  | isTup =>
    match ds, e with
    | [d], e =>
      cases d with
      | fl _ => cases e
      | ref _ => cases e
      | _ => cases e; exact ⟨_, _, _, rfl, rfl, rfl, fun K => kit_ty (by decide +kernel)⟩
  | isStr =>
    match ds, e with
    | [d], e =>
      cases d with
      | fl _ => cases e
      | ref _ => cases e
      | _ => cases e; exact ⟨_, _, _, rfl, rfl, rfl, fun K => kit_ty (by decide +kernel)⟩
  | _ => cases hb
end
end Rf

set_option Elab.async false
set_option linter.all false
set_option maxRecDepth 100000
/-! R9: the rules of built-ins by name; list(range(..)); what changes a list that a slot owns, an object of the store. -/
namespace Rf
open PySem L2
section
variable {K : PySem.W.Frag} {TT : List (Addr × Str)} {s : Sg} {σ : L2.St} {F : Hp} {m : List Addr} {H : Hp}
theorem nodup_ix' {α : Type} {l : List α} (h : l.Nodup) : ∀ {i j : Nat} {x : α}, l[i]? = some x → l[j]? = some x → i = j := by
  induction h with
  | nil => intro i j x e; simp at e
  | @cons a l ha _ ih =>
    intro i j x e1 e2
    cases i with
    | zero =>
      cases j with
      | zero => rfl
      | succ j =>
        have z : a = x := by simpa using e1
        exact absurd z (ha x (List.mem_of_getElem? (by simpa using e2)))
    | succ i =>
      cases j with
      | zero =>
        have z : a = x := by simpa using e2
        exact absurd z (ha x (List.mem_of_getElem? (by simpa using e1)))
      | succ j => exact congrArg (· + 1) (ih (by simpa using e1) (by simpa using e2))
/-- the list that slot i owns is another one now -/
theorem Rel.setOwn {i : Nat} {ds es : List D} {a : Addr} {ws : List V} (R : Rel K TT s σ F m H) (e : s.env[i]? = some (.own ds)) (ea : σ[i]? = some (some (.ref a))) (r : Rps K F m es ws) :
    Nx K TT s σ F m H { s with env := s.env.set i (.own es) } F m (upd H a (.lst ws)) := by
  obtain ⟨b, vs, h1, h2, h3, h4, h5⟩ := R.sr.own i ds e
  rw [ea] at h1
  cases h1
  have hi : i < s.env.length := (List.getElem?_eq_some_iff.mp e).1
  have own : OwnA s.env σ a := ⟨i, ds, e, ea⟩
  have sub : ∀ (j : Nat) xs, (s.env.set i (.own es))[j]? = some (.own xs) → (j = i ∧ xs = es) ∨ (j ≠ i ∧ s.env[j]? = some (.own xs)) := fun j xs q => by
    by_cases ej : i = j
    · subst ej
      rw [List.getElem?_set_self hi] at q
      cases q
      exact .inl ⟨rfl, rfl⟩
    · rw [List.getElem?_set_ne ej] at q
      exact .inr ⟨Ne.symm ej, q⟩
  refine ⟨⟨⟨fun b o q => ?_, R.hr.len, R.hr.nd, R.hr.mF, fun n b o q1 q2 => ?_, fun p hp => ?_, R.hr.noTab⟩, ⟨by simpa using R.sr.len, fun j d q => ?_, fun j xs q => ?_, fun j k d1 d2 b hne q1 q2 q3 q4 => ?_⟩⟩,
    ⟨SubF.refl _, List.prefix_rfl, fun _ h => .inl h, fun b o q1 q2 q3 q4 => ?_, fun _ _ _ => rfl, fun b q => ?_⟩, fun j xs q => ?_⟩
  · rw [upd_ne (fun z => by rw [z, h4] at q; cases q)]
    exact R.hr.sub b o q
  · have hb : b ∈ m := List.mem_of_getElem? q1
    have := R.hr.obj n b o q1 q2
    rw [upd_ne (fun z => h5 (by rw [← z]; exact hb))]
    exact this
  · obtain ⟨ps, t1, t2, t3⟩ := R.hr.tabs p hp
    refine ⟨ps, by rw [upd_ne (fun z => by rw [z, h2] at t1; cases t1)]; exact t1, t2, fun pos cv hc => ?_⟩
    obtain ⟨c, u1, u2⟩ := t3 pos cv hc
    exact ⟨c, u1, by rw [upd_ne (fun z => by rw [z, h2] at u2; unfold LamX.CodeO at u2; cases u2)]; exact u2⟩
  · by_cases ej : i = j
    · subst ej
      rw [List.getElem?_set_self hi] at q; cases q
    · rw [List.getElem?_set_ne ej] at q
      exact R.sr.val j d q
  · rcases sub j xs q with ⟨rfl, rfl⟩ | ⟨hne, q⟩
    · exact ⟨a, ws, ea, upd_same, r, h4, h5⟩
    · obtain ⟨b, us, g1, g2, g3, g4, g5⟩ := R.sr.own j xs q
      have hb : b ≠ a := fun z => R.sr.apart i j ds xs a (Ne.symm hne) e q ea (by rw [← z]; exact g1)
      exact ⟨b, us, g1, by rw [upd_ne hb]; exact g2, g3, g4, g5⟩
  · rcases sub j d1 q1 with ⟨rfl, rfl⟩ | ⟨n1, p1⟩
    · rcases sub k d2 q2 with ⟨rfl, rfl⟩ | ⟨n2, p2⟩
      · exact hne rfl
      · exact R.sr.apart j k ds d2 b hne e p2 q3 q4
    · rcases sub k d2 q2 with ⟨rfl, rfl⟩ | ⟨n2, p2⟩
      · exact R.sr.apart j k d1 ds b hne p1 e q3 q4
      · exact R.sr.apart j k d1 d2 b hne p1 p2 q3 q4
  · rw [upd_ne (fun z => q3 (by rw [z]; exact own))]
    exact q1
  · by_cases z : b = a
    · rw [z]; exact .lst upd_same
    · obtain ⟨u, e1, e2⟩ := q
      exact ⟨u, by rw [upd_ne z]; exact e1, e2⟩
  · rcases sub j xs q with ⟨rfl, rfl⟩ | ⟨n1, p1⟩
    · exact ⟨ds, e⟩
    · exact ⟨xs, p1⟩
/-- an object of the store is another one now -/
theorem Rel.setSto {n : Nat} {ds es : List D} {a : Addr} {ws : List V} (R : Rel K TT s σ F m H) (e : s.sto[n]? = some (.lst ds)) (ea : m[n]? = some a) (r : Rps K F m es ws) :
    Nx K TT s σ F m H { s with sto := s.sto.set n (.lst es) } F m (upd H a (.lst ws)) := by
  obtain ⟨vs, h2, h3⟩ := R.hr.obj n a _ ea e
  have ham : a ∈ m := List.mem_of_getElem? ea
  have hn : n < s.sto.length := (List.getElem?_eq_some_iff.mp e).1
  refine ⟨⟨⟨fun b o q => ?_, by simpa using R.hr.len, R.hr.nd, R.hr.mF, fun k b o q1 q2 => ?_, fun p hp => ?_, R.hr.noTab⟩, ⟨R.sr.len, R.sr.val, fun j xs q => ?_, R.sr.apart⟩⟩,
    ⟨SubF.refl _, List.prefix_rfl, fun _ h => .inl h, fun b o q1 q2 q3 q4 => ?_, fun _ _ _ => rfl, fun b q => ?_⟩, OwnSub.refl _⟩
  · rw [upd_ne (fun z => by rw [z, R.hr.mF a ham] at q; cases q)]
    exact R.hr.sub b o q
  · by_cases ek : n = k
    · subst ek
      rw [ea] at q1
      cases q1
      rw [List.getElem?_set_self hn] at q2
      cases q2
      exact ⟨ws, upd_same, r⟩
    · rw [List.getElem?_set_ne ek] at q2
      have hb : b ≠ a := fun z => by
        subst z
        exact ek (nodup_ix' R.hr.nd ea q1)
      have := R.hr.obj k b o q1 q2
      rw [upd_ne hb]
      exact this
  · obtain ⟨ps, t1, t2, t3⟩ := R.hr.tabs p hp
    refine ⟨ps, by rw [upd_ne (fun z => by rw [z, h2] at t1; cases t1)]; exact t1, t2, fun pos cv hc => ?_⟩
    obtain ⟨c, u1, u2⟩ := t3 pos cv hc
    exact ⟨c, u1, by rw [upd_ne (fun z => by rw [z, h2] at u2; unfold LamX.CodeO at u2; cases u2)]; exact u2⟩
  · obtain ⟨b, us, g1, g2, g3, g4, g5⟩ := R.sr.own j xs q
    exact ⟨b, us, g1, by rw [upd_ne (fun z => g5 (by rw [z]; exact ham))]; exact g2, g3, g4, g5⟩
  · rw [upd_ne (fun z => q2 (by rw [z]; exact ham))]
    exact q1
  · by_cases z : b = a
    · rw [z]; exact .lst upd_same
    · obtain ⟨u, e1, e2⟩ := q
      exact ⟨u, by rw [upd_ne z]; exact e1, e2⟩
end
section
variable {g : Gx} {n : Nat} {W : WX} {X : Cx}
set_option maxHeartbeats 2000000
def bltNames : List Str := (["len", "tuple", "list", "all", "any", "sum", "int", "abs", "min", "max", "isinstance", "range", "enumerate", "zip", "bool", "str", "set", "sorted"] : List String).map Str.ofString
/-- a built-in by its name, its arguments in order -/
theorem sd_bOf {x : Str} {e : Expr} {es : List Expr} {es' : List E} {b : B} {p pos : Pos} (hK : X.K = g.K) (hc : X.calm = true) (hu : X.A.units + 65 < cLine) (hb : bOf x (es.length + 1) = some b) (hg : Gl X x) (hm : ∀ y ∈ bltNames, X.mg y = none) (ha : PA X (e :: es) (tHs g n W es'))
    (he : starEach (e :: es) X.env = (false, eval e X.env) :: starEach es X.env) (hpl : (backTo pos (starEach es X.env)).any (·.1) = false) : PE X (.Call (.Name x p) (e :: es) [] pos) (tE g n W (.bcall b es')) := by
  have hm' : ∀ (t : String), Str.ofString t ∈ bltNames → X.mg (Str.ofString t) = none := fun t ht => hm _ ht
  unfold bOf at hb
  split at hb
  · rename_i ex
    subst ex
    split at hb <;> cases hb
    exact sd_builtin ha (fun ht => pe_callB (CallR.or call_len_seq call_len_str) hg (hm _ (by decide +kernel)) boot_len ht (by decide) (by decide) he hpl) (by rw [hK]; exact good_len)
  split at hb
  · rename_i ex
    subst ex
    split at hb <;> cases hb
    exact sd_builtin ha (fun ht => pe_callTy call_tuple_of hg (hm _ (by decide +kernel)) (by decide +kernel) ht (by decide) (by decide) he hpl) (by rw [hK]; exact good_tuple)
  split at hb
  · rename_i ex
    subst ex
    split at hb <;> cases hb
    exact sd_builtin ha (fun ht => pe_callTy call_list_of hg (hm _ (by decide +kernel)) (by decide +kernel) ht (by decide) (by decide) he hpl) (by rw [hK]; exact good_list)
  split at hb
  · rename_i ex
    subst ex
    split at hb <;> cases hb
    exact sd_builtin ha (fun ht => pe_callB (CallR.or (cr_all hc) (cr_allI hc)) hg (hm _ (by decide +kernel)) (by decide +kernel) ht (by decide) (by decide) he hpl) (by rw [hK]; exact good_all)
  split at hb
  · rename_i ex
    subst ex
    split at hb <;> cases hb
    exact sd_builtin ha (fun ht => pe_callB (CallR.or (cr_any hc) (cr_anyI hc)) hg (hm _ (by decide +kernel)) (by decide +kernel) ht (by decide) (by decide) he hpl) (by rw [hK]; exact good_any)
  split at hb
  · rename_i ex
    subst ex
    split at hb <;> cases hb
    exact sd_builtin ha (fun ht => pe_callB (cr_sum hc) hg (hm _ (by decide +kernel)) (by decide +kernel) ht (by decide) (by decide) he hpl) (by rw [hK]; exact good_sum)
  split at hb
  · rename_i ex
    subst ex
    split at hb <;> cases hb
    exact sd_builtin ha (fun ht => pe_callTy call_int1 hg (hm _ (by decide +kernel)) (by decide +kernel) ht (by decide) (by decide) he hpl) good_int
  split at hb
  · rename_i ex
    subst ex
    split at hb <;> cases hb
    exact sd_builtin ha (fun ht => pe_callB call_abs hg (hm _ (by decide +kernel)) (by decide +kernel) ht (by decide) (by decide) he hpl) good_abs
  unfold bOf2 at hb
  split at hb
  · rename_i ex
    subst ex
    split at hb
    · cases hb
      exact sd_builtin ha (fun ht => pe_callB (call_min2 hc) hg (hm _ (by decide +kernel)) (by decide +kernel) ht (by decide) (by decide) he hpl) good_min2
    · split at hb <;> cases hb
      exact sd_builtin ha (fun ht => pe_callB (cr_min2 hc hu) hg (hm _ (by decide +kernel)) (by decide +kernel) ht (by decide) (by decide) he hpl) (by rw [hK]; exact good_min1)
  split at hb
  · rename_i ex
    subst ex
    split at hb
    · cases hb
      exact sd_builtin ha (fun ht => pe_callB (call_max2 hc) hg (hm _ (by decide +kernel)) (by decide +kernel) ht (by decide) (by decide) he hpl) good_max2
    · split at hb <;> cases hb
      exact sd_builtin ha (fun ht => pe_callB (cr_max hc) hg (hm _ (by decide +kernel)) (by decide +kernel) ht (by decide) (by decide) he hpl) (by rw [hK]; exact good_max1)
  split at hb
  · rename_i ex
    subst ex
    split at hb <;> cases hb
    exact sd_builtin ha (fun ht => pe_callB cr_sortedI hg (hm _ (by decide +kernel)) (by decide +kernel) ht (by decide) (by decide) he hpl) (by rw [hK]; exact good_sorted)
  cases hb
/-- isinstance(a, T) -/
theorem sd_isOf {y : Str} {a : Expr} {a' : E} {b : B} {p p2 pos : Pos} (hK : X.K = g.K) (hb : isOf y = some b) (hg : Gl X "isinstance") (hgy : Gl X y) (hm : ∀ y ∈ bltNames, X.mg y = none) (ha : PE X a (tE g n W a'))
    (he : starEach [a, .Name y p2] X.env = (false, eval a X.env) :: starEach [.Name y p2] X.env) : PE X (.Call (.Name "isinstance" p) [a, .Name y p2] [] pos) (tE g n W (.bcall b [a'])) := by
  have hy : isB b = true ∧ ∃ t : String, y = Str.ofString t ∧ tyB b = t ∧ bootBuiltins y = some (.type t) ∧ y ∈ bltNames ∧ y ≠ "__name__" ∧ (y == ("__debug__" : Str)) = false := by
    unfold isOf at hb
    split at hb
    · rename_i e; cases hb; subst e; exact ⟨rfl, "int", rfl, rfl, by decide +kernel, by decide +kernel, by decide, by decide⟩
    split at hb
    · rename_i e; cases hb; subst e; exact ⟨rfl, "bool", rfl, rfl, by decide +kernel, by decide +kernel, by decide, by decide⟩
    split at hb
    · rename_i e; cases hb; subst e; exact ⟨rfl, "tuple", rfl, rfl, by decide +kernel, by decide +kernel, by decide, by decide⟩
    split at hb
    · rename_i e; cases hb; subst e; exact ⟨rfl, "str", rfl, rfl, by decide +kernel, by decide +kernel, by decide, by decide⟩
    cases hb
  obtain ⟨hi, t, _, ht, hbv, hym, hn, hd⟩ := hy
  have py : PE X (.Name y p2) (tC (.ty t)) := pe_bltn hgy (hm _ hym) hbv rfl hn hd
  refine (pe_callB call_isi hg (hm _ (by decide +kernel)) (by decide +kernel) (pa_cons ha (pa_cons py pa_nil) he) (by decide) (by decide) he rfl).imp fun σ H Q ⟨s, F, m, r0, h⟩ => ?_
  rw [evE] at h
  have h : Res (bnd (evHs (g.cl n) [a'] s) fun hs s1 => opt ((hs.mapM s1.rd).bind fun ds => bcall b ds) s1) (fun h s' => ∀ v F' m' H', NX g s σ F m H s' F' m' H' → repH g h s' σ F' m' H' H v → Q v H') (PX g W s σ F m H) := h
  have e1 : evHs (g.cl n) [a'] s = bnd (evE (g.cl n) a' s) fun d s1 => okk [d] s1 := by
    rw [evHs]
    cases evE (g.cl n) a' s with
    | none => rfl
    | some q =>
      obtain ⟨o, s1⟩ := q
      cases o with
      | exc x => rfl
      | ok d => simp only [bnd_ok]; rw [evHs]; rfl
  rw [e1] at h
  have h2 : Res (bnd (evE (g.cl n) a' s) fun hd s1 => opt ((s1.rd hd).bind fun d => bcall b [d]) s1) (fun h s' => ∀ v F' m' H', NX g s σ F m H s' F' m' H' → repH g h s' σ F' m' H' H v → Q v H') (PX g W s σ F m H) := by
    revert h
    cases evE (g.cl n) a' s with
    | none => exact id
    | some q =>
      obtain ⟨o, s1⟩ := q
      cases o with
      | exc x => exact id
      | ok d =>
        simp only [bnd_ok]
        rw [show List.mapM s1.rd [d] = (s1.rd d).bind fun x => some [x] by
          rw [List.mapM_cons]
          cases s1.rd d <;> rfl]
        cases s1.rd d <;> exact id
  refine RdE.step (Nx.refl r0) h2 fun hd s1 x F1 m1 H1 h3 n1 t1 r1 => ?_
  obtain ⟨hr, e2, k⟩ := h3.opt
  cases q : s1.rd hd with
  | none => rw [q] at e2; cases e2
  | some d =>
    rw [q] at e2
    obtain ⟨d', ty, kk, ed, ety, rfl, hk⟩ := isB_val hi e2
    cases ed
    rw [hK]
    refine ⟨x, .ty t, .type ty, .type t, kk, rfl, .ty t, tyD_ok t1.rel.hr (t1.rel.rd r1.1 q) ety, by rw [← ht]; exact hk _, k _ F1 m1 H1 t1 (.d rp_bl)⟩
/-- list(range(a)), list(range(a, b)) -/
theorem rps_range {F : Hp} {m : List Addr} (f : Nat → Int) : ∀ l : List Nat, Rps g.K F m (l.map fun k => D.int (f k)) (l.map fun k => V.int (f k))
  | [] => Rps.nil
  | k :: l => Rps.cons rp_int (rps_range f l)
theorem sd_rangeL1 {a : Expr} {a' : E} {p p2 pos pos2 : Pos} (hc : X.calm = true) (hg : Gl X "list") (hgr : Gl X "range") (hm : ∀ y ∈ bltNames, X.mg y = none) (ha : PE X a (tE g n W a'))
    (h1 : starEach [a] X.env = (false, eval a X.env) :: starEach [] X.env) : PE X (.Call (.Name "list" p) [.Call (.Name "range" p2) [a] [] pos2] [] pos) (tE g n W (.rangeL [a'])) := by
  refine (pe_listRg hc hg (hm _ (by decide +kernel)) (prg_1 hgr (hm _ (by decide +kernel)) (pe_D ha) h1)).imp fun σ H Q ⟨s, F, m, r0, h⟩ => ?_
  rw [evE, evEs] at h
  have h2 : Res (bnd (frz (evE (g.cl n) a' s)) fun d s1 => match rangeI [d] with | none => none | some xs => if xs.length ≤ 1000 then okk (Hd.own xs) s1 else none) (fun h s' => ∀ v F' m' H', NX g s σ F m H s' F' m' H' → repH g h s' σ F' m' H' H v → Q v H') (PX g W s σ F m H) := by
    revert h
    cases frz (evE (g.cl n) a' s) with
    | none => exact id
    | some q =>
      obtain ⟨o, s1⟩ := q
      cases o with
      | exc x => exact id
      | ok d => simp only [bnd_ok]; rw [evEs]; exact id
  refine RdE.step (Nx.refl r0) h2 fun d s1 x F1 m1 H1 h3 n1 t1 r1 => ?_
  have r1 : Rp g.K F1 m1 d x := r1
  cases d with
  | int k =>
    rw [Rp] at r1
    have h3 : Res (match (@ite (Option (List D)) (-(2 ^ 62) ≤ k ∧ k < 2 ^ 62) (Classical.propDecidable _) (some ((List.range k.toNat).map fun k => D.int (k : Nat))) none) with | none => none | some xs => if xs.length ≤ 1000 then okk (Hd.own xs) s1 else none) (fun h s' => ∀ v F' m' H', NX g s σ F m H s' F' m' H' → repH g h s' σ F' m' H' H v → Q v H') (PX g W s σ F m H) := h3
    split at h3
    · exact h3.elim
    · rename_i xs e
      split at e
      · rename_i z
        cases e
        split at h3
        · rename_i z2
          rw [List.length_map, List.length_range] at z2
          refine ⟨k, r1, ⟨by omega, by omega, z.1, z.2, by rw [Int.sub_zero]; exact Nat.le_trans z2 (by decide)⟩, fun q hq => ?_⟩
          have e1 : rgV 0 k = (List.range k.toNat).map fun i => V.int (i : Nat) := by
            unfold rgV
            rw [Int.sub_zero]
            congr 1
            funext i
            rw [Int.zero_add]
          rw [e1]
          obtain ⟨n2, r2⟩ := t1.rel.newOwn hq (rps_range (g := g) (F := F1) (m := m1) (fun k => (k : Nat)) (List.range k.toNat))
          exact h3 _ _ _ _ (t1.trans n2) ⟨r2, New.back t1 (fun _ _ c ec => by cases ec; exact Nt.no hq)⟩
        · exact h3.elim
      · cases e
  | _ => exact h3.elim
/-! ### methods of texts -/
/-- what a method of a text is worth -/
def GoodM (g : Gx) (r : V → List V → Hp → VK → Prop) (m : SM) : Prop := ∀ (s : Sg) (σ : L2.St) (F : Hp) (mm : List Addr) (H : Hp) (a : Str) (q : D) (y : V) (h : Hd) (Q : VK), Rel g.K g.TT s σ F mm H → RdP g.K F mm H q y → smethI m a q = some h →
  (∀ v F' m' H', NX g s σ F mm H s F' m' H' → HdR g.K s.env σ F' m' H' h v → New H h v → Q v H') → r (.str a) [y] H Q
theorem strs_vals {F : Hp} {m : List Addr} : ∀ {ds : List D} {vs : List V} {ys : List Str}, Rps g.K F m ds vs → strsOf ds = some ys → vs = ys.map V.str
  | [], vs, ys, h, e => by
    rw [Rps] at h
    cases e
    exact h
  | d :: ds, vs, ys, h, e => by
    rw [Rps] at h
    obtain ⟨v, vr, rfl, q, t⟩ := h
    cases d with
    | str x =>
      have e : (strsOf ds).map (x :: ·) = some ys := e
      obtain ⟨yr, e1, rfl⟩ := Option.map_eq_some_iff.mp e
      rw [Rp] at q
      rw [q, strs_vals t e1]
      rfl
    | _ => cases e
theorem rps_strs {F : Hp} {m : List Addr} : ∀ l : List Str, Rps g.K F m (l.map D.str) (l.map V.str)
  | [] => Rps.nil
  | i :: l => Rps.cons rp_str (rps_strs l)
theorem good_join (hK : X.K = g.K) : GoodM g (fun x xs H Q => ∃ a p, ∃ ys : List Str, x = .str a ∧ xs = [.ref p] ∧ (SqL X.K H p (ys.map V.str) ∨ SqT X.K H p (ys.map V.str)) ∧
    (ys.map (·.length)).sum + ys.length * a.length ≤ 16777216 ∧ Q (.str (Txt.join a ys)) H) .join := by
  intro s σ F m H a q y h Q R hq e k
  rw [hK]
  cases q with
  | lst ds =>
    have e : ((strsOf ds).bind fun ys => if (ys.map (·.length)).sum + ys.length * a.length ≤ 16777216 then some (Hd.d (.str (Txt.join a ys))) else none) = some h := e
    obtain ⟨ys, e1, e2⟩ := Option.bind_eq_some_iff.mp e
    split at e2
    · rename_i hz
      cases e2
      obtain ⟨p, ws, rfl, h1, h2⟩ := RdP.lst R.hr hq
      rw [strs_vals h2 e1] at h1
      exact ⟨a, p, ys, rfl, rfl, .inl (SqL.of h1), hz, k _ F m H (Nx.refl R) (hdr_d rp_str) New.d⟩
    · cases e2
  | tup ds =>
    have e : ((strsOf ds).bind fun ys => if (ys.map (·.length)).sum + ys.length * a.length ≤ 16777216 then some (Hd.d (.str (Txt.join a ys))) else none) = some h := e
    obtain ⟨ys, e1, e2⟩ := Option.bind_eq_some_iff.mp e
    split at e2
    · rename_i hz
      cases e2
      obtain ⟨p, ws, rfl, h1, h2⟩ := RdP.tup R.hr hq
      rw [strs_vals h2 e1] at h1
      exact ⟨a, p, ys, rfl, rfl, .inr h1, hz, k _ F m H (Nx.refl R) (hdr_d rp_str) New.d⟩
    · cases e2
  | _ => cases e
theorem good_split : GoodM g (fun x xs H Q => ∃ a b, x = .str a ∧ xs = [.str b] ∧ (b.length == 0) = false ∧ a.length + 2 ≤ sizeLine ∧ rNewStrs (Txt.split a b) H Q) .split := by
  intro s σ F m H a q y h Q R hq e k
  cases q with
  | str b =>
    have e : (if (b.length == 0) = false ∧ a.length + 2 ≤ sizeLine ∧ (Txt.split a b).length ≤ sizeLine then some (Hd.own ((Txt.split a b).map D.str)) else none) = some h := e
    split at e
    · rename_i hz
      cases e
      rw [RdP.str hq]
      refine ⟨a, b, rfl, rfl, hz.1, hz.2.1, fun l hl => ?_⟩
      obtain ⟨n1, r1⟩ := R.newOwn hl (rps_strs (F := F) (m := m) (Txt.split a b))
      exact k _ _ _ _ n1 r1 (fun _ _ c ec => by cases ec; exact Nt.no hl)
    · cases e
  | _ => cases e
theorem good_find : GoodM g (fun x xs H Q => ∃ a b, x = .str a ∧ xs = [.str b] ∧ Q (.int (Txt.find a b)) H) .find := by
  intro s σ F m H a q y h Q R hq e k
  cases q with
  | str b =>
    cases e
    rw [RdP.str hq]
    exact ⟨a, b, rfl, rfl, k _ F m H (Nx.refl R) (hdr_d rp_int) New.d⟩
  | _ => cases e
theorem good_index : GoodM g (fun x xs H Q => ∃ a b i rest, x = .str a ∧ xs = [.str b] ∧ Builtin.Str.occurrences a b 0 a.length 1 = i :: rest ∧ Q (.int (i : Nat)) H) .index := by
  intro s σ F m H a q y h Q R hq e k
  cases q with
  | str b =>
    have e : (match Builtin.Str.occurrences a b 0 a.length 1 with
      | i :: _ => some (Hd.d (.int (i : Nat)))
      | [] => none) = some h := e
    cases ho : Builtin.Str.occurrences a b 0 a.length 1 with
    | nil => rw [ho] at e; cases e
    | cons i rest =>
      rw [ho] at e
      cases e
      rw [RdP.str hq]
      exact ⟨a, b, i, rest, rfl, rfl, ho, k _ F m H (Nx.refl R) (hdr_d rp_int) New.d⟩
  | _ => cases e
theorem sd_sm {o e : Expr} {o' e' : E} {m : SM} {id : String} {name : Str} {r : V → List V → Hp → VK → Prop} {apos pos : Pos} (slot : PySem.Slot "str" name id) (ty : typeOf (.builtin id) = pure (.type "method_descriptor")) (rule : MtR X id r) (good : GoodM g r m)
    (ho : PE X o (tE g n W o')) (he : PE X e (tE g n W e')) (hs : starEach [e] X.env = [(false, eval e X.env)]) (hbase : attributeBase o name X.env (eval o X.env) = eval o X.env) (hline : (apos.endLine == pos.line) = true) :
    PE X (.Call (.Attribute o name apos) [e] [] pos) (tE g n W (.smeth m o' e')) := by
  refine (pe_m1 slot ty rule ho he hs hbase hline).imp fun σ H Q ⟨s, F, mm, r0, h⟩ => ?_
  rw [evE] at h
  refine RdE.step (Nx.refl r0) h fun hx s1 x F1 m1 H1 h1 n1 t1 r1 => ?_
  cases hx with
  | own ds => exact h1.elim
  | sl i => exact h1.elim
  | d dx =>
    cases dx with
    | str a =>
      have r1' : Rp g.K F1 m1 (.str a) x := r1.1
      rw [Rp] at r1'
      subst r1'
      refine ⟨⟨a, rfl⟩, ?_⟩
      refine RdE.step t1 h1 fun hy s2 y F2 m2 H2 h2 n2 t2 r2 => ?_
      obtain ⟨hd, e1, h3⟩ := h2.opt
      cases q2 : s2.rd hy with
      | none => rw [q2] at e1; cases e1
      | some q =>
        rw [q2] at e1
        exact good s2 σ F2 m2 H2 a q y hd Q t2.rel (t2.rel.rd r2.1 q2) e1 fun v F' m' H' n3 hv nw => h3 v F' m' H' (t2.trans n3) ⟨hv, nw.back t2⟩
    | _ => exact h1.elim
theorem sd_smeth (hK : X.K = g.K) {o e : Expr} {o' e' : E} {m : SM} {name : Str} {apos pos : Pos} (hm : smOf name = some m) (hp : plainE o = true)
    (ho : PE X o (tE g n W o')) (he : PE X e (tE g n W e')) (hs : starEach [e] X.env = [(false, eval e X.env)]) (hline : (apos.endLine == pos.line) = true) :
    PE X (.Call (.Attribute o name apos) [e] [] pos) (tE g n W (.smeth m o' e')) := by
  have hb : ∀ nm : Str, attributeBase o nm X.env (eval o X.env) = eval o X.env := fun nm => by
    cases o with
    | Name _ _ => rfl
    | Constant _ _ _ => rfl
    | _ => cases hp
  unfold smOf at hm
  split at hm
  · rename_i ex
    subst ex
    cases hm
    exact sd_sm PySem.F.slot_str_join PySem.F.type_str_join mt_join (good_join hK) ho he hs (hb _) hline
  split at hm
  · rename_i ex
    subst ex
    cases hm
    exact sd_sm PySem.F.slot_str_split PySem.F.type_str_split mt_split good_split ho he hs (hb _) hline
  split at hm
  · rename_i ex
    subst ex
    cases hm
    exact sd_sm PySem.F.slot_str_find PySem.F.type_str_find mt_find good_find ho he hs (hb _) hline
  split at hm
  · rename_i ex
    subst ex
    cases hm
    exact sd_sm PySem.F.slot_str_index PySem.F.type_str_index mt_sindex good_index ho he hs (hb _) hline
  cases hm
/-! ### methods of a slot's list -/
theorem sd_append {x : Str} {i : Nat} {e : Expr} {es' : List E} {p apos cpos : Pos} (hN : X.N[i]? = some x) (hv : Vis X.env.scope x) (hd : (x == ("__debug__" : Str)) = false) (hcd : (x == ("__classdict__" : Str)) = false) (ha : PA X [e] (tEs g n W es'))
    (hs : starEach [e] X.env = (false, eval e X.env) :: starEach [] X.env) (hline : (apos.endLine == cpos.line) = true) : PE X (.Call (.Attribute (.Name x p) "append" apos) [e] [] cpos) (tE g n W (.meth .append i es')) := by
  refine (pe_bm PySem.F.plainAttrs_list PySem.F.slot_list_append PySem.F.type_list_append mt_append (pe_var hN hv hd hcd) ha rfl (by rw [hs]; rfl) hline hs rfl).imp fun σ H Q ⟨s, F, m, r0, h⟩ => ?_
  rw [evE] at h
  cases e0 : s.env[i]? with
  | none => rw [e0] at h; exact h.elim
  | some sl =>
    rw [e0] at h
    cases sl with
    | un => exact h.elim
    | val d => exact h.elim
    | own ds0 =>
      obtain ⟨a, vs0, ea, eH, _⟩ := r0.sr.own i ds0 e0
      refine ⟨.ref a, ea, .inl ⟨rfl, vs0, SqL.of eH⟩, ?_⟩
      refine RdE.step (Nx.refl r0) h fun ds s1 xs F1 m1 H1 h1 n1 t1 r1 => ?_
      have r1 : Rps g.K F1 m1 ds xs := r1
      unfold methI at h1
      cases e1 : s1.env[i]? with
      | none => rw [e1] at h1; exact h1.elim
      | some sl =>
        rw [e1] at h1
        cases sl with
        | un => exact h1.elim
        | val d => exact h1.elim
        | own xs1 =>
          obtain ⟨b, ws, eb, eH1, rw1, _⟩ := t1.rel.sr.own i xs1 e1
          rw [ea] at eb
          cases eb
          match ds, h1, r1 with
          | [y], h1, r1 =>
            have h1 : Res (if xs1.length < sizeLine then okk (Hd.d .non) { s1 with env := s1.env.set i (.own (xs1 ++ [y])) } else none) (fun h s' => ∀ v F' m' H', NX g s σ F m H s' F' m' H' → repH g h s' σ F' m' H' H v → Q v H') (PX g W s σ F m H) := h1
            split at h1
            · rename_i hz
              rw [Rps] at r1
              obtain ⟨v, vr, rfl, ry, rn⟩ := r1
              rw [Rps] at rn
              subst rn
              exact ⟨a, ws, v, rfl, rfl, eH1, by rw [← rw1.len]; exact hz, h1 _ _ _ _ (t1.trans (t1.rel.setOwn e1 ea (rw1.append (.cons ry .nil)))) ⟨hdr_d rp_non, New.d⟩⟩
            · exact h1.elim
          | [], h1, _ => exact h1.elim
          | _ :: _ :: _, h1, _ => exact h1.elim
theorem sd_extend {x : Str} {i : Nat} {e : Expr} {es' : List E} {p apos cpos : Pos} (hN : X.N[i]? = some x) (hv : Vis X.env.scope x) (hd : (x == ("__debug__" : Str)) = false) (hcd : (x == ("__classdict__" : Str)) = false) (ha : PA X [e] (tEs g n W es'))
    (hs : starEach [e] X.env = (false, eval e X.env) :: starEach [] X.env) (hline : (apos.endLine == cpos.line) = true) : PE X (.Call (.Attribute (.Name x p) "extend" apos) [e] [] cpos) (tE g n W (.meth .extend i es')) := by
  refine (pe_bm PySem.F.plainAttrs_list PySem.F.slot_list_extend PySem.F.type_list_extend mt_extend (pe_var hN hv hd hcd) ha rfl (by rw [hs]; rfl) hline hs rfl).imp fun σ H Q ⟨s, F, m, r0, h⟩ => ?_
  rw [evE] at h
  cases e0 : s.env[i]? with
  | none => rw [e0] at h; exact h.elim
  | some sl =>
    rw [e0] at h
    cases sl with
    | un => exact h.elim
    | val d => exact h.elim
    | own ds0 =>
      obtain ⟨a, vs0, ea, eH, _⟩ := r0.sr.own i ds0 e0
      refine ⟨.ref a, ea, .inl ⟨rfl, vs0, SqL.of eH⟩, ?_⟩
      refine RdE.step (Nx.refl r0) h fun ds s1 xs F1 m1 H1 h1 n1 t1 r1 => ?_
      have r1 : Rps g.K F1 m1 ds xs := r1
      unfold methI at h1
      cases e1 : s1.env[i]? with
      | none => rw [e1] at h1; exact h1.elim
      | some sl =>
        rw [e1] at h1
        cases sl with
        | un => exact h1.elim
        | val d => exact h1.elim
        | own xs1 =>
          obtain ⟨b, ws, eb, eH1, rw1, _⟩ := t1.rel.sr.own i xs1 e1
          rw [ea] at eb
          cases eb
          match ds, h1, r1 with
          | [.lst zs], h1, r1 =>
            have h1 : Res (if xs1.length + zs.length ≤ sizeLine then okk (Hd.d .non) { s1 with env := s1.env.set i (.own (xs1 ++ zs)) } else none) (fun h s' => ∀ v F' m' H', NX g s σ F m H s' F' m' H' → repH g h s' σ F' m' H' H v → Q v H') (PX g W s σ F m H) := h1
            split at h1
            · rename_i hz
              rw [Rps] at r1
              obtain ⟨v, vr, rfl, ry, rn⟩ := r1
              rw [Rps] at rn
              subst rn
              rw [Rp] at ry
              obtain ⟨c, us, rfl, eF, ru⟩ := ry
              exact ⟨a, c, ws, us, rfl, rfl, eH1, t1.rel.hr.sub _ _ eF, by rw [← rw1.len, ← ru.len]; exact hz, h1 _ _ _ _ (t1.trans (t1.rel.setOwn e1 ea (rw1.append ru))) ⟨hdr_d rp_non, New.d⟩⟩
            · exact h1.elim
          | [], h1, _ => exact h1.elim
          | d0 :: _ :: _, h1, _ => cases d0 <;> exact h1.elim
          | [.non], h1, _ => exact h1.elim
          | [.bl _], h1, _ => exact h1.elim
          | [.int _], h1, _ => exact h1.elim
          | [.str _], h1, _ => exact h1.elim
          | [.tup _], h1, _ => exact h1.elim
          | [.fl _], h1, _ => exact h1.elim
          | [.ref _], h1, _ => exact h1.elim
theorem sd_popAt {x : Str} {i : Nat} {e : Expr} {es' : List E} {p apos cpos : Pos} (hN : X.N[i]? = some x) (hv : Vis X.env.scope x) (hd : (x == ("__debug__" : Str)) = false) (hcd : (x == ("__classdict__" : Str)) = false) (ha : PA X [e] (tEs g n W es'))
    (hs : starEach [e] X.env = (false, eval e X.env) :: starEach [] X.env) (hline : (apos.endLine == cpos.line) = true) : PE X (.Call (.Attribute (.Name x p) "pop" apos) [e] [] cpos) (tE g n W (.meth .popAt i es')) := by
  refine (pe_bm PySem.F.plainAttrs_list PySem.F.slot_list_pop PySem.F.type_list_pop mt_popAt (pe_var hN hv hd hcd) ha rfl (by rw [hs]; rfl) hline hs rfl).imp fun σ H Q ⟨s, F, m, r0, h⟩ => ?_
  rw [evE] at h
  cases e0 : s.env[i]? with
  | none => rw [e0] at h; exact h.elim
  | some sl =>
    rw [e0] at h
    cases sl with
    | un => exact h.elim
    | val d => exact h.elim
    | own ds0 =>
      obtain ⟨a, vs0, ea, eH, _⟩ := r0.sr.own i ds0 e0
      refine ⟨.ref a, ea, .inl ⟨rfl, vs0, SqL.of eH⟩, ?_⟩
      refine RdE.step (Nx.refl r0) h fun ds s1 xs F1 m1 H1 h1 n1 t1 r1 => ?_
      have r1 : Rps g.K F1 m1 ds xs := r1
      unfold methI at h1
      cases e1 : s1.env[i]? with
      | none => rw [e1] at h1; exact h1.elim
      | some sl =>
        rw [e1] at h1
        cases sl with
        | un => exact h1.elim
        | val d => exact h1.elim
        | own xs1 =>
          obtain ⟨b, ws, eb, eH1, rw1, _⟩ := t1.rel.sr.own i xs1 e1
          rw [ea] at eb
          cases eb
          match ds, h1, r1 with
          | [.int k], h1, r1 =>
            have h1 : Res (@ite (Rs Hd) (-(2 ^ 63) ≤ k ∧ k < 2 ^ 63) (Classical.propDecidable _) (match ixNat xs1.length k with | some j => (match xs1[j]? with | some y => okk (Hd.d y) { s1 with env := s1.env.set i (.own (xs1.eraseIdx j)) } | none => none) | none => none) none) (fun h s' => ∀ v F' m' H', NX g s σ F m H s' F' m' H' → repH g h s' σ F' m' H' H v → Q v H') (PX g W s σ F m H) := h1
            split at h1
            · rename_i hz
              split at h1
              · rename_i j ej
                split at h1
                · rename_i y ey
                  rw [Rps] at r1
                  obtain ⟨v, vr, rfl, ry, rn⟩ := r1
                  rw [Rps] at rn
                  subst rn
                  rw [Rp] at ry
                  obtain ⟨w, hw, rpw⟩ := rw1.get ey
                  have q := ixN_seq (n := xs1.length) (i := k) (j := j) ej
                  exact ⟨a, ws, k, j, w, rfl, by rw [ry], eH1, hz.1, hz.2, by rw [← rw1.len]; exact q.1, hw, h1 _ _ _ _ (t1.trans (t1.rel.setOwn e1 ea (rw1.erase j))) ⟨hdr_d rpw, New.d⟩⟩
                · exact h1.elim
              · exact h1.elim
            · exact h1.elim
          | [], h1, _ => exact h1.elim
          | d0 :: _ :: _, h1, _ => cases d0 <;> exact h1.elim
          | [.non], h1, _ => exact h1.elim
          | [.bl _], h1, _ => exact h1.elim
          | [.str _], h1, _ => exact h1.elim
          | [.tup _], h1, _ => exact h1.elim
          | [.lst _], h1, _ => exact h1.elim
          | [.fl _], h1, _ => exact h1.elim
          | [.ref _], h1, _ => exact h1.elim
end
end Rf

set_option Elab.async false
set_option linter.all false
set_option maxRecDepth 100000
/-! R10: states whose slots change; targets. -/
namespace Rf
open PySem L2
/-- from one state to a later one, the slots' values too -/
structure SN (g : Gx) (s : Sg) (σ : L2.St) (F : Hp) (m : List Addr) (H : Hp) (s' : Sg) (σ' : L2.St) (F' : Hp) (m' : List Addr) (H' : Hp) : Prop where
  rel : Rel g.K g.TT s' σ' F' m' H'
  fr : Fr s.env σ F m H F' m' H'
  os : ∀ a, Nt H a → OwnA s'.env σ' a → OwnA s.env σ a
section
variable {g : Gx} {n : Nat} {W : WX} {X : Cx} {s s' s0 s1 s2 : Sg} {σ σ' σ0 σ1 σ2 : L2.St} {F F' F0 F1 F2 : Hp} {m m' m0 m1 m2 : List Addr} {H H' H0 H1 H2 : Hp}
theorem SN.refl (r : Rel g.K g.TT s σ F m H) : SN g s σ F m H s σ F m H := ⟨r, Fr.refl, fun _ _ h => h⟩
theorem SN.of (n : NX g s σ F m H s' F' m' H') : SN g s σ F m H s' σ F' m' H' := ⟨n.rel, n.fr, fun _ _ h => n.os.ownA h⟩
theorem SN.trans (a : SN g s σ F m H s1 σ1 F1 m1 H1) (b : SN g s1 σ1 F1 m1 H1 s2 σ2 F2 m2 H2) : SN g s σ F m H s2 σ2 F2 m2 H2 :=
  ⟨b.rel, a.fr.trans b.fr a.os, fun x hx h => a.os x hx (b.os x (a.fr.dom x hx) h)⟩
def PXS (g : Gx) (W : WX) (s : Sg) (σ : L2.St) (F : Hp) (m : List Addr) (H : Hp) : Exn → Sg → Prop := fun x s' =>
  ∀ cls d σ' F' m' H', SN g s σ F m H s' σ' F' m' H' → ExR g F' m' H' x cls d → W cls (some d) σ' H'
theorem PXS.px {x : Exn} (h : PXS g W s0 σ0 F0 m0 H0 x s') (n : SN g s0 σ0 F0 m0 H0 s σ F m H) : PX g W s σ F m H x s' :=
  fun cls d F' m' H' n' e => h cls d σ F' m' H' (n.trans (SN.of n')) e
theorem PXS.next {x : Exn} (h : PXS g W s0 σ0 F0 m0 H0 x s') (n : SN g s0 σ0 F0 m0 H0 s σ F m H) : PXS g W s σ F m H x s' :=
  fun cls d σ' F' m' H' n' e => h cls d σ' F' m' H' (n.trans n') e
/-- one reading behind others that changed slots -/
theorem RdE.stepS {α β γ : Type} {ev : Sg → Rs α} {rep : α → Sg → L2.St → Hp → List Addr → Hp → Hp → β → Prop} {k : α → Sg → Rs γ} {P : γ → Sg → Prop} {Q : β → Hp → Prop}
    (n0 : SN g s0 σ0 F0 m0 H0 s σ F m H) (h : Res (bnd (ev s) k) P (PXS g W s0 σ0 F0 m0 H0))
    (next : ∀ a s1 v F1 m1 H1, Res (k a s1) P (PXS g W s0 σ0 F0 m0 H0) → NX g s σ F m H s1 F1 m1 H1 → SN g s0 σ0 F0 m0 H0 s1 σ F1 m1 H1 → rep a s1 σ F1 m1 H1 H v → Q v H1) : RdE g W ev rep σ H Q :=
  ⟨s, F, m, n0.rel, h.bnd.mono (fun a s1 _ hp v F1 m1 H1 nx r => next a s1 v F1 m1 H1 hp nx (n0.trans (SN.of nx)) r) fun x s1 _ hx => hx.px n0⟩

theorem get_set_self {α : Type} {l : List α} {i : Nat} {x : α} (h : i < l.length) : (l.set i x)[i]? = some x := List.getElem?_set_self h
theorem get_set_ne {α : Type} {l : List α} {i j : Nat} {x : α} (h : i ≠ j) : (l.set i x)[j]? = l[j]? := List.getElem?_set_ne h
/-- a slot gets data -/
theorem Rel.setVal {i : Nat} {d : D} {v : V} (R : Rel g.K g.TT s σ F m H) (hi : i < s.env.length) (r : Rp g.K F m d v) : SN g s σ F m H { s with env := s.env.set i (.val d) } (σ.set i (some v)) F m H := by
  have hi2 : i < σ.length := by rw [← R.sr.len]; exact hi
  have old : ∀ (j : Nat) ds, (s.env.set i (.val d))[j]? = some (.own ds) → i ≠ j ∧ s.env[j]? = some (.own ds) := fun j ds q => by
    by_cases e : i = j
    · subst e; rw [get_set_self hi] at q; cases q
    · rw [get_set_ne e] at q; exact ⟨e, q⟩
  refine ⟨⟨R.hr, ⟨by simpa using R.sr.len, fun j d' q => ?_, fun j ds q => ?_, fun j k d1 d2 a hne q1 q2 q3 q4 => ?_⟩⟩, Fr.refl, fun a ha ⟨j, ds, q1, q2⟩ => ?_⟩
  · by_cases e : i = j
    · subst e
      rw [get_set_self hi] at q
      cases q
      exact ⟨v, get_set_self hi2, r⟩
    · rw [get_set_ne e] at q
      rw [get_set_ne e]
      exact R.sr.val j d' q
  · obtain ⟨e, q⟩ := old j ds q
    rw [get_set_ne e]
    exact R.sr.own j ds q
  · obtain ⟨e1, q1⟩ := old j d1 q1
    obtain ⟨e2, q2⟩ := old k d2 q2
    rw [get_set_ne e1] at q3
    rw [get_set_ne e2] at q4
    exact R.sr.apart j k d1 d2 a hne q1 q2 q3 q4
  · obtain ⟨e1, q1⟩ := old j ds q1
    rw [get_set_ne e1] at q2
    exact ⟨j, ds, q1, q2⟩
/-- a slot gets a new list -/
theorem SN.setOwn {i : Nat} {ds : List D} {v : V} (n : SN g s0 σ0 F0 m0 H0 s σ F m H) (hi : i < s.env.length) (hv : HdR g.K s.env σ F m H (.own ds) v) (nw : New H0 (.own ds) v) :
    SN g s0 σ0 F0 m0 H0 { s with env := s.env.set i (.own ds) } (σ.set i (some v)) F m H := by
  obtain ⟨b, vs, rfl, h1, h2, h3, h4, h5⟩ := hv
  have R := n.rel
  have hi2 : i < σ.length := by rw [← R.sr.len]; exact hi
  have old : ∀ (j : Nat) xs, (s.env.set i (.own ds))[j]? = some (.own xs) → (i = j ∧ xs = ds) ∨ (i ≠ j ∧ s.env[j]? = some (.own xs)) := fun j xs q => by
    by_cases e : i = j
    · subst e; rw [get_set_self hi] at q; cases q; exact .inl ⟨rfl, rfl⟩
    · rw [get_set_ne e] at q; exact .inr ⟨e, q⟩
  refine ⟨⟨R.hr, ⟨by simpa using R.sr.len, fun j d' q => ?_, fun j xs q => ?_, fun j k d1 d2 a hne q1 q2 q3 q4 => ?_⟩⟩, n.fr, fun a ha ⟨j, xs, q1, q2⟩ => ?_⟩
  · by_cases e : i = j
    · subst e
      rw [get_set_self hi] at q
      cases q
    · rw [get_set_ne e] at q
      rw [get_set_ne e]
      exact R.sr.val j d' q
  · rcases old j xs q with ⟨rfl, rfl⟩ | ⟨e, q⟩
    · exact ⟨b, vs, get_set_self hi2, h1, h2, h3, h4⟩
    · rw [get_set_ne e]
      exact R.sr.own j xs q
  · rcases old j d1 q1 with ⟨rfl, rfl⟩ | ⟨e1, q1⟩
    · rw [get_set_self hi2] at q3
      rcases old k d2 q2 with ⟨rfl, rfl⟩ | ⟨e2, q2⟩
      · exact hne rfl
      · rw [get_set_ne e2] at q4
        cases q3
        exact h5 ⟨k, d2, q2, q4⟩
    · rw [get_set_ne e1] at q3
      rcases old k d2 q2 with ⟨e2, _⟩ | ⟨e2, q2⟩
      · rw [← e2, get_set_self hi2] at q4
        cases q4
        exact h5 ⟨j, d1, q1, q3⟩
      · rw [get_set_ne e2] at q4
        exact R.sr.apart j k d1 d2 a hne q1 q2 q3 q4
  · rcases old j xs q1 with ⟨rfl, rfl⟩ | ⟨e1, q1⟩
    · rw [get_set_self hi2] at q2
      cases q2
      exact absurd ha (nw _ rfl _ rfl)
    · rw [get_set_ne e1] at q2
      exact n.os a ha ⟨j, xs, q1, q2⟩

/-! ### targets -/
def OutS (vs : List Nat) (σ σ' : L2.St) : Prop := σ'.length = σ.length ∧ ∀ j, j ∉ vs → σ'[j]? = σ[j]?
theorem OutS.refl {vs : List Nat} : OutS vs σ σ := ⟨rfl, fun _ _ => rfl⟩
theorem OutS.trans {vs : List Nat} (a : OutS vs σ σ1) (b : OutS vs σ1 σ2) : OutS vs σ σ2 := ⟨b.1.trans a.1, fun j h => (b.2 j h).trans (a.2 j h)⟩
theorem OutS.mono {vs ws : List Nat} (a : OutS vs σ σ1) (h : ∀ j ∈ vs, j ∈ ws) : OutS ws σ σ1 := ⟨a.1, fun j hj => a.2 j fun z => hj (h j z)⟩
def tG (g : Gx) (n : Nat) (W : WX) (t : Tg) : TG := fun v σ H Q => ∃ s F m d, Rel g.K g.TT s σ F m H ∧ Rp g.K F m d v ∧ Res (asg (g.cl n) t d s)
  (fun _ s' => ∀ σ' F' m' H', SN g s σ F m H s' σ' F' m' H' → OutS (tgSl t) σ σ' → OwnSub s'.env s.env → Q σ' H') (PXS g W s σ F m H)
def tGs (g : Gx) (n : Nat) (W : WX) (t : List Tg) : TGs := fun vs σ H Q => ∃ s F m ds, Rel g.K g.TT s σ F m H ∧ Rps g.K F m ds vs ∧ Res (asgTs (g.cl n) t ds s)
  (fun _ s' => ∀ σ' F' m' H', SN g s σ F m H s' σ' F' m' H' → OutS (tgSls t) σ σ' → OwnSub s'.env s.env → Q σ' H') (PXS g W s σ F m H)
theorem _root_.L2.PG.imp {e : Expr} {t t' : TG} (h : PG X e t') (i : ∀ v σ H Q, t v σ H Q → t' v σ H Q) : PG X e t := ⟨fun pins s σ H v u Q I r q => h.run pins s σ H v u Q I r (i v σ H Q q)⟩
theorem _root_.L2.PGs.imp {e : List Expr} {t t' : TGs} (h : PGs X e t') (i : ∀ v σ H Q, t v σ H Q → t' v σ H Q) : PGs X e t := ⟨fun pins s σ H v u Q I r q => h.run pins s σ H v u Q I r (i v σ H Q q)⟩
theorem sd_gname {x : Str} {i : Nat} {pos : Pos} (hN : X.N.Nodup) (hi : X.N[i]? = some x) (hx : Loc X.env.scope x) (hf : X.fn x = true ∨ X.env.scope.names.lookup x = some .local) : PG X (.Name x pos) (tG g n W (.name i)) := by
  refine (pg_name hN hi hx hf).imp fun v σ H Q ⟨s, F, m, d, R, r, h⟩ => ?_
  rw [asg] at h
  split at h
  · rename_i hl
    refine h _ F m H (R.setVal hl r) ⟨by simp, fun j hj => get_set_ne fun z => hj (by rw [tgSl]; simp [z])⟩ fun j ds q => ?_
    by_cases e : i = j
    · subst e; rw [get_set_self hl] at q; cases q
    · rw [get_set_ne e] at q; exact ⟨ds, q⟩
  · exact h.elim
theorem sd_gnil : PGs X [] (tGs g n W []) := by
  refine pgs_nil.imp fun v σ H Q ⟨s, F, m, ds, R, r, h⟩ => ?_
  cases ds with
  | nil =>
    rw [asgTs_nil] at h
    rw [Rps] at r
    exact ⟨r, h _ F m H (SN.refl R) OutS.refl (OwnSub.refl _)⟩
  | cons d ds => rw [asgTs_nil'] at h; exact h.elim
theorem sd_gcons {e : Expr} {es : List Expr} {t : Tg} {ts : List Tg} (h1 : PG X e (tG g n W t)) (h2 : PGs X es (tGs g n W ts))
    (hs : (assignEach (e :: es) X.env).map (·.2) = assign e X.env :: (assignEach es X.env).map (·.2)) : PGs X (e :: es) (tGs g n W (t :: ts)) := by
  refine (pgs_cons h1 h2 hs).imp fun v σ H Q ⟨s, F, m, ds, R, r, h⟩ => ?_
  cases ds with
  | nil => rw [asgTs_cons'] at h; exact h.elim
  | cons d ds =>
    rw [asgTs_cons] at h
    rw [Rps] at r
    obtain ⟨v0, vr, rfl, rd, rr⟩ := r
    refine ⟨v0, vr, rfl, s, F, m, d, R, rd, h.bnd.mono (fun _ s1 _ hp σ1 F1 m1 H1 n1 o1 w1 => ?_) fun x s1 _ hx => hx⟩
    refine ⟨s1, F1, m1, ds, n1.rel, Rps.mono n1.fr.ff n1.fr.mm _ _ rr, hp.mono (fun _ s2 _ hq σ2 F2 m2 H2 n2 o2 w2 => hq σ2 F2 m2 H2 (n1.trans n2) ?_ (w2.trans w1)) fun x s2 _ hx => hx.next n1⟩
    rw [tgSls]
    exact (o1.mono fun j hj => List.mem_append_left _ hj).trans (o2.mono fun j hj => List.mem_append_right _ hj)
theorem sd_gtup {es : List Expr} {ts : List Tg} {k : Nat} {pos : Pos} (hK : X.K = g.K) (hc : X.calm = true) (h : PGs X es (tGs g n W ts)) (hn : (assignEach es X.env).length = ts.length) (hst : (assignEach es X.env).findIdx? (·.1) = none) :
    PG X (.Tuple es k pos) (tG g n W (.tup ts)) := by
  refine (pg_tup hc h hn hst).imp fun v σ H Q ⟨s, F, m, d, R, r, h⟩ => ?_
  cases d with
  | tup ds =>
    rw [asg_tup] at h
    have r0 := r
    rw [Rp] at r
    obtain ⟨a, vs, rfl, h1, h2⟩ := r
    split at h
    · rename_i hl
      refine ⟨a, vs, rfl, by rw [hK]; exact R.hr.sub.seqT h1, by rw [← h2.len]; exact hl, s, F, m, ds, R, h2, h.mono (fun _ s' _ hq => ?_) fun _ _ _ hx => hx⟩
      have e : tgSl (.tup ts) = tgSls ts := by rw [tgSl]
      rw [e] at hq
      exact hq
    · exact h.elim
  | _ => simp only [asg] at h; exact h.elim
/-- x[i] = .. -/
theorem sd_gsub {o i : Expr} {o' i' : E} {pos : Pos} (ho : PE X o (tE g n W o')) (hi : PE X i (tE g n W i'))
    (ha : ∀ v, assign (.Subscript o i pos) X.env v = (do
      let ov ← holding [v] (eval o X.env)
      let iv ← holding [v, ov] (eval i X.env)
      standAt pos
      holding [v, ov, iv] (setItem ov iv v)
      release [v, ov, iv] [])) : PG X (.Subscript o i pos) (tG g n W (.sub o' i')) := by
  refine (pg_sub ho (pe_D hi) set_list ha).imp fun v σ H Q ⟨s, F, m, d, R, r, h⟩ => ?_
  rw [asg] at h
  have e0 : ∀ {α : Type} {r : Rs α} {k : α → Sg → Rs Unit} {P : Unit → Sg → Prop}, Res (bnd r k) P (PXS g W s σ F m H) → Res (bnd r k) P (PXS g W s σ F m H) := fun h => h
  refine RdE.stepS (SN.refl R) h fun hd s1 x F1 m1 H1 h1 n1 t1 r1 => ?_
  refine RdE.stepS t1 h1 fun k s2 y F2 m2 H2 h2 n2 t2 r2 => ?_
  have r2 : Rp g.K F2 m2 k y := r2
  have rv : Rp g.K F2 m2 d v := Rp.mono t2.fr.ff t2.fr.mm _ _ r
  have rh := r1.1.next n2
  have eo : tgSl (.sub o' i') = [] := by rw [tgSl]
  rw [eo] at h2
  unfold setI at h2
  cases k with
  | int k =>
    rw [Rp] at r2
    cases hd with
    | own ds => exact h2.elim
    | sl q =>
      have rh : σ[q]? = some (some x) := rh
      cases e1 : s2.env[q]? with
      | none => simp only [e1] at h2; exact h2.elim
      | some sl =>
        cases sl with
        | un => simp only [e1] at h2; exact h2.elim
        | val d => simp only [e1] at h2; exact h2.elim
        | own ds =>
          simp only [e1] at h2
          cases e2 : ixNat ds.length k with
          | none => simp only [e2] at h2; exact h2.elim
          | some j =>
            simp only [e2] at h2
            obtain ⟨a, ws, ea, eH, rw1, _⟩ := t2.rel.sr.own q ds e1
            rw [rh] at ea
            cases ea
            refine ⟨a, ws, k, j, rfl, r2, eH, by rw [← rw1.len]; exact e2, h2 σ F2 m2 _ (t2.trans (SN.of (t2.rel.setOwn e1 rh (rw1.set j rv)))) OutS.refl ?_⟩
            exact (t2.rel.setOwn e1 rh (rw1.set j rv)).os.trans (n2.os.trans n1.os)
    | d z =>
      cases z with
      | ref q =>
        have rh : Rp g.K F2 m2 (.ref q) x := rh
        rw [Rp] at rh
        obtain ⟨a, ea, rfl⟩ := rh
        cases e1 : s2.sto[q]? with
        | none => simp only [e1] at h2; exact h2.elim
        | some ob =>
          cases ob with
          | lst ds =>
            simp only [e1] at h2
            cases e2 : ixNat ds.length k with
            | none => simp only [e2] at h2; exact h2.elim
            | some j =>
              simp only [e2] at h2
              obtain ⟨ws, eH, rw1⟩ := t2.rel.hr.obj q a _ ea e1
              refine ⟨a, ws, k, j, rfl, r2, eH, by rw [← rw1.len]; exact e2, h2 σ F2 m2 _ (t2.trans (SN.of (t2.rel.setSto e1 ea (rw1.set j rv)))) OutS.refl ?_⟩
              exact (t2.rel.setSto e1 ea (rw1.set j rv)).os.trans (n2.os.trans n1.os)
      | _ => exact h2.elim
  | _ => exact h2.elim
end
end Rf

set_option Elab.async false
set_option linter.all false
set_option maxRecDepth 100000
/-! R11: what is walked; comprehensions. -/
namespace Rf
open PySem L2
section
variable {g : Gx} {n : Nat} {W : WX} {X : Cx} {s s' s0 s1 s2 : Sg} {σ σ' σ0 σ1 σ2 : L2.St} {F F' F0 F1 F2 : Hp} {m m' m0 m1 m2 : List Addr} {H H' H0 H1 H2 : Hp}
/-- what slot o owned is there still, where it was -/
def Held (σ0 : L2.St) (o : Option Nat) (ds : List D) (s : Sg) (σ : L2.St) : Prop := ∀ i, o = some i → s.env[i]? = some (.own ds) ∧ σ[i]? = σ0[i]?
/-- the iterator gives these items, whatever becomes known later -/
def Srv (g : Gx) (F : Hp) (m : List Addr) (σ0 : L2.St) (o : Option Nat) (ds : List D) (J : It) : Prop := ∀ (i : Nat) (s : Sg) (σ : L2.St) (F' : Hp) (m' : List Addr) (H' : Hp), Rel g.K g.TT s σ F' m' H' → SubF F F' → m <+: m' → Held σ0 o ds s σ →
  (∀ d, ds[i]? = some d → J.go i H' ∧ ∀ x H'', J.yld i H' x H'' → ∃ F'', NX g s σ F' m' H' s F'' m' H'' ∧ Rp g.K F'' m' d x) ∧ (i = ds.length → J.stop i H')
def repI (g : Gx) : List D → Sg → L2.St → Hp → List Addr → Hp → Hp → It → Prop := fun ds _ σ F' m' _ _ J => Srv g F' m' σ none ds J
def tI (g : Gx) (n : Nat) (W : WX) (it : I) : TI := RdE g W (evI (g.cl n) it) (repI g)
theorem _root_.L2.PI.imp {tg e : Expr} {t t' : TI} (h : PI X tg e t') (i : ∀ σ H Q, t σ H Q → t' σ H Q) : PI X tg e t := ⟨fun pins s σ H Q I q => h.run pins s σ H Q I (i σ H Q q)⟩
theorem SubF.tupAt {K : PySem.W.Frag} {a : Addr} {xs : List V} {sto : List SObj} {TT : List (Addr × Str)} (h : SqT K F a xs) (s : SubF F F') (r : HR K TT F' m' sto H') : SqT K H' a xs := r.sub.seqT (s.seqT h)

theorem srv_tup {ds : List D} {a : Addr} {vs : List V} (h1 : SqT g.K F a vs) (h2 : Rps g.K F m ds vs) : Srv g F m σ0 none ds (Itt g.K a) := by
  intro i s σ F' m' H' R hF hm _
  have hq : SqT g.K H' a vs := R.hr.sub.seqT (hF.seqT h1)
  have h2' : Rps g.K F' m' ds vs := Rps.mono hF hm _ _ h2
  refine ⟨fun d hd => ?_, fun hi => ⟨vs, hq, by rw [← h2.len, hi]; exact Nat.le_refl _⟩⟩
  obtain ⟨v, e1, e2⟩ := h2'.get hd
  refine ⟨⟨vs, v, hq, e1⟩, fun x H'' y => ?_⟩
  obtain ⟨rfl, y⟩ := y
  have := y vs hq
  rw [e1] at this
  cases this
  exact ⟨F', Nx.refl R, e2⟩
theorem srv_lst {ds : List D} {a : Addr} {vs : List V} (h1 : F a = some (.lst vs)) (h2 : Rps g.K F m ds vs) : Srv g F m σ0 none ds (Itl g.K a) := by
  intro i s σ F' m' H' R hF hm _
  have hq : SqL g.K H' a vs := SqL.of (R.hr.sub _ _ (hF _ _ h1))
  have h2' : Rps g.K F' m' ds vs := Rps.mono hF hm _ _ h2
  refine ⟨fun d hd => ?_, fun hi => ⟨vs, hq, by rw [← h2.len, hi]; exact Nat.le_refl _⟩⟩
  obtain ⟨v, e1, e2⟩ := h2'.get hd
  refine ⟨⟨vs, v, hq, e1⟩, fun x H'' y => ?_⟩
  obtain ⟨rfl, y⟩ := y
  have := y vs hq
  rw [e1] at this
  cases this
  exact ⟨F', Nx.refl R, e2⟩
theorem srv_own {ds : List D} {a : Addr} {j : Nat} (h1 : σ0[j]? = some (some (.ref a))) : Srv g F m σ0 (some j) ds (Itl g.K a) := by
  intro i s σ F' m' H' R hF hm hh
  obtain ⟨q1, q2⟩ := hh j rfl
  obtain ⟨b, vs, e1, e2, h2', _⟩ := R.sr.own j ds q1
  rw [q2, h1] at e1
  cases e1
  have hq : SqL g.K H' a vs := SqL.of e2
  refine ⟨fun d hd => ?_, fun hi => ⟨vs, hq, by rw [← h2'.len, hi]; exact Nat.le_refl _⟩⟩
  obtain ⟨v, f1, f2⟩ := h2'.get hd
  refine ⟨⟨vs, v, hq, f1⟩, fun x H'' y => ?_⟩
  obtain ⟨rfl, y⟩ := y
  have := y vs hq
  rw [f1] at this
  cases this
  exact ⟨F', Nx.refl R, f2⟩
theorem srv_range {ds : List D} {lo : Int} {k : Nat} (h : ds = (List.range k).map fun i => D.int (lo + (i : Nat))) : Srv g F m σ0 none ds (Itr lo k) := by
  subst h
  intro i s σ F' m' H' R hF hm _
  refine ⟨fun d hd => ?_, fun hi => ?_⟩
  · rw [List.getElem?_map] at hd
    by_cases hl : i < k
    · rw [List.getElem?_range hl] at hd
      cases hd
      refine ⟨hl, fun x H'' y => ?_⟩
      obtain ⟨rfl, rfl⟩ := y
      exact ⟨F', Nx.refl R, rp_int⟩
    · rw [List.getElem?_eq_none (by simpa using hl)] at hd
      cases hd
  · rw [List.length_map, List.length_range] at hi
    exact Nat.le_of_eq hi.symm
theorem srv_str {z : Str} : Srv g F m σ0 none (z.cps.toList.map fun c => D.str ⟨#[c]⟩) (Its z) := by
  intro i s σ F' m' H' R hF hm _
  refine ⟨fun d hd => ?_, fun hi => ?_⟩
  · rw [List.getElem?_map] at hd
    cases e : z.cps.toList[i]? with
    | none => rw [e] at hd; cases hd
    | some c =>
      rw [e] at hd
      cases hd
      have e' : z.cps[i]? = some c := by rw [← Array.getElem?_toList]; exact e
      refine ⟨(Array.getElem?_eq_some_iff.mp e').1, fun x H'' y => ?_⟩
      obtain ⟨rfl, c', ec, rfl⟩ := y
      rw [e'] at ec
      cases ec
      exact ⟨F', Nx.refl R, rp_str⟩
  · rw [List.length_map, Array.length_toList] at hi
    exact Nat.le_of_eq hi.symm
theorem zipIdx_get {ds : List D} {i : Nat} {d : D} (h : (ds.zipIdx.map fun p => D.tup [.int (p.2 : Nat), p.1])[i]? = some d) : ∃ e, ds[i]? = some e ∧ d = .tup [.int (i : Nat), e] := by
  rw [List.getElem?_map, List.getElem?_zipIdx] at h
  cases e : ds[i]? with
  | none => rw [e] at h; cases h
  | some x =>
    rw [e] at h
    cases h
    exact ⟨x, rfl, by simp⟩
theorem srv_enumT {ds : List D} {a : Addr} {vs : List V} (h1 : SqT g.K F a vs) (h2 : Rps g.K F m ds vs) : Srv g F m σ0 none (ds.zipIdx.map fun p => D.tup [.int (p.2 : Nat), p.1]) (ItE g.K a) := by
  intro i s σ F' m' H' R hF hm _
  have hq : SqT g.K H' a vs := R.hr.sub.seqT (hF.seqT h1)
  have h2' : Rps g.K F' m' ds vs := Rps.mono hF hm _ _ h2
  refine ⟨fun d hd => ?_, fun hi => ⟨vs, hq, by rw [← h2.len, hi, List.length_map, List.length_zipIdx]⟩⟩
  obtain ⟨e, he, rfl⟩ := zipIdx_get hd
  obtain ⟨v, e1, e2⟩ := h2'.get he
  refine ⟨⟨vs, v, hq, e1⟩, fun x H'' y => ?_⟩
  obtain ⟨T, w, rfl, hT, rfl, y⟩ := y
  have := y vs hq
  rw [e1] at this
  cases this
  obtain ⟨n1, r1⟩ := R.newTup (ds := [.int (i : Nat), e]) hT (.cons rp_int (.cons e2 .nil))
  exact ⟨_, n1, r1⟩
theorem srv_enumL {ds : List D} {a : Addr} {vs : List V} (h1 : F a = some (.lst vs)) (h2 : Rps g.K F m ds vs) : Srv g F m σ0 none (ds.zipIdx.map fun p => D.tup [.int (p.2 : Nat), p.1]) (Ite g.K a) := by
  intro i s σ F' m' H' R hF hm _
  have hq : SqL g.K H' a vs := SqL.of (R.hr.sub _ _ (hF _ _ h1))
  have h2' : Rps g.K F' m' ds vs := Rps.mono hF hm _ _ h2
  refine ⟨fun d hd => ?_, fun hi => ⟨vs, hq, by rw [← h2.len, hi, List.length_map, List.length_zipIdx]; exact Nat.le_refl _⟩⟩
  obtain ⟨e, he, rfl⟩ := zipIdx_get hd
  obtain ⟨v, e1, e2⟩ := h2'.get he
  refine ⟨⟨vs, v, hq, e1⟩, fun x H'' y => ?_⟩
  obtain ⟨T, w, rfl, hT, rfl, y⟩ := y
  have := y vs hq
  rw [e1] at this
  cases this
  obtain ⟨n1, r1⟩ := R.newTup (ds := [.int (i : Nat), e]) hT (.cons rp_int (.cons e2 .nil))
  exact ⟨_, n1, r1⟩
theorem zip_get {ds es : List D} {i : Nat} {d : D} (h : ((ds.zip es).map fun p => D.tup [p.1, p.2])[i]? = some d) : ∃ x y, ds[i]? = some x ∧ es[i]? = some y ∧ d = .tup [x, y] := by
  rw [List.getElem?_map] at h
  cases e : (ds.zip es)[i]? with
  | none => rw [e] at h; cases h
  | some p =>
    rw [e] at h
    cases h
    rw [List.getElem?_zip_eq_some] at e
    exact ⟨p.1, p.2, e.1, e.2, rfl⟩
theorem srv_zipT {ds es : List D} {a b : Addr} {vs ws : List V} (h1 : SqT g.K F a vs) (h2 : Rps g.K F m ds vs) (h3 : SqT g.K F b ws) (h4 : Rps g.K F m es ws) : Srv g F m σ0 none ((ds.zip es).map fun p => D.tup [p.1, p.2]) (RZ.ItzT g.K a b) := by
  intro i s σ F' m' H' R hF hm _
  have hq : SqT g.K H' a vs := R.hr.sub.seqT (hF.seqT h1)
  have hq' : SqT g.K H' b ws := R.hr.sub.seqT (hF.seqT h3)
  refine ⟨fun d hd => ?_, fun hi => ⟨vs, ws, hq, hq', ?_⟩⟩
  · obtain ⟨x, y, e1, e2, rfl⟩ := zip_get hd
    obtain ⟨v, a1, a2⟩ := (Rps.mono hF hm _ _ h2).get e1
    obtain ⟨w, b1, b2⟩ := (Rps.mono hF hm _ _ h4).get e2
    refine ⟨⟨vs, ws, v, w, hq, hq', a1, b1⟩, fun u H'' z => ?_⟩
    obtain ⟨T, v', w', rfl, hT, rfl, z1, z2⟩ := z
    have q1 := z1 vs hq
    have q2 := z2 ws hq'
    rw [a1] at q1
    rw [b1] at q2
    cases q1
    cases q2
    obtain ⟨n1, r1⟩ := R.newTup (ds := [x, y]) hT (.cons a2 (.cons b2 .nil))
    exact ⟨_, n1, r1⟩
  · rw [List.length_map, List.length_zip] at hi
    have l1 := h2.len
    have l2 := h4.len
    omega
theorem srv_zipL {ds es : List D} {a b : Addr} {vs ws : List V} (h1 : F a = some (.lst vs)) (h2 : Rps g.K F m ds vs) (h3 : F b = some (.lst ws)) (h4 : Rps g.K F m es ws) : Srv g F m σ0 none ((ds.zip es).map fun p => D.tup [p.1, p.2]) (Itz g.K a b) := by
  intro i s σ F' m' H' R hF hm _
  have hq : SqL g.K H' a vs := SqL.of (R.hr.sub _ _ (hF _ _ h1))
  have hq' : SqL g.K H' b ws := SqL.of (R.hr.sub _ _ (hF _ _ h3))
  refine ⟨fun d hd => ?_, fun hi => ⟨vs, ws, hq, hq', ?_⟩⟩
  · obtain ⟨x, y, e1, e2, rfl⟩ := zip_get hd
    obtain ⟨v, a1, a2⟩ := (Rps.mono hF hm _ _ h2).get e1
    obtain ⟨w, b1, b2⟩ := (Rps.mono hF hm _ _ h4).get e2
    refine ⟨⟨vs, ws, v, w, hq, hq', a1, b1⟩, fun u H'' z => ?_⟩
    obtain ⟨T, v', w', rfl, hT, rfl, z1, z2⟩ := z
    have q1 := z1 vs hq
    have q2 := z2 ws hq'
    rw [a1] at q1
    rw [b1] at q2
    cases q1
    cases q2
    obtain ⟨n1, r1⟩ := R.newTup (ds := [x, y]) hT (.cons a2 (.cons b2 .nil))
    exact ⟨_, n1, r1⟩
  · rw [List.length_map, List.length_zip] at hi
    have l1 := h2.len
    have l2 := h4.len
    omega

/-! ### what an expression that is walked serves -/
theorem RdE.stepE {α β γ : Type} {ev : Sg → Rs α} {rep : α → Sg → L2.St → Hp → List Addr → Hp → Hp → β → Prop} {k : α → Sg → Rs γ} {P : γ → Sg → Prop} {Q : β → Hp → Prop}
    (n0 : NX g s0 σ F0 m0 H0 s F m H) (h : Res (bnd (ev s) k) P (PX g W s0 σ F0 m0 H0))
    (next : ∀ a s1 v F1 m1 H1, ev s = some (.ok a, s1) → Res (k a s1) P (PX g W s0 σ F0 m0 H0) → NX g s0 σ F0 m0 H0 s1 F1 m1 H1 → rep a s1 σ F1 m1 H1 H v → Q v H1) : RdE g W ev rep σ H Q :=
  ⟨s, F, m, n0.rel, h.bnd.mono (fun a s1 e hp v F1 m1 H1 nx r => next a s1 v F1 m1 H1 e hp (n0.trans nx) r) fun x s1 _ hx => hx.next n0⟩
theorem evEs_len (cl : Call) : ∀ (es : List E) (s s1 : Sg) (ds : List D), evEs cl es s = some (.ok ds, s1) → ds.length = es.length
  | [], s, s1, ds, h => by
    rw [evEs] at h
    cases h
    rfl
  | e :: es, s, s1, ds, h => by
    rw [evEs] at h
    cases q : frz (evE cl e s) with
    | none => rw [q] at h; cases h
    | some p =>
      obtain ⟨o, s2⟩ := p
      rw [q] at h
      cases o with
      | exc x => cases h
      | ok d =>
        simp only [bnd_ok] at h
        cases q2 : evEs cl es s2 with
        | none => rw [q2] at h; cases h
        | some p2 =>
          obtain ⟨o2, s3⟩ := p2
          rw [q2] at h
          cases o2 with
          | exc x => cases h
          | ok dr =>
            simp only [bnd_ok, Option.some.injEq, Prod.mk.injEq, Out.ok.injEq] at h
            obtain ⟨rfl, rfl⟩ := h
            rw [List.length_cons, List.length_cons, evEs_len cl es s2 s3 dr q2]
def repW (g : Gx) : List D × Option Nat → Sg → L2.St → Hp → List Addr → Hp → Hp → It → Prop := fun p s σ F' m' _ _ J => Srv g F' m' σ p.2 p.1 J ∧ ∀ j, p.2 = some j → s.env[j]? = some (.own p.1)
def tW (g : Gx) (n : Nat) (W : WX) (it : I) : TI := RdE g W (evW (g.cl n) it) (repW g)
theorem range_one {ds xs : List D} (h : rangeI ds = some xs) (hl : ds.length = 1) : ∃ k : Int, ds = [.int k] ∧ -(2 ^ 62) ≤ k ∧ k < 2 ^ 62 ∧ xs = (List.range k.toNat).map fun i => D.int (0 + (i : Nat)) := by
  match ds, hl, h with
  | [.int k], _, h =>
    have h : (@ite (Option (List D)) (-(2 ^ 62) ≤ k ∧ k < 2 ^ 62) (Classical.propDecidable _) (some ((List.range k.toNat).map fun k => D.int (k : Nat))) none) = some xs := h
    split at h
    · rename_i hk
      cases h
      refine ⟨k, rfl, hk.1, hk.2, ?_⟩
      simp
    · cases h
theorem range_two {ds xs : List D} (h : rangeI ds = some xs) (hl : ds.length = 2) : ∃ a b : Int, ds = [.int a, .int b] ∧ (-(2 ^ 62) ≤ a ∧ a < 2 ^ 62 ∧ -(2 ^ 62) ≤ b ∧ b < 2 ^ 62) ∧ xs = (List.range (b - a).toNat).map fun i => D.int (a + (i : Nat)) := by
  match ds, hl, h with
  | [.int a, .int b], _, h =>
    have h : (@ite (Option (List D)) (-(2 ^ 62) ≤ a ∧ a < 2 ^ 62 ∧ -(2 ^ 62) ≤ b ∧ b < 2 ^ 62) (Classical.propDecidable _) (some ((List.range (b - a).toNat).map fun k => D.int (a + (k : Nat)))) none) = some xs := h
    split at h
    · rename_i hk
      cases h
      exact ⟨a, b, rfl, hk, rfl⟩
    · cases h
theorem rps_int1 {K : PySem.W.Frag} {k : Int} {vs : List V} (r : Rps K F m [.int k] vs) : vs = [.int k] := by
  rw [Rps] at r
  obtain ⟨v, vr, rfl, h1, h2⟩ := r
  rw [Rps] at h2
  rw [Rp] at h1
  rw [h1, h2]
theorem rps_int2 {K : PySem.W.Frag} {a b : Int} {vs : List V} (r : Rps K F m [.int a, .int b] vs) : vs = [.int a, .int b] := by
  rw [Rps] at r
  obtain ⟨v, vr, rfl, h1, h2⟩ := r
  rw [rps_int1 h2]
  rw [Rp] at h1
  rw [h1]
section
variable {tg : Expr}
theorem sd_irange1 {a : Expr} {a' : E} {p pos : Pos} (hg : Gl X "range") (hm : X.mg "range" = none) (ha : PA X [a] (tEs g n W [a'])) (hs : starEach [a] X.env = [(false, eval a X.env)]) :
    PI X tg (.Call (.Name "range" p) [a] [] pos) (tI g n W (.range [a'])) ∧ PI X tg (.Call (.Name "range" p) [a] [] pos) (tW g n W (.range [a'])) := by
  refine ⟨(pi_range1 hg hm ha hs).imp fun σ H Q ⟨s, F, m, r0, h⟩ => ?_, (pi_range1 hg hm ha hs).imp fun σ H Q ⟨s, F, m, r0, h⟩ => ?_⟩
  · rw [evI] at h
    refine RdE.stepE (Nx.refl r0) h fun ds s1 vs F1 m1 H1 e h1 t1 r1 => ?_
    obtain ⟨xs, e1, h2⟩ := h1.opt
    obtain ⟨k, rfl, k1, k2, ex⟩ := range_one e1 (evEs_len _ _ _ _ _ e)
    exact ⟨k, rps_int1 r1, k1, k2, h2 _ F1 m1 H1 t1 (srv_range ex)⟩
  · rw [evW] at h
    refine RdE.stepE (Nx.refl r0) h fun ds s1 vs F1 m1 H1 e h1 t1 r1 => ?_
    obtain ⟨xs, e1, h2⟩ := h1.opt
    obtain ⟨ys, e2, rfl⟩ := Option.map_eq_some_iff.mp e1
    obtain ⟨k, rfl, k1, k2, ex⟩ := range_one e2 (evEs_len _ _ _ _ _ e)
    exact ⟨k, rps_int1 r1, k1, k2, h2 _ F1 m1 H1 t1 ⟨srv_range ex, fun j z => by cases z⟩⟩
theorem sd_irange2 {a b : Expr} {a' b' : E} {p pos : Pos} (hg : Gl X "range") (hm : X.mg "range" = none) (ha : PA X [a, b] (tEs g n W [a', b'])) (hs : starEach [a, b] X.env = [(false, eval a X.env), (false, eval b X.env)]) (hs2 : starEach [b] X.env = [(false, eval b X.env)]) :
    PI X tg (.Call (.Name "range" p) [a, b] [] pos) (tI g n W (.range [a', b'])) ∧ PI X tg (.Call (.Name "range" p) [a, b] [] pos) (tW g n W (.range [a', b'])) := by
  refine ⟨(pi_range2 hg hm ha hs hs2).imp fun σ H Q ⟨s, F, m, r0, h⟩ => ?_, (pi_range2 hg hm ha hs hs2).imp fun σ H Q ⟨s, F, m, r0, h⟩ => ?_⟩
  · rw [evI] at h
    refine RdE.stepE (Nx.refl r0) h fun ds s1 vs F1 m1 H1 e h1 t1 r1 => ?_
    obtain ⟨xs, e1, h2⟩ := h1.opt
    obtain ⟨k, l, rfl, kk, ex⟩ := range_two e1 (evEs_len _ _ _ _ _ e)
    exact ⟨k, l, rps_int2 r1, kk, h2 _ F1 m1 H1 t1 (srv_range ex)⟩
  · rw [evW] at h
    refine RdE.stepE (Nx.refl r0) h fun ds s1 vs F1 m1 H1 e h1 t1 r1 => ?_
    obtain ⟨xs, e1, h2⟩ := h1.opt
    obtain ⟨ys, e2, rfl⟩ := Option.map_eq_some_iff.mp e1
    obtain ⟨k, l, rfl, kk, ex⟩ := range_two e2 (evEs_len _ _ _ _ _ e)
    exact ⟨k, l, rps_int2 r1, kk, h2 _ F1 m1 H1 t1 ⟨srv_range ex, fun j z => by cases z⟩⟩
/-- by the datum that is walked -/
theorem seq_pick {e : Expr} {e' : E} (hK : X.K = g.K) (he : PE X e (tE g n W e')) {σ : L2.St} {H : Hp} {R : It → Hp → Prop} (pins : List (Addr × Obj)) (sh : Shared) (I : L2.Inv X pins σ H sh)
    {α : Type} {k : D → Sg → Rs α} {P : α → Sg → Prop} (r0 : Rel g.K g.TT s σ F m H) (h : Res (bnd (frz (evE (g.cl n) e' s)) k) P (PX g W s σ F m H))
    (next : ∀ d s1 F1 m1 H1, Res (k d s1) P (PX g W s σ F m H) → NX g s σ F m H s1 F1 m1 H1 → (∃ v, Rp g.K F1 m1 d v) → ∃ ds, seqI d = some ds ∧ ∀ J, Srv g F1 m1 σ none ds J → R J H1) :
    wpAny (model X.prog X.w) X.A (eval e X.env) (fun v s1 => wpAny (model X.prog X.w) X.A (pyIter v) (PIE X pins σ tg R) X.xe s1) X.xe sh := by
  have key : ∀ Q : VK, (∀ d s1 v F1 m1 H1, frz (evE (g.cl n) e' s) = some (.ok d, s1) → Res (k d s1) P (PX g W s σ F m H) → NX g s σ F m H s1 F1 m1 H1 → Rp g.K F1 m1 d v → Q v H1) → tD g n W e' σ H Q := fun Q hq =>
    RdE.stepE (ev := fun s => frz (evE (g.cl n) e' s)) (Nx.refl r0) h fun d s1 v F1 m1 H1 e hp t1 r1 => hq d s1 v F1 m1 H1 e hp t1 r1
  cases q : frz (evE (g.cl n) e' s) with
  | none => rw [q] at h; exact h.elim
  | some p =>
    obtain ⟨o, s2⟩ := p
    cases o with
    | exc x => exact (pi_list (pe_D he)).run pins sh σ H R I (key _ fun d s1 v F1 m1 H1 e => by rw [q] at e; cases e)
    | ok d0 =>
      cases d0 with
      | tup ds0 =>
        refine (pi_tup (pe_D he)).run pins sh σ H R I (key _ fun d s1 v F1 m1 H1 e hp t1 r1 => ?_)
        rw [q] at e
        cases e
        obtain ⟨ds, e1, hR⟩ := next _ s2 F1 m1 H1 hp t1 ⟨v, r1⟩
        cases e1
        rw [Rp] at r1
        obtain ⟨a, vs, rfl, h1, h2⟩ := r1
        rw [hK]
        exact ⟨a, rfl, ⟨vs, t1.rel.hr.sub.seqT h1⟩, hR _ (srv_tup h1 h2)⟩
      | lst ds0 =>
        refine (pi_list (pe_D he)).run pins sh σ H R I (key _ fun d s1 v F1 m1 H1 e hp t1 r1 => ?_)
        rw [q] at e
        cases e
        obtain ⟨ds, e1, hR⟩ := next _ s2 F1 m1 H1 hp t1 ⟨v, r1⟩
        cases e1
        rw [Rp] at r1
        obtain ⟨a, vs, rfl, h1, h2⟩ := r1
        rw [hK]
        exact ⟨a, rfl, ⟨vs, SqL.of (t1.rel.hr.sub _ _ h1)⟩, hR _ (srv_lst h1 h2)⟩
      | str z =>
        refine (pi_str (pe_D he)).run pins sh σ H R I (key _ fun d s1 v F1 m1 H1 e hp t1 r1 => ?_)
        rw [q] at e
        cases e
        obtain ⟨ds, e1, hR⟩ := next _ s2 F1 m1 H1 hp t1 ⟨v, r1⟩
        cases e1
        rw [Rp] at r1
        exact ⟨z, r1, hR _ srv_str⟩
      | _ =>
        refine (pi_list (pe_D he)).run pins sh σ H R I (key _ fun d s1 v F1 m1 H1 e hp t1 r1 => ?_)
        rw [q] at e
        cases e
        obtain ⟨ds, e1, hR⟩ := next _ s2 F1 m1 H1 hp t1 ⟨v, r1⟩
        cases e1
theorem sd_iseq {e : Expr} {e' : E} (hK : X.K = g.K) (he : PE X e (tE g n W e')) : PI X tg e (tI g n W (.seq e')) := by
  refine ⟨fun pins sh σ H R I ⟨s, F, m, r0, h⟩ => ?_⟩
  rw [evI] at h
  refine seq_pick hK he pins sh I r0 h fun d s1 F1 m1 H1 hp t1 _ => ?_
  obtain ⟨ds, e1, h2⟩ := hp.opt
  exact ⟨ds, e1, fun J hJ => h2 J F1 m1 H1 t1 hJ⟩
theorem sd_wseq {e : Expr} {e' : E} (hK : X.K = g.K) (he : PE X e (tE g n W e')) : PI X tg e (tW g n W (.seq e')) := by
  refine ⟨fun pins sh σ H R I ⟨s, F, m, r0, h⟩ => ?_⟩
  rw [evW] at h
  cases q : evE (g.cl n) e' s with
  | none => rw [q] at h; exact h.elim
  | some p =>
    obtain ⟨o, s2⟩ := p
    have other : (∀ j, o ≠ .ok (.sl j)) → wpAny (model X.prog X.w) X.A (eval e X.env) (fun v s1 => wpAny (model X.prog X.w) X.A (pyIter v) (PIE X pins σ tg R) X.xe s1) X.xe sh := fun ho => by
      refine seq_pick (k := fun d s2 => opt ((seqI d).map (·, (none : Option Nat))) s2) (P := fun p s' => ∀ J F' m' H', NX g s σ F m H s' F' m' H' → repW g p s' σ F' m' H' H J → R J H') hK he pins sh I r0 ?_ fun d s1 F1 m1 H1 hp t1 _ => ?_
      · rw [q] at h ⊢
        cases o with
        | exc x => exact h
        | ok hd =>
          cases hd with
          | sl j => exact absurd rfl (ho j)
          | d z => exact h
          | own z => exact h
      · obtain ⟨ds, e1, h2⟩ := hp.opt
        obtain ⟨ys, e2, rfl⟩ := Option.map_eq_some_iff.mp e1
        exact ⟨ys, e2, fun J hJ => h2 J F1 m1 H1 t1 ⟨hJ, fun j z => by cases z⟩⟩
    cases o with
    | exc x => exact other fun j z => by cases z
    | ok hd =>
      cases hd with
      | d z => exact other fun j z => by cases z
      | own z => exact other fun j z => by cases z
      | sl j =>
        refine (pi_list he).run pins sh σ H R I (RdE.stepE (Nx.refl r0) h fun hd s1 v F1 m1 H1 e hp t1 r1 => ?_)
        rw [q] at e
        cases e
        simp only at hp
        cases q2 : s2.env[j]? with
        | none => rw [q2] at hp; exact hp.elim
        | some sl =>
          rw [q2] at hp
          cases sl with
          | un => exact hp.elim
          | val z => exact hp.elim
          | own ds =>
            obtain ⟨a, vs, e1, e2, e3, _⟩ := t1.rel.sr.own j ds q2
            have rv : σ[j]? = some (some v) := r1.1
            rw [rv] at e1
            cases e1
            rw [hK]
            exact ⟨a, rfl, ⟨vs, SqL.of e2⟩, hp _ F1 m1 H1 t1 ⟨srv_own rv, fun i z => by cases z; exact q2⟩⟩
end
end
end Rf

set_option Elab.async false
set_option linter.all false
set_option maxRecDepth 100000
/-! R12: comprehensions. -/
namespace Rf
open PySem L2
theorem wipeE_get : ∀ (vs : List Nat) (ρ : List Slot) (j : Nat), (wipeE vs ρ)[j]? = if j ∈ vs then (if j < ρ.length then some .un else none) else ρ[j]?
  | [], ρ, j => by simp [wipeE]
  | v :: vs, ρ, j => by
    have ih := wipeE_get vs (ρ.set v .un) j
    unfold wipeE at ih ⊢
    rw [List.foldl_cons, ih]
    by_cases h1 : j ∈ vs
    · simp [h1]
    · by_cases h2 : v = j
      · subst h2
        by_cases h3 : v < ρ.length
        · simp [h1, h3]
        · simp [h1, h3]
      · have h4 : j ≠ v := Ne.symm h2
        simp [h1, h2, h4, List.getElem?_set_ne h2]
theorem wipeE_len (vs : List Nat) (ρ : List Slot) : (wipeE vs ρ).length = ρ.length := by
  unfold wipeE
  induction vs generalizing ρ with
  | nil => rfl
  | cons v vs ih => rw [List.foldl_cons, ih, List.length_set]
theorem restore_get : ∀ (vs : List Nat) (ρ0 ρ : List Slot) (j : Nat), (restore vs ρ0 ρ)[j]? = if j ∈ vs then (if j < ρ.length then some (ρ0.getD j .un) else none) else ρ[j]?
  | [], ρ0, ρ, j => by simp [restore]
  | v :: vs, ρ0, ρ, j => by
    have ih := restore_get vs ρ0 (ρ.set v (ρ0.getD v .un)) j
    unfold restore at ih ⊢
    rw [List.foldl_cons, ih]
    by_cases h1 : j ∈ vs
    · simp [h1]
    · by_cases h2 : v = j
      · subst h2
        by_cases h3 : v < ρ.length
        · simp [h1, h3]
        · simp [h1, h3]
      · have h4 : j ≠ v := Ne.symm h2
        simp [h1, h2, h4, List.getElem?_set_ne h2]
theorem restore_len (vs : List Nat) (ρ0 ρ : List Slot) : (restore vs ρ0 ρ).length = ρ.length := by
  unfold restore
  induction vs generalizing ρ with
  | nil => rfl
  | cons v vs ih => rw [List.foldl_cons, ih, List.length_set]
theorem wipe_eq {σ σ' : L2.St} {vs : List Nat} (h : OutS vs (wipe σ vs) σ') : wipe σ' vs = wipe σ vs := by
  have none_at : ∀ (τ : L2.St) (j : Nat), j ∈ vs → j < τ.length → (wipe τ vs)[j]? = some none := fun τ j hj hl => by
    cases e : (wipe τ vs)[j]? with
    | none => rw [List.getElem?_eq_none_iff, wipe_length] at e; omega
    | some o =>
      cases o with
      | none => rfl
      | some x => exact absurd hj (wipe_some e).2
  refine List.ext_getElem? fun j => ?_
  have hl : σ'.length = σ.length := by rw [h.1, wipe_length]
  by_cases hj : j ∈ vs
  · by_cases hb : j < σ.length
    · rw [none_at σ j hj hb, none_at σ' j hj (by omega)]
    · rw [List.getElem?_eq_none (by rw [wipe_length]; omega), List.getElem?_eq_none (by rw [wipe_length]; omega)]
  · rw [wipe_out hj]
    exact h.2 j hj
section
variable {g : Gx} {n : Nat} {W : WX} {X : Cx} {s s' s0 s1 s2 : Sg} {σ σ' σ0 σ1 σ2 : L2.St} {F F' F0 F1 F2 : Hp} {m m' m0 m1 m2 : List Addr} {H H' H0 H1 H2 : Hp}
theorem ownW {vs : List Nat} {a : Addr} (h : OwnA (wipeE vs s.env) (wipe σ vs) a) : OwnA s.env σ a := by
  obtain ⟨j, ds, q1, q2⟩ := h
  rw [wipeE_get] at q1
  by_cases hj : j ∈ vs
  · rw [if_pos hj] at q1
    split at q1 <;> cases q1
  · rw [if_neg hj] at q1
    rw [wipe_out hj] at q2
    exact ⟨j, ds, q1, q2⟩
theorem Rel.wiped {vs : List Nat} (R : Rel g.K g.TT s σ F m H) (e : wipe σ vs = σ') : SN g s σ F m H { s with env := wipeE vs s.env } σ' F m H := by
  subst e
  have old : ∀ (j : Nat) sl, (wipeE vs s.env)[j]? = some sl → sl ≠ .un → j ∉ vs ∧ s.env[j]? = some sl := fun j sl q hn => by
    rw [wipeE_get] at q
    by_cases hj : j ∈ vs
    · rw [if_pos hj] at q
      split at q
      · cases q; exact absurd rfl hn
      · cases q
    · rw [if_neg hj] at q
      exact ⟨hj, q⟩
  refine ⟨⟨R.hr, ⟨by rw [wipeE_len, wipe_length]; exact R.sr.len, fun j d q => ?_, fun j ds q => ?_, fun j k d1 d2 a hne q1 q2 q3 q4 => ?_⟩⟩, Fr.refl, fun a _ h => ownW h⟩
  · obtain ⟨hj, q⟩ := old j _ q (by simp)
    rw [wipe_out hj]
    exact R.sr.val j d q
  · obtain ⟨hj, q⟩ := old j _ q (by simp)
    rw [wipe_out hj]
    exact R.sr.own j ds q
  · obtain ⟨hj, q1⟩ := old j _ q1 (by simp)
    obtain ⟨hk, q2⟩ := old k _ q2 (by simp)
    rw [wipe_out hj] at q3
    rw [wipe_out hk] at q4
    exact R.sr.apart j k d1 d2 a hne q1 q2 q3 q4
theorem ownSub_wipe {vs : List Nat} {ρ : List Slot} : OwnSub (wipeE vs ρ) ρ := fun j ds q => by
  rw [wipeE_get] at q
  by_cases hj : j ∈ vs
  · rw [if_pos hj] at q
    split at q <;> cases q
  · rw [if_neg hj] at q
    exact ⟨ds, q⟩
/-- the block is left -/
theorem Rel.restored {vs : List Nat} (R : Rel g.K g.TT s1 σ F1 m1 H1) (n : SN g { s1 with env := wipeE vs s1.env } (wipe σ vs) F1 m1 H1 s (wipe σ vs) F m H) (os : OwnSub s.env (wipeE vs s1.env)) :
    NX g s1 σ F1 m1 H1 { s with env := restore vs s1.env s.env } F m H := by
  have len : s.env.length = s1.env.length := by rw [n.rel.sr.len, wipe_length, R.sr.len]
  have own : ∀ (j : Nat) ds, (restore vs s1.env s.env)[j]? = some (.own ds) → (j ∈ vs ∧ s1.env[j]? = some (.own ds)) ∨ (j ∉ vs ∧ s.env[j]? = some (.own ds)) := fun j ds q => by
    rw [restore_get] at q
    by_cases hj : j ∈ vs
    · rw [if_pos hj] at q
      split at q
      · rename_i hl
        have hl1 : j < s1.env.length := by omega
        have e : s1.env.getD j .un = .own ds := Option.some.inj q
        rw [List.getD_eq_getElem?_getD, List.getElem?_eq_getElem hl1] at e
        exact .inl ⟨hj, by rw [List.getElem?_eq_getElem hl1]; exact congrArg some e⟩
      · cases q
    · rw [if_neg hj] at q
      exact .inr ⟨hj, q⟩
  have sub : OwnSub (restore vs s1.env s.env) s1.env := fun j ds q => by
    rcases own j ds q with ⟨_, q⟩ | ⟨hj, q⟩
    · exact ⟨ds, q⟩
    · obtain ⟨d1, q1⟩ := os j ds q
      exact ownSub_wipe j d1 q1
  refine ⟨⟨n.rel.hr, ⟨by rw [restore_len, len]; exact R.sr.len, fun j d q => ?_, fun j ds q => ?_, fun j k d1 d2 a hne q1 q2 q3 q4 => ?_⟩⟩,
    ⟨n.fr.ff, n.fr.mm, n.fr.mf, fun a o h1 h2 h3 h4 => n.fr.keep a o h1 h2 (fun z => h3 (ownW z)) h4, fun a h1 h2 => n.fr.kF a h1 fun z => h2 (ownW z), n.fr.dom⟩, sub⟩
  · have q' := q
    rw [restore_get] at q
    by_cases hj : j ∈ vs
    · rw [if_pos hj] at q
      split at q
      · rename_i hl
        have hl1 : j < s1.env.length := by omega
        have e : s1.env.getD j .un = .val d := Option.some.inj q
        rw [List.getD_eq_getElem?_getD, List.getElem?_eq_getElem hl1] at e
        obtain ⟨v, e1, e2⟩ := R.sr.val j d (by rw [List.getElem?_eq_getElem hl1]; exact congrArg some e)
        exact ⟨v, e1, Rp.mono n.fr.ff n.fr.mm _ _ e2⟩
      · cases q
    · rw [if_neg hj] at q
      obtain ⟨v, e1, e2⟩ := n.rel.sr.val j d q
      rw [wipe_out hj] at e1
      exact ⟨v, e1, e2⟩
  · rcases own j ds q with ⟨hj, q⟩ | ⟨hj, q⟩
    · obtain ⟨a, ws, e1, e2, e3, e4, e5⟩ := R.sr.own j ds q
      have no : ¬ OwnA (wipeE vs s1.env) (wipe σ vs) a := fun ⟨k, d2, q1, q2⟩ => by
        rw [wipeE_get] at q1
        by_cases hk : k ∈ vs
        · rw [if_pos hk] at q1
          split at q1 <;> cases q1
        · rw [if_neg hk] at q1
          rw [wipe_out hk] at q2
          exact R.sr.apart j k ds d2 a (fun z => hk (by rw [← z]; exact hj)) q q1 e1 q2
      refine ⟨a, ws, e1, n.fr.keep a _ e2 e5 no (fun ps z => by cases z), Rps.mono n.fr.ff n.fr.mm _ _ e3, ?_, fun z => ?_⟩
      · rw [n.fr.kF a (.lst e2) no, e4]
      · rcases n.fr.mf a z with y | y
        · exact e5 y
        · exact y (.lst e2)
    · obtain ⟨a, ws, e1, r⟩ := n.rel.sr.own j ds q
      rw [wipe_out hj] at e1
      exact ⟨a, ws, e1, r⟩
  · obtain ⟨x1, y1⟩ := sub j d1 q1
    obtain ⟨x2, y2⟩ := sub k d2 q2
    exact R.sr.apart j k x1 x2 a hne y1 y2 q3 q4
/-- a list that none of ours knows changes -/
theorem SN.setFree {D : Addr} {vs ws : List V} (n : SN g s0 σ0 F0 m0 H0 s σ F m H) (h0 : H0 D = none) (h1 : H D = some (.lst vs)) (h2 : F D = none) (h3 : D ∉ m) (h4 : ¬ OwnA s.env σ D) : SN g s0 σ0 F0 m0 H0 s σ F m (upd H D (.lst ws)) := by
  have R := n.rel
  refine ⟨⟨⟨fun b o q => ?_, R.hr.len, R.hr.nd, R.hr.mF, fun k b o q1 q2 => ?_, fun p hp => ?_, R.hr.noTab⟩, ⟨R.sr.len, R.sr.val, fun j xs q => ?_, R.sr.apart⟩⟩,
    ⟨n.fr.ff, n.fr.mm, n.fr.mf, fun b o q1 q2 q3 q4 => ?_, n.fr.kF, fun b q => ?_⟩, n.os⟩
  · rw [upd_ne (fun z => by rw [z, h2] at q; cases q)]
    exact R.hr.sub b o q
  · have hb : b ≠ D := fun z => h3 (by rw [← z]; exact List.mem_of_getElem? q1)
    have := R.hr.obj k b o q1 q2
    rw [upd_ne hb]
    exact this
  · obtain ⟨ps, t1, t2, t3⟩ := R.hr.tabs p hp
    refine ⟨ps, by rw [upd_ne (fun z => by rw [z, h1] at t1; cases t1)]; exact t1, t2, fun pos cv hc => ?_⟩
    obtain ⟨c, u1, u2⟩ := t3 pos cv hc
    exact ⟨c, u1, by rw [upd_ne (fun z => by rw [z, h1] at u2; unfold LamX.CodeO at u2; cases u2)]; exact u2⟩
  · obtain ⟨b, us, g1, g2, g3, g4, g5⟩ := R.sr.own j xs q
    exact ⟨b, us, g1, by rw [upd_ne (fun z => h4 ⟨j, xs, q, by rw [← z]; exact g1⟩)]; exact g2, g3, g4, g5⟩
  · rw [upd_ne (fun z => by rw [z, h0] at q1; cases q1)]
    exact n.fr.keep b o q1 q2 q3 q4
  · obtain ⟨u, e, ht⟩ := n.fr.dom b q
    by_cases z : b = D
    · rw [z]; exact .lst upd_same
    · exact ⟨u, by rw [upd_ne z]; exact e, ht⟩

/-- a clause's test -/
abbrev WF : WX := fun _ _ _ _ => False
def tC' (g : Gx) (n : Nat) (c : Option T) : TT := RdE g WF (evC (g.cl n) c) (repB g)
theorem sd_pts0 : PTs X [] (tC' g n none) := by
  refine ⟨fun pins sh σ H Q I ⟨s, F, m, r0, h⟩ => pts_nil.run pins sh σ H Q I ?_⟩
  rw [evC] at h
  exact h true F m H (Nx.refl r0) rfl
theorem sd_pts1 {c : Expr} {c' : T} (h : PT X c (tT g n WF c')) : PTs X [c] (tC' g n (some c')) := by
  refine ⟨fun pins sh σ H Q I ⟨s, F, m, r0, hc⟩ => (pts_one h).run pins sh σ H Q I ⟨s, F, m, r0, ?_⟩⟩
  rw [evC] at hc
  exact hc
theorem Res.nox {α : Type} {r : Rs α} {P : α → Sg → Prop} {X : Exn → Sg → Prop} (h : Res (Rf.nox r) P X) : Res r P (fun _ _ => False) := by
  cases r with
  | none => exact h
  | some p =>
    obtain ⟨o, s⟩ := p
    cases o with
    | ok a => exact h
    | exc x => exact h
/-- D is known to none of ours -/
structure Apart (F : Hp) (m : List Addr) (env : List Slot) (σ : L2.St) (D : Addr) : Prop where
  f : F D = none
  m : D ∉ m
  o : ¬ OwnA env σ D
theorem Apart.next {D : Addr} {o : HO} (a : Apart F m s.env σ D) (hD : H D = some o) (ht : ∀ ps, o ≠ .tbl ps) (n : SN g s σ F m H s' σ' F' m' H') : Apart F' m' s'.env σ' D ∧ H' D = some o := by
  refine ⟨⟨?_, fun z => ?_, fun z => a.o (n.os D ⟨o, hD, ht⟩ z)⟩, n.fr.keep D o hD a.m a.o ht⟩
  · rw [n.fr.kF D ⟨o, hD, ht⟩ a.o, a.f]
  · rcases n.fr.mf D z with y | y
    · exact a.m y
    · exact y ⟨o, hD, ht⟩
/-- one turn of a comprehension -/
noncomputable def cTurn (cl : Call) (p : List D × Option Nat) (vs : List Nat) (elt : E) (t : Tg) (c : Option T) : D → Sg → Rs (Option D) := fun d s2 =>
  if heldB p.2 p.1 s2 = true then Rf.nox <| bnd (asg cl t d s2) fun _ s3 => bnd (evC cl c s3) fun b s4 =>
    if b = true then bnd (frz (evE cl elt s4)) fun x s5 => okk (some x) { s5 with env := wipeE vs s5.env } else okk none { s4 with env := wipeE vs s4.env } else none
theorem evE_comp (cl : Call) (vs : List Nat) (elt : E) (t : Tg) (it : I) (c : Option T) (s : Sg) : evE cl (.comp vs elt t it c) s = bnd (evW cl it s) fun p s1 =>
    bnd (compGo (cTurn cl p vs elt t c) [] p.1 { s1 with env := wipeE vs s1.env }) fun xs s6 => if heldB p.2 p.1 s6 = true then okk (.own xs) { s6 with env := restore vs s1.env s6.env } else none := by
  rw [evE]
  rfl
theorem comp_reads {vs : List Nat} {elt : E} {t : Tg} {it : I} {c : Option T} (ht : ∀ j ∈ tgSl t, j ∈ vs) {σ : L2.St} {Hs : Hp} {Q : VK} (h : tE g n W (.comp vs elt t it c) σ Hs Q) :
    tLc (tW g n W it) (tG g n WF t) (tC' g n c) (tD g n WF elt) vs σ Hs Q := by
  obtain ⟨s, F, m, r0, h⟩ := h
  rw [evE_comp] at h
  refine RdE.step (Nx.refl r0) h fun p s1 J F1 m1 H1 h1 n1 t1 r1 L hL => ?_
  obtain ⟨srv, own1⟩ := r1
  have R1 := t1.rel
  have nw0 : SN g s1 σ F1 m1 H1 { s1 with env := wipeE vs s1.env } (wipe σ vs) F1 m1 H1 := R1.wiped rfl
  obtain ⟨fL, mL, oL⟩ := R1.newF hL
  let fin : List D → Sg → Rs Hd := fun xs s6 => if heldB p.2 p.1 s6 = true then okk (Hd.own xs) { s6 with env := restore vs s1.env s6.env } else none
  let Pf : Hd → Sg → Prop := fun h s' => ∀ v F' m' H', NX g s σ F m Hs s' F' m' H' → repH g h s' σ F' m' H' Hs v → Q v H'
  let W' : Nat → Nat → Hp → Prop := fun i k H => ∃ acc s2 F2 m2 accV, SN g { s1 with env := wipeE vs s1.env } (wipe σ vs) F1 m1 H1 s2 (wipe σ vs) F2 m2 H ∧ OwnSub s2.env (wipeE vs s1.env) ∧ H L = some (.lst accV) ∧ Rps g.K F2 m2 acc accV ∧ Apart F2 m2 s2.env (wipe σ vs) L ∧
    i ≤ p.1.length ∧ k = p.1.length - i ∧ Res (bnd (compGo (cTurn (g.cl n) p vs elt t c) acc (p.1.drop i) s2) fin) Pf (PX g W s σ F m Hs)
  refine ⟨W', ⟨p.1.length, [], { s1 with env := wipeE vs s1.env }, F1, m1, [], ?_, OwnSub.refl _, upd_same, Rps.nil, ⟨fL, mL, fun z => oL (ownW z)⟩, Nat.zero_le _, rfl, h1⟩, ?_⟩
  · exact (SN.refl nw0.rel).trans (SN.of (nw0.rel.laid hL))
  rintro i k H ⟨acc, s2, F2, m2, accV, n2, os2, hL2, ra, ap2, hi, rfl, hr⟩
  have held : heldB p.2 p.1 s2 = true → Held σ p.2 p.1 s2 (wipe σ vs) := fun hb j hj => by
    obtain ⟨ds, o⟩ := p
    cases hj
    have e := of_heldB hb
    obtain ⟨d1, q1⟩ := os2 j _ e
    have q2 := q1
    rw [wipeE_get] at q2
    by_cases hv : j ∈ vs
    · rw [if_pos hv] at q2
      split at q2 <;> cases q2
    · exact ⟨e, wipe_out hv⟩
  have ff : SubF F1 F2 := n2.fr.ff
  have mm : m1 <+: m2 := n2.fr.mm
  by_cases hlt : i < p.1.length
  · have ed : p.1[i]? = some p.1[i] := List.getElem?_eq_getElem hlt
    rw [List.drop_eq_getElem_cons hlt, compGo] at hr
    by_cases hb : heldB p.2 p.1 s2 = true
    · have hr1 : Res (bnd (cTurn (g.cl n) p vs elt t c p.1[i] s2) fun o s1' => bnd (match o with
          | none => compGo (cTurn (g.cl n) p vs elt t c) acc (p.1.drop (i + 1)) s1'
          | some x => if acc.length < sizeLine then compGo (cTurn (g.cl n) p vs elt t c) (acc ++ [x]) (p.1.drop (i + 1)) s1' else none) fin) Pf (PX g W s σ F m Hs) := by
        revert hr
        cases cTurn (g.cl n) p vs elt t c p.1[i] s2 with
        | none => exact id
        | some q =>
          obtain ⟨o, s'⟩ := q
          cases o <;> exact id
      have hr2 := hr1.bnd
      unfold cTurn at hr2
      rw [if_pos hb] at hr2
      have hr3 := hr2.nox.bnd
      obtain ⟨srvI, _⟩ := srv i s2 (wipe σ vs) F2 m2 H n2.rel ff mm (held hb)
      obtain ⟨go, yl⟩ := srvI _ ed
      refine .inr ⟨go, fun H' => ∃ m', m' < p.1.length - i ∧ W' (i + 1) m' H', fun H' z => z, fun x H' y => ?_⟩
      obtain ⟨F3, n3, r3⟩ := yl x H' y
      refine ⟨s2, F3, m2, p.1[i], n3.rel, r3, hr3.mono (fun _ s4 _ hp σ4 F4 m4 H4 n4 o4 w4 => ⟨wipe_eq (o4.mono ht), ?_⟩) fun _ _ _ hx => hx.elim⟩
      refine ⟨s4, F4, m4, n4.rel, hp.bnd.mono (fun b s5 _ hq bb F5 m5 H5 n5 rb => ?_) fun _ _ _ hx => hx.elim⟩
      have rb : bb = b := rb
      subst rb
      -- a turn's end
      have fin2 : ∀ {s6 : Sg} {F6 : Hp} {m6 : List Addr} {H6 : Hp} {acc2 : List D} {accV2 : List V}, NX g s4 σ4 F4 m4 H4 s6 F6 m6 H6 → Rps g.K F6 m6 acc2 accV2 →
          Res (bnd (compGo (cTurn (g.cl n) p vs elt t c) acc2 (p.1.drop (i + 1)) { s6 with env := wipeE vs s6.env }) fin) Pf (PX g W s σ F m Hs) →
          ∀ H7, (H7 = H6 ∧ accV2 = accV ∨ H7 = upd H6 L (.lst accV2)) → ∃ m', m' < p.1.length - i ∧ W' (i + 1) m' H7 := fun {s6 F6 m6 H6 acc2 accV2} n6 ra6 hres H7 h7 => by
        have chain : SN g s2 (wipe σ vs) F2 m2 H s6 σ4 F6 m6 H6 := ((SN.of n3).trans n4).trans (SN.of n6)
        have chain2 := chain.trans (chain.rel.wiped (wipe_eq (o4.mono ht)))
        obtain ⟨ap6, hL6⟩ := ap2.next hL2 (fun ps z => by cases z) chain2
        have os6 : OwnSub (wipeE vs s6.env) (wipeE vs s1.env) := ownSub_wipe.trans (n6.os.trans (w4.trans os2))
        have all := n2.trans chain2
        refine ⟨p.1.length - (i + 1), by omega, acc2, { s6 with env := wipeE vs s6.env }, F6, m6, accV2, ?_, os6, ?_, ra6, ap6, hlt, rfl, hres⟩
        · rcases h7 with ⟨rfl, _⟩ | rfl
          · exact all
          · exact all.setFree hL hL6 ap6.f ap6.m ap6.o
        · rcases h7 with ⟨rfl, rfl⟩ | rfl
          · exact hL6
          · exact upd_same
      have ra5 : Rps g.K F5 m5 acc accV := Rps.mono (((SN.of n3).trans n4).trans (SN.of n5)).fr.ff (((SN.of n3).trans n4).trans (SN.of n5)).fr.mm _ _ ra
      cases bb with
      | false =>
        rw [if_neg (by decide)] at hq
        show (if false = true then _ else _)
        rw [if_neg (by decide)]
        exact fin2 n5 ra5 hq H5 (.inl ⟨rfl, rfl⟩)
      | true =>
        rw [if_pos rfl] at hq
        show (if true = true then _ else _)
        rw [if_pos rfl]
        refine ⟨s5, F5, m5, n5.rel, hq.bnd.mono (fun x6 s6 _ hz v F6 m6 H6 n6 rv => ?_) fun _ _ _ hx => hx.elim⟩
        have rv : Rp g.K F6 m6 x6 v := rv
        have hz : Res (bnd (if acc.length < sizeLine then compGo (cTurn (g.cl n) p vs elt t c) (acc ++ [x6]) (p.1.drop (i + 1)) { s6 with env := wipeE vs s6.env } else none) fin) Pf (PX g W s σ F m Hs) := hz
        split at hz
        · rename_i hlen
          have n46 := n5.trans n6
          have c6 : SN g s2 (wipe σ vs) F2 m2 H s6 σ4 F6 m6 H6 := ((SN.of n3).trans n4).trans (SN.of n46)
          obtain ⟨_, hL6⟩ := ap2.next hL2 (fun ps z => by cases z) c6
          refine ⟨accV, hL6, by rw [← ra.len]; exact hlen, ?_⟩
          exact fin2 n46 ((Rps.mono c6.fr.ff c6.fr.mm _ _ ra).append (.cons rv .nil)) hz _ (.inr rfl)
        · exact hz.elim
    · have hr0 : cTurn (g.cl n) p vs elt t c p.1[i] s2 = none := by
        unfold cTurn
        rw [if_neg hb]
      rw [hr0] at hr
      exact hr.elim
  · have ei : i = p.1.length := by omega
    subst ei
    rw [List.drop_length, compGo] at hr
    have hr : Res (fin acc s2) Pf (PX g W s σ F m Hs) := hr
    show _ ∨ _
    by_cases hb : heldB p.2 p.1 s2 = true
    · have e : fin acc s2 = okk (Hd.own acc) { s2 with env := restore vs s1.env s2.env } := if_pos hb
      rw [e] at hr
      have nr := R1.restored n2 os2
      refine .inl ⟨(srv _ s2 (wipe σ vs) F2 m2 H n2.rel ff mm (held hb)).2 rfl, hr (.ref L) F2 m2 H (t1.trans nr) ⟨⟨L, accV, rfl, hL2, ra, ap2.f, ap2.m, fun z => ?_⟩, fun ds _ a ea => ?_⟩⟩
      · obtain ⟨j, ds, q1, q2⟩ := z
        obtain ⟨d1, q3⟩ := nr.os j ds q1
        exact oL ⟨j, d1, q3, q2⟩
      · cases ea
        exact fun z => Nt.no hL (t1.fr.dom L z)
    · have e : fin acc s2 = none := if_neg hb
      rw [e] at hr
      exact hr.elim
end
end Rf

set_option Elab.async false
set_option linter.all false
set_option maxRecDepth 100000
/-! R12b: comprehensions with two for. -/
namespace Rf
open PySem L2
section
variable {g : Gx} {n : Nat} {W : WX} {X : Cx}
theorem wipe_wipe {σ : L2.St} {vs vs1 : List Nat} (h : ∀ j ∈ vs1, j ∈ vs) : wipe (wipe σ vs1) vs = wipe σ vs := by
  refine wipe_eq (σ' := wipe σ vs1) ⟨by rw [wipe_length, wipe_length], fun j hj => ?_⟩
  rw [wipe_out hj, wipe_out fun z => hj (h j z)]
/-- the inner turn -/
noncomputable def iTurn (cl : Call) (vs1 : List Nat) (elt : E) (t1 : Tg) (c1 : Option T) : D → Sg → Rs (Option D) := fun d s6 =>
  Rf.nox <| bnd (asg cl t1 d s6) fun _ s7 => bnd (evC cl c1 s7) fun b s8 => if b = true then bnd (frz (evE cl elt s8)) fun x s9 => okk (some x) { s9 with env := wipeE vs1 s9.env } else okk none { s8 with env := wipeE vs1 s8.env }
/-- the outer one -/
noncomputable def oTurn (cl : Call) (p : List D × Option Nat) (vs vs1 : List Nat) (elt : E) (t : Tg) (c : Option T) (t1 : Tg) (it1 : I) (c1 : Option T) : List D → D → Sg → Rs (List D) := fun acc d s2 =>
  if heldB p.2 p.1 s2 = true then Rf.nox <| bnd (asg cl t d s2) fun _ s3 => bnd (evC cl c s3) fun b s4 =>
    if b = true then bnd (evI cl it1 s4) fun ds s5 => bnd (compGo (iTurn cl vs1 elt t1 c1) acc ds { s5 with env := wipeE vs1 s5.env }) fun acc2 s10 => okk acc2 { s10 with env := wipeE vs s10.env }
    else okk acc { s4 with env := wipeE vs s4.env } else none
theorem evE_comp2 (cl : Call) (vs vs1 : List Nat) (elt : E) (t : Tg) (it : I) (c : Option T) (t1 : Tg) (it1 : I) (c1 : Option T) (s : Sg) : evE cl (.comp2 vs vs1 elt t it c t1 it1 c1) s = bnd (evW cl it s) fun p s1 =>
    bnd (foldGo (oTurn cl p vs vs1 elt t c t1 it1 c1) [] p.1 { s1 with env := wipeE vs s1.env }) fun xs s6 => if heldB p.2 p.1 s6 = true then okk (.own xs) { s6 with env := restore vs s1.env s6.env } else none := by
  rw [evE]
  rfl
theorem bnd_assoc {α β γ : Type} (m : Rs α) (k : α → Sg → Rs β) (l : β → Sg → Rs γ) : bnd (bnd m k) l = bnd m fun a s => bnd (k a s) l := by
  cases m with
  | none => rfl
  | some p =>
    obtain ⟨o, s⟩ := p
    cases o <;> rfl
theorem comp2_reads {vs vs1 : List Nat} {elt : E} {t : Tg} {it : I} {c : Option T} {t1 : Tg} {it1 : I} {c1 : Option T} (ht : ∀ j ∈ tgSl t, j ∈ vs) (ht1 : ∀ j ∈ tgSl t1, j ∈ vs1) (hv : ∀ j ∈ vs1, j ∈ vs) {σ : L2.St} {Hs : Hp} {Q : VK} (h : tE g n W (.comp2 vs vs1 elt t it c t1 it1 c1) σ Hs Q) :
    tLc2 (tW g n W it) (tG g n WF t) (tC' g n c) (tI g n WF it1) (tG g n WF t1) (tC' g n c1) (tD g n WF elt) vs vs1 σ Hs Q := by
  obtain ⟨s, F, m, r0, h⟩ := h
  rw [evE_comp2] at h
  refine RdE.step (Nx.refl r0) h fun p s1 J F1 m1 H1 h1 n1 t1' r1 L hL => ?_
  obtain ⟨srv, own1⟩ := r1
  have R1 := t1'.rel
  have nw0 : SN g s1 σ F1 m1 H1 { s1 with env := wipeE vs s1.env } (wipe σ vs) F1 m1 H1 := R1.wiped rfl
  obtain ⟨fL, mL, oL⟩ := R1.newF hL
  let fin : List D → Sg → Rs Hd := fun xs s6 => if heldB p.2 p.1 s6 = true then okk (Hd.own xs) { s6 with env := restore vs s1.env s6.env } else none
  let Pf : Hd → Sg → Prop := fun h s' => ∀ v F' m' H', NX g s σ F m Hs s' F' m' H' → repH g h s' σ F' m' H' Hs v → Q v H'
  let W' : Nat → Nat → Hp → Prop := fun i k H => ∃ acc s2 F2 m2 accV, SN g { s1 with env := wipeE vs s1.env } (wipe σ vs) F1 m1 H1 s2 (wipe σ vs) F2 m2 H ∧ OwnSub s2.env (wipeE vs s1.env) ∧ H L = some (.lst accV) ∧ Rps g.K F2 m2 acc accV ∧ Apart F2 m2 s2.env (wipe σ vs) L ∧
    i ≤ p.1.length ∧ k = p.1.length - i ∧ Res (bnd (foldGo (oTurn (g.cl n) p vs vs1 elt t c t1 it1 c1) acc (p.1.drop i) s2) fin) Pf (PX g W s σ F m Hs)
  refine ⟨W', ⟨p.1.length, [], { s1 with env := wipeE vs s1.env }, F1, m1, [], ?_, OwnSub.refl _, upd_same, Rps.nil, ⟨fL, mL, fun z => oL (ownW z)⟩, Nat.zero_le _, rfl, h1⟩, ?_⟩
  · exact (SN.refl nw0.rel).trans (SN.of (nw0.rel.laid hL))
  rintro i k H ⟨acc, s2, F2, m2, accV, n2, os2, hL2, ra, ap2, hi, rfl, hr⟩
  have held : heldB p.2 p.1 s2 = true → Held σ p.2 p.1 s2 (wipe σ vs) := fun hb j hj => by
    obtain ⟨ds, o⟩ := p
    cases hj
    have e := of_heldB hb
    obtain ⟨d1, q1⟩ := os2 j _ e
    have q2 := q1
    rw [wipeE_get] at q2
    by_cases hv : j ∈ vs
    · rw [if_pos hv] at q2
      split at q2 <;> cases q2
    · exact ⟨e, wipe_out hv⟩
  have ff : SubF F1 F2 := n2.fr.ff
  have mm : m1 <+: m2 := n2.fr.mm
  by_cases hlt : i < p.1.length
  · have ed : p.1[i]? = some p.1[i] := List.getElem?_eq_getElem hlt
    rw [List.drop_eq_getElem_cons hlt, foldGo, bnd_assoc] at hr
    by_cases hb : heldB p.2 p.1 s2 = true
    · have hr2 := hr.bnd
      unfold oTurn at hr2
      rw [if_pos hb] at hr2
      have hr3 := hr2.nox.bnd
      obtain ⟨srvI, _⟩ := srv i s2 (wipe σ vs) F2 m2 H n2.rel ff mm (held hb)
      obtain ⟨go, yl⟩ := srvI _ ed
      refine .inr ⟨go, fun H' => ∃ m', m' < p.1.length - i ∧ W' (i + 1) m' H', fun H' z => z, fun x H' y => ?_⟩
      obtain ⟨F3, n3, r3⟩ := yl x H' y
      refine ⟨s2, F3, m2, p.1[i], n3.rel, r3, hr3.mono (fun _ s4 _ hp σ4 F4 m4 H4 n4 o4 w4 => ⟨wipe_eq (o4.mono ht), ?_⟩) fun _ _ _ hx => hx.elim⟩
      refine ⟨s4, F4, m4, n4.rel, hp.bnd.mono (fun b s5 _ hq bb F5 m5 H5 n5 rb => ?_) fun _ _ _ hx => hx.elim⟩
      have rb : bb = b := rb
      subst rb
      have c5 : SN g s2 (wipe σ vs) F2 m2 H s5 σ4 F5 m5 H5 := ((SN.of n3).trans n4).trans (SN.of n5)
      have os5 : OwnSub s5.env (wipeE vs s1.env) := n5.os.trans (w4.trans os2)
      have ra5 : Rps g.K F5 m5 acc accV := Rps.mono c5.fr.ff c5.fr.mm _ _ ra
      obtain ⟨ap5, hL5⟩ := ap2.next hL2 (fun ps z => by cases z) c5
      cases bb with
      | false =>
        rw [if_neg (by decide)] at hq
        show (if false = true then _ else _)
        rw [if_neg (by decide)]
        have chain2 := c5.trans (c5.rel.wiped (wipe_eq (o4.mono ht)))
        obtain ⟨ap6, hL6⟩ := ap2.next hL2 (fun ps z => by cases z) chain2
        exact ⟨p.1.length - (i + 1), by omega, acc, { s5 with env := wipeE vs s5.env }, F5, m5, accV, n2.trans chain2, ownSub_wipe.trans os5, hL6, ra5, ap6, hlt, rfl, hq⟩
      | true =>
        rw [if_pos rfl] at hq
        show (if true = true then _ else _)
        rw [if_pos rfl]
        refine ⟨s5, F5, m5, n5.rel, hq.bnd.mono (fun ds s6 _ hz J1 F6 m6 H6 n6 srv1 => ?_) fun _ _ _ hx => hx.elim⟩
        have srv1 : Srv g F6 m6 σ4 none ds J1 := srv1
        have c6 : SN g s2 (wipe σ vs) F2 m2 H s6 σ4 F6 m6 H6 := c5.trans (SN.of n6)
        have w6 : SN g s6 σ4 F6 m6 H6 { s6 with env := wipeE vs1 s6.env } (wipe σ4 vs1) F6 m6 H6 := n6.rel.wiped rfl
        let Pi : List D → Sg → Prop := fun acc2 s' => Res (bnd (foldGo (oTurn (g.cl n) p vs vs1 elt t c t1 it1 c1) acc2 (p.1.drop (i + 1)) s') fin) Pf (PX g W s σ F m Hs)
        let fin1 : List D → Sg → Rs (List D) := fun acc2 s10 => okk acc2 { s10 with env := wipeE vs s10.env }
        let W1 : Nat → Nat → Hp → Prop := fun j k H => ∃ acc2 s7 F7 m7 accV2, SN g { s1 with env := wipeE vs s1.env } (wipe σ vs) F1 m1 H1 s7 (wipe σ4 vs1) F7 m7 H ∧ OwnSub s7.env (wipeE vs s1.env) ∧ SubF F6 F7 ∧ m6 <+: m7 ∧ H L = some (.lst accV2) ∧ Rps g.K F7 m7 acc2 accV2 ∧ Apart F7 m7 s7.env (wipe σ4 vs1) L ∧
          j ≤ ds.length ∧ k = ds.length - j ∧ Res (bnd (compGo (iTurn (g.cl n) vs1 elt t1 c1) acc2 (ds.drop j) s7) fin1) Pi (fun _ _ => False)
        have os6 : OwnSub (wipeE vs1 s6.env) (wipeE vs s1.env) := ownSub_wipe.trans (n6.os.trans os5)
        obtain ⟨ap7, hL7⟩ := ap2.next hL2 (fun ps z => by cases z) (c6.trans w6)
        have ra6 : Rps g.K F6 m6 acc accV := Rps.mono c6.fr.ff c6.fr.mm _ _ ra
        refine ⟨W1, ⟨ds.length, acc, { s6 with env := wipeE vs1 s6.env }, F6, m6, accV, (n2.trans c6).trans w6, os6, SubF.refl _, List.prefix_rfl, hL7, ra6, ap7, Nat.zero_le _, rfl, hz⟩, ?_⟩
        rintro j k H7 ⟨acc2, s7, F7, m7, accV2, n7, os7, ff7, mm7, hL8, ra7, ap8, hj, rfl, hr7⟩
        by_cases hlt7 : j < ds.length
        · have ed7 : ds[j]? = some ds[j] := List.getElem?_eq_getElem hlt7
          rw [List.drop_eq_getElem_cons hlt7, compGo, bnd_assoc] at hr7
          have hr8 := hr7.bnd
          unfold iTurn at hr8
          have hr9 := hr8.nox.bnd
          obtain ⟨srvJ, _⟩ := srv1 j s7 (wipe σ4 vs1) F7 m7 H7 n7.rel ff7 mm7 (fun i z => by cases z)
          obtain ⟨go1, yl1⟩ := srvJ _ ed7
          refine .inr ⟨go1, fun H' => ∃ k', k' < ds.length - j ∧ W1 (j + 1) k' H', fun H' z => z, fun x1 H8 y1 => ?_⟩
          obtain ⟨F8, n8, r8⟩ := yl1 x1 H8 y1
          refine ⟨s7, F8, m7, ds[j], n8.rel, r8, hr9.mono (fun _ s9 _ hp9 σ9 F9 m9 H9 n9 o9 w9 => ⟨wipe_eq (o9.mono ht1), ?_⟩) fun _ _ _ hx => hx.elim⟩
          refine ⟨s9, F9, m9, n9.rel, hp9.bnd.mono (fun b s10 _ hq10 bb F10 m10 H10 n10 rb => ?_) fun _ _ _ hx => hx.elim⟩
          have rb : bb = b := rb
          subst rb
          -- a turn's end
          have fin2 : ∀ {s11 : Sg} {F11 : Hp} {m11 : List Addr} {H11 : Hp} {acc3 : List D} {accV3 : List V}, NX g s9 σ9 F9 m9 H9 s11 F11 m11 H11 → Rps g.K F11 m11 acc3 accV3 →
              Res (bnd (compGo (iTurn (g.cl n) vs1 elt t1 c1) acc3 (ds.drop (j + 1)) { s11 with env := wipeE vs1 s11.env }) fin1) Pi (fun _ _ => False) →
              ∀ H12, (H12 = H11 ∧ accV3 = accV2 ∨ H12 = upd H11 L (.lst accV3)) → ∃ k', k' < ds.length - j ∧ W1 (j + 1) k' H12 := fun {s11 F11 m11 H11 acc3 accV3} n11 ra11 hres H12 h12 => by
            have chain : SN g s7 (wipe σ4 vs1) F7 m7 H7 s11 σ9 F11 m11 H11 := ((SN.of n8).trans n9).trans (SN.of n11)
            have chain2 := chain.trans (chain.rel.wiped (wipe_eq (o9.mono ht1)))
            obtain ⟨ap11, hL11⟩ := ap8.next hL8 (fun ps z => by cases z) chain2
            have os11 : OwnSub (wipeE vs1 s11.env) (wipeE vs s1.env) := ownSub_wipe.trans (n11.os.trans (w9.trans os7))
            have all := n7.trans chain2
            refine ⟨ds.length - (j + 1), by omega, acc3, { s11 with env := wipeE vs1 s11.env }, F11, m11, accV3, ?_, os11, ff7.trans chain2.fr.ff, mm7.trans chain2.fr.mm, ?_, ra11, ap11, hlt7, rfl, hres⟩
            · rcases h12 with ⟨rfl, _⟩ | rfl
              · exact all
              · exact all.setFree hL hL11 ap11.f ap11.m ap11.o
            · rcases h12 with ⟨rfl, rfl⟩ | rfl
              · exact hL11
              · exact upd_same
          have c10 : SN g s7 (wipe σ4 vs1) F7 m7 H7 s10 σ9 F10 m10 H10 := ((SN.of n8).trans n9).trans (SN.of n10)
          have ra10 : Rps g.K F10 m10 acc2 accV2 := Rps.mono c10.fr.ff c10.fr.mm _ _ ra7
          cases bb with
          | false =>
            rw [if_neg (by decide)] at hq10
            show (if false = true then _ else _)
            rw [if_neg (by decide)]
            exact fin2 n10 ra10 hq10 H10 (.inl ⟨rfl, rfl⟩)
          | true =>
            rw [if_pos rfl] at hq10
            show (if true = true then _ else _)
            rw [if_pos rfl]
            refine ⟨s10, F10, m10, n10.rel, hq10.bnd.mono (fun x6 s11 _ hz11 v F11 m11 H11 n11 rv => ?_) fun _ _ _ hx => hx.elim⟩
            have rv : Rp g.K F11 m11 x6 v := rv
            have hz11 : Res (bnd (if acc2.length < sizeLine then compGo (iTurn (g.cl n) vs1 elt t1 c1) (acc2 ++ [x6]) (ds.drop (j + 1)) { s11 with env := wipeE vs1 s11.env } else none) fin1) Pi (fun _ _ => False) := hz11
            split at hz11
            · rename_i hlen
              have n46 := n10.trans n11
              have c11 : SN g s7 (wipe σ4 vs1) F7 m7 H7 s11 σ9 F11 m11 H11 := ((SN.of n8).trans n9).trans (SN.of n46)
              obtain ⟨_, hL11⟩ := ap8.next hL8 (fun ps z => by cases z) c11
              refine ⟨accV2, hL11, by rw [← ra7.len]; exact hlen, ?_⟩
              exact fin2 n46 ((Rps.mono c11.fr.ff c11.fr.mm _ _ ra7).append (.cons rv .nil)) hz11 _ (.inr rfl)
            · exact hz11.elim
        · have ej : j = ds.length := by omega
          subst ej
          rw [List.drop_length, compGo] at hr7
          have hr7 : Pi acc2 { s7 with env := wipeE vs s7.env } := hr7
          have ww : wipe (wipe σ4 vs1) vs = wipe σ vs := (wipe_wipe hv).trans (wipe_eq (o4.mono ht))
          have n12 := n7.rel.wiped (vs := vs) ww
          obtain ⟨ap12, hL12⟩ := ap8.next hL8 (fun ps z => by cases z) n12
          refine .inl ⟨(srv1 _ s7 (wipe σ4 vs1) F7 m7 H7 n7.rel ff7 mm7 (fun i z => by cases z)).2 rfl, p.1.length - (i + 1), by omega, acc2, { s7 with env := wipeE vs s7.env }, F7, m7, accV2, n7.trans n12, ownSub_wipe.trans os7, hL12, ra7, ap12, hlt, rfl, hr7⟩
    · have hr0 : oTurn (g.cl n) p vs vs1 elt t c t1 it1 c1 acc p.1[i] s2 = none := by
        unfold oTurn
        rw [if_neg hb]
      rw [hr0] at hr
      exact hr.elim
  · have ei : i = p.1.length := by omega
    subst ei
    rw [List.drop_length, foldGo] at hr
    have hr : Res (fin acc s2) Pf (PX g W s σ F m Hs) := hr
    show _ ∨ _
    by_cases hb : heldB p.2 p.1 s2 = true
    · have e : fin acc s2 = okk (Hd.own acc) { s2 with env := restore vs s1.env s2.env } := if_pos hb
      rw [e] at hr
      have nr := R1.restored n2 os2
      refine .inl ⟨(srv _ s2 (wipe σ vs) F2 m2 H n2.rel ff mm (held hb)).2 rfl, hr (.ref L) F2 m2 H (t1'.trans nr) ⟨⟨L, accV, rfl, hL2, ra, ap2.f, ap2.m, fun z => ?_⟩, fun ds _ a ea => ?_⟩⟩
      · obtain ⟨j, ds, q1, q2⟩ := z
        obtain ⟨d1, q3⟩ := nr.os j ds q1
        exact oL ⟨j, d1, q3, q2⟩
      · cases ea
        exact fun z => Nt.no hL (t1'.fr.dom L z)
    · have e : fin acc s2 = none := if_neg hb
      rw [e] at hr
      exact hr.elim
end
end Rf

set_option Elab.async false
set_option linter.all false
set_option maxRecDepth 100000
/-! R13: enumerate, zip; len(set(..)); calls by keywords. -/
namespace Rf
open PySem L2
section
variable {g : Gx} {n : Nat} {W : WX} {X : Cx} {s s' s0 s1 s2 : Sg} {σ σ' σ0 σ1 σ2 : L2.St} {F F' F0 F1 F2 : Hp} {m m' m0 m1 m2 : List Addr} {H H' H0 H1 H2 : Hp} {tg : Expr}
section
variable {es : List Expr} {kk : Nat} {tp p pos : Pos}
theorem enum_pick {e : Expr} {e' : E} (hK : X.K = g.K) (hg : Gl X "enumerate") (hm : X.mg "enumerate" = none) (he : PE X e (tE g n W e')) (hs : starEach [e] X.env = (false, eval e X.env) :: starEach [] X.env) {σ : L2.St} {H : Hp} {R : It → Hp → Prop} (pins : List (Addr × Obj)) (sh : Shared) (I : L2.Inv X pins σ H sh)
    {α : Type} {k : D → Sg → Rs α} {P : α → Sg → Prop} (r0 : Rel g.K g.TT s σ F m H) (h : Res (bnd (frz (evE (g.cl n) e' s)) k) P (PX g W s σ F m H))
    (next : ∀ d s1 F1 m1 H1, Res (k d s1) P (PX g W s σ F m H) → NX g s σ F m H s1 F1 m1 H1 → ∃ ds, enumI d = some ds ∧ ∀ J, Srv g F1 m1 σ none ds J → R J H1) :
    wpAny (model X.prog X.w) X.A (eval (.Call (.Name "enumerate" p) [e] [] pos) X.env) (fun v s1 => wpAny (model X.prog X.w) X.A (pyIter v) (PIE X pins σ (.Tuple es kk tp) R) X.xe s1) X.xe sh := by
  have pa : PA X [e] (tCons (tD g n W e') tNil) := pa_cons (pe_D he) pa_nil hs
  have hs' : starEach [e] X.env = [(false, eval e X.env)] := hs
  have key : ∀ Q : List V → Hp → Prop, (∀ d s1 v F1 m1 H1, frz (evE (g.cl n) e' s) = some (.ok d, s1) → Res (k d s1) P (PX g W s σ F m H) → NX g s σ F m H s1 F1 m1 H1 → Rp g.K F1 m1 d v → Q [v] H1) → tCons (tD g n W e') tNil σ H Q := fun Q hq =>
    RdE.stepE (ev := fun s => frz (evE (g.cl n) e' s)) (Nx.refl r0) h fun d s1 v F1 m1 H1 e hp t1 r1 => hq d s1 v F1 m1 H1 e hp t1 r1
  cases q : frz (evE (g.cl n) e' s) with
  | none => rw [q] at h; exact h.elim
  | some p =>
    obtain ⟨o, s2⟩ := p
    cases o with
    | exc x => exact (pi_enum hg hm pa hs').run pins sh σ H R I (key _ fun d s1 v F1 m1 H1 e => by rw [q] at e; cases e)
    | ok d0 =>
      cases d0 with
      | tup ds0 =>
        refine (pi_enumT hg hm pa hs').run pins sh σ H R I (key _ fun d s1 v F1 m1 H1 e hp t1 r1 => ?_)
        rw [q] at e
        cases e
        obtain ⟨ds, e1, hR⟩ := next _ s2 F1 m1 H1 hp t1
        cases e1
        rw [Rp] at r1
        obtain ⟨a, vs, rfl, h1, h2⟩ := r1
        rw [hK]
        exact ⟨a, vs, rfl, t1.rel.hr.sub.seqT h1, hR _ (srv_enumT h1 h2)⟩
      | lst ds0 =>
        refine (pi_enum hg hm pa hs').run pins sh σ H R I (key _ fun d s1 v F1 m1 H1 e hp t1 r1 => ?_)
        rw [q] at e
        cases e
        obtain ⟨ds, e1, hR⟩ := next _ s2 F1 m1 H1 hp t1
        cases e1
        rw [Rp] at r1
        obtain ⟨a, vs, rfl, h1, h2⟩ := r1
        rw [hK]
        exact ⟨a, vs, rfl, SqL.of (t1.rel.hr.sub _ _ h1), hR _ (srv_enumL h1 h2)⟩
      | _ =>
        refine (pi_enum hg hm pa hs').run pins sh σ H R I (key _ fun d s1 v F1 m1 H1 e hp t1 r1 => ?_)
        rw [q] at e
        cases e
        obtain ⟨ds, e1, hR⟩ := next _ s2 F1 m1 H1 hp t1
        cases e1
theorem sd_ienum {e : Expr} {e' : E} (hK : X.K = g.K) (hg : Gl X "enumerate") (hm : X.mg "enumerate" = none) (he : PE X e (tE g n W e')) (hs : starEach [e] X.env = (false, eval e X.env) :: starEach [] X.env) :
    PI X (.Tuple es kk tp) (.Call (.Name "enumerate" p) [e] [] pos) (tI g n W (.enum e')) ∧ PI X (.Tuple es kk tp) (.Call (.Name "enumerate" p) [e] [] pos) (tW g n W (.enum e')) := by
  refine ⟨⟨fun pins sh σ H R I ⟨s, F, m, r0, h⟩ => ?_⟩, ⟨fun pins sh σ H R I ⟨s, F, m, r0, h⟩ => ?_⟩⟩
  · rw [evI] at h
    refine enum_pick hK hg hm he hs pins sh I r0 h fun d s1 F1 m1 H1 hp t1 => ?_
    obtain ⟨ds, e1, h2⟩ := hp.opt
    exact ⟨ds, e1, fun J hJ => h2 J F1 m1 H1 t1 hJ⟩
  · rw [evW] at h
    refine enum_pick hK hg hm he hs pins sh I r0 h fun d s1 F1 m1 H1 hp t1 => ?_
    obtain ⟨ds, e1, h2⟩ := hp.opt
    obtain ⟨ys, e2, rfl⟩ := Option.map_eq_some_iff.mp e1
    exact ⟨ys, e2, fun J hJ => h2 J F1 m1 H1 t1 ⟨hJ, fun j z => by cases z⟩⟩
theorem zip_reads {a' b' : E} {σ : L2.St} {H : Hp} {R : It → Hp → Prop} {α : Type} {k : List D → Sg → Rs α} {P : α → Sg → Prop} (r0 : Rel g.K g.TT s σ F m H)
    (h : Res (bnd (frz (evE (g.cl n) a' s)) fun x s1 => bnd (frz (evE (g.cl n) b' s1)) fun y s2 => match zipI x y with | none => none | some ds => k ds s2) P (PX g W s σ F m H))
    (next : ∀ ds s1 F1 m1 H1 J, Res (k ds s1) P (PX g W s σ F m H) → NX g s σ F m H s1 F1 m1 H1 → Srv g F1 m1 σ none ds J → R J H1) : RZ.iZipA g.K (tCons (tD g n W a') (tCons (tD g n W b') tNil)) σ H R := by
  refine RdE.step (Nx.refl r0) h fun x s1 v F1 m1 H1 h1 n1 t1 r1 => ?_
  refine RdE.step t1 h1 fun y s2 w F2 m2 H2 h2 n2 t2 r2 => ?_
  have r1 : Rp g.K F2 m2 x v := Rp.mono n2.fr.ff n2.fr.mm _ _ r1
  have r2 : Rp g.K F2 m2 y w := r2
  cases z : zipI x y with
  | none => rw [z] at h2; exact h2.elim
  | some ds =>
    rw [z] at h2
    cases x with
    | lst xs =>
      cases y with
      | lst ys =>
        cases z
        rw [Rp] at r1 r2
        obtain ⟨a, vs, rfl, a1, a2⟩ := r1
        obtain ⟨b, ws, rfl, b1, b2⟩ := r2
        exact ⟨a, b, vs, ws, rfl, .inl ⟨SqL.of (t2.rel.hr.sub _ _ a1), SqL.of (t2.rel.hr.sub _ _ b1), next _ s2 F2 m2 H2 _ h2 t2 (srv_zipL a1 a2 b1 b2)⟩⟩
      | _ => cases z
    | tup xs =>
      cases y with
      | tup ys =>
        cases z
        rw [Rp] at r1 r2
        obtain ⟨a, vs, rfl, a1, a2⟩ := r1
        obtain ⟨b, ws, rfl, b1, b2⟩ := r2
        exact ⟨a, b, vs, ws, rfl, .inr ⟨t2.rel.hr.sub.seqT a1, t2.rel.hr.sub.seqT b1, next _ s2 F2 m2 H2 _ h2 t2 (srv_zipT a1 a2 b1 b2)⟩⟩
      | _ => cases z
    | _ => cases z
theorem sd_izip {a b : Expr} {a' b' : E} (hK : X.K = g.K) (hg : Gl X "zip") (hm : X.mg "zip" = none) (ha : PE X a (tE g n W a')) (hb : PE X b (tE g n W b'))
    (hs : starEach [a, b] X.env = (false, eval a X.env) :: starEach [b] X.env) (hs2 : starEach [b] X.env = (false, eval b X.env) :: starEach [] X.env) (hpl : (backTo pos (starEach [b] X.env)).any (·.1) = false) :
    PI X (.Tuple es kk tp) (.Call (.Name "zip" p) [a, b] [] pos) (tI g n W (.zip a' b')) ∧ PI X (.Tuple es kk tp) (.Call (.Name "zip" p) [a, b] [] pos) (tW g n W (.zip a' b')) := by
  have pa : PA X [a, b] (tCons (tD g n W a') (tCons (tD g n W b') tNil)) := pa_cons (pe_D ha) (pa_cons (pe_D hb) pa_nil hs2) hs
  refine ⟨(RZ.pi_zipA hg hm pa hs hpl).imp fun σ H R ⟨s, F, m, r0, h⟩ => ?_, (RZ.pi_zipA hg hm pa hs hpl).imp fun σ H R ⟨s, F, m, r0, h⟩ => ?_⟩
  · rw [evI] at h
    rw [hK]
    refine zip_reads (k := fun ds s2 => okk ds s2) (P := fun ds s' => ∀ J F' m' H', NX g s σ F m H s' F' m' H' → repI g ds s' σ F' m' H' H J → R J H') r0 ?_ fun ds s1 F1 m1 H1 J hp t1 hJ => hp J F1 m1 H1 t1 hJ
    have e : ∀ x y (s2 : Sg), opt (zipI x y) s2 = (match zipI x y with | none => none | some ds => okk ds s2) := fun x y s2 => by cases zipI x y <;> rfl
    simp only [e] at h
    exact h
  · rw [evW] at h
    rw [hK]
    refine zip_reads (k := fun ds s2 => okk (ds, none) s2) (P := fun ds s' => ∀ J F' m' H', NX g s σ F m H s' F' m' H' → repW g ds s' σ F' m' H' H J → R J H') r0 ?_ fun ds s1 F1 m1 H1 J hp t1 hJ => hp J F1 m1 H1 t1 ⟨hJ, fun j z => by cases z⟩
    have e : ∀ x y (s2 : Sg), opt ((zipI x y).map (·, (none : Option Nat))) s2 = (match zipI x y with | none => none | some ds => okk (ds, none) s2) := fun x y s2 => by cases zipI x y <;> rfl
    simp only [e] at h
    exact h
end
/-! ### len(set(..)) -/
def tSetLen (K : PySem.W.Frag) (ta : TE) : TE := fun σ H Q => ta σ H fun x H1 => ∃ (l : Addr) (ks : List (Addr × List Int)), x = V.ref l ∧ SqT K H1 l (ks.map fun p => V.ref p.1) ∧ (∀ p ∈ ks, SqT K H1 p.1 (p.2.map V.int)) ∧ ks.length < 64 ∧ Q (.int (dd (ks.map (·.2))).length) H1
open PySem.Spec PyProof.Rows in
theorem pe_setLen {a : Expr} {ta : TE} {p p2 q pos : Pos} (hc : X.calm = true) (hu : X.A.units + 64 < cLine) (hg : Gl X "len") (hm : X.mg "len" = none) (hg2 : Gl X "set") (hm2 : X.mg "set" = none) (ha : PE X a ta)
    (na : starEach [a] X.env = (false, eval a X.env) :: starEach [] X.env) : PE X (.Call (.Name "len" p) [.Call (.Name "set" p2) [a] [] q] [] pos) (tSetLen X.K ta) := by
  refine ⟨fun pins s σ H Q I h => ?_⟩
  refine Call_ (ld_blt I hg hm boot_len ?_)
  refine PyProof.Rows.callWith_builtin1 (PyProof.Rows.args_cons ?_ rfl) rfl rfl
  refine Call_ (ld_blt I hg2 hm2 PyProof.Rows.boot_set ?_)
  refine PyProof.Rows.callWith_type1 (PyProof.Rows.args_cons (thn (ha.run pins s σ H _ I h) fun v s1 ⟨x, H1, I1, r1, l, ks, ex, hl, hk, few, q1⟩ => PyProof.Rows.args_nil ?_) na) na rfl
  subst ex
  cases r1
  obtain ⟨its, rv, pl, _⟩ := I1.tuple hl
  refine setTup (P := X.prog) (w := X.w) ks (I1.ok.hd hc) pl (by simpa using refs_of_vals rv) (fun p hp => I1.isT (hk p hp)) few (by omega) fun s2 ⟨h', tk, L, es, ep, t, e2, R, got, kp⟩ => ?_
  subst e2
  refine PyProof.Rows.args_nil ?_
  have I2 : Inv X pins σ H1 { s1 with heap := h', toks := tk } := I1.kept kp
  obtain ⟨o, ho, hex, hd⟩ := R.ob
  have hsz := SetTR.size (s := { s1 with heap := h', toks := tk }) R
  have hL := got_dd got R.nd
  have hgl := got.len
  have hf := SetTR.fits (s := { s1 with heap := h', toks := tk }) R
  refine call_len_set ho hex hd hf (by omega) ⟨.int (dd (ks.map (·.2))).length, H1, I2.tok _, ⟨_, by rw [hsz, hL]⟩, q1⟩
theorem tupInts_vals {F : Hp} {m : List Addr} : ∀ {ds : List D} {vs : List V} {ks : List (List Int)}, Rps g.K F m ds vs → tupInts ds = some ks → ∃ L : List (Addr × List Int), vs = L.map (fun p => V.ref p.1) ∧ L.map (·.2) = ks ∧ ∀ p ∈ L, SqT g.K F p.1 (p.2.map V.int)
  | [], vs, ks, r, e => by
    cases e
    rw [Rps] at r
    exact ⟨[], r, rfl, fun p hp => by cases hp⟩
  | .tup ds :: dr, vs, ks, r, e => by
    rw [Rps] at r
    obtain ⟨v, vr, rfl, h1, h2⟩ := r
    rw [Rp] at h1
    obtain ⟨a, ws, rfl, h3, h4⟩ := h1
    have e : ((intsOf ds).bind fun k => (tupInts dr).map (k :: ·)) = some ks := e
    cases q : intsOf ds with
    | none => rw [q] at e; cases e
    | some k =>
      cases q2 : tupInts dr with
      | none => rw [q, q2] at e; cases e
      | some kr =>
        rw [q, q2] at e
        cases e
        obtain ⟨L, rfl, l2, l3⟩ := tupInts_vals h2 q2
        rw [ints_vals h4 q] at h3
        refine ⟨(a, k) :: L, rfl, by simp [l2], fun p hp => ?_⟩
        rcases List.mem_cons.mp hp with rfl | hp
        · exact h3
        · exact l3 p hp
  | .non :: _, _, _, _, e => by cases e
  | .bl _ :: _, _, _, _, e => by cases e
  | .int _ :: _, _, _, _, e => by cases e
  | .str _ :: _, _, _, _, e => by cases e
  | .lst _ :: _, _, _, _, e => by cases e
  | .fl _ :: _, _, _, _, e => by cases e
  | .ref _ :: _, _, _, _, e => by cases e
theorem evHs_one (cl : Call) (e : E) (s : Sg) : evHs cl [e] s = bnd (evE cl e s) fun d s1 => okk [d] s1 := by
  rw [evHs]
  cases evE cl e s with
  | none => rfl
  | some q =>
    obtain ⟨o, s1⟩ := q
    cases o with
    | exc x => rfl
    | ok d => simp only [bnd_ok]; rw [evHs]; rfl
theorem sd_setLen {a : Expr} {a' : E} {p p2 q pos : Pos} (hK : X.K = g.K) (hc : X.calm = true) (hu : X.A.units + 64 < cLine) (hg : Gl X "len") (hg2 : Gl X "set") (hm : X.mg "len" = none) (hm2 : X.mg "set" = none) (ha : PE X a (tE g n W a'))
    (na : starEach [a] X.env = (false, eval a X.env) :: starEach [] X.env) : PE X (.Call (.Name "len" p) [.Call (.Name "set" p2) [a] [] q] [] pos) (tE g n W (.bcall .setLen [a'])) := by
  refine (pe_setLen hc hu hg hm hg2 hm2 ha na).imp fun σ H Q ⟨s, F, m, r0, h⟩ => ?_
  rw [evE, evHs_one] at h
  have h2 : Res (bnd (evE (g.cl n) a' s) fun hd s1 => opt ((s1.rd hd).bind fun d => bcall .setLen [d]) s1) (fun h s' => ∀ v F' m' H', NX g s σ F m H s' F' m' H' → repH g h s' σ F' m' H' H v → Q v H') (PX g W s σ F m H) := by
    revert h
    cases evE (g.cl n) a' s with
    | none => exact id
    | some q =>
      obtain ⟨o, s1⟩ := q
      cases o with
      | exc x => exact id
      | ok d =>
        simp only [bnd_ok]
        rw [show List.mapM s1.rd [d] = (s1.rd d).bind fun x => some [x] by
          rw [List.mapM_cons]
          cases s1.rd d <;> rfl]
        cases s1.rd d <;> exact id
  refine RdE.step (Nx.refl r0) h2 fun hd s1 x F1 m1 H1 h3 n1 t1 r1 => ?_
  obtain ⟨hr, e2, k⟩ := h3.opt
  cases q : s1.rd hd with
  | none => rw [q] at e2; cases e2
  | some d =>
    rw [q] at e2
    have rx := t1.rel.rd r1.1 q
    cases d with
    | tup ds =>
      have e2 : ((tupInts ds).bind fun ks => if ks.length < 64 then some (Hd.d (.int (dd ks).length)) else none) = some hr := e2
      cases z : tupInts ds with
      | none => rw [z] at e2; cases e2
      | some ks =>
        rw [z] at e2
        have e2 : (if ks.length < 64 then some (Hd.d (.int (dd ks).length)) else none) = some hr := e2
        split at e2
        · rename_i hn
          cases e2
          rcases rx with rx | ⟨_, _, _, e', _⟩
          · rw [Rp] at rx
            obtain ⟨b, vs, rfl, h1, h2⟩ := rx
            obtain ⟨L, rfl, l2, l3⟩ := tupInts_vals h2 z
            have ll : L.length = ks.length := by rw [← l2, List.length_map]
            rw [hK]
            refine ⟨b, L, rfl, t1.rel.hr.sub.seqT h1, fun p hp => t1.rel.hr.sub.seqT (l3 p hp), by omega, ?_⟩
            rw [l2]
            exact k _ F1 m1 H1 t1 (.d rp_int)
          · cases e'
        · cases e2
    | _ => cases e2
end
end Rf

set_option Elab.async false
set_option linter.all false
set_option maxRecDepth 100000
/-! R14: calls by keywords. -/
namespace Rf
open PySem L2
/-- what a def's parameters get by such a call -/
structure KB (K : PySem.W.Frag) (fd : FuncData) (ps ks : List Str) (np : Nat) (perm : List Nat) : Prop where
  to : ∀ (s : Shared) (us ws : List Value), us.length = np → ws.length = ks.length → BindsTo s fd ⟨us, ks.zip ws⟩ (ps.zip (us ++ perm.filterMap fun i => ws[i]?))
theorem vals_perm {vs : List V} {us : List Value} (r : Vals vs us) : ∀ perm : List Nat, Vals (perm.filterMap fun i => vs[i]?) (perm.filterMap fun i => us[i]?)
  | [] => .nil
  | i :: perm => by
    have ih := vals_perm r perm
    cases e : vs[i]? with
    | none =>
      have e2 : us[i]? = none := by
        rw [List.getElem?_eq_none_iff] at e ⊢
        rw [← r.length]
        exact e
      rw [List.filterMap_cons_none e, List.filterMap_cons_none e2]
      exact ih
    | some v =>
      obtain ⟨u, e2, ru⟩ := r.get e
      rw [List.filterMap_cons_some e, List.filterMap_cons_some e2]
      exact .cons ru ih
theorem rps_perm {K : PySem.W.Frag} {F : Hp} {m : List Addr} {ds : List D} {vs : List V} (r : Rps K F m ds vs) : ∀ perm : List Nat, Rps K F m (perm.filterMap fun i => ds[i]?) (perm.filterMap fun i => vs[i]?)
  | [] => Rps.nil
  | i :: perm => by
    have ih := rps_perm r perm
    cases e : ds[i]? with
    | none =>
      have e2 : vs[i]? = none := by
        rw [List.getElem?_eq_none_iff] at e ⊢
        rw [← r.len]
        exact e
      rw [List.filterMap_cons_none e, List.filterMap_cons_none e2]
      exact ih
    | some d =>
      obtain ⟨v, e2, rv⟩ := r.get e
      rw [List.filterMap_cons_some e, List.filterMap_cons_some e2]
      exact Rps.cons rv ih
section
variable {g : Gx} {n : Nat} {W : WX} {X : Cx}
theorem RdE.stepE' {α β γ : Type} {s s0 : Sg} {σ : L2.St} {F F0 : Hp} {m m0 : List Addr} {H H0 : Hp} {ev : Sg → Rs α} {rep : α → Sg → L2.St → Hp → List Addr → Hp → Hp → β → Prop} {k : α → Sg → Rs γ} {P : γ → Sg → Prop} {Q : β → Hp → Prop}
    (n0 : NX g s0 σ F0 m0 H0 s F m H) (h : Res (bnd (ev s) k) P (PX g W s0 σ F0 m0 H0))
    (next : ∀ a s1 v F1 m1 H1, ev s = some (.ok a, s1) → Res (k a s1) P (PX g W s0 σ F0 m0 H0) → NX g s σ F m H s1 F1 m1 H1 → NX g s0 σ F0 m0 H0 s1 F1 m1 H1 → rep a s1 σ F1 m1 H1 H v → Q v H1) : RdE g W ev rep σ H Q :=
  ⟨s, F, m, n0.rel, h.bnd.mono (fun a s1 e hp v F1 m1 H1 nx r => next a s1 v F1 m1 H1 e hp nx (n0.trans nx) r) fun x s1 _ hx => hx.next n0⟩
def tCallKS (sp : Sp) (np nk : Nat) (perm : List Nat) (W : WX) (t tk : TA) : TE := fun σ H Q => t σ H fun vs H1 => tk σ H1 fun zs H2 => vs.length = np ∧ zs.length = nk ∧ sp (vs ++ perm.filterMap fun i => zs[i]?) H2 Q (WE W σ)
open PySem.Spec PyProof.Rows in
theorem pe_callKS {CX : CXT} {k np : Nat} {f : Addr} {fd : FuncData} {ps ks : List Str} {perm : List Nat} {sp : Sp} {x : Str} {p pos : Pos} {e : Expr} {es : List Expr} {kws : List Keyword} {t tk : TA} (hF : FnOk X.prog X.w X.K X.mg X.base CX k f fd ps sp) (hr : Room k X.A) (hg : Gl X x) (hm : X.mg x = some (.ref f))
    (hk : PySem.W.keepIn X.K (.ref f) = true) (kb : KB X.K fd ps ks np perm) (hx : ∀ σ, PassesAt CX X σ (WE W σ)) (ha : PA X (e :: es) t) (hkw : PK X kws tk) (hall : (backToKw pos (keywordEach kws X.env)).all (·.1.isSome) = true) (hks : (backToKw pos (keywordEach kws X.env)).filterMap (·.1) = ks)
    (hdb : (x == ("__debug__" : Str)) = false) (he : starEach (e :: es) X.env = (false, eval e X.env) :: starEach es X.env) (hpl : ((backTo pos (starEach (e :: es) X.env)).any (·.1) || (backToKw pos (keywordEach kws X.env)).any (·.1.isNone)) = false) :
    PE X (.Call (.Name x p) (e :: es) kws pos) (tCallKS sp np ks.length perm W t tk) := by
  refine ⟨fun pins s σ H Q I h => ?_⟩
  refine wpAny_Call_Name_kw (ld_glob I hg hm ?_ hdb)
  refine PySem.W.callWith_KW (h₀ := X.base) I.ok.mod.kin hk hall (thn (ha.run pos pins s σ H _ I h) fun us s1 ⟨vs, H1, I1, r, q⟩ => ?_) hpl he
  refine thn (hkw.run pos pins s1 σ H1 _ I1 q) fun ws s2 ⟨zs, H2, I2, rz, l1, l2, q2⟩ => ⟨I2.kIn, ?_⟩
  rw [hks]
  have rr := r.append (vals_perm rz perm)
  refine wpAny_call (codeAny_mono (hF.run X.A X.stack s2 H2 ⟨us, ks.zip ws⟩ _ _ Q (WE W σ) hr I2.env0 (kb.to s2 us ws (by rw [← r.length]; exact l1) (by rw [← rz.length]; exact l2)) rr q2) fun r s' hq => ?_)
  cases r with
  | error e => exact hx σ pins H2 s2 e s' I2 hq
  | ok fl =>
    cases fl with
    | ret u => exact I2.after hq
    | next => exact False.elim hq
    | brk => exact False.elim hq
    | cont => exact False.elim hq
open PySem.Spec PyProof.Rows in
theorem pe_callKS0 {CX : CXT} {k : Nat} {f : Addr} {fd : FuncData} {ps ks : List Str} {perm : List Nat} {sp : Sp} {x : Str} {p pos : Pos} {kws : List Keyword} {tk : TA} (hF : FnOk X.prog X.w X.K X.mg X.base CX k f fd ps sp) (hr : Room k X.A) (hg : Gl X x) (hm : X.mg x = some (.ref f))
    (hk : PySem.W.keepIn X.K (.ref f) = true) (kb : KB X.K fd ps ks 0 perm) (hx : ∀ σ, PassesAt CX X σ (WE W σ)) (hkw : PK X kws tk) (hall : (backToKw pos (keywordEach kws X.env)).all (·.1.isSome) = true) (hks : (backToKw pos (keywordEach kws X.env)).filterMap (·.1) = ks)
    (hdb : (x == ("__debug__" : Str)) = false) (hpl : ((backTo pos (starEach [] X.env)).any (·.1) || (backToKw pos (keywordEach kws X.env)).any (·.1.isNone)) = false) :
    PE X (.Call (.Name x p) [] kws pos) (fun σ H Q => tk σ H fun zs H2 => zs.length = ks.length ∧ sp ([] ++ perm.filterMap fun i => zs[i]?) H2 Q (WE W σ)) := by
  refine ⟨fun pins s σ H Q I h => ?_⟩
  refine wpAny_Call_Name_kw (ld_glob I hg hm ?_ hdb)
  refine PySem.W.callWith_KW0 (h₀ := X.base) I.ok.mod.kin hk hall (thn (hkw.run pos pins s σ H _ I h) fun ws s2 ⟨zs, H2, I2, rz, l2, q2⟩ => ⟨I2.kIn, ?_⟩) hpl
  rw [hks]
  have rr : Vals ([] ++ perm.filterMap fun i => zs[i]?) ([] ++ perm.filterMap fun i => ws[i]?) := vals_perm rz perm
  refine wpAny_call (codeAny_mono (hF.run X.A X.stack s2 H2 ⟨[], ks.zip ws⟩ _ _ Q (WE W σ) hr I2.env0 (kb.to s2 [] ws rfl (by rw [← rz.length]; exact l2)) rr q2) fun r s' hq => ?_)
  cases r with
  | error e => exact hx σ pins H2 s2 e s' I2 hq
  | ok fl =>
    cases fl with
    | ret u => exact I2.after hq
    | next => exact False.elim hq
    | brk => exact False.elim hq
    | cont => exact False.elim hq
theorem sd_CallK {CXn k np : Nat} {f : Addr} {fd : FuncData} {ps ks : List Str} {perm : List Nat} {x : Str} {p pos : Pos} {e : Expr} {es : List Expr} {kws : List Keyword} {es' ks' : List E} (hF : FnOk X.prog X.w X.K X.mg X.base (L2.CX X.prog X.w) CXn f fd ps (spF g n k)) (hr : Room CXn X.A) (hg : Gl X x)
    (hm : X.mg x = some (.ref f)) (hk : PySem.W.keepIn X.K (.ref f) = true) (kb : KB X.K fd ps ks np perm) (tk : Takes X W) (ha : PA X (e :: es) (tEs g n W es')) (hkw : PK X kws (tEs g n W ks')) (hn : es'.length = np) (hn2 : ks'.length = ks.length)
    (hall : (backToKw pos (keywordEach kws X.env)).all (·.1.isSome) = true) (hks : (backToKw pos (keywordEach kws X.env)).filterMap (·.1) = ks)
    (hdb : (x == ("__debug__" : Str)) = false) (he : starEach (e :: es) X.env = (false, eval e X.env) :: starEach es X.env) (hpl : ((backTo pos (starEach (e :: es) X.env)).any (·.1) || (backToKw pos (keywordEach kws X.env)).any (·.1.isNone)) = false) :
    PE X (.Call (.Name x p) (e :: es) kws pos) (tE g n W (.callK k es' ks' perm)) := by
  refine (pe_callKS hF hr hg hm hk kb (fun σ => passAt tk σ) ha hkw hall hks hdb he hpl).imp fun σ H Q ⟨s, F, m, r0, h⟩ => ?_
  rw [evE] at h
  refine RdE.stepE' (Nx.refl r0) h fun ds s1 vs F1 m1 H1 e1 h1 _ t1 r1 => ?_
  refine RdE.stepE' t1 h1 fun zs s2 ws F2 m2 H2 e2 h2 n2 t2 r2 => ?_
  have r1 : Rps g.K F2 m2 ds vs := Rps.mono n2.fr.ff n2.fr.mm _ _ r1
  have r2 : Rps g.K F2 m2 zs ws := r2
  refine ⟨by rw [← r1.len, evEs_len _ _ _ _ _ e1, hn], by rw [← r2.len, evEs_len _ _ _ _ _ e2, hn2], ?_⟩
  exact callR_ok t2 (r1.append (rps_perm r2 perm)) h2
theorem sd_CallK0 {CXn k : Nat} {f : Addr} {fd : FuncData} {ps ks : List Str} {perm : List Nat} {x : Str} {p pos : Pos} {kws : List Keyword} {ks' : List E} (hF : FnOk X.prog X.w X.K X.mg X.base (L2.CX X.prog X.w) CXn f fd ps (spF g n k)) (hr : Room CXn X.A) (hg : Gl X x)
    (hm : X.mg x = some (.ref f)) (hk : PySem.W.keepIn X.K (.ref f) = true) (kb : KB X.K fd ps ks 0 perm) (tk : Takes X W) (hkw : PK X kws (tEs g n W ks')) (hn2 : ks'.length = ks.length)
    (hall : (backToKw pos (keywordEach kws X.env)).all (·.1.isSome) = true) (hks : (backToKw pos (keywordEach kws X.env)).filterMap (·.1) = ks)
    (hdb : (x == ("__debug__" : Str)) = false) (hpl : ((backTo pos (starEach [] X.env)).any (·.1) || (backToKw pos (keywordEach kws X.env)).any (·.1.isNone)) = false) :
    PE X (.Call (.Name x p) [] kws pos) (tE g n W (.callK k [] ks' perm)) := by
  refine (pe_callKS0 hF hr hg hm hk kb (fun σ => passAt tk σ) hkw hall hks hdb hpl).imp fun σ H Q ⟨s, F, m, r0, h⟩ => ?_
  rw [evE, evEs] at h
  have h : Res (bnd (evEs (g.cl n) ks' s) fun zs s2 => callR (g.cl n) k ([] ++ perm.filterMap fun i => zs[i]?) s2) (fun h s' => ∀ v F' m' H', NX g s σ F m H s' F' m' H' → repH g h s' σ F' m' H' H v → Q v H') (PX g W s σ F m H) := h
  refine RdE.stepE' (Nx.refl r0) h fun zs s2 ws F2 m2 H2 e2 h2 n2 t2 r2 => ?_
  have r2 : Rps g.K F2 m2 zs ws := r2
  refine ⟨by rw [← r2.len, evEs_len _ _ _ _ _ e2, hn2], ?_⟩
  exact callR_ok t2 (Rps.append Rps.nil (rps_perm r2 perm)) h2
end
end Rf

set_option Elab.async false
set_option linter.all false
set_option maxRecDepth 100000
/-! R15: _law_refused(lambda: ..). -/
namespace Rf
open PySem L2
section
variable {X : Cx}
theorem _root_.L2.PS.long {st : Stmt} {t : TS} (h : PS X st t) : PS X st (fun D σ H => σ.length = X.N.length → t D σ H) := ⟨fun pins s σ H D I q => h.run pins s σ H D I (q I.len)⟩
/-- what refused makes of a lambda: BadArgument's field, or nothing -/
def TRef (C : Addr) : (XK → Hp → VK → Prop) → Hp → VK → Prop := fun tl H Q =>
  tl (fun cls d H' => cls = .ref C ∧ ∃ dd fs v, d = some dd ∧ H' dd = some (.xd fs) ∧ fs.lookup ("name" : Str) = some v ∧ Q v H') H fun _ H' => Q (.str "") H'
theorem ref_gives {Ng : List Str} {x a e q en : Str} {sg : Scope} {g C : Addr} {cdg : Value} {j : Nat} {p1 p2 p3 p4 p5 p6 p7 p8 p9 p10 p11 : Pos} (hN : Ng.Nodup) (hi : Ng[1]? = some e) (hl2 : Ng.length = 2) (hle : sg.names.lookup e = some .local) (hge : sg.names.lookup en = some .globalImplicit) (hme : X.mg en = some (.ref C))
    (hde : (en == ("__debug__" : Str)) = false) (hd : (e == ("__debug__" : Str)) = false) (hcd : (e == ("__classdict__" : Str)) = false) (h0 : ∀ f : Addr, (L2.start Ng [V.ref f])[0]? = some (some (V.ref f)))
    (hexm : PySem.W.exmOne X.K (.ref C) (.ref C) = some true) (T : XfC X.K C) (hno : PySem.W.findIn X.K (.ref C) "name" = some none) :
    LamX.GivesTo X Ng x sg g cdg [.Try [.Expr (.Call (.Name a p1) [] [] p2) p3] [.ExceptHandler (some (.Name en p4)) (some e) [.Return (some (.Attribute (.Name e p5) "name" p6)) p7] p8] [] [] p9, .Return (some (.Constant (.str "") j p10)) p11] a q (TRef C) := by
  intro f c' s H Q tl act hc h
  have hgl : Gl (cxOf C8.CX0 X.prog X.w X.K X.mg X.base Ng x sg g cdg X.A X.stack s H C8.E0).nox en := hge
  have tr := ps_try_as (X := (cxOf C8.CX0 X.prog X.w X.K X.mg X.base Ng x sg g cdg X.A X.stack s H C8.E0).nox) (c := .ref C) (i := 1) (n := e) (pos := p9) (np := p4) (pos' := p8)
      (body := [.Expr (.Call (.Name a p1) [] [] p2) p3]) (b₀ := .Return (some (.Attribute (.Name e p5) "name" p6)) p7) (suite := []) (Wout := fun _ _ _ _ => False)
      (tb := fun W D σ H => ∃ Ech : XK, (∀ cls d σ' H', Ech cls d H' → W cls d σ' H') ∧ σ[0]? = some (some (.ref f)) ∧ H c' = some (LamX.CodeO c' q) ∧ tl Ech H (fun _ H' => D.nx σ H'))
      (ts := fun a cls d => fun D σ H => σ.length = Ng.length → tRet (tXf a cls d C "name" (tVar 1)) D σ H)
      rfl rfl hN hi hle ⟨hgl, hde, .inl hme⟩ LamX.takes0 (fun W pn xe tk _ => ?_) (fun a oe cls d pn hz hf => ?_)
  · refine ⟨_, pss_cons tr (pss_one (ps_ret pe_str)), ?_⟩
    refine ⟨fun cls d H' => cls = .ref C ∧ ∃ dd fs v, d = some dd ∧ H' dd = some (.xd fs) ∧ fs.lookup ("name" : Str) = some v ∧ Q v H', fun cls d σ' H' hx => ?_, h0 f, hc, h⟩
    obtain ⟨rfl, dd, fs, v, e1, e2, e3, e4⟩ := hx
    refine ⟨true, hexm, fun _ a _ hlen => ?_, fun z => by cases z⟩
    have hl : 1 < σ'.length := by
      rw [List.length_set, hl2] at hlen
      omega
    exact ⟨.ref a, List.getElem?_set_self hl, rfl, rfl, dd, fs, v, e1, e2, e3, e4⟩
  · refine ⟨fun pins s' σ H' D I h' => ?_⟩
    obtain ⟨Ech, hW, h1, h2, h3⟩ := h'
    have hp := act W pn xe Ech p1 p2 tk hW
    exact (pss_one (ps_expr (pos := p3) hp)).run pins s' σ H' D I ⟨h1, h2, h3⟩
  · refine pss_one ?_
    have pv : PE ((cxOf C8.CX0 X.prog X.w X.K X.mg X.base Ng x sg g cdg X.A X.stack s H C8.E0).nox.suite a ((a, oe) :: pn)) (.Name e p5) (tVar 1) := pe_var hi (.inl hle) hd hcd
    exact (ps_ret (pe_xf (X := (cxOf C8.CX0 X.prog X.w X.K X.mg X.base Ng x sg g cdg X.A X.stack s H C8.E0).nox) T hno hz hf pv)).long
end
section
variable {g : Gx} {n : Nat} {W : WX} {s : Sg} {σ : L2.St} {F : Hp} {m : List Addr} {H H1 : Hp}
/-- all but the tables stay -/
theorem Rel.extN (R : Rel g.K g.TT s σ F m H) (e : LamX.ExtN H H1) (t : LamX.Tabs g.TT H1) : NX g s σ F m H s F m H1 := by
  refine ⟨⟨⟨fun a o h => e a o (R.hr.sub a o h) fun ps z => R.hr.noTab a ps (by rw [← z]; exact h), R.hr.len, R.hr.nd, R.hr.mF, fun k a o q1 q2 => ?_, t, R.hr.noTab⟩, ⟨R.sr.len, R.sr.val, fun i ds q => ?_, R.sr.apart⟩⟩,
    ⟨SubF.refl _, List.prefix_rfl, fun _ h => .inl h, fun a o h _ _ ht => e a o h ht, fun _ _ _ => rfl, fun a ⟨o, h, ht⟩ => ⟨o, e a o h ht, ht⟩⟩, OwnSub.refl _⟩
  · have := R.hr.obj k a o q1 q2
    cases o with
    | lst ds =>
      obtain ⟨vs, h1, h2⟩ := this
      exact ⟨vs, e a _ h1 (fun ps z => by cases z), h2⟩
  · obtain ⟨a, vs, h1, h2, r⟩ := R.sr.own i ds q
    exact ⟨a, vs, h1, e a _ h2 (fun ps z => by cases z), r⟩
theorem refused_reads {C : Addr} {e : E} {Q : VK} (hC : g.cls[0]? = some C) (hF : g.flds[0]? = some [("name" : Str)]) (h : tE g n W (.refused e) σ H Q) :
    LamX.tLam g.TT (TRef C) (fun E => tD g n (fun cls d _ H => E cls d H) e) σ H Q := by
  obtain ⟨s, F, m, R, h⟩ := h
  refine ⟨R.hr.tabs, fun H1 eN tT => ?_⟩
  have n1 := R.extN eN tT
  show RdE _ _ _ _ _ _ _
  refine ⟨s, F, m, n1.rel, ?_⟩
  rw [evE] at h
  cases q : frz (evE (g.cl n) e s) with
  | none => rw [q] at h; exact h.elim
  | some p =>
    obtain ⟨o, s1⟩ := p
    rw [q] at h
    cases o with
    | ok d =>
      show Res (frz (evE (g.cl n) e s)) _ _
      rw [q]
      exact fun v F' m' H' n2 rv => h (.str "") F' m' H' (n1.trans n2) (.d rp_str)
    | exc x =>
      show Res (frz (evE (g.cl n) e s)) _ _
      rw [q]
      intro cls d F' m' H' n2 ex
      obtain ⟨k, as⟩ := x
      cases k with
      | succ k => exact h.elim
      | zero =>
        match as, h, ex with
        | [y], h, ex =>
          obtain ⟨C', fl, fs, c1, rfl, c2, c3, c4⟩ := ex
          have c1 : g.cls[0]? = some C' := c1
          have c2 : g.flds[0]? = some fl := c2
          rw [hC] at c1
          rw [hF] at c2
          cases c1
          cases c2
          obtain ⟨v, l1, l2⟩ := c4 0 _ y rfl rfl
          exact ⟨rfl, d, fs, v, rfl, c3, l1, h v F' m' H' (n1.trans n2) (.d l2)⟩
        | [], h, _ => exact h.elim
        | _ :: _ :: _, h, _ => exact h.elim
end
end Rf

set_option Elab.async false
set_option linter.all false
set_option maxRecDepth 100000
/-! R16: statements. -/
namespace Rf
open PySem L2
def ResF (r : Rf') (P : Fl → Sg → Prop) : Prop :=
  match r with
  | none => False
  | some (f, s) => P f s
theorem ResF.bndF {α : Type} {r : Rs α} {k : α → Sg → Rf'} {P : Fl → Sg → Prop} (h : ResF (Rf.bndF r k) P) : Res r (fun a s => ResF (k a s) P) (fun x s => P (.ex x) s) := by
  cases r with
  | none => exact h
  | some p =>
    obtain ⟨o, s⟩ := p
    cases o with
    | ok a => exact h
    | exc x => exact h
section
variable {g : Gx} {n : Nat} {W : WX} {X : Cx} {s s' s0 s1 s2 : Sg} {σ σ' σ0 σ1 σ2 : L2.St} {F F' F0 F1 F2 : Hp} {m m' m0 m1 m2 : List Addr} {H H' H0 H1 H2 : Hp} {D : Ends}
/-- what the ends ask of where a statement comes to -/
def PD (g : Gx) (W : WX) (D : Ends) (s : Sg) (σ : L2.St) (F : Hp) (m : List Addr) (H : Hp) : Fl → Sg → Prop
  | .nx, s' => ∀ σ' F' m' H', SN g s σ F m H s' σ' F' m' H' → D.nx σ' H'
  | .bk, s' => ∀ σ' F' m' H', SN g s σ F m H s' σ' F' m' H' → D.bk σ' H'
  | .ct, s' => ∀ σ' F' m' H', SN g s σ F m H s' σ' F' m' H' → D.ct σ' H'
  | .rt d, s' => ∀ v σ' F' m' H', SN g s σ F m H s' σ' F' m' H' → Rp g.K F' m' d v → D.rt v H'
  | .ex x, s' => PXS g W s σ F m H x s'
theorem PD.next {f : Fl} (h : PD g W D s0 σ0 F0 m0 H0 f s') (n : SN g s0 σ0 F0 m0 H0 s σ F m H) : PD g W D s σ F m H f s' := by
  cases f with
  | nx => exact fun σ' F' m' H' n' => h σ' F' m' H' (n.trans n')
  | bk => exact fun σ' F' m' H' n' => h σ' F' m' H' (n.trans n')
  | ct => exact fun σ' F' m' H' n' => h σ' F' m' H' (n.trans n')
  | rt d => exact fun v σ' F' m' H' n' r => h v σ' F' m' H' (n.trans n') r
  | ex x => exact PXS.next h n
def tS (g : Gx) (n : Nat) (W : WX) (c : S) : TS := fun D σ H => ∃ s F m, Rel g.K g.TT s σ F m H ∧ ResF (evS (g.cl n) c s) (PD g W D s σ F m H)
def tSs (g : Gx) (n : Nat) (W : WX) (c : List S) : TS := fun D σ H => ∃ s F m, Rel g.K g.TT s σ F m H ∧ ResF (evSs (g.cl n) c s) (PD g W D s σ F m H)
theorem _root_.L2.PS.imp {st : Stmt} {t t' : TS} (h : PS X st t') (i : ∀ D σ H, t D σ H → t' D σ H) : PS X st t := ⟨fun pins s σ H D I q => h.run pins s σ H D I (i D σ H q)⟩
theorem _root_.L2.PSs.imp {st : List Stmt} {t t' : TS} (h : PSs X st t') (i : ∀ D σ H, t D σ H → t' D σ H) : PSs X st t := ⟨fun pins s σ H D I q => h.run pins s σ H D I (i D σ H q)⟩
/-- an expression first -/
theorem RdE.stepF {α β : Type} {ev : Sg → Rs α} {rep : α → Sg → L2.St → Hp → List Addr → Hp → Hp → β → Prop} {k : α → Sg → Rf'} {Q : β → Hp → Prop}
    (n0 : SN g s0 σ0 F0 m0 H0 s σ F m H) (h : ResF (bndF (ev s) k) (PD g W D s0 σ0 F0 m0 H0))
    (next : ∀ a s1 v F1 m1 H1, ResF (k a s1) (PD g W D s0 σ0 F0 m0 H0) → NX g s σ F m H s1 F1 m1 H1 → SN g s0 σ0 F0 m0 H0 s1 σ F1 m1 H1 → rep a s1 σ F1 m1 H1 H v → Q v H1) : RdE g W ev rep σ H Q :=
  ⟨s, F, m, n0.rel, h.bndF.mono (fun a s1 _ hp v F1 m1 H1 nx r => next a s1 v F1 m1 H1 hp nx (n0.trans (SN.of nx)) r) fun x s1 _ hx => PXS.px hx n0⟩

theorem fz_len {h : Hd} {d : Rf.D} (e : s.fz h = some (.ok d, s')) : s'.env.length = s.env.length := by
  cases h with
  | d x => cases e; rfl
  | own ds => cases e; rfl
  | sl i =>
    cases q : s.env[i]? with
    | none => simp [Sg.fz, q] at e
    | some sl =>
      cases sl with
      | un => simp [Sg.fz, q] at e
      | val y => simp [Sg.fz, q] at e; obtain ⟨_, rfl⟩ := e; rfl
      | own ds => simp [Sg.fz, q] at e; obtain ⟨_, rfl⟩ := e; simp
/-- a slot gets what an expression handed on -/
theorem set_reads {i : Nat} {h : Hd} {v : V} {k : Unit → Sg → Rf'} {P : Fl → Sg → Prop} (nx : NX g s0 σ F0 m0 H0 s F m H) (rp : repH g h s σ F m H H0 v) (hp : ResF (bndF (setSlot s i h) k) P) :
    ∃ s2 F2, SN g s0 σ F0 m0 H0 s2 (σ.set i (some v)) F2 m H ∧ ResF (k () s2) P := by
  unfold setSlot at hp
  split at hp
  · rename_i hi
    have other : ∀ hp' : ResF (bndF (bnd (s.fz h) fun d s1 => okk () { s1 with env := s1.env.set i (.val d) }) k) P, ∃ s2 F2, SN g s0 σ F0 m0 H0 s2 (σ.set i (some v)) F2 m H ∧ ResF (k () s2) P := fun hp' => by
      cases q : s.fz h with
      | none => rw [q] at hp'; exact hp'.elim
      | some p =>
        obtain ⟨o, s1⟩ := p
        cases o with
        | exc x => exact absurd q fz_exc
        | ok d =>
          rw [q] at hp'
          obtain ⟨F2, n2, r2⟩ := nx.fz rp.1 rp.2 q
          exact ⟨_, F2, (SN.of n2).trans (n2.rel.setVal (by rw [fz_len q]; exact hi) r2), hp'⟩
    cases h with
    | own ds => exact ⟨_, F, (SN.of nx).setOwn hi rp.1 rp.2, hp⟩
    | d x => exact other hp
    | sl j => exact other hp
  · exact hp.elim
theorem asg_reads {i : Nat} {e : E} (h : tS g n W (.asg (.name i) e) D σ H) : tE g n W e σ H fun v H1 => D.nx (σ.set i (some v)) H1 := by
  obtain ⟨s, F, m, R, h⟩ := h
  rw [evS] at h
  refine RdE.stepF (SN.refl R) h fun hd s1 v F1 m1 H1 hp nx _ rp => ?_
  obtain ⟨s2, F2, n2, h2⟩ := set_reads nx rp hp
  exact h2 _ F2 m1 H1 n2
theorem sd_asgName {x : Str} {i : Nat} {e : Expr} {e' : E} {pos pos' : Pos} (hN : X.N.Nodup) (hi : X.N[i]? = some x) (hx : Loc X.env.scope x) (he : PE X e (tE g n W e')) (hs : swapsWith e (some (.Name x pos')) pos.line X.env = pure false) (hf : X.fn x = true ∨ X.env.scope.names.lookup x = some .local) :
    PS X (.Assign [.Name x pos'] e pos) (tS g n W (.asg (.name i) e')) := (ps_set hN hi hx he hs hf).imp fun _ _ _ h => asg_reads h
theorem sd_asg {tg e : Expr} {t : Tg} {e' : E} {pos : Pos} (ht : ∀ i, t ≠ .name i) (he : PE X e (tE g n W e')) (hg : PG X tg (tG g n W t)) (hs : swapsWithSole [tg] e pos.line X.env = pure false) (hw : swappedStores [tg] e X.env = pure none)
    (h1 : (assignEach [tg] X.env).map (·.2) = [assign tg X.env]) : PS X (.Assign [tg] e pos) (tS g n W (.asg t e')) := by
  refine (ps_asg (pe_D he) hg hs hw h1).imp fun D σ H ⟨s, F, m, R, h⟩ => ?_
  have h : ResF (bndF (frz (evE (g.cl n) e' s)) fun d s1 => bndF (asg (g.cl n) t d s1) fun _ s2 => some (.nx, s2)) (PD g W D s σ F m H) := by
    rw [evS] at h
    · exact h
    · exact ht
  refine RdE.stepF (SN.refl R) h fun d s1 v F1 m1 H1 hp nx t1 rp => ?_
  exact ⟨s1, F1, m1, d, nx.rel, rp, hp.bndF.mono (fun _ s2 _ hq σ2 F2 m2 H2 n2 _ _ => hq σ2 F2 m2 H2 (t1.trans n2)) fun x s2 _ hx => PXS.next hx t1⟩
theorem sd_aug {x : Str} {i : Nat} {e : Expr} {e' : E} {op : Operator} {pos pos' : Pos} (ho : op = .Add ∨ op = .Sub) (hN : X.N.Nodup) (hi : X.N[i]? = some x) (hx : Loc X.env.scope x) (he : PE X e (tE g n W e')) (hf : X.fn x = true ∨ X.env.scope.names.lookup x = some .local) :
    PS X (.AugAssign (.Name x pos') op e pos) (tS g n W (.aug i op e')) := by
  have key : ∀ (D : Ends) (σ : L2.St) (H : Hp) (f : Int → Int → Int), ((op = .Add ∧ f = fun x y => x + y) ∨ (op = .Sub ∧ f = fun x y => x - y)) → tS g n W (.aug i op e') D σ H → tAug i (tD g n W e') (ipI f) D σ H := fun D σ H f hf ⟨s, F, m, R, h⟩ => by
    rw [evS] at h
    cases q : s.env[i]? with
    | none => rw [q] at h; exact h.elim
    | some sl =>
      rw [q] at h
      cases sl with
      | un => exact h.elim
      | own ds => exact h.elim
      | val d =>
        cases d with
        | int z =>
          obtain ⟨v, e1, e2⟩ := R.sr.val i _ q
          rw [Rp] at e2
          subst e2
          refine ⟨.int z, e1, RdE.stepF (SN.refl R) h fun d s1 v F1 m1 H1 hp nx t1 rp => ?_⟩
          have rp : Rp g.K F1 m1 d v := rp
          cases d with
          | int y =>
            rw [Rp] at rp
            have hp : ResF (if i < s1.env.length then some (.nx, { s1 with env := s1.env.set i (.val (.int (f z y))) }) else none) (PD g W D s σ F m H) := by
              rcases hf with ⟨rfl, rfl⟩ | ⟨rfl, rfl⟩
              · exact hp
              · exact hp
            split at hp
            · rename_i hl
              exact ⟨z, y, rfl, rp, hp _ F1 m1 H1 (t1.trans (nx.rel.setVal hl rp_int))⟩
            · exact hp.elim
          | _ => exact hp.elim
        | _ => exact h.elim
  rcases ho with rfl | rfl
  · exact (ps_aug hN hi hx (pe_D he) ip_add hf).imp fun D σ H h => key D σ H _ (.inl ⟨rfl, rfl⟩) h
  · exact (ps_aug hN hi hx (pe_D he) ip_sub hf).imp fun D σ H h => key D σ H _ (.inr ⟨rfl, rfl⟩) h
theorem sd_expr {e : Expr} {e' : E} {pos : Pos} (he : PE X e (tE g n W e')) (hs : swapsWith e none pos.line X.env = pure false) : PS X (.Expr e pos) (tS g n W (.expr e')) := by
  refine (ps_expr he hs).imp fun D σ H ⟨s, F, m, R, h⟩ => ?_
  rw [evS] at h
  exact RdE.stepF (SN.refl R) h fun d s1 v F1 m1 H1 hp nx t1 _ => hp σ F1 m1 H1 t1
theorem sd_ret {e : Expr} {e' : E} {pos : Pos} (he : PE X e (tE g n W e')) : PS X (.Return (some e) pos) (tS g n W (.ret (some e'))) := by
  refine (ps_ret (pe_D he)).imp fun D σ H ⟨s, F, m, R, h⟩ => ?_
  rw [evS] at h
  exact RdE.stepF (SN.refl R) h fun d s1 v F1 m1 H1 hp nx t1 rp => hp v σ F1 m1 H1 t1 rp
theorem sd_retN {pos : Pos} : PS X (.Return none pos) (tS g n W (.ret none)) := by
  refine ps_retN.imp fun D σ H ⟨s, F, m, R, h⟩ => ?_
  rw [evS] at h
  exact h .non σ F m H (SN.refl R) rp_non
theorem sd_if {c : Expr} {a b : List Stmt} {c' : T} {a' b' : List S} {pos : Pos} (hc : PT X c (tT g n W c')) (ha : PSs X a (tSs g n W a')) (hb : PSs X b (tSs g n W b')) : PS X (.If c a b pos) (tS g n W (.ife c' a' b')) := by
  refine (ps_if hc ha hb).imp fun D σ H ⟨s, F, m, R, h⟩ => ?_
  rw [evS] at h
  refine RdE.stepF (SN.refl R) h fun t s1 b F1 m1 H1 hp nx t1 rb => ?_
  have rb : b = t := rb
  subst rb
  have fin : ∀ {q : Rf'}, ResF q (PD g W D s σ F m H) → ResF q (PD g W D s1 σ F1 m1 H1) := fun {q} hq => by
    cases q with
    | none => exact hq
    | some p => exact PD.next hq t1
  cases b with
  | true =>
    rw [if_pos rfl] at hp ⊢
    exact ⟨s1, F1, m1, nx.rel, fin hp⟩
  | false =>
    rw [if_neg (by decide)] at hp ⊢
    exact ⟨s1, F1, m1, nx.rel, fin hp⟩
theorem ResF.next {q : Rf'} (hq : ResF q (PD g W D s0 σ0 F0 m0 H0)) (t : SN g s0 σ0 F0 m0 H0 s σ F m H) : ResF q (PD g W D s σ F m H) := by
  cases q with
  | none => exact hq
  | some p => exact PD.next hq t
theorem sd_nil : PSs X [] (tSs g n W []) := by
  refine pss_nil.imp fun D σ H ⟨s, F, m, R, h⟩ => ?_
  rw [evSs] at h
  exact h σ F m H (SN.refl R)
theorem sd_cons {c : Stmt} {cs : List Stmt} {c' : S} {cs' : List S} (h1 : PS X c (tS g n W c')) (h2 : PSs X cs (tSs g n W cs')) : PSs X (c :: cs) (tSs g n W (c' :: cs')) := by
  refine (pss_cons h1 h2).imp fun D σ H ⟨s, F, m, R, h⟩ => ?_
  rw [evSs] at h
  refine ⟨s, F, m, R, ?_⟩
  cases q : evS (g.cl n) c' s with
  | none => rw [q] at h; exact h.elim
  | some p =>
    obtain ⟨f, s1⟩ := p
    rw [q] at h
    cases f with
    | nx => exact fun σ1 F1 m1 H1 n1 => ⟨s1, F1, m1, n1.rel, ResF.next h n1⟩
    | bk => exact h
    | ct => exact h
    | rt d => exact h
    | ex x => exact h
theorem sd_break {pos : Pos} : PS X (.Break pos) (tS g n W .brk) := by
  refine ps_break.imp fun D σ H ⟨s, F, m, R, h⟩ => ?_
  rw [evS] at h
  exact h σ F m H (SN.refl R)
theorem sd_continue {pos : Pos} : PS X (.Continue pos) (tS g n W .cont) := by
  refine ps_continue.imp fun D σ H ⟨s, F, m, R, h⟩ => ?_
  rw [evS] at h
  exact h σ F m H (SN.refl R)
/-! ### loops -/
theorem sd_while {c : Expr} {b : List Stmt} {c' : T} {b' : List S} {pos : Pos} (hp : PassesOwn (model X.prog X.w) X.A X.env X.xe) (hc : PT X c (tT g n W c')) (hb : PSs X b (tSs g n W b')) : PS X (.While c b [] pos) (tS g n W (.whl c' b')) := by
  refine (ps_while hp hc hb).imp fun D σ H ⟨s, F, m, R, h⟩ => ?_
  rw [evS] at h
  cases q : whl (fun s => evT (g.cl n) c' s) (fun s => evSs (g.cl n) b' s) s with
  | none => rw [q] at h; exact h.elim
  | some r =>
    rw [q] at h
    obtain ⟨k0, hk0⟩ := of_whl q
    refine ⟨fun k σ1 H1 => ∃ s1 F1 m1, SN g s σ F m H s1 σ1 F1 m1 H1 ∧ whlN (fun s => evT (g.cl n) c' s) (fun s => evSs (g.cl n) b' s) k s1 = some r, ⟨k0, s, F, m, SN.refl R, hk0⟩, ?_⟩
    rintro k σ1 H1 ⟨s1, F1, m1, n1, hk⟩
    cases k with
    | zero => cases hk
    | succ k =>
      have hr : ResF (whlN (fun s => evT (g.cl n) c' s) (fun s => evSs (g.cl n) b' s) (k + 1) s1) (fun f s' => some (f, s') = some r) := by
        rw [hk]
        exact rfl
      unfold whlN at hr
      refine ⟨s1, F1, m1, n1.rel, hr.bndF.mono (fun t s2 _ hq b F2 m2 H2 n2 rb => ?_) fun x s2 _ hx => ?_⟩
      · have rb : b = t := rb
        subst rb
        have n12 := n1.trans (SN.of n2)
        cases b with
        | false =>
          rw [if_neg (by decide)] at hq
          show (if false = true then _ else _)
          rw [if_neg (by decide)]
          have e : some (Fl.nx, s2) = some r := hq
          cases e
          exact h σ1 F2 m2 H2 n12
        | true =>
          rw [if_pos rfl] at hq
          show (if true = true then _ else _)
          rw [if_pos rfl]
          refine ⟨fun σ' H' => ∃ m', m' < k + 1 ∧ ∃ s1 F1 m1, SN g s σ F m H s1 σ' F1 m1 H' ∧ whlN (fun s => evT (g.cl n) c' s) (fun s => evSs (g.cl n) b' s) m' s1 = some r, fun σ' H' z => z, s2, F2, m2, n2.rel, ?_⟩
          cases z : evSs (g.cl n) b' s2 with
          | none => rw [z] at hq; exact hq.elim
          | some p =>
            obtain ⟨f, s3⟩ := p
            rw [z] at hq
            have again : ∀ {q : Rf'}, ResF q (fun f s' => some (f, s') = some r) → q = some r := fun {q} hq => by
              cases q with
              | none => exact hq.elim
              | some p => exact hq
            cases f with
            | nx => exact fun σ' F' m' H' n3 => ⟨k, Nat.lt_succ_self k, s3, F', m', n12.trans n3, again hq⟩
            | ct => exact fun σ' F' m' H' n3 => ⟨k, Nat.lt_succ_self k, s3, F', m', n12.trans n3, again hq⟩
            | bk =>
              have e : some (Fl.nx, s3) = some r := hq
              cases e
              exact fun σ' F' m' H' n3 => h σ' F' m' H' (n12.trans n3)
            | rt d =>
              have e : some (Fl.rt d, s3) = some r := hq
              cases e
              exact fun v σ' F' m' H' n3 rv => h v σ' F' m' H' (n12.trans n3) rv
            | ex x =>
              have e : some (Fl.ex x, s3) = some r := hq
              cases e
              exact PXS.next (show PXS g W s σ F m H x s3 from h) n12
      · have e : some (Fl.ex x, s2) = some r := hx
        cases e
        exact PXS.px (show PXS g W s σ F m H x s2 from h) n1
theorem sd_for {tg it : Expr} {b : List Stmt} {t : Tg} {i : I} {b' : List S} {pos : Pos} (hp : PassesOwn (model X.prog X.w) X.A X.env X.xe) (hc : X.calm = true) (hi : PI X tg it (tI g n W i)) (hg : PG X tg (tG g n W t)) (hb : PSs X b (tSs g n W b')) (hs : ∀ x, foldedSetIterable it X.env x = pure x) :
    PS X (.For tg it b [] pos) (tS g n W (.loop t i b')) := by
  refine (ps_for hp hc hi hg hb hs).imp fun D σ H ⟨s, F, m, R, h⟩ => ?_
  rw [evS] at h
  refine RdE.stepF (SN.refl R) h fun ds s1 J F1 m1 H1 hp nx t1 srv => ?_
  have srv : Srv g F1 m1 σ none ds J := srv
  refine ⟨fun i k σ2 H2 => ∃ s2 F2 m2, SN g s1 σ F1 m1 H1 s2 σ2 F2 m2 H2 ∧ i ≤ ds.length ∧ k = ds.length - i ∧ ResF (loopGo (fun d s2 => bndF (asg (g.cl n) t d s2) fun _ s3 => evSs (g.cl n) b' s3) (ds.drop i) s2) (PD g W D s σ F m H),
    ⟨ds.length, s1, F1, m1, SN.refl nx.rel, Nat.zero_le _, rfl, hp⟩, ?_⟩
  rintro i k σ2 H2 ⟨s2, F2, m2, n2, hi, rfl, hr⟩
  obtain ⟨sv, st⟩ := srv i s2 σ2 F2 m2 H2 n2.rel n2.fr.ff n2.fr.mm fun i z => by cases z
  have t2 := t1.trans n2
  by_cases hlt : i < ds.length
  · obtain ⟨go, yl⟩ := sv ds[i] (List.getElem?_eq_getElem hlt)
    refine .inr ⟨go, fun σ' H' => ∃ m', m' < ds.length - i ∧ ∃ s2 F2 m2, SN g s1 σ F1 m1 H1 s2 σ' F2 m2 H' ∧ i + 1 ≤ ds.length ∧ m' = ds.length - (i + 1) ∧ ResF (loopGo (fun d s2 => bndF (asg (g.cl n) t d s2) fun _ s3 => evSs (g.cl n) b' s3) (ds.drop (i + 1)) s2) (PD g W D s σ F m H), fun σ' H' z => z, fun x H' y => ?_⟩
    obtain ⟨F3, n3, r3⟩ := yl x H' y
    rw [List.drop_eq_getElem_cons hlt, loopGo] at hr
    have hr2 : ResF (bndF (asg (g.cl n) t ds[i] s2) fun _ s3 => match evSs (g.cl n) b' s3 with
        | some (.nx, s1) => loopGo (fun d s2 => bndF (asg (g.cl n) t d s2) fun _ s3 => evSs (g.cl n) b' s3) (ds.drop (i + 1)) s1
        | some (.ct, s1) => loopGo (fun d s2 => bndF (asg (g.cl n) t d s2) fun _ s3 => evSs (g.cl n) b' s3) (ds.drop (i + 1)) s1
        | some (.bk, s1) => some (.nx, s1)
        | r => r) (PD g W D s σ F m H) := by
      revert hr
      cases asg (g.cl n) t ds[i] s2 with
      | none => exact id
      | some p =>
        obtain ⟨o, s3⟩ := p
        cases o <;> exact id
    have t3 := t2.trans (SN.of n3)
    refine ⟨s2, F3, m2, ds[i], n3.rel, r3, hr2.bndF.mono (fun _ s4 _ hq σ4 F4 m4 H4 n4 _ _ => ?_) fun x s4 _ hx => PXS.next hx t3⟩
    have t4 := t3.trans n4
    have b4 := (n2.trans (SN.of n3)).trans n4
    refine ⟨s4, F4, m4, n4.rel, ?_⟩
    cases z : evSs (g.cl n) b' s4 with
    | none => rw [z] at hq; exact hq.elim
    | some p =>
      obtain ⟨f, s5⟩ := p
      rw [z] at hq
      cases f with
      | nx => exact fun σ' F' m' H' n5 => ⟨ds.length - (i + 1), by omega, s5, F', m', b4.trans n5, hlt, rfl, hq⟩
      | ct => exact fun σ' F' m' H' n5 => ⟨ds.length - (i + 1), by omega, s5, F', m', b4.trans n5, hlt, rfl, hq⟩
      | bk => exact fun σ' F' m' H' n5 => hq σ' F' m' H' (t4.trans n5)
      | rt d => exact fun v σ' F' m' H' n5 rv => hq v σ' F' m' H' (t4.trans n5) rv
      | ex x => exact PXS.next (show PXS g W s σ F m H x s5 from hq) t4
  · have ei : i = ds.length := by omega
    subst ei
    rw [List.drop_length, loopGo] at hr
    exact .inl ⟨st rfl, hr σ2 F2 m2 H2 t2⟩
end
end Rf

set_option Elab.async false
set_option linter.all false
set_option maxRecDepth 100000
/-! R17: two names at once; an object of the store; raise. -/
namespace Rf
open PySem L2
section
variable {g : Gx} {n : Nat} {W : WX} {X : Cx} {s s' s0 s1 s2 : Sg} {σ σ' σ0 σ1 σ2 : L2.St} {F F' F0 F1 F2 : Hp} {m m' m0 m1 m2 : List Addr} {H H' H0 H1 H2 : Hp}
/-- a handle that no slot's change disturbs -/
def repP (g : Gx) : Hd → Sg → L2.St → Hp → List Addr → Hp → Hp → V → Prop := fun h s' σ F' m' H' H v => repH g h s' σ F' m' H' H v ∧ ∀ i, h ≠ .sl i
def tP (g : Gx) (n : Nat) (W : WX) (e : E) : TE := RdE g W (evP (g.cl n) e) (repP g)
theorem pe_P {e : Expr} {e' : E} (h : PE X e (tE g n W e')) : PE X e (tP g n W e') := h.imp fun σ H Q ⟨s, F, m, R, h⟩ => by
  have h : Res (bnd (evE (g.cl n) e' s) fun h s1 => match h with
    | .own ds => okk (.own ds) s1
    | h => bnd (s1.fz h) fun d s2 => okk (.d d) s2) (fun h s' => ∀ v F' m' H', NX g s σ F m H s' F' m' H' → repP g h s' σ F' m' H' H v → Q v H') (PX g W s σ F m H) := h
  refine RdE.step (Nx.refl R) h fun hd s1 v F1 m1 H1 hp nx _ rp => ?_
  have other : Res (bnd (s1.fz hd) fun d s2 => okk (Hd.d d) s2) (fun h s' => ∀ v F' m' H', NX g s σ F m H s' F' m' H' → repP g h s' σ F' m' H' H v → Q v H') (PX g W s σ F m H) → Q v H1 := fun hp => by
    cases q : s1.fz hd with
    | none => rw [q] at hp; exact hp.elim
    | some p =>
      obtain ⟨o, s2⟩ := p
      cases o with
      | exc x => exact absurd q fz_exc
      | ok d =>
        rw [q] at hp
        obtain ⟨F2, n2, r2⟩ := nx.fz rp.1 rp.2 q
        exact hp v F2 m1 H1 n2 ⟨.d r2, fun i z => by cases z⟩
  cases hd with
  | own ds => exact hp v F1 m1 H1 nx ⟨rp, fun i z => by cases z⟩
  | d x => exact other hp
  | sl i => exact other hp
/-- .. it stays so while a slot gets something else -/
theorem repP.later {h : Hd} {v : V} {i : Nat} {u : V} (rp : HdR g.K s.env σ F m H h v) (hn : ∀ i, h ≠ .sl i) (sn : SN g s σ F m H s' σ' F' m' H') (no : ∀ a, v = .ref a → Nt H a → ¬ OwnA s.env σ a → ¬ OwnA s'.env σ' a) : HdR g.K s'.env σ' F' m' H' h v := by
  cases h with
  | d x => exact Rp.mono sn.fr.ff sn.fr.mm _ _ rp
  | sl i => exact absurd rfl (hn i)
  | own ds =>
    obtain ⟨a, vs, e, h1, h2, h3, h4, h5⟩ := rp
    refine ⟨a, vs, e, sn.fr.keep a _ h1 h4 h5 (fun ps z => by cases z), Rps.mono sn.fr.ff sn.fr.mm _ _ h2, ?_, fun z => ?_, no a e (.lst h1) h5⟩
    · rw [sn.fr.kF a (.lst h1) h5, h3]
    · rcases sn.fr.mf a z with q | q
      · exact h4 q
      · exact q (.lst h1)
theorem setSlot_len {i : Nat} {h : Hd} (e : setSlot s i h = some (.ok (), s')) : i < s.env.length := by
  unfold setSlot at e
  split at e
  · assumption
  · cases e
theorem par_set {i j : Nat} {D : Ends} {h1 h2 : Hd} {v w : V} (n12 : NX g s σ F m H s2 F2 m2 H2) (r1' : HdR g.K s2.env σ F2 m2 H2 h1 v) (nw1 : New H h1 v) (ns1 : ∀ i, h1 ≠ .sl i) (r2 : HdR g.K s2.env σ F2 m2 H2 h2 w) (nw2 : New H h2 w) (ns2 : ∀ i, h2 ≠ .sl i)
    (ne : ∀ ds es b, h1 = .own ds → h2 = .own es → v = .ref b → w = .ref b → False) (hq : ResF (bndF (setSlot s2 i h1) fun _ s3 => bndF (setSlot s3 j h2) fun _ s4 => some (.nx, s4)) (PD g W D s σ F m H)) : D.nx ((σ.set i (some v)).set j (some w)) H2 := by
  -- the first slot
  have e1 : ∃ s3, SN g s σ F m H s3 (σ.set i (some v)) F2 m2 H2 ∧ ResF (bndF (setSlot s3 j h2) fun _ s4 => some (.nx, s4)) (PD g W D s σ F m H) ∧ HdR g.K s3.env (σ.set i (some v)) F2 m2 H2 h2 w := by
    unfold setSlot at hq
    split at hq
    · rename_i hi
      have hi2 : i < σ.length := by rw [← n12.rel.sr.len]; exact hi
      cases h1 with
      | sl k => exact absurd rfl (ns1 k)
      | own ds =>
        have sn := (SN.of n12).setOwn hi r1' nw1
        refine ⟨_, sn, hq, ?_⟩
        cases h2 with
        | d x => exact r2
        | sl k => exact absurd rfl (ns2 k)
        | own es =>
          obtain ⟨b2, ws, e, g1, g2, g3, g4, g5⟩ := r2
          refine ⟨b2, ws, e, g1, g2, g3, g4, fun ⟨k, xs, q1, q2⟩ => ?_⟩
          by_cases ek : i = k
          · subst ek
            rw [get_set_self hi2] at q2
            cases q2
            exact ne _ _ _ rfl rfl rfl e
          · rw [get_set_ne ek] at q1 q2
            exact g5 ⟨k, xs, q1, q2⟩
      | d x =>
        have hq : ResF (bndF (setSlot { s2 with env := s2.env.set i (.val x) } j h2) fun _ s4 => some (.nx, s4)) (PD g W D s σ F m H) := hq
        have sn := (SN.of n12).trans (n12.rel.setVal hi (show Rp g.K F2 m2 x v from r1'))
        refine ⟨_, sn, hq, ?_⟩
        cases h2 with
        | d y => exact r2
        | sl k => exact absurd rfl (ns2 k)
        | own es =>
          obtain ⟨b2, ws, e, g1, g2, g3, g4, g5⟩ := r2
          exact ⟨b2, ws, e, g1, g2, g3, g4, fun z => g5 ((n12.rel.setVal hi (show Rp g.K F2 m2 x v from r1')).os b2 (.lst g1) z)⟩
    · exact hq.elim
  obtain ⟨s3, sn3, hq3, r3⟩ := e1
  -- the second
  unfold setSlot at hq3
  split at hq3
  · rename_i hj
    cases h2 with
    | sl k => exact absurd rfl (ns2 k)
    | own es => exact hq3 _ F2 m2 H2 (sn3.setOwn hj r3 nw2)
    | d y =>
      have hq3 : PD g W D s σ F m H .nx { s3 with env := s3.env.set j (.val y) } := hq3
      exact hq3 _ F2 m2 H2 (sn3.trans (sn3.rel.setVal hj (show Rp g.K F2 m2 y w from r3)))
  · exact hq3.elim
theorem par_reads {i j : Nat} {a b : E} {D : Ends} (h : tS g n W (.par [i, j] [a, b]) D σ H) : tPar i j (tCons (tP g n W a) (tCons (tP g n W b) tNil)) D σ H := by
  obtain ⟨s, F, m, R, h⟩ := h
  rw [evS] at h
  have h : ResF (if i ≠ j then bndF (evP (g.cl n) a s) fun h1 s1 => bndF (evP (g.cl n) b s1) fun h2 s2 => bndF (setSlot s2 i h1) fun _ s3 => bndF (setSlot s3 j h2) fun _ s4 => some (.nx, s4) else none) (PD g W D s σ F m H) := h
  split at h
  · rename_i hij
    refine RdE.stepF (SN.refl R) h fun h1 s1 v F1 m1 H1 hp n1 t1 r1 => ?_
    refine RdE.stepF t1 hp fun h2 s2 w F2 m2 H2 hq n2 t2 r2 => ?_
    refine ⟨v, w, rfl, ?_⟩
    have n12 : NX g s σ F m H s2 F2 m2 H2 := n1.trans n2
    have r1' : HdR g.K s2.env σ F2 m2 H2 h1 v := r1.1.1.next n2
    exact par_set n12 r1' r1.1.2 r1.2 r2.1.1 (fun ds z a ea hn => r2.1.2 ds z a ea (n1.fr.dom a hn)) r2.2 (fun ds es b z1 z2 z3 z4 => by
      subst z1 z2
      obtain ⟨b1, vs, e1, f1, _⟩ := r1.1.1
      rw [z3] at e1
      cases e1
      exact r2.1.2 es rfl b z4 (.lst f1)) hq
  · exact h.elim
/-- a, b = x, y by a tuple that none keeps -/
theorem parT_reads {i j : Nat} {a b : E} {D : Ends} (h : tS g n W (.par [i, j] [a, b]) D σ H) : tTup (tCons (tP g n W a) (tCons (tP g n W b) tNil)) σ H (fun v H1 => gTup g.K 2 (gCons (gName i) (gCons (gName j) gNil)) v σ H1 fun σ' H' => D.nx σ' H') := by
  obtain ⟨s, F, m, R, h⟩ := h
  rw [evS] at h
  have h : ResF (if i ≠ j then bndF (evP (g.cl n) a s) fun h1 s1 => bndF (evP (g.cl n) b s1) fun h2 s2 => bndF (setSlot s2 i h1) fun _ s3 => bndF (setSlot s3 j h2) fun _ s4 => some (.nx, s4) else none) (PD g W D s σ F m H) := h
  split at h
  · rename_i hij
    refine RdE.stepF (SN.refl R) h fun h1 s1 v F1 m1 H1 hp n1 t1 r1 => ?_
    refine RdE.stepF t1 hp fun h2 s2 w F2 m2 H2 hq n2 t2 r2 => ?_
    have n12 : NX g s σ F m H s2 F2 m2 H2 := n1.trans n2
    refine ⟨by show 2 ≤ sizeLine; rw [sizeLine_eq]; omega, fun p hpn => ?_⟩
    have n3 := n12.rel.laid (o := .tup [v, w]) hpn
    refine ⟨p, [v, w], rfl, .inl (.inl upd_same), rfl, v, [w], rfl, w, [], rfl, rfl, ?_⟩
    exact par_set (n12.trans n3) ((r1.1.1.next n2).next n3) r1.1.2 r1.2 (r2.1.1.next n3) (fun ds z a ea hn => r2.1.2 ds z a ea (n1.fr.dom a hn)) r2.2 (fun ds es b z1 z2 z3 z4 => by
      subst z1 z2
      obtain ⟨b1, vs, e1, f1, _⟩ := r1.1.1
      rw [z3] at e1
      cases e1
      exact r2.1.2 es rfl b z4 (.lst f1)) hq
  · exact h.elim
theorem sd_parT {i j : Nat} {x y : Str} {a b : Expr} {a' b' : E} {px py pt pos : Pos} {kt k2 pt2} (hK : X.K = g.K) (hc : X.calm = true) (hN : X.N.Nodup) (hi : X.N[i]? = some x) (hj : X.N[j]? = some y) (hx : Loc X.env.scope x) (hy : Loc X.env.scope y) (hfx : X.fn x = true ∨ X.env.scope.names.lookup x = some .local) (hfy : X.fn y = true ∨ X.env.scope.names.lookup y = some .local)
    (ha : PE X a (tE g n W a')) (hb : PE X b (tE g n W b')) (h1 : starEach [a, b] X.env = (false, eval a X.env) :: starEach [b] X.env) (h2 : starEach [b] X.env = (false, eval b X.env) :: starEach [] X.env)
    (hw : swappedStores [.Tuple [.Name x px, .Name y py] kt pt] (.Tuple [a, b] k2 pt2) X.env = pure none) : PS X (.Assign [.Tuple [.Name x px, .Name y py] kt pt] (.Tuple [a, b] k2 pt2) pos) (tS g n W (.par [i, j] [a', b'])) := by
  refine (ps_asg (pe_tup (pa_cons (pe_P ha) (pa_cons (pe_P hb) pa_nil h2) h1)) (pg_tup hc (pgs_cons (pg_name hN hi hx hfx) (pgs_cons (pg_name hN hj hy hfy) pgs_nil))) rfl hw rfl).imp fun D σ H h => ?_
  rw [hK]
  exact parT_reads h
theorem sd_par {i j : Nat} {x y : Str} {a b : Expr} {a' b' : E} {px py pt pos : Pos} {kt k2 pt2} (hc : X.calm = true) (hN : X.N.Nodup) (hi : X.N[i]? = some x) (hj : X.N[j]? = some y) (hij : i ≠ j)
    (hx : X.env.scope.names.lookup x = some .local) (hy : X.env.scope.names.lookup y = some .local) (ha : PE X a (tE g n W a')) (hb : PE X b (tE g n W b')) (h1 : starEach [a, b] X.env = (false, eval a X.env) :: starEach [b] X.env) (h2 : starEach [b] X.env = (false, eval b X.env) :: starEach [] X.env)
    (hw : swappedStores [.Tuple [.Name x px, .Name y py] kt pt] (.Tuple [a, b] k2 pt2) X.env = pure (some [x, y])) (hs : swapsWithSole [.Tuple [.Name x px, .Name y py] kt pt] (.Tuple [a, b] k2 pt2) pos.line X.env = pure false) :
    PS X (.Assign [.Tuple [.Name x px, .Name y py] kt pt] (.Tuple [a, b] k2 pt2) pos) (tS g n W (.par [i, j] [a', b'])) :=
  (ps_par hc hN hi hj hij hx hy (pa_cons (pe_P ha) (pa_cons (pe_P hb) pa_nil h2) h1) hw hs).imp fun D σ H h => par_reads h

theorem par3_reads {i j l : Nat} {a b c : E} {D : Ends} (h : tS g n W (.par [i, j, l] [a, b, c]) D σ H) : tPar3 i j l (tEs g n W [a, b, c]) D σ H := by
  obtain ⟨s, F, m, R, h⟩ := h
  rw [evS] at h
  have h : ResF (if (i ≠ j ∧ i ≠ l ∧ j ≠ l) ∧ i < s.env.length ∧ j < s.env.length ∧ l < s.env.length then bndF (evEs (g.cl n) [a, b, c] s) fun ds s1 => match ds with
      | [x, y, z] => some (.nx, { s1 with env := ((s1.env.set i (.val x)).set j (.val y)).set l (.val z) })
      | _ => none else none) (PD g W D s σ F m H) := h
  split at h
  · rename_i hc
    obtain ⟨_, h1, h2, h3⟩ := hc
    refine RdE.stepF (SN.refl R) h fun ds s1 vs F1 m1 H1 hp n1 t1 r1 => ?_
    have r1 : Rps g.K F1 m1 ds vs := r1
    match ds, r1, hp with
    | [x, y, z], r1, hp =>
      rw [Rps] at r1
      obtain ⟨v, vr, rfl, rv, r1⟩ := r1
      rw [Rps] at r1
      obtain ⟨u, ur, rfl, ru, r1⟩ := r1
      rw [Rps] at r1
      obtain ⟨w, wr, rfl, rw', r1⟩ := r1
      rw [Rps] at r1
      subst r1
      have el : s1.env.length = s.env.length := by rw [t1.rel.sr.len, ← R.sr.len]
      refine ⟨v, u, w, rfl, ?_⟩
      have a1 := n1.rel.setVal (i := i) (d := x) (by rw [el]; exact h1) rv
      have a2 := a1.rel.setVal (i := j) (d := y) (by rw [List.length_set, el]; exact h2) ru
      have a3 := a2.rel.setVal (i := l) (d := z) (by rw [List.length_set, List.length_set, el]; exact h3) rw'
      exact hp _ F1 m1 H1 (((t1.trans a1).trans a2).trans a3)
    | [], _, hp => exact hp.elim
    | [_], _, hp => exact hp.elim
    | [_, _], _, hp => exact hp.elim
    | _ :: _ :: _ :: _ :: _, _, hp => exact hp.elim
  · exact h.elim
theorem sd_par3 {i j l : Nat} {x y z : Str} {a b c : Expr} {a' b' c' : E} {px py pz pt pos : Pos} {kt k2 pt2} (hc : X.calm = true) (hN : X.N.Nodup) (hi : X.N[i]? = some x) (hj : X.N[j]? = some y) (hl : X.N[l]? = some z) (hij : i ≠ j) (hil : i ≠ l) (hjl : j ≠ l)
    (hx : X.env.scope.names.lookup x = some .local) (hy : X.env.scope.names.lookup y = some .local) (hz : X.env.scope.names.lookup z = some .local) (ha : PA X [a, b, c] (tEs g n W [a', b', c']))
    (hw : swappedStores [.Tuple [.Name x px, .Name y py, .Name z pz] kt pt] (.Tuple [a, b, c] k2 pt2) X.env = pure (some [x, y, z])) (hs : swapsWithSole [.Tuple [.Name x px, .Name y py, .Name z pz] kt pt] (.Tuple [a, b, c] k2 pt2) pos.line X.env = pure false) :
    PS X (.Assign [.Tuple [.Name x px, .Name y py, .Name z pz] kt pt] (.Tuple [a, b, c] k2 pt2) pos) (tS g n W (.par [i, j, l] [a', b', c'])) :=
  (ps_par3 hc hN hi hj hl hij hil hjl hx hy hz ha hw hs).imp fun D σ H h => par3_reads h

/-! ### an object of the store -/
theorem Rel.newSto {a : Addr} {ds : List D} {vs : List V} (R : Rel g.K g.TT s σ F m H) (h : H a = none) (r : Rps g.K F m ds vs) :
    NX g s σ F m H { s with sto := s.sto ++ [.lst ds] } F (m ++ [a]) (upd H a (.lst vs)) ∧ Rp g.K F (m ++ [a]) (.ref s.sto.length) (.ref a) := by
  obtain ⟨f1, f2, f3⟩ := R.newF h
  have pre : m <+: m ++ [a] := List.prefix_append _ _
  refine ⟨⟨⟨⟨(R.hr.laid h).sub, by simp [R.hr.len], ?_, fun b hb => ?_, fun k b o q1 q2 => ?_, (R.hr.laid (o := .lst vs) h).tabs, R.hr.noTab⟩, ⟨R.sr.len, fun i d e => ?_, fun i xs e => ?_, R.sr.apart⟩⟩,
    ⟨SubF.refl _, pre, fun b hb => ?_, fun b o q1 _ _ _ => by rw [upd_ne (ne_of_none q1 h)]; exact q1, fun _ _ _ => rfl, fun b ⟨u, e, ht⟩ => ⟨u, by rw [upd_ne (ne_of_none e h)]; exact e, ht⟩⟩, OwnSub.refl _⟩, ?_⟩
  · refine List.nodup_append.mpr ⟨R.hr.nd, by simp, fun x hx y hy z => ?_⟩
    rw [List.mem_singleton] at hy
    subst hy
    subst z
    exact f2 hx
  · rcases List.mem_append.mp hb with hb | hb
    · exact R.hr.mF b hb
    · rw [List.mem_singleton.mp hb]; exact f1
  · by_cases hk : k < m.length
    · rw [List.getElem?_append_left hk] at q1
      rw [List.getElem?_append_left (by rw [← R.hr.len]; exact hk)] at q2
      have := (R.hr.laid (o := .lst vs) h).obj k b o q1 q2
      cases o with
      | lst xs =>
        obtain ⟨ws, e, q⟩ := this
        exact ⟨ws, e, Rps.mono (SubF.refl _) pre _ _ q⟩
    · have ek : k = m.length := by
        have := (List.getElem?_eq_some_iff.mp q1).1
        simp at this
        omega
      subst ek
      rw [List.getElem?_append_right (Nat.le_refl _)] at q1
      rw [R.hr.len, List.getElem?_append_right (Nat.le_refl _)] at q2
      simp only [Nat.sub_self, List.getElem?_cons_zero, Option.some.injEq] at q1 q2
      subst q1 q2
      exact ⟨vs, upd_same, Rps.mono (SubF.refl _) pre _ _ r⟩
  · obtain ⟨v, e1, e2⟩ := R.sr.val i d e
    exact ⟨v, e1, Rp.mono (SubF.refl _) pre _ _ e2⟩
  · obtain ⟨b, ws, e1, e2, e3, e4, e5⟩ := R.sr.own i xs e
    have hb : b ≠ a := ne_of_none e2 h
    refine ⟨b, ws, e1, by rw [upd_ne hb]; exact e2, Rps.mono (SubF.refl _) pre _ _ e3, e4, fun z => ?_⟩
    rcases List.mem_append.mp z with z | z
    · exact e5 z
    · exact hb (List.mem_singleton.mp z)
  · rcases List.mem_append.mp hb with hb | hb
    · exact .inl hb
    · rw [List.mem_singleton.mp hb]; exact .inr (Nt.no h)
  · rw [Rp]
    refine ⟨a, ?_, rfl⟩
    rw [← R.hr.len, List.getElem?_append_right (Nat.le_refl _)]
    simp
theorem sd_new {x : Str} {i : Nat} {es : List Expr} {es' : List E} {lp pos pos' : Pos} (hN : X.N.Nodup) (hi : X.N[i]? = some x) (hx : Loc X.env.scope x) (ha : PA X es (tEs g n W es')) (hs : swapsWith (.List es lp) (some (.Name x pos')) pos.line X.env = pure false) (hf : X.fn x = true ∨ X.env.scope.names.lookup x = some .local) :
    PS X (.Assign [.Name x pos'] (.List es lp) pos) (tS g n W (.new i es')) := by
  refine (ps_set hN hi hx (pe_lst ha) hs hf).imp fun D σ H ⟨s, F, m, R, h⟩ => ?_
  rw [evS] at h
  refine RdE.stepF (SN.refl R) h fun ds s1 vs F1 m1 H1 hp nx t1 rp => ?_
  have rp : Rps g.K F1 m1 ds vs := rp
  split at hp
  · rename_i hz
    refine ⟨by rw [← rp.len]; exact hz.1, fun p hpn => ?_⟩
    obtain ⟨n2, r2⟩ := nx.rel.newSto hpn rp
    exact hp _ _ _ _ ((t1.trans (SN.of n2)).trans (n2.rel.setVal hz.2 r2))
  · exact hp.elim

/-! ### raise -/
/-- what __init__ of BadArgument promises -/
def spIni (K : PySem.W.Frag) (C : Addr) (fld : Str) : Sp := fun vs H Q _ => ∃ a v, vs = [V.ref a, v] ∧ H a = some (exo a C none) ∧ OexC K C ∧ PySem.W.findIn K (.ref C) fld = some none ∧ ∀ dx, H dx = none → dx ≠ a → Q .non (upd (upd H dx (exd dx [(fld, v)])) a (exo a C (some dx)))
theorem sd_raise {CXn : Nat} {x : Str} {C fI : Addr} {fd : FuncData} {ps : List Str} {fld : Str} {e : Expr} {e' : E} {p pos pos' : Pos} (hc : X.calm = true) (tk : Takes X W) (T : OexC X.K C) (iC : PySem.W.findIn X.K (.ref C) "__init__" = some (some (.ref fI))) (tI : PySem.W.typeIn X.K (.ref fI) = some (.type "function"))
    (hno : PySem.W.findIn X.K (.ref C) fld = some none) (F1 : FnOk X.prog X.w X.K X.mg X.base (L2.CX X.prog X.w) CXn fI fd ps (spIni X.K C fld)) (hr : Room (CXn + 1) X.A) (hb : L2.Binds X.K fd ps []) (hg : Gl X x) (hm : X.mg x = some (.ref C)) (ha : PA X [e] (tEs g n W [e']))
    (hC : g.cls[0]? = some C) (hF : g.flds[0]? = some [fld]) (hdb : (x == ("__debug__" : Str)) = false) (he : starEach [e] X.env = (false, eval e X.env) :: starEach [] X.env) :
    PS X (.Raise (some (.Call (.Name x p) [e] [] pos)) none pos') (tS g n W (.raise 0 [e'])) := by
  refine (ps_raise hc tk (pmk_oex T iC tI F1 hr hb .nil (passes_call LamX.takes0 fun _ _ _ _ z => z) hg hm ha hdb he rfl)).imp fun D σ H ⟨s, F, m, R, h⟩ => ?_
  rw [evS] at h
  refine ⟨s, F, m, R, h.bndF.mono (fun ds s1 ev hp vs F1 m1 H1 nx rp => ?_) fun x s1 _ hx => PXS.px (show PXS g W s σ F m H x s1 from hx) (SN.refl R)⟩
  have rp : Rps g.K F1 m1 ds vs := rp
  have hl := evEs_len _ _ _ _ _ ev
  match ds, hl, rp, hp with
  | [d], _, rp, hp =>
    rw [Rps] at rp
    obtain ⟨v, vr, rfl, rv, rn⟩ := rp
    rw [Rps] at rn
    subst rn
    refine ⟨by show 1 ≤ 1000; decide, fun a han => ⟨a, v, rfl, upd_same, T, hno, fun dx hdx hne => ?_⟩⟩
    have hdx1 : H1 dx = none := by rw [upd_ne hne] at hdx; exact hdx
    refine ⟨rfl, dx, [(fld, v)], upd_same, by rw [upd_ne hne, upd_same], hdx1, ?_⟩
    have e : upd (del (upd (upd (upd H1 a (exo a C none)) dx (exd dx [(fld, v)])) a (exo a C (some dx))) a) dx (.xd [(fld, v)]) = upd H1 dx (.xd [(fld, v)]) := by
      funext b
      by_cases hb : b = dx
      · rw [hb, upd_same, upd_same]
      · rw [upd_ne hb, upd_ne hb]
        by_cases hb2 : b = a
        · rw [hb2, del_same, han]
        · rw [del_ne hb2, upd_ne hb2, upd_ne hb, upd_ne hb2]
    rw [e]
    have n2 := nx.rel.laid (o := .xd [(fld, v)]) hdx1
    refine hp (.ref C) dx σ F1 m1 _ (SN.of (nx.trans n2)) ⟨C, [fld], [(fld, v)], hC, rfl, hF, upd_same, fun i f y q1 q2 => ?_⟩
    cases i with
    | zero =>
      cases q1
      cases q2
      exact ⟨v, by simp [List.lookup], rv⟩
    | succ i => cases q1
end
end Rf

set_option Elab.async false
set_option linter.all false
set_option maxRecDepth 100000
/-! R18: what the translator's answers come from. -/
namespace Rf
open PySem L2
inductive CallC (g : Cfg) (n : Nat) (sc : Scope) : Expr → E → Prop
  | call {x : Str} {p : Pos} {e : Expr} {er : List Expr} {pos : Pos} {k : Nat} {es' : List E} (hx : odd x = false) (hg : glbB sc x = true) (hf : findN x g.fns = some k) (h : trEs g n sc (e :: er) = some es') : CallC g n sc (.Call (.Name x p) (e :: er) [] pos) (.call k es')
  | refused {p pos lp : Pos} {body : Expr} {lsc : Scope} {b' : E} {k : Nat} (hg : glbB sc "_law_refused" = true) (hl : g.lam = true) (hs : LamX.lamSB sc lsc = true) (h : trE { g with lam := false } n lsc body = some b') : CallC g n sc (.Call (.Name "_law_refused" p) [.Lambda ⟨[], [], none, [], [], none, []⟩ body lsc lp] [] pos) (.refused b')
  | callK {x : Str} {p : Pos} {e : Expr} {er : List Expr} {kw : Keyword} {kr : List Keyword} {pos : Pos} {k : Nat} {es' ks' : List E} {names : List Str} {q : Nat × Nat × List Str × List Nat} (hx : odd x = false) (hg : glbB sc x = true) (hf : findN x g.fns = some k) (h : trEs g n sc (e :: er) = some es') (h2 : trKs g n sc (kw :: kr) = some ks') (h3 : kwNames (kw :: kr) = some names)
      (hq : g.kw.find? (fun p => decide (p.1 = k ∧ p.2.1 = es'.length ∧ p.2.2.1 = names)) = some q) : CallC g n sc (.Call (.Name x p) (e :: er) (kw :: kr) pos) (.callK k es' ks' q.2.2.2)
  | callK0 {x : Str} {p : Pos} {kw : Keyword} {kr : List Keyword} {pos : Pos} {k : Nat} {ks' : List E} {names : List Str} {q : Nat × Nat × List Str × List Nat} (hx : odd x = false) (hg : glbB sc x = true) (hf : findN x g.fns = some k) (h2 : trKs g n sc (kw :: kr) = some ks') (h3 : kwNames (kw :: kr) = some names)
      (hq : g.kw.find? (fun p => decide (p.1 = k ∧ p.2.1 = 0 ∧ p.2.2.1 = names)) = some q) : CallC g n sc (.Call (.Name x p) [] (kw :: kr) pos) (.callK k [] ks' q.2.2.2)
  | rangeL {p p2 q pos : Pos} {r : Expr} {es' : List E} (hg : glbB sc "list" = true) (hg2 : glbB sc "range" = true) (h : trEs g n sc [r] = some es') : CallC g n sc (.Call (.Name "list" p) [.Call (.Name "range" p2) [r] [] q] [] pos) (.rangeL es')
  | setLen {p p2 q pos : Pos} {r : Expr} {es' : List E} (hg : glbB sc "len" = true) (hg2 : glbB sc "set" = true) (h : trEs' g n sc [r] = some es') : CallC g n sc (.Call (.Name "len" p) [.Call (.Name "set" p2) [r] [] q] [] pos) (.bcall .setLen es')
  | isOf {p p2 pos : Pos} {y : Str} {a : Expr} {b : B} {es' : List E} (hg : glbB sc "isinstance" = true) (hg2 : glbB sc y = true) (hb : isOf y = some b) (h : trEs' g n sc [a] = some es') : CallC g n sc (.Call (.Name "isinstance" p) [a, .Name y p2] [] pos) (.bcall b es')
  | bOf {x : Str} {p : Pos} {e : Expr} {er : List Expr} {pos : Pos} {b : B} {es' : List E} (hx : odd x = false) (hg : glbB sc x = true) (hb : bOf x (er.length + 1) = some b) (h : trEs' g n sc (e :: er) = some es') : CallC g n sc (.Call (.Name x p) (e :: er) [] pos) (.bcall b es')
  | append {x : Str} {p ap pos : Pos} {i : Nat} {e : Expr} {es' : List E} (hx : odd x = false) (hv : visB sc x = true) (hi : slotOf g.N x = some i) (hl : (ap.endLine == pos.line) = true) (h : trEs g n sc [e] = some es') : CallC g n sc (.Call (.Attribute (.Name x p) "append" ap) [e] [] pos) (.meth .append i es')
  | popAt {x : Str} {p ap pos : Pos} {i : Nat} {e : Expr} {es' : List E} (hx : odd x = false) (hv : visB sc x = true) (hi : slotOf g.N x = some i) (hl : (ap.endLine == pos.line) = true) (h : trEs g n sc [e] = some es') : CallC g n sc (.Call (.Attribute (.Name x p) "pop" ap) [e] [] pos) (.meth .popAt i es')
  | extend {x : Str} {p ap pos : Pos} {i : Nat} {e : Expr} {es' : List E} (hx : odd x = false) (hv : visB sc x = true) (hi : slotOf g.N x = some i) (hl : (ap.endLine == pos.line) = true) (h : trEs g n sc [e] = some es') : CallC g n sc (.Call (.Attribute (.Name x p) "extend" ap) [e] [] pos) (.meth .extend i es')
  | smeth {o e : Expr} {m : Str} {ap pos : Pos} {sm : SM} {o' e' : E} (hm : smOf m = some sm) (hp : plainE o = true) (hl : (ap.endLine == pos.line) = true) (h1 : trE g n sc o = some o') (h2 : trE g n sc e = some e') : CallC g n sc (.Call (.Attribute o m ap) [e] [] pos) (.smeth sm o' e')
set_option maxHeartbeats 4000000 in
theorem call_inv {g : Cfg} {n : Nat} {sc : Scope} {f : Expr} {es : List Expr} {kws : List Keyword} {pos : Pos} {e' : E} (h : trE g (n + 1) sc (.Call f es kws pos) = some e') : CallC g n sc (.Call f es kws pos) e' := by
  unfold trE at h
  split at h
  · rename_i x p
    split at h
    · cases h
    · rename_i hx
      split at h
      · cases h
      · rename_i hgb
        have hx : odd x = false := by simpa using hx
        have hgb : glbB sc x = true := by simpa using hgb
        split at h
        · split at h
          · rename_i k hk
            split at h
            · cases h
            · split at h
              · rename_i h2 h3
                split at h
                · rename_i q hq
                  cases h
                  exact .callK0 hx hgb hk h2 h3 hq
                · cases h
              · cases h
          · cases h
        · rename_i e er
          split at h
          · rename_i k hk
            split at h
            · split at h
              · split at h
                · rename_i hc
                  split at h
                  · rename_i b' hb
                    cases h
                    obtain ⟨rfl, h1, h2⟩ := hc
                    exact .refused (k := k) hgb h1 h2 hb
                  · cases h
                · cases h
              · obtain ⟨es', h1, rfl⟩ := Option.map_eq_some_iff.mp h
                exact .call hx hgb hk h1
            · split at h
              · rename_i h1 h2 h3
                split at h
                · rename_i q hq
                  cases h
                  exact .callK hx hgb hk h1 h2 h3 hq
                · cases h
              · cases h
          · split at h
            · split at h
              · split at h
                · rename_i hc
                  obtain ⟨rfl, rfl⟩ := hc
                  split at h
                  · rename_i hg2
                    split at h
                    · obtain ⟨es', h1, rfl⟩ := Option.map_eq_some_iff.mp h
                      exact .setLen hgb hg2 h1
                    · cases h
                  · cases h
                · split at h
                  · rename_i hc
                    obtain ⟨rfl, rfl⟩ := hc
                    split at h
                    · rename_i hg2
                      split at h
                      · obtain ⟨es', h1, rfl⟩ := Option.map_eq_some_iff.mp h
                        exact .rangeL hgb hg2 h1
                      · cases h
                    · cases h
                  · split at h
                    · rename_i hb
                      obtain ⟨es', h1, rfl⟩ := Option.map_eq_some_iff.mp h
                      exact .bOf hx hgb hb h1
                    · cases h
              · split at h
                · rename_i hc
                  subst hc
                  split at h
                  · rename_i hg2
                    split at h
                    · rename_i b hb
                      obtain ⟨es', h1, rfl⟩ := Option.map_eq_some_iff.mp h
                      exact .isOf hgb hg2 hb h1
                    · cases h
                  · cases h
                · split at h
                  · rename_i hb
                    obtain ⟨es', h1, rfl⟩ := Option.map_eq_some_iff.mp h
                    exact .bOf hx hgb hb h1
                  · cases h
              · split at h
                · rename_i hb
                  obtain ⟨es', h1, rfl⟩ := Option.map_eq_some_iff.mp h
                  exact .bOf hx hgb hb h1
                · cases h
            · cases h
  · rename_i o m ap
    split at h
    · rename_i sm hsm
      split at h
      · cases h
      · rename_i hl
        have hl : (ap.endLine == pos.line) = true := by simpa using hl
        split at h
        · cases h
        · rename_i hp
          have hp : plainE o = true := by simpa using hp
          split at h
          · split at h
            · rename_i h1 h2
              cases h
              exact .smeth hsm hp hl h1 h2
            · cases h
          · cases h
    · split at h
      · rename_i x p
        split at h
        · cases h
        · rename_i hx
          split at h
          · cases h
          · rename_i hv
            split at h
            · cases h
            · rename_i hl
              have hx : odd x = false := by simpa using hx
              have hv : visB sc x = true := by simpa using hv
              have hl : (ap.endLine == pos.line) = true := by simpa using hl
              split at h
              · rename_i i hi
                split at h
                · split at h
                  · rename_i es' h1
                    split at h
                    · rename_i hm
                      subst hm
                      cases h
                      exact .append hx hv hi hl h1
                    · split at h
                      · rename_i hm
                        subst hm
                        cases h
                        exact .popAt hx hv hi hl h1
                      · split at h
                        · rename_i hm
                          subst hm
                          cases h
                          exact .extend hx hv hi hl h1
                        · cases h
                  · cases h
                · cases h
              · cases h
      · cases h
  · cases h
end Rf

set_option Elab.async false
set_option linter.all false
set_option maxRecDepth 100000
/-! R19: every expression that the translator takes is what its tree says. -/
namespace Rf
open PySem L2
def lev : Nat → Nat
  | 0 => 3
  | n + 1 => lev n + 3
theorem odd_d {x : Str} (h : odd x = false) : (x == ("__debug__" : Str)) = false := by
  unfold odd at h
  simp only [Bool.or_eq_false_iff, decide_eq_false_iff_not] at h
  exact beq_eq_false_iff_ne.mpr h.1
theorem odd_c {x : Str} (h : odd x = false) : (x == ("__classdict__" : Str)) = false := by
  unfold odd at h
  simp only [Bool.or_eq_false_iff, decide_eq_false_iff_not] at h
  exact beq_eq_false_iff_ne.mpr h.2
theorem visB_ok {sc : Scope} {x : Str} (h : visB sc x = true) : Vis sc x := by
  unfold visB at h
  split at h
  · exact .inl (by assumption)
  · exact .inr (.inl (by assumption))
  · exact .inr (.inr (by assumption))
  · cases h
theorem locB_ok {sc : Scope} {x : Str} (h : locB sc x = true) : Loc sc x := by
  unfold locB at h
  split at h
  · exact .inl (by assumption)
  · exact .inr (by assumption)
  · cases h
theorem glbB_ok {sc : Scope} {x : Str} (h : glbB sc x = true) : sc.names.lookup x = some .globalImplicit := by
  unfold glbB at h
  split at h
  · assumption
  · cases h
def noStar : Expr → Bool
  | .Starred .. => false
  | _ => true
theorem star_cons {e : Expr} {es : List Expr} {env : Env} (h : noStar e = true) : starEach (e :: es) env = (false, eval e env) :: starEach es env := by cases e <;> first | rfl | cases h
theorem star_any {env : Env} : ∀ {es : List Expr}, (∀ e ∈ es, noStar e = true) → (starEach es env).any (·.1) = false
  | [], _ => rfl
  | e :: es, h => by
    rw [star_cons (h e (by simp)), List.any_cons, star_any fun x hx => h x (by simp [hx])]
    rfl
theorem backTo_any {pos : Pos} : ∀ {l : List (Bool × Sem Value)}, (backTo pos l).any (·.1) = l.any (·.1)
  | [] => rfl
  | (b, t) :: l => by
    have ih := backTo_any (pos := pos) (l := l)
    unfold backTo at ih ⊢
    rw [List.map_cons, List.any_cons, List.any_cons, ih]
theorem kw_all {pos : Pos} {env : Env} : ∀ {kws : List Keyword} {names : List Str}, kwNames kws = some names → (backToKw pos (keywordEach kws env)).all (·.1.isSome) = true ∧ (backToKw pos (keywordEach kws env)).filterMap (·.1) = names ∧ (backToKw pos (keywordEach kws env)).any (·.1.isNone) = false
  | [], _, h => by cases h; exact ⟨rfl, rfl, rfl⟩
  | ⟨some x, e, p⟩ :: r, names, h => by
    have h : (kwNames r).map (x :: ·) = some names := h
    obtain ⟨ns, h1, rfl⟩ := Option.map_eq_some_iff.mp h
    obtain ⟨a, b, c⟩ := kw_all (pos := pos) (env := env) h1
    unfold backToKw at a b c ⊢
    unfold keywordEach
    rw [List.map_cons, List.all_cons, List.any_cons, a, c]
    refine ⟨rfl, ?_, rfl⟩
    exact congrArg (x :: ·) b
  | ⟨none, e, p⟩ :: r, names, h => by cases h
theorem trE_noStar {g : Cfg} {k : Nat} {sc : Scope} {e : Expr} {e' : E} (h : trE g k sc e = some e') : noStar e = true := by
  cases k with
  | zero => simp [trE] at h
  | succ k => cases e <;> first | rfl | simp [trE] at h
theorem trE_noSlice {g : Cfg} {k : Nat} {sc : Scope} {e : Expr} {e' : E} (h : trE g k sc e = some e') : PlainIx e := by
  cases k with
  | zero => simp [trE] at h
  | succ k => cases e <;> first | (intro o i; rfl) | simp [trE] at h
theorem trE_noSet {g : Cfg} {k : Nat} {sc : Scope} {e : Expr} {e' : E} {env : Env} (h : trE g k sc e = some e') : ∀ x, foldedSetIterable e env x = pure x := by
  cases k with
  | zero => simp [trE] at h
  | succ k => cases e <;> first | (intro x; rfl) | simp [trE] at h
theorem trEs_noStar {g : Cfg} {sc : Scope} : ∀ {k : Nat} {es : List Expr} {es' : List E}, trEs g k sc es = some es' → ∀ e ∈ es, noStar e = true
  | 0, _, _, h => by simp [trEs] at h
  | k + 1, [], _, _ => fun e he => by cases he
  | k + 1, e :: es, es', h => by
    rw [trEs] at h
    split at h
    · rename_i h1 h2
      intro x hx
      rcases List.mem_cons.mp hx with rfl | hx
      · exact trE_noStar h1
      · exact trEs_noStar h2 x hx
    · cases h
theorem trEs'_noStar {g : Cfg} {sc : Scope} : ∀ {k : Nat} {es : List Expr} {es' : List E}, trEs' g k sc es = some es' → ∀ e ∈ es, noStar e = true
  | 0, _, _, h => by simp [trEs'] at h
  | k + 1, [], _, _ => fun e he => by cases he
  | k + 1, e :: es, es', h => by
    rw [trEs'] at h
    split at h
    · rename_i h1 h2
      intro x hx
      rcases List.mem_cons.mp hx with rfl | hx
      · exact trE_noStar h1
      · exact trEs'_noStar h2 x hx
    · cases h
theorem trKs_len {g : Cfg} {sc : Scope} : ∀ {k : Nat} {es : List Keyword} {es' : List E} {names : List Str}, trKs g k sc es = some es' → kwNames es = some names → es'.length = names.length
  | 0, _, _, _, h, _ => by simp [trKs] at h
  | k + 1, [], _, _, h, h2 => by
    simp [trKs] at h
    cases h2
    subst h
    rfl
  | k + 1, ⟨some x, e, p⟩ :: es, es', names, h, h2 => by
    rw [trKs] at h
    split at h
    · rename_i h3 h4
      cases h
      have h2 : (kwNames es).map (x :: ·) = some names := h2
      obtain ⟨ns, h5, rfl⟩ := Option.map_eq_some_iff.mp h2
      rw [List.length_cons, List.length_cons, trKs_len h4 h5]
    · cases h
  | k + 1, ⟨none, e, p⟩ :: es, es', names, h, h2 => by cases h2
theorem trEs1 {g : Cfg} {sc : Scope} {k : Nat} {e : Expr} {es' : List E} (h : trEs g k sc [e] = some es') : ∃ e' j, es' = [e'] ∧ trE g j sc e = some e' ∧ k = j + 1 := by
  cases k with
  | zero => simp [trEs] at h
  | succ k =>
    rw [trEs] at h
    split at h
    · rename_i a b h1 h2
      cases h
      cases k with
      | zero => simp [trE] at h1
      | succ k =>
        simp only [trEs] at h2
        cases h2
        exact ⟨a, k + 1, rfl, h1, rfl⟩
    · cases h

/-! ### the surroundings -/
/-- what is alike everywhere in a law -/
structure Fx (g : Gx) (cfg : Cfg) (n : Nat) (P : Program) (w : World) (K : PySem.W.Frag) (mg : Str → Option Value) (base : Heap) : Prop where
  hK : K = g.K
  blt : ∀ y ∈ bltNames, mg y = none
  fn : ∀ (k : Nat) x, cfg.fns[k]? = some x → ∃ f fd ps, mg x = some (.ref f) ∧ PySem.W.keepIn K (.ref f) = true ∧ FnOk P w K mg base (L2.CX P w) (lev n) f fd ps (spF g n k) ∧ L2.Binds K fd ps [] ∧ ∀ q ∈ cfg.kw, q.1 = k → KB K fd ps q.2.2.1 q.2.1 q.2.2.2
  cs : ∀ x d, cfg.cs.lookup x = some d → ∃ u v, mg x = some u ∧ RelV v u ∧ ∀ F m, Rp g.K F m d v
/-- _law_refused's def -/
structure RefDat where
  gA : Addr
  C : Addr
  oc : Value
  od : Option Addr
  osl : Array (Option Value)
  pg : Arguments
  sg : Scope
  dV : Value
  kV : Value
  doc : Value
  pm : Value
  cdv : Value
  ct : Value
  an : Option Addr
  Ng : List Str
  a : Str
  e : Str
  en : Str
  j : Nat
  p1 : Pos
  p2 : Pos
  p3 : Pos
  p4 : Pos
  p5 : Pos
  p6 : Pos
  p7 : Pos
  p8 : Pos
  p9 : Pos
  p10 : Pos
  p11 : Pos
def RefDat.body (d : RefDat) : List Stmt := [.Try [.Expr (.Call (.Name d.a d.p1) [] [] d.p2) d.p3] [.ExceptHandler (some (.Name d.en d.p4)) (some d.e) [.Return (some (.Attribute (.Name d.e d.p5) "name" d.p6)) d.p7] d.p8] [] [] d.p9, .Return (some (.Constant (.str "") d.j d.p10)) d.p11]
structure RefOk (g : Gx) (d : RefDat) (K : PySem.W.Frag) (mg : Str → Option Value) : Prop where
  mR : mg "_law_refused" = some (.ref d.gA)
  kp : PySem.W.keepIn K (.ref d.gA) = true
  lk : K.lookup d.gA = some ⟨d.oc, d.od, .func (PySem.W.fnOf "_law_refused" "_law_refused" d.pg d.body d.sg d.dV d.kV d.doc d.pm d.an d.cdv d.ct), d.osl⟩
  cd : PySem.W.codeIn K d.cdv "_law_refused" = true
  bd : L2.Binds K (PySem.W.fnOf "_law_refused" "_law_refused" d.pg d.body d.sg d.dV d.kV d.doc d.pm d.an d.cdv d.ct) [d.a] []
  sc : FnScope d.Ng [d.a] d.sg
  h0 : d.Ng[0]? = some d.a
  va : Vis d.sg d.a
  nd : d.Ng.Nodup
  h1 : d.Ng[1]? = some d.e
  l2 : d.Ng.length = 2
  le : d.sg.names.lookup d.e = some .local
  ge : d.sg.names.lookup d.en = some .globalImplicit
  me : mg d.en = some (.ref d.C)
  d1 : (d.en == ("__debug__" : Str)) = false
  d2 : (d.e == ("__debug__" : Str)) = false
  d3 : (d.e == ("__classdict__" : Str)) = false
  d4 : (d.a == ("__debug__" : Str)) = false
  d5 : (d.a == ("__classdict__" : Str)) = false
  ex : PySem.W.exmOne K (.ref d.C) (.ref d.C) = some true
  xf : XfC K d.C
  no : PySem.W.findIn K (.ref d.C) "name" = some none
  hC : g.cls[0]? = some d.C
  hF : g.flds[0]? = some [("name" : Str)]
/-- in a def that hands lambdas to _law_refused -/
structure LamOk (g : Gx) (n : Nat) (X : Cx) : Prop where
  room : Room (lev n + 2) X.A
  ref : ∃ d, RefOk g d X.K X.mg
  code : ∃ c P, X.env.code = .ref c ∧ LamX.TabB X.base X.mg c P ∧ (P, X.env.qual ++ "<lambda>") ∈ g.TT ∧ ∀ p ∈ g.TT, p.1 = P → p.2 = X.env.qual ++ "<lambda>"
structure XC (g : Gx) (cfg : Cfg) (n : Nat) (X : Cx) (W : WX) : Prop where
  fx : Fx g cfg n X.prog X.w X.K X.mg X.base
  calm : X.calm = true
  hN : X.N = cfg.N
  nd : X.N.Nodup
  tk : Takes X W
  room : Room (lev n) X.A
  lam : cfg.lam = true → LamOk g n X
structure MainE (g : Gx) (n k : Nat) : Prop where
  e : ∀ {cfg : Cfg} {X : Cx} {W : WX}, XC g cfg n X W → ∀ {e : Expr} {e' : E}, trE cfg k X.env.scope e = some e' → PE X e (tE g n W e')
  es : ∀ {cfg : Cfg} {X : Cx} {W : WX}, XC g cfg n X W → ∀ {es : List Expr} {es' : List E}, trEs cfg k X.env.scope es = some es' → PA X es (tEs g n W es')
  es' : ∀ {cfg : Cfg} {X : Cx} {W : WX}, XC g cfg n X W → ∀ {es : List Expr} {es' : List E}, trEs' cfg k X.env.scope es = some es' → PA X es (tHs g n W es')
  ks : ∀ {cfg : Cfg} {X : Cx} {W : WX}, XC g cfg n X W → ∀ {es : List Keyword} {es' : List E}, trKs cfg k X.env.scope es = some es' → PK X es (tEs g n W es')
  o : ∀ {cfg : Cfg} {X : Cx} {W : WX}, XC g cfg n X W → ∀ {e : Option Expr} {e' : Option E}, trO cfg k X.env.scope e = some e' → PO X e (tOp' g n W e')
  t : ∀ {cfg : Cfg} {X : Cx} {W : WX}, XC g cfg n X W → ∀ {e : Expr} {e' : T}, trT cfg k X.env.scope e = some e' → PT X e (tT g n W e')
  i : ∀ {cfg : Cfg} {X : Cx} {W : WX}, XC g cfg n X W → ∀ {tg e : Expr} {e' : I}, trI cfg k X.env.scope tg e = some e' → PI X tg e (tI g n W e') ∧ PI X tg e (tW g n W e')
theorem main0 {g : Gx} {n : Nat} : MainE g n 0 := by
  refine ⟨?_, ?_, ?_, ?_, ?_, ?_, ?_⟩
  · intro _ _ _ _ _ _ h; simp [trE] at h
  · intro _ _ _ _ _ _ h; simp [trEs] at h
  · intro _ _ _ _ _ _ h; simp [trEs'] at h
  · intro _ _ _ _ _ _ h; simp [trKs] at h
  · intro _ _ _ _ _ _ h; simp [trO] at h
  · intro _ _ _ _ _ _ h; simp [trT] at h
  · intro _ _ _ _ _ _ _ h; simp [trI] at h
section
variable {g : Gx} {n k : Nat} {cfg : Cfg} {X : Cx} {W : WX}
theorem XC.units (x : XC g cfg n X W) : X.A.units + 65 < cLine := by have := x.room.un; omega
theorem XC.name (x : XC g cfg n X W) {y : Str} {i : Nat} (h : slotOf cfg.N y = some i) : X.N[i]? = some y := by rw [x.hN]; exact slotOf_get h
/-- names and tuples of them as a comprehension's target -/
theorem main_gn {scope : Scope} {N : List Str} (hK : X.K = g.K) (hc : X.calm = true) (hN : X.N = N) (nd : X.N.Nodup) (hl : ∀ x, locB scope x = true → Loc X.env.scope x ∧ (X.fn x = true ∨ X.env.scope.names.lookup x = some .local)) : ∀ k,
    (∀ {e : Expr} {t : Tg}, trGN N scope k e = some t → PG X e (tG g n W t) ∧ noStar e = true) ∧ (∀ {es : List Expr} {ts : List Tg}, trGNs N scope k es = some ts → PGs X es (tGs g n W ts) ∧ (assignEach es X.env).length = ts.length ∧ (assignEach es X.env).findIdx? (·.1) = none)
  | 0 => ⟨fun h => by simp [trGN] at h, fun h => by simp [trGNs] at h⟩
  | k + 1 => by
    obtain ⟨ih1, ih2⟩ := main_gn hK hc hN nd hl k
    refine ⟨fun {e t} h => ?_, fun {es ts} h => ?_⟩
    · cases e with
      | Name x p =>
        simp only [trGN] at h
        split at h
        · rename_i hx
          obtain ⟨i, hi, rfl⟩ := Option.map_eq_some_iff.mp h
          obtain ⟨h1, h2⟩ := hl x hx
          exact ⟨sd_gname nd (by rw [hN]; exact slotOf_get hi) h1 h2, rfl⟩
        · cases h
      | Tuple es kk p =>
        simp only [trGN] at h
        obtain ⟨ts, hts, rfl⟩ := Option.map_eq_some_iff.mp h
        obtain ⟨a, b, c⟩ := ih2 hts
        exact ⟨sd_gtup hK hc a b c, rfl⟩
      | _ => simp [trGN] at h
    · cases es with
      | nil =>
        simp only [trGNs] at h
        cases h
        exact ⟨sd_gnil, rfl, rfl⟩
      | cons e es =>
        rw [trGNs] at h
        split at h
        · rename_i t ts h1 h2
          cases h
          obtain ⟨a, s⟩ := ih1 h1
          obtain ⟨b, c, d⟩ := ih2 h2
          have st : assignEach (e :: es) X.env = (false, assign e X.env) :: assignEach es X.env := by cases e <;> first | rfl | cases s
          refine ⟨sd_gcons a b (by rw [st]; rfl), by rw [st, List.length_cons, List.length_cons, c], ?_⟩
          rw [st, List.findIdx?_cons]
          simp [d]
        · cases h
end
end Rf

set_option Elab.async false
set_option linter.all false
set_option maxRecDepth 100000
/-! R20: the step over the translator's fuel. -/
namespace Rf
open PySem L2
theorem findN_get : ∀ {l : List Str} {x : Str} {k : Nat}, findN x l = some k → l[k]? = some x
  | [], _, _, h => by cases h
  | y :: ys, x, k, h => by
    unfold findN at h
    split at h
    · rename_i e
      cases h
      rw [e]
      rfl
    · obtain ⟨j, hj, rfl⟩ := Option.map_eq_some_iff.mp h
      simpa using findN_get hj
theorem trEs'1 {g : Cfg} {sc : Scope} {k : Nat} {e : Expr} {es' : List E} (h : trEs' g k sc [e] = some es') : ∃ e' j, es' = [e'] ∧ trE g j sc e = some e' ∧ k = j + 1 := by
  cases k with
  | zero => simp [trEs'] at h
  | succ k =>
    rw [trEs'] at h
    split at h
    · rename_i a b h1 h2
      cases h
      cases k with
      | zero => simp [trE] at h1
      | succ k =>
        simp only [trEs'] at h2
        cases h2
        exact ⟨a, k + 1, rfl, h1, rfl⟩
    · cases h
theorem trEs2 {g : Cfg} {sc : Scope} {k : Nat} {a b : Expr} {es' : List E} (h : trEs g k sc [a, b] = some es') : ∃ a' b', es' = [a', b'] := by
  cases k with
  | zero => simp [trEs] at h
  | succ k =>
    rw [trEs] at h
    split at h
    · rename_i a' br h1 h2
      cases h
      obtain ⟨b', j, rfl, _, _⟩ := trEs1 h2
      exact ⟨a', b', rfl⟩
    · cases h
section
variable {g : Gx} {n k : Nat} {cfg : Cfg} {X : Cx} {W : WX}
theorem XC.noLam (x : XC g cfg n X W) : XC g { cfg with lam := false } n X W := ⟨⟨x.fx.hK, x.fx.blt, x.fx.fn, x.fx.cs⟩, x.calm, x.hN, x.nd, x.tk, x.room, fun z => by cases z⟩
theorem XC.blk (x : XC g cfg n X W) (s : Shared) (H : Hp) (scope : Scope) (C : Addr) (cl : List (Str × Addr)) (fp : List Addr) : XC g { cfg with lam := false } n (X.blk s H scope (compEnvC scope cl C X.env) fp) WF :=
  ⟨⟨x.fx.hK, x.fx.blt, x.fx.fn, x.fx.cs⟩, x.calm, x.hN, x.nd, LamX.takes0, x.room, fun z => by cases z⟩
theorem XC.lamb (x : XC g cfg n X W) {A : Around} {outer : List Env} {s : Shared} {H : Hp} {E : XK} {scope : Scope} {f c' : Addr} (hr : Room (lev n) (A.deeper (LamX.lamEnv X scope s.heap.objs.size f c'))) :
    XC g { cfg with lam := false } n (LamX.lamCx X A outer s H E scope f c') (fun cls d _ H => E cls d H) :=
  ⟨⟨x.fx.hK, x.fx.blt, x.fx.fn, x.fx.cs⟩, rfl, x.hN, x.nd, takes_of rfl rfl rfl rfl, hr, fun z => by cases z⟩
theorem step_refused (ih : ∀ j, j ≤ k → MainE g n j) (x : XC g cfg n X W) {p pos lp : Pos} {body : Expr} {lsc : Scope} {b' : E} (hg : glbB X.env.scope "_law_refused" = true) (hl : cfg.lam = true) (hs : LamX.lamSB X.env.scope lsc = true) (h : trE { cfg with lam := false } k lsc body = some b') :
    PE X (.Call (.Name "_law_refused" p) [.Lambda ⟨[], [], none, [], [], none, []⟩ body lsc lp] [] pos) (tE g n W (.refused b')) := by
  have lam := x.lam hl
  obtain ⟨c, P, hcode, TB, hmT, hu⟩ := lam.code
  obtain ⟨d, R⟩ := lam.ref
  have hG : LamX.GivesTo X d.Ng "_law_refused" d.sg d.gA d.cdv d.body d.a (X.env.qual ++ "<lambda>") (TRef d.C) :=
    ref_gives R.nd R.h1 R.l2 R.le R.ge R.me R.d1 R.d2 R.d3 (fun f => by
      have h0 := R.h0
      have hl := R.l2
      show (L2.start d.Ng [V.ref f])[0]? = _
      cases hN : d.Ng with
      | nil => rw [hN] at hl; cases hl
      | cons y ys => rfl) R.ex R.xf R.no
  refine (LamX.pe_lamcall (T := g.TT) (TT := TRef d.C) (k := lev n) (t := fun E => tD g n (fun cls d _ H => E cls d H) b') (glbB_ok hg) R.mR R.kp R.lk R.cd R.bd R.sc R.h0 R.va hG TB hcode hmT hu lam.room (LamX.lamS_by hs) rfl (fun _ _ _ _ _ => rfl)
    (fun A outer s H E f c' hr => pe_D ((ih k (Nat.le_refl _)).e (x.lamb hr) h)) (by decide) R.d4 R.d5).imp fun σ H Q q => refused_reads R.hC R.hF q
theorem step_call (ih : ∀ j, j ≤ k → MainE g n j) (x : XC g cfg n X W) {e : Expr} {e' : E} (h : CallC cfg k X.env.scope e e') : PE X e (tE g n W e') := by
  have ihk := ih k (Nat.le_refl _)
  generalize hsc : X.env.scope = sc at h
  cases h with
  | call hx hg hf h =>
    subst hsc
    obtain ⟨f, fd, ps, hm, hk, hF, hb, _⟩ := x.fx.fn _ _ (findN_get hf)
    have ns := trEs_noStar h
    exact sd_Call hF x.room (glbB_ok hg) hm hk hb x.tk (ihk.es x h) (odd_d hx) (star_cons (ns _ (by simp))) (by rw [backTo_any]; exact star_any fun y hy => ns y (by simp [hy]))
  | refused hg hl hs h =>
    subst hsc
    exact step_refused ih x hg hl hs h
  | callK hx hg hf h h2 h3 hq =>
    subst hsc
    obtain ⟨f, fd, ps, hm, hk, hF, hb, hkb⟩ := x.fx.fn _ _ (findN_get hf)
    have ns := trEs_noStar h
    have hmem := List.mem_of_find?_eq_some hq
    have hp := List.find?_some hq
    simp only [decide_eq_true_eq] at hp
    obtain ⟨q1, q2, q3⟩ := hp
    have kb := hkb _ hmem q1
    obtain ⟨a1, a2, a3⟩ := kw_all (env := X.env) h3
    rw [q3] at kb
    refine sd_CallK hF x.room (glbB_ok hg) hm hk kb x.tk (ihk.es x h) (ihk.ks x h2) q2.symm (trKs_len h2 h3) a1 a2 (odd_d hx) (star_cons (ns _ (by simp))) ?_
    rw [backTo_any, star_any ns, a3]
    rfl
  | callK0 hx hg hf h2 h3 hq =>
    subst hsc
    obtain ⟨f, fd, ps, hm, hk, hF, hb, hkb⟩ := x.fx.fn _ _ (findN_get hf)
    have hmem := List.mem_of_find?_eq_some hq
    have hp := List.find?_some hq
    simp only [decide_eq_true_eq] at hp
    obtain ⟨q1, q2, q3⟩ := hp
    have kb := hkb _ hmem q1
    obtain ⟨a1, a2, a3⟩ := kw_all (env := X.env) h3
    rw [q3, q2] at kb
    refine sd_CallK0 hF x.room (glbB_ok hg) hm hk kb x.tk (ihk.ks x h2) (trKs_len h2 h3) a1 a2 (odd_d hx) ?_
    rw [a3]
    rfl
  | rangeL hg hg2 h =>
    subst hsc
    obtain ⟨r', j, rfl, h1, rfl⟩ := trEs1 h
    exact sd_rangeL1 x.calm (glbB_ok hg) (glbB_ok hg2) x.fx.blt ((ih j (by omega)).e x h1) (star_cons (trE_noStar h1))
  | setLen hg hg2 h =>
    subst hsc
    obtain ⟨r', j, rfl, h1, rfl⟩ := trEs'1 h
    exact sd_setLen x.fx.hK x.calm (by have := x.units; omega) (glbB_ok hg) (glbB_ok hg2) (x.fx.blt _ (by decide +kernel)) (x.fx.blt _ (by decide +kernel)) ((ih j (by omega)).e x h1) (star_cons (trE_noStar h1))
  | isOf hg hg2 hb h =>
    subst hsc
    obtain ⟨r', j, rfl, h1, rfl⟩ := trEs'1 h
    exact sd_isOf x.fx.hK hb (glbB_ok hg) (glbB_ok hg2) x.fx.blt ((ih j (by omega)).e x h1) (star_cons (trE_noStar h1))
  | bOf hx hg hb h =>
    subst hsc
    have ns := trEs'_noStar h
    exact sd_bOf x.fx.hK x.calm (by have := x.units; omega) hb (glbB_ok hg) x.fx.blt (ihk.es' x h) (star_cons (ns _ (by simp))) (by rw [backTo_any]; exact star_any fun y hy => ns y (by simp [hy]))
  | append hx hv hi hl h =>
    subst hsc
    obtain ⟨r', j, e1, h1, _⟩ := trEs1 h
    exact sd_append (x.name hi) (visB_ok hv) (odd_d hx) (odd_c hx) (ihk.es x h) (star_cons (trE_noStar h1)) hl
  | popAt hx hv hi hl h =>
    subst hsc
    obtain ⟨r', j, e1, h1, _⟩ := trEs1 h
    exact sd_popAt (x.name hi) (visB_ok hv) (odd_d hx) (odd_c hx) (ihk.es x h) (star_cons (trE_noStar h1)) hl
  | extend hx hv hi hl h =>
    subst hsc
    obtain ⟨r', j, e1, h1, _⟩ := trEs1 h
    exact sd_extend (x.name hi) (visB_ok hv) (odd_d hx) (odd_c hx) (ihk.es x h) (star_cons (trE_noStar h1)) hl
  | smeth hm hp hl h1 h2 =>
    subst hsc
    exact sd_smeth x.fx.hK hm hp (ihk.e x h1) (ihk.e x h2) (star_cons (trE_noStar h2)) hl
end
end Rf

set_option Elab.async false
set_option linter.all false
set_option maxRecDepth 100000
/-! R21: expressions, all of them. -/
namespace Rf
open PySem L2
section
variable {g : Gx} {n k : Nat} {cfg : Cfg} {X : Cx} {W : WX}
structure CompC (cfg : Cfg) (k : Nat) (sc : Scope) (elt : Expr) (gs : List Comprehension) (scope : Scope) (e' : E) : Prop where
  ex : ∃ tg iter ifs it t e c, gs = [⟨tg, iter, ifs, 0⟩] ∧ e' = .comp ((ownOf cfg.N scope.names).map (·.2)) e t it c ∧ L2.blkC cfg.N sc scope (ownOf cfg.N scope.names) = true ∧ trI cfg k sc tg iter = some it ∧ trGN cfg.N scope k tg = some t ∧
    trE { cfg with lam := false } k (L2.relS scope sc) elt = some e ∧ (∀ j ∈ tgSl t, j ∈ (ownOf cfg.N scope.names).map (·.2)) ∧ ((ifs = [] ∧ c = none) ∨ ∃ ce cc, ifs = [ce] ∧ c = some cc ∧ trT { cfg with lam := false } k (L2.relS scope sc) ce = some cc)
structure Comp2C (cfg : Cfg) (k : Nat) (sc : Scope) (elt : Expr) (gs : List Comprehension) (scope : Scope) (e' : E) : Prop where
  ex : ∃ tg iter ifs tg1 iter1 ifs1 it t e c it1 t1 c1, gs = [⟨tg, iter, ifs, 0⟩, ⟨tg1, iter1, ifs1, 0⟩] ∧ e' = .comp2 ((ownOf cfg.N scope.names).map (·.2)) (tgSl t1) e t it c t1 it1 c1 ∧ L2.blkC cfg.N sc scope (ownOf cfg.N scope.names) = true ∧ trI cfg k sc tg iter = some it ∧ trGN cfg.N scope k tg = some t ∧
    trE { cfg with lam := false } k (L2.relS scope sc) elt = some e ∧ trI { cfg with lam := false } k (L2.relS scope sc) tg1 iter1 = some it1 ∧ trGN cfg.N scope k tg1 = some t1 ∧ (∀ j ∈ tgSl t, j ∈ (ownOf cfg.N scope.names).map (·.2)) ∧ (∀ j ∈ tgSl t1, j ∈ (ownOf cfg.N scope.names).map (·.2)) ∧
    trC { cfg with lam := false } k (L2.relS scope sc) ifs = some c ∧ trC { cfg with lam := false } k (L2.relS scope sc) ifs1 = some c1
theorem trC_inv {g : Cfg} {sc : Scope} {cs : List Expr} {c : Option T} (h : trC g k sc cs = some c) : (cs = [] ∧ c = none) ∨ ∃ ce cc j, cs = [ce] ∧ c = some cc ∧ k = j + 1 ∧ trT g j sc ce = some cc := by
  cases k with
  | zero => simp [trC] at h
  | succ k =>
    simp only [trC] at h
    split at h
    · cases h; exact .inl ⟨rfl, rfl⟩
    · obtain ⟨cc, h1, rfl⟩ := Option.map_eq_some_iff.mp h
      exact .inr ⟨_, cc, k, rfl, rfl, rfl, h1⟩
    · cases h
theorem lc_inv {sc : Scope} {elt : Expr} {gs : List Comprehension} {scope : Scope} {pos : Pos} {e' : E} (h : trE cfg (k + 1) sc (.ListComp elt gs scope pos) = some e') : CompC cfg k sc elt gs scope e' ∨ Comp2C cfg k sc elt gs scope e' := by
  simp only [trE] at h
  split at h
  · rename_i tg iter ifs a
    split at h
    · cases h
    · rename_i ha
      have ha : a = 0 := by simpa using ha
      subst ha
      split at h
      · rename_i hb
        split at h
        · rename_i it t e h1 h2 h3
          split at h
          · cases h
          · rename_i hall
            have hall : ∀ j ∈ tgSl t, j ∈ (ownOf cfg.N scope.names).map (·.2) := fun j hj => by
              have h0 : ((tgSl t).all fun i => decide (i ∈ (ownOf cfg.N scope.names).map (·.2))) = true := by simpa using hall
              exact of_decide_eq_true (List.all_eq_true.mp h0 j hj)
            split at h
            · cases h
              exact .inl ⟨tg, iter, _, it, t, e, none, rfl, rfl, hb, h1, h2, h3, hall, .inl ⟨rfl, rfl⟩⟩
            · rename_i ce
              split at h
              · rename_i cc h4
                cases h
                exact .inl ⟨tg, iter, _, it, t, e, some cc, rfl, rfl, hb, h1, h2, h3, hall, .inr ⟨ce, cc, rfl, rfl, h4⟩⟩
              · cases h
            · cases h
        · cases h
      · cases h
  · rename_i tg iter ifs a tg1 iter1 ifs1 a1
    split at h
    · cases h
    · rename_i ha
      simp only [not_or, ne_eq, Decidable.not_not] at ha
      obtain ⟨ha, ha1⟩ := ha
      subst ha ha1
      split at h
      · rename_i hb
        split at h
        · rename_i it t e it1 t1 h1 h2 h3 h4 h5
          split at h
          · cases h
          · rename_i hall
            have hall : ((tgSl t).all (fun i => decide (i ∈ (ownOf cfg.N scope.names).map (·.2))) && (tgSl t1).all (fun i => decide (i ∈ (ownOf cfg.N scope.names).map (·.2)))) = true := by simpa using hall
            obtain ⟨q1, q2⟩ := Bool.and_eq_true_iff.mp hall
            split at h
            · rename_i c c1 h6 h7
              cases h
              exact .inr ⟨tg, iter, ifs, tg1, iter1, ifs1, it, t, e, c, it1, t1, c1, rfl, rfl, hb, h1, h2, h3, h4, h5, fun j hj => of_decide_eq_true (List.all_eq_true.mp q1 j hj), fun j hj => of_decide_eq_true (List.all_eq_true.mp q2 j hj), h6, h7⟩
            · cases h
        · cases h
      · cases h
  · cases h
theorem trI_noSet {sc : Scope} {tg e : Expr} {e' : I} {env : Env} (h : trI cfg k sc tg e = some e') : ∀ x, foldedSetIterable e env x = pure x := by
  cases k with
  | zero => simp [trI] at h
  | succ k =>
    cases e with
    | Set es kk p =>
      simp only [trI] at h
      obtain ⟨e1, h1, _⟩ := Option.map_eq_some_iff.mp h
      exact trE_noSet h1
    | _ => intro x; rfl
/-- what a comprehension's parts are -/
theorem comp_parts (ih : ∀ j, j ≤ k → MainE g n j) (x : XC g cfg n X W) {elt tg iter : Expr} {ifs : List Expr} {scope : Scope} {it : I} {t : Tg} {e : E} {c : Option T} (hb : L2.blkC cfg.N X.env.scope scope (ownOf cfg.N scope.names) = true) (h1 : trI cfg k X.env.scope tg iter = some it) (h2 : trGN cfg.N scope k tg = some t)
    (h3 : trE { cfg with lam := false } k (L2.relS scope X.env.scope) elt = some e) (h4 : (ifs = [] ∧ c = none) ∨ ∃ ce cc, ifs = [ce] ∧ c = some cc ∧ trT { cfg with lam := false } k (L2.relS scope X.env.scope) ce = some cc) :
    PI X tg iter (tW g n W it) ∧ BlkOk X.N X.env.scope scope (ownOf cfg.N scope.names) ∧ (∀ (s : Shared) (H : Hp) (C : Addr) (cl : List (Str × Addr)) (fp : List Addr), PG (X.blk s H scope (compEnvC scope cl C X.env) fp) tg (tG g n WF t)) ∧
    (∀ (s : Shared) (H : Hp) (C : Addr) (cl : List (Str × Addr)) (fp : List Addr), PTs (X.blk s H scope (compEnvC scope cl C X.env) fp) ifs (tC' g n c)) ∧ (∀ (s : Shared) (H : Hp) (C : Addr) (cl : List (Str × Addr)) (fp : List Addr), PE (X.blk s H scope (compEnvC scope cl C X.env) fp) elt (tD g n WF e)) := by
  have ihk := ih k (Nat.le_refl _)
  refine ⟨(ihk.i x h1).2, by rw [x.hN]; exact blkOk_by hb, fun s H C cl fp => ?_, fun s H C cl fp => ?_, fun s H C cl fp => ?_⟩
  · have b := x.blk s H scope C cl fp
    refine ((main_gn (g := g) (n := n) (W := WF) (X := X.blk s H scope (compEnvC scope cl C X.env) fp) (scope := scope) (N := cfg.N) b.fx.hK b.calm b.hN b.nd (fun y hy => ?_) k).1 h2).1
    unfold locB at hy
    split at hy
    · rename_i e
      have z := lookup_relS_keep (sc := X.env.scope) (by decide) e
      exact ⟨.inl z, .inr z⟩
    · rename_i e
      have z := lookup_relS_keep (sc := X.env.scope) (by decide) e
      refine ⟨.inr z, .inl ?_⟩
      show (scope.names.lookup y == some NameKind.cell) = true
      rw [e]
      rfl
    · cases hy
  · have b := x.blk s H scope C cl fp
    rcases h4 with ⟨rfl, rfl⟩ | ⟨ce, cc, rfl, rfl, h5⟩
    · exact sd_pts0
    · exact sd_pts1 (ihk.t b h5)
  · exact pe_D (ihk.e (x.blk s H scope C cl fp) h3)
theorem pts_of (ih : ∀ j, j ≤ k → MainE g n j) (x : XC g cfg n X WF) {cs : List Expr} {c : Option T} (h : trC cfg k X.env.scope cs = some c) : PTs X cs (tC' g n c) := by
  rcases trC_inv h with ⟨rfl, rfl⟩ | ⟨ce, cc, j, rfl, rfl, rfl, h5⟩
  · exact sd_pts0
  · exact sd_pts1 ((ih j (by omega)).t x h5)
theorem pg_blk (x : XC g cfg n X W) {scope : Scope} {tg : Expr} {t : Tg} (h2 : trGN cfg.N scope k tg = some t) (s : Shared) (H : Hp) (C : Addr) (cl : List (Str × Addr)) (fp : List Addr) : PG (X.blk s H scope (compEnvC scope cl C X.env) fp) tg (tG g n WF t) := by
  have b := x.blk s H scope C cl fp
  refine ((main_gn (g := g) (n := n) (W := WF) (X := X.blk s H scope (compEnvC scope cl C X.env) fp) (scope := scope) (N := cfg.N) b.fx.hK b.calm b.hN b.nd (fun y hy => ?_) k).1 h2).1
  unfold locB at hy
  split at hy
  · rename_i e
    have z := lookup_relS_keep (sc := X.env.scope) (by decide) e
    exact ⟨.inl z, .inr z⟩
  · rename_i e
    have z := lookup_relS_keep (sc := X.env.scope) (by decide) e
    refine ⟨.inr z, .inl ?_⟩
    show (scope.names.lookup y == some NameKind.cell) = true
    rw [e]
    rfl
  · cases hy
theorem step_e (ih : ∀ j, j ≤ k → MainE g n j) (x : XC g cfg n X W) {e : Expr} {e' : E} (h : trE cfg (k + 1) X.env.scope e = some e') : PE X e (tE g n W e') := by
  have ihk := ih k (Nat.le_refl _)
  cases e with
  | Constant c j p =>
    simp only [trE] at h
    cases c with
    | none => cases h; exact sd_lit pe_non fun F m => rp_non
    | bool b => cases h; exact sd_lit pe_bl fun F m => rp_bl
    | int i => cases h; exact sd_lit pe_int fun F m => rp_int
    | str z => cases h; exact sd_lit pe_str fun F m => rp_str
    | _ => cases h
  | Name y p =>
    simp only [trE] at h
    split at h
    · cases h
    · rename_i hx
      have hx : odd y = false := by simpa using hx
      split at h
      · rename_i hv
        obtain ⟨i, hi, rfl⟩ := Option.map_eq_some_iff.mp h
        exact sd_var (x.name hi) (visB_ok hv) (odd_d hx) (odd_c hx)
      · split at h
        · rename_i hg
          obtain ⟨d, hd, rfl⟩ := Option.map_eq_some_iff.mp h
          obtain ⟨u, v, h1, h2, h3⟩ := x.fx.cs _ _ hd
          exact sd_lit (pe_glob (glbB_ok hg) h1 h2 (odd_d hx)) h3
        · cases h
  | BinOp a o b p =>
    simp only [trE] at h
    split at h
    · cases h
    · rename_i ho
      split at h
      · rename_i h1 h2
        cases h
        exact sd_BinOp x.fx.hK (by simpa using ho) (ihk.e x h1) (ihk.e x h2)
      · cases h
  | UnaryOp o a p =>
    simp only [trE] at h
    split at h
    · rename_i h1
      split at h
      · cases h; exact sd_Not (ihk.e x h1)
      · cases h; exact sd_Un (.inl rfl) (ihk.e x h1)
      · cases h; exact sd_Un (.inr rfl) (ihk.e x h1)
      · cases h
    · cases h
  | Compare a ops cs p =>
    simp only [trE] at h
    split at h
    · split at h
      · cases h
      · rename_i hm
        split at h
        · rename_i h1 h2
          cases h
          exact sd_Cmp x.fx.hK x.units (by simpa using hm) (ihk.e x h1) (ihk.e x h2)
        · cases h
    · split at h
      · cases h
      · rename_i hm
        split at h
        · rename_i h1 h2 h3
          cases h
          exact (sd_Chain x.fx.hK x.units (by simpa using hm) (ihk.e x h1) (ihk.e x h2) (ihk.e x h3)).1
        · cases h
    · cases h
  | BoolOp o vs p =>
    simp only [trE] at h
    split at h
    · exact sd_One (ihk.e x h)
    · split at h
      · rename_i h1 h2
        split at h
        · cases h; exact sd_And (ihk.e x h1) (ihk.e x h2)
        · cases h; exact sd_Or (ihk.e x h1) (ihk.e x h2)
      · cases h
    · cases h
  | IfExp c a b p =>
    simp only [trE] at h
    split at h
    · rename_i h1 h2 h3
      cases h
      exact sd_Ife (ihk.t x h1) (ihk.e x h2) (ihk.e x h3)
    · cases h
  | Tuple es kk p =>
    simp only [trE] at h
    obtain ⟨es', h1, rfl⟩ := Option.map_eq_some_iff.mp h
    exact sd_Tup (ihk.es x h1)
  | List es p =>
    simp only [trE] at h
    obtain ⟨es', h1, rfl⟩ := Option.map_eq_some_iff.mp h
    exact sd_Lst (ihk.es x h1)
  | Subscript a b p =>
    simp only [trE] at h
    split at h
    · cases h
    · rename_i a' h1
      split at h
      · split at h
        · split at h
          · rename_i h2 h3
            cases h
            exact sd_Slc x.fx.hK (ihk.e x h1) (ihk.o x h2) (ihk.o x h3)
          · cases h
        · cases h
      · split at h
        · rename_i h2
          cases h
          exact sd_Idx x.fx.hK (ihk.e x h1) (ihk.e x h2) (trE_noSlice h2)
        · cases h
  | Call f es kws p => exact step_call ih x (call_inv h)
  | ListComp elt gs scope p =>
    rcases lc_inv h with h | h
    · obtain ⟨tg, iter, ifs, it, t, e, c, rfl, rfl, hb, h1, h2, h3, hall, h4⟩ := h.ex
      obtain ⟨a1, a2, a3, a4, a5⟩ := comp_parts ih x hb h1 h2 h3 h4
      exact (pe_lc x.calm x.nd a1 a2 a3 a4 a5 (trI_noSet h1)).imp fun σ H Q q => comp_reads hall q
    · obtain ⟨tg, iter, ifs, tg1, iter1, ifs1, it, t, e, c, it1, t1, c1, rfl, rfl, hb, h1, h2, h3, h4, h5, q1, q2, h6, h7⟩ := h.ex
      exact (pe_lc2 x.calm x.nd (ihk.i x h1).2 (by rw [x.hN]; exact blkOk_by hb) q2 (fun s H C cl fp => pg_blk x h2 s H C cl fp) (fun s H C cl fp => pts_of ih (x.blk s H scope C cl fp) h6) (fun s H C cl fp => (ihk.i (x.blk s H scope C cl fp) h4).1) (fun s H C cl fp => pg_blk x h5 s H C cl fp) (fun s H C cl fp => pts_of ih (x.blk s H scope C cl fp) h7)
        (fun s H C cl fp => pe_D (ihk.e (x.blk s H scope C cl fp) h3)) (trI_noSet h1) (fun env => trI_noSet h4)).imp fun σ H Q q => comp2_reads q1 (fun j hj => hj) q2 q
  | _ => simp [trE] at h
theorem step_t (ih : ∀ j, j ≤ k → MainE g n j) (x : XC g cfg n X W) {e : Expr} {e' : T} (h : trT cfg (k + 1) X.env.scope e = some e') : PT X e (tT g n W e') := by
  have ihk := ih k (Nat.le_refl _)
  have other : (∀ whole, isTrue e X.env whole = (do let v ← whole; standAt e.pos; holding [v] (truthy v))) → (trE cfg k X.env.scope e).map T.e = some e' → PT X e (tT g n W e') := fun he h => by
    obtain ⟨a, h1, rfl⟩ := Option.map_eq_some_iff.mp h
    exact sd_truth x.fx.hK (ihk.e x h1) he
  cases e with
  | UnaryOp o a p =>
    cases o with
    | Not =>
      simp only [trT] at h
      obtain ⟨c, h1, rfl⟩ := Option.map_eq_some_iff.mp h
      exact sd_TNot (ihk.t x h1)
    | _ => exact other (fun _ => rfl) (by simpa only [trT] using h)
  | BoolOp o vs p =>
    simp only [trT] at h
    split at h
    · have a1 := ihk.t x h
      cases o with
      | And => exact (pw_and1 a1).pt
      | Or => exact (pw_or1 a1).pt
    · split at h
      · rename_i h1 h2
        have a1 := ihk.t x h1
        have a2 := ihk.t x h2
        split at h
        · cases h; exact (sd_TAnd a1 ⟨fun wh pins s σ H Q I q => a2.run pins s σ H Q I q⟩).pt
        · cases h; exact (sd_TOr a1 ⟨fun wh pins s σ H Q I q => a2.run pins s σ H Q I q⟩).pt
      · cases h
    · cases h
  | IfExp c a b p => simp [trT] at h
  | Compare a ops cs p =>
    simp only [trT] at h
    obtain ⟨c', h1, rfl⟩ := Option.map_eq_some_iff.mp h
    cases k with
    | zero => simp [trE] at h1
    | succ k =>
      have ihk := ih k (by omega)
      simp only [trE] at h1
      split at h1
      · split at h1
        · cases h1
        · rename_i hm
          split at h1
          · rename_i h2 h3
            cases h1
            exact sd_CmpT x.fx.hK x.units (by simpa using hm) (ihk.e x h2) (ihk.e x h3)
          · cases h1
      · split at h1
        · cases h1
        · rename_i hm
          split at h1
          · rename_i h2 h3 h4
            cases h1
            exact (sd_Chain x.fx.hK x.units (by simpa using hm) (ihk.e x h2) (ihk.e x h3) (ihk.e x h4)).2
          · cases h1
      · cases h1
  | _ => exact other (fun _ => rfl) (by simpa only [trT] using h)
theorem step_i (ih : ∀ j, j ≤ k → MainE g n j) (x : XC g cfg n X W) {tg e : Expr} {e' : I} (h : trI cfg (k + 1) X.env.scope tg e = some e') : PI X tg e (tI g n W e') ∧ PI X tg e (tW g n W e') := by
  have ihk := ih k (Nat.le_refl _)
  have other : (trE cfg k X.env.scope e).map I.seq = some e' → PI X tg e (tI g n W e') ∧ PI X tg e (tW g n W e') := fun h => by
    obtain ⟨a, h1, rfl⟩ := Option.map_eq_some_iff.mp h
    exact ⟨sd_iseq x.fx.hK (ihk.e x h1), sd_wseq x.fx.hK (ihk.e x h1)⟩
  cases e with
  | Call f es kws p =>
    simp only [trI] at h
    split at h
    · rename_i y p2
      split at h
      · cases h
      · split at h
        · cases h
        · rename_i hgb
          have hgb : glbB X.env.scope y = true := by simpa using hgb
          split at h
          · rename_i hy
            subst hy
            split at h
            · rename_i a
              obtain ⟨es', h1, rfl⟩ := Option.map_eq_some_iff.mp h
              obtain ⟨a', j, rfl, h2, _⟩ := trEs1 h1
              exact sd_irange1 (glbB_ok hgb) (x.fx.blt _ (by decide +kernel)) (ihk.es x h1) (star_cons (es := []) (trE_noStar h2))
            · rename_i a b
              obtain ⟨es', h1, rfl⟩ := Option.map_eq_some_iff.mp h
              obtain ⟨a', b', rfl⟩ := trEs2 h1
              have ns := trEs_noStar h1
              have sb : starEach [b] X.env = [(false, eval b X.env)] := star_cons (es := []) (ns _ (by simp))
              exact sd_irange2 (glbB_ok hgb) (x.fx.blt _ (by decide +kernel)) (ihk.es x h1) (by rw [star_cons (ns _ (by simp)), sb]) sb
            · cases h
          · split at h
            · rename_i hy
              subst hy
              split at h
              · split at h
                · rename_i a _ _ _ _
                  obtain ⟨a', h1, rfl⟩ := Option.map_eq_some_iff.mp h
                  exact sd_ienum x.fx.hK (glbB_ok hgb) (x.fx.blt _ (by decide +kernel)) (ihk.e x h1) (star_cons (trE_noStar h1))
                · cases h
              · cases h
            · split at h
              · rename_i hy
                subst hy
                split at h
                · split at h
                  · split at h
                    · rename_i h1 h2
                      cases h
                      exact sd_izip x.fx.hK (glbB_ok hgb) (x.fx.blt _ (by decide +kernel)) (ihk.e x h1) (ihk.e x h2) (star_cons (trE_noStar h1)) (star_cons (trE_noStar h2)) (by rw [backTo_any]; exact star_any fun y hy => by rw [List.mem_singleton.mp hy]; exact trE_noStar h2)
                    · cases h
                  · cases h
                · cases h
              · exact other h
    · exact other h
  | _ => exact other (by simpa only [trI] using h)
theorem main_step (ih : ∀ j, j ≤ k → MainE g n j) : MainE g n (k + 1) := by
  have ihk := ih k (Nat.le_refl _)
  refine ⟨fun {_ _ _} x {_ _} h => step_e ih x h, fun {_ _ _} x {es es'} h => ?_, fun {_ _ _} x {es es'} h => ?_, fun {_ _ _} x {es es'} h => ?_, fun {_ _ _} x {e e'} h => ?_, fun {_ _ _} x {_ _} h => step_t ih x h, fun {_ _ _} x {_ _ _} h => step_i ih x h⟩
  · cases es with
    | nil => simp only [trEs] at h; cases h; exact sd_pnil
    | cons e es =>
      rw [trEs] at h
      split at h
      · rename_i h1 h2
        cases h
        exact sd_pcons (ihk.e x h1) (ihk.es x h2) (star_cons (trE_noStar h1))
      · cases h
  · cases es with
    | nil => simp only [trEs'] at h; cases h; exact sd_hnil
    | cons e es =>
      rw [trEs'] at h
      split at h
      · rename_i h1 h2
        cases h
        exact sd_hcons (ihk.e x h1) (ihk.es' x h2) (star_cons (trE_noStar h1))
      · cases h
  · cases es with
    | nil => simp only [trKs] at h; cases h; exact sd_knil
    | cons e es =>
      obtain ⟨nm, e, p⟩ := e
      rw [trKs] at h
      split at h
      · rename_i h1 h2
        cases h
        exact sd_kcons (ihk.e x h1) (ihk.ks x h2)
      · cases h
  · cases e with
    | none => simp only [trO] at h; cases h; exact sd_onone
    | some e =>
      simp only [trO] at h
      obtain ⟨e1, h1, rfl⟩ := Option.map_eq_some_iff.mp h
      exact sd_osome (ihk.e x h1)
theorem main_all : ∀ k j, j ≤ k → MainE g n j
  | 0, j, hj => by
    have : j = 0 := by omega
    subst this
    exact main0
  | k + 1, j, hj => by
    by_cases h : j = k + 1
    · subst h
      exact main_step fun i hi => main_all k i hi
    · exact main_all k j (by omega)
theorem mainE (k : Nat) : MainE g n k := main_all k k (Nat.le_refl _)
end
end Rf

set_option Elab.async false
set_option linter.all false
set_option maxRecDepth 100000
/-! R22: every statement that the translator takes is what its tree says. -/
namespace Rf
open PySem L2
/-- the exception that is raised -/
structure Ex0 (g : Gx) (cfg : Cfg) (P : Program) (w : World) (K : PySem.W.Frag) (mg : Str → Option Value) (base : Heap) : Prop where
  ex : ∀ x, (cfg.excs.map (·.1))[0]? = some x → ∃ C fI fd ps fld, g.cls[0]? = some C ∧ g.flds[0]? = some [fld] ∧ mg x = some (.ref C) ∧ OexC K C ∧ PySem.W.findIn K (.ref C) "__init__" = some (some (.ref fI)) ∧ PySem.W.typeIn K (.ref fI) = some (.type "function") ∧
    PySem.W.findIn K (.ref C) fld = some none ∧ FnOk P w K mg base (L2.CX P w) 1 fI fd ps (spIni K C fld) ∧ L2.Binds K fd ps []
structure XS (g : Gx) (cfg : Cfg) (n : Nat) (X : Cx) (W : WX) : Prop where
  xc : XC g cfg n X W
  room2 : Room (lev n + 2) X.A
  pass : PassesOwn (model X.prog X.w) X.A X.env X.xe
  fnc : ∀ y, X.env.scope.names.lookup y = some .cell → X.fn y = true
  kind : X.env.scope.kind = .function
  ex : Ex0 g cfg X.prog X.w X.K X.mg X.base
section
variable {g : Gx} {n k : Nat} {cfg : Cfg} {X : Cx} {W : WX}
theorem XS.loc (x : XS g cfg n X W) {y : Str} (h : locB X.env.scope y = true) : Loc X.env.scope y ∧ (X.fn y = true ∨ X.env.scope.names.lookup y = some .local) := by
  refine ⟨locB_ok h, ?_⟩
  unfold locB at h
  split at h
  · exact .inr (by assumption)
  · exact .inl (x.fnc _ (by assumption))
  · cases h
theorem asg_sub {g : Cfg} {k : Nat} {sc : Scope} {o i : Expr} {i' : E} {env : Env} {pos : Pos} (h : trE g k sc i = some i') : ∀ v, assign (.Subscript o i pos) env v = (do
      let ov ← holding [v] (eval o env)
      let iv ← holding [v, ov] (eval i env)
      standAt pos
      holding [v, ov, iv] (setItem ov iv v)
      release [v, ov, iv] []) := by
  cases k with
  | zero => simp [trE] at h
  | succ k => cases i <;> first | (intro v; rfl) | simp [trE] at h
theorem main_g (x : XS g cfg n X W) : ∀ k, (∀ {e : Expr} {t : Tg}, trG cfg k X.env.scope e = some t → PG X e (tG g n W t) ∧ noStar e = true) ∧
    (∀ {es : List Expr} {ts : List Tg}, trGs cfg k X.env.scope es = some ts → PGs X es (tGs g n W ts) ∧ (assignEach es X.env).length = ts.length ∧ (assignEach es X.env).findIdx? (·.1) = none)
  | 0 => ⟨fun h => by simp [trG] at h, fun h => by simp [trGs] at h⟩
  | k + 1 => by
    obtain ⟨ih1, ih2⟩ := main_g x k
    have ihE := mainE (g := g) (n := n) k
    refine ⟨fun {e t} h => ?_, fun {es ts} h => ?_⟩
    · cases e with
      | Name y p =>
        simp only [trG] at h
        split at h
        · rename_i hx
          obtain ⟨i, hi, rfl⟩ := Option.map_eq_some_iff.mp h
          obtain ⟨h1, h2⟩ := x.loc hx
          exact ⟨sd_gname x.xc.nd (x.xc.name hi) h1 h2, rfl⟩
        · cases h
      | Tuple es kk p =>
        simp only [trG] at h
        obtain ⟨ts, hts, rfl⟩ := Option.map_eq_some_iff.mp h
        obtain ⟨a, b, c⟩ := ih2 hts
        exact ⟨sd_gtup x.xc.fx.hK x.xc.calm a b c, rfl⟩
      | Subscript o i p =>
        simp only [trG] at h
        split at h
        · cases h
        · split at h
          · rename_i h1 h2
            cases h
            exact ⟨sd_gsub (ihE.e x.xc h1) (ihE.e x.xc h2) (asg_sub h2), rfl⟩
          · cases h
      | _ => simp [trG] at h
    · cases es with
      | nil =>
        simp only [trGs] at h
        cases h
        exact ⟨sd_gnil, rfl, rfl⟩
      | cons e es =>
        rw [trGs] at h
        split at h
        · rename_i t ts h1 h2
          cases h
          obtain ⟨a, s⟩ := ih1 h1
          obtain ⟨b, c, d⟩ := ih2 h2
          have st : assignEach (e :: es) X.env = (false, assign e X.env) :: assignEach es X.env := by cases e <;> first | rfl | cases s
          refine ⟨sd_gcons a b (by rw [st]; rfl), by rw [st, List.length_cons, List.length_cons, c], ?_⟩
          rw [st, List.findIdx?_cons]
          simp [d]
        · cases h
theorem swaps_false {e : Expr} {t : Option Expr} {l : Nat} (h : isLC e = false) : swapsWith e t l X.env = pure false := by cases e <;> first | rfl | cases h
theorem filter_short {α β : Type} (f : α → Option β) : ∀ {l : List α}, (∃ x ∈ l, f x = none) → (l.filterMap f).length < l.length
  | [], ⟨x, h, _⟩ => by cases h
  | y :: l, ⟨x, h, hn⟩ => by
    rcases List.mem_cons.mp h with rfl | h
    · rw [List.filterMap_cons_none hn]
      exact Nat.lt_succ_of_le (List.length_filterMap_le f l)
    · have ih := filter_short f ⟨x, h, hn⟩
      cases e : f y with
      | none => rw [List.filterMap_cons_none e]; exact Nat.lt_succ_of_lt ih
      | some z => rw [List.filterMap_cons_some e]; exact Nat.succ_lt_succ ih
theorem noSwap_ok {tg v : Expr} (h : noSwap X.env.scope tg v = true) : swappedStores [tg] v X.env = pure none := by
  cases tg with
  | Tuple ts k1 p1 =>
    cases v with
    | Tuple vs k2 p2 =>
      unfold swappedStores
      dsimp only
      split
      · rfl
      · rename_i c1
        split
        · rfl
        · rename_i c2
          split
          · rfl
          · rename_i c3
            split
            · rfl
            · rename_i c4
              exfalso
              simp only [noSwap, Bool.or_eq_true] at h
              simp only [Bool.or_eq_true] at c1 c3
              rcases h with (((h | h) | h) | h) | h
              · exact c1 (.inl (.inl h))
              · exact c1 (.inl (.inr h))
              · exact c2 h
              · obtain ⟨t, ht, h5⟩ := List.any_eq_true.mp h
                refine c3 (.inl (bne_iff_ne.mpr (Nat.ne_of_lt (filter_short _ ⟨t, ht, ?_⟩))))
                cases t with
                | Name y p =>
                  have h5 : (!decide (X.env.scope.names.lookup y = some NameKind.local)) = true := h5
                  have h6 : ¬ X.env.scope.names.lookup y = some .local := by simpa using h5
                  have h7 : (X.env.kindOf y == some NameKind.local) = false := beq_eq_false_iff_ne.mpr h6
                  simp [h7]
                | _ => rfl
              · exact c4 h
    | _ => rfl
  | List ts p1 =>
    cases v with
    | Tuple vs k2 p2 => cases h
    | _ => rfl
  | _ => rfl
theorem par_inv {es vs : List Expr} {xs : List Str} {N : List Str} {js : List Nat} {k1 k2 : Nat} {p1 p2 : Pos} (hk : X.env.scope.kind = .function) (h : swapN X.env.scope es vs = some xs) (hj : xs.mapM (slotOf N) = some js) (hl : js.length = 2) :
    ∃ x y px py a b i j, es = [.Name x px, .Name y py] ∧ vs = [a, b] ∧ slotOf N x = some i ∧ slotOf N y = some j ∧ js = [i, j] ∧ X.env.scope.names.lookup x = some .local ∧ X.env.scope.names.lookup y = some .local ∧ x ≠ y ∧ swappedStores [.Tuple es k1 p1] (.Tuple vs k2 p2) X.env = pure (some [x, y]) := by
  have bk : X.env.blockKind = .function := by unfold Env.blockKind; rw [hk]; rfl
  unfold swapN at h
  split at h
  · rename_i hc
    split at h
    · rename_i ys hys
      split at h
      · rename_i hall
        cases h
        simp only [Bool.and_eq_true] at hc
        obtain ⟨⟨⟨⟨c1, c2⟩, c3⟩, c4⟩, c5⟩ := hc
        match es, hys with
        | [], hys => simp at c1
        | [_], hys => simp at c1
        | [t1, t2], hys =>
          match vs, c2 with
          | [a, b], _ =>
            cases t1 with
            | Name x px =>
              cases t2 with
              | Name y py =>
                have e : ys = [(x, px.line), (y, py.line)] := by
                  simp only [List.mapM_cons, List.mapM_nil, isName] at hys
                  exact (Option.some.inj hys).symm
                subst e
                simp only [Bool.and_eq_true, List.all_cons, List.all_nil, decide_eq_true_eq, Bool.and_true, beq_iff_eq, List.head?_cons, Option.map_some, Option.getD_some] at hall
                obtain ⟨⟨⟨l1, e1⟩, l2, e2⟩, hd⟩ := hall
                have hne : x ≠ y := fun z => by
                  subst z
                  rw [List.map_cons, List.map_cons, List.map_nil, List.eraseDups_cons] at hd
                  simp at hd
                have hj2 : (slotOf N x).bind (fun i => (slotOf N y).bind fun j => some [i, j]) = some js := by
                  rw [← hj]
                  simp only [List.map_cons, List.map_nil, List.mapM_cons, List.mapM_nil]
                  cases slotOf N x with
                  | none => rfl
                  | some i => cases slotOf N y <;> rfl
                cases q1 : slotOf N x with
                | none => rw [q1] at hj2; cases hj2
                | some i =>
                  cases q2 : slotOf N y with
                  | none => rw [q1, q2] at hj2; cases hj2
                  | some j =>
                    rw [q1, q2] at hj2
                    cases hj2
                    refine ⟨x, y, px, py, a, b, i, j, rfl, rfl, by first | rfl | exact q1, by first | rfl | exact q2, rfl, l1, l2, hne, ?_⟩
                    have n1 : (X.env.kindOf x == some NameKind.local) = true := beq_iff_eq.mpr l1
                    have n2 : (X.env.kindOf y == some NameKind.local) = true := beq_iff_eq.mpr l2
                    have e2' : py.line = px.line := e2
                    have ed : [x, y].eraseDups = [x, y] := by
                      rw [List.eraseDups_cons]
                      have hne' : (y == x) = false := beq_eq_false_iff_ne.mpr (Ne.symm hne)
                      simp [hne', List.eraseDups_cons]
                    unfold swappedStores
                    dsimp only
                    rw [if_neg (by simp [bk])]
                    split
                    · rename_i z
                      exact absurd (((Bool.not_eq_true' _).mp c3).symm.trans z) Bool.false_ne_true
                    have m1 : ((Expr.Name x px).pos.line) = px.line := rfl
                    have n1' : X.env.kindOf x = some NameKind.local := l1
                    have n2' : X.env.kindOf y = some NameKind.local := l2
                    simp only [List.filterMap_cons, List.filterMap_nil, n1', n2', List.head?_cons, Option.map_some, Option.getD_some, m1, e2', beq_self_eq_true, Bool.and_self, if_true]
                    rw [if_neg (by simp [ed])]
                    split
                    · rename_i z
                      exact absurd (((Bool.not_eq_true' _).mp c4).symm.trans z) Bool.false_ne_true
                    split
                    · rename_i z
                      exact absurd (((Bool.not_eq_true' _).mp c5).symm.trans z) Bool.false_ne_true
                    rfl
              | _ => simp [List.mapM_cons, isName] at hys
            | _ => simp [List.mapM_cons, isName] at hys
          | [], c2 => simp at c2
          | [_], c2 => simp at c2
          | _ :: _ :: _ :: _, c2 => simp at c2
        | [t1, t2, t3], hys =>
          exfalso
          have len : ∀ {α β : Type} (f : α → Option β) (l : List α) (r : List β), l.mapM f = some r → r.length = l.length := fun {α β} f l => by
            induction l with
            | nil => intro r h; cases h; rfl
            | cons a l ih =>
              intro r h
              rw [List.mapM_cons] at h
              cases q : f a with
              | none => rw [q] at h; cases h
              | some b =>
                cases q2 : l.mapM f with
                | none => rw [q, q2] at h; cases h
                | some r2 =>
                  rw [q, q2] at h
                  cases h
                  rw [List.length_cons, List.length_cons, ih r2 q2]
          have l1 := len _ _ _ hys
          have l2 := len _ _ _ hj
          rw [List.length_map, l1, hl] at l2
          simp at l2
        | _ :: _ :: _ :: _ :: _, _ => simp at c1
      · cases h
    · cases h
  · cases h
theorem parP_inv {N : List Str} {sc : Scope} {t v : Expr} {i j : Nat} {a b : Expr} (h : parP N sc t v = some (i, j, a, b)) :
    ∃ x px y py k p k2 p2, t = .Tuple [.Name x px, .Name y py] k p ∧ v = .Tuple [a, b] k2 p2 ∧ slotOf N x = some i ∧ slotOf N y = some j ∧ i ≠ j ∧ locB sc x = true ∧ locB sc y = true := by
  unfold parP at h
  split at h
  · split at h
    · rename_i h1 h2
      split at h
      · rename_i hc
        cases h
        exact ⟨_, _, _, _, _, _, _, _, rfl, rfl, h1, h2, hc.1, hc.2.1, hc.2.2⟩
      · cases h
    · cases h
  · cases h
theorem trEs_len3 {g : Cfg} {sc : Scope} : ∀ {k : Nat} {es : List Expr} {es' : List E}, trEs g k sc es = some es' → es'.length = es.length
  | 0, _, _, h => by simp [trEs] at h
  | k + 1, [], _, h => by simp [trEs] at h; subst h; rfl
  | k + 1, e :: es, es', h => by
    rw [trEs] at h
    split at h
    · rename_i h1 h2
      cases h
      rw [List.length_cons, List.length_cons, trEs_len3 h2]
    · cases h
theorem mapM_len {α β : Type} (f : α → Option β) : ∀ (l : List α) (r : List β), l.mapM f = some r → r.length = l.length
  | [], r, h => by cases h; rfl
  | a :: l, r, h => by
    rw [List.mapM_cons] at h
    cases q : f a with
    | none => rw [q] at h; cases h
    | some b =>
      cases q2 : l.mapM f with
      | none => rw [q, q2] at h; cases h
      | some r2 =>
        rw [q, q2] at h
        cases h
        rw [List.length_cons, List.length_cons, mapM_len f l r2 q2]
theorem dups3 {x y z : Str} (h : [x, y, z].eraseDups.length = 3) : x ≠ y ∧ x ≠ z ∧ y ≠ z := by
  rw [List.eraseDups_cons] at h
  by_cases e1 : y = x
  · subst e1
    by_cases e2 : z = y
    · subst e2; simp at h
    · have : (z == y) = false := beq_eq_false_iff_ne.mpr e2
      simp [this, List.eraseDups_cons] at h
  · have b1 : (y == x) = false := beq_eq_false_iff_ne.mpr e1
    by_cases e2 : z = x
    · subst e2
      simp [b1, List.eraseDups_cons] at h
    · have b2 : (z == x) = false := beq_eq_false_iff_ne.mpr e2
      by_cases e3 : z = y
      · subst e3
        simp [b1, List.eraseDups_cons] at h
      · exact ⟨Ne.symm e1, Ne.symm e2, Ne.symm e3⟩
theorem dups3' {x y z : Str} (h1 : x ≠ y) (h2 : x ≠ z) (h3 : y ≠ z) : [x, y, z].eraseDups = [x, y, z] := by
  rw [List.eraseDups_cons]
  have b1 : (y == x) = false := beq_eq_false_iff_ne.mpr (Ne.symm h1)
  have b2 : (z == x) = false := beq_eq_false_iff_ne.mpr (Ne.symm h2)
  have b3 : (z == y) = false := beq_eq_false_iff_ne.mpr (Ne.symm h3)
  simp [b1, b2, b3, List.eraseDups_cons]
theorem par3_inv {es vs : List Expr} {xs : List Str} {N : List Str} {js : List Nat} {k1 k2 : Nat} {p1 p2 : Pos} (hk : X.env.scope.kind = .function) (h : swapN X.env.scope es vs = some xs) (hj : xs.mapM (slotOf N) = some js) (hl : js.length = 3) :
    ∃ x y z px py pz a b c i j l, es = [.Name x px, .Name y py, .Name z pz] ∧ vs = [a, b, c] ∧ slotOf N x = some i ∧ slotOf N y = some j ∧ slotOf N z = some l ∧ js = [i, j, l] ∧ X.env.scope.names.lookup x = some .local ∧ X.env.scope.names.lookup y = some .local ∧ X.env.scope.names.lookup z = some .local ∧ (x ≠ y ∧ x ≠ z ∧ y ≠ z) ∧ swappedStores [.Tuple es k1 p1] (.Tuple vs k2 p2) X.env = pure (some [x, y, z]) := by
  have bk : X.env.blockKind = .function := by unfold Env.blockKind; rw [hk]; rfl
  unfold swapN at h
  split at h
  · rename_i hc
    split at h
    · rename_i ys hys
      split at h
      · rename_i hall
        cases h
        simp only [Bool.and_eq_true] at hc
        obtain ⟨⟨⟨⟨c1, c2⟩, c3⟩, c4⟩, c5⟩ := hc
        have l1 := mapM_len _ _ _ hys
        have l2 := mapM_len _ _ _ hj
        rw [List.length_map, l1, hl] at l2
        match es, hys, l2 with
        | [t1, t2, t3], hys, _ =>
          have c2' : vs.length = 3 := by simpa using c2
          match vs, c2' with
          | [a, b, c], _ =>
            cases t1 with
            | Name x px =>
              cases t2 with
              | Name y py =>
                cases t3 with
                | Name z pz =>
                  have e : ys = [(x, px.line), (y, py.line), (z, pz.line)] := by
                    simp only [List.mapM_cons, List.mapM_nil, isName] at hys
                    exact (Option.some.inj hys).symm
                  subst e
                  simp only [Bool.and_eq_true, List.all_cons, List.all_nil, decide_eq_true_eq, Bool.and_true, beq_iff_eq, List.head?_cons, Option.map_some, Option.getD_some] at hall
                  obtain ⟨⟨⟨m1, e1⟩, ⟨m2, e2⟩, m3, e3⟩, hd⟩ := hall
                  have hne := dups3 (x := x) (y := y) (z := z) (by simpa using hd)
                  have hj2 : (slotOf N x).bind (fun i => (slotOf N y).bind fun j => (slotOf N z).bind fun l => some [i, j, l]) = some js := by
                    rw [← hj]
                    simp only [List.map_cons, List.map_nil, List.mapM_cons, List.mapM_nil]
                    cases slotOf N x with
                    | none => rfl
                    | some i => cases slotOf N y with
                      | none => rfl
                      | some j => cases slotOf N z <;> rfl
                  cases q1 : slotOf N x with
                  | none => rw [q1] at hj2; cases hj2
                  | some i =>
                    cases q2 : slotOf N y with
                    | none => rw [q1, q2] at hj2; cases hj2
                    | some j =>
                      cases q3 : slotOf N z with
                      | none => rw [q1, q2, q3] at hj2; cases hj2
                      | some l =>
                        rw [q1, q2, q3] at hj2
                        cases hj2
                        refine ⟨x, y, z, px, py, pz, a, b, c, i, j, l, rfl, rfl, by first | rfl | exact q1, by first | rfl | exact q2, by first | rfl | exact q3, rfl, m1, m2, m3, hne, ?_⟩
                        have n1 : (X.env.kindOf x == some NameKind.local) = true := beq_iff_eq.mpr m1
                        have n2 : (X.env.kindOf y == some NameKind.local) = true := beq_iff_eq.mpr m2
                        have n3 : (X.env.kindOf z == some NameKind.local) = true := beq_iff_eq.mpr m3
                        have ed := dups3' hne.1 hne.2.1 hne.2.2
                        have e2' : py.line = px.line := e2
                        have e3' : pz.line = px.line := e3
                        unfold swappedStores
                        dsimp only
                        rw [if_neg (by simp [bk])]
                        split
                        · rename_i z
                          exact absurd (((Bool.not_eq_true' _).mp c3).symm.trans z) Bool.false_ne_true
                        have m0 : ((Expr.Name x px).pos.line) = px.line := rfl
                        have n1' : X.env.kindOf x = some NameKind.local := m1
                        have n2' : X.env.kindOf y = some NameKind.local := m2
                        have n3' : X.env.kindOf z = some NameKind.local := m3
                        simp only [List.filterMap_cons, List.filterMap_nil, n1', n2', n3', List.head?_cons, Option.map_some, Option.getD_some, m0, e2', e3', beq_self_eq_true, Bool.and_self, if_true]
                        rw [if_neg (by simp [ed])]
                        split
                        · rename_i z
                          exact absurd (((Bool.not_eq_true' _).mp c4).symm.trans z) Bool.false_ne_true
                        split
                        · rename_i z
                          exact absurd (((Bool.not_eq_true' _).mp c5).symm.trans z) Bool.false_ne_true
                        rfl
                | _ => simp [List.mapM_cons, isName] at hys
              | _ => simp [List.mapM_cons, isName] at hys
            | _ => simp [List.mapM_cons, isName] at hys
      · cases h
    · cases h
  · cases h
end
end Rf

set_option Elab.async false
set_option linter.all false
set_option maxRecDepth 100000
/-! R23: bodies of defs. -/
namespace Rf
open PySem L2
section
variable {g : Gx} {n k : Nat} {cfg : Cfg} {X : Cx} {W : WX}
theorem slot_inj {N : List Str} {x y : Str} {i : Nat} (h1 : slotOf N x = some i) (h2 : slotOf N y = some i) : x = y := by
  have a := slotOf_get h1
  have b := slotOf_get h2
  rw [a] at b
  exact Option.some.inj b
/-- name = value -/
theorem main_name (x : XS g cfg n X W) {y : Str} {i : Nat} {v : Expr} {e' : E} {p pos : Pos} (hy : locB X.env.scope y = true) (hi : slotOf cfg.N y = some i) (h : trE cfg k X.env.scope v = some e') : PS X (.Assign [.Name y p] v pos) (tS g n W (.asg (.name i) e')) := by
  obtain ⟨l1, l2⟩ := x.loc hy
  by_cases hl : isLC v = true
  · cases v with
    | ListComp elt gs scope lp =>
      cases k with
      | zero => simp [trE] at h
      | succ k =>
        cases hb : (X.env.blockKind == .function && X.env.kindOf y == some .local && p.line == lp.line && !(scope.names.any fun (n, k) => n == y && (k == .local || k == .cell))) with
        | true =>
          have hsw : swapsWith (.ListComp elt gs scope lp) (some (.Name y p)) pos.line X.env = pure true := by
            show (pure (X.env.blockKind == .function && X.env.kindOf y == some .local && p.line == lp.line && !(scope.names.any fun (n, k) => n == y && (k == .local || k == .cell))) : Sem Bool) = _
            rw [hb]
          have hyl : X.env.scope.names.lookup y = some .local := by
            simp only [Bool.and_eq_true] at hb
            exact beq_iff_eq.mp hb.1.1.2
          rcases lc_inv h with h | h
          rotate_left
          · obtain ⟨tg, iter, ifs, tg1, iter1, ifs1, it, t, e, c, it1, t1, c1, rfl, rfl, hb2, h1, h2, h3, h4, h5, q1, q2, h6, h7⟩ := h.ex
            exact (ps_setLc2 x.xc.calm x.xc.nd (x.xc.name hi) hyl hsw ((mainE k).i x.xc h1).2 (by rw [x.xc.hN]; exact blkOk_by hb2) q2 (fun s H C cl fp => pg_blk x.xc h2 s H C cl fp) (fun s H C cl fp => pts_of (fun j _ => mainE j) (x.xc.blk s H scope C cl fp) h6) (fun s H C cl fp => ((mainE k).i (x.xc.blk s H scope C cl fp) h4).1) (fun s H C cl fp => pg_blk x.xc h5 s H C cl fp) (fun s H C cl fp => pts_of (fun j _ => mainE j) (x.xc.blk s H scope C cl fp) h7)
              (fun s H C cl fp => pe_D ((mainE k).e (x.xc.blk s H scope C cl fp) h3)) (trI_noSet h1) (fun env => trI_noSet h4)).imp fun D σ H q => comp2_reads q1 (fun j hj => hj) q2 (asg_reads q)
          obtain ⟨tg, iter, ifs, it, t, e, c, rfl, rfl, hb2, h1, h2, h3, hall, h4⟩ := h.ex
          obtain ⟨a1, a2, a3, a4, a5⟩ := comp_parts (fun j hj => mainE j) x.xc hb2 h1 h2 h3 h4
          exact (ps_setLc x.xc.calm x.xc.nd (x.xc.name hi) hyl hsw a1 a2 a3 a4 a5 (trI_noSet h1)).imp fun D σ H q => comp_reads hall (asg_reads q)
        | false =>
          have hsw : swapsWith (.ListComp elt gs scope lp) (some (.Name y p)) pos.line X.env = pure false := by
            show (pure (X.env.blockKind == .function && X.env.kindOf y == some .local && p.line == lp.line && !(scope.names.any fun (n, k) => n == y && (k == .local || k == .cell))) : Sem Bool) = _
            rw [hb]
          exact sd_asgName x.xc.nd (x.xc.name hi) l1 ((mainE _).e x.xc h) hsw l2
    | SetComp => cases k <;> simp [trE] at h
    | DictComp => cases k <;> simp [trE] at h
    | _ => cases hl
  · exact sd_asgName x.xc.nd (x.xc.name hi) l1 ((mainE _).e x.xc h) (swaps_false (by simpa using hl)) l2
theorem main_s (x : XS g cfg n X W) : ∀ k, (∀ {c : Stmt} {c' : S}, trS cfg k X.env.scope c = some c' → PS X c (tS g n W c')) ∧ (∀ {cs : List Stmt} {cs' : List S}, trSs cfg k X.env.scope cs = some cs' → PSs X cs (tSs g n W cs'))
  | 0 => ⟨fun h => by simp [trS] at h, fun h => by simp [trSs] at h⟩
  | k + 1 => by
    obtain ⟨ih1, ih2⟩ := main_s x k
    have ihE := mainE (g := g) (n := n) k
    refine ⟨fun {c c'} h => ?_, fun {cs cs'} h => ?_⟩
    · cases c with
      | Return v p =>
        simp only [trS] at h
        cases v with
        | none => cases h; exact sd_retN
        | some e =>
          simp only at h
          obtain ⟨e', h1, rfl⟩ := Option.map_eq_some_iff.mp h
          exact sd_ret (ihE.e x.xc h1)
      | Assign ts v p =>
        simp only [trS] at h
        split at h
        · split at h
          · rename_i tg hsw
            split at h
            · rename_i y yp
              split at h
              · rename_i hy
                obtain ⟨l1, l2⟩ := x.loc hy
                split at h
                · split at h
                  · split at h
                    · rename_i hi h1
                      cases h
                      exact sd_new x.xc.nd (x.xc.name hi) l1 (ihE.es x.xc h1) rfl l2
                    · cases h
                  · cases h
                · split at h
                  · rename_i hi h1
                    cases h
                    exact main_name x hy hi h1
                  · cases h
              · cases h
            · rename_i hne
              split at h
              · cases h
              · rename_i hlc
                split at h
                · rename_i i j a b hpp
                  obtain ⟨x1, px, x2, py, k1, p1, k2, p2, rfl, rfl, hi, hj, hne2, l1, l2⟩ := parP_inv hpp
                  split at h
                  · rename_i a' b' ha hb
                    cases h
                    obtain ⟨m1, m2⟩ := x.loc l1
                    obtain ⟨m3, m4⟩ := x.loc l2
                    exact sd_parT x.xc.fx.hK x.xc.calm x.xc.nd (x.xc.name hi) (x.xc.name hj) m1 m3 m2 m4 (ihE.e x.xc ha) (ihE.e x.xc hb) (star_cons (trE_noStar ha)) (star_cons (trE_noStar hb)) (noSwap_ok hsw)
                  · cases h
                split at h
                · rename_i t' e' h1 h2
                  cases h
                  have hlc : isLC v = false := by simpa using hlc
                  obtain ⟨pg, ns⟩ := (main_g x k).1 h1
                  refine sd_asg (fun i z => ?_) (ihE.e x.xc h2) pg ?_ (noSwap_ok hsw) ?_
                  · subst z
                    cases k with
                    | zero => simp [trG] at h1
                    | succ k =>
                      cases tg with
                      | Name y yp => exact hne y yp rfl
                      | Tuple es kk tp =>
                        simp only [trG] at h1
                        obtain ⟨_, _, z⟩ := Option.map_eq_some_iff.mp h1
                        cases z
                      | Subscript o i tp =>
                        simp only [trG] at h1
                        split at h1
                        · cases h1
                        · split at h1 <;> cases h1
                      | _ => simp [trG] at h1
                  · exact swaps_false hlc
                  · cases tg <;> first | rfl | cases ns
                · cases h
          · split at h
            · split at h
              · rename_i xs hxs
                split at h
                · rename_i js vs' hjs hvs
                  split at h
                  · rename_i hl
                    cases h
                    rename_i es k1 p1 vs k2 p2 _ _ _ _
                    rcases hl with hl | hl
                    rotate_left
                    · obtain ⟨y, z, u, py, pz, pu, a, b, c, i, j, l, rfl, rfl, hi, hj, hk, rfl, l1, l2, l3, hne, hw⟩ := par3_inv (k1 := k1) (k2 := k2) (p1 := p1) (p2 := p2) x.kind hxs hjs hl
                      have hvl : vs'.length = 3 := trEs_len3 hvs
                      match vs', hvl with
                      | [a', b', c'], _ =>
                        exact sd_par3 x.xc.calm x.xc.nd (x.xc.name hi) (x.xc.name hj) (x.xc.name hk) (fun z => hne.1 (slot_inj hi (by rw [z]; exact hj))) (fun z => hne.2.1 (slot_inj hi (by rw [z]; exact hk))) (fun z => hne.2.2 (slot_inj hj (by rw [z]; exact hk))) l1 l2 l3 ((mainE _).es x.xc hvs) hw rfl
                    obtain ⟨y, z, py, pz, a, b, i, j, rfl, rfl, hi, hj, rfl, l1, l2, hne, hw⟩ := par_inv (k1 := k1) (k2 := k2) (p1 := p1) (p2 := p2) x.kind hxs hjs hl
                    obtain ⟨a', b', rfl⟩ := trEs2 hvs
                    have ns := trEs_noStar hvs
                    cases k with
                    | zero => simp [trEs] at hvs
                    | succ k =>
                      rw [trEs] at hvs
                      split at hvs
                      · rename_i ea eb q1 q2
                        cases hvs
                        obtain ⟨b'', j2, e2, q3, _⟩ := trEs1 q2
                        cases e2
                        exact sd_par x.xc.calm x.xc.nd (x.xc.name hi) (x.xc.name hj) (fun z => hne (slot_inj hi (by rw [z]; exact hj))) l1 l2 ((mainE _).e x.xc q1) ((mainE _).e x.xc q3) (star_cons (ns _ (by simp))) (star_cons (ns _ (by simp))) hw rfl
                      · cases hvs
                  · cases h
                · cases h
              · cases h
            · cases h
        · cases h
      | AugAssign t o v p =>
        simp only [trS] at h
        split at h
        · split at h
          · rename_i y yp hy
            obtain ⟨l1, l2⟩ := x.loc hy
            split at h
            · split at h
              · rename_i hi h1
                cases h
                exact sd_aug (.inl rfl) x.xc.nd (x.xc.name hi) l1 (ihE.e x.xc h1) l2
              · cases h
            · split at h
              · rename_i hi h1
                cases h
                exact sd_aug (.inr rfl) x.xc.nd (x.xc.name hi) l1 (ihE.e x.xc h1) l2
              · cases h
            · cases h
          · cases h
        · cases h
      | Expr e p =>
        simp only [trS] at h
        split at h
        · cases h
        · rename_i hlc
          obtain ⟨e', h1, rfl⟩ := Option.map_eq_some_iff.mp h
          exact sd_expr (ihE.e x.xc h1) (swaps_false (by simpa using hlc))
      | If c a b p =>
        simp only [trS] at h
        split at h
        · rename_i h1 h2 h3
          cases h
          exact sd_if (ihE.t x.xc h1) (ih2 h2) (ih2 h3)
        · cases h
      | While c b o p =>
        simp only [trS] at h
        split at h
        · split at h
          · rename_i h1 h2
            cases h
            exact sd_while x.pass (ihE.t x.xc h1) (ih2 h2)
          · cases h
        · cases h
      | For t it b o p =>
        simp only [trS] at h
        split at h
        · split at h
          · rename_i h1 h2 h3
            cases h
            exact sd_for x.pass x.xc.calm (ihE.i x.xc h2).1 ((main_g x k).1 h1).1 (ih2 h3) (trI_noSet h2)
          · cases h
        · cases h
      | Raise e c p =>
        simp only [trS] at h
        split at h
        · split at h
          · cases h
          · rename_i hx
            split at h
            · cases h
            · rename_i hg
              split at h
              · rename_i hf
                obtain ⟨es', h1, rfl⟩ := Option.map_eq_some_iff.mp h
                obtain ⟨e', j, rfl, h2, _⟩ := trEs1 h1
                obtain ⟨C, fI, fd, ps, fld, c1, c2, c3, c4, c5, c6, c7, c8, c9⟩ := x.ex.ex _ (findN_get hf)
                exact sd_raise x.xc.calm x.xc.tk c4 c5 c6 c7 c8 (x.room2.mono (by omega)) c9 (glbB_ok (by simpa using hg)) c3 (ihE.es x.xc h1) c1 c2 (odd_d (by simpa using hx)) (star_cons (trE_noStar h2))
              · cases h
        · cases h
      | Break p => simp only [trS] at h; cases h; exact sd_break
      | Continue p => simp only [trS] at h; cases h; exact sd_continue
      | _ => simp [trS] at h
    · cases cs with
      | nil => simp only [trSs] at h; cases h; exact sd_nil
      | cons c cs =>
        rw [trSs] at h
        split at h
        · rename_i h1 h2
          cases h
          exact sd_cons (ih1 h1) (ih2 h2)
        · cases h
end
end Rf

set_option Elab.async false
set_option linter.all false
set_option maxRecDepth 100000
/-! R24: a def keeps its promise; all of them, at each depth. -/
namespace Rf
open PySem L2
/-- in a def that hands lambdas on: its code object's table -/
def CodeT (g : Gx) (base : Heap) (mg : Str → Option Value) (qual : Str) (cdv : Value) : Prop := ∃ c P, cdv = .ref c ∧ LamX.TabB base mg c P ∧ (P, (qual ++ ".<locals>.") ++ "<lambda>") ∈ g.TT ∧ ∀ p ∈ g.TT, p.1 = P → p.2 = (qual ++ ".<locals>.") ++ "<lambda>"
section
variable {g : Gx} {n k : Nat} {cfg : Cfg} {W : WX}
theorem start_rel {N : List Str} {F : Hp} {m : List Addr} {H : Hp} {sto : List SObj} {ds : List Rf.D} {vs : List V} (R : HR g.K g.TT F m sto H) (r : Rps g.K F m ds vs) (hl : vs.length ≤ N.length) :
    Rel g.K g.TT ⟨ds.map Slot.val ++ List.replicate (N.length - ds.length) .un, sto⟩ (L2.start N vs) F m H ∧ ∀ a, ¬ OwnA (ds.map Slot.val ++ List.replicate (N.length - ds.length) .un) (L2.start N vs) a := by
  have len := r.len
  have noown : ∀ (i : Nat) xs, (ds.map Slot.val ++ List.replicate (N.length - ds.length) .un)[i]? ≠ some (.own xs) := fun i xs q => by
    by_cases hi : i < ds.length
    · rw [List.getElem?_append_left (by simpa using hi), List.getElem?_map] at q
      cases e : ds[i]? with
      | none => rw [e] at q; cases q
      | some d => rw [e] at q; cases q
    · rw [List.getElem?_append_right (by simpa using hi)] at q
      rw [List.getElem?_replicate] at q
      split at q <;> cases q
  refine ⟨⟨R, ⟨?_, fun i d e => ?_, fun i xs e => absurd e (noown i xs), fun i j d1 d2 a _ q1 => absurd q1 (noown i d1)⟩⟩, fun a ⟨i, xs, q, _⟩ => noown i xs q⟩
  · unfold L2.start
    simp only [List.length_append, List.length_map, List.length_replicate]
    omega
  · by_cases hi : i < ds.length
    · rw [List.getElem?_append_left (by simpa using hi), List.getElem?_map] at e
      cases q : ds[i]? with
      | none => rw [q] at e; cases e
      | some d0 =>
        rw [q] at e
        cases e
        obtain ⟨v, h1, h2⟩ := r.get q
        refine ⟨v, ?_, h2⟩
        unfold L2.start
        rw [List.getElem?_append_left (by simpa [← len] using hi), List.getElem?_map, h1]
        rfl
    · rw [List.getElem?_append_right (by simpa using hi), List.getElem?_replicate] at e
      split at e <;> cases e
theorem SN.fnx {N : List Str} {F F' : Hp} {m m' : List Addr} {H H' : Hp} {s s' : Sg} {σ σ' : L2.St} (no : ∀ a, ¬ OwnA s.env σ a) (n : SN g s σ F m H s' σ' F' m' H') : FNx g F m H s'.sto F' m' H' :=
  ⟨n.rel.hr, ⟨n.fr.ff, n.fr.mm, n.fr.mf, fun a o h1 h2 _ h3 => n.fr.keep a o h1 h2 (no a) h3, fun a h1 _ => n.fr.kF a h1 (no a), n.fr.dom⟩⟩
theorem lam_of {P : Program} {w : World} {K : PySem.W.Frag} {mg : Str → Option Value} {base : Heap} {N : List Str} {qual : Str} {scope : Scope} {f : Addr} {cdv : Value} {A : Around} {outer : List Env} {s : Shared} {H : Hp} {E : XK} (hr : Room (lev n + 2) (cxOf (L2.CX P w) P w K mg base N qual scope f cdv A outer s H E).A)
    (h1 : ∃ d, RefOk g d K mg) (h2 : CodeT g base mg qual cdv) : LamOk g n (cxOf (L2.CX P w) P w K mg base N qual scope f cdv A outer s H E) := by
  obtain ⟨c, P', h3, h4, h5, h6⟩ := h2
  exact ⟨hr, h1, c, P', h3, h4, h5, h6⟩
set_option maxHeartbeats 400000 in
theorem fn_ok {P : Program} {w : World} {K : PySem.W.Frag} {mg : Str → Option Value} {base : Heap} {f : Addr} {name qual : Str} {params : Arguments} {body : List Stmt} {scope : Scope} {dV kV doc pm cdv ct oc : Value} {an od : Option Addr}
    {osl : Array (Option Value)} {N ps : List Str} {idx fuel : Nat} {b' : List S} (lk : K.lookup f = some ⟨oc, od, .func (PySem.W.fnOf name qual params body scope dV kV doc pm an cdv ct), osl⟩) (hcd : PySem.W.codeIn K cdv qual = true) (S : FnScope N ps scope)
    (hG : g.G[idx]? = some ⟨ps.length, N.length, b'⟩) (hps : ps.length ≤ N.length) (hN : cfg.N = N) (hb : trSs cfg fuel scope body = some b') (fx : Fx g cfg n P w K mg base) (ex : Ex0 g cfg P w K mg base) (hlam : cfg.lam = true → (∃ d, RefOk g d K mg) ∧ CodeT g base mg qual cdv) :
    FnOk P w K mg base (L2.CX P w) (lev n + 3) f (PySem.W.fnOf name qual params body scope dV kV doc pm an cdv ct) ps (spF g (n + 1) idx) := by
  have run_eq : ∀ (ds : List Rf.D) (sto : List SObj), callN g.G (n + 1) idx ds sto = runFn (callN g.G n) ⟨ps.length, N.length, b'⟩ ds sto := fun ds sto => by
    show (match g.G[idx]? with | some fn => runFn (callN g.G n) fn ds sto | none => none) = _
    rw [hG]
  have hlen : ∀ vs H Q E, spF g (n + 1) idx vs H Q E → vs.length = ps.length := fun vs H Q E ⟨ds, sto, F, m, _, r, h⟩ => by
    rw [run_eq] at h
    unfold runFn at h
    split at h
    · rename_i hl
      rw [← r.len]
      exact hl
    · exact h.elim
  refine fn_of (k := lev n + 2) lk hcd S hlen fun A outer s H vs Q E hr hsp => ?_
  have tk : Takes (cxOf (L2.CX P w) P w K mg base N qual scope f cdv A outer s H E) (fun cls d _ H => E cls d H) := takes_of rfl rfl rfl rfl
  have xc : XC g cfg n (cxOf (L2.CX P w) P w K mg base N qual scope f cdv A outer s H E) (fun cls d _ H => E cls d H) := by
    have hlm : cfg.lam = true → LamOk g n (cxOf (L2.CX P w) P w K mg base N qual scope f cdv A outer s H E) := fun hl => lam_of hr (hlam hl).1 (hlam hl).2
    exact ⟨fx, rfl, hN.symm, S.nd, tk, hr.mono (by omega), hlm⟩
  have xs : XS g cfg n (cxOf (L2.CX P w) P w K mg base N qual scope f cdv A outer s H E) (fun cls d _ H => E cls d H) := by
    refine ⟨xc, hr, ?_, fun _ _ => rfl, S.kind, ex⟩
    exact passes_of (X := cxOf (L2.CX P w) P w K mg base N qual scope f cdv A outer s H E) rfl
  refine ⟨_, (main_s xs fuel).2 hb, ?_⟩
  have hl0 := hlen _ _ _ _ hsp
  obtain ⟨ds, sto, F, m, R, r, h⟩ := hsp
  rw [run_eq] at h
  obtain ⟨rel, no⟩ := start_rel (N := N) R r (by rw [hl0]; exact hps)
  unfold runFn at h
  split at h
  · refine ⟨_, F, m, rel, ?_⟩
    have h : ResC (match evSs (callN g.G n) b' ⟨ds.map Slot.val ++ List.replicate (N.length - ds.length) .un, sto⟩ with
      | some (.nx, s) => some (.ok .non, s.sto)
      | some (.rt d, s) => some (.ok d, s.sto)
      | some (.ex x, s) => some (.exc x, s.sto)
      | _ => none) (fun d sto' => ∀ v F' m' H', FNx g F m H sto' F' m' H' → Rp g.K F' m' d v → Q v H') (fun x sto' => ∀ cls d F' m' H', FNx g F m H sto' F' m' H' → ExR g F' m' H' x cls d → E cls (some d) H') := h
    show ResF (evSs (callN g.G n) b' ⟨ds.map Slot.val ++ List.replicate (N.length - ds.length) .un, sto⟩) _
    cases q : evSs (callN g.G n) b' ⟨ds.map Slot.val ++ List.replicate (N.length - ds.length) .un, sto⟩ with
    | none => rw [q] at h; exact h.elim
    | some p =>
      obtain ⟨fl, s'⟩ := p
      rw [q] at h
      cases fl with
      | nx => exact fun σ' F' m' H' sn => h .non F' m' H' (sn.fnx (N := N) no) rp_non
      | rt d => exact fun v σ' F' m' H' sn rv => h v F' m' H' (sn.fnx (N := N) no) rv
      | ex x => exact fun cls d σ' F' m' H' sn e => h cls d F' m' H' (sn.fnx (N := N) no) e
      | bk => exact h.elim
      | ct => exact h.elim
  · exact h.elim
/-- a def that is never called by the small language -/
theorem fn_dead {P : Program} {w : World} {K : PySem.W.Frag} {mg : Str → Option Value} {base : Heap} {CX : CXT} {l : Nat} {f : Addr} {fd : FuncData} {ps : List Str} {idx : Nat} (h : ∀ ds sto, callN g.G n idx ds sto = none) : FnOk P w K mg base CX l f fd ps (spF g n idx) := by
  refine ⟨fun vs H Q E ⟨ds, sto, F, m, _, _, q⟩ => ?_, fun A outer s H args us vs Q E _ _ _ _ ⟨ds, sto, F, m, _, _, q⟩ => ?_⟩
  · rw [h] at q; exact q.elim
  · rw [h] at q; exact q.elim
/-- what is known of the k-th def -/
structure DefOk (g : Gx) (cs : List (Str × Rf.D)) (fns : List Str) (kw : List (Nat × Nat × List Str × List Nat)) (excs : List (Str × List Str)) (P : Program) (w : World) (K : PySem.W.Frag) (mg : Str → Option Value) (base : Heap) (idx : Nat) (x : Str) : Prop where
  ok : ∃ f fd ps, mg x = some (.ref f) ∧ PySem.W.keepIn K (.ref f) = true ∧ L2.Binds K fd ps [] ∧ (∀ q ∈ kw, q.1 = idx → KB K fd ps q.2.2.1 q.2.1 q.2.2.2) ∧
    ((∀ n ds sto, callN g.G n idx ds sto = none) ∨ ∃ (qual : Str) (params : Arguments) (body : List Stmt) (scope : Scope) (dV kV doc pm cdv ct oc : Value) (an od : Option Addr) (osl : Array (Option Value)) (N : List Str) (b' : List S) (lam : Bool),
      fd = PySem.W.fnOf x qual params body scope dV kV doc pm an cdv ct ∧ K.lookup f = some ⟨oc, od, .func (PySem.W.fnOf x qual params body scope dV kV doc pm an cdv ct), osl⟩ ∧ PySem.W.codeIn K cdv qual = true ∧ FnScope N ps scope ∧ g.G[idx]? = some ⟨ps.length, N.length, b'⟩ ∧ ps.length ≤ N.length ∧
      trSs ⟨N, fns, cs, kw, excs, lam⟩ 200 scope body = some b' ∧ (lam = true → (∃ d, RefOk g d K mg) ∧ CodeT g base mg qual cdv))
theorem fx_all {P : Program} {w : World} {K : PySem.W.Frag} {mg : Str → Option Value} {base : Heap} {cs : List (Str × Rf.D)} {fns : List Str} {kw : List (Nat × Nat × List Str × List Nat)} {excs : List (Str × List Str)} (hK : K = g.K) (blt : ∀ y ∈ bltNames, mg y = none)
    (hcs : ∀ x d, cs.lookup x = some d → ∃ u v, mg x = some u ∧ RelV v u ∧ ∀ F m, Rp g.K F m d v) (ex : ∀ N lam, Ex0 g ⟨N, fns, cs, kw, excs, lam⟩ P w K mg base) (defs : ∀ (k : Nat) x, fns[k]? = some x → DefOk g cs fns kw excs P w K mg base k x) :
    ∀ n N lam, Fx g ⟨N, fns, cs, kw, excs, lam⟩ n P w K mg base
  | 0, N, lam => ⟨hK, blt, fun k x hx => by
      obtain ⟨f, fd, ps, h1, h2, h3, h4, _⟩ := (defs k x hx).ok
      exact ⟨f, fd, ps, h1, h2, fn_dead fun ds sto => rfl, h3, h4⟩, hcs⟩
  | n + 1, N, lam => ⟨hK, blt, fun k x hx => by
      obtain ⟨f, fd, ps, h1, h2, h3, h4, h5⟩ := (defs k x hx).ok
      refine ⟨f, fd, ps, h1, h2, ?_, h3, h4⟩
      rcases h5 with h5 | ⟨qual, params, body, scope, dV, kV, doc, pm, cdv, ct, oc, an, od, osl, N', b', lam', rfl, h6, h7, h8, h9, h10, h11, h12⟩
      · exact fn_dead (h5 (n + 1))
      · exact fn_ok (cfg := ⟨N', fns, cs, kw, excs, lam'⟩) h6 h7 h8 h9 h10 rfl h11 (fx_all hK blt hcs ex defs n N' lam') (ex N' lam') h12, hcs⟩
/-- a def whose call gives true -/
theorem sp_true {n idx : Nat} {vs : List V} {H : Hp} {ds : List Rf.D} {sto sto' : List SObj} {F : Hp} {m : List Addr} (R : HR g.K g.TT F m sto H) (r : Rps g.K F m ds vs) (h : callN g.G n idx ds sto = some (.ok (.bl true), sto')) : spF g n idx vs H (fun v _ => v = .bl true) fun _ _ _ => False := by
  refine ⟨ds, sto, F, m, R, r, ?_⟩
  rw [h]
  intro v F' m' H' _ rv
  rw [Rp] at rv
  exact rv
end
end Rf

set_option Elab.async false
set_option linter.all false
set_option maxRecDepth 100000
/-! R25: from the head's facts to what R24 asks. -/
namespace Rf
open PySem L2
/-- an own class over ValueError -/
def oexB (K : PySem.W.Frag) (C : Addr) : Bool := PySem.W.keepIn K (.ref C) && (decide (PySem.W.findIn K (.ref C) "__setattr__" = some (some (.builtin "object.__setattr__"))) && (decide (PySem.W.subIn K (.ref C) (.type "BaseException") = some true) &&
  (decide (PySem.W.typeIn K (.ref C) = some (.type "type")) && (match K.lookup C with
    | some ⟨.type c, _, .cls cd, sl⟩ => (match cd.mro, sl.toList with
      | .ref C' :: bm, [_, _, _, _, some (.builtin m), _] => decide (c = "type") && (decide (C' = C) && (decide (m = "ValueError.__new__") && (cd.hasDict && (!cd.hasDel && PySem.HandSPX.refsVE bm))))
      | _, _ => false)
    | _ => false))))
theorem oexB_ok {K : PySem.W.Frag} {C : Addr} (h : oexB K C = true) : OexC K C := by
  unfold oexB at h
  simp only [Bool.and_eq_true, decide_eq_true_eq] at h
  obtain ⟨h1, h2, h3, h4, h5⟩ := h
  refine ⟨?_, h2, h3, h4, h1⟩
  split at h5
  · rename_i c od cd sl ho
    split at h5
    · rename_i C' bm k0 k1 k2 k3 m k5 hm hs
      simp only [Bool.and_eq_true, decide_eq_true_eq, Bool.not_eq_true'] at h5
      obtain ⟨rfl, rfl, rfl, h6, h7, h8⟩ := h5
      obtain ⟨nm, bs, mro, ns, qn, hd, sn, sub, ab, col, del⟩ := cd
      dsimp only at hm h6 h7
      subst hm h6 h7
      have hsl : sl = #[k0, k1, k2, k3, some (.builtin "ValueError.__new__"), k5] := by
        obtain ⟨l⟩ := sl
        simp only at hs
        rw [hs]
      subst hsl
      exact ⟨_, _, _, _, _, _, _, _, _, _, _, _, _, _, _, ho, h8⟩
    · cases h5
  · cases h5
section
variable {g : Gx} {K : PySem.W.Frag} {mg : Str → Option Value} {base : Heap} {P : Program} {w : World}
/-- self.name = name -/
theorem ini_ok {params : Arguments} {scope : Scope} {fI C : Addr} {fd : FuncData} {p1 p2 p3 p4 : Pos} (F : FunD K "__init__" "BadArgument.__init__" params [.Assign [.Attribute (.Name "self" p1) "name" p2] (.Name "name" p3) p4] scope [] [] fI fd) (S : FnScope ["self", "name"] ["self", "name"] scope) :
    FnOk P w K mg base (L2.CX P w) 1 fI fd ["self", "name"] (spIni K C "name") := by
  have l0 : scope.names.lookup ("self" : Str) = some .local ∨ scope.names.lookup ("self" : Str) = some .cell := S.par _ (by simp)
  have l1 : scope.names.lookup ("name" : Str) = some .local ∨ scope.names.lookup ("name" : Str) = some .cell := S.par _ (by simp)
  have v0 : Vis scope ("self" : Str) := l0.elim .inl fun h => .inr (.inl h)
  have v1 : Vis scope ("name" : Str) := l1.elim .inl fun h => .inr (.inl h)
  refine F.ok S (fun vs H Q E h => ?_) (fun cdv A outer s H vs Q E hr h => ⟨tOst K "name" (tVar 0) (tVar 1), pss_one (ps_ost (pe_var rfl v0) (pe_var rfl v1)), ?_⟩)
  · obtain ⟨a, v, rfl, _⟩ := h
    rfl
  · obtain ⟨a, v, rfl, h1, h2, h3, h4⟩ := h
    exact ⟨v, rfl, .ref a, rfl, a, C, rfl, h2, h3, .inl ⟨h1, fun dx hd hne => h4 dx hd hne⟩⟩
theorem kb_of {x qual : Str} {params : Arguments} {body : List Stmt} {scope : Scope} {f : Addr} {fd : FuncData} {ps ks : List Str} {np : Nat} {perm : List Nat} (F : FunD K x qual params body scope [] [] f fd)
    (h : ∀ (kV doc pm : Value) (an : Option Addr) (cdv ct : Value) (us ws : List Value), us.length = np → ws.length = ks.length → bindArgs (PySem.W.fnOf x qual params body scope .none kV doc pm an cdv ct) ⟨us, ks.zip ws⟩ = pure (ps.zip (us ++ perm.filterMap fun i => ws[i]?))) : KB K fd ps ks np perm := by
  obtain ⟨oc, od, dV, kV, doc, pm, an, cdv, ct, osl, rfl, lk, hcd, hD, hK⟩ := F.ex
  rcases hD with ⟨_, rfl⟩ | ⟨e, _⟩
  · exact ⟨fun s us ws h1 h2 => .of_eq (h kV doc pm an cdv ct us ws h1 h2)⟩
  · exact absurd rfl e
/-- the rest of a def's facts -/
structure DefS (g : Gx) (cs : List (Str × Rf.D)) (fns : List Str) (kw : List (Nat × Nat × List Str × List Nat)) (excs : List (Str × List Str)) (idx : Nat) (body : List Stmt) (scope : Scope) (N ps : List Str) (b' : List S) (lam : Bool) : Prop where
  sc : FnScope N ps scope
  gG : g.G[idx]? = some ⟨ps.length, N.length, b'⟩
  le : ps.length ≤ N.length
  tr : trSs ⟨N, fns, cs, kw, excs, lam⟩ 200 scope body = some b'
theorem defOk_mk {cs : List (Str × Rf.D)} {fns : List Str} {kw : List (Nat × Nat × List Str × List Nat)} {excs : List (Str × List Str)} {idx : Nat} {x : Str} {params : Arguments} {body : List Stmt} {scope : Scope} {N ps : List Str} {b' : List S} {f : Addr} {fd : FuncData}
    (F : FunD K x x params body scope [] [] f fd) (hm : mg x = some (.ref f)) (bd : L2.Binds K fd ps []) (kb : ∀ q ∈ kw, q.1 = idx → KB K fd ps q.2.2.1 q.2.1 q.2.2.2) (S : DefS g cs fns kw excs idx body scope N ps b' false) : DefOk g cs fns kw excs P w K mg base idx x := by
  have kp := F.kp
  obtain ⟨oc, od, dV, kV, doc, pm, an, cdv, ct, osl, rfl, lk, hcd, hD, hK⟩ := F.ex
  exact ⟨f, _, ps, hm, kp, bd, kb, .inr ⟨x, params, body, scope, dV, kV, doc, pm, cdv, ct, oc, an, od, osl, N, b', false, rfl, lk, hcd, S.sc, S.gG, S.le, S.tr, fun z => by cases z⟩⟩
theorem defOk_lam {cs : List (Str × Rf.D)} {fns : List Str} {kw : List (Nat × Nat × List Str × List Nat)} {excs : List (Str × List Str)} {idx : Nat} {x : Str} {params : Arguments} {body : List Stmt} {scope : Scope} {N ps : List Str} {b' : List S} {fd : FuncData}
    (F : FunD K x x params body scope [] [] (He.fAd K (x, none)) fd) (hm : mg x = some (.ref (He.fAd K (x, none)))) (bd : L2.Binds K fd ps []) (kb : ∀ q ∈ kw, q.1 = idx → KB K fd ps q.2.2.1 q.2.1 q.2.2.2) (S : DefS g cs fns kw excs idx body scope N ps b' true) (ref : ∃ d, RefOk g d K mg)
    (tb : LamX.TabB base mg (He.cT K (x, none)).1 (He.cT K (x, none)).2) (mem : ((He.cT K (x, none)).2, (x ++ ".<locals>.") ++ "<lambda>") ∈ g.TT) (un : ∀ p ∈ g.TT, p.1 = (He.cT K (x, none)).2 → p.2 = (x ++ ".<locals>.") ++ "<lambda>") : DefOk g cs fns kw excs P w K mg base idx x := by
  have kp := F.kp
  obtain ⟨oc, od, dV, kV, doc, pm, an, cdv, ct, osl, rfl, lk, hcd, hD, hK⟩ := F.ex
  obtain ⟨c, rfl⟩ := He.codeIn_ref hcd
  have ec : He.codeOf K (x, none) = c := He.codeOf_eq lk rfl
  refine ⟨_, _, ps, hm, kp, bd, kb, .inr ⟨x, params, body, scope, dV, kV, doc, pm, .ref c, ct, oc, an, od, osl, N, b', true, rfl, lk, hcd, S.sc, S.gG, S.le, S.tr, fun _ => ⟨ref, c, (He.cT K (x, none)).2, rfl, ?_, mem, un⟩⟩⟩
  have e : (He.cT K (x, none)).1 = c := ec
  rw [← e]
  exact tb
theorem defOk_dead {cs : List (Str × Rf.D)} {fns : List Str} {kw : List (Nat × Nat × List Str × List Nat)} {excs : List (Str × List Str)} {idx : Nat} {x : Str} {params : Arguments} {body : List Stmt} {scope : Scope} {ps : List Str} {f : Addr} {fd : FuncData}
    (F : FunD K x x params body scope [] [] f fd) (hm : mg x = some (.ref f)) (bd : L2.Binds K fd ps []) (kb : ∀ q ∈ kw, q.1 = idx → KB K fd ps q.2.2.1 q.2.1 q.2.2.2) (hd : g.G[idx]? = none ∨ ∃ a b, g.G[idx]? = some ⟨a, b, [.brk]⟩) : DefOk g cs fns kw excs P w K mg base idx x := by
  refine ⟨f, fd, ps, hm, F.kp, bd, kb, .inl fun n ds sto => ?_⟩
  cases n with
  | zero => rfl
  | succ n =>
    show (match g.G[idx]? with | some fn => runFn (callN g.G n) fn ds sto | none => none) = none
    rcases hd with h | ⟨a, b, h⟩
    · rw [h]
    · rw [h]
      show runFn _ _ _ _ = none
      unfold runFn
      split
      · rw [evSs, evS]
        rfl
      · rfl
theorem refOk_mk {pg : Arguments} {sg : Scope} {fd : FuncData} {f C : Addr} {Ng : List Str} {a e en : Str} {j : Nat} {p1 p2 p3 p4 p5 p6 p7 p8 p9 p10 p11 : Pos}
    (F : FunD K "_law_refused" "_law_refused" pg [.Try [.Expr (.Call (.Name a p1) [] [] p2) p3] [.ExceptHandler (some (.Name en p4)) (some e) [.Return (some (.Attribute (.Name e p5) "name" p6)) p7] p8] [] [] p9, .Return (some (.Constant (.str "") j p10)) p11] sg [] [] f fd)
    (hm : mg "_law_refused" = some (.ref f)) (bd : L2.Binds K fd [a] []) (S : FnScope Ng [a] sg) (h0 : Ng[0]? = some a) (va : Vis sg a) (h1 : Ng[1]? = some e) (l2 : Ng.length = 2) (le : sg.names.lookup e = some .local) (ge : sg.names.lookup en = some .globalImplicit) (me : mg en = some (.ref C))
    (d1 : (en == ("__debug__" : Str)) = false) (d2 : (e == ("__debug__" : Str)) = false) (d3 : (e == ("__classdict__" : Str)) = false) (d4 : (a == ("__debug__" : Str)) = false) (d5 : (a == ("__classdict__" : Str)) = false) (ex : PySem.W.exmOne K (.ref C) (.ref C) = some true) (xf : XfC K C)
    (no : PySem.W.findIn K (.ref C) "name" = some none) (hC : g.cls[0]? = some C) (hF : g.flds[0]? = some [("name" : Str)]) : ∃ d, RefOk g d K mg := by
  have kp := F.kp
  obtain ⟨oc, od, dV, kV, doc, pm, an, cdv, ct, osl, rfl, lk, hcd, hD, hK⟩ := F.ex
  exact ⟨⟨f, C, oc, od, osl, pg, sg, dV, kV, doc, pm, cdv, ct, an, Ng, a, e, en, j, p1, p2, p3, p4, p5, p6, p7, p8, p9, p10, p11⟩, ⟨hm, kp, lk, hcd, bd, S, h0, va, S.nd, h1, l2, le, ge, me, d1, d2, d3, d4, d5, ex, xf, no, hC, hF⟩⟩
end
end Rf

set_option Elab.async false
set_option linter.all false
set_option maxRecDepth 100000
/-! R26: a law's end. -/
namespace Rf
open PySem L2
section
variable {g : Gx} {K : PySem.W.Frag} {mg : Str → Option Value} {base : Heap} {P : Program} {w : World}
/-- the law's own def -/
theorem law_fn {cs : List (Str × Rf.D)} {fns : List Str} {kw : List (Nat × Nat × List Str × List Nat)} {excs : List (Str × List Str)} {idx n : Nat} {x : Str} {params : Arguments} {body : List Stmt} {scope : Scope} {N ps : List Str} {b' : List S} {f : Addr} {fd : FuncData}
    (F : FunD K x x params body scope [] [] f fd) (S : DefS g cs fns kw excs idx body scope N ps b' false) (fx : Fx g ⟨N, fns, cs, kw, excs, false⟩ n P w K mg base) (ex : Ex0 g ⟨N, fns, cs, kw, excs, false⟩ P w K mg base) : FnOk P w K mg base (L2.CX P w) (lev n + 3) f fd ps (spF g (n + 1) idx) := by
  obtain ⟨oc, od, dV, kV, doc, pm, an, cdv, ct, osl, rfl, lk, hcd, hD, hK⟩ := F.ex
  exact fn_ok (cfg := ⟨N, fns, cs, kw, excs, false⟩) lk hcd S.sc S.gG S.le rfl S.tr fx ex fun z => by cases z
theorem law_fnL {cs : List (Str × Rf.D)} {fns : List Str} {kw : List (Nat × Nat × List Str × List Nat)} {excs : List (Str × List Str)} {idx n : Nat} {x : Str} {params : Arguments} {body : List Stmt} {scope : Scope} {N ps : List Str} {b' : List S} {fd : FuncData}
    (F : FunD K x x params body scope [] [] (He.fAd K (x, none)) fd) (S : DefS g cs fns kw excs idx body scope N ps b' true) (fx : Fx g ⟨N, fns, cs, kw, excs, true⟩ n P w K mg base) (ex : Ex0 g ⟨N, fns, cs, kw, excs, true⟩ P w K mg base) (ref : ∃ d, RefOk g d K mg)
    (tb : LamX.TabB base mg (He.cT K (x, none)).1 (He.cT K (x, none)).2) (mem : ((He.cT K (x, none)).2, (x ++ ".<locals>.") ++ "<lambda>") ∈ g.TT) (un : ∀ p ∈ g.TT, p.1 = (He.cT K (x, none)).2 → p.2 = (x ++ ".<locals>.") ++ "<lambda>") : FnOk P w K mg base (L2.CX P w) (lev n + 3) (He.fAd K (x, none)) fd ps (spF g (n + 1) idx) := by
  obtain ⟨oc, od, dV, kV, doc, pm, an, cdv, ct, osl, rfl, lk, hcd, hD, hK⟩ := F.ex
  obtain ⟨c, rfl⟩ := He.codeIn_ref hcd
  have ec : (He.cT K (x, none)).1 = c := He.codeOf_eq lk rfl
  rw [ec] at tb
  exact fn_ok (cfg := ⟨N, fns, cs, kw, excs, true⟩) lk hcd S.sc S.gG S.le rfl S.tr fx ex fun _ => ⟨ref, c, _, rfl, tb, mem, un⟩
open Classical in
/-- the script alone is known at the start -/
noncomputable def scriptF (H : Hp) (a : Addr) : Hp := fun b => if b = a ∧ Nt H b then H b else none
theorem law_start {n idx : Nat} {H : Hp} {a : Addr} {ns : List Int} {sto : List SObj} (hT : LamX.Tabs g.TT H) (hS : SqL g.K H a (ns.map V.int)) (h : callN g.G n idx [.fl ns] [] = some (.ok (.bl true), sto)) : spF g n idx [.ref a] H (fun v _ => v = .bl true) fun _ _ _ => False := by
  have sub : SubF (scriptF H a) H := fun b o e => by
    unfold scriptF at e
    split at e
    · exact e
    · cases e
  have hF : SqL g.K (scriptF H a) a (ns.map V.int) := by
    rcases hS with hS | hS
    · rcases hS with hS | ⟨o, hS⟩
      · exact .inl (.inl (by unfold scriptF; rw [if_pos ⟨rfl, _, hS, fun ps z => by cases z⟩]; exact hS))
      · exact .inl (.inr ⟨o, by unfold scriptF; rw [if_pos ⟨rfl, _, hS, fun ps z => by cases z⟩]; exact hS⟩)
    · exact .inr hS
  refine sp_true (F := scriptF H a) (m := []) (sto := []) (ds := [.fl ns]) ⟨sub, rfl, List.nodup_nil, fun b hb => (by cases hb), fun k b o e => (by simp at e), hT, fun b ps e => ?_⟩ (.cons ?_ .nil) h
  · unfold scriptF at e
    split at e
    · rename_i q
      obtain ⟨_, u, e2, ht⟩ := q
      rw [e2] at e
      exact ht ps (Option.some.inj e)
    · cases e
  · rw [Rp]
    exact ⟨a, rfl, hF⟩
end
end Rf

set_option Elab.async false
set_option linter.all false
set_option maxRecDepth 100000
/-! Q1: comprehensions and loops of the small language, in plain Lean. -/
namespace Rf
open PySem
/-- one turn of a comprehension -/
noncomputable def turnC (cl : Call) (p : List D × Option Nat) (vs : List Nat) (elt : E) (t : Tg) (c : Option T) : D → Sg → Rs (Option D) := fun d s2 =>
  if heldB p.2 p.1 s2 = true then nox <| bnd (asg cl t d s2) fun _ s3 => bnd (evC cl c s3) fun b s4 =>
    if b = true then bnd (frz (evE cl elt s4)) fun x s5 => okk (some x) { s5 with env := wipeE vs s5.env } else okk none { s4 with env := wipeE vs s4.env } else none
theorem comp_eq (cl : Call) (vs : List Nat) (elt : E) (t : Tg) (it : I) (c : Option T) (s : Sg) : evE cl (.comp vs elt t it c) s = bnd (evW cl it s) fun p s1 =>
    bnd (compGo (turnC cl p vs elt t c) [] p.1 { s1 with env := wipeE vs s1.env }) fun xs s6 => if heldB p.2 p.1 s6 = true then okk (.own xs) { s6 with env := restore vs s1.env s6.env } else none := by
  rw [evE]
  rfl
theorem compGo_pure {turn : D → Sg → Rs (Option D)} {f : D → Option D} {s : Sg} : ∀ (ds acc : List D), (∀ d ∈ ds, turn d s = some (.ok (f d), s)) → acc.length + ds.length ≤ sizeLine → compGo turn acc ds s = some (.ok (acc ++ ds.filterMap f), s)
  | [], acc, _, _ => by rw [compGo, List.filterMap_nil, List.append_nil]
  | d :: ds, acc, h, hl => by
    rw [compGo, h d (by simp)]
    simp only [bnd_ok]
    rw [List.length_cons] at hl
    cases e : f d with
    | none =>
      rw [List.filterMap_cons_none e]
      exact compGo_pure ds acc (fun x hx => h x (by simp [hx])) (by omega)
    | some x =>
      have hz : acc.length < sizeLine := by omega
      simp only
      rw [if_pos hz, List.filterMap_cons_some e, compGo_pure ds (acc ++ [x]) (fun y hy => h y (by simp [hy])) (by simp; omega)]
      simp
/-- a comprehension whose turns leave all as it is -/
theorem comp_pure {cl : Call} {vs : List Nat} {elt : E} {t : Tg} {it : I} {c : Option T} {s s1 : Sg} {ds : List D} {o : Option Nat} {f : D → Option D} (hit : evW cl it s = some (.ok (ds, o), s1)) (hh : heldB o ds { s1 with env := wipeE vs s1.env } = true)
    (ht : ∀ d ∈ ds, turnC cl (ds, o) vs elt t c d { s1 with env := wipeE vs s1.env } = some (.ok (f d), { s1 with env := wipeE vs s1.env })) (hl : ds.length ≤ sizeLine) :
    evE cl (.comp vs elt t it c) s = some (.ok (.own (ds.filterMap f)), { s1 with env := restore vs s1.env (wipeE vs s1.env) }) := by
  rw [comp_eq, hit]
  simp only [bnd_ok]
  rw [compGo_pure ds [] ht (by simpa using hl)]
  simp only [bnd_ok, List.nil_append]
  rw [if_pos hh]
theorem filterMap_map {α : Type} {g : α → D} {f : D → Option D} {k : α → D} : ∀ {l : List α}, (∀ a ∈ l, f (g a) = some (k a)) → (l.map g).filterMap f = l.map k
  | [], _ => rfl
  | a :: l, h => by
    rw [List.map_cons, List.filterMap_cons_some (h a (by simp)), filterMap_map fun x hx => h x (by simp [hx])]
    rfl
/-- .. that changes the store -/
theorem compGo_st {turn : D → Sg → Rs (Option D)} {J : Sg → Prop} {R : D → Prop} : ∀ (ds acc : List D) (s : Sg), (∀ d ∈ ds, ∀ s, J s → ∃ x s', turn d s = some (.ok (some x), s') ∧ J s' ∧ R x) → acc.length + ds.length ≤ sizeLine → J s →
    ∃ xs s', compGo turn acc ds s = some (.ok (acc ++ xs), s') ∧ J s' ∧ xs.length = ds.length ∧ ∀ x ∈ xs, R x
  | [], acc, s, _, _, hj => ⟨[], s, by rw [compGo, List.append_nil], hj, rfl, fun x hx => by cases hx⟩
  | d :: ds, acc, s, h, hl, hj => by
    rw [List.length_cons] at hl
    obtain ⟨x, s1, e, j1, r⟩ := h d (by simp) s hj
    obtain ⟨xs, s2, e2, j2, l2, r2⟩ := compGo_st ds (acc ++ [x]) s1 (fun y hy => h y (by simp [hy])) (by simp; omega) j1
    refine ⟨x :: xs, s2, ?_, j2, by simp [l2], fun y hy => ?_⟩
    · rw [compGo, e]
      simp only [bnd_ok]
      rw [if_pos (by omega), e2]
      simp
    · rcases List.mem_cons.mp hy with rfl | hy
      · exact r
      · exact r2 y hy
/-- a loop by an invariant -/
theorem loopGo_inv {turn : D → Sg → Rf'} (J : Nat → Sg → Prop) : ∀ (ds : List D) (k : Nat) (s : Sg), J k s → (∀ i d s, ds[i]? = some d → J (k + i) s → ∃ s', turn d s = some (.nx, s') ∧ J (k + i + 1) s') → ∃ s', loopGo turn ds s = some (.nx, s') ∧ J (k + ds.length) s'
  | [], k, s, h, _ => ⟨s, rfl, h⟩
  | d :: ds, k, s, h, ht => by
    obtain ⟨s1, e, j⟩ := ht 0 d s rfl h
    obtain ⟨s2, e2, j2⟩ := loopGo_inv J ds (k + 1) s1 j fun i x s' hx hj => by
      have z := ht (i + 1) x s' (by simpa using hx) (by rw [show k + (i + 1) = k + 1 + i by omega]; exact hj)
      rw [show k + (i + 1) + 1 = k + 1 + i + 1 by omega] at z
      exact z
    refine ⟨s2, ?_, by rw [List.length_cons, show k + (ds.length + 1) = k + 1 + ds.length by omega]; exact j2⟩
    rw [loopGo, e]
    exact e2
theorem bools_map {α : Type} (f : α → Bool) : ∀ l : List α, bools (l.map fun x => D.bl (f x)) = some (l.map f)
  | [] => rfl
  | a :: l => by
    rw [List.map_cons, bools, bools_map f l]
    rfl
theorem ints_map {α : Type} (f : α → Int) : ∀ l : List α, intsOf (l.map fun x => D.int (f x)) = some (l.map f)
  | [] => rfl
  | a :: l => by
    rw [List.map_cons, intsOf, ints_map f l]
    rfl
theorem binI_add (a b : Int) : binI .Add a b = some (a + b) := rfl
theorem binI_sub (a b : Int) : binI .Sub a b = some (a - b) := rfl
theorem binI_and (a b : Int) : binI .BitAnd a b = some (Builtin.bitAnd a b) := rfl
theorem binI_or (a b : Int) : binI .BitOr a b = some (Builtin.bitOr a b) := rfl
theorem binI_mod {a b : Int} (h : 0 < b) : binI .Mod a b = some (a % b) := if_pos h
theorem binI_div {a b : Int} (h : 0 < b) (h2 : b < 1073741824) : binI .FloorDiv a b = some (a / b) := if_pos ⟨h, h2⟩
theorem binI_shr {a b : Int} (h : 0 ≤ b) : binI .RShift a b = some (a / 2 ^ b.toNat) := if_pos h
theorem binI_mul {a b : Int} (h : (-(2 ^ 64) < a ∧ a < 2 ^ 64) ∨ (-(2 ^ 64) < b ∧ b < 2 ^ 64)) : binI .Mult a b = some (a * b) := if_pos h
theorem binI_shl {k : Nat} (hk : k ≤ 1000000) : binI .LShift 1 (k : Int) = some (2 ^ k) := by
  have e : (k : Int).toNat = k := by omega
  unfold binI
  dsimp only
  rw [if_pos ⟨by omega, by omega, by decide⟩, e, Int.one_mul]
theorem eqD_int (a b : Int) : eqD (.int a) (.int b) = some (decide (a = b)) := by
  have h : (a == b) = decide (a = b) := by
    by_cases e : a = b <;> simp [e]
  show (if SeqAt.shaped (.int a) && SeqAt.shaped (.int b) then some (PyData.eqv (.int a) (.int b)) else none) = _
  rw [if_pos (by rfl), PyData.eqv, h]
theorem eqD_str {a b : Str} (ha : PyData.canLay0 (.str a) = true) (hb : PyData.canLay0 (.str b) = true) : eqD (.str a) (.str b) = some (decide (a = b)) := by
  have h : (a == b) = decide (a = b) := by
    by_cases e : a = b <;> simp [e]
  have sh : ∀ x, PyData.canLay0 (.str x) = true → SeqAt.shaped (.str x) = true := fun x hx => by
    unfold SeqAt.shaped
    rw [hx]
    rfl
  show (if SeqAt.shaped (.str a) && SeqAt.shaped (.str b) then some (PyData.eqv (.str a) (.str b)) else none) = _
  rw [if_pos (by rw [sh a ha, sh b hb]; rfl), PyData.eqv, h]
theorem eqD_bl (a b : Bool) : eqD (.bl a) (.bl b) = some (decide (a = b)) := by
  have h : (a == b) = decide (a = b) := by
    cases a <;> cases b <;> rfl
  show (if SeqAt.shaped (.bool a) && SeqAt.shaped (.bool b) then some (PyData.eqv (.bool a) (.bool b)) else none) = _
  rw [if_pos (by rfl), PyData.eqv, h]
end Rf

set_option Elab.async false
set_option linter.all false
set_option maxRecDepth 100000
namespace Lw
open PySem Rf
def b_is_whole : List S := [Rf.S.ret
   (some (Rf.E.and
      (Rf.E.bcall (Rf.B.isInt) [Rf.E.var 0])
      (Rf.E.and
        (Rf.E.not (Rf.E.bcall (Rf.B.isBool) [Rf.E.var 0]))
        (Rf.E.chain (PySem.CmpOp.LtE) (PySem.CmpOp.LtE) (Rf.E.var 1) (Rf.E.var 0) (Rf.E.var 2)))))]
def b_are_wholes : List S := [Rf.S.ret
   (some (Rf.E.and
      (Rf.E.bcall (Rf.B.isTup) [Rf.E.var 0])
      (Rf.E.and
        (Rf.E.cmp (PySem.CmpOp.Eq) (Rf.E.bcall (Rf.B.len) [Rf.E.var 0]) (Rf.E.var 1))
        (Rf.E.bcall
          (Rf.B.all)
          [Rf.E.comp
             [4]
             (Rf.E.call 0 [Rf.E.var 4, Rf.E.var 2, Rf.E.var 3])
             (Rf.Tg.name 4)
             (Rf.I.seq (Rf.E.var 0))
             none]))))]
def b_is_table : List S := [Rf.S.ife
   (Rf.T.or
     (Rf.T.not (Rf.T.e (Rf.E.bcall (Rf.B.isTup) [Rf.E.var 0])))
     (Rf.T.or
       (Rf.T.e (Rf.E.cmp (PySem.CmpOp.NotEq) (Rf.E.bcall (Rf.B.len) [Rf.E.var 0]) (Rf.E.lit (Rf.D.int 2))))
       (Rf.T.not (Rf.T.e (Rf.E.bcall (Rf.B.isTup) [Rf.E.idx (Rf.E.var 0) (Rf.E.lit (Rf.D.int 0))])))))
   [Rf.S.ret (some (Rf.E.lit (Rf.D.bl false)))]
   [],
 Rf.S.asg (Rf.Tg.tup [Rf.Tg.name 2, Rf.Tg.name 3]) (Rf.E.var 0),
 Rf.S.ife
   (Rf.T.or
     (Rf.T.not
       (Rf.T.e
         (Rf.E.chain
           (PySem.CmpOp.LtE)
           (PySem.CmpOp.LtE)
           (Rf.E.lit (Rf.D.int 1))
           (Rf.E.bcall (Rf.B.len) [Rf.E.var 2])
           (Rf.E.lit (Rf.D.int 4)))))
     (Rf.T.not
       (Rf.T.e
         (Rf.E.bcall
           (Rf.B.all)
           [Rf.E.comp
              [4]
              (Rf.E.call
                1
                [Rf.E.var 4,
                 Rf.E.lit (Rf.D.int 2),
                 Rf.E.un (PySem.UnaryOp.USub) (Rf.E.lit (Rf.D.int 2)),
                 Rf.E.lit (Rf.D.int 2)])
              (Rf.Tg.name 4)
              (Rf.I.seq (Rf.E.var 2))
              none]))))
   [Rf.S.ret (some (Rf.E.lit (Rf.D.bl false)))]
   [],
 Rf.S.asg
   (Rf.Tg.name 1)
   (Rf.E.bin (PySem.Operator.LShift) (Rf.E.lit (Rf.D.int 1)) (Rf.E.bcall (Rf.B.len) [Rf.E.var 2])),
 Rf.S.ret
   (some (Rf.E.and
      (Rf.E.cmp (PySem.CmpOp.Eq) (Rf.E.bcall (Rf.B.setLen) [Rf.E.var 2]) (Rf.E.bcall (Rf.B.len) [Rf.E.var 2]))
      (Rf.E.and
        (Rf.E.call
          1
          [Rf.E.var 3,
           Rf.E.var 1,
           Rf.E.lit (Rf.D.int 0),
           Rf.E.bin (PySem.Operator.Sub) (Rf.E.var 1) (Rf.E.lit (Rf.D.int 1))])
        (Rf.E.cmp (PySem.CmpOp.Eq) (Rf.E.idx (Rf.E.var 3) (Rf.E.lit (Rf.D.int 0))) (Rf.E.lit (Rf.D.int 0))))))]
def b_is_board : List S := [Rf.S.expr (Rf.E.call 4 [Rf.E.call 2 [Rf.E.var 0], Rf.E.lit (Rf.D.str { cps := #[116, 97, 98, 108, 101] })]),
 Rf.S.ife
   (Rf.T.or
     (Rf.T.not (Rf.T.e (Rf.E.bcall (Rf.B.isTup) [Rf.E.var 1])))
     (Rf.T.e (Rf.E.cmp (PySem.CmpOp.NotEq) (Rf.E.bcall (Rf.B.len) [Rf.E.var 1]) (Rf.E.lit (Rf.D.int 3)))))
   [Rf.S.ret (some (Rf.E.lit (Rf.D.bl false)))]
   [],
 Rf.S.ife
   (Rf.T.or
     (Rf.T.not
       (Rf.T.e
         (Rf.E.call 0 [Rf.E.idx (Rf.E.var 1) (Rf.E.lit (Rf.D.int 0)), Rf.E.lit (Rf.D.int 1), Rf.E.lit (Rf.D.int 8)])))
     (Rf.T.not
       (Rf.T.e
         (Rf.E.call 0 [Rf.E.idx (Rf.E.var 1) (Rf.E.lit (Rf.D.int 1)), Rf.E.lit (Rf.D.int 1), Rf.E.lit (Rf.D.int 8)]))))
   [Rf.S.ret (some (Rf.E.lit (Rf.D.bl false)))]
   [],
 Rf.S.ret
   (some (Rf.E.call
      1
      [Rf.E.idx (Rf.E.var 1) (Rf.E.lit (Rf.D.int 2)),
       Rf.E.bin
         (PySem.Operator.Mult)
         (Rf.E.idx (Rf.E.var 1) (Rf.E.lit (Rf.D.int 0)))
         (Rf.E.idx (Rf.E.var 1) (Rf.E.lit (Rf.D.int 1))),
       Rf.E.lit (Rf.D.int 0),
       Rf.E.bin
         (PySem.Operator.Sub)
         (Rf.E.bin
           (PySem.Operator.LShift)
           (Rf.E.lit (Rf.D.int 1))
           (Rf.E.bcall (Rf.B.len) [Rf.E.idx (Rf.E.var 0) (Rf.E.lit (Rf.D.int 0))]))
         (Rf.E.lit (Rf.D.int 1))]))]
def b_need : List S := [Rf.S.ife (Rf.T.not (Rf.T.e (Rf.E.var 0))) [Rf.S.raise 0 [Rf.E.var 1]] []]
def b_need_board : List S := [Rf.S.expr (Rf.E.call 4 [Rf.E.call 2 [Rf.E.var 0], Rf.E.lit (Rf.D.str { cps := #[116, 97, 98, 108, 101] })]),
 Rf.S.expr
   (Rf.E.call 4 [Rf.E.call 3 [Rf.E.var 0, Rf.E.var 1], Rf.E.lit (Rf.D.str { cps := #[98, 111, 97, 114, 100] })])]
def b_drawn : List S := [Rf.S.expr (Rf.E.call 5 [Rf.E.var 0, Rf.E.var 1]),
 Rf.S.asg (Rf.Tg.tup [Rf.Tg.name 2, Rf.Tg.name 3, Rf.Tg.name 4]) (Rf.E.var 1),
 Rf.S.ret
   (some (Rf.E.smeth
      (Rf.SM.join)
      (Rf.E.lit (Rf.D.str { cps := #[10] }))
      (Rf.E.comp
        [5]
        (Rf.E.smeth
          (Rf.SM.join)
          (Rf.E.lit (Rf.D.str { cps := #[] }))
          (Rf.E.comp
            [6]
            (Rf.E.idx
              (Rf.E.lit (Rf.D.str { cps := #[46, 49, 50, 51, 52, 53, 54, 55, 56, 57, 97, 98, 99, 100, 101, 102] }))
              (Rf.E.var 6))
            (Rf.Tg.name 6)
            (Rf.I.seq
              (Rf.E.slc
                (Rf.E.var 4)
                (some (Rf.E.bin (PySem.Operator.Mult) (Rf.E.var 5) (Rf.E.var 2)))
                (some (Rf.E.bin
                   (PySem.Operator.Add)
                   (Rf.E.bin (PySem.Operator.Mult) (Rf.E.var 5) (Rf.E.var 2))
                   (Rf.E.var 2)))))
            none))
        (Rf.Tg.name 5)
        (Rf.I.range [Rf.E.var 3])
        none)))]
def b_read_board : List S := [Rf.S.expr (Rf.E.call 4 [Rf.E.call 2 [Rf.E.var 0], Rf.E.lit (Rf.D.str { cps := #[116, 97, 98, 108, 101] })]),
 Rf.S.expr (Rf.E.call 4 [Rf.E.bcall (Rf.B.isStr) [Rf.E.var 1], Rf.E.lit (Rf.D.str { cps := #[116, 101, 120, 116] })]),
 Rf.S.asg (Rf.Tg.name 2) (Rf.E.smeth (Rf.SM.split) (Rf.E.var 1) (Rf.E.lit (Rf.D.str { cps := #[10] }))),
 Rf.S.par
   [5, 6]
   [Rf.E.bcall (Rf.B.len) [Rf.E.idx (Rf.E.var 2) (Rf.E.lit (Rf.D.int 0))],
    Rf.E.bin
      (PySem.Operator.LShift)
      (Rf.E.lit (Rf.D.int 1))
      (Rf.E.bcall (Rf.B.len) [Rf.E.idx (Rf.E.var 0) (Rf.E.lit (Rf.D.int 0))])],
 Rf.S.ife
   (Rf.T.or
     (Rf.T.not
       (Rf.T.e
         (Rf.E.chain (PySem.CmpOp.LtE) (PySem.CmpOp.LtE) (Rf.E.lit (Rf.D.int 1)) (Rf.E.var 5) (Rf.E.lit (Rf.D.int 8)))))
     (Rf.T.or
       (Rf.T.e (Rf.E.cmp (PySem.CmpOp.Gt) (Rf.E.bcall (Rf.B.len) [Rf.E.var 2]) (Rf.E.lit (Rf.D.int 8))))
       (Rf.T.e
         (Rf.E.bcall
           (Rf.B.any)
           [Rf.E.comp
              [4]
              (Rf.E.cmp (PySem.CmpOp.NotEq) (Rf.E.bcall (Rf.B.len) [Rf.E.var 4]) (Rf.E.var 5))
              (Rf.Tg.name 4)
              (Rf.I.seq (Rf.E.var 2))
              none]))))
   [Rf.S.ret (some (Rf.E.lit (Rf.D.non)))]
   [],
 Rf.S.asg (Rf.Tg.name 3) (Rf.E.lst []),
 Rf.S.loop
   (Rf.Tg.name 4)
   (Rf.I.seq (Rf.E.var 2))
   [Rf.S.expr
      (Rf.E.meth
        (Rf.M.extend)
        3
        [Rf.E.comp
           [7]
           (Rf.E.smeth
             (Rf.SM.find)
             (Rf.E.lit (Rf.D.str { cps := #[46, 49, 50, 51, 52, 53, 54, 55, 56, 57, 97, 98, 99, 100, 101, 102] }))
             (Rf.E.var 7))
           (Rf.Tg.name 7)
           (Rf.I.seq (Rf.E.var 4))
           none])],
 Rf.S.ife
   (Rf.T.or
     (Rf.T.e (Rf.E.cmp (PySem.CmpOp.Lt) (Rf.E.bcall (Rf.B.min1) [Rf.E.var 3]) (Rf.E.lit (Rf.D.int 0))))
     (Rf.T.e (Rf.E.cmp (PySem.CmpOp.GtE) (Rf.E.bcall (Rf.B.max1) [Rf.E.var 3]) (Rf.E.var 6))))
   [Rf.S.ret (some (Rf.E.lit (Rf.D.non)))]
   [],
 Rf.S.ret (some (Rf.E.tup [Rf.E.var 5, Rf.E.bcall (Rf.B.len) [Rf.E.var 2], Rf.E.bcall (Rf.B.tuple) [Rf.E.var 3]]))]
def b__law_taken : List S := [Rf.S.ife
   (Rf.T.e (Rf.E.cmp (PySem.CmpOp.Gt) (Rf.E.idx (Rf.E.var 0) (Rf.E.lit (Rf.D.int 3))) (Rf.E.lit (Rf.D.int 0))))
   [Rf.S.asg
      (Rf.Tg.name 3)
      (Rf.E.bin
        (PySem.Operator.Mod)
        (Rf.E.bcall (Rf.B.int) [Rf.E.idx (Rf.E.var 0) (Rf.E.lit (Rf.D.int 3))])
        (Rf.E.var 1)),
    Rf.S.asg
      (Rf.Tg.sub (Rf.E.var 0) (Rf.E.lit (Rf.D.int 3)))
      (Rf.E.bin (PySem.Operator.FloorDiv) (Rf.E.idx (Rf.E.var 0) (Rf.E.lit (Rf.D.int 3))) (Rf.E.var 1)),
    Rf.S.ret (some (Rf.E.var 3))]
   [],
 Rf.S.asg
   (Rf.Tg.sub (Rf.E.var 0) (Rf.E.lit (Rf.D.int 1)))
   (Rf.E.bin (PySem.Operator.Add) (Rf.E.idx (Rf.E.var 0) (Rf.E.lit (Rf.D.int 1))) (Rf.E.lit (Rf.D.int 1))),
 Rf.S.ife
   (Rf.T.e
     (Rf.E.cmp
       (PySem.CmpOp.Gt)
       (Rf.E.idx (Rf.E.var 0) (Rf.E.lit (Rf.D.int 1)))
       (Rf.E.bcall (Rf.B.len) [Rf.E.idx (Rf.E.var 0) (Rf.E.lit (Rf.D.int 0))])))
   [Rf.S.asg
      (Rf.Tg.sub (Rf.E.var 0) (Rf.E.lit (Rf.D.int 2)))
      (Rf.E.bin
        (PySem.Operator.Mod)
        (Rf.E.bcall
          (Rf.B.int)
          [Rf.E.bin
             (PySem.Operator.Add)
             (Rf.E.bin
               (PySem.Operator.Mult)
               (Rf.E.idx (Rf.E.var 0) (Rf.E.lit (Rf.D.int 2)))
               (Rf.E.lit (Rf.D.int 48271)))
             (Rf.E.lit (Rf.D.int 11))])
        (Rf.E.lit (Rf.D.int 2147483647))),
    Rf.S.ret
      (some (Rf.E.bin
         (PySem.Operator.Mod)
         (Rf.E.bcall
           (Rf.B.int)
           [Rf.E.bin (PySem.Operator.FloorDiv) (Rf.E.idx (Rf.E.var 0) (Rf.E.lit (Rf.D.int 2))) (Rf.E.lit (Rf.D.int 7))])
         (Rf.E.var 1)))]
   [],
 Rf.S.asg
   (Rf.Tg.name 2)
   (Rf.E.idx
     (Rf.E.idx (Rf.E.var 0) (Rf.E.lit (Rf.D.int 0)))
     (Rf.E.bin (PySem.Operator.Sub) (Rf.E.idx (Rf.E.var 0) (Rf.E.lit (Rf.D.int 1))) (Rf.E.lit (Rf.D.int 1)))),
 Rf.S.asg
   (Rf.Tg.sub (Rf.E.var 0) (Rf.E.lit (Rf.D.int 2)))
   (Rf.E.bin
     (PySem.Operator.Mod)
     (Rf.E.bcall
       (Rf.B.int)
       [Rf.E.bin
          (PySem.Operator.Add)
          (Rf.E.bin
            (PySem.Operator.Add)
            (Rf.E.bin (PySem.Operator.Mult) (Rf.E.idx (Rf.E.var 0) (Rf.E.lit (Rf.D.int 2))) (Rf.E.lit (Rf.D.int 48271)))
            (Rf.E.bcall (Rf.B.int) [Rf.E.var 2]))
          (Rf.E.lit (Rf.D.int 11))])
     (Rf.E.lit (Rf.D.int 2147483647))),
 Rf.S.ife
   (Rf.T.e
     (Rf.E.cmp
       (PySem.CmpOp.GtE)
       (Rf.E.var 2)
       (Rf.E.bin (PySem.Operator.Pow) (Rf.E.lit (Rf.D.int 10)) (Rf.E.lit (Rf.D.int 18)))))
   [Rf.S.asg
      (Rf.Tg.sub (Rf.E.var 0) (Rf.E.lit (Rf.D.int 3)))
      (Rf.E.bin
        (PySem.Operator.FloorDiv)
        (Rf.E.bcall
          (Rf.B.int)
          [Rf.E.bin
             (PySem.Operator.Mod)
             (Rf.E.bcall (Rf.B.int) [Rf.E.var 2])
             (Rf.E.bin (PySem.Operator.Pow) (Rf.E.lit (Rf.D.int 10)) (Rf.E.lit (Rf.D.int 90)))])
        (Rf.E.var 1))]
   [],
 Rf.S.ret (some (Rf.E.bin (PySem.Operator.Mod) (Rf.E.bcall (Rf.B.int) [Rf.E.var 2]) (Rf.E.var 1)))]
def b__law_pick : List S := [Rf.S.ret (some (Rf.E.idx (Rf.E.var 1) (Rf.E.call 8 [Rf.E.var 0, Rf.E.bcall (Rf.B.len) [Rf.E.var 1]])))]
def b__law_alike : List S := [Rf.S.ife
   (Rf.T.e (Rf.E.bcall (Rf.B.isTup) [Rf.E.var 1]))
   [Rf.S.ife
      (Rf.T.or
        (Rf.T.not (Rf.T.e (Rf.E.bcall (Rf.B.isTup) [Rf.E.var 0])))
        (Rf.T.e
          (Rf.E.cmp (PySem.CmpOp.NotEq) (Rf.E.bcall (Rf.B.len) [Rf.E.var 0]) (Rf.E.bcall (Rf.B.len) [Rf.E.var 1]))))
      [Rf.S.ret (some (Rf.E.lit (Rf.D.bl false)))]
      [],
    Rf.S.ret
      (some (Rf.E.cmp
         (PySem.CmpOp.Eq)
         (Rf.E.comp
           [2]
           (Rf.E.var 2)
           (Rf.Tg.name 2)
           (Rf.I.range [Rf.E.bcall (Rf.B.len) [Rf.E.var 1]])
           (some (Rf.T.not
              (Rf.T.e (Rf.E.call 11 [Rf.E.idx (Rf.E.var 0) (Rf.E.var 2), Rf.E.idx (Rf.E.var 1) (Rf.E.var 2)])))))
         (Rf.E.lst [])))]
   [],
 Rf.S.ife
   (Rf.T.or
     (Rf.T.e (Rf.E.cmp (PySem.CmpOp.Is) (Rf.E.var 1) (Rf.E.lit (Rf.D.non))))
     (Rf.T.e (Rf.E.bcall (Rf.B.isStr) [Rf.E.var 1])))
   [Rf.S.ret
      (some (Rf.E.and
         (Rf.E.cmp (PySem.CmpOp.Eq) (Rf.E.var 0) (Rf.E.var 1))
         (Rf.E.cmp (PySem.CmpOp.Eq) (Rf.E.bcall (Rf.B.isStr) [Rf.E.var 0]) (Rf.E.bcall (Rf.B.isStr) [Rf.E.var 1]))))]
   [],
 Rf.S.ret
   (some (Rf.E.and
      (Rf.E.bcall (Rf.B.isInt) [Rf.E.var 0])
      (Rf.E.and
        (Rf.E.cmp (PySem.CmpOp.Eq) (Rf.E.bcall (Rf.B.isBool) [Rf.E.var 0]) (Rf.E.bcall (Rf.B.isBool) [Rf.E.var 1]))
        (Rf.E.cmp (PySem.CmpOp.Eq) (Rf.E.var 0) (Rf.E.var 1)))))]
def b__law_ways : List S := [Rf.S.par
   [3, 4]
   [Rf.E.lst
      [Rf.E.tup [Rf.E.lit (Rf.D.int 1), Rf.E.lit (Rf.D.int 0)],
       Rf.E.tup [Rf.E.un (PySem.UnaryOp.USub) (Rf.E.lit (Rf.D.int 1)), Rf.E.lit (Rf.D.int 0)],
       Rf.E.tup [Rf.E.lit (Rf.D.int 0), Rf.E.lit (Rf.D.int 1)],
       Rf.E.tup [Rf.E.lit (Rf.D.int 0), Rf.E.un (PySem.UnaryOp.USub) (Rf.E.lit (Rf.D.int 1))],
       Rf.E.tup [Rf.E.lit (Rf.D.int 0), Rf.E.lit (Rf.D.int 0)],
       Rf.E.tup [Rf.E.lit (Rf.D.int 1), Rf.E.lit (Rf.D.int 1)],
       Rf.E.tup
         [Rf.E.un (PySem.UnaryOp.USub) (Rf.E.lit (Rf.D.int 1)), Rf.E.un (PySem.UnaryOp.USub) (Rf.E.lit (Rf.D.int 1))],
       Rf.E.tup [Rf.E.lit (Rf.D.int 2), Rf.E.lit (Rf.D.int 0)],
       Rf.E.tup [Rf.E.un (PySem.UnaryOp.USub) (Rf.E.lit (Rf.D.int 2)), Rf.E.lit (Rf.D.int 1)],
       Rf.E.tup [Rf.E.lit (Rf.D.int 1), Rf.E.un (PySem.UnaryOp.USub) (Rf.E.lit (Rf.D.int 2))]],
    Rf.E.lst []],
 Rf.S.loop
   (Rf.Tg.name 2)
   (Rf.I.range [Rf.E.var 1])
   [Rf.S.expr
      (Rf.E.meth
        (Rf.M.append)
        4
        [Rf.E.meth
           (Rf.M.popAt)
           3
           [Rf.E.call
              8
              [Rf.E.var 0,
               Rf.E.bcall
                 (Rf.B.min2)
                 [Rf.E.bcall (Rf.B.len) [Rf.E.var 3],
                  Rf.E.bin
                    (PySem.Operator.Add)
                    (Rf.E.lit (Rf.D.int 4))
                    (Rf.E.call 8 [Rf.E.var 0, Rf.E.lit (Rf.D.int 7)])]]]])],
 Rf.S.ret (some (Rf.E.bcall (Rf.B.tuple) [Rf.E.var 4]))]
def b__law_specks : List S := [Rf.S.ret
   (some (Rf.E.bcall
      (Rf.B.len)
      [Rf.E.comp
         [1]
         (Rf.E.lit (Rf.D.int 1))
         (Rf.Tg.name 1)
         (Rf.I.range [Rf.E.lit (Rf.D.int 4)])
         (some (Rf.T.e
            (Rf.E.bin
              (PySem.Operator.BitAnd)
              (Rf.E.bin (PySem.Operator.RShift) (Rf.E.var 0) (Rf.E.var 1))
              (Rf.E.lit (Rf.D.int 1)))))]))]
def b__law_rule : List S := [Rf.S.par
   [2, 3]
   [Rf.E.rangeL [Rf.E.bin (PySem.Operator.LShift) (Rf.E.lit (Rf.D.int 1)) (Rf.E.var 1)],
    Rf.E.call 8 [Rf.E.var 0, Rf.E.lit (Rf.D.int 4)]],
 Rf.S.ife
   (Rf.T.e (Rf.E.cmp (PySem.CmpOp.Eq) (Rf.E.var 3) (Rf.E.lit (Rf.D.int 0))))
   [Rf.S.ret
      (some (Rf.E.bcall
         (Rf.B.tuple)
         [Rf.E.bin
            (PySem.Operator.Add)
            (Rf.E.lst [Rf.E.lit (Rf.D.int 0)])
            (Rf.E.comp
              [9]
              (Rf.E.call 8 [Rf.E.var 0, Rf.E.bin (PySem.Operator.LShift) (Rf.E.lit (Rf.D.int 1)) (Rf.E.var 1)])
              (Rf.Tg.name 9)
              (Rf.I.seq (Rf.E.slc (Rf.E.var 2) (some (Rf.E.lit (Rf.D.int 1))) none))
              none)]))]
   [],
 Rf.S.ife
   (Rf.T.e (Rf.E.cmp (PySem.CmpOp.Eq) (Rf.E.var 3) (Rf.E.lit (Rf.D.int 1))))
   [Rf.S.par [5, 6] [Rf.E.slc (Rf.E.var 2) (some (Rf.E.lit (Rf.D.int 1))) none, Rf.E.lst [Rf.E.lit (Rf.D.int 0)]],
    Rf.S.whl
      (Rf.T.e (Rf.E.cmp (PySem.CmpOp.NotEq) (Rf.E.var 5) (Rf.E.lst [])))
      [Rf.S.expr
         (Rf.E.meth
           (Rf.M.append)
           6
           [Rf.E.meth (Rf.M.popAt) 5 [Rf.E.call 8 [Rf.E.var 0, Rf.E.bcall (Rf.B.len) [Rf.E.var 5]]]])],
    Rf.S.ret (some (Rf.E.bcall (Rf.B.tuple) [Rf.E.var 6]))]
   [],
 Rf.S.ife
   (Rf.T.e (Rf.E.cmp (PySem.CmpOp.Eq) (Rf.E.var 3) (Rf.E.lit (Rf.D.int 2))))
   [Rf.S.loop
      (Rf.Tg.name 4)
      (Rf.I.range
        [Rf.E.bin (PySem.Operator.Add) (Rf.E.lit (Rf.D.int 1)) (Rf.E.call 8 [Rf.E.var 0, Rf.E.lit (Rf.D.int 3)])])
      [Rf.S.asg (Rf.Tg.name 7) (Rf.E.call 9 [Rf.E.var 0, Rf.E.slc (Rf.E.var 2) (some (Rf.E.lit (Rf.D.int 1))) none]),
       Rf.S.asg
         (Rf.Tg.name 8)
         (Rf.E.call
           9
           [Rf.E.var 0,
            Rf.E.comp
              [9]
              (Rf.E.var 9)
              (Rf.Tg.name 9)
              (Rf.I.seq (Rf.E.var 2))
              (some (Rf.T.e (Rf.E.cmp (PySem.CmpOp.Eq) (Rf.E.call 13 [Rf.E.var 9]) (Rf.E.call 13 [Rf.E.var 7]))))]),
       Rf.S.asg
         (Rf.Tg.tup [Rf.Tg.sub (Rf.E.var 2) (Rf.E.var 7), Rf.Tg.sub (Rf.E.var 2) (Rf.E.var 8)])
         (Rf.E.tup [Rf.E.idx (Rf.E.var 2) (Rf.E.var 8), Rf.E.idx (Rf.E.var 2) (Rf.E.var 7)])],
    Rf.S.ret (some (Rf.E.bcall (Rf.B.tuple) [Rf.E.var 2]))]
   [],
 Rf.S.asg
   (Rf.Tg.sub
     (Rf.E.var 2)
     (Rf.E.bin
       (PySem.Operator.Add)
       (Rf.E.lit (Rf.D.int 1))
       (Rf.E.call
         8
         [Rf.E.var 0, Rf.E.bin (PySem.Operator.Sub) (Rf.E.bcall (Rf.B.len) [Rf.E.var 2]) (Rf.E.lit (Rf.D.int 1))])))
   (Rf.E.call 8 [Rf.E.var 0, Rf.E.bcall (Rf.B.len) [Rf.E.var 2]]),
 Rf.S.ret (some (Rf.E.bcall (Rf.B.tuple) [Rf.E.var 2]))]
def b__law_table : List S := [Rf.S.asg
   (Rf.Tg.name 3)
   (Rf.E.bin
     (PySem.Operator.Add)
     (Rf.E.var 1)
     (Rf.E.call
       8
       [Rf.E.var 0,
        Rf.E.bin
          (PySem.Operator.Add)
          (Rf.E.bin (PySem.Operator.Sub) (Rf.E.var 2) (Rf.E.var 1))
          (Rf.E.lit (Rf.D.int 1))])),
 Rf.S.ret (some (Rf.E.tup [Rf.E.call 12 [Rf.E.var 0, Rf.E.var 3], Rf.E.call 14 [Rf.E.var 0, Rf.E.var 3]]))]
def b__law_board : List S := [Rf.S.par
   [5, 6]
   [Rf.E.bin
      (PySem.Operator.LShift)
      (Rf.E.lit (Rf.D.int 1))
      (Rf.E.bcall (Rf.B.len) [Rf.E.idx (Rf.E.var 1) (Rf.E.lit (Rf.D.int 0))]),
    Rf.E.call 8 [Rf.E.var 0, Rf.E.lit (Rf.D.int 3)]],
 Rf.S.asg
   (Rf.Tg.name 4)
   (Rf.E.comp
     [7]
     (Rf.E.ife
       (Rf.T.or
         (Rf.T.e (Rf.E.cmp (PySem.CmpOp.Eq) (Rf.E.var 6) (Rf.E.lit (Rf.D.int 0))))
         (Rf.T.e (Rf.E.cmp (PySem.CmpOp.Eq) (Rf.E.call 8 [Rf.E.var 0, Rf.E.lit (Rf.D.int 3)]) (Rf.E.lit (Rf.D.int 0)))))
       (Rf.E.call 8 [Rf.E.var 0, Rf.E.var 5])
       (Rf.E.lit (Rf.D.int 0)))
     (Rf.Tg.name 7)
     (Rf.I.range [Rf.E.bin (PySem.Operator.Mult) (Rf.E.var 2) (Rf.E.var 3)])
     none),
 Rf.S.ife
   (Rf.T.e (Rf.E.cmp (PySem.CmpOp.Eq) (Rf.E.var 6) (Rf.E.lit (Rf.D.int 2))))
   [Rf.S.asg
      (Rf.Tg.name 4)
      (Rf.E.bin
        (PySem.Operator.Mult)
        (Rf.E.lst [Rf.E.lit (Rf.D.int 0)])
        (Rf.E.bin (PySem.Operator.Mult) (Rf.E.var 2) (Rf.E.var 3))),
    Rf.S.asg
      (Rf.Tg.sub (Rf.E.var 4) (Rf.E.call 8 [Rf.E.var 0, Rf.E.bcall (Rf.B.len) [Rf.E.var 4]]))
      (Rf.E.bin
        (PySem.Operator.Add)
        (Rf.E.lit (Rf.D.int 1))
        (Rf.E.call 8 [Rf.E.var 0, Rf.E.bin (PySem.Operator.Sub) (Rf.E.var 5) (Rf.E.lit (Rf.D.int 1))]))]
   [],
 Rf.S.ret (some (Rf.E.tup [Rf.E.var 2, Rf.E.var 3, Rf.E.bcall (Rf.B.tuple) [Rf.E.var 4]]))]
def b__law_lines : List S := [Rf.S.asg (Rf.Tg.tup [Rf.Tg.name 1, Rf.Tg.name 2, Rf.Tg.name 3]) (Rf.E.var 0),
 Rf.S.ret
   (some (Rf.E.smeth
      (Rf.SM.join)
      (Rf.E.lit (Rf.D.str { cps := #[10] }))
      (Rf.E.comp
        [4]
        (Rf.E.smeth
          (Rf.SM.join)
          (Rf.E.lit (Rf.D.str { cps := #[] }))
          (Rf.E.comp
            [5]
            (Rf.E.idx
              (Rf.E.lit (Rf.D.str { cps := #[46, 49, 50, 51, 52, 53, 54, 55, 56, 57, 97, 98, 99, 100, 101, 102] }))
              (Rf.E.var 5))
            (Rf.Tg.name 5)
            (Rf.I.seq
              (Rf.E.slc
                (Rf.E.var 3)
                (some (Rf.E.bin (PySem.Operator.Mult) (Rf.E.var 4) (Rf.E.var 1)))
                (some (Rf.E.bin
                   (PySem.Operator.Add)
                   (Rf.E.bin (PySem.Operator.Mult) (Rf.E.var 4) (Rf.E.var 1))
                   (Rf.E.var 1)))))
            none))
        (Rf.Tg.name 4)
        (Rf.I.range [Rf.E.var 2])
        none)))]
def b__law_read : List S := [Rf.S.par [3, 4] [Rf.E.smeth (Rf.SM.split) (Rf.E.var 1) (Rf.E.lit (Rf.D.str { cps := #[10] })), Rf.E.lst []],
 Rf.S.loop
   (Rf.Tg.name 2)
   (Rf.I.seq (Rf.E.var 3))
   [Rf.S.loop
      (Rf.Tg.name 5)
      (Rf.I.seq (Rf.E.var 2))
      [Rf.S.ife
         (Rf.T.or
           (Rf.T.e
             (Rf.E.cmp
               (PySem.CmpOp.NotIn)
               (Rf.E.var 5)
               (Rf.E.lit (Rf.D.str { cps := #[46, 49, 50, 51, 52, 53, 54, 55, 56, 57, 97, 98, 99, 100, 101, 102] }))))
           (Rf.T.e
             (Rf.E.cmp
               (PySem.CmpOp.GtE)
               (Rf.E.smeth
                 (Rf.SM.index)
                 (Rf.E.lit (Rf.D.str { cps := #[46, 49, 50, 51, 52, 53, 54, 55, 56, 57, 97, 98, 99, 100, 101, 102] }))
                 (Rf.E.var 5))
               (Rf.E.bin
                 (PySem.Operator.LShift)
                 (Rf.E.lit (Rf.D.int 1))
                 (Rf.E.bcall (Rf.B.len) [Rf.E.idx (Rf.E.var 0) (Rf.E.lit (Rf.D.int 0))])))))
         [Rf.S.ret (some (Rf.E.lit (Rf.D.non)))]
         [],
       Rf.S.expr
         (Rf.E.meth
           (Rf.M.append)
           4
           [Rf.E.smeth
              (Rf.SM.index)
              (Rf.E.lit (Rf.D.str { cps := #[46, 49, 50, 51, 52, 53, 54, 55, 56, 57, 97, 98, 99, 100, 101, 102] }))
              (Rf.E.var 5)])]],
 Rf.S.ife
   (Rf.T.or
     (Rf.T.e
       (Rf.E.cmp
         (PySem.CmpOp.NotEq)
         (Rf.E.comp
           [2]
           (Rf.E.var 2)
           (Rf.Tg.name 2)
           (Rf.I.seq (Rf.E.var 3))
           (some (Rf.T.or
              (Rf.T.e
                (Rf.E.cmp
                  (PySem.CmpOp.NotEq)
                  (Rf.E.bcall (Rf.B.len) [Rf.E.var 2])
                  (Rf.E.bcall (Rf.B.len) [Rf.E.idx (Rf.E.var 3) (Rf.E.lit (Rf.D.int 0))])))
              (Rf.T.not
                (Rf.T.e
                  (Rf.E.chain
                    (PySem.CmpOp.LtE)
                    (PySem.CmpOp.LtE)
                    (Rf.E.lit (Rf.D.int 1))
                    (Rf.E.bcall (Rf.B.len) [Rf.E.var 2])
                    (Rf.E.lit (Rf.D.int 8))))))))
         (Rf.E.lst [])))
     (Rf.T.e (Rf.E.cmp (PySem.CmpOp.Gt) (Rf.E.bcall (Rf.B.len) [Rf.E.var 3]) (Rf.E.lit (Rf.D.int 8)))))
   [Rf.S.ret (some (Rf.E.lit (Rf.D.non)))]
   [],
 Rf.S.ret
   (some (Rf.E.tup
      [Rf.E.bcall (Rf.B.len) [Rf.E.idx (Rf.E.var 3) (Rf.E.lit (Rf.D.int 0))],
       Rf.E.bcall (Rf.B.len) [Rf.E.var 3],
       Rf.E.bcall (Rf.B.tuple) [Rf.E.var 4]]))]
def b__law_spoiled : List S := [Rf.S.par
   [3, 4]
   [Rf.E.call
      8
      [Rf.E.var 0, Rf.E.bin (PySem.Operator.Add) (Rf.E.bcall (Rf.B.len) [Rf.E.var 1]) (Rf.E.lit (Rf.D.int 1))],
    Rf.E.call 8 [Rf.E.var 0, Rf.E.lit (Rf.D.int 4)]],
 Rf.S.asg
   (Rf.Tg.name 2)
   (Rf.E.call
     9
     [Rf.E.var 0,
      Rf.E.lst
        [Rf.E.lit (Rf.D.str { cps := #[46] }),
         Rf.E.lit (Rf.D.str { cps := #[49] }),
         Rf.E.lit (Rf.D.str { cps := #[55] }),
         Rf.E.lit (Rf.D.str { cps := #[102] }),
         Rf.E.lit (Rf.D.str { cps := #[65] }),
         Rf.E.lit (Rf.D.str { cps := #[48] }),
         Rf.E.lit (Rf.D.str { cps := #[32] }),
         Rf.E.lit (Rf.D.str { cps := #[10] }),
         Rf.E.lit (Rf.D.str { cps := #[46, 46] }),
         Rf.E.lit (Rf.D.str { cps := #[10, 46, 10] })]]),
 Rf.S.ret
   (some (Rf.E.bin
      (PySem.Operator.Add)
      (Rf.E.bin
        (PySem.Operator.Add)
        (Rf.E.slc (Rf.E.var 1) none (some (Rf.E.var 3)))
        (Rf.E.ife
          (Rf.T.e (Rf.E.cmp (PySem.CmpOp.Gt) (Rf.E.var 4) (Rf.E.lit (Rf.D.int 0))))
          (Rf.E.var 2)
          (Rf.E.lit (Rf.D.str { cps := #[] }))))
      (Rf.E.slc
        (Rf.E.var 1)
        (some (Rf.E.bin
           (PySem.Operator.Add)
           (Rf.E.var 3)
           (Rf.E.ife
             (Rf.T.e (Rf.E.cmp (PySem.CmpOp.Lt) (Rf.E.var 4) (Rf.E.lit (Rf.D.int 2))))
             (Rf.E.lit (Rf.D.int 1))
             (Rf.E.lit (Rf.D.int 0)))))
        none)))]
def b_law : List S := [Rf.S.new 1 [Rf.E.var 0, Rf.E.lit (Rf.D.int 0), Rf.E.lit (Rf.D.int 61231), Rf.E.lit (Rf.D.int 0)],
 Rf.S.loop
   (Rf.Tg.name 2)
   (Rf.I.range [Rf.E.lit (Rf.D.int 40)])
   [Rf.S.asg (Rf.Tg.name 3) (Rf.E.call 15 [Rf.E.var 1, Rf.E.lit (Rf.D.int 1), Rf.E.lit (Rf.D.int 4)]),
    Rf.S.asg
      (Rf.Tg.name 4)
      (Rf.E.call
        16
        [Rf.E.var 1,
         Rf.E.var 3,
         Rf.E.bin (PySem.Operator.Add) (Rf.E.lit (Rf.D.int 1)) (Rf.E.call 8 [Rf.E.var 1, Rf.E.lit (Rf.D.int 8)]),
         Rf.E.bin (PySem.Operator.Add) (Rf.E.lit (Rf.D.int 1)) (Rf.E.call 8 [Rf.E.var 1, Rf.E.lit (Rf.D.int 8)])]),
    Rf.S.asg (Rf.Tg.name 5) (Rf.E.call 17 [Rf.E.var 4]),
    Rf.S.ife
      (Rf.T.or
        (Rf.T.e (Rf.E.cmp (PySem.CmpOp.NotEq) (Rf.E.callK 6 [Rf.E.var 3] [Rf.E.var 4] [0]) (Rf.E.var 5)))
        (Rf.T.not (Rf.T.e (Rf.E.call 11 [Rf.E.callK 7 [Rf.E.var 3] [Rf.E.var 5] [0], Rf.E.var 4]))))
      [Rf.S.ret (some (Rf.E.lit (Rf.D.bl false)))]
      [],
    Rf.S.asg (Rf.Tg.name 6) (Rf.E.call 19 [Rf.E.var 1, Rf.E.var 5]),
    Rf.S.ife
      (Rf.T.not (Rf.T.e (Rf.E.call 11 [Rf.E.call 7 [Rf.E.var 3, Rf.E.var 6], Rf.E.call 18 [Rf.E.var 3, Rf.E.var 6]])))
      [Rf.S.ret (some (Rf.E.lit (Rf.D.bl false)))]
      [],
    Rf.S.asg (Rf.Tg.tup [Rf.Tg.name 10, Rf.Tg.name 11, Rf.Tg.name 12]) (Rf.E.var 4),
    Rf.S.asg
      (Rf.Tg.name 7)
      (Rf.E.lst
        [Rf.E.lit (Rf.D.non),
         Rf.E.tup [Rf.E.var 10, Rf.E.var 11],
         Rf.E.tup [Rf.E.var 10, Rf.E.var 11, Rf.E.bcall (Rf.B.list) [Rf.E.var 12]],
         Rf.E.tup [Rf.E.bin (PySem.Operator.Add) (Rf.E.var 10) (Rf.E.lit (Rf.D.int 1)), Rf.E.var 11, Rf.E.var 12],
         Rf.E.tup
           [Rf.E.var 10, Rf.E.var 11, Rf.E.bin (PySem.Operator.Add) (Rf.E.var 12) (Rf.E.tup [Rf.E.lit (Rf.D.int 0)])],
         Rf.E.lst [Rf.E.var 10, Rf.E.var 11, Rf.E.var 12],
         Rf.E.tup
           [Rf.E.var 10,
            Rf.E.var 11,
            Rf.E.bin
              (PySem.Operator.Add)
              (Rf.E.slc (Rf.E.var 12) none (some (Rf.E.un (PySem.UnaryOp.USub) (Rf.E.lit (Rf.D.int 1)))))
              (Rf.E.tup
                [Rf.E.bin
                   (PySem.Operator.LShift)
                   (Rf.E.lit (Rf.D.int 1))
                   (Rf.E.bcall (Rf.B.len) [Rf.E.idx (Rf.E.var 3) (Rf.E.lit (Rf.D.int 0))])])],
         Rf.E.tup
           [Rf.E.var 10,
            Rf.E.var 11,
            Rf.E.bin
              (PySem.Operator.Add)
              (Rf.E.slc (Rf.E.var 12) none (some (Rf.E.un (PySem.UnaryOp.USub) (Rf.E.lit (Rf.D.int 1)))))
              (Rf.E.tup [Rf.E.lit (Rf.D.bl true)])],
         Rf.E.tup [Rf.E.lit (Rf.D.int 0), Rf.E.var 11, Rf.E.tup []],
         Rf.E.tup
           [Rf.E.lit (Rf.D.int 9),
            Rf.E.lit (Rf.D.int 1),
            Rf.E.bin (PySem.Operator.Mult) (Rf.E.tup [Rf.E.lit (Rf.D.int 0)]) (Rf.E.lit (Rf.D.int 9))],
         Rf.E.tup [Rf.E.lit (Rf.D.bl true), Rf.E.var 11, Rf.E.var 12]]),
    Rf.S.asg (Rf.Tg.name 8) (Rf.E.call 9 [Rf.E.var 1, Rf.E.var 7]),
    Rf.S.ife
      (Rf.T.or
        (Rf.T.e
          (Rf.E.cmp
            (PySem.CmpOp.NotEq)
            (Rf.E.comp
              [13]
              (Rf.E.var 13)
              (Rf.Tg.name 13)
              (Rf.I.seq (Rf.E.var 7))
              (some (Rf.T.e (Rf.E.call 3 [Rf.E.var 3, Rf.E.var 13]))))
            (Rf.E.lst [])))
        (Rf.T.not (Rf.T.e (Rf.E.callK 3 [Rf.E.var 3] [Rf.E.var 4] [0]))))
      [Rf.S.ret (some (Rf.E.lit (Rf.D.bl false)))]
      [],
    Rf.S.asg
      (Rf.Tg.name 9)
      (Rf.E.lst
        [Rf.E.refused (Rf.E.call 6 [Rf.E.var 3, Rf.E.var 8]),
         Rf.E.refused (Rf.E.call 6 [Rf.E.var 8, Rf.E.var 4]),
         Rf.E.refused (Rf.E.call 7 [Rf.E.var 3, Rf.E.lit (Rf.D.int 5)]),
         Rf.E.refused (Rf.E.call 3 [Rf.E.lit (Rf.D.non), Rf.E.var 4])]),
    Rf.S.ife
      (Rf.T.e
        (Rf.E.cmp
          (PySem.CmpOp.NotEq)
          (Rf.E.var 9)
          (Rf.E.lst
            [Rf.E.lit (Rf.D.str { cps := #[98, 111, 97, 114, 100] }),
             Rf.E.lit (Rf.D.str { cps := #[116, 97, 98, 108, 101] }),
             Rf.E.lit (Rf.D.str { cps := #[116, 101, 120, 116] }),
             Rf.E.lit (Rf.D.str { cps := #[116, 97, 98, 108, 101] })])))
      [Rf.S.ret (some (Rf.E.lit (Rf.D.bl false)))]
      []],
 Rf.S.ret (some (Rf.E.lit (Rf.D.bl true)))]
def Gl : List Fn := [⟨3, 3, b_is_whole⟩, ⟨4, 5, b_are_wholes⟩, ⟨1, 5, b_is_table⟩, ⟨2, 2, b_is_board⟩, ⟨2, 2, b_need⟩, ⟨2, 2, b_need_board⟩, ⟨2, 7, b_drawn⟩, ⟨2, 8, b_read_board⟩, ⟨2, 4, b__law_taken⟩, ⟨2, 2, b__law_pick⟩, ⟨1, 2, [.brk]⟩, ⟨2, 3, b__law_alike⟩, ⟨2, 5, b__law_ways⟩, ⟨1, 2, b__law_specks⟩, ⟨2, 10, b__law_rule⟩, ⟨3, 4, b__law_table⟩, ⟨4, 8, b__law_board⟩, ⟨1, 6, b__law_lines⟩, ⟨2, 6, b__law_read⟩, ⟨2, 5, b__law_spoiled⟩, ⟨1, 14, b_law⟩]
theorem c_is_whole (n : Nat) (ds : List Rf.D) (sto : List SObj) : callN Gl (n + 1) 0 ds sto = runFn (callN Gl n) ⟨3, 3, b_is_whole⟩ ds sto := rfl
theorem c_are_wholes (n : Nat) (ds : List Rf.D) (sto : List SObj) : callN Gl (n + 1) 1 ds sto = runFn (callN Gl n) ⟨4, 5, b_are_wholes⟩ ds sto := rfl
theorem c_is_table (n : Nat) (ds : List Rf.D) (sto : List SObj) : callN Gl (n + 1) 2 ds sto = runFn (callN Gl n) ⟨1, 5, b_is_table⟩ ds sto := rfl
theorem c_is_board (n : Nat) (ds : List Rf.D) (sto : List SObj) : callN Gl (n + 1) 3 ds sto = runFn (callN Gl n) ⟨2, 2, b_is_board⟩ ds sto := rfl
theorem c_need (n : Nat) (ds : List Rf.D) (sto : List SObj) : callN Gl (n + 1) 4 ds sto = runFn (callN Gl n) ⟨2, 2, b_need⟩ ds sto := rfl
theorem c_need_board (n : Nat) (ds : List Rf.D) (sto : List SObj) : callN Gl (n + 1) 5 ds sto = runFn (callN Gl n) ⟨2, 2, b_need_board⟩ ds sto := rfl
theorem c_drawn (n : Nat) (ds : List Rf.D) (sto : List SObj) : callN Gl (n + 1) 6 ds sto = runFn (callN Gl n) ⟨2, 7, b_drawn⟩ ds sto := rfl
theorem c_read_board (n : Nat) (ds : List Rf.D) (sto : List SObj) : callN Gl (n + 1) 7 ds sto = runFn (callN Gl n) ⟨2, 8, b_read_board⟩ ds sto := rfl
theorem c__law_taken (n : Nat) (ds : List Rf.D) (sto : List SObj) : callN Gl (n + 1) 8 ds sto = runFn (callN Gl n) ⟨2, 4, b__law_taken⟩ ds sto := rfl
theorem c__law_pick (n : Nat) (ds : List Rf.D) (sto : List SObj) : callN Gl (n + 1) 9 ds sto = runFn (callN Gl n) ⟨2, 2, b__law_pick⟩ ds sto := rfl
theorem c__law_alike (n : Nat) (ds : List Rf.D) (sto : List SObj) : callN Gl (n + 1) 11 ds sto = runFn (callN Gl n) ⟨2, 3, b__law_alike⟩ ds sto := rfl
theorem c__law_ways (n : Nat) (ds : List Rf.D) (sto : List SObj) : callN Gl (n + 1) 12 ds sto = runFn (callN Gl n) ⟨2, 5, b__law_ways⟩ ds sto := rfl
theorem c__law_specks (n : Nat) (ds : List Rf.D) (sto : List SObj) : callN Gl (n + 1) 13 ds sto = runFn (callN Gl n) ⟨1, 2, b__law_specks⟩ ds sto := rfl
theorem c__law_rule (n : Nat) (ds : List Rf.D) (sto : List SObj) : callN Gl (n + 1) 14 ds sto = runFn (callN Gl n) ⟨2, 10, b__law_rule⟩ ds sto := rfl
theorem c__law_table (n : Nat) (ds : List Rf.D) (sto : List SObj) : callN Gl (n + 1) 15 ds sto = runFn (callN Gl n) ⟨3, 4, b__law_table⟩ ds sto := rfl
theorem c__law_board (n : Nat) (ds : List Rf.D) (sto : List SObj) : callN Gl (n + 1) 16 ds sto = runFn (callN Gl n) ⟨4, 8, b__law_board⟩ ds sto := rfl
theorem c__law_lines (n : Nat) (ds : List Rf.D) (sto : List SObj) : callN Gl (n + 1) 17 ds sto = runFn (callN Gl n) ⟨1, 6, b__law_lines⟩ ds sto := rfl
theorem c__law_read (n : Nat) (ds : List Rf.D) (sto : List SObj) : callN Gl (n + 1) 18 ds sto = runFn (callN Gl n) ⟨2, 6, b__law_read⟩ ds sto := rfl
theorem c__law_spoiled (n : Nat) (ds : List Rf.D) (sto : List SObj) : callN Gl (n + 1) 19 ds sto = runFn (callN Gl n) ⟨2, 5, b__law_spoiled⟩ ds sto := rfl
theorem c_law (n : Nat) (ds : List Rf.D) (sto : List SObj) : callN Gl (n + 1) 20 ds sto = runFn (callN Gl n) ⟨1, 14, b_law⟩ ds sto := rfl
end Lw

set_option Elab.async false
set_option linter.all false
set_option maxRecDepth 100000
/-! Q2: == of plain data; comprehensions by typed items. -/
namespace Rf
open PySem
mutual
/-- ints, texts, None, and tuples and lists of such -/
def nice : D → Bool
  | .non => true
  | .bl _ => false
  | .int _ => true
  | .str x => PyData.strOk x
  | .tup ds => nices ds
  | .lst ds => nices ds
  | .fl _ => false
  | .ref _ => false
def nices : List D → Bool
  | [] => true
  | d :: ds => nice d && nices ds
end
mutual
def dptD : D → Nat
  | .tup ds => dptDs ds + 1
  | .lst ds => dptDs ds + 1
  | _ => 0
def dptDs : List D → Nat
  | [] => 0
  | d :: ds => max (dptD d) (dptDs ds)
end
mutual
theorem toP_nice : ∀ d : D, nice d = true → ∃ p, toP d = some p ∧ p.canLay0 = true ∧ p.depth = dptD d
  | .non, _ => ⟨.none, by simp [toP], by simp [PyData.canLay0], by simp [PyData.depth, dptD]⟩
  | .bl _, h => by simp [nice] at h
  | .int i, _ => ⟨.int i, by simp [toP], by simp [PyData.canLay0], by simp [PyData.depth, dptD]⟩
  | .str x, h => ⟨.str x, by simp [toP], by simpa [PyData.canLay0, nice] using h, by simp [PyData.depth, dptD]⟩
  | .tup ds, h => by
    obtain ⟨ps, e, c, k⟩ := toPs_nice ds (by simpa [nice] using h)
    exact ⟨.tuple ps, by simp [toP, e], by simpa [PyData.canLay0] using c, by simp [PyData.depth, dptD, k]⟩
  | .lst ds, h => by
    obtain ⟨ps, e, c, k⟩ := toPs_nice ds (by simpa [nice] using h)
    exact ⟨.list ps, by simp [toP, e], by simpa [PyData.canLay0] using c, by simp [PyData.depth, dptD, k]⟩
  | .fl _, h => by simp [nice] at h
  | .ref _, h => by simp [nice] at h
theorem toPs_nice : ∀ ds : List D, nices ds = true → ∃ ps, toPs ds = some ps ∧ PyData.canLayAll0 ps = true ∧ PyData.depthAll ps = dptDs ds
  | [], _ => ⟨[], by simp [toPs], by simp [PyData.canLayAll0], by simp [PyData.depthAll, dptDs]⟩
  | d :: ds, h => by
    have h' : nice d = true ∧ nices ds = true := by simpa [nices] using h
    obtain ⟨p, e, c, k⟩ := toP_nice d h'.1
    obtain ⟨ps, e2, c2, k2⟩ := toPs_nice ds h'.2
    exact ⟨p :: ps, by simp [toPs, e, e2], by simp [PyData.canLayAll0, c, c2], by simp [PyData.depthAll, dptDs, k, k2]⟩
end
mutual
theorem eqv_nice : ∀ (x y : D) (p q : PyData), nice x = true → nice y = true → toP x = some p → toP y = some q → (PyData.eqv p q = true ↔ x = y)
  | .non, y, p, q, _, hy, hp, hq => by
    simp only [toP, Option.some.injEq] at hp
    subst hp
    cases y with
    | bl _ => simp [nice] at hy
    | fl _ => simp [nice] at hy
    | ref _ => simp [nice] at hy
    | tup ys =>
      simp only [toP, Option.map_eq_some_iff] at hq
      obtain ⟨qs, hqs, rfl⟩ := hq
      simp [PyData.eqv]
    | lst ys =>
      simp only [toP, Option.map_eq_some_iff] at hq
      obtain ⟨qs, hqs, rfl⟩ := hq
      simp [PyData.eqv]
    | non =>
      simp only [toP, Option.some.injEq] at hq
      subst hq
      simp [PyData.eqv]
    | int j =>
      simp only [toP, Option.some.injEq] at hq
      subst hq
      simp [PyData.eqv]
    | str j =>
      simp only [toP, Option.some.injEq] at hq
      subst hq
      simp [PyData.eqv]
  | .bl _, _, _, _, h, _, _, _ => by simp [nice] at h
  | .fl _, _, _, _, h, _, _, _ => by simp [nice] at h
  | .ref _, _, _, _, h, _, _, _ => by simp [nice] at h
  | .int i, y, p, q, _, hy, hp, hq => by
    simp only [toP, Option.some.injEq] at hp
    subst hp
    cases y with
    | bl _ => simp [nice] at hy
    | fl _ => simp [nice] at hy
    | ref _ => simp [nice] at hy
    | tup ys =>
      simp only [toP, Option.map_eq_some_iff] at hq
      obtain ⟨qs, hqs, rfl⟩ := hq
      simp [PyData.eqv]
    | lst ys =>
      simp only [toP, Option.map_eq_some_iff] at hq
      obtain ⟨qs, hqs, rfl⟩ := hq
      simp [PyData.eqv]
    | non =>
      simp only [toP, Option.some.injEq] at hq
      subst hq
      simp [PyData.eqv]
    | int j =>
      simp only [toP, Option.some.injEq] at hq
      subst hq
      simp [PyData.eqv]
    | str j =>
      simp only [toP, Option.some.injEq] at hq
      subst hq
      simp [PyData.eqv]
  | .str i, y, p, q, _, hy, hp, hq => by
    simp only [toP, Option.some.injEq] at hp
    subst hp
    cases y with
    | bl _ => simp [nice] at hy
    | fl _ => simp [nice] at hy
    | ref _ => simp [nice] at hy
    | tup ys =>
      simp only [toP, Option.map_eq_some_iff] at hq
      obtain ⟨qs, hqs, rfl⟩ := hq
      simp [PyData.eqv]
    | lst ys =>
      simp only [toP, Option.map_eq_some_iff] at hq
      obtain ⟨qs, hqs, rfl⟩ := hq
      simp [PyData.eqv]
    | non =>
      simp only [toP, Option.some.injEq] at hq
      subst hq
      simp [PyData.eqv]
    | int j =>
      simp only [toP, Option.some.injEq] at hq
      subst hq
      simp [PyData.eqv]
    | str j =>
      simp only [toP, Option.some.injEq] at hq
      subst hq
      simp [PyData.eqv]
  | .tup xs, y, p, q, hx, hy, hp, hq => by
    simp only [toP, Option.map_eq_some_iff] at hp
    obtain ⟨ps, hps, rfl⟩ := hp
    cases y with
    | tup ys =>
      simp only [toP, Option.map_eq_some_iff] at hq
      obtain ⟨qs, hqs, rfl⟩ := hq
      have := eqvs_nice xs ys ps qs (by simpa [nice] using hx) (by simpa [nice] using hy) hps hqs
      simpa [PyData.eqv] using this
    | lst ys =>
      simp only [toP, Option.map_eq_some_iff] at hq
      obtain ⟨qs, hqs, rfl⟩ := hq
      simp [PyData.eqv]
    | bl _ => simp [nice] at hy
    | fl _ => simp [nice] at hy
    | ref _ => simp [nice] at hy
    | non =>
      simp only [toP, Option.some.injEq] at hq
      subst hq
      simp [PyData.eqv]
    | int j =>
      simp only [toP, Option.some.injEq] at hq
      subst hq
      simp [PyData.eqv]
    | str j =>
      simp only [toP, Option.some.injEq] at hq
      subst hq
      simp [PyData.eqv]
  | .lst xs, y, p, q, hx, hy, hp, hq => by
    simp only [toP, Option.map_eq_some_iff] at hp
    obtain ⟨ps, hps, rfl⟩ := hp
    cases y with
    | lst ys =>
      simp only [toP, Option.map_eq_some_iff] at hq
      obtain ⟨qs, hqs, rfl⟩ := hq
      have := eqvs_nice xs ys ps qs (by simpa [nice] using hx) (by simpa [nice] using hy) hps hqs
      simpa [PyData.eqv] using this
    | tup ys =>
      simp only [toP, Option.map_eq_some_iff] at hq
      obtain ⟨qs, hqs, rfl⟩ := hq
      simp [PyData.eqv]
    | bl _ => simp [nice] at hy
    | fl _ => simp [nice] at hy
    | ref _ => simp [nice] at hy
    | non =>
      simp only [toP, Option.some.injEq] at hq
      subst hq
      simp [PyData.eqv]
    | int j =>
      simp only [toP, Option.some.injEq] at hq
      subst hq
      simp [PyData.eqv]
    | str j =>
      simp only [toP, Option.some.injEq] at hq
      subst hq
      simp [PyData.eqv]
termination_by x => sizeOf x
theorem eqvs_nice : ∀ (xs ys : List D) (ps qs : List PyData), nices xs = true → nices ys = true → toPs xs = some ps → toPs ys = some qs → (PyData.eqvAll ps qs = true ↔ xs = ys)
  | [], [], ps, qs, _, _, hp, hq => by
    simp [toPs] at hp hq
    subst hp
    subst hq
    simp [PyData.eqvAll]
  | [], y :: ys, ps, qs, _, _, hp, hq => by
    simp only [toPs, Option.bind_eq_some_iff, Option.map_eq_some_iff, Option.some.injEq] at hp hq
    obtain ⟨_, _, _, _, rfl⟩ := hq
    subst hp
    simp [PyData.eqvAll]
  | x :: xs, [], ps, qs, _, _, hp, hq => by
    simp only [toPs, Option.bind_eq_some_iff, Option.map_eq_some_iff, Option.some.injEq] at hp hq
    obtain ⟨_, _, _, _, rfl⟩ := hp
    subst hq
    simp [PyData.eqvAll]
  | x :: xs, y :: ys, ps, qs, hx, hy, hp, hq => by
    simp only [toPs, Option.bind_eq_some_iff, Option.map_eq_some_iff, Option.some.injEq] at hp hq
    obtain ⟨p, h1, ps', h2, rfl⟩ := hp
    obtain ⟨q, h3, qs', h4, rfl⟩ := hq
    have hx' : nice x = true ∧ nices xs = true := by simpa [nices] using hx
    have hy' : nice y = true ∧ nices ys = true := by simpa [nices] using hy
    have a := eqv_nice x y p q hx'.1 hy'.1 h1 h3
    have b := eqvs_nice xs ys ps' qs' hx'.2 hy'.2 h2 h4
    simp [PyData.eqvAll, a, b]
termination_by xs => sizeOf xs
end
open Classical in
theorem eqD_nice {x y : D} (hx : nice x = true) (hy : nice y = true) (dx : dptD x ≤ 64) (dy : dptD y ≤ 64) : eqD x y = some (decide (x = y)) := by
  obtain ⟨p, e, c, k⟩ := toP_nice x hx
  obtain ⟨q, e2, c2, k2⟩ := toP_nice y hy
  have h := eqv_nice x y p q hx hy e e2
  unfold eqD
  rw [e, e2, Option.bind_some, Option.bind_some, if_pos (by unfold SeqAt.shaped; simp [c, c2, k, k2, dx, dy])]
  congr 1
  cases hb : PyData.eqv p q with
  | true => rw [hb] at h; rw [decide_eq_true (h.mp rfl)]
  | false =>
    rw [hb] at h
    rw [decide_eq_false]
    intro e
    have := h.mpr e
    cases this
theorem nices_map {α : Type} {f : α → D} (h : ∀ a, nice (f a) = true) : ∀ l : List α, nices (l.map f) = true
  | [] => by simp [nices]
  | a :: l => by simp [nices, h a, nices_map h l]
theorem dptDs_map {α : Type} {f : α → D} {k : Nat} (h : ∀ a, dptD (f a) ≤ k) : ∀ l : List α, dptDs (l.map f) ≤ k
  | [] => by simp [dptDs]
  | a :: l => by
    have := dptDs_map h l
    have := h a
    simp only [List.map_cons, dptDs]
    omega
theorem map_inj {α β : Type} {f : α → β} (h : ∀ a b, f a = f b → a = b) : ∀ {l r : List α}, l.map f = r.map f ↔ l = r
  | [], [] => by simp
  | [], _ :: _ => by simp
  | _ :: _, [] => by simp
  | a :: l, b :: r => by
    simp only [List.map_cons, List.cons.injEq, map_inj h (l := l) (r := r)]
    constructor
    · rintro ⟨e, rfl⟩
      exact ⟨h _ _ e, rfl⟩
    · rintro ⟨rfl, rfl⟩
      exact ⟨rfl, rfl⟩
theorem int_inj (a b : Int) (h : D.int a = D.int b) : a = b := by
  cases h
  rfl
theorem eqD_ints (a b : List Int) : eqD (.lst (a.map D.int)) (.lst (b.map D.int)) = some (decide (a = b)) := by
  rw [eqD_nice (by simp only [nice]; exact nices_map (fun _ => rfl) a) (by simp only [nice]; exact nices_map (fun _ => rfl) b)
    (by simp only [dptD]; have := dptDs_map (f := D.int) (k := 0) (fun _ => Nat.le_refl _) a; omega) (by simp only [dptD]; have := dptDs_map (f := D.int) (k := 0) (fun _ => Nat.le_refl _) b; omega)]
  congr 1
  apply decide_eq_decide.mpr
  rw [← map_inj int_inj (l := a) (r := b)]
  constructor
  · intro e
    exact D.lst.inj e
  · intro e
    rw [e]
theorem eqD_tints (a b : List Int) : eqD (.tup (a.map D.int)) (.tup (b.map D.int)) = some (decide (a = b)) := by
  rw [eqD_nice (by simp only [nice]; exact nices_map (fun _ => rfl) a) (by simp only [nice]; exact nices_map (fun _ => rfl) b)
    (by simp only [dptD]; have := dptDs_map (f := D.int) (k := 0) (fun _ => Nat.le_refl _) a; omega) (by simp only [dptD]; have := dptDs_map (f := D.int) (k := 0) (fun _ => Nat.le_refl _) b; omega)]
  congr 1
  apply decide_eq_decide.mpr
  rw [← map_inj int_inj (l := a) (r := b)]
  constructor
  · intro e
    exact D.tup.inj e
  · intro e
    rw [e]
/-- a list of any nice items against the empty one -/
theorem eqD_lnil (ds : List D) (h : nices ds = true) (hd : dptDs ds ≤ 60) : eqD (.lst ds) (.lst []) = some ds.isEmpty := by
  rw [eqD_nice (by simpa only [nice] using h) (by simp [nice, nices]) (by simp only [dptD]; omega) (by simp [dptD, dptDs])]
  congr 1
  cases ds with
  | nil => simp
  | cons a l => simp

/-! ### comprehensions by typed items -/
theorem comp_map {cl : Call} {vs : List Nat} {elt : E} {t : Tg} {it : I} {s s1 : Sg} {o : Option Nat} {α : Type} (l : List α) (g : α → D) (k : α → D) (hit : evW cl it s = some (.ok (l.map g, o), s1)) (hh : heldB o (l.map g) { s1 with env := wipeE vs s1.env } = true)
    (ht : ∀ a ∈ l, turnC cl (l.map g, o) vs elt t none (g a) { s1 with env := wipeE vs s1.env } = some (.ok (some (k a)), { s1 with env := wipeE vs s1.env })) (hl : l.length ≤ sizeLine) :
    evE cl (.comp vs elt t it none) s = some (.ok (.own (l.map k)), { s1 with env := restore vs s1.env (wipeE vs s1.env) }) := by
  rw [comp_eq, hit]
  simp only [bnd_ok]
  have key : ∀ (m : List α) (acc : List D), (∀ a ∈ m, a ∈ l) → acc.length + m.length ≤ sizeLine → compGo (turnC cl (l.map g, o) vs elt t none) acc (m.map g) { s1 with env := wipeE vs s1.env } = some (.ok (acc ++ m.map k), { s1 with env := wipeE vs s1.env }) := by
    intro m
    induction m with
    | nil => intro acc _ _; rw [List.map_nil, compGo, List.map_nil, List.append_nil]
    | cons a m ih =>
      intro acc hm hl
      rw [List.length_cons] at hl
      rw [List.map_cons, compGo, ht a (hm a (by simp))]
      simp only [bnd_ok]
      rw [if_pos (by omega), ih (acc ++ [k a]) (fun x hx => hm x (by simp [hx])) (by simp; omega)]
      simp
  rw [key l [] (fun _ h => h) (by simpa using hl)]
  simp only [bnd_ok, List.nil_append]
  rw [if_pos hh]
theorem comp_filter {cl : Call} {vs : List Nat} {elt : E} {t : Tg} {it : I} {c : Option T} {s s1 : Sg} {o : Option Nat} {α : Type} (l : List α) (g : α → D) (f : α → Bool) (k : α → D) (hit : evW cl it s = some (.ok (l.map g, o), s1)) (hh : heldB o (l.map g) { s1 with env := wipeE vs s1.env } = true)
    (ht : ∀ a ∈ l, turnC cl (l.map g, o) vs elt t c (g a) { s1 with env := wipeE vs s1.env } = some (.ok (if f a = true then some (k a) else none), { s1 with env := wipeE vs s1.env })) (hl : l.length ≤ sizeLine) :
    evE cl (.comp vs elt t it c) s = some (.ok (.own ((l.filter f).map k)), { s1 with env := restore vs s1.env (wipeE vs s1.env) }) := by
  rw [comp_eq, hit]
  simp only [bnd_ok]
  have key : ∀ (m : List α) (acc : List D), (∀ a ∈ m, a ∈ l) → acc.length + m.length ≤ sizeLine → compGo (turnC cl (l.map g, o) vs elt t c) acc (m.map g) { s1 with env := wipeE vs s1.env } = some (.ok (acc ++ (m.filter f).map k), { s1 with env := wipeE vs s1.env }) := by
    intro m
    induction m with
    | nil => intro acc _ _; rw [List.map_nil, compGo, List.filter_nil, List.map_nil, List.append_nil]
    | cons a m ih =>
      intro acc hm hl
      rw [List.length_cons] at hl
      rw [List.map_cons, compGo, ht a (hm a (by simp))]
      simp only [bnd_ok]
      cases e : f a with
      | true =>
        rw [List.filter_cons_of_pos e]
        simp only [if_true]
        rw [if_pos (by omega), ih (acc ++ [k a]) (fun x hx => hm x (by simp [hx])) (by simp; omega)]
        simp
      | false =>
        rw [List.filter_cons_of_neg (by simp [e])]
        simp only [Bool.false_eq_true, if_false]
        rw [ih acc (fun x hx => hm x (by simp [hx])) (by omega)]
  rw [key l [] (fun _ h => h) (by simpa using hl)]
  simp only [bnd_ok, List.nil_append]
  rw [if_pos hh]
/-- a loop over typed items that has an invariant -/
theorem loop_inv {turn : D → Sg → Rf'} {α : Type} (l : List α) (g : α → D) (J : Nat → Sg → Prop) {s : Sg} (h0 : J 0 s) (ht : ∀ i a s, l[i]? = some a → J i s → ∃ s', (turn (g a) s = some (.nx, s') ∨ turn (g a) s = some (.ct, s')) ∧ J (i + 1) s') :
    ∃ s', loopGo turn (l.map g) s = some (.nx, s') ∧ J l.length s' := by
  have key : ∀ (m : List α) (k : Nat) (s : Sg), J k s → (∀ i a s, m[i]? = some a → J (k + i) s → ∃ s', (turn (g a) s = some (.nx, s') ∨ turn (g a) s = some (.ct, s')) ∧ J (k + i + 1) s') → ∃ s', loopGo turn (m.map g) s = some (.nx, s') ∧ J (k + m.length) s' := by
    intro m
    induction m with
    | nil => intro k s h _; exact ⟨s, rfl, h⟩
    | cons a m ih =>
      intro k s h ht
      obtain ⟨s1, e, j⟩ := ht 0 a s rfl h
      obtain ⟨s2, e2, j2⟩ := ih (k + 1) s1 j fun i x s' hx hj => by
        have z := ht (i + 1) x s' (by simpa using hx) (by rw [show k + (i + 1) = k + 1 + i by omega]; exact hj)
        rw [show k + (i + 1) + 1 = k + 1 + i + 1 by omega] at z
        exact z
      refine ⟨s2, ?_, by rw [List.length_cons, show k + (m.length + 1) = k + 1 + m.length by omega]; exact j2⟩
      rw [List.map_cons, loopGo]
      rcases e with e | e <;> rw [e] <;> exact e2
  obtain ⟨s', e, j⟩ := key l 0 s h0 fun i a s ha hj => by
    rw [Nat.zero_add] at *
    exact ht i a s ha hj
  rw [Nat.zero_add] at j
  exact ⟨s', e, j⟩
/-- a loop that may return -/
theorem loop_ret {turn : D → Sg → Rf'} {α : Type} (l : List α) (g : α → D) (J : Nat → Sg → Prop) (R : D → Sg → Prop) {s : Sg} (h0 : J 0 s) (ht : ∀ i a s, l[i]? = some a → J i s → (∃ s', (turn (g a) s = some (.nx, s') ∨ turn (g a) s = some (.ct, s')) ∧ J (i + 1) s') ∨ ∃ d s', turn (g a) s = some (.rt d, s') ∧ R d s') :
    (∃ s', loopGo turn (l.map g) s = some (.nx, s') ∧ J l.length s') ∨ ∃ d s', loopGo turn (l.map g) s = some (.rt d, s') ∧ R d s' := by
  have key : ∀ (m : List α) (k : Nat) (s : Sg), J k s → (∀ i a s, m[i]? = some a → J (k + i) s → (∃ s', (turn (g a) s = some (.nx, s') ∨ turn (g a) s = some (.ct, s')) ∧ J (k + i + 1) s') ∨ ∃ d s', turn (g a) s = some (.rt d, s') ∧ R d s') →
      (∃ s', loopGo turn (m.map g) s = some (.nx, s') ∧ J (k + m.length) s') ∨ ∃ d s', loopGo turn (m.map g) s = some (.rt d, s') ∧ R d s' := by
    intro m
    induction m with
    | nil => intro k s h _; exact .inl ⟨s, rfl, h⟩
    | cons a m ih =>
      intro k s h ht
      rcases ht 0 a s rfl h with ⟨s1, e, j⟩ | ⟨d, s1, e, r⟩
      · rcases ih (k + 1) s1 j (fun i x s' hx hj => by
          have z := ht (i + 1) x s' (by simpa using hx) (by rw [show k + (i + 1) = k + 1 + i by omega]; exact hj)
          rw [show k + (i + 1) + 1 = k + 1 + i + 1 by omega] at z
          exact z) with ⟨s2, e2, j2⟩ | ⟨d, s2, e2, r⟩
        · refine .inl ⟨s2, ?_, by rw [List.length_cons, show k + (m.length + 1) = k + 1 + m.length by omega]; exact j2⟩
          rw [List.map_cons, loopGo]
          rcases e with e | e <;> rw [e] <;> exact e2
        · refine .inr ⟨d, s2, ?_, r⟩
          rw [List.map_cons, loopGo]
          rcases e with e | e <;> rw [e] <;> exact e2
      · refine .inr ⟨d, s1, ?_, r⟩
        rw [List.map_cons, loopGo, e]
  rcases key l 0 s h0 (fun i a s ha hj => by
    rw [Nat.zero_add] at *
    exact ht i a s ha hj) with ⟨s', e, j⟩ | h
  · rw [Nat.zero_add] at j
    exact .inl ⟨s', e, j⟩
  · exact .inr h
/-- a comprehension whose turns change the store, and filter nothing -/
theorem comp_st {cl : Call} {vs : List Nat} {elt : E} {t : Tg} {it : I} {c : Option T} {s s1 : Sg} {ds : List D} {o : Option Nat} {J : List SObj → Prop} {R : D → Prop} (hit : evW cl it s = some (.ok (ds, o), s1)) (hh : ∀ st, heldB o ds ⟨wipeE vs s1.env, st⟩ = true)
    (ht : ∀ d ∈ ds, ∀ st, J st → ∃ x st', turnC cl (ds, o) vs elt t c d ⟨wipeE vs s1.env, st⟩ = some (.ok (some x), ⟨wipeE vs s1.env, st'⟩) ∧ J st' ∧ R x) (hl : ds.length ≤ sizeLine) (hj : J s1.sto) :
    ∃ xs st', evE cl (.comp vs elt t it c) s = some (.ok (.own xs), ⟨restore vs s1.env (wipeE vs s1.env), st'⟩) ∧ J st' ∧ xs.length = ds.length ∧ ∀ x ∈ xs, R x := by
  obtain ⟨xs, s', e, ⟨he, j⟩, l, r⟩ := compGo_st (turn := turnC cl (ds, o) vs elt t c) (J := fun s => s.env = wipeE vs s1.env ∧ J s.sto) (R := R) ds [] { s1 with env := wipeE vs s1.env } (fun d hd s hs => by
    obtain ⟨he, hs⟩ := hs
    obtain ⟨x, st', e, j, r⟩ := ht d hd s.sto hs
    have hs' : s = ⟨wipeE vs s1.env, s.sto⟩ := by rw [← he]
    rw [hs']
    exact ⟨x, _, e, ⟨rfl, j⟩, r⟩) (by simpa using hl) ⟨rfl, hj⟩
  refine ⟨xs, s'.sto, ?_, j, l, r⟩
  rw [comp_eq, hit]
  simp only [bnd_ok]
  rw [e]
  simp only [bnd_ok, List.nil_append]
  have hs' : s' = ⟨wipeE vs s1.env, s'.sto⟩ := by rw [← he]
  have hz := hh s'.sto
  rw [← hs'] at hz
  rw [if_pos hz, he]
/-- a loop that returns what the first item gives that gives something -/
theorem loop_find {turn : D → Sg → Rf'} {α : Type} (J : Sg → Prop) (F : α → Option D) (g : α → D) : ∀ (l : List α) (s : Sg), (∀ a ∈ l, ∀ s, J s → ∃ s', turn (g a) s = some ((match F a with | some d => Fl.rt d | none => Fl.nx), s') ∧ J s') → J s →
    ∃ s', loopGo turn (l.map g) s = some ((match l.findSome? F with | some d => Fl.rt d | none => Fl.nx), s') ∧ J s'
  | [], s, _, h => ⟨s, rfl, h⟩
  | a :: l, s, ht, h => by
    obtain ⟨s1, e, j⟩ := ht a (by simp) s h
    rw [List.map_cons, loopGo, List.findSome?_cons]
    cases q : F a with
    | some d =>
      rw [q] at e
      exact ⟨s1, by rw [e], j⟩
    | none =>
      rw [q] at e
      obtain ⟨s2, e2, j2⟩ := loop_find J F g l s1 (fun x hx => ht x (by simp [hx])) j
      exact ⟨s2, by rw [e]; exact e2, j2⟩
theorem bools_ints {α : Type} (f : α → Int) (a : α) (l : List α) : bools ((a :: l).map fun x => D.int (f x)) = none := rfl
theorem any_ints {α : Type} (f : α → Int) : ∀ l : List α, bcall .any [.lst (l.map fun x => D.int (f x))] = some (.d (.bl (l.any fun x => f x != 0)))
  | [] => rfl
  | a :: l => by
    show (match bools ((a :: l).map fun x => D.int (f x)) with
      | some bs => some (Hd.d (.bl (List.any bs id)))
      | none => (intsOf ((a :: l).map fun x => D.int (f x))).map fun bs => Hd.d (.bl (List.any bs (· != 0)))) = _
    rw [bools_ints, ints_map]
    simp [List.any_map, Function.comp_def]
/-- two rows, place by place -/
inductive All2 {α β : Type} (R : α → β → Prop) : List α → List β → Prop
  | nil : All2 R [] []
  | cons {a : α} {b : β} {l : List α} {m : List β} : R a b → All2 R l m → All2 R (a :: l) (b :: m)
theorem All2.length {α β : Type} {R : α → β → Prop} {l : List α} {m : List β} (h : All2 R l m) : l.length = m.length := by
  induction h with
  | nil => rfl
  | cons _ _ ih => rw [List.length_cons, List.length_cons, ih]
/-- a comprehension whose turns change the store, item by item -/
theorem comp_st2 {cl : Call} {vs : List Nat} {elt : E} {t : Tg} {it : I} {c : Option T} {s s1 : Sg} {o : Option Nat} {α : Type} (l : List α) (g : α → D) {J : List SObj → Prop} {R : α → D → Prop} (hit : evW cl it s = some (.ok (l.map g, o), s1)) (hh : ∀ st, heldB o (l.map g) ⟨wipeE vs s1.env, st⟩ = true)
    (ht : ∀ a ∈ l, ∀ st, J st → ∃ x st', turnC cl (l.map g, o) vs elt t c (g a) ⟨wipeE vs s1.env, st⟩ = some (.ok (some x), ⟨wipeE vs s1.env, st'⟩) ∧ J st' ∧ R a x) (hl : l.length ≤ sizeLine) (hj : J s1.sto) :
    ∃ xs st', evE cl (.comp vs elt t it c) s = some (.ok (.own xs), ⟨restore vs s1.env (wipeE vs s1.env), st'⟩) ∧ J st' ∧ All2 R l xs := by
  have key : ∀ (m : List α) (acc : List D) (st : List SObj), (∀ a ∈ m, a ∈ l) → acc.length + m.length ≤ sizeLine → J st → ∃ xs st', compGo (turnC cl (l.map g, o) vs elt t c) acc (m.map g) ⟨wipeE vs s1.env, st⟩ = some (.ok (acc ++ xs), ⟨wipeE vs s1.env, st'⟩) ∧ J st' ∧ All2 R m xs := by
    intro m
    induction m with
    | nil => intro acc st _ _ hj; exact ⟨[], st, by rw [List.map_nil, compGo, List.append_nil], hj, .nil⟩
    | cons a m ih =>
      intro acc st hm hl hj
      rw [List.length_cons] at hl
      obtain ⟨x, st1, e, j1, r⟩ := ht a (hm a (by simp)) st hj
      obtain ⟨xs, st2, e2, j2, r2⟩ := ih (acc ++ [x]) st1 (fun y hy => hm y (by simp [hy])) (by simp; omega) j1
      refine ⟨x :: xs, st2, ?_, j2, .cons r r2⟩
      rw [List.map_cons, compGo, e]
      simp only [bnd_ok]
      rw [if_pos (by omega), e2]
      simp
  obtain ⟨xs, st', e, j, r⟩ := key l [] s1.sto (fun _ h => h) (by simpa using hl) hj
  refine ⟨xs, st', ?_, j, r⟩
  rw [comp_eq, hit]
  simp only [bnd_ok]
  rw [e]
  simp only [bnd_ok, List.nil_append]
  rw [if_pos (hh st')]
end Rf

set_option Elab.async false
set_option linter.all false
set_option maxRecDepth 100000
/-! M03: places and bits. -/
namespace Lp
open PySem Rf
/-- a state by its bits -/
def mkS (m : Nat) (f : Nat → Bool) : Int := ((List.range m).map fun i => if f i = true then (2 ^ i : Int) else 0).sum
theorem mk_congr {m : Nat} {f h : Nat → Bool} (e : ∀ i, i < m → f i = h i) : mkS m f = mkS m h := by
  unfold mkS
  congr 1
  refine List.map_congr_left fun i hi => ?_
  rw [e i (List.mem_range.mp hi)]
theorem mk_or {m k : Nat} (hm : m ≤ 4) (hk : k < m) (f : Nat → Bool) : Builtin.bitOr (mkS m f) (2 ^ k) = mkS m (fun i => f i || decide (i = k)) := by
  have key : ∀ (b0 b1 b2 b3 : Bool) (k : Fin 4), Builtin.bitOr ((if b0 then 1 else 0) + ((if b1 then 2 else 0) + ((if b2 then 4 else 0) + ((if b3 then 8 else 0) + 0)))) (2 ^ k.val) =
      ((if b0 || decide (0 = k.val) then 1 else 0) + ((if b1 || decide (1 = k.val) then 2 else 0) + ((if b2 || decide (2 = k.val) then 4 else 0) + ((if b3 || decide (3 = k.val) then 8 else 0) + 0))) : Int) := by decide
  have ext : ∀ h : Nat → Bool, mkS m h = mkS 4 (fun i => decide (i < m) && h i) := fun h => by
    have c : m = 0 ∨ m = 1 ∨ m = 2 ∨ m = 3 ∨ m = 4 := by omega
    rcases c with rfl | rfl | rfl | rfl | rfl <;> simp [mkS, List.range_succ]
  rw [ext, ext]
  have k4 : k < 4 := by omega
  have := key (decide (0 < m) && f 0) (decide (1 < m) && f 1) (decide (2 < m) && f 2) (decide (3 < m) && f 3) ⟨k, k4⟩
  simp only [mkS, List.range_succ, List.range_zero, List.nil_append, List.cons_append, List.map_cons, List.map_nil, List.sum_cons, List.sum_nil]
  have p0 : (2 ^ 0 : Int) = 1 := rfl
  have p1 : (2 ^ 1 : Int) = 2 := rfl
  have p2 : (2 ^ 2 : Int) = 4 := rfl
  have p3 : (2 ^ 3 : Int) = 8 := rfl
  rw [p0, p1, p2, p3]
  have e : ∀ i, i < 4 → (decide (i < m) && (f i || decide (i = k))) = ((decide (i < m) && f i) || decide (i = k)) := fun i _ => by
    by_cases h : i = k
    · subst h; simp [hk]
    · simp [h]
  simp only [e 0 (by decide), e 1 (by decide), e 2 (by decide), e 3 (by decide)]
  exact this
theorem mk_zero {m : Nat} : mkS m (fun _ => false) = 0 := by
  unfold mkS
  have : ((List.range m).map fun i => if false = true then (2 ^ i : Int) else 0) = List.replicate m 0 := by
    simp [List.map_const']
  rw [this]
  simp
/-- where a speck of that way goes -/
def goalN (wide high place dx dy : Int) : Int := (place / wide + dy) % high * wide + (place % wide + dx) % wide
theorem goal_rng {wide high place dx dy : Int} (hw : 0 < wide) (hh : 0 < high) : 0 ≤ goalN wide high place dx dy ∧ goalN wide high place dx dy < wide * high := by
  unfold goalN
  have a1 := Int.emod_nonneg (place / wide + dy) (Int.ne_of_gt hh)
  have a2 := Int.emod_lt_of_pos (place / wide + dy) hh
  have b1 := Int.emod_nonneg (place % wide + dx) (Int.ne_of_gt hw)
  have b2 := Int.emod_lt_of_pos (place % wide + dx) hw
  have h1 : 0 ≤ (place / wide + dy) % high * wide := Int.mul_nonneg a1 (by omega)
  refine ⟨by omega, ?_⟩
  have h2 : ((place / wide + dy) % high + 1) * wide ≤ high * wide := Int.mul_le_mul_of_nonneg_right (by omega) (by omega)
  rw [Int.add_mul, Int.one_mul] at h2
  rw [Int.mul_comm wide high]
  omega
theorem goal_back {wide high place dx dy : Int} (hw : 0 < wide) (hh : 0 < high) (h0 : 0 ≤ place) (h1 : place < wide * high) : goalN wide high (goalN wide high place dx dy) (-dx) (-dy) = place := by
  have b1 := Int.emod_nonneg (place % wide + dx) (Int.ne_of_gt hw)
  have b2 := Int.emod_lt_of_pos (place % wide + dx) hw
  have d : goalN wide high place dx dy / wide = (place / wide + dy) % high := by
    unfold goalN
    rw [Int.add_comm, Int.add_mul_ediv_right _ _ (Int.ne_of_gt hw), Int.ediv_eq_zero_of_lt b1 b2, Int.zero_add]
  have r : goalN wide high place dx dy % wide = (place % wide + dx) % wide := by
    unfold goalN
    rw [Int.add_comm, Int.add_mul_emod_self_right, Int.emod_emod_of_dvd _ (Int.dvd_refl _)]
  have q0 : 0 ≤ place / wide := Int.ediv_nonneg h0 (by omega)
  have q1 : place / wide < high := Int.ediv_lt_of_lt_mul hw (by rw [Int.mul_comm]; exact h1)
  show (goalN wide high place dx dy / wide + -dy) % high * wide + (goalN wide high place dx dy % wide + -dx) % wide = place
  rw [d, r]
  have e1 : ((place / wide + dy) % high + -dy) % high = place / wide := by
    rw [Int.emod_add_emod, Int.add_neg_cancel_right, Int.emod_eq_of_lt q0 q1]
  have e2 : ((place % wide + dx) % wide + -dx) % wide = place % wide := by
    rw [Int.emod_add_emod, Int.add_neg_cancel_right, Int.emod_emod_of_dvd _ (Int.dvd_refl _)]
  rw [e1, e2, Int.mul_comm]
  exact Int.mul_ediv_add_emod place wide
theorem goal_forth {wide high place dx dy : Int} (hw : 0 < wide) (hh : 0 < high) (h0 : 0 ≤ place) (h1 : place < wide * high) : goalN wide high (goalN wide high place (-dx) (-dy)) dx dy = place := by
  have := goal_back (dx := -dx) (dy := -dy) hw hh h0 h1
  rw [Int.neg_neg, Int.neg_neg] at this
  exact this
/-- a bit -/
def bitAt (c : Int) (i : Nat) : Bool := decide (c / 2 ^ i % 2 = 1)
end Lp

set_option Elab.async false
set_option linter.all false
set_option maxRecDepth 100000
/-! M03b: a board moved: by goals, by sources. -/
namespace Lp
open PySem Rf
section
variable (ways : List (Int × Int)) (wide high : Int) (cells : List Int)
/-- whence the speck of the way i comes to the place j -/
def src (i j : Nat) : Int := goalN wide high j (-(ways.getD i (0, 0)).1) (-(ways.getD i (0, 0)).2)
def cellAt (x : Int) : Int := cells.getD x.toNat 0
/-- what is laid when the places before p, and of p the ways before a, are through -/
def laid (p a j : Nat) (i : Nat) : Bool := decide (src ways wide high i j < p ∨ (src ways wide high i j = p ∧ i < a)) && bitAt (cellAt cells (src ways wide high i j)) i
def fL (N p a : Nat) : List Int := (List.range N).map fun j => mkS ways.length (laid ways wide high cells p a j)
/-- the board moved -/
def movC (N : Nat) : List Int := (List.range N).map fun j => mkS ways.length (fun i => bitAt (cellAt cells (src ways wide high i j)) i)
end
section
variable {ways : List (Int × Int)} {wide high : Int} {cells : List Int} {N : Nat}
theorem src_rng (hw : 0 < wide) (hh : 0 < high) (i j : Nat) : 0 ≤ src ways wide high i j ∧ src ways wide high i j < wide * high := goal_rng hw hh
theorem fL_zero : fL ways wide high cells N 0 0 = List.replicate N 0 ∨ ¬ (0 < wide ∧ 0 < high) := by
  by_cases h : 0 < wide ∧ 0 < high
  · refine .inl ?_
    unfold fL
    rw [show (List.replicate N (0 : Int)) = (List.range N).map fun _ => 0 by simp [List.map_const']]
    refine List.map_congr_left fun j _ => ?_
    rw [← mk_zero (m := ways.length)]
    refine mk_congr fun i _ => ?_
    have := (src_rng (ways := ways) h.1 h.2 i j).1
    unfold laid
    rw [decide_eq_false (by rintro (q | q) <;> omega), Bool.false_and]
  · exact .inr h
theorem fL_next (p : Nat) : fL ways wide high cells N p ways.length = fL ways wide high cells N (p + 1) 0 := by
  unfold fL
  refine List.map_congr_left fun j _ => mk_congr fun i hi => ?_
  unfold laid
  congr 1
  apply decide_eq_decide.mpr
  omega
theorem fL_end (hw : 0 < wide) (hh : 0 < high) (hN : (N : Int) = wide * high) : fL ways wide high cells N N 0 = movC ways wide high cells N := by
  unfold fL movC
  refine List.map_congr_left fun j _ => mk_congr fun i hi => ?_
  have := (src_rng (ways := ways) hw hh i j).2
  unfold laid
  rw [decide_eq_true (by omega), Bool.true_and]
theorem fL_same {p a : Nat} (hb : bitAt (cellAt cells (p : Int)) a = false) : fL ways wide high cells N p a = fL ways wide high cells N p (a + 1) := by
  unfold fL
  refine List.map_congr_left fun j _ => mk_congr fun i hi => ?_
  unfold laid
  by_cases h : src ways wide high i j = p ∧ i = a
  · obtain ⟨h1, rfl⟩ := h
    rw [h1, hb]
    simp
  · congr 1
    apply decide_eq_decide.mpr
    omega
theorem fL_set {p a : Nat} {w : Int × Int} (hw : 0 < wide) (hh : 0 < high) (hN : (N : Int) = wide * high) (hp : p < N) (ha : ways[a]? = some w) (h4 : ways.length ≤ 4) (hb : bitAt (cellAt cells (p : Int)) a = true) :
    ∃ j v, goalN wide high p w.1 w.2 = (j : Nat) ∧ j < N ∧ (fL ways wide high cells N p a)[j]? = some v ∧ (fL ways wide high cells N p a).set j (Builtin.bitOr v (2 ^ a)) = fL ways wide high cells N p (a + 1) := by
  have g := goal_rng (place := p) (dx := w.1) (dy := w.2) hw hh
  have hal : a < ways.length := (List.getElem?_eq_some_iff.mp ha).1
  have hj : ((goalN wide high p w.1 w.2).toNat : Int) = goalN wide high p w.1 w.2 := by omega
  have hjN : (goalN wide high p w.1 w.2).toNat < N := by omega
  have sa : ∀ j, src ways wide high a j = goalN wide high j (-w.1) (-w.2) := fun j => by
    unfold src
    rw [List.getD_eq_getElem?_getD, ha]
    rfl
  have back : src ways wide high a (goalN wide high p w.1 w.2).toNat = p := by
    rw [sa, hj]
    exact goal_back hw hh (by omega) (by omega)
  have only : ∀ j, j < N → src ways wide high a j = p → j = (goalN wide high p w.1 w.2).toNat := fun j hjl e => by
    rw [sa] at e
    have := goal_forth (place := (j : Int)) (dx := w.1) (dy := w.2) hw hh (by omega) (by omega)
    rw [e] at this
    omega
  refine ⟨(goalN wide high p w.1 w.2).toNat, mkS ways.length (laid ways wide high cells p a (goalN wide high p w.1 w.2).toNat), hj.symm, hjN, ?_, ?_⟩
  · unfold fL
    rw [List.getElem?_map, List.getElem?_range hjN]
    rfl
  · refine List.ext_getElem? fun j => ?_
    by_cases hjl : j < N
    · have len : ∀ b, (fL ways wide high cells N p b).length = N := fun b => by simp [fL]
      have at_ : ∀ b, (fL ways wide high cells N p b)[j]? = some (mkS ways.length (laid ways wide high cells p b j)) := fun b => by
        unfold fL
        rw [List.getElem?_map, List.getElem?_range hjl]
        rfl
      by_cases e : (goalN wide high p w.1 w.2).toNat = j
      · subst e
        rw [List.getElem?_set_self (by rw [len]; exact hjN), at_, mk_or h4 hal]
        congr 1
        refine mk_congr fun i hi => ?_
        by_cases hia : i = a
        · subst hia
          simp [laid, back, hb]
        · have : (decide (i = a)) = false := by simp [hia]
          rw [this, Bool.or_false]
          unfold laid
          congr 1
          apply decide_eq_decide.mpr
          omega
      · rw [List.getElem?_set_ne e, at_, at_]
        congr 1
        refine mk_congr fun i hi => ?_
        unfold laid
        by_cases h : src ways wide high i j = p ∧ i = a
        · obtain ⟨h1, rfl⟩ := h
          exact absurd (only j hjl h1).symm e
        · congr 1
          apply decide_eq_decide.mpr
          omega
    · have len : ∀ b, (fL ways wide high cells N p b).length = N := fun b => by simp [fL]
      rw [List.getElem?_eq_none (by rw [List.length_set, len]; omega), List.getElem?_eq_none (by rw [len]; omega)]
end
end Lp

set_option Elab.async false
set_option linter.all false
set_option maxRecDepth 100000
/-! Q3: a comprehension whose first turn freezes something. -/
namespace Rf
open PySem
theorem comp_frz {cl : Call} {vs : List Nat} {elt : E} {t : Tg} {it : I} {s s1 s2 : Sg} {o : Option Nat} {α : Type} (a : α) (l : List α) (g : α → D) (k : α → D) (hit : evW cl it s = some (.ok ((a :: l).map g, o), s1)) (hh : heldB o ((a :: l).map g) s2 = true)
    (h0 : turnC cl ((a :: l).map g, o) vs elt t none (g a) { s1 with env := wipeE vs s1.env } = some (.ok (some (k a)), s2))
    (ht : ∀ x ∈ l, turnC cl ((a :: l).map g, o) vs elt t none (g x) s2 = some (.ok (some (k x)), s2)) (hl : l.length + 1 ≤ sizeLine) :
    evE cl (.comp vs elt t it none) s = some (.ok (.own ((a :: l).map k)), { s2 with env := restore vs s1.env s2.env }) := by
  rw [comp_eq, hit]
  simp only [bnd_ok]
  have key : ∀ (m : List α) (acc : List D), (∀ a ∈ m, a ∈ l) → acc.length + m.length ≤ sizeLine → compGo (turnC cl ((a :: l).map g, o) vs elt t none) acc (m.map g) s2 = some (.ok (acc ++ m.map k), s2) := by
    intro m
    induction m with
    | nil => intro acc _ _; show compGo (turnC cl ((a :: l).map g, o) vs elt t none) acc [] s2 = _; rw [compGo, List.map_nil, List.append_nil]
    | cons b m ih =>
      intro acc hm hl
      rw [List.length_cons] at hl
      show compGo (turnC cl ((a :: l).map g, o) vs elt t none) acc (g b :: m.map g) s2 = _
      rw [compGo, ht b (hm b (by simp))]
      simp only [bnd_ok]
      rw [if_pos (by omega), ih (acc ++ [k b]) (fun x hx => hm x (by simp [hx])) (by simp; omega)]
      simp
  have e1 : compGo (turnC cl ((a :: l).map g, o) vs elt t none) [] ((a :: l).map g) { s1 with env := wipeE vs s1.env } = some (.ok ([k a] ++ l.map k), s2) := by
    show compGo (turnC cl ((a :: l).map g, o) vs elt t none) [] (g a :: l.map g) { s1 with env := wipeE vs s1.env } = _
    rw [compGo, h0]
    simp only [bnd_ok]
    rw [if_pos (show ([] : List D).length < sizeLine by simp; omega)]
    exact key l _ (fun _ h => h) (by simpa [Nat.add_comm] using hl)
  rw [e1]
  simp only [bnd_ok]
  rw [if_pos hh]
  rfl
end Rf

set_option Elab.async false
set_option linter.all false
set_option maxRecDepth 100000
set_option maxHeartbeats 6400000
/-! B: what all laws share. -/
namespace Lp
open PySem Rf Lw
--# P03
/-- the draws' row -/
def RowOk (st : List SObj) : Prop := ∃ (ns : List Int) (i s b : Int), st = [.lst [.fl ns, .int i, .int s, .int b]] ∧ 0 ≤ i ∧ 0 ≤ s ∧ s < 2147483647 ∧ 0 ≤ b
set_option maxHeartbeats 1600000 in
theorem taken {st : List SObj} (h : RowOk st) {many : Int} (h0 : 0 < many) (h1 : many < 1073741824) (n : Nat) : ∃ k st', callN Gl (n + 1) 8 [.ref 0, .int many] st = some (.ok (.int k), st') ∧ 0 ≤ k ∧ k < many ∧ RowOk st' := by
  obtain ⟨ns, i, s, b, rfl, hi, hs, hs2, hb⟩ := h
  rw [c__law_taken]
  by_cases hb0 : 0 < b
  · refine ⟨b % many, [.lst [.fl ns, .int i, .int s, .int (b / many)]], ?_, Int.emod_nonneg _ (by omega), Int.emod_lt_of_pos _ h0, ns, i, s, b / many, rfl, hi, hs, hs2, Int.ediv_nonneg hb (by omega)⟩
    simp [b__law_taken, runFn, evSs, evS, evE.eq_1, evE.eq_2, evE.eq_3, evE.eq_4, evE.eq_5, evE.eq_6, evE.eq_7, evE.eq_8, evE.eq_9, evE.eq_10, evE.eq_11, evE.eq_12, evE.eq_13, evE.eq_14, evE.eq_15, evE.eq_16, evE.eq_17, evE.eq_18, evE.eq_19, evEs, evHs, evT, evC, evO, evI, evW, evP, asg, asgTs_nil, asgTs_cons, asg_tup, frz, setSlot, callR, Sg.fz, Sg.rd, bin, un, cmp, truth, idx, slc, setI, methI, seqI, bcall, isNon, List.mapM_cons, List.mapM_nil, List.length_cons, List.length_nil, List.map_cons, List.map_nil, List.getElem?_cons_zero, List.getElem?_cons_succ, List.set_cons_zero, List.set_cons_succ, List.replicate, List.cons_append, List.nil_append, restore, wipeE, List.foldl_cons, List.foldl_nil, List.getD_cons_zero, List.getD_cons_succ, bools_map, ints_map, eqD_int, eqD_bl, binI_add, binI_sub, binI_and, binI_or, ixNat, binI, hb0, h0, h1]
  · have m1 : -18446744073709551616 < s := by omega
    have m2 : s < 18446744073709551616 := by omega
    by_cases hl : (ns.length : Int) < i + 1
    · refine ⟨_, [.lst [.fl ns, .int (i + 1), .int ((s * 48271 + 11) % 2147483647), .int b]], ?_, Int.emod_nonneg ((s * 48271 + 11) % 2147483647 / 7) (by omega), Int.emod_lt_of_pos _ h0, ns, i + 1, _, b, rfl, by omega, by omega, by omega, hb⟩
      simp [b__law_taken, runFn, evSs, evS, evE.eq_1, evE.eq_2, evE.eq_3, evE.eq_4, evE.eq_5, evE.eq_6, evE.eq_7, evE.eq_8, evE.eq_9, evE.eq_10, evE.eq_11, evE.eq_12, evE.eq_13, evE.eq_14, evE.eq_15, evE.eq_16, evE.eq_17, evE.eq_18, evE.eq_19, evEs, evHs, evT, evC, evO, evI, evW, evP, asg, asgTs_nil, asgTs_cons, asg_tup, frz, setSlot, callR, Sg.fz, Sg.rd, bin, un, cmp, truth, idx, slc, setI, methI, seqI, bcall, isNon, List.mapM_cons, List.mapM_nil, List.length_cons, List.length_nil, List.map_cons, List.map_nil, List.getElem?_cons_zero, List.getElem?_cons_succ, List.set_cons_zero, List.set_cons_succ, List.replicate, List.cons_append, List.nil_append, restore, wipeE, List.foldl_cons, List.foldl_nil, List.getD_cons_zero, List.getD_cons_succ, bools_map, ints_map, eqD_int, eqD_bl, binI_add, binI_sub, binI_and, binI_or, ixNat, binI, hb0, h0, h1, m1, m2, hl]
    · have hlt : i.toNat < ns.length := by omega
      have hi1 : i < (ns.length : Int) := by omega
      have ea : i + 1 - 1 = i := by omega
      obtain ⟨c, hc⟩ : ∃ c, ns[i.toNat] = c := ⟨_, rfl⟩
      by_cases hbig : 1000000000000000000 ≤ c
      · refine ⟨c % many, [.lst [.fl ns, .int (i + 1), .int ((s * 48271 + c + 11) % 2147483647), .int (c % (10 ^ 90) / many)]], ?_, Int.emod_nonneg _ (by omega), Int.emod_lt_of_pos _ h0, ns, i + 1, _, _, rfl, by omega, by omega, by omega, Int.ediv_nonneg (Int.emod_nonneg _ (by decide)) (by omega)⟩
        simp [b__law_taken, runFn, evSs, evS, evE.eq_1, evE.eq_2, evE.eq_3, evE.eq_4, evE.eq_5, evE.eq_6, evE.eq_7, evE.eq_8, evE.eq_9, evE.eq_10, evE.eq_11, evE.eq_12, evE.eq_13, evE.eq_14, evE.eq_15, evE.eq_16, evE.eq_17, evE.eq_18, evE.eq_19, evEs, evHs, evT, evC, evO, evI, evW, evP, asg, asgTs_nil, asgTs_cons, asg_tup, frz, setSlot, callR, Sg.fz, Sg.rd, bin, un, cmp, truth, idx, slc, setI, methI, seqI, bcall, isNon, List.mapM_cons, List.mapM_nil, List.length_cons, List.length_nil, List.map_cons, List.map_nil, List.getElem?_cons_zero, List.getElem?_cons_succ, List.set_cons_zero, List.set_cons_succ, List.replicate, List.cons_append, List.nil_append, restore, wipeE, List.foldl_cons, List.foldl_nil, List.getD_cons_zero, List.getD_cons_succ, bools_map, ints_map, eqD_int, eqD_bl, binI_add, binI_sub, binI_and, binI_or, ixNat, binI, hb0, h0, h1, m1, m2, hl, ea, hi, hi1, hc, hbig]
      · refine ⟨c % many, [.lst [.fl ns, .int (i + 1), .int ((s * 48271 + c + 11) % 2147483647), .int b]], ?_, Int.emod_nonneg _ (by omega), Int.emod_lt_of_pos _ h0, ns, i + 1, _, b, rfl, by omega, by omega, by omega, hb⟩
        simp [b__law_taken, runFn, evSs, evS, evE.eq_1, evE.eq_2, evE.eq_3, evE.eq_4, evE.eq_5, evE.eq_6, evE.eq_7, evE.eq_8, evE.eq_9, evE.eq_10, evE.eq_11, evE.eq_12, evE.eq_13, evE.eq_14, evE.eq_15, evE.eq_16, evE.eq_17, evE.eq_18, evE.eq_19, evEs, evHs, evT, evC, evO, evI, evW, evP, asg, asgTs_nil, asgTs_cons, asg_tup, frz, setSlot, callR, Sg.fz, Sg.rd, bin, un, cmp, truth, idx, slc, setI, methI, seqI, bcall, isNon, List.mapM_cons, List.mapM_nil, List.length_cons, List.length_nil, List.map_cons, List.map_nil, List.getElem?_cons_zero, List.getElem?_cons_succ, List.set_cons_zero, List.set_cons_succ, List.replicate, List.cons_append, List.nil_append, restore, wipeE, List.foldl_cons, List.foldl_nil, List.getD_cons_zero, List.getD_cons_succ, bools_map, ints_map, eqD_int, eqD_bl, binI_add, binI_sub, binI_and, binI_or, ixNat, binI, hb0, h0, h1, m1, m2, hl, ea, hi, hi1, hc, hbig]
--# P03b
/-- what is told of data by isinstance -/
def plainD : D → Bool
  | .fl _ => false
  | .ref _ => false
  | _ => true
def isW (d : D) (lo hi : Int) : Bool := match d with
  | .int i => decide (lo ≤ i ∧ i ≤ hi)
  | _ => false
theorem is_whole {d : D} (h : plainD d = true) (lo hi : Int) (n : Nat) (st : List SObj) : callN Gl (n + 1) 0 [d, .int lo, .int hi] st = some (.ok (.bl (isW d lo hi)), st) := by
  rw [c_is_whole]
  cases d with
  | int i =>
    by_cases h1 : lo ≤ i
    · by_cases h2 : i ≤ hi <;> simp [b_is_whole, runFn, evSs, evS, evE.eq_1, evE.eq_2, evE.eq_3, evE.eq_4, evE.eq_5, evE.eq_6, evE.eq_7, evE.eq_8, evE.eq_9, evE.eq_10, evE.eq_11, evE.eq_12, evE.eq_13, evE.eq_14, evE.eq_15, evE.eq_16, evE.eq_17, evE.eq_18, evE.eq_19, evEs, evHs, evT, evC, evO, evI, evW, evP, asg, asgTs_nil, asgTs_cons, asg_tup, frz, setSlot, callR, Sg.fz, Sg.rd, bin, un, cmp, truth, idx, slc, setI, methI, seqI, bcall, isNon, List.mapM_cons, List.mapM_nil, List.length_cons, List.length_nil, List.map_cons, List.map_nil, List.getElem?_cons_zero, List.getElem?_cons_succ, List.set_cons_zero, List.set_cons_succ, List.replicate, List.cons_append, List.nil_append, restore, wipeE, List.foldl_cons, List.foldl_nil, List.getD_cons_zero, List.getD_cons_succ, bools_map, ints_map, eqD_int, eqD_bl, binI_add, binI_sub, binI_and, binI_or, isW, h1, h2]
    · simp [b_is_whole, runFn, evSs, evS, evE.eq_1, evE.eq_2, evE.eq_3, evE.eq_4, evE.eq_5, evE.eq_6, evE.eq_7, evE.eq_8, evE.eq_9, evE.eq_10, evE.eq_11, evE.eq_12, evE.eq_13, evE.eq_14, evE.eq_15, evE.eq_16, evE.eq_17, evE.eq_18, evE.eq_19, evEs, evHs, evT, evC, evO, evI, evW, evP, asg, asgTs_nil, asgTs_cons, asg_tup, frz, setSlot, callR, Sg.fz, Sg.rd, bin, un, cmp, truth, idx, slc, setI, methI, seqI, bcall, isNon, List.mapM_cons, List.mapM_nil, List.length_cons, List.length_nil, List.map_cons, List.map_nil, List.getElem?_cons_zero, List.getElem?_cons_succ, List.set_cons_zero, List.set_cons_succ, List.replicate, List.cons_append, List.nil_append, restore, wipeE, List.foldl_cons, List.foldl_nil, List.getD_cons_zero, List.getD_cons_succ, bools_map, ints_map, eqD_int, eqD_bl, binI_add, binI_sub, binI_and, binI_or, isW, h1]
  | fl _ => cases h
  | ref _ => cases h
  | _ => simp [b_is_whole, runFn, evSs, evS, evE.eq_1, evE.eq_2, evE.eq_3, evE.eq_4, evE.eq_5, evE.eq_6, evE.eq_7, evE.eq_8, evE.eq_9, evE.eq_10, evE.eq_11, evE.eq_12, evE.eq_13, evE.eq_14, evE.eq_15, evE.eq_16, evE.eq_17, evE.eq_18, evE.eq_19, evEs, evHs, evT, evC, evO, evI, evW, evP, asg, asgTs_nil, asgTs_cons, asg_tup, frz, setSlot, callR, Sg.fz, Sg.rd, bin, un, cmp, truth, idx, slc, setI, methI, seqI, bcall, isNon, List.mapM_cons, List.mapM_nil, List.length_cons, List.length_nil, List.map_cons, List.map_nil, List.getElem?_cons_zero, List.getElem?_cons_succ, List.set_cons_zero, List.set_cons_succ, List.replicate, List.cons_append, List.nil_append, restore, wipeE, List.foldl_cons, List.foldl_nil, List.getD_cons_zero, List.getD_cons_succ, bools_map, ints_map, eqD_int, eqD_bl, binI_add, binI_sub, binI_and, binI_or, isW]
theorem are_wholes {ds : List D} (h : ∀ d ∈ ds, plainD d = true) (hl : ds.length ≤ 1000) (many lo hi : Int) (n : Nat) (st : List SObj) : callN Gl (n + 2) 1 [.tup ds, .int many, .int lo, .int hi] st = some (.ok (.bl (decide ((ds.length : Int) = many) && ds.all fun d => isW d lo hi)), st) := by
  rw [c_are_wholes]
  have ht := comp_pure (cl := callN Gl (n + 1)) (vs := [4]) (elt := E.call 0 [E.var 4, E.var 2, E.var 3]) (t := .name 4) (it := .seq (.var 0)) (c := none) (s := ⟨[.val (.tup ds), .val (.int many), .val (.int lo), .val (.int hi), .un], st⟩) (ds := ds) (o := none)
    (f := fun d => some (.bl (isW d lo hi))) (s1 := ⟨[.val (.tup ds), .val (.int many), .val (.int lo), .val (.int hi), .un], st⟩) (by simp [runFn, evSs, evS, evE.eq_1, evE.eq_2, evE.eq_3, evE.eq_4, evE.eq_5, evE.eq_6, evE.eq_7, evE.eq_8, evE.eq_9, evE.eq_10, evE.eq_11, evE.eq_12, evE.eq_13, evE.eq_14, evE.eq_15, evE.eq_16, evE.eq_17, evE.eq_18, evE.eq_19, evEs, evHs, evT, evC, evO, evI, evW, evP, asg, asgTs_nil, asgTs_cons, asg_tup, frz, setSlot, callR, Sg.fz, Sg.rd, bin, un, cmp, truth, idx, slc, setI, methI, seqI, bcall, isNon, List.mapM_cons, List.mapM_nil, List.length_cons, List.length_nil, List.map_cons, List.map_nil, List.getElem?_cons_zero, List.getElem?_cons_succ, List.set_cons_zero, List.set_cons_succ, List.replicate, List.cons_append, List.nil_append, restore, wipeE, List.foldl_cons, List.foldl_nil, List.getD_cons_zero, List.getD_cons_succ, bools_map, ints_map, eqD_int, eqD_bl, binI_add, binI_sub, binI_and, binI_or]) rfl
    (fun d hd => by simp [turnC, runFn, evSs, evS, evE.eq_1, evE.eq_2, evE.eq_3, evE.eq_4, evE.eq_5, evE.eq_6, evE.eq_7, evE.eq_8, evE.eq_9, evE.eq_10, evE.eq_11, evE.eq_12, evE.eq_13, evE.eq_14, evE.eq_15, evE.eq_16, evE.eq_17, evE.eq_18, evE.eq_19, evEs, evHs, evT, evC, evO, evI, evW, evP, asg, asgTs_nil, asgTs_cons, asg_tup, frz, setSlot, callR, Sg.fz, Sg.rd, bin, un, cmp, truth, idx, slc, setI, methI, seqI, bcall, isNon, List.mapM_cons, List.mapM_nil, List.length_cons, List.length_nil, List.map_cons, List.map_nil, List.getElem?_cons_zero, List.getElem?_cons_succ, List.set_cons_zero, List.set_cons_succ, List.replicate, List.cons_append, List.nil_append, restore, wipeE, List.foldl_cons, List.foldl_nil, List.getD_cons_zero, List.getD_cons_succ, bools_map, ints_map, eqD_int, eqD_bl, binI_add, binI_sub, binI_and, binI_or, wipeE, is_whole (h d hd)]) (by rw [sizeLine_eq]; omega)
  by_cases hm : (ds.length : Int) = many
  · simp [b_are_wholes, runFn, evSs, evS, evE.eq_1, evE.eq_2, evE.eq_3, evE.eq_4, evE.eq_5, evE.eq_6, evE.eq_7, evE.eq_8, evE.eq_9, evE.eq_10, evE.eq_11, evE.eq_12, evE.eq_13, evE.eq_14, evE.eq_15, evE.eq_16, evE.eq_17, evE.eq_18, evE.eq_19, evEs, evHs, evT, evC, evO, evI, evW, evP, asg, asgTs_nil, asgTs_cons, asg_tup, frz, setSlot, callR, Sg.fz, Sg.rd, bin, un, cmp, truth, idx, slc, setI, methI, seqI, bcall, isNon, List.mapM_cons, List.mapM_nil, List.length_cons, List.length_nil, List.map_cons, List.map_nil, List.getElem?_cons_zero, List.getElem?_cons_succ, List.set_cons_zero, List.set_cons_succ, List.replicate, List.cons_append, List.nil_append, restore, wipeE, List.foldl_cons, List.foldl_nil, List.getD_cons_zero, List.getD_cons_succ, bools_map, ints_map, eqD_int, eqD_bl, binI_add, binI_sub, binI_and, binI_or, hm, ht, Function.comp_def]
  · simp [b_are_wholes, runFn, evSs, evS, evE.eq_1, evE.eq_2, evE.eq_3, evE.eq_4, evE.eq_5, evE.eq_6, evE.eq_7, evE.eq_8, evE.eq_9, evE.eq_10, evE.eq_11, evE.eq_12, evE.eq_13, evE.eq_14, evE.eq_15, evE.eq_16, evE.eq_17, evE.eq_18, evE.eq_19, evEs, evHs, evT, evC, evO, evI, evW, evP, asg, asgTs_nil, asgTs_cons, asg_tup, frz, setSlot, callR, Sg.fz, Sg.rd, bin, un, cmp, truth, idx, slc, setI, methI, seqI, bcall, isNon, List.mapM_cons, List.mapM_nil, List.length_cons, List.length_nil, List.map_cons, List.map_nil, List.getElem?_cons_zero, List.getElem?_cons_succ, List.set_cons_zero, List.set_cons_succ, List.replicate, List.cons_append, List.nil_append, restore, wipeE, List.foldl_cons, List.foldl_nil, List.getD_cons_zero, List.getD_cons_succ, bools_map, ints_map, eqD_int, eqD_bl, binI_add, binI_sub, binI_and, binI_or, hm]
theorem are_wholes0 {d : D} (h : plainD d = true) (ht : ∀ ds, d ≠ .tup ds) (many lo hi : Int) (n : Nat) (st : List SObj) : callN Gl (n + 2) 1 [d, .int many, .int lo, .int hi] st = some (.ok (.bl false), st) := by
  rw [c_are_wholes]
  cases d with
  | tup ds => exact absurd rfl (ht ds)
  | fl _ => cases h
  | ref _ => cases h
  | _ => simp [b_are_wholes, runFn, evSs, evS, evE.eq_1, evE.eq_2, evE.eq_3, evE.eq_4, evE.eq_5, evE.eq_6, evE.eq_7, evE.eq_8, evE.eq_9, evE.eq_10, evE.eq_11, evE.eq_12, evE.eq_13, evE.eq_14, evE.eq_15, evE.eq_16, evE.eq_17, evE.eq_18, evE.eq_19, evEs, evHs, evT, evC, evO, evI, evW, evP, asg, asgTs_nil, asgTs_cons, asg_tup, frz, setSlot, callR, Sg.fz, Sg.rd, bin, un, cmp, truth, idx, slc, setI, methI, seqI, bcall, isNon, List.mapM_cons, List.mapM_nil, List.length_cons, List.length_nil, List.map_cons, List.map_nil, List.getElem?_cons_zero, List.getElem?_cons_succ, List.set_cons_zero, List.set_cons_succ, List.replicate, List.cons_append, List.nil_append, restore, wipeE, List.foldl_cons, List.foldl_nil, List.getD_cons_zero, List.getD_cons_succ, bools_map, ints_map, eqD_int, eqD_bl, binI_add, binI_sub, binI_and, binI_or]
--# P03c
theorem need_t (nm : D) (n : Nat) (st : List SObj) : callN Gl (n + 1) 4 [.bl true, nm] st = some (.ok .non, st) := by
  rw [c_need]
  simp [b_need, runFn, evSs, evS, evE.eq_1, evE.eq_2, evE.eq_3, evE.eq_4, evE.eq_5, evE.eq_6, evE.eq_7, evE.eq_8, evE.eq_9, evE.eq_10, evE.eq_11, evE.eq_12, evE.eq_13, evE.eq_14, evE.eq_15, evE.eq_16, evE.eq_17, evE.eq_18, evE.eq_19, evEs, evHs, evT, evC, evO, evI, evW, evP, asg, asgTs_nil, asgTs_cons, asg_tup, frz, setSlot, callR, Sg.fz, Sg.rd, bin, un, cmp, truth, idx, slc, setI, methI, seqI, bcall, isNon, List.mapM_cons, List.mapM_nil, List.length_cons, List.length_nil, List.map_cons, List.map_nil, List.getElem?_cons_zero, List.getElem?_cons_succ, List.set_cons_zero, List.set_cons_succ, List.replicate, List.cons_append, List.nil_append, restore, wipeE, List.foldl_cons, List.foldl_nil, List.getD_cons_zero, List.getD_cons_succ, bools_map, ints_map, eqD_int, eqD_bl, binI_add, binI_sub, binI_and, binI_or]
theorem need_f (nm : D) (n : Nat) (st : List SObj) : callN Gl (n + 1) 4 [.bl false, nm] st = some (.exc ⟨0, [nm]⟩, st) := by
  rw [c_need]
  simp [b_need, runFn, evSs, evS, evE.eq_1, evE.eq_2, evE.eq_3, evE.eq_4, evE.eq_5, evE.eq_6, evE.eq_7, evE.eq_8, evE.eq_9, evE.eq_10, evE.eq_11, evE.eq_12, evE.eq_13, evE.eq_14, evE.eq_15, evE.eq_16, evE.eq_17, evE.eq_18, evE.eq_19, evEs, evHs, evT, evC, evO, evI, evW, evP, asg, asgTs_nil, asgTs_cons, asg_tup, frz, setSlot, callR, Sg.fz, Sg.rd, bin, un, cmp, truth, idx, slc, setI, methI, seqI, bcall, isNon, List.mapM_cons, List.mapM_nil, List.length_cons, List.length_nil, List.map_cons, List.map_nil, List.getElem?_cons_zero, List.getElem?_cons_succ, List.set_cons_zero, List.set_cons_succ, List.replicate, List.cons_append, List.nil_append, restore, wipeE, List.foldl_cons, List.foldl_nil, List.getD_cons_zero, List.getD_cons_succ, bools_map, ints_map, eqD_int, eqD_bl, binI_add, binI_sub, binI_and, binI_or]
def iD (l : List Int) : List D := l.map D.int
def wayD (w : Int × Int) : D := .tup [.int w.1, .int w.2]
def tabD (ways : List (Int × Int)) (rule : List Int) : D := .tup [.tup (ways.map wayD), .tup (iD rule)]
def brdD (wide high : Int) (cells : List Int) : D := .tup [.int wide, .int high, .tup (iD cells)]
structure TabOk (ways : List (Int × Int)) (rule : List Int) : Prop where
  l1 : 1 ≤ ways.length
  l4 : ways.length ≤ 4
  nd : ways.Nodup
  far : ∀ w ∈ ways, -2 ≤ w.1 ∧ w.1 ≤ 2 ∧ -2 ≤ w.2 ∧ w.2 ≤ 2
  len : rule.length = 2 ^ ways.length
  rng : ∀ r ∈ rule, 0 ≤ r ∧ r < 2 ^ ways.length
  r0 : rule[0]? = some 0
structure BrdOk (m : Nat) (wide high : Int) (cells : List Int) : Prop where
  w1 : 1 ≤ wide
  w8 : wide ≤ 8
  h1 : 1 ≤ high
  h8 : high ≤ 8
  len : (cells.length : Int) = wide * high
  rng : ∀ c ∈ cells, 0 ≤ c ∧ c < 2 ^ m
theorem tupInts_ways (ways : List (Int × Int)) : tupInts (ways.map wayD) = some (ways.map fun w => [w.1, w.2]) := by
  induction ways with
  | nil => rfl
  | cons w ways ih =>
    rw [List.map_cons, wayD, tupInts, ih]
    rfl
theorem ways_nd {ways : List (Int × Int)} (h : ways.Nodup) : (ways.map fun w => [w.1, w.2]).Nodup := by
  refine List.Pairwise.map _ (fun a b hab e => hab ?_) h
  simp only [List.cons.injEq, and_true] at e
  exact Prod.ext e.1 e.2
theorem plain_iD (l : List Int) : ∀ d ∈ iD l, plainD d = true := fun d hd => by
  obtain ⟨i, _, rfl⟩ := List.mem_map.mp hd
  rfl
theorem pow_le {k : Nat} (h : k ≤ 4) : 2 ^ k ≤ 16 := Nat.pow_le_pow_right (by decide) h
theorem is_table_f {d : D} (h : d = .non ∨ (∃ i, d = .int i) ∨ ∃ ds, d = .lst ds) (n : Nat) (st : List SObj) : callN Gl (n + 3) 2 [d] st = some (.ok (.bl false), st) := by
  rw [c_is_table]
  rcases h with rfl | ⟨i, rfl⟩ | ⟨ds, rfl⟩ <;> simp [b_is_table, runFn, evSs, evS, evE.eq_1, evE.eq_2, evE.eq_3, evE.eq_4, evE.eq_5, evE.eq_6, evE.eq_7, evE.eq_8, evE.eq_9, evE.eq_10, evE.eq_11, evE.eq_12, evE.eq_13, evE.eq_14, evE.eq_15, evE.eq_16, evE.eq_17, evE.eq_18, evE.eq_19, evEs, evHs, evT, evC, evO, evI, evW, evP, asg, asgTs_nil, asgTs_cons, asg_tup, frz, setSlot, callR, Sg.fz, Sg.rd, bin, un, cmp, truth, idx, slc, setI, methI, seqI, bcall, isNon, List.mapM_cons, List.mapM_nil, List.length_cons, List.length_nil, List.map_cons, List.map_nil, List.getElem?_cons_zero, List.getElem?_cons_succ, List.set_cons_zero, List.set_cons_succ, List.replicate, List.cons_append, List.nil_append, restore, wipeE, List.foldl_cons, List.foldl_nil, List.getD_cons_zero, List.getD_cons_succ, bools_map, ints_map, eqD_int, eqD_bl, binI_add, binI_sub, binI_and, binI_or]
theorem all_ints {l : List Int} {lo hi : Int} (h : ∀ x ∈ l, lo ≤ x ∧ x ≤ hi) : ((iD l).all fun d => isW d lo hi) = true := by
  rw [List.all_eq_true]
  intro d hd
  obtain ⟨i, hi, rfl⟩ := List.mem_map.mp hd
  exact decide_eq_true (h i hi)
theorem is_table {ways : List (Int × Int)} {rule : List Int} (h : TabOk ways rule) (n : Nat) (st : List SObj) : callN Gl (n + 3) 2 [tabD ways rule] st = some (.ok (.bl true), st) := by
  rw [c_is_table]
  have l1 := h.l1
  have l4 := h.l4
  have hp := pow_le h.l4
  have a1 : (1 : Int) ≤ (ways.length : Int) := by omega
  have a2 : (ways.length : Int) ≤ 4 := by omega
  have hc := comp_pure (cl := callN Gl (n + 2)) (vs := [4]) (elt := E.call 1 [E.var 4, E.lit (.int 2), E.un .USub (E.lit (.int 2)), E.lit (.int 2)]) (t := .name 4) (it := .seq (.var 2)) (c := none) (ds := ways.map wayD) (o := none)
    (s := ⟨[.val (tabD ways rule), .un, .val (.tup (ways.map wayD)), .val (.tup (iD rule)), .un], st⟩) (s1 := ⟨[.val (tabD ways rule), .un, .val (.tup (ways.map wayD)), .val (.tup (iD rule)), .un], st⟩)
    (f := fun d => some (.bl true)) (by simp [runFn, evSs, evS, evE.eq_1, evE.eq_2, evE.eq_3, evE.eq_4, evE.eq_5, evE.eq_6, evE.eq_7, evE.eq_8, evE.eq_9, evE.eq_10, evE.eq_11, evE.eq_12, evE.eq_13, evE.eq_14, evE.eq_15, evE.eq_16, evE.eq_17, evE.eq_18, evE.eq_19, evEs, evHs, evT, evC, evO, evI, evW, evP, asg, asgTs_nil, asgTs_cons, asg_tup, frz, setSlot, callR, Sg.fz, Sg.rd, bin, un, cmp, truth, idx, slc, setI, methI, seqI, bcall, isNon, List.mapM_cons, List.mapM_nil, List.length_cons, List.length_nil, List.map_cons, List.map_nil, List.getElem?_cons_zero, List.getElem?_cons_succ, List.set_cons_zero, List.set_cons_succ, List.replicate, List.cons_append, List.nil_append, restore, wipeE, List.foldl_cons, List.foldl_nil, List.getD_cons_zero, List.getD_cons_succ, bools_map, ints_map, eqD_int, eqD_bl, binI_add, binI_sub, binI_and, binI_or]) rfl
    (fun d hd => by
      obtain ⟨w, hw, rfl⟩ := List.mem_map.mp hd
      obtain ⟨f1, f2, f3, f4⟩ := h.far w hw
      have e := are_wholes (ds := [.int w.1, .int w.2]) (by simp [plainD]) (by simp) 2 (-2) 2 n st
      simp [turnC, runFn, evSs, evS, evE.eq_1, evE.eq_2, evE.eq_3, evE.eq_4, evE.eq_5, evE.eq_6, evE.eq_7, evE.eq_8, evE.eq_9, evE.eq_10, evE.eq_11, evE.eq_12, evE.eq_13, evE.eq_14, evE.eq_15, evE.eq_16, evE.eq_17, evE.eq_18, evE.eq_19, evEs, evHs, evT, evC, evO, evI, evW, evP, asg, asgTs_nil, asgTs_cons, asg_tup, frz, setSlot, callR, Sg.fz, Sg.rd, bin, un, cmp, truth, idx, slc, setI, methI, seqI, bcall, isNon, List.mapM_cons, List.mapM_nil, List.length_cons, List.length_nil, List.map_cons, List.map_nil, List.getElem?_cons_zero, List.getElem?_cons_succ, List.set_cons_zero, List.set_cons_succ, List.replicate, List.cons_append, List.nil_append, restore, wipeE, List.foldl_cons, List.foldl_nil, List.getD_cons_zero, List.getD_cons_succ, bools_map, ints_map, eqD_int, eqD_bl, binI_add, binI_sub, binI_and, binI_or, wayD, e, isW, f1, f2, f3, f4]) (by rw [sizeLine_eq, List.length_map]; omega)
  have hs := tupInts_ways ways
  have hn := dd_self (ways_nd h.nd)
  have ha := are_wholes (plain_iD rule) (by unfold iD; rw [List.length_map, h.len]; omega) (2 ^ ways.length) 0 (2 ^ ways.length - 1) n st
  have hl : ((iD rule).length : Int) = 2 ^ ways.length := by
    unfold iD
    rw [List.length_map, h.len]
    simp
  have hall : ((iD rule).all fun d => isW d 0 (2 ^ ways.length - 1)) = true := all_ints fun x hx => by
    have := h.rng x hx
    omega
  rw [hl, hall] at ha
  have h0 : (iD rule)[0]? = some (.int 0) := by
    unfold iD
    rw [List.getElem?_map, h.r0]
    rfl
  have hlen : 0 < (iD rule).length := by
    rw [List.getElem?_eq_some_iff] at h0
    exact h0.1
  have h0' := (List.getElem?_eq_some_iff.mp h0).2
  have h64 : ways.length < 64 := by omega
  have hm : (ways.length : Int) ≤ 1000000 := by omega
  have hix : ixNat (iD rule).length 0 = some 0 := by
    unfold ixNat
    rw [if_pos (by decide), if_pos (by omega)]
    rfl
  have hbin := binI_shl (k := ways.length) (by omega)
  unfold tabD at hc ⊢
  simp [b_is_table, runFn, evSs, evS, evE.eq_1, evE.eq_2, evE.eq_3, evE.eq_4, evE.eq_5, evE.eq_6, evE.eq_7, evE.eq_8, evE.eq_9, evE.eq_10, evE.eq_11, evE.eq_12, evE.eq_13, evE.eq_14, evE.eq_15, evE.eq_16, evE.eq_17, evE.eq_18, evE.eq_19, evEs, evHs, evT, evC, evO, evI, evW, evP, asg, asgTs_nil, asgTs_cons, asg_tup, frz, setSlot, callR, Sg.fz, Sg.rd, bin, un, cmp, truth, idx, slc, setI, methI, seqI, bcall, isNon, List.mapM_cons, List.mapM_nil, List.length_cons, List.length_nil, List.map_cons, List.map_nil, List.getElem?_cons_zero, List.getElem?_cons_succ, List.set_cons_zero, List.set_cons_succ, List.replicate, List.cons_append, List.nil_append, restore, wipeE, List.foldl_cons, List.foldl_nil, List.getD_cons_zero, List.getD_cons_succ, bools_map, ints_map, eqD_int, eqD_bl, binI_add, binI_sub, binI_and, binI_or, ixNat, hc, a1, a2, h64, hn, hs, hbin, ha, h0, h0', hlen, Function.comp_def]
--# P03d
theorem pow_len {m : Nat} : (2 ^ m : Int) = ((2 ^ m : Nat) : Int) := by simp
theorem is_board {ways : List (Int × Int)} {rule : List Int} (h : TabOk ways rule) {wide high : Int} {cells : List Int} (b : BrdOk ways.length wide high cells) (n : Nat) (st : List SObj) : callN Gl (n + 4) 3 [tabD ways rule, brdD wide high cells] st = some (.ok (.bl true), st) := by
  rw [c_is_board]
  have w1 := b.w1
  have w8 := b.w8
  have h1 := b.h1
  have h8 := b.h8
  have m1 : -18446744073709551616 < wide := by omega
  have m2 : wide < 18446744073709551616 := by omega
  have hmul : binI .Mult wide high = some (wide * high) := binI_mul (.inl ⟨by omega, by omega⟩)
  have hc : cells.length ≤ 64 := by
    have : wide * high ≤ 8 * 8 := Int.mul_le_mul w8 h8 (by omega) (by omega)
    have := b.len
    omega
  have l4 := h.l4
  have hbin := binI_shl (k := ways.length) (by omega)
  have ha := are_wholes (plain_iD cells) (by unfold iD; rw [List.length_map]; omega) (wide * high) 0 (2 ^ ways.length - 1) (n + 1) st
  have hl : ((iD cells).length : Int) = wide * high := by
    unfold iD
    rw [List.length_map, b.len]
  have hall : ((iD cells).all fun d => isW d 0 (2 ^ ways.length - 1)) = true := all_ints fun x hx => by
    have := b.rng x hx
    omega
  rw [hl, hall] at ha
  have it := is_table h n st
  have w0 := is_whole (d := .int wide) rfl 1 8 (n + 2) st
  have w2 := is_whole (d := .int high) rfl 1 8 (n + 2) st
  have nd := need_t (.str { cps := #[116, 97, 98, 108, 101] }) (n + 2) st
  simp only [isW] at w0 w2
  unfold tabD at it ⊢
  simp [b_is_board, runFn, evSs, evS, evE.eq_1, evE.eq_2, evE.eq_3, evE.eq_4, evE.eq_5, evE.eq_6, evE.eq_7, evE.eq_8, evE.eq_9, evE.eq_10, evE.eq_11, evE.eq_12, evE.eq_13, evE.eq_14, evE.eq_15, evE.eq_16, evE.eq_17, evE.eq_18, evE.eq_19, evEs, evHs, evT, evC, evO, evI, evW, evP, asg, asgTs_nil, asgTs_cons, asg_tup, frz, setSlot, callR, Sg.fz, Sg.rd, bin, un, cmp, truth, idx, slc, setI, methI, seqI, bcall, isNon, List.mapM_cons, List.mapM_nil, List.length_cons, List.length_nil, List.map_cons, List.map_nil, List.getElem?_cons_zero, List.getElem?_cons_succ, List.set_cons_zero, List.set_cons_succ, List.replicate, List.cons_append, List.nil_append, restore, wipeE, List.foldl_cons, List.foldl_nil, List.getD_cons_zero, List.getD_cons_succ, bools_map, ints_map, eqD_int, eqD_bl, binI_add, binI_sub, binI_and, binI_or, ixNat, brdD, it, nd, w0, w2, w1, w8, h1, h8, hmul, hbin, ha]
theorem need_board {ways : List (Int × Int)} {rule : List Int} (h : TabOk ways rule) {wide high : Int} {cells : List Int} (b : BrdOk ways.length wide high cells) (n : Nat) (st : List SObj) : callN Gl (n + 5) 5 [tabD ways rule, brdD wide high cells] st = some (.ok .non, st) := by
  rw [c_need_board]
  simp [b_need_board, runFn, evSs, evS, evE.eq_1, evE.eq_2, evE.eq_3, evE.eq_4, evE.eq_5, evE.eq_6, evE.eq_7, evE.eq_8, evE.eq_9, evE.eq_10, evE.eq_11, evE.eq_12, evE.eq_13, evE.eq_14, evE.eq_15, evE.eq_16, evE.eq_17, evE.eq_18, evE.eq_19, evEs, evHs, evT, evC, evO, evI, evW, evP, asg, asgTs_nil, asgTs_cons, asg_tup, frz, setSlot, callR, Sg.fz, Sg.rd, bin, un, cmp, truth, idx, slc, setI, methI, seqI, bcall, isNon, List.mapM_cons, List.mapM_nil, List.length_cons, List.length_nil, List.map_cons, List.map_nil, List.getElem?_cons_zero, List.getElem?_cons_succ, List.set_cons_zero, List.set_cons_succ, List.replicate, List.cons_append, List.nil_append, restore, wipeE, List.foldl_cons, List.foldl_nil, List.getD_cons_zero, List.getD_cons_succ, bools_map, ints_map, eqD_int, eqD_bl, binI_add, binI_sub, binI_and, binI_or, is_table h (n + 1), is_board h b, need_t]
theorem need_board_t {d e : D} (h : d = .non ∨ (∃ i, d = .int i) ∨ ∃ ds, d = .lst ds) (n : Nat) (st : List SObj) : callN Gl (n + 5) 5 [d, e] st = some (.exc ⟨0, [.str "table"]⟩, st) := by
  rw [c_need_board]
  have nd := need_f (.str { cps := #[116, 97, 98, 108, 101] }) (n + 3) st
  simp [b_need_board, runFn, evSs, evS, evE.eq_1, evE.eq_2, evE.eq_3, evE.eq_4, evE.eq_5, evE.eq_6, evE.eq_7, evE.eq_8, evE.eq_9, evE.eq_10, evE.eq_11, evE.eq_12, evE.eq_13, evE.eq_14, evE.eq_15, evE.eq_16, evE.eq_17, evE.eq_18, evE.eq_19, evEs, evHs, evT, evC, evO, evI, evW, evP, asg, asgTs_nil, asgTs_cons, asg_tup, frz, setSlot, callR, Sg.fz, Sg.rd, bin, un, cmp, truth, idx, slc, setI, methI, seqI, bcall, isNon, List.mapM_cons, List.mapM_nil, List.length_cons, List.length_nil, List.map_cons, List.map_nil, List.getElem?_cons_zero, List.getElem?_cons_succ, List.set_cons_zero, List.set_cons_succ, List.replicate, List.cons_append, List.nil_append, restore, wipeE, List.foldl_cons, List.foldl_nil, List.getD_cons_zero, List.getD_cons_succ, bools_map, ints_map, eqD_int, eqD_bl, binI_add, binI_sub, binI_and, binI_or, is_table_f h (n + 1), nd]
  rfl
--# P03e
theorem ix_at {l : List Int} {i : Int} (h0 : 0 ≤ i) (h1 : i < (l.length : Int)) : ((ixNat (iD l).length i).bind fun j => (iD l)[j]?) = some (.int (l.getD i.toNat 0)) := by
  have hlt : i.toNat < l.length := by omega
  unfold ixNat iD
  rw [if_pos h0, if_pos (by rw [List.length_map]; exact h1), Option.bind_some, List.getElem?_map, List.getElem?_eq_getElem hlt, List.getD_eq_getElem?_getD, List.getElem?_eq_getElem hlt]
  rfl
def metC (rule cells : List Int) : List Int := cells.map fun c => rule.getD c.toNat 0
--# P03f
theorem evSs_cons (cl : Call) (c : S) (cs : List S) (s : Sg) : evSs cl (c :: cs) s = seqF (evS cl c s) fun s1 => evSs cl cs s1 := by rw [evSs]
theorem evSs_nil (cl : Call) (s : Sg) : evSs cl [] s = some (.nx, s) := by rw [evSs]
theorem evS_loop (cl : Call) (t : Tg) (it : I) (b : List S) (s : Sg) : evS cl (.loop t it b) s = bndF (evI cl it s) fun ds s1 => loopGo (fun d s2 => bndF (asg cl t d s2) fun _ s3 => evSs cl b s3) ds s1 := by rw [evS]
theorem runFn_rt {cl : Call} {np k : Nat} {body : List S} {ds : List D} {sto sto' : List SObj} {s0 : Sg} {d : D} (hl : ds.length = np) (hs : s0 = ⟨ds.map Slot.val ++ List.replicate (k - ds.length) .un, sto⟩) (e : ∃ s', evSs cl body s0 = some (.rt d, s') ∧ s'.sto = sto') : runFn cl ⟨np, k, body⟩ ds sto = some (.ok d, sto') := by
  obtain ⟨s', e, rfl⟩ := e
  subst hs
  unfold runFn
  rw [if_pos hl]
  dsimp only
  rw [e]
theorem ixNat_lt {k j : Nat} (h : j < k) : ixNat k (j : Int) = some j := by
  unfold ixNat
  rw [if_pos (by omega), if_pos (by omega)]
  simp
theorem iD_set (l : List Int) (j : Nat) (x : Int) : (iD l).set j (.int x) = iD (l.set j x) := by
  unfold iD
  rw [List.map_set]
theorem iD_get {l : List Int} {j : Nat} {x : Int} (h : l[j]? = some x) : (iD l)[j]? = some (.int x) := by
  unfold iD
  rw [List.getElem?_map, h]
  rfl
theorem iD_len (l : List Int) : (iD l).length = l.length := by simp [iD]
theorem bit_of {c : Int} {a : Nat} : Builtin.bitAnd (c / 2 ^ a) 1 = if bitAt c a = true then 1 else 0 := by
  rw [PyProof.Rows.bitAnd_m1]
  unfold bitAt
  by_cases h : c / 2 ^ a % 2 = 1
  · rw [if_pos (by simpa using h), h]
  · rw [if_neg (by simpa using h)]
    omega
/-- the loop's body -/
def bodyOf : S → List S
  | .loop _ _ b => b
  | _ => []
section
variable {ways : List (Int × Int)} {wide high : Int} {cells : List Int} {N : Nat} {n : Nat} {st : List SObj}
/-- the states of the loops -/
def mvS (ways : List (Int × Int)) (wide high : Int) (cells : List Int) (st : List SObj) (l : List Int) (a b c d e : Slot) : Sg := ⟨[.val (.tup (ways.map wayD)), .val (.int wide), .val (.int high), .val (.tup (iD cells)), .own (iD l), a, b, c, d, e], st⟩
end
--# P03g
def enumD (l : List D) : List D := l.zipIdx.map fun p => D.tup [.int (p.2 : Nat), p.1]
theorem enum_get {l : List D} {i : Nat} {d : D} (h : (enumD l)[i]? = some d) : ∃ e, l[i]? = some e ∧ d = .tup [.int (i : Nat), e] := by
  unfold enumD at h
  rw [List.getElem?_map, List.getElem?_zipIdx] at h
  cases e : l[i]? with
  | none => rw [e] at h; cases h
  | some x =>
    rw [e] at h
    cases h
    exact ⟨x, rfl, by simp⟩
theorem enum_len (l : List D) : (enumD l).length = l.length := by simp [enumD]
theorem cell_get {cells : List Int} {i : Nat} {e : D} (h : (iD cells)[i]? = some e) : e = .int (cellAt cells i) ∧ i < cells.length := by
  unfold iD at h
  rw [List.getElem?_map] at h
  cases q : cells[i]? with
  | none => rw [q] at h; cases h
  | some c =>
    rw [q] at h
    cases h
    refine ⟨?_, (List.getElem?_eq_some_iff.mp q).1⟩
    unfold cellAt
    rw [Int.toNat_natCast, List.getD_eq_getElem?_getD, q]
    rfl
theorem way_get {ways : List (Int × Int)} {i : Nat} {e : D} (h : (ways.map wayD)[i]? = some e) : ∃ w, ways[i]? = some w ∧ e = wayD w := by
  rw [List.getElem?_map] at h
  cases q : ways[i]? with
  | none => rw [q] at h; cases h
  | some c =>
    rw [q] at h
    cases h
    exact ⟨c, rfl, rfl⟩
section
variable {ways : List (Int × Int)} {wide high : Int} {cells : List Int} {N : Nat} {n : Nat} {st : List SObj}
theorem bin_rep {k : Nat} (h : k ≤ 1000) : bin .Mult (.lst [.int 0]) (.int (k : Nat)) = some (.own (iD (List.replicate k 0))) := by
  have e : (List.replicate (k : Int).toNat [D.int 0]).flatten = iD (List.replicate k 0) := by
    rw [Int.toNat_natCast, List.flatten_replicate_singleton]
    simp [iD]
  have z : [D.int 0].length * ((k : Nat) : Int).toNat ≤ sizeLine := by
    have := sizeLine_eq
    simp only [List.length_singleton, Int.toNat_natCast]
    omega
  unfold bin
  dsimp only
  rw [if_pos ⟨by omega, by omega, z⟩, e]
theorem lst_one (cl : Call) (s : Sg) : evE cl (.lst [.lit (.int 0)]) s = some (.ok (.own [.int 0]), s) := by
  simp only [evE.eq_12, evEs, evE.eq_2, frz, bnd_ok, Sg.fz]
  have h : [D.int 0].length ≤ sizeLine := by
    have := sizeLine_eq
    simp only [List.length_singleton]
    omega
  rw [if_pos h]
theorem mv_first (hN64 : N ≤ 64) (hc : cells.length = N) (z0 : fL ways wide high cells N 0 0 = List.replicate N 0) : evS (callN Gl (n + 1)) (S.asg (.name 4) (.bin .Mult (.lst [.lit (.int 0)]) (.bcall .len [.var 3]))) ⟨[.val (.tup (ways.map wayD)), .val (.int wide), .val (.int high), .val (.tup (iD cells)), .un, .un, .un, .un, .un, .un], st⟩ = some (.nx, mvS ways wide high cells st (fL ways wide high cells N 0 0) .un .un .un .un .un) := by
  have hl : (iD cells).length = N := by rw [iD_len, hc]
  rw [z0]
  have hlen : evE (callN Gl (n + 1)) (.bcall .len [.var 3]) ⟨[.val (.tup (ways.map wayD)), .val (.int wide), .val (.int high), .val (.tup (iD cells)), .un, .un, .un, .un, .un, .un], st⟩ = some (.ok (.d (.int (N : Nat))), ⟨[.val (.tup (ways.map wayD)), .val (.int wide), .val (.int high), .val (.tup (iD cells)), .un, .un, .un, .un, .un, .un], st⟩) := by
    simp [runFn, evSs, evS, evE.eq_1, evE.eq_2, evE.eq_3, evE.eq_4, evE.eq_5, evE.eq_6, evE.eq_7, evE.eq_8, evE.eq_9, evE.eq_10, evE.eq_11, evE.eq_12, evE.eq_13, evE.eq_14, evE.eq_15, evE.eq_16, evE.eq_17, evE.eq_18, evE.eq_19, evEs, evHs, evT, evC, evO, evI, evW, evP, asg, asgTs_nil, asgTs_cons, asg_tup, frz, setSlot, callR, Sg.fz, Sg.rd, bin, un, cmp, truth, idx, slc, setI, methI, seqI, bcall, isNon, List.mapM_cons, List.mapM_nil, List.length_cons, List.length_nil, List.map_cons, List.map_nil, List.getElem?_cons_zero, List.getElem?_cons_succ, List.set_cons_zero, List.set_cons_succ, List.replicate, List.cons_append, List.nil_append, restore, wipeE, List.foldl_cons, List.foldl_nil, List.getD_cons_zero, List.getD_cons_succ, bools_map, ints_map, eqD_int, eqD_bl, binI_add, binI_sub, binI_and, binI_or, hl]
  rw [evS]
  rw [evE.eq_3, lst_one, bnd_ok, hlen, bnd_ok]
  have r1 : ∀ s : Sg, s.rd (.own [.int 0]) = some (.lst [.int 0]) := fun _ => rfl
  have r2 : ∀ s : Sg, s.rd (.d (.int (N : Nat))) = some (.int (N : Nat)) := fun _ => rfl
  rw [r1, r2, Option.bind_some, Option.bind_some, bin_rep (k := N) (by omega)]
  rfl
end
--# P03h
theorem lst_nil (cl : Call) (s : Sg) : evE cl (.lst []) s = some (.ok (.own []), s) := by
  simp only [evE.eq_12, evEs, bnd_ok]
  have h : ([] : List D).length ≤ sizeLine := Nat.zero_le _
  rw [if_pos h]
theorem append_ok (cl : Call) {i : Nat} {e : E} {s : Sg} {xs : List D} {d : D} (h : s.env[i]? = some (.own xs)) (he : frz (evE cl e s) = some (.ok d, s)) (hl : xs.length ≤ 1000) : evE cl (.meth .append i [e]) s = some (.ok (.d .non), { s with env := s.env.set i (.own (xs ++ [d])) }) := by
  have hz : xs.length < sizeLine := by
    have := sizeLine_eq
    omega
  rw [evE.eq_19, h]
  simp only [evEs, he, bnd_ok, methI, h]
  rw [if_pos hz]
section
variable {ways : List (Int × Int)} {wide high : Int} {cells : List Int} {N : Nat} {n : Nat} {st : List SObj}
def gC (ways : List (Int × Int)) (wide high : Int) (cells : List Int) (j : Nat) : Int := mkS ways.length (fun i => bitAt (cellAt cells (src ways wide high i j)) i)
def gP (ways : List (Int × Int)) (wide high : Int) (cells : List Int) (j a : Nat) : Int := mkS ways.length (fun i => decide (i < a) && bitAt (cellAt cells (src ways wide high i j)) i)
theorem gP_zero (j : Nat) : gP ways wide high cells j 0 = 0 := by
  rw [← mk_zero (m := ways.length)]
  refine mk_congr fun i _ => ?_
  simp
theorem gP_end (j : Nat) : gP ways wide high cells j ways.length = gC ways wide high cells j := mk_congr fun i hi => by simp [hi]
theorem gP_same {j a : Nat} (hb : bitAt (cellAt cells (src ways wide high a j)) a = false) : gP ways wide high cells j (a + 1) = gP ways wide high cells j a := mk_congr fun i hi => by
  by_cases h : i = a
  · subst h
    rw [hb]
    simp
  · congr 1
    apply decide_eq_decide.mpr
    omega
theorem gP_set {j a : Nat} (ha : a < ways.length) (l4 : ways.length ≤ 4) (hb : bitAt (cellAt cells (src ways wide high a j)) a = true) : Builtin.bitOr (gP ways wide high cells j a) (2 ^ a) = gP ways wide high cells j (a + 1) := by
  unfold gP
  rw [mk_or l4 ha]
  refine mk_congr fun i hi => ?_
  by_cases h : i = a
  · subst h
    rw [hb]
    simp
  · have h1 : decide (i = a) = false := by simp [h]
    rw [h1, Bool.or_false]
    congr 1
    apply decide_eq_decide.mpr
    omega
def lmS (ways : List (Int × Int)) (rule : List Int) (wide high : Int) (cells : List Int) (st : List SObj) (l : List Int) (a b c d : Slot) : Sg := ⟨[.val (tabD ways rule), .val (brdD wide high cells), .own (iD l), a, .val (.int wide), .val (.int high), .val (.tup (iD cells)), b, c, d], st⟩
variable {rule : List Int}
theorem cell_ix (hc : (cells.length : Int) = wide * high) (w1 : 1 ≤ wide) (h1 : 1 ≤ high) (i j : Nat) : ((ixNat (iD cells).length (src ways wide high i j)).bind fun k => (iD cells)[k]?) = some (.int (cellAt cells (src ways wide high i j))) := by
  have := src_rng (ways := ways) (wide := wide) (high := high) (by omega) (by omega) i j
  exact ix_at this.1 (by omega)
end
--# P03i
theorem movC_eq (ways : List (Int × Int)) (wide high : Int) (cells : List Int) (N : Nat) : movC ways wide high cells N = (List.range N).map (gC ways wide high cells) := rfl
section
variable {ways : List (Int × Int)} {rule : List Int} {wide high : Int} {cells : List Int} {N : Nat} {n : Nat} {st : List SObj}
theorem lm_first (s0 : Sg) (hs : s0 = ⟨[.val (tabD ways rule), .val (brdD wide high cells), .un, .un, .un, .un, .un, .un, .un, .un], st⟩) (cl : Call) : evSs cl [S.asg (.tup [.name 4, .name 5, .name 6]) (.var 1), S.asg (.name 2) (.lst [])] s0 = some (.nx, lmS ways rule wide high cells st [] .un .un .un .un) := by
  subst hs
  have e1 : evS cl (S.asg (.tup [.name 4, .name 5, .name 6]) (.var 1)) ⟨[.val (tabD ways rule), .val (brdD wide high cells), .un, .un, .un, .un, .un, .un, .un, .un], st⟩ = some (.nx, ⟨[.val (tabD ways rule), .val (brdD wide high cells), .un, .un, .val (.int wide), .val (.int high), .val (.tup (iD cells)), .un, .un, .un], st⟩) := by
    simp [runFn, evSs, evS, evE.eq_1, evE.eq_2, evE.eq_3, evE.eq_4, evE.eq_5, evE.eq_6, evE.eq_7, evE.eq_8, evE.eq_9, evE.eq_10, evE.eq_11, evE.eq_12, evE.eq_13, evE.eq_14, evE.eq_15, evE.eq_16, evE.eq_17, evE.eq_18, evE.eq_19, evEs, evHs, evT, evC, evO, evI, evW, evP, asg, asgTs_nil, asgTs_cons, asg_tup, frz, setSlot, callR, Sg.fz, Sg.rd, bin, un, cmp, truth, idx, slc, setI, methI, seqI, bcall, isNon, List.mapM_cons, List.mapM_nil, List.length_cons, List.length_nil, List.map_cons, List.map_nil, List.getElem?_cons_zero, List.getElem?_cons_succ, List.set_cons_zero, List.set_cons_succ, List.replicate, List.cons_append, List.nil_append, restore, wipeE, List.foldl_cons, List.foldl_nil, List.getD_cons_zero, List.getD_cons_succ, bools_map, ints_map, eqD_int, eqD_bl, binI_add, binI_sub, binI_and, binI_or, brdD]
  rw [evSs_cons, e1, seqF_nx, evSs_cons, evS, lst_nil, bndF_ok]
  rfl
theorem evSs_app (cl : Call) : ∀ (a b : List S) (s : Sg), evSs cl (a ++ b) s = seqF (evSs cl a s) fun s1 => evSs cl b s1
  | [], b, s => by rw [List.nil_append, evSs_nil, seqF_nx]
  | c :: a, b, s => by
    rw [List.cons_append, evSs_cons, evSs_cons]
    cases evS cl c s with
    | none => rfl
    | some p =>
      obtain ⟨f, s1⟩ := p
      cases f with
      | nx => exact evSs_app cl a b s1
      | bk => rfl
      | ct => rfl
      | rt d => rfl
      | ex x => rfl
end
--# P03j
theorem sz3 : 3 ≤ sizeLine := by
  have := sizeLine_eq
  omega
theorem mk_rng {m : Nat} (hm : m ≤ 4) (f : Nat → Bool) : 0 ≤ mkS m f ∧ mkS m f < 2 ^ m := by
  have c : m = 0 ∨ m = 1 ∨ m = 2 ∨ m = 3 ∨ m = 4 := by omega
  rcases c with rfl | rfl | rfl | rfl | rfl
  · simp [mkS]
  · cases h0 : f 0 <;> simp [mkS, List.range_succ, h0]
  · cases h0 : f 0 <;> cases h1 : f 1 <;> simp [mkS, List.range_succ, h0, h1]
  · cases h0 : f 0 <;> cases h1 : f 1 <;> cases h2 : f 2 <;> simp [mkS, List.range_succ, h0, h1, h2]
  · cases h0 : f 0 <;> cases h1 : f 1 <;> cases h2 : f 2 <;> cases h3 : f 3 <;> simp [mkS, List.range_succ, h0, h1, h2, h3]
section
variable {ways : List (Int × Int)} {rule : List Int} {wide high : Int} {cells : List Int} {n : Nat} {st : List SObj}
theorem BrdOk.n64 (b : BrdOk ways.length wide high cells) : cells.length ≤ 64 := by
  have h8 := b.h8
  have w8 := b.w8
  have h1 := b.h1
  have : wide * high ≤ 8 * 8 := Int.mul_le_mul w8 h8 (by omega) (by omega)
  have := b.len
  omega
theorem met_ok (h : TabOk ways rule) (b : BrdOk ways.length wide high cells) : BrdOk ways.length wide high (metC rule cells) := by
  refine ⟨b.w1, b.w8, b.h1, b.h8, by unfold metC; rw [List.length_map]; exact b.len, fun c hc => ?_⟩
  obtain ⟨x, hx, rfl⟩ := List.mem_map.mp hc
  have hr := b.rng x hx
  have hl : x.toNat < rule.length := by
    have := h.len
    have e : ((2 ^ ways.length : Nat) : Int) = 2 ^ ways.length := by simp
    omega
  rw [List.getD_eq_getElem?_getD, List.getElem?_eq_getElem hl]
  exact h.rng _ (List.getElem_mem hl)
theorem mov_ok (h : TabOk ways rule) (b : BrdOk ways.length wide high cells) : BrdOk ways.length wide high (movC ways wide high cells cells.length) := by
  refine ⟨b.w1, b.w8, b.h1, b.h8, by unfold movC; rw [List.length_map, List.length_range]; exact b.len, fun c hc => ?_⟩
  obtain ⟨x, hx, rfl⟩ := List.mem_map.mp hc
  exact mk_rng h.l4 _
theorem rule_rng (h : TabOk ways rule) (b : BrdOk ways.length wide high cells) : ∀ c ∈ cells, 0 ≤ c ∧ c < (rule.length : Int) := fun c hc => by
  have := b.rng c hc
  have := h.len
  have e : ((2 ^ ways.length : Nat) : Int) = 2 ^ ways.length := by simp
  omega
theorem met_len (rule cells : List Int) : (metC rule cells).length = cells.length := by simp [metC]
def stepC (ways : List (Int × Int)) (rule : List Int) (wide high : Int) (cells : List Int) : List Int := movC ways wide high (metC rule cells) cells.length
theorem step_ok (h : TabOk ways rule) (b : BrdOk ways.length wide high cells) : BrdOk ways.length wide high (stepC ways rule wide high cells) := by
  have := mov_ok h (met_ok h b)
  rw [met_len] at this
  exact this
end
--# P03k
def itC (ways : List (Int × Int)) (rule : List Int) (wide high : Int) : Nat → List Int → List Int
  | 0, c => c
  | k + 1, c => stepC ways rule wide high (itC ways rule wide high k c)
theorem rangeI_nat {k : Nat} (h : k ≤ 1000) : rangeI [D.int (k : Nat)] = some ((List.range k).map fun i => D.int (i : Nat)) := by
  unfold rangeI
  dsimp only
  rw [if_pos ⟨by omega, by omega⟩, Int.toNat_natCast]
section
variable {ways : List (Int × Int)} {rule : List Int} {wide high : Int} {cells : List Int} {n : Nat} {st : List SObj}
theorem it_ok (h : TabOk ways rule) (b : BrdOk ways.length wide high cells) : ∀ k, BrdOk ways.length wide high (itC ways rule wide high k cells)
  | 0 => b
  | k + 1 => step_ok h (it_ok h b k)
/-- the bits of a state -/
def bitsI (m : Nat) (c : Int) : List Int := (List.range m).map fun i => if bitAt c i = true then 1 else 0
theorem bit_turn {cl : Call} {c : Int} {i : Nat} : binI .RShift c (i : Nat) = some (c / 2 ^ i) := by
  have e : (i : Int).toNat = i := by omega
  rw [binI_shr (by omega), e]
end
--# P03l
theorem ints_iD (l : List Int) : intsOf (iD l) = some l := by
  have := ints_map (fun i : Int => i) l
  unfold iD
  rw [this]
  simp
section
variable {ways : List (Int × Int)} {rule : List Int} {wide high : Int} {cells : List Int} {n : Nat} {st : List SObj}
def seenC (m : Nat) (cells : List Int) : List Int := cells.map fun c => (bitsI m c).sum
def byC (m : Nat) (cells : List Int) : List Int := (List.range m).map fun i => (cells.map fun c => if bitAt c i = true then (1 : Int) else 0).sum
theorem by_inner (b : BrdOk ways.length wide high cells) (i : Nat) (cl : Call) : evE cl (.comp [3] (.bin .BitAnd (.bin .RShift (.var 3) (.var 2)) (.lit (.int 1))) (.name 3) (.seq (.idx (.var 1) (.lit (.int 2)))) none) ⟨[.val (tabD ways rule), .val (brdD wide high cells), .val (.int (i : Nat)), .un], st⟩ =
    some (.ok (.own (iD (cells.map fun c => if bitAt c i = true then (1 : Int) else 0))), ⟨[.val (tabD ways rule), .val (brdD wide high cells), .val (.int (i : Nat)), .un], st⟩) := by
  have hc := comp_pure (cl := cl) (vs := [3]) (elt := .bin .BitAnd (.bin .RShift (.var 3) (.var 2)) (.lit (.int 1))) (t := .name 3) (it := .seq (.idx (.var 1) (.lit (.int 2)))) (c := none) (ds := iD cells) (o := none)
    (s := ⟨[.val (tabD ways rule), .val (brdD wide high cells), .val (.int (i : Nat)), .un], st⟩) (s1 := ⟨[.val (tabD ways rule), .val (brdD wide high cells), .val (.int (i : Nat)), .un], st⟩)
    (f := fun d => match d with
      | .int c => some (.int (if bitAt c i = true then 1 else 0))
      | _ => none) (by simp [runFn, evSs, evS, evE.eq_1, evE.eq_2, evE.eq_3, evE.eq_4, evE.eq_5, evE.eq_6, evE.eq_7, evE.eq_8, evE.eq_9, evE.eq_10, evE.eq_11, evE.eq_12, evE.eq_13, evE.eq_14, evE.eq_15, evE.eq_16, evE.eq_17, evE.eq_18, evE.eq_19, evEs, evHs, evT, evC, evO, evI, evW, evP, asg, asgTs_nil, asgTs_cons, asg_tup, frz, setSlot, callR, Sg.fz, Sg.rd, bin, un, cmp, truth, idx, slc, setI, methI, seqI, bcall, isNon, List.mapM_cons, List.mapM_nil, List.length_cons, List.length_nil, List.map_cons, List.map_nil, List.getElem?_cons_zero, List.getElem?_cons_succ, List.set_cons_zero, List.set_cons_succ, List.replicate, List.cons_append, List.nil_append, restore, wipeE, List.foldl_cons, List.foldl_nil, List.getD_cons_zero, List.getD_cons_succ, bools_map, ints_map, eqD_int, eqD_bl, binI_add, binI_sub, binI_and, binI_or, ixNat, brdD]) rfl
    (fun d hd => by
      obtain ⟨c, hc, rfl⟩ := List.mem_map.mp hd
      have hb := bit_of (c := c) (a := i)
      have hs : binI .RShift c (i : Nat) = some (c / 2 ^ i) := bit_turn (cl := cl)
      simp [turnC, runFn, evSs, evS, evE.eq_1, evE.eq_2, evE.eq_3, evE.eq_4, evE.eq_5, evE.eq_6, evE.eq_7, evE.eq_8, evE.eq_9, evE.eq_10, evE.eq_11, evE.eq_12, evE.eq_13, evE.eq_14, evE.eq_15, evE.eq_16, evE.eq_17, evE.eq_18, evE.eq_19, evEs, evHs, evT, evC, evO, evI, evW, evP, asg, asgTs_nil, asgTs_cons, asg_tup, frz, setSlot, callR, Sg.fz, Sg.rd, bin, un, cmp, truth, idx, slc, setI, methI, seqI, bcall, isNon, List.mapM_cons, List.mapM_nil, List.length_cons, List.length_nil, List.map_cons, List.map_nil, List.getElem?_cons_zero, List.getElem?_cons_succ, List.set_cons_zero, List.set_cons_succ, List.replicate, List.cons_append, List.nil_append, restore, wipeE, List.foldl_cons, List.foldl_nil, List.getD_cons_zero, List.getD_cons_succ, bools_map, ints_map, eqD_int, eqD_bl, binI_add, binI_sub, binI_and, binI_or, hs, hb]) (by rw [sizeLine_eq, iD_len]; have := b.n64; omega)
  have e : (iD cells).filterMap (fun d => match d with
      | .int c => some (.int (if bitAt c i = true then 1 else 0))
      | _ => none) = iD (cells.map fun c => if bitAt c i = true then (1 : Int) else 0) := by
    unfold iD
    rw [List.map_map]
    exact filterMap_map (g := D.int) (k := fun c : Int => D.int (if bitAt c i = true then 1 else 0)) fun a _ => rfl
  rw [e] at hc
  exact hc
end
--# P03m
theorem pick {st : List SObj} (hr : RowOk st) {ds : List D} (h0 : ds ≠ []) (hl : ds.length ≤ 1000000) (n : Nat) : ∃ d st', callN Gl (n + 2) 9 [.ref 0, .lst ds] st = some (.ok d, st') ∧ d ∈ ds ∧ RowOk st' := by
  have hp := List.length_pos_iff.mpr h0
  obtain ⟨k, st', e, k0, k1, hr'⟩ := taken hr (many := (ds.length : Int)) (by omega) (by omega) n
  have hk : k.toNat < ds.length := by omega
  refine ⟨ds[k.toNat], st', ?_, List.getElem_mem hk, hr'⟩
  rw [c__law_pick]
  have hix : ((ixNat ds.length k).bind fun j => ds[j]?) = some ds[k.toNat] := by
    unfold ixNat
    rw [if_pos k0, if_pos (by omega), Option.bind_some, List.getElem?_eq_getElem hk]
  simp [-List.getElem?_eq_getElem, b__law_pick, runFn, evSs, evS, evE.eq_1, evE.eq_2, evE.eq_3, evE.eq_4, evE.eq_5, evE.eq_6, evE.eq_7, evE.eq_8, evE.eq_9, evE.eq_10, evE.eq_11, evE.eq_12, evE.eq_13, evE.eq_14, evE.eq_15, evE.eq_16, evE.eq_17, evE.eq_18, evE.eq_19, evEs, evHs, evT, evC, evO, evI, evW, evP, asg, asgTs_nil, asgTs_cons, asg_tup, frz, setSlot, callR, Sg.fz, Sg.rd, bin, un, cmp, truth, idx, slc, setI, methI, seqI, bcall, isNon, List.mapM_cons, List.mapM_nil, List.length_cons, List.length_nil, List.map_cons, List.map_nil, List.getElem?_cons_zero, List.getElem?_cons_succ, List.set_cons_zero, List.set_cons_succ, List.replicate, List.cons_append, List.nil_append, restore, wipeE, List.foldl_cons, List.foldl_nil, List.getD_cons_zero, List.getD_cons_succ, bools_map, ints_map, eqD_int, eqD_bl, binI_add, binI_sub, binI_and, binI_or, e, hix]
theorem specks {c : Int} {n : Nat} {st : List SObj} : ∃ k : Nat, callN Gl (n + 1) 13 [.int c] st = some (.ok (.int (k : Nat)), st) ∧ k = ((List.range 4).filter fun i => bitAt c i).length := by
  refine ⟨_, ?_, rfl⟩
  rw [c__law_specks]
  have hr := rangeI_nat (k := 4) (by omega)
  have hc := comp_pure (cl := callN Gl n) (vs := [1]) (elt := .lit (.int 1)) (t := .name 1) (it := .range [.lit (.int 4)]) (c := some (.e (.bin .BitAnd (.bin .RShift (.var 0) (.var 1)) (.lit (.int 1))))) (ds := (List.range 4).map fun i => D.int (i : Nat)) (o := none)
    (s := ⟨[.val (.int c), .un], st⟩) (s1 := ⟨[.val (.int c), .un], st⟩)
    (f := fun d => match d with
      | D.int i => if bitAt c i.toNat = true then some (D.int 1) else none
      | _ => none) (by
        have hr' : rangeI [D.int 4] = some ((List.range 4).map fun i => D.int (i : Nat)) := hr
        simp only [runFn, evSs, evS, evE.eq_1, evE.eq_2, evE.eq_3, evE.eq_4, evE.eq_5, evE.eq_6, evE.eq_7, evE.eq_8, evE.eq_9, evE.eq_10, evE.eq_11, evE.eq_12, evE.eq_13, evE.eq_14, evE.eq_15, evE.eq_16, evE.eq_17, evE.eq_18, evE.eq_19, evEs, evHs, evT, evC, evO, evI, evW, evP, asg, asgTs_nil, asgTs_cons, asg_tup, frz, setSlot, callR, Sg.fz, Sg.rd, bin, un, cmp, truth, idx, slc, setI, methI, seqI, bcall, isNon, List.mapM_cons, List.mapM_nil, List.length_cons, List.length_nil, List.map_cons, List.map_nil, List.getElem?_cons_zero, List.getElem?_cons_succ, List.set_cons_zero, List.set_cons_succ, List.replicate, List.cons_append, List.nil_append, restore, wipeE, List.foldl_cons, List.foldl_nil, List.getD_cons_zero, List.getD_cons_succ, bools_map, ints_map, eqD_int, eqD_bl, binI_add, binI_sub, binI_and, binI_or, bnd_ok, hr', Option.map_some, opt_some]) rfl
    (fun d hd => by
      obtain ⟨i, hi, rfl⟩ := List.mem_map.mp hd
      have hb := bit_of (c := c) (a := i)
      have hs : binI .RShift c (i : Nat) = some (c / 2 ^ i) := bit_turn (cl := callN Gl n)
      cases q : bitAt c i with
      | true => rw [q] at hb; simp [turnC, runFn, evSs, evS, evE.eq_1, evE.eq_2, evE.eq_3, evE.eq_4, evE.eq_5, evE.eq_6, evE.eq_7, evE.eq_8, evE.eq_9, evE.eq_10, evE.eq_11, evE.eq_12, evE.eq_13, evE.eq_14, evE.eq_15, evE.eq_16, evE.eq_17, evE.eq_18, evE.eq_19, evEs, evHs, evT, evC, evO, evI, evW, evP, asg, asgTs_nil, asgTs_cons, asg_tup, frz, setSlot, callR, Sg.fz, Sg.rd, bin, un, cmp, truth, idx, slc, setI, methI, seqI, bcall, isNon, List.mapM_cons, List.mapM_nil, List.length_cons, List.length_nil, List.map_cons, List.map_nil, List.getElem?_cons_zero, List.getElem?_cons_succ, List.set_cons_zero, List.set_cons_succ, List.replicate, List.cons_append, List.nil_append, restore, wipeE, List.foldl_cons, List.foldl_nil, List.getD_cons_zero, List.getD_cons_succ, bools_map, ints_map, eqD_int, eqD_bl, binI_add, binI_sub, binI_and, binI_or, hs, hb, q]
      | false => rw [q] at hb; simp [turnC, runFn, evSs, evS, evE.eq_1, evE.eq_2, evE.eq_3, evE.eq_4, evE.eq_5, evE.eq_6, evE.eq_7, evE.eq_8, evE.eq_9, evE.eq_10, evE.eq_11, evE.eq_12, evE.eq_13, evE.eq_14, evE.eq_15, evE.eq_16, evE.eq_17, evE.eq_18, evE.eq_19, evEs, evHs, evT, evC, evO, evI, evW, evP, asg, asgTs_nil, asgTs_cons, asg_tup, frz, setSlot, callR, Sg.fz, Sg.rd, bin, un, cmp, truth, idx, slc, setI, methI, seqI, bcall, isNon, List.mapM_cons, List.mapM_nil, List.length_cons, List.length_nil, List.map_cons, List.map_nil, List.getElem?_cons_zero, List.getElem?_cons_succ, List.set_cons_zero, List.set_cons_succ, List.replicate, List.cons_append, List.nil_append, restore, wipeE, List.foldl_cons, List.foldl_nil, List.getD_cons_zero, List.getD_cons_succ, bools_map, ints_map, eqD_int, eqD_bl, binI_add, binI_sub, binI_and, binI_or, hs, hb, q]) (by rw [sizeLine_eq, List.length_map, List.length_range]; omega)
  have e : (((List.range 4).map fun i => D.int (i : Nat)).filterMap (fun d => match d with
      | D.int i => if bitAt c i.toNat = true then some (D.int 1) else none
      | _ => none)).length = ((List.range 4).filter fun i => bitAt c i).length := by
    have : ∀ l : List Nat, ((l.map fun i => D.int (i : Nat)).filterMap (fun d => match d with
      | D.int i => if bitAt c i.toNat = true then some (D.int 1) else none
      | _ => none)).length = (l.filter fun i => bitAt c i).length := fun l => by
      induction l with
      | nil => rfl
      | cons a l ih =>
        cases q : bitAt c a with
        | true =>
          rw [List.map_cons, List.filter_cons_of_pos (by simpa using q), List.filterMap_cons_some (b := D.int 1) (by simp [q])]
          simp only [List.length_cons, ih]
        | false =>
          rw [List.map_cons, List.filter_cons_of_neg (by simp [q]), List.filterMap_cons_none (by simp [q])]
          exact ih
    exact this _
  simp [-List.filterMap_map, b__law_specks, runFn, evSs, evS, evE.eq_1, evE.eq_2, evE.eq_3, evE.eq_4, evE.eq_5, evE.eq_6, evE.eq_7, evE.eq_8, evE.eq_9, evE.eq_10, evE.eq_11, evE.eq_12, evE.eq_13, evE.eq_14, evE.eq_15, evE.eq_16, evE.eq_17, evE.eq_18, evE.eq_19, evEs, evHs, evT, evC, evO, evI, evW, evP, asg, asgTs_nil, asgTs_cons, asg_tup, frz, setSlot, callR, Sg.fz, Sg.rd, bin, un, cmp, truth, idx, slc, setI, methI, seqI, bcall, isNon, List.mapM_cons, List.mapM_nil, List.length_cons, List.length_nil, List.map_cons, List.map_nil, List.getElem?_cons_zero, List.getElem?_cons_succ, List.set_cons_zero, List.set_cons_succ, List.replicate, List.cons_append, List.nil_append, restore, wipeE, List.foldl_cons, List.foldl_nil, List.getD_cons_zero, List.getD_cons_succ, bools_map, ints_map, eqD_int, eqD_bl, binI_add, binI_sub, binI_and, binI_or, hc, e]
--# P03n
def It : Nat → D → Prop
  | 0, d => ∃ i, d = .int i
  | k + 1, d => (∃ i, d = .int i) ∨ ∃ ds, d = .tup ds ∧ ds.length ≤ 1000 ∧ ∀ x ∈ ds, It k x
theorem eqD_nil : eqD (.lst []) (.lst []) = some true := by
  simp [eqD, toP, toPs]
  decide
theorem alike_int {n : Nat} {st : List SObj} (i : Int) : callN Gl (n + 1) 11 [.int i, .int i] st = some (.ok (.bl true), st) := by
  rw [c__law_alike]
  simp [b__law_alike, runFn, evSs, evS, evE.eq_1, evE.eq_2, evE.eq_3, evE.eq_4, evE.eq_5, evE.eq_6, evE.eq_7, evE.eq_8, evE.eq_9, evE.eq_10, evE.eq_11, evE.eq_12, evE.eq_13, evE.eq_14, evE.eq_15, evE.eq_16, evE.eq_17, evE.eq_18, evE.eq_19, evEs, evHs, evT, evC, evO, evI, evW, evP, asg, asgTs_nil, asgTs_cons, asg_tup, frz, setSlot, callR, Sg.fz, Sg.rd, bin, un, cmp, truth, idx, slc, setI, methI, seqI, bcall, isNon, List.mapM_cons, List.mapM_nil, List.length_cons, List.length_nil, List.map_cons, List.map_nil, List.getElem?_cons_zero, List.getElem?_cons_succ, List.set_cons_zero, List.set_cons_succ, List.replicate, List.cons_append, List.nil_append, restore, wipeE, List.foldl_cons, List.foldl_nil, List.getD_cons_zero, List.getD_cons_succ, bools_map, ints_map, eqD_int, eqD_bl, binI_add, binI_sub, binI_and, binI_or]
theorem alike : ∀ (k : Nat) (d : D), It k d → ∀ (n : Nat) (st : List SObj), callN Gl (n + k + 1) 11 [d, d] st = some (.ok (.bl true), st)
  | 0, d, h, n, st => by
    obtain ⟨i, rfl⟩ := h
    exact alike_int i
  | k + 1, d, h, n, st => by
    rcases h with ⟨i, rfl⟩ | ⟨ds, rfl, hl, h⟩
    · exact alike_int i
    · rw [c__law_alike]
      have hr := rangeI_nat (k := ds.length) (by omega)
      have hc := comp_pure (cl := callN Gl (n + (k + 1))) (vs := [2]) (elt := .var 2) (t := .name 2) (it := .range [.bcall .len [.var 1]]) (c := some (.not (.e (.call 11 [.idx (.var 0) (.var 2), .idx (.var 1) (.var 2)])))) (ds := (List.range ds.length).map fun i => D.int (i : Nat)) (o := none)
        (s := ⟨[.val (.tup ds), .val (.tup ds), .un], st⟩) (s1 := ⟨[.val (.tup ds), .val (.tup ds), .un], st⟩)
        (f := fun _ => none) (by simp [runFn, evSs, evS, evE.eq_1, evE.eq_2, evE.eq_3, evE.eq_4, evE.eq_5, evE.eq_6, evE.eq_7, evE.eq_8, evE.eq_9, evE.eq_10, evE.eq_11, evE.eq_12, evE.eq_13, evE.eq_14, evE.eq_15, evE.eq_16, evE.eq_17, evE.eq_18, evE.eq_19, evEs, evHs, evT, evC, evO, evI, evW, evP, asg, asgTs_nil, asgTs_cons, asg_tup, frz, setSlot, callR, Sg.fz, Sg.rd, bin, un, cmp, truth, idx, slc, setI, methI, seqI, bcall, isNon, List.mapM_cons, List.mapM_nil, List.length_cons, List.length_nil, List.map_cons, List.map_nil, List.getElem?_cons_zero, List.getElem?_cons_succ, List.set_cons_zero, List.set_cons_succ, List.replicate, List.cons_append, List.nil_append, restore, wipeE, List.foldl_cons, List.foldl_nil, List.getD_cons_zero, List.getD_cons_succ, bools_map, ints_map, eqD_int, eqD_bl, binI_add, binI_sub, binI_and, binI_or, hr]) rfl
        (fun d hd => by
          obtain ⟨i, hi, rfl⟩ := List.mem_map.mp hd
          have hi := List.mem_range.mp hi
          have ha := alike k ds[i] (h _ (List.getElem_mem hi)) n st
          have hix : ((ixNat ds.length ((i : Nat) : Int)).bind fun j => ds[j]?) = some ds[i] := by
            unfold ixNat
            rw [if_pos (by omega), if_pos (by omega), Option.bind_some, Int.toNat_natCast, List.getElem?_eq_getElem hi]
          rw [show n + k + 1 = n + (k + 1) from rfl] at ha
          simp [-List.getElem?_eq_getElem, turnC, runFn, evSs, evS, evE.eq_1, evE.eq_2, evE.eq_3, evE.eq_4, evE.eq_5, evE.eq_6, evE.eq_7, evE.eq_8, evE.eq_9, evE.eq_10, evE.eq_11, evE.eq_12, evE.eq_13, evE.eq_14, evE.eq_15, evE.eq_16, evE.eq_17, evE.eq_18, evE.eq_19, evEs, evHs, evT, evC, evO, evI, evW, evP, asg, asgTs_nil, asgTs_cons, asg_tup, frz, setSlot, callR, Sg.fz, Sg.rd, bin, un, cmp, truth, idx, slc, setI, methI, seqI, bcall, isNon, List.mapM_cons, List.mapM_nil, List.length_cons, List.length_nil, List.map_cons, List.map_nil, List.getElem?_cons_zero, List.getElem?_cons_succ, List.set_cons_zero, List.set_cons_succ, List.replicate, List.cons_append, List.nil_append, restore, wipeE, List.foldl_cons, List.foldl_nil, List.getD_cons_zero, List.getD_cons_succ, bools_map, ints_map, eqD_int, eqD_bl, binI_add, binI_sub, binI_and, binI_or, hix, ha]) (by rw [sizeLine_eq, List.length_map, List.length_range]; omega)
      have e : ((List.range ds.length).map fun i => D.int (i : Nat)).filterMap (fun _ => (none : Option D)) = [] := by
        simp
      rw [e] at hc
      simp [b__law_alike, runFn, evSs, evS, evE.eq_1, evE.eq_2, evE.eq_3, evE.eq_4, evE.eq_5, evE.eq_6, evE.eq_7, evE.eq_8, evE.eq_9, evE.eq_10, evE.eq_11, evE.eq_12, evE.eq_13, evE.eq_14, evE.eq_15, evE.eq_16, evE.eq_17, evE.eq_18, evE.eq_19, evEs, evHs, evT, evC, evO, evI, evW, evP, asg, asgTs_nil, asgTs_cons, asg_tup, frz, setSlot, callR, Sg.fz, Sg.rd, bin, un, cmp, truth, idx, slc, setI, methI, seqI, bcall, isNon, List.mapM_cons, List.mapM_nil, List.length_cons, List.length_nil, List.map_cons, List.map_nil, List.getElem?_cons_zero, List.getElem?_cons_succ, List.set_cons_zero, List.set_cons_succ, List.replicate, List.cons_append, List.nil_append, restore, wipeE, List.foldl_cons, List.foldl_nil, List.getD_cons_zero, List.getD_cons_succ, bools_map, ints_map, eqD_int, eqD_bl, binI_add, binI_sub, binI_and, binI_or, hc, eqD_nil]
--# P03o
section
variable {ways : List (Int × Int)} {rule : List Int} {wide high : Int} {cells : List Int} {n : Nat} {st : List SObj}
theorem need_bool (b : Bool) (nm : D) (n : Nat) (st : List SObj) : callN Gl (n + 1) 4 [.bl b, nm] st = if b = true then some (.ok .non, st) else some (.exc ⟨0, [nm]⟩, st) := by
  cases b with
  | true => rw [if_pos rfl]; exact need_t nm n st
  | false => rw [if_neg (by simp)]; exact need_f nm n st
/-- the new state of a place -/
def putC (c : Int) (w : Nat) (b : Bool) : Int := if b = true then Builtin.bitOr c (2 ^ w) else Builtin.bitAnd c (Builtin.bitNot (2 ^ w))
theorem putC_eq {c : Int} {w : Nat} (c0 : 0 ≤ c) (c1 : c < 16) (hw : w < 4) (b : Bool) : c - (if bitAt c w = true then 1 else 0) * 2 ^ w + (if b = true then 2 ^ w else 0) = putC c w b := by
  have key : ∀ (c : Fin 16) (w : Fin 4) (b : Bool), ((c.val : Int) - (if bitAt (c.val : Int) w.val = true then 1 else 0) * 2 ^ w.val + (if b = true then 2 ^ w.val else 0)) = putC (c.val : Int) w.val b := by decide
  have := key ⟨c.toNat, by omega⟩ ⟨w, hw⟩ b
  simp only [Int.toNat_of_nonneg c0] at this
  exact this
end
--# P03s
theorem eraseIdx_map' {α β : Type} (f : α → β) : ∀ (l : List α) (j : Nat), (l.map f).eraseIdx j = (l.eraseIdx j).map f
  | [], _ => rfl
  | _ :: _, 0 => rfl
  | a :: l, j + 1 => by
    simp only [List.map_cons, List.eraseIdx_cons_succ, eraseIdx_map' f l j]
/-- the ways that can be drawn -/
def allW : List (Int × Int) := [(1, 0), (-1, 0), (0, 1), (0, -1), (0, 0), (1, 1), (-1, -1), (2, 0), (-2, 1), (1, -2)]
def wayB : List S := match b__law_ways with
  | [_, .loop _ _ b, _] => b
  | _ => []
theorem ways_turn {st : List SObj} (hr : RowOk st) {rest got : List (Int × Int)} (h0 : rest ≠ []) (h10 : rest.length ≤ 10) (hg : got.length ≤ 10) (n : Nat) (m x : Slot) : ∃ j st', ∃ hj : j < rest.length,
    evSs (callN Gl (n + 1)) wayB ⟨[.val (.ref 0), m, x, .own (rest.map wayD), .own (got.map wayD)], st⟩ = some (.nx, ⟨[.val (.ref 0), m, x, .own ((rest.eraseIdx j).map wayD), .own ((got ++ [rest[j]]).map wayD)], st'⟩) ∧ RowOk st' := by
  have hp := List.length_pos_iff.mpr h0
  obtain ⟨k, st1, e1, k0, k1, hr1⟩ := taken hr (many := 7) (by omega) (by omega) n
  obtain ⟨q, hq⟩ : ∃ q : Int, (if 4 + k < (rest.length : Int) then 4 + k else (rest.length : Int)) = q := ⟨_, rfl⟩
  have q0 : 0 < q ∧ q ≤ rest.length := by
    subst hq
    split <;> omega
  obtain ⟨j, st2, e2, j0, j1, hr2⟩ := taken hr1 (many := q) (by omega) (by omega) n
  have hj : j.toNat < rest.length := by omega
  refine ⟨j.toNat, st2, hj, ?_, hr2⟩
  have hx : ixNat rest.length j = some j.toNat := by
    unfold ixNat
    rw [if_pos j0, if_pos (by omega)]
  have hget : (rest.map wayD)[j.toNat]? = some (wayD rest[j.toNat]) := by
    rw [List.getElem?_map, List.getElem?_eq_getElem hj]
    rfl
  have he : (rest.map wayD).eraseIdx j.toNat = (rest.eraseIdx j.toNat).map wayD := by
    exact eraseIdx_map' wayD rest _
  have jr : -9223372036854775808 ≤ j ∧ j < 9223372036854775808 := by omega
  have hs : got.length < sizeLine := by have := sizeLine_eq; omega
  simp [-List.getElem?_eq_getElem, wayB, b__law_ways, runFn, evSs, evS, evE.eq_1, evE.eq_2, evE.eq_3, evE.eq_4, evE.eq_5, evE.eq_6, evE.eq_7, evE.eq_8, evE.eq_9, evE.eq_10, evE.eq_11, evE.eq_12, evE.eq_13, evE.eq_14, evE.eq_15, evE.eq_16, evE.eq_17, evE.eq_18, evE.eq_19, evEs, evHs, evT, evC, evO, evI, evW, evP, asg, asgTs_nil, asgTs_cons, asg_tup, frz, setSlot, callR, Sg.fz, Sg.rd, bin, un, cmp, truth, idx, slc, setI, methI, seqI, bcall, isNon, List.mapM_cons, List.mapM_nil, List.length_cons, List.length_nil, List.map_cons, List.map_nil, List.getElem?_cons_zero, List.getElem?_cons_succ, List.set_cons_zero, List.set_cons_succ, List.replicate, List.cons_append, List.nil_append, restore, wipeE, List.foldl_cons, List.foldl_nil, List.getD_cons_zero, List.getD_cons_succ, bools_map, ints_map, eqD_int, eqD_bl, binI_add, binI_sub, binI_and, binI_or, e1, hq, e2, hx, hget, he, jr, hs]
--# P03t
theorem perm_erase {α : Type} : ∀ (l : List α) (j : Nat) (h : j < l.length) (g : List α), (g ++ [l[j]] ++ l.eraseIdx j).Perm (g ++ l)
  | a :: l, 0, _, g => by simp
  | a :: l, j + 1, h, g => by
    have h' : j < l.length := by simpa using h
    have := perm_erase l j h' []
    simp only [List.nil_append, List.cons_append] at this
    simp only [List.getElem_cons_succ, List.eraseIdx_cons_succ, List.append_assoc]
    refine List.Perm.append_left g ?_
    exact (List.Perm.swap _ _ _).trans (List.Perm.cons a this)
theorem ways {st : List SObj} (hr : RowOk st) {m : Nat} (h1 : 1 ≤ m) (h4 : m ≤ 4) (n : Nat) : ∃ (got : List (Int × Int)) (st' : List SObj), callN Gl (n + 2) 12 [.ref 0, .int (m : Nat)] st = some (.ok (.tup (got.map wayD)), st') ∧ RowOk st' ∧ got.length = m ∧ got.Nodup ∧ ∀ w ∈ got, w ∈ allW := by
  rw [c__law_ways]
  obtain ⟨s', e, rest, got, x, st', rfl, hr', hp, hl⟩ := loopGo_inv (turn := fun d s2 => bndF (asg (callN Gl (n + 1)) (.name 2) d s2) fun _ s3 => evSs (callN Gl (n + 1)) wayB s3)
    (fun i s => ∃ (rest got : List (Int × Int)) (x : Rf.Slot) (st' : List SObj), s = ⟨[.val (.ref 0), .val (.int (m : Nat)), x, .own (rest.map wayD), .own (got.map wayD)], st'⟩ ∧ RowOk st' ∧ (got ++ rest).Perm allW ∧ got.length = i)
    ((List.range m).map fun i => D.int (i : Nat)) 0 ⟨[.val (.ref 0), .val (.int (m : Nat)), .un, .own (allW.map wayD), .own []], st⟩ ⟨allW, [], .un, st, rfl, hr, List.Perm.refl _, rfl⟩ (fun i d s hd hs => by
      obtain ⟨rest, got, x, st', rfl, hr', hp, hl⟩ := hs
      have hi : i < m := by
        have := List.getElem?_eq_some_iff.mp hd
        obtain ⟨h, _⟩ := this
        simpa using h
      have hlen := hp.length_eq
      rw [List.length_append] at hlen
      have : allW.length = 10 := rfl
      obtain ⟨j, st2, hj, e, hr2⟩ := ways_turn hr' (rest := rest) (got := got) (by intro h; subst h; simp at hlen; omega) (by omega) (by omega) n (.val (.int (m : Nat))) (.val d)
      refine ⟨_, ?_, rest.eraseIdx j, got ++ [rest[j]], .val d, st2, rfl, hr2, (perm_erase rest j hj got).trans hp, by simp; omega⟩
      have ea : asg (callN Gl (n + 1)) (.name 2) d ⟨[.val (.ref 0), .val (.int (m : Nat)), x, .own (rest.map wayD), .own (got.map wayD)], st'⟩ = some (.ok (), ⟨[.val (.ref 0), .val (.int (m : Nat)), .val d, .own (rest.map wayD), .own (got.map wayD)], st'⟩) := by
        simp [runFn, evSs, evS, evE.eq_1, evE.eq_2, evE.eq_3, evE.eq_4, evE.eq_5, evE.eq_6, evE.eq_7, evE.eq_8, evE.eq_9, evE.eq_10, evE.eq_11, evE.eq_12, evE.eq_13, evE.eq_14, evE.eq_15, evE.eq_16, evE.eq_17, evE.eq_18, evE.eq_19, evEs, evHs, evT, evC, evO, evI, evW, evP, asg, asgTs_nil, asgTs_cons, asg_tup, frz, setSlot, callR, Sg.fz, Sg.rd, bin, un, cmp, truth, idx, slc, setI, methI, seqI, bcall, isNon, List.mapM_cons, List.mapM_nil, List.length_cons, List.length_nil, List.map_cons, List.map_nil, List.getElem?_cons_zero, List.getElem?_cons_succ, List.set_cons_zero, List.set_cons_succ, List.replicate, List.cons_append, List.nil_append, restore, wipeE, List.foldl_cons, List.foldl_nil, List.getD_cons_zero, List.getD_cons_succ, bools_map, ints_map, eqD_int, eqD_bl, binI_add, binI_sub, binI_and, binI_or]
      rw [ea, bndF_ok, e])
  rw [Nat.zero_add, List.length_map, List.length_range] at hl
  have nd : (got ++ rest).Nodup := (List.Perm.nodup_iff hp).mpr (by decide)
  refine ⟨got, st', ?_, hr', hl, (List.nodup_append.mp nd).1, fun w hw => hp.mem_iff.mp (List.mem_append_left _ hw)⟩
  refine runFn_rt rfl (s0 := ⟨[.val (.ref 0), .val (.int (m : Nat)), .un, .un, .un], st⟩) rfl ?_
  have hr := rangeI_nat (k := m) (by omega)
  have z2 : 10 ≤ sizeLine := by have := sizeLine_eq; omega
  have z3 : 2 ≤ sizeLine := by have := sizeLine_eq; omega
  have z0 : 0 ≤ sizeLine := by omega
  have e1 : evI (callN Gl (n + 1)) (.range [.var 1]) ⟨[.val (.ref 0), .val (.int (m : Nat)), .un, .own (allW.map wayD), .own []], st⟩ = some (.ok ((List.range m).map fun i => D.int (i : Nat)), ⟨[.val (.ref 0), .val (.int (m : Nat)), .un, .own (allW.map wayD), .own []], st⟩) := by
    simp [runFn, evSs, evS, evE.eq_1, evE.eq_2, evE.eq_3, evE.eq_4, evE.eq_5, evE.eq_6, evE.eq_7, evE.eq_8, evE.eq_9, evE.eq_10, evE.eq_11, evE.eq_12, evE.eq_13, evE.eq_14, evE.eq_15, evE.eq_16, evE.eq_17, evE.eq_18, evE.eq_19, evEs, evHs, evT, evC, evO, evI, evW, evP, asg, asgTs_nil, asgTs_cons, asg_tup, frz, setSlot, callR, Sg.fz, Sg.rd, bin, un, cmp, truth, idx, slc, setI, methI, seqI, bcall, isNon, List.mapM_cons, List.mapM_nil, List.length_cons, List.length_nil, List.map_cons, List.map_nil, List.getElem?_cons_zero, List.getElem?_cons_succ, List.set_cons_zero, List.set_cons_succ, List.replicate, List.cons_append, List.nil_append, restore, wipeE, List.foldl_cons, List.foldl_nil, List.getD_cons_zero, List.getD_cons_succ, bools_map, ints_map, eqD_int, eqD_bl, binI_add, binI_sub, binI_and, binI_or, hr]
  have e0 : ∃ p, b__law_ways = [p, .loop (.name 2) (.range [.var 1]) wayB, .ret (some (.bcall .tuple [.var 4]))] ∧ evS (callN Gl (n + 1)) p ⟨[.val (.ref 0), .val (.int (m : Nat)), .un, .un, .un], st⟩ = some (.nx, ⟨[.val (.ref 0), .val (.int (m : Nat)), .un, .own (allW.map wayD), .own []], st⟩) := by
    refine ⟨_, rfl, ?_⟩
    simp [runFn, evSs, evS, evE.eq_1, evE.eq_2, evE.eq_3, evE.eq_4, evE.eq_5, evE.eq_6, evE.eq_7, evE.eq_8, evE.eq_9, evE.eq_10, evE.eq_11, evE.eq_12, evE.eq_13, evE.eq_14, evE.eq_15, evE.eq_16, evE.eq_17, evE.eq_18, evE.eq_19, evEs, evHs, evT, evC, evO, evI, evW, evP, asg, asgTs_nil, asgTs_cons, asg_tup, frz, setSlot, callR, Sg.fz, Sg.rd, bin, un, cmp, truth, idx, slc, setI, methI, seqI, bcall, isNon, List.mapM_cons, List.mapM_nil, List.length_cons, List.length_nil, List.map_cons, List.map_nil, List.getElem?_cons_zero, List.getElem?_cons_succ, List.set_cons_zero, List.set_cons_succ, List.replicate, List.cons_append, List.nil_append, restore, wipeE, List.foldl_cons, List.foldl_nil, List.getD_cons_zero, List.getD_cons_succ, bools_map, ints_map, eqD_int, eqD_bl, binI_add, binI_sub, binI_and, binI_or, z2, z3, z0, allW, wayD]
  obtain ⟨p, eb, ep⟩ := e0
  rw [eb, evSs_cons, ep, seqF_nx, evSs_cons, evS_loop, e1, bndF_ok, e, seqF_nx]
  simp [runFn, evSs, evS, evE.eq_1, evE.eq_2, evE.eq_3, evE.eq_4, evE.eq_5, evE.eq_6, evE.eq_7, evE.eq_8, evE.eq_9, evE.eq_10, evE.eq_11, evE.eq_12, evE.eq_13, evE.eq_14, evE.eq_15, evE.eq_16, evE.eq_17, evE.eq_18, evE.eq_19, evEs, evHs, evT, evC, evO, evI, evW, evP, asg, asgTs_nil, asgTs_cons, asg_tup, frz, setSlot, callR, Sg.fz, Sg.rd, bin, un, cmp, truth, idx, slc, setI, methI, seqI, bcall, isNon, List.mapM_cons, List.mapM_nil, List.length_cons, List.length_nil, List.map_cons, List.map_nil, List.getElem?_cons_zero, List.getElem?_cons_succ, List.set_cons_zero, List.set_cons_succ, List.replicate, List.cons_append, List.nil_append, restore, wipeE, List.foldl_cons, List.foldl_nil, List.getD_cons_zero, List.getD_cons_succ, bools_map, ints_map, eqD_int, eqD_bl, binI_add, binI_sub, binI_and, binI_or]
--# P03u
/-- a rule -/
def RulOk (m : Nat) (rule : List Int) : Prop := rule.length = 2 ^ m ∧ (∀ r ∈ rule, 0 ≤ r ∧ r < 2 ^ m) ∧ rule[0]? = some 0
def idR (k : Nat) : List Int := (List.range k).map fun (i : Nat) => (i : Int)
theorem cut_one {α : Type} (l : List α) : cut l (some 1) none = l.tail := by
  unfold cut
  rw [HT.sIx_none, show (1 : Int) = ((1 : Nat) : Int) from rfl, HT.sIx_nat]
  cases l with
  | nil => rfl
  | cons a l =>
    have : min 1 (a :: l).length = 1 := by simp
    rw [this]
    simp
theorem ints_of {P : Int → Prop} : ∀ {xs : List D}, (∀ x ∈ xs, ∃ i, x = .int i ∧ P i) → ∃ l : List Int, xs = iD l ∧ ∀ i ∈ l, P i
  | [], _ => ⟨[], rfl, fun i hi => by cases hi⟩
  | x :: xs, h => by
    obtain ⟨i, rfl, hp⟩ := h x (by simp)
    obtain ⟨l, rfl, hl⟩ := ints_of (xs := xs) fun y hy => h y (by simp [hy])
    refine ⟨i :: l, rfl, fun j hj => ?_⟩
    rcases List.mem_cons.mp hj with rfl | hj
    · exact hp
    · exact hl j hj
def rulS : Nat → S := fun k => b__law_rule.getD k .brk
def thenB : S → List S
  | .ife _ a _ => a
  | _ => []
abbrev rEnv (m : Nat) (r : List Int) (k : Int) (a b c d e f : Rf.Slot) : List Rf.Slot := [.val (.ref 0), .val (.int (m : Nat)), .own (iD r), .val (.int k), a, b, c, d, e, f]
theorem rul0 {st : List SObj} (hr : RowOk st) {m : Nat} (h1 : 1 ≤ m) (h4 : m ≤ 4) (n : Nat) : ∃ rule s', evSs (callN Gl (n + 1)) (thenB (rulS 1)) ⟨rEnv m (idR (2 ^ m)) 0 .un .un .un .un .un .un, st⟩ = some (.rt (.tup (iD rule)), s') ∧ RowOk s'.sto ∧ RulOk m rule := by
  have hs := binI_shl (k := m) (by omega)
  have hp : (2 : Nat) ^ m ≤ 16 := Nat.pow_le_pow_right (n := 2) (by omega) h4
  have hq : 0 < (2 : Nat) ^ m := Nat.pow_pos (by omega)
  have hcast : (2 ^ m : Int) = ((2 ^ m : Nat) : Int) := by simp
  obtain ⟨xs, st', e, j, l, r⟩ := comp_st (cl := callN Gl (n + 1)) (vs := [9]) (elt := .call 8 [.var 0, .bin .LShift (.lit (.int 1)) (.var 1)]) (t := .name 9) (it := .seq (.slc (.var 2) (some (.lit (.int 1))) none)) (c := none)
    (s := ⟨rEnv m (idR (2 ^ m)) 0 .un .un .un .un .un .un, st⟩) (s1 := ⟨rEnv m (idR (2 ^ m)) 0 .un .un .un .un .un .un, st⟩) (ds := (iD (idR (2 ^ m))).tail) (o := none) (J := RowOk) (R := fun x => ∃ i, x = .int i ∧ 0 ≤ i ∧ i < 2 ^ m)
    (by simp [runFn, evSs, evS, evE.eq_1, evE.eq_2, evE.eq_3, evE.eq_4, evE.eq_5, evE.eq_6, evE.eq_7, evE.eq_8, evE.eq_9, evE.eq_10, evE.eq_11, evE.eq_12, evE.eq_13, evE.eq_14, evE.eq_15, evE.eq_16, evE.eq_17, evE.eq_18, evE.eq_19, evEs, evHs, evT, evC, evO, evI, evW, evP, asg, asgTs_nil, asgTs_cons, asg_tup, frz, setSlot, callR, Sg.fz, Sg.rd, bin, un, cmp, truth, idx, slc, setI, methI, seqI, bcall, isNon, List.mapM_cons, List.mapM_nil, List.length_cons, List.length_nil, List.map_cons, List.map_nil, List.getElem?_cons_zero, List.getElem?_cons_succ, List.set_cons_zero, List.set_cons_succ, List.replicate, List.cons_append, List.nil_append, restore, wipeE, List.foldl_cons, List.foldl_nil, List.getD_cons_zero, List.getD_cons_succ, bools_map, ints_map, eqD_int, eqD_bl, binI_add, binI_sub, binI_and, binI_or, cut_one]) (fun _ => rfl) (fun d hd st hst => by
      obtain ⟨k, st', e, k0, k1, hst'⟩ := taken hst (many := 2 ^ m) (by omega) (by omega) n
      refine ⟨.int k, st', ?_, hst', k, rfl, k0, k1⟩
      simp [turnC, runFn, evSs, evS, evE.eq_1, evE.eq_2, evE.eq_3, evE.eq_4, evE.eq_5, evE.eq_6, evE.eq_7, evE.eq_8, evE.eq_9, evE.eq_10, evE.eq_11, evE.eq_12, evE.eq_13, evE.eq_14, evE.eq_15, evE.eq_16, evE.eq_17, evE.eq_18, evE.eq_19, evEs, evHs, evT, evC, evO, evI, evW, evP, asg, asgTs_nil, asgTs_cons, asg_tup, frz, setSlot, callR, Sg.fz, Sg.rd, bin, un, cmp, truth, idx, slc, setI, methI, seqI, bcall, isNon, List.mapM_cons, List.mapM_nil, List.length_cons, List.length_nil, List.map_cons, List.map_nil, List.getElem?_cons_zero, List.getElem?_cons_succ, List.set_cons_zero, List.set_cons_succ, List.replicate, List.cons_append, List.nil_append, restore, wipeE, List.foldl_cons, List.foldl_nil, List.getD_cons_zero, List.getD_cons_succ, bools_map, ints_map, eqD_int, eqD_bl, binI_add, binI_sub, binI_and, binI_or, hs, e]) (by have := sizeLine_eq; unfold iD idR; simp; omega) hr
  obtain ⟨rl, rfl, hrl⟩ := ints_of r
  rw [iD_len] at l
  have ll : rl.length + 1 = 2 ^ m := by
    rw [l]
    unfold iD idR
    simp
    omega
  refine ⟨0 :: rl, ⟨rEnv m (idR (2 ^ m)) 0 .un .un .un .un .un .un, st'⟩, ?_, j, by simpa using ll, fun i hi => ?_, rfl⟩
  · have z1 : 1 ≤ sizeLine := by have := sizeLine_eq; omega
    have z2 : 1 + rl.length ≤ sizeLine := by have := sizeLine_eq; omega
    simp [thenB, rulS, b__law_rule, runFn, evSs, evS, evE.eq_1, evE.eq_2, evE.eq_3, evE.eq_4, evE.eq_5, evE.eq_6, evE.eq_7, evE.eq_8, evE.eq_9, evE.eq_10, evE.eq_11, evE.eq_12, evE.eq_13, evE.eq_14, evE.eq_15, evE.eq_16, evE.eq_17, evE.eq_18, evE.eq_19, evEs, evHs, evT, evC, evO, evI, evW, evP, asg, asgTs_nil, asgTs_cons, asg_tup, frz, setSlot, callR, Sg.fz, Sg.rd, bin, un, cmp, truth, idx, slc, setI, methI, seqI, bcall, isNon, List.mapM_cons, List.mapM_nil, List.length_cons, List.length_nil, List.map_cons, List.map_nil, List.getElem?_cons_zero, List.getElem?_cons_succ, List.set_cons_zero, List.set_cons_succ, List.replicate, List.cons_append, List.nil_append, restore, wipeE, List.foldl_cons, List.foldl_nil, List.getD_cons_zero, List.getD_cons_succ, bools_map, ints_map, eqD_int, eqD_bl, binI_add, binI_sub, binI_and, binI_or, e, z1, z2, iD_len]
    rfl
  · rcases List.mem_cons.mp hi with rfl | hi
    · omega
    · exact hrl i hi
--# P03v
/-- how many specks a state has -/
def cnt (c : Int) : Nat := ((List.range 4).filter fun i => bitAt c i).length
theorem specks' (c : Int) (n : Nat) (st : List SObj) : callN Gl (n + 1) 13 [.int c] st = some (.ok (.int ((cnt c : Nat) : Int)), st) := by
  obtain ⟨k, e, rfl⟩ := specks (c := c) (n := n) (st := st)
  exact e
theorem cnt_pos {c : Int} (h0 : 1 ≤ c) (h1 : c < 16) : 0 < cnt c := by
  have key : ∀ c : Fin 16, 1 ≤ c.val → 0 < cnt (c.val : Int) := by decide
  have := key ⟨c.toNat, by omega⟩ (by show 1 ≤ c.toNat; omega)
  rwa [show ((⟨c.toNat, by omega⟩ : Fin 16).val : Int) = c by show ((c.toNat : Nat) : Int) = c; omega] at this
theorem cnt_zero : cnt 0 = 0 := by decide
theorem iD_cons (i : Int) (l : List Int) : iD (i :: l) = .int i :: iD l := rfl
theorem ix_cons {t : List Int} {c : Int} (h0 : 1 ≤ c) (h1 : c ≤ t.length) : ixNat (iD (0 :: t)).length c = some ((c - 1).toNat + 1) ∧ (iD (0 :: t))[(c - 1).toNat + 1]? = some (.int (t.getD (c - 1).toNat 0)) ∧ (c - 1).toNat < t.length := by
  have hl : (iD (0 :: t)).length = t.length + 1 := by rw [iD_len]; rfl
  have hk : (c - 1).toNat < t.length := by omega
  refine ⟨?_, ?_, hk⟩
  · rw [hl]
    unfold ixNat
    rw [if_pos (by omega), if_pos (by omega)]
    congr 1
    omega
  · rw [iD_cons, List.getElem?_cons_succ]
    unfold iD
    rw [List.getElem?_map, List.getD_eq_getElem?_getD, List.getElem?_eq_getElem hk]
    rfl
theorem set_cons (t : List Int) (j : Nat) (v : Int) : (iD (0 :: t)).set (j + 1) (.int v) = iD (0 :: t.set j v) := by
  simp only [iD_cons, List.set_cons_succ]
  rw [iD_set]
theorem getD_mem {t : List Int} {j : Nat} (h : j < t.length) : t.getD j 0 ∈ t := by
  rw [List.getD_eq_getElem?_getD, List.getElem?_eq_getElem h]
  exact List.getElem_mem h
def rul2B : List S := match thenB (rulS 3) with
  | .loop _ _ b :: _ => b
  | _ => []
/-- states 1 and up -/
def Up (m : Nat) (t : List Int) : Prop := t.length + 1 = 2 ^ m ∧ ∀ x ∈ t, 1 ≤ x ∧ x < 2 ^ m
theorem Up.rul {m : Nat} {t : List Int} (h : Up m t) : RulOk m (0 :: t) := by
  refine ⟨by simpa using h.1, fun i hi => ?_, rfl⟩
  rcases List.mem_cons.mp hi with rfl | hi
  · exact ⟨by omega, Int.pow_pos (by omega)⟩
  · have := h.2 i hi
    omega
theorem up_set {m : Nat} {t : List Int} (h : Up m t) {j : Nat} {v : Int} (hv : 1 ≤ v ∧ v < 2 ^ m) : Up m (t.set j v) := by
  refine ⟨by rw [List.length_set]; exact h.1, fun x hx => ?_⟩
  rcases List.mem_or_eq_of_mem_set hx with hx | rfl
  · exact h.2 x hx
  · exact hv
theorem up_id {m : Nat} : ∃ t, idR (2 ^ m) = 0 :: t ∧ Up m t := by
  have hq : 0 < (2 : Nat) ^ m := Nat.pow_pos (by omega)
  have hcast : (2 ^ m : Int) = ((2 ^ m : Nat) : Int) := by simp
  obtain ⟨k, hk⟩ : ∃ k, 2 ^ m = k + 1 := ⟨2 ^ m - 1, by omega⟩
  refine ⟨(List.range k).map fun i => ((i + 1 : Nat) : Int), ?_, ?_, ?_⟩
  · unfold idR
    rw [hk, List.range_succ_eq_map, List.map_cons, List.map_map]
    rfl
  · simp [hk]
  · intro x hx
    obtain ⟨i, hi, rfl⟩ := List.mem_map.mp hx
    have := List.mem_range.mp hi
    omega
theorem rul2_turn {st : List SObj} (hr : RowOk st) {m : Nat} (h1 : 1 ≤ m) (h4 : m ≤ 4) {t : List Int} (hu : Up m t) (n : Nat) (a b c d e f : Rf.Slot) : ∃ t' st' d' e', evSs (callN Gl (n + 2)) rul2B ⟨rEnv m (0 :: t) 2 a b c d e f, st⟩ = some (.nx, ⟨rEnv m (0 :: t') 2 a b c d' e' f, st'⟩) ∧ RowOk st' ∧ Up m t' := by
  have hp : (2 : Nat) ^ m ≤ 16 := Nat.pow_le_pow_right (n := 2) (by omega) h4
  have hq : (2 : Nat) ^ 1 ≤ 2 ^ m := Nat.pow_le_pow_right (n := 2) (by omega) h1
  have hcast : (2 ^ m : Int) = ((2 ^ m : Nat) : Int) := by simp
  have hlt := hu.1
  have hz := sizeLine_eq
  obtain ⟨d1, st1, e1, m1, hr1⟩ := pick hr (ds := iD t) (by intro h; have := congrArg List.length h; rw [iD_len] at this; simp at this; subst this; simp at hlt; omega) (by rw [iD_len]; omega) n
  obtain ⟨c1, hc1, rfl⟩ := List.mem_map.mp m1
  have hb1 := hu.2 c1 hc1
  have hc := comp_filter (cl := callN Gl (n + 2)) (vs := [9]) (elt := .var 9) (t := .name 9) (it := .seq (.var 2)) (c := some (.e (.cmp .Eq (.call 13 [.var 9]) (.call 13 [.var 7])))) (s := ⟨rEnv m (0 :: t) 2 a b c (.val (.int c1)) e f, st1⟩) (s1 := ⟨rEnv m (0 :: t) 2 a b c (.val (.int c1)) e f, st1⟩) (o := some 2)
    (0 :: t) D.int (fun x => decide (cnt x = cnt c1)) D.int (by simp [rEnv, runFn, evSs, evS, evE.eq_1, evE.eq_2, evE.eq_3, evE.eq_4, evE.eq_5, evE.eq_6, evE.eq_7, evE.eq_8, evE.eq_9, evE.eq_10, evE.eq_11, evE.eq_12, evE.eq_13, evE.eq_14, evE.eq_15, evE.eq_16, evE.eq_17, evE.eq_18, evE.eq_19, evEs, evHs, evT, evC, evO, evI, evW, evP, asg, asgTs_nil, asgTs_cons, asg_tup, frz, setSlot, callR, Sg.fz, Sg.rd, bin, un, cmp, truth, idx, slc, setI, methI, seqI, bcall, isNon, List.mapM_cons, List.mapM_nil, List.length_cons, List.length_nil, List.map_cons, List.map_nil, List.getElem?_cons_zero, List.getElem?_cons_succ, List.set_cons_zero, List.set_cons_succ, List.replicate, List.cons_append, List.nil_append, restore, wipeE, List.foldl_cons, List.foldl_nil, List.getD_cons_zero, List.getD_cons_succ, bools_map, ints_map, eqD_int, eqD_bl, binI_add, binI_sub, binI_and, binI_or, iD]) (by simp [heldB, wipeE, iD]) (fun x hx => by
      by_cases q : cnt x = cnt c1
      · simp [turnC, heldB, rEnv, iD, runFn, evSs, evS, evE.eq_1, evE.eq_2, evE.eq_3, evE.eq_4, evE.eq_5, evE.eq_6, evE.eq_7, evE.eq_8, evE.eq_9, evE.eq_10, evE.eq_11, evE.eq_12, evE.eq_13, evE.eq_14, evE.eq_15, evE.eq_16, evE.eq_17, evE.eq_18, evE.eq_19, evEs, evHs, evT, evC, evO, evI, evW, evP, asg, asgTs_nil, asgTs_cons, asg_tup, frz, setSlot, callR, Sg.fz, Sg.rd, bin, un, cmp, truth, idx, slc, setI, methI, seqI, bcall, isNon, List.mapM_cons, List.mapM_nil, List.length_cons, List.length_nil, List.map_cons, List.map_nil, List.getElem?_cons_zero, List.getElem?_cons_succ, List.set_cons_zero, List.set_cons_succ, List.replicate, List.cons_append, List.nil_append, restore, wipeE, List.foldl_cons, List.foldl_nil, List.getD_cons_zero, List.getD_cons_succ, bools_map, ints_map, eqD_int, eqD_bl, binI_add, binI_sub, binI_and, binI_or, specks', q]
      · have q' : ¬ ((cnt x : Nat) : Int) = ((cnt c1 : Nat) : Int) := by omega
        simp [turnC, heldB, rEnv, iD, runFn, evSs, evS, evE.eq_1, evE.eq_2, evE.eq_3, evE.eq_4, evE.eq_5, evE.eq_6, evE.eq_7, evE.eq_8, evE.eq_9, evE.eq_10, evE.eq_11, evE.eq_12, evE.eq_13, evE.eq_14, evE.eq_15, evE.eq_16, evE.eq_17, evE.eq_18, evE.eq_19, evEs, evHs, evT, evC, evO, evI, evW, evP, asg, asgTs_nil, asgTs_cons, asg_tup, frz, setSlot, callR, Sg.fz, Sg.rd, bin, un, cmp, truth, idx, slc, setI, methI, seqI, bcall, isNon, List.mapM_cons, List.mapM_nil, List.length_cons, List.length_nil, List.map_cons, List.map_nil, List.getElem?_cons_zero, List.getElem?_cons_succ, List.set_cons_zero, List.set_cons_succ, List.replicate, List.cons_append, List.nil_append, restore, wipeE, List.foldl_cons, List.foldl_nil, List.getD_cons_zero, List.getD_cons_succ, bools_map, ints_map, eqD_int, eqD_bl, binI_add, binI_sub, binI_and, binI_or, specks', q, q']) (by rw [List.length_cons]; omega)
  obtain ⟨d2, st2, e2, m2, hr2⟩ := pick hr1 (ds := ((0 :: t).filter fun x => decide (cnt x = cnt c1)).map D.int) (by
    intro h
    have hm : D.int c1 ∈ ((0 :: t).filter fun x => decide (cnt x = cnt c1)).map D.int := List.mem_map.mpr ⟨c1, List.mem_filter.mpr ⟨by simp [hc1], by simp⟩, rfl⟩
    rw [h] at hm
    cases hm) (by
      rw [List.length_map]
      have := List.length_filter_le (fun x => decide (cnt x = cnt c1)) (0 :: t)
      rw [List.length_cons] at this
      omega) n
  obtain ⟨c2, hc2, rfl⟩ := List.mem_map.mp m2
  obtain ⟨hc2m, hc2c⟩ := List.mem_filter.mp hc2
  have hc2c := of_decide_eq_true hc2c
  have hc2t : c2 ∈ t := by
    rcases List.mem_cons.mp hc2m with rfl | h
    · have := cnt_pos hb1.1 (by omega)
      rw [cnt_zero] at hc2c
      omega
    · exact h
  have hb2 := hu.2 c2 hc2t
  obtain ⟨x1, g1, k1⟩ := ix_cons (t := t) (c := c1) hb1.1 (by omega)
  obtain ⟨x2, g2, k2⟩ := ix_cons (t := t) (c := c2) hb2.1 (by omega)
  have u1 := up_set hu (j := (c1 - 1).toNat) (hu.2 _ (getD_mem k2))
  have x2' : ixNat (iD (0 :: t.set (c1 - 1).toNat (t.getD (c2 - 1).toNat 0))).length c2 = some ((c2 - 1).toNat + 1) := by
    rw [iD_len, List.length_cons, List.length_set] at *
    exact x2
  refine ⟨(t.set (c1 - 1).toNat (t.getD (c2 - 1).toNat 0)).set (c2 - 1).toNat (t.getD (c1 - 1).toNat 0), st2, .val (.int c1), .val (.int c2), ?_, hr2, up_set u1 (hu.2 _ (getD_mem k1))⟩
  have ec : cut (iD (0 :: t)) (some 1) none = iD t := by rw [cut_one]; rfl
  have z2 : 2 ≤ sizeLine := by omega
  simp only [wipeE, restore, List.foldl_cons, List.foldl_nil, List.set_cons_succ, List.set_cons_zero, List.getD_cons_succ, List.getD_cons_zero] at hc
  generalize (c1 - 1).toNat = i1 at *
  generalize (c2 - 1).toNat = i2 at *
  generalize t.getD i1 0 = v1 at *
  generalize t.getD i2 0 = v2 at *
  simp [-List.getElem?_eq_getElem, rul2B, thenB, rulS, b__law_rule, rEnv, runFn, evSs, evS, evE.eq_1, evE.eq_2, evE.eq_3, evE.eq_4, evE.eq_5, evE.eq_6, evE.eq_7, evE.eq_8, evE.eq_9, evE.eq_10, evE.eq_11, evE.eq_12, evE.eq_13, evE.eq_14, evE.eq_15, evE.eq_16, evE.eq_17, evE.eq_18, evE.eq_19, evEs, evHs, evT, evC, evO, evI, evW, evP, asg, asgTs_nil, asgTs_cons, asg_tup, frz, setSlot, callR, Sg.fz, Sg.rd, bin, un, cmp, truth, idx, slc, setI, methI, seqI, bcall, isNon, List.mapM_cons, List.mapM_nil, List.length_cons, List.length_nil, List.map_cons, List.map_nil, List.getElem?_cons_zero, List.getElem?_cons_succ, List.set_cons_zero, List.set_cons_succ, List.replicate, List.cons_append, List.nil_append, restore, wipeE, List.foldl_cons, List.foldl_nil, List.getD_cons_zero, List.getD_cons_succ, bools_map, ints_map, eqD_int, eqD_bl, binI_add, binI_sub, binI_and, binI_or, ec, e1, hc, e2, x1, x2, g1, g2, set_cons, x2', z2]
--# P03w
theorem iD_erase (l : List Int) (j : Nat) : (iD l).eraseIdx j = iD (l.eraseIdx j) := eraseIdx_map' D.int l j
theorem iD_app (l : List Int) (x : Int) : iD l ++ [D.int x] = iD (l ++ [x]) := by simp [iD]
theorem eqD_inil (l : List Int) : eqD (.lst (iD l)) (.lst []) = some (decide (l = [])) := eqD_ints l []
def whC : S → T
  | .whl c _ => c
  | _ => .e (.lit .non)
def whB : S → List S
  | .whl _ b => b
  | _ => []
def rulW : S := (thenB (rulS 2)).getD 1 .brk
theorem rul1_loop {m : Nat} (h4 : m ≤ 4) (n : Nat) (r : List Int) : ∀ (k : Nat) (l u : List Int) (st : List SObj), l.length = k → RowOk st → l.length + u.length ≤ 15 → (∀ x ∈ l, 1 ≤ x ∧ x < 2 ^ m) → (∀ x ∈ u, 1 ≤ x ∧ x < 2 ^ m) →
    ∃ u' st', whl (fun s => evT (callN Gl (n + 1)) (whC rulW) s) (fun s => evSs (callN Gl (n + 1)) (whB rulW) s) ⟨rEnv m r 1 .un (.own (iD l)) (.own (iD (0 :: u))) .un .un .un, st⟩ = some (.nx, ⟨rEnv m r 1 .un (.own (iD [])) (.own (iD (0 :: u'))) .un .un .un, st'⟩) ∧ RowOk st' ∧ u'.length = u.length + l.length ∧ ∀ x ∈ u', 1 ≤ x ∧ x < 2 ^ m
  | 0, l, u, st, hk, hr, hl, h1, h2 => by
    have : l = [] := List.length_eq_zero_iff.mp hk
    subst this
    refine ⟨u, st, whl_stop (s1 := ⟨rEnv m r 1 .un (.own (iD [])) (.own (iD (0 :: u))) .un .un .un, st⟩) ?_, hr, by simp, h2⟩
    have hz : 0 ≤ sizeLine := Nat.zero_le _
    have e := eqD_inil []
    simp only [iD, List.map_nil] at e
    simp [whC, rulW, thenB, rulS, b__law_rule, rEnv, iD, runFn, evSs, evS, evE.eq_1, evE.eq_2, evE.eq_3, evE.eq_4, evE.eq_5, evE.eq_6, evE.eq_7, evE.eq_8, evE.eq_9, evE.eq_10, evE.eq_11, evE.eq_12, evE.eq_13, evE.eq_14, evE.eq_15, evE.eq_16, evE.eq_17, evE.eq_18, evE.eq_19, evEs, evHs, evT, evC, evO, evI, evW, evP, asg, asgTs_nil, asgTs_cons, asg_tup, frz, setSlot, callR, Sg.fz, Sg.rd, bin, un, cmp, truth, idx, slc, setI, methI, seqI, bcall, isNon, List.mapM_cons, List.mapM_nil, List.length_cons, List.length_nil, List.map_cons, List.map_nil, List.getElem?_cons_zero, List.getElem?_cons_succ, List.set_cons_zero, List.set_cons_succ, List.replicate, List.cons_append, List.nil_append, restore, wipeE, List.foldl_cons, List.foldl_nil, List.getD_cons_zero, List.getD_cons_succ, bools_map, ints_map, eqD_int, eqD_bl, binI_add, binI_sub, binI_and, binI_or, e, hz]
  | k + 1, l, u, st, hk, hr, hl, h1, h2 => by
    have hz : 0 ≤ sizeLine := Nat.zero_le _
    have hz2 := sizeLine_eq
    have hne : l ≠ [] := fun h => by subst h; simp at hk
    have e := eqD_inil l
    rw [decide_eq_false hne] at e
    obtain ⟨j, st1, e1, j0, j1, hr1⟩ := taken hr (many := (l.length : Int)) (by omega) (by omega) n
    have hj : j.toNat < l.length := by omega
    have hx : ixNat l.length j = some j.toNat := by
      unfold ixNat
      rw [if_pos j0, if_pos (by omega)]
    have hg : (iD l)[j.toNat]? = some (.int l[j.toNat]) := iD_get (List.getElem?_eq_getElem hj)
    have jr : -9223372036854775808 ≤ j ∧ j < 9223372036854775808 := by omega
    have hul : u.length + 1 < sizeLine := by omega
    have hmem := h1 _ (List.getElem_mem hj)
    obtain ⟨u', st', e2, hr2, l2, b2⟩ := rul1_loop h4 n r k (l.eraseIdx j.toNat) (u ++ [l[j.toNat]]) st1 (by rw [List.length_eraseIdx_of_lt hj]; omega) hr1 (by rw [List.length_eraseIdx_of_lt hj, List.length_append, List.length_singleton]; omega)
      (fun x hx => h1 x (List.mem_of_mem_eraseIdx hx)) (fun x hx => by
        rcases List.mem_append.mp hx with hx | hx
        · exact h2 x hx
        · rw [List.mem_singleton.mp hx]
          exact hmem)
    refine ⟨u', st', whl_turn (s1 := ⟨rEnv m r 1 .un (.own (iD l)) (.own (iD (0 :: u))) .un .un .un, st⟩) ?_ ?_ e2, hr2, by rw [l2, List.length_eraseIdx_of_lt hj, List.length_append, List.length_singleton]; omega, b2⟩
    · simp [whC, rulW, thenB, rulS, b__law_rule, rEnv, runFn, evSs, evS, evE.eq_1, evE.eq_2, evE.eq_3, evE.eq_4, evE.eq_5, evE.eq_6, evE.eq_7, evE.eq_8, evE.eq_9, evE.eq_10, evE.eq_11, evE.eq_12, evE.eq_13, evE.eq_14, evE.eq_15, evE.eq_16, evE.eq_17, evE.eq_18, evE.eq_19, evEs, evHs, evT, evC, evO, evI, evW, evP, asg, asgTs_nil, asgTs_cons, asg_tup, frz, setSlot, callR, Sg.fz, Sg.rd, bin, un, cmp, truth, idx, slc, setI, methI, seqI, bcall, isNon, List.mapM_cons, List.mapM_nil, List.length_cons, List.length_nil, List.map_cons, List.map_nil, List.getElem?_cons_zero, List.getElem?_cons_succ, List.set_cons_zero, List.set_cons_succ, List.replicate, List.cons_append, List.nil_append, restore, wipeE, List.foldl_cons, List.foldl_nil, List.getD_cons_zero, List.getD_cons_succ, bools_map, ints_map, eqD_int, eqD_bl, binI_add, binI_sub, binI_and, binI_or, e, hz]
    · have ha : iD (0 :: u) ++ [D.int l[j.toNat]] = iD (0 :: (u ++ [l[j.toNat]])) := by rw [iD_app]; rfl
      have hll : (iD (0 :: u)).length = u.length + 1 := by rw [iD_len]; rfl
      simp [-List.getElem?_eq_getElem, whB, rulW, thenB, rulS, b__law_rule, rEnv, runFn, evSs, evS, evE.eq_1, evE.eq_2, evE.eq_3, evE.eq_4, evE.eq_5, evE.eq_6, evE.eq_7, evE.eq_8, evE.eq_9, evE.eq_10, evE.eq_11, evE.eq_12, evE.eq_13, evE.eq_14, evE.eq_15, evE.eq_16, evE.eq_17, evE.eq_18, evE.eq_19, evEs, evHs, evT, evC, evO, evI, evW, evP, asg, asgTs_nil, asgTs_cons, asg_tup, frz, setSlot, callR, Sg.fz, Sg.rd, bin, un, cmp, truth, idx, slc, setI, methI, seqI, bcall, isNon, List.mapM_cons, List.mapM_nil, List.length_cons, List.length_nil, List.map_cons, List.map_nil, List.getElem?_cons_zero, List.getElem?_cons_succ, List.set_cons_zero, List.set_cons_succ, List.replicate, List.cons_append, List.nil_append, restore, wipeE, List.foldl_cons, List.foldl_nil, List.getD_cons_zero, List.getD_cons_succ, bools_map, ints_map, eqD_int, eqD_bl, binI_add, binI_sub, binI_and, binI_or, iD_len, e1, hx, hg, jr, iD_erase, ha, hll, hul]
theorem rul1 {st : List SObj} (hr : RowOk st) {m : Nat} (h1 : 1 ≤ m) (h4 : m ≤ 4) (n : Nat) : ∃ rule s', evSs (callN Gl (n + 1)) (thenB (rulS 2)) ⟨rEnv m (idR (2 ^ m)) 1 .un .un .un .un .un .un, st⟩ = some (.rt (.tup (iD rule)), s') ∧ RowOk s'.sto ∧ RulOk m rule := by
  have hp : (2 : Nat) ^ m ≤ 16 := Nat.pow_le_pow_right (n := 2) (by omega) h4
  obtain ⟨t, et, hu⟩ := up_id (m := m)
  have hlt := hu.1
  obtain ⟨u', st', e, hr', l', b'⟩ := rul1_loop h4 n (idR (2 ^ m)) t.length t [] st rfl hr (by simp; omega) hu.2 (by simp)
  have ec : cut (iD (idR (2 ^ m))) (some 1) none = iD t := by rw [cut_one, et]; rfl
  have z1 : 1 ≤ sizeLine := by have := sizeLine_eq; omega
  refine ⟨0 :: u', ⟨rEnv m (idR (2 ^ m)) 1 .un (.own (iD [])) (.own (iD (0 :: u'))) .un .un .un, st'⟩, ?_, hr', Up.rul ⟨by rw [l']; simpa using hlt, b'⟩⟩
  have es : thenB (rulS 2) = [(thenB (rulS 2)).getD 0 .brk, .whl (whC rulW) (whB rulW), .ret (some (.bcall .tuple [.var 6]))] := rfl
  have e0 : evS (callN Gl (n + 1)) ((thenB (rulS 2)).getD 0 .brk) ⟨rEnv m (idR (2 ^ m)) 1 .un .un .un .un .un .un, st⟩ = some (.nx, ⟨rEnv m (idR (2 ^ m)) 1 .un (.own (iD t)) (.own (iD [0])) .un .un .un, st⟩) := by
    simp [thenB, rulS, b__law_rule, rEnv, runFn, evSs, evS, evE.eq_1, evE.eq_2, evE.eq_3, evE.eq_4, evE.eq_5, evE.eq_6, evE.eq_7, evE.eq_8, evE.eq_9, evE.eq_10, evE.eq_11, evE.eq_12, evE.eq_13, evE.eq_14, evE.eq_15, evE.eq_16, evE.eq_17, evE.eq_18, evE.eq_19, evEs, evHs, evT, evC, evO, evI, evW, evP, asg, asgTs_nil, asgTs_cons, asg_tup, frz, setSlot, callR, Sg.fz, Sg.rd, bin, un, cmp, truth, idx, slc, setI, methI, seqI, bcall, isNon, List.mapM_cons, List.mapM_nil, List.length_cons, List.length_nil, List.map_cons, List.map_nil, List.getElem?_cons_zero, List.getElem?_cons_succ, List.set_cons_zero, List.set_cons_succ, List.replicate, List.cons_append, List.nil_append, restore, wipeE, List.foldl_cons, List.foldl_nil, List.getD_cons_zero, List.getD_cons_succ, bools_map, ints_map, eqD_int, eqD_bl, binI_add, binI_sub, binI_and, binI_or, ec, z1]
    rfl
  rw [es, evSs_cons, e0, seqF_nx, evSs_cons, evS, e, seqF_nx]
  simp [rEnv, runFn, evSs, evS, evE.eq_1, evE.eq_2, evE.eq_3, evE.eq_4, evE.eq_5, evE.eq_6, evE.eq_7, evE.eq_8, evE.eq_9, evE.eq_10, evE.eq_11, evE.eq_12, evE.eq_13, evE.eq_14, evE.eq_15, evE.eq_16, evE.eq_17, evE.eq_18, evE.eq_19, evEs, evHs, evT, evC, evO, evI, evW, evP, asg, asgTs_nil, asgTs_cons, asg_tup, frz, setSlot, callR, Sg.fz, Sg.rd, bin, un, cmp, truth, idx, slc, setI, methI, seqI, bcall, isNon, List.mapM_cons, List.mapM_nil, List.length_cons, List.length_nil, List.map_cons, List.map_nil, List.getElem?_cons_zero, List.getElem?_cons_succ, List.set_cons_zero, List.set_cons_succ, List.replicate, List.cons_append, List.nil_append, restore, wipeE, List.foldl_cons, List.foldl_nil, List.getD_cons_zero, List.getD_cons_succ, bools_map, ints_map, eqD_int, eqD_bl, binI_add, binI_sub, binI_and, binI_or]
theorem rul3 {st : List SObj} (hr : RowOk st) {m : Nat} (h1 : 1 ≤ m) (h4 : m ≤ 4) (n : Nat) (k : Int) (a b c d e f : Rf.Slot) : ∃ rule s', evSs (callN Gl (n + 1)) [rulS 4, rulS 5] ⟨rEnv m (idR (2 ^ m)) k a b c d e f, st⟩ = some (.rt (.tup (iD rule)), s') ∧ RowOk s'.sto ∧ RulOk m rule := by
  have hp : (2 : Nat) ^ m ≤ 16 := Nat.pow_le_pow_right (n := 2) (by omega) h4
  have hq : (2 : Nat) ^ 1 ≤ 2 ^ m := Nat.pow_le_pow_right (n := 2) (by omega) h1
  have hcast : (2 ^ m : Int) = ((2 ^ m : Nat) : Int) := by simp
  have hll : (idR (2 ^ m)).length = 2 ^ m := by simp [idR]
  obtain ⟨v, st1, e1, v0, v1, hr1⟩ := taken hr (many := 2 ^ m) (by omega) (by omega) n
  obtain ⟨j, st2, e2, j0, j1, hr2⟩ := taken hr1 (many := 2 ^ m - 1) (by omega) (by omega) n
  have hx : ixNat (2 ^ m) (1 + j) = some (1 + j).toNat := by
    unfold ixNat
    rw [if_pos (by omega), if_pos (by omega)]
  refine ⟨(idR (2 ^ m)).set (1 + j).toNat v, ⟨rEnv m ((idR (2 ^ m)).set (1 + j).toNat v) k a b c d e f, st2⟩, ?_, hr2, by rw [List.length_set, hll], fun x hx => ?_, ?_⟩
  · simp [-List.getElem?_eq_getElem, rulS, b__law_rule, rEnv, runFn, evSs, evS, evE.eq_1, evE.eq_2, evE.eq_3, evE.eq_4, evE.eq_5, evE.eq_6, evE.eq_7, evE.eq_8, evE.eq_9, evE.eq_10, evE.eq_11, evE.eq_12, evE.eq_13, evE.eq_14, evE.eq_15, evE.eq_16, evE.eq_17, evE.eq_18, evE.eq_19, evEs, evHs, evT, evC, evO, evI, evW, evP, asg, asgTs_nil, asgTs_cons, asg_tup, frz, setSlot, callR, Sg.fz, Sg.rd, bin, un, cmp, truth, idx, slc, setI, methI, seqI, bcall, isNon, List.mapM_cons, List.mapM_nil, List.length_cons, List.length_nil, List.map_cons, List.map_nil, List.getElem?_cons_zero, List.getElem?_cons_succ, List.set_cons_zero, List.set_cons_succ, List.replicate, List.cons_append, List.nil_append, restore, wipeE, List.foldl_cons, List.foldl_nil, List.getD_cons_zero, List.getD_cons_succ, bools_map, ints_map, eqD_int, eqD_bl, binI_add, binI_sub, binI_and, binI_or, iD_len, hll, e1, e2, hx, iD_set]
  · rcases List.mem_or_eq_of_mem_set hx with hx | rfl
    · obtain ⟨i, hi, rfl⟩ := List.mem_map.mp hx
      have := List.mem_range.mp hi
      omega
    · exact ⟨v0, v1⟩
  · rw [List.getElem?_set_ne (by omega)]
    unfold idR
    rw [List.getElem?_map, List.getElem?_range (by omega)]
    rfl
--# P03x
theorem rule_ {st : List SObj} (hr : RowOk st) {m : Nat} (h1 : 1 ≤ m) (h4 : m ≤ 4) (n : Nat) : ∃ rule st', callN Gl (n + 3) 14 [.ref 0, .int (m : Nat)] st = some (.ok (.tup (iD rule)), st') ∧ RowOk st' ∧ RulOk m rule := by
  have hp : (2 : Nat) ^ m ≤ 16 := Nat.pow_le_pow_right (n := 2) (by omega) h4
  have hcast : (2 ^ m : Int) = ((2 ^ m : Nat) : Int) := by simp
  obtain ⟨k, st1, e1, k0, k1, hr1⟩ := taken hr (many := 4) (by omega) (by omega) (n + 1)
  have hs := binI_shl (k := m) (by omega)
  have hrg : rangeI [D.int (2 ^ m)] = some (iD (idR (2 ^ m))) := by
    rw [hcast, rangeI_nat (by omega)]
    unfold iD idR
    rw [List.map_map]
    rfl
  have hlr : (iD (idR (2 ^ m))).length ≤ 1000 := by rw [iD_len]; simp [idR]; omega
  have ep : evS (callN Gl (n + 2)) (rulS 0) ⟨[.val (.ref 0), .val (.int (m : Nat)), .un, .un, .un, .un, .un, .un, .un, .un], st⟩ = some (.nx, ⟨rEnv m (idR (2 ^ m)) k .un .un .un .un .un .un, st1⟩) := by
    simp [rulS, b__law_rule, rEnv, runFn, evSs, evS, evE.eq_1, evE.eq_2, evE.eq_3, evE.eq_4, evE.eq_5, evE.eq_6, evE.eq_7, evE.eq_8, evE.eq_9, evE.eq_10, evE.eq_11, evE.eq_12, evE.eq_13, evE.eq_14, evE.eq_15, evE.eq_16, evE.eq_17, evE.eq_18, evE.eq_19, evEs, evHs, evT, evC, evO, evI, evW, evP, asg, asgTs_nil, asgTs_cons, asg_tup, frz, setSlot, callR, Sg.fz, Sg.rd, bin, un, cmp, truth, idx, slc, setI, methI, seqI, bcall, isNon, List.mapM_cons, List.mapM_nil, List.length_cons, List.length_nil, List.map_cons, List.map_nil, List.getElem?_cons_zero, List.getElem?_cons_succ, List.set_cons_zero, List.set_cons_succ, List.replicate, List.cons_append, List.nil_append, restore, wipeE, List.foldl_cons, List.foldl_nil, List.getD_cons_zero, List.getD_cons_succ, bools_map, ints_map, eqD_int, eqD_bl, binI_add, binI_sub, binI_and, binI_or, e1, hs, hrg, hlr]
  have ei : ∀ (c : Int) (a : List S) (s : Sg), s = ⟨rEnv m (idR (2 ^ m)) k .un .un .un .un .un .un, st1⟩ → evS (callN Gl (n + 2)) (.ife (.e (.cmp .Eq (.var 3) (.lit (.int c)))) a []) s = if k = c then evSs (callN Gl (n + 2)) a s else some (.nx, s) := by
    intro c a s hs
    have z : evT (callN Gl (n + 2)) (.e (.cmp .Eq (.var 3) (.lit (.int c)))) s = some (.ok (decide (k = c)), s) := by
      subst hs
      by_cases q : k = c
      · simp [rEnv, runFn, evSs, evS, evE.eq_1, evE.eq_2, evE.eq_3, evE.eq_4, evE.eq_5, evE.eq_6, evE.eq_7, evE.eq_8, evE.eq_9, evE.eq_10, evE.eq_11, evE.eq_12, evE.eq_13, evE.eq_14, evE.eq_15, evE.eq_16, evE.eq_17, evE.eq_18, evE.eq_19, evEs, evHs, evT, evC, evO, evI, evW, evP, asg, asgTs_nil, asgTs_cons, asg_tup, frz, setSlot, callR, Sg.fz, Sg.rd, bin, un, cmp, truth, idx, slc, setI, methI, seqI, bcall, isNon, List.mapM_cons, List.mapM_nil, List.length_cons, List.length_nil, List.map_cons, List.map_nil, List.getElem?_cons_zero, List.getElem?_cons_succ, List.set_cons_zero, List.set_cons_succ, List.replicate, List.cons_append, List.nil_append, restore, wipeE, List.foldl_cons, List.foldl_nil, List.getD_cons_zero, List.getD_cons_succ, bools_map, ints_map, eqD_int, eqD_bl, binI_add, binI_sub, binI_and, binI_or, q]
      · simp [rEnv, runFn, evSs, evS, evE.eq_1, evE.eq_2, evE.eq_3, evE.eq_4, evE.eq_5, evE.eq_6, evE.eq_7, evE.eq_8, evE.eq_9, evE.eq_10, evE.eq_11, evE.eq_12, evE.eq_13, evE.eq_14, evE.eq_15, evE.eq_16, evE.eq_17, evE.eq_18, evE.eq_19, evEs, evHs, evT, evC, evO, evI, evW, evP, asg, asgTs_nil, asgTs_cons, asg_tup, frz, setSlot, callR, Sg.fz, Sg.rd, bin, un, cmp, truth, idx, slc, setI, methI, seqI, bcall, isNon, List.mapM_cons, List.mapM_nil, List.length_cons, List.length_nil, List.map_cons, List.map_nil, List.getElem?_cons_zero, List.getElem?_cons_succ, List.set_cons_zero, List.set_cons_succ, List.replicate, List.cons_append, List.nil_append, restore, wipeE, List.foldl_cons, List.foldl_nil, List.getD_cons_zero, List.getD_cons_succ, bools_map, ints_map, eqD_int, eqD_bl, binI_add, binI_sub, binI_and, binI_or, q]
    rw [evS, z, bndF_ok]
    by_cases q : k = c
    · rw [if_pos (by simpa using q), if_pos q]
    · rw [if_neg (by simpa using q), if_neg q, evSs_nil]
  have eb : b__law_rule = [rulS 0, .ife (.e (.cmp .Eq (.var 3) (.lit (.int 0)))) (thenB (rulS 1)) [], .ife (.e (.cmp .Eq (.var 3) (.lit (.int 1)))) (thenB (rulS 2)) [], .ife (.e (.cmp .Eq (.var 3) (.lit (.int 2)))) (thenB (rulS 3)) [], rulS 4, rulS 5] := rfl
  have fin : (∃ rule s', evSs (callN Gl (n + 2)) b__law_rule ⟨[.val (.ref 0), .val (.int (m : Nat)), .un, .un, .un, .un, .un, .un, .un, .un], st⟩ = some (.rt (.tup (iD rule)), s') ∧ RowOk s'.sto ∧ RulOk m rule) → ∃ rule st', callN Gl (n + 3) 14 [.ref 0, .int (m : Nat)] st = some (.ok (.tup (iD rule)), st') ∧ RowOk st' ∧ RulOk m rule := by
    rintro ⟨rule, s', e, hr', ok⟩
    refine ⟨rule, s'.sto, ?_, hr', ok⟩
    rw [c__law_rule]
    exact runFn_rt rfl rfl ⟨s', e, rfl⟩
  refine fin ?_
  by_cases q0 : k = 0
  · obtain ⟨rule, s', e, hr', ok⟩ := rul0 hr1 h1 h4 (n + 1)
    subst q0
    refine ⟨rule, s', ?_, hr', ok⟩
    rw [eb, evSs_cons, ep, seqF_nx, evSs_cons, ei _ _ _ rfl, if_pos rfl, e, seqF_rt]
  by_cases q1 : k = 1
  · obtain ⟨rule, s', e, hr', ok⟩ := rul1 hr1 h1 h4 (n + 1)
    subst q1
    refine ⟨rule, s', ?_, hr', ok⟩
    rw [eb, evSs_cons, ep, seqF_nx, evSs_cons, ei _ _ _ rfl, if_neg q0, seqF_nx, evSs_cons, ei _ _ _ rfl, if_pos rfl, e, seqF_rt]
  by_cases q2 : k = 2
  · subst q2
    obtain ⟨t, et, hu⟩ := up_id (m := m)
    obtain ⟨v, st2, e2, v0, v1, hr2⟩ := taken hr1 (many := 3) (by omega) (by omega) (n + 1)
    obtain ⟨w, hw⟩ : ∃ w : Nat, (1 + v) = (w : Int) := ⟨(1 + v).toNat, by omega⟩
    have hrg2 := rangeI_nat (k := w) (by omega)
    have e3 : evI (callN Gl (n + 2)) (.range [.bin .Add (.lit (.int 1)) (.call 8 [.var 0, .lit (.int 3)])]) ⟨rEnv m (idR (2 ^ m)) 2 .un .un .un .un .un .un, st1⟩ = some (.ok ((List.range w).map fun i => D.int (i : Nat)), ⟨rEnv m (idR (2 ^ m)) 2 .un .un .un .un .un .un, st2⟩) := by
      simp [rEnv, runFn, evSs, evS, evE.eq_1, evE.eq_2, evE.eq_3, evE.eq_4, evE.eq_5, evE.eq_6, evE.eq_7, evE.eq_8, evE.eq_9, evE.eq_10, evE.eq_11, evE.eq_12, evE.eq_13, evE.eq_14, evE.eq_15, evE.eq_16, evE.eq_17, evE.eq_18, evE.eq_19, evEs, evHs, evT, evC, evO, evI, evW, evP, asg, asgTs_nil, asgTs_cons, asg_tup, frz, setSlot, callR, Sg.fz, Sg.rd, bin, un, cmp, truth, idx, slc, setI, methI, seqI, bcall, isNon, List.mapM_cons, List.mapM_nil, List.length_cons, List.length_nil, List.map_cons, List.map_nil, List.getElem?_cons_zero, List.getElem?_cons_succ, List.set_cons_zero, List.set_cons_succ, List.replicate, List.cons_append, List.nil_append, restore, wipeE, List.foldl_cons, List.foldl_nil, List.getD_cons_zero, List.getD_cons_succ, bools_map, ints_map, eqD_int, eqD_bl, binI_add, binI_sub, binI_and, binI_or, e2, hw, hrg2]
    obtain ⟨s', e4, t', st3, a, b, c, d, x, f, rfl, hr3, hu3⟩ := loop_inv (turn := fun d s2 => bndF (asg (callN Gl (n + 2)) (.name 4) d s2) fun _ s3 => evSs (callN Gl (n + 2)) rul2B s3) (List.range w) (fun i => D.int (i : Nat))
      (fun _ s => ∃ t st a b c d e f, s = ⟨rEnv m (0 :: t) 2 a b c d e f, st⟩ ∧ RowOk st ∧ Up m t) (s := ⟨rEnv m (idR (2 ^ m)) 2 .un .un .un .un .un .un, st2⟩) ⟨t, st2, .un, .un, .un, .un, .un, .un, by rw [et], hr2, hu⟩ (fun i a s _ hs => by
        obtain ⟨t, st, p, b, c, d, e, f, rfl, hr, hu⟩ := hs
        obtain ⟨t', st', d', e', h, hr', hu'⟩ := rul2_turn hr h1 h4 hu n (.val (.int (a : Nat))) b c d e f
        refine ⟨_, .inl ?_, t', st', .val (.int (a : Nat)), b, c, d', e', f, rfl, hr', hu'⟩
        have ea : asg (callN Gl (n + 2)) (.name 4) (.int (a : Nat)) ⟨rEnv m (0 :: t) 2 p b c d e f, st⟩ = some (.ok (), ⟨rEnv m (0 :: t) 2 (.val (.int (a : Nat))) b c d e f, st⟩) := by
          simp [rEnv, runFn, evSs, evS, evE.eq_1, evE.eq_2, evE.eq_3, evE.eq_4, evE.eq_5, evE.eq_6, evE.eq_7, evE.eq_8, evE.eq_9, evE.eq_10, evE.eq_11, evE.eq_12, evE.eq_13, evE.eq_14, evE.eq_15, evE.eq_16, evE.eq_17, evE.eq_18, evE.eq_19, evEs, evHs, evT, evC, evO, evI, evW, evP, asg, asgTs_nil, asgTs_cons, asg_tup, frz, setSlot, callR, Sg.fz, Sg.rd, bin, un, cmp, truth, idx, slc, setI, methI, seqI, bcall, isNon, List.mapM_cons, List.mapM_nil, List.length_cons, List.length_nil, List.map_cons, List.map_nil, List.getElem?_cons_zero, List.getElem?_cons_succ, List.set_cons_zero, List.set_cons_succ, List.replicate, List.cons_append, List.nil_append, restore, wipeE, List.foldl_cons, List.foldl_nil, List.getD_cons_zero, List.getD_cons_succ, bools_map, ints_map, eqD_int, eqD_bl, binI_add, binI_sub, binI_and, binI_or]
        rw [ea, bndF_ok, h])
    refine ⟨0 :: t', ⟨rEnv m (0 :: t') 2 a b c d x f, st3⟩, ?_, hr3, hu3.rul⟩
    have e5 : thenB (rulS 3) = [.loop (.name 4) (.range [.bin .Add (.lit (.int 1)) (.call 8 [.var 0, .lit (.int 3)])]) rul2B, .ret (some (.bcall .tuple [.var 2]))] := rfl
    have e6 : evSs (callN Gl (n + 2)) (thenB (rulS 3)) ⟨rEnv m (idR (2 ^ m)) 2 .un .un .un .un .un .un, st1⟩ = some (.rt (.tup (iD (0 :: t'))), ⟨rEnv m (0 :: t') 2 a b c d x f, st3⟩) := by
      rw [e5, evSs_cons, evS_loop, e3, bndF_ok, e4, seqF_nx]
      simp [rEnv, runFn, evSs, evS, evE.eq_1, evE.eq_2, evE.eq_3, evE.eq_4, evE.eq_5, evE.eq_6, evE.eq_7, evE.eq_8, evE.eq_9, evE.eq_10, evE.eq_11, evE.eq_12, evE.eq_13, evE.eq_14, evE.eq_15, evE.eq_16, evE.eq_17, evE.eq_18, evE.eq_19, evEs, evHs, evT, evC, evO, evI, evW, evP, asg, asgTs_nil, asgTs_cons, asg_tup, frz, setSlot, callR, Sg.fz, Sg.rd, bin, un, cmp, truth, idx, slc, setI, methI, seqI, bcall, isNon, List.mapM_cons, List.mapM_nil, List.length_cons, List.length_nil, List.map_cons, List.map_nil, List.getElem?_cons_zero, List.getElem?_cons_succ, List.set_cons_zero, List.set_cons_succ, List.replicate, List.cons_append, List.nil_append, restore, wipeE, List.foldl_cons, List.foldl_nil, List.getD_cons_zero, List.getD_cons_succ, bools_map, ints_map, eqD_int, eqD_bl, binI_add, binI_sub, binI_and, binI_or]
    rw [eb, evSs_cons, ep, seqF_nx, evSs_cons, ei _ _ _ rfl, if_neg (by omega), seqF_nx, evSs_cons, ei _ _ _ rfl, if_neg (by omega), seqF_nx, evSs_cons, ei _ _ _ rfl, if_pos rfl, e6, seqF_rt]
  · obtain ⟨rule, s', e, hr', ok⟩ := rul3 hr1 h1 h4 (n + 1) k .un .un .un .un .un .un
    refine ⟨rule, s', ?_, hr', ok⟩
    rw [eb, evSs_cons, ep, seqF_nx, evSs_cons, ei _ _ _ rfl, if_neg q0, seqF_nx, evSs_cons, ei _ _ _ rfl, if_neg q1, seqF_nx, evSs_cons, ei _ _ _ rfl, if_neg q2, seqF_nx, e]
theorem tab_ok {ways : List (Int × Int)} {rule : List Int} {m : Nat} (h1 : 1 ≤ m) (h4 : m ≤ 4) (hl : ways.length = m) (hn : ways.Nodup) (hw : ∀ w ∈ ways, w ∈ allW) (hr : RulOk m rule) : TabOk ways rule := by
  subst hl
  refine ⟨h1, h4, hn, fun w h => ?_, hr.1, hr.2.1, hr.2.2⟩
  have key : ∀ w ∈ allW, -2 ≤ w.1 ∧ w.1 ≤ 2 ∧ -2 ≤ w.2 ∧ w.2 ≤ 2 := by decide
  exact key w (hw w h)
theorem table {st : List SObj} (hr : RowOk st) {least most : Int} (h1 : 1 ≤ least) (h2 : least ≤ most) (h4 : most ≤ 4) (n : Nat) : ∃ ways rule st', callN Gl (n + 4) 15 [.ref 0, .int least, .int most] st = some (.ok (tabD ways rule), st') ∧ RowOk st' ∧ TabOk ways rule ∧ least ≤ ways.length ∧ ways.length ≤ most := by
  obtain ⟨k, st1, e1, k0, k1, hr1⟩ := taken hr (many := most - least + 1) (by omega) (by omega) (n + 2)
  obtain ⟨m, hm⟩ : ∃ m : Nat, least + k = (m : Int) := ⟨(least + k).toNat, by omega⟩
  obtain ⟨ways, st2, e2, hr2, hl, hn, hw⟩ := ways hr1 (m := m) (by omega) (by omega) (n + 1)
  obtain ⟨rule, st3, e3, hr3, ok⟩ := rule_ hr2 (m := m) (by omega) (by omega) n
  refine ⟨ways, rule, st3, ?_, hr3, tab_ok (by omega) (by omega) hl hn hw ok, by omega, by omega⟩
  have z2 : 2 ≤ sizeLine := by have := sizeLine_eq; omega
  rw [c__law_table]
  simp [b__law_table, tabD, runFn, evSs, evS, evE.eq_1, evE.eq_2, evE.eq_3, evE.eq_4, evE.eq_5, evE.eq_6, evE.eq_7, evE.eq_8, evE.eq_9, evE.eq_10, evE.eq_11, evE.eq_12, evE.eq_13, evE.eq_14, evE.eq_15, evE.eq_16, evE.eq_17, evE.eq_18, evE.eq_19, evEs, evHs, evT, evC, evO, evI, evW, evP, asg, asgTs_nil, asgTs_cons, asg_tup, frz, setSlot, callR, Sg.fz, Sg.rd, bin, un, cmp, truth, idx, slc, setI, methI, seqI, bcall, isNon, List.mapM_cons, List.mapM_nil, List.length_cons, List.length_nil, List.map_cons, List.map_nil, List.getElem?_cons_zero, List.getElem?_cons_succ, List.set_cons_zero, List.set_cons_succ, List.replicate, List.cons_append, List.nil_append, restore, wipeE, List.foldl_cons, List.foldl_nil, List.getD_cons_zero, List.getD_cons_succ, bools_map, ints_map, eqD_int, eqD_bl, binI_add, binI_sub, binI_and, binI_or, e1, hm, e2, e3, z2]
--# P03y
abbrev bEnv (t : D) (w h : Int) (c : Rf.Slot) (m k : Int) (a : Rf.Slot) : List Rf.Slot := [.val (.ref 0), .val t, .val (.int w), .val (.int h), c, .val (.int m), .val (.int k), a]
def brdE : E := match b__law_board with
  | [_, .asg _ (.comp _ e _ _ _), _, _] => e
  | _ => .lit .non
theorem brd_elt {st : List SObj} (hr : RowOk st) {m : Nat} (h4 : m ≤ 4) (n : Nat) (t : D) (w h k : Int) (c a : Rf.Slot) : ∃ i st', evE (callN Gl (n + 1)) brdE ⟨bEnv t w h c (2 ^ m) k a, st⟩ = some (.ok (.d (.int i)), ⟨bEnv t w h c (2 ^ m) k a, st'⟩) ∧ RowOk st' ∧ 0 ≤ i ∧ i < 2 ^ m := by
  have hp : (2 : Nat) ^ m ≤ 16 := Nat.pow_le_pow_right (n := 2) (by omega) h4
  have hq : 0 < (2 : Nat) ^ m := Nat.pow_pos (by omega)
  have hcast : (2 ^ m : Int) = ((2 ^ m : Nat) : Int) := by simp
  by_cases q : k = 0
  · obtain ⟨i, st1, e1, i0, i1, hr1⟩ := taken hr (many := 2 ^ m) (by omega) (by omega) n
    refine ⟨i, st1, ?_, hr1, i0, i1⟩
    simp [brdE, b__law_board, bEnv, runFn, evSs, evS, evE.eq_1, evE.eq_2, evE.eq_3, evE.eq_4, evE.eq_5, evE.eq_6, evE.eq_7, evE.eq_8, evE.eq_9, evE.eq_10, evE.eq_11, evE.eq_12, evE.eq_13, evE.eq_14, evE.eq_15, evE.eq_16, evE.eq_17, evE.eq_18, evE.eq_19, evEs, evHs, evT, evC, evO, evI, evW, evP, asg, asgTs_nil, asgTs_cons, asg_tup, frz, setSlot, callR, Sg.fz, Sg.rd, bin, un, cmp, truth, idx, slc, setI, methI, seqI, bcall, isNon, List.mapM_cons, List.mapM_nil, List.length_cons, List.length_nil, List.map_cons, List.map_nil, List.getElem?_cons_zero, List.getElem?_cons_succ, List.set_cons_zero, List.set_cons_succ, List.replicate, List.cons_append, List.nil_append, restore, wipeE, List.foldl_cons, List.foldl_nil, List.getD_cons_zero, List.getD_cons_succ, bools_map, ints_map, eqD_int, eqD_bl, binI_add, binI_sub, binI_and, binI_or, q, e1]
  · obtain ⟨j, st1, e1, j0, j1, hr1⟩ := taken hr (many := 3) (by omega) (by omega) n
    by_cases p : j = 0
    · obtain ⟨i, st2, e2, i0, i1, hr2⟩ := taken hr1 (many := 2 ^ m) (by omega) (by omega) n
      refine ⟨i, st2, ?_, hr2, i0, i1⟩
      simp [brdE, b__law_board, bEnv, runFn, evSs, evS, evE.eq_1, evE.eq_2, evE.eq_3, evE.eq_4, evE.eq_5, evE.eq_6, evE.eq_7, evE.eq_8, evE.eq_9, evE.eq_10, evE.eq_11, evE.eq_12, evE.eq_13, evE.eq_14, evE.eq_15, evE.eq_16, evE.eq_17, evE.eq_18, evE.eq_19, evEs, evHs, evT, evC, evO, evI, evW, evP, asg, asgTs_nil, asgTs_cons, asg_tup, frz, setSlot, callR, Sg.fz, Sg.rd, bin, un, cmp, truth, idx, slc, setI, methI, seqI, bcall, isNon, List.mapM_cons, List.mapM_nil, List.length_cons, List.length_nil, List.map_cons, List.map_nil, List.getElem?_cons_zero, List.getElem?_cons_succ, List.set_cons_zero, List.set_cons_succ, List.replicate, List.cons_append, List.nil_append, restore, wipeE, List.foldl_cons, List.foldl_nil, List.getD_cons_zero, List.getD_cons_succ, bools_map, ints_map, eqD_int, eqD_bl, binI_add, binI_sub, binI_and, binI_or, q, e1, p, e2]
    · refine ⟨0, st1, ?_, hr1, by omega, by omega⟩
      simp [brdE, b__law_board, bEnv, runFn, evSs, evS, evE.eq_1, evE.eq_2, evE.eq_3, evE.eq_4, evE.eq_5, evE.eq_6, evE.eq_7, evE.eq_8, evE.eq_9, evE.eq_10, evE.eq_11, evE.eq_12, evE.eq_13, evE.eq_14, evE.eq_15, evE.eq_16, evE.eq_17, evE.eq_18, evE.eq_19, evEs, evHs, evT, evC, evO, evI, evW, evP, asg, asgTs_nil, asgTs_cons, asg_tup, frz, setSlot, callR, Sg.fz, Sg.rd, bin, un, cmp, truth, idx, slc, setI, methI, seqI, bcall, isNon, List.mapM_cons, List.mapM_nil, List.length_cons, List.length_nil, List.map_cons, List.map_nil, List.getElem?_cons_zero, List.getElem?_cons_succ, List.set_cons_zero, List.set_cons_succ, List.replicate, List.cons_append, List.nil_append, restore, wipeE, List.foldl_cons, List.foldl_nil, List.getD_cons_zero, List.getD_cons_succ, bools_map, ints_map, eqD_int, eqD_bl, binI_add, binI_sub, binI_and, binI_or, q, e1, p]
theorem board {st : List SObj} (hr : RowOk st) {ways : List (Int × Int)} {rule : List Int} (h1 : 1 ≤ ways.length) (h4 : ways.length ≤ 4) {wide high : Int} (w1 : 1 ≤ wide) (w8 : wide ≤ 8) (g1 : 1 ≤ high) (g8 : high ≤ 8) (n : Nat) :
    ∃ cells st', callN Gl (n + 2) 16 [.ref 0, tabD ways rule, .int wide, .int high] st = some (.ok (brdD wide high cells), st') ∧ RowOk st' ∧ BrdOk ways.length wide high cells := by
  have hp : (2 : Nat) ^ ways.length ≤ 16 := Nat.pow_le_pow_right (n := 2) (by omega) h4
  have hq : (2 : Nat) ^ 1 ≤ 2 ^ ways.length := Nat.pow_le_pow_right (n := 2) (by omega) h1
  have hcast : (2 ^ ways.length : Int) = ((2 ^ ways.length : Nat) : Int) := by simp
  have hz := sizeLine_eq
  have b64 : wide * high ≤ 8 * 8 := Int.mul_le_mul w8 g8 (by omega) (by omega)
  have b0 : 1 * 1 ≤ wide * high := Int.mul_le_mul w1 g1 (by omega) (by omega)
  obtain ⟨N, hN⟩ : ∃ N : Nat, wide * high = (N : Int) := ⟨(wide * high).toNat, by omega⟩
  have hmul : binI .Mult wide high = some (wide * high) := binI_mul (.inl ⟨by omega, by omega⟩)
  have hs := binI_shl (k := ways.length) (by omega)
  have hrg := rangeI_nat (k := N) (by omega)
  obtain ⟨k, st1, e1, k0, k1, hr1⟩ := taken hr (many := 3) (by omega) (by omega) n
  have z2 : 2 ≤ sizeLine := by omega
  have z3 : 3 ≤ sizeLine := by omega
  have s0 : evS (callN Gl (n + 1)) (b__law_board.getD 0 .brk) ⟨[.val (.ref 0), .val (tabD ways rule), .val (.int wide), .val (.int high), .un, .un, .un, .un], st⟩ = some (.nx, ⟨bEnv (tabD ways rule) wide high .un (2 ^ ways.length) k .un, st1⟩) := by
    simp [b__law_board, bEnv, tabD, ixNat, runFn, evSs, evS, evE.eq_1, evE.eq_2, evE.eq_3, evE.eq_4, evE.eq_5, evE.eq_6, evE.eq_7, evE.eq_8, evE.eq_9, evE.eq_10, evE.eq_11, evE.eq_12, evE.eq_13, evE.eq_14, evE.eq_15, evE.eq_16, evE.eq_17, evE.eq_18, evE.eq_19, evEs, evHs, evT, evC, evO, evI, evW, evP, asg, asgTs_nil, asgTs_cons, asg_tup, frz, setSlot, callR, Sg.fz, Sg.rd, bin, un, cmp, truth, idx, slc, setI, methI, seqI, bcall, isNon, List.mapM_cons, List.mapM_nil, List.length_cons, List.length_nil, List.map_cons, List.map_nil, List.getElem?_cons_zero, List.getElem?_cons_succ, List.set_cons_zero, List.set_cons_succ, List.replicate, List.cons_append, List.nil_append, restore, wipeE, List.foldl_cons, List.foldl_nil, List.getD_cons_zero, List.getD_cons_succ, bools_map, ints_map, eqD_int, eqD_bl, binI_add, binI_sub, binI_and, binI_or, e1, hs, z2]
  obtain ⟨xs, st2, e2, hr2, l2, r2⟩ := comp_st (cl := callN Gl (n + 1)) (vs := [7]) (elt := brdE) (t := .name 7) (it := .range [.bin .Mult (.var 2) (.var 3)]) (c := none) (o := none)
    (s := ⟨bEnv (tabD ways rule) wide high .un (2 ^ ways.length) k .un, st1⟩) (s1 := ⟨bEnv (tabD ways rule) wide high .un (2 ^ ways.length) k .un, st1⟩) (ds := (List.range N).map fun i => D.int (i : Nat)) (J := RowOk) (R := fun x => ∃ i, x = .int i ∧ 0 ≤ i ∧ i < 2 ^ ways.length)
    (by simp [bEnv, runFn, evSs, evS, evE.eq_1, evE.eq_2, evE.eq_3, evE.eq_4, evE.eq_5, evE.eq_6, evE.eq_7, evE.eq_8, evE.eq_9, evE.eq_10, evE.eq_11, evE.eq_12, evE.eq_13, evE.eq_14, evE.eq_15, evE.eq_16, evE.eq_17, evE.eq_18, evE.eq_19, evEs, evHs, evT, evC, evO, evI, evW, evP, asg, asgTs_nil, asgTs_cons, asg_tup, frz, setSlot, callR, Sg.fz, Sg.rd, bin, un, cmp, truth, idx, slc, setI, methI, seqI, bcall, isNon, List.mapM_cons, List.mapM_nil, List.length_cons, List.length_nil, List.map_cons, List.map_nil, List.getElem?_cons_zero, List.getElem?_cons_succ, List.set_cons_zero, List.set_cons_succ, List.replicate, List.cons_append, List.nil_append, restore, wipeE, List.foldl_cons, List.foldl_nil, List.getD_cons_zero, List.getD_cons_succ, bools_map, ints_map, eqD_int, eqD_bl, binI_add, binI_sub, binI_and, binI_or, hmul, hN, hrg]) (fun _ => rfl) (fun d hd st hst => by
      obtain ⟨i, st', e, hr', i0, i1⟩ := brd_elt hst h4 n (tabD ways rule) wide high k .un (.val d)
      refine ⟨.int i, st', ?_, hr', i, rfl, i0, i1⟩
      simp only [turnC, heldB_none, if_true, bEnv, runFn, evSs, evS, evE.eq_1, evE.eq_2, evE.eq_3, evE.eq_4, evE.eq_5, evE.eq_6, evE.eq_7, evE.eq_8, evE.eq_9, evE.eq_10, evE.eq_11, evE.eq_12, evE.eq_13, evE.eq_14, evE.eq_15, evE.eq_16, evE.eq_17, evE.eq_18, evE.eq_19, evEs, evHs, evT, evC, evO, evI, evW, evP, asg, asgTs_nil, asgTs_cons, asg_tup, frz, setSlot, callR, Sg.fz, Sg.rd, bin, un, cmp, truth, idx, slc, setI, methI, seqI, bcall, isNon, List.mapM_cons, List.mapM_nil, List.length_cons, List.length_nil, List.map_cons, List.map_nil, List.getElem?_cons_zero, List.getElem?_cons_succ, List.set_cons_zero, List.set_cons_succ, List.replicate, List.cons_append, List.nil_append, restore, wipeE, List.foldl_cons, List.foldl_nil, List.getD_cons_zero, List.getD_cons_succ, bools_map, ints_map, eqD_int, eqD_bl, binI_add, binI_sub, binI_and, binI_or, bnd_ok] at e ⊢
      simp [bEnv, runFn, evSs, evS, evE.eq_1, evE.eq_2, evE.eq_3, evE.eq_4, evE.eq_5, evE.eq_6, evE.eq_7, evE.eq_8, evE.eq_9, evE.eq_10, evE.eq_11, evE.eq_12, evE.eq_13, evE.eq_14, evE.eq_15, evE.eq_16, evE.eq_17, evE.eq_18, evE.eq_19, evEs, evHs, evT, evC, evO, evI, evW, evP, asg, asgTs_nil, asgTs_cons, asg_tup, frz, setSlot, callR, Sg.fz, Sg.rd, bin, un, cmp, truth, idx, slc, setI, methI, seqI, bcall, isNon, List.mapM_cons, List.mapM_nil, List.length_cons, List.length_nil, List.map_cons, List.map_nil, List.getElem?_cons_zero, List.getElem?_cons_succ, List.set_cons_zero, List.set_cons_succ, List.replicate, List.cons_append, List.nil_append, restore, wipeE, List.foldl_cons, List.foldl_nil, List.getD_cons_zero, List.getD_cons_succ, bools_map, ints_map, eqD_int, eqD_bl, binI_add, binI_sub, binI_and, binI_or, e]) (by rw [List.length_map, List.length_range]; omega) hr1
  obtain ⟨cl, rfl, hcl⟩ := ints_of r2
  rw [iD_len, List.length_map, List.length_range] at l2
  have s1 : evS (callN Gl (n + 1)) (b__law_board.getD 1 .brk) ⟨bEnv (tabD ways rule) wide high .un (2 ^ ways.length) k .un, st1⟩ = some (.nx, ⟨bEnv (tabD ways rule) wide high (.own (iD cl)) (2 ^ ways.length) k .un, st2⟩) := by
    have eb : b__law_board.getD 1 .brk = .asg (.name 4) (.comp [7] brdE (.name 7) (.range [.bin .Mult (.var 2) (.var 3)]) none) := rfl
    rw [eb]
    simp only [evS]
    rw [e2]
    simp [bEnv, restore, wipeE, setSlot]
  have eb : b__law_board = [b__law_board.getD 0 .brk, b__law_board.getD 1 .brk, b__law_board.getD 2 .brk, b__law_board.getD 3 .brk] := rfl
  have fin : ∀ (c : List Int) (st' : List SObj), evS (callN Gl (n + 1)) (b__law_board.getD 2 .brk) ⟨bEnv (tabD ways rule) wide high (.own (iD cl)) (2 ^ ways.length) k .un, st2⟩ = some (.nx, ⟨bEnv (tabD ways rule) wide high (.own (iD c)) (2 ^ ways.length) k .un, st'⟩) →
      callN Gl (n + 2) 16 [.ref 0, tabD ways rule, .int wide, .int high] st = some (.ok (brdD wide high c), st') := by
    intro c st' e
    rw [c__law_board]
    refine runFn_rt rfl rfl ⟨⟨bEnv (tabD ways rule) wide high (.own (iD c)) (2 ^ ways.length) k .un, st'⟩, ?_, rfl⟩
    show evSs (callN Gl (n + 1)) b__law_board ⟨[.val (.ref 0), .val (tabD ways rule), .val (.int wide), .val (.int high), .un, .un, .un, .un], st⟩ = _
    rw [eb, evSs_cons, s0, seqF_nx, evSs_cons, s1, seqF_nx, evSs_cons, e, seqF_nx]
    simp [b__law_board, bEnv, brdD, runFn, evSs, evS, evE.eq_1, evE.eq_2, evE.eq_3, evE.eq_4, evE.eq_5, evE.eq_6, evE.eq_7, evE.eq_8, evE.eq_9, evE.eq_10, evE.eq_11, evE.eq_12, evE.eq_13, evE.eq_14, evE.eq_15, evE.eq_16, evE.eq_17, evE.eq_18, evE.eq_19, evEs, evHs, evT, evC, evO, evI, evW, evP, asg, asgTs_nil, asgTs_cons, asg_tup, frz, setSlot, callR, Sg.fz, Sg.rd, bin, un, cmp, truth, idx, slc, setI, methI, seqI, bcall, isNon, List.mapM_cons, List.mapM_nil, List.length_cons, List.length_nil, List.map_cons, List.map_nil, List.getElem?_cons_zero, List.getElem?_cons_succ, List.set_cons_zero, List.set_cons_succ, List.replicate, List.cons_append, List.nil_append, restore, wipeE, List.foldl_cons, List.foldl_nil, List.getD_cons_zero, List.getD_cons_succ, bools_map, ints_map, eqD_int, eqD_bl, binI_add, binI_sub, binI_and, binI_or, z3]
  by_cases q : k = 2
  · subst q
    obtain ⟨v, st3, e3, v0, v1, hr3⟩ := taken hr2 (many := 2 ^ ways.length - 1) (by omega) (by omega) n
    obtain ⟨j, st4, e4, j0, j1, hr4⟩ := taken hr3 (many := (N : Int)) (by omega) (by omega) n
    have hx : ixNat N j = some j.toNat := by
      unfold ixNat
      rw [if_pos j0, if_pos (by omega)]
    have hrep := bin_rep (k := N) (by omega)
    refine ⟨(List.replicate N 0).set j.toNat (1 + v), st4, fin _ _ ?_, hr4, w1, w8, g1, g8, by rw [List.length_set, List.length_replicate, hN], fun x hx => ?_⟩
    · simp only [b__law_board, List.getD_cons_succ, List.getD_cons_zero]
      have ha : evS (callN Gl (n + 1)) (.asg (.name 4) (.bin .Mult (.lst [.lit (.int 0)]) (.bin .Mult (.var 2) (.var 3)))) ⟨bEnv (tabD ways rule) wide high (.own (iD cl)) (2 ^ ways.length) 2 .un, st2⟩ = some (.nx, ⟨bEnv (tabD ways rule) wide high (.own (iD (List.replicate N 0))) (2 ^ ways.length) 2 .un, st2⟩) := by
        have hm : evE (callN Gl (n + 1)) (.bin .Mult (.var 2) (.var 3)) ⟨bEnv (tabD ways rule) wide high (.own (iD cl)) (2 ^ ways.length) 2 .un, st2⟩ = some (.ok (.d (.int (N : Nat))), ⟨bEnv (tabD ways rule) wide high (.own (iD cl)) (2 ^ ways.length) 2 .un, st2⟩) := by
          simp [bEnv, runFn, evSs, evS, evE.eq_1, evE.eq_2, evE.eq_3, evE.eq_4, evE.eq_5, evE.eq_6, evE.eq_7, evE.eq_8, evE.eq_9, evE.eq_10, evE.eq_11, evE.eq_12, evE.eq_13, evE.eq_14, evE.eq_15, evE.eq_16, evE.eq_17, evE.eq_18, evE.eq_19, evEs, evHs, evT, evC, evO, evI, evW, evP, asg, asgTs_nil, asgTs_cons, asg_tup, frz, setSlot, callR, Sg.fz, Sg.rd, bin, un, cmp, truth, idx, slc, setI, methI, seqI, bcall, isNon, List.mapM_cons, List.mapM_nil, List.length_cons, List.length_nil, List.map_cons, List.map_nil, List.getElem?_cons_zero, List.getElem?_cons_succ, List.set_cons_zero, List.set_cons_succ, List.replicate, List.cons_append, List.nil_append, restore, wipeE, List.foldl_cons, List.foldl_nil, List.getD_cons_zero, List.getD_cons_succ, bools_map, ints_map, eqD_int, eqD_bl, binI_add, binI_sub, binI_and, binI_or, hmul, hN]
        simp only [evS]
        rw [evE.eq_3, lst_one, bnd_ok, hm, bnd_ok]
        have r1 : ∀ s : Sg, s.rd (.own [.int 0]) = some (.lst [.int 0]) := fun _ => rfl
        have r2 : ∀ s : Sg, s.rd (.d (.int (N : Nat))) = some (.int (N : Nat)) := fun _ => rfl
        rw [r1, r2, Option.bind_some, Option.bind_some, hrep]
        rfl
      have ht : evT (callN Gl (n + 1)) (.e (.cmp .Eq (.var 6) (.lit (.int 2)))) ⟨bEnv (tabD ways rule) wide high (.own (iD cl)) (2 ^ ways.length) 2 .un, st2⟩ = some (.ok true, ⟨bEnv (tabD ways rule) wide high (.own (iD cl)) (2 ^ ways.length) 2 .un, st2⟩) := by
        simp [bEnv, runFn, evSs, evS, evE.eq_1, evE.eq_2, evE.eq_3, evE.eq_4, evE.eq_5, evE.eq_6, evE.eq_7, evE.eq_8, evE.eq_9, evE.eq_10, evE.eq_11, evE.eq_12, evE.eq_13, evE.eq_14, evE.eq_15, evE.eq_16, evE.eq_17, evE.eq_18, evE.eq_19, evEs, evHs, evT, evC, evO, evI, evW, evP, asg, asgTs_nil, asgTs_cons, asg_tup, frz, setSlot, callR, Sg.fz, Sg.rd, bin, un, cmp, truth, idx, slc, setI, methI, seqI, bcall, isNon, List.mapM_cons, List.mapM_nil, List.length_cons, List.length_nil, List.map_cons, List.map_nil, List.getElem?_cons_zero, List.getElem?_cons_succ, List.set_cons_zero, List.set_cons_succ, List.replicate, List.cons_append, List.nil_append, restore, wipeE, List.foldl_cons, List.foldl_nil, List.getD_cons_zero, List.getD_cons_succ, bools_map, ints_map, eqD_int, eqD_bl, binI_add, binI_sub, binI_and, binI_or]
      rw [evS, ht, bndF_ok, if_pos rfl, evSs_cons, ha, seqF_nx]
      simp [-List.getElem?_eq_getElem, bEnv, runFn, evSs, evS, evE.eq_1, evE.eq_2, evE.eq_3, evE.eq_4, evE.eq_5, evE.eq_6, evE.eq_7, evE.eq_8, evE.eq_9, evE.eq_10, evE.eq_11, evE.eq_12, evE.eq_13, evE.eq_14, evE.eq_15, evE.eq_16, evE.eq_17, evE.eq_18, evE.eq_19, evEs, evHs, evT, evC, evO, evI, evW, evP, asg, asgTs_nil, asgTs_cons, asg_tup, frz, setSlot, callR, Sg.fz, Sg.rd, bin, un, cmp, truth, idx, slc, setI, methI, seqI, bcall, isNon, List.mapM_cons, List.mapM_nil, List.length_cons, List.length_nil, List.map_cons, List.map_nil, List.getElem?_cons_zero, List.getElem?_cons_succ, List.set_cons_zero, List.set_cons_succ, List.replicate, List.cons_append, List.nil_append, restore, wipeE, List.foldl_cons, List.foldl_nil, List.getD_cons_zero, List.getD_cons_succ, bools_map, ints_map, eqD_int, eqD_bl, binI_add, binI_sub, binI_and, binI_or, e3, e4, iD_len, hx, iD_set]
    · rcases List.mem_or_eq_of_mem_set hx with hx | rfl
      · rw [List.eq_of_mem_replicate hx]
        omega
      · omega
  · refine ⟨cl, st2, fin _ _ ?_, hr2, w1, w8, g1, g8, by rw [hN]; exact_mod_cast l2, hcl⟩
    simp [b__law_board, bEnv, runFn, evSs, evS, evE.eq_1, evE.eq_2, evE.eq_3, evE.eq_4, evE.eq_5, evE.eq_6, evE.eq_7, evE.eq_8, evE.eq_9, evE.eq_10, evE.eq_11, evE.eq_12, evE.eq_13, evE.eq_14, evE.eq_15, evE.eq_16, evE.eq_17, evE.eq_18, evE.eq_19, evEs, evHs, evT, evC, evO, evI, evW, evP, asg, asgTs_nil, asgTs_cons, asg_tup, frz, setSlot, callR, Sg.fz, Sg.rd, bin, un, cmp, truth, idx, slc, setI, methI, seqI, bcall, isNon, List.mapM_cons, List.mapM_nil, List.length_cons, List.length_nil, List.map_cons, List.map_nil, List.getElem?_cons_zero, List.getElem?_cons_succ, List.set_cons_zero, List.set_cons_succ, List.replicate, List.cons_append, List.nil_append, restore, wipeE, List.foldl_cons, List.foldl_nil, List.getD_cons_zero, List.getD_cons_succ, bools_map, ints_map, eqD_int, eqD_bl, binI_add, binI_sub, binI_and, binI_or, q]
--# bad
/-- what is no board: by its kind, or by its length, or a row of ints -/
def NoBrd (d : D) : Prop := (plainD d = true ∧ ∀ ds, d ≠ .tup ds) ∨ (∃ ds, d = .tup ds ∧ ds.length ≠ 3) ∨ ∃ l, d = .tup (iD l)
section
variable {ways : List (Int × Int)} {rule : List Int} {wide high : Int} {cells : List Int} {n : Nat} {st : List SObj}
theorem is_board_f (h : TabOk ways rule) {d : D} (b : NoBrd d) (n : Nat) (st : List SObj) : callN Gl (n + 4) 3 [tabD ways rule, d] st = some (.ok (.bl false), st) := by
  rw [c_is_board]
  have it := is_table h n st
  have nd := need_t (.str { cps := #[116, 97, 98, 108, 101] }) (n + 2) st
  rcases b with ⟨hp, hd⟩ | ⟨ds, rfl, hl⟩ | ⟨l, rfl⟩
  · cases d with
    | tup ds => exact absurd rfl (hd ds)
    | fl _ => cases hp
    | ref _ => cases hp
    | _ => simp [b_is_board, runFn, evSs, evS, evE.eq_1, evE.eq_2, evE.eq_3, evE.eq_4, evE.eq_5, evE.eq_6, evE.eq_7, evE.eq_8, evE.eq_9, evE.eq_10, evE.eq_11, evE.eq_12, evE.eq_13, evE.eq_14, evE.eq_15, evE.eq_16, evE.eq_17, evE.eq_18, evE.eq_19, evEs, evHs, evT, evC, evO, evI, evW, evP, asg, asgTs_nil, asgTs_cons, asg_tup, frz, setSlot, callR, Sg.fz, Sg.rd, bin, un, cmp, truth, idx, slc, setI, methI, seqI, bcall, isNon, List.mapM_cons, List.mapM_nil, List.length_cons, List.length_nil, List.map_cons, List.map_nil, List.getElem?_cons_zero, List.getElem?_cons_succ, List.set_cons_zero, List.set_cons_succ, List.replicate, List.cons_append, List.nil_append, restore, wipeE, List.foldl_cons, List.foldl_nil, List.getD_cons_zero, List.getD_cons_succ, bools_map, ints_map, eqD_int, eqD_bl, binI_add, binI_sub, binI_and, binI_or, it, nd]
  · have hl' : ¬ ((ds.length : Nat) : Int) = 3 := by omega
    simp [b_is_board, runFn, evSs, evS, evE.eq_1, evE.eq_2, evE.eq_3, evE.eq_4, evE.eq_5, evE.eq_6, evE.eq_7, evE.eq_8, evE.eq_9, evE.eq_10, evE.eq_11, evE.eq_12, evE.eq_13, evE.eq_14, evE.eq_15, evE.eq_16, evE.eq_17, evE.eq_18, evE.eq_19, evEs, evHs, evT, evC, evO, evI, evW, evP, asg, asgTs_nil, asgTs_cons, asg_tup, frz, setSlot, callR, Sg.fz, Sg.rd, bin, un, cmp, truth, idx, slc, setI, methI, seqI, bcall, isNon, List.mapM_cons, List.mapM_nil, List.length_cons, List.length_nil, List.map_cons, List.map_nil, List.getElem?_cons_zero, List.getElem?_cons_succ, List.set_cons_zero, List.set_cons_succ, List.replicate, List.cons_append, List.nil_append, restore, wipeE, List.foldl_cons, List.foldl_nil, List.getD_cons_zero, List.getD_cons_succ, bools_map, ints_map, eqD_int, eqD_bl, binI_add, binI_sub, binI_and, binI_or, it, nd, hl']
  · match l with
    | [] => simp [b_is_board, runFn, evSs, evS, evE.eq_1, evE.eq_2, evE.eq_3, evE.eq_4, evE.eq_5, evE.eq_6, evE.eq_7, evE.eq_8, evE.eq_9, evE.eq_10, evE.eq_11, evE.eq_12, evE.eq_13, evE.eq_14, evE.eq_15, evE.eq_16, evE.eq_17, evE.eq_18, evE.eq_19, evEs, evHs, evT, evC, evO, evI, evW, evP, asg, asgTs_nil, asgTs_cons, asg_tup, frz, setSlot, callR, Sg.fz, Sg.rd, bin, un, cmp, truth, idx, slc, setI, methI, seqI, bcall, isNon, List.mapM_cons, List.mapM_nil, List.length_cons, List.length_nil, List.map_cons, List.map_nil, List.getElem?_cons_zero, List.getElem?_cons_succ, List.set_cons_zero, List.set_cons_succ, List.replicate, List.cons_append, List.nil_append, restore, wipeE, List.foldl_cons, List.foldl_nil, List.getD_cons_zero, List.getD_cons_succ, bools_map, ints_map, eqD_int, eqD_bl, binI_add, binI_sub, binI_and, binI_or, it, nd, iD]
    | [a] => simp [b_is_board, runFn, evSs, evS, evE.eq_1, evE.eq_2, evE.eq_3, evE.eq_4, evE.eq_5, evE.eq_6, evE.eq_7, evE.eq_8, evE.eq_9, evE.eq_10, evE.eq_11, evE.eq_12, evE.eq_13, evE.eq_14, evE.eq_15, evE.eq_16, evE.eq_17, evE.eq_18, evE.eq_19, evEs, evHs, evT, evC, evO, evI, evW, evP, asg, asgTs_nil, asgTs_cons, asg_tup, frz, setSlot, callR, Sg.fz, Sg.rd, bin, un, cmp, truth, idx, slc, setI, methI, seqI, bcall, isNon, List.mapM_cons, List.mapM_nil, List.length_cons, List.length_nil, List.map_cons, List.map_nil, List.getElem?_cons_zero, List.getElem?_cons_succ, List.set_cons_zero, List.set_cons_succ, List.replicate, List.cons_append, List.nil_append, restore, wipeE, List.foldl_cons, List.foldl_nil, List.getD_cons_zero, List.getD_cons_succ, bools_map, ints_map, eqD_int, eqD_bl, binI_add, binI_sub, binI_and, binI_or, it, nd, iD]
    | [a, b] => simp [b_is_board, runFn, evSs, evS, evE.eq_1, evE.eq_2, evE.eq_3, evE.eq_4, evE.eq_5, evE.eq_6, evE.eq_7, evE.eq_8, evE.eq_9, evE.eq_10, evE.eq_11, evE.eq_12, evE.eq_13, evE.eq_14, evE.eq_15, evE.eq_16, evE.eq_17, evE.eq_18, evE.eq_19, evEs, evHs, evT, evC, evO, evI, evW, evP, asg, asgTs_nil, asgTs_cons, asg_tup, frz, setSlot, callR, Sg.fz, Sg.rd, bin, un, cmp, truth, idx, slc, setI, methI, seqI, bcall, isNon, List.mapM_cons, List.mapM_nil, List.length_cons, List.length_nil, List.map_cons, List.map_nil, List.getElem?_cons_zero, List.getElem?_cons_succ, List.set_cons_zero, List.set_cons_succ, List.replicate, List.cons_append, List.nil_append, restore, wipeE, List.foldl_cons, List.foldl_nil, List.getD_cons_zero, List.getD_cons_succ, bools_map, ints_map, eqD_int, eqD_bl, binI_add, binI_sub, binI_and, binI_or, it, nd, iD]
    | a :: b :: c :: d :: r =>
      have hl' : ¬ ((r.length : Int) + 1 + 1 + 1 + 1 = 3) := by omega
      simp [b_is_board, runFn, evSs, evS, evE.eq_1, evE.eq_2, evE.eq_3, evE.eq_4, evE.eq_5, evE.eq_6, evE.eq_7, evE.eq_8, evE.eq_9, evE.eq_10, evE.eq_11, evE.eq_12, evE.eq_13, evE.eq_14, evE.eq_15, evE.eq_16, evE.eq_17, evE.eq_18, evE.eq_19, evEs, evHs, evT, evC, evO, evI, evW, evP, asg, asgTs_nil, asgTs_cons, asg_tup, frz, setSlot, callR, Sg.fz, Sg.rd, bin, un, cmp, truth, idx, slc, setI, methI, seqI, bcall, isNon, List.mapM_cons, List.mapM_nil, List.length_cons, List.length_nil, List.map_cons, List.map_nil, List.getElem?_cons_zero, List.getElem?_cons_succ, List.set_cons_zero, List.set_cons_succ, List.replicate, List.cons_append, List.nil_append, restore, wipeE, List.foldl_cons, List.foldl_nil, List.getD_cons_zero, List.getD_cons_succ, bools_map, ints_map, eqD_int, eqD_bl, binI_add, binI_sub, binI_and, binI_or, it, nd, iD, hl']
    | [a, b, c] =>
      have w0 := is_whole (d := .int a) rfl 1 8 (n + 2) st
      have w2 := is_whole (d := .int b) rfl 1 8 (n + 2) st
      by_cases q0 : 1 ≤ a ∧ a ≤ 8
      · by_cases q1 : 1 ≤ b ∧ b ≤ 8
        · have hmul : binI .Mult a b = some (a * b) := binI_mul (.inl ⟨by omega, by omega⟩)
          have l4 := h.l4
          have hbin := binI_shl (k := ways.length) (by omega)
          have ha := are_wholes0 (d := .int c) rfl (by intro ds h; cases h) (a * b) 0 (2 ^ ways.length - 1) (n + 1) st
          simp only [isW, q0, q1] at w0 w2
          have e3 : iD [a, b, c] = [.int a, .int b, .int c] := rfl
          rw [e3]
          unfold tabD at it ⊢
          simp [b_is_board, runFn, evSs, evS, evE.eq_1, evE.eq_2, evE.eq_3, evE.eq_4, evE.eq_5, evE.eq_6, evE.eq_7, evE.eq_8, evE.eq_9, evE.eq_10, evE.eq_11, evE.eq_12, evE.eq_13, evE.eq_14, evE.eq_15, evE.eq_16, evE.eq_17, evE.eq_18, evE.eq_19, evEs, evHs, evT, evC, evO, evI, evW, evP, asg, asgTs_nil, asgTs_cons, asg_tup, frz, setSlot, callR, Sg.fz, Sg.rd, bin, un, cmp, truth, idx, slc, setI, methI, seqI, bcall, isNon, List.mapM_cons, List.mapM_nil, List.length_cons, List.length_nil, List.map_cons, List.map_nil, List.getElem?_cons_zero, List.getElem?_cons_succ, List.set_cons_zero, List.set_cons_succ, List.replicate, List.cons_append, List.nil_append, restore, wipeE, List.foldl_cons, List.foldl_nil, List.getD_cons_zero, List.getD_cons_succ, bools_map, ints_map, eqD_int, eqD_bl, binI_add, binI_sub, binI_and, binI_or, ixNat, it, nd, w0, w2, hmul, hbin, ha]
        · simp only [isW, q0, decide_eq_false q1] at w0 w2
          simp [b_is_board, runFn, evSs, evS, evE.eq_1, evE.eq_2, evE.eq_3, evE.eq_4, evE.eq_5, evE.eq_6, evE.eq_7, evE.eq_8, evE.eq_9, evE.eq_10, evE.eq_11, evE.eq_12, evE.eq_13, evE.eq_14, evE.eq_15, evE.eq_16, evE.eq_17, evE.eq_18, evE.eq_19, evEs, evHs, evT, evC, evO, evI, evW, evP, asg, asgTs_nil, asgTs_cons, asg_tup, frz, setSlot, callR, Sg.fz, Sg.rd, bin, un, cmp, truth, idx, slc, setI, methI, seqI, bcall, isNon, List.mapM_cons, List.mapM_nil, List.length_cons, List.length_nil, List.map_cons, List.map_nil, List.getElem?_cons_zero, List.getElem?_cons_succ, List.set_cons_zero, List.set_cons_succ, List.replicate, List.cons_append, List.nil_append, restore, wipeE, List.foldl_cons, List.foldl_nil, List.getD_cons_zero, List.getD_cons_succ, bools_map, ints_map, eqD_int, eqD_bl, binI_add, binI_sub, binI_and, binI_or, ixNat, it, nd, iD, w0, w2]
      · simp only [isW, decide_eq_false q0] at w0 w2
        simp [b_is_board, runFn, evSs, evS, evE.eq_1, evE.eq_2, evE.eq_3, evE.eq_4, evE.eq_5, evE.eq_6, evE.eq_7, evE.eq_8, evE.eq_9, evE.eq_10, evE.eq_11, evE.eq_12, evE.eq_13, evE.eq_14, evE.eq_15, evE.eq_16, evE.eq_17, evE.eq_18, evE.eq_19, evEs, evHs, evT, evC, evO, evI, evW, evP, asg, asgTs_nil, asgTs_cons, asg_tup, frz, setSlot, callR, Sg.fz, Sg.rd, bin, un, cmp, truth, idx, slc, setI, methI, seqI, bcall, isNon, List.mapM_cons, List.mapM_nil, List.length_cons, List.length_nil, List.map_cons, List.map_nil, List.getElem?_cons_zero, List.getElem?_cons_succ, List.set_cons_zero, List.set_cons_succ, List.replicate, List.cons_append, List.nil_append, restore, wipeE, List.foldl_cons, List.foldl_nil, List.getD_cons_zero, List.getD_cons_succ, bools_map, ints_map, eqD_int, eqD_bl, binI_add, binI_sub, binI_and, binI_or, ixNat, it, nd, iD, w0]
theorem need_board_b (h : TabOk ways rule) {d : D} (b : NoBrd d) (n : Nat) (st : List SObj) : callN Gl (n + 5) 5 [tabD ways rule, d] st = some (.exc ⟨0, [(.str { cps := #[98, 111, 97, 114, 100] })]⟩, st) := by
  rw [c_need_board]
  have it := is_table h (n + 1) st
  have ib := is_board_f h b n st
  have nf := need_f (.str { cps := #[98, 111, 97, 114, 100] }) (n + 3) st
  have nt := need_t (.str { cps := #[116, 97, 98, 108, 101] }) (n + 3) st
  simp [b_need_board, runFn, evSs, evS, evE.eq_1, evE.eq_2, evE.eq_3, evE.eq_4, evE.eq_5, evE.eq_6, evE.eq_7, evE.eq_8, evE.eq_9, evE.eq_10, evE.eq_11, evE.eq_12, evE.eq_13, evE.eq_14, evE.eq_15, evE.eq_16, evE.eq_17, evE.eq_18, evE.eq_19, evEs, evHs, evT, evC, evO, evI, evW, evP, asg, asgTs_nil, asgTs_cons, asg_tup, frz, setSlot, callR, Sg.fz, Sg.rd, bin, un, cmp, truth, idx, slc, setI, methI, seqI, bcall, isNon, List.mapM_cons, List.mapM_nil, List.length_cons, List.length_nil, List.map_cons, List.map_nil, List.getElem?_cons_zero, List.getElem?_cons_succ, List.set_cons_zero, List.set_cons_succ, List.replicate, List.cons_append, List.nil_append, restore, wipeE, List.foldl_cons, List.foldl_nil, List.getD_cons_zero, List.getD_cons_succ, bools_map, ints_map, eqD_int, eqD_bl, binI_add, binI_sub, binI_and, binI_or, it, ib, nf, nt]
theorem need_board_t' {d e : D} (h : d = .non ∨ (∃ i, d = .int i) ∨ ∃ ds, d = .lst ds) (n : Nat) (st : List SObj) : callN Gl (n + 5) 5 [d, e] st = some (.exc ⟨0, [(.str { cps := #[116, 97, 98, 108, 101] })]⟩, st) := need_board_t h n st
end
--# it
section
variable {ways : List (Int × Int)} {rule : List Int} {wide high : Int} {cells : List Int} {n : Nat} {st : List SObj}
theorem it_ints (l : List Int) (h : l.length ≤ 1000) : It 1 (.tup (iD l)) := .inr ⟨_, rfl, by rw [iD_len]; exact h, fun x hx => by
  obtain ⟨i, _, rfl⟩ := List.mem_map.mp hx
  exact ⟨i, rfl⟩⟩
theorem it_brd (w h : Int) (l : List Int) (hl : l.length ≤ 1000) : It 2 (brdD w h l) := .inr ⟨_, rfl, by simp, fun x hx => by
  simp only [List.mem_cons, List.not_mem_nil, or_false] at hx
  rcases hx with rfl | rfl | rfl
  · exact .inl ⟨w, rfl⟩
  · exact .inl ⟨h, rfl⟩
  · exact it_ints l hl⟩
theorem cut_take {α : Type} (l : List α) {p : Nat} (h : p ≤ l.length) : cut l none (some (p : Int)) = l.take p := by
  unfold cut
  rw [HT.sIx_none, HT.sIx_nat, Nat.min_eq_left h]
  simp
theorem cut_drop {α : Type} (l : List α) {p : Nat} (h : p < l.length) : cut l (some ((p : Int) + 1)) none = l.drop (p + 1) := by
  unfold cut
  rw [HT.sIx_none, show (p : Int) + 1 = ((p + 1 : Nat) : Int) by omega, HT.sIx_nat, Nat.min_eq_left (by omega)]
  exact List.take_of_length_le (by simp)
theorem put_eq (l : List Int) {p : Nat} (h : p < l.length) (v : Int) : (iD l).take p ++ [D.int v] ++ (iD l).drop (p + 1) = iD (l.set p v) := by
  unfold iD
  rw [List.set_eq_take_append_cons_drop, if_pos h, List.map_append, List.map_cons, List.map_take, List.map_drop]
  simp
end
open Classical in
theorem eqD_refl' {x : D} (h : nice x = true) (hd : dptD x ≤ 64) : eqD x x = some true := by
  rw [eqD_nice h h hd hd, decide_eq_true rfl]
end Lp

set_option Elab.async false
set_option linter.all false
set_option maxRecDepth 100000
set_option maxHeartbeats 6400000
/-! C: _law_alike of a value and itself. -/
namespace Lp
open PySem Rf Lw
/-- what is compared at the ends -/
def Leaf (d : D) : Prop := (∃ i, d = .int i) ∨ (∃ b, d = .bl b) ∨ d = .non ∨ ∃ x, d = .str x ∧ PyData.strOk x = true
def ItX : Nat → D → Prop
  | 0, d => Leaf d
  | k + 1, d => Leaf d ∨ ∃ ds, d = .tup ds ∧ ds.length ≤ 1000 ∧ ∀ x ∈ ds, ItX k x
theorem ItX.leaf {k : Nat} {d : D} (h : Leaf d) : ItX k d := by
  cases k with
  | zero => exact h
  | succ k => exact .inl h
theorem ItX.int {k : Nat} (i : Int) : ItX k (.int i) := .leaf (.inl ⟨i, rfl⟩)
theorem ItX.bl {k : Nat} (b : Bool) : ItX k (.bl b) := .leaf (.inr (.inl ⟨b, rfl⟩))
theorem ItX.non {k : Nat} : ItX k .non := .leaf (.inr (.inr (.inl rfl)))
theorem ItX.tup {k : Nat} {ds : List D} (hl : ds.length ≤ 1000) (h : ∀ x ∈ ds, ItX k x) : ItX (k + 1) (.tup ds) := .inr ⟨ds, rfl, hl, h⟩
theorem ItX.ints {k : Nat} (l : List Int) (h : l.length ≤ 1000) : ItX (k + 1) (.tup (iD l)) := .tup (by rw [iD_len]; exact h) fun x hx => by
  obtain ⟨i, _, rfl⟩ := List.mem_map.mp hx
  exact .int i
theorem ItX.brd {k : Nat} (w h : Int) (l : List Int) (hl : l.length ≤ 1000) : ItX (k + 2) (brdD w h l) := .tup (by simp) fun x hx => by
  simp only [List.mem_cons, List.not_mem_nil, or_false] at hx
  rcases hx with rfl | rfl | rfl
  · exact .int w
  · exact .int h
  · exact .ints l hl
theorem ItX.up : ∀ {k : Nat} {d : D}, ItX k d → ItX (k + 1) d
  | 0, _, h => .inl h
  | k + 1, d, h => by
    rcases h with h | ⟨ds, rfl, hl, h⟩
    · exact .inl h
    · exact .tup hl fun x hx => ItX.up (h x hx)
theorem alike_leaf {d : D} (h : Leaf d) (n : Nat) (st : List SObj) : callN Gl (n + 1) 11 [d, d] st = some (.ok (.bl true), st) := by
  rw [c__law_alike]
  rcases h with ⟨i, rfl⟩ | ⟨b, rfl⟩ | rfl | ⟨x, rfl, hx⟩
  · simp [b__law_alike, runFn, evSs, evS, evE.eq_1, evE.eq_2, evE.eq_3, evE.eq_4, evE.eq_5, evE.eq_6, evE.eq_7, evE.eq_8, evE.eq_9, evE.eq_10, evE.eq_11, evE.eq_12, evE.eq_13, evE.eq_14, evE.eq_15, evE.eq_16, evE.eq_17, evE.eq_18, evE.eq_19, evEs, evHs, evT, evC, evO, evI, evW, evP, asg, asgTs_nil, asgTs_cons, asg_tup, frz, setSlot, callR, Sg.fz, Sg.rd, bin, un, cmp, truth, idx, slc, setI, methI, seqI, bcall, isNon, List.mapM_cons, List.mapM_nil, List.length_cons, List.length_nil, List.map_cons, List.map_nil, List.getElem?_cons_zero, List.getElem?_cons_succ, List.set_cons_zero, List.set_cons_succ, List.replicate, List.cons_append, List.nil_append, restore, wipeE, List.foldl_cons, List.foldl_nil, List.getD_cons_zero, List.getD_cons_succ, bools_map, ints_map, eqD_int, eqD_bl, binI_add, binI_sub, binI_and, binI_or]
  · simp [b__law_alike, runFn, evSs, evS, evE.eq_1, evE.eq_2, evE.eq_3, evE.eq_4, evE.eq_5, evE.eq_6, evE.eq_7, evE.eq_8, evE.eq_9, evE.eq_10, evE.eq_11, evE.eq_12, evE.eq_13, evE.eq_14, evE.eq_15, evE.eq_16, evE.eq_17, evE.eq_18, evE.eq_19, evEs, evHs, evT, evC, evO, evI, evW, evP, asg, asgTs_nil, asgTs_cons, asg_tup, frz, setSlot, callR, Sg.fz, Sg.rd, bin, un, cmp, truth, idx, slc, setI, methI, seqI, bcall, isNon, List.mapM_cons, List.mapM_nil, List.length_cons, List.length_nil, List.map_cons, List.map_nil, List.getElem?_cons_zero, List.getElem?_cons_succ, List.set_cons_zero, List.set_cons_succ, List.replicate, List.cons_append, List.nil_append, restore, wipeE, List.foldl_cons, List.foldl_nil, List.getD_cons_zero, List.getD_cons_succ, bools_map, ints_map, eqD_int, eqD_bl, binI_add, binI_sub, binI_and, binI_or]
  · have e : eqD .non .non = some true := eqD_refl' (by rfl) (by decide)
    simp [b__law_alike, runFn, evSs, evS, evE.eq_1, evE.eq_2, evE.eq_3, evE.eq_4, evE.eq_5, evE.eq_6, evE.eq_7, evE.eq_8, evE.eq_9, evE.eq_10, evE.eq_11, evE.eq_12, evE.eq_13, evE.eq_14, evE.eq_15, evE.eq_16, evE.eq_17, evE.eq_18, evE.eq_19, evEs, evHs, evT, evC, evO, evI, evW, evP, asg, asgTs_nil, asgTs_cons, asg_tup, frz, setSlot, callR, Sg.fz, Sg.rd, bin, un, cmp, truth, idx, slc, setI, methI, seqI, bcall, isNon, List.mapM_cons, List.mapM_nil, List.length_cons, List.length_nil, List.map_cons, List.map_nil, List.getElem?_cons_zero, List.getElem?_cons_succ, List.set_cons_zero, List.set_cons_succ, List.replicate, List.cons_append, List.nil_append, restore, wipeE, List.foldl_cons, List.foldl_nil, List.getD_cons_zero, List.getD_cons_succ, bools_map, ints_map, eqD_int, eqD_bl, binI_add, binI_sub, binI_and, binI_or, e]
  · have e : eqD (.str x) (.str x) = some true := eqD_refl' (by simpa [nice] using hx) (by simp [dptD])
    simp [b__law_alike, runFn, evSs, evS, evE.eq_1, evE.eq_2, evE.eq_3, evE.eq_4, evE.eq_5, evE.eq_6, evE.eq_7, evE.eq_8, evE.eq_9, evE.eq_10, evE.eq_11, evE.eq_12, evE.eq_13, evE.eq_14, evE.eq_15, evE.eq_16, evE.eq_17, evE.eq_18, evE.eq_19, evEs, evHs, evT, evC, evO, evI, evW, evP, asg, asgTs_nil, asgTs_cons, asg_tup, frz, setSlot, callR, Sg.fz, Sg.rd, bin, un, cmp, truth, idx, slc, setI, methI, seqI, bcall, isNon, List.mapM_cons, List.mapM_nil, List.length_cons, List.length_nil, List.map_cons, List.map_nil, List.getElem?_cons_zero, List.getElem?_cons_succ, List.set_cons_zero, List.set_cons_succ, List.replicate, List.cons_append, List.nil_append, restore, wipeE, List.foldl_cons, List.foldl_nil, List.getD_cons_zero, List.getD_cons_succ, bools_map, ints_map, eqD_int, eqD_bl, binI_add, binI_sub, binI_and, binI_or, e]
theorem alikeX : ∀ (k : Nat) (d : D), ItX k d → ∀ (n : Nat) (st : List SObj), callN Gl (n + k + 1) 11 [d, d] st = some (.ok (.bl true), st)
  | 0, d, h, n, st => alike_leaf h n st
  | k + 1, d, h, n, st => by
    rcases h with h | ⟨ds, rfl, hl, h⟩
    · exact alike_leaf h (n + (k + 1)) st
    · rw [c__law_alike]
      have hr := rangeI_nat (k := ds.length) (by omega)
      have hc := comp_pure (cl := callN Gl (n + (k + 1))) (vs := [2]) (elt := .var 2) (t := .name 2) (it := .range [.bcall .len [.var 1]]) (c := some (.not (.e (.call 11 [.idx (.var 0) (.var 2), .idx (.var 1) (.var 2)])))) (ds := (List.range ds.length).map fun i => D.int (i : Nat)) (o := none)
        (s := ⟨[.val (.tup ds), .val (.tup ds), .un], st⟩) (s1 := ⟨[.val (.tup ds), .val (.tup ds), .un], st⟩)
        (f := fun _ => none) (by simp [runFn, evSs, evS, evE.eq_1, evE.eq_2, evE.eq_3, evE.eq_4, evE.eq_5, evE.eq_6, evE.eq_7, evE.eq_8, evE.eq_9, evE.eq_10, evE.eq_11, evE.eq_12, evE.eq_13, evE.eq_14, evE.eq_15, evE.eq_16, evE.eq_17, evE.eq_18, evE.eq_19, evEs, evHs, evT, evC, evO, evI, evW, evP, asg, asgTs_nil, asgTs_cons, asg_tup, frz, setSlot, callR, Sg.fz, Sg.rd, bin, un, cmp, truth, idx, slc, setI, methI, seqI, bcall, isNon, List.mapM_cons, List.mapM_nil, List.length_cons, List.length_nil, List.map_cons, List.map_nil, List.getElem?_cons_zero, List.getElem?_cons_succ, List.set_cons_zero, List.set_cons_succ, List.replicate, List.cons_append, List.nil_append, restore, wipeE, List.foldl_cons, List.foldl_nil, List.getD_cons_zero, List.getD_cons_succ, bools_map, ints_map, eqD_int, eqD_bl, binI_add, binI_sub, binI_and, binI_or, hr]) rfl
        (fun d hd => by
          obtain ⟨i, hi, rfl⟩ := List.mem_map.mp hd
          have hi := List.mem_range.mp hi
          have ha := alikeX k ds[i] (h _ (List.getElem_mem hi)) n st
          have hix : ((ixNat ds.length ((i : Nat) : Int)).bind fun j => ds[j]?) = some ds[i] := by
            unfold ixNat
            rw [if_pos (by omega), if_pos (by omega), Option.bind_some, Int.toNat_natCast, List.getElem?_eq_getElem hi]
          rw [show n + k + 1 = n + (k + 1) from rfl] at ha
          simp [-List.getElem?_eq_getElem, turnC, runFn, evSs, evS, evE.eq_1, evE.eq_2, evE.eq_3, evE.eq_4, evE.eq_5, evE.eq_6, evE.eq_7, evE.eq_8, evE.eq_9, evE.eq_10, evE.eq_11, evE.eq_12, evE.eq_13, evE.eq_14, evE.eq_15, evE.eq_16, evE.eq_17, evE.eq_18, evE.eq_19, evEs, evHs, evT, evC, evO, evI, evW, evP, asg, asgTs_nil, asgTs_cons, asg_tup, frz, setSlot, callR, Sg.fz, Sg.rd, bin, un, cmp, truth, idx, slc, setI, methI, seqI, bcall, isNon, List.mapM_cons, List.mapM_nil, List.length_cons, List.length_nil, List.map_cons, List.map_nil, List.getElem?_cons_zero, List.getElem?_cons_succ, List.set_cons_zero, List.set_cons_succ, List.replicate, List.cons_append, List.nil_append, restore, wipeE, List.foldl_cons, List.foldl_nil, List.getD_cons_zero, List.getD_cons_succ, bools_map, ints_map, eqD_int, eqD_bl, binI_add, binI_sub, binI_and, binI_or, hix, ha]) (by rw [sizeLine_eq, List.length_map, List.length_range]; omega)
      have e : ((List.range ds.length).map fun i => D.int (i : Nat)).filterMap (fun _ => (none : Option D)) = [] := by
        simp
      rw [e] at hc
      simp [b__law_alike, runFn, evSs, evS, evE.eq_1, evE.eq_2, evE.eq_3, evE.eq_4, evE.eq_5, evE.eq_6, evE.eq_7, evE.eq_8, evE.eq_9, evE.eq_10, evE.eq_11, evE.eq_12, evE.eq_13, evE.eq_14, evE.eq_15, evE.eq_16, evE.eq_17, evE.eq_18, evE.eq_19, evEs, evHs, evT, evC, evO, evI, evW, evP, asg, asgTs_nil, asgTs_cons, asg_tup, frz, setSlot, callR, Sg.fz, Sg.rd, bin, un, cmp, truth, idx, slc, setI, methI, seqI, bcall, isNon, List.mapM_cons, List.mapM_nil, List.length_cons, List.length_nil, List.map_cons, List.map_nil, List.getElem?_cons_zero, List.getElem?_cons_succ, List.set_cons_zero, List.set_cons_succ, List.replicate, List.cons_append, List.nil_append, restore, wipeE, List.foldl_cons, List.foldl_nil, List.getD_cons_zero, List.getD_cons_succ, bools_map, ints_map, eqD_int, eqD_bl, binI_add, binI_sub, binI_and, binI_or, hc, eqD_nil]
end Lp

set_option Elab.async false
set_option linter.all false
set_option maxRecDepth 100000
set_option maxHeartbeats 6400000
/-! K02: boards as lines. -/
namespace Lp
open PySem Rf Lw
abbrev SG : Str := ⟨#[46, 49, 50, 51, 52, 53, 54, 55, 56, 57, 97, 98, 99, 100, 101, 102]⟩
abbrev NL : Str := ⟨#[10]⟩
abbrev EM : Str := ⟨#[]⟩
def sgnI (c : Int) : Str := ⟨#[SG.cps.getD c.toNat 0]⟩
def lnS (w : Nat) (cells : List Int) (k : Nat) : Str := Txt.join EM (((cells.drop (k * w)).take w).map sgnI)
def txS (w h : Nat) (cells : List Int) : Str := Txt.join NL ((List.range h).map (lnS w cells))
theorem cut_mid {α : Type} (l : List α) {a b : Nat} (h1 : a ≤ b) (h2 : b ≤ l.length) : cut l (some (a : Int)) (some (b : Int)) = (l.drop a).take (b - a) := by
  unfold cut
  rw [HT.sIx_nat, HT.sIx_nat, Nat.min_eq_left h2, Nat.min_eq_left (show a ≤ l.length by omega)]
theorem sg_idx {c : Int} (h0 : 0 ≤ c) (h1 : c < 16) (sto : List SObj) : idx sto (.str SG) (.int c) = some (.str (sgnI c)) := by
  have z : SG.length ≤ sizeLine := by
    have := sizeLine_eq
    show 16 ≤ sizeLine
    omega
  have key : ∀ c : Fin 16, ((ixNat SG.cps.toList.length (c.val : Int)).bind fun j => (SG.cps.toList[j]?).map fun x => D.str ⟨#[x]⟩) = some (.str (sgnI (c.val : Int))) := by
    intro c
    have hx : ixNat SG.cps.toList.length (c.val : Int) = some c.val := ixNat_lt (by show c.val < 16; exact c.isLt)
    rw [hx]
    have : ∀ c : Fin 16, SG.cps.toList[c.val]? = some (SG.cps.getD c.val 0) := by decide +kernel
    show (SG.cps.toList[c.val]?).map _ = _
    rw [this]
    rfl
  show (if SG.length ≤ sizeLine then ((ixNat SG.cps.toList.length c).bind fun j => (SG.cps.toList[j]?).map fun x => D.str ⟨#[x]⟩) else none) = _
  rw [if_pos z]
  have := key ⟨c.toNat, by omega⟩
  simp only [Int.toNat_of_nonneg h0] at this
  exact this
theorem strs_of {α : Type} (f : α → Str) : ∀ l : List α, strsOf (l.map fun x => D.str (f x)) = some (l.map f)
  | [] => rfl
  | a :: l => by
    show (strsOf (l.map fun x => D.str (f x))).map (f a :: ·) = _
    rw [strs_of f l]
    rfl
theorem sum_one {α : Type} (f : α → Str) {k : Nat} (h : ∀ a, (f a).length ≤ k) : ∀ l : List α, ((l.map f).map (·.length)).sum ≤ l.length * k
  | [] => by simp
  | a :: l => by
    have := sum_one f h l
    have := h a
    simp only [List.map_cons, List.sum_cons, List.length_cons, Nat.add_mul, Nat.one_mul] at *
    omega
theorem sgn_len (c : Int) : (sgnI c).length = 1 := rfl
theorem ln_len {w : Nat} {cells : List Int} {k : Nat} : (lnS w cells k).length ≤ w := by
  unfold lnS
  show (Builtin.Str.glued EM _).length ≤ w
  rw [size_glued]
  have := sum_one sgnI (k := 1) (fun c => Nat.le_refl _) ((cells.drop (k * w)).take w)
  have h2 : ((cells.drop (k * w)).take w).length ≤ w := by rw [List.length_take]; omega
  have h3 : EM.length = 0 := rfl
  rw [h3]
  omega
/-- the join of one line -/
theorem join_line {w : Nat} {cells : List Int} {k : Nat} (hw : w ≤ 8) : smethI .join EM (.lst (((cells.drop (k * w)).take w).map fun c => D.str (sgnI c))) = some (.d (.str (lnS w cells k))) := by
  show ((strsOf _).bind fun ys => _) = _
  rw [strs_of]
  have := sum_one sgnI (k := 1) (fun c => Nat.le_refl _) ((cells.drop (k * w)).take w)
  have h2 : ((cells.drop (k * w)).take w).length ≤ w := by rw [List.length_take]; omega
  have h3 : EM.length = 0 := rfl
  rw [Option.bind_some, if_pos (by rw [h3]; omega)]
  rfl
theorem join_text {w h : Nat} {cells : List Int} (hw : w ≤ 8) (hh : h ≤ 8) : smethI .join NL (.lst ((List.range h).map fun k => D.str (lnS w cells k))) = some (.d (.str (txS w h cells))) := by
  show ((strsOf _).bind fun ys => _) = _
  rw [strs_of]
  have := sum_one (lnS w cells) (k := w) (fun c => ln_len) (List.range h)
  have h3 : NL.length = 1 := rfl
  rw [List.length_range] at this
  have h4 : h * w ≤ 8 * 8 := Nat.mul_le_mul hh hw
  rw [Option.bind_some, if_pos (by rw [h3, List.length_map, List.length_range]; omega)]
  rfl
section
variable {ways : List (Int × Int)} {rule : List Int} {wide high : Int} {cells : List Int} {n : Nat} {st : List SObj}
def drC : E := match b_drawn with
  | [_, _, .ret (some (.smeth _ _ e))] => e
  | _ => .lit .non
def drI : E := match drC with
  | .comp _ (.smeth _ _ e) _ _ _ => e
  | _ => .lit .non
def drE (t b : D) (w h : Nat) (cells : List Int) (a : Rf.Slot) (st : List SObj) : Sg := ⟨[.val t, .val b, .val (.int (w : Nat)), .val (.int (h : Nat)), .val (.tup (iD cells)), a, .un], st⟩
theorem iD_cut (l : List Int) (a b : Nat) : ((iD l).drop a).take b = ((l.drop a).take b).map D.int := by
  unfold iD
  rw [← List.map_drop, ← List.map_take]
theorem dr_in {cl : Call} (t b : D) {w h k : Nat} (hw : w ≤ 8) (hk : k < h) (hl : cells.length = w * h) (hr : ∀ c ∈ cells, 0 ≤ c ∧ c < 16) : evE cl drI (drE t b w h cells (.val (.int (k : Nat))) st) = some (.ok (.own (((cells.drop (k * w)).take w).map fun c => D.str (sgnI c))), drE t b w h cells (.val (.int (k : Nat))) st) := by
  have e : drI = .comp [6] (.idx (.lit (.str SG)) (.var 6)) (.name 6) (.seq (.slc (.var 4) (some (.bin .Mult (.var 5) (.var 2))) (some (.bin .Add (.bin .Mult (.var 5) (.var 2)) (.var 2))))) none := rfl
  have hm : binI .Mult (k : Nat) (w : Nat) = some ((k * w : Nat) : Int) := by
    rw [binI_mul (.inr ⟨by omega, by omega⟩)]
    congr 1
  have hle : k * w + w ≤ cells.length := by
    rw [hl]
    have := Nat.mul_le_mul_right w (show k + 1 ≤ h by omega)
    rw [Nat.add_mul, Nat.one_mul, Nat.mul_comm h w] at this
    exact this
  have hc := cut_mid (iD cells) (a := k * w) (b := k * w + w) (by omega) (by rw [iD_len]; exact hle)
  rw [Nat.add_sub_cancel_left, iD_cut] at hc
  have hs : slc (.tup (iD cells)) (some ((k * w : Nat) : Int)) (some (((k * w : Nat) : Int) + (w : Nat))) = some (.d (.tup (((cells.drop (k * w)).take w).map D.int))) := by
    show some (Hd.d (.tup (cut (iD cells) _ _))) = _
    have e3 : ((k * w : Nat) : Int) + (w : Nat) = ((k * w + w : Nat) : Int) := by omega
    rw [e3, hc]
  have hit : evW cl (.seq (.slc (.var 4) (some (.bin .Mult (.var 5) (.var 2))) (some (.bin .Add (.bin .Mult (.var 5) (.var 2)) (.var 2))))) (drE t b w h cells (.val (.int (k : Nat))) st) = some (.ok (((cells.drop (k * w)).take w).map D.int, none), drE t b w h cells (.val (.int (k : Nat))) st) := by
    generalize ((cells.drop (k * w)).take w).map D.int = us at *
    unfold drE
    clear hle hl hc
    generalize iD cells = ds at *
    generalize k * w = kw at *
    simp [evW, evO, evE.eq_1, evE.eq_3, evE.eq_14, frz, Sg.fz, Sg.rd, bin, binI_add, hm, hs, seqI]
  have := comp_map (cl := cl) (vs := [6]) (elt := .idx (.lit (.str SG)) (.var 6)) (t := .name 6) ((cells.drop (k * w)).take w) D.int (fun c => D.str (sgnI c)) hit rfl (fun c hc => by
    obtain ⟨c0, c1⟩ := hr c (List.mem_of_mem_drop (List.mem_of_mem_take hc))
    have hx := sg_idx c0 c1 st
    generalize SG = sg at *
    generalize iD cells = ds at *
    simp [drE, turnC, asg, evC, evE.eq_1, evE.eq_2, evE.eq_13, frz, Sg.fz, Sg.rd, wipeE, hx]) (by rw [sizeLine_eq, List.length_take]; omega)
  rw [e]
  exact this
theorem dr_all {cl : Call} (t b : D) {w h : Nat} (hw : w ≤ 8) (hh : h ≤ 8) (hl : cells.length = w * h) (hr : ∀ c ∈ cells, 0 ≤ c ∧ c < 16) : evE cl (.smeth .join (.lit (.str NL)) drC) (drE t b w h cells .un st) = some (.ok (.d (.str (txS w h cells))), drE t b w h cells .un st) := by
  have hrg := rangeI_nat (k := h) (by omega)
  have ec : drC = .comp [5] (.smeth .join (.lit (.str EM)) drI) (.name 5) (.range [.var 3]) none := rfl
  have hit : evW cl (.range [.var 3]) (drE t b w h cells .un st) = some (.ok ((List.range h).map (fun (i : Nat) => D.int (i : Nat)), none), drE t b w h cells .un st) := by
    simp [drE, evW, evEs, evE.eq_1, frz, Sg.fz, hrg]
  have := comp_map (cl := cl) (vs := [5]) (elt := .smeth .join (.lit (.str EM)) drI) (t := .name 5) (List.range h) (fun (i : Nat) => D.int (i : Nat)) (fun k => D.str (lnS w cells k)) hit rfl (fun k hk => by
    have hi := dr_in (cl := cl) (st := st) t b hw (List.mem_range.mp hk) hl hr
    have hj := join_line (cells := cells) (k := k) hw
    have ha : asg cl (.name 5) (D.int (k : Nat)) ⟨wipeE [5] (drE t b w h cells .un st).env, (drE t b w h cells .un st).sto⟩ = some (.ok (), drE t b w h cells (.val (.int (k : Nat))) st) := by simp [asg, drE, wipeE]
    unfold turnC
    rw [if_pos (heldB_none _ _), ha]
    simp only [bnd_ok, evC, okk, if_true]
    rw [frz, evE.eq_23]
    simp only [evE.eq_2, okk, bnd_ok]
    rw [hi]
    simp only [bnd_ok, Sg.rd, Option.bind_some]
    rw [hj]
    simp only [opt_some, bnd_ok, Sg.fz, okk, nox_ok]
    rfl) (by rw [sizeLine_eq, List.length_range]; omega)
  have hj := join_text (cells := cells) hw hh
  rw [evE.eq_23]
  simp only [evE.eq_2, okk, bnd_ok]
  rw [ec, this]
  simp only [bnd_ok, Sg.rd, Option.bind_some]
  rw [hj]
  rfl
theorem brd_nat {m : Nat} (b : BrdOk m wide high cells) : ∃ w h : Nat, wide = (w : Int) ∧ high = (h : Int) ∧ 1 ≤ w ∧ w ≤ 8 ∧ 1 ≤ h ∧ h ≤ 8 ∧ cells.length = w * h := by
  have w1 := b.w1
  have w8 := b.w8
  have h1 := b.h1
  have h8 := b.h8
  have hl := b.len
  refine ⟨wide.toNat, high.toNat, by omega, by omega, by omega, by omega, by omega, by omega, ?_⟩
  have e : ((wide.toNat * high.toNat : Nat) : Int) = wide * high := by
    rw [Int.natCast_mul, Int.toNat_of_nonneg (by omega), Int.toNat_of_nonneg (by omega)]
  omega
theorem drawn (h : TabOk ways rule) (b : BrdOk ways.length wide high cells) (n : Nat) (st : List SObj) : callN Gl (n + 6) 6 [tabD ways rule, brdD wide high cells] st = some (.ok (.str (txS wide.toNat high.toNat cells)), st) := by
  rw [c_drawn]
  have nb := need_board h b n st
  have h16 := pow_le h.l4
  have hcast : (2 ^ ways.length : Int) = ((2 ^ ways.length : Nat) : Int) := by simp
  have hr : ∀ c ∈ cells, 0 ≤ c ∧ c < 16 := fun c hc => by
    have := b.rng c hc
    omega
  obtain ⟨w, hi, rfl, rfl, w1, w8, h1, h8, hl⟩ := brd_nat b
  have e := dr_all (cl := callN Gl (n + 5)) (st := st) (tabD ways rule) (brdD (w : Int) (hi : Int) cells) w8 h8 hl hr
  have eb : b_drawn = b_drawn.take 2 ++ [.ret (some (.smeth .join (.lit (.str NL)) drC))] := rfl
  have e0 : evSs (callN Gl (n + 5)) (b_drawn.take 2) ⟨[.val (tabD ways rule), .val (brdD (w : Int) (hi : Int) cells), .un, .un, .un, .un, .un], st⟩ = some (.nx, drE (tabD ways rule) (brdD (w : Int) (hi : Int) cells) w hi cells .un st) := by
    have hbd : brdD (w : Int) (hi : Int) cells = .tup [.int (w : Int), .int (hi : Int), .tup (iD cells)] := rfl
    rw [hbd] at nb ⊢
    simp [b_drawn, drE, evSs, evS, asg, asg_tup, asgTs_cons, asgTs_nil, evE.eq_1, evE.eq_15, evEs, frz, Sg.fz, callR, nb]
  refine runFn_rt rfl rfl ⟨drE (tabD ways rule) (brdD (w : Int) (hi : Int) cells) w hi cells .un st, ?_, rfl⟩
  show evSs (callN Gl (n + 5)) b_drawn ⟨[.val (tabD ways rule), .val (brdD (w : Int) (hi : Int) cells), .un, .un, .un, .un, .un], st⟩ = _
  rw [eb, evSs_app, e0, seqF_nx, evSs_cons, evS, frz, e]
  simp only [Int.toNat_natCast]
  simp [Sg.fz]
end
end Lp

set_option Elab.async false
set_option linter.all false
set_option maxRecDepth 100000
set_option maxHeartbeats 6400000
/-! K02b: lines read, by the program. -/
namespace Lp
open PySem Rf Lw
/-- a sign's number, or -1 -/
def vS (c : Nat) : Int := Txt.find SG ⟨#[c]⟩
theorem occ_cases (c : Nat) : (Builtin.Str.occurrences SG ⟨#[c]⟩ 0 SG.length 1 = [] ∧ vS c = -1) ∨ ∃ (i : Nat) (r : List Nat), Builtin.Str.occurrences SG ⟨#[c]⟩ 0 SG.length 1 = i :: r ∧ vS c = (i : Int) := by
  unfold vS Txt.find
  cases h : Builtin.Str.occurrences SG ⟨#[c]⟩ 0 SG.length 1 with
  | nil => exact .inl ⟨rfl, rfl⟩
  | cons i r => exact .inr ⟨i, r, rfl, rfl⟩
abbrev lsX (x : Str) : List Str := Txt.split x NL
def szB (ls : List Str) : Bool := match ls with
  | [] => false
  | l :: r => decide (1 ≤ l.length ∧ l.length ≤ 8) && (decide ((l :: r).length ≤ 8) && (l :: r).all fun y => decide (y.length = l.length))
def chS (y : Str) : List Int := y.cps.toList.map vS
def vsL (ls : List Str) : List Int := ls.flatMap chS
def okV (W : Nat) (v : Int) : Bool := decide (0 ≤ v ∧ v < 2 ^ W)
def sgB (W : Nat) (ls : List Str) : Bool := (vsL ls).all (okV W)
def rdD (W : Nat) (ls : List Str) : D := if (szB ls && sgB W ls) = true then .tup [.int ((ls.headD EM).length : Nat), .int (ls.length : Nat), .tup (iD (vsL ls))] else .non
theorem any_bl {α : Type} (f : α → Bool) (l : List α) : bcall .any [.lst (l.map fun x => D.bl (f x))] = some (.d (.bl (l.any f))) := by
  show (match bools (l.map fun x => D.bl (f x)) with
    | some bs => some (Hd.d (.bl (List.any bs id)))
    | none => _) = _
  rw [bools_map]
  simp [List.any_map, Function.comp_def]
theorem min_bc {l : List Int} (h : l ≠ []) : ∃ m, bcall .min1 [.lst (iD l)] = some (.d (.int m)) ∧ m ∈ l ∧ ∀ x ∈ l, m ≤ x := by
  cases q : l.min? with
  | none => exact absurd (List.min?_eq_none_iff.mp q) h
  | some m =>
    obtain ⟨h1, h2⟩ := List.min?_eq_some_iff.mp q
    refine ⟨m, ?_, h1, h2⟩
    show (match intsOf (iD l) with
      | some bs => bs.min?.map fun k => Hd.d (.int k)
      | none => (minDD (iD l)).map Hd.d) = _
    rw [ints_iD]
    show (l.min?.map fun k => Hd.d (.int k)) = _
    rw [q]
    rfl
theorem max_bc {l : List Int} (h : l ≠ []) : ∃ m, bcall .max1 [.lst (iD l)] = some (.d (.int m)) ∧ m ∈ l ∧ ∀ x ∈ l, x ≤ m := by
  cases q : l.max? with
  | none => exact absurd (List.max?_eq_none_iff.mp q) h
  | some m =>
    obtain ⟨h1, h2⟩ := List.max?_eq_some_iff.mp q
    refine ⟨m, ?_, h1, h2⟩
    show ((intsOf (iD l)).bind fun bs => bs.max?.map fun k => Hd.d (.int k)) = _
    rw [ints_iD, Option.bind_some, q]
    rfl
theorem min_max {l : List Int} {m M : Int} {W : Nat} (h1 : m ∈ l) (h2 : ∀ x ∈ l, m ≤ x) (h3 : M ∈ l) (h4 : ∀ x ∈ l, x ≤ M) : (decide (m < 0) || decide ((2 ^ W : Int) ≤ M)) = !l.all (okV W) := by
  by_cases q : l.all (okV W) = true
  · rw [q]
    have a := List.all_eq_true.mp q m h1
    have b := List.all_eq_true.mp q M h3
    simp only [okV, decide_eq_true_eq] at a b
    rw [decide_eq_false (by omega), decide_eq_false (by omega)]
    rfl
  · have q' : l.all (okV W) = false := by simpa using q
    rw [q']
    by_cases z : m < 0
    · rw [decide_eq_true z]
      rfl
    · by_cases z2 : (2 ^ W : Int) ≤ M
      · rw [decide_eq_true z2, Bool.or_true]
        rfl
      · refine absurd (List.all_eq_true.mpr fun x hx => ?_) q
        have := h2 x hx
        have := h4 x hx
        simp only [okV, decide_eq_true_eq]
        omega
section
variable {ways : List (Int × Int)} {rule : List Int} {n : Nat} {st : List SObj}
theorem ls_le (x : Str) : (lsX x).length ≤ x.length + 2 := PyProof.Rows.split_le x NL
theorem ls_pos (x : Str) : 1 ≤ (lsX x).length := PyProof.Rows.split_pos x NL
theorem ls_part {x y : Str} (h : y ∈ lsX x) : y.length ≤ x.length := PyProof.Rows.part_short h
theorem split_ev {x : Str} (hx : x.length ≤ 1000) : smethI .split x (.str NL) = some (.own ((lsX x).map D.str)) := by
  have : (Txt.split x NL).length ≤ x.length + 2 := ls_le x
  have hz := sizeLine_eq
  show (if (NL.length == 0) = false ∧ x.length + 2 ≤ sizeLine ∧ (Txt.split x NL).length ≤ sizeLine then _ else _) = _
  rw [if_pos ⟨rfl, by omega, by omega⟩]
theorem len_str {y : Str} (h : y.length ≤ 1000) : bcall .len [.str y] = some (.d (.int (y.length : Nat))) := by
  have := sizeLine_eq
  show (if y.length ≤ sizeLine then _ else _) = _
  rw [if_pos (by omega)]
theorem vsL_len {x : Str} (hx : x.length ≤ 1000) (k : Nat) : (vsL ((lsX x).take k)).length ≤ 1100000 := by
  have h1 := ls_le x
  have h2 : ((lsX x).take k).length ≤ (lsX x).length := by rw [List.length_take]; omega
  have key : ∀ l : List Str, (∀ y ∈ l, y.length ≤ 1000) → (vsL l).length ≤ l.length * 1000 := by
    intro l
    induction l with
    | nil => intro _; simp [vsL]
    | cons a l ih =>
      intro h
      have e1 := ih fun y hy => h y (by simp [hy])
      have e2 := h a (by simp)
      have e3 : (chS a).length = a.length := by
        unfold chS
        rw [List.length_map, Array.length_toList]
        rfl
      show (chS a ++ vsL l).length ≤ _
      rw [List.length_append, e3, List.length_cons, Nat.add_mul, Nat.one_mul]
      omega
  have := key ((lsX x).take k) fun y hy => Nat.le_trans (ls_part (List.mem_of_mem_take hy)) hx
  omega
def rbE (t : D) (x : Str) (c2 c3 c4 c5 c6 : Rf.Slot) (st : List SObj) : Sg := ⟨[.val t, .val (.str x), c2, c3, c4, c5, c6, .un], st⟩
def rbC : T := match b_read_board with
  | [_, _, _, _, .ife c _ _, _, _, _, _] => c
  | _ => .e (.lit .non)
def rbB : List S := match b_read_board with
  | [_, _, _, _, _, _, .loop _ _ b, _, _] => b
  | _ => []
def rbF : E := match rbB with
  | [.expr (.meth _ _ [e])] => e
  | _ => .lit .non
theorem rb_cond {cl : Call} (t : D) {x : Str} (hx : x.length ≤ 1000) {l : Str} {r : List Str} (hl : lsX x = l :: r) (c6 : Rf.Slot) : evT cl rbC (rbE t x (.own ((lsX x).map D.str)) .un .un (.val (.int (l.length : Nat))) c6 st) = some (.ok (!szB (lsX x)), rbE t x (.own ((lsX x).map D.str)) .un .un (.val (.int (l.length : Nat))) c6 st) := by
  have e : rbC = .or (.not (.e (.chain .LtE .LtE (.lit (.int 1)) (.var 5) (.lit (.int 8))))) (.or (.e (.cmp .Gt (.bcall .len [.var 2]) (.lit (.int 8)))) (.e (.bcall .any [.comp [4] (.cmp .NotEq (.bcall .len [.var 4]) (.var 5)) (.name 4) (.seq (.var 2)) none]))) := rfl
  have hle := ls_le x
  have hc := comp_map (cl := cl) (vs := [4]) (elt := .cmp .NotEq (.bcall .len [.var 4]) (.var 5)) (t := .name 4) (it := .seq (.var 2)) (s := rbE t x (.own ((lsX x).map D.str)) .un .un (.val (.int (l.length : Nat))) c6 st) (s1 := rbE t x (.own ((lsX x).map D.str)) .un .un (.val (.int (l.length : Nat))) c6 st) (o := some 2) (lsX x) D.str (fun y => D.bl (!decide (y.length = l.length)))
    (by simp [rbE, evW, evE.eq_1]) (heldB_some rfl) (fun y hy => by
      have hh : heldB (some 2) ((lsX x).map D.str) ⟨wipeE [4] (rbE t x (.own ((lsX x).map D.str)) .un .un (.val (.int (l.length : Nat))) c6 st).env, st⟩ = true := heldB_some rfl
      have hy1 := len_str (y := y) (Nat.le_trans (ls_part hy) hx)
      have e2 : eqD (.int (y.length : Nat)) (.int (l.length : Nat)) = some (decide (y.length = l.length)) := by
        rw [eqD_int]
        congr 1
        exact decide_eq_decide.mpr (by omega)
      unfold turnC
      refine Eq.trans (if_pos hh) ?_
      generalize (lsX x).map D.str = us at *
      simp [rbE, asg, evC, evE.eq_1, evE.eq_5, evE.eq_17, evHs, frz, Sg.fz, Sg.rd, cmp, wipeE, hy1, e2]) (by rw [sizeLine_eq]; omega)
  have hrest : (⟨restore [4] (rbE t x (.own ((lsX x).map D.str)) .un .un (.val (.int (l.length : Nat))) c6 st).env (wipeE [4] (rbE t x (.own ((lsX x).map D.str)) .un .un (.val (.int (l.length : Nat))) c6 st).env), (rbE t x (.own ((lsX x).map D.str)) .un .un (.val (.int (l.length : Nat))) c6 st).sto⟩ : Sg) = rbE t x (.own ((lsX x).map D.str)) .un .un (.val (.int (l.length : Nat))) c6 st := rfl
  have hc' := Eq.trans hc (congrArg some (congrArg (Prod.mk _) hrest))
  have ha := any_bl (fun y : Str => !decide (y.length = l.length)) (lsX x)
  have hlen : bcall .len [.lst ((lsX x).map D.str)] = some (.d (.int ((lsX x).length : Nat))) := by simp [bcall]
  have hsz : szB (lsX x) = (decide (1 ≤ l.length ∧ l.length ≤ 8) && (decide ((lsX x).length ≤ 8) && (lsX x).all fun y => decide (y.length = l.length))) := by
    rw [hl]
    rfl
  have hany : ((lsX x).any fun y => !decide (y.length = l.length)) = !((lsX x).all fun y => decide (y.length = l.length)) := by
    rw [List.not_all_eq_any_not]
  rw [hany] at ha
  rw [hsz]
  generalize (lsX x).all (fun y => decide (y.length = l.length)) = bb at *
  generalize hN : (lsX x).length = N at *
  generalize (lsX x).map (fun y : Str => D.bl (!decide (y.length = l.length))) = vs at *
  generalize hUs : (lsX x).map D.str = us at *
  generalize hL : l.length = L at *
  rw [e]
  generalize hEC : E.comp [4] (.cmp .NotEq (.bcall .len [.var 4]) (.var 5)) (.name 4) (.seq (.var 2)) none = EC at *
  simp only [rbE] at hc' ⊢
  by_cases z1 : 1 ≤ L
  · by_cases z2 : L ≤ 8
    · by_cases z3 : N ≤ 8
      · have z3' : ¬ (8 : Int) < (N : Nat) := by omega
        simp [evT, evE.eq_1, evE.eq_2, evE.eq_5, evE.eq_6, evE.eq_17, evHs, Sg.rd, cmp, truth, hc', ha, hlen, z1, z2, z3, z3', show (1 : Int) ≤ (L : Nat) by omega, show ((L : Nat) : Int) ≤ 8 by omega]
      · have z3' : (8 : Int) < (N : Nat) := by omega
        simp [evT, evE.eq_1, evE.eq_2, evE.eq_5, evE.eq_6, evE.eq_17, evHs, Sg.rd, cmp, truth, hlen, z1, z2, z3, z3', show (1 : Int) ≤ (L : Nat) by omega, show ((L : Nat) : Int) ≤ 8 by omega]
    · simp [evT, evE.eq_1, evE.eq_2, evE.eq_6, Sg.rd, cmp, truth, z2, show (1 : Int) ≤ (L : Nat) by omega, show ¬ ((L : Nat) : Int) ≤ 8 by omega]
  · simp [evT, evE.eq_1, evE.eq_2, evE.eq_6, Sg.rd, cmp, truth, z1, show ¬ (1 : Int) ≤ (L : Nat) by omega]
end
end Lp

set_option Elab.async false
set_option linter.all false
set_option maxRecDepth 100000
set_option maxHeartbeats 6400000
/-! K02c: lines read, by the program: the whole. -/
namespace Lp
open PySem Rf Lw
section
variable {ways : List (Int × Int)} {rule : List Int} {n : Nat} {st : List SObj}
abbrev chD (c : Nat) : D := .str ⟨#[c]⟩
theorem ch_len (y : Str) : (chS y).length = y.length := by
  unfold chS
  rw [List.length_map, Array.length_toList]
  rfl
theorem rb_fill {cl : Call} (t : D) (x : Str) {y : Str} (hy : y.length ≤ 1000) (c2 c3 c5 c6 : Rf.Slot) : evE cl rbF (rbE t x c2 c3 (.val (.str y)) c5 c6 st) = some (.ok (.own (iD (chS y))), rbE t x c2 c3 (.val (.str y)) c5 c6 st) := by
  have e : rbF = .comp [7] (.smeth .find (.lit (.str SG)) (.var 7)) (.name 7) (.seq (.var 4)) none := rfl
  have hit : evW cl (.seq (.var 4)) (rbE t x c2 c3 (.val (.str y)) c5 c6 st) = some (.ok (y.cps.toList.map chD, none), rbE t x c2 c3 (.val (.str y)) c5 c6 st) := by
    simp [rbE, evW, evE.eq_1, Sg.fz, seqI]
  have := comp_map (cl := cl) (vs := [7]) (elt := .smeth .find (.lit (.str SG)) (.var 7)) (t := .name 7) y.cps.toList chD (fun c => D.int (vS c)) hit rfl (fun c _ => by
    have hf : smethI .find SG (chD c) = some (.d (.int (vS c))) := rfl
    generalize SG = sg at *
    generalize vS c = v at *
    simp [rbE, turnC, asg, evC, evE.eq_1, evE.eq_2, evE.eq_23, frz, Sg.fz, Sg.rd, wipeE, hf]) (by
      rw [sizeLine_eq, Array.length_toList]
      have : y.cps.size ≤ 1000 := hy
      omega)
  rw [e]
  refine Eq.trans this ?_
  have e2 : (y.cps.toList.map fun c => D.int (vS c)) = iD (chS y) := by
    unfold iD chS
    rw [List.map_map]
    rfl
  rw [e2]
  rfl
theorem rb_loop {cl : Call} (t : D) {x : Str} (hx : x.length ≤ 1000) (c5 c6 : Rf.Slot) : ∃ c4, evS cl (.loop (.name 4) (.seq (.var 2)) rbB) (rbE t x (.own ((lsX x).map D.str)) (.own []) .un c5 c6 st) = some (.nx, rbE t x (.val (.lst ((lsX x).map D.str))) (.own (iD (vsL (lsX x)))) c4 c5 c6 st) := by
  have ei : evI cl (.seq (.var 2)) (rbE t x (.own ((lsX x).map D.str)) (.own []) .un c5 c6 st) = some (.ok ((lsX x).map D.str), rbE t x (.val (.lst ((lsX x).map D.str))) (.own []) .un c5 c6 st) := by
    generalize (lsX x).map D.str = us
    simp [rbE, evI, evE.eq_1, frz, Sg.fz, seqI]
  obtain ⟨s', e, c4, rfl⟩ := loop_inv (turn := fun d s2 => bndF (asg cl (.name 4) d s2) fun _ s3 => evSs cl rbB s3) (lsX x) D.str (fun i s => ∃ c4, s = rbE t x (.val (.lst ((lsX x).map D.str))) (.own (iD (vsL ((lsX x).take i)))) c4 c5 c6 st)
    (s := rbE t x (.val (.lst ((lsX x).map D.str))) (.own []) .un c5 c6 st) ⟨.un, rfl⟩ (fun i y s ha hs => by
      obtain ⟨c4, rfl⟩ := hs
      have hy := Nat.le_trans (ls_part (List.mem_of_getElem? ha)) hx
      have hnext : vsL ((lsX x).take (i + 1)) = vsL ((lsX x).take i) ++ chS y := by
        unfold vsL
        rw [List.take_succ, ha, List.flatMap_append]
        simp
      have hz : (iD (vsL ((lsX x).take i))).length + (iD (chS y)).length ≤ sizeLine := by
        have := vsL_len hx i
        rw [iD_len, iD_len, ch_len, sizeLine_eq]
        omega
      have hf := rb_fill (cl := cl) (st := st) t x hy (.val (.lst ((lsX x).map D.str))) (.own (iD (vsL ((lsX x).take i)))) c5 c6
      refine ⟨rbE t x (.val (.lst ((lsX x).map D.str))) (.own (iD (vsL ((lsX x).take (i + 1))))) (.val (.str y)) c5 c6 st, .inl ?_, _, rfl⟩
      have e3 : iD (vsL ((lsX x).take (i + 1))) = iD (vsL ((lsX x).take i)) ++ iD (chS y) := by
        rw [hnext]
        simp [iD]
      rw [e3]
      have eb : rbB = [.expr (.meth .extend 3 [rbF])] := rfl
      have hasg : asg cl (.name 4) (D.str y) (rbE t x (.val (.lst ((lsX x).map D.str))) (.own (iD (vsL ((lsX x).take i)))) c4 c5 c6 st) = some (.ok (), rbE t x (.val (.lst ((lsX x).map D.str))) (.own (iD (vsL ((lsX x).take i)))) (.val (.str y)) c5 c6 st) := by
        generalize iD (vsL ((lsX x).take i)) = us
        generalize (lsX x).map D.str = ws
        simp [asg, rbE]
      show bndF (asg _ _ _ _) _ = _
      rw [hasg, bndF_ok, eb]
      generalize iD (vsL ((lsX x).take i)) = us at *
      generalize iD (chS y) = vs at *
      generalize (lsX x).map D.str = ws at *
      generalize rbF = EF at *
      simp only [rbE] at hf ⊢
      simp [evSs, evS, evE.eq_19, evEs, frz, Sg.fz, hf, methI, hz])
  rw [List.take_length] at e
  refine ⟨c4, ?_⟩
  rw [evS_loop, ei, bndF_ok, e]
theorem vs_ne {x : Str} (h : szB (lsX x) = true) : vsL (lsX x) ≠ [] := by
  cases q : lsX x with
  | nil => rw [q] at h; cases h
  | cons l r =>
    rw [q] at h
    simp only [szB, Bool.and_eq_true, decide_eq_true_eq] at h
    intro z
    have : (vsL (l :: r)).length = 0 := by rw [z]; rfl
    have e : vsL (l :: r) = chS l ++ vsL r := rfl
    rw [e, List.length_append, ch_len] at this
    omega
theorem read_board (h : TabOk ways rule) {x : Str} (hx : x.length ≤ 1000) (n : Nat) (st : List SObj) : callN Gl (n + 4) 7 [tabD ways rule, .str x] st = some (.ok (rdD ways.length (lsX x)), st) := by
  rw [c_read_board]
  have h4 := h.l4
  have h1 := is_table h n st
  have h2 := need_t (.str { cps := #[116, 97, 98, 108, 101] }) (n + 2) st
  have h3 := need_t (.str { cps := #[116, 101, 120, 116] }) (n + 2) st
  have hs := split_ev hx
  have hp := ls_pos x
  have hi0 : ∀ (st : List SObj), idx st (tabD ways rule) (.int 0) = some (.tup (ways.map wayD)) := fun _ => by simp [idx, tabD, ixNat]
  obtain ⟨l, r, hl⟩ : ∃ l r, lsX x = l :: r := by
    cases q : lsX x with
    | nil => rw [q] at hp; simp at hp
    | cons l r => exact ⟨l, r, rfl⟩
  have hl1 := len_str (y := l) (Nat.le_trans (ls_part (x := x) (by rw [hl]; simp)) hx)
  have hx0 : ∀ st : List SObj, idx st (.lst ((lsX x).map D.str)) (.int 0) = some (.str l) := fun _ => by
    rw [hl]
    simp [idx, ixNat]
  have hsh := binI_shl (k := ways.length) (by omega)
  have hb1 : bcall .len [.tup (ways.map wayD)] = some (.d (.int (ways.length : Nat))) := by simp [bcall]
  have hb2 : bcall .isStr [.str x] = some (.d (.bl true)) := rfl
  have e0 : evSs (callN Gl (n + 3)) (b_read_board.take 4) ⟨[.val (tabD ways rule), .val (.str x), .un, .un, .un, .un, .un, .un], st⟩ = some (.nx, rbE (tabD ways rule) x (.own ((lsX x).map D.str)) .un .un (.val (.int (l.length : Nat))) (.val (.int (2 ^ ways.length))) st) := by
    generalize (lsX x).map D.str = us at *
    simp [b_read_board, rbE, evSs, evS, evP, evE.eq_1, evE.eq_2, evE.eq_3, evE.eq_13, evE.eq_15, evE.eq_17, evE.eq_23, evEs, evHs, frz, Sg.fz, Sg.rd, callR, setSlot, bin, h1, h2, h3, hs, hx0, hl1, hi0, hsh, hb1, hb2]
  have hc := rb_cond (cl := callN Gl (n + 3)) (st := st) (tabD ways rule) hx hl (.val (.int (2 ^ ways.length)))
  have eb : b_read_board = b_read_board.take 4 ++ [.ife rbC [.ret (some (.lit .non))] [], .asg (.name 3) (.lst []), .loop (.name 4) (.seq (.var 2)) rbB, .ife (.or (.e (.cmp .Lt (.bcall .min1 [.var 3]) (.lit (.int 0)))) (.e (.cmp .GtE (.bcall .max1 [.var 3]) (.var 6)))) [.ret (some (.lit .non))] [], .ret (some (.tup [.var 5, .bcall .len [.var 2], .bcall .tuple [.var 3]]))] := rfl
  cases q : szB (lsX x) with
  | false =>
    rw [q] at hc
    refine runFn_rt rfl rfl ⟨rbE (tabD ways rule) x (.own ((lsX x).map D.str)) .un .un (.val (.int (l.length : Nat))) (.val (.int (2 ^ ways.length))) st, ?_, rfl⟩
    show evSs (callN Gl (n + 3)) b_read_board ⟨[.val (tabD ways rule), .val (.str x), .un, .un, .un, .un, .un, .un], st⟩ = _
    rw [eb, evSs_app, e0, seqF_nx, evSs_cons, evS, hc, bndF_ok]
    have er : rdD ways.length (lsX x) = .non := by
      unfold rdD
      rw [q]
      rfl
    rw [er]
    simp [evSs, evS, evE.eq_2, frz, Sg.fz]
  | true =>
    rw [q] at hc
    obtain ⟨c4, hlp⟩ := rb_loop (cl := callN Gl (n + 3)) (st := st) (tabD ways rule) hx (.val (.int (l.length : Nat))) (.val (.int (2 ^ ways.length)))
    have hne := vs_ne q
    obtain ⟨m, g1, g2, g3⟩ := min_bc hne
    obtain ⟨M, k1, k2, k3⟩ := max_bc hne
    have hmm := min_max (W := ways.length) g2 g3 k2 k3
    have e1 : evS (callN Gl (n + 3)) (.asg (.name 3) (.lst [])) (rbE (tabD ways rule) x (.own ((lsX x).map D.str)) .un .un (.val (.int (l.length : Nat))) (.val (.int (2 ^ ways.length))) st) = some (.nx, rbE (tabD ways rule) x (.own ((lsX x).map D.str)) (.own []) .un (.val (.int (l.length : Nat))) (.val (.int (2 ^ ways.length))) st) := by
      simp [rbE, evS, evE.eq_12, evEs, setSlot]
    have hif : evT (callN Gl (n + 3)) (.or (.e (.cmp .Lt (.bcall .min1 [.var 3]) (.lit (.int 0)))) (.e (.cmp .GtE (.bcall .max1 [.var 3]) (.var 6)))) (rbE (tabD ways rule) x (.val (.lst ((lsX x).map D.str))) (.own (iD (vsL (lsX x)))) c4 (.val (.int (l.length : Nat))) (.val (.int (2 ^ ways.length))) st) = some (.ok (!sgB ways.length (lsX x)), rbE (tabD ways rule) x (.val (.lst ((lsX x).map D.str))) (.own (iD (vsL (lsX x)))) c4 (.val (.int (l.length : Nat))) (.val (.int (2 ^ ways.length))) st) := by
      have : (!sgB ways.length (lsX x)) = (decide (m < 0) || decide ((2 ^ ways.length : Int) ≤ M)) := hmm.symm
      rw [this]
      generalize iD (vsL (lsX x)) = us at *
      generalize (lsX x).map D.str = ws at *
      generalize (2 : Int) ^ ways.length = pw at *
      by_cases z : m < 0
      · simp [rbE, evT, evE.eq_1, evE.eq_2, evE.eq_5, evE.eq_17, evHs, Sg.rd, cmp, truth, g1, z]
      · simp [rbE, evT, evE.eq_1, evE.eq_2, evE.eq_5, evE.eq_17, evHs, Sg.rd, cmp, truth, g1, k1, z]
    refine runFn_rt rfl rfl ⟨rbE (tabD ways rule) x (.val (.lst ((lsX x).map D.str))) (.own (iD (vsL (lsX x)))) c4 (.val (.int (l.length : Nat))) (.val (.int (2 ^ ways.length))) st, ?_, rfl⟩
    show evSs (callN Gl (n + 3)) b_read_board ⟨[.val (tabD ways rule), .val (.str x), .un, .un, .un, .un, .un, .un], st⟩ = _
    rw [eb, evSs_app, e0, seqF_nx, evSs_cons, evS, hc, bndF_ok]
    simp only [Bool.not_true, Bool.false_eq_true, if_false]
    rw [evSs_nil, seqF_nx, evSs_cons, e1, seqF_nx, evSs_cons, hlp, seqF_nx, evSs_cons, evS, hif, bndF_ok]
    have hlen : bcall .len [.lst ((lsX x).map D.str)] = some (.d (.int ((lsX x).length : Nat))) := by simp [bcall]
    have hh : (lsX x).headD EM = l := by rw [hl]; rfl
    have z3 : 3 ≤ sizeLine := by have := sizeLine_eq; omega
    unfold rdD
    rw [q, hh, Bool.true_and]
    generalize iD (vsL (lsX x)) = us at *
    cases w : sgB ways.length (lsX x) with
    | false => simp [evSs, evS, evE.eq_2, frz, Sg.fz]
    | true =>
      have htu : bcall .tuple [.lst us] = some (.d (.tup us)) := rfl
      generalize (lsX x).length = N at *
      generalize (lsX x).map D.str = ws at *
      simp [rbE, evSs, evS, evE.eq_1, evE.eq_11, evE.eq_17, evEs, evHs, frz, Sg.fz, Sg.rd, hlen, htu, z3]
end
end Lp

set_option Elab.async false
set_option linter.all false
set_option maxRecDepth 100000
set_option maxHeartbeats 6400000
/-! K02d: lines, made and read by the law. -/
namespace Lp
open PySem Rf Lw
section
variable {ways : List (Int × Int)} {rule : List Int} {wide high : Int} {cells : List Int} {n : Nat} {st : List SObj}
def llC : E := match b__law_lines with
  | [_, .ret (some (.smeth _ _ e))] => e
  | _ => .lit .non
def llI : E := match llC with
  | .comp _ (.smeth _ _ e) _ _ _ => e
  | _ => .lit .non
def llE (b : D) (w h : Nat) (cells : List Int) (a : Rf.Slot) (st : List SObj) : Sg := ⟨[.val b, .val (.int (w : Nat)), .val (.int (h : Nat)), .val (.tup (iD cells)), a, .un], st⟩
theorem ll_in {cl : Call} (b : D) {w h k : Nat} (hw : w ≤ 8) (hk : k < h) (hl : cells.length = w * h) (hr : ∀ c ∈ cells, 0 ≤ c ∧ c < 16) : evE cl llI (llE b w h cells (.val (.int (k : Nat))) st) = some (.ok (.own (((cells.drop (k * w)).take w).map fun c => D.str (sgnI c))), llE b w h cells (.val (.int (k : Nat))) st) := by
  have e : llI = .comp [5] (.idx (.lit (.str SG)) (.var 5)) (.name 5) (.seq (.slc (.var 3) (some (.bin .Mult (.var 4) (.var 1))) (some (.bin .Add (.bin .Mult (.var 4) (.var 1)) (.var 1))))) none := rfl
  have hm : binI .Mult (k : Nat) (w : Nat) = some ((k * w : Nat) : Int) := by
    rw [binI_mul (.inr ⟨by omega, by omega⟩)]
    congr 1
  have hle : k * w + w ≤ cells.length := by
    rw [hl]
    have := Nat.mul_le_mul_right w (show k + 1 ≤ h by omega)
    rw [Nat.add_mul, Nat.one_mul, Nat.mul_comm h w] at this
    exact this
  have hc := cut_mid (iD cells) (a := k * w) (b := k * w + w) (by omega) (by rw [iD_len]; exact hle)
  rw [Nat.add_sub_cancel_left, iD_cut] at hc
  have hs : slc (.tup (iD cells)) (some ((k * w : Nat) : Int)) (some (((k * w : Nat) : Int) + (w : Nat))) = some (.d (.tup (((cells.drop (k * w)).take w).map D.int))) := by
    show some (Hd.d (.tup (cut (iD cells) _ _))) = _
    have e3 : ((k * w : Nat) : Int) + (w : Nat) = ((k * w + w : Nat) : Int) := by omega
    rw [e3, hc]
  have hit : evW cl (.seq (.slc (.var 3) (some (.bin .Mult (.var 4) (.var 1))) (some (.bin .Add (.bin .Mult (.var 4) (.var 1)) (.var 1))))) (llE b w h cells (.val (.int (k : Nat))) st) = some (.ok (((cells.drop (k * w)).take w).map D.int, none), llE b w h cells (.val (.int (k : Nat))) st) := by
    generalize ((cells.drop (k * w)).take w).map D.int = us at *
    unfold llE
    clear hle hl hc
    generalize iD cells = ds at *
    generalize k * w = kw at *
    simp [evW, evO, evE.eq_1, evE.eq_3, evE.eq_14, frz, Sg.fz, Sg.rd, bin, binI_add, hm, hs, seqI]
  have := comp_map (cl := cl) (vs := [5]) (elt := .idx (.lit (.str SG)) (.var 5)) (t := .name 5) ((cells.drop (k * w)).take w) D.int (fun c => D.str (sgnI c)) hit rfl (fun c hc => by
    obtain ⟨c0, c1⟩ := hr c (List.mem_of_mem_drop (List.mem_of_mem_take hc))
    have hx := sg_idx c0 c1 st
    generalize SG = sg at *
    generalize iD cells = ds at *
    simp [llE, turnC, asg, evC, evE.eq_1, evE.eq_2, evE.eq_13, frz, Sg.fz, Sg.rd, wipeE, hx]) (by rw [sizeLine_eq, List.length_take]; omega)
  rw [e]
  exact this
theorem ll_all {cl : Call} (b : D) {w h : Nat} (hw : w ≤ 8) (hh : h ≤ 8) (hl : cells.length = w * h) (hr : ∀ c ∈ cells, 0 ≤ c ∧ c < 16) : evE cl (.smeth .join (.lit (.str NL)) llC) (llE b w h cells .un st) = some (.ok (.d (.str (txS w h cells))), llE b w h cells .un st) := by
  have hrg := rangeI_nat (k := h) (by omega)
  have ec : llC = .comp [4] (.smeth .join (.lit (.str EM)) llI) (.name 4) (.range [.var 2]) none := rfl
  have hit : evW cl (.range [.var 2]) (llE b w h cells .un st) = some (.ok ((List.range h).map (fun (i : Nat) => D.int (i : Nat)), none), llE b w h cells .un st) := by
    simp [llE, evW, evEs, evE.eq_1, frz, Sg.fz, hrg]
  have := comp_map (cl := cl) (vs := [4]) (elt := .smeth .join (.lit (.str EM)) llI) (t := .name 4) (List.range h) (fun (i : Nat) => D.int (i : Nat)) (fun k => D.str (lnS w cells k)) hit rfl (fun k hk => by
    have hi := ll_in (cl := cl) (st := st) b hw (List.mem_range.mp hk) hl hr
    have hj := join_line (cells := cells) (k := k) hw
    have ha : asg cl (.name 4) (D.int (k : Nat)) ⟨wipeE [4] (llE b w h cells .un st).env, (llE b w h cells .un st).sto⟩ = some (.ok (), llE b w h cells (.val (.int (k : Nat))) st) := by simp [asg, llE, wipeE]
    unfold turnC
    rw [if_pos (heldB_none _ _), ha]
    simp only [bnd_ok, evC, okk, if_true]
    rw [frz, evE.eq_23]
    simp only [evE.eq_2, okk, bnd_ok]
    rw [hi]
    simp only [bnd_ok, Sg.rd, Option.bind_some]
    rw [hj]
    simp only [opt_some, bnd_ok, Sg.fz, okk, nox_ok]
    rfl) (by rw [sizeLine_eq, List.length_range]; omega)
  have hj := join_text (cells := cells) hw hh
  rw [evE.eq_23]
  simp only [evE.eq_2, okk, bnd_ok]
  rw [ec, this]
  simp only [bnd_ok, Sg.rd, Option.bind_some]
  rw [hj]
  rfl
theorem law_lines {m : Nat} (h4 : m ≤ 4) (b : BrdOk m wide high cells) (n : Nat) (st : List SObj) : callN Gl (n + 1) 17 [brdD wide high cells] st = some (.ok (.str (txS wide.toNat high.toNat cells)), st) := by
  rw [c__law_lines]
  have h16 := pow_le h4
  have hcast : (2 ^ m : Int) = ((2 ^ m : Nat) : Int) := by simp
  have hr : ∀ c ∈ cells, 0 ≤ c ∧ c < 16 := fun c hc => by
    have := b.rng c hc
    omega
  obtain ⟨w, hi, rfl, rfl, w1, w8, h1, h8, hl⟩ := brd_nat b
  have e := ll_all (cl := callN Gl n) (st := st) (brdD (w : Int) (hi : Int) cells) w8 h8 hl hr
  have eb : b__law_lines = b__law_lines.take 1 ++ [.ret (some (.smeth .join (.lit (.str NL)) llC))] := rfl
  have e0 : evSs (callN Gl n) (b__law_lines.take 1) ⟨[.val (brdD (w : Int) (hi : Int) cells), .un, .un, .un, .un, .un], st⟩ = some (.nx, llE (brdD (w : Int) (hi : Int) cells) w hi cells .un st) := by
    have hbd : brdD (w : Int) (hi : Int) cells = .tup [.int (w : Int), .int (hi : Int), .tup (iD cells)] := rfl
    rw [hbd]
    simp [b__law_lines, llE, evSs, evS, asg, asg_tup, asgTs_cons, asgTs_nil, evE.eq_1, frz, Sg.fz]
  refine runFn_rt rfl rfl ⟨llE (brdD (w : Int) (hi : Int) cells) w hi cells .un st, ?_, rfl⟩
  show evSs (callN Gl n) b__law_lines ⟨[.val (brdD (w : Int) (hi : Int) cells), .un, .un, .un, .un, .un], st⟩ = _
  rw [eb, evSs_app, e0, seqF_nx, evSs_cons, evS, frz, e]
  simp only [Int.toNat_natCast]
  simp [Sg.fz]
/-! ### the law reads -/
def lrE (t : D) (x : Str) (c2 c3 c4 c5 : Rf.Slot) (st : List SObj) : Sg := ⟨[.val t, .val (.str x), c2, c3, c4, c5], st⟩
def lrO : List S := match b__law_read with
  | [_, .loop _ _ b, _, _] => b
  | _ => []
def lrI : List S := match lrO with
  | [.loop _ _ b] => b
  | _ => []
theorem lr_ch {cl : Call} (h : TabOk ways rule) (x : Str) (c2 c3 c5 : Rf.Slot) {ds : List D} (hd : ds.length < sizeLine) (c : Nat) : ∃ ds', bndF (asg cl (.name 5) (chD c) (lrE (tabD ways rule) x c2 c3 (.own ds) c5 st)) (fun _ s3 => evSs cl lrI s3) = some ((if okV ways.length (vS c) = true then Fl.nx else Fl.rt .non), lrE (tabD ways rule) x c2 c3 (.own ds') (.val (chD c)) st) ∧ (okV ways.length (vS c) = true → ds' = ds ++ [.int (vS c)]) := by
  have h4 := h.l4
  have hi0 : ∀ (st : List SObj), idx st (tabD ways rule) (.int 0) = some (.tup (ways.map wayD)) := fun _ => by simp [idx, tabD, ixNat]
  have hsh := binI_shl (k := ways.length) (by omega)
  have hb1 : bcall .len [.tup (ways.map wayD)] = some (.d (.int (ways.length : Nat))) := by simp [bcall]
  have hn : cmp .NotIn (chD c) (.str SG) = some (!(!(Builtin.Str.occurrences SG ⟨#[c]⟩ 0 SG.length 1).isEmpty)) := rfl
  have hx : smethI .index SG (chD c) = match Builtin.Str.occurrences SG ⟨#[c]⟩ 0 SG.length 1 with
    | i :: _ => some (Hd.d (.int (i : Nat)))
    | [] => none := rfl
  have ei : lrI = [.ife (.or (.e (.cmp .NotIn (.var 5) (.lit (.str SG)))) (.e (.cmp .GtE (.smeth .index (.lit (.str SG)) (.var 5)) (.bin .LShift (.lit (.int 1)) (.bcall .len [.idx (.var 0) (.lit (.int 0))]))))) [.ret (some (.lit .non))] [], .expr (.meth .append 4 [.smeth .index (.lit (.str SG)) (.var 5)])] := rfl
  rw [ei]
  rcases occ_cases c with ⟨o, v⟩ | ⟨i, r, o, v⟩
  · rw [o] at hn
    have hn : cmp .NotIn (chD c) (.str SG) = some true := hn
    have hok : okV ways.length (vS c) = false := by
      rw [v]
      simp [okV]
    rw [hok]
    refine ⟨ds, ?_, fun z => by cases z⟩
    generalize SG = sg at *
    simp [lrE, asg, evSs, evS, evT, evE.eq_1, evE.eq_2, evE.eq_5, frz, Sg.fz, Sg.rd, truth, hn]
  · rw [o] at hn hx
    have hok : okV ways.length (vS c) = decide ((i : Int) < 2 ^ ways.length) := by
      rw [v]
      unfold okV
      exact decide_eq_decide.mpr ⟨fun z => z.2, fun z => ⟨by omega, z⟩⟩
    rw [hok, v]
    have hx : smethI .index SG (chD c) = some (.d (.int (i : Nat))) := hx
    have hn : cmp .NotIn (chD c) (.str SG) = some false := hn
    have hcmp : cmp .GtE (.int (i : Nat)) (.int (2 ^ ways.length)) = some (decide ((2 ^ ways.length : Int) ≤ (i : Nat))) := rfl
    clear hok
    by_cases z : (i : Int) < 2 ^ ways.length
    · rw [decide_eq_true z]
      rw [decide_eq_false (by omega)] at hcmp
      refine ⟨ds ++ [.int (i : Nat)], ?_, fun _ => rfl⟩
      generalize SG = sg at *
      generalize (2 : Int) ^ ways.length = pw at *
      simp [lrE, asg, evSs, evS, evT, evE.eq_1, evE.eq_2, evE.eq_3, evE.eq_5, evE.eq_13, evE.eq_17, evE.eq_19, evE.eq_23, evEs, evHs, frz, Sg.fz, Sg.rd, truth, bin, methI, hn, hx, hi0, hb1, hsh, hcmp, hd]
    · rw [decide_eq_false z]
      rw [decide_eq_true (by omega)] at hcmp
      refine ⟨ds, ?_, fun z => by cases z⟩
      generalize SG = sg at *
      generalize (2 : Int) ^ ways.length = pw at *
      simp [lrE, asg, evSs, evS, evT, evE.eq_1, evE.eq_2, evE.eq_3, evE.eq_5, evE.eq_13, evE.eq_17, evE.eq_23, evHs, frz, Sg.fz, Sg.rd, truth, bin, hn, hx, hi0, hb1, hsh, hcmp]
end
end Lp

set_option Elab.async false
set_option linter.all false
set_option maxRecDepth 100000
set_option maxHeartbeats 6400000
/-! K02e: the law reads lines as the program does. -/
namespace Lp
open PySem Rf Lw
section
variable {ways : List (Int × Int)} {rule : List Int} {n : Nat} {st : List SObj}
theorem lr_line {cl : Call} (h : TabOk ways rule) (x : Str) (c2 c3 : Rf.Slot) : ∀ (cs : List Nat) (ds : List D) (c5 : Rf.Slot), ds.length + cs.length ≤ 2000000 →
    ∃ ds' c5', loopGo (fun d s2 => bndF (asg cl (.name 5) d s2) fun _ s3 => evSs cl lrI s3) (cs.map chD) (lrE (tabD ways rule) x c2 c3 (.own ds) c5 st) = some ((if (cs.map vS).all (okV ways.length) = true then Fl.nx else Fl.rt .non), lrE (tabD ways rule) x c2 c3 (.own ds') c5' st) ∧ ((cs.map vS).all (okV ways.length) = true → ds' = ds ++ iD (cs.map vS))
  | [], ds, c5, _ => ⟨ds, c5, rfl, fun _ => by simp [iD]⟩
  | c :: cs, ds, c5, hl => by
    rw [List.length_cons] at hl
    obtain ⟨d1, e1, g1⟩ := lr_ch (cl := cl) (st := st) h x c2 c3 c5 (ds := ds) (by rw [sizeLine_eq]; omega) c
    rw [List.map_cons, loopGo, e1, List.map_cons, List.all_cons]
    cases q : okV ways.length (vS c) with
    | false => exact ⟨d1, _, rfl, fun z => by cases z⟩
    | true =>
      have g := g1 q
      subst g
      obtain ⟨d2, c5', e2, g2⟩ := lr_line h x c2 c3 cs (ds ++ [.int (vS c)]) (.val (chD c)) (by rw [List.length_append]; simp only [List.length_cons, List.length_nil]; omega)
      refine ⟨d2, c5', e2, fun z => ?_⟩
      rw [g2 z]
      simp [iD]
theorem lr_lines {cl : Call} (h : TabOk ways rule) (x : Str) (c3 : Rf.Slot) : ∀ (ls : List Str) (ds : List D) (c2 c5 : Rf.Slot), ds.length + (vsL ls).length ≤ 2000000 →
    ∃ ds' c2' c5', loopGo (fun d s2 => bndF (asg cl (.name 2) d s2) fun _ s3 => evSs cl lrO s3) (ls.map D.str) (lrE (tabD ways rule) x c2 c3 (.own ds) c5 st) = some ((if sgB ways.length ls = true then Fl.nx else Fl.rt .non), lrE (tabD ways rule) x c2' c3 (.own ds') c5' st) ∧ (sgB ways.length ls = true → ds' = ds ++ iD (vsL ls))
  | [], ds, c2, c5, _ => ⟨ds, c2, c5, rfl, fun _ => by simp [iD, vsL]⟩
  | y :: ls, ds, c2, c5, hl => by
    have ev : vsL (y :: ls) = chS y ++ vsL ls := rfl
    rw [ev, List.length_append] at hl
    have hy : (chS y).length = y.cps.toList.length := by simp [chS]
    obtain ⟨d1, c5', e1, g1⟩ := lr_line (cl := cl) (st := st) h x (.val (.str y)) c3 y.cps.toList ds c5 (by omega)
    have hasg : asg cl (.name 2) (D.str y) (lrE (tabD ways rule) x c2 c3 (.own ds) c5 st) = some (.ok (), lrE (tabD ways rule) x (.val (.str y)) c3 (.own ds) c5 st) := by simp [asg, lrE]
    have ei : evI cl (.seq (.var 2)) (lrE (tabD ways rule) x (.val (.str y)) c3 (.own ds) c5 st) = some (.ok (y.cps.toList.map chD), lrE (tabD ways rule) x (.val (.str y)) c3 (.own ds) c5 st) := by
      simp [lrE, evI, evE.eq_1, frz, Sg.fz, seqI]
    have eb : lrO = [.loop (.name 5) (.seq (.var 2)) lrI] := rfl
    have hsg : sgB ways.length (y :: ls) = ((chS y).all (okV ways.length) && sgB ways.length ls) := by
      unfold sgB
      rw [ev, List.all_append]
    rw [List.map_cons, loopGo]
    rw [hasg, bndF_ok, eb, evSs_cons, evS_loop, ei, bndF_ok, e1, hsg]
    have ec : (y.cps.toList.map vS).all (okV ways.length) = (chS y).all (okV ways.length) := rfl
    rw [ec] at g1 ⊢
    cases q : (chS y).all (okV ways.length) with
    | false => exact ⟨d1, _, _, rfl, fun z => by cases z⟩
    | true =>
      have g := g1 q
      subst g
      obtain ⟨d2, c2', c5'', e2, g2⟩ := lr_lines h x c3 ls (ds ++ iD (chS y)) (.val (.str y)) c5' (by rw [List.length_append, iD_len]; omega)
      refine ⟨d2, c2', c5'', ?_, fun z => ?_⟩
      · simp only [if_true, seqF_nx, evSs_nil, Bool.true_and]
        exact e2
      · rw [Bool.true_and] at z
        rw [g2 z]
        show ds ++ iD (chS y) ++ _ = ds ++ iD (vsL (y :: ls))
        rw [ev]
        simp [iD]
def Asc (x : Str) : Prop := ∀ c ∈ x.cps.toList, c < 128
theorem asc_ok {x : Str} (h : Asc x) : nice (.str x) = true := by
  show PyData.strOk x = true
  unfold PyData.strOk
  rw [Array.all_eq_true']
  intro c hc
  have := h c (by simpa using hc)
  simp only [decide_eq_true_eq]
  omega
theorem join_mem (s : Str) : ∀ (ls : List Str) (p : Str), p ∈ ls → ∀ c ∈ p.cps.toList, c ∈ (Str.join s ls).cps.toList
  | [], p, hp, _, _ => by cases hp
  | [a], p, hp, c, hc => by
    rw [List.mem_singleton.mp hp] at hc
    exact hc
  | a :: b :: r, p, hp, c, hc => by
    show c ∈ ((a.cps ++ s.cps) ++ (Str.join s (b :: r)).cps).toList
    rw [Array.toList_append, Array.toList_append]
    rcases List.mem_cons.mp hp with rfl | hp
    · simp [hc]
    · have := join_mem s (b :: r) p hp c hc
      simp [this]
theorem asc_part {x y : Str} (h : Asc x) (hy : y ∈ lsX x) : Asc y := fun c hc => by
  have := join_mem NL (lsX x) y hy c hc
  rw [StrLaws.join_split] at this
  exact h c this
/-- whether a line is of another size -/
def offB (l y : Str) : Bool := !decide (y.length = l.length) || !decide (1 ≤ y.length ∧ y.length ≤ 8)
theorem off_all {l : Str} {r : List Str} : (((l :: r).filter (offB l)).isEmpty && decide ((l :: r).length ≤ 8)) = szB (l :: r) := by
  have e : ((l :: r).filter (offB l)).isEmpty = (decide (1 ≤ l.length ∧ l.length ≤ 8) && (l :: r).all fun y => decide (y.length = l.length)) := by
    rw [Bool.eq_iff_iff, List.isEmpty_iff, List.filter_eq_nil_iff, Bool.and_eq_true, List.all_eq_true]
    simp only [offB, Bool.or_eq_true, Bool.not_eq_true', decide_eq_false_iff_not, decide_eq_true_eq]
    constructor
    · intro h
      refine ⟨?_, fun y hy => ?_⟩
      · have := h l (by simp)
        omega
      · have := h y hy
        omega
    · rintro ⟨h1, h2⟩ y hy
      have := h2 y hy
      omega
  rw [e]
  show _ = (decide (1 ≤ l.length ∧ l.length ≤ 8) && (decide ((l :: r).length ≤ 8) && (l :: r).all fun y => decide (y.length = l.length)))
  cases decide (1 ≤ l.length ∧ l.length ≤ 8) <;> cases decide ((l :: r).length ≤ 8) <;> simp
end
end Lp

set_option Elab.async false
set_option linter.all false
set_option maxRecDepth 100000
set_option maxHeartbeats 6400000
/-! K02f: the law reads lines as the program does: the whole. -/
namespace Lp
open PySem Rf Lw
section
variable {ways : List (Int × Int)} {rule : List Int} {n : Nat} {st : List SObj}
def lrT : T := match b__law_read with
  | [_, _, .ife c _ _, _] => c
  | _ => .e (.lit .non)
theorem dpt_strs (ls : List Str) : dptDs (ls.map D.str) ≤ 0 := dptDs_map (fun _ => Nat.le_refl 0) ls
theorem nices_strs : ∀ {ls : List Str}, (∀ y ∈ ls, Asc y) → nices (ls.map D.str) = true
  | [], _ => rfl
  | y :: ls, h => by
    show (nice (.str y) && nices (ls.map D.str)) = true
    rw [asc_ok (h y (by simp)), nices_strs fun z hz => h z (by simp [hz])]
    rfl
theorem lr_cond {cl : Call} (t : D) {x : Str} (hx : x.length ≤ 1000) (ha : Asc x) {l : Str} {r : List Str} (hl : lsX x = l :: r) (c2 c4 c5 : Rf.Slot) : evT cl lrT (lrE t x c2 (.val (.lst ((lsX x).map D.str))) c4 c5 st) = some (.ok (!szB (lsX x)), lrE t x c2 (.val (.lst ((lsX x).map D.str))) c4 c5 st) := by
  have e : lrT = .or (.e (.cmp .NotEq (.comp [2] (.var 2) (.name 2) (.seq (.var 3)) (some (.or (.e (.cmp .NotEq (.bcall .len [.var 2]) (.bcall .len [.idx (.var 3) (.lit (.int 0))]))) (.not (.e (.chain .LtE .LtE (.lit (.int 1)) (.bcall .len [.var 2]) (.lit (.int 8)))))))) (.lst []))) (.e (.cmp .Gt (.bcall .len [.var 3]) (.lit (.int 8)))) := rfl
  have hle := ls_le x
  have hx0 : ∀ st : List SObj, idx st (.lst ((lsX x).map D.str)) (.int 0) = some (.str l) := fun _ => by
    rw [hl]
    simp [idx, ixNat]
  have hl1 := len_str (y := l) (Nat.le_trans (ls_part (x := x) (by rw [hl]; simp)) hx)
  have hc := comp_filter (cl := cl) (vs := [2]) (elt := .var 2) (t := .name 2) (it := .seq (.var 3)) (c := some (.or (.e (.cmp .NotEq (.bcall .len [.var 2]) (.bcall .len [.idx (.var 3) (.lit (.int 0))]))) (.not (.e (.chain .LtE .LtE (.lit (.int 1)) (.bcall .len [.var 2]) (.lit (.int 8))))))) (s := lrE t x c2 (.val (.lst ((lsX x).map D.str))) c4 c5 st) (s1 := lrE t x c2 (.val (.lst ((lsX x).map D.str))) c4 c5 st) (o := none) (lsX x) D.str (offB l) D.str
    (by
      generalize (lsX x).map D.str = us
      simp [lrE, evW, evE.eq_1, Sg.fz, seqI]) rfl (fun y hy => by
      have hy1 := len_str (y := y) (Nat.le_trans (ls_part hy) hx)
      have e2 : eqD (.int (y.length : Nat)) (.int (l.length : Nat)) = some (decide (y.length = l.length)) := by
        rw [eqD_int]
        congr 1
        exact decide_eq_decide.mpr (by omega)
      unfold offB
      generalize (lsX x).map D.str = us at *
      by_cases z : y.length = l.length
      · rw [decide_eq_true z] at e2 ⊢
        by_cases z1 : 1 ≤ y.length
        · by_cases z2 : y.length ≤ 8
          · simp [lrE, turnC, asg, evC, evT, evE.eq_1, evE.eq_2, evE.eq_5, evE.eq_6, evE.eq_13, evE.eq_17, evHs, frz, Sg.fz, Sg.rd, cmp, truth, wipeE, hx0, hl1, hy1, e2, z1, z2, show (1 : Int) ≤ (y.length : Nat) by omega, show ((y.length : Nat) : Int) ≤ 8 by omega]
          · simp [lrE, turnC, asg, evC, evT, evE.eq_1, evE.eq_2, evE.eq_5, evE.eq_6, evE.eq_13, evE.eq_17, evHs, frz, Sg.fz, Sg.rd, cmp, truth, wipeE, hx0, hl1, hy1, e2, z1, z2, show (1 : Int) ≤ (y.length : Nat) by omega, show ¬ ((y.length : Nat) : Int) ≤ 8 by omega]
        · simp [lrE, turnC, asg, evC, evT, evE.eq_1, evE.eq_2, evE.eq_5, evE.eq_6, evE.eq_13, evE.eq_17, evHs, frz, Sg.fz, Sg.rd, cmp, truth, wipeE, hx0, hl1, hy1, e2, z1, show ¬ (1 : Int) ≤ (y.length : Nat) by omega]
      · rw [decide_eq_false z] at e2 ⊢
        simp [lrE, turnC, asg, evC, evT, evE.eq_1, evE.eq_2, evE.eq_5, evE.eq_13, evE.eq_17, evHs, frz, Sg.fz, Sg.rd, cmp, truth, wipeE, hx0, hl1, hy1, e2]) (by rw [sizeLine_eq]; omega)
  have hrest : (⟨restore [2] (lrE t x c2 (.val (.lst ((lsX x).map D.str))) c4 c5 st).env (wipeE [2] (lrE t x c2 (.val (.lst ((lsX x).map D.str))) c4 c5 st).env), (lrE t x c2 (.val (.lst ((lsX x).map D.str))) c4 c5 st).sto⟩ : Sg) = lrE t x c2 (.val (.lst ((lsX x).map D.str))) c4 c5 st := rfl
  have hc' := Eq.trans hc (congrArg some (congrArg (Prod.mk _) hrest))
  have hq := eqD_lnil (((lsX x).filter (offB l)).map D.str) (nices_strs fun y hy => asc_part ha ((List.mem_filter.mp hy).1)) (by have := dpt_strs ((lsX x).filter (offB l)); omega)
  have hlen : bcall .len [.lst ((lsX x).map D.str)] = some (.d (.int ((lsX x).length : Nat))) := by simp [bcall]
  have ho := off_all (l := l) (r := r)
  rw [← hl] at ho
  rw [← ho]
  have he : (((lsX x).filter (offB l)).map D.str).isEmpty = ((lsX x).filter (offB l)).isEmpty := List.isEmpty_map
  rw [he] at hq
  generalize ((lsX x).filter (offB l)).isEmpty = bb at *
  generalize ((lsX x).filter (offB l)).map D.str = vs at *
  generalize (lsX x).length = N at *
  generalize (lsX x).map D.str = us at *
  rw [e]
  generalize E.comp [2] (.var 2) (.name 2) (.seq (.var 3)) (some (.or (.e (.cmp .NotEq (.bcall .len [.var 2]) (.bcall .len [.idx (.var 3) (.lit (.int 0))]))) (.not (.e (.chain .LtE .LtE (.lit (.int 1)) (.bcall .len [.var 2]) (.lit (.int 8))))))) = EC at *
  simp only [lrE] at hc' ⊢
  cases bb with
  | true =>
    by_cases z3 : N ≤ 8
    · simp [evT, evE.eq_1, evE.eq_2, evE.eq_5, evE.eq_12, evE.eq_17, evEs, evHs, Sg.rd, cmp, truth, hc', hq, hlen, z3, show ¬ (8 : Int) < (N : Nat) by omega]
    · simp [evT, evE.eq_1, evE.eq_2, evE.eq_5, evE.eq_12, evE.eq_17, evEs, evHs, Sg.rd, cmp, truth, hc', hq, hlen, z3, show (8 : Int) < (N : Nat) by omega]
  | false => simp [evT, evE.eq_1, evE.eq_2, evE.eq_5, evE.eq_12, evE.eq_17, evEs, evHs, Sg.rd, cmp, truth, hc', hq]
theorem law_read (h : TabOk ways rule) {x : Str} (hx : x.length ≤ 1000) (ha : Asc x) (n : Nat) (st : List SObj) : callN Gl (n + 1) 18 [tabD ways rule, .str x] st = some (.ok (rdD ways.length (lsX x)), st) := by
  rw [c__law_read]
  have hs := split_ev hx
  have hp := ls_pos x
  obtain ⟨l, r, hl⟩ : ∃ l r, lsX x = l :: r := by
    cases q : lsX x with
    | nil => rw [q] at hp; simp at hp
    | cons l r => exact ⟨l, r, rfl⟩
  have hl1 := len_str (y := l) (Nat.le_trans (ls_part (x := x) (by rw [hl]; simp)) hx)
  have hx0 : ∀ st : List SObj, idx st (.lst ((lsX x).map D.str)) (.int 0) = some (.str l) := fun _ => by
    rw [hl]
    simp [idx, ixNat]
  have e0 : evS (callN Gl n) (.par [3, 4] [.smeth .split (.var 1) (.lit (.str NL)), .lst []]) (lrE (tabD ways rule) x .un .un .un .un st) = some (.nx, lrE (tabD ways rule) x .un (.own ((lsX x).map D.str)) (.own []) .un st) := by
    generalize (lsX x).map D.str = us at *
    simp [lrE, evS, evP, evE.eq_1, evE.eq_2, evE.eq_12, evE.eq_23, evEs, Sg.rd, setSlot, hs]
  have ei : evI (callN Gl n) (.seq (.var 3)) (lrE (tabD ways rule) x .un (.own ((lsX x).map D.str)) (.own []) .un st) = some (.ok ((lsX x).map D.str), lrE (tabD ways rule) x .un (.val (.lst ((lsX x).map D.str))) (.own []) .un st) := by
    generalize (lsX x).map D.str = us
    simp [lrE, evI, evE.eq_1, frz, Sg.fz, seqI]
  obtain ⟨ds, c2, c5, elp, g⟩ := lr_lines (cl := callN Gl n) (st := st) h x (.val (.lst ((lsX x).map D.str))) (lsX x) [] .un .un (by
    have := vsL_len hx (lsX x).length
    rw [List.take_length] at this
    simp only [List.length_nil]
    omega)
  have hc := lr_cond (cl := callN Gl n) (st := st) (tabD ways rule) hx ha hl c2 (.own ds) c5
  have eb : b__law_read = [.par [3, 4] [.smeth .split (.var 1) (.lit (.str NL)), .lst []], .loop (.name 2) (.seq (.var 3)) lrO, .ife lrT [.ret (some (.lit .non))] [], .ret (some (.tup [.bcall .len [.idx (.var 3) (.lit (.int 0))], .bcall .len [.var 3], .bcall .tuple [.var 4]]))] := rfl
  have hlen : bcall .len [.lst ((lsX x).map D.str)] = some (.d (.int ((lsX x).length : Nat))) := by simp [bcall]
  have hh : (lsX x).headD EM = l := by rw [hl]; rfl
  have z3 : 3 ≤ sizeLine := by have := sizeLine_eq; omega
  have start : ∃ s', evSs (callN Gl n) b__law_read (lrE (tabD ways rule) x .un .un .un .un st) = some (.rt (rdD ways.length (lsX x)), s') ∧ s'.sto = st := by
    refine ⟨lrE (tabD ways rule) x c2 (.val (.lst ((lsX x).map D.str))) (.own ds) c5 st, ?_, rfl⟩
    rw [eb, evSs_cons, e0, seqF_nx, evSs_cons, evS_loop, ei, bndF_ok, elp]
    unfold rdD
    rw [hh]
    cases w : sgB ways.length (lsX x) with
    | false =>
      rw [Bool.and_false]
      rfl
    | true =>
      rw [Bool.and_true]
      have g' := g w
      rw [List.nil_append] at g'
      subst g'
      simp only [if_true]
      rw [seqF_nx, evSs_cons, evS, hc, bndF_ok]
      generalize iD (vsL (lsX x)) = us at *
      cases q : szB (lsX x) with
      | false => simp [evSs, evS, evE.eq_2, frz, Sg.fz]
      | true =>
        have htu : bcall .tuple [.lst us] = some (.d (.tup us)) := rfl
        generalize (lsX x).length = N at *
        generalize (lsX x).map D.str = ws at *
        simp [lrE, evSs, evS, evE.eq_1, evE.eq_2, evE.eq_11, evE.eq_13, evE.eq_17, evEs, evHs, frz, Sg.fz, Sg.rd, hlen, htu, hl1, hx0, z3]
  obtain ⟨s', e, hs'⟩ := start
  exact runFn_rt rfl rfl ⟨s', e, hs'⟩
end
end Lp

set_option Elab.async false
set_option linter.all false
set_option maxRecDepth 100000
set_option maxHeartbeats 6400000
/-! K02g: what the lines of a board are; values that are no boards. -/
namespace Lp
open PySem Rf Lw
theorem ext_l {a b : Str} (h : a.cps.toList = b.cps.toList) : a = b := by
  cases a
  cases b
  simp only [Str.mk.injEq]
  exact Array.toList_inj.mp h
theorem join_cons (s a b : Str) (r : List Str) : (Str.join s (a :: b :: r)).cps.toList = a.cps.toList ++ (s.cps.toList ++ (Str.join s (b :: r)).cps.toList) := by
  show ((a.cps ++ s.cps) ++ (Str.join s (b :: r)).cps).toList = _
  rw [Array.toList_append, Array.toList_append, List.append_assoc]
theorem cut_at {c : Nat} : ∀ (a b x y : List Nat), c ∉ a → c ∉ b → a ++ (c :: x) = b ++ (c :: y) → a = b ∧ x = y
  | [], [], x, y, _, _, e => by
    simp only [List.nil_append, List.cons.injEq, true_and] at e
    exact ⟨rfl, e⟩
  | [], b :: bs, x, y, _, h2, e => by
    simp only [List.nil_append, List.cons_append, List.cons.injEq] at e
    exact absurd (by rw [e.1]; simp) h2
  | a :: as, [], x, y, h1, _, e => by
    simp only [List.nil_append, List.cons_append, List.cons.injEq] at e
    exact absurd (by rw [e.1]; simp) h1
  | a :: as, b :: bs, x, y, h1, h2, e => by
    simp only [List.cons_append, List.cons.injEq] at e
    obtain ⟨h, e⟩ := e
    obtain ⟨g1, g2⟩ := cut_at as bs x y (fun z => h1 (by simp [z])) (fun z => h2 (by simp [z])) e
    exact ⟨by rw [h, g1], g2⟩
theorem cut_no {c : Nat} {a b y : List Nat} (h : c ∉ a) (e : a = b ++ (c :: y)) : False := h (by rw [e]; simp)
/-- lines are told by what joins them -/
theorem join_inj : ∀ (as bs : List Str), as ≠ [] → bs ≠ [] → (∀ a ∈ as, 10 ∉ a.cps.toList) → (∀ b ∈ bs, 10 ∉ b.cps.toList) → Str.join NL as = Str.join NL bs → as = bs
  | [], _, h, _, _, _, _ => absurd rfl h
  | _, [], _, h, _, _, _ => absurd rfl h
  | [a], [b], _, _, _, _, e => by
    have e : a = b := e
    rw [e]
  | [a], b :: b2 :: r, _, _, ha, _, e => by
    have e := congrArg (fun z : Str => z.cps.toList) e
    simp only [join_cons] at e
    exact (cut_no (ha a (by simp)) e).elim
  | a :: a2 :: r, [b], _, _, _, hb, e => by
    have e := congrArg (fun z : Str => z.cps.toList) e
    simp only [join_cons] at e
    exact (cut_no (hb b (by simp)) e.symm).elim
  | a :: a2 :: r, b :: b2 :: s, _, _, ha, hb, e => by
    have e := congrArg (fun z : Str => z.cps.toList) e
    simp only [join_cons] at e
    obtain ⟨g1, g2⟩ := cut_at _ _ _ _ (ha a (by simp)) (hb b (by simp)) e
    rw [ext_l g1, join_inj (a2 :: r) (b2 :: s) (by simp) (by simp) (fun z hz => ha z (by simp [hz])) (fun z hz => hb z (by simp [hz])) (ext_l g2)]
theorem ls_text {ls : List Str} (h0 : ls ≠ []) (h : ∀ l ∈ ls, 10 ∉ l.cps.toList) : lsX (Txt.join NL ls) = ls := by
  have hp := ls_pos (Txt.join NL ls)
  refine join_inj _ _ (fun z => by rw [z] at hp; simp at hp) h0 (fun p hp => StrLaws.split_free _ 10 p hp) h ?_
  rw [StrLaws.join_split]
  exact StrLaws.glued_eq_join NL ls
theorem join_flat : ∀ ls : List Str, (Str.join EM ls).cps.toList = ls.flatMap fun y => y.cps.toList
  | [] => rfl
  | [a] => by simp [Str.join]
  | a :: b :: r => by
    rw [join_cons, join_flat (b :: r)]
    simp [List.flatMap_cons]
def sgC (c : Int) : Nat := SG.cps.getD c.toNat 0
theorem ln_chars (w : Nat) (cells : List Int) (k : Nat) : (lnS w cells k).cps.toList = ((cells.drop (k * w)).take w).map sgC := by
  unfold lnS
  show (Builtin.Str.glued EM _).cps.toList = _
  rw [StrLaws.glued_eq_join, join_flat]
  generalize (cells.drop (k * w)).take w = l
  induction l with
  | nil => rfl
  | cons a l ih =>
    rw [List.map_cons, List.flatMap_cons, ih]
    rfl
theorem sg_no {c : Int} : sgC c ≠ 10 ∧ sgC c < 128 := by
  by_cases h : c.toNat < 16
  · have key : ∀ c : Fin 16, SG.cps.getD c.val 0 ≠ 10 ∧ SG.cps.getD c.val 0 < 128 := by decide +kernel
    exact key ⟨c.toNat, h⟩
  · have : SG.cps.getD c.toNat 0 = 0 := by
      rw [Array.getD_eq_getD_getElem?, Array.getElem?_eq_none (by show 16 ≤ c.toNat; omega)]
      rfl
    unfold sgC
    rw [this]
    decide
theorem sg_find {c : Int} (h0 : 0 ≤ c) (h1 : c < 16) : vS (sgC c) = c := by
  have uniq : ∀ (c i : Fin 16), SG.cps.toList[i.val]? = some (SG.cps.getD c.val 0) → i = c := by decide +kernel
  have here : ∀ c : Fin 16, SG.cps.toList[c.val]? = some (SG.cps.getD c.val 0) := by decide +kernel
  have hc : SG.cps.toList[c.toNat]? = some (sgC c) := here ⟨c.toNat, by omega⟩
  unfold vS Txt.find
  rcases StrLaws.occ_head SG ⟨#[sgC c]⟩ 1 (Nat.le_refl _) with ⟨o, hn⟩ | ⟨i, r, o, ha, hk⟩
  · exact absurd ((StrLaws.subAt_one SG (sgC c) c.toNat).mpr hc) (hn c.toNat)
  · rw [o]
    have hi := (StrLaws.subAt_one SG (sgC c) i).mp ha
    have hlt : i < 16 := (List.getElem?_eq_some_iff.mp hi).1
    have := uniq ⟨c.toNat, by omega⟩ ⟨i, hlt⟩ hi
    have e : i = c.toNat := congrArg (fun z : Fin 16 => z.val) this
    show ((i : Nat) : Int) = c
    omega
theorem chunks {α : Type} (w : Nat) : ∀ (h : Nat) (l : List α), l.length = w * h → ((List.range h).flatMap fun k => (l.drop (k * w)).take w) = l
  | 0, l, e => by
    have : l = [] := List.eq_nil_of_length_eq_zero (by simpa using e)
    rw [this]
    rfl
  | h + 1, l, e => by
    have e1 : (l.drop w).length = w * h := by
      rw [List.length_drop, e, Nat.mul_add, Nat.mul_one]
      omega
    have ih := chunks w h (l.drop w) e1
    rw [List.range_succ_eq_map, List.flatMap_cons, List.flatMap_map]
    have e2 : (fun k => (l.drop ((k + 1) * w)).take w) = fun k => ((l.drop w).drop (k * w)).take w := by
      funext k
      rw [List.drop_drop, Nat.add_mul, Nat.one_mul, Nat.add_comm w]
    show (l.drop (0 * w)).take w ++ _ = l
    rw [Nat.zero_mul, List.drop_zero]
    have e3 : ((List.range h).flatMap fun a => (l.drop (Nat.succ a * w)).take w) = l.drop w := by
      rw [← ih] 
      exact congrArg (fun f => (List.range h).flatMap f) e2
    rw [e3, List.take_append_drop]
section
variable {ways : List (Int × Int)} {rule : List Int} {wide high : Int} {cells : List Int} {n : Nat} {st : List SObj}
theorem tx_lines {w h : Nat} (h1 : 1 ≤ h) (cells : List Int) : lsX (txS w h cells) = (List.range h).map (lnS w cells) := by
  refine ls_text (fun z => ?_) fun l hl => ?_
  · have := congrArg List.length z
    simp at this
    omega
  · obtain ⟨k, _, rfl⟩ := List.mem_map.mp hl
    rw [ln_chars]
    intro z
    obtain ⟨c, _, e⟩ := List.mem_map.mp z
    exact sg_no.1 e
theorem ln_size {w h k : Nat} (hk : k < h) (hl : cells.length = w * h) : (lnS w cells k).length = w := by
  have e : (lnS w cells k).length = ((lnS w cells k).cps.toList).length := by simp [Str.length]
  rw [e, ln_chars, List.length_map, List.length_take, List.length_drop, hl]
  have := Nat.mul_le_mul_left w (show k + 1 ≤ h by omega)
  rw [Nat.mul_add, Nat.mul_one, Nat.mul_comm w k] at this
  omega
theorem tx_read {m : Nat} (h4 : m ≤ 4) (b : BrdOk m wide high cells) : rdD m (lsX (txS wide.toNat high.toNat cells)) = brdD wide high cells := by
  have h16 := pow_le h4
  have hcast : (2 ^ m : Int) = ((2 ^ m : Nat) : Int) := by simp
  have hrng := b.rng
  obtain ⟨w, h, rfl, rfl, w1, w8, h1, h8, hl⟩ := brd_nat b
  simp only [Int.toNat_natCast]
  rw [tx_lines h1]
  have hv : vsL ((List.range h).map (lnS w cells)) = cells := by
    unfold vsL
    rw [List.flatMap_map]
    refine Eq.trans ?_ (chunks w h cells hl)
    have : ∀ k, chS (lnS w cells k) = (cells.drop (k * w)).take w := fun k => by
      unfold chS
      rw [ln_chars, List.map_map]
      refine Eq.trans (List.map_congr_left fun c hc => ?_) (List.map_id _)
      have := hrng c (List.mem_of_mem_drop (List.mem_of_mem_take hc))
      exact sg_find this.1 (by omega)
    exact congrArg (fun f => (List.range h).flatMap f) (funext this)
  obtain ⟨g, rfl⟩ : ∃ g, h = g + 1 := ⟨h - 1, by omega⟩
  have hhead : ((List.range (g + 1)).map (lnS w cells)) = lnS w cells 0 :: ((List.range g).map Nat.succ).map (lnS w cells) := by
    rw [List.range_succ_eq_map, List.map_cons]
  have h0 : (lnS w cells 0).length = w := ln_size (h := g + 1) (by omega) hl
  have hsz : szB ((List.range (g + 1)).map (lnS w cells)) = true := by
    have hall : ∀ y ∈ (List.range (g + 1)).map (lnS w cells), y.length = w := fun y hy => by
      obtain ⟨k, hk, rfl⟩ := List.mem_map.mp hy
      exact ln_size (List.mem_range.mp hk) hl
    have hlen : ((List.range (g + 1)).map (lnS w cells)).length = g + 1 := by simp
    rw [hhead] at hall hlen ⊢
    unfold szB
    simp only [Bool.and_eq_true, decide_eq_true_eq, List.all_eq_true]
    refine ⟨by omega, by omega, fun y hy => ?_⟩
    rw [hall y hy, h0]
  have hsg : sgB m ((List.range (g + 1)).map (lnS w cells)) = true := by
    unfold sgB
    rw [hv, List.all_eq_true]
    intro c hc
    have := hrng c hc
    simp only [okV, decide_eq_true_eq]
    exact this
  have hh : (((List.range (g + 1)).map (lnS w cells)).headD EM).length = w := by rw [hhead]; exact h0
  have hlen : ((List.range (g + 1)).map (lnS w cells)).length = g + 1 := by simp
  unfold rdD
  rw [hsz, hsg, hv, hh, hlen]
  rfl
end
end Lp

set_option Elab.async false
set_option linter.all false
set_option maxRecDepth 100000
set_option maxHeartbeats 6400000
/-! K02h: spoiled lines; values that are no boards, no tables. -/
namespace Lp
open PySem Rf Lw
theorem asc_join : ∀ ls : List Str, (∀ l ∈ ls, Asc l) → Asc (Str.join NL ls)
  | [], _ => fun c hc => by
    simp [Str.join, Str.empty] at hc
  | [a], h => h a (by simp)
  | a :: b :: r, h => fun c hc => by
    rw [join_cons] at hc
    rcases List.mem_append.mp hc with hc | hc
    · exact h a (by simp) c hc
    · rcases List.mem_append.mp hc with hc | hc
      · have : c = 10 := by simpa using hc
        omega
      · exact asc_join (b :: r) (fun l hl => h l (by simp [hl])) c hc
theorem asc_tx (w h : Nat) (cells : List Int) : Asc (txS w h cells) := by
  show Asc (Builtin.Str.glued NL _)
  rw [StrLaws.glued_eq_join]
  refine asc_join _ fun l hl => ?_
  obtain ⟨k, _, rfl⟩ := List.mem_map.mp hl
  intro c hc
  rw [ln_chars] at hc
  obtain ⟨v, _, rfl⟩ := List.mem_map.mp hc
  exact sg_no.2
theorem tx_len {w h : Nat} (hw : w ≤ 8) (hh : h ≤ 8) (cells : List Int) : (txS w h cells).length ≤ 100 := by
  show (Builtin.Str.glued NL _).length ≤ 100
  rw [size_glued]
  have := sum_one (lnS w cells) (k := w) (fun c => ln_len) (List.range h)
  rw [List.length_range] at this
  have h3 : NL.length = 1 := rfl
  have h4 : h * w ≤ 8 * 8 := Nat.mul_le_mul hh hw
  rw [h3, List.length_map, List.length_range]
  omega
theorem asc_app {a b : Str} (h1 : Asc a) (h2 : Asc b) : Asc (a ++ b) := fun c hc => by
  have e : (a ++ b).cps.toList = a.cps.toList ++ b.cps.toList := by
    show (a.cps ++ b.cps).toList = _
    rw [Array.toList_append]
  rw [e] at hc
  rcases List.mem_append.mp hc with hc | hc
  · exact h1 c hc
  · exact h2 c hc
theorem app_len (a b : Str) : (a ++ b).length = a.length + b.length := Str.length_append a b
theorem asc_cut {z : Str} (h : Asc z) (lo hi : Option Int) : Asc (L2.cutS z lo hi) := fun c hc => by
  unfold L2.cutS at hc
  exact h c (List.mem_of_mem_drop (List.mem_of_mem_take hc))
theorem cutS_le (z : Str) (lo hi : Option Int) : (L2.cutS z lo hi).length ≤ z.length := by
  unfold L2.cutS
  show ((z.cps.toList.drop _).take _).toArray.size ≤ z.cps.size
  rw [List.size_toArray, List.length_take, List.length_drop, Array.length_toList]
  omega
theorem slc_str {z : Str} (hz : z.length ≤ 1000) (lo hi : Option Int) : slc (.str z) lo hi = some (.d (.str (L2.cutS z lo hi))) := by
  have := sizeLine_eq
  show (if z.length ≤ sizeLine then _ else _) = _
  rw [if_pos (by omega)]
theorem add_str {a b : Str} (h : a.length + b.length ≤ 3000) : bin .Add (.str a) (.str b) = some (.d (.str (a ++ b))) := by
  have := sizeLine_eq
  show (if a.length + b.length ≤ sizeLine then _ else _) = _
  rw [if_pos (by omega)]
def signD : List D := [.str ⟨#[46]⟩, .str ⟨#[49]⟩, .str ⟨#[55]⟩, .str ⟨#[102]⟩, .str ⟨#[65]⟩, .str ⟨#[48]⟩, .str ⟨#[32]⟩, .str ⟨#[10]⟩, .str ⟨#[46, 46]⟩, .str ⟨#[10, 46, 10]⟩]
theorem signs {d : D} (h : d ∈ signD) : ∃ x : Str, d = .str x ∧ x.length ≤ 3 ∧ Asc x := by
  have key : ∀ x : Str, x.length ≤ 3 → (x.cps.toList.all fun c => decide (c < 128)) = true → ∃ y : Str, D.str x = .str y ∧ y.length ≤ 3 ∧ Asc y := fun x h1 h2 => ⟨x, rfl, h1, fun c hc => by
    have := List.all_eq_true.mp h2 c hc
    simpa using this⟩
  simp only [signD, List.mem_cons, List.not_mem_nil, or_false] at h
  rcases h with rfl | rfl | rfl | rfl | rfl | rfl | rfl | rfl | rfl | rfl <;> exact key _ (by decide +kernel) (by decide +kernel)
section
variable {ways : List (Int × Int)} {rule : List Int} {wide high : Int} {cells : List Int} {n : Nat} {st : List SObj}
theorem spoiled (hr : RowOk st) {t : Str} (ht : t.length ≤ 200) (ha : Asc t) (n : Nat) : ∃ (x : Str) (st' : List SObj), callN Gl (n + 3) 19 [.ref 0, .str t] st = some (.ok (.str x), st') ∧ RowOk st' ∧ x.length ≤ 1000 ∧ Asc x := by
  obtain ⟨a, st1, e1, a0, a1, hr1⟩ := taken hr (many := (t.length : Nat) + 1) (by omega) (by omega) (n + 1)
  obtain ⟨b, st2, e2, b0, b1, hr2⟩ := taken hr1 (many := 4) (by omega) (by omega) (n + 1)
  obtain ⟨d, st3, e3, hd, hr3⟩ := pick hr2 (ds := signD) (by simp [signD]) (by simp [signD]) n
  obtain ⟨s, rfl, s1, s2⟩ := signs hd
  have hl := len_str (y := t) (by omega)
  have z10 : 10 ≤ sizeLine := by have := sizeLine_eq; omega
  rw [c__law_spoiled]
  have q1 := slc_str (z := t) (by omega) none (some a)
  have c1 := cutS_le t none (some a)
  have d1 := asc_cut ha none (some a)
  generalize L2.cutS t none (some a) = u at *
  have hem : Asc EM := fun c hc => by simp at hc
  have fin : ∀ (m : Str) (k : Int), m.length ≤ 3 → Asc m → ∃ x : Str, bin .Add (.str u) (.str m) = some (.d (.str (u ++ m))) ∧ slc (.str t) (some (a + k)) none = some (.d (.str (L2.cutS t (some (a + k)) none))) ∧ bin .Add (.str (u ++ m)) (.str (L2.cutS t (some (a + k)) none)) = some (.d (.str x)) ∧ x.length ≤ 1000 ∧ Asc x := fun m k hm am => by
    have c2 := cutS_le t (some (a + k)) none
    have h1 := app_len u m
    have h2 := app_len (u ++ m) (L2.cutS t (some (a + k)) none)
    exact ⟨_, add_str (by omega), slc_str (by omega) _ _, add_str (by omega), by omega, asc_app (asc_app d1 am) (asc_cut ha _ _)⟩
  unfold signD at e3
  by_cases z0 : 0 < b
  · by_cases z2 : b < 2
    · obtain ⟨x, f1, f2, f3, f4, f5⟩ := fin s 1 s1 s2
      refine ⟨x, st3, ?_, hr3, f4, f5⟩
      generalize u ++ s = v at *
      generalize L2.cutS t (some (a + 1)) none = w at *
      have h1 : bin .Add (.int a) (.int 1) = some (.d (.int (a + 1))) := rfl
      have h2 : bin .Add (.int (t.length : Nat)) (.int 1) = some (.d (.int ((t.length : Nat) + 1))) := rfl
      simp [b__law_spoiled, runFn, evSs, evS, evP, evT, evO, evE.eq_1, evE.eq_2, evE.eq_3, evE.eq_5, evE.eq_10, evE.eq_12, evE.eq_14, evE.eq_15, evE.eq_17, evEs, evHs, frz, Sg.fz, Sg.rd, callR, setSlot, cmp, truth, hl, h1, h2, e1, e2, e3, q1, f1, f2, f3, z0, z2, z10]
    · obtain ⟨x, f1, f2, f3, f4, f5⟩ := fin s 0 s1 s2
      refine ⟨x, st3, ?_, hr3, f4, f5⟩
      generalize u ++ s = v at *
      generalize L2.cutS t (some (a + 0)) none = w at *
      have h1 : bin .Add (.int a) (.int 0) = some (.d (.int (a + 0))) := rfl
      have h2 : bin .Add (.int (t.length : Nat)) (.int 1) = some (.d (.int ((t.length : Nat) + 1))) := rfl
      generalize a + 0 = a0 at *
      simp [b__law_spoiled, runFn, evSs, evS, evP, evT, evO, evE.eq_1, evE.eq_2, evE.eq_3, evE.eq_5, evE.eq_10, evE.eq_12, evE.eq_14, evE.eq_15, evE.eq_17, evEs, evHs, frz, Sg.fz, Sg.rd, callR, setSlot, cmp, truth, hl, h1, h2, e1, e2, e3, q1, f1, f2, f3, z0, z2, z10]
  · obtain ⟨x, f1, f2, f3, f4, f5⟩ := fin EM 1 (by decide) hem
    refine ⟨x, st3, ?_, hr3, f4, f5⟩
    have z2 : b < 2 := by omega
    generalize u ++ EM = v at *
    generalize L2.cutS t (some (a + 1)) none = w at *
    have h1 : bin .Add (.int a) (.int 1) = some (.d (.int (a + 1))) := rfl
    have h2 : bin .Add (.int (t.length : Nat)) (.int 1) = some (.d (.int ((t.length : Nat) + 1))) := rfl
    simp [b__law_spoiled, runFn, evSs, evS, evP, evT, evO, evE.eq_1, evE.eq_2, evE.eq_3, evE.eq_5, evE.eq_10, evE.eq_12, evE.eq_14, evE.eq_15, evE.eq_17, evEs, evHs, frz, Sg.fz, Sg.rd, callR, setSlot, cmp, truth, hl, h1, h2, e1, e2, e3, q1, f1, f2, f3, z0, z2, z10]
end
end Lp

set_option Elab.async false
set_option linter.all false
set_option maxRecDepth 100000
set_option maxHeartbeats 6400000
/-! K02i: values that are no boards. -/
namespace Lp
open PySem Rf Lw
section
variable {ways : List (Int × Int)} {rule : List Int} {wide high : Int} {cells : List Int} {n : Nat} {st : List SObj}
/-- three things that are no board -/
def no3 (W : Nat) (a b c : D) : Prop := isW a 1 8 = false ∨ isW b 1 8 = false ∨ ∃ i j : Int, a = .int i ∧ b = .int j ∧ ((∀ ds, c ≠ .tup ds) ∨ ∃ ds, c = .tup ds ∧ (∀ d ∈ ds, plainD d = true) ∧ ds.length ≤ 1000 ∧ (decide ((ds.length : Int) = i * j) && ds.all fun d => isW d 0 (2 ^ W - 1)) = false)
theorem is_board3 (h : TabOk ways rule) {a b c : D} (pa : plainD a = true) (pb : plainD b = true) (pc : plainD c = true) (hno : no3 ways.length a b c) (n : Nat) (st : List SObj) : callN Gl (n + 4) 3 [tabD ways rule, .tup [a, b, c]] st = some (.ok (.bl false), st) := by
  rw [c_is_board]
  have it := is_table h n st
  have nd := need_t (.str { cps := #[116, 97, 98, 108, 101] }) (n + 2) st
  have w0 := is_whole pa 1 8 (n + 2) st
  have w1 := is_whole pb 1 8 (n + 2) st
  cases q0 : isW a 1 8 with
  | false =>
    rw [q0] at w0
    simp [b_is_board, runFn, evSs, evS, evE.eq_1, evE.eq_2, evE.eq_3, evE.eq_4, evE.eq_5, evE.eq_6, evE.eq_7, evE.eq_8, evE.eq_9, evE.eq_10, evE.eq_11, evE.eq_12, evE.eq_13, evE.eq_14, evE.eq_15, evE.eq_16, evE.eq_17, evE.eq_18, evE.eq_19, evEs, evHs, evT, evC, evO, evI, evW, evP, asg, asgTs_nil, asgTs_cons, asg_tup, frz, setSlot, callR, Sg.fz, Sg.rd, bin, un, cmp, truth, idx, slc, setI, methI, seqI, bcall, isNon, List.mapM_cons, List.mapM_nil, List.length_cons, List.length_nil, List.map_cons, List.map_nil, List.getElem?_cons_zero, List.getElem?_cons_succ, List.set_cons_zero, List.set_cons_succ, List.replicate, List.cons_append, List.nil_append, restore, wipeE, List.foldl_cons, List.foldl_nil, List.getD_cons_zero, List.getD_cons_succ, bools_map, ints_map, eqD_int, eqD_bl, binI_add, binI_sub, binI_and, binI_or, ixNat, it, nd, w0]
  | true =>
    rw [q0] at w0
    cases q1 : isW b 1 8 with
    | false =>
      rw [q1] at w1
      simp [b_is_board, runFn, evSs, evS, evE.eq_1, evE.eq_2, evE.eq_3, evE.eq_4, evE.eq_5, evE.eq_6, evE.eq_7, evE.eq_8, evE.eq_9, evE.eq_10, evE.eq_11, evE.eq_12, evE.eq_13, evE.eq_14, evE.eq_15, evE.eq_16, evE.eq_17, evE.eq_18, evE.eq_19, evEs, evHs, evT, evC, evO, evI, evW, evP, asg, asgTs_nil, asgTs_cons, asg_tup, frz, setSlot, callR, Sg.fz, Sg.rd, bin, un, cmp, truth, idx, slc, setI, methI, seqI, bcall, isNon, List.mapM_cons, List.mapM_nil, List.length_cons, List.length_nil, List.map_cons, List.map_nil, List.getElem?_cons_zero, List.getElem?_cons_succ, List.set_cons_zero, List.set_cons_succ, List.replicate, List.cons_append, List.nil_append, restore, wipeE, List.foldl_cons, List.foldl_nil, List.getD_cons_zero, List.getD_cons_succ, bools_map, ints_map, eqD_int, eqD_bl, binI_add, binI_sub, binI_and, binI_or, ixNat, it, nd, w0, w1]
    | true =>
      rw [q1] at w1
      rcases hno with h' | h' | ⟨i, j, rfl, rfl, hc⟩
      · rw [q0] at h'
        cases h'
      · rw [q1] at h'
        cases h'
      · simp only [isW, decide_eq_true_eq] at q0 q1
        have hmul : binI .Mult i j = some (i * j) := binI_mul (.inl ⟨by omega, by omega⟩)
        have l4 := h.l4
        have hbin := binI_shl (k := ways.length) (by omega)
        have ha : callN Gl (n + 3) 1 [c, .int (i * j), .int 0, .int (2 ^ ways.length - 1)] st = some (.ok (.bl false), st) := by
          rcases hc with hc | ⟨ds, rfl, hp, hl, hf⟩
          · exact are_wholes0 pc hc _ _ _ (n + 1) st
          · have := are_wholes hp hl (i * j) 0 (2 ^ ways.length - 1) (n + 1) st
            rw [hf] at this
            exact this
        unfold tabD at it ⊢
        simp [b_is_board, runFn, evSs, evS, evE.eq_1, evE.eq_2, evE.eq_3, evE.eq_4, evE.eq_5, evE.eq_6, evE.eq_7, evE.eq_8, evE.eq_9, evE.eq_10, evE.eq_11, evE.eq_12, evE.eq_13, evE.eq_14, evE.eq_15, evE.eq_16, evE.eq_17, evE.eq_18, evE.eq_19, evEs, evHs, evT, evC, evO, evI, evW, evP, asg, asgTs_nil, asgTs_cons, asg_tup, frz, setSlot, callR, Sg.fz, Sg.rd, bin, un, cmp, truth, idx, slc, setI, methI, seqI, bcall, isNon, List.mapM_cons, List.mapM_nil, List.length_cons, List.length_nil, List.map_cons, List.map_nil, List.getElem?_cons_zero, List.getElem?_cons_succ, List.set_cons_zero, List.set_cons_succ, List.replicate, List.cons_append, List.nil_append, restore, wipeE, List.foldl_cons, List.foldl_nil, List.getD_cons_zero, List.getD_cons_succ, bools_map, ints_map, eqD_int, eqD_bl, binI_add, binI_sub, binI_and, binI_or, ixNat, it, nd, w0, w1, hmul, hbin, ha]
theorem is_table_n {ds : List D} (hl : ds.length ≠ 2) (n : Nat) (st : List SObj) : callN Gl (n + 3) 2 [.tup ds] st = some (.ok (.bl false), st) := by
  rw [c_is_table]
  have hl' : ¬ ((ds.length : Nat) : Int) = 2 := by omega
  simp [b_is_table, runFn, evSs, evS, evE.eq_1, evE.eq_2, evE.eq_3, evE.eq_4, evE.eq_5, evE.eq_6, evE.eq_7, evE.eq_8, evE.eq_9, evE.eq_10, evE.eq_11, evE.eq_12, evE.eq_13, evE.eq_14, evE.eq_15, evE.eq_16, evE.eq_17, evE.eq_18, evE.eq_19, evEs, evHs, evT, evC, evO, evI, evW, evP, asg, asgTs_nil, asgTs_cons, asg_tup, frz, setSlot, callR, Sg.fz, Sg.rd, bin, un, cmp, truth, idx, slc, setI, methI, seqI, bcall, isNon, List.mapM_cons, List.mapM_nil, List.length_cons, List.length_nil, List.map_cons, List.map_nil, List.getElem?_cons_zero, List.getElem?_cons_succ, List.set_cons_zero, List.set_cons_succ, List.replicate, List.cons_append, List.nil_append, restore, wipeE, List.foldl_cons, List.foldl_nil, List.getD_cons_zero, List.getD_cons_succ, bools_map, ints_map, eqD_int, eqD_bl, binI_add, binI_sub, binI_and, binI_or, hl']
theorem is_table_2 (i : Int) (x : D) (n : Nat) (st : List SObj) : callN Gl (n + 3) 2 [.tup [.int i, x]] st = some (.ok (.bl false), st) := by
  rw [c_is_table]
  simp [b_is_table, runFn, evSs, evS, evE.eq_1, evE.eq_2, evE.eq_3, evE.eq_4, evE.eq_5, evE.eq_6, evE.eq_7, evE.eq_8, evE.eq_9, evE.eq_10, evE.eq_11, evE.eq_12, evE.eq_13, evE.eq_14, evE.eq_15, evE.eq_16, evE.eq_17, evE.eq_18, evE.eq_19, evEs, evHs, evT, evC, evO, evI, evW, evP, asg, asgTs_nil, asgTs_cons, asg_tup, frz, setSlot, callR, Sg.fz, Sg.rd, bin, un, cmp, truth, idx, slc, setI, methI, seqI, bcall, isNon, List.mapM_cons, List.mapM_nil, List.length_cons, List.length_nil, List.map_cons, List.map_nil, List.getElem?_cons_zero, List.getElem?_cons_succ, List.set_cons_zero, List.set_cons_succ, List.replicate, List.cons_append, List.nil_append, restore, wipeE, List.foldl_cons, List.foldl_nil, List.getD_cons_zero, List.getD_cons_succ, bools_map, ints_map, eqD_int, eqD_bl, binI_add, binI_sub, binI_and, binI_or, ixNat]
/-- neither a board nor a table -/
def Odd (ways : List (Int × Int)) (rule : List Int) (d : D) : Prop := (∀ n st, callN Gl (n + 4) 3 [tabD ways rule, d] st = some (.ok (.bl false), st)) ∧ ∀ n st, callN Gl (n + 3) 2 [d] st = some (.ok (.bl false), st)
def oddD (W : Nat) (w h : Int) (cells : List Int) : List D := [.non, .tup [.int w, .int h], .tup [.int w, .int h, .lst (iD cells)], .tup [.int (w + 1), .int h, .tup (iD cells)], .tup [.int w, .int h, .tup (iD cells ++ [.int 0])], .lst [.int w, .int h, .tup (iD cells)],
  .tup [.int w, .int h, .tup (cut (iD cells) none (some (-1)) ++ [.int (2 ^ W)])], .tup [.int w, .int h, .tup (cut (iD cells) none (some (-1)) ++ [.bl true])], .tup [.int 0, .int h, .tup []], .tup [.int 9, .int 1, .tup (iD (List.replicate 9 0))], .tup [.bl true, .int h, .tup (iD cells)]]
theorem cut_sub {α : Type} (l : List α) (a b : Option Int) : ∀ x ∈ cut l a b, x ∈ l := fun x hx => by
  unfold cut at hx
  exact List.mem_of_mem_drop (List.mem_of_mem_take hx)
theorem cut_len {α : Type} (l : List α) (a b : Option Int) : (cut l a b).length ≤ l.length := by
  unfold cut
  rw [List.length_take, List.length_drop]
  omega
theorem odd_all (h : TabOk ways rule) (b : BrdOk ways.length wide high cells) : ∀ d ∈ oddD ways.length wide high cells, Odd ways rule d := by
  have w1 := b.w1
  have w8 := b.w8
  have h1 := b.h1
  have h8 := b.h8
  have hl := b.len
  have h64 := b.n64
  have hpos : 0 < wide * high := Int.mul_pos (by omega) (by omega)
  have i3 : ∀ {x y z : D}, plainD x = true → plainD y = true → plainD z = true → no3 ways.length x y z → Odd ways rule (.tup [x, y, z]) := fun px py pz hn => ⟨fun n st => is_board3 h px py pz hn n st, fun n st => is_table_n (by simp) n st⟩
  have pcut : ∀ d ∈ cut (iD cells) none (some (-1)), plainD d = true := fun d hd => plain_iD cells d (cut_sub _ _ _ d hd)
  have lcut := cut_len (iD cells) none (some (-1))
  rw [iD_len] at lcut
  have last : ∀ {z : D}, plainD z = true → isW z 0 (2 ^ ways.length - 1) = false → no3 ways.length (.int wide) (.int high) (.tup (cut (iD cells) none (some (-1)) ++ [z])) := fun {z} pz hz => .inr (.inr ⟨wide, high, rfl, rfl, .inr ⟨_, rfl, fun d hd => by
      rcases List.mem_append.mp hd with hd | hd
      · exact pcut d hd
      · rw [List.mem_singleton.mp hd]
        exact pz, by rw [List.length_append]; simp only [List.length_cons, List.length_nil]; omega, by
      rw [List.all_append]
      simp [hz]⟩⟩)
  intro d hd
  simp only [oddD, List.mem_cons, List.not_mem_nil, or_false] at hd
  rcases hd with rfl | rfl | rfl | rfl | rfl | rfl | rfl | rfl | rfl | rfl | rfl
  · exact ⟨fun n st => is_board_f h (.inl ⟨rfl, fun _ z => by cases z⟩) n st, fun n st => is_table_f (.inl rfl) n st⟩
  · exact ⟨fun n st => is_board_f h (.inr (.inl ⟨_, rfl, by simp⟩)) n st, fun n st => is_table_2 _ _ n st⟩
  · exact i3 rfl rfl rfl (.inr (.inr ⟨_, _, rfl, rfl, .inl fun ds z => by cases z⟩))
  · refine i3 rfl rfl rfl (.inr (.inr ⟨_, _, rfl, rfl, .inr ⟨_, rfl, plain_iD cells, by rw [iD_len]; omega, ?_⟩⟩))
    rw [decide_eq_false (by
      rw [iD_len, hl, Int.add_mul, Int.one_mul]
      omega)]
    rfl
  · refine i3 rfl rfl rfl (.inr (.inr ⟨_, _, rfl, rfl, .inr ⟨_, rfl, fun d hd => ?_, by rw [List.length_append, iD_len]; simp only [List.length_cons, List.length_nil]; omega, ?_⟩⟩))
    · rcases List.mem_append.mp hd with hd | hd
      · exact plain_iD cells d hd
      · rw [List.mem_singleton.mp hd]
        rfl
    · rw [decide_eq_false (by
        rw [List.length_append, iD_len]
        simp only [List.length_cons, List.length_nil]
        omega)]
      rfl
  · exact ⟨fun n st => is_board_f h (.inl ⟨rfl, fun _ z => by cases z⟩) n st, fun n st => is_table_f (.inr (.inr ⟨_, rfl⟩)) n st⟩
  · exact i3 rfl rfl rfl (last rfl (by
      simp only [isW, decide_eq_false_iff_not]
      omega))
  · exact i3 rfl rfl rfl (last rfl rfl)
  · exact i3 rfl rfl rfl (.inl (by decide))
  · exact i3 rfl rfl rfl (.inl (by decide))
  · exact i3 rfl rfl rfl (.inl rfl)
theorem x_drawn (h : TabOk ways rule) {d : D} (o : Odd ways rule d) (n : Nat) (st : List SObj) : callN Gl (n + 6) 6 [tabD ways rule, d] st = some (.exc ⟨0, [(.str { cps := #[98, 111, 97, 114, 100] })]⟩, st) := by
  have it := is_table h (n + 1) st
  have ib := o.1 n st
  have nf := need_f (.str { cps := #[98, 111, 97, 114, 100] }) (n + 3) st
  have nt := need_t (.str { cps := #[116, 97, 98, 108, 101] }) (n + 3) st
  have nb : callN Gl (n + 5) 5 [tabD ways rule, d] st = some (.exc ⟨0, [(.str { cps := #[98, 111, 97, 114, 100] })]⟩, st) := by
    rw [c_need_board]
    simp [b_need_board, runFn, evSs, evS, evE.eq_1, evE.eq_2, evE.eq_3, evE.eq_4, evE.eq_5, evE.eq_6, evE.eq_7, evE.eq_8, evE.eq_9, evE.eq_10, evE.eq_11, evE.eq_12, evE.eq_13, evE.eq_14, evE.eq_15, evE.eq_16, evE.eq_17, evE.eq_18, evE.eq_19, evEs, evHs, evT, evC, evO, evI, evW, evP, asg, asgTs_nil, asgTs_cons, asg_tup, frz, setSlot, callR, Sg.fz, Sg.rd, bin, un, cmp, truth, idx, slc, setI, methI, seqI, bcall, isNon, List.mapM_cons, List.mapM_nil, List.length_cons, List.length_nil, List.map_cons, List.map_nil, List.getElem?_cons_zero, List.getElem?_cons_succ, List.set_cons_zero, List.set_cons_succ, List.replicate, List.cons_append, List.nil_append, restore, wipeE, List.foldl_cons, List.foldl_nil, List.getD_cons_zero, List.getD_cons_succ, bools_map, ints_map, eqD_int, eqD_bl, binI_add, binI_sub, binI_and, binI_or, it, ib, nf, nt]
  rw [c_drawn]
  simp [b_drawn, runFn, evSs, evS, evE.eq_1, evE.eq_15, evEs, frz, Sg.fz, callR, nb]
theorem x_drawn_t {d e : D} (o : Odd ways rule d) (n : Nat) (st : List SObj) : callN Gl (n + 6) 6 [d, e] st = some (.exc ⟨0, [(.str { cps := #[116, 97, 98, 108, 101] })]⟩, st) := by
  have it := o.2 (n + 1) st
  have nf := need_f (.str { cps := #[116, 97, 98, 108, 101] }) (n + 3) st
  have nb : callN Gl (n + 5) 5 [d, e] st = some (.exc ⟨0, [(.str { cps := #[116, 97, 98, 108, 101] })]⟩, st) := by
    rw [c_need_board]
    simp [b_need_board, runFn, evSs, evS, evE.eq_1, evE.eq_2, evE.eq_3, evE.eq_4, evE.eq_5, evE.eq_6, evE.eq_7, evE.eq_8, evE.eq_9, evE.eq_10, evE.eq_11, evE.eq_12, evE.eq_13, evE.eq_14, evE.eq_15, evE.eq_16, evE.eq_17, evE.eq_18, evE.eq_19, evEs, evHs, evT, evC, evO, evI, evW, evP, asg, asgTs_nil, asgTs_cons, asg_tup, frz, setSlot, callR, Sg.fz, Sg.rd, bin, un, cmp, truth, idx, slc, setI, methI, seqI, bcall, isNon, List.mapM_cons, List.mapM_nil, List.length_cons, List.length_nil, List.map_cons, List.map_nil, List.getElem?_cons_zero, List.getElem?_cons_succ, List.set_cons_zero, List.set_cons_succ, List.replicate, List.cons_append, List.nil_append, restore, wipeE, List.foldl_cons, List.foldl_nil, List.getD_cons_zero, List.getD_cons_succ, bools_map, ints_map, eqD_int, eqD_bl, binI_add, binI_sub, binI_and, binI_or, it, nf]
  rw [c_drawn]
  simp [b_drawn, runFn, evSs, evS, evE.eq_1, evE.eq_15, evEs, frz, Sg.fz, callR, nb]
theorem x_read (h : TabOk ways rule) (n : Nat) (st : List SObj) : callN Gl (n + 4) 7 [tabD ways rule, .int 5] st = some (.exc ⟨0, [(.str { cps := #[116, 101, 120, 116] })]⟩, st) := by
  have it := is_table h n st
  have nt := need_t (.str { cps := #[116, 97, 98, 108, 101] }) (n + 2) st
  have nf := need_f (.str { cps := #[116, 101, 120, 116] }) (n + 2) st
  have hb : bcall .isStr [.int 5] = some (.d (.bl false)) := rfl
  rw [c_read_board]
  simp [b_read_board, runFn, evSs, evS, evE.eq_1, evE.eq_2, evE.eq_15, evE.eq_17, evEs, evHs, frz, Sg.fz, Sg.rd, callR, it, nt, nf, hb]
theorem x_board (e : D) (n : Nat) (st : List SObj) : callN Gl (n + 4) 3 [.non, e] st = some (.exc ⟨0, [(.str { cps := #[116, 97, 98, 108, 101] })]⟩, st) := by
  have it := is_table_f (d := .non) (.inl rfl) n st
  have nf := need_f (.str { cps := #[116, 97, 98, 108, 101] }) (n + 2) st
  rw [c_is_board]
  simp [b_is_board, runFn, evSs, evS, evE.eq_1, evE.eq_2, evE.eq_15, evEs, frz, Sg.fz, callR, it, nf]
end
end Lp

set_option Elab.async false
set_option linter.all false
set_option maxRecDepth 100000
set_option maxHeartbeats 6400000
/-! K02j: the law. -/
namespace Lp
open PySem Rf Lw
abbrev LE (ns : List Int) (a2 a3 a4 a5 a6 a7 a8 a9 a10 a11 a12 : Rf.Slot) : List Rf.Slot := [.val (.fl ns), .val (.ref 0), a2, a3, a4, a5, a6, a7, a8, a9, a10, a11, a12, .un]
def lawB : List S := match b_law with
  | [_, .loop _ _ b, _] => b
  | _ => []
theorem vs_small : ∀ {ls : List Str} {k : Nat}, (∀ y ∈ ls, y.length ≤ k) → (vsL ls).length ≤ ls.length * k
  | [], _, _ => by simp [vsL]
  | y :: ls, k, h => by
    have e1 := vs_small (ls := ls) (k := k) fun z hz => h z (by simp [hz])
    have e2 := h y (by simp)
    have e3 := ch_len y
    show (chS y ++ vsL ls).length ≤ _
    rw [List.length_append, e3, List.length_cons, Nat.add_mul, Nat.one_mul]
    omega
theorem it_rd (W : Nat) (ls : List Str) : ItX 2 (rdD W ls) := by
  unfold rdD
  split
  · rename_i h
    simp only [Bool.and_eq_true] at h
    have hs := h.1
    have hl : (vsL ls).length ≤ 1000 := by
      cases ls with
      | nil => cases hs
      | cons l r =>
        simp only [szB, Bool.and_eq_true, decide_eq_true_eq, List.all_eq_true] at hs
        have := vs_small (ls := l :: r) (k := 8) fun y hy => by
          have := hs.2.2 y hy
          omega
        omega
    exact ItX.brd _ _ _ hl
  · exact .non
section
variable {ways : List (Int × Int)} {rule : List Int} {wide high : Int} {cells : List Int} {n : Nat} {st : List SObj}
theorem law_a (hr : RowOk st) (ns : List Int) (a2 a3 a4 a5 a6 a7 a8 a9 a10 a11 a12 : Rf.Slot) : ∃ (ways : List (Int × Int)) (rule : List Int) (wide high : Int) (cells : List Int) (b5 b6 : Rf.Slot) (st' : List SObj), evSs (callN Gl (n + 6)) (lawB.take 7) ⟨LE ns a2 a3 a4 a5 a6 a7 a8 a9 a10 a11 a12, st⟩ =
    some (.nx, ⟨LE ns a2 (.val (tabD ways rule)) (.val (brdD wide high cells)) b5 b6 a7 a8 a9 (.val (.int wide)) (.val (.int high)) (.val (.tup (iD cells))), st'⟩) ∧ RowOk st' ∧ TabOk ways rule ∧ BrdOk ways.length wide high cells := by
  obtain ⟨ways, rule, st1, e1, hr1, ht, m1, m4⟩ := table hr (least := 1) (most := 4) (by omega) (by omega) (by omega) (n + 2)
  obtain ⟨w, st2, e2, w0, w1, hr2⟩ := taken hr1 (many := 8) (by omega) (by omega) (n + 5)
  obtain ⟨h, st3, e3, h0, h1, hr3⟩ := taken hr2 (many := 8) (by omega) (by omega) (n + 5)
  obtain ⟨cells, st4, e4, hr4, bo⟩ := board hr3 (ways := ways) (rule := rule) ht.l1 ht.l4 (wide := 1 + w) (high := 1 + h) (by omega) (by omega) (by omega) (by omega) (n + 4)
  have e5 := law_lines (m := ways.length) ht.l4 bo (n + 5) st4
  have e6 := drawn ht bo n st4
  have htl := tx_len (w := (1 + w).toNat) (h := (1 + h).toNat) (by omega) (by omega) cells
  have hta := asc_tx (1 + w).toNat (1 + h).toNat cells
  have e7 := read_board ht (x := txS (1 + w).toNat (1 + h).toNat cells) (by omega) (n + 2) st4
  rw [tx_read ht.l4 bo] at e7
  have e8 := alikeX 2 _ (ItX.brd (k := 0) (1 + w) (1 + h) cells (by have := bo.n64; omega)) (n + 3) st4
  obtain ⟨x, st5, e9, hr5, hxl, hxa⟩ := spoiled hr4 (t := txS (1 + w).toNat (1 + h).toNat cells) (by omega) hta (n + 3)
  have e10 := read_board ht (x := x) hxl (n + 2) st5
  have e11 := law_read ht (x := x) hxl hxa (n + 5) st5
  have e12 := alikeX 2 _ (it_rd ways.length (lsX x)) (n + 3) st5
  have eq : eqD (.str (txS (1 + w).toNat (1 + h).toNat cells)) (.str (txS (1 + w).toNat (1 + h).toNat cells)) = some true := eqD_refl' (asc_ok hta) (by simp [dptD])
  refine ⟨ways, rule, 1 + w, 1 + h, cells, .val (.str (txS (1 + w).toNat (1 + h).toNat cells)), .val (.str x), st5, ?_, hr5, ht, bo⟩
  have hbd : brdD (1 + w) (1 + h) cells = .tup [.int (1 + w), .int (1 + h), .tup (iD cells)] := rfl
  have hasg : ∀ (b5 b6 : Rf.Slot), evS (callN Gl (n + 6)) (.asg (.tup [.name 10, .name 11, .name 12]) (.var 4)) ⟨LE ns a2 (.val (tabD ways rule)) (.val (brdD (1 + w) (1 + h) cells)) b5 b6 a7 a8 a9 a10 a11 a12, st5⟩ = some (.nx, ⟨LE ns a2 (.val (tabD ways rule)) (.val (brdD (1 + w) (1 + h) cells)) b5 b6 a7 a8 a9 (.val (.int (1 + w))) (.val (.int (1 + h))) (.val (.tup (iD cells))), st5⟩) := fun b5 b6 => by
    rw [hbd]
    simp [LE, evS, asg, asg_tup, asgTs_cons, asgTs_nil, evE.eq_1, frz, Sg.fz]
  have eb : lawB.take 7 = lawB.take 6 ++ [.asg (.tup [.name 10, .name 11, .name 12]) (.var 4)] := rfl
  have h1' : bin .Add (.int 1) (.int w) = some (.d (.int (1 + w))) := rfl
  have h2' : bin .Add (.int 1) (.int h) = some (.d (.int (1 + h))) := rfl
  have main : evSs (callN Gl (n + 6)) (lawB.take 6) ⟨LE ns a2 a3 a4 a5 a6 a7 a8 a9 a10 a11 a12, st⟩ = some (.nx, ⟨LE ns a2 (.val (tabD ways rule)) (.val (brdD (1 + w) (1 + h) cells)) (.val (.str (txS (1 + w).toNat (1 + h).toNat cells))) (.val (.str x)) a7 a8 a9 a10 a11 a12, st5⟩) := by
    clear hasg hbd htl
    generalize txS (1 + w).toNat (1 + h).toNat cells = tx at *
    generalize brdD (1 + w) (1 + h) cells = bd at *
    generalize rdD ways.length (lsX x) = rx at *
    generalize (1 : Int) + w = w' at *
    generalize (1 : Int) + h = h' at *
    simp [lawB, b_law, LE, evSs, evS, evT, truth, evE.eq_1, evE.eq_2, evE.eq_3, evE.eq_5, evE.eq_15, evE.eq_16, evEs, frz, Sg.fz, Sg.rd, callR, setSlot, cmp, h1', h2', e1, e2, e3, e4, e5, e6, e7, e8, e9, e10, e11, e12, eq]
  rw [eb, evSs_app, main, seqF_nx, evSs_cons, hasg, seqF_nx, evSs_nil]
theorem law_b (hr : RowOk st) (h : TabOk ways rule) (b : BrdOk ways.length wide high cells) (ns : List Int) (a2 a5 a6 a7 a8 a9 : Rf.Slot) : ∃ (b7 b8 b9 : Rf.Slot) (st' : List SObj), evSs (callN Gl (n + 6)) (lawB.drop 7) ⟨LE ns a2 (.val (tabD ways rule)) (.val (brdD wide high cells)) a5 a6 a7 a8 a9 (.val (.int wide)) (.val (.int high)) (.val (.tup (iD cells))), st⟩ =
    some (.nx, ⟨LE ns a2 (.val (tabD ways rule)) (.val (brdD wide high cells)) a5 a6 b7 b8 b9 (.val (.int wide)) (.val (.int high)) (.val (.tup (iD cells))), st'⟩) ∧ RowOk st' := by
  have hz := sizeLine_eq
  have z0 : 0 ≤ sizeLine := by omega
  have z1 : 1 ≤ sizeLine := by omega
  have z2 : 2 ≤ sizeLine := by omega
  have z3 : 3 ≤ sizeLine := by omega
  have z4 : 4 ≤ sizeLine := by omega
  have z11 : 11 ≤ sizeLine := by omega
  have h64 := b.n64
  have hi0 : ∀ (st : List SObj), idx st (tabD ways rule) (.int 0) = some (.tup (ways.map wayD)) := fun _ => by simp [idx, tabD, ixNat]
  have l4 := h.l4
  have hbl : bcall .len [.tup (ways.map wayD)] = some (.d (.int (ways.length : Nat))) := by simp [bcall]
  have hsh : bin .LShift (.int 1) (.int (ways.length : Nat)) = some (.d (.int (2 ^ ways.length))) := by
    show (binI .LShift 1 (ways.length : Nat)).map (fun k => Hd.d (.int k)) = _
    rw [binI_shl (by omega)]
    rfl
  have hli : bcall .list [.tup (iD cells)] = some (.own (iD cells)) := rfl
  have ha1 : bin .Add (.int wide) (.int 1) = some (.d (.int (wide + 1))) := rfl
  have ha2 : bin .Add (.tup (iD cells)) (.tup [.int 0]) = some (.d (.tup (iD cells ++ [.int 0]))) := by
    show (if (iD cells).length + 1 ≤ sizeLine then _ else _) = _
    rw [if_pos (by rw [iD_len]; omega)]
  have hsl : slc (.tup (iD cells)) none (some (-1)) = some (.d (.tup (cut (iD cells) none (some (-1))))) := rfl
  have lcut := cut_len (iD cells) none (some (-1))
  rw [iD_len] at lcut
  have ha3 : ∀ z : D, bin .Add (.tup (cut (iD cells) none (some (-1)))) (.tup [z]) = some (.d (.tup (cut (iD cells) none (some (-1)) ++ [z]))) := fun z => by
    show (if (cut (iD cells) none (some (-1))).length + 1 ≤ sizeLine then _ else _) = _
    rw [if_pos (by omega)]
  have hmu : bin .Mult (.tup [.int 0]) (.int 9) = some (.d (.tup (iD (List.replicate 9 0)))) := by
    unfold bin
    dsimp only
    rw [if_neg (by omega), if_pos ⟨by simp, by omega, by omega, by simp⟩]
    rfl
  have e0 : evS (callN Gl (n + 6)) (lawB.getD 7 .brk) ⟨LE ns a2 (.val (tabD ways rule)) (.val (brdD wide high cells)) a5 a6 a7 a8 a9 (.val (.int wide)) (.val (.int high)) (.val (.tup (iD cells))), st⟩ = some (.nx, ⟨LE ns a2 (.val (tabD ways rule)) (.val (brdD wide high cells)) a5 a6 (.own (oddD ways.length wide high cells)) a8 a9 (.val (.int wide)) (.val (.int high)) (.val (.tup (iD cells))), st⟩) := by
    unfold oddD
    generalize cut (iD cells) none (some (-1)) = cu at *
    generalize iD (List.replicate 9 0) = rp at *
    generalize iD cells = ds at *
    generalize (2 : Int) ^ ways.length = pw at *
    simp [lawB, b_law, LE, evS, evO, evE.eq_1, evE.eq_2, evE.eq_3, evE.eq_4, evE.eq_11, evE.eq_12, evE.eq_13, evE.eq_14, evE.eq_17, evEs, evHs, frz, Sg.fz, Sg.rd, setSlot, un, hi0, hbl, hsh, hli, ha1, ha2, hsl, ha3, hmu, z0, z1, z2, z3, z11]
  have hodd := odd_all h b
  obtain ⟨d, st1, e1, hd, hr1⟩ := pick hr (ds := oddD ways.length wide high cells) (by simp [oddD]) (by simp [oddD]) (n + 4)
  have hlen : (oddD ways.length wide high cells).length = 11 := rfl
  have od := hodd d hd
  have r1 := x_drawn h od n st1
  have r2 := x_drawn_t (e := brdD wide high cells) od n st1
  have r3 := x_read h (n + 2) st1
  have r4 := x_board (brdD wide high cells) (n + 2) st1
  have ib := is_board h b (n + 2) st1
  have eq : eqD (.lst [(.str { cps := #[98, 111, 97, 114, 100] }), (.str { cps := #[116, 97, 98, 108, 101] }), (.str { cps := #[116, 101, 120, 116] }), (.str { cps := #[116, 97, 98, 108, 101] })]) (.lst [(.str { cps := #[98, 111, 97, 114, 100] }), (.str { cps := #[116, 97, 98, 108, 101] }), (.str { cps := #[116, 101, 120, 116] }), (.str { cps := #[116, 97, 98, 108, 101] })]) = some true := eqD_refl' (by decide +kernel) (by decide +kernel)
  generalize oddD ways.length wide high cells = us at *
  have key := comp_filter (cl := callN Gl (n + 6)) (vs := [13]) (elt := .var 13) (t := .name 13) (it := .seq (.var 7)) (c := some (.e (.call 3 [.var 3, .var 13]))) (o := none)
    (s := ⟨LE ns a2 (.val (tabD ways rule)) (.val (brdD wide high cells)) a5 a6 (.val (.lst us)) (.val d) a9 (.val (.int wide)) (.val (.int high)) (.val (.tup (iD cells))), st1⟩) (s1 := ⟨LE ns a2 (.val (tabD ways rule)) (.val (brdD wide high cells)) a5 a6 (.val (.lst us)) (.val d) a9 (.val (.int wide)) (.val (.int high)) (.val (.tup (iD cells))), st1⟩) us (fun d => d) (fun _ => false) (fun d => d)
    (by simp [LE, evW, evE.eq_1, Sg.fz, seqI]) rfl (fun v hv => by
      have e := (hodd v hv).1 (n + 2) st1
      generalize iD cells = ds at *
      simp [LE, turnC, asg, evC, evT, evE.eq_1, evE.eq_15, evEs, frz, Sg.fz, Sg.rd, callR, wipeE, e, truth]) (by rw [hlen]; omega)
  have hf : (us.filter fun _ => false) = [] := by simp
  rw [hf, List.map_nil] at key
  have hrest : (⟨restore [13] (LE ns a2 (.val (tabD ways rule)) (.val (brdD wide high cells)) a5 a6 (.val (.lst us)) (.val d) a9 (.val (.int wide)) (.val (.int high)) (.val (.tup (iD cells)))) (wipeE [13] (LE ns a2 (.val (tabD ways rule)) (.val (brdD wide high cells)) a5 a6 (.val (.lst us)) (.val d) a9 (.val (.int wide)) (.val (.int high)) (.val (.tup (iD cells))))), st1⟩ : Sg) = ⟨LE ns a2 (.val (tabD ways rule)) (.val (brdD wide high cells)) a5 a6 (.val (.lst us)) (.val d) a9 (.val (.int wide)) (.val (.int high)) (.val (.tup (iD cells))), st1⟩ := rfl
  have key' := Eq.trans key (congrArg some (congrArg (Prod.mk _) hrest))
  have e2 : evS (callN Gl (n + 6)) (.asg (.name 8) (.call 9 [.var 1, .var 7])) ⟨LE ns a2 (.val (tabD ways rule)) (.val (brdD wide high cells)) a5 a6 (.own us) a8 a9 (.val (.int wide)) (.val (.int high)) (.val (.tup (iD cells))), st⟩ = some (.nx, ⟨LE ns a2 (.val (tabD ways rule)) (.val (brdD wide high cells)) a5 a6 (.val (.lst us)) (.val d) a9 (.val (.int wide)) (.val (.int high)) (.val (.tup (iD cells))), st1⟩) := by
    generalize iD cells = ds at *
    simp [LE, evS, evE.eq_1, evE.eq_15, evEs, frz, Sg.fz, callR, setSlot, e1]
  refine ⟨.val (.lst us), .val d, .own [(.str { cps := #[98, 111, 97, 114, 100] }), (.str { cps := #[116, 97, 98, 108, 101] }), (.str { cps := #[116, 101, 120, 116] }), (.str { cps := #[116, 97, 98, 108, 101] })], st1, ?_, hr1⟩
  have eb : lawB.drop 7 = [lawB.getD 7 .brk, .asg (.name 8) (.call 9 [.var 1, .var 7]), .ife (.or (.e (.cmp .NotEq (.comp [13] (.var 13) (.name 13) (.seq (.var 7)) (some (.e (.call 3 [.var 3, .var 13])))) (.lst []))) (.not (.e (.callK 3 [.var 3] [.var 4] [0])))) [.ret (some (.lit (.bl false)))] []] ++ lawB.drop 10 := rfl
  rw [eb, evSs_app, evSs_cons, e0, seqF_nx, evSs_cons, e2, seqF_nx]
  generalize E.comp [13] (.var 13) (.name 13) (.seq (.var 7)) (some (.e (.call 3 [.var 3, .var 13]))) = EC at *
  generalize hbd : brdD wide high cells = bd at *
  generalize iD cells = ds at *
  simp only [LE] at key' ⊢
  simp [lawB, b_law, evSs, evS, evT, truth, evE.eq_1, evE.eq_2, evE.eq_5, evE.eq_12, evE.eq_15, evE.eq_16, evE.eq_21, evEs, frz, Sg.fz, Sg.rd, setSlot, callR, cmp, key', ib, eqD_nil, r1, r2, r3, r4, eq, z0, z4]
theorem law_turn (hr : RowOk st) (ns : List Int) (a2 a3 a4 a5 a6 a7 a8 a9 a10 a11 a12 : Rf.Slot) : ∃ b3 b4 b5 b6 b7 b8 b9 b10 b11 b12 st', evSs (callN Gl (n + 6)) lawB ⟨LE ns a2 a3 a4 a5 a6 a7 a8 a9 a10 a11 a12, st⟩ = some (.nx, ⟨LE ns a2 b3 b4 b5 b6 b7 b8 b9 b10 b11 b12, st'⟩) ∧ RowOk st' := by
  obtain ⟨ways, rule, wide, high, cells, b5, b6, st1, e1, hr1, ht, bo⟩ := law_a (n := n) hr ns a2 a3 a4 a5 a6 a7 a8 a9 a10 a11 a12
  obtain ⟨b7, b8, b9, st2, e2, hr2⟩ := law_b (n := n) hr1 ht bo ns a2 b5 b6 a7 a8 a9
  refine ⟨_, _, _, _, b7, b8, b9, _, _, _, st2, Eq.trans ?_ e2, hr2⟩
  have eb : lawB = lawB.take 7 ++ lawB.drop 7 := rfl
  rw [eb, evSs_app, e1, seqF_nx]
  rfl
theorem plain (ns : List Int) : ∃ sto, callN Gl (n + 7) 20 [.fl ns] [] = some (.ok (.bl true), sto) := by
  have z4 : 4 ≤ sizeLine := by have := sizeLine_eq; omega
  have r0 : RowOk [.lst [.fl ns, .int 0, .int 61231, .int 0]] := ⟨ns, 0, 61231, 0, rfl, by omega, by omega, by omega, by omega⟩
  have s0 : evS (callN Gl (n + 6)) (.new 1 [.var 0, .lit (.int 0), .lit (.int 61231), .lit (.int 0)]) ⟨[.val (.fl ns), .un, .un, .un, .un, .un, .un, .un, .un, .un, .un, .un, .un, .un], []⟩ = some (.nx, ⟨LE ns .un .un .un .un .un .un .un .un .un .un .un, [.lst [.fl ns, .int 0, .int 61231, .int 0]]⟩) := by
    simp [LE, runFn, evSs, evS, evE.eq_1, evE.eq_2, evE.eq_3, evE.eq_4, evE.eq_5, evE.eq_6, evE.eq_7, evE.eq_8, evE.eq_9, evE.eq_10, evE.eq_11, evE.eq_12, evE.eq_13, evE.eq_14, evE.eq_15, evE.eq_16, evE.eq_17, evE.eq_18, evE.eq_19, evEs, evHs, evT, evC, evO, evI, evW, evP, asg, asgTs_nil, asgTs_cons, asg_tup, frz, setSlot, callR, Sg.fz, Sg.rd, bin, un, cmp, truth, idx, slc, setI, methI, seqI, bcall, isNon, List.mapM_cons, List.mapM_nil, List.length_cons, List.length_nil, List.map_cons, List.map_nil, List.getElem?_cons_zero, List.getElem?_cons_succ, List.set_cons_zero, List.set_cons_succ, List.replicate, List.cons_append, List.nil_append, restore, wipeE, List.foldl_cons, List.foldl_nil, List.getD_cons_zero, List.getD_cons_succ, bools_map, ints_map, eqD_int, eqD_bl, binI_add, binI_sub, binI_and, binI_or, z4]
  have hrg := rangeI_nat (k := 40) (by omega)
  have ei : evI (callN Gl (n + 6)) (.range [.lit (.int 40)]) ⟨LE ns .un .un .un .un .un .un .un .un .un .un .un, [.lst [.fl ns, .int 0, .int 61231, .int 0]]⟩ = some (.ok ((List.range 40).map fun i => D.int (i : Nat)), ⟨LE ns .un .un .un .un .un .un .un .un .un .un .un, [.lst [.fl ns, .int 0, .int 61231, .int 0]]⟩) := by
    have hrg' : rangeI [D.int 40] = some ((List.range 40).map fun i => D.int (i : Nat)) := hrg
    simp only [LE, runFn, evSs, evS, evE.eq_1, evE.eq_2, evE.eq_3, evE.eq_4, evE.eq_5, evE.eq_6, evE.eq_7, evE.eq_8, evE.eq_9, evE.eq_10, evE.eq_11, evE.eq_12, evE.eq_13, evE.eq_14, evE.eq_15, evE.eq_16, evE.eq_17, evE.eq_18, evE.eq_19, evEs, evHs, evT, evC, evO, evI, evW, evP, asg, asgTs_nil, asgTs_cons, asg_tup, frz, setSlot, callR, Sg.fz, Sg.rd, bin, un, cmp, truth, idx, slc, setI, methI, seqI, bcall, isNon, List.mapM_cons, List.mapM_nil, List.length_cons, List.length_nil, List.map_cons, List.map_nil, List.getElem?_cons_zero, List.getElem?_cons_succ, List.set_cons_zero, List.set_cons_succ, List.replicate, List.cons_append, List.nil_append, restore, wipeE, List.foldl_cons, List.foldl_nil, List.getD_cons_zero, List.getD_cons_succ, bools_map, ints_map, eqD_int, eqD_bl, binI_add, binI_sub, binI_and, binI_or, bnd_ok, hrg', opt_some]
  obtain ⟨s', e3, a2, a3, a4, a5, a6, a7, a8, a9, a10, a11, a12, st, rfl, hr⟩ := loop_inv (turn := fun d s2 => bndF (asg (callN Gl (n + 6)) (.name 2) d s2) fun _ s3 => evSs (callN Gl (n + 6)) lawB s3) (List.range 40) (fun i => D.int (i : Nat))
    (fun i s => ∃ a2 a3 a4 a5 a6 a7 a8 a9 a10 a11 a12 st, s = ⟨LE ns a2 a3 a4 a5 a6 a7 a8 a9 a10 a11 a12, st⟩ ∧ RowOk st) (s := ⟨LE ns .un .un .un .un .un .un .un .un .un .un .un, [.lst [.fl ns, .int 0, .int 61231, .int 0]]⟩)
    ⟨.un, .un, .un, .un, .un, .un, .un, .un, .un, .un, .un, _, rfl, r0⟩ (fun i a s _ hs => by
      obtain ⟨a2, a3, a4, a5, a6, a7, a8, a9, a10, a11, a12, st, rfl, hr⟩ := hs
      obtain ⟨b3, b4, b5, b6, b7, b8, b9, b10, b11, b12, st', e, hr'⟩ := law_turn (n := n) hr ns (.val (.int (a : Nat))) a3 a4 a5 a6 a7 a8 a9 a10 a11 a12
      refine ⟨_, .inl (Eq.trans ?_ e), _, b3, b4, b5, b6, b7, b8, b9, b10, b11, b12, st', rfl, hr'⟩
      have ha : asg (callN Gl (n + 6)) (.name 2) (.int (a : Nat)) ⟨LE ns a2 a3 a4 a5 a6 a7 a8 a9 a10 a11 a12, st⟩ = some (.ok (), ⟨LE ns (.val (.int (a : Nat))) a3 a4 a5 a6 a7 a8 a9 a10 a11 a12, st⟩) := by
        simp [LE, asg]
      rw [ha, bndF_ok])
  refine ⟨st, ?_⟩
  rw [c_law]
  refine runFn_rt rfl rfl ⟨⟨LE ns a2 a3 a4 a5 a6 a7 a8 a9 a10 a11 a12, st⟩, ?_, rfl⟩
  have eb : b_law = [.new 1 [.var 0, .lit (.int 0), .lit (.int 61231), .lit (.int 0)], .loop (.name 2) (.range [.lit (.int 40)]) lawB, .ret (some (.lit (.bl true)))] := rfl
  show evSs (callN Gl (n + 6)) b_law ⟨[.val (.fl ns), .un, .un, .un, .un, .un, .un, .un, .un, .un, .un, .un, .un, .un], []⟩ = _
  rw [eb, evSs_cons, s0, seqF_nx, evSs_cons, evS_loop, ei, bndF_ok, e3, seqF_nx]
  simp [evSs, evS, evE.eq_2, frz, Sg.fz]
theorem plain_law (ns : List Int) (_ : ns.length ≤ 63) (_ : ∀ z ∈ ns, Builtin.Int.intBits z ≤ 1048576) : ∃ sto, callN Gl 21 20 [.fl ns] [] = some (.ok (.bl true), sto) := plain (n := 14) ns
end
end Lp

set_option Elab.async false
set_option linter.all false
set_option maxRecDepth 100000
set_option maxHeartbeats 0
namespace Lw
open PySem PySem.Spec PyProof.Rows L2
def top (i : Nat) : Stmt := PySem.Challenge.pw_specksgrid_k02_whole_boards_drawn_and_re.main.body.getD i (.Pass ⟨0, 0, 0, 0⟩)
def clsBody : Stmt → List Stmt
  | .ClassDef _ _ _ b _ _ _ _ _ _ _ => b
  | _ => []
def meth (i j : Nat) : Stmt := (clsBody (top i)).getD j (.Pass ⟨0, 0, 0, 0⟩)
def d0 : He.DefD := ⟨("BadArgument", some "__init__"), "__init__", "BadArgument.__init__", defArgs (meth 1 0), defBody (meth 1 0), defScope (meth 1 0), [], []⟩
def d1 : He.DefD := ⟨("is_whole", none), "is_whole", "is_whole", defArgs (top 6), defBody (top 6), defScope (top 6), [], []⟩
def d2 : He.DefD := ⟨("are_wholes", none), "are_wholes", "are_wholes", defArgs (top 7), defBody (top 7), defScope (top 7), [], []⟩
def d3 : He.DefD := ⟨("is_table", none), "is_table", "is_table", defArgs (top 8), defBody (top 8), defScope (top 8), [], []⟩
def d4 : He.DefD := ⟨("is_board", none), "is_board", "is_board", defArgs (top 9), defBody (top 9), defScope (top 9), [], []⟩
def d5 : He.DefD := ⟨("need", none), "need", "need", defArgs (top 10), defBody (top 10), defScope (top 10), [], []⟩
def d6 : He.DefD := ⟨("need_board", none), "need_board", "need_board", defArgs (top 11), defBody (top 11), defScope (top 11), [], []⟩
def d7 : He.DefD := ⟨("drawn", none), "drawn", "drawn", defArgs (top 14), defBody (top 14), defScope (top 14), [], []⟩
def d8 : He.DefD := ⟨("read_board", none), "read_board", "read_board", defArgs (top 15), defBody (top 15), defScope (top 15), [], []⟩
def d9 : He.DefD := ⟨("_law_taken", none), "_law_taken", "_law_taken", defArgs (top 17), defBody (top 17), defScope (top 17), [], []⟩
def d10 : He.DefD := ⟨("_law_pick", none), "_law_pick", "_law_pick", defArgs (top 18), defBody (top 18), defScope (top 18), [], []⟩
def d11 : He.DefD := ⟨("_law_refused", none), "_law_refused", "_law_refused", defArgs (top 19), defBody (top 19), defScope (top 19), [], []⟩
def d12 : He.DefD := ⟨("_law_alike", none), "_law_alike", "_law_alike", defArgs (top 20), defBody (top 20), defScope (top 20), [], []⟩
def d13 : He.DefD := ⟨("_law_ways", none), "_law_ways", "_law_ways", defArgs (top 21), defBody (top 21), defScope (top 21), [], []⟩
def d14 : He.DefD := ⟨("_law_specks", none), "_law_specks", "_law_specks", defArgs (top 22), defBody (top 22), defScope (top 22), [], []⟩
def d15 : He.DefD := ⟨("_law_rule", none), "_law_rule", "_law_rule", defArgs (top 23), defBody (top 23), defScope (top 23), [], []⟩
def d16 : He.DefD := ⟨("_law_table", none), "_law_table", "_law_table", defArgs (top 24), defBody (top 24), defScope (top 24), [], []⟩
def d17 : He.DefD := ⟨("_law_board", none), "_law_board", "_law_board", defArgs (top 25), defBody (top 25), defScope (top 25), [], []⟩
def d18 : He.DefD := ⟨("_law_lines", none), "_law_lines", "_law_lines", defArgs (top 26), defBody (top 26), defScope (top 26), [], []⟩
def d19 : He.DefD := ⟨("_law_read", none), "_law_read", "_law_read", defArgs (top 27), defBody (top 27), defScope (top 27), [], []⟩
def d20 : He.DefD := ⟨("_law_spoiled", none), "_law_spoiled", "_law_spoiled", defArgs (top 28), defBody (top 28), defScope (top 28), [], []⟩
def d21 : He.DefD := ⟨("law", none), "law", "law", defArgs (top 29), defBody (top 29), defScope (top 29), [], []⟩
def fn : List He.DefD := [d0, d1, d2, d3, d4, d5, d6, d7, d8, d9, d10, d11, d12, d13, d14, d15, d16, d17, d18, d19, d20, d21]
def fa : List He.Fa := [.glo "is_whole", .glo "are_wholes", .glo "is_table", .glo "is_board", .glo "need", .glo "need_board", .glo "drawn", .glo "read_board", .glo "_law_taken", .glo "_law_pick", .glo "_law_refused", .glo "_law_alike", .glo "_law_ways", .glo "_law_specks", .glo "_law_rule", .glo "_law_table", .glo "_law_board", .glo "_law_lines", .glo "_law_read", .glo "_law_spoiled", .glo "law", .free "len", .free "tuple", .free "list", .free "all", .free "any", .free "sum", .free "int", .free "abs", .free "min", .free "max", .free "isinstance", .free "range", .free "enumerate", .free "zip", .free "bool", .free "str", .free "set", .free "sorted", .int "MOST_WAYS" (4), .int "MOST_FAR" (2), .int "MOST_SIDE" (8), .str "SIGNS" ".123456789abcdef", .glo "BadArgument", .exm "BadArgument" "BadArgument" true, .noat "BadArgument" "name", .meth "BadArgument" "__init__"]
def tf : List He.Defn := [("law", none)]
def tabsApart (K : PySem.W.Frag) : Bool := decide (tf.map fun p => (He.cT K p).2).Nodup
def ex (K : PySem.W.Frag) : Bool := Rf.oexB K (He.ga K "BadArgument") && (xfB K (He.ga K "BadArgument") && tabsApart K)
abbrev R : PySem.W.OpenRow := PySem.W.OpenLaw.row PySem.Challenge.rw_specksgrid_k02_whole_boards_drawn_and_re
abbrev hk : PySem.W.Hook := He.hookX 5 fa fn [] tf ex
def ob (s : PySem.W.SharedT) : He.AlX := He.obsX 5 fa fn [] tf ex (HandSHeadRun.getT s)
theorem ob_eq (s : PySem.W.SharedT) : ob s = hk.obs s.abs := He.obsX_eq (HandSHeadRun.getT_eq s)
def names0 : List PySem.Str := ["BadArgument", "MOST_WAYS", "MOST_FAR", "MOST_SIDE", "is_whole", "are_wholes", "is_table", "is_board", "need", "need_board", "SIGNS", "drawn", "read_board", "_law_taken", "_law_pick", "_law_refused", "_law_alike", "_law_ways", "_law_specks", "_law_rule", "_law_table", "_law_board", "_law_lines", "_law_read", "_law_spoiled"]
def names : List PySem.Str := names0
theorem run (w : World) : HandSHeadRun.RunEq R (PySem.W.view R.prog [29]) hk ob 3000 names w := by
  intro os
  kernel_rfl
open Rf
def fns : List Str := (["is_whole", "are_wholes", "is_table", "is_board", "need", "need_board", "drawn", "read_board", "_law_taken", "_law_pick", "_law_refused", "_law_alike", "_law_ways", "_law_specks", "_law_rule", "_law_table", "_law_board", "_law_lines", "_law_read", "_law_spoiled", "law"] : List String).map Str.ofString
def cs : List (Str × Rf.D) := [("MOST_WAYS", .int (4)), ("MOST_FAR", .int (2)), ("MOST_SIDE", .int (8)), ("SIGNS", .str ".123456789abcdef")]
def kw : List (Nat × Nat × List Str × List Nat) := [(6, 1, ["board"], [0]), (3, 1, ["value"], [0]), (7, 1, ["text"], [0])]
def excs : List (Str × List Str) := [("BadArgument", ["name"])]
def gx (K : PySem.W.Frag) : Gx := ⟨K, tf.map fun p => ((He.cT K p).2, (p.1 ++ ".<locals>.") ++ "<lambda>"), [He.ga K "BadArgument"], [["name"]], Gl⟩
theorem sc_is_whole : FnScope ["value", "low", "high"] ["value", "low", "high"] (defScope (top 6)) := ⟨rfl, rfl, rfl, by decide +kernel, rfl, by decide +kernel, by decide +kernel⟩
theorem tr_is_whole : trSs ⟨["value", "low", "high"], fns, cs, kw, excs, false⟩ 200 (defScope (top 6)) (defBody (top 6)) = some b_is_whole := by kernel_rfl
theorem ds_is_whole (K : PySem.W.Frag) : DefS (gx K) cs fns kw excs 0 (defBody (top 6)) (defScope (top 6)) ["value", "low", "high"] ["value", "low", "high"] b_is_whole false := ⟨sc_is_whole, rfl, by decide, tr_is_whole⟩
theorem sc_are_wholes : FnScope ["value", "many", "low", "high", "own"] ["value", "many", "low", "high"] (defScope (top 7)) := ⟨rfl, rfl, rfl, by decide +kernel, rfl, by decide +kernel, by decide +kernel⟩
theorem tr_are_wholes : trSs ⟨["value", "many", "low", "high", "own"], fns, cs, kw, excs, false⟩ 200 (defScope (top 7)) (defBody (top 7)) = some b_are_wholes := by kernel_rfl
theorem ds_are_wholes (K : PySem.W.Frag) : DefS (gx K) cs fns kw excs 1 (defBody (top 7)) (defScope (top 7)) ["value", "many", "low", "high", "own"] ["value", "many", "low", "high"] b_are_wholes false := ⟨sc_are_wholes, rfl, by decide, tr_are_wholes⟩
theorem sc_is_table : FnScope ["value", "many", "ways", "rule", "way"] ["value"] (defScope (top 8)) := ⟨rfl, rfl, rfl, by decide +kernel, rfl, by decide +kernel, by decide +kernel⟩
theorem tr_is_table : trSs ⟨["value", "many", "ways", "rule", "way"], fns, cs, kw, excs, false⟩ 200 (defScope (top 8)) (defBody (top 8)) = some b_is_table := by kernel_rfl
theorem ds_is_table (K : PySem.W.Frag) : DefS (gx K) cs fns kw excs 2 (defBody (top 8)) (defScope (top 8)) ["value", "many", "ways", "rule", "way"] ["value"] b_is_table false := ⟨sc_is_table, rfl, by decide, tr_is_table⟩
theorem sc_is_board : FnScope ["table", "value"] ["table", "value"] (defScope (top 9)) := ⟨rfl, rfl, rfl, by decide +kernel, rfl, by decide +kernel, by decide +kernel⟩
theorem tr_is_board : trSs ⟨["table", "value"], fns, cs, kw, excs, false⟩ 200 (defScope (top 9)) (defBody (top 9)) = some b_is_board := by kernel_rfl
theorem ds_is_board (K : PySem.W.Frag) : DefS (gx K) cs fns kw excs 3 (defBody (top 9)) (defScope (top 9)) ["table", "value"] ["table", "value"] b_is_board false := ⟨sc_is_board, rfl, by decide, tr_is_board⟩
theorem sc_need : FnScope ["is_right", "name"] ["is_right", "name"] (defScope (top 10)) := ⟨rfl, rfl, rfl, by decide +kernel, rfl, by decide +kernel, by decide +kernel⟩
theorem tr_need : trSs ⟨["is_right", "name"], fns, cs, kw, excs, false⟩ 200 (defScope (top 10)) (defBody (top 10)) = some b_need := by kernel_rfl
theorem ds_need (K : PySem.W.Frag) : DefS (gx K) cs fns kw excs 4 (defBody (top 10)) (defScope (top 10)) ["is_right", "name"] ["is_right", "name"] b_need false := ⟨sc_need, rfl, by decide, tr_need⟩
theorem sc_need_board : FnScope ["table", "board"] ["table", "board"] (defScope (top 11)) := ⟨rfl, rfl, rfl, by decide +kernel, rfl, by decide +kernel, by decide +kernel⟩
theorem tr_need_board : trSs ⟨["table", "board"], fns, cs, kw, excs, false⟩ 200 (defScope (top 11)) (defBody (top 11)) = some b_need_board := by kernel_rfl
theorem ds_need_board (K : PySem.W.Frag) : DefS (gx K) cs fns kw excs 5 (defBody (top 11)) (defScope (top 11)) ["table", "board"] ["table", "board"] b_need_board false := ⟨sc_need_board, rfl, by decide, tr_need_board⟩
theorem sc_drawn : FnScope ["table", "board", "wide", "high", "cells", "at", "own"] ["table", "board"] (defScope (top 14)) := ⟨rfl, rfl, rfl, by decide +kernel, rfl, by decide +kernel, by decide +kernel⟩
theorem tr_drawn : trSs ⟨["table", "board", "wide", "high", "cells", "at", "own"], fns, cs, kw, excs, false⟩ 200 (defScope (top 14)) (defBody (top 14)) = some b_drawn := by kernel_rfl
theorem ds_drawn (K : PySem.W.Frag) : DefS (gx K) cs fns kw excs 6 (defBody (top 14)) (defScope (top 14)) ["table", "board", "wide", "high", "cells", "at", "own"] ["table", "board"] b_drawn false := ⟨sc_drawn, rfl, by decide, tr_drawn⟩
theorem sc_read_board : FnScope ["table", "text", "lines", "cells", "line", "wide", "most", "sign"] ["table", "text"] (defScope (top 15)) := ⟨rfl, rfl, rfl, by decide +kernel, rfl, by decide +kernel, by decide +kernel⟩
theorem tr_read_board : trSs ⟨["table", "text", "lines", "cells", "line", "wide", "most", "sign"], fns, cs, kw, excs, false⟩ 200 (defScope (top 15)) (defBody (top 15)) = some b_read_board := by kernel_rfl
theorem ds_read_board (K : PySem.W.Frag) : DefS (gx K) cs fns kw excs 7 (defBody (top 15)) (defScope (top 15)) ["table", "text", "lines", "cells", "line", "wide", "most", "sign"] ["table", "text"] b_read_board false := ⟨sc_read_board, rfl, by decide, tr_read_board⟩
theorem sc__law_taken : FnScope ["row", "many", "cell", "found"] ["row", "many"] (defScope (top 17)) := ⟨rfl, rfl, rfl, by decide +kernel, rfl, by decide +kernel, by decide +kernel⟩
theorem tr__law_taken : trSs ⟨["row", "many", "cell", "found"], fns, cs, kw, excs, false⟩ 200 (defScope (top 17)) (defBody (top 17)) = some b__law_taken := by kernel_rfl
theorem ds__law_taken (K : PySem.W.Frag) : DefS (gx K) cs fns kw excs 8 (defBody (top 17)) (defScope (top 17)) ["row", "many", "cell", "found"] ["row", "many"] b__law_taken false := ⟨sc__law_taken, rfl, by decide, tr__law_taken⟩
theorem sc__law_pick : FnScope ["row", "some"] ["row", "some"] (defScope (top 18)) := ⟨rfl, rfl, rfl, by decide +kernel, rfl, by decide +kernel, by decide +kernel⟩
theorem tr__law_pick : trSs ⟨["row", "some"], fns, cs, kw, excs, false⟩ 200 (defScope (top 18)) (defBody (top 18)) = some b__law_pick := by kernel_rfl
theorem ds__law_pick (K : PySem.W.Frag) : DefS (gx K) cs fns kw excs 9 (defBody (top 18)) (defScope (top 18)) ["row", "some"] ["row", "some"] b__law_pick false := ⟨sc__law_pick, rfl, by decide, tr__law_pick⟩
theorem sc__law_refused : FnScope ["call", "e"] ["call"] (defScope (top 19)) := ⟨rfl, rfl, rfl, by decide +kernel, rfl, by decide +kernel, by decide +kernel⟩
theorem sc__law_alike : FnScope ["found", "due", "at"] ["found", "due"] (defScope (top 20)) := ⟨rfl, rfl, rfl, by decide +kernel, rfl, by decide +kernel, by decide +kernel⟩
theorem tr__law_alike : trSs ⟨["found", "due", "at"], fns, cs, kw, excs, false⟩ 200 (defScope (top 20)) (defBody (top 20)) = some b__law_alike := by kernel_rfl
theorem ds__law_alike (K : PySem.W.Frag) : DefS (gx K) cs fns kw excs 11 (defBody (top 20)) (defScope (top 20)) ["found", "due", "at"] ["found", "due"] b__law_alike false := ⟨sc__law_alike, rfl, by decide, tr__law_alike⟩
theorem sc__law_ways : FnScope ["row", "many", "turn", "pool", "found"] ["row", "many"] (defScope (top 21)) := ⟨rfl, rfl, rfl, by decide +kernel, rfl, by decide +kernel, by decide +kernel⟩
theorem tr__law_ways : trSs ⟨["row", "many", "turn", "pool", "found"], fns, cs, kw, excs, false⟩ 200 (defScope (top 21)) (defBody (top 21)) = some b__law_ways := by kernel_rfl
theorem ds__law_ways (K : PySem.W.Frag) : DefS (gx K) cs fns kw excs 12 (defBody (top 21)) (defScope (top 21)) ["row", "many", "turn", "pool", "found"] ["row", "many"] b__law_ways false := ⟨sc__law_ways, rfl, by decide, tr__law_ways⟩
theorem sc__law_specks : FnScope ["state", "at"] ["state"] (defScope (top 22)) := ⟨rfl, rfl, rfl, by decide +kernel, rfl, by decide +kernel, by decide +kernel⟩
theorem tr__law_specks : trSs ⟨["state", "at"], fns, cs, kw, excs, false⟩ 200 (defScope (top 22)) (defBody (top 22)) = some b__law_specks := by kernel_rfl
theorem ds__law_specks (K : PySem.W.Frag) : DefS (gx K) cs fns kw excs 13 (defBody (top 22)) (defScope (top 22)) ["state", "at"] ["state"] b__law_specks false := ⟨sc__law_specks, rfl, by decide, tr__law_specks⟩
theorem sc__law_rule : FnScope ["row", "many", "states", "kind", "turn", "left", "found", "one", "other", "own"] ["row", "many"] (defScope (top 23)) := ⟨rfl, rfl, rfl, by decide +kernel, rfl, by decide +kernel, by decide +kernel⟩
theorem tr__law_rule : trSs ⟨["row", "many", "states", "kind", "turn", "left", "found", "one", "other", "own"], fns, cs, kw, excs, false⟩ 200 (defScope (top 23)) (defBody (top 23)) = some b__law_rule := by kernel_rfl
theorem ds__law_rule (K : PySem.W.Frag) : DefS (gx K) cs fns kw excs 14 (defBody (top 23)) (defScope (top 23)) ["row", "many", "states", "kind", "turn", "left", "found", "one", "other", "own"] ["row", "many"] b__law_rule false := ⟨sc__law_rule, rfl, by decide, tr__law_rule⟩
theorem sc__law_table : FnScope ["row", "least", "most", "many"] ["row", "least", "most"] (defScope (top 24)) := ⟨rfl, rfl, rfl, by decide +kernel, rfl, by decide +kernel, by decide +kernel⟩
theorem tr__law_table : trSs ⟨["row", "least", "most", "many"], fns, cs, kw, excs, false⟩ 200 (defScope (top 24)) (defBody (top 24)) = some b__law_table := by kernel_rfl
theorem ds__law_table (K : PySem.W.Frag) : DefS (gx K) cs fns kw excs 15 (defBody (top 24)) (defScope (top 24)) ["row", "least", "most", "many"] ["row", "least", "most"] b__law_table false := ⟨sc__law_table, rfl, by decide, tr__law_table⟩
theorem sc__law_board : FnScope ["row", "table", "wide", "high", "cells", "many", "kind", "at"] ["row", "table", "wide", "high"] (defScope (top 25)) := ⟨rfl, rfl, rfl, by decide +kernel, rfl, by decide +kernel, by decide +kernel⟩
theorem tr__law_board : trSs ⟨["row", "table", "wide", "high", "cells", "many", "kind", "at"], fns, cs, kw, excs, false⟩ 200 (defScope (top 25)) (defBody (top 25)) = some b__law_board := by kernel_rfl
theorem ds__law_board (K : PySem.W.Frag) : DefS (gx K) cs fns kw excs 16 (defBody (top 25)) (defScope (top 25)) ["row", "table", "wide", "high", "cells", "many", "kind", "at"] ["row", "table", "wide", "high"] b__law_board false := ⟨sc__law_board, rfl, by decide, tr__law_board⟩
theorem sc__law_lines : FnScope ["board", "wide", "high", "cells", "at", "own"] ["board"] (defScope (top 26)) := ⟨rfl, rfl, rfl, by decide +kernel, rfl, by decide +kernel, by decide +kernel⟩
theorem tr__law_lines : trSs ⟨["board", "wide", "high", "cells", "at", "own"], fns, cs, kw, excs, false⟩ 200 (defScope (top 26)) (defBody (top 26)) = some b__law_lines := by kernel_rfl
theorem ds__law_lines (K : PySem.W.Frag) : DefS (gx K) cs fns kw excs 17 (defBody (top 26)) (defScope (top 26)) ["board", "wide", "high", "cells", "at", "own"] ["board"] b__law_lines false := ⟨sc__law_lines, rfl, by decide, tr__law_lines⟩
theorem sc__law_read : FnScope ["table", "text", "line", "lines", "cells", "sign"] ["table", "text"] (defScope (top 27)) := ⟨rfl, rfl, rfl, by decide +kernel, rfl, by decide +kernel, by decide +kernel⟩
theorem tr__law_read : trSs ⟨["table", "text", "line", "lines", "cells", "sign"], fns, cs, kw, excs, false⟩ 200 (defScope (top 27)) (defBody (top 27)) = some b__law_read := by kernel_rfl
theorem ds__law_read (K : PySem.W.Frag) : DefS (gx K) cs fns kw excs 18 (defBody (top 27)) (defScope (top 27)) ["table", "text", "line", "lines", "cells", "sign"] ["table", "text"] b__law_read false := ⟨sc__law_read, rfl, by decide, tr__law_read⟩
theorem sc__law_spoiled : FnScope ["row", "text", "sign", "at", "what"] ["row", "text"] (defScope (top 28)) := ⟨rfl, rfl, rfl, by decide +kernel, rfl, by decide +kernel, by decide +kernel⟩
theorem tr__law_spoiled : trSs ⟨["row", "text", "sign", "at", "what"], fns, cs, kw, excs, false⟩ 200 (defScope (top 28)) (defBody (top 28)) = some b__law_spoiled := by kernel_rfl
theorem ds__law_spoiled (K : PySem.W.Frag) : DefS (gx K) cs fns kw excs 19 (defBody (top 28)) (defScope (top 28)) ["row", "text", "sign", "at", "what"] ["row", "text"] b__law_spoiled false := ⟨sc__law_spoiled, rfl, by decide, tr__law_spoiled⟩
theorem sc_law : FnScope ["script", "row", "turn", "table", "board", "text", "other", "odd", "own", "told", "wide", "high", "cells", "one"] ["script"] (defScope (top 29)) := ⟨rfl, rfl, rfl, by decide +kernel, rfl, by decide +kernel, by decide +kernel⟩
theorem tr_law : trSs ⟨["script", "row", "turn", "table", "board", "text", "other", "odd", "own", "told", "wide", "high", "cells", "one"], fns, cs, kw, excs, true⟩ 200 (defScope (top 29)) (defBody (top 29)) = some b_law := by kernel_rfl
theorem ds_law (K : PySem.W.Frag) : DefS (gx K) cs fns kw excs 20 (defBody (top 29)) (defScope (top 29)) ["script", "row", "turn", "table", "board", "text", "other", "odd", "own", "told", "wide", "high", "cells", "one"] ["script"] b_law true := ⟨sc_law, rfl, by decide, tr_law⟩
section
variable {P : Program} {w : World} {K : PySem.W.Frag} {h base : Heap} {mg : Str → Option Value}
theorem bd_is_whole {f : Addr} {fd : FuncData} (F : FunD K "is_whole" "is_whole" (defArgs (top 6)) (defBody (top 6)) (defScope (top 6)) [] [] f fd) : L2.Binds K fd ["value", "low", "high"] [] := FunD.bindsN F fun _ _ _ _ _ _ us hl => match us, hl with | [_, _, _], _ => rfl
theorem kb_is_whole {f : Addr} {fd : FuncData} (F : FunD K "is_whole" "is_whole" (defArgs (top 6)) (defBody (top 6)) (defScope (top 6)) [] [] f fd) : ∀ q ∈ kw, q.1 = 0 → KB K fd ["value", "low", "high"] q.2.2.1 q.2.1 q.2.2.2 := by
  intro q hq e
  simp only [kw, List.mem_cons, List.not_mem_nil, or_false] at hq
  rcases hq with rfl | rfl | rfl
  · exact absurd e (by decide)
  · exact absurd e (by decide)
  · exact absurd e (by decide)
theorem bd_are_wholes {f : Addr} {fd : FuncData} (F : FunD K "are_wholes" "are_wholes" (defArgs (top 7)) (defBody (top 7)) (defScope (top 7)) [] [] f fd) : L2.Binds K fd ["value", "many", "low", "high"] [] := FunD.bindsN F fun _ _ _ _ _ _ us hl => match us, hl with | [_, _, _, _], _ => rfl
theorem kb_are_wholes {f : Addr} {fd : FuncData} (F : FunD K "are_wholes" "are_wholes" (defArgs (top 7)) (defBody (top 7)) (defScope (top 7)) [] [] f fd) : ∀ q ∈ kw, q.1 = 1 → KB K fd ["value", "many", "low", "high"] q.2.2.1 q.2.1 q.2.2.2 := by
  intro q hq e
  simp only [kw, List.mem_cons, List.not_mem_nil, or_false] at hq
  rcases hq with rfl | rfl | rfl
  · exact absurd e (by decide)
  · exact absurd e (by decide)
  · exact absurd e (by decide)
theorem bd_is_table {f : Addr} {fd : FuncData} (F : FunD K "is_table" "is_table" (defArgs (top 8)) (defBody (top 8)) (defScope (top 8)) [] [] f fd) : L2.Binds K fd ["value"] [] := FunD.bindsN F fun _ _ _ _ _ _ us hl => match us, hl with | [_], _ => rfl
theorem kb_is_table {f : Addr} {fd : FuncData} (F : FunD K "is_table" "is_table" (defArgs (top 8)) (defBody (top 8)) (defScope (top 8)) [] [] f fd) : ∀ q ∈ kw, q.1 = 2 → KB K fd ["value"] q.2.2.1 q.2.1 q.2.2.2 := by
  intro q hq e
  simp only [kw, List.mem_cons, List.not_mem_nil, or_false] at hq
  rcases hq with rfl | rfl | rfl
  · exact absurd e (by decide)
  · exact absurd e (by decide)
  · exact absurd e (by decide)
theorem bd_is_board {f : Addr} {fd : FuncData} (F : FunD K "is_board" "is_board" (defArgs (top 9)) (defBody (top 9)) (defScope (top 9)) [] [] f fd) : L2.Binds K fd ["table", "value"] [] := FunD.bindsN F fun _ _ _ _ _ _ us hl => match us, hl with | [_, _], _ => rfl
theorem kb_is_board {f : Addr} {fd : FuncData} (F : FunD K "is_board" "is_board" (defArgs (top 9)) (defBody (top 9)) (defScope (top 9)) [] [] f fd) : ∀ q ∈ kw, q.1 = 3 → KB K fd ["table", "value"] q.2.2.1 q.2.1 q.2.2.2 := by
  intro q hq e
  simp only [kw, List.mem_cons, List.not_mem_nil, or_false] at hq
  rcases hq with rfl | rfl | rfl
  · exact absurd e (by decide)
  · exact kb_of F fun _ _ _ _ _ _ us ws h1 h2 => match us, ws, h1, h2 with | [_], [_], _, _ => rfl
  · exact absurd e (by decide)
theorem bd_need {f : Addr} {fd : FuncData} (F : FunD K "need" "need" (defArgs (top 10)) (defBody (top 10)) (defScope (top 10)) [] [] f fd) : L2.Binds K fd ["is_right", "name"] [] := FunD.bindsN F fun _ _ _ _ _ _ us hl => match us, hl with | [_, _], _ => rfl
theorem kb_need {f : Addr} {fd : FuncData} (F : FunD K "need" "need" (defArgs (top 10)) (defBody (top 10)) (defScope (top 10)) [] [] f fd) : ∀ q ∈ kw, q.1 = 4 → KB K fd ["is_right", "name"] q.2.2.1 q.2.1 q.2.2.2 := by
  intro q hq e
  simp only [kw, List.mem_cons, List.not_mem_nil, or_false] at hq
  rcases hq with rfl | rfl | rfl
  · exact absurd e (by decide)
  · exact absurd e (by decide)
  · exact absurd e (by decide)
theorem bd_need_board {f : Addr} {fd : FuncData} (F : FunD K "need_board" "need_board" (defArgs (top 11)) (defBody (top 11)) (defScope (top 11)) [] [] f fd) : L2.Binds K fd ["table", "board"] [] := FunD.bindsN F fun _ _ _ _ _ _ us hl => match us, hl with | [_, _], _ => rfl
theorem kb_need_board {f : Addr} {fd : FuncData} (F : FunD K "need_board" "need_board" (defArgs (top 11)) (defBody (top 11)) (defScope (top 11)) [] [] f fd) : ∀ q ∈ kw, q.1 = 5 → KB K fd ["table", "board"] q.2.2.1 q.2.1 q.2.2.2 := by
  intro q hq e
  simp only [kw, List.mem_cons, List.not_mem_nil, or_false] at hq
  rcases hq with rfl | rfl | rfl
  · exact absurd e (by decide)
  · exact absurd e (by decide)
  · exact absurd e (by decide)
theorem bd_drawn {f : Addr} {fd : FuncData} (F : FunD K "drawn" "drawn" (defArgs (top 14)) (defBody (top 14)) (defScope (top 14)) [] [] f fd) : L2.Binds K fd ["table", "board"] [] := FunD.bindsN F fun _ _ _ _ _ _ us hl => match us, hl with | [_, _], _ => rfl
theorem kb_drawn {f : Addr} {fd : FuncData} (F : FunD K "drawn" "drawn" (defArgs (top 14)) (defBody (top 14)) (defScope (top 14)) [] [] f fd) : ∀ q ∈ kw, q.1 = 6 → KB K fd ["table", "board"] q.2.2.1 q.2.1 q.2.2.2 := by
  intro q hq e
  simp only [kw, List.mem_cons, List.not_mem_nil, or_false] at hq
  rcases hq with rfl | rfl | rfl
  · exact kb_of F fun _ _ _ _ _ _ us ws h1 h2 => match us, ws, h1, h2 with | [_], [_], _, _ => rfl
  · exact absurd e (by decide)
  · exact absurd e (by decide)
theorem bd_read_board {f : Addr} {fd : FuncData} (F : FunD K "read_board" "read_board" (defArgs (top 15)) (defBody (top 15)) (defScope (top 15)) [] [] f fd) : L2.Binds K fd ["table", "text"] [] := FunD.bindsN F fun _ _ _ _ _ _ us hl => match us, hl with | [_, _], _ => rfl
theorem kb_read_board {f : Addr} {fd : FuncData} (F : FunD K "read_board" "read_board" (defArgs (top 15)) (defBody (top 15)) (defScope (top 15)) [] [] f fd) : ∀ q ∈ kw, q.1 = 7 → KB K fd ["table", "text"] q.2.2.1 q.2.1 q.2.2.2 := by
  intro q hq e
  simp only [kw, List.mem_cons, List.not_mem_nil, or_false] at hq
  rcases hq with rfl | rfl | rfl
  · exact absurd e (by decide)
  · exact absurd e (by decide)
  · exact kb_of F fun _ _ _ _ _ _ us ws h1 h2 => match us, ws, h1, h2 with | [_], [_], _, _ => rfl
theorem bd__law_taken {f : Addr} {fd : FuncData} (F : FunD K "_law_taken" "_law_taken" (defArgs (top 17)) (defBody (top 17)) (defScope (top 17)) [] [] f fd) : L2.Binds K fd ["row", "many"] [] := FunD.bindsN F fun _ _ _ _ _ _ us hl => match us, hl with | [_, _], _ => rfl
theorem kb__law_taken {f : Addr} {fd : FuncData} (F : FunD K "_law_taken" "_law_taken" (defArgs (top 17)) (defBody (top 17)) (defScope (top 17)) [] [] f fd) : ∀ q ∈ kw, q.1 = 8 → KB K fd ["row", "many"] q.2.2.1 q.2.1 q.2.2.2 := by
  intro q hq e
  simp only [kw, List.mem_cons, List.not_mem_nil, or_false] at hq
  rcases hq with rfl | rfl | rfl
  · exact absurd e (by decide)
  · exact absurd e (by decide)
  · exact absurd e (by decide)
theorem bd__law_pick {f : Addr} {fd : FuncData} (F : FunD K "_law_pick" "_law_pick" (defArgs (top 18)) (defBody (top 18)) (defScope (top 18)) [] [] f fd) : L2.Binds K fd ["row", "some"] [] := FunD.bindsN F fun _ _ _ _ _ _ us hl => match us, hl with | [_, _], _ => rfl
theorem kb__law_pick {f : Addr} {fd : FuncData} (F : FunD K "_law_pick" "_law_pick" (defArgs (top 18)) (defBody (top 18)) (defScope (top 18)) [] [] f fd) : ∀ q ∈ kw, q.1 = 9 → KB K fd ["row", "some"] q.2.2.1 q.2.1 q.2.2.2 := by
  intro q hq e
  simp only [kw, List.mem_cons, List.not_mem_nil, or_false] at hq
  rcases hq with rfl | rfl | rfl
  · exact absurd e (by decide)
  · exact absurd e (by decide)
  · exact absurd e (by decide)
theorem bd__law_refused {f : Addr} {fd : FuncData} (F : FunD K "_law_refused" "_law_refused" (defArgs (top 19)) (defBody (top 19)) (defScope (top 19)) [] [] f fd) : L2.Binds K fd ["call"] [] := FunD.bindsN F fun _ _ _ _ _ _ us hl => match us, hl with | [_], _ => rfl
theorem kb__law_refused {f : Addr} {fd : FuncData} (F : FunD K "_law_refused" "_law_refused" (defArgs (top 19)) (defBody (top 19)) (defScope (top 19)) [] [] f fd) : ∀ q ∈ kw, q.1 = 10 → KB K fd ["call"] q.2.2.1 q.2.1 q.2.2.2 := by
  intro q hq e
  simp only [kw, List.mem_cons, List.not_mem_nil, or_false] at hq
  rcases hq with rfl | rfl | rfl
  · exact absurd e (by decide)
  · exact absurd e (by decide)
  · exact absurd e (by decide)
theorem bd__law_alike {f : Addr} {fd : FuncData} (F : FunD K "_law_alike" "_law_alike" (defArgs (top 20)) (defBody (top 20)) (defScope (top 20)) [] [] f fd) : L2.Binds K fd ["found", "due"] [] := FunD.bindsN F fun _ _ _ _ _ _ us hl => match us, hl with | [_, _], _ => rfl
theorem kb__law_alike {f : Addr} {fd : FuncData} (F : FunD K "_law_alike" "_law_alike" (defArgs (top 20)) (defBody (top 20)) (defScope (top 20)) [] [] f fd) : ∀ q ∈ kw, q.1 = 11 → KB K fd ["found", "due"] q.2.2.1 q.2.1 q.2.2.2 := by
  intro q hq e
  simp only [kw, List.mem_cons, List.not_mem_nil, or_false] at hq
  rcases hq with rfl | rfl | rfl
  · exact absurd e (by decide)
  · exact absurd e (by decide)
  · exact absurd e (by decide)
theorem bd__law_ways {f : Addr} {fd : FuncData} (F : FunD K "_law_ways" "_law_ways" (defArgs (top 21)) (defBody (top 21)) (defScope (top 21)) [] [] f fd) : L2.Binds K fd ["row", "many"] [] := FunD.bindsN F fun _ _ _ _ _ _ us hl => match us, hl with | [_, _], _ => rfl
theorem kb__law_ways {f : Addr} {fd : FuncData} (F : FunD K "_law_ways" "_law_ways" (defArgs (top 21)) (defBody (top 21)) (defScope (top 21)) [] [] f fd) : ∀ q ∈ kw, q.1 = 12 → KB K fd ["row", "many"] q.2.2.1 q.2.1 q.2.2.2 := by
  intro q hq e
  simp only [kw, List.mem_cons, List.not_mem_nil, or_false] at hq
  rcases hq with rfl | rfl | rfl
  · exact absurd e (by decide)
  · exact absurd e (by decide)
  · exact absurd e (by decide)
theorem bd__law_specks {f : Addr} {fd : FuncData} (F : FunD K "_law_specks" "_law_specks" (defArgs (top 22)) (defBody (top 22)) (defScope (top 22)) [] [] f fd) : L2.Binds K fd ["state"] [] := FunD.bindsN F fun _ _ _ _ _ _ us hl => match us, hl with | [_], _ => rfl
theorem kb__law_specks {f : Addr} {fd : FuncData} (F : FunD K "_law_specks" "_law_specks" (defArgs (top 22)) (defBody (top 22)) (defScope (top 22)) [] [] f fd) : ∀ q ∈ kw, q.1 = 13 → KB K fd ["state"] q.2.2.1 q.2.1 q.2.2.2 := by
  intro q hq e
  simp only [kw, List.mem_cons, List.not_mem_nil, or_false] at hq
  rcases hq with rfl | rfl | rfl
  · exact absurd e (by decide)
  · exact absurd e (by decide)
  · exact absurd e (by decide)
theorem bd__law_rule {f : Addr} {fd : FuncData} (F : FunD K "_law_rule" "_law_rule" (defArgs (top 23)) (defBody (top 23)) (defScope (top 23)) [] [] f fd) : L2.Binds K fd ["row", "many"] [] := FunD.bindsN F fun _ _ _ _ _ _ us hl => match us, hl with | [_, _], _ => rfl
theorem kb__law_rule {f : Addr} {fd : FuncData} (F : FunD K "_law_rule" "_law_rule" (defArgs (top 23)) (defBody (top 23)) (defScope (top 23)) [] [] f fd) : ∀ q ∈ kw, q.1 = 14 → KB K fd ["row", "many"] q.2.2.1 q.2.1 q.2.2.2 := by
  intro q hq e
  simp only [kw, List.mem_cons, List.not_mem_nil, or_false] at hq
  rcases hq with rfl | rfl | rfl
  · exact absurd e (by decide)
  · exact absurd e (by decide)
  · exact absurd e (by decide)
theorem bd__law_table {f : Addr} {fd : FuncData} (F : FunD K "_law_table" "_law_table" (defArgs (top 24)) (defBody (top 24)) (defScope (top 24)) [] [] f fd) : L2.Binds K fd ["row", "least", "most"] [] := FunD.bindsN F fun _ _ _ _ _ _ us hl => match us, hl with | [_, _, _], _ => rfl
theorem kb__law_table {f : Addr} {fd : FuncData} (F : FunD K "_law_table" "_law_table" (defArgs (top 24)) (defBody (top 24)) (defScope (top 24)) [] [] f fd) : ∀ q ∈ kw, q.1 = 15 → KB K fd ["row", "least", "most"] q.2.2.1 q.2.1 q.2.2.2 := by
  intro q hq e
  simp only [kw, List.mem_cons, List.not_mem_nil, or_false] at hq
  rcases hq with rfl | rfl | rfl
  · exact absurd e (by decide)
  · exact absurd e (by decide)
  · exact absurd e (by decide)
theorem bd__law_board {f : Addr} {fd : FuncData} (F : FunD K "_law_board" "_law_board" (defArgs (top 25)) (defBody (top 25)) (defScope (top 25)) [] [] f fd) : L2.Binds K fd ["row", "table", "wide", "high"] [] := FunD.bindsN F fun _ _ _ _ _ _ us hl => match us, hl with | [_, _, _, _], _ => rfl
theorem kb__law_board {f : Addr} {fd : FuncData} (F : FunD K "_law_board" "_law_board" (defArgs (top 25)) (defBody (top 25)) (defScope (top 25)) [] [] f fd) : ∀ q ∈ kw, q.1 = 16 → KB K fd ["row", "table", "wide", "high"] q.2.2.1 q.2.1 q.2.2.2 := by
  intro q hq e
  simp only [kw, List.mem_cons, List.not_mem_nil, or_false] at hq
  rcases hq with rfl | rfl | rfl
  · exact absurd e (by decide)
  · exact absurd e (by decide)
  · exact absurd e (by decide)
theorem bd__law_lines {f : Addr} {fd : FuncData} (F : FunD K "_law_lines" "_law_lines" (defArgs (top 26)) (defBody (top 26)) (defScope (top 26)) [] [] f fd) : L2.Binds K fd ["board"] [] := FunD.bindsN F fun _ _ _ _ _ _ us hl => match us, hl with | [_], _ => rfl
theorem kb__law_lines {f : Addr} {fd : FuncData} (F : FunD K "_law_lines" "_law_lines" (defArgs (top 26)) (defBody (top 26)) (defScope (top 26)) [] [] f fd) : ∀ q ∈ kw, q.1 = 17 → KB K fd ["board"] q.2.2.1 q.2.1 q.2.2.2 := by
  intro q hq e
  simp only [kw, List.mem_cons, List.not_mem_nil, or_false] at hq
  rcases hq with rfl | rfl | rfl
  · exact absurd e (by decide)
  · exact absurd e (by decide)
  · exact absurd e (by decide)
theorem bd__law_read {f : Addr} {fd : FuncData} (F : FunD K "_law_read" "_law_read" (defArgs (top 27)) (defBody (top 27)) (defScope (top 27)) [] [] f fd) : L2.Binds K fd ["table", "text"] [] := FunD.bindsN F fun _ _ _ _ _ _ us hl => match us, hl with | [_, _], _ => rfl
theorem kb__law_read {f : Addr} {fd : FuncData} (F : FunD K "_law_read" "_law_read" (defArgs (top 27)) (defBody (top 27)) (defScope (top 27)) [] [] f fd) : ∀ q ∈ kw, q.1 = 18 → KB K fd ["table", "text"] q.2.2.1 q.2.1 q.2.2.2 := by
  intro q hq e
  simp only [kw, List.mem_cons, List.not_mem_nil, or_false] at hq
  rcases hq with rfl | rfl | rfl
  · exact absurd e (by decide)
  · exact absurd e (by decide)
  · exact absurd e (by decide)
theorem bd__law_spoiled {f : Addr} {fd : FuncData} (F : FunD K "_law_spoiled" "_law_spoiled" (defArgs (top 28)) (defBody (top 28)) (defScope (top 28)) [] [] f fd) : L2.Binds K fd ["row", "text"] [] := FunD.bindsN F fun _ _ _ _ _ _ us hl => match us, hl with | [_, _], _ => rfl
theorem kb__law_spoiled {f : Addr} {fd : FuncData} (F : FunD K "_law_spoiled" "_law_spoiled" (defArgs (top 28)) (defBody (top 28)) (defScope (top 28)) [] [] f fd) : ∀ q ∈ kw, q.1 = 19 → KB K fd ["row", "text"] q.2.2.1 q.2.1 q.2.2.2 := by
  intro q hq e
  simp only [kw, List.mem_cons, List.not_mem_nil, or_false] at hq
  rcases hq with rfl | rfl | rfl
  · exact absurd e (by decide)
  · exact absurd e (by decide)
  · exact absurd e (by decide)
theorem bd_law {f : Addr} {fd : FuncData} (F : FunD K "law" "law" (defArgs (top 29)) (defBody (top 29)) (defScope (top 29)) [] [] f fd) : L2.Binds K fd ["script"] [] := FunD.bindsN F fun _ _ _ _ _ _ us hl => match us, hl with | [_], _ => rfl
theorem kb_law {f : Addr} {fd : FuncData} (F : FunD K "law" "law" (defArgs (top 29)) (defBody (top 29)) (defScope (top 29)) [] [] f fd) : ∀ q ∈ kw, q.1 = 20 → KB K fd ["script"] q.2.2.1 q.2.1 q.2.2.2 := by
  intro q hq e
  simp only [kw, List.mem_cons, List.not_mem_nil, or_false] at hq
  rcases hq with rfl | rfl | rfl
  · exact absurd e (by decide)
  · exact absurd e (by decide)
  · exact absurd e (by decide)
end
end Lw

set_option Elab.async false
set_option linter.all false
set_option maxRecDepth 100000
set_option maxHeartbeats 0
namespace Lw
open PySem PySem.Spec PyProof.Rows L2 Rf
section
variable {P : Program} {w : World} {K : PySem.W.Frag} {h base : Heap} {mg : Str → Option Value}
abbrev CC (K : PySem.W.Frag) : Addr := He.ga K "BadArgument"
theorem oex (c : He.SaysX fa fn [] tf ex w h K) : OexC K (CC K) := oexB_ok (Bool.and_eq_true_iff.mp c.more).1
theorem xfc (c : He.SaysX fa fn [] tf ex w h K) : XfC K (CC K) := xfB_ok (Bool.and_eq_true_iff.mp (Bool.and_eq_true_iff.mp c.more).2).1
theorem apart (c : He.SaysX fa fn [] tf ex w h K) : (tf.map fun p => (He.cT K p).2).Nodup := of_decide_eq_true (Bool.and_eq_true_iff.mp (Bool.and_eq_true_iff.mp c.more).2).2
theorem gC (X : K.In h) (G : h.Ns mainGlobals mg) (c : He.SaysX fa fn [] tf ex w h K) : mg "BadArgument" = some (.ref (CC K)) := He.glo_ok X G (c.t.d.fact 43 (f := .glo "BadArgument") rfl)
theorem noN (c : He.SaysX fa fn [] tf ex w h K) : PySem.W.findIn K (.ref (CC K)) "name" = some none := He.noat_ok (c.t.d.fact 45 (f := .noat "BadArgument" "name") rfl)
theorem iniS : FnScope ["self", "name"] ["self", "name"] (defScope (meth 1 0)) := ⟨rfl, rfl, rfl, by decide +kernel, rfl, by decide +kernel, by decide +kernel⟩
theorem ex0 (X : K.In h) (G : h.Ns mainGlobals mg) (c : He.SaysX fa fn [] tf ex w h K) (N : List Str) (lam : Bool) : Ex0 (gx K) ⟨N, fns, cs, kw, excs, lam⟩ P w K mg base := by
  refine ⟨fun x hx => ?_⟩
  have ex : ("BadArgument" : Str) = x := Option.some.inj hx
  subst ex
  obtain ⟨fd, F⟩ := c.t.d.def_ 0 (d := d0) rfl
  have M := He.meth_ok (c.t.d.fact 46 (f := .meth "BadArgument" "__init__") rfl)
  have b : L2.Binds K fd ["self", "name"] [] := FunD.bindsN F fun _ _ _ _ _ _ us hl => match us, hl with | [_, _], _ => rfl
  exact ⟨CC K, He.ma K (CC K) "__init__", fd, ["self", "name"], "name", rfl, rfl, gC X G c, oex c, M.at_, beq_iff_eq.mp M.fn, noN c, ini_ok F iniS, b⟩
theorem refd (X : K.In h) (G : h.Ns mainGlobals mg) (c : He.SaysX fa fn [] tf ex w h K) : ∃ d, RefOk (gx K) d K mg := by
  obtain ⟨fd, F⟩ := c.t.d.def_ 11 (d := d11) rfl
  exact refOk_mk (a := "call") (e := "e") (en := "BadArgument") (Ng := ["call", "e"]) F (He.glo_ok X G (c.t.d.fact 10 (f := .glo "_law_refused") rfl)) (bd__law_refused F) sc__law_refused rfl (.inl rfl) rfl rfl rfl rfl (gC X G c) (by decide) (by decide) (by decide) (by decide) (by decide)
    (He.exm_ok (c.t.d.fact 44 (f := .exm "BadArgument" "BadArgument" true) rfl)) (xfc c) (noN c) rfl rfl
theorem nodup_map {α β : Type} {f : α → β} : ∀ {l : List α}, (l.map f).Nodup → ∀ {x y : α}, x ∈ l → y ∈ l → f x = f y → x = y
  | [], _, _, _, h, _, _ => by cases h
  | a :: l, hn, x, y, hx, hy, e => by
    rw [List.map_cons, List.nodup_cons] at hn
    rcases List.mem_cons.mp hx with rfl | hx'
    · rcases List.mem_cons.mp hy with rfl | hy'
      · rfl
      · exact absurd (List.mem_map.mpr ⟨y, hy', e.symm⟩) hn.1
    · rcases List.mem_cons.mp hy with rfl | hy'
      · exact absurd (List.mem_map.mpr ⟨x, hx', e⟩) hn.1
      · exact nodup_map hn.2 hx' hy' e
theorem un_of (c : He.SaysX fa fn [] tf ex w h K) {q : He.Defn} (hq : q ∈ tf) : ∀ p ∈ (gx K).TT, p.1 = (He.cT K q).2 → p.2 = (q.1 ++ ".<locals>.") ++ "<lambda>" := by
  intro p hp e
  obtain ⟨r, hr, rfl⟩ := List.mem_map.mp hp
  rw [nodup_map (apart c) hr hq e]
theorem ok_is_whole (X : K.In h) (G : h.Ns mainGlobals mg) (c : He.SaysX fa fn [] tf ex w h K) (TB : ∀ p ∈ tf.map (He.cT K), LamX.TabB base mg p.1 p.2) : DefOk (gx K) cs fns kw excs P w K mg base 0 "is_whole" := by
  obtain ⟨fd, F⟩ := c.t.d.def_ 1 (d := d1) rfl
  exact defOk_mk F (He.glo_ok X G (c.t.d.fact 0 (f := .glo "is_whole") rfl)) (bd_is_whole F) (kb_is_whole F) (ds_is_whole K)
theorem ok_are_wholes (X : K.In h) (G : h.Ns mainGlobals mg) (c : He.SaysX fa fn [] tf ex w h K) (TB : ∀ p ∈ tf.map (He.cT K), LamX.TabB base mg p.1 p.2) : DefOk (gx K) cs fns kw excs P w K mg base 1 "are_wholes" := by
  obtain ⟨fd, F⟩ := c.t.d.def_ 2 (d := d2) rfl
  exact defOk_mk F (He.glo_ok X G (c.t.d.fact 1 (f := .glo "are_wholes") rfl)) (bd_are_wholes F) (kb_are_wholes F) (ds_are_wholes K)
theorem ok_is_table (X : K.In h) (G : h.Ns mainGlobals mg) (c : He.SaysX fa fn [] tf ex w h K) (TB : ∀ p ∈ tf.map (He.cT K), LamX.TabB base mg p.1 p.2) : DefOk (gx K) cs fns kw excs P w K mg base 2 "is_table" := by
  obtain ⟨fd, F⟩ := c.t.d.def_ 3 (d := d3) rfl
  exact defOk_mk F (He.glo_ok X G (c.t.d.fact 2 (f := .glo "is_table") rfl)) (bd_is_table F) (kb_is_table F) (ds_is_table K)
theorem ok_is_board (X : K.In h) (G : h.Ns mainGlobals mg) (c : He.SaysX fa fn [] tf ex w h K) (TB : ∀ p ∈ tf.map (He.cT K), LamX.TabB base mg p.1 p.2) : DefOk (gx K) cs fns kw excs P w K mg base 3 "is_board" := by
  obtain ⟨fd, F⟩ := c.t.d.def_ 4 (d := d4) rfl
  exact defOk_mk F (He.glo_ok X G (c.t.d.fact 3 (f := .glo "is_board") rfl)) (bd_is_board F) (kb_is_board F) (ds_is_board K)
theorem ok_need (X : K.In h) (G : h.Ns mainGlobals mg) (c : He.SaysX fa fn [] tf ex w h K) (TB : ∀ p ∈ tf.map (He.cT K), LamX.TabB base mg p.1 p.2) : DefOk (gx K) cs fns kw excs P w K mg base 4 "need" := by
  obtain ⟨fd, F⟩ := c.t.d.def_ 5 (d := d5) rfl
  exact defOk_mk F (He.glo_ok X G (c.t.d.fact 4 (f := .glo "need") rfl)) (bd_need F) (kb_need F) (ds_need K)
theorem ok_need_board (X : K.In h) (G : h.Ns mainGlobals mg) (c : He.SaysX fa fn [] tf ex w h K) (TB : ∀ p ∈ tf.map (He.cT K), LamX.TabB base mg p.1 p.2) : DefOk (gx K) cs fns kw excs P w K mg base 5 "need_board" := by
  obtain ⟨fd, F⟩ := c.t.d.def_ 6 (d := d6) rfl
  exact defOk_mk F (He.glo_ok X G (c.t.d.fact 5 (f := .glo "need_board") rfl)) (bd_need_board F) (kb_need_board F) (ds_need_board K)
theorem ok_drawn (X : K.In h) (G : h.Ns mainGlobals mg) (c : He.SaysX fa fn [] tf ex w h K) (TB : ∀ p ∈ tf.map (He.cT K), LamX.TabB base mg p.1 p.2) : DefOk (gx K) cs fns kw excs P w K mg base 6 "drawn" := by
  obtain ⟨fd, F⟩ := c.t.d.def_ 7 (d := d7) rfl
  exact defOk_mk F (He.glo_ok X G (c.t.d.fact 6 (f := .glo "drawn") rfl)) (bd_drawn F) (kb_drawn F) (ds_drawn K)
theorem ok_read_board (X : K.In h) (G : h.Ns mainGlobals mg) (c : He.SaysX fa fn [] tf ex w h K) (TB : ∀ p ∈ tf.map (He.cT K), LamX.TabB base mg p.1 p.2) : DefOk (gx K) cs fns kw excs P w K mg base 7 "read_board" := by
  obtain ⟨fd, F⟩ := c.t.d.def_ 8 (d := d8) rfl
  exact defOk_mk F (He.glo_ok X G (c.t.d.fact 7 (f := .glo "read_board") rfl)) (bd_read_board F) (kb_read_board F) (ds_read_board K)
theorem ok__law_taken (X : K.In h) (G : h.Ns mainGlobals mg) (c : He.SaysX fa fn [] tf ex w h K) (TB : ∀ p ∈ tf.map (He.cT K), LamX.TabB base mg p.1 p.2) : DefOk (gx K) cs fns kw excs P w K mg base 8 "_law_taken" := by
  obtain ⟨fd, F⟩ := c.t.d.def_ 9 (d := d9) rfl
  exact defOk_mk F (He.glo_ok X G (c.t.d.fact 8 (f := .glo "_law_taken") rfl)) (bd__law_taken F) (kb__law_taken F) (ds__law_taken K)
theorem ok__law_pick (X : K.In h) (G : h.Ns mainGlobals mg) (c : He.SaysX fa fn [] tf ex w h K) (TB : ∀ p ∈ tf.map (He.cT K), LamX.TabB base mg p.1 p.2) : DefOk (gx K) cs fns kw excs P w K mg base 9 "_law_pick" := by
  obtain ⟨fd, F⟩ := c.t.d.def_ 10 (d := d10) rfl
  exact defOk_mk F (He.glo_ok X G (c.t.d.fact 9 (f := .glo "_law_pick") rfl)) (bd__law_pick F) (kb__law_pick F) (ds__law_pick K)
theorem ok__law_refused (X : K.In h) (G : h.Ns mainGlobals mg) (c : He.SaysX fa fn [] tf ex w h K) (TB : ∀ p ∈ tf.map (He.cT K), LamX.TabB base mg p.1 p.2) : DefOk (gx K) cs fns kw excs P w K mg base 10 "_law_refused" := by
  obtain ⟨fd, F⟩ := c.t.d.def_ 11 (d := d11) rfl
  exact defOk_dead F (He.glo_ok X G (c.t.d.fact 10 (f := .glo "_law_refused") rfl)) (bd__law_refused F) (kb__law_refused F) (.inr ⟨_, _, rfl⟩)
theorem ok__law_alike (X : K.In h) (G : h.Ns mainGlobals mg) (c : He.SaysX fa fn [] tf ex w h K) (TB : ∀ p ∈ tf.map (He.cT K), LamX.TabB base mg p.1 p.2) : DefOk (gx K) cs fns kw excs P w K mg base 11 "_law_alike" := by
  obtain ⟨fd, F⟩ := c.t.d.def_ 12 (d := d12) rfl
  exact defOk_mk F (He.glo_ok X G (c.t.d.fact 11 (f := .glo "_law_alike") rfl)) (bd__law_alike F) (kb__law_alike F) (ds__law_alike K)
theorem ok__law_ways (X : K.In h) (G : h.Ns mainGlobals mg) (c : He.SaysX fa fn [] tf ex w h K) (TB : ∀ p ∈ tf.map (He.cT K), LamX.TabB base mg p.1 p.2) : DefOk (gx K) cs fns kw excs P w K mg base 12 "_law_ways" := by
  obtain ⟨fd, F⟩ := c.t.d.def_ 13 (d := d13) rfl
  exact defOk_mk F (He.glo_ok X G (c.t.d.fact 12 (f := .glo "_law_ways") rfl)) (bd__law_ways F) (kb__law_ways F) (ds__law_ways K)
theorem ok__law_specks (X : K.In h) (G : h.Ns mainGlobals mg) (c : He.SaysX fa fn [] tf ex w h K) (TB : ∀ p ∈ tf.map (He.cT K), LamX.TabB base mg p.1 p.2) : DefOk (gx K) cs fns kw excs P w K mg base 13 "_law_specks" := by
  obtain ⟨fd, F⟩ := c.t.d.def_ 14 (d := d14) rfl
  exact defOk_mk F (He.glo_ok X G (c.t.d.fact 13 (f := .glo "_law_specks") rfl)) (bd__law_specks F) (kb__law_specks F) (ds__law_specks K)
theorem ok__law_rule (X : K.In h) (G : h.Ns mainGlobals mg) (c : He.SaysX fa fn [] tf ex w h K) (TB : ∀ p ∈ tf.map (He.cT K), LamX.TabB base mg p.1 p.2) : DefOk (gx K) cs fns kw excs P w K mg base 14 "_law_rule" := by
  obtain ⟨fd, F⟩ := c.t.d.def_ 15 (d := d15) rfl
  exact defOk_mk F (He.glo_ok X G (c.t.d.fact 14 (f := .glo "_law_rule") rfl)) (bd__law_rule F) (kb__law_rule F) (ds__law_rule K)
theorem ok__law_table (X : K.In h) (G : h.Ns mainGlobals mg) (c : He.SaysX fa fn [] tf ex w h K) (TB : ∀ p ∈ tf.map (He.cT K), LamX.TabB base mg p.1 p.2) : DefOk (gx K) cs fns kw excs P w K mg base 15 "_law_table" := by
  obtain ⟨fd, F⟩ := c.t.d.def_ 16 (d := d16) rfl
  exact defOk_mk F (He.glo_ok X G (c.t.d.fact 15 (f := .glo "_law_table") rfl)) (bd__law_table F) (kb__law_table F) (ds__law_table K)
theorem ok__law_board (X : K.In h) (G : h.Ns mainGlobals mg) (c : He.SaysX fa fn [] tf ex w h K) (TB : ∀ p ∈ tf.map (He.cT K), LamX.TabB base mg p.1 p.2) : DefOk (gx K) cs fns kw excs P w K mg base 16 "_law_board" := by
  obtain ⟨fd, F⟩ := c.t.d.def_ 17 (d := d17) rfl
  exact defOk_mk F (He.glo_ok X G (c.t.d.fact 16 (f := .glo "_law_board") rfl)) (bd__law_board F) (kb__law_board F) (ds__law_board K)
theorem ok__law_lines (X : K.In h) (G : h.Ns mainGlobals mg) (c : He.SaysX fa fn [] tf ex w h K) (TB : ∀ p ∈ tf.map (He.cT K), LamX.TabB base mg p.1 p.2) : DefOk (gx K) cs fns kw excs P w K mg base 17 "_law_lines" := by
  obtain ⟨fd, F⟩ := c.t.d.def_ 18 (d := d18) rfl
  exact defOk_mk F (He.glo_ok X G (c.t.d.fact 17 (f := .glo "_law_lines") rfl)) (bd__law_lines F) (kb__law_lines F) (ds__law_lines K)
theorem ok__law_read (X : K.In h) (G : h.Ns mainGlobals mg) (c : He.SaysX fa fn [] tf ex w h K) (TB : ∀ p ∈ tf.map (He.cT K), LamX.TabB base mg p.1 p.2) : DefOk (gx K) cs fns kw excs P w K mg base 18 "_law_read" := by
  obtain ⟨fd, F⟩ := c.t.d.def_ 19 (d := d19) rfl
  exact defOk_mk F (He.glo_ok X G (c.t.d.fact 18 (f := .glo "_law_read") rfl)) (bd__law_read F) (kb__law_read F) (ds__law_read K)
theorem ok__law_spoiled (X : K.In h) (G : h.Ns mainGlobals mg) (c : He.SaysX fa fn [] tf ex w h K) (TB : ∀ p ∈ tf.map (He.cT K), LamX.TabB base mg p.1 p.2) : DefOk (gx K) cs fns kw excs P w K mg base 19 "_law_spoiled" := by
  obtain ⟨fd, F⟩ := c.t.d.def_ 20 (d := d20) rfl
  exact defOk_mk F (He.glo_ok X G (c.t.d.fact 19 (f := .glo "_law_spoiled") rfl)) (bd__law_spoiled F) (kb__law_spoiled F) (ds__law_spoiled K)
theorem ok_law (X : K.In h) (G : h.Ns mainGlobals mg) (c : He.SaysX fa fn [] tf ex w h K) (TB : ∀ p ∈ tf.map (He.cT K), LamX.TabB base mg p.1 p.2) : DefOk (gx K) cs fns kw excs P w K mg base 20 "law" := by
  obtain ⟨fd, F⟩ := c.t.d.def_ 21 (d := d21) rfl
  exact defOk_lam F (He.glo_ok X G (c.t.d.fact 20 (f := .glo "law") rfl)) (bd_law F) (kb_law F) (ds_law K) (refd X G c) (TB _ (List.mem_map.mpr ⟨("law", none), by unfold tf; repeat first | exact List.Mem.head _ | refine List.Mem.tail _ ?_, rfl⟩)) (List.mem_map.mpr ⟨("law", none), by unfold tf; repeat first | exact List.Mem.head _ | refine List.Mem.tail _ ?_, rfl⟩) (un_of c (by unfold tf; repeat first | exact List.Mem.head _ | refine List.Mem.tail _ ?_))
theorem defs (X : K.In h) (G : h.Ns mainGlobals mg) (c : He.SaysX fa fn [] tf ex w h K) (TB : ∀ p ∈ tf.map (He.cT K), LamX.TabB base mg p.1 p.2) : ∀ (k : Nat) x, fns[k]? = some x → DefOk (gx K) cs fns kw excs P w K mg base k x
  | 0, x, hx => by
    have e : ("is_whole" : Str) = x := Option.some.inj hx
    subst e
    exact ok_is_whole X G c TB
  | 1, x, hx => by
    have e : ("are_wholes" : Str) = x := Option.some.inj hx
    subst e
    exact ok_are_wholes X G c TB
  | 2, x, hx => by
    have e : ("is_table" : Str) = x := Option.some.inj hx
    subst e
    exact ok_is_table X G c TB
  | 3, x, hx => by
    have e : ("is_board" : Str) = x := Option.some.inj hx
    subst e
    exact ok_is_board X G c TB
  | 4, x, hx => by
    have e : ("need" : Str) = x := Option.some.inj hx
    subst e
    exact ok_need X G c TB
  | 5, x, hx => by
    have e : ("need_board" : Str) = x := Option.some.inj hx
    subst e
    exact ok_need_board X G c TB
  | 6, x, hx => by
    have e : ("drawn" : Str) = x := Option.some.inj hx
    subst e
    exact ok_drawn X G c TB
  | 7, x, hx => by
    have e : ("read_board" : Str) = x := Option.some.inj hx
    subst e
    exact ok_read_board X G c TB
  | 8, x, hx => by
    have e : ("_law_taken" : Str) = x := Option.some.inj hx
    subst e
    exact ok__law_taken X G c TB
  | 9, x, hx => by
    have e : ("_law_pick" : Str) = x := Option.some.inj hx
    subst e
    exact ok__law_pick X G c TB
  | 10, x, hx => by
    have e : ("_law_refused" : Str) = x := Option.some.inj hx
    subst e
    exact ok__law_refused X G c TB
  | 11, x, hx => by
    have e : ("_law_alike" : Str) = x := Option.some.inj hx
    subst e
    exact ok__law_alike X G c TB
  | 12, x, hx => by
    have e : ("_law_ways" : Str) = x := Option.some.inj hx
    subst e
    exact ok__law_ways X G c TB
  | 13, x, hx => by
    have e : ("_law_specks" : Str) = x := Option.some.inj hx
    subst e
    exact ok__law_specks X G c TB
  | 14, x, hx => by
    have e : ("_law_rule" : Str) = x := Option.some.inj hx
    subst e
    exact ok__law_rule X G c TB
  | 15, x, hx => by
    have e : ("_law_table" : Str) = x := Option.some.inj hx
    subst e
    exact ok__law_table X G c TB
  | 16, x, hx => by
    have e : ("_law_board" : Str) = x := Option.some.inj hx
    subst e
    exact ok__law_board X G c TB
  | 17, x, hx => by
    have e : ("_law_lines" : Str) = x := Option.some.inj hx
    subst e
    exact ok__law_lines X G c TB
  | 18, x, hx => by
    have e : ("_law_read" : Str) = x := Option.some.inj hx
    subst e
    exact ok__law_read X G c TB
  | 19, x, hx => by
    have e : ("_law_spoiled" : Str) = x := Option.some.inj hx
    subst e
    exact ok__law_spoiled X G c TB
  | 20, x, hx => by
    have e : ("law" : Str) = x := Option.some.inj hx
    subst e
    exact ok_law X G c TB
  | n + 21, x, hx => by cases hx
theorem blt (X : K.In h) (G : h.Ns mainGlobals mg) (c : He.SaysX fa fn [] tf ex w h K) : ∀ y ∈ bltNames, mg y = none := by
  intro y hy
  simp only [bltNames, List.map_cons, List.map_nil, List.mem_cons, List.not_mem_nil, or_false] at hy
  rcases hy with rfl | rfl | rfl | rfl | rfl | rfl | rfl | rfl | rfl | rfl | rfl | rfl | rfl | rfl | rfl | rfl | rfl | rfl
  · exact He.free_ok X G (c.t.d.fact 21 (f := .free "len") rfl)
  · exact He.free_ok X G (c.t.d.fact 22 (f := .free "tuple") rfl)
  · exact He.free_ok X G (c.t.d.fact 23 (f := .free "list") rfl)
  · exact He.free_ok X G (c.t.d.fact 24 (f := .free "all") rfl)
  · exact He.free_ok X G (c.t.d.fact 25 (f := .free "any") rfl)
  · exact He.free_ok X G (c.t.d.fact 26 (f := .free "sum") rfl)
  · exact He.free_ok X G (c.t.d.fact 27 (f := .free "int") rfl)
  · exact He.free_ok X G (c.t.d.fact 28 (f := .free "abs") rfl)
  · exact He.free_ok X G (c.t.d.fact 29 (f := .free "min") rfl)
  · exact He.free_ok X G (c.t.d.fact 30 (f := .free "max") rfl)
  · exact He.free_ok X G (c.t.d.fact 31 (f := .free "isinstance") rfl)
  · exact He.free_ok X G (c.t.d.fact 32 (f := .free "range") rfl)
  · exact He.free_ok X G (c.t.d.fact 33 (f := .free "enumerate") rfl)
  · exact He.free_ok X G (c.t.d.fact 34 (f := .free "zip") rfl)
  · exact He.free_ok X G (c.t.d.fact 35 (f := .free "bool") rfl)
  · exact He.free_ok X G (c.t.d.fact 36 (f := .free "str") rfl)
  · exact He.free_ok X G (c.t.d.fact 37 (f := .free "set") rfl)
  · exact He.free_ok X G (c.t.d.fact 38 (f := .free "sorted") rfl)
theorem hcs (X : K.In h) (G : h.Ns mainGlobals mg) (c : He.SaysX fa fn [] tf ex w h K) : ∀ x d, cs.lookup x = some d → ∃ u v, mg x = some u ∧ RelV v u ∧ ∀ F m, Rp (gx K).K F m d v := by
  intro x d hx
  unfold cs at hx
  rw [List.lookup_cons] at hx
  split at hx
  · rename_i e
    have e := eq_of_beq e
    subst e
    cases hx
    obtain ⟨t, ht⟩ := He.int_ok X G (c.t.d.fact 39 (f := .int "MOST_WAYS" (4)) rfl)
    exact ⟨_, .int (4), ht, ⟨t, rfl⟩, fun F m => rp_int⟩
  rw [List.lookup_cons] at hx
  split at hx
  · rename_i e
    have e := eq_of_beq e
    subst e
    cases hx
    obtain ⟨t, ht⟩ := He.int_ok X G (c.t.d.fact 40 (f := .int "MOST_FAR" (2)) rfl)
    exact ⟨_, .int (2), ht, ⟨t, rfl⟩, fun F m => rp_int⟩
  rw [List.lookup_cons] at hx
  split at hx
  · rename_i e
    have e := eq_of_beq e
    subst e
    cases hx
    obtain ⟨t, ht⟩ := He.int_ok X G (c.t.d.fact 41 (f := .int "MOST_SIDE" (8)) rfl)
    exact ⟨_, .int (8), ht, ⟨t, rfl⟩, fun F m => rp_int⟩
  rw [List.lookup_cons] at hx
  split at hx
  · rename_i e
    have e := eq_of_beq e
    subst e
    cases hx
    obtain ⟨t, ht⟩ := He.str_ok X G (c.t.d.fact 42 (f := .str "SIGNS" ".123456789abcdef") rfl)
    exact ⟨_, .str ".123456789abcdef", ht, ⟨t, rfl⟩, fun F m => rp_str⟩
  cases hx
theorem fxs (X : K.In h) (G : h.Ns mainGlobals mg) (c : He.SaysX fa fn [] tf ex w h K) (XB : K.In base) (GB : base.Ns mainGlobals mg) (TB : ∀ p ∈ tf.map (He.cT K), LamX.TabB base mg p.1 p.2) (n : Nat) (N : List Str) (lam : Bool) : Fx (gx K) ⟨N, fns, cs, kw, excs, lam⟩ n P w K mg base :=
  fx_all rfl (blt X G c) (hcs X G c) (ex0 X G c) (defs X G c TB) n N lam
end
theorem lawAt {w : World} {K : PySem.W.Frag} {h : Heap} {mg : Str → Option Value} {fA : Addr} (plain : ∀ ns : List Int, ns.length ≤ 63 → (∀ z ∈ ns, Builtin.Int.intBits z ≤ 1048576) → ∃ sto, callN Gl 21 20 [.fl ns] [] = some (.ok (.bl true), sto)) (X : K.In h) (G : h.Ns mainGlobals mg) (hfa : mg ("law" : Str) = some (.ref fA)) (c : He.SaysX fa fn [] tf ex w h K) :
    LamX.LawAtS PySem.Challenge.rw_specksgrid_k02_whole_boards_drawn_and_re w K (L2.CX (PySem.Challenge.rw_specksgrid_k02_whole_boards_drawn_and_re).prog w) (lev 20 + 3) 63 "script" mg fA h := by
  obtain ⟨fd, F⟩ := c.t.d.def_ 21 (d := d21) rfl
  have e := hfa.symm.trans (He.glo_ok X G (c.t.d.fact 20 (f := .glo "law") rfl))
  cases e
  have b := FunD.bindsA (ps := ["script"]) F fun _ _ _ _ _ _ us hl => match us, hl with | [_], _ => rfl
  refine ⟨fd, tf.map (He.cT K), spF (gx K) 21 20, fun p hp => ?_, fun p hp => ?_, fun p hp => ?_, fun s v => b s [v] rfl, fun H a ns hl hb hT hS => ?_, fun base XB GB TB => ?_⟩
  · obtain ⟨q, hq, rfl⟩ := List.mem_map.mp hp
    exact c.empty q hq
  · obtain ⟨q, hq, rfl⟩ := List.mem_map.mp hp
    exact c.out q hq
  · obtain ⟨q, hq, rfl⟩ := List.mem_map.mp hp
    exact PySem.W.codeHd_of_K X (c.hd q hq)
  · obtain ⟨sto, hs⟩ := plain ns hl hb
    refine law_start (g := gx K) (fun p hp => ?_) hS hs
    obtain ⟨q, hq, rfl⟩ := List.mem_map.mp hp
    exact LamX.TabS.nil (hT _ (List.mem_map.mpr ⟨q, hq, rfl⟩))
  · exact law_fnL F (ds_law K) (fxs X G c XB GB TB 20 _ true) (ex0 X G c _ _) (refd X G c) (TB _ (List.mem_map.mpr ⟨("law", none), by unfold tf; repeat first | exact List.Mem.head _ | refine List.Mem.tail _ ?_, rfl⟩)) (List.mem_map.mpr ⟨("law", none), by unfold tf; repeat first | exact List.Mem.head _ | refine List.Mem.tail _ ?_, rfl⟩) (un_of c (by unfold tf; repeat first | exact List.Mem.head _ | refine List.Mem.tail _ ?_))
end Lw
open PySem PySem.W PySem.Calls PyProof.Rows
theorem holds_of (plain : ∀ ns : List Int, ns.length ≤ 63 → (∀ z ∈ ns, Builtin.Int.intBits z ≤ 1048576) → ∃ sto, Rf.callN Lw.Gl 21 20 [.fl ns] [] = some (.ok (.bl true), sto)) : PySem.Challenge.rw_specksgrid_k02_whole_boards_drawn_and_re.Holds := by
  w_on; o_law
  refine HandSHeadRun.head_any (r := OpenLaw.row PySem.Challenge.rw_specksgrid_k02_whole_boards_drawn_and_re) (q := view (OpenLaw.row PySem.Challenge.rw_specksgrid_k02_whole_boards_drawn_and_re).prog [29]) (H := Lw.hk) (ob := Lw.ob) (M := 3000) (loose := Lw.names) (d := HandSHeadRun.topDef (OpenLaw.row PySem.Challenge.rw_specksgrid_k02_whole_boards_drawn_and_re).prog 29) (kwd := []) Lw.ob_eq
    (by kernel_rfl) (fun s => by kernel_rfl) Lw.run (by kernel_rfl) (by kernel_rfl) (by kernel_rfl) (by rfl) (by first | assumption | decide +kernel) (by decide +kernel) ⟨rfl, rfl, rfl, rfl, rfl, by decide +kernel⟩ ?hw ?hc
  case hw => w_witness2
  case hc =>
    refine LamX.walk_ofTsE (l := PySem.Challenge.rw_specksgrid_k02_whole_boards_drawn_and_re) (n := 63) (k := Rf.lev 20 + 3) (x := "script") (CX := fun w => L2.CX (PySem.Challenge.rw_specksgrid_k02_whole_boards_drawn_and_re).prog w) rfl (by decide) (by kernel_rfl) ⟨rfl, by decide, by decide⟩ ?F ?X
    case F =>
      intro w mg fa h Y G hmg0
      obtain ⟨K, KX, c⟩ := Y
      have hmg : mg ("law" : PySem.Str) = some (.ref fa) := by
        have e : (HandSHeadRun.topDef (OpenLaw.row PySem.Challenge.rw_specksgrid_k02_whole_boards_drawn_and_re).prog 29).name = ("law" : PySem.Str) := by kernel_rfl
        rw [← e]
        exact hmg0
      exact ⟨K, KX, Lw.lawAt plain KX G hmg c⟩
    case X =>
      intro w H s e s' z
      obtain ⟨_, _, _, _, _, _, _, _, _, _, _, _, z⟩ := z
      exact z

set_option maxRecDepth 100000 in
set_option maxHeartbeats 8000000 in
theorem PySem.Challenge.cw_specksgrid_k02_whole_boards_drawn_and_re_holds : PySem.Challenge.rw_specksgrid_k02_whole_boards_drawn_and_re.Holds := by
  exact holds_of fun ns h1 h2 => Lp.plain_law ns h1 h2
