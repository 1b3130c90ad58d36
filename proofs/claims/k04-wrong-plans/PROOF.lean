import PyProof.Rows.All
import Wide.All
import OpenK.AllK
import Wide.FinOn
import KE.GoesMore
import PyProof.Draws
import PyProof.EnumMake
import HandS.Base
import HandS.Call
import HandS.List
import HandS.Iter
import KE.KTupSum
import HandS.ForMost
import KE.KeyNested
import KE.KDictKeyed
import HandS.Dict
import HandS.Conv
import HandS.TupLen
import PyProof.Rows.SetFrom
import HandS.SetKeys
import KE.GoesZip
import KE.KDictPairs
import HandS.Zip
import HandS.TupAny
import HandS.TupMul
import HandS.HotCalls
import HandS.Strs
import HandS.Set
import HandS.TupSets
import KE.KDictSum
import KE.KDictCopyH
import KE.DataMinMax
import KE.SortData
import HandS.SortKw
import HandS.Style
import HandS.Exc
import HandS.ExcCtx
import HandS.Flow
import HandS.Deep
import HandS.IsInst
import HandS.SortInts
import HandS.Wide
import KE.KDictZip
import HandS.MapObj
import HandS.Text
import HandS.FStr
import HandS.Comp
import KE.DataCmp
import KE.KEqDict
import HandS.More
import HandS.ForExc
import HandS.CallSlots
import HandS.ExcIs
import HandS.HeadHook1
import HandS.Defaults
import HandS.Ends
import HandS.Words
import HandS.WordsExc
import HandS.Head0
import HandS.Head1
import HandS.Head2
import HandS.HeadEnd
import HandS.HeadHook2
import HandS.HeadHook4
import PySem.Challenge.RW_warnloop_k04_wrong_plans
set_option Elab.async false
set_option linter.all false
set_option maxRecDepth 100000
set_option maxHeartbeats 4000000
section
set_option Elab.async false
set_option linter.all false
set_option maxRecDepth 100000
set_option maxHeartbeats 4000000
namespace Mn
open PySem
open Sem (wp)
open AutoSeq1 (wpAny_loadPart')
theorem new_enumT (t : Addr) (xs : Array Value) (k : Nat) (dd : Option Addr) (sl : Array (Option Value)) :
    Meets (Builtin.«enumerate.__new__» ⟨[.type "enumerate", .ref t], []⟩) (fun _ R z => z.heap.get? t = some { cls := .type "tuple", dict := dd, data := .seq xs k, slots := sl } ∧
      R (.ok (.ret (.ref (z.heap.push { cls := .type "tuple_iterator", data := .fields #[.ref t, .int 0 0] }).objs.size)))
        { z with heap := (z.heap.push { cls := .type "tuple_iterator", data := .fields #[.ref t, .int 0 0] }).push { cls := .type "enumerate", data := .fields #[.none, .bool false, .ref z.heap.objs.size, rawInt 0, .none, .none] } }) :=
  .of_wp fun prog w A R z h => by
    obtain ⟨hp, g, d, tk, os⟩ := z; obtain ⟨ht, h⟩ := h
    have hsub := sub_enumerate
    have hT : Heap.IsTuple (Shared.heap ⟨hp, g, d, tk, os⟩) t xs := ⟨_, ht, rfl, k, rfl⟩
    wp_walk using wpAny_loadPart' ht
    refine wpAny_stack_any fun st => wpAny_pure ?_
    split
    · rename_i c _ _ _ _ _
      cases (c == Value.type "enumerate")
      · wp_walk using wpAny_loadPart' ht, wpAny_pyIter_tuple hT
        exact ⟨_, rfl, h⟩
      · wp_walk using wpAny_loadPart' ht, wpAny_pyIter_tuple hT
        exact ⟨_, rfl, h⟩
    · wp_walk using wpAny_loadPart' ht, wpAny_pyIter_tuple hT
      exact ⟨_, rfl, h⟩
section
variable {prog : Program} {w : World} {A : Around} {E : Value → Shared → Prop} {s : Shared}
theorem call_enumT {t : Addr} {xs : Array Value} {Q : Value → Shared → Prop} (ht : s.heap.IsTuple t xs)
    (h : ∀ h2, IsEnum h2 (s.heap.objs.size + 1) s.heap.objs.size 0 .none → h2.IsTupleIter s.heap.objs.size t 0 → h2.objs.size = s.heap.objs.size + 2 → (∀ b o, s.heap.get? b = some o → h2.get? b = some o) → Q (.ref (s.heap.objs.size + 1)) { s with heap := h2 }) :
    wpAny (model prog w) A (call (.type "enumerate") [.ref t]) Q E s := by
  obtain ⟨⟨c, dct, dt, sl⟩, hl, hc, n, hd⟩ := ht
  replace hc : c = .type "tuple" := hc
  replace hd : dt = .seq xs n := hd
  subst hc hd
  have h1 : (s.heap.push { cls := .type "tuple_iterator", data := .fields #[.ref t, .int 0 0] }).objs.size = s.heap.objs.size + 1 := Heap.size_push ..
  refine callType_new F.called_enumerate (by decide) (F.typeCall_enumerate_1 _) (F.newCall_enumerate_1 _) (fun o => F.args_object_init_2 o _) F.entry_enumerate_new
    (new_enumT t xs n dct sl) ⟨hl, ?_⟩
  show _ ∧ _
  rw [h1]
  have h2 : IsEnum ((s.heap.push { cls := .type "tuple_iterator", data := .fields #[.ref t, .int 0 0] }).push
      { cls := .type "enumerate", data := .fields #[.none, .bool false, .ref s.heap.objs.size, rawInt 0, .none, .none] }) (s.heap.objs.size + 1) s.heap.objs.size 0 .none := by
    have g := Heap.get?_push_size (s.heap.push { cls := .type "tuple_iterator", data := .fields #[.ref t, .int 0 0] })
      (o := { cls := .type "enumerate", data := .fields #[.none, .bool false, .ref s.heap.objs.size, rawInt 0, .none, .none] }) rfl
    rw [h1] at g
    exact g
  refine ⟨⟨_, h2, rfl⟩, h _ h2 ⟨_, Heap.get?_push_of_some _ (Heap.get?_push_size _ rfl), rfl, rfl⟩ ?_ fun b o z => Heap.get?_push_of_some _ (Heap.get?_push_of_some _ z)⟩
  rw [Heap.size_push, h1]
theorem draws_tup (hh : A.handled = none) (it t : Addr) (hne : t ≠ it) (xs : Array Value) :
    Draws prog w A it [it, t] xs.size (fun i v => xs[i]? = some v) (fun i h => h.IsTupleIter it t i ∧ h.IsTuple t xs) where
  live := fun _ _ z => let ⟨o, ho, _⟩ := z.1; ⟨o, ho⟩
  frame := fun _ _ _ z k => ⟨z.1.at fun o e => k it (by simp) o e, z.2.at fun o e => k t (by simp) o e⟩
  item := fun i s Q E hi z hQ => by
    refine wpAny_nextOf_tuple_item z.1 z.2 (x := xs[i]) (by simp [hi]) fun h2 a b => ?_
    exact hQ _ h2 s.toks (by simp [hi]) ⟨a, z.2.extBut b.extBut hne⟩ b
  done := fun s Q E z hE => wpAny_nextOf_tuple_end hh z.1 z.2 (by simp) hE
end
end Mn

namespace Mn
open PySem PySem.Spec PyProof.Rows L2
/-- the tuple at a, each item in a new pair -/
def IteT (K : PySem.W.Frag) (a : Addr) (N : Nat) : It :=
  ⟨fun i H => ∃ (xs : List V) (x : V), SqT K H a xs ∧ xs.length = N ∧ xs[i]? = some x, fun i H v H2 => ∃ T x, v = .ref T ∧ H T = none ∧ H2 = upd H T (.tup [.int (i : Nat), x]) ∧ ∀ xs, SqT K H a xs → xs[i]? = some x, fun i H => ∃ xs : List V, SqT K H a xs ∧ xs.length = N ∧ N ≤ i⟩
theorem turn_enumT {P : Program} {w : World} {K : PySem.W.Frag} {elts : List Expr} {kk : Nat} {tpos : Pos} (a e it : Addr) (N : Nat) :
    Turn P w K (.Tuple elts kk tpos) (IteT K a N) [e, it] e (fun i h => (∃ old, IsEnum h e it ((i : Nat) : Int) old) ∧ h.IsTupleIter it a i ∧ e ≠ it ∧ e ≠ a ∧ a ≠ it ∧ i ≤ N) where
  mem := by simp
  obj := fun i h z b hb => by
    obtain ⟨⟨old, he⟩, ⟨o, ho, hc, hd⟩, _⟩ := z
    have cs : b = e ∨ b = it := by simpa using hb
    rcases cs with q | q
    · subst q; exact ⟨_, he, fun v y => nomatch y⟩
    · subst q; exact ⟨o, ho, fun v y => by rw [hd] at y; cases y⟩
  keep := fun i h h2 z k => let ⟨⟨old, he⟩, hi, hne⟩ := z; ⟨⟨old, k e (by simp) _ he⟩, hi.at fun o q => k it (by simp) o q, hne⟩
  item := by
    intro X hP hw hK hc i pins s σ H E J hf z hg
    subst hP hw hK
    obtain ⟨⟨old, he⟩, hit, n1, n2, n3, n4⟩ := z
    obtain ⟨xs, x, hq, hN, hx⟩ := hg
    obtain ⟨its, rv, p, hz⟩ := J.tuple hq
    obtain ⟨u, hu, ru⟩ := rv.get hx
    have hel : e < s.heap.objs.size := Heap.lt_size he
    have hil : it < s.heap.objs.size := by obtain ⟨_, q, _⟩ := hit; exact Heap.lt_size q
    have hlt : i < its.toArray.size := by have := (List.getElem?_eq_some_iff.mp hu).1; simpa using this
    refine wpAny_pyNext_enum_itemD (draws_tup (prog := X.prog) (w := X.w) (A := X.A.in1) (J.ok.hd hc) it a n3 its.toArray) he ⟨hit, p⟩ hlt n1 (by simp [n1, n2]) fun y h2 tk hy ho hst hT hsz hk => ?_
    have ey : y = u := by
      have hy : its.toArray[i]? = some y := hy
      rw [List.getElem?_toArray, hu] at hy
      exact (Option.some.inj hy).symm
    subst ey
    refine ⟨_, rfl, wpAny_letOwnedTupleGo_enum (s := { s with heap := h2, toks := tk + 1 }) ho fun h3 he3 sb => ?_⟩
    have hT2 : h3.get? s.heap.objs.size = some { cls := .type "tuple", data := .seq #[.int i tk, y] } := (sb.2 _ (Nat.ne_of_gt hel)).trans hT
    have new : ObjOk X.prog X.w (upd H s.heap.objs.size (.tup [.int (i : Nat), x])) h3 s.heap.objs.size (.tup [.int (i : Nat), x]) :=
      ⟨by show 2 ≤ sizeLine; decide, [.int i tk, y], .cons ⟨_, rfl⟩ (.cons ru .nil), ⟨_, hT2, rfl, _, rfl⟩⟩
    have J1 : Inv X pins σ (upd H s.heap.objs.size (.tup [.int (i : Nat), x])) { s with heap := h3, toks := tk + 1 } :=
      J.turnedNew (ch := [e, it]) (fun b o hb q => (sb.2 b (fun z => hb (by simp [z]))).trans (hk b o (fun z => hb (by simp [z])) (fun z => hb (by simp [z])) q)) hf (Nat.le_refl _) new
    refine ⟨.ref s.heap.objs.size, _, J1, rfl, ⟨_, x, rfl, J.hok.fresh (Nat.le_refl _), rfl, fun ys hy => by rw [J.tuple_inj hy hq]; exact hx⟩, ⟨⟨y, ?_⟩, hst.1.at fun o q => (sb.2 it (Ne.symm n1)).trans q, n1, n2, n3, by have := (List.getElem?_eq_some_iff.mp hx).1; omega⟩, fun b hb => ?_⟩
    · rw [show ((i + 1 : Nat) : Int) = (i : Int) + 1 by omega]
      exact he3
    · have cs : b = e ∨ b = it := by simpa using hb
      have hb2 : b < s.heap.objs.size := by rcases cs with q | q <;> rw [q] <;> assumption
      rw [upd_ne (Nat.ne_of_lt hb2)]
      exact (hf b hb).1
  done := by
    intro X hP hw hK hc i pins s σ H E J hf z hg
    subst hP hw hK
    obtain ⟨⟨old, he⟩, hit, n1, n2, n3, n4⟩ := z
    obtain ⟨xs, hq, hN, hx⟩ := hg
    obtain ⟨its, rv, p, hz⟩ := J.tuple hq
    obtain ⟨f0, f1, f2, f3, f4, f5⟩ := hf it (by simp)
    have hl := rv.length
    have ei : i = its.toArray.size := by rw [List.size_toArray, ← hl, hN]; omega
    subst ei
    exact wpAny_pyNext_enum_endD (draws_tup (prog := X.prog) (w := X.w) (A := X.A.in1) (J.ok.hd hc) it a n3 its.toArray) he ⟨hit, p⟩ fun h2 eb => ⟨rfl, J.turned (t' := s.toks) (fun b o hb q => eb b o hb q) f0 f1 f3 f4 f5⟩
  self := fun A i s Q E z h => let ⟨⟨_, he⟩, _⟩ := z; wpAny_pyIter_enum he h
def iEnumT (K : PySem.W.Frag) (ta : TA) : TI := fun σ H R => ta σ H fun vs H1 => ∃ a xs, vs = [.ref a] ∧ SqT K H1 a xs ∧ R (IteT K a xs.length) H1
theorem pi_enumU {X : Cx} {e : Expr} {ta : TA} {p pos tpos : Pos} {elts : List Expr} {kk : Nat} (hg : Gl X "enumerate") (hm : X.mg "enumerate" = none) (ha : PA X [e] ta) (hs : starEach [e] X.env = [(false, eval e X.env)]) :
    PI X (.Tuple elts kk tpos) (.Call (.Name "enumerate" p) [e] [] pos) (fun σ H R => ta σ H fun vs H1 => ∃ a xs, vs = [.ref a] ∧ ((SqL X.K H1 a xs ∧ R (Ite X.K a) H1) ∨ (SqT X.K H1 a xs ∧ R (IteT X.K a xs.length) H1))) := by
  constructor
  intro pins s σ H R J h
  refine Call_ (ld_blt J hg hm boot_enumerate (PyProof.Rows.callWith_type1 (thn (ha.run pos pins s σ H _ J h) fun us s1 ⟨vs, H1, J1, r1, a, xs, ex, q1⟩ => ?_) hs rfl))
  subst ex
  cases r1 with
  | cons r rr =>
    cases rr
    cases r
    rcases q1 with ⟨hq, q⟩ | ⟨hq, q⟩
    · obtain ⟨its, rv, pl, hz⟩ := J1.list hq
      refine call_enumerate_list pl.isList fun h2 he hit hsz hk => wpAny_pyIter_enum he ?_
      have J2 : Inv X pins σ H1 { s1 with heap := h2 } := J1.kept (t' := s1.toks) hk
      refine ⟨s1.heap.objs.size + 1, [s1.heap.objs.size + 1, s1.heap.objs.size], _, _, H1, rfl, J2, turn_enum a (s1.heap.objs.size + 1) s1.heap.objs.size, ⟨⟨.none, he⟩, hit, Nat.succ_ne_self _⟩, fun b hb => ?_, q⟩
      have cs : b = s1.heap.objs.size + 1 ∨ b = s1.heap.objs.size := by simpa using hb
      have hle : s1.heap.objs.size ≤ b := by rcases cs with z | z <;> rw [z] <;> omega
      exact J1.fpOk hle (J1.hok.fresh hle)
    · obtain ⟨its, rv, pl, hz⟩ := J1.tuple hq
      refine call_enumT pl fun h2 he hit hsz hk => wpAny_pyIter_enum he ?_
      have J2 : Inv X pins σ H1 { s1 with heap := h2 } := J1.kept (t' := s1.toks) hk
      have hal : a < s1.heap.objs.size := by obtain ⟨_, q, _⟩ := pl; exact Heap.lt_size q
      refine ⟨s1.heap.objs.size + 1, [s1.heap.objs.size + 1, s1.heap.objs.size], _, _, H1, rfl, J2, turn_enumT a (s1.heap.objs.size + 1) s1.heap.objs.size xs.length, ⟨⟨.none, he⟩, hit, Nat.succ_ne_self _, Nat.ne_of_gt (Nat.lt_succ_of_lt hal), Nat.ne_of_lt hal, Nat.zero_le _⟩, fun b hb => ?_, q⟩
      have cs : b = s1.heap.objs.size + 1 ∨ b = s1.heap.objs.size := by simpa using hb
      have hle : s1.heap.objs.size ≤ b := by rcases cs with z | z <;> rw [z] <;> omega
      exact J1.fpOk hle (J1.hok.fresh hle)
end Mn
end

section
set_option Elab.async false
set_option linter.all false
set_option maxRecDepth 100000
set_option maxHeartbeats 4000000
/-! Mn, part T1: sum, max, min of a tuple of ints. On the kit alone. -/
namespace Mn
open PySem PySem.Spec PyProof.Rows L2
section
variable {prog : Program} {w : World} {A : Around} {E : Value → Shared → Prop} {s : Shared} {t : Addr} {xs : Array (Int × Tok)} {Q : Value → Shared → Prop}
theorem tup_there (ht : s.heap.IsTuple t (intItems xs)) : t < s.heap.objs.size := by
  obtain ⟨_, e, _⟩ := ht
  exact Heap.lt_size e
theorem tup_fp {o : Obj} (ht : s.heap.IsTuple t (intItems xs)) : ∀ b ∈ [s.heap.objs.size, t], b < (s.heap.push o).objs.size := fun b hb => by
  rw [Heap.size_push]
  have := tup_there ht
  rcases List.mem_cons.mp hb with e | hb
  · rw [e]; exact Nat.lt_succ_self _
  · rw [List.mem_singleton.mp hb]; exact Nat.lt_succ_of_lt this
theorem tup_old {o : Obj} {h' : Heap} (hk : ∀ b u, b ∉ [s.heap.objs.size] → (s.heap.push o).get? b = some u → h'.get? b = some u) : ∀ b u, s.heap.get? b = some u → h'.get? b = some u := fun b u e =>
  hk b u (fun hm => Nat.lt_irrefl _ ((List.mem_singleton.mp hm) ▸ Heap.lt_size e)) (Heap.get?_push_of_some _ e)
theorem max_tupI (hh : A.handled = none) (ht : s.heap.IsTuple t (intItems xs)) (hne : 0 < xs.size)
    (h : ∀ v h' tk, (intItems xs)[argBest (fun i j => decide (numAt xs i > numAt xs j)) (xs.size - 1)]? = some v → (∀ b o, s.heap.get? b = some o → h'.get? b = some o) → Q v { s with heap := h', toks := tk }) :
    wpAny (model prog w) A (call (.builtin "max") [.ref t]) Q E s := by
  apply call_max_walk
  apply wpAny_pyIter_tuple ht
  refine ⟨_, _, _, _, _, _, _, rfl, Walks.tuple (A := A.in1) hh s.heap.objs.size t (Nat.ne_of_lt (tup_there ht)) (intItems xs), ⟨⟨_, Heap.get?_push_size _ rfl, rfl, rfl⟩, ht.at fun o e => Heap.get?_push_of_some _ e⟩,
    tup_fp ht, by simpa [intItems] using hne, CmpOf.ints_gt (numAt xs) (fun _ _ => intItems_at), ?_⟩
  intro v h' tk hP hk
  exact h v h' tk (by simpa [intItems] using hP) (tup_old hk)
theorem min_tupI (hh : A.handled = none) (ht : s.heap.IsTuple t (intItems xs)) (hne : 0 < xs.size)
    (h : ∀ v h' tk, (intItems xs)[argBest (fun i j => decide (numAt xs i < numAt xs j)) (xs.size - 1)]? = some v → (∀ b o, s.heap.get? b = some o → h'.get? b = some o) → Q v { s with heap := h', toks := tk }) :
    wpAny (model prog w) A (call (.builtin "min") [.ref t]) Q E s := by
  apply call_min_walk
  apply wpAny_pyIter_tuple ht
  refine ⟨_, _, _, _, _, _, _, rfl, Walks.tuple (A := A.in1) hh s.heap.objs.size t (Nat.ne_of_lt (tup_there ht)) (intItems xs), ⟨⟨_, Heap.get?_push_size _ rfl, rfl, rfl⟩, ht.at fun o e => Heap.get?_push_of_some _ e⟩,
    tup_fp ht, by simpa [intItems] using hne, CmpOf.ints_lt (numAt xs) (fun _ _ => intItems_at), ?_⟩
  intro v h' tk hP hk
  exact h v h' tk (by simpa [intItems] using hP) (tup_old hk)
end
section
variable {X : Cx}
def rSumT (K : PySem.W.Frag) : List V → Hp → VK → Prop := fun vs H Q => ∃ (a : Addr) (ns : List Int), vs = [V.ref a] ∧ SqT K H a (ns.map V.int) ∧ Q (.int ns.sum) H
def rMaxT (K : PySem.W.Frag) : List V → Hp → VK → Prop := fun vs H Q => ∃ (a : Addr) (ns : List Int), vs = [V.ref a] ∧ SqT K H a (ns.map V.int) ∧ 0 < ns.length ∧ ∀ m, m ∈ ns → (∀ y, y ∈ ns → y ≤ m) → Q (.int m) H
def rMinT (K : PySem.W.Frag) : List V → Hp → VK → Prop := fun vs H Q => ∃ (a : Addr) (ns : List Int), vs = [V.ref a] ∧ SqT K H a (ns.map V.int) ∧ 0 < ns.length ∧ ∀ m, m ∈ ns → (∀ y, y ∈ ns → m ≤ y) → Q (.int m) H
theorem cr_sumT (hc : X.calm = true) : CallR X (.builtin "sum") (rSumT X.K) := by
  intro pins s σ H vs us Q J r h
  obtain ⟨a, ns, rfl, hs, q⟩ := h
  obtain ⟨its, rv, ht, _⟩ := J.tuple hs
  rw [Vals.ref1 r]
  have hi := rv.ints
  obtain ⟨xs, e⟩ := hi.allInts.items
  have hn : numsOf (intItems xs).toList = ns := by rw [← e]; exact hi.numsOf
  rw [nums_intItems] at hn
  rw [e] at ht
  apply PySem.W.ktm_sumG (J.ok.hd hc) ht
  intro h' tk t' hk
  rw [preSum_eq, List.take_of_length_le (by simp), hn]
  exact ⟨.int _, H, J.kept hk, ⟨_, rfl⟩, q⟩
theorem cr_maxT (hc : X.calm = true) : CallR X (.builtin "max") (rMaxT X.K) := by
  intro pins s σ H vs us Q J r h
  obtain ⟨a, ns, rfl, hs, hne, q⟩ := h
  obtain ⟨its, rv, ht, _⟩ := J.tuple hs
  rw [Vals.ref1 r]
  have hi := rv.ints
  obtain ⟨xs, e⟩ := hi.allInts.items
  have hn : numsOf (intItems xs).toList = ns := by rw [← e]; exact hi.numsOf
  rw [nums_intItems] at hn
  subst hn
  rw [e] at ht
  have hsz : 0 < xs.size := by simpa using hne
  apply max_tupI (J.ok.hd hc) ht hsz
  intro v h' tk hv hk
  obtain ⟨t, rfl⟩ := intItems_at hv
  obtain ⟨h1, h2⟩ := argBest_gt (numAt xs) (xs.size - 1)
  refine ⟨.int _, H, J.kept hk, ⟨_, rfl⟩, q _ ?_ fun y hy => ?_⟩
  · rw [numAt_eq]
    exact PySem.getD_mem (by rw [List.length_map, Array.length_toList]; omega)
  · obtain ⟨j, hj, rfl⟩ := mem_getD hy
    rw [List.length_map, Array.length_toList] at hj
    rw [← numAt_eq]
    exact h2 j (by omega)
theorem cr_minT (hc : X.calm = true) : CallR X (.builtin "min") (rMinT X.K) := by
  intro pins s σ H vs us Q J r h
  obtain ⟨a, ns, rfl, hs, hne, q⟩ := h
  obtain ⟨its, rv, ht, _⟩ := J.tuple hs
  rw [Vals.ref1 r]
  have hi := rv.ints
  obtain ⟨xs, e⟩ := hi.allInts.items
  have hn : numsOf (intItems xs).toList = ns := by rw [← e]; exact hi.numsOf
  rw [nums_intItems] at hn
  subst hn
  rw [e] at ht
  have hsz : 0 < xs.size := by simpa using hne
  apply min_tupI (J.ok.hd hc) ht hsz
  intro v h' tk hv hk
  obtain ⟨t, rfl⟩ := intItems_at hv
  obtain ⟨h1, h2⟩ := argBest_lt (numAt xs) (xs.size - 1)
  refine ⟨.int _, H, J.kept hk, ⟨_, rfl⟩, q _ ?_ fun y hy => ?_⟩
  · rw [numAt_eq]
    exact PySem.getD_mem (by rw [List.length_map, Array.length_toList]; omega)
  · obtain ⟨j, hj, rfl⟩ := mem_getD hy
    rw [List.length_map, Array.length_toList] at hj
    rw [← numAt_eq]
    exact h2 j (by omega)
end
end Mn
end

section
set_option Elab.async false
set_option linter.all false
set_option maxRecDepth 100000
set_option maxHeartbeats 4000000
/-! Mn, part T2: a list taken apart into names. On the kit alone. -/
namespace Mn
open PySem PySem.Spec PyProof.Rows L2
section
variable {prog : Program} {w : World} {A : Around} {E : Value → Shared → Prop} {s : Shared}
theorem draw_list {it l : Addr} {items : Array Value} (hne : l ≠ it) : ∀ (n i : Nat) (s : Shared) (Q : List Value → Shared → Prop), s.heap.IsListIter it l i → s.heap.IsList l items → i + n ≤ items.size →
    (∀ h', h'.IsListIter it l (i + n) → Heap.SameBut it s.heap h' → Q ((items.toList.drop i).take n) { s with heap := h' }) → wpAny (model prog w) A (draw (.ref it) n) Q E s
  | 0, i, s, Q, hit, _, _, hQ => by
    show wpAny _ _ (pure []) Q E s
    exact wpAny_pure (by simpa using hQ s.heap hit (Heap.SameBut.refl ..))
  | n + 1, i, s, Q, hit, hl, hle, hQ => by
    have hlt : i < items.size := by omega
    show wpAny _ _ (pyNext (.ref it) >>= _) Q E s
    refine wpAny_bind (wpAny_pyNext_list_item hit hl (x := items[i]) (by simp [hlt]) fun h1 hit1 hs1 => ?_)
    refine wpAny_bind (wpAny_holding (draw_list hne n (i + 1) _ _ hit1 (hl.extBut hs1.extBut hne) (by omega) fun h2 hit2 hs2 => wpAny_pure ?_))
    have hd : items.toList.drop i = items[i] :: items.toList.drop (i + 1) := by simp [List.drop_eq_getElem_cons, hlt]
    have := hQ h2 (by rw [show i + (n + 1) = i + 1 + n by omega]; exact hit2) (hs1.trans hs2)
    rw [hd, List.take_succ_cons] at this
    exact this
theorem unpack_items_list {l : Addr} {items : Array Value} {Q : List Value → Shared → Prop} (hh : A.handled = none) (hl : s.heap.IsList l items)
    (hQ : ∀ h', Heap.ExtBut s.heap.objs.size s.heap h' → Q items.toList { s with heap := h' }) : wpAny (model prog w) A (unpackItems (.ref l) items.size none) Q E s := by
  have hlt : l ≠ s.heap.objs.size := by obtain ⟨o, ho, _⟩ := hl; exact Nat.ne_of_lt (Heap.lt_size ho)
  unfold unpackItems
  refine wpAny_bind ?_
  · unfold notIterableAtAll
    refine wpAny_bind (wpAny_specialOf hl.typeIs slot_list_iter.lookup ?_)
    refine wpAny_pure ?_
    simp only [Bool.false_eq_true, if_false]
    refine wpAny_bind (wpAny_holding (wpAny_pyIter_list hl ?_))
    refine wpAny_bind (wpAny_holding (draw_list hlt items.size 0 _ _ ⟨_, Heap.get?_push_size _ rfl, rfl, rfl⟩ (hl.push _) (by omega) fun h1 hit1 hs1 => ?_))
    have hall : List.take items.size (List.drop 0 items.toList) = items.toList := by
      rw [List.drop_zero]; exact List.take_of_length_le (by simp)
    rw [hall]
    rw [if_neg (by simp)]
    have hl1 : h1.IsList l items := (hl.push _).extBut hs1.extBut hlt
    refine wpAny_bind (wpAny_holding (wpAny_pyNext_list_end hh hit1 hl1 (by simp) fun h2 he2 => ?_))
    simp only [Option.isSome_none, Bool.false_eq_true, if_false]
    refine wpAny_pure (hQ h2 fun b o hb e => he2 b o hb (hs1.extBut b o hb (Heap.get?_push_of_some _ e)))
theorem assign_tuple_list {env : PySem.Env} {elts : List Expr} {x1} {pos : Pos} {l : Addr} {items : Array Value} {Q : Unit → Shared → Prop} (hh : A.handled = none) (hl : s.heap.IsList l items)
    (hn : (assignEach elts env).length = items.size) (hstar : (assignEach elts env).findIdx? (·.1) = none)
    (h : ∀ h', Heap.ExtBut s.heap.objs.size s.heap h' → wpAny (model prog w) A (assignInOrder ((assignEach elts env).map (·.2)) items.toList) Q E { s with heap := h' }) :
    wpAny (model prog w) A (assign (.Tuple elts x1 pos) env (.ref l)) Q E s := by
  rw [assign_Tuple]
  refine wpAny_bind (wpAny_standAt ?_)
  unfold unpack
  rw [hn, hstar]
  exact wpAny_bind (wpAny_holding (unpack_items_list hh hl h))
end
section
variable {X : Cx} {pos : Pos}
/-- a tuple or a list of that length, taken apart -/
def gUnp (K : PySem.W.Frag) (n : Nat) (t : TGs) : TG := fun v σ H Q => ∃ a xs, v = .ref a ∧ (SqT K H a xs ∨ SqL K H a xs) ∧ xs.length = n ∧ t xs σ H Q
theorem pg_unp {es : List Expr} {k : Nat} {t : TGs} {n : Nat} (hc : X.calm = true) (h : PGs X es t)
    (hn : (assignEach es X.env).length = n) (hst : (assignEach es X.env).findIdx? (·.1) = none) : PG X (.Tuple es k pos) (gUnp X.K n t) := by
  refine ⟨fun pins s σ H v u Q I r hw => ?_⟩
  obtain ⟨a, xs, e1, hq, hl, hw⟩ := hw
  subst e1
  cases r
  rcases hq with hq | hq
  · obtain ⟨its, rv, ht, hz⟩ := I.tuple hq
    refine assign_Tuple_tuple (I.ok.hd hc) ht (by simp [hn, ← hl, rv.length]) hst fun h' hx => ?_
    have I1 : Inv X pins σ H { s with heap := h' } := I.kept (t' := s.toks) fun b o e => hx b o (Nat.ne_of_lt (Heap.lt_size e)) e
    exact h.run pins _ σ H xs _ Q I1 (by simpa using rv) hw
  · obtain ⟨its, rv, ⟨o, n, ho, hcls, _, hdt⟩, hz⟩ := I.list hq
    refine assign_tuple_list (I.ok.hd hc) ⟨o, ho, hcls, n, hdt⟩ (by simp [hn, ← hl, rv.length]) hst fun h' hx => ?_
    have I1 : Inv X pins σ H { s with heap := h' } := I.kept (t' := s.toks) fun b o e => hx b o (Nat.ne_of_lt (Heap.lt_size e)) e
    exact h.run pins _ σ H xs _ Q I1 (by simpa using rv) hw
end
end Mn
end

section
set_option Elab.async false
set_option linter.all false
set_option maxRecDepth 100000
set_option maxHeartbeats 4000000
/-! Mn, T3: a dict whose keys are tuples (nested, of the written part or made), told by its raw entries. -/
namespace Mn
open PySem PySem.Spec PyProof.Rows L2

abbrev XE := NestedKey × Addr × V
abbrev YE := NestedKey × Addr × Value
def SameX : XE → YE → Prop := fun p q => p.1 = q.1 ∧ p.2.1 = q.2.1 ∧ RelV p.2.2 q.2.2
abbrev RX : List XE → List YE → Prop := Paired SameX
def rawE (w : World) (x : YE) : DictEntry := ⟨x.1.hash w, .ref x.2.1, x.2.2⟩
/-- the dict at a, by its raw entries: keys, where they stand, values -/
def DtO (w : World) (a : Addr) (xs : List XE) : HO := .ext fun h => ∃ (ys : List YE) (o : Obj) (es : Array DictEntry) (ep : Nat), RX xs ys ∧ h.get? a = some o ∧ o.ExactDict ∧ o.data = .dict es ep ∧ es.toList = ys.map (rawE w)
structure DtAt (w : World) (H : Hp) (a : Addr) (xs : List XE) : Prop where
  on : H a = some (DtO w a xs)
  sys : (a == sysModules) = false
  nd : (xs.map (·.1)).Nodup
  sz : xs.length ≤ sizeLine
/-- each key stands where it is said to -/
def KeysIn (P : Program) (w : World) (h : Heap) (xs : List XE) : Prop := ∀ x ∈ xs, (nestedKind P w).is h x.1 x.2.1
def hasX (xs : List XE) (k : NestedKey) : Bool := xs.any fun p => decide (p.1 = k)
def getX (xs : List XE) (k : NestedKey) : Option V := (xs.find? fun p => decide (p.1 = k)).map fun p => p.2.2
def putX (xs : List XE) (k : NestedKey) (b : Addr) (v : V) : List XE := if hasX xs k = true then xs.map fun p => if p.1 = k then (p.1, p.2.1, v) else p else xs ++ [(k, b, v)]
def dropX (xs : List XE) (k : NestedKey) : List XE := xs.filter fun p => decide (p.1 ≠ k)
section
variable {xs : List XE} {ys : List YE} {k : NestedKey}
theorem rx_get (r : RX xs ys) : RelO (getX xs k) ((atKey ys k).map (·.2)) := by
  induction r with
  | nil => exact True.intro
  | @cons p q ps qs h t ih =>
    obtain ⟨h1, h2, h3⟩ := h
    by_cases e : p.1 = k
    · have e2 : q.1 = k := h1.symm.trans e
      simp only [getX, atKey, List.find?_cons, e, e2, decide_true, Option.map_some]
      exact h3
    · have e2 : ¬ q.1 = k := fun z => e (h1.trans z)
      simp only [getX, atKey, List.find?_cons, e, e2, decide_false] at ih ⊢
      exact ih
theorem rx_has (r : RX xs ys) : hasX xs k = (atKey ys k).isSome := by
  induction r with
  | nil => rfl
  | @cons p q ps qs h t ih =>
    obtain ⟨h1, h2, h3⟩ := h
    unfold hasX at ih ⊢
    rw [List.any_cons, ih]
    by_cases e : p.1 = k
    · have e2 : q.1 = k := h1.symm.trans e
      simp [atKey, List.find?_cons, e, e2]
    · have e2 : ¬ q.1 = k := fun z => e (h1.trans z)
      simp [atKey, List.find?_cons, e, e2]
theorem rx_repl (r : RX xs ys) {v : V} {u : Value} (rv : RelV v u) : RX (xs.map fun p => if p.1 = k then (p.1, p.2.1, v) else p) (ys.map (putAt k u)) := by
  induction r with
  | nil => exact .nil
  | @cons p q ps qs h t ih =>
    refine .cons ?_ ih
    obtain ⟨h1, h2, h3⟩ := h
    show SameX (if p.1 = k then (p.1, p.2.1, v) else p) (if q.1 = k then (q.1, q.2.1, u) else q)
    by_cases e : p.1 = k
    · rw [if_pos e, if_pos (h1.symm.trans e)]
      exact ⟨h1, h2, rv⟩
    · rw [if_neg e, if_neg fun z => e (h1.trans z)]
      exact ⟨h1, h2, h3⟩
theorem rx_put (r : RX xs ys) {b : Addr} {v : V} {u : Value} (rv : RelV v u) : RX (putX xs k b v) (storedH ys k b u) := by
  unfold putX storedH
  rw [rx_has r]
  by_cases q : (atKey ys k).isSome = true
  · rw [if_pos q, if_pos q]; exact rx_repl r rv
  · rw [if_neg q, if_neg q]; exact Paired.snoc r ⟨rfl, rfl, rv⟩
theorem rx_drop (r : RX xs ys) : RX (dropX xs k) (withoutH ys k) := by
  unfold dropX withoutH
  induction r with
  | nil => exact .nil
  | @cons p q ps qs h t ih =>
    rw [List.filter_cons, List.filter_cons]
    by_cases e : p.1 = k
    · have e2 : q.1 = k := h.1.symm.trans e
      simp only [e, e2, ne_eq, not_true_eq_false, decide_false, Bool.false_eq_true, if_false]
      exact ih
    · have e2 : ¬ q.1 = k := fun z => e (h.1.trans z)
      simp only [e, e2, ne_eq, not_false_eq_true, decide_true, if_true]
      exact .cons h ih
theorem rx_len (r : RX xs ys) : xs.length = ys.length := Paired.length r
theorem rx_keys (r : RX xs ys) : xs.map (·.1) = ys.map (·.1) := by
  induction r with
  | nil => rfl
  | cons h t ih => rw [List.map_cons, List.map_cons, ih, h.1]
theorem rx_addrs (r : RX xs ys) : (ys.map fun x => x.2.1) = xs.map fun x => x.2.1 := by
  induction r with
  | nil => rfl
  | cons h t ih => rw [List.map_cons, List.map_cons, ih, h.2.1]
theorem rx_mem (r : RX xs ys) : ∀ y ∈ ys, ∃ x ∈ xs, x.1 = y.1 ∧ x.2.1 = y.2.1 := by
  induction r with
  | nil => intro y hy; cases hy
  | @cons p q ps qs h t ih =>
    intro y hy
    rcases List.mem_cons.mp hy with e | hy
    · subst e; exact ⟨p, List.mem_cons_self, h.1, h.2.1⟩
    · obtain ⟨x, hx, z⟩ := ih y hy
      exact ⟨x, List.mem_cons_of_mem _ hx, z⟩
theorem putX_len {b : Addr} {v : V} : (putX xs k b v).length ≤ xs.length + 1 := by
  unfold putX
  split
  · rw [List.length_map]; omega
  · rw [List.length_append, List.length_cons, List.length_nil]; omega
theorem dropX_len : (dropX xs k).length ≤ xs.length := List.length_filter_le _ _
end
section
variable {X : Cx} {pins : List (Addr × Obj)} {σ : L2.St} {H : Hp} {s : Shared} {a b : Addr} {xs : List XE} {k : NestedKey} {A : Around} {E : Value → Shared → Prop}
theorem dt_of (I : Inv X pins σ H s) (D : DtAt X.w H a xs) (hk : KeysIn X.prog X.w s.heap xs) : ∃ ys, RX xs ys ∧ s.heap.DictOfH (nestedKind X.prog X.w) a ys := by
  obtain ⟨⟨ys, o, es, ep, r, ho, hc, hd, he⟩, _⟩ := (show ObjOk X.prog X.w H s.heap a (DtO X.w a xs) from I.hok a _ D.on)
  refine ⟨ys, r, o, es, ep, ho, hc, hd, he, fun y hy => ?_, by rw [← rx_keys r]; exact D.nd⟩
  obtain ⟨x, hx, e1, e2⟩ := rx_mem r y hy
  rw [← e1, ← e2]
  exact hk x hx
theorem dt_ok {P : Program} {w : World} {H : Hp} {h : Heap} {ys : List YE} (r : RX xs ys) (d : h.DictOfH (nestedKind P w) a ys) : ObjOk P w H h a (DtO w a xs) := by
  obtain ⟨o, es, ep, ho, hc, hd, he, _, _⟩ := d
  refine ⟨⟨ys, o, es, ep, r, ho, hc, hd, he⟩, ⟨o, ho⟩, ?_⟩
  rintro h1 h2 ⟨ys, o, es, ep, r, ho, q⟩ st
  exact ⟨ys, o, es, ep, r, st o ho, q⟩
theorem DtAt.nodup {w : World} {h : Heap} {P : Program} {ys : List YE} (r : RX xs ys) (d : h.DictOfH (nestedKind P w) a ys) : (xs.map (·.1)).Nodup := by
  obtain ⟨_, _, _, _, _, _, _, _, nd⟩ := d
  rw [rx_keys r]; exact nd
/-- at a stands, now, a dict of these entries -/
structure DtNow (X : Cx) (H : Hp) (h : Heap) (a : Addr) (xs : List XE) : Prop where
  d : ∃ ys, RX xs ys ∧ h.DictOfH (nestedKind X.prog X.w) a ys
  sys : (a == sysModules) = false
  sz : xs.length ≤ sizeLine
  mu : Mut (H a)
theorem DtAt.now (D : DtAt X.w H a xs) (I : Inv X pins σ H s) (hk : KeysIn X.prog X.w s.heap xs) : DtNow X H s.heap a xs := ⟨dt_of I D hk, D.sys, D.sz, by rw [D.on]; exact True.intro⟩
theorem room_nk (hu : A.units + 10 < cLine) : (nestedKind X.prog X.w).room A.in1 := by
  have : A.in1.units = A.units + 1 := rfl
  show A.in1.units + 8 < cLine
  omega
theorem dt_getItem {Q : Value → Shared → Prop} {v : V} (hu : A.units + 10 < cLine) (I : Inv X pins σ H s) (D : DtNow X H s.heap a xs) (kb : (nestedKind X.prog X.w).is s.heap k b) (g : getX xs k = some v)
    (h : ∀ u s2, Inv X pins σ H s2 → RelV v u → Q u s2) : wpAny (model X.prog X.w) A (getItem (.ref a) (.ref b)) Q E s := by
  obtain ⟨ys, r, d⟩ := D.d
  obtain ⟨u, hu2, ru⟩ := RelO.some_of (v := v) (o := (atKey ys k).map (·.2)) (by rw [← g]; exact rx_get r)
  obtain ⟨p, hp, e⟩ := Option.map_eq_some_iff.mp hu2
  refine wpAny_getItem_heap (room_nk hu) kb d hp ?_
  rw [e]
  exact h u _ (I.tok _) ru
theorem dt_in {Q : Value → Shared → Prop} (hu : A.units + 10 < cLine) (I : Inv X pins σ H s) (D : DtNow X H s.heap a xs) (kb : (nestedKind X.prog X.w).is s.heap k b)
    (h : ∀ s2, Inv X pins σ H s2 → Q (.bool (hasX xs k)) s2) : wpAny (model X.prog X.w) A (compareOp .In (.ref b) (.ref a)) Q E s := by
  obtain ⟨ys, r, d⟩ := D.d
  refine wpAny_in_heap (room_nk hu) kb D.sys d ?_
  rw [← rx_has r]
  exact h _ (I.tok _)
theorem dt_notIn {Q : Value → Shared → Prop} (hu : A.units + 10 < cLine) (I : Inv X pins σ H s) (D : DtNow X H s.heap a xs) (kb : (nestedKind X.prog X.w).is s.heap k b)
    (h : ∀ s2, Inv X pins σ H s2 → Q (.bool (!hasX xs k)) s2) : wpAny (model X.prog X.w) A (compareOp .NotIn (.ref b) (.ref a)) Q E s := by
  obtain ⟨ys, r, d⟩ := D.d
  have d2 : s.heap.DictKeyed (nestedKind X.prog X.w) a (pairsH ys) := ⟨ys, d, rfl⟩
  refine notIn_keyed (room_nk hu) kb D.sys d2 ?_
  rw [valueAt_pairsH, Option.isSome_map, ← rx_has r]
  exact h _ (I.tok _)
/-- a dict's object is written anew -/
theorem dt_write {h2 : Heap} {t2 : Nat} {zs : List XE} {ys : List YE} (I : Inv X pins σ H s) (mu : Mut (H a)) (hs : Heap.SameBut a s.heap h2) (r : RX zs ys) (d : h2.DictOfH (nestedKind X.prog X.w) a ys) :
    Inv X pins σ (upd H a (DtO X.w a zs)) { s with heap := h2, toks := t2 } := by
  refine I.write (x := a) (e := a) mu (.inl rfl) (fun b q hb z => (hs.2 b hb).trans z) ?_ (dt_ok r d)
  obtain ⟨o, _, _, ho, _⟩ := d
  exact ⟨o, ho⟩
theorem dt_setItem {Q : Unit → Shared → Prop} {v : V} {u : Value} (hu : A.units + 10 < cLine) (I : Inv X pins σ H s) (D : DtNow X H s.heap a xs) (kb : (nestedKind X.prog X.w).is s.heap k b) (hl : xs.length < sizeLine) (rv : RelV v u)
    (h : ∀ s2, Inv X pins σ (upd H a (DtO X.w a (putX xs k b v))) s2 → DtAt X.w (upd H a (DtO X.w a (putX xs k b v))) a (putX xs k b v) → Q () s2) : wpAny (model X.prog X.w) A (setItem (.ref a) (.ref b) u) Q E s := by
  obtain ⟨ys, r, d⟩ := D.d
  refine wpAny_setItem_heap (hsz := by rw [← rx_len r]; exact D.sz) (room_nk hu) kb d fun h2 d2 hs => ?_
  have r2 := rx_put (k := k) r (b := b) rv
  exact h _ (dt_write I D.mu hs r2 d2) ⟨upd_same, D.sys, DtAt.nodup r2 d2, by have := putX_len (xs := xs) (k := k) (b := b) (v := v); omega⟩
theorem dt_get2 {Q : Value → Shared → Prop} {z : V} {u : Value} (hu : A.units + 10 < cLine) (I : Inv X pins σ H s) (D : DtNow X H s.heap a xs) (kb : (nestedKind X.prog X.w).is s.heap k b) (rz : RelV z u)
    (h : ∀ w2 s2, Inv X pins σ H s2 → RelV ((getX xs k).getD z) w2 → Q w2 s2) : wpAny (model X.prog X.w) A (call (.builtin "dict.get") [.ref a, .ref b, u]) Q E s := by
  obtain ⟨ys, r, d⟩ := D.d
  have d2 : s.heap.DictKeyed (nestedKind X.prog X.w) a (pairsH ys) := ⟨ys, d, rfl⟩
  refine getOr_keyed (room_nk hu) kb D.sys d2 ?_
  rw [valueAt_pairsH]
  exact h _ _ (I.tok _) ((rx_get r).getD rz)
theorem dt_pop {Q : Value → Shared → Prop} {v : V} {more : List Value} (hm : more = [] ∨ ∃ x, more = [x]) (hu : A.units + 10 < cLine) (I : Inv X pins σ H s) (D : DtNow X H s.heap a xs) (kb : (nestedKind X.prog X.w).is s.heap k b) (g : getX xs k = some v)
    (h : ∀ u s2, Inv X pins σ (upd H a (DtO X.w a (dropX xs k))) s2 → DtAt X.w (upd H a (DtO X.w a (dropX xs k))) a (dropX xs k) → RelV v u → Q u s2) : wpAny (model X.prog X.w) A (call (.builtin "dict.pop") (.ref a :: .ref b :: more)) Q E s := by
  obtain ⟨ys, r, d⟩ := D.d
  obtain ⟨u, hu2, ru⟩ := RelO.some_of (v := v) (o := (atKey ys k).map (·.2)) (by rw [← g]; exact rx_get r)
  obtain ⟨p, hp, e⟩ := Option.map_eq_some_iff.mp hu2
  have ha : argsOk "dict.pop" ⟨.ref a :: .ref b :: more, []⟩ := by
    rcases hm with e | ⟨x, e⟩
    · subst e; exact PySem.F.args_dict_pop_2 _ _
    · subst e; exact PySem.F.args_dict_pop_3 _ _ _
  refine call_pop_heap (hsz := by rw [← rx_len r]; exact D.sz) hm ha (room_nk hu) kb D.sys d hp fun h2 d2 hs => ?_
  have r2 := rx_drop (k := k) r
  rw [e]
  exact h _ _ (dt_write I D.mu hs r2 d2) ⟨upd_same, D.sys, DtAt.nodup r2 d2, by have := dropX_len (xs := xs) (k := k); have := D.sz; omega⟩ ru
theorem dt_popD {Q : Value → Shared → Prop} {u : Value} (hu : A.units + 10 < cLine) (I : Inv X pins σ H s) (D : DtNow X H s.heap a xs) (kb : (nestedKind X.prog X.w).is s.heap k b) (g : getX xs k = none)
    (h : ∀ s2, Inv X pins σ H s2 → Q u s2) : wpAny (model X.prog X.w) A (call (.builtin "dict.pop") [.ref a, .ref b, u]) Q E s := by
  obtain ⟨ys, r, d⟩ := D.d
  have e : atKey ys k = none := by
    have q := rx_get (k := k) r
    rw [g] at q
    cases z : atKey ys k with
    | none => rfl
    | some p => rw [z] at q; exact q.elim
  exact call_pop_default_heap (hsz := by rw [← rx_len r]; exact D.sz) (room_nk hu) kb D.sys d e fun tk => h _ (I.tok _)
/-- an empty dict, of either kind, written so -/
theorem dt_empty (I : Inv X pins σ H s) (e : H a = some (.dK [])) : DtNow X H s.heap a [] := by
  obtain ⟨_, hs, vs, r, o, es, ep, ho, hc, hd, h4⟩ := dk_of I.hok e
  cases r
  refine ⟨⟨[], .nil, o, es, ep, ho, hc, hd, ?_, fun x hx => (nomatch hx), .nil⟩, hs, Nat.zero_le _, by rw [e]; exact True.intro⟩
  simp only [List.map_nil]
  have q := h4.2.1
  generalize es.toList = l at q ⊢
  cases q
  rfl
end
end Mn
namespace Mn
open PySem PySem.Spec PyProof.Rows L2
section
variable {X : Cx} {pins : List (Addr × Obj)} {σ : L2.St} {H : Hp} {s : Shared} {a b : Addr} {xs : List XE}
/-- list(d): the keys' own tuples -/
theorem dt_list {Q : VK} (hc : X.calm = true) (I : Inv X pins σ H s) (D : DtAt X.w H a xs) (q : ∀ p, H p = none → Q (.ref p) (upd H p (.lst (xs.map fun x => V.ref x.2.1)))) :
    wpAny (model X.prog X.w) X.A (call (.type "list") [.ref a]) (EP X pins σ Q) X.xe s := by
  obtain ⟨⟨ys, o, es, ep, r, ho, hx, hdt, he⟩, _⟩ := (show ObjOk X.prog X.w H s.heap a (DtO X.w a xs) from I.hok a _ D.on)
  have l1 : es.size = ys.length := by rw [← Array.length_toList, he, List.length_map]
  have l2 := rx_len r
  have hz := D.sz
  refine PySem.W.kdl_call (kdl_raw D.sys hx hdt) (I.ok.hd hc) ho (by omega) fun h2 tk acc c kp e it => ?_
  have ea : acc.toList = ys.map fun x => Value.ref x.2.1 := by
    have hl : acc.toList.length = ys.length := by rw [Array.length_toList, it.1]; exact l1
    apply List.ext_getElem?
    intro j
    rw [List.getElem?_map]
    cases hj : acc.toList[j]? with
    | none =>
      have h1 := List.getElem?_eq_none_iff.mp hj
      rw [List.getElem?_eq_none (by omega)]
      all_goals rfl
    | some v =>
      obtain ⟨en, hen, hv⟩ := it.2 j v (by rw [← Array.getElem?_toList]; exact hj)
      have qe : es[j]? = (ys.map (rawE X.w))[j]? := by rw [← he, Array.getElem?_toList]
      rw [hen, List.getElem?_map] at qe
      cases hb : ys[j]? with
      | none => rw [hb] at qe; exact nomatch (show some en = none from qe)
      | some y =>
        rw [hb] at qe
        have e2 : en = rawE X.w y := Option.some.inj qe
        rw [hv, e2]
        all_goals rfl
  have eb := rx_addrs r
  have ec : (xs.map fun x => V.ref x.2.1) = (xs.map fun x => x.2.1).map V.ref := by rw [List.map_map]; rfl
  have rv : Vals (xs.map fun x => V.ref x.2.1) acc.toList := by
    rw [ec, ea, ← eb, show (ys.map fun x => Value.ref x.2.1) = (ys.map fun x => x.2.1).map Value.ref from by rw [List.map_map]; rfl]
    exact vals_refs _
  refine ⟨.ref s.heap.objs.size, _, I.laid (t' := tk) (o := .lst (xs.map fun x => V.ref x.2.1)) kp (Nat.le_refl _) ?_, rfl, q _ (I.hok.fresh (Nat.le_refl _))⟩
  exact ⟨by rw [List.length_map]; exact hz, acc.toList, c, rv, by rw [Array.toArray_toList]; exact e⟩
theorem dt_len {Q : VK} (I : Inv X pins σ H s) (D : DtNow X H s.heap a xs) (q : Q (.int xs.length) H) : wpAny (model X.prog X.w) X.A (call (.builtin "len") [.ref a]) (EP X pins σ Q) X.xe s := by
  obtain ⟨ys, r, d⟩ := D.d
  have l2 := rx_len r
  have hz := D.sz
  have z : sizeLine = 16777216 := sizeLine_eq
  refine call_len_dictH D.sys d (by omega) ?_
  rw [← l2]
  exact ⟨.int xs.length, H, I.tok _, ⟨_, rfl⟩, q⟩
/-- dict(xs), a list of pairs whose keys are tuples -/
def allX (ps : List XE) : List XE := ps.foldl (fun acc p => putX acc p.1 p.2.1 p.2.2) []
theorem rx_all {ps : List XE} {qs : List YE} (r : RX ps qs) : RX (allX ps) (storedAllH [] qs) := by
  have key : ∀ {ps : List XE} {qs : List YE}, RX ps qs → ∀ {a : List XE} {b : List YE}, RX a b → RX (ps.foldl (fun acc p => putX acc p.1 p.2.1 p.2.2) a) (storedAllH b qs) := by
    intro ps qs r
    induction r with
    | nil => exact fun r => r
    | @cons p q ps qs h _ ih =>
      intro a b r
      obtain ⟨e1, e2, e3⟩ := h
      rw [List.foldl_cons]
      show RX _ (storedAllH (storedH b q.1 q.2.1 q.2.2) qs)
      rw [← e1, ← e2]
      exact ih (rx_put r e3)
  exact key r .nil
theorem dt_pairs {Q : VK} {its : List Addr} {ps : List XE} (hc : X.calm = true) (hu : X.A.units + 11 < cLine) (I : Inv X pins σ H s) (hq : SqL X.K H a (its.map V.ref)) (hp : Paired (fun t p => SqT X.K H t [V.ref p.2.1, p.2.2]) its ps) (hk : KeysIn X.prog X.w s.heap ps)
    (q : ∀ p, H p = none → DtAt X.w (upd H p (DtO X.w p (allX ps))) p (allX ps) → Q (.ref p) (upd H p (DtO X.w p (allX ps)))) : wpAny (model X.prog X.w) X.A (call (.type "dict") [.ref a]) (EP X pins σ Q) X.xe s := by
  obtain ⟨vs, rv, pl, hz⟩ := I.list hq
  have ei := refs_at rv
  subst ei
  rw [List.length_map] at hz
  have key : ∀ {its : List Addr} {ps : List XE}, Paired (fun t p => SqT X.K H t [V.ref p.2.1, p.2.2]) its ps → ∃ qs : List YE, RX ps qs ∧ its.length = qs.length ∧ ∀ (j : Nat) (y : YE), qs[j]? = some y → ∃ t, its[j]? = some t ∧ s.heap.IsTuple t #[.ref y.2.1, y.2.2] := by
    intro its ps h
    induction h with
    | nil => exact ⟨[], .nil, rfl, fun j y e => by simp at e⟩
    | @cons t p its ps h _ ih =>
      obtain ⟨qs, r, hl, hj⟩ := ih
      obtain ⟨us, rv, ht, _⟩ := I.tuple h
      obtain ⟨u, y, e, ru, ry⟩ := vals2 rv
      subst e
      obtain rfl : u = Value.ref p.2.1 := ru
      refine ⟨(p.1, p.2.1, y) :: qs, .cons ⟨rfl, rfl, ry⟩ r, by rw [List.length_cons, List.length_cons, hl], fun j z e => ?_⟩
      cases j with
      | zero =>
        have e2 : (p.1, p.2.1, y) = z := Option.some.inj e
        subst e2
        exact ⟨t, rfl, ht⟩
      | succ j =>
        obtain ⟨t2, e1, e2⟩ := hj j z (by simpa using e)
        exact ⟨t2, by simpa using e1, e2⟩
  obtain ⟨qs, r, hl, hj⟩ := key hp
  obtain ⟨o, n, ho, hcl, hd, hdat⟩ := pl
  have P := PairArg.list (prog := X.prog) (w := X.w) a (its.map Value.ref).toArray (fun j => its.getD j 0) (qs.map fun y => (Value.ref y.2.1, y.2.2))
  have l1 : (qs.map fun y => (Value.ref y.2.1, y.2.2)).length = its.length := by rw [List.length_map, hl]
  refine call_dict_pairsH (knd := nestedKind X.prog X.w) (ps := qs) P (I.ok.hd hc) ?_ ⟨⟨o, n, ho, hcl, hd, hdat⟩, ?_, fun j k v e => ?_⟩ ⟨?_, fun j k v e => ?_⟩ (fun h2 hk2 y hy => ?_) (by rw [l1]; exact hz) fun h2 tk d2 kp => ?_
  · have : X.A.in1.in1.units = X.A.units + 2 := rfl
    show X.A.in1.in1.units + 8 < cLine
    omega
  · rw [l1]; simp
  · rw [List.getElem?_map] at e
    cases hy : qs[j]? with
    | none => rw [hy] at e; exact nomatch (show none = some (k, v) from e)
    | some y =>
      rw [hy] at e
      have e2 : (Value.ref y.2.1, y.2.2) = (k, v) := Option.some.inj e
      cases e2
      obtain ⟨t, e3, e4⟩ := hj j y hy
      have e5 : its.getD j 0 = t := by rw [List.getD_eq_getElem?_getD, e3]; rfl
      exact ⟨by rw [List.getElem?_toArray, List.getElem?_map, e3]; exact congrArg (fun z => some (Value.ref z)) e5.symm, .inl (by show s.heap.IsTuple (its.getD j 0) _; rw [e5]; exact e4)⟩
  · rw [List.length_map]
  · have e : (qs.map fun y => (Value.ref y.2.1, y.2.2))[j]? = some (k, v) := e
    rw [List.getElem?_map] at e
    cases hy : qs[j]? with
    | none => rw [hy] at e; exact nomatch (show none = some (k, v) from e)
    | some y =>
      rw [hy] at e
      have e2 : (Value.ref y.2.1, y.2.2) = (k, v) := Option.some.inj e
      cases e2
      exact ⟨y.1, y.2.1, rfl, rfl⟩
  · obtain ⟨x, hx, e1, e2⟩ := rx_mem r y hy
    rw [← e1, ← e2]
    exact nestedKind_stays.stays (fun c ob vs m e4 e5 => hk2 c ob (fun z => by subst z; exact absurd (Heap.lt_size e4) (Nat.lt_irrefl _)) (fun q => nomatch q) e4) (hk x hx)
  · have kp2 : ∀ c ob, s.heap.get? c = some ob → h2.get? c = some ob := fun c ob e => kp c ob (fun z => nomatch z) e
    have r2 := rx_all r
    have len : (allX ps).length ≤ sizeLine := by
      rw [rx_len r2]
      have := storedAllH_length qs ([] : List YE)
      rw [List.length_nil, Nat.zero_add] at this
      omega
    have hs : (s.heap.objs.size == sysModules) = false := beq_eq_false_iff_ne.mpr (Nat.ne_of_gt I.big)
    exact ⟨.ref s.heap.objs.size, _, I.laid (t' := tk) kp2 (Nat.le_refl _) (dt_ok r2 d2), rfl, q _ (I.hok.fresh (Nat.le_refl _)) ⟨upd_same, hs, DtAt.nodup r2 d2, len⟩⟩
end
end Mn
end

section
set_option Elab.async false
set_option linter.all false
set_option maxRecDepth 100000
set_option maxHeartbeats 4000000
/-! Mn, T4: len(set(xs)), xs a list of ints and texts. -/
namespace Mn
open PySem PySem.Spec PyProof.Rows
/-- the unlike ones of the first i -/
def unl {κ : Type} [DecidableEq κ] (f : Nat → κ) : Nat → List κ
  | 0 => []
  | i + 1 => if f i ∈ unl f i then unl f i else unl f i ++ [f i]
theorem unl_le {κ : Type} [DecidableEq κ] (f : Nat → κ) : ∀ i, (unl f i).length ≤ i
  | 0 => Nat.le_refl _
  | i + 1 => by
    have := unl_le f i
    unfold unl
    split
    · omega
    · rw [List.length_append, List.length_singleton]; omega
section
variable {prog : Program} {w : World} {κ : Type} [DecidableEq κ] (kd : KeyKind prog w κ)
theorem unl_set {h : Heap} {a : Addr} {f : Nat → κ} {i : Nat} (x : h.SetOf kd a (fun y => decide (y ∈ unl f i) || decide (y = f i)) (if decide (f i ∈ unl f i) = true then (unl f i).length else (unl f i).length + 1)) :
    h.SetOf kd a (fun y => decide (y ∈ unl f (i + 1))) (unl f (i + 1)).length := by
  have e1 : (fun y => decide (y ∈ unl f i) || decide (y = f i)) = fun y => decide (y ∈ unl f (i + 1)) := by
    funext y
    show _ = decide (y ∈ if f i ∈ unl f i then unl f i else unl f i ++ [f i])
    by_cases c : f i ∈ unl f i
    · rw [if_pos c]
      by_cases e : y = f i
      · subst e; simp [c]
      · simp [e]
    · rw [if_neg c]; simp [Bool.decide_or]
  have e2 : (if decide (f i ∈ unl f i) = true then (unl f i).length else (unl f i).length + 1) = (unl f (i + 1)).length := by
    show _ = (if f i ∈ unl f i then unl f i else unl f i ++ [f i]).length
    by_cases c : f i ∈ unl f i
    · rw [if_pos c, if_pos (by simpa using c)]
    · rw [if_neg c, if_neg (by simpa using c)]; simp
  rw [e1, e2] at x
  exact x
variable {A : Around} {R : Result → Shared → Prop} {it : Addr} {fp wr : List Addr} {G : Array GenState → Array GenState → Prop} {n : Nat} {Pv : Nat → Value → Prop} {St : Nat → Shared → Prop}
theorem set_loop (W : WalksS prog w A.in1 it fp wr G n Pv St) (a : Addr) (off : a ∉ fp) (f : Nat → κ) (hv : ∀ i v, Pv i v → kd.is (f i) v = true ∧ v.scannable = true) (hb : n + 1 < scanBound) :
    ∀ (left i : Nat) (s : Shared), n - i = left → i ≤ n → St i s → s.heap.SetOf kd a (fun y => decide (y ∈ unl f i)) (unl f i).length →
      (∀ z, Moved (a :: wr) G s z → z.heap.SetOf kd a (fun y => decide (y ∈ unl f n)) (unl f n).length → R (.ok (.ret .none)) z) →
      codeAny (model prog w) A (.builtin "set.update.loop" ⟨[.ref a, .ref it], []⟩) R s := by
  have offw : a ∉ wr := fun h => off (W.sub _ h)
  intro left
  induction left with
  | zero =>
    intro i s hk hi st hS hR
    obtain rfl : i = n := by omega
    apply codeAny_builtin PyProof.Rows.F.entry_set_update_loop
    rw [Around.under_plainId PyProof.Rows.F.plain_set_update_loop _]
    show wpAny _ A.in1 (pyNext (.ref it) >>= _) _ _ s
    apply wpAny_bind
    apply W.done s _ _ st
    intro z hm
    show wpAny _ A.in1 (ret Value.none) _ _ z
    obtain ⟨o, es, ep, t, ho, more⟩ := hS
    exact wpAny_pure (hR z (hm.mono fun b hb => List.mem_cons_of_mem _ hb) ⟨o, es, ep, t, hm.heap a _ offw ho, more⟩)
  | succ left ih =>
    intro i s hk hi st hS hR
    have lt : i < n := by omega
    apply codeAny_builtin PyProof.Rows.F.entry_set_update_loop
    rw [Around.under_plainId PyProof.Rows.F.plain_set_update_loop _]
    show wpAny _ A.in1 (pyNext (.ref it) >>= _) _ _ s
    apply wpAny_bind
    apply W.item i s _ _ lt st
    intro v z hP st2 hm
    obtain ⟨k1, k2⟩ := hv i v hP
    have hS2 : z.heap.SetOf kd a (fun y => decide (y ∈ unl f i)) (unl f i).length := by
      obtain ⟨o, es, ep, t, ho, more⟩ := hS
      exact ⟨o, es, ep, t, hm.heap a _ offw ho, more⟩
    show wpAny _ A.in1 (holding [v] (setAdd a v) >>= _) _ _ z
    apply wpAny_bind
    apply wpAny_holding
    unfold setAdd
    apply wpAny_holding
    apply wpAny_bind
    apply kd.pyHash k1
    have room : (unl f i).length + 1 < scanBound := by have := unl_le f i; omega
    refine wpAny_setAddHashed_of (knd := kd) (s := { z with toks := z.toks + 1 }) k1 k2 hS2 room fun h2 sb hS3 => ?_
    refine wpAny_pure ⟨plainId_quiet PyProof.Rows.F.plain_set_update_loop _, ih (i + 1) _ (by omega) lt (W.frame _ z _ _ st2 (Nat.le_succ _) fun b hb o e => ?_) (unl_set kd hS3) fun y hm2 hS4 => ?_⟩
    · rw [sb.2 b fun q => off (q ▸ hb)]
      exact e
    · apply hR y _ hS4
      apply Moved.trans W.gtrans _ hm2
      apply (hm.mono fun b hb => List.mem_cons_of_mem _ hb).then_heap (Nat.le_succ _)
      intro b o hb e
      rw [sb.2 b fun q => hb (q ▸ List.mem_cons_self)]
      exact e
end
section
variable {prog : Program} {w : World} {κ : Type} [DecidableEq κ] (kd : KeyKind prog w κ) {A : Around} {E : Value → Shared → Prop} {s : Shared}
def newSet (led : Bool) : Obj := { cls := .type "set", dict := none, data := .set #[] 0 (.fresh 0 0 led) }
theorem call_setK {l : Addr} {its : Array Value} (f : Nat → κ) {Q : Value → Shared → Prop} (hh : A.handled = none) (hl : s.heap.IsList l its) (hv : ∀ i v, its[i]? = some v → kd.is (f i) v = true ∧ v.scannable = true) (hb : its.size + 1 < scanBound)
    (h : ∀ h2 tk, h2.SetOf kd s.heap.objs.size (fun y => decide (y ∈ unl f its.size)) (unl f its.size).length → (∀ b o, b < s.heap.objs.size → s.heap.get? b = some o → h2.get? b = some o) → Q (.ref s.heap.objs.size) { s with heap := h2, toks := tk }) :
    wpAny (model prog w) A (call (.type "set") [.ref l]) Q E s := by
  obtain ⟨c, tl, hmro⟩ := PySem.F.called_set.mro
  have hmade := PySem.F.called_set.made
  have hsub := PySem.F.called_set.sub
  apply wpAny_call
  apply codeAny_of_tree
  show wpAny _ _ (callAny (.type "set") _) _ _ _
  refine wpAny_pure ⟨Code.quiet_builtin _ (by decide +kernel), ?_⟩
  apply codeAny_builtin PySem.F.entry_type_call
  rw [Around.under_plain (weight_type_call_type "set" [.ref l] []) rfl]
  have h1 := PySem.F.called_set.notType
  have h2 := PySem.F.called_set.canCreate
  have hct := PySem.F.typeCall_set_1 (.ref l)
  repeat (any_goals (first | assumption | wp_step))
  refine codeAny_mono (code_set_new_1 (.ref l) (E := E) (Q₁ := fun ob z => ∃ led : Bool, ob = .ref s.heap.objs.size ∧ z = { s with heap := s.heap.push (newSet led) }) fun led => ⟨led, rfl, rfl⟩) fun r z hr => ?_
  cases r with
  | error e => exact hr
  | ok fl =>
    cases fl with
    | ret ob =>
      obtain ⟨led, rfl, rfl⟩ := hr
      have hS : (s.heap.push (newSet led)).get? s.heap.objs.size = some (newSet led) := Heap.get?_push_size _ rfl
      have hT : Shared.TypeIs { s with heap := s.heap.push (newSet led) } (.ref s.heap.objs.size) "set" := ⟨_, hS, rfl⟩
      have hli := PySem.F.called_set.init.lookup
      have hbi := PySem.F.called_set.init.bind (.ref s.heap.objs.size)
      repeat (any_goals (first | assumption | wp_step))
      refine codeAny_mono (codeAny_call_builtin (R := wants (fun r y => r = .none ∧ ∃ h2 tk, y = { s with heap := h2, toks := tk } ∧ h2.SetOf kd s.heap.objs.size (fun y => decide (y ∈ unl f its.size)) (unl f its.size).length ∧
          (∀ b o, b < s.heap.objs.size → s.heap.get? b = some o → h2.get? b = some o)) E) PySem.F.called_set.init.plain PySem.F.entry_set_init (check_set_init_1 hT ?_)) fun r2 y hr2 => ?_
      · obtain ⟨⟨ocls, odict, odata, oslots⟩, hol, hcl, nl, hdl⟩ := hl
        simp only at hcl hdl
        subst hcl
        subst hdl
        have hol2 : (s.heap.push (newSet led)).get? l = some { cls := .type "list", dict := odict, data := .seq its nl, slots := oslots } := Heap.get?_push_of_some _ hol
        have hsls := PySem.F.sub_list_set
        have hslf := PySem.F.sub_list_frozenset
        have hne : (Value.type "list" == Value.type "dict") = false := by decide
        have hl1 : (s.heap.push (newSet led)).IsList l its := ⟨_, hol2, rfl, nl, rfl⟩
        unfold Builtin.«set.__init__» noKeywords Builtin.Frozenset.updateFrom
        generalize hPI : pyIter = PI
        wp_walk
        subst hPI
        apply wpAny_pyIter_list hl1
        apply wpAny_bind
        apply wpAny_runValue
        have hlS : l < s.heap.objs.size := Heap.lt_size hol
        have sz : (s.heap.push (newSet led)).objs.size = s.heap.objs.size + 1 := Heap.size_push ..
        have hh3 : A.in1.in1.in1.handled = none := by simp [hh]
        have hneI : l ≠ (s.heap.push (newSet led)).objs.size := by rw [sz]; exact Nat.ne_of_lt (Nat.lt_succ_of_lt hlS)
        have hSf : s.heap.objs.size ∉ [(s.heap.push (newSet led)).objs.size, l] := by
          rw [sz]
          simp only [List.mem_cons, List.not_mem_nil, or_false, not_or]
          exact ⟨Nat.ne_of_lt (Nat.lt_succ_self _), Nat.ne_of_gt hlS⟩
        refine set_loop kd ((Walks.list hh3 _ l hneI its).toS) s.heap.objs.size hSf f hv hb (its.size - 0) 0 _ (by omega) (Nat.zero_le _) ⟨⟨_, Heap.get?_push_size _ rfl, rfl, rfl⟩, (hl1.push _)⟩ ?hS0 ?hR
        case hS0 =>
          have hget : ((s.heap.push (newSet led)).push { cls := .type "list_iterator", data := .fields #[.ref l, .int 0 0] }).get? s.heap.objs.size = some (newSet led) := Heap.get?_push_of_some _ hS
          have z := (PyProof.Rows.setObjOf_fresh (knd := kd) led).setOf hget (by unfold scanBound; omega)
          have e : (fun y => decide (y ∈ unl f 0)) = fun _ => false := by funext y; simp [unl]
          rw [e]
          exact z
        case hR =>
          intro z hm hS2
          obtain ⟨h2, g2, d2, tk2, os2⟩ := z
          have eg : g2 = s.gens := hm.gens
          have ed : d2 = s.drawn := hm.drawn
          have eo : os2 = s.os := hm.os
          subst eg
          subst ed
          subst eo
          show wpAny _ _ _ _ _ _
          apply wpAny_pure
          show wpAny _ _ (ret Value.none) _ _ _
          refine wpAny_pure ⟨rfl, h2, tk2, rfl, hS2, fun b o hb e => ?_⟩
          apply hm.heap b o _ (Heap.get?_push_of_some _ (Heap.get?_push_of_some _ e))
          rw [sz]
          simp only [List.mem_cons, List.not_mem_nil, or_false, not_or]
          exact ⟨Nat.ne_of_lt hb, Nat.ne_of_lt (Nat.lt_succ_of_lt hb)⟩
      · cases r2 with
        | error e => exact hr2
        | ok fl2 =>
          cases fl2 with
          | ret r =>
            obtain ⟨rfl, h2, tk, rfl, hS2, hk2⟩ := hr2
            repeat (any_goals (first | assumption | wp_step))
            exact h _ _ hS2 hk2
          | _ => exact hr2.elim
    | _ => exact hr.elim
end
end Mn
end

section
set_option Elab.async false
set_option linter.all false
set_option maxRecDepth 100000
set_option maxHeartbeats 4000000
/-! Mn, T5: len(set(xs)) as a rule. -/
namespace Mn
open PySem PySem.Spec PyProof.Rows
open L2
theorem scan_key {P : Program} {w : World} {k : L2.Key} {u : Value} (r : RelV (kV k) u) : (mixKind P w).is k u = true ∧ u.scannable = true := ⟨kV_is r, by
  cases k with
  | inl i => obtain ⟨t, rfl⟩ := r; rfl
  | inr x => obtain ⟨t, rfl⟩ := r; rfl⟩
/-- len(set(xs)), a list of ints and texts -/
def tLenK (K : PySem.W.Frag) (ta : TE) : TE := fun σ H Q => ta σ H fun x H1 => ∃ (l : Addr) (ks : List L2.Key), x = .ref l ∧ SqL K H1 l (ks.map kV) ∧ ks.length ≤ 4000 ∧ Q (.int ((unl (fun i => ks.getD i (.inl 0)) ks.length).length : Nat)) H1
theorem pe_lenK {X : Cx} {a : Expr} {ta : TE} {p p2 q pos : Pos} (hg : Gl X "len") (hm : X.mg "len" = none) (hg2 : Gl X "set") (hm2 : X.mg "set" = none) (ha : PE X a ta) (hc : X.calm = true)
    (na : starEach [a] X.env = (false, eval a X.env) :: starEach [] X.env) : PE X (.Call (.Name "len" p) [.Call (.Name "set" p2) [a] [] q] [] pos) (tLenK X.K ta) := by
  constructor
  intro pins s σ H Q I h
  refine Call_ ?_
  apply ld_blt I hg hm boot_len
  apply PyProof.Rows.callWith_builtin1 (PyProof.Rows.args_cons _ rfl) rfl rfl
  refine Call_ ?_
  apply ld_blt I hg2 hm2 boot_set
  refine PyProof.Rows.callWith_type1 (PyProof.Rows.args_cons (thn (ha.run pins s σ H _ I h) fun v s1 ⟨x, H1, I1, r1, l, ks, ex, hq, hl, q1⟩ => PyProof.Rows.args_nil ?_) na) na rfl
  subst ex
  cases r1
  obtain ⟨its, r, pl, hz⟩ := I1.list hq
  have hlen : its.toArray.size = ks.length := by rw [List.size_toArray, ← r.length, List.length_map]
  refine call_setK (mixKind X.prog X.w) (fun i => ks.getD i (.inl 0)) (I1.ok.hd hc) pl.isList (fun i v hv => ?_) (by rw [hlen]; unfold scanBound; omega) fun h2 tk hS hk => ?_
  · have hv2 : its[i]? = some v := by simpa using hv
    have hi : i < its.length := (List.getElem?_eq_some_iff.mp hv2).1
    rw [List.size_toArray] at hlen
    have hk : ks[i]? = some (ks.getD i (.inl 0)) := by rw [List.getD_eq_getElem?_getD, List.getElem?_eq_getElem (by omega)]; rfl
    obtain ⟨u, h1, h2⟩ := r.get (i := i) (x := kV (ks.getD i (.inl 0))) (by rw [List.getElem?_map, hk]; rfl)
    rw [hv2] at h1
    cases h1
    exact scan_key h2
  · apply PyProof.Rows.args_nil
    rw [hlen] at hS
    obtain ⟨o, es, ep, t, ho, hex, hd, _, _, _, hf, hn⟩ := hS
    have I2 : Inv X pins σ H1 { s1 with heap := h2, toks := tk } := I1.kept fun b o e => hk b o (Heap.lt_size e) e
    have le := unl_le (fun i => ks.getD i (.inl 0)) ks.length
    exact call_len_set ho hex hd hf (by rw [hn]; omega) ⟨.int ((unl (fun i => ks.getD i (.inl 0)) ks.length).length : Nat), H1, I2.tok _, ⟨_, by rw [hn]⟩, q1⟩
end Mn
end

section
set_option Elab.async false
set_option linter.all false
set_option maxRecDepth 100000
set_option maxHeartbeats 4000000
/-! Mn, T6: tuples known to have no dict of their own; zip and enumerate over lists, tuples, texts; dict of a tuple of pairs. -/
namespace Mn
open PySem PySem.Spec PyProof.Rows L2
/-- a new tuple -/
def NewT (H : Hp) (vs : List V) (Q : VK) : Prop := ∀ (p : Addr) (o : Obj), H p = none → o.dict = none → Q (.ref p) (upd H p (.frz o (.tup vs)))
section
variable {X : Cx} {pins : List (Addr × Obj)} {σ : L2.St} {H : Hp} {s : Shared} {vs : List V} {its : List Value}
theorem solid_obj {P : Program} {w : World} {G : Hp} {h : Heap} {a : Addr} {o : Obj} {n : Nat} (e : h.get? a = some o) (hc : o.cls = .type "tuple") (hd : o.data = .seq its.toArray n) (rv : Vals vs its) (hz : vs.length ≤ sizeLine) : ObjOk P w G h a (.frz o (.tup vs)) :=
  ⟨e, hz, its, rv, o, e, hc, n, hd⟩
theorem new_tup {Q : VK} (I : Inv X pins σ H s) (rv : Vals vs its) (hz : vs.length ≤ sizeLine) (q : NewT H vs Q) : EP X pins σ Q (.ref s.heap.objs.size) { s with heap := s.heap.push { cls := .type "tuple", data := .seq its.toArray } } :=
  ⟨.ref s.heap.objs.size, upd H s.heap.objs.size (.frz { cls := .type "tuple", data := .seq its.toArray } (.tup vs)), I.laid (t' := s.toks) (fun b u e => Heap.get?_push_of_some _ e) (Nat.le_refl _) (solid_obj (Heap.get?_push_size _ rfl) rfl rfl rv hz), rfl, q _ _ (I.hok.fresh (Nat.le_refl _)) rfl⟩
def tTupZ (t : TA) : TE := fun σ H Q => t σ H fun xs H1 => xs.length ≤ sizeLine ∧ NewT H1 xs Q
theorem pe_tupZ {es : List Expr} {t : TA} {pos : Pos} {k : Nat} (h : PA X es t) : PE X (.Tuple es k pos) (tTupZ t) := by
  constructor
  intro pins s σ H Q I hq
  exact wpAny_Tuple_spliced (thn (h.run pos pins s σ H _ I hq) fun us s1 ⟨xs, H1, I1, r, z, q⟩ => ⟨by rw [← r.length]; exact z, new_tup I1 r z q⟩)
/-- t + u -/
def rCatZ (K : PySem.W.Frag) : R2 := fun x y H Q => ∃ a b xs ys, x = .ref a ∧ y = .ref b ∧ SqT K H a xs ∧ SqT K H b ys ∧ xs.length + ys.length ≤ sizeLine ∧
  (xs = [] → Q (.ref b) H) ∧ (xs ≠ [] → ys = [] → Q (.ref a) H) ∧ (xs ≠ [] → ys ≠ [] → NewT H (xs ++ ys) Q)
theorem op_catZ : OpR X (binaryOp .Add) (rCatZ X.K) := by
  intro pins s σ H x y v u Q I rx ry h
  obtain ⟨a, b, xs, ys, rfl, rfl, ha, hb, hz, q0, q1, q2⟩ := h
  cases rx
  cases ry
  obtain ⟨its, r1, p1, _⟩ := I.tuple ha
  obtain ⟨its2, r2, p2, _⟩ := I.tuple hb
  by_cases hx : xs = []
  · subst hx
    cases r1
    exact cat_tup0 p1 p2 ⟨.ref b, H, I, rfl, q0 rfl⟩
  · refine HT.cat_tup p1 p2 (fun z => hx (r1.nil_iff.mp z)) (fun z => ⟨.ref a, H, I, rfl, q1 hx (r2.nil_iff.mp z)⟩) (fun z => ?_) (by rw [← r1.length, ← r2.length]; exact hz)
    exact new_tup I (r1.append r2) (by rw [List.length_append]; exact hz) (q2 hx fun w => z (r2.nil_iff.mpr w))
/-- t[lo:hi] -/
def rSlZ (K : PySem.W.Frag) : V → Option Int → Option Int → Hp → VK → Prop := fun x lo hi H Q => ∃ a xs, x = .ref a ∧ SqT K H a xs ∧
  (HT.sIx xs.length 0 lo = 0 ∧ HT.sIx xs.length xs.length hi = xs.length → Q (.ref a) H) ∧ (¬ (HT.sIx xs.length 0 lo = 0 ∧ HT.sIx xs.length xs.length hi = xs.length) → NewT H (cutV xs lo hi) Q)
theorem sl_tupZ : SlR X (rSlZ X.K) := by
  intro pins s σ H x v vl vu lo hi sl Q I rx hs pl pu h
  obtain ⟨a, xs, rfl, hx, q1, q2⟩ := h
  cases rx
  obtain ⟨its, r, ht, hz⟩ := I.tuple hx
  have hlen : its.toArray.size = xs.length := by rw [List.size_toArray]; exact r.length.symm
  refine ⟨"tuple", _, PyProof.Rows.slot_tuple_getitem.lookup, ht.typeIs, ?_⟩
  by_cases hw : HT.sIx xs.length 0 lo = 0 ∧ HT.sIx xs.length xs.length hi = xs.length
  · exact getItem_tuple_whole ht hs pl pu (by rw [hlen]; exact hw) ⟨.ref a, H, I, rfl, q1 hw⟩
  · refine HT.getItem_tuple_cut ht hs pl pu (by rw [hlen]; exact hw) ?_ (by rw [hlen]; exact hz)
    rw [hlen]
    exact new_tup I ((r.drop (HT.sIx xs.length 0 lo)).take (HT.sIx xs.length xs.length hi - HT.sIx xs.length 0 lo)) (Nat.le_trans (cutV_length xs lo hi) hz) (q2 hw)
/-- tuple(x) -/
theorem call_tupleZ : CallR X (.type "tuple") (fun xs H Q => ∃ p ys, xs = [.ref p] ∧ ((SqL X.K H p ys ∧ NewT H ys Q) ∨ (SqT X.K H p ys ∧ Q (.ref p) H))) := by
  intro pins s σ H xs us Q I r h
  obtain ⟨p, ys, rfl, h⟩ := h
  obtain ⟨u, rfl, rx⟩ := vals1 r
  cases rx
  rcases h with ⟨hq, q⟩ | ⟨hq, q⟩
  · obtain ⟨its, r2, pl, hz⟩ := I.list hq
    have hlen := r2.length
    refine call_tuple_list pl.isList (fun h2 kp => ?_) (by simp only [List.size_toArray] <;> omega)
    have I1 : Inv X pins σ H { s with heap := h2 } := I.kept (t' := s.toks) kp
    exact new_tup I1 r2 hz q
  · obtain ⟨its, r2, pl, hz⟩ := I.tuple hq
    exact call_tuple_same pl ⟨.ref p, H, I, rfl, q⟩
/-- tuple(range(..)) -/
def tTupRgZ (te : L2.St → Hp → (Int → Int → Hp → Prop) → Prop) : TE := fun σ H Q => te σ H fun a b H1 => RgOk a b ∧ NewT H1 (rgV a b) Q
theorem pe_tupRgZ {e : Expr} {te : L2.St → Hp → (Int → Int → Hp → Prop) → Prop} {p pos : Pos} (hc : X.calm = true) (hg : Gl X "tuple") (hm : X.mg "tuple" = none) (he : PRg X e te) (na : starEach [e] X.env = (false, eval e X.env) :: starEach [] X.env := by rfl) : PE X (.Call (.Name "tuple" p) [e] [] pos) (tTupRgZ te) := by
  constructor
  intro pins s σ H Q I h
  refine Call_ (ld_blt I hg hm boot_tuple (PyProof.Rows.callWith_type1 (args_cons (thn (he pins s σ H _ I h) fun x s1 ⟨r, a, b, t, u, v, H1, ex, hr, I1, ok, q⟩ => args_nil ?_) na) na))
  subst ex
  obtain ⟨b1, b2, b3, b4, b5⟩ := ok
  refine call_tuple_range (n := (b - a).toNat) (I1.ok.hd hc) hr (small_one b1 b2 b3 b4) (rangeSize_nat a b) b5 fun h2 tk acc hk hi => ?_
  have I2 : Inv X pins σ H1 { s1 with heap := h2, toks := tk } := I1.kept hk
  have e : acc = acc.toList.toArray := by simp
  rw [e]
  exact new_tup I2 (vals_rg hi) (by rw [rgV_length, sizeLine_eq]; omega) q
/-- t * k -/
def rRepZ (K : PySem.W.Frag) : R2 := fun x y H Q => ∃ l k xs, x = .ref l ∧ y = .int k ∧ SqT K H l xs ∧ xs ≠ [] ∧ 2 ≤ k ∧ k ≤ 1000 ∧ xs.length ≤ 1000 ∧ NewT H (List.replicate k.toNat xs).flatten Q
theorem op_repZ : OpR X (binaryOp .Mult) (rRepZ X.K) := by
  intro pins s σ H x y v u Q I rx ry h
  obtain ⟨l, k, xs, rfl, rfl, hT, hne, h1, h2, hz, q⟩ := h
  cases rx
  obtain ⟨t, rfl⟩ := ry
  obtain ⟨its, r, ⟨⟨cls, dd, data, sl⟩, ho, hc, n, hd⟩, hs⟩ := I.tuple hT
  simp only at hc hd
  subst hc hd
  have hle : its.length = xs.length := r.length.symm
  have hn : its ≠ [] := fun e => hne (List.eq_nil_of_length_eq_zero (by rw [← hle, e]; rfl))
  have hi : its.toArray.isEmpty = false := by
    cases its with
    | nil => exact absurd rfl hn
    | cons a b => rfl
  have hs2 : its.toArray.size = xs.length := by rw [List.size_toArray, hle]
  have hm : ((its.toArray.size : Nat) : Int) * k ≤ 1000000 := by
    rw [hs2]
    have a1 : ((xs.length : Nat) : Int) * k ≤ 1000 * k := Int.mul_le_mul_of_nonneg_right (by omega) (by omega)
    omega
  have bound : k.toNat * xs.length ≤ 1000 * 1000 := Nat.mul_le_mul (by omega) hz
  have flen : (List.replicate k.toNat its).flatten.length ≤ sizeLine := by
    rw [PyProof.Rows.lm_len_rep_flat, hle, sizeLine_eq]
    omega
  refine wpAny_binaryOp_repeat_ref (T := "tuple") (U := "int") (by decide) ⟨_, ho, rfl⟩ (fun s' => typeIs_int s' k t) noFill_tuple_mul F.fills_int_mul F.slot_int_rmul repeat_tuple F.slot_int_index.lookup
    (call_meets F.slot_int_rmul (typeIs_int s k t) F.entry_int_rmul (F.args_int_rmul_2 _ _) (int_rmul_tuple k t l its.toArray n dd sl)
      ⟨ho, rfl, ⟨_, ho, rfl⟩, call_meets F.slot_tuple_mul ⟨_, ho, rfl⟩ F.entry_tuple_mul (F.args_tuple_mul_2 _ _) (tuple_mulW l its.toArray n dd sl k t ?_ ?_ ?_ (by omega) ?_ (by rw [size_rep, List.size_toArray]; exact flen)) ⟨ho, ?_⟩⟩)
  · rw [decide_eq_false (by omega), decide_eq_false (by omega)]
    rfl
  · rw [hi, Bool.false_or]
    exact beq_eq_false_iff_ne.mpr (by omega)
  · rw [hi, Bool.or_false]
    exact decide_eq_false (by omega)
  · unfold Builtin.Tuple.tupleTooMany
    rw [sizeLine_eq]
    exact decide_eq_false (by omega)
  · rw [size_rep]
    exact new_tup I (r.rep k.toNat) (by rw [PyProof.Rows.lm_len_rep_flat, sizeLine_eq]; omega) q
/-- t * 0 -/
theorem tuple_mul0 (l : Addr) (items : Array Value) (n : Nat) (dd : Option Addr) (sl : Array (Option Value)) (x : Int) (u : Tok) (c0 : (decide (x < -(2 ^ 63)) || decide (x ≥ 2 ^ 63)) = false) (c1 : (items.isEmpty || x == 1) = false) (c2 : (decide (x ≤ 0) || items.isEmpty) = true) :
    Meets (Builtin.«tuple.__mul__» ⟨[.ref l, .int x u], []⟩) (fun _ R s => s.heap.get? l = some { cls := .type "tuple", dict := dd, data := .seq items n, slots := sl } ∧
      R (.ok (.ret (Value.ref s.heap.objs.size))) { s with heap := s.heap.push { cls := Value.type "tuple", data := Data.seq #[] }, toks := s.toks }) :=
  .of_wp fun prog w A R s h => by
    obtain ⟨hp, g, d, tk, os⟩ := s
    obtain ⟨hl, h⟩ := h
    have f1 := AutoSeq1.idx_int
    wp_walk using wpAny_loadPart' hl
    repeat (first
      | (refine wpAny_ite_false (decide_eq_false (by rw [c0]; exact Bool.false_ne_true)) ?_; wp_walk using wpAny_loadPart' hl)
      | (refine wpAny_ite_false (decide_eq_false (by rw [c1]; exact Bool.false_ne_true)) ?_; wp_walk using wpAny_loadPart' hl)
      | (refine wpAny_ite_true (decide_eq_true c2) ?_; wp_walk using wpAny_loadPart' hl))
    exact ⟨_, rfl, h⟩
def rRepZ0 (K : PySem.W.Frag) : R2 := fun x y H Q => ∃ l k xs, x = .ref l ∧ y = .int k ∧ SqT K H l xs ∧ xs ≠ [] ∧ -1000 ≤ k ∧ k ≤ 0 ∧ NewT H [] Q
theorem op_repZ0 : OpR X (binaryOp .Mult) (rRepZ0 X.K) := by
  intro pins s σ H x y v u Q I rx ry h
  obtain ⟨l, k, xs, rfl, rfl, hT, hne, h1, h2, q⟩ := h
  cases rx
  obtain ⟨t, rfl⟩ := ry
  obtain ⟨its, r, ⟨⟨cls, dd, data, sl⟩, ho, hc, n, hd⟩, hs⟩ := I.tuple hT
  simp only at hc hd
  subst hc hd
  have hle : its.length = xs.length := r.length.symm
  have hn : its ≠ [] := fun e => hne (List.eq_nil_of_length_eq_zero (by rw [← hle, e]; rfl))
  have hi : its.toArray.isEmpty = false := by
    cases its with
    | nil => exact absurd rfl hn
    | cons a b => rfl
  refine wpAny_binaryOp_repeat_ref (T := "tuple") (U := "int") (by decide) ⟨_, ho, rfl⟩ (fun s' => typeIs_int s' k t) noFill_tuple_mul F.fills_int_mul F.slot_int_rmul repeat_tuple F.slot_int_index.lookup
    (call_meets F.slot_int_rmul (typeIs_int s k t) F.entry_int_rmul (F.args_int_rmul_2 _ _) (int_rmul_tuple k t l its.toArray n dd sl)
      ⟨ho, rfl, ⟨_, ho, rfl⟩, call_meets F.slot_tuple_mul ⟨_, ho, rfl⟩ F.entry_tuple_mul (F.args_tuple_mul_2 _ _) (tuple_mul0 l its.toArray n dd sl k t ?_ ?_ ?_) ⟨ho, ?_⟩⟩)
  · rw [decide_eq_false (by omega), decide_eq_false (by omega)]
    rfl
  · rw [hi, Bool.false_or]
    exact beq_eq_false_iff_ne.mpr (by omega)
  · rw [decide_eq_true (by omega)]
    rfl
  · exact new_tup (its := []) I .nil (Nat.zero_le _) q
end
/-! ### what enumerate and zip walk -/
inductive Sc where | lst (a : Addr) | tup (a : Addr) | txt (z : Str)
def Sc.v : Sc → V
  | .lst a => .ref a
  | .tup a => .ref a
  | .txt z => .str z
def Sc.has (K : PySem.W.Frag) (H : Hp) : Sc → List V → Prop
  | .lst a, xs => SqL K H a xs
  | .tup a, xs => SqT K H a xs
  | .txt z, xs => xs = z.cps.toList.map fun c => V.str ⟨#[c]⟩
def Sc.fp (it : Addr) : Sc → List Addr
  | .lst a => [it, a]
  | .tup a => [it, a]
  | .txt _ => [it]
def Sc.on (h : Heap) (it : Addr) (i : Nat) : Sc → Prop
  | .lst a => h.IsListIter it a i
  | .tup a => h.IsTupleIter it a i
  | .txt z => ∃ t, h.IsStrIter it (strIterType z) z t i
section
variable {h h2 : Heap} {it : Addr} {i : Nat} {A : Sc}
theorem Sc.on_at (z : A.on h it i) (e : ∀ o, h.get? it = some o → h2.get? it = some o) : A.on h2 it i := by
  cases A with
  | lst a => exact Heap.IsListIter.at z e
  | tup a => exact Heap.IsTupleIter.at z e
  | txt y => obtain ⟨t, o, ho, r⟩ := z; exact ⟨t, o, e _ ho, r⟩
theorem Sc.on_obj (z : A.on h it i) : ∃ o, h.get? it = some o ∧ ∀ v, o.data ≠ .cell v := by
  cases A with
  | lst a => obtain ⟨o, ho, _, d⟩ := z; exact ⟨o, ho, fun v y => by rw [d] at y; cases y⟩
  | tup a => obtain ⟨o, ho, _, d⟩ := z; exact ⟨o, ho, fun v y => by rw [d] at y; cases y⟩
  | txt y => obtain ⟨t, o, ho, _, d⟩ := z; exact ⟨o, ho, fun v y => by rw [d] at y; cases y⟩
theorem Sc.fp_it : it ∈ A.fp it := by cases A <;> simp [Sc.fp]
variable {X : Cx} {pins : List (Addr × Obj)} {σ : L2.St} {H : Hp} {s : Shared} {xs ys : List V}
theorem Sc.inj (I : Inv X pins σ H s) (h1 : A.has X.K H xs) (h2 : A.has X.K H ys) : xs = ys := by
  cases A with
  | lst a => exact I.list_inj h1 h2
  | tup a => exact I.tuple_inj h1 h2
  | txt z => exact (show xs = _ from h1).trans (show ys = _ from h2).symm
theorem Sc.draws (hh : X.A.handled = none) (I : Inv X pins σ H s) (hq : A.has X.K H xs) (ho : A.on s.heap it i) (ne : ∀ b, b ∈ A.fp it → b ≠ it → True) (hne : A.v ≠ .ref it) :
    ∃ (P : Nat → Value → Prop) (St : Nat → Heap → Prop), Draws X.prog X.w X.A.in1 it (A.fp it) xs.length P St ∧ St i s.heap ∧ (∀ j v, P j v → ∃ x, xs[j]? = some x ∧ RelV x v) ∧ ∀ j h2, St j h2 → A.on h2 it j := by
  cases A with
  | lst a =>
    obtain ⟨its, rv, p, _⟩ := I.list hq
    have hn : a ≠ it := fun e => hne (by rw [e]; rfl)
    have D := Draws.list (prog := X.prog) (w := X.w) (A := X.A.in1) hh it a hn its.toArray
    have e : its.toArray.size = xs.length := by rw [List.size_toArray]; exact rv.length.symm
    rw [e] at D
    refine ⟨_, _, D, ⟨ho, p.isList⟩, fun j v hv => ?_, fun j h2 z => z.1⟩
    have hv : its.toArray[j]? = some v := hv
    rw [List.getElem?_toArray] at hv
    have hl : j < xs.length := by rw [rv.length]; exact (List.getElem?_eq_some_iff.mp hv).1
    obtain ⟨u, hu, ru⟩ := rv.get (List.getElem?_eq_getElem hl)
    rw [hv] at hu
    cases hu
    exact ⟨_, List.getElem?_eq_getElem hl, ru⟩
  | tup a =>
    obtain ⟨its, rv, p, _⟩ := I.tuple hq
    have hn : a ≠ it := fun e => hne (by rw [e]; rfl)
    have D := Draws.tuple (prog := X.prog) (w := X.w) (A := X.A.in1) hh it a hn its.toArray
    have e : its.toArray.size = xs.length := by rw [List.size_toArray]; exact rv.length.symm
    rw [e] at D
    refine ⟨_, _, D, ⟨ho, p⟩, fun j v hv => ?_, fun j h2 z => z.1⟩
    have hv : its.toArray[j]? = some v := hv
    rw [List.getElem?_toArray] at hv
    have hl : j < xs.length := by rw [rv.length]; exact (List.getElem?_eq_some_iff.mp hv).1
    obtain ⟨u, hu, ru⟩ := rv.get (List.getElem?_eq_getElem hl)
    rw [hv] at hu
    cases hu
    exact ⟨_, List.getElem?_eq_getElem hl, ru⟩
  | txt z =>
    obtain ⟨t, ho⟩ := ho
    have hq : xs = _ := hq
    subst hq
    have D := Draws.text (prog := X.prog) (w := X.w) (A := X.A.in1) hh it z t
    have e : z.cps.size = (z.cps.toList.map fun c => V.str ⟨#[c]⟩).length := by simp
    rw [e] at D
    refine ⟨_, _, D, ho, fun j v hv => ?_, fun j h2 z => ⟨t, z⟩⟩
    obtain ⟨c, u, hc, rfl⟩ := hv
    exact ⟨.str ⟨#[c]⟩, by rw [List.getElem?_map, Array.getElem?_toList, hc]; rfl, ⟨u, rfl⟩⟩
end
/-- each item in a new pair -/
def ItE (K : PySem.W.Frag) (A : Sc) : It :=
  ⟨fun i H => ∃ (xs : List V) (x : V), A.has K H xs ∧ xs[i]? = some x,
   fun i H v H2 => ∃ T x o, v = .ref T ∧ H T = none ∧ o.dict = none ∧ H2 = upd H T (.frz o (.tup [.int (i : Nat), x])) ∧ ∀ xs, A.has K H xs → xs[i]? = some x,
   fun i H => ∃ xs : List V, A.has K H xs ∧ xs.length = i⟩
theorem turn_enumZ {P : Program} {w : World} {K : PySem.W.Frag} {elts : List Expr} {kk : Nat} {tpos : Pos} (A : Sc) (e it : Addr) (ne1 : e ≠ it) (ne2 : e ∉ A.fp it) (ne3 : A.v ≠ .ref it) :
    Turn P w K (.Tuple elts kk tpos) (ItE K A) [e, it] e (fun i h => (∃ old, IsEnum h e it ((i : Nat) : Int) old) ∧ A.on h it i) where
  mem := by simp
  obj := fun i h z b hb => by
    obtain ⟨⟨old, he⟩, ho⟩ := z
    have cs : b = e ∨ b = it := by simpa using hb
    rcases cs with q | q
    · subst q; exact ⟨_, he, fun v y => nomatch y⟩
    · subst q; exact Sc.on_obj ho
  keep := fun i h h2 z k => let ⟨⟨old, he⟩, hi⟩ := z; ⟨⟨old, k e (by simp) _ he⟩, Sc.on_at hi fun o q => k it (by simp) o q⟩
  item := by
    intro X hP hw hK hc i pins s σ H E J hf z hg
    subst hP hw hK
    obtain ⟨⟨old, he⟩, hit⟩ := z
    obtain ⟨xs, x, hq, hx⟩ := hg
    obtain ⟨Pr, St, D, st, hp, hs⟩ := Sc.draws (J.ok.hd hc) J hq hit (fun _ _ _ => trivial) ne3
    have hel : e < s.heap.objs.size := Heap.lt_size he
    have hil : it < s.heap.objs.size := by obtain ⟨_, q, _⟩ := Sc.on_obj hit; exact Heap.lt_size q
    have hlt : i < xs.length := (List.getElem?_eq_some_iff.mp hx).1
    refine wpAny_pyNext_enum_itemD D he st hlt ne1 ne2 fun y h2 tk hy ho hst hT hsz hk => ?_
    obtain ⟨x2, hx2, ry⟩ := hp _ _ hy
    rw [hx] at hx2
    cases hx2
    refine ⟨_, rfl, wpAny_letOwnedTupleGo_enum (s := { s with heap := h2, toks := tk + 1 }) ho fun h3 he3 sb => ?_⟩
    have hT2 : h3.get? s.heap.objs.size = some { cls := .type "tuple", data := .seq #[.int i tk, y] } := (sb.2 _ (Nat.ne_of_gt hel)).trans hT
    have J1 : Inv X pins σ (upd H s.heap.objs.size (.frz { cls := .type "tuple", data := .seq #[.int i tk, y] } (.tup [.int (i : Nat), x]))) { s with heap := h3, toks := tk + 1 } :=
      J.turnedNew (ch := [e, it]) (fun b o hb q => (sb.2 b (fun z => hb (by simp [z]))).trans (hk b o (fun z => hb (by simp [z])) (fun z => hb (by simp [z])) q)) hf (Nat.le_refl _)
        (solid_obj (its := [.int i tk, y]) hT2 rfl rfl (.cons ⟨_, rfl⟩ (.cons ry .nil)) (by show 2 ≤ sizeLine; decide))
    refine ⟨.ref s.heap.objs.size, _, J1, rfl, ⟨_, x, _, rfl, J.hok.fresh (Nat.le_refl _), rfl, rfl, fun ys hy => by rw [Sc.inj J hy hq]; exact hx⟩, ⟨⟨y, ?_⟩, Sc.on_at (hs _ _ hst) fun o q => (sb.2 it (Ne.symm ne1)).trans q⟩, fun b hb => ?_⟩
    · rw [show ((i + 1 : Nat) : Int) = (i : Int) + 1 by omega]
      exact he3
    · have cs : b = e ∨ b = it := by simpa using hb
      have hb2 : b < s.heap.objs.size := by rcases cs with q | q <;> rw [q] <;> assumption
      rw [upd_ne (Nat.ne_of_lt hb2)]
      exact (hf b hb).1
  done := by
    intro X hP hw hK hc i pins s σ H E J hf z hg
    subst hP hw hK
    obtain ⟨⟨old, he⟩, hit⟩ := z
    obtain ⟨xs, hq, hx⟩ := hg
    subst hx
    obtain ⟨Pr, St, D, st, hp, hs⟩ := Sc.draws (J.ok.hd hc) J hq hit (fun _ _ _ => trivial) ne3
    obtain ⟨f0, f1, f2, f3, f4, f5⟩ := hf it (by simp)
    exact wpAny_pyNext_enum_endD D he st fun h2 eb => ⟨rfl, J.turned (t' := s.toks) (fun b o hb q => eb b o hb q) f0 f1 f3 f4 f5⟩
  self := fun A i s Q E z h => let ⟨⟨_, he⟩, _⟩ := z; wpAny_pyIter_enum he h
theorem pi_enumZ {X : Cx} {e : Expr} {ta : TA} {p pos tpos : Pos} {elts : List Expr} {kk : Nat} (hg : Gl X "enumerate") (hm : X.mg "enumerate" = none) (ha : PA X [e] ta) (hs : starEach [e] X.env = [(false, eval e X.env)]) :
    PI X (.Tuple elts kk tpos) (.Call (.Name "enumerate" p) [e] [] pos) (fun σ H R => ta σ H fun vs H1 => ∃ a xs, vs = [.ref a] ∧ ((SqL X.K H1 a xs ∧ R (ItE X.K (.lst a)) H1) ∨ (SqT X.K H1 a xs ∧ R (ItE X.K (.tup a)) H1))) := by
  constructor
  intro pins s σ H R J h
  refine Call_ (ld_blt J hg hm boot_enumerate (PyProof.Rows.callWith_type1 (thn (ha.run pos pins s σ H _ J h) fun us s1 ⟨vs, H1, J1, r1, a, xs, ex, q1⟩ => ?_) hs rfl))
  subst ex
  obtain ⟨u, rfl, rx⟩ := vals1 r1
  cases rx
  have fp : ∀ b ∈ [s1.heap.objs.size + 1, s1.heap.objs.size], FpOk X pins H1 b := fun b hb => by
    have cs : b = s1.heap.objs.size + 1 ∨ b = s1.heap.objs.size := by simpa using hb
    have hle : s1.heap.objs.size ≤ b := by rcases cs with z | z <;> rw [z] <;> omega
    exact J1.fpOk hle (J1.hok.fresh hle)
  rcases q1 with ⟨hq, q⟩ | ⟨hq, q⟩
  · obtain ⟨its, rv, pl, hz⟩ := J1.list hq
    have hal : a < s1.heap.objs.size := pl.lt
    refine call_enumerate_list pl.isList fun h2 he hit hsz hk => wpAny_pyIter_enum he ?_
    exact ⟨s1.heap.objs.size + 1, [s1.heap.objs.size + 1, s1.heap.objs.size], _, _, H1, rfl, J1.kept (t' := s1.toks) hk, turn_enumZ (.lst a) (s1.heap.objs.size + 1) s1.heap.objs.size (Nat.succ_ne_self _) (by simp only [Sc.fp, List.mem_cons, List.not_mem_nil, or_false, not_or]; exact ⟨Nat.succ_ne_self _, Nat.ne_of_gt (Nat.lt_succ_of_lt hal)⟩) (fun z => absurd (V.ref.inj z) (Nat.ne_of_lt hal)), ⟨⟨.none, he⟩, hit⟩, fp, q⟩
  · obtain ⟨its, rv, pl, hz⟩ := J1.tuple hq
    have hal : a < s1.heap.objs.size := by obtain ⟨_, q, _⟩ := pl; exact Heap.lt_size q
    refine call_enumT pl fun h2 he hit hsz hk => wpAny_pyIter_enum he ?_
    exact ⟨s1.heap.objs.size + 1, [s1.heap.objs.size + 1, s1.heap.objs.size], _, _, H1, rfl, J1.kept (t' := s1.toks) hk, turn_enumZ (.tup a) (s1.heap.objs.size + 1) s1.heap.objs.size (Nat.succ_ne_self _) (by simp only [Sc.fp, List.mem_cons, List.not_mem_nil, or_false, not_or]; exact ⟨Nat.succ_ne_self _, Nat.ne_of_gt (Nat.lt_succ_of_lt hal)⟩) (fun z => absurd (V.ref.inj z) (Nat.ne_of_lt hal)), ⟨⟨.none, he⟩, hit⟩, fp, q⟩
/-! ### zip -/
/-- the items of both, in new pairs -/
def ItP (K : PySem.W.Frag) (A B : Sc) : It :=
  ⟨fun i H => ∃ (xs ys : List V) (x y : V), A.has K H xs ∧ B.has K H ys ∧ xs[i]? = some x ∧ ys[i]? = some y,
   fun i H v H2 => ∃ T x y o, v = .ref T ∧ H T = none ∧ o.dict = none ∧ H2 = upd H T (.frz o (.tup [x, y])) ∧ (∀ xs, A.has K H xs → xs[i]? = some x) ∧ ∀ ys, B.has K H ys → ys[i]? = some y,
   fun i H => ∃ xs ys : List V, A.has K H xs ∧ B.has K H ys ∧ i ≤ xs.length ∧ i ≤ ys.length ∧ (i = xs.length ∨ i = ys.length)⟩
theorem turn_zipZ {P : Program} {w : World} {K : PySem.W.Frag} {elts : List Expr} {kk : Nat} {tpos : Pos} {A B : Sc} {z TI TO i1 i2 : Addr} (D : ZipSep2 z TI TO i1 i2 (A.fp i1) (B.fp i2)) (na : A.v ≠ .ref i1) (nb : B.v ≠ .ref i2) :
    Turn P w K (.Tuple elts kk tpos) (ItP K A B) [z, TI, TO, i1, i2] z (fun i h => IsZip h z TI TO .none ∧ IsTupOf2 h TI (.ref i1) (.ref i2) ∧ (∃ x y, IsTupOf2 h TO x y) ∧ A.on h i1 i ∧ B.on h i2 i) where
  mem := by simp
  obj := fun i h st c hc => by
    obtain ⟨hz, hTI, ⟨x, y, hTO⟩, h1, h2⟩ := st
    have cs : c = z ∨ c = TI ∨ c = TO ∨ c = i1 ∨ c = i2 := by simpa using hc
    rcases cs with q | q | q | q | q
    · rw [q]; exact ⟨_, hz, fun v q => nomatch q⟩
    · rw [q]; exact ⟨_, hTI, fun v q => nomatch q⟩
    · rw [q]; exact ⟨_, hTO, fun v q => nomatch q⟩
    · rw [q]; exact Sc.on_obj h1
    · rw [q]; exact Sc.on_obj h2
  keep := fun i h h2 st k => by
    obtain ⟨hz, hTI, ⟨x, y, hTO⟩, h1, h3⟩ := st
    exact ⟨k z (by simp) _ hz, k TI (by simp) _ hTI, ⟨x, y, k TO (by simp) _ hTO⟩, Sc.on_at h1 fun o q => k i1 (by simp) o q, Sc.on_at h3 fun o q => k i2 (by simp) o q⟩
  item := by
    intro X hP hw hK hc i pins s σ H E J hf st hg
    subst hP hw hK
    obtain ⟨hz, hTI, ⟨x0, y0, hTO⟩, h1, h2⟩ := st
    obtain ⟨xs, ys, x, y, hqx, hqy, hx, hy⟩ := hg
    obtain ⟨P1, S1, D1, st1, hp1, hs1⟩ := Sc.draws (J.ok.hd hc) J hqx h1 (fun _ _ _ => trivial) na
    obtain ⟨P2, S2, D2, st2, hp2, hs2⟩ := Sc.draws (J.ok.hd hc) J hqy h2 (fun _ _ _ => trivial) nb
    have l1 : i < xs.length := (List.getElem?_eq_some_iff.mp hx).1
    have l2 : i < ys.length := (List.getElem?_eq_some_iff.mp hy).1
    have hzl : z < s.heap.objs.size := Heap.lt_size hz
    refine wpAny_pyNext_zipD2_item D D1 D2 hz hTI hTO st1 st2 l1 l2 fun u1 u2 h2a tk y1 y2 z1 TO1 t1 t2 hT hsz hk => ?_
    obtain ⟨x2, hx2, rx⟩ := hp1 _ _ y1
    rw [hx] at hx2
    cases hx2
    obtain ⟨x3, hx3, ry⟩ := hp2 _ _ y2
    rw [hy] at hx3
    cases hx3
    refine ⟨_, rfl, wpAny_letOwnedTupleGo_zip (s := { s with heap := h2a, toks := tk }) z1 fun h3 z3 sb => ?_⟩
    have hT2 : h3.get? s.heap.objs.size = some { cls := .type "tuple", data := .seq #[u1, u2] } := (sb.2 _ (Nat.ne_of_gt hzl)).trans hT
    have J1 : Inv X pins σ (upd H s.heap.objs.size (.frz { cls := .type "tuple", data := .seq #[u1, u2] } (.tup [x, y]))) { s with heap := h3, toks := tk } :=
      J.turnedNew (ch := [z, TI, TO, i1, i2]) (fun c o hb q => (sb.2 c (fun q' => hb (by simp [q']))).trans (hk c o (fun q' => hb (by simp [q'])) (fun q' => hb (by simp [q'])) (fun q' => hb (by simp [q'])) (fun q' => hb (by simp [q'])) q)) hf (Nat.le_refl _)
        (solid_obj (its := [u1, u2]) hT2 rfl rfl (.cons rx (.cons ry .nil)) (by show 2 ≤ sizeLine; decide))
    refine ⟨.ref s.heap.objs.size, _, J1, rfl, ⟨_, x, y, _, rfl, J.hok.fresh (Nat.le_refl _), rfl, rfl, fun l hl => by rw [Sc.inj J hl hqx]; exact hx, fun l hl => by rw [Sc.inj J hl hqy]; exact hy⟩, ⟨z3, ?_, ⟨u1, u2, ?_⟩, ?_, ?_⟩, fun c hcm => ?_⟩
    · exact (sb.2 _ D.TIz).trans (hk _ _ D.TIz D.TITO D.TIi1 D.TIi2 hTI)
    · exact (sb.2 _ D.TOz).trans TO1
    · exact Sc.on_at (hs1 _ _ t1) fun o q => (sb.2 _ (Ne.symm D.zi1)).trans q
    · exact Sc.on_at (hs2 _ _ t2) fun o q => (sb.2 _ (Ne.symm D.zi2)).trans q
    · have hlt : c < s.heap.objs.size := by
        have cs : c = z ∨ c = TI ∨ c = TO ∨ c = i1 ∨ c = i2 := by simpa using hcm
        rcases cs with q | q | q | q | q
        · rw [q]; exact hzl
        · rw [q]; exact Heap.lt_size hTI
        · rw [q]; exact Heap.lt_size hTO
        · rw [q]; obtain ⟨_, e1, _⟩ := Sc.on_obj h1; exact Heap.lt_size e1
        · rw [q]; obtain ⟨_, e1, _⟩ := Sc.on_obj h2; exact Heap.lt_size e1
      rw [upd_ne (Nat.ne_of_lt hlt)]
      exact (hf c hcm).1
  done := by
    intro X hP hw hK hc i pins s σ H E J hf st hg
    subst hP hw hK
    obtain ⟨hz, hTI, ⟨x0, y0, hTO⟩, h1, h2⟩ := st
    obtain ⟨xs, ys, hqx, hqy, b1, b2, hend⟩ := hg
    obtain ⟨P1, S1, D1, st1, hp1, hs1⟩ := Sc.draws (J.ok.hd hc) J hqx h1 (fun _ _ _ => trivial) na
    obtain ⟨P2, S2, D2, st2, hp2, hs2⟩ := Sc.draws (J.ok.hd hc) J hqy h2 (fun _ _ _ => trivial) nb
    exact wpAny_pyNext_zipD2_end D D1 D2 hz hTI hTO st1 st2 b1 b2 hend fun h3 tk hk => ⟨rfl, J.turnedL (t' := tk) (ch := [z, TI, TO, i1, i2]) (fun c o hb q =>
      hk c o (fun q' => hb (by simp [q'])) (fun q' => hb (by simp [q'])) (fun q' => hb (by simp [q'])) (fun q' => hb (by simp [q'])) q) hf⟩
  self := fun A i s Q E st h => wpAny_pyIter_zip st.1 h
theorem Sc.begin {X : Cx} {pins : List (Addr × Obj)} {σ : L2.St} {H : Hp} {s : Shared} {A : Sc} {xs : List V} {v : Value} (I : Inv X pins σ H s) (hq : A.has X.K H xs) (r : RelV A.v v) :
    ∃ (o : Obj) (G : Heap → Prop), Begins v o G ∧ G s.heap ∧ (∀ h a, h.get? a = some o → A.on h a 0) ∧ ∀ a, A.v = .ref a → a < s.heap.objs.size := by
  cases A with
  | lst a =>
    obtain rfl : v = .ref a := r
    obtain ⟨its, rv, p, _⟩ := I.list hq
    exact ⟨_, _, begins_list a its.toArray, p.isList, fun h b e => ⟨_, e, rfl, rfl⟩, fun b e => by cases e; exact p.lt⟩
  | tup a =>
    obtain rfl : v = .ref a := r
    obtain ⟨its, rv, p, _⟩ := I.tuple hq
    exact ⟨_, _, begins_tuple a its.toArray, p, fun h b e => ⟨_, e, rfl, rfl⟩, fun b e => by cases e; obtain ⟨_, q, _⟩ := p; exact Heap.lt_size q⟩
  | txt z =>
    obtain ⟨t, rfl⟩ : ∃ t, v = .str z t := r
    exact ⟨_, _, begins_text z t, trivial, fun h b e => ⟨t, _, e, rfl, rfl⟩, fun b e => nomatch e⟩
theorem Sc.fp_old {A : Sc} {n i b : Nat} (h : ∀ a, A.v = .ref a → a < n) (hb : n ≤ b) (hi : b ≠ i) : b ∉ A.fp i := by
  cases A with
  | lst a =>
    have := h a rfl
    simp only [Sc.fp, List.mem_cons, List.not_mem_nil, or_false, not_or]
    exact ⟨hi, fun e => absurd this (by rw [← e]; exact Nat.not_lt.mpr hb)⟩
  | tup a =>
    have := h a rfl
    simp only [Sc.fp, List.mem_cons, List.not_mem_nil, or_false, not_or]
    exact ⟨hi, fun e => absurd this (by rw [← e]; exact Nat.not_lt.mpr hb)⟩
  | txt z => simpa [Sc.fp] using hi
theorem zip_sep {A B : Sc} {n : Nat} (ha : ∀ a, A.v = .ref a → a < n) (hb : ∀ a, B.v = .ref a → a < n) : ZipSep2 (n + 4) (n + 2) (n + 3) n (n + 1) (A.fp n) (B.fp (n + 1)) where
  TIz := fun h => by have h : (n + 2 : Nat) = n + 4 := h; omega
  TOz := fun h => by have h : (n + 3 : Nat) = n + 4 := h; omega
  TITO := fun h => by have h : (n + 2 : Nat) = n + 3 := h; omega
  TIi1 := fun h => by have h : (n + 2 : Nat) = n := h; omega
  mem1 := Sc.fp_it
  zf1 := Sc.fp_old ha (by omega) (by omega)
  Tf1 := Sc.fp_old ha (by omega) (by omega)
  TIi2 := fun h => by have h : (n + 2 : Nat) = n + 1 := h; omega
  mem2 := Sc.fp_it
  zf2 := Sc.fp_old hb (by omega) (by omega)
  Tf2 := Sc.fp_old hb (by omega) (by omega)
  sep1_2 := Sc.fp_old hb (by omega) (by omega)
  sep2_1 := Sc.fp_old ha (by omega) (by omega)
theorem pi_zipZ {X : Cx} {e e2 : Expr} {ta : TA} {p pos tpos : Pos} {elts : List Expr} {kk : Nat} (hg : Gl X "zip") (hm : X.mg "zip" = none) (ha : PA X [e, e2] ta)
    (hs : starEach [e, e2] X.env = (false, eval e X.env) :: starEach [e2] X.env := by rfl) (hpl : (backTo pos (starEach [e2] X.env)).any (·.1) = false := by rfl) :
    PI X (.Tuple elts kk tpos) (.Call (.Name "zip" p) [e, e2] [] pos) (fun σ H R => ta σ H fun vs H1 => ∃ (A B : Sc) (xs ys : List V), vs = [A.v, B.v] ∧ A.has X.K H1 xs ∧ B.has X.K H1 ys ∧ R (ItP X.K A B) H1) := by
  constructor
  intro pins s σ H R I h
  refine Call_ (ld_blt I hg hm PyProof.Rows.boot_zip (PyProof.Rows.callWith_type1 (thn (ha.run pos pins s σ H _ I h) fun us s1 ⟨vs, H1, I1, r1, q1⟩ => ?_) hs hpl))
  obtain ⟨A, B, xs, ys, ex, hqx, hqy, q⟩ := q1
  subst ex
  obtain ⟨u, u2, rfl, rx, ry⟩ := vals2 r1
  obtain ⟨o1, G1, B1, g1, on1, lt1⟩ := Sc.begin I1 hqx rx
  obtain ⟨o2, G2, B2, g2, on2, lt2⟩ := Sc.begin I1 hqy ry
  refine zip_begins2 B1 B2 g1 g2 fun h2 hz hTI hTO e1 e2 hsz hk => wpAny_pyIter_zip hz ?_
  refine ⟨s1.heap.objs.size + 4, [s1.heap.objs.size + 4, s1.heap.objs.size + 2, s1.heap.objs.size + 3, s1.heap.objs.size, s1.heap.objs.size + 1], _, _, H1, rfl, I1.kept (t' := s1.toks) hk,
    turn_zipZ (zip_sep (A := A) (B := B) lt1 lt2) (fun z => absurd (lt1 _ z) (Nat.lt_irrefl _)) (fun z => absurd (lt2 _ z) (Nat.not_lt.mpr (Nat.le_succ _))), ⟨hz, hTI, ⟨_, _, hTO⟩, on1 _ _ e1, on2 _ _ e2⟩, fun c hcm => ?_, q⟩
  have cs : c = s1.heap.objs.size + 4 ∨ c = s1.heap.objs.size + 2 ∨ c = s1.heap.objs.size + 3 ∨ c = s1.heap.objs.size ∨ c = s1.heap.objs.size + 1 := by simpa using hcm
  have hle : s1.heap.objs.size ≤ c := by
    rcases cs with z | z | z | z | z
    · rw [z]; exact Nat.le_add_right _ _
    · rw [z]; exact Nat.le_add_right _ _
    · rw [z]; exact Nat.le_add_right _ _
    · rw [z]; exact Nat.le_refl _
    · rw [z]; exact Nat.le_add_right _ _
  exact I1.fpOk hle (I1.hok.fresh hle)
/-! ### dict of a tuple of pairs -/
def Solid (K : PySem.W.Frag) (H : Hp) (a : Addr) (vs : List V) : Prop := (∃ o, H a = some (.frz o (.tup vs)) ∧ o.dict = none) ∨
  ∃ (o : Obj) (its : Array Value) (n : Nat), K.lookup a = some o ∧ o.cls = .type "tuple" ∧ o.dict = none ∧ o.data = .seq its n ∧ its.size ≤ sizeLine ∧ Vals vs its.toList
section
variable {X : Cx} {pins : List (Addr × Obj)} {σ : L2.St} {H : Hp} {s : Shared} {vs : List V} {a : Addr}
theorem solid_at (I : Inv X pins σ H s) (h : Solid X.K H a vs) : ∃ its : List Value, Vals vs its ∧ PlainSeq "tuple" s.heap a its.toArray ∧ vs.length ≤ sizeLine := by
  rcases h with ⟨o, h, hd⟩ | ⟨o, its, n, hk, hc, hd, hs, hz, r⟩
  · obtain ⟨ho, z, its, rv, o2, ho2, hc, n, hs⟩ := I.hok a _ h
    rw [ho] at ho2
    cases ho2
    exact ⟨its, rv, ⟨o, n, ho, hc, hd, hs⟩, z⟩
  · refine ⟨its.toList, r, ⟨o, n, I.kIn a o hk, hc, hd, by simpa using hs⟩, ?_⟩
    have e := r.length
    simp only [Array.length_toList] at e
    omega
theorem call_dictZ (hc : X.calm = true) : CallR X (.type "dict") (fun xs H Q => ∃ (a : Addr) (ps : List Addr) (kvs : List (Key × V)), xs = [.ref a] ∧ Solid X.K H a (ps.map V.ref) ∧ Paired (fun p kv => SqT X.K H p [kV kv.1, kv.2]) ps kvs ∧
    ∀ p, H p = none → Q (.ref p) (upd H p (.dK (mergeK [] kvs)))) := by
  intro pins s σ H xs us Q I r q
  obtain ⟨a, ps, kvs, ex, hq, hp, q⟩ := q
  subst ex
  obtain ⟨u, eu, rx⟩ := vals1 r
  subst eu
  cases rx
  obtain ⟨its, rv, pl, hz⟩ := solid_at I hq
  have ei := refs_at rv
  subst ei
  rw [List.length_map] at hz
  obtain ⟨prs, rel, hl, hpr⟩ := pairs_of I hp
  have Pa : ∃ qs : List (Value × Value), qs.length = prs.length ∧ ∀ (j : Nat) k v, qs[j]? = some (k, v) → ∃ b q, ps[j]? = some b ∧ prs[j]? = some (q, v) ∧ s.heap.IsTuple b #[k, v] ∧ keyIs q k = true := by
    have key : ∀ (prs : List (Key × Value)) (ps : List Addr), (∀ (j : Nat) (q : Key × Value), prs[j]? = some q → ∃ (b : Addr) (u : Value), ps[j]? = some b ∧ IsTup s.heap b #[u, q.2] ∧ keyIs q.1 u = true) →
        ∃ qs : List (Value × Value), qs.length = prs.length ∧ ∀ (j : Nat) k v, qs[j]? = some (k, v) → ∃ b q, ps[j]? = some b ∧ prs[j]? = some (q, v) ∧ s.heap.IsTuple b #[k, v] ∧ keyIs q k = true := by
      intro prs
      induction prs with
      | nil => exact fun ps h => ⟨[], rfl, fun j k v e => by simp at e⟩
      | cons x prs ih =>
        intro ps h
        obtain ⟨b, u, e1, e2, e3⟩ := h 0 x rfl
        obtain ⟨qs, hl, hj⟩ := ih ps.tail fun j q e => by
          obtain ⟨b, u, e1, e2, e3⟩ := h (j + 1) q (by simpa using e)
          exact ⟨b, u, by rw [List.getElem?_tail]; exact e1, e2, e3⟩
        refine ⟨(u, x.2) :: qs, by simp [hl], fun j k v e => ?_⟩
        cases j with
        | zero =>
          have e4 : (u, x.2) = (k, v) := Option.some.inj e
          cases e4
          exact ⟨b, x.1, e1, rfl, e2, e3⟩
        | succ j =>
          obtain ⟨b, q, e1, e2, e3, e4⟩ := hj j k v (by simpa using e)
          exact ⟨b, q, by rw [List.getElem?_tail] at e1; exact e1, by simpa using e2, e3, e4⟩
    exact key prs ps hpr
  obtain ⟨qs, lq, hqs⟩ := Pa
  have P := PairArg.tuple (prog := X.prog) (w := X.w) a (ps.map Value.ref).toArray (fun j => ps.getD j 0) qs
  refine PySem.call_dict_pairs (knd := mixKind X.prog X.w) (kvs := prs) P (I.ok.hd hc) ⟨pl, ?_, fun j k v e => ?_⟩ ⟨lq.symm, fun j k v e => ?_⟩ (by rw [lq, hl]; exact hz) fun h2 tk hd2 kp => ?_
  · rw [lq, hl]; simp
  · obtain ⟨b, q, e1, e2, e3, e4⟩ := hqs j k v e
    have e5 : ps.getD j 0 = b := by rw [List.getD_eq_getElem?_getD, e1]; rfl
    exact ⟨by rw [List.getElem?_toArray, List.getElem?_map, e1]; exact congrArg (fun z => some (Value.ref z)) e5.symm, .inl (by show s.heap.IsTuple (ps.getD j 0) _; rw [e5]; exact e3)⟩
  · obtain ⟨b, q, e1, e2, e3, e4⟩ := hqs j k v e
    exact ⟨q, e2, e4⟩
  · have hm : (s.heap.objs.size == sysModules) = false := beq_eq_false_iff_ne.mpr (Nat.ne_of_gt I.big)
    have hlen : (mergeK [] kvs).length ≤ sizeLine := by
      refine Nat.le_trans (length_mergeK kvs []) ?_
      rw [List.length_nil, Nat.zero_add, rel.length, hl]
      exact hz
    exact ⟨.ref s.heap.objs.size, upd H s.heap.objs.size (.dK (mergeK [] kvs)), I.laid (t' := tk) (fun c ob e => kp c ob (fun z => nomatch z) e) (Nat.le_refl _) (show ObjOk X.prog X.w _ _ _ (.dK (mergeK [] kvs)) from ⟨hlen, hm, merged [] prs, KV.merge rel .nil, hd2⟩), rfl, q _ (I.hok.fresh (Nat.le_refl _))⟩
theorem dt_pairsZ {Q : VK} {its : List Addr} {ps : List XE} (hc : X.calm = true) (hu : X.A.units + 11 < cLine) (I : Inv X pins σ H s) (hq : Solid X.K H a (its.map V.ref)) (hp : Paired (fun t p => SqT X.K H t [V.ref p.2.1, p.2.2]) its ps) (hk : KeysIn X.prog X.w s.heap ps)
    (q : ∀ p, H p = none → DtAt X.w (upd H p (DtO X.w p (allX ps))) p (allX ps) → Q (.ref p) (upd H p (DtO X.w p (allX ps)))) : wpAny (model X.prog X.w) X.A (call (.type "dict") [.ref a]) (EP X pins σ Q) X.xe s := by
  obtain ⟨vs, rv, pl, hz⟩ := solid_at I hq
  have ei := refs_at rv
  subst ei
  rw [List.length_map] at hz
  have key : ∀ {its : List Addr} {ps : List XE}, Paired (fun t p => SqT X.K H t [V.ref p.2.1, p.2.2]) its ps → ∃ qs : List YE, RX ps qs ∧ its.length = qs.length ∧ ∀ (j : Nat) (y : YE), qs[j]? = some y → ∃ t, its[j]? = some t ∧ s.heap.IsTuple t #[.ref y.2.1, y.2.2] := by
    intro its ps h
    induction h with
    | nil => exact ⟨[], .nil, rfl, fun j y e => by simp at e⟩
    | @cons t p its ps h _ ih =>
      obtain ⟨qs, r, hl, hj⟩ := ih
      obtain ⟨us, rv, ht, _⟩ := I.tuple h
      obtain ⟨u, y, e, ru, ry⟩ := vals2 rv
      subst e
      obtain rfl : u = Value.ref p.2.1 := ru
      refine ⟨(p.1, p.2.1, y) :: qs, .cons ⟨rfl, rfl, ry⟩ r, by rw [List.length_cons, List.length_cons, hl], fun j z e => ?_⟩
      cases j with
      | zero =>
        have e2 : (p.1, p.2.1, y) = z := Option.some.inj e
        subst e2
        exact ⟨t, rfl, ht⟩
      | succ j =>
        obtain ⟨t2, e1, e2⟩ := hj j z (by simpa using e)
        exact ⟨t2, by simpa using e1, e2⟩
  obtain ⟨qs, r, hl, hj⟩ := key hp
  obtain ⟨o, n, ho, hcl, hd, hdat⟩ := pl
  have P := PairArg.tuple (prog := X.prog) (w := X.w) a (its.map Value.ref).toArray (fun j => its.getD j 0) (qs.map fun y => (Value.ref y.2.1, y.2.2))
  have l1 : (qs.map fun y => (Value.ref y.2.1, y.2.2)).length = its.length := by rw [List.length_map, hl]
  refine call_dict_pairsH (knd := nestedKind X.prog X.w) (ps := qs) P (I.ok.hd hc) ?_ ⟨⟨o, n, ho, hcl, hd, hdat⟩, ?_, fun j k v e => ?_⟩ ⟨?_, fun j k v e => ?_⟩ (fun h2 hk2 y hy => ?_) (by rw [l1]; exact hz) fun h2 tk d2 kp => ?_
  · have : X.A.in1.in1.units = X.A.units + 2 := rfl
    show X.A.in1.in1.units + 8 < cLine
    omega
  · rw [l1]; simp
  · rw [List.getElem?_map] at e
    cases hy : qs[j]? with
    | none => rw [hy] at e; exact nomatch (show none = some (k, v) from e)
    | some y =>
      rw [hy] at e
      have e2 : (Value.ref y.2.1, y.2.2) = (k, v) := Option.some.inj e
      cases e2
      obtain ⟨t, e3, e4⟩ := hj j y hy
      have e5 : its.getD j 0 = t := by rw [List.getD_eq_getElem?_getD, e3]; rfl
      exact ⟨by rw [List.getElem?_toArray, List.getElem?_map, e3]; exact congrArg (fun z => some (Value.ref z)) e5.symm, .inl (by show s.heap.IsTuple (its.getD j 0) _; rw [e5]; exact e4)⟩
  · rw [List.length_map]
  · have e : (qs.map fun y => (Value.ref y.2.1, y.2.2))[j]? = some (k, v) := e
    rw [List.getElem?_map] at e
    cases hy : qs[j]? with
    | none => rw [hy] at e; exact nomatch (show none = some (k, v) from e)
    | some y =>
      rw [hy] at e
      have e2 : (Value.ref y.2.1, y.2.2) = (k, v) := Option.some.inj e
      cases e2
      exact ⟨y.1, y.2.1, rfl, rfl⟩
  · obtain ⟨x, hx, e1, e2⟩ := rx_mem r y hy
    rw [← e1, ← e2]
    exact nestedKind_stays.stays (fun c ob vs m e4 e5 => hk2 c ob (fun z => by subst z; exact absurd (Heap.lt_size e4) (Nat.lt_irrefl _)) (fun q => nomatch q) e4) (hk x hx)
  · have kp2 : ∀ c ob, s.heap.get? c = some ob → h2.get? c = some ob := fun c ob e => kp c ob (fun z => nomatch z) e
    have r2 := rx_all r
    have len : (allX ps).length ≤ sizeLine := by
      rw [rx_len r2]
      have := storedAllH_length qs ([] : List YE)
      rw [List.length_nil, Nat.zero_add] at this
      omega
    have hs : (s.heap.objs.size == sysModules) = false := beq_eq_false_iff_ne.mpr (Nat.ne_of_gt I.big)
    exact ⟨.ref s.heap.objs.size, _, I.laid (t' := tk) kp2 (Nat.le_refl _) (dt_ok r2 d2), rfl, q _ (I.hok.fresh (Nat.le_refl _)) ⟨upd_same, hs, DtAt.nodup r2 d2, len⟩⟩
end
end Mn
end

section
set_option Elab.async false
set_option linter.all false
set_option maxRecDepth 100000
set_option maxHeartbeats 4000000
/-! Mn, part T7: max of a tuple of ints while an exception is handled. On the kit alone. Own work. -/
namespace Mn
open PySem PySem.Spec PyProof.Rows L2
section
variable {prog : Program} {w : World} {A : Around} {E : Value → Shared → Prop} {s : Shared}
theorem pyNext_tuple_end_hot {it t x1 : Addr} {i : Nat} {items : Array Value} {Q : Option Value → Shared → Prop} (hot : HotX.HotAt A x1 s.heap) (hne : x1 ≠ it)
    (hit : s.heap.IsTupleIter it t i) (ht : s.heap.IsTuple t items) (hx : items[i]? = none)
    (hQ : ∀ h', Heap.ExtBut it s.heap h' → Q none { s with heap := h' }) : wpAny (model prog w) A (pyNext (.ref it)) Q E s := by
  obtain ⟨o, ho, hc, hd⟩ := id hit
  obtain ⟨ol, hol, _, nl, hdl⟩ := ht
  obtain ⟨hh, o1, vs1, h1, d1, c1⟩ := hot
  unfold pyNext
  refine wpAny_bind (wpAny_attempt (wpAny_callSpecial?_slot (name := Str.ofString "__next__") hit.typeIs F.slot_tuple_iterator_next
    (wpAny_call_entry F.slot_tuple_iterator_next hit.typeIs F.entry_tuple_iterator_next ?_ (F.args_tuple_iterator_next_1 _))))
  show wpAny _ _ (field (.ref it) 0 >>= _) _ _ s
  refine wpAny_bind (wpAny_field ho hd (x := .ref t) rfl ?_)
  show wpAny _ _ (if (Value.ref t == Value.none) = true then _ else _) _ _ s
  rw [if_neg (show ¬ ((Value.ref t == Value.none) = true) from Bool.false_ne_true)]
  show wpAny _ _ (field (.ref it) 1 >>= _) _ _ s
  refine wpAny_bind (wpAny_field ho hd (x := .int i 0) rfl ?_)
  show wpAny _ _ (seqItems? (.ref t) >>= _) _ _ s
  refine wpAny_bind (wpAny_seqItems hol hdl ?_)
  simp only [Int.toNat_natCast, hx]
  refine wpAny_bind (wpAny_rule (wpAny_bind (wpAny_setField ho hd (by simp) ?_)))
  show wpAny _ _ (newExc (.type "StopIteration") [] >>= _) _ _ _
  refine wpAny_bind ?_
  simp only [newExc, newTuple]
  refine wpAny_bind (wpAny_newObj_type ?_ (by size_fits))
  refine wpAny_bind (m := firstArgMember _ _) (wpAny_of_eq (a := Value.none) (by first | rfl | (simp only [firstArgMember]; rfl)) ?_)
  refine wpAny_newObj_type ?_ (by size_fits)
  have h2 := (Heap.SameBut.update s.heap it (Obj.mapFields (·.setIfInBounds 0 .none))).extBut x1 o1 hne h1
  refine HotX.raiseNew_hot ⟨hh, o1, vs1, Heap.get?_push_of_some _ (Heap.get?_push_of_some _ h2), d1, c1⟩ (Nat.ne_of_lt (Heap.lt_size (Heap.get?_push_of_some _ h2))) (Heap.get?_push_size _ rfl) rfl (by first | (simp; done) | (simp; omega) | (simp only [Array.size_append]; simp; omega)) ?_
  refine wpAny_bind (wpAny_isInstance (T := "StopIteration") (b := true) ⟨_, Heap.get?_update_self _ (Heap.get?_push_size _ rfl) rfl, rfl⟩ isSubtype_stop ?_)
  refine wpAny_pure (hQ _ fun b o hb e => ?_)
  have e2 := (Heap.SameBut.update s.heap it (Obj.mapFields (·.setIfInBounds 0 .none))).extBut b o hb e
  rw [Heap.get?_update_other _ _ (Nat.ne_of_gt (Heap.lt_size (Heap.get?_push_of_some _ e2)))]
  exact Heap.get?_push_of_some _ (Heap.get?_push_of_some _ e2)
end
theorem walks_tupH {prog : Program} {w : World} {A : Around} (I ax x1 : Addr) (hne : ax ≠ I) (hx1 : x1 ≠ I) (items : Array Value) :
    Walks prog w A I [I, ax, x1] [I] items.size (fun i v => items[i]? = some v) (fun i h => (h.IsTupleIter I ax i ∧ h.IsTuple ax items) ∧ HotX.HotAt A x1 h) where
  sub := fun b hb => by simp at hb; simp [hb]
  frame := fun _ _ _ st hk => ⟨⟨st.1.1.at fun o e => hk I (by simp) o e, st.1.2.at fun o e => hk ax (by simp) o e⟩, st.2.1, let ⟨o, vs, h1, d, c⟩ := st.2.2; ⟨o, vs, hk x1 (by simp) o h1, d, c⟩⟩
  item := fun i s Q E hi st hQ => by
    refine wpAny_pyNext_tuple_item st.1.1 st.1.2 (x := items[i]) (by simp [hi]) fun h' hit' hs' => ?_
    exact hQ _ h' s.toks (by simp [hi]) ⟨⟨hit', st.1.2.extBut hs'.extBut hne⟩, st.2.1, let ⟨o, vs, h1, d, c⟩ := st.2.2; ⟨o, vs, hs'.extBut x1 o hx1 h1, d, c⟩⟩ fun b o hb e => hs'.extBut b o (fun h => hb (by simp [h])) e
  done := fun s Q E st hQ => pyNext_tuple_end_hot st.2 hx1 st.1.1 st.1.2 (by simp) fun h' he' => hQ h' s.toks fun b o hb e => he' b o (fun h => hb (by simp [h])) e
  self := fun _ _ _ _ st hQ => wpAny_pyIter_tupleiter st.1.1 hQ
section
variable {prog : Program} {w : World} {A : Around} {E : Value → Shared → Prop} {s : Shared} {t : Addr} {xs : Array (Int × Tok)} {Q : Value → Shared → Prop}
theorem max_tupIH {x1 : Addr} (hot : HotX.HotAt A x1 s.heap) (ht : s.heap.IsTuple t (intItems xs)) (hne : 0 < xs.size)
    (h : ∀ v h' tk, (intItems xs)[argBest (fun i j => decide (numAt xs i > numAt xs j)) (xs.size - 1)]? = some v → (∀ b o, s.heap.get? b = some o → h'.get? b = some o) → Q v { s with heap := h', toks := tk }) :
    wpAny (model prog w) A (call (.builtin "max") [.ref t]) Q E s := by
  obtain ⟨hh, o1, vs1, h1, d1, c1⟩ := hot
  apply call_max_walk
  apply wpAny_pyIter_tuple ht
  refine ⟨_, _, _, _, _, _, _, rfl, walks_tupH (A := A.in1) s.heap.objs.size t x1 (Nat.ne_of_lt (tup_there ht)) (Nat.ne_of_lt (Heap.lt_size h1)) (intItems xs), ⟨⟨⟨_, Heap.get?_push_size _ rfl, rfl, rfl⟩, ht.at fun o e => Heap.get?_push_of_some _ e⟩, hh, o1, vs1, Heap.get?_push_of_some _ h1, d1, c1⟩,
    ?_, by simpa [intItems] using hne, CmpOf.ints_gt (numAt xs) (fun _ _ => intItems_at), ?_⟩
  · intro b hb
    rw [Heap.size_push]
    have l1 := tup_there ht
    have l2 := Heap.lt_size h1
    simp only [List.mem_cons, List.not_mem_nil, or_false] at hb
    rcases hb with e | e | e <;> subst e
    · exact Nat.lt_succ_self _
    · exact Nat.lt_succ_of_lt l1
    · exact Nat.lt_succ_of_lt l2
  · intro v h' tk hP hk
    exact h v h' tk (by simpa [intItems] using hP) (tup_old hk)
end
section
variable {X : Cx}
theorem cr_maxTH (hc : L2H.HotC X) : CallR X (.builtin "max") (rMaxT X.K) := by
  intro pins s σ H vs us Q J r h
  obtain ⟨a, ns, rfl, hs, hne, q⟩ := h
  obtain ⟨its, rv, ht, _⟩ := J.tuple hs
  rw [Vals.ref1 r]
  have hi := rv.ints
  obtain ⟨xs, e⟩ := hi.allInts.items
  have hn : numsOf (intItems xs).toList = ns := by rw [← e]; exact hi.numsOf
  rw [nums_intItems] at hn
  subst hn
  rw [e] at ht
  have hsz : 0 < xs.size := by simpa using hne
  obtain ⟨x1, hot⟩ := L2H.HotC.at hc J
  apply max_tupIH hot ht hsz
  intro v h' tk hv hk
  obtain ⟨t, rfl⟩ := intItems_at hv
  obtain ⟨h1, h2⟩ := argBest_gt (numAt xs) (xs.size - 1)
  refine ⟨.int _, H, J.kept hk, ⟨_, rfl⟩, q _ ?_ fun y hy => ?_⟩
  · rw [numAt_eq]
    exact PySem.getD_mem (by rw [List.length_map, Array.length_toList]; omega)
  · obtain ⟨j, hj, rfl⟩ := mem_getD hy
    rw [List.length_map, Array.length_toList] at hj
    rw [← numAt_eq]
    exact h2 j (by omega)
end
end Mn
end

section
set_option Elab.async false
set_option linter.all false
set_option maxRecDepth 100000
set_option maxHeartbeats 4000000
/-! Mn, T8: sorted(set(xs)), xs a list or a tuple of ints. -/
namespace Mn
open PySem PySem.Spec PyProof.Rows L2
section
variable {prog : Program} {w : World}
theorem unl_setR {h : Heap} {a : Addr} {f : Nat → Int} {i : Nat} (x : SetR w h a (fun y => decide (y ∈ unl f i) || decide (y = f i)) (if decide (f i ∈ unl f i) = true then (unl f i).length else (unl f i).length + 1)) :
    SetR w h a (fun y => decide (y ∈ unl f (i + 1))) (unl f (i + 1)).length := by
  have e2 : (if decide (f i ∈ unl f i) = true then (unl f i).length else (unl f i).length + 1) = (unl f (i + 1)).length := by
    show _ = (if f i ∈ unl f i then unl f i else unl f i ++ [f i]).length
    by_cases c : f i ∈ unl f i
    · rw [if_pos c, if_pos (by simpa using c)]
    · rw [if_neg c, if_neg (by simpa using c)]; simp
  rw [e2] at x
  refine x.congr fun y => ?_
  show decide (y ∈ if f i ∈ unl f i then unl f i else unl f i ++ [f i]) = _
  by_cases c : f i ∈ unl f i
  · rw [if_pos c]
    by_cases e : y = f i
    · subst e; simp [c]
    · simp [e]
  · rw [if_neg c]; simp [Bool.decide_or]
variable {A : Around} {R : Result → Shared → Prop} {it : Addr} {fp wr : List Addr} {G : Array GenState → Array GenState → Prop} {n : Nat} {Pv : Nat → Value → Prop} {St : Nat → Shared → Prop}
theorem setR_loop (W : WalksS prog w A.in1 it fp wr G n Pv St) (a : Addr) (off : a ∉ fp) (f : Nat → Int) (hv : ∀ i v, Pv i v → ∃ tk, v = Value.int (f i) tk) (hb : n + 1 < scanBound) :
    ∀ (left i : Nat) (s : Shared), n - i = left → i ≤ n → St i s → SetR w s.heap a (fun y => decide (y ∈ unl f i)) (unl f i).length →
      (∀ z, Moved (a :: wr) G s z → SetR w z.heap a (fun y => decide (y ∈ unl f n)) (unl f n).length → R (.ok (.ret .none)) z) →
      codeAny (model prog w) A (.builtin "set.update.loop" ⟨[.ref a, .ref it], []⟩) R s := by
  have offw : a ∉ wr := fun h => off (W.sub _ h)
  intro left
  induction left with
  | zero =>
    intro i s hk hi st hS hR
    obtain rfl : i = n := by omega
    apply codeAny_builtin PyProof.Rows.F.entry_set_update_loop
    rw [Around.under_plainId PyProof.Rows.F.plain_set_update_loop _]
    show wpAny _ A.in1 (pyNext (.ref it) >>= _) _ _ s
    apply wpAny_bind
    apply W.done s _ _ st
    intro z hm
    show wpAny _ A.in1 (ret Value.none) _ _ z
    exact wpAny_pure (hR z (hm.mono fun b hb => List.mem_cons_of_mem _ hb) (hS.at fun o e => hm.heap a _ offw e))
  | succ left ih =>
    intro i s hk hi st hS hR
    have lt : i < n := by omega
    apply codeAny_builtin PyProof.Rows.F.entry_set_update_loop
    rw [Around.under_plainId PyProof.Rows.F.plain_set_update_loop _]
    show wpAny _ A.in1 (pyNext (.ref it) >>= _) _ _ s
    apply wpAny_bind
    apply W.item i s _ _ lt st
    intro v z hP st2 hm
    obtain ⟨tk, rfl⟩ := hv i v hP
    have hS2 : SetR w z.heap a (fun y => decide (y ∈ unl f i)) (unl f i).length := hS.at fun o e => hm.heap a _ offw e
    show wpAny _ A.in1 (holding [Value.int (f i) tk] (setAdd a (Value.int (f i) tk)) >>= _) _ _ z
    apply wpAny_bind
    apply wpAny_holding
    unfold setAdd
    apply wpAny_holding
    apply wpAny_bind
    apply (intKind prog w).pyHash (intKind_is prog w (f i) tk)
    have room : (unl f i).length + 1 < scanBound := by have := unl_le f i; omega
    refine setR_add_hashed (P := prog) (s := { z with toks := z.toks + 1 }) hS2 room fun h2 sb hS3 => ?_
    refine wpAny_pure ⟨plainId_quiet PyProof.Rows.F.plain_set_update_loop _, ih (i + 1) _ (by omega) lt (W.frame _ z _ _ st2 (Nat.le_succ _) fun b hb o e => ?_) (unl_setR hS3) fun y hm2 hS4 => ?_⟩
    · rw [sb.2 b fun q => off (q ▸ hb)]
      exact e
    · apply hR y _ hS4
      apply Moved.trans W.gtrans _ hm2
      apply (hm.mono fun b hb => List.mem_cons_of_mem _ hb).then_heap (Nat.le_succ _)
      intro b o hb e
      rw [sb.2 b fun q => hb (q ▸ List.mem_cons_self)]
      exact e
end
section
variable {prog : Program} {w : World} {A : Around} {E : Value → Shared → Prop} {s : Shared}
def ledSet (w : World) : Obj := { cls := .type "set", dict := none, data := .set #[] 0 (.fresh 0 0 (!w.params.followText "set-order")) }
theorem set_ints_list {l : Addr} {its : Array Value} (f : Nat → Int) {Q : Value → Shared → Prop} (hh : A.handled = none) (hl : s.heap.IsList l its) (hv : ∀ i v, its[i]? = some v → ∃ tk, v = Value.int (f i) tk) (hb : its.size + 1 < scanBound)
    (h : ∀ h2 tk, SetR w h2 s.heap.objs.size (fun y => decide (y ∈ unl f its.size)) (unl f its.size).length → (∀ b o, b < s.heap.objs.size → s.heap.get? b = some o → h2.get? b = some o) → Q (.ref s.heap.objs.size) { s with heap := h2, toks := tk }) :
    wpAny (model prog w) A (call (.type "set") [.ref l]) Q E s := by
  obtain ⟨c, tl, hmro⟩ := PySem.F.called_set.mro
  have hmade := PySem.F.called_set.made
  have hsub := PySem.F.called_set.sub
  apply wpAny_call
  apply codeAny_of_tree
  show wpAny _ _ (callAny (.type "set") _) _ _ _
  refine wpAny_pure ⟨Code.quiet_builtin _ (by decide +kernel), ?_⟩
  apply codeAny_builtin PySem.F.entry_type_call
  rw [Around.under_plain (weight_type_call_type "set" [.ref l] []) rfl]
  have h1 := PySem.F.called_set.notType
  have h2 := PySem.F.called_set.canCreate
  have hct := PySem.F.typeCall_set_1 (.ref l)
  repeat (any_goals (first | assumption | wp_step))
  refine codeAny_mono (code_set_led1 (.ref l) (E := E) (Q₁ := fun ob z => ob = .ref s.heap.objs.size ∧ z = { s with heap := s.heap.push (ledSet w) }) ⟨rfl, rfl⟩) fun r z hr => ?_
  cases r with
  | error e => exact hr
  | ok fl =>
    cases fl with
    | ret ob =>
      obtain ⟨rfl, rfl⟩ := hr
      have hS : (s.heap.push (ledSet w)).get? s.heap.objs.size = some (ledSet w) := Heap.get?_push_size _ rfl
      have hT : Shared.TypeIs { s with heap := s.heap.push (ledSet w) } (.ref s.heap.objs.size) "set" := ⟨_, hS, rfl⟩
      have hli := PySem.F.called_set.init.lookup
      have hbi := PySem.F.called_set.init.bind (.ref s.heap.objs.size)
      repeat (any_goals (first | assumption | wp_step))
      refine codeAny_mono (codeAny_call_builtin (R := wants (fun r y => r = .none ∧ ∃ h2 tk, y = { s with heap := h2, toks := tk } ∧ SetR w h2 s.heap.objs.size (fun y => decide (y ∈ unl f its.size)) (unl f its.size).length ∧
          (∀ b o, b < s.heap.objs.size → s.heap.get? b = some o → h2.get? b = some o)) E) PySem.F.called_set.init.plain PySem.F.entry_set_init (check_set_init_1 hT ?_)) fun r2 y hr2 => ?_
      · obtain ⟨⟨ocls, odict, odata, oslots⟩, hol, hcl, nl, hdl⟩ := hl
        simp only at hcl hdl
        subst hcl
        subst hdl
        have hol2 : (s.heap.push (ledSet w)).get? l = some { cls := .type "list", dict := odict, data := .seq its nl, slots := oslots } := Heap.get?_push_of_some _ hol
        have hsls := PySem.F.sub_list_set
        have hslf := PySem.F.sub_list_frozenset
        have hne : (Value.type "list" == Value.type "dict") = false := by decide
        have hl1 : (s.heap.push (ledSet w)).IsList l its := ⟨_, hol2, rfl, nl, rfl⟩
        unfold Builtin.«set.__init__» noKeywords Builtin.Frozenset.updateFrom
        generalize hPI : pyIter = PI
        wp_walk
        subst hPI
        apply wpAny_pyIter_list hl1
        apply wpAny_bind
        apply wpAny_runValue
        have hlS : l < s.heap.objs.size := Heap.lt_size hol
        have sz : (s.heap.push (ledSet w)).objs.size = s.heap.objs.size + 1 := Heap.size_push ..
        have hh3 : A.in1.in1.in1.handled = none := by simp [hh]
        have hneI : l ≠ (s.heap.push (ledSet w)).objs.size := by rw [sz]; exact Nat.ne_of_lt (Nat.lt_succ_of_lt hlS)
        have hSf : s.heap.objs.size ∉ [(s.heap.push (ledSet w)).objs.size, l] := by
          rw [sz]
          simp only [List.mem_cons, List.not_mem_nil, or_false, not_or]
          exact ⟨Nat.ne_of_lt (Nat.lt_succ_self _), Nat.ne_of_gt hlS⟩
        refine setR_loop ((Walks.list hh3 _ l hneI its).toS) s.heap.objs.size hSf f hv hb (its.size - 0) 0 _ (by omega) (Nat.zero_le _) ⟨⟨_, Heap.get?_push_size _ rfl, rfl, rfl⟩, (hl1.push _)⟩ ?hS0 ?hR
        case hS0 =>
          have z : SetR w (s.heap.push (ledSet w)) s.heap.objs.size (fun _ => false) 0 := setR_fresh w
          have e : (fun y => decide (y ∈ unl f 0)) = fun _ => false := by funext y; simp [unl]
          rw [e]
          exact z.at fun o e => Heap.get?_push_of_some _ e
        case hR =>
          intro z hm hS2
          obtain ⟨h2, g2, d2, tk2, os2⟩ := z
          have eg : g2 = s.gens := hm.gens
          have ed : d2 = s.drawn := hm.drawn
          have eo : os2 = s.os := hm.os
          subst eg
          subst ed
          subst eo
          show wpAny _ _ _ _ _ _
          apply wpAny_pure
          show wpAny _ _ (ret Value.none) _ _ _
          refine wpAny_pure ⟨rfl, h2, tk2, rfl, hS2, fun b o hb e => ?_⟩
          apply hm.heap b o _ (Heap.get?_push_of_some _ (Heap.get?_push_of_some _ e))
          rw [sz]
          simp only [List.mem_cons, List.not_mem_nil, or_false, not_or]
          exact ⟨Nat.ne_of_lt hb, Nat.ne_of_lt (Nat.lt_succ_of_lt hb)⟩
      · cases r2 with
        | error e => exact hr2
        | ok fl2 =>
          cases fl2 with
          | ret r =>
            obtain ⟨rfl, h2, tk, rfl, hS2, hk2⟩ := hr2
            repeat (any_goals (first | assumption | wp_step))
            exact h _ _ hS2 hk2
          | _ => exact hr2.elim
    | _ => exact hr.elim
theorem set_ints_tuple {l : Addr} {its : Array Value} (f : Nat → Int) {Q : Value → Shared → Prop} (hh : A.handled = none) (hl : s.heap.IsTuple l its) (hv : ∀ i v, its[i]? = some v → ∃ tk, v = Value.int (f i) tk) (hb : its.size + 1 < scanBound)
    (h : ∀ h2 tk, SetR w h2 s.heap.objs.size (fun y => decide (y ∈ unl f its.size)) (unl f its.size).length → (∀ b o, b < s.heap.objs.size → s.heap.get? b = some o → h2.get? b = some o) → Q (.ref s.heap.objs.size) { s with heap := h2, toks := tk }) :
    wpAny (model prog w) A (call (.type "set") [.ref l]) Q E s := by
  obtain ⟨c, tl, hmro⟩ := PySem.F.called_set.mro
  have hmade := PySem.F.called_set.made
  have hsub := PySem.F.called_set.sub
  apply wpAny_call
  apply codeAny_of_tree
  show wpAny _ _ (callAny (.type "set") _) _ _ _
  refine wpAny_pure ⟨Code.quiet_builtin _ (by decide +kernel), ?_⟩
  apply codeAny_builtin PySem.F.entry_type_call
  rw [Around.under_plain (weight_type_call_type "set" [.ref l] []) rfl]
  have h1 := PySem.F.called_set.notType
  have h2 := PySem.F.called_set.canCreate
  have hct := PySem.F.typeCall_set_1 (.ref l)
  repeat (any_goals (first | assumption | wp_step))
  refine codeAny_mono (code_set_led1 (.ref l) (E := E) (Q₁ := fun ob z => ob = .ref s.heap.objs.size ∧ z = { s with heap := s.heap.push (ledSet w) }) ⟨rfl, rfl⟩) fun r z hr => ?_
  cases r with
  | error e => exact hr
  | ok fl =>
    cases fl with
    | ret ob =>
      obtain ⟨rfl, rfl⟩ := hr
      have hS : (s.heap.push (ledSet w)).get? s.heap.objs.size = some (ledSet w) := Heap.get?_push_size _ rfl
      have hT : Shared.TypeIs { s with heap := s.heap.push (ledSet w) } (.ref s.heap.objs.size) "set" := ⟨_, hS, rfl⟩
      have hli := PySem.F.called_set.init.lookup
      have hbi := PySem.F.called_set.init.bind (.ref s.heap.objs.size)
      repeat (any_goals (first | assumption | wp_step))
      refine codeAny_mono (codeAny_call_builtin (R := wants (fun r y => r = .none ∧ ∃ h2 tk, y = { s with heap := h2, toks := tk } ∧ SetR w h2 s.heap.objs.size (fun y => decide (y ∈ unl f its.size)) (unl f its.size).length ∧
          (∀ b o, b < s.heap.objs.size → s.heap.get? b = some o → h2.get? b = some o)) E) PySem.F.called_set.init.plain PySem.F.entry_set_init (check_set_init_1 hT ?_)) fun r2 y hr2 => ?_
      · obtain ⟨⟨ocls, odict, odata, oslots⟩, hol, hcl, nl, hdl⟩ := hl
        simp only at hcl hdl
        subst hcl
        subst hdl
        have hol2 : (s.heap.push (ledSet w)).get? l = some { cls := .type "tuple", dict := odict, data := .seq its nl, slots := oslots } := Heap.get?_push_of_some _ hol
        have hsls := PySem.F.sub_tuple_set
        have hslf := PySem.F.sub_tuple_frozenset
        have hne : (Value.type "tuple" == Value.type "dict") = false := by decide
        have hl1 : (s.heap.push (ledSet w)).IsTuple l its := ⟨_, hol2, rfl, nl, rfl⟩
        unfold Builtin.«set.__init__» noKeywords Builtin.Frozenset.updateFrom
        generalize hPI : pyIter = PI
        wp_walk
        subst hPI
        apply wpAny_pyIter_tuple hl1
        apply wpAny_bind
        apply wpAny_runValue
        have hlS : l < s.heap.objs.size := Heap.lt_size hol
        have sz : (s.heap.push (ledSet w)).objs.size = s.heap.objs.size + 1 := Heap.size_push ..
        have hh3 : A.in1.in1.in1.handled = none := by simp [hh]
        have hneI : l ≠ (s.heap.push (ledSet w)).objs.size := by rw [sz]; exact Nat.ne_of_lt (Nat.lt_succ_of_lt hlS)
        have hSf : s.heap.objs.size ∉ [(s.heap.push (ledSet w)).objs.size, l] := by
          rw [sz]
          simp only [List.mem_cons, List.not_mem_nil, or_false, not_or]
          exact ⟨Nat.ne_of_lt (Nat.lt_succ_self _), Nat.ne_of_gt hlS⟩
        refine setR_loop ((Walks.tuple hh3 _ l hneI its).toS) s.heap.objs.size hSf f hv hb (its.size - 0) 0 _ (by omega) (Nat.zero_le _) ⟨⟨_, Heap.get?_push_size _ rfl, rfl, rfl⟩, (hl1.push _)⟩ ?hS0 ?hR
        case hS0 =>
          have z : SetR w (s.heap.push (ledSet w)) s.heap.objs.size (fun _ => false) 0 := setR_fresh w
          have e : (fun y => decide (y ∈ unl f 0)) = fun _ => false := by funext y; simp [unl]
          rw [e]
          exact z.at fun o e => Heap.get?_push_of_some _ e
        case hR =>
          intro z hm hS2
          obtain ⟨h2, g2, d2, tk2, os2⟩ := z
          have eg : g2 = s.gens := hm.gens
          have ed : d2 = s.drawn := hm.drawn
          have eo : os2 = s.os := hm.os
          subst eg
          subst ed
          subst eo
          show wpAny _ _ _ _ _ _
          apply wpAny_pure
          show wpAny _ _ (ret Value.none) _ _ _
          refine wpAny_pure ⟨rfl, h2, tk2, rfl, hS2, fun b o hb e => ?_⟩
          apply hm.heap b o _ (Heap.get?_push_of_some _ (Heap.get?_push_of_some _ e))
          rw [sz]
          simp only [List.mem_cons, List.not_mem_nil, or_false, not_or]
          exact ⟨Nat.ne_of_lt hb, Nat.ne_of_lt (Nat.lt_succ_of_lt hb)⟩
      · cases r2 with
        | error e => exact hr2
        | ok fl2 =>
          cases fl2 with
          | ret r =>
            obtain ⟨rfl, h2, tk, rfl, hS2, hk2⟩ := hr2
            repeat (any_goals (first | assumption | wp_step))
            exact h _ _ hS2 hk2
          | _ => exact hr2.elim
    | _ => exact hr.elim
end
theorem run_sortedR {X : Cx} {pins : List (Addr × Obj)} {σ : L2.St} {H1 : Hp} {s2 : Shared} {Q : VK} {a : Addr} {S : Int → Bool} {n : Nat} (I2 : Inv X pins σ H1 s2) (hc : X.calm = true) (hS : SetR X.w s2.heap a S n) (h64 : n < 64)
    (q1 : ∀ (ms : List Int) (p : Addr), ms.Pairwise (· < ·) → (∀ k : Int, k ∈ ms ↔ S k = true) → H1 p = none → Q (.ref p) (upd H1 p (.lst (ms.map V.int)))) :
    wpAny (model X.prog X.w) X.A (call (.builtin "sorted") [.ref a]) (EP X pins σ Q) X.xe s2 := by
  refine sorted_set (P := X.prog) hS (I2.ok.hd hc) h64 fun s' p out c ms k g o hp hg hi hs hm2 hl2 => ?_
  have hlen : (ms.map V.int).length ≤ sizeLine := by rw [List.length_map, hl2, sizeLine_eq]; omega
  have hn : H1 p = none := I2.hok.fresh hp
  have J : Inv X pins σ (upd H1 p (.lst (ms.map V.int))) { s2 with heap := s'.heap, gens := s'.gens, drawn := s'.drawn, toks := s'.toks } :=
    I2.call (ch := []) (Un.laid k hp hn) (I2.hok.laid k hp ⟨hlen, out.toList, c, vals_of_ints hi, hg⟩) (by rw [g]; exact I2.bare) (fun _ z => nomatch z)
  have e : s' = { s2 with heap := s'.heap, gens := s'.gens, drawn := s'.drawn, toks := s'.toks } := by
    cases s'
    cases s2
    cases o
    rfl
  rw [e]
  exact ⟨.ref p, _, J, rfl, q1 ms p hs hm2 hn⟩
/-- sorted(set(xs)) -/
def tSortSet (K : PySem.W.Frag) (ta : TA) : TE := fun σ H Q => ta σ H fun vs H1 => ∃ (l : Addr) (ns : List Int), vs = [V.ref l] ∧ (SqL K H1 l (ns.map V.int) ∨ SqT K H1 l (ns.map V.int)) ∧ (unl (fun i => ns.getD i 0) ns.length).length < 64 ∧ ns.length ≤ 4000 ∧
  ∀ (ms : List Int) (p : Addr), ms.Pairwise (· < ·) → (∀ k : Int, k ∈ ms ↔ k ∈ unl (fun i => ns.getD i 0) ns.length) → H1 p = none → Q (.ref p) (upd H1 p (.lst (ms.map V.int)))
theorem pe_sortSet {X : Cx} {a : Expr} {ta : TA} {p p2 q pos : Pos} (hg : Gl X "sorted") (hm : X.mg "sorted" = none) (hg2 : Gl X "set") (hm2 : X.mg "set" = none) (ha : PA X [a] ta) (hc : X.calm = true)
    (na : starEach [a] X.env = (false, eval a X.env) :: starEach [] X.env) : PE X (.Call (.Name "sorted" p) [.Call (.Name "set" p2) [a] [] q] [] pos) (tSortSet X.K ta) := by
  constructor
  intro pins s σ H Q I h
  refine Call_ (ld_blt I hg hm boot_sorted ?_)
  apply PyProof.Rows.callWith_builtin1 (PyProof.Rows.args_cons _ rfl) rfl rfl
  refine Call_ (ld_blt I hg2 hm2 boot_set ?_)
  refine PyProof.Rows.callWith_type1 (thn (ha.run q pins s σ H _ I h) fun us s1 ⟨vs, H1, I1, r1, l, ns, ex, hq, h64, hl, q1⟩ => ?_) na rfl
  subst ex
  rw [Vals.ref1 r1]
  have fin : ∀ (its : List Value), Vals (ns.map V.int) its → (∀ i v, its.toArray[i]? = some v → ∃ tk, v = Value.int (ns.getD i 0) tk) ∧ its.toArray.size = ns.length := fun its rv => by
    refine ⟨fun i v hv => ?_, by rw [List.size_toArray, ← rv.length, List.length_map]⟩
    rw [List.getElem?_toArray] at hv
    have hi : i < ns.length := by
      have := (List.getElem?_eq_some_iff.mp hv).1
      rw [← rv.length, List.length_map] at this
      exact this
    obtain ⟨u, e1, e2⟩ := rv.get (i := i) (x := V.int (ns.getD i 0)) (by rw [List.getElem?_map, List.getD_eq_getElem?_getD, List.getElem?_eq_getElem hi]; rfl)
    rw [hv] at e1
    cases e1
    exact e2
  have done : ∀ (h2 : Heap) (tk : Nat), SetR X.w h2 s1.heap.objs.size (fun y => decide (y ∈ unl (fun i => ns.getD i 0) ns.length)) (unl (fun i => ns.getD i 0) ns.length).length →
      (∀ b o, b < s1.heap.objs.size → s1.heap.get? b = some o → h2.get? b = some o) →
      wpAny (model X.prog X.w) X.A (call (.builtin "sorted") [.ref s1.heap.objs.size]) (EP X pins σ Q) X.xe { s1 with heap := h2, toks := tk } := fun h2 tk hS hk => by
    have I2 : Inv X pins σ H1 { s1 with heap := h2, toks := tk } := I1.kept fun b o e => hk b o (Heap.lt_size e) e
    exact run_sortedR I2 hc hS h64 fun ms p hs hm2 hn => q1 ms p hs (fun k => by rw [hm2 k]; simp) hn
  rcases hq with hq | hq
  · obtain ⟨its, rv, pl, hz⟩ := I1.list hq
    obtain ⟨f1, f2⟩ := fin its rv
    refine set_ints_list (fun i => ns.getD i 0) (I1.ok.hd hc) pl.isList f1 (by rw [f2]; unfold scanBound; omega) fun h2 tk hS hk => ?_
    rw [f2] at hS
    exact PyProof.Rows.args_nil (done h2 tk hS hk)
  · obtain ⟨its, rv, pl, hz⟩ := I1.tuple hq
    obtain ⟨f1, f2⟩ := fin its rv
    refine set_ints_tuple (fun i => ns.getD i 0) (I1.ok.hd hc) pl f1 (by rw [f2]; unfold scanBound; omega) fun h2 tk hS hk => ?_
    rw [f2] at hS
    exact PyProof.Rows.args_nil (done h2 tk hS hk)
end Mn
end

section
set_option Elab.async false
set_option linter.all false
set_option maxRecDepth 100000
set_option maxHeartbeats 4000000
/-! Mn, T10: len(set(xs)) of tuples of ints; setdefault where keys are tuples; what is gathered of d.values(). -/
namespace Mn
open PySem PySem.Spec PyProof.Rows L2
section
/-- len(set(xs)), a list of tuples of ints -/
def tLenTups (K : PySem.W.Frag) (ta : TA) : TE := fun σ H Q => ta σ H fun vs H1 => ∃ (l : Addr) (ks : List (Addr × List Int)), vs = [V.ref l] ∧ SqL K H1 l (ks.map fun p => V.ref p.1) ∧ (∀ p ∈ ks, SqT K H1 p.1 (p.2.map V.int)) ∧ ks.length < 64 ∧
  ∀ n : Nat, (∃ L : List (List Int), L.Nodup ∧ (∀ k, k ∈ L ↔ k ∈ ks.map (·.2)) ∧ L.length = n) → Q (.int n) H1
theorem pe_lenTups {X : Cx} {a : Expr} {ta : TA} {p p2 q pos : Pos} (hg : Gl X "len") (hm : X.mg "len" = none) (hg2 : Gl X "set") (hm2 : X.mg "set" = none) (ha : PA X [a] ta) (hc : X.calm = true) (hu : X.A.units + 64 < cLine)
    (na : starEach [a] X.env = (false, eval a X.env) :: starEach [] X.env) : PE X (.Call (.Name "len" p) [.Call (.Name "set" p2) [a] [] q] [] pos) (tLenTups X.K ta) := by
  constructor
  intro pins s σ H Q I h
  refine Call_ (ld_blt I hg hm boot_len ?_)
  apply PyProof.Rows.callWith_builtin1 (PyProof.Rows.args_cons _ rfl) rfl rfl
  refine Call_ (ld_blt I hg2 hm2 boot_set ?_)
  refine PyProof.Rows.callWith_type1 (thn (ha.run q pins s σ H _ I h) fun us s1 ⟨vs, H1, I1, r1, l, ks, ex, hl, hk, hf, q1⟩ => ?_) na rfl
  subst ex
  rw [Vals.ref1 r1]
  obtain ⟨its, rv, pl, hz⟩ := I1.list hl
  refine call_set_tups (P := X.prog) (w := X.w) ks (I1.ok.hd hc) pl.isList (by simpa using refs_of_vals rv) (fun p hp => I1.isT (hk p hp)) hf (by omega) fun h2 tk L es ep t R g k => PyProof.Rows.args_nil ?_
  have I2 : Inv X pins σ H1 { s1 with heap := h2, toks := tk } := I1.kept k
  obtain ⟨o, ho, hex, hd⟩ := R.ob
  have hsz := SetTR.size (s := { s1 with heap := h2, toks := tk }) R
  have hfew := R.few
  refine call_len_set ho hex hd (SetTR.fits (s := { s1 with heap := h2, toks := tk }) R) (by rw [hsz]; omega) ⟨.int (L.length : Nat), H1, I2.tok _, ⟨_, by rw [hsz]⟩, q1 L.length ⟨L.map (·.2), R.nd, fun z => ⟨fun hz2 => ?_, fun hz2 => ?_⟩, List.length_map _⟩⟩
  · obtain ⟨x, hx, rfl⟩ := List.mem_map.mp hz2
    exact List.mem_map.mpr ⟨x, List.mem_of_mem_take (g.sub x hx), rfl⟩
  · obtain ⟨x, hx, rfl⟩ := List.mem_map.mp hz2
    exact g.all x (by rw [List.take_length]; exact hx)
end
section
variable {X : Cx} {pins : List (Addr × Obj)} {σ : L2.St} {H : Hp} {s : Shared} {A : Around} {E : Value → Shared → Prop} {a b : Addr} {xs : List XE} {k : NestedKey}
/-- d.setdefault(k, z) -/
theorem dt_setd {Q : Value → Shared → Prop} {z : V} {u : Value} (hu : A.units + 10 < cLine) (I : Inv X pins σ H s) (D : DtNow X H s.heap a xs) (kb : (nestedKind X.prog X.w).is s.heap k b) (hl : xs.length < sizeLine) (rz : RelV z u)
    (h1 : ∀ v, getX xs k = some v → ∀ w2 s2, Inv X pins σ H s2 → RelV v w2 → Q w2 s2)
    (h2 : getX xs k = none → ∀ s2, Inv X pins σ (upd H a (DtO X.w a (putX xs k b z))) s2 → DtAt X.w (upd H a (DtO X.w a (putX xs k b z))) a (putX xs k b z) → Q u s2) :
    wpAny (model X.prog X.w) A (call (.builtin "dict.setdefault") [.ref a, .ref b, u]) Q E s := by
  obtain ⟨ys, r, d⟩ := D.d
  have rg := rx_get (k := k) r
  refine call_setdefault_heap (hsz := by rw [← rx_len r]; exact D.sz) (room_nk hu) kb D.sys d (fun p hp => ?_) fun hn g hg hs => ?_
  · rw [hp] at rg
    cases e : getX xs k with
    | none => rw [e] at rg; exact rg.elim
    | some v => rw [e] at rg; exact h1 v e _ _ (I.tok _) rg
  · rw [hn] at rg
    cases e : getX xs k with
    | some v => rw [e] at rg; exact rg.elim
    | none =>
      have r2 := rx_put (k := k) r (b := b) rz
      exact h2 e _ (dt_write I D.mu hs r2 hg) ⟨upd_same, D.sys, DtAt.nodup r2 hg, by have := putX_len (xs := xs) (k := k) (b := b) (v := z); omega⟩
end
section
variable {X : Cx} {pins : List (Addr × Obj)} {σ : L2.St} {H : Hp} {s : Shared} {a : Addr} {xs : List XE}
/-- what stands at v is the view of a dict's values; all of them, gathered -/
theorem vals_gather {A : Around} {E : Value → Shared → Prop} {v : Addr} {Q : List Value → Shared → Prop} (hh : A.handled = none) (D : DtNow X H s.heap a xs) (hv : s.heap.IsValuesView v a)
    (h : ∀ (h2 : Heap) (tk : Nat) (acc : List Value), (∀ b o, s.heap.get? b = some o → h2.get? b = some o) → Vals (xs.map fun x => x.2.2) acc → Q acc { s with heap := h2, toks := tk }) :
    wpAny (model X.prog X.w) A (collect (.ref v)) Q E s := by
  obtain ⟨ys, r, o, es, ep, ho, hx, hdt, he, _⟩ := D.d
  have l1 : es.size = ys.length := by rw [← Array.length_toList, he, List.length_map]
  have l2 := rx_len r
  have hz := D.sz
  refine PySem.W.kdu_collect (KdlSrc.rawValues (es := es) (ep := ep)) hh ⟨hv, o, ho, hx, hdt⟩ (by omega) fun h2 tk acc kp it => h h2 tk acc.toList kp ?_
  have ea : acc.toList = ys.map fun x => x.2.2 := by
    have hl : acc.toList.length = ys.length := by rw [Array.length_toList, it.1]; exact l1
    apply List.ext_getElem?
    intro j
    rw [List.getElem?_map]
    cases hj : acc.toList[j]? with
    | none =>
      have h1 := List.getElem?_eq_none_iff.mp hj
      rw [List.getElem?_eq_none (by omega)]
      all_goals rfl
    | some u =>
      obtain ⟨hi, hu⟩ := it.2 j u (by rw [← Array.getElem?_toList]; exact hj)
      have hb : j < ys.length := by omega
      rw [List.getElem?_eq_getElem hb]
      have qe : es.toList[j]? = some (es[j]) := by rw [Array.getElem?_toList]; exact Array.getElem?_eq_getElem hi
      rw [he, List.getElem?_map, List.getElem?_eq_getElem hb] at qe
      have qe := Option.some.inj qe
      rw [hu, ← qe]
      rfl
  rw [ea]
  have key : ∀ {xs : List XE} {ys : List YE}, RX xs ys → Vals (xs.map fun x => x.2.2) (ys.map fun x => x.2.2) := by
    intro xs ys r
    induction r with
    | nil => exact .nil
    | cons h _ ih => exact .cons h.2.2 ih
  exact key r
end
end Mn
end

section
set_option Elab.async false
set_option linter.all false
set_option maxRecDepth 100000
set_option maxHeartbeats 4000000
/-! Mn, T11: x[::-1] of a list or a tuple; try .. except .. as .. else. Own work. -/
namespace Mn
open PySem PySem.Spec PyProof.Rows L2
section
variable {prog : Program} {w : World} {A : Around} {E : Value → Shared → Prop} {s : Shared}
theorem pick_map {α β : Type} {f : α → Option β} {g : α → β} : ∀ {l : List α}, (∀ m ∈ l, f m = some (g m)) → l.filterMap f = l.map g
  | [], _ => rfl
  | a :: l, h => by
    rw [List.filterMap_cons, h a List.mem_cons_self, List.map_cons, pick_map (l := l) fun m hm => h m (List.mem_cons_of_mem _ hm)]
theorem picks_back (xs : Array Value) : ((List.range xs.size).filterMap fun (m : Nat) => xs[(((xs.size : Int) - 1) + (m : Int) * (-1)).toNat]?).toArray = xs.toList.reverse.toArray := by
  have e1 : (List.range xs.size).filterMap (fun (m : Nat) => xs[(((xs.size : Int) - 1) + (m : Int) * (-1)).toNat]?) = (List.range xs.size).map fun m => xs.toList.getD (xs.size - 1 - m) .none := by
    refine pick_map fun m hm => ?_
    have hm := List.mem_range.mp hm
    have e : (((xs.size : Int) - 1) + (m : Int) * (-1)).toNat = xs.size - 1 - m := by omega
    have hlt : xs.size - 1 - m < xs.toList.length := by rw [Array.length_toList]; omega
    rw [e, ← Array.getElem?_toList, List.getElem?_eq_getElem hlt]
    simp [List.getElem?_eq_getElem hlt]
  rw [e1]
  congr 1
  refine List.ext_getElem? fun i => ?_
  rw [List.getElem?_map]
  by_cases hi : i < xs.size
  · have hlt : xs.size - 1 - i < xs.toList.length := by rw [Array.length_toList]; omega
    rw [List.getElem?_range hi, List.getElem?_reverse (by rw [Array.length_toList]; exact hi), Array.length_toList]
    simp only [Option.map_some, List.getD_eq_getElem?_getD, List.getElem?_eq_getElem hlt, Option.getD_some]
  · rw [List.getElem?_eq_none (by simp; omega), List.getElem?_eq_none (by simp; omega)]
    rfl
theorem places_back (n : Nat) : Builtin.Slice.slicePlaces ((n : Int) - 1) (-1) (-1) = n := by
  unfold Builtin.Slice.slicePlaces
  by_cases h : (n : Int) - 1 > -1
  · simp [h]
  · simp [h]; omega
theorem applied_back {sl : Addr} {vs : Value} {n : Nat} {Q : Int × Int × Nat → Shared → Prop} (hs : s.heap.IsSliceOf sl .none .none vs) (ps : IsPart vs (some (-1)))
    (h : Q ((n : Int) - 1, -1, n) s) : wpAny (model prog w) A (Builtin.Slice.sliceApplied (.ref sl) (pure (n : Int))) Q E s := by
  obtain ⟨ob, g1, _, g3⟩ := id hs
  unfold Builtin.Slice.sliceApplied Builtin.Slice.sliceFields
  refine wpAny_bind (wpAny_bind ?_)
  refine wpAny_field g1 g3 (x := .none) rfl (wpAny_bind ?_)
  refine wpAny_field g1 g3 (x := .none) rfl (wpAny_bind ?_)
  refine wpAny_field g1 g3 (x := vs) rfl (wpAny_pure ?_)
  refine wpAny_bind (HT.slicePart_ ps ?_)
  show wpAny _ _ (if ((-1 : Int) == 0) = true then _ else _) _ _ s
  rw [if_neg (by decide)]
  refine wpAny_bind (slicePart_none ?_)
  refine wpAny_bind (slicePart_none ?_)
  refine wpAny_bind (wpAny_pure ?_)
  have ea : Builtin.Slice.sliceAdjust none none (-1) (n : Int) = ((n : Int) - 1, -1) := rfl
  show wpAny _ _ (match Builtin.Slice.sliceAdjust none none (-1) (n : Int) with | (a, b) => pure (a, (-1 : Int), Builtin.Slice.slicePlaces a b (-1))) _ _ s
  rw [ea]
  show wpAny _ _ (pure ((n : Int) - 1, (-1 : Int), Builtin.Slice.slicePlaces ((n : Int) - 1) (-1) (-1))) _ _ s
  rw [places_back]
  exact wpAny_pure h
theorem item_back {t sl : Addr} {items : Array Value} {vs : Value} {Q : Value → Shared → Prop} (ht : IsTup s.heap t items) (hs : s.heap.IsSliceOf sl .none .none vs) (ps : IsPart vs (some (-1)))
    (h : Q (.ref s.heap.objs.size) { s with heap := s.heap.push { cls := .type "tuple", data := .seq items.toList.reverse.toArray } }) (hsz : items.size ≤ sizeLine) : wpAny (model prog w) A (getItem (.ref t) (.ref sl)) Q E s := by
  have ok : sizeOk (.seq items.toList.reverse.toArray) := by
    show items.toList.reverse.toArray.size ≤ sizeLine
    simpa using hsz
  obtain ⟨ob, g1, g2, g3⟩ := id hs
  have isl : s.TypeIs (.ref sl) "slice" := ⟨ob, g1, g2⟩
  unfold getItem
  try with_reducible refine wpAny_holding ?_
  first | refine wpAny_bind (wpAny_pure ?_) | skip
  refine wpAny_bind ?_
  refine wpAny_sequenceKey ht.typeIs (by decide) (wpAny_bind ?_)
  refine wpAny_callSpecial?_slot (name := Str.ofString "__getitem__") ht.typeIs
    PyProof.Rows.slot_tuple_getitem ?_
  refine wpAny_call_entry PyProof.Rows.slot_tuple_getitem ht.typeIs
    entry_tuple_getitem ?_ (args_tuple_getitem _ _)
  show wpAny _ _ (Builtin.Tuple.tupleItemsOf (.ref t) >>= _) _ _ s
  refine wpAny_bind (tupleItemsOf_ ht (wpAny_bind ?_))
  refine wpAny_typeOf isl ?_
  rw [if_pos (by decide)]
  refine wpAny_bind (applied_back hs ps ?_)
  have no : ¬ ((((items.size : Int) - 1) == 0 && (-1 : Int) == 1 && items.size == items.size) = true) := by simp
  show wpAny _ _ (if (((items.size : Int) - 1) == 0 && (-1 : Int) == 1 && items.size == items.size) = true then _ else _) _ _ s
  rw [if_neg no, picks_back]
  have fin := h
  first
    | exact wpAny_bind (m := Builtin.Tuple.tupleExact _) (wpAny_newObj_type (wpAny_pure ⟨_, rfl, wpAny_pure fin⟩) ok)
    | exact wpAny_bind (m := Builtin.Tuple.tupleExact _) (wpAny_newObj_type (wpAny_bind (wpAny_pure (wpAny_pure ⟨_, rfl, wpAny_pure fin⟩))) ok)
    | exact wpAny_bind (wpAny_bind (m := Builtin.Tuple.tupleExact _) (wpAny_newObj_type (wpAny_pure (wpAny_pure ⟨_, rfl, wpAny_pure fin⟩)) ok))
    | exact wpAny_bind (wpAny_bind (m := Builtin.Tuple.tupleExact _) (wpAny_newObj_type (wpAny_pure ⟨_, rfl, wpAny_pure fin⟩) ok))
end
def tBack (K : PySem.W.Frag) (te : TE) : TE := fun σ H Q => te σ H fun x H1 => (∃ a xs, x = .ref a ∧ SqL K H1 a xs ∧ ∀ p, H1 p = none → Q (.ref p) (upd H1 p (.lst xs.reverse))) ∨ (∃ a xs, x = .ref a ∧ SqT K H1 a xs ∧ NewT H1 xs.reverse Q)
section
variable {X : Cx}
theorem pe_back {e : Expr} {te : TE} {k : Nat} {p1 p2 p3 pos : Pos} (he : PE X e te) : PE X (.Subscript e (.Slice none none (some (.UnaryOp .USub (.Constant (.int 1) k p1) p2)) p3) pos) (tBack X.K te) := by
  constructor
  intro pins s σ H Q I h
  refine Subscript_ (thn (he.run pins s σ H _ I h) ?_)
  intro v s1 hv
  obtain ⟨x, H1, I1, r1, q1⟩ := hv
  have hst : PO X (some (.UnaryOp .USub (.Constant (.int 1) k p1) p2)) (tPart (tUn (rU fun i => .int (-i)) (tC (.int 1)))) := po_some (pe_un un_neg pe_int)
  refine wpAny_Slice (thn (po_none.run pins s1 σ H1 (fun o H2 => o = none ∧ H2 = H1) I1 ⟨rfl, rfl⟩) ?_)
  intro vl s2 hl
  obtain ⟨l, H2, I2, pl, el, e2⟩ := hl
  subst el e2
  refine thn (po_none.run pins s2 σ H2 (fun o H3 => o = none ∧ H3 = H2) I2 ⟨rfl, rfl⟩) ?_
  intro vu s3 hu
  obtain ⟨u, H3, I3, pu, eu, e3⟩ := hu
  subst eu e3
  refine thn (hst.run pins s3 σ H3 (fun o H4 => o = some (-1) ∧ H4 = H3) I3 ⟨1, rfl, -1, rfl, rfl, rfl⟩) ?_
  intro vs s4 hs4
  obtain ⟨o, H4, I4, ps, eo, e4⟩ := hs4
  subst eo e4
  cases pl
  cases pu
  have I5 : Inv X pins σ H4 { s4 with heap := s4.heap.push { cls := .type "slice", data := .fields #[.none, .none, vs] } } := I4.kept (t' := s4.toks) fun b ob q => Heap.get?_push_of_some _ q
  rcases q1 with ⟨a, xs, ex, hx, q⟩ | ⟨a, xs, ex, hx, q⟩
  · subst ex
    cases r1
    obtain ⟨its, r, ht, hz⟩ := I5.list hx
    have hlen := r.length
    show wpAny (model X.prog X.w) X.A (subscriptTail e (.Slice none none (some (.UnaryOp .USub (.Constant (.int 1) k p1) p2)) p3) (.ref a) (.ref s4.heap.objs.size)) (EP X pins σ Q) X.xe { s4 with heap := s4.heap.push { cls := .type "slice", data := .fields #[.none, .none, vs] } }
    refine tail_any (ops := [.ref a, .ref s4.heap.objs.size]) ht.isList.typeIs
      (PySem.slot_list_getitem.lookup) ?_ (by with_unfolding_all rfl)
    refine wpAny_getItem_list_slice ht.isList (Heap.IsSliceOf.new _ .none .none vs)
      .none .none ps (by decide) ?_ (by rw [List.size_toArray]; omega)
    rw [PySem.W.krv_pick]
    refine ⟨.ref _, _, I5.laid (t' := s4.toks) (o := .lst xs.reverse) (fun b ob q => Heap.get?_push_of_some _ q) (Nat.le_refl _) ?_,
      rfl, q _ (I5.hok.fresh (Nat.le_refl _))⟩
    refine ⟨?_, _, 0, r.reverse, Heap.get?_push_size _ rfl⟩
    rw [List.length_reverse]
    exact hz
  · subst ex
    cases r1
    obtain ⟨its, r, ht, hz⟩ := I5.tuple hx
    have hlen := r.length
    show wpAny (model X.prog X.w) X.A (subscriptTail e (.Slice none none (some (.UnaryOp .USub (.Constant (.int 1) k p1) p2)) p3) (.ref a) (.ref s4.heap.objs.size)) (EP X pins σ Q) X.xe { s4 with heap := s4.heap.push { cls := .type "slice", data := .fields #[.none, .none, vs] } }
    refine tail_any (ops := [.ref a, .ref s4.heap.objs.size]) ht.typeIs
      (PyProof.Rows.slot_tuple_getitem.lookup) ?_ (by with_unfolding_all rfl)
    refine item_back ht (Heap.IsSliceOf.new _ .none .none vs) ps ?_ (by rw [List.size_toArray]; omega)
    have e9 : (its.toArray.toList.reverse.toArray : Array Value) = its.reverse.toArray := by simp
    rw [e9]
    exact new_tup I5 r.reverse (by rw [List.length_reverse]; exact hz) q
end
end Mn
namespace L2N
open PySem PySem.Spec PyProof.Rows L2
section
variable {X : Cx} {x z : Str} {c : Value} {i : Nat} {body suite orelse : List Stmt} {p0 : Stmt} {np pos pos2 : Pos} {tb : WX → TS} {u : TS} {ts : Addr → Value → Option Addr → TS} {Wout : WX}
/-- try: body / except x as z: suite / else: orelse -/
theorem mn_try_else (ho : PSs X orelse u) (st : X.stack = X.env :: X.outer) (fr : X.env.frame = some X.env.locals) (nd : X.N.Nodup) (hi : X.N[i]? = some z) (kz : X.env.kindOf z = some .local) (hc : Names X x c) (tk : Takes X Wout)
    (hb : ∀ (W : WX) (pn : List (Addr × Obj)) (xe : Value → Shared → Prop), Takes (X.tr pn xe) W → PassesOwn (model X.prog X.w) X.A X.env xe → PSs (X.tr pn xe) body (tb W))
    (hq : ∀ (a : Addr) (oe : Obj) (cls : Value) (d : Option Addr) (pn : List (Addr × Obj)), Zn cls d oe → (∃ vs, oe.data = .fields vs) → PSs (X.suite a ((a, oe) :: pn)) (p0 :: suite) (ts a cls d)) :
    PS X (.Try body [.ExceptHandler (some (.Name x np)) (some z) (p0 :: suite) pos2] orelse [] pos) (fun D σ H => tb (wAs X.K c i ts Wout D) { D with nx := u D } σ H) := by
  constructor
  intro pins s σ H D I h
  have ok := I.ok
  have hfr : X.A.frames = some (X.env :: X.outer) := by
    rw [ok.frames, st]
  have lz : Loc X.env.scope z := .inl kz
  have run := (hb (wAs X.K c i ts Wout D) (X.pn ++ pins) (fun e s₁ => wpAny (model X.prog X.w) X.A (noteFrame e X.env)
    (fun _ s₂ => wpAny (model X.prog X.w) X.A (setFlight e none)
      (fun _ s₃ => wpAny (model X.prog X.w) X.A
        (handleBy e X.env [.ExceptHandler (some (.Name x np)) (some z) (p0 :: suite) pos2]) (SP X pins D) X.xe s₃) X.xe s₂) X.xe s₁)
    (fun u s2 xx => ?caught) PassesOwn.looking).run [] s σ H { D with nx := u D } (I.toTry _) h
  case caught =>
    obtain ⟨a, B, sI, pins2, σ2, H2, cls, d, rfl, J0, nb, up, sky, na, os, ag, b, hb1, yes, no⟩ := xx
    have J : Inv X pins σ2 H2 sI := J0.ofTry ok
    have sky2 : Sky B (X.env :: X.outer) a (Zn cls d) X.env.locals s2.heap := by
      rw [← st]; exact sky
    show wpAny (model X.prog X.w) X.A (noteFrame (.ref a) X.env) _ _ _
    refine Sky.land Zn.steady hfr fr sky2 ?_
    intro h3 fl3 up3
    have J3 : Inv X pins σ2 H2 { s2 with heap := h3 } := J.landed nb fl3.1 (up.trans up3) os ag
    obtain ⟨oe3, vs3, he3, hz3, hd3⟩ := fl3.there
    have away : ∀ {g : Heap} {o : Obj} {vs : Array Value}, g.FunFrames B (X.env :: X.outer) → g.get? a = some o → o.data = .fields vs → a ∉ frs (X.env :: X.outer) := fun {g o vs} ff e dd hm => by
      obtain ⟨_, o2, e2, q2⟩ := ff.mem hm
      rw [e] at e2
      cases e2
      exact q2 _ dd
    have nfr := away fl3.2.2.1 he3 hd3
    have nL : a ≠ X.env.locals := fun y =>
      nfr (List.mem_filterMap.mpr ⟨X.env, List.mem_cons_self, by rw [fr, y]⟩)
    have nF : a ∉ X.fs := fun hm => by
      obtain ⟨e, he, q⟩ := List.mem_filterMap.mp hm
      refine nfr (List.mem_filterMap.mpr ⟨e, ?_, q⟩)
      exact List.mem_cons_of_mem _ he
    have S3 := J3.suite he3 hd3 na nL nF
    refine wpAny_handleBy_cons (codeAny_handlers_test ?_) (fun q => by cases q)
    have LT : PySem.W.Looks (model X.prog X.w) h3 (typeOf (.ref a)) cls := fun A Q E s k q =>
      wpAny_typeOf_ref (k _ _ he3) (by rw [hz3.1]; exact q)
    have LM := PySem.W.exm_one (M := model X.prog X.w) (J3.kIn) LT hb1
    have test : ∀ {Q : Value → Shared → Prop} {E : Value → Shared → Prop}, Q c { s2 with heap := h3 } → wpAny (model X.prog X.w) (X.A.mark (some (.ref a))) (eval (.Name x np) X.env) Q E { s2 with heap := h3 } := fun {Q E} q => by
      obtain ⟨hg, hdbg, hm | ⟨hm, hv, hnn⟩⟩ := hc
      · refine ld_glob (X := X.suite a ((a, oe3) :: (X.pn ++ pins))) S3 hg hm q ?_
        exact hdbg
      · refine ld_blt (X := X.suite a ((a, oe3) :: (X.pn ++ pins))) S3 hg hm hv q hnn ?_
        exact hdbg
    refine test (LM.here ?_)
    cases b with
    | true =>
      refine codeAny_handlers_suite_as ?_
      refine HandSPX.lands_againZ fl3 ?_
      intro h4 fl4 up4
      have J4 : Inv X pins σ2 H2 { s2 with heap := h4 } := J.landed nb fl4.1 ((up.trans up3).trans up4) os ag
      obtain ⟨oe4, vs4, he4, hz4, hd4⟩ := fl4.there
      have S4 := J4.suite he4 hd4 na nL nF
      refine store_ok (X := X.suite a ((a, oe4) :: (X.pn ++ pins))) (v := .ref a) S4 nd hi lz rfl ?_ (.inr kz)
      intro s5 S5
      refine wpAny_mono ((hq a oe4 cls d (X.pn ++ pins) hz4 ⟨_, hd4⟩).run [] s5 _ H2 _ S5 (yes rfl a na)) ?_ (fun _ _ y => False.elim y)
      intro f s6 hsp
      have gone : ∀ {σ6 : St} {H6 : Hp} {Q : Shared → Prop}, Inv (X.suite a ((a, oe4) :: (X.pn ++ pins))) [] σ6 H6 s6 → (∀ s7, Inv X pins (σ6.set i none) H6 s7 → Q s7) →
          wpAny (model X.prog X.w) X.A (do bindName X.env z .none; unbindBehindTheSuite X.env z pos2) (fun _ s7 => Q s7) X.xe s6 := fun {σ6 H6 Q} S6 q => gone_ok (S6.unsuite ok) nd hi kz q
      cases f with
      | next => obtain ⟨σ6, H6, S6, q6⟩ := hsp; exact gone S6 fun s7 J7 => ⟨_, _, J7, q6⟩
      | brk => obtain ⟨σ6, H6, S6, q6⟩ := hsp; exact gone S6 fun s7 J7 => ⟨_, _, J7, q6⟩
      | cont => obtain ⟨σ6, H6, S6, q6⟩ := hsp; exact gone S6 fun s7 J7 => ⟨_, _, J7, q6⟩
      | ret u => obtain ⟨v6, σ6, H6, S6, r6, q6⟩ := hsp; exact gone S6 fun s7 J7 => ⟨_, _, _, J7, r6, q6⟩
    | false =>
      show wpAny _ X.A (handleBy (.ref a) X.env []) _ _ _
      refine wpAny_handleBy_nil ?_
      obtain ⟨_, _, _, oe, vs, C, oC, ts2, he, hz, hd, h1, hr⟩ := id fl3
      unfold PySem.passOn
      refine wpAny_bind (wpAny_field he hd h1 ?_)
      have nn : ¬ ((Value.ref C == Value.none) = true) := by simp
      rw [if_neg nn]
      have fin : wpAny (model X.prog X.w) X.A (setFlight (.ref a) X.env.frame) (fun _ s4 => wpAny (model X.prog X.w) X.A (throw (.ref a) : Sem Flow) (SP X pins D) X.xe s4) X.xe { s2 with heap := h3 } := by
        rw [fr]
        refine HandSPX.setFlight_upZ fl3 ?_
        intro h4 hh4 up4
        refine wpAny_throw (tk _ _ ?_)
        refine ⟨a, B, sI, pins, σ2, H2, cls, d, rfl, J, nb, (up.trans up3).trans up4, ?_, na, os, ag, no rfl⟩
        exact .inr (.inr (by rw [st]; exact hh4))
      first
        | exact wpAny_bind (wpAny_pure (wpAny_bind fin))
        | exact wpAny_bind fin
  refine wpAny_Try_except (wpAny_mono run ?_ fun e s1 he => he)
  intro f s1 hsp
  cases f with
  | next => obtain ⟨σ2, H2, J2, q⟩ := hsp; exact ho.run pins s1 σ2 H2 D (J2.ofTry ok) q
  | brk => obtain ⟨σ2, H2, J2, q⟩ := hsp; exact ⟨σ2, H2, J2.ofTry ok, q⟩
  | cont => obtain ⟨σ2, H2, J2, q⟩ := hsp; exact ⟨σ2, H2, J2.ofTry ok, q⟩
  | ret u => obtain ⟨v, σ2, H2, J2, r, q⟩ := hsp; exact ⟨v, σ2, H2, J2.ofTry ok, r, q⟩
end
end L2N
end

section
set_option autoImplicit false
set_option linter.all false
set_option maxRecDepth 100000
/-! Mn, part A: a small language of Python's kind over data with a heap of lists, dicts, instances; what must hold so that a piece of it gives what is wanted. Core Lean alone. -/
namespace Mn

/-- data: tuples by their items, all that changes by its address; lst is a list that never changes (the script), or one looked up; exc: a handled exception, where it stands, its class -/
inductive D where
  | non | bl (b : Bool) | int (i : Int) | str (s : List Nat) | tup (ds : List D) | lst (ds : List D) | ref (a : Nat) | exc (a c : Nat)
  deriving Inhabited

abbrev Ky := Sum Int (List Nat)
/-- what stands at an address -/
inductive MO where
  | lst (ds : List D) | dK (kvs : List (Ky × D)) | dT (kvs : List (List D × D)) | set (ds : List D)
  | ins (c : Nat) (fs : List (Nat × D)) | exc (c : Nat)
  /-- a dict that is being walked -/
  | fz (kvs : List (Ky × D))
abbrev Hm := Nat → Option MO
def up (m : Hm) (a : Nat) (o : MO) : Hm := fun b => if b = a then some o else m b
def Le (m' m : Hm) : Prop := ∀ a o, m' a = some o → m a = some o
abbrev Env := List (Option D)
def LeE (r' r : Env) : Prop := r'.length = r.length ∧ ∀ (i : Nat) d, r'[i]? = some (some d) → r[i]? = some (some d)
def SZ : Nat := 16777216
def vget : Env → Nat → Option D
  | [], _ => none
  | x :: _, 0 => x
  | _ :: t, n + 1 => vget t n

inductive Bop where | add | sub | mul | fdiv | mod | pow
  deriving DecidableEq
inductive Cop where | eq | ne | lt | le | gt | ge | is_ | isn | in_ | nin
  deriving DecidableEq
inductive Ty where | int | bool | str | tuple | list | dict | own (c : Nat) | verr
  deriving DecidableEq
inductive Bf where | len | abs | int | str | ord | min | max | sum | all | any | sorted | list | tuple | dict | set
  deriving DecidableEq
/-- calls within one another, taken as one -/
inductive Fu where | sortS | zipT | lenT
  deriving DecidableEq
inductive Bm where | append | extend | pop | insert | reverse | clear | index | count | get | setdefault | values | join | partition | split | startswith | upper | replace
  deriving DecidableEq

mutual
inductive E where
  | var (i : Nat) | non | bl (b : Bool) | num (i : Int) | txt (s : List Nat) | glob (x : Nat) (d : D)
  | bin (op : Bop) (a b : E) | neg (a : E)
  | cmp (op : Cop) (a b : E) | cmp2 (op op2 : Cop) (a b c : E)
  | and_ (es : Es) | or_ (es : Es) | not_ (a : E) | ifx (t a b : E)
  | call (f : Nat) (es : Es) | meth (m : Nat) (o : E) (es : Es) | make (c : Nat) (es : Es)
  | bcall (b : Bf) (es : Es) | bmeth (b : Bm) (o : E) (es : Es)
  | isin (a : E) (ts : List Ty)
  | attr (f : Nat) (o : E) | idx (a i : E) | slc (a : E) (lo hi : O) | rev (a : E)
  | tup (es : Es) | lst (es : Es) | dctK | lenS (e : E) | rngL (es : Es) | rngT (es : Es)
  | fus (f : Fu) (es : Es) | sortV (a : E) | maxD (a d : E)
  | comp (elt : E) (tg : T) (it : I) (cond : O) (own : List Nat)
  /-- f'..'; {k: v, ..} with written keys; [.. for x in d ..] -/
  | fstr (es : Es) | dctD (ks : List Ky) (es : Es) | compD (elt : E) (tg : T) (i : Nat) (cond : O) (own : List Nat)
inductive Es where | nil | cons (e : E) (es : Es)
inductive O where | no | yes (e : E)
inductive I where | val (e : E) | rng (es : Es) | enum (e : E) | zip (a b : E)
inductive T where | nm (i : Nat) | tp (ts : Ts) | at_ (f : Nat) (o : E) | sb (o i : E)
inductive Ts where | nil | cons (t : T) (ts : Ts)
end
mutual
inductive S where
  | pass | ex (e : E) | asg (t : T) (e : E) | aug (t : T) (op : Bop) (e : E) | ife (c : E) (a b : Ss) | fr (t : T) (it : I) (b : Ss)
  | whl (c : E) (b : Ss) | brk | cnt | ret (e : E) | ret0 | rais (c : Nat) | nev | tr (b : Ss) (i c : Nat) (s o : Ss)
inductive Ss where | nil | cons (s : S) (ss : Ss)
end

/-! ### values -/
mutual
def D.eqv : D → D → Bool
  | .non, y => match y with | .non => true | _ => false
  | .bl a, y => match y with | .bl b => a == b | .int j => (if a then 1 else 0) == j | _ => false
  | .int i, y => match y with | .int j => i == j | .bl b => i == (if b then 1 else 0) | _ => false
  | .str s, y => match y with | .str t => s == t | _ => false
  | .tup xs, y => match y with | .tup ys => D.eqvs xs ys | _ => false
  | .lst xs, y => match y with | .lst ys => D.eqvs xs ys | _ => false
  | .ref _, _ => false
  | .exc _ _, _ => false
def D.eqvs : List D → List D → Bool
  | [], ys => ys.isEmpty
  | x :: xs, ys => match ys with | [] => false | y :: ys => D.eqv x y && D.eqvs xs ys
end
mutual
/-- no list within, texts of plain signs, no deeper than n -/
def D.flat : Nat → D → Bool
  | _, .non => true
  | _, .bl _ => true
  | _, .int _ => true
  | _, .str s => s.all (· < 1114112)
  | n, .tup ds => match n with | 0 => false | k + 1 => D.flats k ds
  | _, .lst _ => false
  | _, .ref _ => false
  | _, .exc _ _ => false
def D.flats : Nat → List D → Bool
  | _, [] => true
  | n, d :: ds => D.flat n d && D.flats n ds
end
mutual
/-- of depth at most n, texts of plain signs, no address left -/
def D.shp : Nat → D → Bool
  | _, .non => true
  | _, .bl _ => true
  | _, .int _ => true
  | _, .str s => s.all (· < 1114112)
  | n, .tup ds => match n with | 0 => false | k + 1 => D.shps k ds
  | n, .lst ds => match n with | 0 => false | k + 1 => D.shps k ds
  | _, .ref _ => false
  | _, .exc _ _ => false
def D.shps : Nat → List D → Bool
  | _, [] => true
  | n, d :: ds => D.shp n d && D.shps n ds
end
mutual
/-- lists looked up -/
inductive Res (m : Hm) : D → D → Prop where
  | non : Res m .non .non
  | bl (b : Bool) : Res m (.bl b) (.bl b)
  | int (i : Int) : Res m (.int i) (.int i)
  | str (s : List Nat) : Res m (.str s) (.str s)
  | tup {ds es : List D} : Ress m ds es → Res m (.tup ds) (.tup es)
  | lst {ds es : List D} : Ress m ds es → Res m (.lst ds) (.lst es)
  | ref {a : Nat} {ds es : List D} : m a = some (.lst ds) → Ress m ds es → Res m (.ref a) (.lst es)
inductive Ress (m : Hm) : List D → List D → Prop where
  | nil : Ress m [] []
  | cons {d e : D} {ds es : List D} : Res m d e → Ress m ds es → Ress m (d :: ds) (e :: es)
end
mutual
/-- the same -/
def D.beq : D → D → Bool
  | .non, y => match y with | .non => true | _ => false
  | .bl a, y => match y with | .bl b => a == b | _ => false
  | .int i, y => match y with | .int j => decide (i = j) | _ => false
  | .str s, y => match y with | .str t => decide (s = t) | _ => false
  | .tup xs, y => match y with | .tup ys => D.beqs xs ys | _ => false
  | .lst xs, y => match y with | .lst ys => D.beqs xs ys | _ => false
  | .ref a, y => match y with | .ref b => decide (a = b) | _ => false
  | .exc a c, y => match y with | .exc b d => decide (a = b) && decide (c = d) | _ => false
def D.beqs : List D → List D → Bool
  | [], ys => ys.isEmpty
  | x :: xs, ys => match ys with | [] => false | y :: ys => D.beq x y && D.beqs xs ys
end
mutual
theorem beq_eq : ∀ {x y : D}, D.beq x y = true → x = y
  | .non, y, h => by cases y <;> simp_all [D.beq]
  | .bl a, y, h => by cases y <;> simp_all [D.beq]
  | .int a, y, h => by cases y <;> simp_all [D.beq]
  | .str a, y, h => by cases y <;> simp_all [D.beq]
  | .tup a, y, h => by
    cases y with
    | tup b => rw [beqs_eq (x := a) (y := b) (by simpa only [D.beq] using h)]
    | _ => simp [D.beq] at h
  | .lst a, y, h => by
    cases y with
    | lst b => rw [beqs_eq (x := a) (y := b) (by simpa only [D.beq] using h)]
    | _ => simp [D.beq] at h
  | .ref a, y, h => by cases y <;> simp_all [D.beq]
  | .exc a c, y, h => by cases y <;> simp_all [D.beq]
theorem beqs_eq : ∀ {x y : List D}, D.beqs x y = true → x = y
  | [], [], _ => rfl
  | [], _ :: _, h => by simp [D.beqs] at h
  | _ :: _, [], h => by simp [D.beqs] at h
  | a :: x, b :: y, h => by
    simp only [D.beqs, Bool.and_eq_true] at h
    rw [beq_eq h.1, beqs_eq h.2]
end
mutual
theorem beq_refl : ∀ x : D, D.beq x x = true
  | .non => by simp [D.beq]
  | .bl a => by simp [D.beq]
  | .int a => by simp [D.beq]
  | .str a => by simp [D.beq]
  | .tup a => by simp only [D.beq]; exact beqs_refl a
  | .lst a => by simp only [D.beq]; exact beqs_refl a
  | .ref a => by simp [D.beq]
  | .exc a c => by simp [D.beq]
theorem beqs_refl : ∀ x : List D, D.beqs x x = true
  | [] => by simp [D.beqs]
  | a :: x => by simp [D.beqs, beq_refl a, beqs_refl x]
end
instance : DecidableEq D := fun x y => if h : D.beq x y = true then .isTrue (beq_eq h) else .isFalse fun e => h (e ▸ beq_refl x)
mutual
/-- a part of a key: ints, texts, tuples of these, no deeper than n -/
def D.keyd : Nat → D → Bool
  | _, .int _ => true
  | _, .str _ => true
  | n, .tup ds => match n with | 0 => false | k + 1 => D.keyds k ds
  | _, _ => false
def D.keyds : Nat → List D → Bool
  | _, [] => true
  | n, d :: ds => D.keyd n d && D.keyds n ds
end
def scalD : D → Bool
  | .non => true | .bl _ => true | .int _ => true | .str _ => true | _ => false
def getL (m : Hm) (a : Nat) : Option (List D) := match m a with | some (.lst xs) => some xs | _ => none
def truth (m : Hm) : D → Option Bool
  | .non => some false
  | .bl b => some b
  | .int i => some (i != 0)
  | .str s => if s.length ≤ SZ then some (!s.isEmpty) else none
  | .tup ds => some (!ds.isEmpty)
  | .lst ds => some (!ds.isEmpty)
  | .ref a => match m a with
    | some (.lst xs) => some (!xs.isEmpty)
    | some (.dK xs) => some (!xs.isEmpty)
    | _ => none
  | .exc _ _ => none
def ixN (n : Nat) (i : Int) : Option Nat := if 0 ≤ i then (if i < n then some i.toNat else none) else if -(n : Int) ≤ i then some (i + n).toNat else none
def atI {α : Type} (xs : List α) (i : Int) : Option α := (ixN xs.length i).bind fun j => xs[j]?
def sIx (n d : Nat) : Option Int → Nat
  | none => d
  | some v => if v < 0 then (v + n).toNat else min v.toNat n
def cut {α : Type} (xs : List α) (lo hi : Option Int) : List α := (xs.drop (sIx xs.length 0 lo)).take (sIx xs.length xs.length hi - sIx xs.length 0 lo)
def tyIs (m : Hm) (d : D) (t : Ty) : Option Bool := match d with
  | .non => some false
  | .bl _ => some (match t with | .int => true | .bool => true | _ => false)
  | .int _ => some (match t with | .int => true | _ => false)
  | .str _ => some (match t with | .str => true | _ => false)
  | .tup _ => some (match t with | .tuple => true | _ => false)
  | .lst _ => some (match t with | .list => true | _ => false)
  | .ref a => match m a with
    | some (.lst _) => some (match t with | .list => true | _ => false)
    | some (.dK _) => some (match t with | .dict => true | _ => false)
    | _ => none
  | .exc _ _ => none
def tyAny (m : Hm) (d : D) : List Ty → Option Bool
  | [] => some false
  | t :: ts => match tyIs m d t with
    | some true => some true
    | some false => tyAny m d ts
    | none => none
/-! keys -/
def kyOf : D → Option Ky
  | .int i => some (.inl i)
  | .str s => some (.inr s)
  | _ => none
def kysOf : List D → Option (List Ky)
  | [] => some []
  | d :: ds => match kyOf d, kysOf ds with | some k, some ks => some (k :: ks) | _, _ => none
def dOf : Ky → D
  | .inl i => .int i
  | .inr s => .str s
section
variable {κ : Type} [DecidableEq κ]
def look (kvs : List (κ × D)) (k : κ) : Option D := (kvs.find? fun kv => decide (kv.1 = k)).map (·.2)
def putk (kvs : List (κ × D)) (k : κ) (v : D) : List (κ × D) := if (kvs.any fun kv => decide (kv.1 = k)) = true then kvs.map fun kv => if kv.1 = k then (kv.1, v) else kv else kvs ++ [(k, v)]
def dropk (kvs : List (κ × D)) (k : κ) : List (κ × D) := kvs.filter fun kv => decide (kv.1 ≠ k)
end
/-- what a dict at a tells of the key d: none, where it may not be asked so -/
def dget (m : Hm) (a : Nat) (d : D) : Option (Option D) := match m a, d with
  | some (.dK kvs), .int i => some (look kvs (.inl i))
  | some (.dK kvs), .str s => some (look kvs (.inr s))
  | some (.dK []), .tup ks => if D.keyds 7 ks = true then some none else none
  | some (.dT kvs), .tup ks => if D.keyds 7 ks = true then some (look kvs ks) else none
  | some (.fz kvs), .int i => some (look kvs (.inl i))
  | some (.fz kvs), .str s => some (look kvs (.inr s))
  | _, _ => none
def dput (m : Hm) (a : Nat) (d v : D) : Option MO := match m a, d with
  | some (.dK kvs), .int i => if kvs.length < SZ then some (.dK (putk kvs (.inl i) v)) else none
  | some (.dK kvs), .str s => if kvs.length < SZ then some (.dK (putk kvs (.inr s) v)) else none
  | some (.dK []), .tup ks => if D.keyds 7 ks = true then some (.dT [(ks, v)]) else none
  | some (.dT kvs), .tup ks => if D.keyds 7 ks = true ∧ kvs.length < SZ then some (.dT (putk kvs ks v)) else none
  | _, _ => none

abbrev PD := D → Hm → Prop
/-- the unlike ones, first come -/
def unlL {α : Type} [DecidableEq α] (l : List α) : List α := l.foldl (fun acc x => if x ∈ acc then acc else acc ++ [x]) []
/-- a new object -/
def newO (m : Hm) (o : MO) (P : PD) : Prop := ∀ p, m p = none → P (.ref p) (up m p o)

/-! ### operators, by values -/
/-- a dict's pairs, one by one, in another's -/
def eqKs (l2 : List (Ky × D)) : List (Ky × D) → Bool
  | [] => true
  | kv :: r => match look l2 kv.1 with | some w => D.eqv kv.2 w && eqKs l2 r | none => false
def eqK (k1 k2 : List (Ky × D)) : Bool := (k1.length == k2.length) && eqKs k2 k1
/-- two dicts of plain values -/
def eqDk (x y : D) (neg : Bool) (m : Hm) (P : PD) : Prop := match x, y with
  | .ref a, .ref b => match m a, m b with
    | some (.dK k1), some (.dK k2) => (k1.all fun kv => D.flat 60 kv.2) = true ∧ (k2.all fun kv => D.flat 60 kv.2) = true ∧ P (.bl (xor neg (eqK k1 k2))) m
    | _, _ => False
  | _, _ => False
def eqW (x y : D) (neg : Bool) (m : Hm) (P : PD) : Prop :=
  if scalD x && scalD y then P (.bl (xor neg (D.eqv x y))) m
  else (∃ x2 y2, Res m x x2 ∧ Res m y y2 ∧ D.shp 60 x2 = true ∧ D.shp 60 y2 = true ∧ P (.bl (xor neg (D.eqv x2 y2))) m) ∨ eqDk x y neg m P
def lexLt : List Int → List Int → Bool
  | [], [] => false
  | [], _ :: _ => true
  | _ :: _, [] => false
  | x :: xs, y :: ys => if x = y then lexLt xs ys else decide (x < y)
def intsOf : List D → Option (List Int)
  | [] => some []
  | d :: ds => match d, intsOf ds with | .int i, some r => some (i :: r) | _, _ => none
def natLt : List Nat → List Nat → Bool
  | _, [] => false
  | [], _ :: _ => true
  | x :: xs, y :: ys => if x = y then natLt xs ys else decide (x < y)
mutual
/-- may be compared, place by place -/
def D.alike : D → D → Bool
  | .bl _, y => match y with | .bl _ => true | _ => false
  | .int _, y => match y with | .int _ => true | _ => false
  | .str _, y => match y with | .str _ => true | _ => false
  | .tup xs, y => match y with | .tup ys => D.alikes xs ys | _ => false
  | _, _ => false
def D.alikes : List D → List D → Bool
  | [], _ => true
  | x :: xs, ys => match ys with | [] => true | y :: ys => D.alike x y && D.alikes xs ys
end
mutual
/-- x < y -/
def D.lt : D → D → Bool
  | .bl a, y => match y with | .bl b => !a && b | _ => false
  | .int i, y => match y with | .int j => decide (i < j) | _ => false
  | .str s, y => match y with | .str t => natLt s t | _ => false
  | .tup xs, y => match y with | .tup ys => D.lts xs ys | _ => false
  | _, _ => false
def D.lts : List D → List D → Bool
  | [], ys => !ys.isEmpty
  | x :: xs, ys => match ys with | [] => false | y :: ys => if D.eqv x y = true then D.lts xs ys else D.lt x y
end
def leD (x y : D) : Bool := !D.lt y x
def isTupD : D → Bool
  | .tup ds => !ds.isEmpty
  | _ => false
def isStrD : D → Bool
  | .str _ => true
  | _ => false
/-- a list that sorts by its items: texts, or tuples that are none empty, comparable, no lists within -/
def sortable (ds : List D) : Bool := (ds.all isTupD || ds.all isStrD) && ds.all (fun x => ds.all fun y => D.alike x y) && D.flats 59 ds && decide (ds.length ≤ SZ)
def cmpOk (xs ys : List D) : Bool := D.alikes xs ys && D.flats 59 xs && D.flats 59 ys
def ordW (op : Cop) (x y : D) (m : Hm) (P : PD) : Prop := match op, x, y with
  | .lt, .int i, .int j => P (.bl (decide (i < j))) m
  | .le, .int i, .int j => P (.bl (decide (i ≤ j))) m
  | .gt, .int i, .int j => P (.bl (decide (j < i))) m
  | .ge, .int i, .int j => P (.bl (decide (j ≤ i))) m
  | .lt, .str s, .str t => P (.bl (natLt s t)) m
  | .le, .str s, .str t => P (.bl (!natLt t s)) m
  | .gt, .str s, .str t => P (.bl (natLt t s)) m
  | .ge, .str s, .str t => P (.bl (!natLt s t)) m
  | .lt, .tup s, .tup t => cmpOk s t = true ∧ P (.bl (D.lts s t)) m
  | .le, .tup s, .tup t => cmpOk s t = true ∧ P (.bl (!D.lts t s)) m
  | .gt, .tup s, .tup t => cmpOk s t = true ∧ P (.bl (D.lts t s)) m
  | .ge, .tup s, .tup t => cmpOk s t = true ∧ P (.bl (!D.lts s t)) m
  | _, _, _ => False
def isW (x y : D) (neg : Bool) (m : Hm) (P : PD) : Prop := match x, y with
  | .bl a, .bl b => P (.bl (xor neg (a == b))) m
  | x, .non => P (.bl (xor neg (match x with | .non => true | _ => false))) m
  | .ref a, .ref b => match m a, m b with
    | some (.lst _), some (.lst _) => P (.bl (xor neg (a == b))) m
    | some (.ins _ _), some (.ins _ _) => P (.bl (xor neg (a == b))) m
    | _, _ => False
  | _, _ => False
def inW (x y : D) (neg : Bool) (m : Hm) (P : PD) : Prop := match y with
  | .tup ds => (scalD x && ds.all scalD || D.flat 58 x && D.flats 58 ds) = true ∧ P (.bl (xor neg (ds.any fun z => D.eqv z x))) m
  | .str t => match x with | .str [c] => P (.bl (xor neg (t.contains c))) m | _ => False
  | .ref a => match m a with
    | some (.lst ds) => ∃ x2 ds2, Res m x x2 ∧ Ress m ds ds2 ∧ D.shp 60 x2 = true ∧ D.shps 60 ds2 = true ∧ P (.bl (xor neg (ds2.any fun z => D.eqv z x2))) m
    | some (.dK _) => ∃ o, dget m a x = some o ∧ P (.bl (xor neg o.isSome)) m
    | some (.dT _) => ∃ o, dget m a x = some o ∧ P (.bl (xor neg o.isSome)) m
    | some (.fz _) => ∃ o, dget m a x = some o ∧ P (.bl (xor neg o.isSome)) m
    | _ => False
  | _ => False
def cmpW (op : Cop) (x y : D) (m : Hm) (P : PD) : Prop := match op with
  | .eq => eqW x y false m P
  | .ne => eqW x y true m P
  | .is_ => isW x y false m P
  | .isn => isW x y true m P
  | .in_ => inW x y false m P
  | .nin => inW x y true m P
  | .lt => ordW .lt x y m P
  | .le => ordW .le x y m P
  | .gt => ordW .gt x y m P
  | .ge => ordW .ge x y m P
def mulOk (i j : Int) : Bool := decide ((-(2 ^ 64) < i ∧ i < 2 ^ 64) ∨ (-(2 ^ 64) < j ∧ j < 2 ^ 64) ∨ i.natAbs.log2 + j.natAbs.log2 < 1000000)
def repD {α : Type} (xs : List α) (k : Nat) : List α := (List.replicate k xs).flatten
def binW (op : Bop) (x y : D) (m : Hm) (P : PD) : Prop := match op, x, y with
  | .add, .int i, .int j => P (.int (i + j)) m
  | .add, .str s, .str t => s.length + t.length ≤ SZ ∧ P (.str (s ++ t)) m
  | .add, .tup a, .tup b => a.length + b.length ≤ SZ ∧ P (.tup (a ++ b)) m
  | .add, .ref a, .ref b => match m a, m b with
    | some (.lst xs), some (.lst ys) => xs.length + ys.length ≤ SZ ∧ newO m (.lst (xs ++ ys)) P
    | _, _ => False
  | .add, .bl b, .int j => P (.int ((if b then 1 else 0) + j)) m
  | .add, .int i, .bl b => P (.int (i + (if b then 1 else 0))) m
  | .sub, .bl b, .int j => P (.int ((if b then 1 else 0) - j)) m
  | .sub, .int i, .int j => P (.int (i - j)) m
  | .mul, .int i, .int j => mulOk i j = true ∧ P (.int (i * j)) m
  | .mul, .ref a, .int k => match m a with
    | some (.lst xs) => (-(2 ^ 63) ≤ k ∧ k < 2 ^ 63) ∧ xs.length * k.toNat ≤ SZ ∧ newO m (.lst (repD xs k.toNat)) P
    | _ => False
  | .mul, .tup ds, .int k => ds ≠ [] ∧ -1000 ≤ k ∧ k ≤ 1000 ∧ k ≠ 1 ∧ ds.length ≤ 1000 ∧ P (.tup (repD ds k.toNat)) m
  | .mul, .str s, .int k => (-(2 ^ 63) ≤ k ∧ k < 2 ^ 63) ∧ s.length * k.toNat ≤ SZ ∧ P (.str (repD s k.toNat)) m
  | .fdiv, .int i, .int j => (j ≠ 0 ∧ (j.natAbs < 1073741824 ∨ (0 < j ∧ j.natAbs.log2 < 9000))) ∧ P (.int (i.fdiv j)) m
  | .mod, .int i, .int j => j ≠ 0 ∧ P (.int (i.fmod j)) m
  | .pow, .int i, .int j => (0 ≤ j ∧ j ≤ 1000000 ∧ i.natAbs < 2 ^ 64) ∧ P (.int (i ^ j.toNat)) m
  | _, _, _ => False
def ixW (x y : D) (m : Hm) (P : PD) : Prop := match x, y with
  | .tup ds, .int i => ∃ d, atI ds i = some d ∧ P d m
  | .lst ds, .int i => ∃ d, atI ds i = some d ∧ P d m
  | .str s, .int i => s.length ≤ SZ ∧ ∃ c, atI s i = some c ∧ P (.str [c]) m
  | .ref a, .int i => match m a with
    | some (.lst xs) => ∃ d, atI xs i = some d ∧ P d m
    | some (.dK kvs) => ∃ d, look kvs (.inl i) = some d ∧ P d m
    | _ => False
  | .ref a, y => ∃ d, dget m a y = some (some d) ∧ P d m
  | _, _ => False
def slW (x : D) (lo hi : Option Int) (m : Hm) (P : PD) : Prop := match x with
  | .tup ds => P (.tup (cut ds lo hi)) m
  | .lst ds => newO m (.lst (cut ds lo hi)) P
  | .str s => s.length ≤ SZ ∧ P (.str (cut s lo hi)) m
  | .ref a => match getL m a with
    | some xs => newO m (.lst (cut xs lo hi)) P
    | none => False
  | _ => False
def revW (x : D) (m : Hm) (P : PD) : Prop := match x with
  | .tup ds => P (.tup ds.reverse) m
  | .ref a => match getL m a with
    | some xs => newO m (.lst xs.reverse) P
    | none => False
  | _ => False

/-! ### built-in calls, by values -/
def blsOf : List D → Option (List Bool)
  | [] => some []
  | d :: ds => match d, blsOf ds with | .bl i, some r => some (i :: r) | _, _ => none
def maxI : List Int → Int
  | [] => 0
  | [x] => x
  | x :: xs => if maxI xs ≤ x then x else maxI xs
def minI : List Int → Int
  | [] => 0
  | [x] => x
  | x :: xs => if x ≤ minI xs then x else minI xs
def digitsT (i : Int) : List Nat := (toString i).toList.map Char.toNat
def digB (c : Nat) : Bool := decide (48 ≤ c) && decide (c ≤ 57)
/-- a text of one or two figures, as a number -/
def numT : List Nat → Option Int
  | [a] => if digB a = true then some ((a - 48 : Nat) : Int) else none
  | [a, b] => if (digB a && digB b) = true then some ((10 * (a - 48) + (b - 48) : Nat) : Int) else none
  | _ => none
def boolT (b : Bool) : List Nat := if b then [84, 114, 117, 101] else [70, 97, 108, 115, 101]
/-! texts -/
def preT (S l : List Nat) : Bool := l.take S.length == S
/-- cut at each S; k signs are still to be passed over -/
def splT (S : List Nat) : Nat → List Nat → List Nat → List (List Nat)
  | _, acc, [] => [acc]
  | 0, acc, c :: r => if preT S (c :: r) = true then acc :: splT S (S.length - 1) [] r else splT S 0 (acc ++ [c]) r
  | k + 1, acc, _ :: r => splT S k acc r
/-- ahead of the first S, and behind it -/
def parT (S : List Nat) : List Nat → List Nat → Option (List Nat × List Nat)
  | _, [] => none
  | acc, c :: r => if preT S (c :: r) = true then some (acc, (c :: r).drop S.length) else parT S (acc ++ [c]) r
def par3 (s t : List Nat) : List D := match parT t [] s with
  | some (a, b) => [.str a, .str t, .str b]
  | none => [.str s, .str [], .str []]
def upC (c : Nat) : Nat := if 97 ≤ c ∧ c ≤ 122 then c - 32 else c
/-- a text or a number, written -/
def fmtD : D → Option (List Nat)
  | .str s => if s.length ≤ SZ then some s else none
  | .int i => if i.natAbs.log2 < 1920 then some (digitsT i) else none
  | _ => none
def seqOf (m : Hm) : D → Option (List D)
  | .tup ds => some ds
  | .lst ds => some ds
  | .ref a => match m a with
    | some (.lst ds) => some ds
    | some (.dK kvs) => some (kvs.map fun kv => dOf kv.1)
    | some (.dT kvs) => some (kvs.map fun kv => .tup kv.1)
    | _ => none
  | _ => none
/-- keys with values, out of pairs -/
def pairsOf : List D → Option (List (Ky × D))
  | [] => some []
  | d :: ds => match d with
    | .tup [k, v] => (match kyOf k, pairsOf ds with | some j, some r => some ((j, v) :: r) | _, _ => none)
    | _ => none
def pairsT : List D → Option (List (List D × D))
  | [] => some []
  | d :: ds => match d with
    | .tup [.tup ks, v] => if D.keyds 7 ks = true then (match pairsT ds with | some r => some ((ks, v) :: r) | none => none) else none
    | _ => none
def mergeT (kvs : List (List D × D)) : List (List D × D) := kvs.foldl (fun acc kv => putk acc kv.1 kv.2) []
/-- dict of such items -/
def dictW (ds : List D) (m : Hm) (P : PD) : Prop := match pairsOf ds with
  | some kvs => newO m (.dK (kvs.foldl (fun acc kv => putk acc kv.1 kv.2) [])) P
  | none => ∃ kvs, pairsT ds = some kvs ∧ newO m (.dT (mergeT kvs)) P
def mergeD (kvs : List (Ky × D)) : List (Ky × D) := kvs.foldl (fun acc kv => putk acc kv.1 kv.2) []
def bfW (f : Bf) (xs : List D) (m : Hm) (P : PD) : Prop := match f, xs with
  | .len, [.tup ds] => P (.int ds.length) m
  | .len, [.lst ds] => P (.int ds.length) m
  | .len, [.str s] => s.length ≤ SZ ∧ P (.int s.length) m
  | .len, [.ref a] => match m a with
    | some (.lst ds) => P (.int ds.length) m
    | some (.dK kvs) => P (.int kvs.length) m
    | some (.dT kvs) => P (.int kvs.length) m
    | _ => False
  | .abs, [.int i] => P (.int (if i < 0 then -i else i)) m
  | .int, [.int i] => P (.int i) m
  | .int, [.bl b] => P (.int (if b then 1 else 0)) m
  | .str, [.int i] => i.natAbs.log2 < 1920 ∧ P (.str (digitsT i)) m
  | .str, [.bl b] => P (.str (boolT b)) m
  | .int, [.str s] => ∃ n, numT s = some n ∧ P (.int n) m
  | .ord, [.str [c]] => P (.int c) m
  | .min, [.int i, .int j] => P (.int (if j < i then j else i)) m
  | .max, [.int i, .int j] => P (.int (if j > i then j else i)) m
  | .min, [.ref a] => match m a with
    | some (.lst ds) => ∃ ns, intsOf ds = some ns ∧ ns ≠ [] ∧ P (.int (minI ns)) m
    | _ => False
  | .max, [.ref a] => match m a with
    | some (.lst ds) => ∃ ns, intsOf ds = some ns ∧ ns ≠ [] ∧ P (.int (maxI ns)) m
    | _ => False
  | .sum, [.ref a] => match m a with
    | some (.lst ds) => ∃ ns, intsOf ds = some ns ∧ P (.int ns.sum) m
    | _ => False
  | .all, [.ref a] => match m a with
    | some (.lst ds) => ∃ bs, blsOf ds = some bs ∧ P (.bl (bs.all id)) m
    | _ => False
  | .any, [.ref a] => match m a with
    | some (.lst ds) => ∃ bs, blsOf ds = some bs ∧ P (.bl (bs.any id)) m
    | _ => False
  | .sum, [.tup ds] => ∃ ns, intsOf ds = some ns ∧ P (.int ns.sum) m
  | .min, [.tup ds] => ∃ ns, intsOf ds = some ns ∧ ns ≠ [] ∧ P (.int (minI ns)) m
  | .max, [.tup ds] => ∃ ns, intsOf ds = some ns ∧ ns ≠ [] ∧ P (.int (maxI ns)) m
  | .dict, [.ref a] => match m a with
    | some (.lst ds) => dictW ds m P
    | some (.dK kvs) => newO m (.dK kvs) P
    | _ => False
  | .dict, [.tup ds] => dictW ds m P
  | .list, [x] => ∃ ds, seqOf m x = some ds ∧ newO m (.lst ds) P
  | .tuple, [.tup ds] => P (.tup ds) m
  | .tuple, [.ref a] => match getL m a with
    | some ds => P (.tup ds) m
    | none => False
  | .sorted, [.ref a] => match m a with
    | some (.lst ds) => (match intsOf ds with
      | some ns => newO m (.lst ((ns.mergeSort (fun a b => decide (a ≤ b))).map .int)) P
      | none => sortable ds = true ∧ newO m (.lst (ds.mergeSort leD)) P)
    | _ => False
  | _, _ => False
def strsOf : List D → Option (List (List Nat))
  | [] => some []
  | d :: ds => match d, strsOf ds with | .str i, some r => some (i :: r) | _, _ => none
def joinT (sep : List Nat) : List (List Nat) → List Nat
  | [] => []
  | [x] => x
  | x :: y :: r => x ++ (sep ++ joinT sep (y :: r))
/-- the kind of a receiver: a list, a dict, a text -/
def rk (m : Hm) : D → Nat
  | .str _ => 3
  | .lst _ => 1
  | .ref a => match m a with
    | some (.lst _) => 1
    | some (.dK _) => 2
    | some (.dT _) => 2
    | _ => 0
  | _ => 0
/-- the methods that a receiver of that kind has here -/
def mok (f : Bm) (k : Nat) : Bool := match f, k with
  | .append, 1 | .extend, 1 | .pop, 1 | .pop, 2 | .insert, 1 | .index, 1 | .count, 1 | .reverse, 1 | .clear, 1 | .get, 2 | .join, 3 | .setdefault, 2
  | .upper, 3 | .partition, 3 | .split, 3 | .startswith, 3 => true
  | _, _ => false
/-- the first place of x -/
def fstIx (x : D) : List D → Nat → Option Nat
  | [], _ => none
  | d :: ds, k => if D.eqv d x = true then some k else fstIx x ds (k + 1)
def bmW (f : Bm) (x : D) (xs : List D) (m : Hm) (P : PD) : Prop := match f, x, xs with
  | .append, .ref a, [d] => match m a with
    | some (.lst ds) => ds.length < SZ ∧ P .non (up m a (.lst (ds ++ [d])))
    | _ => False
  | .extend, .ref a, [.ref b] => match m a, m b with
    | some (.lst ds), some (.lst es) => ds.length + es.length ≤ SZ ∧ P .non (up m a (.lst (ds ++ es)))
    | _, _ => False
  | .pop, .ref a, [y] => match m a with
    | some (.lst ds) => (match y with
      | .int i => (-(2 ^ 63) ≤ i ∧ i < 2 ^ 63) ∧ ∃ k d, ixN ds.length i = some k ∧ ds[k]? = some d ∧ P d (up m a (.lst (ds.eraseIdx k)))
      | _ => False)
    | some (.dK kvs) => ∃ k d, kyOf y = some k ∧ look kvs k = some d ∧ P d (up m a (.dK (dropk kvs k)))
    | some (.dT kvs) => (match y with
      | .tup ks => D.keyds 7 ks = true ∧ ∃ d, look kvs ks = some d ∧ P d (up m a (.dT (dropk kvs ks)))
      | _ => False)
    | _ => False
  | .pop, .ref a, [] => match m a with
    | some (.lst ds) => ∃ d, ds[ds.length - 1]? = some d ∧ P d (up m a (.lst ds.dropLast))
    | _ => False
  | .pop, .ref a, [y, z] => match m a with
    | some (.dK kvs) => (match kyOf y with
      | some j => (match look kvs j with
        | some d => P d (up m a (.dK (dropk kvs j)))
        | none => P z m)
      | none => (match y with
        | .tup ks => kvs = [] ∧ D.keyds 7 ks = true ∧ P z m
        | _ => False))
    | some (.dT kvs) => (match y with
      | .tup ks => D.keyds 7 ks = true ∧ (match look kvs ks with
        | some d => P d (up m a (.dT (dropk kvs ks)))
        | none => P z m)
      | _ => False)
    | _ => False
  | .insert, .ref a, [.int i, d] => match m a with
    | some (.lst ds) => ds.length < SZ ∧ (0 ≤ i ∧ i < 2 ^ 63) ∧ P .non (up m a (.lst (ds.take i.toNat ++ [d] ++ ds.drop i.toNat)))
    | _ => False
  | .index, .ref a, [x] => match m a with
    | some (.lst ds) => ∃ x2 ds2 j, Res m x x2 ∧ Ress m ds ds2 ∧ D.shp 60 x2 = true ∧ D.shps 60 ds2 = true ∧ fstIx x2 ds2 0 = some j ∧ P (.int (j : Nat)) m
    | _ => False
  | .count, .ref a, [.bl k] => match m a with
    | some (.lst ds) => ∃ bs, blsOf ds = some bs ∧ P (.int (bs.count k : Nat)) m
    | _ => False
  | .reverse, .ref a, [] => match m a with
    | some (.lst ds) => P .non (up m a (.lst ds.reverse))
    | _ => False
  | .clear, .ref a, [] => match m a with
    | some (.lst _) => P .non (up m a (.lst []))
    | _ => False
  | .get, .ref a, [k, d] => ∃ o, dget m a k = some o ∧ P (o.getD d) m
  | .setdefault, .ref a, [.tup ks, d] => match m a with
    | some (.dK kvs) => kvs = [] ∧ D.keyds 7 ks = true ∧ P d (up m a (.dT [(ks, d)]))
    | some (.dT kvs) => D.keyds 7 ks = true ∧ kvs.length < SZ ∧ (match look kvs ks with
      | some v => P v m
      | none => P d (up m a (.dT (putk kvs ks d))))
    | _ => False
  | .join, .str sep, [.ref a] => match m a with
    | some (.lst ds) => ∃ ss, strsOf ds = some ss ∧ (ss.map List.length).sum + ss.length * sep.length ≤ SZ ∧ P (.str (joinT sep ss)) m
    | _ => False
  | .upper, .str s, [] => (s.all (· < 128) = true ∧ s.length ≤ 5592405) ∧ P (.str (s.map upC)) m
  | .partition, .str s, [.str t] => (t ≠ [] ∧ s.length ≤ SZ) ∧ P (.tup (par3 s t)) m
  | .split, .str s, [.str t] => (t ≠ [] ∧ t.all (· < 256) = true ∧ s.length + 2 ≤ SZ) ∧ newO m (.lst ((splT t 0 [] s).map .str)) P
  | .startswith, .str s, [.str t] => P (.bl (preT t s)) m
  | _, _, _ => False
def setW (o i v : D) (m : Hm) (Q : Hm → Prop) : Prop := match o, i with
  | .ref a, .int k => match m a with
    | some (.lst ds) => ∃ j, ixN ds.length k = some j ∧ Q (up m a (.lst (ds.set j v)))
    | some (.dK kvs) => kvs.length < SZ ∧ Q (up m a (.dK (putk kvs (.inl k) v)))
    | _ => False
  | .ref a, i => ∃ ob, dput m a i v = some ob ∧ Q (up m a ob)
  | _, _ => False

/-! ### fields -/
def fput (fs : List (Nat × D)) (f : Nat) (v : D) : List (Nat × D) := match fs with
  | [] => [(f, v)]
  | (g, w) :: r => if g = f then (g, v) :: r else (g, w) :: fput r f v
def fget (fs : List (Nat × D)) (f : Nat) : Option D := match fs with
  | [] => none
  | (g, w) :: r => if f = g then some w else fget r f
def wipe (r : Env) : List Nat → Env
  | [] => r
  | v :: vs => (wipe r vs).set v none

/-! ### loops -/
def enumD : Nat → List D → List D
  | _, [] => []
  | k, x :: xs => .tup [.int k, x] :: enumD (k + 1) xs
def rangeD (lo : Int) (n : Nat) : List D := (List.range n).map fun i => .int (lo + (i : Nat))
def rangeC (lo c : Int) (n : Nat) : List D := (List.range n).map fun i => .int (lo + (i : Nat) * c)
def inB (i : Int) : Prop := -(2 ^ 62) ≤ i ∧ i < 2 ^ 62
/-- turn by turn: what is walked stands still -/
def loopW (st : Hm → Prop) (turn : D → Env → Hm → (Env → Hm → Prop) → Prop) (done : Env → Hm → Prop) : List D → Env → Hm → Prop
  | [], r, m => st m ∧ done r m
  | x :: xs, r, m => st m ∧ turn x r m fun r2 m2 => loopW st turn done xs r2 m2
def compW (p : Nat) (st : Hm → Prop) (turn : D → Hm → PD → (Hm → Prop) → Prop) (done : Hm → Prop) : List D → Hm → Prop
  | [], m => st m ∧ done m
  | x :: xs, m => st m ∧ turn x m (fun y m2 => ∃ acc, m2 p = some (.lst acc) ∧ acc.length < SZ ∧ compW p st turn done xs (up m2 p (.lst (acc ++ [y]))))
      (fun m2 => compW p st turn done xs m2)
def whileW (test : Env → Hm → (Bool → Hm → Prop) → Prop) (body : Env → Hm → (Env → Hm → Prop) → Prop) (done : Env → Hm → Prop) : Nat → Env → Hm → Prop
  | 0, _, _ => False
  | n + 1, r, m => test r m fun b m1 => if b = true then body r m1 fun r2 m2 => whileW test body done n r2 m2 else done r m1

abbrev XD := Nat → Env → Hm → Prop
abbrev CallS := Nat → Nat → List D → Hm → PD → (Nat → Hm → Prop) → Prop
/-- no exception -/
def XF : XD := fun _ _ _ => False
/-- calls by class (0: none) and name; the name __init__ -/
structure Sg where
  C : CallS
  ini : Nat
  fld : Nat → Nat → Bool
  hs : Nat → Nat → Bool
  ex : Nat → Bool
  /-- the handled exception, calls while one is handled, classes of exceptions -/
  hx : Option (Nat × Nat)
  CH : Nat → Nat → CallS
  sub : Nat → Nat → Bool
/-- while the exception at a, of class c, is handled -/
def Sg.hot (g : Sg) (a c : Nat) : Sg := ⟨g.CH a c, g.ini, g.fld, g.hs, fun _ => false, some (a, c), fun _ _ _ _ _ _ _ _ => False, g.sub⟩
def isT (g : Sg) (m : Hm) (x : D) (ts : List Ty) : Option Bool := match ts with
  | [.own k] => (match x with | .exc a c => if g.hx = some (a, c) then some (g.sub c k) else none | _ => none)
  | [.verr] => (match x with | .exc a c => if g.hx = some (a, c) then some true else none | _ => none)
  | ts => tyAny m x ts
/-- the items of a range -/
def rngD (xs : List D) (K : List D → Prop) : Prop := match xs with
  | [.int j] => (-(2 ^ 62) ≤ j ∧ j ≤ 16777216) ∧ K (rangeD 0 j.toNat)
  | [.int i, .int j] => (-(2 ^ 62) ≤ i ∧ i < 2 ^ 62) ∧ (-(2 ^ 62) ≤ j ∧ j < 2 ^ 62) ∧ (j - i).toNat ≤ 16777216 ∧ K (rangeD i (j - i).toNat)
  | _ => False

def walkV (d : D) (m : Hm) (K : List D → (Hm → Prop) → Hm → Prop) : Prop := match d with
  | .tup ds => K ds (fun _ => True) m
  | .lst ds => K ds (fun _ => True) m
  | .str s => K (s.map fun c => .str [c]) (fun _ => True) m
  | .ref a => match m a with
    | some (.lst ds) => K ds (fun m2 => m2 a = some (.lst ds)) m
    | _ => False
  | _ => False
def rngW (xs : List D) (m : Hm) (K : List D → (Hm → Prop) → Hm → Prop) : Prop := match xs with
  | [.int j] => inB j ∧ K (rangeD 0 j.toNat) (fun _ => True) m
  | [.int i, .int j] => inB i ∧ inB j ∧ K (rangeD i (j - i).toNat) (fun _ => True) m
  | [.int i, .int j, .int c] => inB i ∧ inB j ∧ ((c = -1 ∧ K (rangeC i (-1) (i - j).toNat) (fun _ => True) m) ∨ (c = 1 ∧ K (rangeC i 1 (j - i).toNat) (fun _ => True) m))
  | _ => False
def zipD : List D → List D → List D
  | x :: xs, y :: ys => .tup [x, y] :: zipD xs ys
  | _, _ => []

/-- lists of ints out of tuples of ints -/
def tupIs : List D → Option (List (List Int))
  | [] => some []
  | d :: ds => match d, tupIs ds with
    | .tup xs, some r => (match intsOf xs with | some ns => some (ns :: r) | none => none)
    | _, _ => none
def itsOf (m : Hm) : D → Option (List D)
  | .tup ds => some ds
  | .lst ds => some ds
  | .ref a => getL m a
  | _ => none
/-- the values of a dict with tuples for keys -/
def valsOf (m : Hm) (a : Nat) : Option (List D) := match m a with
  | some (.dT kvs) => some (kvs.map fun kv => kv.2)
  | some (.dK []) => some []
  | _ => none
def fuW (f : Fu) (xs : List D) (m : Hm) (P : PD) : Prop := match f, xs with
  | .sortS, [x] => ∃ ds ns, itsOf m x = some ds ∧ intsOf ds = some ns ∧ (unlL ns).length < 64 ∧ ns.length ≤ 4000 ∧ ∀ ms : List Int, ms.Pairwise (· < ·) → (∀ k, k ∈ ms ↔ k ∈ ns) → newO m (.lst (ms.map .int)) P
  | .zipT, [.ref a, .ref b] => ∃ xs ys, m a = some (.lst xs) ∧ m b = some (.lst ys) ∧ xs.length ≤ 100000 ∧ P (.tup (zipD xs ys)) m
  | .lenT, [.ref a] => ∃ ds ks, m a = some (.lst ds) ∧ tupIs ds = some ks ∧ ks.length < 64 ∧ P (.int ((unlL ks).length : Nat)) m
  | _, _ => False

/-- what zip draws from, and what must hold meanwhile -/
def zsrc (m : Hm) : D → Option (List D × (Hm → Prop))
  | .tup ds => some (ds, fun _ => True)
  | .lst ds => some (ds, fun _ => True)
  | .str s => some (s.map fun c => .str [c], fun _ => True)
  | .ref a => match m a with
    | some (.lst ds) => some (ds, fun m2 => m2 a = some (.lst ds))
    | _ => none
  | _ => none
def lenT : Ts → Nat
  | .nil => 0
  | .cons _ ts => lenT ts + 1
mutual
def wpE (g : Sg) : E → XD → Env → Hm → PD → Prop
  | .var i, _, r, m, P => ∃ d, vget r i = some d ∧ P d m
  | .non, _, _, m, P => P .non m
  | .bl b, _, _, m, P => P (.bl b) m
  | .num i, _, _, m, P => P (.int i) m
  | .txt s, _, _, m, P => P (.str s) m
  | .glob _ d, _, _, m, P => P d m
  | .bin op a b, X, r, m, P => wpE g a X r m fun x m1 => wpE g b X r m1 fun y m2 => binW op x y m2 P
  | .neg a, X, r, m, P => wpE g a X r m fun x m1 => match x with | .int i => P (.int (-i)) m1 | _ => False
  | .cmp op a b, X, r, m, P => wpE g a X r m fun x m1 => wpE g b X r m1 fun y m2 => cmpW op x y m2 P
  | .cmp2 op op2 a b c, X, r, m, P => wpE g a X r m fun x m1 => wpE g b X r m1 fun y m2 => cmpW op x y m2 fun z m3 => match z with
      | .bl k => if k = true then wpE g c X r m3 fun w m4 => cmpW op2 y w m4 P else P (.bl false) m3
      | _ => False
  | .and_ es, X, r, m, P => wpAnd g es X r m P
  | .or_ es, X, r, m, P => wpOr g es X r m P
  | .not_ a, X, r, m, P => wpE g a X r m fun x m1 => ∃ b, truth m1 x = some b ∧ P (.bl (!b)) m1
  | .ifx t a b, X, r, m, P => wpE g t X r m fun x m1 => ∃ k, truth m1 x = some k ∧ if k = true then wpE g a X r m1 P else wpE g b X r m1 P
  | .call f es, X, r, m, P => g.hs 0 f = true ∧ wpEs g es X r m fun ds m1 => g.C 0 f ds m1 P fun c m2 => X c r m2
  | .meth k o es, X, r, m, P => wpE g o X r m fun x m1 => match x with
      | .ref a => ∃ c fs, m1 a = some (.ins c fs) ∧ fget fs k = none ∧ g.hs c k = true ∧ wpEs g es X r m1 fun ds m2 => g.C c k (x :: ds) m2 P fun c m2 => X c r m2
      | _ => False
  | .make c es, X, r, m, P => g.hs c g.ini = true ∧ wpEs g es X r m fun ds m1 => ∀ p, m1 p = none → g.C c g.ini (.ref p :: ds) (up m1 p (.ins c [])) (fun d m2 => d = .non ∧ P (.ref p) m2) fun c m2 => X c r m2
  | .bcall f es, X, r, m, P => wpEs g es X r m fun ds m1 => (g.hx = none ∨ (f = .max ∧ ∃ xs, ds = [.tup xs])) ∧ bfW f ds m1 P
  | .bmeth f o es, X, r, m, P => wpE g o X r m fun x m1 => mok f (rk m1 x) = true ∧ wpEs g es X r m1 fun ds m2 => rk m2 x = rk m1 x ∧ bmW f x ds m2 P
  | .isin a ts, X, r, m, P => wpE g a X r m fun x m1 => ∃ b, isT g m1 x ts = some b ∧ P (.bl b) m1
  | .attr f o, X, r, m, P => wpE g o X r m fun x m1 => match x with
      | .ref a => ∃ c fs d, m1 a = some (.ins c fs) ∧ fget fs f = some d ∧ P d m1
      | _ => False
  | .idx a i, X, r, m, P => wpE g a X r m fun x m1 => wpE g i X r m1 fun y m2 => ixW x y m2 P
  | .slc a lo hi, X, r, m, P => wpE g a X r m fun x m1 => wpO g lo X r m1 fun l m2 => wpO g hi X r m2 fun h m3 => slW x l h m3 P
  | .rev a, X, r, m, P => wpE g a X r m fun x m1 => revW x m1 P
  | .tup es, X, r, m, P => wpEs g es X r m fun ds m1 => P (.tup ds) m1
  | .lst es, X, r, m, P => wpEs g es X r m fun ds m1 => newO m1 (.lst ds) P
  | .dctK, _, _, m, P => newO m (.dK []) P
  | .lenS e, X, r, m, P => wpE g e X r m fun x m1 => match x with
      | .ref a => ∃ ds ks, m1 a = some (.lst ds) ∧ kysOf ds = some ks ∧ ks.length ≤ 4000 ∧ P (.int ((unlL ks).length : Nat)) m1
      | _ => False
  | .rngL es, X, r, m, P => wpEs g es X r m fun ds m1 => rngD ds fun xs => newO m1 (.lst xs) P
  | .rngT es, X, r, m, P => wpEs g es X r m fun ds m1 => rngD ds fun xs => P (.tup xs) m1
  | .fus f es, X, r, m, P => wpEs g es X r m fun ds m1 => fuW f ds m1 P
  | .sortV e, X, r, m, P => wpE g e X r m fun x m1 => match x with
      | .ref a => ∃ vs, valsOf m1 a = some vs ∧ sortable vs = true ∧ newO m1 (.lst (vs.mergeSort leD)) P
      | _ => False
  | .maxD e d, X, r, m, P => wpE g e X r m fun x m1 => wpE g d X r m1 fun y m2 => match x, y with
      | .ref a, .int i => ∃ ds ns, m2 a = some (.lst ds) ∧ intsOf ds = some ns ∧ P (.int (if ns = [] then i else maxI ns)) m2
      | _, _ => False
  | .comp elt tg it cond own, X, r, m, P => wpI g it X r m fun xs st m1 => ∀ p, m1 p = none →
      compW p st (fun x m2 Q1 Q2 => wpT g tg x XF (wipe r own) m2 fun r3 m3 =>
        match cond with
        | .no => wpE g elt XF r3 m3 Q1
        | .yes t => wpE g t XF r3 m3 fun y m4 => ∃ b, truth m4 y = some b ∧ if b = true then wpE g elt XF r3 m4 Q1 else Q2 m4)
        (fun m2 => P (.ref p) m2) xs (up m1 p (.lst []))
  | .fstr es, X, r, m, P => wpJ g es [] X r m P
  | .dctD ks es, X, r, m, P => ∀ p, m p = none → wpEs g es X r (up m p (.dK [])) fun ds m1 => m1 p = some (.dK []) ∧ P (.ref p) (up m1 p (.dK (mergeD (ks.zip ds))))
  | .compD elt tg i cond own, X, r, m, P => ∃ a kvs, vget r i = some (.ref a) ∧ m a = some (.dK kvs) ∧ ∀ p, m p = none → compW p (fun _ => True) (fun x m2 Q1 Q2 => wpT g tg x XF (wipe r own) m2 fun r3 m3 =>
      match cond with
      | .no => wpE g elt XF r3 m3 Q1
      | .yes t => wpE g t XF r3 m3 fun y m4 => ∃ b, truth m4 y = some b ∧ if b = true then wpE g elt XF r3 m4 Q1 else Q2 m4)
      (fun m2 => P (.ref p) (up m2 a (.dK kvs))) (kvs.map fun kv => dOf kv.1) (up (up m a (.fz kvs)) p (.lst []))
def wpJ (g : Sg) : Es → List Nat → XD → Env → Hm → PD → Prop
  | .nil, acc, _, _, m, P => P (.str acc) m
  | .cons e es, acc, X, r, m, P => wpE g e X r m fun d m1 => ∃ s, fmtD d = some s ∧ acc.length + s.length ≤ SZ ∧ wpJ g es (acc ++ s) X r m1 P
def wpEs (g : Sg) : Es → XD → Env → Hm → (List D → Hm → Prop) → Prop
  | .nil, _, _, m, P => P [] m
  | .cons e es, X, r, m, P => wpE g e X r m fun d m1 => wpEs g es X r m1 fun ds m2 => P (d :: ds) m2
def wpAnd (g : Sg) : Es → XD → Env → Hm → PD → Prop
  | .nil, _, _, _, _ => False
  | .cons e es, X, r, m, P => wpE g e X r m fun x m1 => match es with
      | .nil => P x m1
      | .cons _ _ => ∃ b, truth m1 x = some b ∧ if b = true then wpAnd g es X r m1 P else P x m1
def wpOr (g : Sg) : Es → XD → Env → Hm → PD → Prop
  | .nil, _, _, _, _ => False
  | .cons e es, X, r, m, P => wpE g e X r m fun x m1 => match es with
      | .nil => P x m1
      | .cons _ _ => ∃ b, truth m1 x = some b ∧ if b = true then P x m1 else wpOr g es X r m1 P
def wpO (g : Sg) : O → XD → Env → Hm → (Option Int → Hm → Prop) → Prop
  | .no, _, _, m, P => P none m
  | .yes e, X, r, m, P => wpE g e X r m fun x m1 => match x with | .int i => P (some i) m1 | _ => False
def wpI (g : Sg) : I → XD → Env → Hm → (List D → (Hm → Prop) → Hm → Prop) → Prop
  | .val e, X, r, m, K => wpE g e X r m fun d m1 => walkV d m1 K
  | .rng es, X, r, m, K => wpEs g es X r m fun ds m1 => rngW ds m1 K
  | .enum e, X, r, m, K => wpE g e X r m fun d m1 => match d with
      | .str _ => False
      | _ => walkV d m1 fun xs st m2 => K (enumD 0 xs) st m2
  | .zip a b, X, r, m, K => wpE g a X r m fun x m1 => wpE g b X r m1 fun y m2 => ∃ xs s1 ys s2, zsrc m2 x = some (xs, s1) ∧ zsrc m2 y = some (ys, s2) ∧ K (zipD xs ys) (fun m3 => s1 m3 ∧ s2 m3) m2
def wpT (g : Sg) : T → D → XD → Env → Hm → (Env → Hm → Prop) → Prop
  | .nm i, d, _, r, m, Q => Q (r.set i (some d)) m
  | .tp ts, d, X, r, m, Q => match d with
      | .tup ds => ds.length = lenT ts ∧ wpTs g ts ds X r m Q
      | .ref p => (match m p with
        | some (.lst ds) => ds.length = lenT ts ∧ wpTs g ts ds X r m Q
        | _ => False)
      | _ => False
  | .at_ f o, d, X, r, m, Q => wpE g o X r m fun x m1 => match x with
      | .ref a => ∃ c fs, m1 a = some (.ins c fs) ∧ g.fld c f = true ∧ fs.length < 1000 ∧ Q r (up m1 a (.ins c (fput fs f d)))
      | _ => False
  | .sb o i, d, X, r, m, Q => wpE g o X r m fun x m1 => wpE g i X r m1 fun y m2 => setW x y d m2 fun m3 => Q r m3
def wpTs (g : Sg) : Ts → List D → XD → Env → Hm → (Env → Hm → Prop) → Prop
  | .nil, ds, _, r, m, Q => match ds with | [] => Q r m | _ => False
  | .cons t ts, ds, X, r, m, Q => match ds with | d :: ds => wpT g t d X r m fun r1 m1 => wpTs g ts ds X r1 m1 Q | [] => False
end

def augW (op : Bop) (x y : D) (P : D → Prop) : Prop := match op, x, y with
  | .add, .int i, .int j => P (.int (i + j))
  | .sub, .int i, .int j => P (.int (i - j))
  | _, _, _ => False
structure K where
  nx : Env → Hm → Prop
  rt : PD
  bk : Env → Hm → Prop
  ct : Env → Hm → Prop
def testW (g : Sg) (e : E) (X : XD) (r : Env) (m : Hm) (P : Bool → Hm → Prop) : Prop := wpE g e X r m fun x m1 => ∃ b, truth m1 x = some b ∧ P b m1
mutual
def wpS : Sg → XD → S → Env → Hm → K → Prop
  | g, X, .pass, r, m, Q => Q.nx r m
  | g, X, .ex e, r, m, Q => wpE g e X r m fun _ m1 => Q.nx r m1
  | g, X, .asg t e, r, m, Q => wpE g e X r m fun d m1 => wpT g t d X r m1 Q.nx
  | g, X, .aug t op e, r, m, Q => match t with
      | .nm i => ∃ x, vget r i = some x ∧ wpE g e X r m fun y m1 => augW op x y fun z => Q.nx (r.set i (some z)) m1
      | .at_ f o => wpE g o X r m fun x m1 => match x with
          | .ref a => ∃ c fs d, m1 a = some (.ins c fs) ∧ fget fs f = some d ∧ wpE g e X r m1 fun y m2 => augW op d y fun z =>
              ∃ fs2, m2 a = some (.ins c fs2) ∧ fs2.length < 1000 ∧ Q.nx r (up m2 a (.ins c (fput fs2 f z)))
          | _ => False
      | .sb o i => wpE g o X r m fun x m1 => wpE g i X r m1 fun y m2 => match x with
          | .ref a => ∃ d, dget m2 a y = some (some d) ∧ wpE g e X r m2 fun v m3 => augW op d v fun z => setW x y z m3 fun m4 => Q.nx r m4
          | _ => False
      | .tp _ => False
  | g, X, .ife c a b, r, m, Q => testW g c X r m fun k m1 => if k = true then wpSs g X a r m1 Q else wpSs g X b r m1 Q
  | g, X, .fr t it b, r, m, Q => wpI g it X r m fun xs st m1 =>
      loopW st (fun x r2 m2 nx => wpT g t x X r2 m2 fun r3 m3 => wpSs g X b r3 m3 { nx := nx, rt := Q.rt, bk := Q.nx, ct := nx }) Q.nx xs r m1
  | g, X, .whl c b, r, m, Q => ∃ n, whileW (testW g c X) (fun r2 m2 nx => wpSs g X b r2 m2 { nx := nx, rt := Q.rt, bk := Q.nx, ct := nx }) Q.nx n r m
  | g, X, .brk, r, m, Q => Q.bk r m
  | g, X, .cnt, r, m, Q => Q.ct r m
  | g, X, .ret e, r, m, Q => wpE g e X r m Q.rt
  | g, X, .ret0, _, m, Q => Q.rt .non m
  | g, X, .rais c, r, m, _ => g.ex c = true ∧ X c r m
  | g, X, .nev, _, _, _ => False
  | g, X, .tr b i c s o, r, m, Q => wpSs g (fun k r1 m1 => if g.sub k c = true then (∀ a, wpSs (g.hot a k) XF s (r1.set i (some (.exc a k))) m1
      { nx := fun r2 m2 => Q.nx (r2.set i none) m2, rt := Q.rt, bk := fun r2 m2 => Q.bk (r2.set i none) m2, ct := fun r2 m2 => Q.ct (r2.set i none) m2 }) else X k r1 m1) b r m
      { Q with nx := fun r1 m1 => wpSs g X o r1 m1 Q }
def wpSs : Sg → XD → Ss → Env → Hm → K → Prop
  | g, X, .nil, r, m, Q => Q.nx r m
  | g, X, .cons s ss, r, m, Q => wpS g X s r m { Q with nx := fun r1 m1 => wpSs g X ss r1 m1 Q }
end
structure Fn where
  params : Nat
  slots : Nat
  body : Ss
structure Tab where
  F : Nat → Nat → Option Fn
  ini : Nat
  fld : Nat → Nat → Bool
  ex : Nat → Bool
  sub : Nat → Nat → Bool
def start (fn : Fn) (ds : List D) : Env := ds.map some ++ List.replicate (fn.slots - ds.length) none
def retK (P : PD) : K := { nx := fun _ m => P .non m, rt := P, bk := fun _ _ => False, ct := fun _ _ => False }
/-- calls while the exception h is handled: they let nothing out -/
def callH (t : Tab) (h : Nat × Nat) : Nat → CallS
  | 0 => fun _ _ _ _ _ _ => False
  | n + 1 => fun c f ds m P _ => ∃ fn, t.F c f = some fn ∧ ds.length = fn.params ∧ wpSs ⟨callH t h n, t.ini, t.fld, fun c k => (t.F c k).isSome, fun _ => false, some h, fun _ _ _ _ _ _ _ _ => False, t.sub⟩ XF fn.body (start fn ds) m (retK P)
def callN (t : Tab) : Nat → CallS
  | 0 => fun _ _ _ _ _ _ => False
  | n + 1 => fun c f ds m P X => ∃ fn, t.F c f = some fn ∧ ds.length = fn.params ∧ wpSs ⟨callN t n, t.ini, t.fld, fun c k => (t.F c k).isSome, t.ex, none, fun a c => callH t (a, c) n, t.sub⟩ (fun c _ m2 => X c m2) fn.body (start fn ds) m (retK P)
/-- a depth, and the exception that is handled -/
structure Dn where
  n : Nat
  hx : Option (Nat × Nat)
def callD (t : Tab) (d : Dn) : CallS := match d.hx with
  | none => callN t d.n
  | some h => callH t h d.n
def callX (t : Tab) (d : Dn) : Nat → Nat → CallS := match d.hx with
  | none => fun a c => callH t (a, c) d.n
  | some _ => fun _ _ _ _ _ _ _ _ => False
def sgh (t : Tab) (d : Dn) : Sg := ⟨callD t d, t.ini, t.fld, fun c k => (t.F c k).isSome, fun c => d.hx.isNone && t.ex c, d.hx, callX t d, t.sub⟩
def sg (t : Tab) (n : Nat) : Sg := ⟨callN t n, t.ini, t.fld, fun c k => (t.F c k).isSome, t.ex, none, fun a c => callH t (a, c) n, t.sub⟩
def sgH (t : Tab) (n : Nat) (h : Nat × Nat) : Sg := ⟨callH t h n, t.ini, t.fld, fun c k => (t.F c k).isSome, fun _ => false, some h, fun _ _ _ _ _ _ _ _ => False, t.sub⟩
end Mn
end

section
set_option Elab.async false
set_option linter.all false
set_option maxRecDepth 100000
set_option maxHeartbeats 4000000
/-! Mn, part B: data and cells against the layer's values and heap; operators by values. -/
namespace Mn
open PySem PySem.Spec PyProof.Rows L2

def toS (s : List Nat) : Str := ⟨s.toArray⟩
theorem toS_len (s : List Nat) : (toS s).length = s.length := by simp [toS, Str.length]
theorem toS_list (s : List Nat) : (toS s).cps.toList = s := by simp [toS]
theorem SZ_line {n : Nat} (h : n ≤ SZ) : n ≤ sizeLine := by rw [sizeLine_eq]; exact h
theorem SZ_lt {n : Nat} (h : n < SZ) : n < sizeLine := by rw [sizeLine_eq]; exact h
/-- a tuple that has no dict of its own -/
abbrev SqU (F : PySem.W.Frag) (H : Hp) (a : Addr) (vs : List V) : Prop := Solid F H a vs
theorem SqU.sq {F : PySem.W.Frag} {H : Hp} {a : Addr} {vs : List V} (h : SqU F H a vs) : SqT F H a vs := by
  rcases h with ⟨o, h, _⟩ | ⟨o, its, n, h1, h2, _, h3⟩
  · exact .inl (.inr ⟨o, h⟩)
  · exact .inr ⟨o, its, n, h1, h2, h3⟩
def FzL (F : PySem.W.Frag) (H : Hp) (a : Addr) (vs : List V) : Prop := (∃ o, H a = some (.frz o (.lst vs))) ∨
  ∃ (o : Obj) (its : Array Value) (n : Nat), F.lookup a = some o ∧ o.cls = .type "list" ∧ o.dict = none ∧ o.data = .seq its n ∧ its.size ≤ sizeLine ∧ Vals vs its.toList
theorem FzL.sq {F : PySem.W.Frag} {H : Hp} {a : Addr} {vs : List V} (h : FzL F H a vs) : SqL F H a vs := by
  rcases h with ⟨o, h⟩ | h
  · exact .inl (.inr ⟨o, h⟩)
  · exact .inr h
/-- what stays: tuples, locked objects -/
structure Kp (H H2 : Hp) : Prop where
  tu : ∀ b xs, H b = some (.tup xs) → H2 b = some (.tup xs)
  fz : ∀ b o u, H b = some (.frz o u) → H2 b = some (.frz o u)
theorem Kp.refl (H : Hp) : Kp H H := ⟨fun _ _ h => h, fun _ _ _ h => h⟩
theorem Kp.trans {H H1 H2 : Hp} (a : Kp H H1) (b : Kp H1 H2) : Kp H H2 := ⟨fun c x h => b.tu c x (a.tu c x h), fun c x u h => b.fz c x u (a.fz c x u h)⟩
theorem Kp.new {H : Hp} {p : Addr} {o : HO} (hp : H p = none) : Kp H (upd H p o) :=
  ⟨fun b xs h => by rw [upd_ne (ne_of_none h hp)]; exact h, fun b x u h => by rw [upd_ne (ne_of_none h hp)]; exact h⟩
/-- an object that is no tuple and not locked is written -/
def Wr : HO → Prop
  | .tup _ => False
  | .frz _ _ => False
  | _ => True
theorem Kp.over {H : Hp} {p : Addr} {o u : HO} (hp : H p = some u) (hw : Wr u) : Kp H (upd H p o) :=
  ⟨fun b xs h => by
    rw [upd_ne (ne_of h hp (by rintro rfl; exact hw))]; exact h, fun b x w h => by
    rw [upd_ne (ne_of h hp (by rintro rfl; exact hw))]; exact h⟩
/-- what stays where a dict is unlocked -/
structure Kw (H H2 : Hp) : Prop where
  fz : ∀ b o u, (∀ kvs, u ≠ .dK kvs) → H b = some (.frz o u) → H2 b = some (.frz o u)
theorem SqU.mono {F : PySem.W.Frag} {H H2 : Hp} {a : Addr} {vs : List V} (h : SqU F H a vs) (k : Kp H H2) : SqU F H2 a vs := by
  rcases h with ⟨o, h, d⟩ | h
  · exact .inl ⟨o, k.fz _ _ _ h, d⟩
  · exact .inr h
theorem FzL.mono {F : PySem.W.Frag} {H H2 : Hp} {a : Addr} {vs : List V} (h : FzL F H a vs) (k : Kp H H2) : FzL F H2 a vs := by
  rcases h with ⟨o, h⟩ | h
  · exact .inl ⟨o, k.fz _ _ _ h⟩
  · exact .inr h
mutual
/-- v stands for d -/
inductive Rp (F : PySem.W.Frag) (H : Hp) : D → V → Prop where
  | non : Rp F H .non .non
  | bl (b : Bool) : Rp F H (.bl b) (.bl b)
  | int (i : Int) : Rp F H (.int i) (.int i)
  | str (s : List Nat) : Rp F H (.str s) (.str (toS s))
  | tup {ds : List D} {a : Addr} {vs : List V} : SqU F H a vs → Rps F H ds vs → Rp F H (.tup ds) (.ref a)
  | lst {ds : List D} {a : Addr} {vs : List V} : FzL F H a vs → Rps F H ds vs → Rp F H (.lst ds) (.ref a)
  | ref (a : Addr) : Rp F H (.ref a) (.ref a)
  | exc (a : Addr) (c : Nat) : Rp F H (.exc a c) (.ref a)
inductive Rps (F : PySem.W.Frag) (H : Hp) : List D → List V → Prop where
  | nil : Rps F H [] []
  | cons {d : D} {v : V} {ds : List D} {vs : List V} : Rp F H d v → Rps F H ds vs → Rps F H (d :: ds) (v :: vs)
end
section
variable {F : PySem.W.Frag} {H H2 : Hp}
mutual
theorem Rp.mono (k : Kp H H2) : ∀ {d : D} {v : V}, Rp F H d v → Rp F H2 d v
  | _, _, .non => .non
  | _, _, .bl b => .bl b
  | _, _, .int i => .int i
  | _, _, .str s => .str s
  | _, _, .tup h r => .tup (h.mono k) (Rps.mono k r)
  | _, _, .lst h r => .lst (h.mono k) (Rps.mono k r)
  | _, _, .ref a => .ref a
  | _, _, .exc a c => .exc a c
theorem Rps.mono (k : Kp H H2) : ∀ {ds : List D} {vs : List V}, Rps F H ds vs → Rps F H2 ds vs
  | _, _, .nil => .nil
  | _, _, .cons a b => .cons (Rp.mono k a) (Rps.mono k b)
end
theorem SqU.monoW {F : PySem.W.Frag} {H H2 : Hp} {a : Addr} {vs : List V} (h : SqU F H a vs) (k : Kw H H2) : SqU F H2 a vs := by
  rcases h with ⟨o, h, d⟩ | h
  · exact .inl ⟨o, k.fz _ _ _ (fun _ z => nomatch z) h, d⟩
  · exact .inr h
theorem FzL.monoW {F : PySem.W.Frag} {H H2 : Hp} {a : Addr} {vs : List V} (h : FzL F H a vs) (k : Kw H H2) : FzL F H2 a vs := by
  rcases h with ⟨o, h⟩ | h
  · exact .inl ⟨o, k.fz _ _ _ (fun _ z => nomatch z) h⟩
  · exact .inr h
mutual
theorem Rp.monoW (k : Kw H H2) : ∀ {d : D} {v : V}, Rp F H d v → Rp F H2 d v
  | _, _, .non => .non
  | _, _, .bl b => .bl b
  | _, _, .int i => .int i
  | _, _, .str s => .str s
  | _, _, .tup h r => .tup (h.monoW k) (Rps.monoW k r)
  | _, _, .lst h r => .lst (h.monoW k) (Rps.monoW k r)
  | _, _, .ref a => .ref a
  | _, _, .exc a c => .exc a c
theorem Rps.monoW (k : Kw H H2) : ∀ {ds : List D} {vs : List V}, Rps F H ds vs → Rps F H2 ds vs
  | _, _, .nil => .nil
  | _, _, .cons a b => .cons (Rp.monoW k a) (Rps.monoW k b)
end
theorem Rps.length : ∀ {ds : List D} {vs : List V}, Rps F H ds vs → ds.length = vs.length
  | _, _, .nil => rfl
  | _, _, .cons _ b => by simp [Rps.length b]
theorem Rps.get : ∀ {ds : List D} {vs : List V} {i : Nat} {d : D}, Rps F H ds vs → ds[i]? = some d → ∃ v, vs[i]? = some v ∧ Rp F H d v
  | _, _, _, _, .nil, e => by simp at e
  | _, _, 0, _, .cons a b, e => by simp at e; subst e; exact ⟨_, rfl, a⟩
  | _, _, i + 1, d, .cons a b, e => by
    obtain ⟨v, h1, h2⟩ := Rps.get (i := i) (d := d) b (by simpa using e)
    exact ⟨v, by simpa using h1, h2⟩
theorem Rps.append : ∀ {ds es : List D} {vs ws : List V}, Rps F H ds vs → Rps F H es ws → Rps F H (ds ++ es) (vs ++ ws)
  | _, _, _, _, .nil, s => s
  | _, _, _, _, .cons a b, s => .cons a (Rps.append b s)
theorem Rps.take : ∀ {ds : List D} {vs : List V} (n : Nat), Rps F H ds vs → Rps F H (ds.take n) (vs.take n)
  | _, _, 0, _ => .nil
  | _, _, _ + 1, .nil => .nil
  | _, _, n + 1, .cons a b => .cons a (Rps.take n b)
theorem Rps.drop : ∀ {ds : List D} {vs : List V} (n : Nat), Rps F H ds vs → Rps F H (ds.drop n) (vs.drop n)
  | _, _, 0, r => r
  | _, _, _ + 1, .nil => .nil
  | _, _, n + 1, .cons _ b => Rps.drop n b
theorem Rps.set {d : D} {v : V} (r : Rp F H d v) : ∀ {ds : List D} {vs : List V} (i : Nat), Rps F H ds vs → Rps F H (ds.set i d) (vs.set i v)
  | _, _, _, .nil => .nil
  | _, _, 0, .cons _ b => .cons r b
  | _, _, i + 1, .cons a b => .cons a (Rps.set r i b)
theorem Rps.eraseIdx : ∀ {ds : List D} {vs : List V} (i : Nat), Rps F H ds vs → Rps F H (ds.eraseIdx i) (vs.eraseIdx i)
  | _, _, _, .nil => .nil
  | _, _, 0, .cons _ b => b
  | _, _, i + 1, .cons a b => .cons a (Rps.eraseIdx i b)
theorem Rps.dropLast {ds : List D} {vs : List V} (r : Rps F H ds vs) : Rps F H ds.dropLast vs.dropLast := by
  rw [List.dropLast_eq_take, List.dropLast_eq_take, r.length]
  exact r.take _
theorem Rps.reverse : ∀ {ds : List D} {vs : List V}, Rps F H ds vs → Rps F H ds.reverse vs.reverse
  | _, _, .nil => .nil
  | _, _, .cons a b => by
    rw [List.reverse_cons, List.reverse_cons]
    exact (Rps.reverse b).append (.cons a .nil)
theorem Rps.rep {ds : List D} {vs : List V} (h : Rps F H ds vs) : ∀ k : Nat, Rps F H (repD ds k) (List.replicate k vs).flatten
  | 0 => .nil
  | k + 1 => by
    unfold repD
    rw [List.replicate_succ, List.replicate_succ, List.flatten_cons, List.flatten_cons]
    exact h.append (Rps.rep h k)
theorem Rps.ints : ∀ {ds : List D} {vs : List V} {ns : List Int}, Rps F H ds vs → intsOf ds = some ns → vs = ns.map V.int
  | _, _, ns, .nil, e => by simp [intsOf] at e; subst e; rfl
  | d :: ds, _, ns, .cons a b, e => by
    cases d with
    | int i =>
      simp only [intsOf] at e
      cases q : intsOf ds with
      | none => rw [q] at e; cases e
      | some r =>
        rw [q] at e
        cases e
        cases a
        rw [List.map_cons, Rps.ints b q]
    | _ => simp [intsOf] at e
theorem Rps.bls : ∀ {ds : List D} {vs : List V} {ns : List Bool}, Rps F H ds vs → blsOf ds = some ns → vs = ns.map V.bl
  | _, _, ns, .nil, e => by simp [blsOf] at e; subst e; rfl
  | d :: ds, _, ns, .cons a b, e => by
    cases d with
    | bl i =>
      simp only [blsOf] at e
      cases q : blsOf ds with
      | none => rw [q] at e; cases e
      | some r =>
        rw [q] at e
        cases e
        cases a
        rw [List.map_cons, Rps.bls b q]
    | _ => simp [blsOf] at e
theorem Rps.strs : ∀ {ds : List D} {vs : List V} {ns : List (List Nat)}, Rps F H ds vs → strsOf ds = some ns → vs = ns.map fun s => V.str (toS s)
  | _, _, ns, .nil, e => by simp [strsOf] at e; subst e; rfl
  | d :: ds, _, ns, .cons a b, e => by
    cases d with
    | str i =>
      simp only [strsOf] at e
      cases q : strsOf ds with
      | none => rw [q] at e; cases e
      | some r =>
        rw [q] at e
        cases e
        cases a
        rw [List.map_cons, Rps.strs b q]
    | _ => simp [strsOf] at e
theorem Rps.mkInts : ∀ (ns : List Int), Rps F H (ns.map D.int) (ns.map V.int)
  | [] => .nil
  | n :: ns => .cons (.int n) (Rps.mkInts ns)
end

/-! ### cells -/
/-- names and classes of the text -/
structure Lk where
  F : PySem.W.Frag
  w : World
  nm : Nat → Str
  cls : Nat → Option Addr
  ok : Nat → Bool
  fld : Nat → Nat → Bool
def kyV : Ky → Key
  | .inl i => .inl i
  | .inr s => .inr (toS s)
def KvR {κ ι : Type} (F : PySem.W.Frag) (H : Hp) (inj : κ → ι) : List (κ × D) → List (ι × V) → Prop := Paired fun p q => q.1 = inj p.1 ∧ Rp F H p.2 q.2
theorem KvR.mono {κ ι : Type} {F : PySem.W.Frag} {H H2 : Hp} {inj : κ → ι} {a : List (κ × D)} {b : List (ι × V)} (r : KvR F H inj a b) (k : Kp H H2) : KvR F H2 inj a b :=
  Paired.mapP r fun _ _ h => ⟨h.1, h.2.mono k⟩
mutual
def nk : D → NestedKey
  | .int i => .num i
  | .str s => .text (toS s)
  | .tup ds => .tup (nks ds)
  | _ => .none
def nks : List D → List NestedKey
  | [] => []
  | d :: ds => nk d :: nks ds
end
def nkT (ks : List D) : NestedKey := .tup (nks ks)
/-- keys and values of a dict with tuples for keys -/
def KeyR (F : PySem.W.Frag) (H : Hp) (kv : List D × D) (x : XE) : Prop := x.1 = nkT kv.1 ∧ D.keyds 7 kv.1 = true ∧ Rp F H (.tup kv.1) (.ref x.2.1) ∧ Rp F H kv.2 x.2.2
abbrev DtR (F : PySem.W.Frag) (H : Hp) : List (List D × D) → List XE → Prop := Paired (KeyR F H)
theorem DtR.mono {F : PySem.W.Frag} {H H2 : Hp} {a : List (List D × D)} {b : List XE} (r : DtR F H a b) (k : Kp H H2) : DtR F H2 a b := Paired.mapP r fun _ _ h => ⟨h.1, h.2.1, h.2.2.1.mono k, h.2.2.2.mono k⟩
def CellR (L : Lk) (H : Hp) (a : Addr) : MO → Prop
  | .lst ds => ∃ vs, H a = some (.lst vs) ∧ Rps L.F H ds vs
  | .dK kvs => ∃ kws, H a = some (.dK kws) ∧ KvR L.F H kyV kvs kws
  | .dT kvs => ∃ xs, DtAt L.w H a xs ∧ DtR L.F H kvs xs
  | .ins c fs => ∃ C dx gs, L.cls c = some C ∧ H a = some (.ins C dx gs) ∧ KvR L.F H L.nm fs gs ∧ (fs.all fun p => L.ok p.1 && L.fld c p.1) = true
  | .set _ => False
  | .exc _ => False
  | .fz kvs => ∃ od kws, H a = some (.frz od (.dK kws)) ∧ KvR L.F H kyV kvs kws
def Rel (L : Lk) (m : Hm) (H : Hp) : Prop := ∀ a o, m a = some o → CellR L H a o
section
variable {L : Lk} {m : Hm} {H H2 : Hp} {p a : Addr}
theorem up_same {o : MO} : up m p o p = some o := by unfold up; rw [if_pos rfl]
theorem up_ne {o : MO} (h : a ≠ p) : up m p o a = m a := by unfold up; rw [if_neg h]
theorem CellR.there {o : MO} (h : CellR L H a o) : H a ≠ none := by
  cases o with
  | lst ds => obtain ⟨_, e, _⟩ := h; rw [e]; simp
  | dK ds => obtain ⟨_, e, _⟩ := h; rw [e]; simp
  | dT ds => obtain ⟨_, e, _⟩ := h; rw [e.on]; simp
  | ins c fs => obtain ⟨_, _, _, _, e, _⟩ := h; rw [e]; simp
  | set ds => exact h.elim
  | exc ds => exact h.elim
  | fz ds => obtain ⟨_, _, e, _⟩ := h; rw [e]; simp
theorem CellR.other {o : MO} (h : CellR L H a o) (k : Kp H H2) (e : H2 a = H a) : CellR L H2 a o := by
  cases o with
  | lst ds => obtain ⟨vs, q, r⟩ := h; exact ⟨vs, e.trans q, r.mono k⟩
  | dK ds => obtain ⟨vs, q, r⟩ := h; exact ⟨vs, e.trans q, r.mono k⟩
  | dT ds => obtain ⟨vs, q, r⟩ := h; exact ⟨vs, ⟨e.trans q.on, q.sys, q.nd, q.sz⟩, r.mono k⟩
  | ins c fs => obtain ⟨C, dx, gs, hc, q, r, z⟩ := h; exact ⟨C, dx, gs, hc, e.trans q, r.mono k, z⟩
  | set ds => exact h.elim
  | exc ds => exact h.elim
  | fz ds => obtain ⟨od, vs, q, r⟩ := h; exact ⟨od, vs, e.trans q, r.mono k⟩
theorem KvR.monoW {κ ι : Type} {F : PySem.W.Frag} {H H2 : Hp} {inj : κ → ι} {a : List (κ × D)} {b : List (ι × V)} (r : KvR F H inj a b) (k : Kw H H2) : KvR F H2 inj a b :=
  Paired.mapP r fun _ _ h => ⟨h.1, h.2.monoW k⟩
theorem CellR.otherW {o : MO} (h : CellR L H a o) (k : Kw H H2) (e : H2 a = H a) : CellR L H2 a o := by
  cases o with
  | lst ds => obtain ⟨vs, q, r⟩ := h; exact ⟨vs, e.trans q, r.monoW k⟩
  | dK ds => obtain ⟨vs, q, r⟩ := h; exact ⟨vs, e.trans q, r.monoW k⟩
  | dT ds => obtain ⟨vs, q, r⟩ := h; exact ⟨vs, ⟨e.trans q.on, q.sys, q.nd, q.sz⟩, Paired.mapP r fun _ _ h => ⟨h.1, h.2.1, h.2.2.1.monoW k, h.2.2.2.monoW k⟩⟩
  | ins c fs => obtain ⟨C, dx, gs, hc, q, r, z⟩ := h; exact ⟨C, dx, gs, hc, e.trans q, r.monoW k, z⟩
  | set ds => exact h.elim
  | exc ds => exact h.elim
  | fz ds => obtain ⟨od, vs, q, r⟩ := h; exact ⟨od, vs, e.trans q, r.monoW k⟩
/-- a dict locked, unlocked -/
theorem Kp.lock {p : Addr} {o : HO} {kws : List (Key × V)} (hp : H p = some (.dK kws)) : Kp H (upd H p o) := .over hp trivial
theorem Kw.unlock {p : Addr} {od : Obj} {kws : List (Key × V)} {o : HO} (hp : H p = some (.frz od (.dK kws))) : Kw H (upd H p o) := ⟨fun b x u hn h => by
  rw [upd_ne fun z => by subst z; rw [hp] at h; cases h; exact hn kws rfl]
  exact h⟩
theorem Kp.through {p : Addr} {od : Obj} {kws : List (Key × V)} {o : HO} (hp : H p = some (.dK kws)) (k : Kp (upd H p (.frz od (.dK kws))) H2) : Kp H (upd H2 p o) :=
  ⟨fun b xs h => by
    have ne : b ≠ p := fun z => by subst z; rw [hp] at h; cases h
    rw [upd_ne ne]
    exact k.tu b xs (by rw [upd_ne ne]; exact h), fun b x u h => by
    have ne : b ≠ p := fun z => by subst z; rw [hp] at h; cases h
    rw [upd_ne ne]
    exact k.fz b x u (by rw [upd_ne ne]; exact h)⟩
theorem Rel.unlock {m2 : Hm} {p : Addr} {od : Obj} {kvs : List (Ky × D)} {kws : List (Key × V)} (rel : Rel L m2 H2) (hp : H2 p = some (.frz od (.dK kws))) (r : KvR L.F H2 kyV kvs kws) : Rel L (up m2 p (.dK kvs)) (upd H2 p (.dK kws)) := fun a q e => by
  by_cases h : a = p
  · subst h; rw [up_same] at e; cases e; exact ⟨kws, upd_same, r.monoW (.unlock hp)⟩
  · rw [up_ne h] at e
    exact (rel a q e).otherW (.unlock hp) (upd_ne h)
theorem Rel.lock {p : Addr} {od : Obj} {kvs : List (Ky × D)} {kws : List (Key × V)} (rel : Rel L m H) (hp : H p = some (.dK kws)) (r : KvR L.F H kyV kvs kws) : Rel L (up m p (.fz kvs)) (upd H p (.frz od (.dK kws))) := fun a q e => by
  have k : Kp H (upd H p (.frz od (.dK kws))) := .lock hp
  by_cases h : a = p
  · subst h; rw [up_same] at e; cases e; exact ⟨od, kws, upd_same, r.mono k⟩
  · rw [up_ne h] at e
    exact (rel a q e).other k (upd_ne h)
theorem Rel.le {m2 : Hm} (r : Rel L m H) (h : Le m2 m) : Rel L m2 H := fun a o e => r a o (h a o e)
theorem Rel.free (r : Rel L m H) (hp : H p = none) : m p = none := by
  cases e : m p with
  | none => rfl
  | some o => exact absurd hp (r p o e).there
theorem Rel.hide {o : HO} (r : Rel L m H) (hp : H p = none) : Rel L m (upd H p o) := fun a q e =>
  (r a q e).other (.new hp) (upd_ne fun z => (r a q e).there (by rw [z]; exact hp))
theorem Rel.put {o : MO} {u : HO} (r : Rel L m H) (k : Kp H (upd H p u)) (c : CellR L (upd H p u) p o) : Rel L (up m p o) (upd H p u) := fun a q e => by
  by_cases h : a = p
  · subst h; rw [up_same] at e; cases e; exact c
  · rw [up_ne h] at e
    exact (r a q e).other k (upd_ne h)
theorem Le.refl (m : Hm) : Le m m := fun _ _ h => h
end
/-- what is wanted, at the layer's level -/
def Kt (L : Lk) (H : Hp) (P : PD) (Q : VK) : Prop := ∀ d m v H2, P d m → Rp L.F H2 d v → Rel L m H2 → Kp H H2 → Q v H2
section
variable {L : Lk} {m : Hm} {H H2 : Hp} {P : PD} {Q : VK}
theorem Kt.mono (q : Kt L H P Q) (k : Kp H H2) : Kt L H2 P Q := fun d m v H3 h r rel k3 => q d m v H3 h r rel (k.trans k3)
theorem Kt.here {d : D} {v : V} (q : Kt L H P Q) (h : P d m) (r : Rp L.F H d v) (rel : Rel L m H) : Q v H := q d m v H h r rel (.refl H)
/-- a new tuple -/
theorem Kt.tup {ds : List D} {vs : List V} (q : Kt L H P Q) (h : P (.tup ds) m) (r : Rps L.F H ds vs) (rel : Rel L m H) : NewT H vs Q := fun p o hp hd =>
  q _ _ _ _ h (.tup (.inl ⟨o, upd_same, hd⟩) (r.mono (.new hp))) (rel.hide hp) (.new hp)
theorem Kt.lst {ds : List D} {vs : List V} {p : Addr} (q : Kt L H P Q) (h : newO m (.lst ds) P) (r : Rps L.F H ds vs) (rel : Rel L m H) (hp : H p = none) : Q (.ref p) (upd H p (.lst vs)) :=
  q _ _ _ _ (h p (rel.free hp)) (.ref p) (rel.put (.new hp) ⟨vs, upd_same, r.mono (.new hp)⟩) (.new hp)
/-- a list changed -/
theorem Rel.lst {ds : List D} {vs ws : List V} {p : Addr} (rel : Rel L m H) (hp : H p = some (.lst ws)) (r : Rps L.F H ds vs) : Rel L (up m p (.lst ds)) (upd H p (.lst vs)) :=
  rel.put (.over hp trivial) ⟨vs, upd_same, r.mono (.over hp trivial)⟩
end

/-! ### binary operators -/
section
variable {X : Cx} {L : Lk} {m : Hm} {H : Hp} {P : PD} {Q : VK} {x y : D} {v u : V}
def rAddB : R2 := fun x y H Q => (∃ i k, x = .int i ∧ y = .bl k ∧ Q (.int (i + b2i k)) H) ∨ ∃ k i, x = .bl k ∧ y = .int i ∧ Q (.int ((if k = true then (1 : Int) else 0) + i)) H
theorem op_add_bi : OpR X (binaryOp .Add) (fun x y H Q => ∃ k i, x = .bl k ∧ y = .int i ∧ Q (.int ((if k = true then (1 : Int) else 0) + i)) H) := by
  intro pins s σ H x y v u Q I rx ry h
  obtain ⟨k, i, rfl, rfl, q⟩ := h
  obtain ⟨t, rfl⟩ := ry
  cases rx
  exact PySem.IntBool.add_bool_int ⟨.int _, H, I.tok _, ⟨_, rfl⟩, q⟩
theorem op_sub_bi : OpR X (binaryOp .Sub) (fun x y H Q => ∃ k i, x = .bl k ∧ y = .int i ∧ Q (.int ((if k = true then (1 : Int) else 0) - i)) H) := by
  intro pins s σ H x y v u Q I rx ry h
  obtain ⟨k, i, rfl, rfl, q⟩ := h
  obtain ⟨t, rfl⟩ := ry
  cases rx
  exact PySem.IntBool.sub_bool_int ⟨.int _, H, I.tok _, ⟨_, rfl⟩, q⟩
def rAddU (F : PySem.W.Frag) : R2 := fun x y H Q => rI0 (fun i j => .int (i + j)) x y H Q ∨ (∃ i j, x = .str i ∧ y = .str j ∧ i.length + j.length ≤ sizeLine ∧ Q (.str (i ++ j)) H) ∨ rCatZ F x y H Q ∨ rCat x y H Q ∨ rAddB x y H Q
theorem op_addU : OpR X (binaryOp .Add) (rAddU X.K) := op_add.or (op_add_str.or (op_catZ.or (op_cat.or (op_add_ib.or op_add_bi))))
def rSubU : R2 := fun x y H Q => rI0 (fun i j => .int (i - j)) x y H Q ∨ ∃ k i, x = .bl k ∧ y = .int i ∧ Q (.int ((if k = true then (1 : Int) else 0) - i)) H
theorem op_subU : OpR X (binaryOp .Sub) rSubU := op_sub.or op_sub_bi
theorem fold_rep (s : List Nat) : ∀ (n : Nat) (acc : List Nat), (List.replicate n s.toArray).foldl (· ++ ·) acc.toArray = (acc ++ (List.replicate n s).flatten).toArray
  | 0, acc => by simp
  | n + 1, acc => by
    rw [List.replicate_succ, List.foldl_cons, List.replicate_succ, List.flatten_cons, ← List.append_assoc, ← fold_rep s n (acc ++ s)]
    simp
def rRepS : R2 := fun x y H Q => ∃ s k, x = .str (toS s) ∧ y = .int k ∧ (-(2 ^ 63) ≤ k ∧ k < 2 ^ 63) ∧ s.length * k.toNat ≤ SZ ∧ Q (.str (toS (repD s k.toNat))) H
theorem op_repS : OpR X (binaryOp .Mult) rRepS := by
  intro pins st σ H x y v u Q I rx ry h
  obtain ⟨s, k, rfl, rfl, ⟨h1, h2⟩, hz, q⟩ := h
  obtain ⟨t, rfl⟩ := rx
  obtain ⟨t', rfl⟩ := ry
  have hlen : (toS s).length = s.length := toS_len s
  have fin : ∀ (w : Str) (t2 : Tok) (tk : Nat), w = toS (repD s k.toNat) → EP X pins σ Q (.str w t2) { st with toks := tk } := fun w t2 tk e => by
    subst e
    exact ⟨.str _, H, I.tok _, ⟨_, rfl⟩, q⟩
  refine PySem.P.mul_str ?_ (fun h3 h4 => ?_) (fun h3 h4 => ?_) ?_
  · rw [decide_eq_false (by omega), decide_eq_false (by omega)]; rfl
  · rw [hlen]
    have hk : 0 < k := by omega
    have hs : (s.length : Int) * k ≤ 16777216 := by
      have e : ((s.length * k.toNat : Nat) : Int) = (s.length : Int) * k := by rw [Int.natCast_mul, Int.toNat_of_nonneg (by omega)]
      have hz2 : s.length * k.toNat ≤ 16777216 := hz
      omega
    have := (Int.le_ediv_iff_mul_le (a := (s.length : Int)) (b := 2 ^ 63 - 1) hk).mpr (by omega)
    omega
  · rw [hlen]
    exact decide_eq_false (by rw [sizeLine_eq]; have : s.length * k.toNat ≤ 16777216 := hz; omega)
  · have empty : Str.empty = toS [] := rfl
    split
    · have e : k.toNat = 0 := by omega
      refine ⟨?_, fin _ _ _ ?_⟩
      · exact Nat.zero_le _
      · rw [e]; rfl
    · split
      · rename_i h3 h4
        refine fin _ _ _ ?_
        rw [Bool.or_eq_true, beq_iff_eq, beq_iff_eq, hlen] at h4
        rcases h4 with h4 | h4
        · subst h4
          simp [repD]
        · have e : s = [] := by simpa using h4
          subst e
          simp [repD]
      · have e : (⟨(List.replicate k.toNat (toS s).cps).foldl (· ++ ·) #[]⟩ : Str) = toS (repD s k.toNat) := by
          have := fold_rep s k.toNat []
          rw [List.nil_append] at this
          exact congrArg Str.mk this
        refine ⟨?_, fin _ _ _ e⟩
        rw [e, toS_len]
        have e2 : (repD s k.toNat).length = k.toNat * s.length := by simp [repD]
        rw [e2, Nat.mul_comm]
        exact SZ_line hz
def rMulU (F : PySem.W.Frag) : R2 := fun x y H Q => rI CMul (fun i j => .int (i * j)) x y H Q ∨ rRep x y H Q ∨ rI CMulW (fun i j => .int (i * j)) x y H Q ∨ rRepS x y H Q ∨ rRepZ F x y H Q ∨ rRepZ0 F x y H Q
theorem op_mulU : OpR X (binaryOp .Mult) (rMulU X.K) := op_mul.or (op_rep.or (op_mulW.or (op_repS.or (op_repZ.or op_repZ0))))
def rDivU : R2 := fun x y H Q => rI CDivN (fun i j => .int (i.fdiv j)) x y H Q ∨ rI CDivW (fun i j => .int (i / j)) x y H Q
theorem op_fdivU : OpR X (binaryOp .FloorDiv) rDivU := op_fdivN.or op_fdivW
def bopO : Bop → Operator
  | .add => .Add | .sub => .Sub | .mul => .Mult | .fdiv => .FloorDiv | .mod => .Mod | .pow => .Pow
def binR (F : PySem.W.Frag) : Bop → R2
  | .add => rAddU F
  | .sub => rSubU
  | .mul => rMulU F
  | .fdiv => rDivU
  | .mod => rI (fun _ j => j ≠ 0) fun i j => .int (i.fmod j)
  | .pow => rI CPow fun i j => .int (i ^ j.toNat)
theorem binS : ∀ op : Bop, OpR X (binaryOp (bopO op)) (binR X.K op)
  | .add => op_addU
  | .sub => op_subU
  | .mul => op_mulU
  | .fdiv => op_fdivU
  | .mod => op_modN
  | .pow => op_pow
theorem Rp.ints_ (rx : Rp L.F H (.int i) v) : v = .int i := by cases rx; rfl
theorem toS_app (s t : List Nat) : toS s ++ toS t = toS (s ++ t) := by
  show Str.append _ _ = _
  simp [toS, Str.append]
theorem bin_ok {op : Bop} (h : binW op x y m P) (rx : Rp L.F H x v) (ry : Rp L.F H y u) (rel : Rel L m H) (q : Kt L H P Q) : binR L.F op v u H Q := by
  cases op with
  | add =>
    cases rx with
    | int i => cases ry with
      | int j => exact .inl ⟨i, j, rfl, rfl, q.here h (.int _) rel⟩
      | bl k => exact .inr (.inr (.inr (.inr (.inl ⟨i, k, rfl, rfl, by
          have h2 : P (.int (i + (if k then 1 else 0))) m := h
          have e : b2i k = if k then 1 else 0 := by cases k <;> rfl
          rw [e]
          exact q.here h2 (.int _) rel⟩))))
      | _ => exact h.elim
    | bl k => cases ry with
      | int i => exact .inr (.inr (.inr (.inr (.inr ⟨k, i, rfl, rfl, q.here h (.int _) rel⟩))))
      | _ => exact h.elim
    | str s => cases ry with
      | str t => 
        refine .inr (.inl ⟨_, _, rfl, rfl, by rw [toS_len, toS_len]; exact SZ_line h.1, ?_⟩)
        rw [toS_app]
        exact q.here h.2 (.str _) rel
      | _ => exact h.elim
    | @tup ds a vs sa ra => cases ry with
      | @tup es b ws sb rb =>
        refine .inr (.inr (.inl ⟨a, b, vs, ws, rfl, rfl, sa.sq, sb.sq, by rw [← ra.length, ← rb.length]; exact SZ_line h.1, fun e => ?_, fun e1 e2 => ?_, fun e1 e2 => ?_⟩))
        · subst e
          cases ra
          exact q.here h.2 (.tup sb rb) rel
        · subst e2
          cases rb
          have h2 := h.2
          rw [List.append_nil] at h2
          exact q.here h2 (.tup sa ra) rel
        · exact q.tup h.2 (ra.append rb) rel
      | _ => exact h.elim
    | ref a => cases ry with
      | ref b =>
        have h : (match m a, m b with | some (.lst xs), some (.lst ys) => xs.length + ys.length ≤ SZ ∧ newO m (.lst (xs ++ ys)) P | _, _ => False) := h
        split at h
        · rename_i xs ys ea eb
          obtain ⟨vs, ha, ra⟩ := rel _ _ ea
          obtain ⟨ws, hb, rb⟩ := rel _ _ eb
          exact .inr (.inr (.inr (.inl ⟨a, b, vs, ws, rfl, rfl, ha, hb, by rw [← ra.length, ← rb.length]; exact SZ_line h.1, fun p hp => q.lst h.2 (ra.append rb) rel hp⟩)))
        · exact h.elim
      | _ => exact h.elim
    | _ => exact h.elim
  | sub =>
    cases rx with
    | int i => cases ry with
      | int j => exact .inl ⟨i, j, rfl, rfl, q.here h (.int _) rel⟩
      | _ => exact h.elim
    | bl k => cases ry with
      | int i => exact .inr ⟨k, i, rfl, rfl, q.here h (.int _) rel⟩
      | _ => exact h.elim
    | _ => cases h
  | mul =>
    cases rx with
    | str s =>
      cases ry with
      | int k => exact .inr (.inr (.inr (.inl ⟨s, k, rfl, rfl, h.1, h.2.1, q.here h.2.2 (.str _) rel⟩)))
      | _ => exact h.elim
    | int i => cases ry with
      | int j =>
        have h2 := of_decide_eq_true (show decide _ = true from h.1)
        rcases h2 with h2 | h2 | h2
        · exact .inl ⟨i, j, rfl, rfl, .inl h2, q.here h.2 (.int _) rel⟩
        · exact .inl ⟨i, j, rfl, rfl, .inr h2, q.here h.2 (.int _) rel⟩
        · exact .inr (.inr (.inl ⟨i, j, rfl, rfl, h2, q.here h.2 (.int _) rel⟩))
      | _ => exact h.elim
    | ref a => cases ry with
      | int k =>
        have h : (match m a with | some (.lst xs) => (-(2 ^ 63) ≤ k ∧ k < 2 ^ 63) ∧ xs.length * k.toNat ≤ SZ ∧ newO m (.lst (repD xs k.toNat)) P | _ => False) := h
        split at h
        · rename_i xs ea
          obtain ⟨vs, ha, ra⟩ := rel _ _ ea
          exact .inr (.inl ⟨a, k, vs, rfl, rfl, ha, h.1.1, h.1.2, by rw [← ra.length]; exact SZ_line h.2.1, fun p hp => q.lst h.2.2 (ra.rep _) rel hp⟩)
        · exact h.elim
      | _ => exact h.elim
    | @tup ds a vs sa ra => cases ry with
      | int k =>
        obtain ⟨h1, h2, h3, h6, h4, h5⟩ := h
        have h7 : vs ≠ [] := fun e => h1 (by subst e; cases ra; rfl)
        by_cases hk : k ≤ 0
        · have e : k.toNat = 0 := by omega
          rw [e] at h5
          exact .inr (.inr (.inr (.inr (.inr ⟨a, k, vs, rfl, rfl, sa.sq, h7, h2, hk, q.tup h5 .nil rel⟩))))
        · exact .inr (.inr (.inr (.inr (.inl ⟨a, k, vs, rfl, rfl, sa.sq, h7, by omega, h3, by rw [← ra.length]; exact h4, q.tup h5 (ra.rep _) rel⟩))))
      | _ => exact h.elim
    | _ => cases h
  | fdiv =>
    cases rx with
    | int i => cases ry with
      | int j =>
        obtain ⟨⟨h0, h1⟩, h2⟩ := h
        rcases h1 with h1 | h1
        · exact .inl ⟨i, j, rfl, rfl, ⟨h0, h1⟩, q.here h2 (.int _) rel⟩
        · refine .inr ⟨i, j, rfl, rfl, h1, ?_⟩
          have e := Int.fdiv_eq_ediv_of_nonneg i (show 0 ≤ j by omega)
          show Q (.int (i / j)) H
          rw [← e]
          exact q.here h2 (.int _) rel
      | _ => exact h.elim
    | _ => cases h
  | mod =>
    cases rx with
    | int i => cases ry with
      | int j => exact ⟨i, j, rfl, rfl, h.1, q.here h.2 (.int _) rel⟩
      | _ => exact h.elim
    | _ => cases h
  | pow =>
    cases rx with
    | int i => cases ry with
      | int j => exact ⟨i, j, rfl, rfl, h.1, q.here h.2 (.int _) rel⟩
      | _ => exact h.elim
    | _ => cases h
end
end Mn
end

section
set_option Elab.async false
set_option linter.all false
set_option maxRecDepth 100000
set_option maxHeartbeats 4000000
/-! Mn, T9: tuple(zip(xs, ys)) of two lists. -/
namespace Mn
open PySem PySem.Spec PyProof.Rows L2
theorem zip_nolen : typeLookup (.type "zip") "__len__" = pure none := by rw [typeLookup_type, builtinLookup_eq_fast]; kernel_rfl
theorem zip_nohint : typeLookup (.type "zip") "__length_hint__" = pure none := by rw [typeLookup_type, builtinLookup_eq_fast]; kernel_rfl
/-- the first i pairs, gathered -/
structure Gat (H : Hp) (xs ys : List V) (acc : Array Value) (i : Nat) : Prop where
  sz : acc.size = i
  at_ : ∀ j, j < i → ∃ T x y o, acc[j]? = some (.ref T) ∧ xs[j]? = some x ∧ ys[j]? = some y ∧ H T = some (.frz o (.tup [x, y])) ∧ o.dict = none
/-- the zip, its last pair still out -/
def Zst (h : Heap) (z TI TO i1 i2 S : Addr) : Prop := (IsZip h z TI TO .none ∧ ∃ a b, IsPair h TO a b) ∨ ∃ T f oT, IsZipHeld h z TI TO T f ∧ h.get? T = some oT ∧ T ≠ z ∧ T ≠ i1 ∧ T ≠ i2 ∧ T ≠ S
section
variable {X : Cx} {pins : List (Addr × Obj)} {σ : L2.St} {A : Around} {R : Result → Shared → Prop} {z TI TO i1 i2 l1 l2 S : Addr} {xs ys : List V} {us ws : List Value} {res : Value}
abbrev lstObj (acc : Array Value) (c : Nat) : Obj := { cls := .type "list", dict := none, data := .seq acc c, slots := #[] }
theorem zip_gather (hh : A.handled = none) (D : ZipApart z TI TO i1 i2 l1 l2) (sS : S ≠ z ∧ S ≠ TI ∧ S ≠ TO ∧ S ≠ i1 ∧ S ≠ i2 ∧ S ≠ l1 ∧ S ≠ l2) (ru : Vals xs us) (rw_ : Vals ys ws) (hn : min us.length ws.length ≤ 100000) :
    ∀ (left i : Nat) (s : Shared) (H : Hp) (acc : Array Value) (c : Nat), min us.length ws.length - i = left → i ≤ min us.length ws.length → Inv X pins σ H s → (∀ b ∈ [z, TO, i1, i2, S], FpOk X pins H b) →
      s.heap.get? S = some (lstObj acc c) → IsPair s.heap TI (.ref i1) (.ref i2) → s.heap.IsListIter i1 l1 i → s.heap.IsListIter i2 l2 i → s.heap.IsList l1 us.toArray → s.heap.IsList l2 ws.toArray → Zst s.heap z TI TO i1 i2 S → (∃ o, s.heap.get? TO = some o) →
      Gat H xs ys acc i →
      (∀ s2 H2 acc2 c2, Inv X pins σ H2 s2 → s2.heap.get? S = some (lstObj acc2 c2) → Gat H2 xs ys acc2 (min us.length ws.length) → Kp H H2 → (∀ b o, H b = some o → H2 b = some o) → R (.ok (.ret res)) s2) →
      codeAny (model X.prog X.w) A (.builtin "list.extend.loop" ⟨[.ref S, .ref z, res], []⟩) R s := by
  obtain ⟨s1, s2, s3, s4, s5, s6, s7⟩ := sS
  intro left
  induction left with
  | zero =>
    intro i s H acc c hk hi J hf hS hTI h1 h2 hl1 hl2 hz hO g hR
    obtain rfl : i = min us.length ws.length := by omega
    refine codeAny_builtin PySem.F.entry_extend_loop ?_
    rw [Around.under_plainId PySem.F.plain_extend_loop _]
    show wpAny _ A.in1 (pyNext (.ref z) >>= _) _ _ s
    have hh1 : A.in1.handled = none := hh
    have hend : us.toArray[min us.length ws.length]? = none ∨ ws.toArray[min us.length ws.length]? = none := by
      rcases Nat.le_total us.length ws.length with h | h
      · exact .inl (Array.getElem?_eq_none (by rw [Nat.min_eq_left h, List.size_toArray]; exact Nat.le_refl _))
      · exact .inr (Array.getElem?_eq_none (by rw [Nat.min_eq_right h, List.size_toArray]; exact Nat.le_refl _))
    have fin : ∀ h', (∀ c o, c ≠ z → c ≠ TO → c ≠ i1 → c ≠ i2 → s.heap.get? c = some o → h'.get? c = some o) → R (.ok (.ret res)) { s with heap := h' } := fun h' hk => by
      refine hR _ H acc c (J.turnedL (t' := s.toks) (ch := [z, TO, i1, i2, S]) (fun b o hb e => ?_) hf) (hk _ _ s1 s3 s4 s5 hS) g (.refl H) fun _ _ e => e
      simp only [List.mem_cons, List.not_mem_nil, or_false, not_or] at hb
      exact hk b o hb.1 hb.2.1 hb.2.2.1 hb.2.2.2.1 e
    rcases hz with ⟨hz, a, b, hTO⟩ | ⟨T, f, oT, hz, hT, r1, r2, r3, r4⟩
    · exact wpAny_bind (wpAny_pyNext_zip_end hh1 D hz hTI hTO h1 h2 hl1 hl2 hend fun h' hk => wpAny_pure (fin h' fun c o c1 c2 c3 c4 e => hk c o c1 c2 c3 c4 e))
    · exact wpAny_bind (wpAny_pyNext_zip_end_held hh1 D hz hT hTI h1 h2 hl1 hl2 hend fun h' hk => wpAny_pure (fin h' fun c o c1 _ c3 c4 e => hk c o c1 c3 c4 e))
  | succ left ih =>
    intro i s H acc c hk hi J hf hS hTI h1 h2 hl1 hl2 hz hO g hR
    have lt : i < min us.length ws.length := by omega
    have lu : i < us.length := by omega
    have lw : i < ws.length := by omega
    refine codeAny_builtin PySem.F.entry_extend_loop ?_
    rw [Around.under_plainId PySem.F.plain_extend_loop _]
    show wpAny _ A.in1 (pyNext (.ref z) >>= _) _ _ s
    have ex : us.toArray[i]? = some us[i] := by rw [List.getElem?_toArray]; exact List.getElem?_eq_getElem lu
    have ey : ws.toArray[i]? = some ws[i] := by rw [List.getElem?_toArray]; exact List.getElem?_eq_getElem lw
    obtain ⟨x, hx, rx⟩ : ∃ x, xs[i]? = some x ∧ RelV x us[i] := by
      have hl : i < xs.length := by rw [ru.length]; exact lu
      obtain ⟨u, e1, e2⟩ := ru.get (List.getElem?_eq_getElem hl)
      rw [List.getElem?_eq_getElem lu] at e1
      cases e1
      exact ⟨_, List.getElem?_eq_getElem hl, e2⟩
    obtain ⟨y, hy, ry⟩ : ∃ y, ys[i]? = some y ∧ RelV y ws[i] := by
      have hl : i < ys.length := by rw [rw_.length]; exact lw
      obtain ⟨u, e1, e2⟩ := rw_.get (List.getElem?_eq_getElem hl)
      rw [List.getElem?_eq_getElem lw] at e1
      cases e1
      exact ⟨_, List.getElem?_eq_getElem hl, e2⟩
    have below : ∀ {c o}, s.heap.get? c = some o → s.heap.objs.size ≠ c := fun e => Nat.ne_of_gt (Heap.lt_size e)
    have n1 : s.heap.objs.size ≠ i1 := let ⟨_, e, _⟩ := h1; below e
    have n2 : s.heap.objs.size ≠ i2 := let ⟨_, e, _⟩ := h2; below e
    have n3 : s.heap.objs.size ≠ z := by rcases hz with ⟨hz, _⟩ | ⟨_, _, _, hz, _⟩ <;> exact below hz
    have nS : s.heap.objs.size ≠ S := below hS
    have hnone : H s.heap.objs.size = none := J.hok.fresh (Nat.le_refl _)
    -- one turn, whatever the zip did with its own pair
    have turn : ∀ (h' : Heap) (T : Addr) (f : Bool) (oT : Obj), IsZipHeld h' z TI TO T f → h'.get? T = some oT → T ≠ z → T ≠ i1 → T ≠ i2 → T ≠ S → h'.IsListIter i1 l1 (i + 1) → h'.IsListIter i2 l2 (i + 1) → IsPair h' s.heap.objs.size us[i] ws[i] → IsPair h' TI (.ref i1) (.ref i2) →
        h'.IsList l1 us.toArray → h'.IsList l2 ws.toArray → (∃ o, h'.get? TO = some o) → (∀ c o, c ≠ z → c ≠ TO → c ≠ i1 → c ≠ i2 → s.heap.get? c = some o → h'.get? c = some o) →
        wpAny (model X.prog X.w) A.in1 (updateSeq S (·.push (.ref s.heap.objs.size)) >>= fun _ => pure (Fin.again (.builtin "list.extend.loop" ⟨[.ref S, .ref z, res], []⟩)))
          (fun fin s' => match fin with | .done f => R (.ok f) s' | .again c' => c'.quiet = true ∧ codeAny (model X.prog X.w) A c' R s') (fun e s' => R (.error e) s') { s with heap := h' } := by
      intro h' T f oT hz' hT' r1 r2 r3 r4 h1' h2' hP hTI' hl1' hl2' hO' hk'
      have hS' : h'.get? S = some (lstObj acc c) := hk' _ _ s1 s3 s4 s5 hS
      refine wpAny_bind (wpAny_updateSeq hS' rfl ?_ (by rw [g.sz, sizeLine_eq]; omega) (by show (acc.push _).size ≤ sizeLine + 1; rw [Array.size_push, g.sz, sizeLine_eq]; omega))
      have oth : ∀ b o, b ≠ S → h'.get? b = some o → (h'.update S (Obj.mapSeq (·.push (.ref s.heap.objs.size)))).get? b = some o := fun b o hb e => (Heap.get?_update_other _ _ (Ne.symm hb)).trans e
      have hP2 := oth _ _ nS hP
      have J2 : Inv X pins σ (upd H s.heap.objs.size (.frz { cls := .type "tuple", data := .seq #[us[i], ws[i]] } (.tup [x, y]))) { s with heap := h'.update S (Obj.mapSeq (·.push (.ref s.heap.objs.size))) } :=
        J.turnedNew (t' := s.toks) (ch := [z, TO, i1, i2, S]) (fun b o hb e => by
          simp only [List.mem_cons, List.not_mem_nil, or_false, not_or] at hb
          exact oth b o hb.2.2.2.2 (hk' b o hb.1 hb.2.1 hb.2.2.1 hb.2.2.2.1 e)) hf (Nat.le_refl _)
          (solid_obj (its := [us[i], ws[i]]) hP2 rfl rfl (.cons rx (.cons ry .nil)) (by show 2 ≤ sizeLine; rw [sizeLine_eq]; decide))
      have keep : ∀ b o, H b = some o → upd H s.heap.objs.size (.frz { cls := .type "tuple", data := .seq #[us[i], ws[i]] } (.tup [x, y])) b = some o := fun b o e => by
        rw [upd_ne (ne_of_none e hnone)]; exact e
      refine wpAny_pure ⟨plainId_quiet PySem.F.plain_extend_loop _, ih (i + 1) _ _ (acc.push (.ref s.heap.objs.size)) _ (by omega) lt J2 (fun b hb => ?_) (Heap.get?_update_self _ hS' rfl) (oth _ _ (Ne.symm s2) hTI')
        (h1'.at fun o e => oth _ o (Ne.symm s4) e) (h2'.at fun o e => oth _ o (Ne.symm s5) e) (hl1'.at fun o e => oth _ o (Ne.symm s6) e) (hl2'.at fun o e => oth _ o (Ne.symm s7) e)
        (.inr ⟨T, f, oT, oth _ _ (Ne.symm s1) hz', oth _ _ r4 hT', r1, r2, r3, r4⟩) (hO'.imp fun o e => oth _ o (Ne.symm s3) e) ⟨by rw [Array.size_push, g.sz], fun j hj => ?_⟩ fun s5 H5 acc5 c5 J5 e5 g5 k5 old5 => hR s5 H5 acc5 c5 J5 e5 g5 ((Kp.new hnone).trans k5) fun b o e => old5 b o (keep b o e)⟩
      · obtain ⟨q1, q2⟩ := hf b hb
        have hne : b ≠ s.heap.objs.size := by
          simp only [List.mem_cons, List.not_mem_nil, or_false] at hb
          rcases hb with rfl | rfl | rfl | rfl | rfl
          · exact Ne.symm n3
          · obtain ⟨o, e⟩ := hO; exact Ne.symm (below e)
          · exact Ne.symm n1
          · exact Ne.symm n2
          · exact Ne.symm nS
        exact ⟨by rw [upd_ne hne]; exact q1, q2⟩
      · by_cases e : j = i
        · subst e
          exact ⟨s.heap.objs.size, x, y, _, by rw [Array.getElem?_push, if_pos g.sz.symm], hx, hy, upd_same, rfl⟩
        · obtain ⟨T1, x1, y1, o1, a1, a2, a3, a4, a5⟩ := g.at_ j (by omega)
          exact ⟨T1, x1, y1, o1, by rw [Array.getElem?_push, if_neg (by rw [g.sz]; omega)]; exact a1, a2, a3, keep _ _ a4, a5⟩
    rcases hz with ⟨hz, a, b, hTO⟩ | ⟨T, f, oT, hz, hT, r1, r2, r3, r4⟩
    · refine wpAny_bind (wpAny_pyNext_zip_item D hz hTI hTO h1 h2 hl1 hl2 ex ey fun h' a1 a2 a3 a4 a5 a6 hk => ?_)
      exact turn h' s.heap.objs.size false _ a1 a5 n3 n1 n2 nS a3 a4 a5 (hk _ _ D.TIz D.TITO D.TIi1 D.TIi2 hTI) (hl1.at fun o e => hk _ o D.l1z D.l1TO D.l1i1 D.l1i2 e) (hl2.at fun o e => hk _ o D.l2z D.l2TO D.l2i1 D.l2i2 e) ⟨_, a2⟩ hk
    · refine wpAny_bind (wpAny_pyNext_zip_item_held D hz hT hTI h1 h2 hl1 hl2 ex ey fun h' a1 a3 a4 a5 a6 hk => ?_)
      exact turn h' T true oT a1 (hk _ _ r1 r2 r3 hT) r1 r2 r3 r4 a3 a4 a5 (hk _ _ D.TIz D.TIi1 D.TIi2 hTI) (hl1.at fun o e => hk _ o D.l1z D.l1i1 D.l1i2 e) (hl2.at fun o e => hk _ o D.l2z D.l2i1 D.l2i2 e) (hO.imp fun o e => hk _ o D.TOz D.TOi1 D.TOi2 e) fun c o c1 _ c3 c4 e => hk c o c1 c3 c4 e
/-- the pairs of two lists, gathered out of a zip -/
theorem collect_zip {s : Shared} {H : Hp} {E : Value → Shared → Prop} {Q : List Value → Shared → Prop} (hh : A.handled = none) (D : ZipApart z TI TO i1 i2 l1 l2) (ru : Vals xs us) (rw_ : Vals ys ws) (hn : min us.length ws.length ≤ 100000)
    (J : Inv X pins σ H s) (hf : ∀ b ∈ [z, TO, i1, i2], FpOk X pins H b) (hz : IsZip s.heap z TI TO .none) (hTO : ∃ a b, IsPair s.heap TO a b) (hTI : IsPair s.heap TI (.ref i1) (.ref i2)) (h1 : s.heap.IsListIter i1 l1 0) (h2 : s.heap.IsListIter i2 l2 0)
    (hl1 : s.heap.IsList l1 us.toArray) (hl2 : s.heap.IsList l2 ws.toArray)
    (hQ : ∀ s2 H2 acc, Inv X pins σ H2 s2 → Gat H2 xs ys acc (min us.length ws.length) → Kp H H2 → (∀ b o, H b = some o → H2 b = some o) → Q acc.toList s2) :
    wpAny (model X.prog X.w) A (collect (.ref z)) Q E s := by
  have lt : ∀ {c : Addr} {o : Obj}, s.heap.get? c = some o → s.heap.objs.size ≠ c := fun e => Nat.ne_of_gt (Heap.lt_size e)
  have nz : s.heap.objs.size ≠ z := lt hz
  have up : ∀ b o, s.heap.get? b = some o → (s.heap.push (lstObj #[] 0)).get? b = some o := fun b o e => Heap.get?_push_of_some _ e
  unfold collect
  apply wpAny_bind
  apply wpAny_runValue
  apply codeAny_builtin PySem.F.entry_proto_collect
  rw [Around.under_plainId PySem.F.plain_proto_collect _]
  show wpAny _ A.in1 (newList [] >>= fun l => again (.builtin "list.__iadd__" ⟨[l, .ref z], []⟩)) _ _ s
  refine wpAny_bind (wpAny_newObj_type ?_)
  refine wpAny_pure ⟨plainId_quiet PySem.F.plain_list_iadd _, ?_⟩
  apply codeAny_builtin PySem.F.entry_list_iadd
  rw [Around.under_plainId PySem.F.plain_list_iadd _]
  have hT : Shared.TypeIs { s with heap := s.heap.push (lstObj #[] 0) } (.ref z) "zip" := ⟨_, up _ _ hz, rfl⟩
  show wpAny _ A.in1 (Builtin.List.listExtendWith (.ref s.heap.objs.size) (.ref z) (.ref s.heap.objs.size)) _ _ { s with heap := s.heap.push (lstObj #[] 0) }
  unfold Builtin.List.listExtendWith
  apply wpAny_bind
  apply wpAny_typeOf hT
  have g1 : Builtin.List.listSameRef (.ref s.heap.objs.size) (.ref z) = false := by simp [Builtin.List.listSameRef, nz]
  have g2 : (Value.type "zip" == Value.type "list") = false := by decide
  have g3 : (Value.type "zip" == Value.type "tuple") = false := by decide
  simp only [g1, g2, g3, Bool.or_false, Bool.false_eq_true, if_false]
  apply wpAny_bind
  apply wpAny_pyIter_zip (up _ _ hz)
  apply wpAny_bind
  apply wpAny_holding
  unfold Builtin.List.listLengthHint
  apply wpAny_bind
  apply wpAny_specialOf hT zip_nolen
  show wpAny _ A.in1 (specialOf (Value.ref z) (Str.ofString "__length_hint__") >>= _) _ _ _
  apply wpAny_bind
  apply wpAny_specialOf hT zip_nohint
  apply wpAny_pure
  show wpAny _ A.in1 (rule "list.extend.makes-room" >>= fun _ => Builtin.List.listTouch (.ref s.heap.objs.size) >>= fun _ =>
    again (.builtin "list.extend.loop" ⟨[.ref s.heap.objs.size, .ref z, .ref s.heap.objs.size], []⟩)) _ _ _
  apply wpAny_bind
  apply wpAny_rule
  have hS1 : (s.heap.push (lstObj #[] 0)).get? s.heap.objs.size = some (lstObj #[] 0) := Heap.get?_push_size _ rfl
  apply wpAny_bind
  show wpAny _ A.in1 (updateSeq s.heap.objs.size (·.push .none) >>= fun _ => updateSeq s.heap.objs.size (·.pop)) _ _ _
  apply wpAny_bind
  refine wpAny_updateSeq hS1 rfl ?_
  have hS2 := Heap.get?_update_self (Obj.mapSeq (·.push Value.none)) hS1 rfl
  refine wpAny_updateSeq hS2 rfl ?_
  have hS3 := Heap.get?_update_self (Obj.mapSeq (·.pop)) hS2 rfl
  generalize hG : ((s.heap.push (lstObj #[] 0)).update s.heap.objs.size (Obj.mapSeq (·.push Value.none))).update s.heap.objs.size (Obj.mapSeq (·.pop)) = G at hS3
  have oth : ∀ b o, s.heap.get? b = some o → G.get? b = some o := fun b o e => by
    rw [← hG]
    exact (Heap.get?_update_other _ _ (lt e)).trans ((Heap.get?_update_other _ _ (lt e)).trans (up b o e))
  have J1 : Inv X pins σ H { s with heap := G } := J.kept (t' := s.toks) oth
  have nf : ∀ b ∈ [z, TO, i1, i2, s.heap.objs.size], FpOk X pins H b := fun b hb => by
    rcases List.mem_append.mp (show b ∈ [z, TO, i1, i2] ++ [s.heap.objs.size] from hb) with h | h
    · exact hf b h
    · rw [List.mem_singleton.mp h]
      exact J.fpOk (Nat.le_refl _) (J.hok.fresh (Nat.le_refl _))
  have n1 : ∀ {a b : Addr} {k : Nat}, s.heap.IsListIter a b k → s.heap.objs.size ≠ a := fun h => let ⟨_, e, _⟩ := h; lt e
  have n2 : ∀ {a : Addr} {its : Array Value}, s.heap.IsList a its → s.heap.objs.size ≠ a := fun h => let ⟨_, e, _⟩ := h; lt e
  obtain ⟨pa, pb, hTO1⟩ := hTO
  refine wpAny_pure ⟨plainId_quiet PySem.F.plain_extend_loop _, zip_gather (R := fun r s' => _) (A := A) hh D ⟨nz, lt hTI, lt hTO1, n1 h1, n1 h2, n2 hl1, n2 hl2⟩ ru rw_ hn _ 0 { s with heap := G } H #[] _ rfl (Nat.zero_le _) J1 nf hS3 (oth _ _ hTI)
    (h1.at fun o e => oth _ o e) (h2.at fun o e => oth _ o e) (hl1.at fun o e => oth _ o e) (hl2.at fun o e => oth _ o e) (.inl ⟨oth _ _ hz, pa, pb, oth _ _ hTO1⟩) ⟨_, oth _ _ hTO1⟩ ⟨rfl, fun j hj => absurd hj (Nat.not_lt_zero _)⟩ fun s2 H2 acc2 c2 J2 e2 g4 k4 old4 => ?_⟩
  show wpAny _ A (load s.heap.objs.size >>= _) _ _ s2
  exact wpAny_bind (wpAny_load e2 (wpAny_pure (hQ s2 H2 acc2 J2 g4 k4 old4)))
theorem code_tuple_new_zip {s : Shared} {H : Hp} {E Q₁ : Value → Shared → Prop} (hh : A.handled = none) (D : ZipApart z TI TO i1 i2 l1 l2) (ru : Vals xs us) (rw_ : Vals ys ws) (hn : min us.length ws.length ≤ 100000)
    (J : Inv X pins σ H s) (hf : ∀ b ∈ [z, TO, i1, i2], FpOk X pins H b) (hz : IsZip s.heap z TI TO .none) (hTO : ∃ a b, IsPair s.heap TO a b) (hTI : IsPair s.heap TI (.ref i1) (.ref i2)) (h1 : s.heap.IsListIter i1 l1 0) (h2 : s.heap.IsListIter i2 l2 0)
    (hl1 : s.heap.IsList l1 us.toArray) (hl2 : s.heap.IsList l2 ws.toArray)
    (hQ : ∀ s2 H2 acc, Inv X pins σ H2 s2 → Gat H2 xs ys acc (min us.length ws.length) → Kp H H2 → (∀ b o, H b = some o → H2 b = some o) → Q₁ (.ref s2.heap.objs.size) { s2 with heap := s2.heap.push { cls := .type "tuple", data := .seq acc } }) :
    codeAny (model X.prog X.w) A (.call (.builtin "tuple.__new__") ⟨[.type "tuple", .ref z], []⟩) (wants Q₁ E) s := by
  apply codeAny_of_tree
  show wpAny _ A.in1 (do checkBuiltinCall "tuple.__new__" ⟨[.type "tuple", .ref z], []⟩; again (.builtin "tuple.__new__" ⟨[.type "tuple", .ref z], []⟩)) _ _ s
  refine wpAny_bind (wpAny_of_eq (PySem.F.newCall_tuple_1 _) (wpAny_pure ⟨plainId_quiet PySem.F.plain_tuple_new _, codeAny_builtin PySem.F.entry_tuple_new ?_⟩))
  rw [Around.under_plainId PySem.F.plain_tuple_new _]
  have hsub := sub_tuple_self
  have hinit := init_tuple_lookup
  have hmh := madeHere_tuple
  have hTI2 : s.TypeIs (.ref z) "zip" := ⟨_, hz, rfl⟩
  have hh1 : A.in1.handled = none := hh
  wp_walk using wpAny_typeOf hTI2, collect_zip (A := A.in1) hh1 D ru rw_ hn J hf hz hTO hTI h1 h2 hl1 hl2
  intro s2 H2 acc J2 g k old
  show wpAny _ _ (Builtin.Tuple.tupleExact acc.toList.toArray >>= fun v => ret v) _ _ _
  unfold Builtin.Tuple.tupleExact
  refine wpAny_bind (wpAny_newObj_type ?_ (by show acc.toList.toArray.size ≤ sizeLine; simp only [Array.toArray_toList]; rw [g.sz, sizeLine_eq]; omega))
  apply wpAny_pure
  have e : acc.toList.toArray = acc := by simp
  rw [e]
  exact hQ s2 H2 acc J2 g k old
theorem call_tuple_zip {s : Shared} {H : Hp} {E Q : Value → Shared → Prop} (hh : A.handled = none) (D : ZipApart z TI TO i1 i2 l1 l2) (ru : Vals xs us) (rw_ : Vals ys ws) (hn : min us.length ws.length ≤ 100000)
    (J : Inv X pins σ H s) (hf : ∀ b ∈ [z, TO, i1, i2], FpOk X pins H b) (hz : IsZip s.heap z TI TO .none) (hTO : ∃ a b, IsPair s.heap TO a b) (hTI : IsPair s.heap TI (.ref i1) (.ref i2)) (h1 : s.heap.IsListIter i1 l1 0) (h2 : s.heap.IsListIter i2 l2 0)
    (hl1 : s.heap.IsList l1 us.toArray) (hl2 : s.heap.IsList l2 ws.toArray)
    (hQ : ∀ s2 H2 acc, Inv X pins σ H2 s2 → Gat H2 xs ys acc (min us.length ws.length) → Kp H H2 → (∀ b o, H b = some o → H2 b = some o) → Q (.ref s2.heap.objs.size) { s2 with heap := s2.heap.push { cls := .type "tuple", data := .seq acc } }) :
    wpAny (model X.prog X.w) A (call (.type "tuple") [.ref z]) Q E s := by
  refine callType_codes (Q₁ := fun obj s₁ => s₁.TypeIs obj "tuple" ∧ Q obj s₁) PySem.F.called_tuple (PySem.F.typeCall_tuple_1 _) PySem.F.entry_object_init
    (code_tuple_new_zip (A := A.in1) hh D ru rw_ hn J hf hz hTO hTI h1 h2 hl1 hl2 fun s2 H2 acc J2 g k old => ⟨⟨_, Heap.get?_push_size _ rfl, rfl⟩, hQ s2 H2 acc J2 g k old⟩) fun obj s₁ h₁ => ?_
  exact ⟨h₁.1, PySem.F.args_object_init_2 obj _, object_init_meets PySem.F.called_tuple.init.lookup PySem.F.called_tuple.made (by decide) X.prog X.w A.in1 _ s₁ ⟨h₁.1, rfl, h₁.2⟩⟩
end
/-- pairs in new tuples -/
def PairsV (H : Hp) (xs ys : List V) (vs : List V) : Prop := vs.length = min xs.length ys.length ∧ ∀ j, j < vs.length → ∃ T x y o, vs[j]? = some (.ref T) ∧ xs[j]? = some x ∧ ys[j]? = some y ∧ H T = some (.frz o (.tup [x, y])) ∧ o.dict = none
/-- tuple(zip(xs, ys)) -/
def tZipT (K : PySem.W.Frag) (ta : TA) : TE := fun σ H Q => ta σ H fun vs H1 => ∃ (l1 l2 : Addr) (xs ys : List V), vs = [V.ref l1, V.ref l2] ∧ SqL K H1 l1 xs ∧ SqL K H1 l2 ys ∧ min xs.length ys.length ≤ 100000 ∧
  ∀ (H2 : Hp) (ts : List V), PairsV H2 xs ys ts → Kp H1 H2 → (∀ b o, H1 b = some o → H2 b = some o) → NewT H2 ts Q
theorem refs_gat {H : Hp} {xs ys : List V} {acc : Array Value} {n : Nat} (g : Gat H xs ys acc n) (hn : n = min xs.length ys.length) : ∃ ts : List V, Vals ts acc.toList ∧ PairsV H xs ys ts := by
  have sz := g.sz
  have key : ∀ l : List Value, (∀ v ∈ l, ∃ T, v = Value.ref T) → Vals (l.map bkV) l := fun l hl => bkV_vals fun u hu => hl u hu
  have all : ∀ v ∈ acc.toList, ∃ T, v = Value.ref T := fun v hv => by
    obtain ⟨j, hj, e⟩ := List.getElem_of_mem hv
    rw [Array.length_toList] at hj
    obtain ⟨T, x, y, o, h1, _⟩ := g.at_ j (by omega)
    refine ⟨T, ?_⟩
    rw [← e, Array.getElem_toList]
    rw [Array.getElem?_eq_getElem hj] at h1
    exact Option.some.inj h1
  refine ⟨acc.toList.map bkV, key _ all, by rw [List.length_map, Array.length_toList, sz, hn], fun j hj => ?_⟩
  rw [List.length_map, Array.length_toList, sz] at hj
  obtain ⟨T, x, y, o, h1, h2, h3, h4, h5⟩ := g.at_ j hj
  refine ⟨T, x, y, o, ?_, h2, h3, h4, h5⟩
  rw [List.getElem?_map, Array.getElem?_toList, h1]
  rfl
theorem pe_zipT {X : Cx} {e e2 : Expr} {ta : TA} {p p2 q pos : Pos} (hg : Gl X "tuple") (hm : X.mg "tuple" = none) (hg2 : Gl X "zip") (hm2 : X.mg "zip" = none) (ha : PA X [e, e2] ta) (hc : X.calm = true)
    (hs : starEach [e, e2] X.env = (false, eval e X.env) :: starEach [e2] X.env) (hpl : (backTo q (starEach [e2] X.env)).any (·.1) = false) :
    PE X (.Call (.Name "tuple" p) [.Call (.Name "zip" p2) [e, e2] [] q] [] pos) (tZipT X.K ta) := by
  constructor
  intro pins s σ H Q I h
  refine Call_ (ld_blt I hg hm boot_tuple ?_)
  refine PyProof.Rows.callWith_type1 (args_cons ?_ rfl) rfl rfl
  refine Call_ (ld_blt I hg2 hm2 PyProof.Rows.boot_zip (PyProof.Rows.callWith_type1 (thn (ha.run q pins s σ H _ I h) fun us0 s1 ⟨vs, H1, I1, r1, l1, l2, xs, ys, ex, hq1, hq2, hn, q1⟩ => ?_) hs hpl))
  subst ex
  obtain ⟨u, u2, rfl, rx, ry⟩ := vals2 r1
  cases rx
  cases ry
  obtain ⟨us, rv1, p1, z1⟩ := I1.list hq1
  obtain ⟨ws, rv2, p2, z2⟩ := I1.list hq2
  have lt1 : l1 < s1.heap.objs.size := p1.lt
  have lt2 : l2 < s1.heap.objs.size := p2.lt
  refine zip_begins2 (begins_list l1 us.toArray) (begins_list l2 ws.toArray) p1.isList p2.isList fun h2 hz hTI hTO e1 e2 hsz hk => PyProof.Rows.args_nil ?_
  have I2 : Inv X pins σ H1 { s1 with heap := h2 } := I1.kept (t' := s1.toks) hk
  have hf : ∀ b ∈ [s1.heap.objs.size + 4, s1.heap.objs.size + 3, s1.heap.objs.size, s1.heap.objs.size + 1], FpOk X pins H1 b := fun c hcm => by
    have cs : c = s1.heap.objs.size + 4 ∨ c = s1.heap.objs.size + 3 ∨ c = s1.heap.objs.size ∨ c = s1.heap.objs.size + 1 := by simpa using hcm
    have hle : s1.heap.objs.size ≤ c := by
      rcases cs with z | z | z | z
      · rw [z]; exact Nat.le_add_right _ _
      · rw [z]; exact Nat.le_add_right _ _
      · rw [z]; exact Nat.le_refl _
      · rw [z]; exact Nat.le_add_right _ _
    exact I1.fpOk hle (I1.hok.fresh hle)
  refine call_tuple_zip (s := { s1 with heap := h2 }) (A := X.A) (I2.ok.hd hc) (PySem.W.ktu_apart s1.heap.objs.size l1 l2 lt1 lt2) rv1 rv2 (by rw [← rv1.length, ← rv2.length]; exact hn) I2 hf hz ⟨_, _, hTO⟩ hTI ⟨_, e1, rfl, rfl⟩ ⟨_, e2, rfl, rfl⟩
    (p1.isList.at fun o e => hk _ o e) (p2.isList.at fun o e => hk _ o e) fun s2 H2 acc J2 g k old => ?_
  obtain ⟨ts, rt, hp⟩ := refs_gat g (by rw [← rv1.length, ← rv2.length])
  have e : acc = acc.toList.toArray := by simp
  rw [e]
  exact new_tup J2 rt (by rw [hp.1, sizeLine_eq]; omega) (q1 H2 ts hp k old)
end Mn
end

section
set_option Elab.async false
set_option linter.all false
set_option maxRecDepth 100000
set_option maxHeartbeats 4000000
/-! Mn, T12: texts cut, written great, looked at from the front. -/
namespace Mn
open PySem PySem.Spec PyProof.Rows L2 TL
theorem preT_eq (S l : List Nat) : preT S l = pre S l := rfl
theorem splT_eq (S : List Nat) : ∀ (l : List Nat) (k : Nat) (acc : List Nat), splT S k acc l = spl S k acc l
  | [], k, acc => by cases k <;> rfl
  | c :: r, 0, acc => by
    show (if preT S (c :: r) = true then acc :: splT S (S.length - 1) [] r else splT S 0 (acc ++ [c]) r) = (if pre S (c :: r) = true then acc :: spl S (S.length - 1) [] r else spl S 0 (acc ++ [c]) r)
    rw [splT_eq S r, splT_eq S r]
    rfl
  | c :: r, k + 1, acc => splT_eq S r k acc
theorem parT_eq (S : List Nat) : ∀ (l acc : List Nat), parT S acc l = par S acc l
  | [], acc => rfl
  | c :: r, acc => by
    show (if preT S (c :: r) = true then some (acc, (c :: r).drop S.length) else parT S (acc ++ [c]) r) = (if pre S (c :: r) = true then some (acc, (c :: r).drop S.length) else par S (acc ++ [c]) r)
    rw [parT_eq S r]
    rfl
section
variable {X : Cx} {pins : List (Addr × Obj)} {σ : L2.St} {H : Hp} {s : Shared} {Q : VK}
theorem laid_partsZ {x y z : Str} {t u v : Tok} {k : Nat} (I : Inv X pins σ H s) (h : NewT H [.str x, .str y, .str z] Q) :
    EP X pins σ Q (.ref s.heap.objs.size) { s with toks := k, heap := s.heap.push { cls := .type "tuple", data := .seq [Value.str x t, .str y u, .str z v].toArray } } :=
  ⟨.ref s.heap.objs.size, upd H s.heap.objs.size (.frz { cls := .type "tuple", data := .seq [Value.str x t, .str y u, .str z v].toArray } (.tup [.str x, .str y, .str z])), I.laid (fun b w q => Heap.get?_push_of_some _ q) (Nat.le_refl _)
    (solid_obj (its := [Value.str x t, .str y u, .str z v]) (Heap.get?_push_size _ rfl) rfl rfl (.cons ⟨t, rfl⟩ (.cons ⟨u, rfl⟩ (.cons ⟨v, rfl⟩ .nil))) (by show 3 ≤ sizeLine; decide)), rfl, h _ _ (I.hok.fresh (Nat.le_refl _)) rfl⟩
end
def rPartZ : V → List V → Hp → VK → Prop := fun x xs H Q => ∃ a b, x = .str a ∧ xs = [.str b] ∧ (b.length == 0) = false ∧ a.length ≤ sizeLine ∧ NewT H [.str (Txt.partition a b).1, .str (Txt.partition a b).2.1, .str (Txt.partition a b).2.2] Q
theorem mt_partZ {X : Cx} : MtR X "str.partition" rPartZ := by
  intro pins s σ H x xs v us Q I rx rs h
  obtain ⟨a, b, rfl, rfl, hb, hz, h⟩ := h
  obtain ⟨t, rfl⟩ := rx
  cases rs with
  | cons r1 rs =>
    cases rs
    obtain ⟨u, rfl⟩ := r1
    refine call_meets F.slot_str_partition (typeIs_str _ _ _) F.entry_str_partition (F.args_str_partition_2 _ _) (meets_str_partition a b t u hb hz) ?_
    unfold Txt.partition at h
    revert h
    cases Builtin.Str.occurrences a b 0 a.length 1 with
    | nil => intro h; exact laid_partsZ I h
    | cons i r => intro h; exact laid_partsZ I h
theorem par_toS (s t : List Nat) (ht : t ≠ []) : [D.str (Txt.partition (toS s) (toS t)).1.cps.toList, D.str (Txt.partition (toS s) (toS t)).2.1.cps.toList, D.str (Txt.partition (toS s) (toS t)).2.2.cps.toList] = par3 s t := by
  have ey : tl (toS t) = t := toS_list t
  rw [partition_par _ _ (by rw [ey]; exact ht), ey, show tl (toS s) = s from toS_list s, ← parT_eq]
  unfold par3
  cases e : parT t [] s with
  | none =>
    show [D.str (toS s).cps.toList, D.str [], D.str []] = _
    rw [toS_list]
  | some p =>
    obtain ⟨a, b⟩ := p
    show [D.str a, D.str (toS t).cps.toList, D.str b] = _
    rw [toS_list]
theorem split_toS (s t : List Nat) (ht : t ≠ []) (hk : t.all (· < 256) = true) : (Txt.split (toS s) (toS t)).map tl = splT t 0 [] s := by
  have ey : tl (toS t) = t := toS_list t
  rw [split_spl _ _ (by rw [ey]; exact ht) (kind_ok (by show (toS t).cps.all _ = true; simpa [toS] using hk)), ey, show tl (toS s) = s from toS_list s, splT_eq]
theorem starts_toS (s t : List Nat) : Txt.startswith (toS s) (toS t) = preT t s := by
  unfold Txt.startswith
  rw [StrLaws.subAt_eq, toS_list, toS_list, toS_len, toS_len, List.drop_zero]
  unfold preT
  cases h : s.take t.length == t with
  | false => rw [Bool.and_false]
  | true =>
    have e : s.take t.length = t := eq_of_beq h
    have := congrArg List.length e
    rw [List.length_take] at this
    rw [Bool.and_true]
    exact decide_eq_true (by omega)
theorem up_ok : ∀ c : Fin 128, Unicode.upperOf c.1 = [upC c.1] := by decide +kernel
theorem up_list : ∀ {s : List Nat}, s.all (· < 128) = true → (List.map Array.toList (List.mapIdx (fun _ c => (Unicode.upperOf c).toArray) s)).flatten = s.map upC
  | [], _ => rfl
  | c :: r, h => by
    simp only [List.all_cons, Bool.and_eq_true, decide_eq_true_eq] at h
    have ih := up_list h.2
    rw [List.mapIdx_cons]
    simp only [List.map_cons, List.flatten_cons]
    have := up_ok ⟨c, h.1⟩
    simp only at this
    rw [this, ih]
    rfl
theorem upper_toS {s : List Nat} (h : s.all (· < 128) = true) : Txt.upper (toS s) = toS (s.map upC) := by
  have e : ((toS s).cps.mapIdx fun _ c => (Unicode.upperOf c).toArray).flatten = (s.map upC).toArray := by
    apply Array.toList_inj.mp
    rw [Array.toList_flatten, Array.toList_mapIdx]
    exact up_list h
  exact congrArg Str.mk e
theorem strs_rp {F : PySem.W.Frag} {H : Hp} : ∀ ss : List (List Nat), Rps F H (ss.map D.str) ((ss.map toS).map V.str)
  | [] => .nil
  | s :: ss => .cons (.str s) (strs_rp ss)
end Mn
end

section
set_option Elab.async false
set_option linter.all false
set_option maxRecDepth 100000
set_option maxHeartbeats 4000000
/-! Mn, part C: comparisons, subscripts, truth, by values. -/
namespace Mn
open PySem PySem.Spec PyProof.Rows L2

mutual
def toP : D → PyData
  | .non => .none
  | .bl b => .bool b
  | .int i => .int i
  | .str s => .str (toS s)
  | .tup ds => .tuple (toPs ds)
  | .lst ds => .list (toPs ds)
  | .ref _ => .none
  | .exc _ _ => .none
def toPs : List D → List PyData
  | [] => []
  | d :: ds => toP d :: toPs ds
end
section
variable {L : Lk} {m : Hm} {H : Hp}
mutual
theorem Res.dp (rel : Rel L m H) : ∀ {d e : D} {v : V}, Res m d e → Rp L.F H d v → Dp L.F H v (toP e)
  | _, _, _, .non, .non => .non
  | _, _, _, .bl _, .bl b => .bl b
  | _, _, _, .int _, .int i => .int i
  | _, _, _, .str _, .str s => .str _
  | _, _, _, .tup r, .tup h q => .tup h.sq (Ress.dp rel r q)
  | _, _, _, .lst r, .lst h q => .lst h.sq (Ress.dp rel r q)
  | _, _, _, .ref e r, .ref _ => by
    obtain ⟨vs, h, q⟩ := rel _ _ e
    exact .lst (SqL.of h) (Ress.dp rel r q)
theorem Ress.dp (rel : Rel L m H) : ∀ {d e : List D} {v : List V}, Ress m d e → Rps L.F H d v → DpAll L.F H v (toPs e)
  | _, _, _, .nil, .nil => .nil
  | _, _, _, .cons a b, .cons p q => .cons (Res.dp rel a p) (Ress.dp rel b q)
end
end
theorem toS_ok {s : List Nat} (h : s.all (· < 1114112) = true) : PyData.strOk (toS s) = true := by
  unfold PyData.strOk toS
  simpa using h
mutual
theorem shp_lay : ∀ {n : Nat} {d : D}, D.shp n d = true → (toP d).canLay0 = true
  | _, .non, _ => by simp [toP, PyData.canLay0]
  | _, .bl b, _ => by simp [toP, PyData.canLay0]
  | _, .int i, _ => by simp [toP, PyData.canLay0]
  | _, .str s, h => by
    simp only [D.shp] at h
    simp only [toP, PyData.canLay0]
    exact toS_ok h
  | 0, .tup ds, h => by simp [D.shp] at h
  | n + 1, .tup ds, h => by
    simp only [D.shp] at h
    simp only [toP, PyData.canLay0]
    exact shps_lay h
  | 0, .lst ds, h => by simp [D.shp] at h
  | n + 1, .lst ds, h => by
    simp only [D.shp] at h
    simp only [toP, PyData.canLay0]
    exact shps_lay h
  | _, .ref _, h => by simp [D.shp] at h
  | _, .exc _ _, h => by simp [D.shp] at h
theorem shps_lay : ∀ {n : Nat} {ds : List D}, D.shps n ds = true → PyData.canLayAll0 (toPs ds) = true
  | _, [], _ => by simp [toPs, PyData.canLayAll0]
  | _, d :: ds, h => by
    simp only [D.shps, Bool.and_eq_true] at h
    simp only [toPs, PyData.canLayAll0, Bool.and_eq_true]
    exact ⟨shp_lay h.1, shps_lay h.2⟩
end
mutual
theorem shp_dep : ∀ {n : Nat} {d : D}, D.shp n d = true → (toP d).depth ≤ n
  | _, .non, _ => by simp [toP, PyData.depth]
  | _, .bl b, _ => by simp [toP, PyData.depth]
  | _, .int i, _ => by simp [toP, PyData.depth]
  | _, .str s, h => by simp [toP, PyData.depth]
  | 0, .tup ds, h => by simp [D.shp] at h
  | n + 1, .tup ds, h => by
    simp only [D.shp] at h
    simp only [toP, PyData.depth]
    have := shps_dep h
    omega
  | 0, .lst ds, h => by simp [D.shp] at h
  | n + 1, .lst ds, h => by
    simp only [D.shp] at h
    simp only [toP, PyData.depth]
    have := shps_dep h
    omega
  | _, .ref _, h => by simp [D.shp] at h
  | _, .exc _ _, h => by simp [D.shp] at h
theorem shps_dep : ∀ {n : Nat} {ds : List D}, D.shps n ds = true → PyData.depthAll (toPs ds) ≤ n
  | _, [], _ => by simp [toPs, PyData.depthAll]
  | _, d :: ds, h => by
    simp only [D.shps, Bool.and_eq_true] at h
    simp only [toPs, PyData.depthAll]
    have h1 := shp_dep h.1
    have h2 := shps_dep h.2
    omega
end
theorem shp_ok {d : D} (h : D.shp 60 d = true) : SeqAt.shaped (toP d) = true := by
  have h1 := shp_lay h
  have h2 := shp_dep h
  unfold SeqAt.shaped
  rw [h1, Bool.true_and, decide_eq_true_eq]
  omega
theorem shps_ok {ds : List D} (h : D.shps 60 ds = true) : SeqAt.shaped (.list (toPs ds)) = true := by
  have h1 := shps_lay h
  have h2 := shps_dep h
  unfold SeqAt.shaped
  rw [show (PyData.list (toPs ds)).canLay0 = true by simpa [PyData.canLay0] using h1, Bool.true_and, decide_eq_true_eq]
  simp only [PyData.depth]
  omega
theorem toS_beq (s t : List Nat) : (toS s == toS t) = (s == t) := by
  rw [Bool.eq_iff_iff]
  simp [toS]
mutual
theorem eqv_ok : ∀ (x y : D) {n k : Nat}, D.shp n x = true → D.shp k y = true → PyData.eqv (toP x) (toP y) = D.eqv x y
  | .non, y, _, _, _, h => by cases y <;> simp_all [toP, PyData.eqv, D.eqv, D.shp]
  | .bl a, y, _, _, _, h => by cases y <;> simp_all [toP, PyData.eqv, D.eqv, D.shp]
  | .int a, y, _, _, _, h => by cases y <;> simp_all [toP, PyData.eqv, D.eqv, D.shp]
  | .str a, y, _, _, _, h => by
    cases y with
    | str b => simp only [toP, PyData.eqv, D.eqv, toS_beq]
    | _ => simp_all [toP, PyData.eqv, D.eqv, D.shp]
  | .tup a, y, n, k, hx, h => by
    cases y with
    | tup b =>
      simp only [toP, PyData.eqv, D.eqv]
      cases n with
      | zero => simp [D.shp] at hx
      | succ n => cases k with
        | zero => simp [D.shp] at h
        | succ k => exact eqvs_ok a b (by simpa only [D.shp] using hx) (by simpa only [D.shp] using h)
    | _ => simp_all [toP, PyData.eqv, D.eqv, D.shp]
  | .lst a, y, n, k, hx, h => by
    cases y with
    | lst b =>
      simp only [toP, PyData.eqv, D.eqv]
      cases n with
      | zero => simp [D.shp] at hx
      | succ n => cases k with
        | zero => simp [D.shp] at h
        | succ k => exact eqvs_ok a b (by simpa only [D.shp] using hx) (by simpa only [D.shp] using h)
    | _ => simp_all [toP, PyData.eqv, D.eqv, D.shp]
  | .ref a, y, _, _, hx, _ => by simp [D.shp] at hx
  | .exc a c, y, _, _, hx, _ => by simp [D.shp] at hx
theorem eqvs_ok : ∀ (xs ys : List D) {n k : Nat}, D.shps n xs = true → D.shps k ys = true → PyData.eqvAll (toPs xs) (toPs ys) = D.eqvs xs ys
  | [], [], _, _, _, _ => by simp [toPs, PyData.eqvAll, D.eqvs]
  | [], _ :: _, _, _, _, _ => by simp [toPs, PyData.eqvAll, D.eqvs]
  | _ :: _, [], _, _, _, _ => by simp [toPs, PyData.eqvAll, D.eqvs]
  | x :: xs, y :: ys, _, _, hx, hy => by
    simp only [D.shps, Bool.and_eq_true] at hx hy
    simp only [toPs, PyData.eqvAll, D.eqvs]
    rw [eqv_ok x y hx.1 hy.1, eqvs_ok xs ys hx.2 hy.2]
end
theorem any_ok {x : D} (hx : D.shp 60 x = true) : ∀ {ds : List D}, D.shps 60 ds = true → ((toPs ds).any fun z => PyData.eqv z (toP x)) = ds.any fun z => D.eqv z x
  | [], _ => rfl
  | d :: ds, h => by
    simp only [D.shps, Bool.and_eq_true] at h
    simp only [toPs, List.any_cons]
    rw [eqv_ok d x h.1 hx, any_ok hx h.2]

/-! ### order -/
mutual
theorem flat_shp : ∀ {n : Nat} {d : D}, D.flat n d = true → D.shp n d = true
  | _, .non, _ => by simp [D.shp]
  | _, .bl b, _ => by simp [D.shp]
  | _, .int i, _ => by simp [D.shp]
  | _, .str s, h => by simpa [D.shp, D.flat] using h
  | n, .tup ds, h => by
    cases n with
    | zero => simp [D.flat] at h
    | succ k => simpa [D.shp] using flats_shp (n := k) (ds := ds) (by simpa [D.flat] using h)
  | _, .lst _, h => by simp [D.flat] at h
  | _, .ref _, h => by simp [D.flat] at h
theorem flats_shp : ∀ {n : Nat} {ds : List D}, D.flats n ds = true → D.shps n ds = true
  | _, [], _ => by simp [D.shps]
  | n, d :: ds, h => by
    have h : D.flat n d = true ∧ D.flats n ds = true := by simpa [D.flats] using h
    simp [D.shps, flat_shp h.1, flats_shp h.2]
end
mutual
theorem flat_self {m : Hm} : ∀ {n : Nat} {d : D}, D.flat n d = true → Res m d d
  | _, .non, _ => .non
  | _, .bl b, _ => .bl b
  | _, .int i, _ => .int i
  | _, .str s, _ => .str s
  | n, .tup ds, h => by
    cases n with
    | zero => simp [D.flat] at h
    | succ k => exact .tup (flats_self (n := k) (ds := ds) (by simpa [D.flat] using h))
  | _, .lst _, h => by simp [D.flat] at h
  | _, .ref _, h => by simp [D.flat] at h
theorem flats_self {m : Hm} : ∀ {n : Nat} {ds : List D}, D.flats n ds = true → Ress m ds ds
  | _, [], _ => .nil
  | n, d :: ds, h => by
    have h : D.flat n d = true ∧ D.flats n ds = true := by simpa [D.flats] using h
    exact .cons (flat_self h.1) (flats_self h.2)
end
mutual
theorem alike_P : ∀ {x y : D}, D.alike x y = true → PySem.W.alike (toP x) (toP y) = true
  | .non, y, h => by simp [D.alike] at h
  | .bl a, y, h => by cases y <;> simp_all [D.alike, toP, PySem.W.alike]
  | .int a, y, h => by cases y <;> simp_all [D.alike, toP, PySem.W.alike]
  | .str a, y, h => by cases y <;> simp_all [D.alike, toP, PySem.W.alike]
  | .tup a, y, h => by
    cases y with
    | tup b =>
      simp only [toP, PySem.W.alike]
      exact alikes_P (by simpa only [D.alike] using h)
    | _ => simp [D.alike] at h
  | .lst _, y, h => by simp [D.alike] at h
  | .ref _, y, h => by simp [D.alike] at h
  | .exc _ _, y, h => by simp [D.alike] at h
theorem alikes_P : ∀ {x y : List D}, D.alikes x y = true → PySem.W.alikeAll (toPs x) (toPs y) = true
  | [], y, _ => by cases y <;> simp [toPs, PySem.W.alikeAll]
  | _ :: _, [], _ => by simp [toPs, PySem.W.alikeAll]
  | a :: x, b :: y, h => by
    simp only [D.alikes, Bool.and_eq_true] at h
    simp only [toPs, PySem.W.alikeAll, Bool.and_eq_true]
    exact ⟨alike_P h.1, alikes_P h.2⟩
end
theorem natLt_cps : ∀ (s t : List Nat), natLt s t = decide (s < t)
  | [], [] => by simp [natLt]
  | _ :: _, [] => by simp [natLt]
  | [], _ :: _ => by simp [natLt]
  | x :: xs, y :: ys => by
    simp only [natLt, List.cons_lt_cons_iff, natLt_cps xs ys]
    by_cases e : x = y
    · subst e
      simp
    · rw [if_neg e]
      simp [e]
mutual
theorem lt_P : ∀ {n k : Nat} {x y : D}, D.alike x y = true → D.flat n x = true → D.flat k y = true → PySem.W.dataLt (toP x) (toP y) = D.lt x y
  | _, _, .non, y, h, _, _ => by simp [D.alike] at h
  | _, _, .bl a, y, h, _, _ => by
    cases y with
    | bl b => simp only [toP, PySem.W.dataLt_bool, D.lt]; cases a <;> cases b <;> decide
    | _ => simp [D.alike] at h
  | _, _, .int a, y, h, _, _ => by
    cases y with
    | int b => simp only [toP, PySem.W.dataLt_int, D.lt]
    | _ => simp [D.alike] at h
  | _, _, .str a, y, h, _, _ => by
    cases y with
    | str b => simp only [toP, PySem.W.dataLt_str, D.lt, toS_list, natLt_cps]
    | _ => simp [D.alike] at h
  | n, k, .tup a, y, h, hx, hy => by
    cases y with
    | tup b =>
      cases n with
      | zero => simp [D.flat] at hx
      | succ n => cases k with
        | zero => simp [D.flat] at hy
        | succ k =>
          simp only [toP, PySem.W.dataLt_tuple, D.lt]
          exact lts_P (n := n) (k := k) (by simpa only [D.alike] using h) (by simpa only [D.flat] using hx) (by simpa only [D.flat] using hy)
    | _ => simp [D.alike] at h
  | _, _, .lst _, y, h, _, _ => by simp [D.alike] at h
  | _, _, .ref _, y, h, _, _ => by simp [D.alike] at h
  | _, _, .exc _ _, y, h, _, _ => by simp [D.alike] at h
theorem lts_P : ∀ {n k : Nat} {x y : List D}, D.alikes x y = true → D.flats n x = true → D.flats k y = true →
    PyProof.Rows.lexLt PyProof.Rows.itemOrd (PySem.W.keyToksAll (toPs x)) (PySem.W.keyToksAll (toPs y)) = D.lts x y
  | _, _, [], [], _, _, _ => by simp [toPs, D.lts, PySem.W.keyToksAll, PyProof.Rows.lexLt, PyProof.Rows.itemOrd, PyProof.Rows.itemLt]
  | _, _, [], y :: ys, _, _, _ => by simp [toPs, D.lts, PySem.W.keyToksAll, PyProof.Rows.lexLt, PyProof.Rows.itemOrd, PyProof.Rows.itemLt]
  | _, _, x :: xs, [], _, _, _ => by simp [toPs, D.lts, PySem.W.keyToksAll, PyProof.Rows.lexLt, PyProof.Rows.itemOrd, PyProof.Rows.itemLt]
  | n, k, x :: xs, y :: ys, h, hx, hy => by
    simp only [D.alikes, Bool.and_eq_true] at h
    simp only [D.flats, Bool.and_eq_true] at hx hy
    simp only [toPs, D.lts]
    rw [PySem.W.dataLt_cons (alike_P h.1), eqv_ok x y (flat_shp hx.1) (flat_shp hy.1), lts_P h.2 hx.2 hy.2, lt_P h.1 hx.1 hy.1]
end
mutual
theorem alike_sym : ∀ {x y : D}, D.alike x y = true → D.alike y x = true
  | .non, y, h => by simp [D.alike] at h
  | .bl a, y, h => by cases y <;> simp_all [D.alike]
  | .int a, y, h => by cases y <;> simp_all [D.alike]
  | .str a, y, h => by cases y <;> simp_all [D.alike]
  | .tup a, y, h => by
    cases y with
    | tup b => simp only [D.alike]; exact alikes_sym (by simpa only [D.alike] using h)
    | _ => simp [D.alike] at h
  | .lst _, y, h => by simp [D.alike] at h
  | .ref _, y, h => by simp [D.alike] at h
  | .exc _ _, y, h => by simp [D.alike] at h
theorem alikes_sym : ∀ {x y : List D}, D.alikes x y = true → D.alikes y x = true
  | [], y, _ => by cases y <;> simp [D.alikes]
  | _ :: _, [], _ => by simp [D.alikes]
  | a :: x, b :: y, h => by
    simp only [D.alikes, Bool.and_eq_true] at h ⊢
    exact ⟨alike_sym h.1, alikes_sym h.2⟩
end
theorem ordT {L : Lk} {m : Hm} {H : Hp} {xs ys : List D} {v u : V} (h : cmpOk xs ys = true) (rx : Rp L.F H (.tup xs) v) (ry : Rp L.F H (.tup ys) u) (rel : Rel L m H) :
    ∃ d e, Dp L.F H v d ∧ Dp L.F H u e ∧ PySem.W.alike d e = true ∧ d ≠ .none ∧ d.depth ≤ 60 ∧ PySem.W.dataLt d e = D.lts xs ys ∧ PySem.W.dataLt e d = D.lts ys xs := by
  simp only [cmpOk, Bool.and_eq_true] at h
  obtain ⟨⟨h3, h4⟩, h5⟩ := h
  have a : D.alike (.tup xs) (.tup ys) = true := by simpa only [D.alike] using h3
  have f1 : D.flat 60 (.tup xs) = true := by simpa only [D.flat] using h4
  have f2 : D.flat 60 (.tup ys) = true := by simpa only [D.flat] using h5
  have e1 := lt_P a f1 f2
  have e2 := lt_P (alike_sym a) f2 f1
  simp only [D.lt] at e1 e2
  exact ⟨_, _, (flat_self (m := m) f1).dp rel rx, (flat_self (m := m) f2).dp rel ry, alike_P a, by simp [toP], shp_dep (flat_shp f1), e1, e2⟩
def rOrdD (K : PySem.W.Frag) (f : PyData → PyData → Bool) : R2 := fun x y H Q => ∃ d e, Dp K H x d ∧ Dp K H y e ∧ PySem.W.alike d e = true ∧ d ≠ .none ∧ d.depth ≤ 60 ∧ Q (.bl (f d e)) H
section
variable {X : Cx}
theorem room_d {d e : PyData} (hu : X.A.units + 65 < cLine) (h : d.depth ≤ 60) : X.A.units + min d.depth e.depth < cLine := by
  have := Nat.min_le_left d.depth e.depth
  omega
theorem op_ltD (hu : X.A.units + 65 < cLine) : OpR X (compareOp .Lt) (rOrdD X.K PySem.W.dataLt) := by
  intro pins s σ H x y v u Q I rx ry h
  obtain ⟨d, e, hd, he, a, n, z, q⟩ := h
  obtain ⟨as, r1⟩ := Dp.reads I d x v hd rx
  obtain ⟨bs, r2⟩ := Dp.reads I e y u he ry
  exact PySem.W.lt_data r1 r2 a n (room_d hu z) ⟨.bl _, H, I, rfl, q⟩
theorem op_leD (hu : X.A.units + 65 < cLine) : OpR X (compareOp .LtE) (rOrdD X.K fun d e => !PySem.W.dataLt e d) := by
  intro pins s σ H x y v u Q I rx ry h
  obtain ⟨d, e, hd, he, a, n, z, q⟩ := h
  obtain ⟨as, r1⟩ := Dp.reads I d x v hd rx
  obtain ⟨bs, r2⟩ := Dp.reads I e y u he ry
  exact PySem.W.le_data r1 r2 a n (room_d hu z) ⟨.bl _, H, I, rfl, q⟩
theorem op_gtD (hu : X.A.units + 65 < cLine) : OpR X (compareOp .Gt) (rOrdD X.K fun d e => PySem.W.dataLt e d) := by
  intro pins s σ H x y v u Q I rx ry h
  obtain ⟨d, e, hd, he, a, n, z, q⟩ := h
  obtain ⟨as, r1⟩ := Dp.reads I d x v hd rx
  obtain ⟨bs, r2⟩ := Dp.reads I e y u he ry
  exact PySem.W.gt_data r1 r2 a n (room_d hu z) ⟨.bl _, H, I, rfl, q⟩
theorem op_geD (hu : X.A.units + 65 < cLine) : OpR X (compareOp .GtE) (rOrdD X.K fun d e => !PySem.W.dataLt d e) := by
  intro pins s σ H x y v u Q I rx ry h
  obtain ⟨d, e, hd, he, a, n, z, q⟩ := h
  obtain ⟨as, r1⟩ := Dp.reads I d x v hd rx
  obtain ⟨bs, r2⟩ := Dp.reads I e y u he ry
  exact PySem.W.ge_data r1 r2 a n (room_d hu z) ⟨.bl _, H, I, rfl, q⟩
def rInT (K : PySem.W.Frag) (neg : Bool) : R2 := fun x y H Q => ∃ d ds, Dp K H x d ∧ Dp K H y (.tuple ds) ∧ SeqAt.shaped d = true ∧ SeqAt.shaped (.tuple ds) = true ∧ Q (.bl (xor neg (ds.any fun z => PyData.eqv z d))) H
theorem op_inT (hu : X.A.units + 65 < cLine) : OpR X (compareOp .In) (rInT X.K false) := by
  intro pins s σ H x y v u Q I rx ry h
  obtain ⟨d, ds, hd, he, sd, se, q⟩ := h
  obtain ⟨as, r1⟩ := Dp.reads I d x v hd rx
  obtain ⟨bs, r2⟩ := Dp.reads I (.tuple ds) y u he ry
  exact SeqAt.in_tuple_reads r2 r1 (SeqAt.canLay_of_shaped se) (SeqAt.canLay_of_shaped sd) (room_in_shaped sd hu) ⟨.bl _, H, I, rfl, by simpa using q⟩
theorem op_notInT (hu : X.A.units + 65 < cLine) : OpR X (compareOp .NotIn) (rInT X.K true) := by
  intro pins s σ H x y v u Q I rx ry h
  obtain ⟨d, ds, hd, he, sd, se, q⟩ := h
  obtain ⟨as, r1⟩ := Dp.reads I d x v hd rx
  obtain ⟨bs, r2⟩ := Dp.reads I (.tuple ds) y u he ry
  exact SeqAt.notIn_tuple_reads r2 r1 (SeqAt.canLay_of_shaped se) (SeqAt.canLay_of_shaped sd) (room_in_shaped sd hu) ⟨.bl _, H, I, rfl, by simpa using q⟩
end

/-! ### dicts with tuples for keys -/
mutual
theorem nk_inj : ∀ {n k : Nat} {x y : D}, D.keyd n x = true → D.keyd k y = true → nk x = nk y → x = y
  | _, _, .int a, y, _, hy, e => by cases y <;> simp_all [nk, D.keyd]
  | _, _, .str a, y, _, hy, e => by
    cases y with
    | str b =>
      simp only [nk] at e
      have e2 : toS a = toS b := NestedKey.text.inj e
      have e3 : (toS a).cps.toList = (toS b).cps.toList := by rw [e2]
      rw [toS_list, toS_list] at e3
      rw [e3]
    | _ => simp_all [nk, D.keyd]
  | n, k, .tup a, y, hx, hy, e => by
    cases y with
    | tup b =>
      cases n with
      | zero => simp [D.keyd] at hx
      | succ n => cases k with
        | zero => simp [D.keyd] at hy
        | succ k =>
          simp only [nk] at e
          rw [nks_inj (n := n) (k := k) (x := a) (y := b) (by simpa only [D.keyd] using hx) (by simpa only [D.keyd] using hy) (NestedKey.tup.inj e)]
    | _ => simp_all [nk, D.keyd]
  | _, _, .non, _, hx, _, _ => by simp [D.keyd] at hx
  | _, _, .bl _, _, hx, _, _ => by simp [D.keyd] at hx
  | _, _, .lst _, _, hx, _, _ => by simp [D.keyd] at hx
  | _, _, .ref _, _, hx, _, _ => by simp [D.keyd] at hx
  | _, _, .exc _ _, _, hx, _, _ => by simp [D.keyd] at hx
theorem nks_inj : ∀ {n k : Nat} {x y : List D}, D.keyds n x = true → D.keyds k y = true → nks x = nks y → x = y
  | _, _, [], [], _, _, _ => rfl
  | _, _, [], _ :: _, _, _, e => by simp [nks] at e
  | _, _, _ :: _, [], _, _, e => by simp [nks] at e
  | n, k, a :: x, b :: y, hx, hy, e => by
    simp only [D.keyds, Bool.and_eq_true] at hx hy
    simp only [nks, List.cons.injEq] at e
    rw [nk_inj hx.1 hy.1 e.1, nks_inj hx.2 hy.2 e.2]
end
theorem nkT_inj {x y : List D} (hx : D.keyds 7 x = true) (hy : D.keyds 7 y = true) (e : nkT x = nkT y) : x = y := nks_inj hx hy (NestedKey.tup.inj e)
mutual
theorem nk_depth : ∀ {n : Nat} {x : D}, D.keyd n x = true → (nk x).depth ≤ n
  | _, .int a, _ => by simp [nk, NestedKey.depth]
  | _, .str a, _ => by simp [nk, NestedKey.depth]
  | n, .tup a, hx => by
    cases n with
    | zero => simp [D.keyd] at hx
    | succ n =>
      simp only [nk, NestedKey.depth]
      have := nks_depth (n := n) (x := a) (by simpa only [D.keyd] using hx)
      omega
  | _, .non, hx => by simp [D.keyd] at hx
  | _, .bl _, hx => by simp [D.keyd] at hx
  | _, .lst _, hx => by simp [D.keyd] at hx
  | _, .ref _, hx => by simp [D.keyd] at hx
  | _, .exc _ _, hx => by simp [D.keyd] at hx
theorem nks_depth : ∀ {n : Nat} {x : List D}, D.keyds n x = true → NestedKey.depthAll (nks x) ≤ n
  | _, [], _ => by simp [nks, NestedKey.depthAll]
  | n, a :: x, hx => by
    simp only [D.keyds, Bool.and_eq_true] at hx
    simp only [nks, NestedKey.depthAll]
    have h1 := nk_depth hx.1
    have h2 := nks_depth hx.2
    omega
end
section
variable {X : Cx} {L : Lk} {pins : List (Addr × Obj)} {σ : L2.St} {H : Hp} {s : Shared}
mutual
theorem key_is (hk : X.K = L.F) (I : Inv X pins σ H s) : ∀ {n : Nat} {x : D} {v : V} {u : Value}, D.keyd n x = true → Rp L.F H x v → RelV v u → NestedIs s.heap (nk x) u
  | _, .int i, _, _, _, .int _, r => by
    obtain ⟨t, rfl⟩ := r
    exact .int _ _
  | _, .str i, _, _, _, .str _, r => by
    obtain ⟨t, rfl⟩ := r
    exact .text _ _
  | n, .tup ds, _, u, h, .tup sq rs, r => by
    cases n with
    | zero => simp [D.keyd] at h
    | succ n =>
      obtain rfl := (show u = Value.ref _ from r)
      have sq2 := sq.sq
      rw [← hk] at sq2
      obtain ⟨its, rv, ⟨o, ho, hc, m, hd⟩, _⟩ := I.tuple sq2
      simp only [nk]
      exact .tup ho hc hd (by simpa using keys_is hk I (n := n) (by simpa only [D.keyd] using h) rs rv)
  | _, .non, _, _, h, _, _ => by simp [D.keyd] at h
  | _, .bl _, _, _, h, _, _ => by simp [D.keyd] at h
  | _, .lst _, _, _, h, _, _ => by simp [D.keyd] at h
  | _, .ref _, _, _, h, _, _ => by simp [D.keyd] at h
  | _, .exc _ _, _, _, h, _, _ => by simp [D.keyd] at h
theorem keys_is (hk : X.K = L.F) (I : Inv X pins σ H s) : ∀ {n : Nat} {x : List D} {v : List V} {u : List Value}, D.keyds n x = true → Rps L.F H x v → Vals v u → NestedAll s.heap (nks x) u
  | _, [], _, _, _, .nil, .nil => .nil
  | n, d :: ds, _, _, h, .cons r rs, .cons a b => by
    simp only [D.keyds, Bool.and_eq_true] at h
    exact .cons (key_is hk I h.1 r a) (keys_is hk I h.2 rs b)
end
theorem keyT_is (hk : X.K = L.F) (I : Inv X pins σ H s) {ks : List D} {b : Addr} (h : D.keyds 7 ks = true) (r : Rp L.F H (.tup ks) (.ref b)) : (nestedKind X.prog X.w).is s.heap (nkT ks) b := by
  refine ⟨key_is hk I (n := 8) (by simpa only [D.keyd] using h) r rfl, ?_⟩
  have := nks_depth h
  simp only [nkT, NestedKey.depth]
  omega
theorem keysIn_of (hk : X.K = L.F) (I : Inv X pins σ H s) {kvs : List (List D × D)} {xs : List XE} (r : DtR L.F H kvs xs) : KeysIn X.prog X.w s.heap xs := by
  induction r with
  | nil => intro x hx; cases hx
  | @cons p q ps qs h t ih =>
    intro x hx
    rcases List.mem_cons.mp hx with e | hx
    · subst e
      rw [h.1]
      exact keyT_is hk I h.2.1 h.2.2.1
    · exact ih x hx
/-- at a a dict with tuples for keys, perhaps an empty one of any kind -/
def DtV (L : Lk) (H : Hp) (a : Addr) (kvs : List (List D × D)) (xs : List XE) : Prop := (DtAt L.w H a xs ∧ DtR L.F H kvs xs) ∨ (H a = some (.dK []) ∧ kvs = [] ∧ xs = [])
theorem DtV.now {a : Addr} {kvs : List (List D × D)} {xs : List XE} (hk : X.K = L.F) (hw : X.w = L.w) (D : DtV L H a kvs xs) (I : Inv X pins σ H s) : DtNow X H s.heap a xs := by
  rcases D with ⟨d, r⟩ | ⟨e, rfl, rfl⟩
  · rw [← hw] at d
    exact d.now I (keysIn_of hk I r)
  · exact dt_empty I e
theorem DtV.r {a : Addr} {kvs : List (List D × D)} {xs : List XE} (D : DtV L H a kvs xs) : DtR L.F H kvs xs := by
  rcases D with ⟨_, r⟩ | ⟨_, rfl, rfl⟩
  · exact r
  · exact .nil
end
section
variable {F : PySem.W.Frag} {H : Hp} {kvs : List (List D × D)} {xs : List XE} {ks : List D}
theorem lookT (hs : D.keyds 7 ks = true) (r : DtR F H kvs xs) : (Mn.look kvs ks = none ∧ getX xs (nkT ks) = none) ∨ ∃ d v, Mn.look kvs ks = some d ∧ getX xs (nkT ks) = some v ∧ Rp F H d v := by
  induction r with
  | nil => exact .inl ⟨rfl, rfl⟩
  | @cons p q ps qs h t ih =>
    by_cases e : p.1 = ks
    · refine .inr ⟨p.2, q.2.2, ?_, ?_, h.2.2.2⟩
      · simp [Mn.look, List.find?_cons, e]
      · have e2 : q.1 = nkT ks := by rw [h.1, e]
        simp [getX, List.find?_cons, e2]
    · have e2 : ¬ q.1 = nkT ks := fun z => e (nkT_inj h.2.1 hs (by rw [← h.1, z]))
      have l1 : Mn.look (p :: ps) ks = Mn.look ps ks := by simp [Mn.look, List.find?_cons, e]
      have l2 : getX (q :: qs) (nkT ks) = getX qs (nkT ks) := by simp [getX, List.find?_cons, e2]
      rw [l1, l2]
      exact ih
theorem hasX_get {k : NestedKey} : hasX xs k = (getX xs k).isSome := by
  unfold hasX getX
  induction xs with
  | nil => rfl
  | cons p ps ih =>
    by_cases e : p.1 = k
    · simp [List.find?_cons, e]
    · simp only [List.any_cons, List.find?_cons, e, decide_false, Bool.false_or]; exact ih
theorem hasT (hs : D.keyds 7 ks = true) (r : DtR F H kvs xs) : hasX xs (nkT ks) = (Mn.look kvs ks).isSome := by
  rw [hasX_get]
  rcases lookT hs r with ⟨e1, e2⟩ | ⟨d, v, e1, e2, _⟩ <;> rw [e1, e2] <;> rfl
theorem look_any : (kvs.any fun kv => decide (kv.1 = ks)) = (Mn.look kvs ks).isSome := by
  unfold Mn.look
  induction kvs with
  | nil => rfl
  | cons p ps ih =>
    by_cases e : p.1 = ks
    · simp [List.find?_cons, e]
    · simp only [List.any_cons, List.find?_cons, e, decide_false, Bool.false_or]; exact ih
theorem putT {d : D} {v : V} {b : Addr} (hs : D.keyds 7 ks = true) (rk : Rp F H (.tup ks) (.ref b)) (rd : Rp F H d v) (r : DtR F H kvs xs) : DtR F H (putk kvs ks d) (putX xs (nkT ks) b v) := by
  unfold putk putX
  rw [look_any, hasT hs r]
  split
  · rename_i hh
    clear rk hh
    induction r with
    | nil => exact .nil
    | @cons p q ps qs h t ih =>
      refine .cons ?_ ih
      show KeyR F H (if p.1 = ks then (p.1, d) else p) (if q.1 = nkT ks then (q.1, q.2.1, v) else q)
      by_cases e : p.1 = ks
      · rw [if_pos e, if_pos (show q.1 = nkT ks by rw [h.1, e])]
        exact ⟨h.1, h.2.1, h.2.2.1, rd⟩
      · rw [if_neg e, if_neg (show ¬ q.1 = nkT ks from fun z => e (nkT_inj h.2.1 hs (by rw [← h.1, z])))]
        exact h
  · exact Paired.snoc r (show KeyR F H (ks, d) (nkT ks, b, v) from ⟨rfl, hs, rk, rd⟩)
theorem dropT (hs : D.keyds 7 ks = true) (r : DtR F H kvs xs) : DtR F H (dropk kvs ks) (dropX xs (nkT ks)) := by
  unfold dropk dropX
  induction r with
  | nil => exact .nil
  | @cons p q ps qs h t ih =>
    rw [List.filter_cons, List.filter_cons]
    by_cases e : p.1 = ks
    · have e2 : q.1 = nkT ks := by rw [h.1, e]
      simp only [e, e2, ne_eq, not_true_eq_false, decide_false, Bool.false_eq_true, if_false]
      exact ih
    · have e2 : ¬ q.1 = nkT ks := fun z => e (nkT_inj h.2.1 hs (by rw [← h.1, z]))
      simp only [e, e2, ne_eq, not_false_eq_true, decide_true, if_true]
      exact .cons h ih
theorem DtR.len (r : DtR F H kvs xs) : kvs.length = xs.length := Paired.length r
end
def rDtIn (L : Lk) (neg : Bool) : R2 := fun y x H Q => ∃ a kvs xs ks, x = .ref a ∧ DtV L H a kvs xs ∧ Rp L.F H (.tup ks) y ∧ D.keyds 7 ks = true ∧ Q (.bl (xor neg (Mn.look kvs ks).isSome)) H
theorem Rp.tup_ref {F : PySem.W.Frag} {H : Hp} {ks : List D} {v : V} (r : Rp F H (.tup ks) v) : ∃ b, v = .ref b := by
  cases r with
  | @tup _ a _ _ _ => exact ⟨a, rfl⟩
section
variable {X : Cx} {L : Lk}
theorem op_dtIn (hk : X.K = L.F) (hw : X.w = L.w) (hu : X.A.units + 65 < cLine) : OpR X (compareOp .In) (rDtIn L false) := by
  intro pins s σ H y x u v Q I ry rx h
  obtain ⟨a, kvs, xs, ks, rfl, D, rk, hs, q⟩ := h
  obtain rfl : v = Value.ref a := rx
  obtain ⟨b, rfl⟩ := rk.tup_ref
  obtain rfl : u = Value.ref b := ry
  refine dt_in (by omega) I (D.now hk hw I) (keyT_is hk I hs rk) fun s2 I2 => ⟨.bl _, H, I2, rfl, ?_⟩
  rw [hasT hs D.r]
  simpa using q
theorem op_dtNotIn (hk : X.K = L.F) (hw : X.w = L.w) (hu : X.A.units + 65 < cLine) : OpR X (compareOp .NotIn) (rDtIn L true) := by
  intro pins s σ H y x u v Q I ry rx h
  obtain ⟨a, kvs, xs, ks, rfl, D, rk, hs, q⟩ := h
  obtain rfl : v = Value.ref a := rx
  obtain ⟨b, rfl⟩ := rk.tup_ref
  obtain rfl : u = Value.ref b := ry
  refine dt_notIn (by omega) I (D.now hk hw I) (keyT_is hk I hs rk) fun s2 I2 => ⟨.bl _, H, I2, rfl, ?_⟩
  rw [hasT hs D.r]
  simpa using q
end

/-! ### comparisons -/
def rDIn (neg : Bool) : R2 := fun y x H Q => ∃ a o, x = .ref a ∧ DGet H a y o ∧ Q (.bl (xor neg o.isSome)) H
section
variable {X : Cx}
theorem op_dIn (hu : X.A.units + 1 < cLine) : OpR X (compareOp .In) (rDIn false) := by
  intro pins s σ H y x u v Q I ry rx h
  obtain ⟨a, o, rfl, g, q⟩ := h
  obtain rfl : v = Value.ref a := rx
  exact d_in hu I g ry fun s1 I1 => ⟨.bl o.isSome, H, I1, rfl, by simpa using q⟩
theorem op_dNotIn (hu : X.A.units + 1 < cLine) : OpR X (compareOp .NotIn) (rDIn true) := by
  intro pins s σ H y x u v Q I ry rx h
  obtain ⟨a, o, rfl, g, q⟩ := h
  obtain rfl : v = Value.ref a := rx
  exact d_notIn hu I g ry fun s1 I1 => ⟨.bl (!o.isSome), H, I1, rfl, by simpa using q⟩
def copO : Cop → CmpOp
  | .eq => .Eq | .ne => .NotEq | .lt => .Lt | .le => .LtE | .gt => .Gt | .ge => .GtE | .is_ => .Is | .isn => .IsNot | .in_ => .In | .nin => .NotIn
def rIsRef (neg : Bool) : R2 := fun x y H Q => ∃ a b oa ob, x = .ref a ∧ y = .ref b ∧ H a = some oa ∧ isObj oa = true ∧ H b = some ob ∧ isObj ob = true ∧ Q (.bl (xor neg (decide (a = b)))) H
theorem op_isRef : OpR X (compareOp .Is) (rIsRef false) := by
  intro pins s σ H x y v u Q I rx ry h
  obtain ⟨a, b, oa, ob, e1, e2, h1, h2, h3, h4, q⟩ := h
  exact op_is_ref pins s σ H x y v u Q I rx ry ⟨a, b, oa, ob, e1, e2, h1, h2, h3, h4, by simpa using q⟩
theorem op_isnRef : OpR X (compareOp .IsNot) (rIsRef true) := by
  intro pins s σ H x y v u Q I rx ry h
  obtain ⟨a, b, oa, ob, e1, e2, h1, h2, h3, h4, q⟩ := h
  exact op_isnot_ref pins s σ H x y v u Q I rx ry ⟨a, b, oa, ob, e1, e2, h1, h2, h3, h4, by simpa using q⟩
/-! dicts of plain values, one beside another -/
inductive KHit (F : PySem.W.Frag) (H : Hp) (ls : List (Key × V)) : List (Key × V) → Bool → Prop
  | nil : KHit F H ls [] true
  | miss {k : Key} {v : V} {r : List (Key × V)} : valV ls k = none → KHit F H ls ((k, v) :: r) false
  | hit {k : Key} {v u : V} {d e : PyData} {r : List (Key × V)} {b : Bool} : valV ls k = some u → Dp F H v d → Dp F H u e → SeqAt.shaped d = true → SeqAt.shaped e = true → KHit F H ls r b → KHit F H ls ((k, v) :: r) (PyData.eqv d e && b)
def rEqK (F : PySem.W.Frag) (neg : Bool) : R2 := fun x y H Q => ∃ a b ks ls r, x = .ref a ∧ y = .ref b ∧ H a = some (.dK ks) ∧ H b = some (.dK ls) ∧ KHit F H ls ks r ∧ Q (.bl (xor neg ((ks.length == ls.length) && r))) H
theorem khit_run {pins : List (Addr × Obj)} {σ : L2.St} {H : Hp} {s : Shared} {A : Around} (I : Inv X pins σ H s) (hu : A.in1.units + 64 < cLine) {ls : List (Key × V)} {vb : List (Key × Value)} (rb : KV ls vb) :
    ∀ {ks : List (Key × V)} {va : List (Key × Value)} {r : Bool}, KV ks va → KHit X.K H ls ks r → PySem.W.KeqHits A.in1 s vb va r := by
  intro ks va r ra
  unfold KV at ra
  induction ra generalizing r with
  | nil => intro h; cases h; exact .nil
  | @cons p q ps qs h t ih =>
    intro hk
    obtain ⟨k, v⟩ := p
    obtain ⟨k2, v2⟩ := q
    obtain ⟨h1, h2⟩ := h
    have h1 : k = k2 := h1
    subst h1
    have rr := rb.val k
    cases hk with
    | miss hn =>
      rw [hn] at rr
      refine .miss ?_
      cases e : valueAt vb k with
      | none => rfl
      | some y => rw [e] at rr; cases rr
    | hit hy hd he sd se hr =>
      rw [hy] at rr
      obtain ⟨y, e, ry⟩ := rr.some_of
      obtain ⟨as, r1⟩ := Dp.reads I _ _ _ hd h2
      obtain ⟨bs, r2⟩ := Dp.reads I _ _ _ he ry
      exact .hit e (PySem.W.keq_at r1 r2 sd se hu) (ih hr)
theorem op_eqK (hu : X.A.units + 65 < cLine) : OpR X (compareOp .Eq) (rEqK X.K false) := by
  intro pins s σ H x y v u Q I rx ry h
  obtain ⟨a, b, ks, ls, r, rfl, rfl, ha, hb, hk, q⟩ := h
  cases (show v = Value.ref a from rx)
  cases (show u = Value.ref b from ry)
  obtain ⟨_, ya, va, ra, da⟩ := (show ObjOk X.prog X.w H s.heap a (.dK ks) from I.hok a _ ha)
  obtain ⟨_, yb, vb, rb, db⟩ := (show ObjOk X.prog X.w H s.heap b (.dK ls) from I.hok b _ hb)
  refine PySem.W.keq_eq (knd := mixKind X.prog X.w) (r := r) ya yb da db (by omega) (fun _ => khit_run I (by show X.A.units + 1 + 64 < cLine; omega) rb ra hk) ?_
  rw [← ra.length, ← rb.length]
  exact ⟨.bl _, H, I, rfl, by simpa using q⟩
theorem op_neK (hu : X.A.units + 65 < cLine) : OpR X (compareOp .NotEq) (rEqK X.K true) := by
  intro pins s σ H x y v u Q I rx ry h
  obtain ⟨a, b, ks, ls, r, rfl, rfl, ha, hb, hk, q⟩ := h
  cases (show v = Value.ref a from rx)
  cases (show u = Value.ref b from ry)
  obtain ⟨_, ya, va, ra, da⟩ := (show ObjOk X.prog X.w H s.heap a (.dK ks) from I.hok a _ ha)
  obtain ⟨_, yb, vb, rb, db⟩ := (show ObjOk X.prog X.w H s.heap b (.dK ls) from I.hok b _ hb)
  refine PySem.W.keq_ne (knd := mixKind X.prog X.w) (r := r) ya yb da db (by omega) (fun _ => khit_run I (by show X.A.units + 1 + 64 < cLine; omega) rb ra hk) ?_
  rw [← ra.length, ← rb.length]
  exact ⟨.bl (!((ks.length == ls.length) && r)), H, I, rfl, by rw [Bool.true_xor] at q; exact q⟩
def cmpR0 (F : PySem.W.Frag) : Cop → R2
  | .eq => fun x y H Q => rEq x y H Q ∨ rEqD F x y H Q ∨ rEqK F false x y H Q
  | .ne => fun x y H Q => rNe x y H Q ∨ rNeD F x y H Q ∨ rEqK F true x y H Q
  | .lt => fun x y H Q => rI0 (fun i j => .bl (decide (i < j))) x y H Q ∨ (∃ i j, x = .str i ∧ y = .str j ∧ Q (.bl (decide (i.cps.toList < j.cps.toList))) H) ∨ rOrdD F PySem.W.dataLt x y H Q
  | .le => fun x y H Q => rI0 (fun i j => .bl (decide (i ≤ j))) x y H Q ∨ (∃ i j, x = .str i ∧ y = .str j ∧ Q (.bl (!decide (j.cps.toList < i.cps.toList))) H) ∨ rOrdD F (fun d e => !PySem.W.dataLt e d) x y H Q
  | .gt => fun x y H Q => rI0 (fun i j => .bl (decide (j < i))) x y H Q ∨ (∃ i j, x = .str i ∧ y = .str j ∧ Q (.bl (decide (j.cps.toList < i.cps.toList))) H) ∨ rOrdD F (fun d e => PySem.W.dataLt e d) x y H Q
  | .ge => fun x y H Q => rI0 (fun i j => .bl (decide (j ≤ i))) x y H Q ∨ (∃ i j, x = .str i ∧ y = .str j ∧ Q (.bl (!decide (i.cps.toList < j.cps.toList))) H) ∨ rOrdD F (fun d e => !PySem.W.dataLt d e) x y H Q
  | .is_ => fun x y H Q => rIsB x y H Q ∨ (y = .non ∧ Q (.bl (decide (x = .non))) H) ∨ rIsRef false x y H Q
  | .isn => fun x y H Q => rNotB x y H Q ∨ (y = .non ∧ Q (.bl (!decide (x = .non))) H) ∨ rIsRef true x y H Q
  | .in_ => fun x y H Q => rIn F false x y H Q ∨ (∃ (c : Nat) (z : Str), x = .str ⟨#[c]⟩ ∧ y = .str z ∧ Q (.bl (decide (c ∈ z.cps.toList))) H) ∨ rInD F x y H Q ∨ rDIn false x y H Q ∨ rInT F false x y H Q
  | .nin => fun x y H Q => rIn F true x y H Q ∨ (∃ (c : Nat) (z : Str), x = .str ⟨#[c]⟩ ∧ y = .str z ∧ Q (.bl (!decide (c ∈ z.cps.toList))) H) ∨ rNotInD F x y H Q ∨ rDIn true x y H Q ∨ rInT F true x y H Q
theorem cmpS0 (hu : X.A.units + 65 < cLine) : ∀ op : Cop, OpR X (compareOp (copO op)) (cmpR0 X.K op)
  | .eq => op_eq.or ((op_eqD (by omega)).or (op_eqK hu))
  | .ne => op_ne.or ((op_neD (by omega)).or (op_neK hu))
  | .lt => op_lt.or (op_lt_str.or (op_ltD hu))
  | .le => op_le.or (op_le_str.or (op_leD hu))
  | .gt => op_gt.or (op_gt_str.or (op_gtD hu))
  | .ge => op_ge.or (op_ge_str.or (op_geD hu))
  | .is_ => op_isBl.or (op_isN.or op_isRef)
  | .isn => op_notBl.or (op_notN.or op_isnRef)
  | .in_ => op_in_seq.or (op_in_sign.or ((op_inD hu).or ((op_dIn (by omega)).or (op_inT hu))))
  | .nin => op_notIn_seq.or (op_notIn_sign.or ((op_notInD hu).or ((op_dNotIn (by omega)).or (op_notInT hu))))
def cmpR (L : Lk) : Cop → R2
  | .in_ => fun x y H Q => cmpR0 L.F .in_ x y H Q ∨ rDtIn L false x y H Q
  | .nin => fun x y H Q => cmpR0 L.F .nin x y H Q ∨ rDtIn L true x y H Q
  | op => cmpR0 L.F op
theorem cmpS {L : Lk} (hk : X.K = L.F) (hw : X.w = L.w) (hu : X.A.units + 65 < cLine) (op : Cop) : OpR X (compareOp (copO op)) (cmpR L op) := by
  have h := cmpS0 hu op
  rw [hk] at h
  cases op with
  | in_ => exact h.or (op_dtIn hk hw hu)
  | nin => exact h.or (op_dtNotIn hk hw hu)
  | _ => exact h
end
theorem kyV_inj {a b : Ky} (h : kyV a = kyV b) : a = b := by
  cases a with
  | inl i => cases b with
    | inl j => cases h; rfl
    | inr t => cases h
  | inr s => cases b with
    | inl j => cases h
    | inr t =>
      have h1 : toS s = toS t := Sum.inr.inj h
      have h2 : (toS s).cps.toList = (toS t).cps.toList := by rw [h1]
      rw [toS_list, toS_list] at h2
      rw [h2]
section
variable {F : PySem.W.Frag} {H : Hp} {κ ι : Type} [DecidableEq κ] [DecidableEq ι] {inj : κ → ι}
theorem look_cons (p : κ × D) (r : List (κ × D)) (k : κ) : look (p :: r) k = if p.1 = k then some p.2 else look r k := by
  unfold look
  rw [List.find?_cons]
  by_cases h : p.1 = k <;> simp [h]
theorem KvR.look (hi : ∀ a b, inj a = inj b → a = b) {k : κ} : ∀ {kvs : List (κ × D)} {kws : List (ι × V)}, KvR F H inj kvs kws →
    (Mn.look kvs k = none ∧ valV kws (inj k) = none) ∨ ∃ d v, Mn.look kvs k = some d ∧ valV kws (inj k) = some v ∧ Rp F H d v
  | _, _, .nil => .inl ⟨rfl, rfl⟩
  | p :: r, q :: t, .cons h rest => by
    rw [look_cons]
    by_cases e : p.1 = k
    · refine .inr ⟨p.2, q.2, by rw [if_pos e], valV_pos (by rw [h.1, e]), h.2⟩
    · have ne : ¬ q.1 = inj k := fun z => e (hi _ _ (by rw [← h.1, z]))
      rw [if_neg e, valV_neg ne]
      exact KvR.look hi rest
end
mutual
theorem flat_resC {m : Hm} : ∀ {n : Nat} {d : D}, D.flat n d = true → Res m d d ∧ D.shp n d = true
  | _, .non, _ => ⟨.non, by simp [D.shp]⟩
  | _, .bl b, _ => ⟨.bl b, by simp [D.shp]⟩
  | _, .int i, _ => ⟨.int i, by simp [D.shp]⟩
  | _, .str s, h => ⟨.str s, by simpa [D.shp, D.flat] using h⟩
  | n, .tup ds, h => by
    cases n with
    | zero => simp [D.flat] at h
    | succ k =>
      have h : D.flats k ds = true := by simpa [D.flat] using h
      obtain ⟨h1, h2⟩ := flats_resC (m := m) h
      exact ⟨.tup h1, by simpa [D.shp] using h2⟩
  | _, .lst _, h => by simp [D.flat] at h
  | _, .ref _, h => by simp [D.flat] at h
theorem flats_resC {m : Hm} : ∀ {n : Nat} {ds : List D}, D.flats n ds = true → Ress m ds ds ∧ D.shps n ds = true
  | _, [], _ => ⟨.nil, by simp [D.shps]⟩
  | n, d :: ds, h => by
    have h : D.flat n d = true ∧ D.flats n ds = true := by simpa [D.flats] using h
    obtain ⟨h1, h2⟩ := flat_resC (m := m) h.1
    obtain ⟨h3, h4⟩ := flats_resC (m := m) h.2
    exact ⟨.cons h1 h3, by simp [D.shps, h2, h4]⟩
end
theorem look_all {f : D → Bool} {k : Ky} {d : D} : ∀ {l : List (Ky × D)}, (l.all fun kv => f kv.2) = true → look l k = some d → f d = true
  | [], _, h => by simp [look] at h
  | p :: r, ha, h => by
    rw [List.all_cons, Bool.and_eq_true] at ha
    rw [look_cons] at h
    split at h
    · cases h; exact ha.1
    · exact look_all ha.2 h
theorem khit {L : Lk} {m : Hm} {H : Hp} (rel : Rel L m H) {k2 : List (Ky × D)} {ls : List (Key × V)} (f2 : (k2.all fun kv => D.flat 60 kv.2) = true) (r2 : KvR L.F H kyV k2 ls) :
    ∀ {k1 : List (Ky × D)} {ks : List (Key × V)}, (k1.all fun kv => D.flat 60 kv.2) = true → KvR L.F H kyV k1 ks → KHit L.F H ls ks (eqKs k2 k1)
  | _, _, _, .nil => .nil
  | (k, d) :: r, (kk, z) :: t, f1, .cons h rest => by
    rw [List.all_cons, Bool.and_eq_true] at f1
    obtain ⟨h1, h2⟩ := h
    have h1 : kk = kyV k := h1
    have h2 : Rp L.F H d z := h2
    subst h1
    have ih := khit rel f2 r2 f1.2 rest
    rcases r2.look (fun _ _ z => kyV_inj z) (k := k) with ⟨e1, e2⟩ | ⟨d2, z2, e1, e2, e3⟩
    · have e : eqKs k2 ((k, d) :: r) = false := by simp only [eqKs, e1]
      rw [e]
      exact .miss e2
    · have fd2 := look_all (f := fun d => D.flat 60 d) f2 e1
      obtain ⟨q1, s1⟩ := flat_resC (m := m) f1.1
      obtain ⟨q2, s2⟩ := flat_resC (m := m) fd2
      have e : eqKs k2 ((k, d) :: r) = (D.eqv d d2 && eqKs k2 r) := by simp only [eqKs, e1]
      rw [e, ← eqv_ok d d2 s1 s2]
      exact .hit e2 (q1.dp rel h2) (q2.dp rel e3) (shp_ok s1) (shp_ok s2) ih
section
variable {L : Lk} {m : Hm} {H : Hp} {P : PD} {Q : VK} {x y : D} {v u : V}
theorem Res.scal (h : scalD x = true) : Res m x x := by
  cases x with
  | non => exact .non
  | bl b => exact .bl b
  | int b => exact .int b
  | str b => exact .str b
  | _ => simp [scalD] at h
theorem natLt_lt : ∀ (s t : List Nat), natLt s t = decide (s < t)
  | [], [] => by simp [natLt]
  | _ :: _, [] => by simp [natLt]
  | [], _ :: _ => by simp [natLt]
  | x :: xs, y :: ys => by
    simp only [natLt, List.cons_lt_cons_iff, natLt_lt xs ys]
    by_cases e : x = y
    · subst e
      simp
    · rw [if_neg e]
      simp [e]
theorem eqv_scal (hx : scalD x = true) (hy : scalD y = true) (rx : Rp L.F H x v) (ry : Rp L.F H y u) : (scal v u = true ∧ decide (v = u) = D.eqv x y) ∨ (∃ d e, Dp L.F H v d ∧ Dp L.F H u e ∧ SeqAt.shaped d = true ∧ SeqAt.shaped e = true ∧ PyData.eqv d e = D.eqv x y) := by
  cases rx with
  | non => cases ry with
    | non => exact .inl ⟨rfl, by simp [D.eqv]⟩
    | bl b => exact .inl ⟨rfl, by simp [D.eqv]⟩
    | int b => exact .inl ⟨rfl, by simp [D.eqv]⟩
    | str b => exact .inl ⟨rfl, by simp [D.eqv]⟩
    | _ => simp [scalD] at hy
  | bl a => cases ry with
    | non => exact .inl ⟨rfl, by simp [D.eqv]⟩
    | bl b => exact .inl ⟨rfl, by simp [D.eqv]; rfl⟩
    | int b => exact .inr ⟨_, _, .bl a, .int b, by simp [SeqAt.shaped, PyData.canLay0, PyData.depth], by simp [SeqAt.shaped, PyData.canLay0, PyData.depth], by simp [D.eqv, PyData.eqv]⟩
    | str b => exact .inl ⟨rfl, by simp [D.eqv]⟩
    | _ => simp [scalD] at hy
  | int a => cases ry with
    | non => exact .inl ⟨rfl, by simp [D.eqv]⟩
    | bl b => exact .inr ⟨_, _, .int a, .bl b, by simp [SeqAt.shaped, PyData.canLay0, PyData.depth], by simp [SeqAt.shaped, PyData.canLay0, PyData.depth], by simp [D.eqv, PyData.eqv]⟩
    | int b => exact .inl ⟨rfl, by simp [D.eqv]; rfl⟩
    | str b => exact .inl ⟨rfl, by simp [D.eqv]⟩
    | _ => simp [scalD] at hy
  | str a => cases ry with
    | non => exact .inl ⟨rfl, by simp [D.eqv]⟩
    | bl b => exact .inl ⟨rfl, by simp [D.eqv]⟩
    | int b => exact .inl ⟨rfl, by simp [D.eqv]⟩
    | str b => exact .inl ⟨rfl, by simp only [D.eqv, ← toS_beq]; rw [dec_str]⟩
    | _ => simp [scalD] at hy
  | _ => simp [scalD] at hx
theorem eqk_ok {neg : Bool} (h : eqDk x y neg m P) (rx : Rp L.F H x v) (ry : Rp L.F H y u) (rel : Rel L m H) (q : Kt L H P Q) : rEqK L.F neg v u H Q := by
  unfold eqDk at h
  split at h
  · rename_i a b
    split at h
    · rename_i k1 k2 e1 e2
      obtain ⟨f1, f2, hp⟩ := h
      cases rx
      cases ry
      obtain ⟨ks, h1, r1⟩ := rel _ _ e1
      obtain ⟨ls, h2, r2⟩ := rel _ _ e2
      refine ⟨a, b, ks, ls, eqKs k2 k1, rfl, rfl, h1, h2, khit rel f2 r2 f1 r1, ?_⟩
      rw [show (ks.length == ls.length) = (k1.length == k2.length) by rw [← Paired.length r1, ← Paired.length r2]]
      exact q.here hp (.bl _) rel
    · exact h.elim
  · exact h.elim
theorem eq_ok (h : eqW x y false m P) (rx : Rp L.F H x v) (ry : Rp L.F H y u) (rel : Rel L m H) (q : Kt L H P Q) : cmpR L .eq v u H Q := by
  unfold eqW at h
  split at h
  · rename_i hs
    rw [Bool.and_eq_true] at hs
    have fin : Q (.bl (D.eqv x y)) H := q.here (by simpa using h) (.bl _) rel
    rcases eqv_scal hs.1 hs.2 rx ry with ⟨h1, h2⟩ | ⟨d, e, h1, h2, h3, h4, h5⟩
    · exact .inl ⟨h1, by rw [h2]; exact fin⟩
    · exact .inr (.inl ⟨d, e, h1, h2, h3, h4, by rw [h5]; exact fin⟩)
  · rcases h with ⟨x2, y2, r1, r2, s1, s2, hp⟩ | h
    · refine .inr (.inl ⟨_, _, r1.dp rel rx, r2.dp rel ry, shp_ok s1, shp_ok s2, ?_⟩)
      rw [eqv_ok _ _ s1 s2]
      exact q.here (by simpa using hp) (.bl _) rel
    · exact .inr (.inr (eqk_ok h rx ry rel q))
theorem ne_ok (h : eqW x y true m P) (rx : Rp L.F H x v) (ry : Rp L.F H y u) (rel : Rel L m H) (q : Kt L H P Q) : cmpR L .ne v u H Q := by
  unfold eqW at h
  split at h
  · rename_i hs
    rw [Bool.and_eq_true] at hs
    have fin : Q (.bl (!D.eqv x y)) H := q.here (by simpa using h) (.bl _) rel
    rcases eqv_scal hs.1 hs.2 rx ry with ⟨h1, h2⟩ | ⟨d, e, h1, h2, h3, h4, h5⟩
    · exact .inl ⟨h1, by rw [h2]; exact fin⟩
    · exact .inr (.inl ⟨d, e, h1, h2, h3, h4, by rw [h5]; exact fin⟩)
  · rcases h with ⟨x2, y2, r1, r2, s1, s2, hp⟩ | h
    · refine .inr (.inl ⟨_, _, r1.dp rel rx, r2.dp rel ry, shp_ok s1, shp_ok s2, ?_⟩)
      rw [eqv_ok _ _ s1 s2]
      exact q.here (by simpa using hp) (.bl _) rel
    · exact .inr (.inr (eqk_ok h rx ry rel q))
theorem ord_ok {op : Cop} (ho : op = .lt ∨ op = .le ∨ op = .gt ∨ op = .ge) (h : ordW op x y m P) (rx : Rp L.F H x v) (ry : Rp L.F H y u) (rel : Rel L m H) (q : Kt L H P Q) : cmpR L op v u H Q := by
  rcases ho with rfl | rfl | rfl | rfl
  all_goals
    cases rx with
    | int i => cases ry with
      | int j => exact .inl ⟨i, j, rfl, rfl, q.here h (.bl _) rel⟩
      | _ => exact h.elim
    | str s => cases ry with
      | str t => exact .inr (.inl ⟨_, _, rfl, rfl, by rw [toS_list, toS_list, ← natLt_lt]; exact q.here h (.bl _) rel⟩)
      | _ => exact h.elim
    | tup sq rs => cases ry with
      | tup sq2 rs2 =>
        obtain ⟨d, e, h1, h2, h3, h4, h5, h6, h7⟩ := ordT h.1 (.tup sq rs) (.tup sq2 rs2) rel
        refine .inr (.inr ⟨d, e, h1, h2, h3, h4, h5, ?_⟩)
        first
          | (show Q (.bl (PySem.W.dataLt d e)) H; rw [h6]; exact q.here h.2 (.bl _) rel)
          | (show Q (.bl (!PySem.W.dataLt e d)) H; rw [h7]; exact q.here h.2 (.bl _) rel)
          | (show Q (.bl (PySem.W.dataLt e d)) H; rw [h7]; exact q.here h.2 (.bl _) rel)
          | (show Q (.bl (!PySem.W.dataLt d e)) H; rw [h6]; exact q.here h.2 (.bl _) rel)
      | _ => exact h.elim
    | _ => cases ry <;> exact h.elim
theorem is_ok (h : isW x y false m P) (rx : Rp L.F H x v) (ry : Rp L.F H y u) (rel : Rel L m H) (q : Kt L H P Q) : cmpR L .is_ v u H Q := by
  cases ry with
  | non =>
    refine .inr (.inl ⟨rfl, ?_⟩)
    cases rx with
    | non => exact q.here (by simpa [isW] using h) (.bl _) rel
    | _ => exact q.here (d := .bl false) (by simpa [isW] using h) (.bl _) rel
  | bl b =>
    cases rx with
    | bl a =>
      refine .inl ⟨a, b, rfl, rfl, ?_⟩
      have e : decide (a = b) = (a == b) := by cases a <;> cases b <;> rfl
      rw [e]
      exact q.here (by simpa [isW] using h) (.bl _) rel
    | _ => exact h.elim
  | ref b =>
    cases rx with
    | ref a =>
      have h : (match m a, m b with
        | some (.lst _), some (.lst _) => P (.bl (xor false (a == b))) m
        | some (.ins _ _), some (.ins _ _) => P (.bl (xor false (a == b))) m
        | _, _ => False) := h
      refine .inr (.inr ?_)
      have e : (a == b) = decide (a = b) := by rw [Bool.eq_iff_iff]; simp
      split at h
      · rename_i xs ys ea eb
        obtain ⟨vs, ha, ra⟩ := rel _ _ ea
        obtain ⟨ws, hb, rb⟩ := rel _ _ eb
        exact ⟨a, b, _, _, rfl, rfl, ha, rfl, hb, rfl, q.here (by rw [← e]; exact h) (.bl _) rel⟩
      · rename_i ea eb
        obtain ⟨_, _, _, _, ha, ra⟩ := rel _ _ ea
        obtain ⟨_, _, _, _, hb, rb⟩ := rel _ _ eb
        exact ⟨a, b, _, _, rfl, rfl, ha, rfl, hb, rfl, q.here (by rw [← e]; exact h) (.bl _) rel⟩
      · exact h.elim
    | _ => exact h.elim
  | _ => cases rx <;> exact h.elim
theorem isn_ok (h : isW x y true m P) (rx : Rp L.F H x v) (ry : Rp L.F H y u) (rel : Rel L m H) (q : Kt L H P Q) : cmpR L .isn v u H Q := by
  cases ry with
  | non =>
    refine .inr (.inl ⟨rfl, ?_⟩)
    cases rx with
    | non => exact q.here (d := .bl false) (by simpa [isW] using h) (.bl _) rel
    | _ => exact q.here (d := .bl true) (by simpa [isW] using h) (.bl _) rel
  | bl b =>
    cases rx with
    | bl a =>
      refine .inl ⟨a, b, rfl, rfl, ?_⟩
      have e : (!decide (a = b)) = xor true (a == b) := by cases a <;> cases b <;> rfl
      rw [e]
      exact q.here h (.bl _) rel
    | _ => exact h.elim
  | ref b =>
    cases rx with
    | ref a =>
      have h : (match m a, m b with
        | some (.lst _), some (.lst _) => P (.bl (xor true (a == b))) m
        | some (.ins _ _), some (.ins _ _) => P (.bl (xor true (a == b))) m
        | _, _ => False) := h
      refine .inr (.inr ?_)
      have e : (a == b) = decide (a = b) := by rw [Bool.eq_iff_iff]; simp
      split at h
      · rename_i xs ys ea eb
        obtain ⟨vs, ha, ra⟩ := rel _ _ ea
        obtain ⟨ws, hb, rb⟩ := rel _ _ eb
        exact ⟨a, b, _, _, rfl, rfl, ha, rfl, hb, rfl, q.here (by rw [← e]; exact h) (.bl _) rel⟩
      · rename_i ea eb
        obtain ⟨_, _, _, _, ha, ra⟩ := rel _ _ ea
        obtain ⟨_, _, _, _, hb, rb⟩ := rel _ _ eb
        exact ⟨a, b, _, _, rfl, rfl, ha, rfl, hb, rfl, q.here (by rw [← e]; exact h) (.bl _) rel⟩
      · exact h.elim
    | _ => exact h.elim
  | _ => cases rx <;> exact h.elim
end
end Mn
end

section
set_option Elab.async false
set_option linter.all false
set_option maxRecDepth 100000
set_option maxHeartbeats 4000000
/-! Mn, part D: in, subscripts, slices, truth, built-in calls and methods, by values. -/
namespace Mn
open PySem PySem.Spec PyProof.Rows L2

/-! ### dicts -/
section
variable {F : PySem.W.Frag} {H : Hp} {κ ι : Type} [DecidableEq κ] [DecidableEq ι] {inj : κ → ι}
theorem KvR.any (hi : ∀ a b, inj a = inj b → a = b) {k : κ} : ∀ {kvs : List (κ × D)} {kws : List (ι × V)}, KvR F H inj kvs kws →
    (kvs.any fun kv => decide (kv.1 = k)) = kws.any fun kv => decide (kv.1 = inj k)
  | _, _, .nil => rfl
  | p :: r, q :: t, .cons h rest => by
    rw [List.any_cons, List.any_cons, KvR.any hi rest, h.1]
    congr 1
    by_cases e : p.1 = k
    · simp [e]
    · have : ¬ inj p.1 = inj k := fun z => e (hi _ _ z)
      simp [e, this]
theorem KvR.snoc {k : κ} {d : D} {v : V} (rd : Rp F H d v) : ∀ {kvs : List (κ × D)} {kws : List (ι × V)}, KvR F H inj kvs kws → KvR F H inj (kvs ++ [(k, d)]) (kws ++ [(inj k, v)])
  | _, _, .nil => .cons ⟨rfl, rd⟩ .nil
  | p :: r, q :: t, .cons h rest => .cons h (KvR.snoc rd rest)
theorem KvR.mapk (hi : ∀ a b, inj a = inj b → a = b) {k : κ} {d : D} {v : V} (rd : Rp F H d v) : ∀ {kvs : List (κ × D)} {kws : List (ι × V)}, KvR F H inj kvs kws →
    KvR F H inj (kvs.map fun kv => if kv.1 = k then (kv.1, d) else kv) (kws.map fun kv => if kv.1 = inj k then (kv.1, v) else kv)
  | _, _, .nil => .nil
  | p :: r, q :: t, .cons h rest => by
    rw [List.map_cons, List.map_cons]
    refine .cons ?_ (KvR.mapk hi rd rest)
    by_cases e : p.1 = k
    · rw [if_pos e, if_pos (show q.1 = inj k by rw [h.1, e])]
      exact ⟨h.1, rd⟩
    · rw [if_neg e, if_neg (show ¬ q.1 = inj k from fun z => e (hi _ _ (by rw [← h.1, z])))]
      exact h
theorem KvR.put (hi : ∀ a b, inj a = inj b → a = b) {k : κ} {d : D} {v : V} (rd : Rp F H d v) {kvs : List (κ × D)} {kws : List (ι × V)} (r : KvR F H inj kvs kws) : KvR F H inj (putk kvs k d) (putK kws (inj k) v) := by
  unfold putk putK
  rw [r.any hi]
  split
  · exact r.mapk hi rd
  · exact r.snoc rd
theorem KvR.drop (hi : ∀ a b, inj a = inj b → a = b) {k : κ} : ∀ {kvs : List (κ × D)} {kws : List (ι × V)}, KvR F H inj kvs kws → KvR F H inj (dropk kvs k) (dropK kws (inj k))
  | _, _, .nil => .nil
  | p :: r, q :: t, .cons h rest => by
    have ih := KvR.drop hi (k := k) rest
    unfold dropk dropK at ih ⊢
    rw [List.filter_cons, List.filter_cons]
    by_cases e : p.1 = k
    · have e2 : q.1 = inj k := by rw [h.1, e]
      simp only [e, e2, ne_eq, not_true_eq_false, decide_false, Bool.false_eq_true, if_false]
      exact ih
    · have e2 : ¬ q.1 = inj k := fun z => e (hi _ _ (by rw [← h.1, z]))
      simp only [e, e2, ne_eq, not_false_eq_true, decide_true, if_true]
      exact .cons h ih
theorem KvR.len {kvs : List (κ × D)} {kws : List (ι × V)} (r : KvR F H inj kvs kws) : kvs.length = kws.length := Paired.length r
end
section
variable {L : Lk} {m : Hm} {H : Hp} {P : PD} {Q : VK} {x y : D} {v u : V} {a : Addr}
theorem ky_rp {k : Ky} (e : kyOf x = some k) (r : Rp L.F H x v) : v = kV (kyV k) := by
  cases r with
  | int i => cases e; rfl
  | str s => cases e; rfl
  | _ => cases e
/-- a key of a plain dict -/
theorem dget_ok {o : Option D} (h : dget m a x = some o) (rx : Rp L.F H x v) (rel : Rel L m H) : (∃ w, DGet H a v w ∧ ((o = none ∧ w = none) ∨ ∃ d z, o = some d ∧ w = some z ∧ Rp L.F H d z)) ∨
    ∃ ks kvs xs, x = .tup ks ∧ D.keyds 7 ks = true ∧ DtV L H a kvs xs ∧ o = look kvs ks := by
  unfold dget at h
  split at h
  · rename_i kvs i e
    obtain ⟨kws, hk, r⟩ := rel _ _ e
    cases rx
    cases h
    refine .inl ⟨_, .inl ⟨kws, Sum.inl i, .inl hk, rfl, rfl⟩, ?_⟩
    rcases r.look (fun _ _ z => kyV_inj z) (k := Sum.inl i) with ⟨e1, e2⟩ | ⟨d, z, e1, e2, e3⟩
    · exact .inl ⟨e1, e2⟩
    · exact .inr ⟨d, z, e1, e2, e3⟩
  · rename_i kvs s e
    obtain ⟨kws, hk, r⟩ := rel _ _ e
    cases rx
    cases h
    refine .inl ⟨_, .inl ⟨kws, Sum.inr (toS s), .inl hk, rfl, rfl⟩, ?_⟩
    rcases r.look (fun _ _ z => kyV_inj z) (k := Sum.inr s) with ⟨e1, e2⟩ | ⟨d, z, e1, e2, e3⟩
    · exact .inl ⟨e1, e2⟩
    · exact .inr ⟨d, z, e1, e2, e3⟩
  · rename_i ks e
    split at h
    · rename_i hs
      cases h
      obtain ⟨kws, hk, r⟩ := rel _ _ e
      cases r
      exact .inr ⟨ks, [], [], rfl, hs, .inr ⟨hk, rfl, rfl⟩, rfl⟩
    · cases h
  · rename_i kvs ks e
    split at h
    · rename_i hs
      cases h
      obtain ⟨xs, hx, r⟩ := rel _ _ e
      exact .inr ⟨ks, kvs, xs, rfl, hs, .inl ⟨hx, r⟩, rfl⟩
    · cases h
  · rename_i kvs i e
    obtain ⟨od, kws, hk, r⟩ := rel _ _ e
    cases rx
    cases h
    refine .inl ⟨_, .inl ⟨kws, Sum.inl i, .inr ⟨od, hk⟩, rfl, rfl⟩, ?_⟩
    rcases r.look (fun _ _ z => kyV_inj z) (k := Sum.inl i) with ⟨e1, e2⟩ | ⟨d, z, e1, e2, e3⟩
    · exact .inl ⟨e1, e2⟩
    · exact .inr ⟨d, z, e1, e2, e3⟩
  · rename_i kvs s e
    obtain ⟨od, kws, hk, r⟩ := rel _ _ e
    cases rx
    cases h
    refine .inl ⟨_, .inl ⟨kws, Sum.inr (toS s), .inr ⟨od, hk⟩, rfl, rfl⟩, ?_⟩
    rcases r.look (fun _ _ z => kyV_inj z) (k := Sum.inr s) with ⟨e1, e2⟩ | ⟨d, z, e1, e2, e3⟩
    · exact .inl ⟨e1, e2⟩
    · exact .inr ⟨d, z, e1, e2, e3⟩
  · cases h
theorem dput_ok {ob : MO} (h : dput m a x y = some ob) (rx : Rp L.F H x v) (ry : Rp L.F H y u) (rel : Rel L m H) : (∃ H2, DPut H a v u H2 ∧ Rel L (up m a ob) H2 ∧ Kp H H2) ∨
    ∃ ks kvs xs, x = .tup ks ∧ D.keyds 7 ks = true ∧ DtV L H a kvs xs ∧ xs.length < sizeLine ∧ ob = .dT (putk kvs ks y) := by
  unfold dput at h
  split at h
  · rename_i kvs i e
    obtain ⟨kws, hk, r⟩ := rel _ _ e
    cases rx
    split at h
    · rename_i hz
      cases h
      have k := Kp.over (o := HO.dK (putK kws (Sum.inl i) u)) hk trivial
      exact .inl ⟨_, .inl ⟨kws, Sum.inl i, hk, rfl, by rw [← r.len]; exact SZ_lt hz, rfl⟩, rel.put k ⟨_, upd_same, ((KvR.put (fun _ _ z => kyV_inj z) (k := Sum.inl i) ry r).mono k)⟩, k⟩
    · cases h
  · rename_i kvs s e
    obtain ⟨kws, hk, r⟩ := rel _ _ e
    cases rx
    split at h
    · rename_i hz
      cases h
      have k := Kp.over (o := HO.dK (putK kws (Sum.inr (toS s)) u)) hk trivial
      exact .inl ⟨_, .inl ⟨kws, Sum.inr (toS s), hk, rfl, by rw [← r.len]; exact SZ_lt hz, rfl⟩, rel.put k ⟨_, upd_same, ((KvR.put (fun _ _ z => kyV_inj z) (k := Sum.inr s) ry r).mono k)⟩, k⟩
    · cases h
  · rename_i ks e
    split at h
    · rename_i hs
      cases h
      obtain ⟨kws, hk, r⟩ := rel _ _ e
      cases r
      exact .inr ⟨ks, [], [], rfl, hs, .inr ⟨hk, rfl, rfl⟩, by rw [sizeLine_eq]; decide, rfl⟩
    · cases h
  · rename_i kvs ks e
    split at h
    · rename_i hs
      cases h
      obtain ⟨xs, hx, r⟩ := rel _ _ e
      exact .inr ⟨ks, kvs, xs, rfl, hs.1, .inl ⟨hx, r⟩, by rw [← r.len]; exact SZ_lt hs.2, rfl⟩
    · cases h
  · cases h

/-! ### in -/
theorem flat_rp (h : scalD x = true) (r : Rp L.F H x v) : flatV v = true := by
  cases r <;> first | rfl | simp [scalD] at h
theorem flats_rp : ∀ {ds : List D} {vs : List V}, ds.all scalD = true → Rps L.F H ds vs → vs.all flatV = true
  | _, _, _, .nil => rfl
  | _, _, h, .cons a b => by
    rw [List.all_cons, Bool.and_eq_true] at h ⊢
    exact ⟨flat_rp h.1 a, flats_rp h.2 b⟩
theorem eqV_rp (hx : scalD x = true) (hy : scalD y = true) (rx : Rp L.F H x v) (ry : Rp L.F H y u) : eqV v u = D.eqv x y := by
  cases rx with
  | str a => cases ry with
    | str b => simp only [eqV, D.eqv, toS_beq]
    | _ => first | rfl | simp [scalD] at hy
  | _ => cases ry <;> first | rfl | simp [scalD] at hy | simp [scalD] at hx
theorem anyV_rp (hx : scalD x = true) (rx : Rp L.F H x v) : ∀ {ds : List D} {vs : List V}, ds.all scalD = true → Rps L.F H ds vs → (vs.any fun z => eqV z v) = ds.any fun z => D.eqv z x
  | _, _, _, .nil => rfl
  | _, _, h, .cons a b => by
    rw [List.all_cons, Bool.and_eq_true] at h
    rw [List.any_cons, List.any_cons, eqV_rp h.1 hx a rx, anyV_rp hx rx h.2 b]
theorem in_ok {neg : Bool} (h : inW x y neg m P) (rx : Rp L.F H x v) (ry : Rp L.F H y u) (rel : Rel L m H) (q : Kt L H P Q) : cmpR L (if neg then .nin else .in_) v u H Q := by
  have kit : cmpR0 L.F (if neg then .nin else .in_) v u H Q → cmpR L (if neg then .nin else .in_) v u H Q := by cases neg <;> exact .inl
  have dic : ∀ {a : Addr} {o : Option D}, u = .ref a → dget m a x = some o → P (.bl (xor neg o.isSome)) m → cmpR L (if neg then .nin else .in_) v u H Q := by
    intro a o eu ho hp
    subst eu
    rcases dget_ok ho rx rel with ⟨w, hg, hw⟩ | ⟨ks, kvs, xs, e1, e2, e3, e4⟩
    · have e : w.isSome = o.isSome := by
        rcases hw with ⟨e1, e2⟩ | ⟨d, z, e1, e2, _⟩ <;> rw [e1, e2] <;> rfl
      cases neg with
      | false => exact .inl (.inr (.inr (.inr (.inl ⟨a, w, rfl, hg, by rw [e]; exact q.here hp (.bl _) rel⟩))))
      | true => exact .inl (.inr (.inr (.inr (.inl ⟨a, w, rfl, hg, by rw [e]; exact q.here hp (.bl _) rel⟩))))
    · subst e1 e4
      cases neg with
      | false => exact .inr ⟨a, kvs, xs, ks, rfl, e3, rx, e2, q.here hp (.bl _) rel⟩
      | true => exact .inr ⟨a, kvs, xs, ks, rfl, e3, rx, e2, q.here hp (.bl _) rel⟩
  cases ry with
  | @tup ds a vs sq rs =>
    obtain ⟨h1, h2⟩ := h
    rw [Bool.or_eq_true] at h1
    rcases h1 with h1 | h1
    · rw [Bool.and_eq_true] at h1
      have e : inV v vs = ds.any fun z => D.eqv z x := anyV_rp h1.1 rx h1.2 rs
      refine kit ?_
      cases neg with
      | false => exact .inl ⟨a, vs, rfl, .inr sq.sq, flat_rp h1.1 rx, flats_rp h1.2 rs, by rw [if_neg Bool.false_ne_true, e]; exact q.here (by simpa using h2) (.bl _) rel⟩
      | true => exact .inl ⟨a, vs, rfl, .inr sq.sq, flat_rp h1.1 rx, flats_rp h1.2 rs, by rw [if_pos rfl, e]; exact q.here (by simpa using h2) (.bl _) rel⟩
    · rw [Bool.and_eq_true] at h1
      have s1 := flat_shp h1.1
      have s2 := flats_shp h1.2
      have up : ∀ {n : Nat} {d : D}, n ≤ 60 → D.shp n d = true → SeqAt.shaped (toP d) = true := by
        intro n d hn hd
        have l1 := shp_lay hd
        have l2 := shp_dep hd
        unfold SeqAt.shaped
        rw [l1, Bool.true_and, decide_eq_true_eq]
        omega
      have a2 := up (n := 59) (by decide) (show D.shp 59 (.tup ds) = true by simpa only [D.shp] using s2)
      have key : ((toPs ds).any fun z => PyData.eqv z (toP x)) = ds.any fun z => D.eqv z x := by
        clear h2 rs rx sq a2
        induction ds with
        | nil => rfl
        | cons d ds ih =>
          have h3 : D.flat 58 d = true ∧ D.flats 58 ds = true := by simpa [D.flats] using h1.2
          simp only [toPs, List.any_cons]
          rw [eqv_ok d x (flat_shp h3.1) s1, ih ⟨h1.1, h3.2⟩ (flats_shp h3.2)]
      refine kit ?_
      have d1 := (flat_self (m := m) h1.1).dp rel rx
      have d2 := (Res.tup (flats_self (m := m) h1.2)).dp rel (.tup sq rs)
      cases neg with
      | false => exact .inr (.inr (.inr (.inr ⟨toP x, toPs ds, d1, d2, up (by decide) s1, a2, by rw [key]; exact q.here (by simpa using h2) (.bl _) rel⟩)))
      | true => exact .inr (.inr (.inr (.inr ⟨toP x, toPs ds, d1, d2, up (by decide) s1, a2, by rw [key]; exact q.here (by simpa using h2) (.bl _) rel⟩)))
  | str t =>
    cases rx with
    | str s =>
      cases s with
      | nil => exact h.elim
      | cons c r => cases r with
        | cons _ _ => exact h.elim
        | nil =>
          have e : decide (c ∈ (toS t).cps.toList) = t.contains c := by rw [toS_list, Bool.eq_iff_iff]; simp
          refine kit ?_
          cases neg with
          | false => exact .inr (.inl ⟨c, _, rfl, rfl, by rw [e]; exact q.here (by simpa [inW] using h) (.bl _) rel⟩)
          | true => exact .inr (.inl ⟨c, _, rfl, rfl, by rw [e]; exact q.here (by simpa [inW] using h) (.bl _) rel⟩)
    | _ => exact h.elim
  | ref a =>
    unfold inW at h
    simp only at h
    split at h
    · rename_i ds e
      obtain ⟨x2, ds2, r1, r2, s1, s2, hp⟩ := h
      obtain ⟨vs, hv, rv⟩ := rel _ _ e
      have dp := r2.dp rel rv
      have fin : ∀ b, b = (ds2.any fun z => D.eqv z x2) → ((toPs ds2).any fun z => PyData.eqv z (toP x2)) = b := fun b hb => by rw [any_ok s1 s2, hb]
      refine kit ?_
      cases neg with
      | false => exact .inr (.inr (.inl ⟨_, _, r1.dp rel rx, .lst (SqL.of hv) dp, shp_ok s1, shps_ok s2, by rw [any_ok s1 s2]; exact q.here (by simpa using hp) (.bl _) rel⟩))
      | true => exact .inr (.inr (.inl ⟨_, _, r1.dp rel rx, .lst (SqL.of hv) dp, shp_ok s1, shps_ok s2, by rw [any_ok s1 s2]; exact q.here (by simpa using hp) (.bl _) rel⟩))
    · obtain ⟨o, ho, hp⟩ := h
      exact dic rfl ho hp
    · obtain ⟨o, ho, hp⟩ := h
      exact dic rfl ho hp
    · obtain ⟨o, ho, hp⟩ := h
      exact dic rfl ho hp
    · exact h.elim
  | _ => exact h.elim
theorem cmp_ok {op : Cop} (h : cmpW op x y m P) (rx : Rp L.F H x v) (ry : Rp L.F H y u) (rel : Rel L m H) (q : Kt L H P Q) : cmpR L op v u H Q := by
  cases op with
  | eq => exact eq_ok h rx ry rel q
  | ne => exact ne_ok h rx ry rel q
  | is_ => exact is_ok h rx ry rel q
  | isn => exact isn_ok h rx ry rel q
  | in_ => exact in_ok (neg := false) h rx ry rel q
  | nin => exact in_ok (neg := true) h rx ry rel q
  | lt => exact ord_ok (.inl rfl) h rx ry rel q
  | le => exact ord_ok (.inr (.inl rfl)) h rx ry rel q
  | gt => exact ord_ok (.inr (.inr (.inl rfl))) h rx ry rel q
  | ge => exact ord_ok (.inr (.inr (.inr rfl))) h rx ry rel q
end

/-! ### subscripts -/
def rIxD : R2 := fun x y H Q => ∃ a v, x = .ref a ∧ DGet H a y (some v) ∧ Q v H
theorem ix_dict {X : Cx} (hu : X.A.units + 1 < cLine) : IxR X rIxD := by
  intro value slice pins s σ H x y v u Q I rx ry h hs
  obtain ⟨a, w, rfl, g, q⟩ := h
  obtain rfl : v = Value.ref a := rx
  exact tail_any (dict_typeIs I g) PySem.F.slot_dict_getitem.lookup (d_getItem hu I g ry fun w2 s2 I2 r2 => ⟨w, H, I2, r2, q⟩) hs
def rIxT (L : Lk) : R2 := fun x y H Q => ∃ a kvs xs ks v, x = .ref a ∧ DtV L H a kvs xs ∧ Rp L.F H (.tup ks) y ∧ D.keyds 7 ks = true ∧ getX xs (nkT ks) = some v ∧ Q v H
theorem ix_dT {X : Cx} {L : Lk} (hk : X.K = L.F) (hw : X.w = L.w) (hu : X.A.units + 65 < cLine) : IxR X (rIxT L) := by
  intro value slice pins s σ H x y v u Q I rx ry h hs
  obtain ⟨a, kvs, xs, ks, w, rfl, D, rk, hk2, g, q⟩ := h
  obtain rfl : v = Value.ref a := rx
  obtain ⟨b, rfl⟩ := rk.tup_ref
  obtain rfl : u = Value.ref b := ry
  have N := D.now hk hw I
  obtain ⟨ys, _, dd⟩ := N.d
  exact tail_any (show s.TypeIs (.ref a) "dict" from dd.typeIs) PySem.F.slot_dict_getitem.lookup (dt_getItem (by omega) I N (keyT_is hk I hk2 rk) g fun w2 s2 I2 r2 => ⟨w, H, I2, r2, q⟩) hs
def ixR (L : Lk) : R2 := fun x y H Q => rIx L.F x y H Q ∨ rIxD x y H Q ∨ rIxT L x y H Q
theorem ixS {X : Cx} {L : Lk} (hk : X.K = L.F) (hw : X.w = L.w) (hu : X.A.units + 65 < cLine) : IxR X (ixR L) := by
  have h := ix_seq (X := X)
  rw [hk] at h
  exact h.or ((ix_dict (by omega)).or (ix_dT hk hw hu))
section
variable {L : Lk} {m : Hm} {H : Hp} {P : PD} {Q : VK} {x y : D} {v u : V} {a : Addr}
theorem atI_rps {ds : List D} {vs : List V} {i : Int} {d : D} (r : Rps L.F H ds vs) (h : Mn.atI ds i = some d) : ∃ w, L2.atI vs i = some w ∧ Rp L.F H d w := by
  unfold Mn.atI at h
  unfold L2.atI
  rw [← r.length]
  cases e : Mn.ixN ds.length i with
  | none => rw [e] at h; cases h
  | some j =>
    rw [e] at h
    obtain ⟨w, h1, h2⟩ := r.get (i := j) (d := d) h
    exact ⟨w, by rw [show L2.ixN ds.length i = some j from e]; exact h1, h2⟩
theorem ix_ok (h : ixW x y m P) (rx : Rp L.F H x v) (ry : Rp L.F H y u) (rel : Rel L m H) (q : Kt L H P Q) : ixR L v u H Q := by
  cases rx with
  | @tup ds a vs sq rs => cases ry with
    | int i =>
      obtain ⟨d, hd, hp⟩ := h
      obtain ⟨w, h1, h2⟩ := atI_rps rs hd
      exact .inl (.inr (.inl ⟨a, vs, i, w, rfl, rfl, sq.sq, h1, q.here hp h2 rel⟩))
    | _ => exact h.elim
  | @lst ds a vs sq rs => cases ry with
    | int i =>
      obtain ⟨d, hd, hp⟩ := h
      obtain ⟨w, h1, h2⟩ := atI_rps rs hd
      exact .inl (.inl ⟨a, vs, i, w, rfl, rfl, sq.sq, h1, q.here hp h2 rel⟩)
    | _ => exact h.elim
  | str s => cases ry with
    | int i =>
      obtain ⟨hz, c, hc, hp⟩ := h
      exact .inl (.inr (.inr ⟨toS s, i, c, rfl, rfl, by rw [toS_len]; exact SZ_line hz, by rw [toS_list]; exact hc, q.here hp (.str [c]) rel⟩))
    | _ => exact h.elim
  | ref a =>
    have dic : ∀ {d : D}, dget m a y = some (some d) → P d m → ixR L (.ref a) u H Q := fun {d} hg hp => by
      rcases dget_ok hg ry rel with ⟨w, h1, h2⟩ | ⟨ks, kvs, xs, e1, e2, e3, e4⟩
      · rcases h2 with ⟨e1, _⟩ | ⟨d2, z, e1, e2, e3⟩
        · cases e1
        · cases e1
          subst e2
          exact .inr (.inl ⟨a, z, rfl, h1, q.here hp e3 rel⟩)
      · subst e1
        rcases lookT e2 e3.r with ⟨g1, _⟩ | ⟨d2, z, g1, g2, g3⟩
        · rw [g1] at e4; cases e4
        · rw [g1] at e4
          cases e4
          exact .inr (.inr ⟨a, kvs, xs, ks, z, rfl, e3, ry, e2, g2, q.here hp g3 rel⟩)
    cases y with
    | int i =>
      unfold ixW at h
      simp only at h
      split at h
      · rename_i xs e
        obtain ⟨d, hd, hp⟩ := h
        obtain ⟨vs, hv, rs⟩ := rel _ _ e
        obtain ⟨w, h1, h2⟩ := atI_rps rs hd
        cases ry
        exact .inl (.inl ⟨a, vs, i, w, rfl, rfl, SqL.of hv, h1, q.here hp h2 rel⟩)
      · rename_i kvs e
        obtain ⟨d, hd, hp⟩ := h
        exact dic (d := d) (by unfold dget; rw [e]; simp only [hd]) hp
      · exact h.elim
    | _ => obtain ⟨d, hg, hp⟩ := h; exact dic hg hp
  | _ => exact h.elim

/-! ### slices -/
def slR (F : PySem.W.Frag) : V → Option Int → Option Int → Hp → VK → Prop := fun x lo hi H Q => rSlZ F x lo hi H Q ∨ rSlL F x lo hi H Q ∨ rSlS x lo hi H Q
theorem slS {X : Cx} : SlR X (slR X.K) := sl_tupZ.or (sl_list.or sl_str)
theorem cut_rps {ds : List D} {vs : List V} (r : Rps L.F H ds vs) (lo hi : Option Int) : Rps L.F H (cut ds lo hi) (cutV vs lo hi) := by
  unfold cut cutV
  rw [r.length]
  exact (r.drop _).take _
theorem cut_whole {α : Type} {ds : List α} {lo hi : Option Int} (h : sIx ds.length 0 lo = 0 ∧ sIx ds.length ds.length hi = ds.length) : cut ds lo hi = ds := by
  unfold cut
  rw [h.1, h.2]
  simp
theorem sl_ok {lo hi : Option Int} (h : slW x lo hi m P) (rx : Rp L.F H x v) (rel : Rel L m H) (q : Kt L H P Q) : slR L.F v lo hi H Q := by
  cases rx with
  | @tup ds a vs sq rs =>
    refine .inl ⟨a, vs, rfl, sq.sq, fun e => ?_, fun _ => q.tup h (cut_rps rs lo hi) rel⟩
    rw [← rs.length] at e
    have h2 : P (.tup (cut ds lo hi)) m := h
    rw [cut_whole e] at h2
    exact q.here h2 (.tup sq rs) rel
  | @lst ds a vs sq rs => exact .inr (.inl ⟨a, vs, rfl, sq.sq, fun p hp => q.lst h (cut_rps rs lo hi) rel hp⟩)
  | str s =>
    refine .inr (.inr ⟨_, rfl, by rw [toS_len]; exact SZ_line h.1, ?_⟩)
    have e : cutS (toS s) lo hi = toS (cut s lo hi) := by
      unfold cutS cut
      rw [toS_list, toS_len]
      rfl
    rw [e]
    exact q.here h.2 (.str _) rel
  | ref a =>
    unfold slW at h
    simp only at h
    split at h
    · rename_i xs e
      unfold getL at e
      split at e
      · rename_i ys e2
        cases e
        obtain ⟨vs, hv, rs⟩ := rel _ _ e2
        exact .inr (.inl ⟨a, vs, rfl, SqL.of hv, fun p hp => q.lst h (cut_rps rs lo hi) rel hp⟩)
      · cases e
    · exact h.elim
  | _ => exact h.elim

/-! ### truth -/
theorem isEmpty_rps {ds : List D} {vs : List V} (r : Rps L.F H ds vs) : (!vs.isEmpty) = !ds.isEmpty := by cases r <;> rfl
theorem truth_ok {b : Bool} (h : truth m x = some b) (rx : Rp L.F H x v) (rel : Rel L m H) : TruV L.F v H b := by
  cases rx with
  | non => cases h; rfl
  | bl c => cases h; rfl
  | int i => cases h; rfl
  | str s =>
    simp only [truth] at h
    split at h
    · rename_i hz
      cases h
      refine ⟨by rw [toS_len]; exact SZ_line hz, ?_⟩
      rw [toS_len]
      cases s with
      | nil => rfl
      | cons c t =>
        have e : (((c :: t).length : Int) != 0) = true := by simp only [List.length_cons, bne_iff_ne, ne_eq]; omega
        rw [e]; rfl
    · cases h
  | @tup ds a vs sq rs => cases h; exact .inr (.inl ⟨vs, sq.sq, (isEmpty_rps rs).symm⟩)
  | @lst ds a vs sq rs => cases h; exact .inl ⟨vs, sq.sq, (isEmpty_rps rs).symm⟩
  | ref a =>
    simp only [truth] at h
    split at h
    · rename_i xs e
      cases h
      obtain ⟨vs, hv, rs⟩ := rel _ _ e
      exact .inl ⟨vs, SqL.of hv, (isEmpty_rps rs).symm⟩
    · rename_i xs e
      cases h
      obtain ⟨vs, hv, rs⟩ := rel _ _ e
      exact .inr (.inr ⟨vs, hv, by cases rs <;> rfl⟩)
    · cases h
  | exc a c => cases h
end
end Mn
end

section
set_option Elab.async false
set_option linter.all false
set_option maxRecDepth 100000
set_option maxHeartbeats 4000000
/-! Mn, part E: built-in calls, methods, isinstance, stores of items, by values. -/
namespace Mn
open PySem PySem.Spec PyProof.Rows L2

def bfV : Bf → Value
  | .len => .builtin "len" | .abs => .builtin "abs" | .int => .type "int" | .str => .type "str" | .ord => .builtin "ord" | .min => .builtin "min" | .max => .builtin "max"
  | .sum => .builtin "sum" | .all => .builtin "all" | .any => .builtin "any" | .sorted => .builtin "sorted" | .list => .type "list" | .tuple => .type "tuple" | .dict => .type "dict" | .set => .type "set"
def bfN : Bf → Str
  | .len => "len" | .abs => "abs" | .int => "int" | .str => "str" | .ord => "ord" | .min => "min" | .max => "max"
  | .sum => "sum" | .all => "all" | .any => "any" | .sorted => "sorted" | .list => "list" | .tuple => "tuple" | .dict => "dict" | .set => "set"
theorem bf_boot (f : Bf) : bootBuiltins (bfN f) = some (bfV f) := by cases f <;> decide +kernel
theorem bf_name (f : Bf) : bfN f ≠ "__name__" ∧ (bfN f == ("__debug__" : Str)) = false := by cases f <;> decide +kernel
abbrev RC := List V → Hp → VK → Prop
def rNo : RC := fun _ _ _ => False
def bfR0 (F : PySem.W.Frag) : Bf → RC
  | .len => fun xs H Q => (∃ x n, xs = [x] ∧ LenV F x H n ∧ Q (.int n) H) ∨ ∃ a kvs, xs = [V.ref a] ∧ H a = some (.dK kvs) ∧ Q (.int kvs.length) H
  | .abs => fun xs H Q => ∃ i, xs = [.int i] ∧ Q (.int (if i < 0 then -i else i)) H
  | .int => fun xs H Q => ((∃ i, xs = [.int i] ∧ Q (.int i) H) ∨ ∃ k, xs = [.bl k] ∧ Q (.int (if k then 1 else 0)) H) ∨ ∃ (a : Str) (n : Int), xs = [.str a] ∧ PySem.intText? a = some n ∧ a.length ≤ 640 ∧ Q (.int n) H
  | .str => fun xs H Q => (∃ i, xs = [.int i] ∧ i.natAbs.log2 < 1920 ∧ Q (.str (toString i)) H) ∨ ∃ k : Bool, xs = [.bl k] ∧ Q (.str (if k then "True" else "False")) H
  | .ord => fun xs H Q => ∃ x, xs = [.str x] ∧ x.length = 1 ∧ Q (.int (x.cps.getD 0 0 : Nat)) H
  | .min => fun xs H Q => (∃ i j, xs = [.int i, .int j] ∧ Q (.int (if j < i then j else i)) H) ∨ rMin F xs H Q ∨ rMinT F xs H Q
  | .max => fun xs H Q => (∃ i j, xs = [.int i, .int j] ∧ Q (.int (if j > i then j else i)) H) ∨ rMax F xs H Q ∨ rMaxT F xs H Q
  | .sum => fun xs H Q => rSum F xs H Q ∨ rSumT F xs H Q
  | .all => rAll F
  | .any => rAny F
  | .sorted => rSortedI F
  | .list => fun xs H Q => (∃ p ys, xs = [.ref p] ∧ (SqL F H p ys ∨ SqT F H p ys) ∧ ∀ l, H l = none → Q (.ref l) (upd H l (.lst ys))) ∨ rListD xs H Q
  | .tuple => fun xs H Q => ∃ p ys, xs = [.ref p] ∧ ((SqL F H p ys ∧ NewT H ys Q) ∨ (SqT F H p ys ∧ Q (.ref p) H))
  | .dict => fun xs H Q => (∃ (a : Addr) (ps : List Addr) (kvs : List (Key × V)), xs = [.ref a] ∧ SqL F H a (ps.map V.ref) ∧ Paired (fun p kv => SqT F H p [kV kv.1, kv.2]) ps kvs ∧ ∀ p, H p = none → Q (.ref p) (upd H p (.dK (mergeK [] kvs)))) ∨
    (∃ (a : Addr) (kvs : List (Key × V)), xs = [.ref a] ∧ Rd H a (.dK kvs) ∧ ∀ p, H p = none → Q (.ref p) (upd H p (.dK kvs))) ∨
    ∃ (a : Addr) (ps : List Addr) (kvs : List (Key × V)), xs = [.ref a] ∧ Solid F H a (ps.map V.ref) ∧ Paired (fun p kv => SqT F H p [kV kv.1, kv.2]) ps kvs ∧ ∀ p, H p = none → Q (.ref p) (upd H p (.dK (mergeK [] kvs)))
  | .set => rNo
theorem no_call {X : Cx} {f : Value} : CallR X f rNo := fun _ _ _ _ _ _ _ _ _ h => False.elim h
theorem call_str_bool {X : Cx} : CallR X (.type "str") (fun xs H Q => ∃ k : Bool, xs = [.bl k] ∧ Q (.str (if k then "True" else "False")) H) := by
  intro pins s σ H xs us Q I r h
  obtain ⟨k, rfl, q⟩ := h
  obtain ⟨u, rfl, r1⟩ := vals1 r
  cases r1
  exact PySem.P.str_of_bool ⟨.str _, H, I.tok _, ⟨_, rfl⟩, q⟩
theorem boolT_ok (k : Bool) : (if k then "True" else "False" : Str) = toS (boolT k) := by cases k <;> decide +kernel
theorem num_ok1 : ∀ a : Fin 10, PySem.intText? (toS [48 + a.1]) = some ((a.1 : Nat) : Int) := by decide +kernel
theorem num_ok2 : ∀ a b : Fin 10, PySem.intText? (toS [48 + a.1, 48 + b.1]) = some ((10 * a.1 + b.1 : Nat) : Int) := by decide +kernel
theorem numT_ok {s : List Nat} {n : Int} (h : numT s = some n) : PySem.intText? (toS s) = some n ∧ s.length ≤ 2 := by
  unfold numT at h
  split at h
  · rename_i a
    split at h
    · rename_i ha
      simp only [digB, Bool.and_eq_true, decide_eq_true_eq] at ha
      cases h
      have := num_ok1 ⟨a - 48, by omega⟩
      simp only at this
      rw [show 48 + (a - 48) = a by omega] at this
      exact ⟨this, by simp⟩
    · cases h
  · rename_i a b
    split at h
    · rename_i ha
      simp only [digB, Bool.and_eq_true, decide_eq_true_eq] at ha
      cases h
      have := num_ok2 ⟨a - 48, by omega⟩ ⟨b - 48, by omega⟩
      simp only at this
      rw [show 48 + (a - 48) = a by omega, show 48 + (b - 48) = b by omega] at this
      exact ⟨this, by simp⟩
    · cases h
  · cases h
theorem bfS0 {X : Cx} (hc : X.calm = true) : ∀ f : Bf, CallR X (bfV f) (bfR0 X.K f)
  | .len => call_len.or call_lenD
  | .abs => call_abs
  | .int => call_int1.or call_int_str
  | .str => call_str_int.or call_str_bool
  | .ord => call_ord
  | .min => (call_min2 hc).or ((cr_min hc).or (cr_minT hc))
  | .max => (call_max2 hc).or ((cr_max hc).or (cr_maxT hc))
  | .sum => (cr_sum hc).or (cr_sumT hc)
  | .all => cr_all hc
  | .any => cr_any hc
  | .sorted => cr_sortedI
  | .list => call_list_of.or (call_list_dK hc)
  | .tuple => call_tupleZ
  | .dict => (call_dictP hc).or (call_dictD.or (call_dictZ hc))
  | .set => no_call
def rSortU2 (L : Lk) : RC := fun us H Q => ∃ (a : Addr) (xs : List V) (ds : List D), us = [V.ref a] ∧ SqL L.F H a xs ∧ Rps L.F H ds xs ∧ sortable ds = true ∧ ∀ p ys, H p = none → Rps L.F H (ds.mergeSort leD) ys → Q (.ref p) (upd H p (.lst ys))
def bfT (L : Lk) : Bf → RC
  | .len => fun us H Q => ∃ a kvs xs, us = [V.ref a] ∧ DtV L H a kvs xs ∧ Q (.int xs.length) H
  | .list => fun us H Q => ∃ a xs, us = [V.ref a] ∧ DtAt L.w H a xs ∧ ∀ p, H p = none → Q (.ref p) (upd H p (.lst (xs.map fun x => V.ref x.2.1)))
  | .dict => fun us H Q => ∃ (a : Addr) (its : List Addr) (ps : List XE) (kvs : List (List D × D)), us = [V.ref a] ∧ (SqL L.F H a (its.map V.ref) ∨ Solid L.F H a (its.map V.ref)) ∧ Paired (fun t p => SqT L.F H t [V.ref p.2.1, p.2.2]) its ps ∧ DtR L.F H kvs ps ∧
      ∀ p, H p = none → DtAt L.w (upd H p (DtO L.w p (allX ps))) p (allX ps) → Q (.ref p) (upd H p (DtO L.w p (allX ps)))
  | .sorted => rSortU2 L
  | _ => rNo
theorem flat_all {n : Nat} : ∀ {ds : List D}, D.flats n ds = true → ∀ x ∈ ds, D.flat n x = true
  | [], _, x, hx => by cases hx
  | d :: ds, fl, x, hx => by
    have h : D.flat n d = true ∧ D.flats n ds = true := by simpa [D.flats] using fl
    rcases List.mem_cons.mp hx with e | hx
    · subst e; exact h.1
    · exact flat_all h.2 x hx
theorem each_of {F : PySem.W.Frag} {H : Hp} : ∀ {ds : List D} {xs : List V} {its : List Value}, Rps F H ds xs → Vals xs its → PySem.W.EachIs (fun (v : Value) (d : D) => ∃ x : V, RelV x v ∧ Rp F H d x) its ds
  | _, _, _, .nil, .nil => .nil
  | _, _, _, .cons r rs, .cons a b => .cons ⟨_, a, r⟩ (each_of rs b)
theorem map_sort {α : Type} {r s : α → α → Bool} {l : List α} (h : ∀ a ∈ l, ∀ b ∈ l, r a b = s a b) : l.mergeSort r = l.mergeSort s := by
  have := List.map_mergeSort (r := r) (s := s) (f := id) (l := l) h
  simpa using this
section
variable {X : Cx} {L : Lk}
theorem cr_sortU (hk : X.K = L.F) (hu : X.A.units + 65 < cLine) : CallR X (.builtin "sorted") (rSortU2 L) := by
  intro pins s σ H vs us Q I r h
  obtain ⟨a, xs, ds, rfl, hs, rs, so, q⟩ := h
  rw [← hk] at hs
  obtain ⟨its, rv, hl, hz⟩ := I.list hs
  rw [Vals.ref1 r]
  simp only [sortable, Bool.and_eq_true, Bool.or_eq_true, decide_eq_true_eq] at so
  obtain ⟨⟨⟨kind, al⟩, fl⟩, _⟩ := so
  have alk : ∀ x ∈ ds, ∀ y ∈ ds, D.alike x y = true := fun x hx y hy => by
    have := List.all_eq_true.mp al x hx
    exact List.all_eq_true.mp this y hy
  have flt := flat_all fl
  have e1 := each_of rs rv
  have e2 : PySem.W.EachIs (fun (v : Value) (d : D) => ∃ as, Reads s.heap v (toP d) as) its ds := by
    have key : ∀ {its : List Value} {ds : List D}, (∀ x ∈ ds, D.flat 59 x = true) → PySem.W.EachIs (fun (v : Value) (d : D) => ∃ x : V, RelV x v ∧ Rp L.F H d x) its ds → PySem.W.EachIs (fun (v : Value) (d : D) => ∃ as, Reads s.heap v (toP d) as) its ds := by
      intro its ds hf h
      induction h with
      | nil => exact .nil
      | cons h _ ih =>
        obtain ⟨x, h1, h2⟩ := h
        refine .cons ?_ (ih fun y hy => hf y (List.mem_cons_of_mem _ hy))
        have rel0 : Rel L (fun _ => none) H := fun _ _ e => by cases e
        have d1 := (flat_self (m := fun _ => none) (hf _ List.mem_cons_self)).dp rel0 h2
        rw [← hk] at d1
        exact Dp.reads I _ _ _ d1 h1
    exact key flt e1
  refine PySem.W.sorted_data (enc := toP) hl.isList e1 e2 ?_ ?_ (by rw [rs.length]; exact hz) (fun d hd => ?_) fun out ho he => ?_
  · intro d hd d2 hd2
    obtain ⟨x, hx, rfl⟩ := List.mem_map.mp hd
    obtain ⟨y, hy, rfl⟩ := List.mem_map.mp hd2
    exact alike_P (alk x hx y hy)
  · rcases kind with k | k
    · refine .inl fun d hd => ?_
      obtain ⟨x, hx, rfl⟩ := List.mem_map.mp hd
      have h1 := List.all_eq_true.mp k x hx
      cases x with
      | tup es => cases es with
        | nil => cases h1
        | cons e es => exact ⟨toP e, toPs es, by simp [toP, toPs]⟩
      | _ => cases h1
    · refine .inr fun d hd => ?_
      obtain ⟨x, hx, rfl⟩ := List.mem_map.mp hd
      have h1 := List.all_eq_true.mp k x hx
      cases x with
      | str s => exact ⟨by simp [toP], fun xs => by simp [toP]⟩
      | _ => cases h1
  · have := shp_dep (flat_shp (flt d hd))
    omega
  · have e3 : ds.mergeSort (PySem.W.dataLe false toP) = ds.mergeSort leD := map_sort fun x hx y hy => by
      rw [PySem.W.dataLe_eq]
      show (!PySem.W.dataLt (toP y) (toP x)) = !D.lt y x
      rw [lt_P (alk y hy x hx) (flt y hy) (flt x hx)]
    rw [e3] at he
    have key : ∀ {out : List Value} {es : List D}, PySem.W.EachIs (fun (v : Value) (d : D) => ∃ x : V, RelV x v ∧ Rp L.F H d x) out es → ∃ ys, Vals ys out ∧ Rps L.F H es ys := by
      intro out es h
      induction h with
      | nil => exact ⟨[], .nil, .nil⟩
      | cons h _ ih =>
        obtain ⟨x, h1, h2⟩ := h
        obtain ⟨ys, h3, h4⟩ := ih
        exact ⟨x :: ys, .cons h1 h3, .cons h2 h4⟩
    obtain ⟨ys, r3, r4⟩ := key he
    obtain ⟨ep, hat⟩ := PyProof.Rows.sortedAll_at s.heap its out.toArray
    have hlen : ys.length ≤ sizeLine := by
      rw [r3.length, ho, rs.length]
      exact hz
    exact ⟨.ref _, upd H (s.heap.objs.size + 1) (.lst ys), I.laid (t' := s.toks) (fun _ _ => PyProof.Rows.sortedAll_old) (Nat.le_succ _) ⟨hlen, out, ep, r3, hat⟩, rfl, q _ _ (I.hok.fresh (Nat.le_succ _)) r4⟩
theorem bfTS (hk : X.K = L.F) (hw : X.w = L.w) (hc : X.calm = true) (hu : X.A.units + 65 < cLine) : ∀ f : Bf, CallR X (bfV f) (bfT L f)
  | .len => fun pins s σ H xs us Q I r h => by
    obtain ⟨a, kvs, es, rfl, D, q⟩ := h
    rw [Vals.ref1 r]
    exact dt_len I (D.now hk hw I) q
  | .list => fun pins s σ H xs us Q I r h => by
    obtain ⟨a, es, rfl, D, q⟩ := h
    rw [Vals.ref1 r]
    rw [← hw] at D
    exact dt_list hc I D q
  | .dict => fun pins s σ H xs us Q I r h => by
    obtain ⟨a, its, ps, kvs, rfl, hq, hp, rr, q⟩ := h
    rw [Vals.ref1 r]
    have kin := keysIn_of hk I rr
    rw [← hk] at hq hp
    rw [← hw] at q
    rcases hq with hq | hq
    · exact dt_pairs hc (by omega) I hq hp kin q
    · exact dt_pairsZ hc (by omega) I hq hp kin q
  | .sorted => cr_sortU hk hu
  | .abs => no_call | .int => no_call | .str => no_call | .ord => no_call | .min => no_call | .max => no_call | .sum => no_call | .all => no_call | .any => no_call | .tuple => no_call | .set => no_call
end
def bfR (L : Lk) (f : Bf) : RC := fun xs H Q => bfR0 L.F f xs H Q ∨ bfT L f xs H Q
theorem bfS {X : Cx} {L : Lk} (hk : X.K = L.F) (hw : X.w = L.w) (hc : X.calm = true) (hu : X.A.units + 65 < cLine) (f : Bf) : CallR X (bfV f) (bfR L f) := by
  have h := bfS0 (X := X) hc f
  rw [hk] at h
  exact h.or (bfTS hk hw hc hu f)
theorem digits_ok (i : Int) : (Str.ofString (toString i)) = toS (digitsT i) := by
  unfold Str.ofString digitsT toS
  rw [cpsOfBytes_string]
theorem minI_ok : ∀ {ns : List Int}, ns ≠ [] → minI ns ∈ ns ∧ ∀ y ∈ ns, minI ns ≤ y
  | [], h => absurd rfl h
  | [x], _ => ⟨by simp [minI], fun y hy => by simp at hy; simp [minI, hy]⟩
  | x :: z :: r, _ => by
    obtain ⟨h1, h2⟩ := minI_ok (ns := z :: r) (by simp)
    simp only [minI]
    split
    · rename_i h
      refine ⟨List.mem_cons_self .., fun y hy => ?_⟩
      rcases List.mem_cons.mp hy with rfl | hy
      · exact Int.le_refl _
      · exact Int.le_trans h (h2 y hy)
    · rename_i h
      refine ⟨List.mem_cons_of_mem _ h1, fun y hy => ?_⟩
      rcases List.mem_cons.mp hy with rfl | hy
      · omega
      · exact h2 y hy
theorem maxI_ok : ∀ {ns : List Int}, ns ≠ [] → maxI ns ∈ ns ∧ ∀ y ∈ ns, y ≤ maxI ns
  | [], h => absurd rfl h
  | [x], _ => ⟨by simp [maxI], fun y hy => by simp at hy; simp [maxI, hy]⟩
  | x :: z :: r, _ => by
    obtain ⟨h1, h2⟩ := maxI_ok (ns := z :: r) (by simp)
    simp only [maxI]
    split
    · rename_i h
      refine ⟨List.mem_cons_self .., fun y hy => ?_⟩
      rcases List.mem_cons.mp hy with rfl | hy
      · exact Int.le_refl _
      · exact Int.le_trans (h2 y hy) h
    · rename_i h
      refine ⟨List.mem_cons_of_mem _ h1, fun y hy => ?_⟩
      rcases List.mem_cons.mp hy with rfl | hy
      · omega
      · exact h2 y hy
theorem intsOf_map : ∀ {ds : List D} {ns : List Int}, intsOf ds = some ns → ds = ns.map D.int
  | [], ns, h => by simp [intsOf] at h; subst h; rfl
  | d :: ds, ns, h => by
    cases d with
    | int i =>
      simp only [intsOf] at h
      cases q : intsOf ds with
      | none => rw [q] at h; cases h
      | some r =>
        rw [q] at h
        cases h
        rw [intsOf_map q, List.map_cons]
    | _ => simp [intsOf] at h
section
variable {L : Lk} {m : Hm} {H : Hp} {P : PD} {Q : VK} {x y : D} {v u : V} {a : Addr} {xs : List D} {vs : List V}
theorem lst_of {ds : List D} (e : m a = some (.lst ds)) (rel : Rel L m H) : ∃ ws, SqL L.F H a ws ∧ Rps L.F H ds ws ∧ H a = some (.lst ws) := by
  obtain ⟨ws, h1, h2⟩ := rel _ _ e
  exact ⟨ws, SqL.of h1, h2, h1⟩
theorem getL_of {ds : List D} (e : getL m a = some ds) : m a = some (.lst ds) := by
  unfold getL at e
  split at e
  · rename_i h; cases e; exact h
  · cases e
theorem pairs_ok : ∀ {ds : List D} {ws : List V} {kvs : List (Ky × D)}, pairsOf ds = some kvs → Rps L.F H ds ws → ∃ (ps : List Addr) (kws : List (Key × V)), ws = ps.map V.ref ∧ Paired (fun p kv => SqT L.F H p [kV kv.1, kv.2]) ps kws ∧ KvR L.F H kyV kvs kws
  | [], _, _, e, .nil => by
    cases e
    exact ⟨[], [], rfl, .nil, .nil⟩
  | d :: ds, _, kvs, e, .cons r rs => by
    simp only [pairsOf] at e
    split at e
    · rename_i k v
      cases e1 : kyOf k with
      | none => rw [e1] at e; cases e
      | some j =>
        rw [e1] at e
        cases e2 : pairsOf ds with
        | none => rw [e2] at e; cases e
        | some t =>
          rw [e2] at e
          cases e
          obtain ⟨ps, kws, h1, h2, h3⟩ := pairs_ok e2 rs
          cases r with
          | @tup _ a us sq ru =>
            cases ru with
            | cons r1 r2 => cases r2 with
              | cons r2 r3 =>
                cases r3
                have e3 := ky_rp e1 r1
                subst e3
                exact ⟨a :: ps, (kyV j, _) :: kws, by rw [h1]; rfl, .cons sq.sq h2, .cons ⟨rfl, r2⟩ h3⟩
    · cases e
theorem merge_ok {kvs : List (Ky × D)} {kws : List (Key × V)} (h : KvR L.F H kyV kvs kws) : KvR L.F H kyV (mergeD kvs) (mergeK [] kws) := by
  have key : ∀ {kvs : List (Ky × D)} {kws : List (Key × V)}, KvR L.F H kyV kvs kws → ∀ {a : List (Ky × D)} {b : List (Key × V)}, KvR L.F H kyV a b → KvR L.F H kyV (kvs.foldl (fun acc kv => putk acc kv.1 kv.2) a) (kws.foldl (fun acc kv => putK acc kv.1 kv.2) b) := by
    intro kvs kws h
    induction h with
    | nil => exact fun r => r
    | @cons p q ps qs hp _ ih =>
      intro a b r
      obtain ⟨e1, e2⟩ := hp
      rw [List.foldl_cons, List.foldl_cons, e1]
      exact ih (r.put (fun _ _ => kyV_inj) e2)
  exact key h .nil
theorem keys_ok : ∀ {kvs : List (Ky × D)} {kws : List (Key × V)}, KvR L.F H kyV kvs kws → Rps L.F H (kvs.map fun kv => dOf kv.1) (kws.map fun kv => kV kv.1)
  | [], _, .nil => .nil
  | (k, _) :: _, _, .cons (b := (j, _)) ⟨e, _⟩ rs => by
    have e : j = kyV k := e
    subst e
    refine .cons ?_ (keys_ok rs)
    cases k with
    | inl i => exact .int i
    | inr s => exact .str s
theorem pairsT_ok : ∀ {ds : List D} {ws : List V} {kvs : List (List D × D)}, pairsT ds = some kvs → Rps L.F H ds ws → ∃ (its : List Addr) (ps : List XE), ws = its.map V.ref ∧ Paired (fun t p => SqT L.F H t [V.ref p.2.1, p.2.2]) its ps ∧ DtR L.F H kvs ps
  | [], _, _, e, .nil => by
    cases e
    exact ⟨[], [], rfl, .nil, .nil⟩
  | d :: ds, _, kvs, e, .cons r rs => by
    simp only [pairsT] at e
    split at e
    · rename_i ks v
      split at e
      · rename_i hs
        cases e2 : pairsT ds with
        | none => rw [e2] at e; cases e
        | some t =>
          rw [e2] at e
          cases e
          obtain ⟨its, ps, h1, h2, h3⟩ := pairsT_ok e2 rs
          cases r with
          | @tup _ a us sq ru =>
            cases ru with
            | cons r1 r2 => cases r2 with
              | @cons _ w _ _ r2 r3 =>
                cases r3
                obtain ⟨b, rfl⟩ := r1.tup_ref
                exact ⟨a :: its, (nkT ks, b, w) :: ps, by rw [h1]; rfl, .cons sq.sq h2, .cons ⟨rfl, hs, r1, r2⟩ h3⟩
      · cases e
    · cases e
theorem mergeT_ok {kvs : List (List D × D)} {ps : List XE} (h : DtR L.F H kvs ps) : DtR L.F H (mergeT kvs) (allX ps) := by
  have key : ∀ {kvs : List (List D × D)} {ps : List XE}, DtR L.F H kvs ps → ∀ {a : List (List D × D)} {b : List XE}, DtR L.F H a b → DtR L.F H (kvs.foldl (fun acc kv => putk acc kv.1 kv.2) a) (ps.foldl (fun acc p => putX acc p.1 p.2.1 p.2.2) b) := by
    intro kvs ps h
    induction h with
    | nil => exact fun r => r
    | @cons p q _ _ hp _ ih =>
      intro a b r
      obtain ⟨e1, e2, e3, e4⟩ := hp
      rw [List.foldl_cons, List.foldl_cons, e1]
      exact ih (putT e2 e3 e4 r)
  exact key h .nil
theorem addrs_ok : ∀ {kvs : List (List D × D)} {xs : List XE}, DtR L.F H kvs xs → Rps L.F H (kvs.map fun kv => D.tup kv.1) (xs.map fun x => V.ref x.2.1)
  | _, _, .nil => .nil
  | _, _, .cons h rs => .cons h.2.2.1 (addrs_ok rs)
theorem bf_ok {f : Bf} (h : bfW f xs m P) (rx : Rps L.F H xs vs) (rel : Rel L m H) (q : Kt L H P Q) : bfR L f vs H Q := by
  cases rx with
  | nil => cases f <;> exact h.elim
  | @cons x v xs vs r1 rs =>
    cases rs with
    | nil =>
      cases f with
      | len =>
        cases r1 with
        | @tup ds a ws sq rw1 => exact .inl (.inl ⟨_, _, rfl, .inr ⟨ws, sq.sq, rfl⟩, q.here (by rw [← rw1.length]; exact h) (.int _) rel⟩)
        | @lst ds a ws sq rw1 => exact .inl (.inl ⟨_, _, rfl, .inl ⟨ws, sq.sq, rfl⟩, q.here (by rw [← rw1.length]; exact h) (.int _) rel⟩)
        | str s => exact .inl (.inl ⟨_, _, rfl, ⟨by rw [toS_len]; exact SZ_line h.1, rfl⟩, q.here (by rw [toS_len]; exact h.2) (.int _) rel⟩)
        | ref a =>
          simp only [bfW] at h
          split at h
          · rename_i ds e
            obtain ⟨ws, h1, h2, _⟩ := lst_of e rel
            exact .inl (.inl ⟨_, _, rfl, .inl ⟨ws, h1, rfl⟩, q.here (by rw [← h2.length]; exact h) (.int _) rel⟩)
          · rename_i kvs e
            obtain ⟨kws, h1, h2⟩ := rel _ _ e
            exact .inl (.inr ⟨a, kws, rfl, h1, q.here (by rw [← h2.len]; exact h) (.int _) rel⟩)
          · rename_i kvs e
            obtain ⟨xs, h1, h2⟩ := rel _ _ e
            exact .inr ⟨a, kvs, xs, rfl, .inl ⟨h1, h2⟩, q.here (by rw [← h2.len]; exact h) (.int _) rel⟩
          · exact h.elim
        | _ => exact h.elim
      | abs => cases r1 with
        | int i => exact .inl (⟨i, rfl, q.here h (.int _) rel⟩)
        | _ => exact h.elim
      | int => cases r1 with
        | int i => exact .inl (.inl (.inl ⟨i, rfl, q.here h (.int _) rel⟩))
        | bl b => exact .inl (.inl (.inr ⟨b, rfl, q.here h (.int _) rel⟩))
        | str s =>
          obtain ⟨n, hn, hp⟩ := h
          obtain ⟨h1, h2⟩ := numT_ok hn
          exact .inl (.inr ⟨_, n, rfl, h1, by rw [toS_len]; omega, q.here hp (.int _) rel⟩)
        | _ => exact h.elim
      | str => cases r1 with
        | bl b => exact .inl (.inr ⟨b, rfl, by rw [boolT_ok]; exact q.here h (.str _) rel⟩)
        | int i => exact .inl (.inl ⟨i, rfl, h.1, by
            have e := digits_ok i
            show Q (.str (Str.ofString (toString i))) H
            rw [e]
            exact q.here h.2 (.str _) rel⟩)
        | _ => exact h.elim
      | ord => cases r1 with
        | str s =>
          cases s with
          | nil => exact h.elim
          | cons c r => cases r with
            | nil => exact .inl (⟨_, rfl, rfl, q.here (d := .int c) h (.int _) rel⟩)
            | cons _ _ => exact h.elim
        | _ => exact h.elim
      | min => cases r1 with
        | ref a =>
          simp only [bfW] at h
          split at h
          · rename_i ds e
            obtain ⟨ns, h1, h2, h3⟩ := h
            obtain ⟨ws, k1, k2, _⟩ := lst_of e rel
            have e2 := k2.ints h1
            subst e2
            refine .inl (.inr (.inl ⟨a, ns, rfl, k1, List.length_pos_iff.mpr h2, fun z hz hle => ?_⟩))
            obtain ⟨o1, o2⟩ := minI_ok h2
            have e3 : z = minI ns := Int.le_antisymm (hle _ o1) (o2 _ hz)
            rw [e3]
            exact q.here h3 (.int _) rel
          · exact h.elim
        | @tup es a ws sq rw1 =>
          obtain ⟨ns, h1, h2, h3⟩ := h
          have e2 := rw1.ints h1
          subst e2
          refine .inl (.inr (.inr ⟨a, ns, rfl, sq.sq, List.length_pos_iff.mpr h2, fun z hz hle => ?_⟩))
          obtain ⟨o1, o2⟩ := minI_ok h2
          have e3 : z = minI ns := Int.le_antisymm (hle _ o1) (o2 _ hz)
          rw [e3]
          exact q.here h3 (.int _) rel
        | _ => exact h.elim
      | max => cases r1 with
        | ref a =>
          simp only [bfW] at h
          split at h
          · rename_i ds e
            obtain ⟨ns, h1, h2, h3⟩ := h
            obtain ⟨ws, k1, k2, _⟩ := lst_of e rel
            have e2 := k2.ints h1
            subst e2
            refine .inl (.inr (.inl ⟨a, ns, rfl, k1, List.length_pos_iff.mpr h2, fun z hz hle => ?_⟩))
            obtain ⟨o1, o2⟩ := maxI_ok h2
            have e3 : z = maxI ns := Int.le_antisymm (o2 _ hz) (hle _ o1)
            rw [e3]
            exact q.here h3 (.int _) rel
          · exact h.elim
        | @tup es a ws sq rw1 =>
          obtain ⟨ns, h1, h2, h3⟩ := h
          have e2 := rw1.ints h1
          subst e2
          refine .inl (.inr (.inr ⟨a, ns, rfl, sq.sq, List.length_pos_iff.mpr h2, fun z hz hle => ?_⟩))
          obtain ⟨o1, o2⟩ := maxI_ok h2
          have e3 : z = maxI ns := Int.le_antisymm (o2 _ hz) (hle _ o1)
          rw [e3]
          exact q.here h3 (.int _) rel
        | _ => exact h.elim
      | sum => cases r1 with
        | ref a =>
          simp only [bfW] at h
          split at h
          · rename_i ds e
            obtain ⟨ns, h1, h3⟩ := h
            obtain ⟨ws, k1, k2, _⟩ := lst_of e rel
            have e2 := k2.ints h1
            subst e2
            exact .inl (.inl ⟨a, ns, rfl, k1, q.here h3 (.int _) rel⟩)
          · exact h.elim
        | @tup es a ws sq rw1 =>
          obtain ⟨ns, h1, h3⟩ := h
          have e2 := rw1.ints h1
          subst e2
          exact .inl (.inr ⟨a, ns, rfl, sq.sq, q.here h3 (.int _) rel⟩)
        | _ => exact h.elim
      | all => cases r1 with
        | ref a =>
          simp only [bfW] at h
          split at h
          · rename_i ds e
            obtain ⟨ns, h1, h3⟩ := h
            obtain ⟨ws, k1, k2, _⟩ := lst_of e rel
            have e2 := k2.bls h1
            subst e2
            exact .inl (⟨a, ns, rfl, k1, q.here h3 (.bl _) rel⟩)
          · exact h.elim
        | _ => exact h.elim
      | any => cases r1 with
        | ref a =>
          simp only [bfW] at h
          split at h
          · rename_i ds e
            obtain ⟨ns, h1, h3⟩ := h
            obtain ⟨ws, k1, k2, _⟩ := lst_of e rel
            have e2 := k2.bls h1
            subst e2
            exact .inl (⟨a, ns, rfl, k1, q.here h3 (.bl _) rel⟩)
          · exact h.elim
        | _ => exact h.elim
      | sorted => cases r1 with
        | ref a =>
          simp only [bfW] at h
          split at h
          · rename_i ds e
            obtain ⟨ws, k1, k2, _⟩ := lst_of e rel
            split at h
            · rename_i ns h1
              have h3 := h
              have e2 := k2.ints h1
              subst e2
              refine .inl (⟨a, ns, rfl, k1, fun ms p hp ho hf => ?_⟩)
              have e3 : ms = ns.mergeSort fun a b => decide (a ≤ b) := by
                refine List.Perm.eq_of_pairwise (le := (· ≤ ·)) (fun a b _ _ h1 h2 => Int.le_antisymm h1 h2) ho ?_ (hp.trans (List.mergeSort_perm ns _).symm)
                have := List.pairwise_mergeSort (le := fun a b : Int => decide (a ≤ b)) (fun a b c h1 h2 => by simp only [decide_eq_true_eq] at *; omega) (fun a b => by simp only [Bool.or_eq_true, decide_eq_true_eq]; omega) ns
                exact this.imp fun h => of_decide_eq_true h
              rw [e3]
              exact q.lst h3 (.mkInts _) rel hf
            · obtain ⟨so, h3⟩ := h
              exact .inr ⟨a, ws, ds, rfl, k1, k2, so, fun p ys hp ry => q.lst h3 ry rel hp⟩
          · exact h.elim
        | _ => exact h.elim
      | list =>
        obtain ⟨ds, h1, h2⟩ := h
        cases r1 with
        | @tup es a ws sq rw1 =>
          cases h1
          exact .inl (.inl ⟨a, ws, rfl, .inr sq.sq, fun l hl => q.lst h2 rw1 rel hl⟩)
        | @lst es a ws sq rw1 =>
          cases h1
          exact .inl (.inl ⟨a, ws, rfl, .inl sq.sq, fun l hl => q.lst h2 rw1 rel hl⟩)
        | ref a =>
          simp only [seqOf] at h1
          split at h1
          · rename_i es e
            cases h1
            obtain ⟨ws, k1, k2, _⟩ := lst_of e rel
            exact .inl (.inl ⟨a, ws, rfl, .inl k1, fun l hl => q.lst h2 k2 rel hl⟩)
          · rename_i kvs e
            cases h1
            obtain ⟨kws, k1, k2⟩ := rel _ _ e
            exact .inl (.inr ⟨a, kws, rfl, k1, fun l hl => q.lst h2 (keys_ok k2) rel hl⟩)
          · rename_i kvs e
            cases h1
            obtain ⟨xs, k1, k2⟩ := rel _ _ e
            exact .inr ⟨a, xs, rfl, k1, fun l hl => q.lst h2 (addrs_ok k2) rel hl⟩
          · cases h1
        | _ => cases h1
      | dict => cases r1 with
        | @tup ds a ws sq k2 =>
          have h : dictW ds m P := h
          unfold dictW at h
          split at h
          · rename_i kvs h1
            obtain ⟨ps, kws, e1, e2, e3⟩ := pairs_ok h1 k2
            subst e1
            refine .inl (.inr (.inr ⟨a, ps, kws, rfl, sq, e2, fun p hp => ?_⟩))
            exact q _ _ _ _ (h p (rel.free hp)) (.ref p) (rel.put (.new hp) ⟨_, upd_same, (merge_ok e3).mono (.new hp)⟩) (.new hp)
          · obtain ⟨kvs, h1, h2⟩ := h
            obtain ⟨its, ps, e1, e2, e3⟩ := pairsT_ok h1 k2
            subst e1
            exact .inr ⟨a, its, ps, kvs, rfl, .inr sq, e2, e3, fun p hp D => q _ _ _ _ (h2 p (rel.free hp)) (.ref p) (rel.put (.new hp) ⟨_, D, (mergeT_ok e3).mono (.new hp)⟩) (.new hp)⟩
        | ref a =>
          simp only [bfW] at h
          split at h
          · rename_i ds e
            obtain ⟨ws, k1, k2, _⟩ := lst_of e rel
            unfold dictW at h
            split at h
            · rename_i kvs h1
              obtain ⟨ps, kws, e1, e2, e3⟩ := pairs_ok h1 k2
              subst e1
              refine .inl (.inl ⟨a, ps, kws, rfl, k1, e2, fun p hp => ?_⟩)
              exact q _ _ _ _ (h p (rel.free hp)) (.ref p) (rel.put (.new hp) ⟨_, upd_same, (merge_ok e3).mono (.new hp)⟩) (.new hp)
            · obtain ⟨kvs, h1, h2⟩ := h
              obtain ⟨its, ps, e1, e2, e3⟩ := pairsT_ok h1 k2
              subst e1
              exact .inr ⟨a, its, ps, kvs, rfl, .inl k1, e2, e3, fun p hp D => q _ _ _ _ (h2 p (rel.free hp)) (.ref p) (rel.put (.new hp) ⟨_, D, (mergeT_ok e3).mono (.new hp)⟩) (.new hp)⟩
          · rename_i kvs e
            obtain ⟨kws, k1, k2⟩ := rel _ _ e
            refine .inl (.inr (.inl ⟨a, kws, rfl, .inl k1, fun p hp => ?_⟩))
            exact q _ _ _ _ (h p (rel.free hp)) (.ref p) (rel.put (.new hp) ⟨_, upd_same, k2.mono (.new hp)⟩) (.new hp)
          · exact h.elim
        | _ => exact h.elim
      | tuple => cases r1 with
        | @tup es a ws sq rw1 => exact .inl (⟨a, ws, rfl, .inr ⟨sq.sq, q.here h (.tup sq rw1) rel⟩⟩)
        | ref a =>
          simp only [bfW] at h
          split at h
          · rename_i ds e
            obtain ⟨ws, k1, k2, _⟩ := lst_of (getL_of e) rel
            exact .inl (⟨a, ws, rfl, .inl ⟨k1, q.tup h k2 rel⟩⟩)
          · exact h.elim
        | _ => exact h.elim
      | set => cases r1 <;> exact h.elim
    | @cons y u ys us r2 rs =>
      cases rs with
      | nil =>
        cases f with
        | min => cases r1 with
          | int i => cases r2 with
            | int j => exact .inl (.inl ⟨i, j, rfl, q.here h (.int _) rel⟩)
            | _ => exact h.elim
          | _ => exact h.elim
        | max => cases r1 with
          | int i => cases r2 with
            | int j => exact .inl (.inl ⟨i, j, rfl, q.here h (.int _) rel⟩)
            | _ => exact h.elim
          | _ => exact h.elim
        | _ => cases r1 <;> first | exact h.elim | (simp [bfW] at h)
      | cons r3 rs => cases f <;> cases r1 <;> first | exact h.elim | (simp [bfW] at h) | (cases r2 <;> first | exact h.elim | (simp [bfW] at h))
end
end Mn
end

section
set_option Elab.async false
set_option linter.all false
set_option maxRecDepth 100000
set_option maxHeartbeats 4000000
/-! Mn, part F: methods, isinstance, stores of items, by values. -/
namespace Mn
open PySem PySem.Spec PyProof.Rows L2 TL

def bmN : Bm → Str
  | .append => "append" | .extend => "extend" | .pop => "pop" | .insert => "insert" | .reverse => "reverse" | .clear => "clear" | .index => "index" | .count => "count"
  | .get => "get" | .setdefault => "setdefault" | .values => "values" | .join => "join" | .partition => "partition" | .split => "split" | .startswith => "startswith" | .upper => "upper" | .replace => "replace"
def bmT : Nat → String
  | 1 => "list" | 2 => "dict" | _ => "str"
def bmId : Bm → Nat → String
  | .append, _ => "list.append" | .extend, _ => "list.extend" | .pop, 1 => "list.pop" | .pop, _ => "dict.pop" | .insert, _ => "list.insert" | .reverse, _ => "list.reverse" | .clear, _ => "list.clear"
  | .index, _ => "list.index" | .count, _ => "list.count" | .get, _ => "dict.get" | .setdefault, _ => "dict.setdefault" | .join, _ => "str.join"
  | .upper, _ => "str.upper" | .partition, _ => "str.partition" | .split, _ => "str.split" | .startswith, _ => "str.startswith" | _, _ => "none"
abbrev RM := V → List V → Hp → VK → Prop
def rDPop : RM := fun x vs H Q => ∃ a kvs k z, x = V.ref a ∧ vs = [kV k, z] ∧ H a = some (.dK kvs) ∧ (∀ v, valV kvs k = some v → Q v (upd H a (.dK (dropK kvs k)))) ∧ (valV kvs k = none → Q z H)
def rDGet : RM := fun x vs H Q => ∃ a y z o, x = V.ref a ∧ vs = [y, z] ∧ DGet H a y o ∧ Q (o.getD z) H
section
variable {X : Cx}
theorem mt_dpop : MtR X "dict.pop" rDPop := by
  intro pins s σ H x xs v us Q I rx rs h
  obtain ⟨a, kvs, k, z, rfl, rfl, ha, q1, q2⟩ := h
  obtain rfl : v = Value.ref a := rx
  obtain ⟨u1, u2, rfl, r1, r2⟩ := rs.two
  cases e : valV kvs k with
  | none => exact d_popD I ha r1 e fun s2 I2 => ⟨z, H, I2, r2, q2 e⟩
  | some w => exact d_pop I ha r1 e (.inr ⟨u2, rfl⟩) fun w2 s2 I2 r3 => ⟨w, _, I2, r3, q1 w e⟩
theorem mt_dget (hu : X.A.units + 1 < cLine) : MtR X "dict.get" rDGet := by
  intro pins s σ H x xs v us Q I rx rs h
  obtain ⟨a, y, z, o, rfl, rfl, g, q⟩ := h
  obtain rfl : v = Value.ref a := rx
  obtain ⟨u1, u2, rfl, r1, r2⟩ := rs.two
  exact d_get2 hu I g r1 r2 fun w2 s2 I2 r3 => ⟨_, H, I2, r3, q⟩
end
/-- of a dict with tuples for keys -/
def rTPop (L : Lk) : RM := fun x vs H Q => ∃ a kvs xs ks y more, x = V.ref a ∧ vs = y :: more ∧ more.length ≤ 1 ∧ DtV L H a kvs xs ∧ Rp L.F H (.tup ks) y ∧ D.keyds 7 ks = true ∧
  (∀ v, getX xs (nkT ks) = some v → DtAt L.w (upd H a (DtO L.w a (dropX xs (nkT ks)))) a (dropX xs (nkT ks)) → Q v (upd H a (DtO L.w a (dropX xs (nkT ks))))) ∧ (getX xs (nkT ks) = none → ∃ z, more = [z] ∧ Q z H)
def rTGet (L : Lk) : RM := fun x vs H Q => ∃ a kvs xs ks y z, x = V.ref a ∧ vs = [y, z] ∧ DtV L H a kvs xs ∧ Rp L.F H (.tup ks) y ∧ D.keyds 7 ks = true ∧ Q ((getX xs (nkT ks)).getD z) H
def rDPop1 : RM := fun x vs H Q => ∃ a kvs k v, x = V.ref a ∧ vs = [kV k] ∧ H a = some (.dK kvs) ∧ valV kvs k = some v ∧ Q v (upd H a (.dK (dropK kvs k)))
section
variable {X : Cx} {L : Lk}
theorem mt_dpop1 : MtR X "dict.pop" rDPop1 := by
  intro pins s σ H x xs v us Q I rx rs h
  obtain ⟨a, kvs, k, z, rfl, rfl, ha, g, q⟩ := h
  obtain rfl : v = Value.ref a := rx
  obtain ⟨u1, rfl, r1⟩ := rs.one
  exact d_pop I ha r1 g (.inl rfl) fun w2 s2 I2 r3 => ⟨z, _, I2, r3, q⟩
theorem mt_tpop (hk : X.K = L.F) (hw : X.w = L.w) (hu : X.A.units + 65 < cLine) : MtR X "dict.pop" (rTPop L) := by
  intro pins s σ H x vs v us Q I rx rs h
  obtain ⟨a, kvs, xs, ks, y, more, rfl, rfl, hm, D, rk, hs, q1, q2⟩ := h
  obtain rfl : v = Value.ref a := rx
  obtain ⟨b, rfl⟩ := rk.tup_ref
  have N := D.now hk hw I
  have ki := keyT_is hk I hs rk
  cases rs with
  | cons r1 rt =>
    rename_i u1 ut
    obtain rfl : u1 = Value.ref b := r1
    cases e : getX xs (nkT ks) with
    | none =>
      obtain ⟨z, rfl, q⟩ := q2 e
      obtain ⟨u2, rfl, r2⟩ := Vals.one rt
      exact dt_popD (by omega) I N ki e fun s2 I2 => ⟨z, H, I2, r2, q⟩
    | some w =>
      have hm2 : ut = [] ∨ ∃ x, ut = [x] := by
        have := rt.length
        match ut, this with
        | [], _ => exact .inl rfl
        | [x], _ => exact .inr ⟨x, rfl⟩
        | _ :: _ :: _, h3 => simp at h3; omega
      rw [← hw] at q1
      exact dt_pop hm2 (by omega) I N ki e fun u s2 I2 D2 r2 => ⟨w, _, I2, r2, q1 w e D2⟩
theorem mt_tget (hk : X.K = L.F) (hw : X.w = L.w) (hu : X.A.units + 65 < cLine) : MtR X "dict.get" (rTGet L) := by
  intro pins s σ H x vs v us Q I rx rs h
  obtain ⟨a, kvs, xs, ks, y, z, rfl, rfl, D, rk, hs, q⟩ := h
  obtain rfl : v = Value.ref a := rx
  obtain ⟨b, rfl⟩ := rk.tup_ref
  obtain ⟨u1, u2, rfl, r1, r2⟩ := rs.two
  obtain rfl : u1 = Value.ref b := r1
  exact dt_get2 (by omega) I (D.now hk hw I) (keyT_is hk I hs rk) r2 fun w2 s2 I2 r3 => ⟨_, H, I2, r3, q⟩
end
def rTSetd (L : Lk) : RM := fun x vs H Q => ∃ a kvs xs ks b z, x = V.ref a ∧ vs = [.ref b, z] ∧ DtV L H a kvs xs ∧ xs.length < sizeLine ∧ Rp L.F H (.tup ks) (.ref b) ∧ D.keyds 7 ks = true ∧
  (∀ v, getX xs (nkT ks) = some v → Q v H) ∧ (getX xs (nkT ks) = none → DtAt L.w (upd H a (DtO L.w a (putX xs (nkT ks) b z))) a (putX xs (nkT ks) b z) → Q z (upd H a (DtO L.w a (putX xs (nkT ks) b z))))
theorem mt_tsetd {X : Cx} {L : Lk} (hk : X.K = L.F) (hw : X.w = L.w) (hu : X.A.units + 65 < cLine) : MtR X "dict.setdefault" (rTSetd L) := by
  intro pins s σ H x vs v us Q I rx rs h
  obtain ⟨a, kvs, xs, ks, b, z, rfl, rfl, D, hl, rk, hs, q1, q2⟩ := h
  obtain rfl : v = Value.ref a := rx
  obtain ⟨u1, u2, rfl, r1, r2⟩ := rs.two
  obtain rfl : u1 = Value.ref b := r1
  rw [← hw] at q2
  exact dt_setd (by omega) I (D.now hk hw I) (keyT_is hk I hs rk) hl r2 (fun v hv w2 s2 I2 r3 => ⟨v, H, I2, r3, q1 v hv⟩) fun hn s2 I2 D2 => ⟨z, _, I2, r2, q2 hn D2⟩
/-- list.count of truths -/
def rCntB (K : PySem.W.Frag) : RM := fun x xs H Q => ∃ (a : Addr) (bs : List Bool) (k : Bool), x = .ref a ∧ xs = [.bl k] ∧ SqL K H a (bs.map V.bl) ∧ Q (.int (bs.count k : Nat)) H
theorem cnt_bls {k : Bool} : ∀ {bs : List Bool} {us : List Value}, Vals (bs.map V.bl) us → us.countP (eqU (.bl k)) = bs.count k
  | [], _, h => by cases h; rfl
  | b :: bs, _, h => by
    cases h with
    | cons r rr =>
      rw [List.countP_cons, List.count_cons, cnt_bls rr, eqU_of r rfl]
      have e : eqV (.bl b) (.bl k) = (b == k) := by cases b <;> cases k <;> rfl
      rw [e]
theorem mt_lcountB {X : Cx} : MtR X "list.count" (rCntB X.K) := by
  intro pins s σ H x xs v us Q I rx rxs h
  obtain ⟨a, bs, k, rfl, rfl, hs, q⟩ := h
  cases rx
  obtain ⟨u, rfl, ru⟩ := rxs.one
  obtain ⟨its, rv, ⟨⟨oc, od, data, sl⟩, n, ho, hc, hdn, hd⟩, hlen⟩ := I.list hs
  simp only at hc hd
  subst hc hd
  have fys : (bs.map V.bl).all flatV = true := by simp [flatV]
  refine call_meets PySem.F.slot_list_count ⟨_, ho, rfl⟩ PySem.F.entry_list_count
    (PySem.F.args_list_count_2 _ _)
    (SeqAt.list_countAt a its.toArray n od sl u (eqU (.bl k)))
    ⟨ho, fun w hw => mem_eqAt ru rfl rv fys w (by simpa using hw), ?_⟩
  have ec : its.toArray.toList.countP (eqU (.bl k)) = bs.count k := by simpa using cnt_bls rv
  refine ⟨.int (bs.count k : Nat), H, I.tok _, ⟨s.toks, ?_⟩, q⟩
  show Value.int ((its.toArray.toList.countP (eqU (.bl k)) : Nat) : Int) s.toks = Value.int ((bs.count k : Nat) : Int) s.toks
  rw [ec]
def bmR0 (F : PySem.W.Frag) : Bm → Nat → RM
  | .append, _ => rAppend
  | .extend, _ => rExtend
  | .pop, 1 => fun x xs H Q => rPop x xs H Q ∨ rPopAt x xs H Q
  | .pop, _ => rDPop
  | .insert, _ => fun x vs H Q => ∃ (l : Addr) (xs : List V) (i : Int) (y : V), x = .ref l ∧ vs = [.int i, y] ∧ H l = some (.lst xs) ∧ xs.length < sizeLine ∧ 0 ≤ i ∧ i < 2 ^ 63 ∧ Q .non (upd H l (.lst (xs.take i.toNat ++ [y] ++ xs.drop i.toNat)))
  | .reverse, _ => rReverse
  | .clear, _ => rClear
  | .index, _ => rIndexD F
  | .count, _ => rCntB F
  | .get, _ => rDGet
  | .join, _ => fun x xs H Q => ∃ a p, ∃ ys : List Str, x = .str a ∧ xs = [.ref p] ∧ (SqL F H p (ys.map V.str) ∨ SqT F H p (ys.map V.str)) ∧ (ys.map (·.length)).sum + ys.length * a.length ≤ 16777216 ∧ Q (.str (Txt.join a ys)) H
  | .upper, _ => fun x xs H Q => ∃ a, x = .str a ∧ xs = [] ∧ a.length ≤ 5592405 ∧ Q (.str (Txt.upper a)) H
  | .partition, _ => rPartZ
  | .split, _ => fun x xs H Q => ∃ a b, x = .str a ∧ xs = [.str b] ∧ (b.length == 0) = false ∧ a.length + 2 ≤ sizeLine ∧ rNewStrs (Txt.split a b) H Q
  | .startswith, _ => fun x xs H Q => ∃ a b, x = .str a ∧ xs = [.str b] ∧ Q (.bl (Txt.startswith a b)) H
  | _, _ => fun _ _ _ _ => False
def bmR (L : Lk) : Bm → Nat → RM
  | .pop, 1 => bmR0 L.F .pop 1
  | .pop, k => fun x xs H Q => bmR0 L.F .pop k x xs H Q ∨ rDPop1 x xs H Q ∨ rTPop L x xs H Q
  | .get, k => fun x xs H Q => bmR0 L.F .get k x xs H Q ∨ rTGet L x xs H Q
  | .setdefault, _ => rTSetd L
  | f, k => bmR0 L.F f k
/-- what a method's call asks of the text's names -/
structure MthOk (X : Cx) (T : String) (name : Str) (id : String) (r : RM) : Prop where
  pa : PlainAttrs T
  slot : Slot T name id
  ty : typeOf (.builtin id) = pure (.type "method_descriptor")
  mt : MtR X id r
theorem bmS {X : Cx} {L : Lk} (hk : X.K = L.F) (hw : X.w = L.w) (hu : X.A.units + 65 < cLine) {f : Bm} {k : Nat} (h : mok f k = true) : MthOk X (bmT k) (bmN f) (bmId f k) (bmR L f k) := by
  unfold mok at h
  split at h
  · exact ⟨PySem.F.plainAttrs_list, PySem.F.slot_list_append, PySem.F.type_list_append, mt_append⟩
  · exact ⟨PySem.F.plainAttrs_list, PySem.F.slot_list_extend, PySem.F.type_list_extend, mt_extend⟩
  · exact ⟨PySem.F.plainAttrs_list, PySem.F.slot_list_pop, PySem.F.type_list_pop, MtR.or mt_pop mt_popAt⟩
  · exact ⟨PySem.F.plainAttrs_dict, PySem.F.slot_dict_pop, PySem.F.type_dict_pop, MtR.or mt_dpop (MtR.or mt_dpop1 (mt_tpop hk hw hu))⟩
  · exact ⟨PySem.F.plainAttrs_list, PySem.F.slot_list_insert, PySem.F.type_list_insert, mt_insert⟩
  · exact ⟨PySem.F.plainAttrs_list, PySem.F.slot_list_index, PySem.F.type_list_index, (by have z := mt_indexD hu; rw [hk] at z; exact z)⟩
  · exact ⟨PySem.F.plainAttrs_list, PySem.F.slot_list_count, PySem.F.type_list_count, (by have z := mt_lcountB (X := X); rw [hk] at z; exact z)⟩
  · exact ⟨PySem.F.plainAttrs_list, PySem.F.slot_list_reverse, PySem.F.type_list_reverse, mt_reverse⟩
  · exact ⟨PySem.F.plainAttrs_list, PySem.F.slot_list_clear, PySem.F.type_list_clear, mt_clear⟩
  · exact ⟨PySem.F.plainAttrs_dict, PySem.F.slot_dict_get, PySem.F.type_dict_get, MtR.or (mt_dget (by omega)) (mt_tget hk hw hu)⟩
  · exact ⟨PySem.F.plainAttrs_str, PySem.F.slot_str_join, PySem.F.type_str_join, (by have z := mt_join (X := X); rw [hk] at z; exact z)⟩
  · exact ⟨PySem.F.plainAttrs_dict, PySem.F.slot_dict_setdefault, PySem.F.type_dict_setdefault, mt_tsetd hk hw hu⟩
  · exact ⟨PySem.F.plainAttrs_str, PySem.F.slot_str_upper, PySem.F.type_str_upper, mt_upper⟩
  · exact ⟨PySem.F.plainAttrs_str, PySem.F.slot_str_partition, PySem.F.type_str_partition, mt_partZ⟩
  · exact ⟨PySem.F.plainAttrs_str, PySem.F.slot_str_split, PySem.F.type_str_split, mt_split⟩
  · exact ⟨PySem.F.plainAttrs_str, PySem.F.slot_str_startswith, PySem.F.type_str_startswith, mt_startswith⟩
  · cases h
section
variable {L : Lk} {m : Hm} {H : Hp} {P : PD} {Q : VK} {x y : D} {v u : V} {a : Addr} {xs : List D} {vs : List V}
/-- a receiver's type -/
def tyG (L : Lk) (T : String) (x : V) (H : Hp) : Prop := tyV L.F T x H ∨ (T = "dict" ∧ ∃ a xs, x = .ref a ∧ DtAt L.w H a xs)
theorem rk_ty {f : Bm} {k : Nat} (h : mok f k = true) (e : rk m x = k) (rx : Rp L.F H x v) (rel : Rel L m H) : tyG L (bmT k) v H := by
  cases rx with
  | str s =>
    have e2 : k = 3 := by rw [← e]; rfl
    subst e2; exact .inl rfl
  | @lst ds a ws sq rs =>
    have e2 : k = 1 := by rw [← e]; rfl
    subst e2; exact .inl (.inl ⟨rfl, ws, sq.sq⟩)
  | ref a =>
    simp only [rk] at e
    split at e
    · rename_i ds e2
      subst e
      obtain ⟨ws, h1, h2⟩ := rel _ _ e2
      exact .inl (.inl ⟨rfl, ws, SqL.of h1⟩)
    · rename_i ds e2
      subst e
      obtain ⟨ws, h1, h2⟩ := rel _ _ e2
      exact .inl (.inr (.inr (.inl ⟨rfl, .inl ⟨ws, h1⟩⟩)))
    · rename_i ds e2
      subst e
      obtain ⟨ws, h1, h2⟩ := rel _ _ e2
      exact .inr ⟨rfl, a, ws, rfl, h1⟩
    · subst e; simp [mok] at h
  | _ => (have e2 : k = 0 := by rw [← e]; rfl); subst e2; simp [mok] at h
theorem seqIx {n : Nat} {i : Int} {k : Nat} (h : Mn.ixN n i = some k) : seqIndex? i n = some k := (ixN_seq (n := n) (i := i) (j := k) h).1
theorem joinT_eq (sep : List Nat) : ∀ ss : List (List Nat), joinT sep ss = joinL sep ss
  | [] => rfl
  | [_] => rfl
  | x :: y :: r => by
    show x ++ (sep ++ joinT sep (y :: r)) = x ++ (sep ++ joinL sep (y :: r))
    rw [joinT_eq sep (y :: r)]
theorem fstIx_ok {x : D} : ∀ {ds : List D} {k j : Nat}, fstIx x ds k = some j → k ≤ j ∧ (∃ z, ds[j - k]? = some z ∧ D.eqv z x = true) ∧ ∀ i z, i < j - k → ds[i]? = some z → D.eqv z x = false
  | [], k, j, h => by simp [fstIx] at h
  | d :: ds, k, j, h => by
    simp only [fstIx] at h
    split at h
    · rename_i e
      cases h
      exact ⟨Nat.le_refl _, ⟨d, by simp, e⟩, fun i z hi _ => by omega⟩
    · rename_i e
      obtain ⟨h1, ⟨z, h2, h3⟩, h4⟩ := fstIx_ok h
      refine ⟨by omega, ⟨z, ?_, h3⟩, fun i w hi hw => ?_⟩
      · rw [show j - k = (j - (k + 1)) + 1 by omega, List.getElem?_cons_succ]
        exact h2
      · cases i with
        | zero =>
          rw [List.getElem?_cons_zero] at hw
          cases hw
          exact Bool.eq_false_iff.mpr e
        | succ i => exact h4 i w (by omega) (by rw [List.getElem?_cons_succ] at hw; exact hw)
theorem toPs_get : ∀ {ds : List D} {i : Nat} {z : PyData}, (toPs ds)[i]? = some z → ∃ d, ds[i]? = some d ∧ z = toP d
  | [], i, z, h => by simp [toPs] at h
  | d :: ds, 0, z, h => by simp [toPs] at h; exact ⟨d, rfl, h.symm⟩
  | d :: ds, i + 1, z, h => by
    simp only [toPs, List.getElem?_cons_succ] at h
    obtain ⟨e, h1, h2⟩ := toPs_get h
    exact ⟨e, by rw [List.getElem?_cons_succ]; exact h1, h2⟩
theorem toPs_at : ∀ {ds : List D} {i : Nat} {d : D}, ds[i]? = some d → (toPs ds)[i]? = some (toP d)
  | [], i, z, h => by simp at h
  | d :: ds, 0, z, h => by simp at h; simp [toPs, h]
  | d :: ds, i + 1, z, h => by
    simp only [toPs, List.getElem?_cons_succ] at h ⊢
    exact toPs_at h
theorem shps_get : ∀ {n : Nat} {ds : List D} {i : Nat} {d : D}, D.shps n ds = true → ds[i]? = some d → D.shp n d = true
  | _, [], i, d, _, h => by simp at h
  | _, e :: ds, 0, d, hs, h => by
    simp only [D.shps, Bool.and_eq_true] at hs
    simp at h; rw [← h]; exact hs.1
  | _, e :: ds, i + 1, d, hs, h => by
    simp only [D.shps, Bool.and_eq_true] at hs
    exact shps_get hs.2 (by simpa using h)
theorem bm_ok {f : Bm} {k : Nat} (hk : rk m x = k) (h : bmW f x xs m P) (rx : Rp L.F H x v) (rs : Rps L.F H xs vs) (rel : Rel L m H) (q : Kt L H P Q) : bmR L f k v vs H Q := by
  subst hk
  cases rx with
  | ref a =>
    cases f with
    | append =>
      cases rs with
      | @cons d w ds ws r1 rt => cases rt with
        | nil =>
          simp only [bmW] at h
          split at h
          · rename_i es e
            obtain ⟨us, k1, k2, k3⟩ := lst_of e rel
            have kp := Kp.over (o := HO.lst (us ++ [w])) k3 trivial
            exact ⟨a, us, w, rfl, rfl, k3, by rw [← k2.length]; exact SZ_lt h.1, q _ _ _ _ h.2 .non (rel.lst k3 (k2.append (.cons r1 .nil))) kp⟩
          · exact h.elim
        | cons _ _ => exact h.elim
      | nil => exact h.elim
    | extend =>
      cases rs with
      | @cons d w ds ws r1 rt => cases rt with
        | nil => cases r1 with
          | ref b =>
            simp only [bmW] at h
            split at h
            · rename_i xs1 ys1 e1 e2
              obtain ⟨us, k1, k2, k3⟩ := lst_of e1 rel
              obtain ⟨ws, l1, l2, l3⟩ := lst_of e2 rel
              have kp := Kp.over (o := HO.lst (us ++ ws)) k3 trivial
              exact ⟨a, b, us, ws, rfl, rfl, k3, l3, by rw [← k2.length, ← l2.length]; exact SZ_line h.1, q _ _ _ _ h.2 .non (rel.lst k3 (k2.append l2)) kp⟩
            · exact h.elim
          | _ => exact h.elim
        | cons _ _ => first | exact h.elim | (simp [bmW] at h)
      | nil => exact h.elim
    | pop =>
      cases rs with
      | nil =>
        simp only [bmW] at h
        split at h
        · rename_i es e
          obtain ⟨d, h1, h2⟩ := h
          obtain ⟨us, k1, k2, k3⟩ := lst_of e rel
          obtain ⟨w, w1, w2⟩ := k2.get h1
          have e3 : rk m (.ref a) = 1 := by simp only [rk, e]
          rw [e3]
          have kp := Kp.over (o := HO.lst us.dropLast) k3 trivial
          exact .inl ⟨a, us, w, rfl, rfl, k3, by rw [← k2.length]; exact w1, q _ _ _ _ h2 (w2.mono kp) (rel.lst k3 k2.dropLast) kp⟩
        · exact h.elim
      | @cons d w ds ws r1 rt => cases rt with
        | nil =>
          simp only [bmW] at h
          split at h
          · rename_i es e
            have e3 : rk m (.ref a) = 1 := by simp only [rk, e]
            rw [e3]
            cases r1 with
            | int i =>
              obtain ⟨⟨b1, b2⟩, j, d, h1, h2, h3⟩ := h
              obtain ⟨us, k1, k2, k3⟩ := lst_of e rel
              obtain ⟨w, w1, w2⟩ := k2.get h2
              have kp := Kp.over (o := HO.lst (us.eraseIdx j)) k3 trivial
              exact .inr ⟨a, us, i, j, w, rfl, rfl, k3, b1, b2, by rw [← k2.length]; exact seqIx h1, w1, q _ _ _ _ h3 (w2.mono kp) (rel.lst k3 (k2.eraseIdx j)) kp⟩
            | _ => exact h.elim
          · rename_i kvs e
            obtain ⟨j, d2, e2, e4, h3⟩ := h
            obtain ⟨kws, k1, k2⟩ := rel _ _ e
            have e3 : rk m (.ref a) = 2 := by simp only [rk, e]
            rw [e3]
            have e5 := ky_rp e2 r1
            subst e5
            have kp := Kp.over (o := HO.dK (dropK kws (kyV j))) k1 trivial
            rcases k2.look (fun _ _ z => kyV_inj z) (k := j) with ⟨z1, z2⟩ | ⟨d3, z, z1, z2, z3⟩
            · rw [z1] at e4; cases e4
            · rw [z1] at e4
              cases e4
              exact .inr (.inl ⟨a, kws, kyV j, z, rfl, rfl, k1, z2, q _ _ _ _ h3 (z3.mono kp) (rel.put kp ⟨_, upd_same, (KvR.drop (fun _ _ z => kyV_inj z) (k := j) k2).mono kp⟩) kp⟩)
          · rename_i kvs e
            have e3 : rk m (.ref a) = 2 := by simp only [rk, e]
            rw [e3]
            split at h
            · rename_i ks
              obtain ⟨hs, d2, e4, h3⟩ := h
              obtain ⟨xs, k1, k2⟩ := rel _ _ e
              refine .inr (.inr ⟨a, kvs, xs, ks, w, [], rfl, rfl, Nat.zero_le _, .inl ⟨k1, k2⟩, r1, hs, fun v hv D => ?_, fun hv => ?_⟩)
              · have kp := Kp.over (o := DtO L.w a (dropX xs (nkT ks))) k1.on trivial
                rcases lookT hs k2 with ⟨z1, z2⟩ | ⟨d3, z, z1, z2, z3⟩
                · rw [z2] at hv; cases hv
                · rw [z2] at hv
                  cases hv
                  rw [z1] at e4
                  cases e4
                  exact q _ _ _ _ h3 (z3.mono kp) (rel.put kp ⟨_, D, (dropT hs k2).mono kp⟩) kp
              · rcases lookT hs k2 with ⟨z1, z2⟩ | ⟨d3, z, z1, z2, z3⟩
                · rw [z1] at e4; cases e4
                · rw [z2] at hv; cases hv
            · exact h.elim
          · exact h.elim
        | @cons z w2 ds ws r2 rt => cases rt with
          | nil =>
            simp only [bmW] at h
            split at h
            · rename_i kvs e1
              obtain ⟨kws, k1, k2⟩ := rel _ _ e1
              have e3 : rk m (.ref a) = 2 := by simp only [rk, e1]
              rw [e3]
              split at h
              · rename_i j e2
                have e4 := ky_rp e2 r1
                subst e4
                have kp := Kp.over (o := HO.dK (dropK kws (kyV j))) k1 trivial
                refine .inl ⟨a, kws, kyV j, w2, rfl, rfl, k1, fun v hv => ?_, fun hv => ?_⟩
                · rcases k2.look (fun _ _ z => kyV_inj z) (k := j) with ⟨z1, z2⟩ | ⟨d, z, z1, z2, z3⟩
                  · rw [z2] at hv; cases hv
                  · rw [z2] at hv
                    cases hv
                    rw [z1] at h
                    exact q _ _ _ _ h (z3.mono kp) (rel.put kp ⟨_, upd_same, (KvR.drop (fun _ _ z => kyV_inj z) (k := j) k2).mono kp⟩) kp
                · rcases k2.look (fun _ _ z => kyV_inj z) (k := j) with ⟨z1, z2⟩ | ⟨d, z, z1, z2, z3⟩
                  · rw [z1] at h
                    exact q.here h r2 rel
                  · rw [z2] at hv; cases hv
              · split at h
                · rename_i ks e2
                  obtain ⟨e4, hs, h3⟩ := h
                  subst e4
                  cases k2
                  refine .inr (.inr ⟨a, [], [], ks, w, [w2], rfl, rfl, Nat.le_refl _, .inr ⟨k1, rfl, rfl⟩, r1, hs, fun v hv => ?_, fun hv => ⟨w2, rfl, q.here h3 r2 rel⟩⟩)
                  cases hv
                · exact h.elim
            · rename_i kvs e
              have e3 : rk m (.ref a) = 2 := by simp only [rk, e]
              rw [e3]
              split at h
              · rename_i ks
                obtain ⟨hs, h3⟩ := h
                obtain ⟨xs, k1, k2⟩ := rel _ _ e
                refine .inr (.inr ⟨a, kvs, xs, ks, w, [w2], rfl, rfl, Nat.le_refl _, .inl ⟨k1, k2⟩, r1, hs, fun v hv D => ?_, fun hv => ⟨w2, rfl, ?_⟩⟩)
                · have kp := Kp.over (o := DtO L.w a (dropX xs (nkT ks))) k1.on trivial
                  rcases lookT hs k2 with ⟨z1, z2⟩ | ⟨d3, z, z1, z2, z3⟩
                  · rw [z2] at hv; cases hv
                  · rw [z2] at hv
                    cases hv
                    rw [z1] at h3
                    exact q _ _ _ _ h3 (z3.mono kp) (rel.put kp ⟨_, D, (dropT hs k2).mono kp⟩) kp
                · rcases lookT hs k2 with ⟨z1, z2⟩ | ⟨d3, z, z1, z2, z3⟩
                  · rw [z1] at h3
                    exact q.here h3 r2 rel
                  · rw [z2] at hv; cases hv
              · exact h.elim
            · exact h.elim
          | cons _ _ => first | exact h.elim | (simp [bmW] at h)
    | insert =>
      cases rs with
      | nil => exact h.elim
      | @cons d w ds ws r1 rt => cases rt with
        | nil => cases r1 <;> first | exact h.elim | (simp [bmW] at h)
        | @cons z w2 ds ws r2 rt => cases rt with
          | nil => cases r1 with
            | int i =>
              simp only [bmW] at h
              split at h
              · rename_i es e
                obtain ⟨h1, ⟨b1, b2⟩, h3⟩ := h
                obtain ⟨us, k1, k2, k3⟩ := lst_of e rel
                have kp := Kp.over (o := HO.lst (us.take i.toNat ++ [w2] ++ us.drop i.toNat)) k3 trivial
                exact ⟨a, us, i, w2, rfl, rfl, k3, by rw [← k2.length]; exact SZ_lt h1, b1, b2, q _ _ _ _ h3 .non (rel.lst k3 (((k2.take _).append (.cons r2 .nil)).append (k2.drop _))) kp⟩
              · exact h.elim
            | _ => exact h.elim
          | cons _ _ => cases r1 <;> first | exact h.elim | (simp [bmW] at h)
    | reverse =>
      cases rs with
      | nil =>
        simp only [bmW] at h
        split at h
        · rename_i es e
          obtain ⟨us, k1, k2, k3⟩ := lst_of e rel
          have kp := Kp.over (o := HO.lst us.reverse) k3 trivial
          exact ⟨a, us, rfl, rfl, k3, q _ _ _ _ h .non (rel.lst k3 k2.reverse) kp⟩
        · exact h.elim
      | cons _ _ => exact h.elim
    | clear =>
      cases rs with
      | nil =>
        simp only [bmW] at h
        split at h
        · rename_i es e
          obtain ⟨us, k1, k2, k3⟩ := lst_of e rel
          have kp := Kp.over (o := HO.lst []) k3 trivial
          exact ⟨a, us, rfl, rfl, k3, q _ _ _ _ h .non (rel.lst k3 .nil) kp⟩
        · exact h.elim
      | cons _ _ => exact h.elim
    | index =>
      cases rs with
      | nil => exact h.elim
      | @cons d w ds ws r1 rt => cases rt with
        | nil =>
          simp only [bmW] at h
          split at h
          · rename_i es e
            obtain ⟨x2, ds2, j, t1, t2, t3, t4, t5, t6⟩ := h
            obtain ⟨us, k1, k2, k3⟩ := lst_of e rel
            obtain ⟨f1, ⟨z, f2, f3⟩, f4⟩ := fstIx_ok t5
            refine ⟨a, w, toP x2, toPs ds2, j, toP z, rfl, rfl, .lst k1 (t2.dp rel k2), t1.dp rel r1, shps_ok t4, shp_ok t3, toPs_at f2, ?_, fun i z2 hi hz => ?_, q.here t6 (.int _) rel⟩
            · rw [eqv_ok _ _ (shps_get t4 f2) t3]; exact f3
            · obtain ⟨d2, g1, rfl⟩ := toPs_get hz
              rw [eqv_ok _ _ (shps_get t4 g1) t3]
              exact f4 i d2 (by simpa using hi) g1
          · exact h.elim
        | cons _ _ => exact h.elim
    | count =>
      cases rs with
      | nil => exact h.elim
      | @cons d w ds ws r1 rt => cases rt with
        | nil =>
          cases r1 with
          | bl k =>
            simp only [bmW] at h
            split at h
            · rename_i es e
              obtain ⟨bs, t1, t2⟩ := h
              obtain ⟨us, k1, k2, k3⟩ := lst_of e rel
              exact ⟨a, bs, k, rfl, rfl, by rw [← k2.bls t1]; exact k1, q.here t2 (.int _) rel⟩
            · exact h.elim
          | _ => exact h.elim
        | cons _ _ => cases r1 <;> exact h.elim
    | setdefault =>
      cases rs with
      | nil => exact h.elim
      | @cons d w ds ws r1 rt => cases rt with
        | nil => cases d <;> exact h.elim
        | @cons z w2 ds ws r2 rt => cases rt with
          | cons _ _ => cases d <;> exact h.elim
          | nil =>
            cases d with
            | tup ks =>
              obtain ⟨b, rfl⟩ := r1.tup_ref
              simp only [bmW] at h
              show rTSetd L _ _ _ _
              split at h
              · rename_i kvs e
                obtain ⟨e4, hs, h3⟩ := h
                subst e4
                obtain ⟨kws, k1, k2⟩ := rel _ _ e
                cases k2
                refine ⟨a, [], [], ks, b, w2, rfl, rfl, .inr ⟨k1, rfl, rfl⟩, by rw [sizeLine_eq]; decide, r1, hs, fun v hv => absurd hv (by simp [getX]), fun _ D => ?_⟩
                have kp := Kp.over (o := DtO L.w a (putX [] (nkT ks) b w2)) k1 trivial
                exact q _ _ _ _ h3 (r2.mono kp) (rel.put kp ⟨_, D, (putT (kvs := []) (xs := []) hs r1 r2 .nil).mono kp⟩) kp
              · rename_i kvs e
                obtain ⟨hs, hl, h3⟩ := h
                obtain ⟨xs, k1, k2⟩ := rel _ _ e
                refine ⟨a, kvs, xs, ks, b, w2, rfl, rfl, .inl ⟨k1, k2⟩, by rw [← k2.len]; exact SZ_lt hl, r1, hs, fun v hv => ?_, fun hn D => ?_⟩
                · rcases lookT hs k2 with ⟨z1, z2⟩ | ⟨d3, z, z1, z2, z3⟩
                  · rw [z2] at hv; cases hv
                  · rw [z2] at hv
                    cases hv
                    rw [z1] at h3
                    exact q.here h3 z3 rel
                · rcases lookT hs k2 with ⟨z1, z2⟩ | ⟨d3, z, z1, z2, z3⟩
                  · rw [z1] at h3
                    have kp := Kp.over (o := DtO L.w a (putX xs (nkT ks) b w2)) k1.on trivial
                    exact q _ _ _ _ h3 (r2.mono kp) (rel.put kp ⟨_, D, (putT hs r1 r2 k2).mono kp⟩) kp
                  · rw [z2] at hn; cases hn
              · exact h.elim
            | _ => exact h.elim
    | get =>
      cases rs with
      | nil => exact h.elim
      | @cons d w ds ws r1 rt => cases rt with
        | nil => exact h.elim
        | @cons z w2 ds ws r2 rt => cases rt with
          | nil =>
            obtain ⟨o, h1, h2⟩ := h
            rcases dget_ok h1 r1 rel with ⟨t, g, hw⟩ | ⟨ks, kvs, xs, e1, e2, e3, e4⟩
            · refine .inl ⟨a, w, w2, t, rfl, rfl, g, ?_⟩
              rcases hw with ⟨e1, e2⟩ | ⟨d3, z3, e1, e2, e3⟩
              · subst e1 e2; exact q.here h2 r2 rel
              · subst e1 e2; exact q.here h2 e3 rel
            · subst e1
              refine .inr ⟨a, kvs, xs, ks, w, w2, rfl, rfl, e3, r1, e2, ?_⟩
              rcases lookT e2 e3.r with ⟨g1, g2⟩ | ⟨d3, z3, g1, g2, g3⟩
              · rw [g2]; rw [e4, g1] at h2; exact q.here h2 r2 rel
              · rw [g2]; rw [e4, g1] at h2; exact q.here h2 g3 rel
          | cons _ _ => exact h.elim
    | _ => cases rs <;> first | exact h.elim | (simp [bmW] at h)
  | str s =>
    cases f with
    | join =>
      cases rs with
      | nil => exact h.elim
      | @cons d w ds ws r1 rt => cases rt with
        | nil => cases r1 with
          | ref a =>
            simp only [bmW] at h
            split at h
            · rename_i es e
              obtain ⟨ss, h1, h2, h3⟩ := h
              obtain ⟨us, k1, k2, k3⟩ := lst_of e rel
              have e4 := k2.strs h1
              have e5 : ss.map (fun t => V.str (toS t)) = (ss.map toS).map V.str := by rw [List.map_map]; rfl
              have k1 : SqL L.F H a ((ss.map toS).map V.str) := by rw [← e5, ← e4]; exact k1
              refine ⟨toS s, a, ss.map toS, rfl, rfl, .inl k1, ?_, ?_⟩
              · rw [List.map_map, List.length_map, toS_len, show ((fun x : Str => x.length) ∘ toS) = List.length from funext toS_len]
                exact h2
              · have e6 : Txt.join (toS s) (ss.map toS) = toS (joinT s ss) := by
                  have e7 : tl (Txt.join (toS s) (ss.map toS)) = joinT s ss := by
                    rw [join_eq, tl_join, joinT_eq, List.map_map]
                    have e8 : (tl ∘ toS) = (id : List Nat → List Nat) := funext fun t => toS_list t
                    rw [e8, List.map_id, show tl (toS s) = s from toS_list s]
                  rw [← e7]
                  exact (mk_tl _).symm
                rw [e6]
                exact q.here h3 (.str _) rel
            · exact h.elim
          | _ => exact h.elim
        | cons _ _ => cases r1 <;> first | exact h.elim | (simp [bmW] at h)
    | upper =>
      cases rs with
      | nil =>
        have h2 : (s.all (· < 128) = true ∧ s.length ≤ 5592405) ∧ P (.str (s.map upC)) m := h
        refine ⟨_, rfl, rfl, by rw [toS_len]; exact h2.1.2, ?_⟩
        rw [upper_toS h2.1.1]
        exact q.here h2.2 (.str _) rel
      | cons _ _ => exact h.elim
    | partition =>
      cases rs with
      | nil => exact h.elim
      | @cons d w ds ws r1 rt => cases rt with
        | nil => cases r1 with
          | str t =>
            have h2 : (t ≠ [] ∧ s.length ≤ SZ) ∧ P (.tup (par3 s t)) m := h
            refine ⟨_, _, rfl, rfl, ?_, by rw [toS_len]; exact SZ_line h2.1.2, ?_⟩
            · rw [toS_len]
              exact beq_false_of_ne fun z => h2.1.1 (List.length_eq_zero_iff.mp z)
            · have e := par_toS s t h2.1.1
              rw [← e] at h2
              refine q.tup h2.2 (.cons ?_ (.cons ?_ (.cons ?_ .nil))) rel
              · have := Rp.str (F := L.F) (H := H) (Txt.partition (toS s) (toS t)).1.cps.toList
                rwa [show toS (Txt.partition (toS s) (toS t)).1.cps.toList = (Txt.partition (toS s) (toS t)).1 from mk_tl _] at this
              · have := Rp.str (F := L.F) (H := H) (Txt.partition (toS s) (toS t)).2.1.cps.toList
                rwa [show toS (Txt.partition (toS s) (toS t)).2.1.cps.toList = (Txt.partition (toS s) (toS t)).2.1 from mk_tl _] at this
              · have := Rp.str (F := L.F) (H := H) (Txt.partition (toS s) (toS t)).2.2.cps.toList
                rwa [show toS (Txt.partition (toS s) (toS t)).2.2.cps.toList = (Txt.partition (toS s) (toS t)).2.2 from mk_tl _] at this
          | _ => exact h.elim
        | cons _ _ => cases r1 <;> first | exact h.elim | (simp [bmW] at h)
    | split =>
      cases rs with
      | nil => exact h.elim
      | @cons d w ds ws r1 rt => cases rt with
        | nil => cases r1 with
          | str t =>
            have h2 : (t ≠ [] ∧ t.all (· < 256) = true ∧ s.length + 2 ≤ SZ) ∧ newO m (.lst ((splT t 0 [] s).map .str)) P := h
            obtain ⟨⟨h3, h4, h5⟩, h6⟩ := h2
            refine ⟨_, _, rfl, rfl, ?_, by rw [toS_len]; exact SZ_line h5, fun p hp => ?_⟩
            · rw [toS_len]
              exact beq_false_of_ne fun z => h3 (List.length_eq_zero_iff.mp z)
            · rw [← split_toS s t h3 h4] at h6
              refine q.lst h6 ?_ rel hp
              have := strs_rp (F := L.F) (H := H) ((Txt.split (toS s) (toS t)).map tl)
              have e9 : ((Txt.split (toS s) (toS t)).map tl).map toS = Txt.split (toS s) (toS t) := by
                rw [List.map_map, show (toS ∘ tl) = id from funext fun x => mk_tl x, List.map_id]
              rwa [e9] at this
          | _ => exact h.elim
        | cons _ _ => cases r1 <;> first | exact h.elim | (simp [bmW] at h)
    | startswith =>
      cases rs with
      | nil => exact h.elim
      | @cons d w ds ws r1 rt => cases rt with
        | nil => cases r1 with
          | str t => exact ⟨_, _, rfl, rfl, by rw [starts_toS]; exact q.here h (.bl _) rel⟩
          | _ => exact h.elim
        | cons _ _ => cases r1 <;> first | exact h.elim | (simp [bmW] at h)
    | _ => cases rs <;> first | exact h.elim | (simp [bmW] at h)
  | _ => cases f <;> first | exact h.elim | (simp [bmW] at h)

/-! ### o[i] = v -/
end
def rDSet : V → V → V → Hp → (Hp → Prop) → Prop := fun o i v H Q => ∃ a H2, o = V.ref a ∧ DPut H a i v H2 ∧ Q H2
def rTSet (L : Lk) : V → V → V → Hp → (Hp → Prop) → Prop := fun o y v H Q => ∃ a kvs xs ks b, o = V.ref a ∧ y = V.ref b ∧ DtV L H a kvs xs ∧ Rp L.F H (.tup ks) y ∧ D.keyds 7 ks = true ∧ xs.length < sizeLine ∧
  (DtAt L.w (upd H a (DtO L.w a (putX xs (nkT ks) b v))) a (putX xs (nkT ks) b v) → Q (upd H a (DtO L.w a (putX xs (nkT ks) b v))))
def setR (L : Lk) : V → V → V → Hp → (Hp → Prop) → Prop := fun o i v H Q => rSetL o i v H Q ∨ rDSet o i v H Q ∨ rTSet L o i v H Q
theorem setS {X : Cx} {L : Lk} (hk : X.K = L.F) (hw : X.w = L.w) (hu : X.A.units + 65 < cLine) : PSet X (setR L) := by
  intro pins s σ H o i v ov iv u Q I ro ri rv h
  rcases h with h | ⟨a, H2, rfl, g, q⟩ | ⟨a, kvs, xs, ks, b, rfl, rfl, D, rk, hs, hl, q⟩
  · exact set_list pins s σ H o i v ov iv u Q I ro ri rv h
  · obtain rfl : ov = Value.ref a := ro
    exact d_setItem (by omega) I g ri rv fun s2 I2 => ⟨H2, I2, q⟩
  · obtain rfl : ov = Value.ref a := ro
    obtain rfl : iv = Value.ref b := ri
    rw [← hw] at q
    exact dt_setItem (by omega) I (D.now hk hw I) (keyT_is hk I hs rk) hl rv fun s2 I2 D2 => ⟨_, I2, q D2⟩
section
variable {L : Lk} {m : Hm} {H : Hp} {x y z : D} {v u w : V} {Q : Hm → Prop} {R : Hp → Prop}
theorem set_ok (h : setW x y z m Q) (rx : Rp L.F H x v) (ry : Rp L.F H y u) (rz : Rp L.F H z w) (rel : Rel L m H) (q : ∀ m2 H2, Q m2 → Rel L m2 H2 → Kp H H2 → R H2) : setR L v u w H R := by
  cases rx with
  | ref a =>
    have dic : ∀ {ob : MO}, dput m a y z = some ob → Q (up m a ob) → setR L (.ref a) u w H R := fun {ob} hg hp => by
      rcases dput_ok hg ry rz rel with ⟨H2, h1, h2, h3⟩ | ⟨ks, kvs, xs, e1, e2, e3, e4, e5⟩
      · exact .inr (.inl ⟨a, H2, rfl, h1, q _ _ hp h2 h3⟩)
      · subst e1 e5
        obtain ⟨b, rfl⟩ := ry.tup_ref
        refine .inr (.inr ⟨a, kvs, xs, ks, b, rfl, rfl, e3, ry, e2, e4, fun D => ?_⟩)
        have kp : Kp H (upd H a (DtO L.w a (putX xs (nkT ks) b w))) := by
          rcases e3 with ⟨d, _⟩ | ⟨d, _, _⟩
          · exact Kp.over d.on trivial
          · exact Kp.over d trivial
        exact q _ _ hp (rel.put kp ⟨_, D, (putT e2 ry rz e3.r).mono kp⟩) kp
    cases ry with
    | int i =>
      simp only [setW] at h
      split at h
      · rename_i ds e
        obtain ⟨j, h1, h2⟩ := h
        obtain ⟨us, k1, k2, k3⟩ := lst_of e rel
        refine .inl ⟨a, us, i, j, rfl, rfl, k3, by rw [← k2.length]; exact h1, q _ _ h2 (rel.lst k3 (k2.set rz j)) (.over k3 trivial)⟩
      · rename_i kvs e
        exact dic (ob := .dK (putk kvs (.inl i) z)) (by unfold dput; rw [e]; simp only [h.1, if_true]) h.2
      · exact h.elim
    | _ => obtain ⟨ob, h1, h2⟩ := h; exact dic h1 h2
  | _ => exact h.elim

/-! ### isinstance -/
def tyN : Ty → String
  | .verr => "ValueError"
  | .int => "int" | .bool => "bool" | .str => "str" | .tuple => "tuple" | .list => "list" | .dict => "dict" | .own _ => "object"
def isBt : Ty → Bool
  | .verr => false
  | .own _ => false | _ => true
theorem kit_non : ∀ t, isBt t = true → kitB "NoneType" (tyN t) = some false := by intro t h; cases t <;> first | decide +kernel | cases h
theorem kit_bool : ∀ t, isBt t = true → kitB "bool" (tyN t) = some (match t with | .int => true | .bool => true | _ => false) := by intro t h; cases t <;> first | decide +kernel | cases h
theorem kit_int : ∀ t, isBt t = true → kitB "int" (tyN t) = some (match t with | .int => true | _ => false) := by intro t h; cases t <;> first | decide +kernel | cases h
theorem kit_str : ∀ t, isBt t = true → kitB "str" (tyN t) = some (match t with | .str => true | _ => false) := by intro t h; cases t <;> first | decide +kernel | cases h
theorem kit_tuple : ∀ t, isBt t = true → kitB "tuple" (tyN t) = some (match t with | .tuple => true | _ => false) := by intro t h; cases t <;> first | decide +kernel | cases h
theorem kit_list : ∀ t, isBt t = true → kitB "list" (tyN t) = some (match t with | .list => true | _ => false) := by intro t h; cases t <;> first | decide +kernel | cases h
theorem kit_dict : ∀ t, isBt t = true → kitB "dict" (tyN t) = some (match t with | .dict => true | _ => false) := by intro t h; cases t <;> first | decide +kernel | cases h
theorem ty_ok {t : Ty} {b : Bool} (hb : isBt t = true) (h : tyIs m x t = some b) (rx : Rp L.F H x v) (rel : Rel L m H) : ∃ c, TyX L.F H v c ∧ PySem.W.kitOne L.F c (.type (tyN t)) = some b := by
  cases rx with
  | non => cases h; exact ⟨_, .base .non, kit_ty (kit_non t hb)⟩
  | bl c => cases h; exact ⟨_, .base (.bl c), kit_ty (kit_bool t hb)⟩
  | int i => cases h; exact ⟨_, .base (.int i), kit_ty (kit_int t hb)⟩
  | str s => cases h; exact ⟨_, .base (.str _), kit_ty (kit_str t hb)⟩
  | @tup ds a ws sq rs =>
    cases h
    rcases sq with ⟨o, e, _⟩ | ⟨o, its, n, e1, e2, _⟩
    · exact ⟨_, .fTuple e, kit_ty (kit_tuple t hb)⟩
    · exact ⟨_, .kTuple e1 e2, kit_ty (kit_tuple t hb)⟩
  | @lst ds a ws sq rs =>
    cases h
    rcases sq with ⟨o, e⟩ | ⟨o, its, n, e1, e2, _⟩
    · exact ⟨_, .base (.frz e), kit_ty (kit_list t hb)⟩
    · exact ⟨_, .kList e1 e2, kit_ty (kit_list t hb)⟩
  | ref a =>
    simp only [tyIs] at h
    split at h
    · rename_i ds e
      cases h
      obtain ⟨ws, h1, h2⟩ := rel _ _ e
      exact ⟨_, .base (.lst h1), kit_ty (kit_list t hb)⟩
    · rename_i ds e
      cases h
      obtain ⟨ws, h1, h2⟩ := rel _ _ e
      exact ⟨_, .base (.dK h1), kit_ty (kit_dict t hb)⟩
    · cases h
  | exc a c => cases h
theorem ty_all {t0 : Ty} {b0 : Bool} (h0 : tyIs m x t0 = some b0) (rx : Rp L.F H x v) (rel : Rel L m H) : ∃ c, TyX L.F H v c ∧ ∀ (t : Ty) (b : Bool), isBt t = true → tyIs m x t = some b → PySem.W.kitOne L.F c (.type (tyN t)) = some b := by
  cases rx with
  | non => exact ⟨_, .base .non, fun t b hb h => by cases h; exact kit_ty (kit_non t hb)⟩
  | bl c => exact ⟨_, .base (.bl c), fun t b hb h => by cases h; exact kit_ty (kit_bool t hb)⟩
  | int i => exact ⟨_, .base (.int i), fun t b hb h => by cases h; exact kit_ty (kit_int t hb)⟩
  | str s => exact ⟨_, .base (.str _), fun t b hb h => by cases h; exact kit_ty (kit_str t hb)⟩
  | @tup ds a ws sq rs =>
    rcases sq with ⟨o, e, _⟩ | ⟨o, its, n, e1, e2, _⟩
    · exact ⟨_, .fTuple e, fun t b hb h => by cases h; exact kit_ty (kit_tuple t hb)⟩
    · exact ⟨_, .kTuple e1 e2, fun t b hb h => by cases h; exact kit_ty (kit_tuple t hb)⟩
  | @lst ds a ws sq rs =>
    rcases sq with ⟨o, e⟩ | ⟨o, its, n, e1, e2, _⟩
    · exact ⟨_, .base (.frz e), fun t b hb h => by cases h; exact kit_ty (kit_list t hb)⟩
    · exact ⟨_, .kList e1 e2, fun t b hb h => by cases h; exact kit_ty (kit_list t hb)⟩
  | ref a =>
    simp only [tyIs] at h0
    split at h0
    · rename_i ds e
      obtain ⟨ws, h1, h2⟩ := rel _ _ e
      exact ⟨_, .base (.lst h1), fun t b hb h => by simp only [tyIs, e] at h; cases h; exact kit_ty (kit_list t hb)⟩
    · rename_i ds e
      obtain ⟨ws, h1, h2⟩ := rel _ _ e
      exact ⟨_, .base (.dK h1), fun t b hb h => by simp only [tyIs, e] at h; cases h; exact kit_ty (kit_dict t hb)⟩
    · cases h0
  | exc a c => cases h0
end
end Mn
end

section
set_option Elab.async false
set_option linter.all false
set_option maxRecDepth 100000
set_option maxHeartbeats 4000000
/-! Mn, part G: the text against the terms; contexts; what a term's walk asks of the layer. -/
namespace Mn
open PySem PySem.Spec PyProof.Rows L2

/-! ### forms of the text -/
def isMx : Bf → Bool | .max => true | _ => false
def nostar : Expr → Bool | .Starred .. => false | _ => true
def nocomp : Expr → Bool | .ListComp .. => false | .SetComp .. => false | .DictComp .. => false | _ => true
def nosup : Expr → Bool | .Call (.Name _ _) [] [] _ => false | _ => true
def noset : Expr → Bool | .Set .. => false | _ => true
def nosl : Expr → Bool | .Slice .. => false | _ => true
def ptp : Expr → Bool | .UnaryOp .Not _ _ => false | .BoolOp .. => false | .IfExp .. => false | .Compare .. => false | _ => true
theorem star_ok {e : Expr} (h : nostar e = true) (es : List Expr) (env : PySem.Env) : starEach (e :: es) env = (false, eval e env) :: starEach es env := by
  cases e <;> first | rfl | cases h
theorem stars_ok : ∀ {es : List Expr}, es.all nostar = true → ∀ (pos : Pos) (env : PySem.Env), (backTo pos (starEach es env)).any (·.1) = false ∧ (backTo pos (starEach es env)).all (fun x => !x.1) = true ∧ (starEach es env).length = es.length
  | [], _, _, _ => ⟨rfl, rfl, rfl⟩
  | e :: es, h, pos, env => by
    rw [List.all_cons, Bool.and_eq_true] at h
    obtain ⟨h1, h2, h3⟩ := stars_ok h.2 pos env
    rw [star_ok h.1]
    refine ⟨?_, ?_, by simp [h3]⟩
    · show (false || (backTo pos (starEach es env)).any (·.1)) = false
      rw [h1]; rfl
    · show (!false && (backTo pos (starEach es env)).all fun x => !x.1) = true
      rw [h2]; rfl
theorem sup_ok {e : Expr} (h : nosup e = true) (m : Str) (env : PySem.Env) : attributeBase e m env (eval e env) = eval e env := by
  cases e with
  | Call f as ks pos =>
    cases f with
    | Name x p =>
      cases as with
      | cons _ _ => rfl
      | nil => cases ks with
        | cons _ _ => rfl
        | nil => cases h
    | _ => rfl
  | _ => rfl
theorem swap_ok {e : Expr} (h : nocomp e = true) (t : Option Expr) (l : Nat) (env : PySem.Env) : swapsWith e t l env = pure false := by
  cases e <;> first | rfl | cases h
theorem swap_oth {e : Expr} (o : Expr) (f : Str) (p : Pos) (l : Nat) (env : PySem.Env) : swapsWith e (some (.Attribute o f p)) l env = pure false := by cases e <;> rfl
theorem swap_sub {e : Expr} (o f : Expr) (p : Pos) (l : Nat) (env : PySem.Env) : swapsWith e (some (.Subscript o f p)) l env = pure false := by cases e <;> rfl
theorem swap_tup {e : Expr} (es : List Expr) (k : Nat) (p : Pos) (l : Nat) (env : PySem.Env) : swapsWith e (some (.Tuple es k p)) l env = pure false := by cases e <;> rfl
theorem fold_ok {e : Expr} (h : noset e = true) (env : PySem.Env) (x : Value) : foldedSetIterable e env x = pure x := by
  cases e <;> first | rfl | cases h
theorem mark_ok {e : Expr} (h : noset e = true) (op : CmpOp) : behindInMarks op e = false := by
  cases e <;> first | rfl | cases h
theorem plain_ix {e : Expr} (h : nosl e = true) : PlainIx e := fun o i => by
  cases e <;> first | rfl | cases h
theorem aug_ok {e : Expr} (h : nosl e = true) (ov iv new : Value) : augStore e ov iv new = (do holding [new, ov, iv] (setItem ov iv new); release [new, ov, iv] []; pure .next) := by
  cases e <;> first | rfl | cases h
theorem ptp_ok {e : Expr} (h : ptp e = true) (env : PySem.Env) (whole : Sem Value) : isTrue e env whole = (do let v ← whole; standAt e.pos; holding [v] (truthy v)) := by
  cases e with
  | UnaryOp op x p => cases op <;> first | rfl | cases h
  | _ => first | rfl | cases h

/-! ### the matching -/
mutual
def D.same : D → D → Bool
  | .non, y => match y with | .non => true | _ => false
  | .bl a, y => match y with | .bl b => a == b | _ => false
  | .int i, y => match y with | .int j => decide (i = j) | _ => false
  | .str s, y => match y with | .str t => decide (s = t) | _ => false
  | .tup xs, y => match y with | .tup ys => D.sames xs ys | _ => false
  | .lst _, _ => false
  | .ref _, _ => false
  | .exc _ _, _ => false
def D.sames : List D → List D → Bool
  | [], ys => ys.isEmpty
  | x :: xs, ys => match ys with | [] => false | y :: ys => D.same x y && D.sames xs ys
end
mutual
theorem same_eq : ∀ {x y : D}, D.same x y = true → x = y
  | .non, y, h => by cases y <;> simp_all [D.same]
  | .bl a, y, h => by cases y <;> simp_all [D.same]
  | .int a, y, h => by cases y <;> simp_all [D.same]
  | .str a, y, h => by cases y <;> simp_all [D.same]
  | .tup a, y, h => by
    cases y with
    | tup b =>
      have e := sames_eq (x := a) (y := b) (by simpa only [D.same] using h)
      rw [e]
    | _ => simp [D.same] at h
  | .lst _, y, h => by simp [D.same] at h
  | .ref _, y, h => by simp [D.same] at h
  | .exc _ _, y, h => by simp [D.same] at h
theorem sames_eq : ∀ {x y : List D}, D.sames x y = true → x = y
  | [], [], _ => rfl
  | [], _ :: _, h => by simp [D.sames] at h
  | _ :: _, [], h => by simp [D.sames] at h
  | a :: x, b :: y, h => by
    simp only [D.sames, Bool.and_eq_true] at h
    rw [same_eq h.1, sames_eq h.2]
end
/-- the names of a text: their words, its constants, its classes (with __init__), its functions, names that stand at attributes and methods -/
structure Nm where
  nm : Nat → Str
  con : Nat → D → Bool
  ok : Nat → Bool
  /-- within an except suite; defs that may be called there; exceptions' classes -/
  hot : Bool
  hfn : Nat → Bool
  exn : Nat → Bool
def vis (sc : Scope) (x : Str) : Bool := match sc.names.lookup x with | some .local => true | some .cell => true | some .free => true | _ => false
def loc (sc : Scope) (x : Str) : Bool := match sc.names.lookup x with | some .local => true | some .cell => true | _ => false
def glb (sc : Scope) (x : Str) : Bool := match sc.names.lookup x with | some .globalImplicit => true | _ => false
def okx (x : Str) : Bool := !(x == ("__debug__" : Str)) && !(x == ("__classdict__" : Str))
def lenE : Es → Nat
  | .nil => 0
  | .cons _ es => lenE es + 1
def ownP (N : List Str) (own : List Nat) : List (Str × Nat) := own.map fun i => (N.getD i "", i)
/-- the type that isinstance asks for -/
def mTy (C : Nm) (t : Ty) (y : Str) : Bool := match t with
  | .own k => decide (C.nm k = y) && C.exn k && okx y
  | .verr => decide (y = "ValueError")
  | t => isBt t && decide (y = (Str.ofString (tyN t)))
/-- the names of calls within one another, and how many are handed in -/
def fuN : Fu → Str × Str
  | .sortS => ("sorted", "set")
  | .zipT => ("tuple", "zip")
  | .lenT => ("len", "set")
def fuA : Fu → Nat
  | .sortS => 1 | .zipT => 2 | .lenT => 1
section
variable (C : Nm) (N : List Str)
mutual
/-- a comprehension's target: own names alone -/
def mTo (scope : Scope) (own : List Nat) : T → Expr → Bool
  | .nm i, pe => match pe with
    | .Name x _ => decide (N[i]? = some x) && decide (i ∈ own) && loc scope x
    | _ => false
  | .tp ts, pe => match pe with
    | .Tuple es _ _ => mTos scope own ts es && es.all nostar
    | _ => false
  | .at_ _ _, _ => false
  | .sb _ _, _ => false
def mTos (scope : Scope) (own : List Nat) : Ts → List Expr → Bool
  | .nil, es => es.isEmpty
  | .cons t ts, es => match es with | [] => false | e :: es => mTo scope own t e && mTos scope own ts es
end
def isTx : E → Bool | .txt s => decide (s.length ≤ SZ) | _ => false
def mKs : List Ky → List (Option Expr) → Bool
  | [], l => l.isEmpty
  | k :: ks, l => match l with
    | some p :: ps => (match k, p with
      | .inl i, .Constant (.int j) _ _ => decide (i = j)
      | .inr s, .Constant (.str z) _ _ => decide (z = toS s)
      | _, _ => false) && mKs ks ps
    | _ => false
mutual
def mE : E → Scope → Expr → Bool
  | .var i, sc, pe => match pe with | .Name x _ => decide (N[i]? = some x) && vis sc x && okx x | _ => false
  | .non, _, pe => match pe with | .Constant .none _ _ => true | _ => false
  | .bl b, _, pe => match pe with | .Constant (.bool c) _ _ => b == c | _ => false
  | .num i, _, pe => match pe with | .Constant (.int j) _ _ => decide (i = j) | _ => false
  | .txt s, _, pe => match pe with | .Constant (.str z) _ _ => decide (z = toS s) | _ => false
  | .glob k d, sc, pe => match pe with | .Name x _ => decide (C.nm k = x) && glb sc x && okx x && C.con k d | _ => false
  | .bin op a b, sc, pe => match pe with | .BinOp pa o pb _ => decide (o = bopO op) && mE a sc pa && mE b sc pb | _ => false
  | .neg a, sc, pe => match pe with | .UnaryOp .USub pa _ => mE a sc pa | _ => false
  | .cmp op a b, sc, pe => match pe with | .Compare pa [o] [pb] _ => decide (o = copO op) && noset pb && mE a sc pa && mE b sc pb | _ => false
  | .cmp2 op op2 a b c, sc, pe => match pe with | .Compare pa [o, o2] [pb, pc] _ => decide (o = copO op) && decide (o2 = copO op2) && noset pb && noset pc && mE a sc pa && mE b sc pb && mE c sc pc | _ => false
  | .and_ es, sc, pe => match pe with | .BoolOp .And vs _ => mEs es sc vs | _ => false
  | .or_ es, sc, pe => match pe with | .BoolOp .Or vs _ => mEs es sc vs | _ => false
  | .not_ a, sc, pe => match pe with | .UnaryOp .Not pa _ => mE a sc pa | _ => false
  | .ifx c a b, sc, pe => match pe with | .IfExp pc pa pb _ => mE c sc pc && mE a sc pa && mE b sc pb | _ => false
  | .call f es, sc, pe => match pe with | .Call (.Name x _) as [] _ => (!C.hot || C.hfn f) && decide (C.nm f = x) && glb sc x && okx x && as.all nostar && mEs es sc as | _ => false
  | .meth k o es, sc, pe => match pe with
    | .Call (.Attribute po m apos) as [] pos => !C.hot && decide (C.nm k = m) && C.ok k && nosup po && as.all nostar && decide (as.length < 29) && (apos.endLine == pos.line) && mE o sc po && mEs es sc as
    | _ => false
  | .make f es, sc, pe => match pe with | .Call (.Name x _) as [] _ => !C.hot && decide (f ≠ 0) && decide (C.nm f = x) && glb sc x && okx x && as.all nostar && mEs es sc as | _ => false
  | .bcall f es, sc, pe => match pe with | .Call (.Name x _) as [] _ => (!C.hot || isMx f) && decide (bfN f = x) && glb sc x && as.all nostar && mEs es sc as | _ => false
  | .bmeth f o es, sc, pe => match pe with
    | .Call (.Attribute po m apos) as [] pos => decide (bmN f = m) && nosup po && as.all nostar && decide (as.length < 29) && (apos.endLine == pos.line) && mE o sc po && mEs es sc as
    | _ => false
  | .isin a ts, sc, pe => match pe, ts with
    | .Call (.Name x _) [pa, .Name y _] [] _, [t] => decide (x = "isinstance") && glb sc x && mTy C t y && glb sc y && nostar pa && mE a sc pa
    | .Call (.Name x _) [pa, .Tuple [.Name y _, .Name z _] _ _] [] _, [t, u] => decide (x = "isinstance") && glb sc x && isBt t && decide (y = Str.ofString (tyN t)) && glb sc y && isBt u && decide (z = Str.ofString (tyN u)) && glb sc z && nostar pa && mE a sc pa
    | _, _ => false
  | .attr f o, sc, pe => match pe with | .Attribute po a _ => decide (C.nm f = a) && C.ok f && nosup po && mE o sc po | _ => false
  | .idx a i, sc, pe => match pe with | .Subscript pa pi _ => nosl pi && mE a sc pa && mE i sc pi | _ => false
  | .slc a lo hi, sc, pe => match pe with | .Subscript pa (.Slice pl ph none _) _ => mE a sc pa && mO lo sc pl && mO hi sc ph | _ => false
  | .rev a, sc, pe => match pe with | .Subscript pa (.Slice none none (some (.UnaryOp .USub (.Constant (.int 1) _ _) _)) _) _ => mE a sc pa | _ => false
  | .tup es, sc, pe => match pe with | .Tuple as _ _ => as.all nostar && decide (lenE es ≤ 10000) && mEs es sc as | _ => false
  | .lst es, sc, pe => match pe with | .List as _ => as.all nostar && decide (lenE es ≤ 10000) && mEs es sc as | _ => false
  | .dctK, _, pe => match pe with | .Dict [] [] _ => true | _ => false
  | .lenS e, sc, pe => match pe with
    | .Call (.Name x _) [.Call (.Name y _) [pa] [] _] [] _ => !C.hot && decide (x = "len") && glb sc x && decide (y = "set") && glb sc y && nostar pa && mE e sc pa
    | _ => false
  | .rngL es, sc, pe => match pe with
    | .Call (.Name y _) [.Call (.Name x _) as [] _] [] _ => !C.hot && decide (y = "list") && glb sc y && decide (x = "range") && glb sc x && as.all nostar && decide (1 ≤ as.length) && decide (as.length ≤ 2) && mEs es sc as
    | _ => false
  | .rngT es, sc, pe => match pe with
    | .Call (.Name y _) [.Call (.Name x _) as [] _] [] _ => !C.hot && decide (y = "tuple") && glb sc y && decide (x = "range") && glb sc x && as.all nostar && decide (1 ≤ as.length) && decide (as.length ≤ 2) && mEs es sc as
    | _ => false
  | .fus f es, sc, pe => match pe with
    | .Call (.Name y _) [.Call (.Name x _) as [] _] [] _ => !C.hot && decide (y = (fuN f).1) && glb sc y && decide (x = (fuN f).2) && glb sc x && as.all nostar && decide (as.length = fuA f) && mEs es sc as
    | _ => false
  | .sortV e, sc, pe => match pe with
    | .Call (.Name y _) [.Call (.Attribute po m apos) [] [] cpos] [] _ => !C.hot && decide (y = "sorted") && glb sc y && decide (m = "values") && nosup po && (apos.endLine == cpos.line) && mE e sc po
    | _ => false
  | .maxD e d, sc, pe => match pe with
    | .Call (.Name y _) [pa] [⟨some k, pd, _⟩] _ => !C.hot && decide (y = "max") && glb sc y && decide (k = "default") && nostar pa && mE e sc pa && mE d sc pd
    | _ => false
  | .comp elt tg it cond own, sc, pe => match pe with
    | .ListComp pelt [⟨ptg, pit, pifs, z⟩] scope _ => !C.hot && decide (z = 0) && noset pit && blkC N sc scope (ownP N own) && mI it sc ptg pit && mTo N scope own tg ptg && mE elt (relS scope sc) pelt &&
      (match cond, pifs with
        | .no, [] => true
        | .yes c, [pc] => mE c (relS scope sc) pc
        | _, _ => false)
    | _ => false
  | .compD elt tg i cond own, sc, pe => match pe with
    | .ListComp pelt [⟨ptg, .Name x _, pifs, z⟩] scope _ => !C.hot && decide (z = 0) && blkC N sc scope (ownP N own) && (decide (N[i]? = some x) && vis sc x && okx x) && mTo N scope own tg ptg && mE elt (relS scope sc) pelt &&
      (match cond, pifs with
        | .no, [] => true
        | .yes c, [pc] => mE c (relS scope sc) pc
        | _, _ => false)
    | _ => false
  | .fstr es, sc, pe => match pe with | .JoinedStr ps _ => decide (2 ≤ ps.length) && mJs es sc ps | _ => false
  | .dctD ks es, sc, pe => match pe with | .Dict kes ves _ => decide (ks ≠ []) && decide (ks.length ≤ 15) && mKs ks kes && decide (ves.length = ks.length) && mEs es sc ves | _ => false
def mJs : Es → Scope → List Expr → Bool
  | .nil, _, es => es.isEmpty
  | .cons e es, sc, l => match l with
    | [] => false
    | p :: ps => mJs es sc ps && (match p with
      | .FormattedValue q c none _ => decide (c = -1) && mE e sc q
      | p => isTx e && mE e sc p)
def mEs : Es → Scope → List Expr → Bool
  | .nil, _, es => es.isEmpty
  | .cons e es, sc, l => match l with | [] => false | p :: ps => mE e sc p && mEs es sc ps
def mO : O → Scope → Option Expr → Bool
  | .no, _, p => p.isNone
  | .yes e, sc, p => match p with | some q => mE e sc q | none => false
/-- what is walked, beside the target that it goes to -/
def mI : I → Scope → Expr → Expr → Bool
  | .val e, sc, _, pe => mE e sc pe
  | .rng es, sc, _, pe => match pe with | .Call (.Name x _) as [] _ => decide (x = "range") && glb sc x && as.all nostar && decide (1 ≤ as.length) && decide (as.length ≤ 3) && mEs es sc as | _ => false
  | .enum e, sc, pt, pe => match pt, pe with | .Tuple _ _ _, .Call (.Name x _) [pa] [] _ => decide (x = "enumerate") && glb sc x && nostar pa && mE e sc pa | _, _ => false
  | .zip a b, sc, pt, pe => match pt, pe with | .Tuple _ _ _, .Call (.Name x _) [pa, pb] [] _ => decide (x = "zip") && glb sc x && nostar pa && nostar pb && mE a sc pa && mE b sc pb | _, _ => false
end
end

/-! ### lifts -/
def REnv (F : PySem.W.Frag) (H : Hp) (r : Mn.Env) (σ : L2.St) : Prop := r.length = σ.length ∧ ∀ i d, vget r i = some d → ∃ v, σ[i]? = some (some v) ∧ Rp F H d v
theorem REnv.mono {F : PySem.W.Frag} {H H2 : Hp} {r : Mn.Env} {σ : L2.St} (h : REnv F H r σ) (k : Kp H H2) : REnv F H2 r σ :=
  ⟨h.1, fun i d e => let ⟨v, a, b⟩ := h.2 i d e; ⟨v, a, b.mono k⟩⟩
theorem vget_set : ∀ {r : Mn.Env} {i j : Nat} {o : Option D}, vget (r.set i o) j = if j = i ∧ i < r.length then o else vget r j
  | [], i, j, o => by simp [vget]
  | x :: r, 0, 0, o => by simp [vget]
  | x :: r, 0, j + 1, o => by simp [vget]
  | x :: r, i + 1, 0, o => by simp [vget]
  | x :: r, i + 1, j + 1, o => by
    simp only [List.set_cons_succ, vget, vget_set, List.length_cons]
    by_cases h : j = i ∧ i < r.length
    · rw [if_pos h, if_pos (by omega)]
    · rw [if_neg h, if_neg (by omega)]
theorem vget_get : ∀ {r : Mn.Env} {i : Nat} {d : D}, vget r i = some d ↔ r[i]? = some (some d)
  | [], i, d => by simp [vget]
  | x :: r, 0, d => by simp [vget]
  | x :: r, i + 1, d => by simp only [vget, List.getElem?_cons_succ]; exact vget_get
theorem REnv.set {F : PySem.W.Frag} {H : Hp} {r : Mn.Env} {σ : L2.St} {d : D} {v : V} (h : REnv F H r σ) (i : Nat) (rd : Rp F H d v) : REnv F H (r.set i (some d)) (σ.set i (some v)) := by
  refine ⟨by simp [h.1], fun j e hj => ?_⟩
  rw [vget_set] at hj
  split at hj
  · rename_i c
    cases hj
    obtain ⟨rfl, c2⟩ := c
    exact ⟨v, by rw [List.getElem?_set_self (by rw [← h.1]; exact c2)], rd⟩
  · rename_i c
    obtain ⟨w, h1, h2⟩ := h.2 j e hj
    refine ⟨w, ?_, h2⟩
    have hlt : j < σ.length := (List.getElem?_eq_some_iff.mp h1).1
    rw [List.getElem?_set_ne (fun z => c ⟨z.symm, by rw [h.1, z]; exact hlt⟩)]
    exact h1
theorem REnv.le {F : PySem.W.Frag} {H : Hp} {r r2 : Mn.Env} {σ : L2.St} (h : REnv F H r σ) (l : LeE r2 r) : REnv F H r2 σ :=
  ⟨l.1.trans h.1, fun i d e => h.2 i d (vget_get.mpr (l.2 i d (vget_get.mp e)))⟩
theorem REnv.wipe {F : PySem.W.Frag} {H : Hp} {r : Mn.Env} {σ : L2.St} (h : REnv F H r σ) : ∀ own : List Nat, REnv F H (Mn.wipe r own) (L2.wipe σ own)
  | [] => h
  | v :: vs => by
    have ih := REnv.wipe h vs
    refine ⟨by simp [Mn.wipe, L2.wipe, ih.1], fun j e hj => ?_⟩
    simp only [Mn.wipe] at hj
    rw [vget_set] at hj
    split at hj
    · cases hj
    · rename_i c
      obtain ⟨w, h1, h2⟩ := ih.2 j e hj
      refine ⟨w, ?_, h2⟩
      have hlt : j < (L2.wipe σ vs).length := (List.getElem?_eq_some_iff.mp h1).1
      simp only [L2.wipe]
      rw [List.getElem?_set_ne (fun z => c ⟨z.symm, by rw [ih.1, z]; exact hlt⟩)]
      exact h1
/-- exceptions: a class, no dict of its own -/
def XL (exc : Nat → Option Addr) (L : Lk) (W : WX) (H : Hp) (X : XD) : Prop := ∀ c r m Ca H2 σ, X c r m → exc c = some Ca → REnv L.F H2 r σ → Rel L m H2 → Kp H H2 → W (.ref Ca) none σ H2
section
variable (exc : Nat → Option Addr) (L : Lk) (W : WX)
def LE (wp : XD → Mn.Env → Hm → PD → Prop) : TE := fun σ H Q => ∃ r m P X, REnv L.F H r σ ∧ Rel L m H ∧ wp X r m P ∧ Kt L H P Q ∧ XL exc L W H X
def LB (wp : XD → Mn.Env → Hm → PD → Prop) : TT := fun σ H Q => ∃ r m P X, REnv L.F H r σ ∧ Rel L m H ∧ wp X r m P ∧
  (∀ x m2 v H2, P x m2 → Rp L.F H2 x v → Rel L m2 H2 → Kp H H2 → ∃ b, truth m2 x = some b ∧ Q b H2) ∧ XL exc L W H X
def LA (k : Nat) (wp : XD → Mn.Env → Hm → (List D → Hm → Prop) → Prop) : TA := fun σ H Q => ∃ r m P X, REnv L.F H r σ ∧ Rel L m H ∧ wp X r m P ∧
  (∀ xs m2 vs H2, xs.length = k → P xs m2 → Rps L.F H2 xs vs → Rel L m2 H2 → Kp H H2 → Q vs H2) ∧ XL exc L W H X
def LO (wp : XD → Mn.Env → Hm → (Option Int → Hm → Prop) → Prop) : TO := fun σ H Q => ∃ r m P X, REnv L.F H r σ ∧ Rel L m H ∧ wp X r m P ∧
  (∀ o m2 H2, P o m2 → Rel L m2 H2 → Kp H H2 → Q o H2) ∧ XL exc L W H X
/-- what is walked tells the items in their turn, while it stands still -/
structure ItOk (H_0 : Hp) (J : It) (xs : List D) (st : Hm → Prop) : Prop where
  stop : ∀ m H, Rel L m H → st m → Kp H_0 H → J.stop xs.length H
  go : ∀ i x m H, xs[i]? = some x → Rel L m H → st m → Kp H_0 H → J.go i H ∧ ∀ v H2, J.yld i H v H2 → Rp L.F H2 x v ∧ Rel L m H2 ∧ Kp H H2
def LI (wp : XD → Mn.Env → Hm → (List D → (Hm → Prop) → Hm → Prop) → Prop) : TI := fun σ H R => ∃ r m P X, REnv L.F H r σ ∧ Rel L m H ∧ wp X r m P ∧
  (∀ xs st m2 J H2, P xs st m2 → ItOk L H2 J xs st → Rel L m2 H2 → Kp H H2 → R J H2) ∧ XL exc L W H X
end
theorem XL.mono {exc : Nat → Option Addr} {L : Lk} {W : WX} {H H2 : Hp} {X : XD} (h : XL exc L W H X) (k : Kp H H2) : XL exc L W H2 X := fun c r m Ca H3 σ h1 h2 h3 h4 h5 => h c r m Ca H3 σ h1 h2 h3 h4 (k.trans h5)
section
variable {X : Cx}
theorem PE.weak {e : Expr} {t t2 : TE} (h : PE X e t) (w : ∀ σ H Q, t2 σ H Q → t σ H Q) : PE X e t2 := ⟨fun pins s σ H Q I q => h.run pins s σ H Q I (w _ _ _ q)⟩
theorem PT.weak {e : Expr} {t t2 : TT} (h : PT X e t) (w : ∀ σ H Q, t2 σ H Q → t σ H Q) : PT X e t2 := ⟨fun pins s σ H Q I q => h.run pins s σ H Q I (w _ _ _ q)⟩
theorem PW.weak {e : Expr} {t t2 : TT} (h : PW X e t) (w : ∀ σ H Q, t2 σ H Q → t σ H Q) : PW X e t2 := ⟨fun wh pins s σ H Q I q => h.run wh pins s σ H Q I (w _ _ _ q)⟩
theorem PA.weak {e : List Expr} {t t2 : TA} (h : PA X e t) (w : ∀ σ H Q, t2 σ H Q → t σ H Q) : PA X e t2 := ⟨fun pos pins s σ H Q I q => h.run pos pins s σ H Q I (w _ _ _ q)⟩
theorem PO.weak {e : Option Expr} {t t2 : TO} (h : PO X e t) (w : ∀ σ H Q, t2 σ H Q → t σ H Q) : PO X e t2 := ⟨fun pins s σ H Q I q => h.run pins s σ H Q I (w _ _ _ q)⟩
theorem PI.weak {tg e : Expr} {t t2 : TI} (h : PI X tg e t) (w : ∀ σ H Q, t2 σ H Q → t σ H Q) : PI X tg e t2 := ⟨fun pins s σ H Q I q => h.run pins s σ H Q I (w _ _ _ q)⟩
theorem PG.weak {tg : Expr} {t t2 : TG} (h : PG X tg t) (w : ∀ v σ H Q, t2 v σ H Q → t v σ H Q) : PG X tg t2 := ⟨fun pins s σ H v u Q I r q => h.run pins s σ H v u Q I r (w _ _ _ _ q)⟩
theorem PGs.weak {tg : List Expr} {t t2 : TGs} (h : PGs X tg t) (w : ∀ v σ H Q, t2 v σ H Q → t v σ H Q) : PGs X tg t2 := ⟨fun pins s σ H v u Q I r q => h.run pins s σ H v u Q I r (w _ _ _ _ q)⟩
theorem PS.weak {e : Stmt} {t t2 : TS} (h : PS X e t) (w : ∀ D σ H, t2 D σ H → t D σ H) : PS X e t2 := ⟨fun pins s σ H D I q => h.run pins s σ H D I (w _ _ _ q)⟩
theorem PSs.weak {e : List Stmt} {t t2 : TS} (h : PSs X e t) (w : ∀ D σ H, t2 D σ H → t D σ H) : PSs X e t2 := ⟨fun pins s σ H D I q => h.run pins s σ H D I (w _ _ _ q)⟩
end

/-! ### contexts -/
def lv : Nat → Nat
  | 0 => 0
  | n + 1 => lv n + 2
/-- what a def of the table promises at a depth -/
def spOf (exc : Nat → Option Addr) (L : Lk) (t : Tab) (n : Dn) (c f : Nat) : Sp := fun vs H Q E => ∃ ds m P Xc, Rps L.F H ds vs ∧ Rel L m H ∧ callD t n c f ds m P Xc ∧ Kt L H P Q ∧
  ∀ k m2 Ca H2, Xc k m2 → exc k = some Ca → Rel L m2 H2 → Kp H H2 → E (.ref Ca) none H2
def isBlt (x : Str) : Bool := decide (x ∈ (["len", "abs", "int", "str", "ord", "min", "max", "sum", "all", "any", "sorted", "list", "tuple", "dict", "set", "bool", "range", "enumerate", "zip", "isinstance", "ValueError"] : List Str))
/-- an exception's class of the text, with ValueError behind it -/
structure ExF (K : PySem.W.Frag) (Ca : Addr) : Prop where
  q : PySem.W.excIn K Ca He.veBase "ValueError.__new__" = true
  kp : PySem.W.keepIn K (.ref Ca) = true
  sb : PySem.W.subIn K (.ref Ca) (.type "BaseException") = some true
  ty : PySem.W.typeIn K (.ref Ca) = some (.type "type")
  cl : ExcC K Ca
  ve : PySem.W.kitOne K (.ref Ca) (.type "ValueError") = some true
/-- the object of the handled exception h -/
def Hld (exc : Nat → Option Addr) (h : Nat × Nat) (p : Addr × Obj) : Prop := p.1 = h.1 ∧ (∃ vs, p.2.data = .fields vs) ∧ ∃ Ca, exc h.2 = some Ca ∧ L2N.Zn (.ref Ca) none p.2
/-- what a def promises, called while an exception is handled -/
structure FnK (P : Program) (w : World) (K : PySem.W.Frag) (mg : Str → Option Value) (base : Heap) (k : Nat) (f : Addr) (fd : FuncData) (ps : List Str) (sp : Sp) (G : Addr × Obj → Prop) : Prop where
  len : ∀ vs H Q E, sp vs H Q E → vs.length = ps.length
  run : ∀ (A : Around) (outer : List PySem.Env) (s : Shared) (H : Hp) (args : Args) (us : List Value) (vs : List V) (Q : VK) (E : XK) (p : Addr × Obj), L2H.RoomH k A → L2H.Hot1 A p → G p → L2H.PinOk outer H s p →
    Env0 P w K mg base A outer s H → BindsTo s fd args (ps.zip us) → Vals vs us → sp vs H Q E → codeAny (model P w) A (.call (.ref f) args) (CR (L2N.CX P w) outer P w H s Q E) s
/-- what does not turn through the law -/
structure Sta (exc : Nat → Option Addr) (L : Lk) (t : Tab) (n : Dn) (C : Nm) (X : Cx) : Prop where
  k : X.K = L.F
  w : X.w = L.w
  nm : L.nm = C.nm
  inj : ∀ a b, C.ok a = true → C.ok b = true → C.nm a = C.nm b → a = b
  okL : L.ok = C.ok
  fldL : L.fld = t.fld
  okF : ∀ c f, t.fld c f = true → C.ok f = true
  blt : ∀ x, isBlt x = true → X.mg x = none
  con : ∀ k d, C.con k d = true → ∃ v u, X.mg (C.nm k) = some u ∧ RelV v u ∧ ∀ H, Rp L.F H d v
  fn : n.hx = none → ∀ f fn, t.F 0 f = some fn → ∃ fa fd ps, X.mg (C.nm f) = some (.ref fa) ∧ PySem.W.keepIn X.K (.ref fa) = true ∧ Binds X.K fd ps [] ∧ FnOk X.prog X.w X.K X.mg X.base (L2N.CX X.prog X.w) (lv n.n) fa fd ps (spOf exc L t n 0 f)
  fnh : ∀ h f fn, t.F 0 f = some fn → C.hfn f = true → ∃ fa fd ps, X.mg (C.nm f) = some (.ref fa) ∧ PySem.W.keepIn X.K (.ref fa) = true ∧ Binds X.K fd ps [] ∧ FnK X.prog X.w X.K X.mg X.base (lv n.n) fa fd ps (spOf exc L t ⟨n.n, some h⟩ 0 f) (Hld exc h)
  met : n.hx = none → ∀ c k fn Ca, t.F c k = some fn → L.cls c = some Ca → C.ok k = true → ∃ fa fd ps, Meth X.K Ca (C.nm k) fa ∧ Binds X.K fd ps [] ∧ FnOk X.prog X.w X.K X.mg X.base (L2N.CX X.prog X.w) (lv n.n) fa fd ps (spOf exc L t n c k)
  mke : n.hx = none → ∀ c fn, c ≠ 0 → t.F c t.ini = some fn → ∃ Ca fa fd ps, L.cls c = some Ca ∧ Mk X.K Ca fa ∧ X.mg (C.nm c) = some (.ref Ca) ∧ Binds X.K fd ps [] ∧ FnOk X.prog X.w X.K X.mg X.base (L2N.CX X.prog X.w) (lv n.n) fa fd ps (spOf exc L t n c t.ini)
  cls : ∀ c Ca, L.cls c = some Ca → Cls X.K Ca
  att : ∀ c Ca f, L.cls c = some Ca → t.fld c f = true → NoAttr X.K Ca (C.nm f)
  exs : ∀ c Ca, exc c = some Ca → ExF X.K Ca
  exg : ∀ k, C.exn k = true → ∃ Ck, X.mg (C.nm k) = some (.ref Ck) ∧ ∀ c Ca, exc c = some Ca → PySem.W.exmOne X.K (.ref Ca) (.ref Ck) = some (t.sub c k) ∧ PySem.W.kitOne X.K (.ref Ca) (.ref Ck) = some (t.sub c k)
  exr : ∀ c, t.ex c = true → ∃ Ca, exc c = some Ca ∧ X.mg (C.nm c) = some (.ref Ca)
structure Ctx (exc : Nat → Option Addr) (L : Lk) (t : Tab) (n : Dn) (C : Nm) (N : List Str) (sc : Scope) (X : Cx) : Prop where
  sta : Sta exc L t n C X
  nn : X.N = N
  sc : X.env.scope = sc
  nd : N.Nodup
  hot : C.hot = n.hx.isSome
  calm : n.hx = none → X.calm = true
  room : n.hx = none → Room (lv n.n + 1) X.A
  roomH : L2H.RoomH (lv n.n + 1) X.A
  own : PassesOwn (model X.prog X.w) X.A X.env X.xe
  hld : ∀ h, n.hx = some h → ∃ p, L2H.Hot1 X.A p ∧ p ∈ X.pn ∧ Hld exc h p
theorem Ctx.cold {exc : Nat → Option Addr} {L : Lk} {t : Tab} {n : Dn} {C : Nm} {N : List Str} {sc : Scope} {X : Cx} (cx : Ctx exc L t n C N sc X) (h : (!C.hot) = true) : n.hx = none := by
  rw [cx.hot] at h
  cases e : n.hx with
  | none => rfl
  | some _ => rw [e] at h; cases h
end Mn
end

section
set_option Elab.async false
set_option linter.all false
set_option maxRecDepth 100000
set_option maxHeartbeats 4000000
/-! Mn, part Fu: calls within one another, taken as one. -/
namespace Mn
open PySem PySem.Spec PyProof.Rows L2
theorem unlL_spec {α : Type} [DecidableEq α] (l : List α) : (unlL l).Nodup ∧ ∀ x, x ∈ unlL l ↔ x ∈ l := by
  have key : ∀ (l acc : List α), acc.Nodup → (l.foldl (fun acc x => if x ∈ acc then acc else acc ++ [x]) acc).Nodup ∧ ∀ x, x ∈ l.foldl (fun acc x => if x ∈ acc then acc else acc ++ [x]) acc ↔ x ∈ acc ∨ x ∈ l := by
    intro l
    induction l with
    | nil => intro acc h; exact ⟨h, fun x => by simp⟩
    | cons y l ih =>
      intro acc h
      rw [List.foldl_cons]
      by_cases hy : y ∈ acc
      · rw [if_pos hy]
        obtain ⟨h1, h2⟩ := ih acc h
        refine ⟨h1, fun x => ?_⟩
        rw [h2, List.mem_cons]
        constructor
        · rintro (h | h)
          · exact .inl h
          · exact .inr (.inr h)
        · rintro (h | h | h)
          · exact .inl h
          · subst h; exact .inl hy
          · exact .inr h
      · rw [if_neg hy]
        obtain ⟨h1, h2⟩ := ih (acc ++ [y]) (List.nodup_append.mpr ⟨h, by simp, fun a ha b hb e => by
          rw [List.mem_singleton.mp hb] at e
          exact hy (e ▸ ha)⟩)
        refine ⟨h1, fun x => ?_⟩
        rw [h2, List.mem_append, List.mem_singleton, List.mem_cons, or_assoc]
  obtain ⟨h1, h2⟩ := key l [] List.nodup_nil
  exact ⟨h1, fun x => (h2 x).trans (by simp)⟩
theorem unlC_take {α : Type} [DecidableEq α] (l : List α) (d : α) : ∀ i, i ≤ l.length → unl (fun j => l.getD j d) i = unlL (l.take i)
  | 0, _ => rfl
  | i + 1, hi => by
    have ih := unlC_take l d i (by omega)
    have e : l.take (i + 1) = l.take i ++ [l.getD i d] := by
      rw [List.take_succ, List.getD_eq_getElem?_getD, List.getElem?_eq_getElem (show i < l.length by omega)]
      rfl
    unfold unl
    rw [ih, e]
    unfold unlL
    rw [List.foldl_append]
    rfl
theorem unlC_all {α : Type} [DecidableEq α] (l : List α) (d : α) : unl (fun j => l.getD j d) l.length = unlL l := by
  have h := unlC_take l d l.length (Nat.le_refl _)
  rwa [List.take_length] at h
section
variable {L : Lk} {m : Hm} {H : Hp} {P : PD} {Q : VK}
theorem tupIs_ok : ∀ {ds : List D} {ws : List V} {ks : List (List Int)}, tupIs ds = some ks → Rps L.F H ds ws → ∃ ps : List (Addr × List Int), ws = ps.map (fun p => V.ref p.1) ∧ (∀ p ∈ ps, SqT L.F H p.1 (p.2.map V.int)) ∧ ps.map (·.2) = ks
  | [], _, ks, e, .nil => by
    cases e
    exact ⟨[], rfl, fun p hp => (nomatch hp), rfl⟩
  | d :: ds, _, ks, e, .cons r rs => by
    simp only [tupIs] at e
    split at e
    · rename_i xs t e2
      cases e3 : intsOf xs with
      | none => rw [e3] at e; cases e
      | some ns =>
        rw [e3] at e
        cases e
        obtain ⟨ps, h1, h2, h3⟩ := tupIs_ok e2 rs
        cases r with
        | @tup _ a us sq ru =>
          have e4 := ru.ints e3
          subst e4
          refine ⟨(a, ns) :: ps, by rw [h1]; rfl, fun p hp => ?_, by rw [List.map_cons, h3]⟩
          rcases List.mem_cons.mp hp with rfl | hp
          · exact sq.sq
          · exact h2 p hp
    · cases e
theorem zip_ok {H2 : Hp} : ∀ {xs ys : List D} {vs ws : List V}, Rps L.F H2 xs vs → Rps L.F H2 ys ws → ∀ ts : List V, PairsV H2 vs ws ts → Rps L.F H2 (zipD xs ys) ts := by
  intro xs ys vs ws r1 r2 ts h
  have key : ∀ {xs ys : List D} {vs ws : List V}, Rps L.F H2 xs vs → Rps L.F H2 ys ws → ∀ ts : List V, ts.length = min vs.length ws.length → (∀ j, j < ts.length → ∃ T x y o, ts[j]? = some (.ref T) ∧ vs[j]? = some x ∧ ws[j]? = some y ∧ H2 T = some (.frz o (.tup [x, y])) ∧ o.dict = none) → Rps L.F H2 (zipD xs ys) ts := by
    intro xs
    induction xs with
    | nil =>
      intro ys vs ws r1 r2 ts hl _
      cases r1
      have : ts = [] := List.eq_nil_of_length_eq_zero (by simpa using hl)
      subst this
      exact .nil
    | cons x xs ih =>
      intro ys vs ws r1 r2 ts hl hts
      cases r1 with
      | cons a1 rs1 =>
        cases r2 with
        | nil =>
          have : ts = [] := List.eq_nil_of_length_eq_zero (by simpa using hl)
          subst this
          exact .nil
        | cons a2 rs2 =>
          cases ts with
          | nil => simp at hl
          | cons t ts =>
            obtain ⟨T, p, q, o, e1, e2, e3, e4, e5⟩ := hts 0 (by simp)
            simp only [List.getElem?_cons_zero, Option.some.injEq] at e1 e2 e3
            subst e1 e2 e3
            refine .cons (.tup (.inl ⟨o, e4, e5⟩) (.cons a1 (.cons a2 .nil))) (ih rs1 rs2 ts (by simp at hl; omega) fun j hj => ?_)
            obtain ⟨T, p, q, o, e1, e2, e3, e4, e5⟩ := hts (j + 1) (by simpa using hj)
            simp only [List.getElem?_cons_succ] at e1 e2 e3
            exact ⟨T, p, q, o, e1, e2, e3, e4, e5⟩
  exact key r1 r2 ts h.1 h.2
end
/-- what such a call asks of the layer -/
def fuT (K : PySem.W.Frag) : Fu → TA → TE
  | .sortS => tSortSet K
  | .zipT => tZipT K
  | .lenT => tLenTups K
section
variable {L : Lk} {m : Hm} {H : Hp} {P : PD} {Q : VK} {xs : List D} {vs : List V}
/-- the rules, behind what they walk -/
def fuR (K : PySem.W.Frag) : Fu → List V → Hp → VK → Prop
  | .sortS => fun vs H1 Q => ∃ (l : Addr) (ns : List Int), vs = [V.ref l] ∧ (SqL K H1 l (ns.map V.int) ∨ SqT K H1 l (ns.map V.int)) ∧ (unl (fun i => ns.getD i 0) ns.length).length < 64 ∧ ns.length ≤ 4000 ∧
      ∀ (ms : List Int) (p : Addr), ms.Pairwise (· < ·) → (∀ k : Int, k ∈ ms ↔ k ∈ unl (fun i => ns.getD i 0) ns.length) → H1 p = none → Q (.ref p) (upd H1 p (.lst (ms.map V.int)))
  | .zipT => fun vs H1 Q => ∃ (l1 l2 : Addr) (xs ys : List V), vs = [V.ref l1, V.ref l2] ∧ SqL K H1 l1 xs ∧ SqL K H1 l2 ys ∧ min xs.length ys.length ≤ 100000 ∧
      ∀ (H2 : Hp) (ts : List V), PairsV H2 xs ys ts → Kp H1 H2 → (∀ b o, H1 b = some o → H2 b = some o) → NewT H2 ts Q
  | .lenT => fun vs H1 Q => ∃ (l : Addr) (ks : List (Addr × List Int)), vs = [V.ref l] ∧ SqL K H1 l (ks.map fun p => V.ref p.1) ∧ (∀ p ∈ ks, SqT K H1 p.1 (p.2.map V.int)) ∧ ks.length < 64 ∧
      ∀ n : Nat, (∃ L : List (List Int), L.Nodup ∧ (∀ k, k ∈ L ↔ k ∈ ks.map (·.2)) ∧ L.length = n) → Q (.int n) H1
theorem rel_old {H2 : Hp} (rel : Rel L m H) (k : Kp H H2) (old : ∀ b o, H b = some o → H2 b = some o) : Rel L m H2 := fun a o e => (rel a o e).other k (by
  cases q : H a with
  | none => exact absurd q (rel a o e).there
  | some u => rw [old a u q])
theorem fu_ok {f : Fu} (h : fuW f xs m P) (rs : Rps L.F H xs vs) (rel : Rel L m H) (q : Kt L H P Q) : fuR L.F f vs H Q := by
  cases f with
  | sortS =>
    cases rs with
    | nil => exact h.elim
    | @cons d w ds ws r1 rt => cases rt with
      | cons _ _ => exact h.elim
      | nil =>
        obtain ⟨ds, ns, e1, e2, e3, e4, hp⟩ := h
        have fin : ∀ (l : Addr), (SqL L.F H l (ns.map V.int) ∨ SqT L.F H l (ns.map V.int)) → fuR L.F .sortS [V.ref l] H Q := fun l hl => by
          refine ⟨l, ns, rfl, hl, by rw [unlC_all]; exact e3, e4, fun ms p h1 h2 hn => ?_⟩
          rw [unlC_all] at h2
          exact q.lst (hp ms h1 fun k => (h2 k).trans ((unlL_spec ns).2 k)) (.mkInts _) rel hn
        cases r1 with
        | @tup es a us sq ru =>
          cases e1
          have e5 := ru.ints e2
          subst e5
          exact fin a (.inr sq.sq)
        | @lst es a us sq ru =>
          cases e1
          have e5 := ru.ints e2
          subst e5
          exact fin a (.inl sq.sq)
        | ref a =>
          obtain ⟨us, k1, k2, _⟩ := lst_of (getL_of e1) rel
          have e5 := k2.ints e2
          subst e5
          exact fin a (.inl k1)
        | _ => cases e1
  | zipT =>
    cases rs with
    | nil => exact h.elim
    | @cons d w ds ws r1 rt => cases rt with
      | nil => cases d <;> exact h.elim
      | @cons d2 w2 ds ws r2 rt => cases rt with
        | cons _ _ => cases d <;> first | exact h.elim | (cases d2 <;> exact h.elim)
        | nil =>
          cases r1 with
          | ref a => cases r2 with
            | ref b =>
              obtain ⟨xs, ys, h1, h2, h3, hp⟩ := h
              obtain ⟨us, k1, k2, _⟩ := lst_of h1 rel
              obtain ⟨ws, j1, j2, _⟩ := lst_of h2 rel
              refine ⟨a, b, us, ws, rfl, k1, j1, by rw [← k2.length]; omega, fun H2 ts hts kp old => ?_⟩
              have rel2 := rel_old rel kp old
              exact (q.mono kp).tup hp (zip_ok (k2.mono kp) (j2.mono kp) ts hts) rel2
            | _ => exact h.elim
          | _ => exact h.elim
  | lenT =>
    cases rs with
    | nil => exact h.elim
    | @cons d w ds ws r1 rt => cases rt with
      | cons _ _ => cases d <;> exact h.elim
      | nil =>
        cases r1 with
        | ref a =>
          obtain ⟨ds, ks, e1, e2, e3, hp⟩ := h
          obtain ⟨us, k1, k2, _⟩ := lst_of e1 rel
          obtain ⟨ps, h1, h2, h3⟩ := tupIs_ok e2 k2
          subst h1
          refine ⟨a, ps, rfl, k1, h2, by rw [← List.length_map (f := (·.2)), h3]; exact e3, fun n hn => ?_⟩
          obtain ⟨L2, nd, mem, rfl⟩ := hn
          rw [h3] at mem
          obtain ⟨u1, u2⟩ := unlL_spec ks
          have pm : L2.Perm (unlL ks) := (List.perm_ext_iff_of_nodup nd u1).mpr fun x => (mem x).trans (u2 x).symm
          rw [pm.length_eq]
          exact q.here hp (.int _) rel
        | _ => exact h.elim
end
section
variable {X : Cx} {L : Lk}
/-- sorted(d.values()), keys tuples -/
def tSortV (L : Lk) (te : TE) : TE := fun σ H Q => te σ H fun x H1 => ∃ a kvs xs, x = V.ref a ∧ DtV L H1 a kvs xs ∧ sortable (kvs.map fun kv => kv.2) = true ∧
  ∀ p ys, H1 p = none → Rps L.F H1 ((kvs.map fun kv => kv.2).mergeSort leD) ys → Q (.ref p) (upd H1 p (.lst ys))
theorem vals_rps {H : Hp} : ∀ {kvs : List (List D × D)} {xs : List XE}, DtR L.F H kvs xs → Rps L.F H (kvs.map fun kv => kv.2) (xs.map fun x => x.2.2)
  | _, _, .nil => .nil
  | _, _, .cons h rs => .cons h.2.2.2 (vals_rps rs)
theorem run_sortV {pins : List (Addr × Obj)} {σ : L2.St} {H : Hp} {s : Shared} {Q : VK} {a v : Addr} {kvs : List (List D × D)} {xs : List XE} (hk : X.K = L.F) (hw : X.w = L.w) (hc : X.calm = true) (hu : X.A.units + 65 < cLine) (I : Inv X pins σ H s) (D : DtV L H a kvs xs)
    (hv : s.heap.IsValuesView v a) (so : sortable (kvs.map fun kv => kv.2) = true) (q : ∀ p ys, H p = none → Rps L.F H ((kvs.map fun kv => kv.2).mergeSort leD) ys → Q (.ref p) (upd H p (.lst ys))) :
    wpAny (model X.prog X.w) X.A (call (.builtin "sorted") [.ref v]) (EP X pins σ Q) X.xe s := by
  have N := D.now hk hw I
  have rs := vals_rps D.r
  generalize hds : (kvs.map fun kv => kv.2) = ds at so q rs
  generalize hws : (xs.map fun x => x.2.2) = ws at rs
  refine Calls.call_function_entry PyProof.Rows.kind_sorted PyProof.Rows.plain_sorted PyProof.Rows.entry_sorted (PyProof.Rows.args_sorted1 _) ?_
  unfold Builtin.«sorted»
  refine wpAny_bind (m := checkCount "sorted" 1 1 _) (wpAny_pure ?_)
  refine wpAny_bind (vals_gather (A := X.A.in1) (I.ok.hd hc) N hv fun h2 tk its kp rv => ?_)
  rw [hws] at rv
  have hz : ws.length ≤ sizeLine := by
    rw [← hws, List.length_map]
    exact N.sz
  refine wpAny_bind (wpAny_newList ?_ (by rw [← rv.length]; exact hz))
  have I2 : Inv X pins σ H { s with heap := h2, toks := tk } := I.kept kp
  simp only [sortable, Bool.and_eq_true, Bool.or_eq_true, decide_eq_true_eq] at so
  obtain ⟨⟨⟨kind, al⟩, fl⟩, _⟩ := so
  have alk : ∀ x ∈ ds, ∀ y ∈ ds, Mn.D.alike x y = true := fun x hx y hy => by
    have := List.all_eq_true.mp al x hx
    exact List.all_eq_true.mp this y hy
  have flt := flat_all fl
  have e1 := each_of rs rv
  have hoL : (h2.push (seqObj "list" its.toArray 0)).get? h2.objs.size = some (seqObj "list" its.toArray 0) := Heap.get?_push_size _ rfl
  have oldS : ∀ b o, h2.get? b = some o → (PySem.W.sortingHeap (h2.push (seqObj "list" its.toArray 0)) h2.objs.size its).get? b = some o := fun b o e =>
    PySem.W.sortingHeap_old (Nat.ne_of_lt (Heap.lt_size e)) (Heap.get?_push_of_some _ e)
  have e2 : PySem.W.EachIs (fun (v : Value) (d : Mn.D) => ∃ as, Reads (PySem.W.sortingHeap (h2.push (seqObj "list" its.toArray 0)) h2.objs.size its) v (toP d) as) its ds := by
    have key : ∀ {its0 : List Value} {ds : List Mn.D}, (∀ x ∈ ds, Mn.D.flat 59 x = true) → PySem.W.EachIs (fun (v : Value) (d : Mn.D) => ∃ x : V, RelV x v ∧ Rp L.F H d x) its0 ds →
        PySem.W.EachIs (fun (v : Value) (d : Mn.D) => ∃ as, Reads (PySem.W.sortingHeap (h2.push (seqObj "list" its.toArray 0)) h2.objs.size its) v (toP d) as) its0 ds := by
      intro its0 ds hf h
      induction h with
      | nil => exact .nil
      | cons h _ ih =>
        obtain ⟨x, h1, h3⟩ := h
        refine .cons ?_ (ih fun y hy => hf y (List.mem_cons_of_mem _ hy))
        have rel0 : Rel L (fun _ => none) H := fun _ _ e => by cases e
        have d1 := (flat_self (m := fun _ => none) (hf _ List.mem_cons_self)).dp rel0 h3
        rw [← hk] at d1
        obtain ⟨as, rd⟩ := Dp.reads I2 _ _ _ d1 h1
        exact ⟨as, PyProof.Rows.Reads.keeps oldS rd⟩
    exact key flt e1
  have hal : PySem.W.AllAlike (ds.map toP) := by
    intro d hd d2 hd2
    obtain ⟨x, hx, rfl⟩ := List.mem_map.mp hd
    obtain ⟨y, hy, rfl⟩ := List.mem_map.mp hd2
    exact alike_P (alk x hx y hy)
  have hso : PySem.W.Sortable (ds.map toP) := by
    rcases kind with k | k
    · refine .inl fun d hd => ?_
      obtain ⟨x, hx, rfl⟩ := List.mem_map.mp hd
      have h1 := List.all_eq_true.mp k x hx
      cases x with
      | tup es => cases es with
        | nil => cases h1
        | cons e es => exact ⟨toP e, toPs es, by simp [toP, toPs]⟩
      | _ => cases h1
    · refine .inr fun d hd => ?_
      obtain ⟨x, hx, rfl⟩ := List.mem_map.mp hd
      have h1 := List.all_eq_true.mp k x hx
      cases x with
      | str s => exact ⟨by simp [toP], fun xs => by simp [toP]⟩
      | _ => cases h1
  refine wpAny_bind (wpAny_holding (wpAny_call_entry PyProof.Rows.slot_list_sort ⟨_, hoL, rfl⟩ PyProof.Rows.entry_list_sort (PySem.W.list_sort_vals (A := X.A.in1.in1) (κ := PySem.W.dataKind (PySem.W.sortingHeap (h2.push (seqObj "list" its.toArray 0)) h2.objs.size its) (ds.map toP)) hoL
    (PySem.W.SortsAt.data (s := { s with heap := PySem.W.sortingHeap (h2.push (seqObj "list" its.toArray 0)) h2.objs.size its, toks := tk }) (PySem.W.each_map (R := fun v d => ∃ as, Reads (PySem.W.sortingHeap (h2.push (seqObj "list" its.toArray 0)) h2.objs.size its) v d as) toP e2) hal hso (PySem.W.bound_map fun d hd => ?_)) (by rw [← rv.length]; exact hz) ⟨.none, rfl, ?_⟩) (PyProof.Rows.args_list_sort _)))
  · have := shp_dep (flat_shp (flt d hd))
    show X.A.units + 1 + 1 + _ < _
    omega
  · have he := PySem.W.sortVals_data false e1 e2 hal
    have hlo := PySem.W.sortVals_length (κ := PySem.W.dataKind (PySem.W.sortingHeap (h2.push (seqObj "list" its.toArray 0)) h2.objs.size its) (ds.map toP)) false (vs := its) rfl
    generalize PySem.W.sortVals (PySem.W.dataKind (PySem.W.sortingHeap (h2.push (seqObj "list" its.toArray 0)) h2.objs.size its) (ds.map toP)) false its its = out at he hlo ⊢
    have e3 : ds.mergeSort (PySem.W.dataLe false toP) = ds.mergeSort leD := map_sort fun x hx y hy => by
      rw [PySem.W.dataLe_eq]
      show (!PySem.W.dataLt (toP y) (toP x)) = !Mn.D.lt y x
      rw [lt_P (alk y hy x hx) (flt y hy) (flt x hx)]
    rw [e3] at he
    have key : ∀ {out : List Value} {es : List Mn.D}, PySem.W.EachIs (fun (v : Value) (d : Mn.D) => ∃ x : V, RelV x v ∧ Rp L.F H d x) out es → ∃ ys, Vals ys out ∧ Rps L.F H es ys := by
      intro out es h
      induction h with
      | nil => exact ⟨[], .nil, .nil⟩
      | cons h _ ih =>
        obtain ⟨x, h1, h2⟩ := h
        obtain ⟨ys, h3, h4⟩ := ih
        exact ⟨x :: ys, .cons h1 h3, .cons h2 h4⟩
    obtain ⟨ys, r3, r4⟩ := key he
    obtain ⟨ep, hat⟩ := sortedHeap_at (vs := its) (out := out.toArray) hoL
    have hlen : ys.length ≤ sizeLine := by
      rw [r3.length, hlo, ← rv.length]
      exact hz
    have hn : H h2.objs.size = none := I2.hok.fresh (Nat.le_refl _)
    refine wpAny_pure ⟨_, rfl, .ref h2.objs.size, upd H h2.objs.size (.lst ys), I2.laid (t' := tk) (fun b u e => ?_) (Nat.le_refl _) ⟨hlen, out, ep, r3, hat⟩, rfl, q _ _ hn r4⟩
    rw [sortedHeap_old (Nat.ne_of_lt (Heap.lt_size e)) (by rw [size_push']; exact Nat.lt_succ_of_lt (Heap.lt_size e))]
    exact Heap.get?_push_of_some _ e
theorem pe_sortV {po : Expr} {te : TE} {apos cpos p pos : Pos} (hk : X.K = L.F) (hw : X.w = L.w) (hc : X.calm = true) (hu : X.A.units + 65 < cLine) (hg : Gl X "sorted") (hm : X.mg "sorted" = none) (he : PE X po te) (hsup : nosup po = true) (hline : (apos.endLine == cpos.line) = true) :
    PE X (.Call (.Name "sorted" p) [.Call (.Attribute po "values" apos) [] [] cpos] [] pos) (tSortV L te) := by
  constructor
  intro pins s σ H Q I h
  refine Call_ (ld_blt I hg hm boot_sorted ?_)
  refine PyProof.Rows.callWith_builtin1 (PyProof.Rows.args_cons ?_ rfl) rfl rfl
  refine wpAny_Call_method_late (sup_ok hsup "values" X.env) rfl hline rfl (thn (he.run pins s σ H _ I h) fun u s1 ⟨x, H1, I1, r1, a, kvs, xs, ex, D, so, q⟩ => ?_)
  subst ex
  obtain rfl : u = Value.ref a := r1
  have N := D.now hk hw I1
  obtain ⟨ys, r, o, es, ep, ho, hx, hdt, _⟩ := N.d
  have hT : s1.TypeIs (.ref a) "dict" := ⟨o, ho, hx.1⟩
  refine ⟨"dict", "dict.values", PySem.F.plainAttrs_dict, PySem.F.slot_dict_values, PySem.F.type_dict_values, hT, fun b e => ?_, ?_⟩
  · cases e
    exact ⟨o, ho, hx.2.1⟩
  refine Calls.callWith_builtin rfl (PySem.evalArgs_none ?_)
  refine call_meetsIn PySem.F.slot_dict_values hT PySem.F.entry_dict_values (PySem.F.args_dict_values_1 _) (meets_dict_values_raw a N.sys) ⟨⟨es, ep, o, ho, hx, hdt⟩, ?_⟩
  have up : ∀ b u, s1.heap.get? b = some u → (s1.heap.push { cls := .type "dict_values", data := .fields #[.ref a] }).get? b = some u := fun b u e => Heap.get?_push_of_some _ e
  have I2 : Inv X pins σ H1 { s1 with heap := s1.heap.push { cls := .type "dict_values", data := .fields #[.ref a] } } := I1.kept (t' := s1.toks) up
  exact PyProof.Rows.args_nil (run_sortV hk hw hc hu I2 D ⟨_, Heap.get?_push_size _ rfl, rfl, rfl⟩ so q)
/-- max(xs, default=d) -/
def rMaxD (K : PySem.W.Frag) : List V → List V → Hp → VK → Prop := fun vs zs H Q => ∃ (a : Addr) (ns : List Int) (d : Int), vs = [V.ref a] ∧ zs = [.int d] ∧ SqL K H a (ns.map V.int) ∧ Q (.int (if ns = [] then d else maxI ns)) H
theorem foldl_maxI : ∀ (ns : List Int) (n : Int), ns.foldl max n = maxI (n :: ns)
  | [], n => by simp [maxI]
  | x :: ns, n => by
    rw [List.foldl_cons, foldl_maxI ns (max n x)]
    cases ns with
    | nil =>
      simp only [maxI]
      omega
    | cons y ns =>
      simp only [maxI]
      split <;> split <;> split <;> omega
theorem reads_ints {h : Heap} : ∀ {ns : List Int} {us : List Value}, Vals (ns.map V.int) us → ReadsAll h us (ns.map PyData.int) []
  | [], _, .nil => .nil
  | n :: ns, _, .cons r rs => by
    obtain ⟨t, rfl⟩ := r
    exact .cons (as := []) (bs := []) (.int n t) (reads_ints rs)
theorem cr_maxD (hc : X.calm = true) (hu : X.A.units + 65 < cLine) : CallRK X (.builtin "max") [Str.ofString "default"] (rMaxD X.K) := by
  intro pins s σ H vs zs us ws Q I r rz h
  obtain ⟨a, ns, d, rfl, rfl, hs, q⟩ := h
  obtain rfl := Vals.ref1 r
  obtain ⟨w1, rfl, e1⟩ := vals1 rz
  obtain ⟨t, rfl⟩ : ∃ t, w1 = Value.int d t := e1
  obtain ⟨its, rv, hl, hz⟩ := I.list hs
  have al : PySem.W.AlikeAll (ns.map PyData.int) := by
    refine ⟨fun x hx y hy => ?_, fun x hx => ?_⟩
    · obtain ⟨i, _, rfl⟩ := List.mem_map.mp hx
      obtain ⟨j, _, rfl⟩ := List.mem_map.mp hy
      rfl
    · obtain ⟨i, _, rfl⟩ := List.mem_map.mp hx
      exact nofun
  have dep : ∀ l : List Int, PyData.depthAll (l.map PyData.int) ≤ 1 := fun l => by
    induction l with
    | nil => simp [PyData.depthAll]
    | cons x l ih => simp [PyData.depthAll, PyData.depth]; omega
  refine PySem.W.max_list_default (I.ok.hd hc) hl.isList (reads_ints rv) al (by have := dep ns; omega) (fun e h2 tk k => ?_) fun y ys i v h2 tk bs e hv rd k => ?_
  · have e2 : ns = [] := List.map_eq_nil_iff.mp e
    subst e2
    exact ⟨.int d, H, I.kept k, ⟨t, rfl⟩, q⟩
  · cases ns with
    | nil => cases e
    | cons n ns =>
      cases e
      rw [PySem.W.maxD_ints, foldl_maxI] at rd
      cases rd with
      | int _ t2 => exact ⟨.int _, H, I.kept k, ⟨t2, rfl⟩, q⟩
end
end Mn
end

section
set_option Elab.async false
set_option linter.all false
set_option maxRecDepth 100000
set_option maxHeartbeats 4000000
/-! Mn, part H: calls, methods, makings, walks: rules of the layer's kind, in the forms wanted here. -/
namespace Mn
open PySem PySem.Spec PyProof.Rows L2 RZ

section
variable {X : Cx} {CX : CXT} {k : Nat} {f Ca : Addr} {fd : FuncData} {ps : List Str} {sp : Sp} {W : WX} {x m : Str} {p pos apos : Pos} {e o : Expr} {as : List Expr} {ta : TE} {t : TA}
theorem pe_c0 (F : FnOk X.prog X.w X.K X.mg X.base (L2N.CX X.prog X.w) k f fd ps sp) (hr : Room k X.A) (hg : Gl X x) (hm : X.mg x = some (.ref f)) (hk : PySem.W.keepIn X.K (.ref f) = true) (hb : Binds X.K fd ps []) (tk : L2N.Takes X W)
    (hdb : (x == ("__debug__" : Str)) = false) : PE X (.Call (.Name x p) [] [] pos) (fun σ H Q => sp [] H Q (WE W σ)) := by
  constructor
  intro pins s σ H Q J q
  apply wpAny_Call_Name_kw
  apply ld_glob J hg hm _ hdb
  exact PySem.W.callWith_K0 J.kIn hk (run_fnSD (dvs := []) (ds := []) (us := []) (vs := []) F hr hb .nil (L2N.passAt tk σ) J .nil q)
theorem pe_c1 {es : List Expr} (F : FnOk X.prog X.w X.K X.mg X.base (L2N.CX X.prog X.w) k f fd ps sp) (hr : Room k X.A) (hg : Gl X x) (hm : X.mg x = some (.ref f)) (hk : PySem.W.keepIn X.K (.ref f) = true) (hb : Binds X.K fd ps []) (tk : L2N.Takes X W)
    (ha : PA X (e :: es) t) (hs : (e :: es).all nostar = true) (hdb : (x == ("__debug__" : Str)) = false) : PE X (.Call (.Name x p) (e :: es) [] pos) (fun σ H Q => t σ H fun vs H1 => sp vs H1 Q (WE W σ)) := by
  have hs2 : nostar e = true ∧ es.all nostar = true := by rw [List.all_cons, Bool.and_eq_true] at hs; exact hs
  refine Mn.PE.weak (pe_callSD (E := WE W) (dvs := []) F hr hg hm hk hb .nil (fun σ => L2N.passAt tk σ) ha hdb (star_ok hs2.1 es X.env) (stars_ok hs2.2 pos X.env).1) fun σ H Q q => ?_
  show t σ H fun vs H1 => sp (vs ++ []) H1 Q (WE W σ)
  simpa only [List.append_nil] using q
/-! called while an exception is handled -/
section
variable {P : Program} {w : World} {K : PySem.W.Frag} {mg : Str → Option Value} {base : Heap} {G : Addr × Obj → Prop}
theorem fnK_of {nm qual : Str} {params : Arguments} {body : List Stmt} {scope : Scope} {N : List Str} (F : FunD K nm qual params body scope [] [] f fd) (S : FnScope N ps scope) (len : ∀ vs H Q E, sp vs H Q E → vs.length = ps.length)
    (hbody : ∀ (cdv : Value) (A : Around) (outer : List PySem.Env) (s : Shared) (H : Hp) (vs : List V) (Q : VK) (E : XK) (p : Addr × Obj), L2H.Hot1 A p → G p → L2H.RoomH k (A.deeper (envOfC qual scope s.heap.objs.size f cdv)) → sp vs H Q E →
      ∃ t, PSs (L2H.cxH (L2N.CX P w) P w K mg base N qual scope f cdv A outer s H E p) body t ∧ t { nx := fun _ H' => Q .non H', rt := Q } (L2.start N vs) H) :
    FnK P w K mg base (k + 1) f fd ps sp G := by
  obtain ⟨oc, od, dV, kV, doc, pm, an, cdv, ct, osl, rfl, lk, hcd, _, _⟩ := F.ex
  constructor
  · exact len
  intro A outer s H args us vs Q E p room hot g pin en bd rv want
  have kx := en.mod.kin.keeps fun b o e => (en.bs b o e).1
  have bind : ∀ y ∈ ps.zip us, scope.names.lookup y.1 = some .local ∨ (scope.names.lookup y.1 = some .cell ∧
      ((cellsFrom (s.heap.objs.size + 1) scope.names []).lookup y.1).isSome = true) := by
    rintro ⟨z, u⟩ hz
    cases S.par z (List.of_mem_zip hz).1 with
    | inl q => exact .inl q
    | inr q => exact .inr ⟨q, PySem.W.cellsFrom_some _ _ _ (.inl q)⟩
  apply codeAny_call_function room.depth (kx _ _ lk) rfl S.co S.gen rfl
    (PySem.W.codeRec_of kx hcd)
  apply bd
  apply wpAny_newFunctionEnv_cells S.kind bind
  intro env he s1 ic
  cases he
  refine ⟨(en.mod.nolimit.keeps fun b o e => (en.bs b o e).1).keeps ic.toInCall.keep, ?_⟩
  apply codeAny_func
  obtain ⟨t, ht, hq⟩ := hbody cdv A outer s H vs Q E p hot g (room.deeper _) want
  have J := L2H.inv_startH (CX := L2N.CX P w) (E := E) S pin en (len _ _ _ _ want) rv ic
  apply wpAny_mono (ht.run [] s1 _ H _ J hq)
  · intro fl s2 h2
    cases fl with
    | ret u =>
      obtain ⟨v, _, H2, J2, ru, q⟩ := h2
      exact ⟨v, H2, J2.os, J2.bare, J2.base, J2.hok, ru, q⟩
    | next =>
      obtain ⟨_, H2, J2, q⟩ := h2
      exact ⟨.non, H2, J2.os, J2.bare, J2.base, J2.hok, rfl, q⟩
    | brk => exact h2.elim fun _ h3 => h3.elim fun _ h4 => h4.2.elim
    | cont => exact h2.elim fun _ h3 => h3.elim fun _ h4 => h4.2.elim
  · exact fun _ _ h => h
variable {pa : Addr × Obj}
theorem run_fnK {pins : List (Addr × Obj)} {σ : L2.St} {H : Hp} {s : Shared} {Q : VK} {us : List Value} {vs : List V} (F : FnK X.prog X.w X.K X.mg X.base k f fd ps sp G) (room : L2H.RoomH k X.A) (hot : L2H.Hot1 X.A pa) (hp : pa ∈ X.pn) (g : G pa) (hb : Binds X.K fd ps [])
    (tk : L2N.Takes X W) (J : Inv X pins σ H s) (r : Vals vs us) (q : sp vs H Q (WE W σ)) : wpAny (model X.prog X.w) X.A (call (.ref f) us) (EP X pins σ Q) X.xe s := by
  have pin := J.pin pa (List.mem_append_left _ hp)
  have hl : (us ++ ([] : List Value)).length = ps.length := by
    rw [List.append_nil, ← r.length]
    exact F.len _ _ _ _ q
  have bb := hb s us J.kIn hl
  rw [List.append_nil] at bb
  have off : pa.1 ∉ frs X.stack := fun hm => by
    rcases List.mem_cons.mp (J.stkSub pa.1 hm) with z | z
    · exact pin.2.2.1 z
    · exact pin.2.2.2.1 z
  have go := F.run X.A X.stack s H ⟨us, []⟩ us vs Q (WE W σ) pa room hot g ⟨pin.1, pin.2.1, off, pin.2.2.2.2⟩ J.env0 bb r q
  apply wpAny_call
  apply codeAny_mono go
  intro res s2 h2
  cases res with
  | error e => exact L2N.passAt tk σ pins H s e s2 J h2
  | ok fl => cases fl with
    | ret u => exact J.after h2
    | _ => exact False.elim h2
theorem pe_cK (F : FnK X.prog X.w X.K X.mg X.base k f fd ps sp G) (room : L2H.RoomH k X.A) (hot : L2H.Hot1 X.A pa) (hp : pa ∈ X.pn) (g : G pa) (hg : Gl X x) (hm : X.mg x = some (.ref f)) (hk : PySem.W.keepIn X.K (.ref f) = true) (hb : Binds X.K fd ps []) (tk : L2N.Takes X W)
    (ha : PA X as t) (h0 : as = [] → ∀ σ H Q, t σ H Q → Q [] H) (hs : as.all nostar = true) (hdb : (x == ("__debug__" : Str)) = false) : PE X (.Call (.Name x p) as [] pos) (fun σ H Q => t σ H fun vs H1 => sp vs H1 Q (WE W σ)) := by
  constructor
  intro pins s σ H Q J q
  apply wpAny_Call_Name_kw
  apply ld_glob J hg hm _ hdb
  cases as with
  | nil => exact PySem.W.callWith_K0 J.kIn hk (run_fnK (us := []) (vs := []) F room hot hp g hb tk J .nil (h0 rfl _ _ _ q))
  | cons e es =>
    have hs2 : nostar e = true ∧ es.all nostar = true := by rw [List.all_cons, Bool.and_eq_true] at hs; exact hs
    refine PySem.W.callWith_K (h₀ := X.base) J.ok.mod.kin hk (thn (ha.run pos pins s σ H _ J q) fun us s2 ⟨vs, H2, J2, r, q2⟩ => ⟨J2.kIn, ?_⟩) (star_ok hs2.1 es X.env) (stars_ok hs2.2 pos X.env).1
    exact run_fnK F room hot hp g hb tk J2 r q2
/-- isinstance of the handled exception -/
theorem call_isK {Da : Addr} (C : ExcC X.K Da) (hp : pa ∈ X.pn) (hz : Zc (.ref Da) none pa.2) (hf : ∃ vs, pa.2.data = .fields vs) : CallR X (.builtin "isinstance")
    (fun xs H Q => ∃ (c : V) (cv : Value) (b : Bool), xs = [.ref pa.1, c] ∧ (∀ u, RelV c u → u = cv) ∧ PySem.W.kitOne X.K (.ref Da) cv = some b ∧ Q (.bl b) H) := by
  intro pins s σ H xs us Q J r h
  obtain ⟨c, cv, b, rfl, hcv, e, q⟩ := h
  obtain ⟨u1, u2, rfl, r1, r2⟩ := r.two
  obtain rfl : u1 = Value.ref pa.1 := r1
  obtain rfl := hcv _ r2
  have pin := J.pin pa (List.mem_append_left _ hp)
  obtain ⟨a, ⟨oc, od, oda, osl⟩⟩ := pa
  obtain ⟨vs, hv⟩ := hf
  obtain ⟨h1, h2⟩ := hz
  cases h1
  cases h2
  cases hv
  have at_ : PySem.W.InstAt s.heap a _ Da none := ⟨pin.1, rfl, rfl, trivial⟩
  have kx := PySem.W.handS_kitx_exc C.hg C.hk C.hs C.hd C.ha C.hn C.ht C.hm (x := a) (ox := ⟨.ref Da, none, .fields vs, osl⟩)
  exact PySem.W.kia_one kx J.kIn at_ e (fun z => nomatch z) fun tk => ⟨.bl b, H, J.kept (t' := tk) fun _ _ z => z, rfl, q⟩
end
/-- o.m(..), an own method -/
theorem meth_form (hsup : nosup o = true) (hs : as.all nostar = true) (hl : as.length < 29) (hline : (apos.endLine == pos.line) = true) (env : PySem.Env) :
    eval (.Call (.Attribute o m apos) as [] pos) env = (do
      let ov ← eval o env
      standAt apos.atName
      let (f, first) ← holding [ov] (getMethod ov m (do return (← importBound o env).getD true))
      callWith pos f first (backTo pos (starEach as env)) (backToKw pos (keywordEach [] env))) := by
  have hform : methodCallForm (as.length + ([] : List Keyword).length) (backTo pos (starEach as env)) (backToKw pos (keywordEach [] env)) = true := by
    unfold methodCallForm
    have h2 := (stars_ok hs pos env).2.1
    rw [h2]
    simp [backToKw, keywordEach]
    omega
  have hpos : methodCallPos true o env apos pos = pure pos := by unfold methodCallPos; simp [hline]
  rw [arm_eval_Call, sup_ok hsup]
  unfold methodCall
  simp only [hform, hpos]
  rfl
def tMth (Ca : Addr) (m : Str) (sp : Sp) (W : WX) (ta : TE) (t : TA) : TE := fun σ H Q => ta σ H fun x H1 => ∃ a dx fs, x = .ref a ∧ H1 a = some (.ins Ca dx fs) ∧ fs.lookup m = none ∧ t σ H1 fun vs H2 => sp (x :: vs) H2 Q (WE W σ)
/-- the class is found when the object is there: sp, the def and the class may hang on it -/
theorem pe_mU (he : PE X o ta) (hsup : nosup o = true) (hs : as.all nostar = true) (hl : as.length < 29) (hline : (apos.endLine == pos.line) = true) (tk : L2N.Takes X W) (ha : PA X as t) (h0 : as = [] → ∀ σ H Q, t σ H Q → Q [] H) (hr : Room k X.A) :
    PE X (.Call (.Attribute o m apos) as [] pos) (fun σ H Q => ta σ H fun x H1 => ∃ a Ca dx fs f fd ps sp, x = .ref a ∧ H1 a = some (.ins Ca dx fs) ∧ fs.lookup m = none ∧ Cls X.K Ca ∧ Meth X.K Ca m f ∧ Binds X.K fd ps [] ∧
      FnOk X.prog X.w X.K X.mg X.base (L2N.CX X.prog X.w) k f fd ps sp ∧ t σ H1 fun vs H2 => sp (x :: vs) H2 Q (WE W σ)) := by
  constructor
  intro pins s σ H Q J q
  refine PySem.W.methodCall_KW (thn (he.run pins s σ H _ J q) fun u s1 ⟨y, H1, J1, ry, a, Ca, dx, fs, f, fd, ps, sp, ey, ea, l, c, mm, hb, F, q1⟩ => ?_) (meth_form hsup hs hl hline X.env)
  subst ey
  obtain rfl : u = Value.ref a := ry
  refine getmeth_ok J1 ea c mm l ?_
  cases as with
  | nil =>
    have q2 := h0 rfl _ _ _ q1
    exact PySem.W.callWith_K0 (first := [.ref a]) J1.kIn mm.kp (run_fnSD (dvs := []) (ds := []) (us := [.ref a]) (vs := [.ref a]) F hr hb .nil (L2N.passAt tk σ) J1 (.cons rfl .nil) q2)
  | cons e es =>
    have hs2 : nostar e = true ∧ es.all nostar = true := by rw [List.all_cons, Bool.and_eq_true] at hs; exact hs
    refine PySem.W.callWith_K (first := [.ref a]) (h₀ := X.base) J1.ok.mod.kin mm.kp (thn (ha.run pos pins s1 σ H1 _ J1 q1) fun us s2 ⟨vs, H2, J2, r, q2⟩ => ⟨J2.kIn, ?_⟩) (star_ok hs2.1 es X.env) (stars_ok hs2.2 pos X.env).1
    exact run_fnSD (dvs := []) (ds := []) (us := .ref a :: us) (vs := .ref a :: vs) F hr hb .nil (L2N.passAt tk σ) J2 (.cons rfl r) (by rw [List.append_nil]; exact q2)
/-- C(..) -/
theorem run_mk {pins : List (Addr × Obj)} {σ : L2.St} {H : Hp} {s : Shared} {Q : VK} {us : List Value} {vs : List V} (M : Mk X.K Ca f) (F : FnOk X.prog X.w X.K X.mg X.base (L2N.CX X.prog X.w) k f fd ps sp) (hr : Room (k + 1) X.A) (hb : Binds X.K fd ps [])
    (tk : L2N.Takes X W) (J : Inv X pins σ H s) (r : Vals vs us) (q : ∀ y dy, H y = none → H dy = none → dy ≠ y → sp (.ref y :: vs) (upd (upd H dy (.own y)) y (.ins Ca dy [])) (fun v H2 => v = .non ∧ Q (.ref y) H2) (WE W σ)) :
    wpAny (model X.prog X.w) X.A (call (.ref Ca) us) (EP X pins σ Q) X.xe s := by
  have f1 : H (s.heap.objs.size + 1) = none := J.hok.fresh (Nat.le_succ _)
  have f0 : H s.heap.objs.size = none := J.hok.fresh (Nat.le_refl _)
  have hq := q _ _ f1 f0 (Nat.ne_of_lt (Nat.lt_succ_self _))
  have J2 := Inv.made (C := Ca) J
  have r2 : Vals (V.ref (s.heap.objs.size + 1) :: vs) (Value.ref (s.heap.objs.size + 1) :: us) := .cons rfl r
  have hl : ((Value.ref (s.heap.objs.size + 1) :: us) ++ ([] : List Value)).length = ps.length := by
    rw [List.append_nil, ← r2.length]
    exact F.len _ _ _ _ hq
  have hbb := hb _ _ J2.kIn hl
  rw [List.append_nil] at hbb
  have go := F.run _ X.stack _ _ _ _ _ _ _ (hr.make Ca us []) (J2.env0.make Ca us []) hbb r2 hq
  refine wpAny_call (make_map J.kIn M.makes M.init (beq_iff_eq.mp M.fn) (codeAny_mono go fun res s2 h2 => ?_))
  cases res with
  | error e => exact L2N.passAt tk σ pins _ _ e s2 J2 h2
  | ok fl => cases fl with
    | ret u =>
      obtain ⟨v, H3, J3, rv, ev, q3⟩ := J2.after h2
      subst ev
      exact ⟨rv, ⟨V.ref (s.heap.objs.size + 1), H3, J3, rfl, q3⟩⟩
    | _ => exact False.elim h2
theorem pe_mkU (hg : Gl X x) (hm : X.mg x = some (.ref Ca)) (M : Mk X.K Ca f) (F : FnOk X.prog X.w X.K X.mg X.base (L2N.CX X.prog X.w) k f fd ps sp) (hr : Room (k + 1) X.A) (hb : Binds X.K fd ps []) (tk : L2N.Takes X W) (ha : PA X as t) (h0 : as = [] → ∀ σ H Q, t σ H Q → Q [] H)
    (hs : as.all nostar = true) (hdb : (x == ("__debug__" : Str)) = false) : PE X (.Call (.Name x p) as [] pos) (fun σ H Q => t σ H fun vs H1 => ∀ y dy, H1 y = none → H1 dy = none → dy ≠ y →
      sp (.ref y :: vs) (upd (upd H1 dy (.own y)) y (.ins Ca dy [])) (fun v H2 => v = .non ∧ Q (.ref y) H2) (WE W σ)) := by
  constructor
  intro pins s σ H Q J q
  apply wpAny_Call_Name_kw
  apply ld_glob J hg hm _ hdb
  cases as with
  | nil => exact PySem.W.callWith_K0 J.kIn M.kp (run_mk (us := []) M F hr hb tk J .nil (h0 rfl _ _ _ q))
  | cons e es =>
    have hs2 : nostar e = true ∧ es.all nostar = true := by rw [List.all_cons, Bool.and_eq_true] at hs; exact hs
    refine PySem.W.callWith_K (h₀ := X.base) J.ok.mod.kin M.kp (thn (ha.run pos pins s σ H _ J q) fun us s2 ⟨vs, H2, J2, r, q2⟩ => ⟨J2.kIn, ?_⟩) (star_ok hs2.1 es X.env) (stars_ok hs2.2 pos X.env).1
    exact run_mk M F hr hb tk J2 r q2
/-- o.m(..), a method of a built-in type, the type found when the object is there -/
theorem tyG_is {X : Cx} {L : Lk} {pins : List (Addr × Obj)} {σ : L2.St} {H : Hp} {s : Shared} {T : String} {x : V} {v : Value} (hk : X.K = L.F) (hw : X.w = L.w) (I : Inv X pins σ H s) (r : RelV x v) (ty : tyG L T x H) :
    s.TypeIs v T ∧ ∀ a, v = .ref a → ∃ ob, s.heap.get? a = some ob ∧ ob.dict = none := by
  rcases ty with ty | ⟨rfl, a, xs, rfl, D⟩
  · rw [← hk] at ty
    exact tyV_is I r ty
  · obtain rfl : v = Value.ref a := r
    rw [← hw] at D
    obtain ⟨⟨ys, o, es, ep, _, ho, hx, _⟩, _⟩ := (show ObjOk X.prog X.w H s.heap a (DtO X.w a xs) from I.hok a _ D.on)
    refine ⟨⟨o, ho, hx.1⟩, fun b e => ?_⟩
    cases e
    exact ⟨o, ho, hx.2.1⟩
theorem pe_bU {L : Lk} (hk : X.K = L.F) (hw : X.w = L.w) (he : PE X o ta) (hsup : nosup o = true) (hs : as.all nostar = true) (hl : as.length < 29) (hline : (apos.endLine == pos.line) = true) (ha : PA X as t) (h0 : as = [] → ∀ σ H Q, t σ H Q → Q [] H) :
    PE X (.Call (.Attribute o m apos) as [] pos) (fun σ H Q => ta σ H fun x H1 => ∃ T id r, MthOk X T m id r ∧ tyG L T x H1 ∧ t σ H1 fun vs H2 => r x vs H2 Q) := by
  constructor
  intro pins s σ H Q J q
  have few : ((backTo pos (starEach as X.env)).all (fun x => !x.1) && (backToKw pos (keywordEach [] X.env)).all (fun x => x.1.isSome) && decide (as.length + ([] : List Keyword).length + (if ([] : List Keyword).isEmpty then 0 else 1) < 30)) = true := by
    rw [(stars_ok hs pos X.env).2.1]
    simp [backToKw, keywordEach]
    omega
  refine wpAny_Call_method_late (sup_ok hsup m X.env) few hline rfl (thn (he.run pins s σ H _ J q) fun v s1 ⟨y, H1, J1, r1, T, id, r, mo, ty, q1⟩ => ?_)
  obtain ⟨h1, h2⟩ := tyG_is hk hw J1 r1 ty
  refine ⟨T, id, mo.pa, mo.slot, mo.ty, h1, h2, ?_⟩
  cases as with
  | nil => exact Calls.callWith_builtin rfl (PySem.evalArgs_none (mo.mt pins s1 σ H1 y [] v [] Q J1 r1 .nil (h0 rfl _ _ _ q1)))
  | cons e es =>
    have hs2 : nostar e = true ∧ es.all nostar = true := by rw [List.all_cons, Bool.and_eq_true] at hs; exact hs
    have hA := ha.run pos pins s1 σ H1 _ J1 q1
    rw [star_ok hs2.1] at hA ⊢
    refine Calls.callWith_builtin (by show (false || (backTo pos (starEach es X.env)).any (·.1)) = false; rw [(stars_ok hs2.2 pos X.env).1]; rfl) (Calls.evalArgs_plain ?_)
    exact thn hA fun us s2 ⟨vs, H2, J2, r2, q2⟩ => mo.mt pins s2 σ H2 y vs v us Q J2 r1 r2 q2
end

/-! ### what is walked -/
section
variable {X : Cx} {tg e : Expr} {te : TE}
def iAny (F : PySem.W.Frag) (te : TE) : TI := fun σ H R => te σ H fun x H1 => (∃ a, x = .ref a ∧ (∃ xs, SqL F H1 a xs) ∧ R (Itl F a) H1) ∨ (∃ a, x = .ref a ∧ (∃ xs, SqT F H1 a xs) ∧ R (Itt F a) H1) ∨ ∃ z, x = .str z ∧ R (Its z) H1
theorem pi_any (he : PE X e te) : PI X tg e (iAny X.K te) := by
  constructor
  intro pins s σ H R J q
  refine thn (he.run pins s σ H _ J q) fun v s1 ⟨y, H1, J1, r1, q1⟩ => ?_
  rcases q1 with ⟨a, ea, ⟨xs, hx⟩, q1⟩ | ⟨a, ea, ⟨xs, hx⟩, q1⟩ | ⟨z, ez, q1⟩
  · subst ea
    obtain rfl : v = Value.ref a := r1
    obtain ⟨its, _, pl, _⟩ := J1.list hx
    exact wpAny_pyIter_list pl.isList (pi_one (tk := s1.toks) J1 _ (turn_list a _) ⟨_, Heap.get?_push_size _ rfl, rfl, rfl⟩ q1)
  · subst ea
    obtain rfl : v = Value.ref a := r1
    obtain ⟨its, _, pl, _⟩ := J1.tuple hx
    exact wpAny_pyIter_tuple (show s1.heap.IsTuple a its.toArray from pl) (pi_one (tk := s1.toks) J1 _ (turn_tuple a _) ⟨_, Heap.get?_push_size _ rfl, rfl, rfl⟩ q1)
  · subst ez
    obtain ⟨tk, rfl⟩ := r1
    cases ha : z.cps.all (· < 128) with
    | false => exact wpAny_pyIter_wide ha (pi_one (tk := s1.toks) J1 _ (turn_str _ z tk "str_iterator" (.inr rfl)) ⟨_, Heap.get?_push_size _ rfl, rfl, rfl⟩ q1)
    | true => exact wpAny_pyIter_ascii ha (pi_one (tk := s1.toks) J1 _ (turn_str _ z tk "str_ascii_iterator" (.inl rfl)) ⟨_, Heap.get?_push_size _ rfl, rfl, rfl⟩ q1)
end
/-! the items in their turn -/
section
variable {L : Lk} {m : Hm} {H : Hp} {a b : Addr} {vs : List V}
theorem Rps.get2 {F : PySem.W.Frag} {H : Hp} {ds : List D} {vs : List V} (r : Rps F H ds vs) {i : Nat} {v : V} {d : D} (h : vs[i]? = some v) (hd : ds[i]? = some d) : Rp F H d v := by
  obtain ⟨w, h1, h2⟩ := r.get hd
  rw [h] at h1; cases h1; exact h2
theorem it_lst {ds : List D} : ItOk L H (Itl L.F a) ds (fun m2 => m2 a = some (.lst ds)) where
  stop := fun m2 H2 rel h k => let ⟨ws, h1, h2⟩ := rel _ _ h; ⟨ws, SqL.of h1, by rw [h2.length]; exact Nat.le_refl _⟩
  go := fun i x m2 H2 hx rel h k => by
    obtain ⟨ws, h1, h2⟩ := rel _ _ h
    obtain ⟨w, h3, h4⟩ := h2.get hx
    refine ⟨⟨ws, w, SqL.of h1, h3⟩, fun v H3 hy => ?_⟩
    obtain ⟨rfl, hy⟩ := hy
    have h5 := hy ws (SqL.of h1)
    rw [h3] at h5
    cases h5
    exact ⟨h4, rel, .refl _⟩
theorem it_fz {ds : List D} {st : Hm → Prop} (sq : FzL L.F H a vs) (rs : Rps L.F H ds vs) : ItOk L H (Itl L.F a) ds st where
  stop := fun m2 H2 rel h k => ⟨vs, (sq.mono k).sq, by rw [rs.length]; exact Nat.le_refl _⟩
  go := fun i x m2 H2 hx rel h k => by
    obtain ⟨w, h3, h4⟩ := rs.get hx
    refine ⟨⟨vs, w, (sq.mono k).sq, h3⟩, fun v H3 hy => ?_⟩
    obtain ⟨rfl, hy⟩ := hy
    have h5 := hy vs (sq.mono k).sq
    rw [h3] at h5
    cases h5
    exact ⟨h4.mono k, rel, .refl _⟩
theorem it_tup {ds : List D} {st : Hm → Prop} (sq : SqU L.F H a vs) (rs : Rps L.F H ds vs) : ItOk L H (Itt L.F a) ds st where
  stop := fun m2 H2 rel h k => ⟨vs, (sq.mono k).sq, by rw [rs.length]; exact Nat.le_refl _⟩
  go := fun i x m2 H2 hx rel h k => by
    obtain ⟨w, h3, h4⟩ := rs.get hx
    refine ⟨⟨vs, w, (sq.mono k).sq, h3⟩, fun v H3 hy => ?_⟩
    obtain ⟨rfl, hy⟩ := hy
    have h5 := hy vs (sq.mono k).sq
    rw [h3] at h5
    cases h5
    exact ⟨h4.mono k, rel, .refl _⟩
theorem it_str {s : List Nat} {st : Hm → Prop} : ItOk L H (Its (toS s)) (s.map fun c => .str [c]) st where
  stop := fun m2 H2 rel h k => by
    show (toS s).cps.size ≤ _
    rw [List.length_map]
    simp [toS]
  go := fun i x m2 H2 hx rel h k => by
    rw [List.getElem?_map] at hx
    cases e : s[i]? with
    | none => rw [e] at hx; cases hx
    | some c =>
      rw [e] at hx
      cases hx
      have hi : i < s.length := (List.getElem?_eq_some_iff.mp e).1
      refine ⟨by show i < (toS s).cps.size; simp [toS, hi], fun v H3 hy => ?_⟩
      obtain ⟨rfl, c2, h1, rfl⟩ := hy
      have h2 : (toS s).cps[i]? = some c := by simp [toS, e]
      rw [h2] at h1
      cases h1
      exact ⟨.str [c], rel, .refl _⟩
theorem it_rng {lo : Int} {n : Nat} {st : Hm → Prop} : ItOk L H (Itr lo n) (rangeD lo n) st where
  stop := fun m2 H2 rel h k => by
    show n ≤ (rangeD lo n).length
    simp [rangeD]
  go := fun i x m2 H2 hx rel h k => by
    unfold rangeD at hx
    rw [List.getElem?_map] at hx
    cases e : (List.range n)[i]? with
    | none => rw [e] at hx; cases hx
    | some j =>
      rw [e] at hx
      cases hx
      have hi := (List.getElem?_eq_some_iff.mp e).1
      rw [List.length_range] at hi
      have e2 := (List.getElem?_eq_some_iff.mp e).2
      rw [List.getElem_range] at e2
      subst e2
      refine ⟨hi, fun v H3 hy => ?_⟩
      obtain ⟨rfl, rfl⟩ := hy
      exact ⟨.int _, rel, .refl _⟩
theorem it_rngC {lo c : Int} {n : Nat} {st : Hm → Prop} : ItOk L H (Itc lo c n) (rangeC lo c n) st where
  stop := fun m2 H2 rel h k => by
    show n ≤ (rangeC lo c n).length
    simp [rangeC]
  go := fun i x m2 H2 hx rel h k => by
    unfold rangeC at hx
    rw [List.getElem?_map] at hx
    cases e : (List.range n)[i]? with
    | none => rw [e] at hx; cases hx
    | some j =>
      rw [e] at hx
      cases hx
      have hi := (List.getElem?_eq_some_iff.mp e).1
      rw [List.length_range] at hi
      have e2 := (List.getElem?_eq_some_iff.mp e).2
      rw [List.getElem_range] at e2
      subst e2
      refine ⟨hi, fun v H3 hy => ?_⟩
      obtain ⟨rfl, rfl⟩ := hy
      exact ⟨.int _, rel, .refl _⟩
theorem enumD_get : ∀ {xs : List D} {k i : Nat} {x : D}, (enumD k xs)[i]? = some x → ∃ y, xs[i]? = some y ∧ x = .tup [.int ((k + i : Nat) : Int), y]
  | [], k, i, x, h => by simp [enumD] at h
  | y :: ys, k, 0, x, h => by simp [enumD] at h; exact ⟨y, rfl, h.symm⟩
  | y :: ys, k, i + 1, x, h => by
    simp only [enumD, List.getElem?_cons_succ] at h
    obtain ⟨z, h1, h2⟩ := enumD_get h
    exact ⟨z, by rw [List.getElem?_cons_succ]; exact h1, by rw [h2]; congr 4; omega⟩
theorem enumD_len : ∀ (xs : List D) (k : Nat), (enumD k xs).length = xs.length
  | [], _ => rfl
  | _ :: xs, k => by simp [enumD, enumD_len xs]
/-- what is walked within enumerate, zip, by its items -/
structure ScOk (L : Lk) (H : Hp) (A : Sc) (ds : List D) (st : Hm → Prop) : Prop where
  now : ∀ m2 H2, Rel L m2 H2 → st m2 → Kp H H2 → ∃ ws, A.has L.F H2 ws ∧ Rps L.F H2 ds ws
theorem sc_lst {ds : List D} : ScOk L H (.lst a) ds (fun m2 => m2 a = some (.lst ds)) := ⟨fun m2 H2 rel h _ => let ⟨ws, h1, h2⟩ := rel _ _ h; ⟨ws, SqL.of h1, h2⟩⟩
theorem sc_fz {ds : List D} {st : Hm → Prop} (sq : FzL L.F H a vs) (rs : Rps L.F H ds vs) : ScOk L H (.lst a) ds st := ⟨fun m2 H2 rel h k => ⟨vs, (sq.mono k).sq, rs.mono k⟩⟩
theorem sc_tup {ds : List D} {st : Hm → Prop} (sq : SqU L.F H a vs) (rs : Rps L.F H ds vs) : ScOk L H (.tup a) ds st := ⟨fun m2 H2 rel h k => ⟨vs, (SqU.mono sq k).sq, rs.mono k⟩⟩
theorem strs_rps {F : PySem.W.Frag} {H : Hp} : ∀ s : List Nat, Rps F H (s.map fun c => .str [c]) (s.map fun c => V.str ⟨#[c]⟩)
  | [] => .nil
  | c :: s => .cons (.str [c]) (strs_rps s)
theorem sc_str {s : List Nat} {st : Hm → Prop} : ScOk L H (.txt (toS s)) (s.map fun c => .str [c]) st := ⟨fun m2 H2 rel h k => ⟨_, rfl, by
  rw [toS_list]
  exact strs_rps s⟩⟩
/-- the pairs of enumerate -/
theorem it_enumZ {A : Sc} {ds : List D} {st : Hm → Prop} (ok : ScOk L H A ds st) : ItOk L H (ItE L.F A) (enumD 0 ds) st where
  stop := fun m2 H2 rel h k => let ⟨ws, h1, h2⟩ := ok.now m2 H2 rel h k; ⟨ws, h1, by rw [enumD_len, h2.length]⟩
  go := fun i x m2 H2 hx rel h k => by
    obtain ⟨ws, h1, h2⟩ := ok.now m2 H2 rel h k
    obtain ⟨y, e1, e2⟩ := enumD_get hx
    obtain ⟨w, h3, h4⟩ := h2.get e1
    refine ⟨⟨ws, w, h1, h3⟩, fun v H3 hy => ?_⟩
    obtain ⟨T, z, o, rfl, hT, hd, rfl, hz⟩ := hy
    have h5 := hz ws h1
    rw [h3] at h5
    cases h5
    have kp : Kp H2 (upd H2 T (.frz o (.tup [.int ((i : Nat) : Int), w]))) := .new hT
    rw [e2, Nat.zero_add]
    exact ⟨.tup (.inl ⟨o, upd_same, hd⟩) (.cons (.int _) (.cons (h4.mono kp) .nil)), rel.hide hT, kp⟩
theorem zipD_get : ∀ {xs ys : List D} {i : Nat} {x : D}, (zipD xs ys)[i]? = some x → ∃ y z, xs[i]? = some y ∧ ys[i]? = some z ∧ x = .tup [y, z]
  | [], _, i, x, h => by simp [zipD] at h
  | _ :: _, [], i, x, h => by simp [zipD] at h
  | y :: ys, z :: zs, 0, x, h => by simp [zipD] at h; exact ⟨y, z, rfl, rfl, h.symm⟩
  | y :: ys, z :: zs, i + 1, x, h => by
    simp only [zipD, List.getElem?_cons_succ] at h
    obtain ⟨u, v, h1, h2, h3⟩ := zipD_get h
    exact ⟨u, v, by rw [List.getElem?_cons_succ]; exact h1, by rw [List.getElem?_cons_succ]; exact h2, h3⟩
theorem zipD_len : ∀ (xs ys : List D), (zipD xs ys).length = min xs.length ys.length
  | [], _ => by simp [zipD]
  | _ :: _, [] => by simp [zipD]
  | _ :: xs, _ :: ys => by simp [zipD, zipD_len xs ys]
theorem it_zipZ {A B : Sc} {ds es : List D} {s1 s2 : Hm → Prop} (oa : ScOk L H A ds s1) (ob : ScOk L H B es s2) : ItOk L H (ItP L.F A B) (zipD ds es) (fun m2 => s1 m2 ∧ s2 m2) where
  stop := fun m2 H2 rel h k => by
    obtain ⟨ws, h1, h2⟩ := oa.now m2 H2 rel h.1 k
    obtain ⟨us, h3, h4⟩ := ob.now m2 H2 rel h.2 k
    refine ⟨ws, us, h1, h3, ?_⟩
    rw [zipD_len, ← h2.length, ← h4.length]
    omega
  go := fun i x m2 H2 hx rel h k => by
    obtain ⟨ws, h1, h2⟩ := oa.now m2 H2 rel h.1 k
    obtain ⟨us, h3, h4⟩ := ob.now m2 H2 rel h.2 k
    obtain ⟨y, z, e1, e2, e3⟩ := zipD_get hx
    obtain ⟨w, g1, g2⟩ := h2.get e1
    obtain ⟨u, g3, g4⟩ := h4.get e2
    refine ⟨⟨ws, us, w, u, h1, h3, g1, g3⟩, fun v H3 hy => ?_⟩
    obtain ⟨T, p, q, o, rfl, hT, hd, rfl, hp, hq⟩ := hy
    have h5 := hp ws h1
    have h6 := hq us h3
    rw [g1] at h5
    rw [g3] at h6
    cases h5
    cases h6
    have kp : Kp H2 (upd H2 T (.frz o (.tup [w, u]))) := .new hT
    subst e3
    exact ⟨.tup (.inl ⟨o, upd_same, hd⟩) (.cons (g2.mono kp) (.cons (g4.mono kp) .nil)), rel.hide hT, kp⟩
end
end Mn
end

section
set_option Elab.async false
set_option linter.all false
set_option maxRecDepth 100000
set_option maxHeartbeats 4000000
/-! Mn, part I: an expression's walk follows from its term. -/
namespace Mn
open PySem PySem.Spec PyProof.Rows L2 RZ

/-! ### rules wanted in wider forms -/
section
variable {X : Cx} {a b c : Expr} {ta tb tc : TE} {tA tB' : TT} {rest : List Expr} {pos : Pos}
def tru (K : PySem.W.Frag) (Q : Bool → Hp → Prop) : VK := fun x H => ∃ k, TruV K x H k ∧ Q k H
theorem pe_andU (ha : PE X a ta) (hb : PE X (.BoolOp .And (b :: rest) pos) tb) : PE X (.BoolOp .And (a :: b :: rest) pos) (fun σ H Q => ta σ H fun x H1 => ∃ k, TruV X.K x H1 k ∧ if k = true then tb σ H1 Q else Q x H1) :=
  ⟨fun pins s σ H Q J h => BoolOp_and (thn (ha.run pins s σ H _ J h) fun v s1 ⟨x, H1, J1, r1, k, e, q1⟩ =>
    thn (tru_ok pins s1 σ H1 x v (fun k' H2 => k' = k ∧ H2 = H1) J1 r1 ⟨k, e, rfl, rfl⟩) fun k' s2 ⟨H2, J2, e1, e2⟩ => by
      subst e1 e2
      cases k' with
      | true => exact hb.run pins s2 σ H2 Q J2 q1
      | false => exact ⟨x, H2, J2, r1, q1⟩)⟩
theorem pe_orU (ha : PE X a ta) (hb : PE X (.BoolOp .Or (b :: rest) pos) tb) : PE X (.BoolOp .Or (a :: b :: rest) pos) (fun σ H Q => ta σ H fun x H1 => ∃ k, TruV X.K x H1 k ∧ if k = true then Q x H1 else tb σ H1 Q) :=
  ⟨fun pins s σ H Q J h => BoolOp_or (thn (ha.run pins s σ H _ J h) fun v s1 ⟨x, H1, J1, r1, k, e, q1⟩ =>
    thn (tru_ok pins s1 σ H1 x v (fun k' H2 => k' = k ∧ H2 = H1) J1 r1 ⟨k, e, rfl, rfl⟩) fun k' s2 ⟨H2, J2, e1, e2⟩ => by
      subst e1 e2
      cases k' with
      | false => exact hb.run pins s2 σ H2 Q J2 q1
      | true => exact ⟨x, H2, J2, r1, q1⟩)⟩
theorem pe_notU (ha : PE X a ta) : PE X (.UnaryOp .Not a pos) (fun σ H Q => ta σ H fun x H1 => ∃ k, TruV X.K x H1 k ∧ Q (.bl (!k)) H1) :=
  ⟨fun pins s σ H Q J h => UnaryOp_ (thn (ha.run pins s σ H _ J h) fun v s1 ⟨x, H1, J1, r1, k, e, q1⟩ =>
    not_of (thn (tru_ok pins s1 σ H1 x v (fun k' H2 => Q (.bl (!k')) H2) J1 r1 ⟨k, e, q1⟩) fun k' s2 ⟨H2, J2, e2⟩ => ⟨.bl (!k'), H2, J2, rfl, e2⟩))⟩
theorem pt_ifU (hc : PT X c tA) (ha : PT X a tB') {tC : TT} (hb : PT X b tC) : PT X (.IfExp c a b pos) (fun σ H Q => tA σ H fun k H1 => if k = true then tB' σ H1 Q else tC σ H1 Q) :=
  ⟨fun pins s σ H Q J h => isTrue_IfExp (thn (hc.run pins s σ H _ J h) fun k s1 ⟨H1, J1, q1⟩ => by
    cases k with
    | true => exact ha.run pins s1 σ H1 Q J1 q1
    | false => exact hb.run pins s1 σ H1 Q J1 q1)⟩
theorem pt_cmpU {op : CmpOp} {r : R2} (ho : OpR X (compareOp op) r) (ha : PE X a ta) (hb : PE X b tb) (hm : behindInMarks op b = false) : PT X (.Compare a [op] [b] pos) (fun σ H Q => tOp r ta tb σ H (tru X.K Q)) :=
  ⟨fun pins s σ H Q J h => wpAny_isTrue_Compare1 (thn (ha.run pins s σ H _ J h) fun v s1 ⟨x, H1, J1, r1, q1⟩ => thn (hb.run pins s1 σ H1 _ J1 q1) fun u s2 ⟨y, H2, J2, r2, q2⟩ =>
    thn (ho pins s2 σ H2 x y v u _ J2 r1 r2 q2) fun w s3 ⟨z, H3, J3, r3, q3⟩ => tru_ok pins s3 σ H3 z w Q J3 r3 q3) hm⟩
theorem pt_chainU {op op' : CmpOp} {r r' : R2} (ho : OpR X (compareOp op) r) (ho' : OpR X (compareOp op') r') (ha : PE X a ta) (hb : PE X b tb) (hc : PE X c tc)
    (hm : lastMarks [op, op'] [b, c] = false) : PT X (.Compare a [op, op'] [b, c] pos) (fun σ H Q => ta σ H fun x H1 => tb σ H1 fun y H2 => r x y H2 fun z H3 => ∃ k, z = .bl k ∧
      if k = true then tc σ H3 fun w H4 => r' y w H4 (tru X.K Q) else Q false H3) := by
  constructor
  intro pins s σ H Q J h
  refine isTrue_chain (thn (ha.run pins s σ H _ J h) fun v s1 ⟨x, H1, J1, r1, q1⟩ => test_link (thn (hb.run pins s1 σ H1 _ J1 q1) fun u s2 ⟨y, H2, J2, r2, q2⟩ =>
    thn (ho pins s2 σ H2 x y v u _ J2 r1 r2 q2) fun d s3 ⟨z, H3, J3, r3, k, e, q3⟩ => ?_)) hm
  subst e
  cases r3
  refine wpAny_truthy_bool ?_
  cases k with
  | false => exact ite_ff ⟨H3, J3, q3⟩
  | true => exact ite_tt (test_last (thn (hc.run pins s3 σ H3 _ J3 q3) fun w' s4 ⟨z2, H4, J4, r4, q4⟩ => thn (ho' pins s4 σ H4 y z2 u w' _ J4 r2 r4 q4) fun d2 s5 ⟨z5, H5, J5, r5, q5⟩ =>
      tru_ok pins s5 σ H5 z5 d2 Q J5 r5 q5))
end

section
variable {exc : Nat → Option Addr} {L : Lk} {t : Tab} {n : Dn} {C : Nm} {N : List Str} {sc : Scope} {X : Cx} {W : WX}
abbrev WpE := XD → Mn.Env → Hm → PD → Prop
theorem LE.seq {w wa : WpE} {σ : L2.St} {H : Hp} {Q : VK} {R : VK} (q : LE exc L W w σ H Q) {k : XD → Mn.Env → PD → PD} (hw : ∀ Xd r m P, w Xd r m P → wa Xd r m (k Xd r P))
    (hk : ∀ Xd r P x m v H1, REnv L.F H1 r σ → Rel L m H1 → XL exc L W H1 Xd → Kt L H1 P Q → k Xd r P x m → Rp L.F H1 x v → R v H1) : LE exc L W wa σ H R := by
  obtain ⟨r, m, P, Xd, re, rel, h, q, xl⟩ := q
  exact ⟨r, m, k Xd r P, Xd, re, rel, hw _ _ _ _ h, fun d m2 v H2 hp rv rel2 k2 => hk Xd r P d m2 v H2 (re.mono k2) rel2 (xl.mono k2) (q.mono k2) hp rv, xl⟩
theorem LE.go {wa : WpE} {σ : L2.St} {H : Hp} {R : VK} {Xd : XD} {r : Mn.Env} {m : Hm} {P : PD} (re : REnv L.F H r σ) (rel : Rel L m H) (xl : XL exc L W H Xd) (h : wa Xd r m P)
    (hk : ∀ d m2 v H2, P d m2 → Rp L.F H2 d v → Rel L m2 H2 → Kp H H2 → R v H2) : LE exc L W wa σ H R := ⟨r, m, P, Xd, re, rel, h, hk, xl⟩
/-- what a test wants -/
def Ktt (L : Lk) (H : Hp) (P : PD) (Q : Bool → Hp → Prop) : Prop := ∀ x m2 v H2, P x m2 → Rp L.F H2 x v → Rel L m2 H2 → Kp H H2 → ∃ b, truth m2 x = some b ∧ Q b H2
theorem Ktt.mono {H H2 : Hp} {P : PD} {Q : Bool → Hp → Prop} (q : Ktt L H P Q) (k : Kp H H2) : Ktt L H2 P Q := fun x m2 v H3 h r rel k3 => q x m2 v H3 h r rel (k.trans k3)
theorem Ktt.kt {H : Hp} {P : PD} {Q : Bool → Hp → Prop} (q : Ktt L H P Q) : Kt L H P (tru L.F Q) := fun d m v H2 h r rel k => let ⟨b, e, z⟩ := q d m v H2 h r rel k; ⟨b, truth_ok e r rel, z⟩
theorem LB.seq {w wa : WpE} {σ : L2.St} {H : Hp} {Q : Bool → Hp → Prop} {R : VK} (q : LB exc L W w σ H Q) {k : XD → Mn.Env → PD → PD} (hw : ∀ Xd r m P, w Xd r m P → wa Xd r m (k Xd r P))
    (hk : ∀ Xd r P x m v H1, REnv L.F H1 r σ → Rel L m H1 → XL exc L W H1 Xd → Ktt L H1 P Q → k Xd r P x m → Rp L.F H1 x v → R v H1) : LE exc L W wa σ H R := by
  obtain ⟨r, m, P, Xd, re, rel, h, q, xl⟩ := q
  exact ⟨r, m, k Xd r P, Xd, re, rel, hw _ _ _ _ h, fun d m2 v H2 hp rv rel2 k2 => hk Xd r P d m2 v H2 (re.mono k2) rel2 (xl.mono k2) (Ktt.mono q k2) hp rv, xl⟩
theorem pt_of (hk : X.K = L.F) {pe : Expr} {w : WpE} (h : PE X pe (LE exc L W w)) (he : ptp pe = true) : PT X pe (LB exc L W w) := by
  have h2 := pt_truth h (ptp_ok he X.env)
  rw [hk] at h2
  exact Mn.PT.weak h2 fun σ H Q ⟨r, m, P, Xd, re, rel, hw, q, xl⟩ => ⟨r, m, P, Xd, re, rel, hw, Ktt.kt q, xl⟩
/-- an expression: as a value, as a test -/
def OkE (exc : Nat → Option Addr) (L : Lk) (X : Cx) (W : WX) (w : WpE) (pe : Expr) : Prop := PE X pe (LE exc L W w) ∧ PT X pe (LB exc L W w)
theorem OkE.of (hk : X.K = L.F) {pe : Expr} {w : WpE} (he : ptp pe = true) (h : PE X pe (LE exc L W w)) : OkE exc L X W w pe := ⟨h, pt_of hk h he⟩
/-- an expression's term fits -/
def GoE (exc : Nat → Option Addr) (L : Lk) (t : Tab) (n : Dn) (C : Nm) (N : List Str) (e : E) : Prop := ∀ (sc : Scope) (X : Cx) (W : WX) (pe : Expr), mE C N e sc pe = true → Ctx exc L t n C N sc X → L2N.Takes X W → OkE exc L X W (wpE (sgh t n) e) pe
def GoO (exc : Nat → Option Addr) (L : Lk) (t : Tab) (n : Dn) (C : Nm) (N : List Str) (e : O) : Prop := ∀ (sc : Scope) (X : Cx) (W : WX) (pe : Option Expr), mO C N e sc pe = true → Ctx exc L t n C N sc X → L2N.Takes X W → PO X pe (LO exc L W (wpO (sgh t n) e))
structure OkEs (exc : Nat → Option Addr) (L : Lk) (X : Cx) (W : WX) (g : Sg) (es : Es) (ps : List Expr) : Prop where
  pa : PA X ps (LA exc L W (lenE es) (wpEs g es))
  len : ps.length = lenE es
  an : ps ≠ [] → ∀ pos, PE X (.BoolOp .And ps pos) (LE exc L W (wpAnd g es)) ∧ PW X (.BoolOp .And ps pos) (LB exc L W (wpAnd g es))
  or : ps ≠ [] → ∀ pos, PE X (.BoolOp .Or ps pos) (LE exc L W (wpOr g es)) ∧ PW X (.BoolOp .Or ps pos) (LB exc L W (wpOr g es))
def GoEs (exc : Nat → Option Addr) (L : Lk) (t : Tab) (n : Dn) (C : Nm) (N : List Str) (e : Es) : Prop := ∀ (sc : Scope) (X : Cx) (W : WX) (ps : List Expr), mEs C N e sc ps = true → Ctx exc L t n C N sc X → L2N.Takes X W → OkEs exc L X W (sgh t n) e ps
def GoI (exc : Nat → Option Addr) (L : Lk) (t : Tab) (n : Dn) (C : Nm) (N : List Str) (e : I) : Prop := ∀ (sc : Scope) (X : Cx) (W : WX) (tg pe : Expr), mI C N e sc tg pe = true → Ctx exc L t n C N sc X → L2N.Takes X W → PI X tg pe (LI exc L W (wpI (sgh t n) e))
section
variable (cx : Ctx exc L t n C N sc X)
include cx
theorem Ctx.k : X.K = L.F := cx.sta.k
theorem Ctx.vis {x : Str} (h : vis sc x = true) : Vis X.env.scope x := by
  rw [cx.sc]
  unfold Mn.vis at h
  split at h <;> first | exact .inl (by assumption) | exact .inr (.inl (by assumption)) | exact .inr (.inr (by assumption)) | cases h
theorem Ctx.gl {x : Str} (h : glb sc x = true) : Gl X x := by
  show X.env.scope.names.lookup x = _
  rw [cx.sc]
  unfold Mn.glb at h
  split at h
  · assumption
  · cases h
theorem Ctx.un : X.A.units + 65 < cLine := by have := cx.roomH.un; omega
end
theorem okx_d {x : Str} (h : okx x = true) : (x == ("__debug__" : Str)) = false ∧ (x == ("__classdict__" : Str)) = false := by
  unfold okx at h
  simpa only [Bool.and_eq_true, Bool.not_eq_true'] using h

/-! ### the constructors -/
theorem g_var (i : Nat) : GoE exc L t n C N (.var i) := fun sc X W pe hm cx tk => by
  simp only [mE] at hm
  split at hm
  · simp only [Bool.and_eq_true, decide_eq_true_eq] at hm
    obtain ⟨⟨h1, h2⟩, h3⟩ := hm
    refine .of cx.k rfl (PE.weak (pe_var (i := i) (by rw [cx.nn]; exact h1) (cx.vis h2) (okx_d h3).1 (okx_d h3).2) fun σ H Q ⟨r, m, P, Xd, re, rel, hw, q, xl⟩ => ?_)
    obtain ⟨d, hd, hp⟩ := (show ∃ d, vget r i = some d ∧ P d m from hw)
    obtain ⟨v, hv, rv⟩ := re.2 _ _ hd
    exact ⟨v, hv, q.here hp rv rel⟩
  · cases hm
theorem g_non : GoE exc L t n C N .non := fun sc X W pe hm cx tk => by
  simp only [mE] at hm
  split at hm
  · exact .of cx.k rfl (PE.weak pe_non fun σ H Q ⟨r, m, P, Xd, re, rel, hw, q, xl⟩ => q.here hw .non rel)
  · cases hm
theorem g_bl (b : Bool) : GoE exc L t n C N (.bl b) := fun sc X W pe hm cx tk => by
  simp only [mE] at hm
  split at hm
  · rw [beq_iff_eq] at hm
    subst hm
    exact .of cx.k rfl (PE.weak pe_bl fun σ H Q ⟨r, m, P, Xd, re, rel, hw, q, xl⟩ => q.here hw (.bl _) rel)
  · cases hm
theorem g_num (i : Int) : GoE exc L t n C N (.num i) := fun sc X W pe hm cx tk => by
  simp only [mE] at hm
  split at hm
  · rw [decide_eq_true_eq] at hm
    subst hm
    exact .of cx.k rfl (PE.weak pe_int fun σ H Q ⟨r, m, P, Xd, re, rel, hw, q, xl⟩ => q.here hw (.int _) rel)
  · cases hm
theorem g_txt (s : List Nat) : GoE exc L t n C N (.txt s) := fun sc X W pe hm cx tk => by
  simp only [mE] at hm
  split at hm
  · rw [decide_eq_true_eq] at hm
    subst hm
    exact .of cx.k rfl (PE.weak pe_str fun σ H Q ⟨r, m, P, Xd, re, rel, hw, q, xl⟩ => q.here hw (.str _) rel)
  · cases hm
theorem g_glob (k : Nat) (d : D) : GoE exc L t n C N (.glob k d) := fun sc X W pe hm cx tk => by
  simp only [mE] at hm
  split at hm
  · simp only [Bool.and_eq_true, decide_eq_true_eq] at hm
    obtain ⟨⟨⟨h1, h2⟩, h3⟩, h4⟩ := hm
    obtain ⟨v, u, hu, rv, hr⟩ := cx.sta.con k d h4
    rw [h1] at hu
    exact .of cx.k rfl (PE.weak (pe_glob (cx.gl h2) hu rv (okx_d h3).1) fun σ H Q ⟨r, m, P, Xd, re, rel, hw, q, xl⟩ => q.here hw (hr H) rel)
  · cases hm
theorem g_bin {a b : E} (op : Bop) (ga : GoE exc L t n C N a) (gb : GoE exc L t n C N b) : GoE exc L t n C N (.bin op a b) := fun sc X W pe hm cx tk => by
  simp only [mE] at hm
  split at hm
  · simp only [Bool.and_eq_true, decide_eq_true_eq] at hm
    obtain ⟨⟨h1, h2⟩, h3⟩ := hm
    subst h1
    have h := pe_op (pos := ‹Pos›) (binS op) (ga _ _ _ _ h2 cx tk).1 (gb _ _ _ _ h3 cx tk).1
    rw [cx.k] at h
    refine .of cx.k rfl (PE.weak h fun σ H Q q => q.seq (k := fun Xd r P x m1 => wpE (sgh t n) b Xd r m1 fun y m2 => binW op x y m2 P) (fun _ _ _ _ h => h) fun Xd r P x m1 v H1 re rel xl q h rv =>
      .go re rel xl h fun y m2 u H2 h2 ru rel2 k2 => bin_ok h2 (rv.mono k2) ru rel2 (q.mono k2))
  · cases hm
theorem g_neg {a : E} (ga : GoE exc L t n C N a) : GoE exc L t n C N (.neg a) := fun sc X W pe hm cx tk => by
  simp only [mE] at hm
  split at hm
  · refine .of cx.k rfl (PE.weak (pe_un un_neg (ga _ _ _ _ hm cx tk).1) fun σ H Q q => q.seq (k := fun Xd r P x m1 => match x with | .int i => P (.int (-i)) m1 | _ => False) (fun _ _ _ _ h => h) fun Xd r P x m1 v H1 re rel xl q h rv => ?_)
    cases rv <;> first | exact ⟨_, rfl, q.here h (.int _) rel⟩ | exact h.elim
  · cases hm
theorem g_cmp {a b : E} (op : Cop) (ga : GoE exc L t n C N a) (gb : GoE exc L t n C N b) : GoE exc L t n C N (.cmp op a b) := fun sc X W pe hm cx tk => by
  simp only [mE] at hm
  split at hm
  · simp only [Bool.and_eq_true, decide_eq_true_eq] at hm
    obtain ⟨⟨⟨h1, h2⟩, h3⟩, h4⟩ := hm
    subst h1
    have h := pe_cmpR (pos := ‹Pos›) (cmpS cx.k cx.sta.w cx.un op) (ga _ _ _ _ h3 cx tk).1 (gb _ _ _ _ h4 cx tk).1 (mark_ok h2 _)
    have g := pt_cmpU (pos := ‹Pos›) (cmpS cx.k cx.sta.w cx.un op) (ga _ _ _ _ h3 cx tk).1 (gb _ _ _ _ h4 cx tk).1 (mark_ok h2 _)
    rw [cx.k] at g
    refine ⟨PE.weak h fun σ H Q q => q.seq (k := fun Xd r P x m1 => wpE (sgh t n) b Xd r m1 fun y m2 => cmpW op x y m2 P) (fun _ _ _ _ h => h) fun Xd r P x m1 v H1 re rel xl q h rv =>
      .go re rel xl h fun y m2 u H2 h2 ru rel2 k2 => cmp_ok h2 (rv.mono k2) ru rel2 (q.mono k2), PT.weak g fun σ H Q q => ?_⟩
    exact q.seq (k := fun Xd r P x m1 => wpE (sgh t n) b Xd r m1 fun y m2 => cmpW op x y m2 P) (fun _ _ _ _ h => h) fun Xd r P x m1 v H1 re rel xl q h rv =>
      .go re rel xl h fun y m2 u H2 h2 ru rel2 k2 => cmp_ok h2 (rv.mono k2) ru rel2 (Ktt.kt q |>.mono k2)
  · cases hm
theorem g_cmp2 {a b c : E} (op op2 : Cop) (ga : GoE exc L t n C N a) (gb : GoE exc L t n C N b) (gc : GoE exc L t n C N c) : GoE exc L t n C N (.cmp2 op op2 a b c) := fun sc X W pe hm cx tk => by
  simp only [mE] at hm
  split at hm
  · simp only [Bool.and_eq_true, decide_eq_true_eq] at hm
    obtain ⟨⟨⟨⟨⟨⟨h1, h2⟩, h3⟩, h4⟩, h5⟩, h6⟩, h7⟩ := hm
    subst h1 h2
    have lm : ∀ x y : Expr, noset y = true → lastMarks [copO op, copO op2] [x, y] = false := fun x y hy => by
      show behindInMarks (copO op2) y = false
      exact mark_ok hy _
    have h := pe_chain (pos := ‹Pos›) (cmpS cx.k cx.sta.w cx.un op) (cmpS cx.k cx.sta.w cx.un op2) (ga _ _ _ _ h5 cx tk).1 (gb _ _ _ _ h6 cx tk).1 (gc _ _ _ _ h7 cx tk).1 (lm _ _ h4)
    have g := pt_chainU (pos := ‹Pos›) (cmpS cx.k cx.sta.w cx.un op) (cmpS cx.k cx.sta.w cx.un op2) (ga _ _ _ _ h5 cx tk).1 (gb _ _ _ _ h6 cx tk).1 (gc _ _ _ _ h7 cx tk).1 (lm _ _ h4)
    rw [cx.k] at g
    refine ⟨PE.weak h fun σ H Q q => ?_, PT.weak g fun σ H Q q => ?_⟩
    · refine q.seq (k := fun Xd r P x m1 => wpE (sgh t n) b Xd r m1 fun y m2 => cmpW op x y m2 fun z m3 => match z with
        | .bl k => if k = true then wpE (sgh t n) c Xd r m3 fun w m4 => cmpW op2 y w m4 P else P (.bl false) m3
        | _ => False) (fun _ _ _ _ h => h) fun Xd r P x m1 v H1 re rel xl q h rv =>
        .go re rel xl h fun y m2 u H2 h2 ru rel2 k2 => cmp_ok h2 (rv.mono k2) ru rel2 fun z m3 w H3 h3 rw_ rel3 k3 => ?_
      cases rw_ with
      | bl k =>
        refine ⟨k, rfl, ?_⟩
        cases k with
        | true => exact .go (re.mono (k2.trans k3)) rel3 (xl.mono (k2.trans k3)) h3 fun y2 m4 u2 H4 h4 ru2 rel4 k4 => cmp_ok h4 (ru.mono (k3.trans k4)) ru2 rel4 (q.mono (k2.trans (k3.trans k4)))
        | false => exact (q.mono (k2.trans k3)).here h3 (.bl false) rel3
      | _ => exact h3.elim
    · refine q.seq (k := fun Xd r P x m1 => wpE (sgh t n) b Xd r m1 fun y m2 => cmpW op x y m2 fun z m3 => match z with
        | .bl k => if k = true then wpE (sgh t n) c Xd r m3 fun w m4 => cmpW op2 y w m4 P else P (.bl false) m3
        | _ => False) (fun _ _ _ _ h => h) fun Xd r P x m1 v H1 re rel xl q h rv =>
        .go re rel xl h fun y m2 u H2 h2 ru rel2 k2 => cmp_ok h2 (rv.mono k2) ru rel2 fun z m3 w H3 h3 rw_ rel3 k3 => ?_
      cases rw_ with
      | bl k =>
        refine ⟨k, rfl, ?_⟩
        cases k with
        | true => exact .go (re.mono (k2.trans k3)) rel3 (xl.mono (k2.trans k3)) h3 fun y2 m4 u2 H4 h4 ru2 rel4 k4 => cmp_ok h4 (ru.mono (k3.trans k4)) ru2 rel4 ((Ktt.kt q).mono (k2.trans (k3.trans k4)))
        | false =>
          obtain ⟨b, e, z⟩ := (q.mono (k2.trans k3)) _ _ _ _ h3 (.bl false) rel3 (.refl _)
          cases e
          exact z
      | _ => exact h3.elim
  · cases hm
end
end Mn
end

section
set_option Elab.async false
set_option linter.all false
set_option maxRecDepth 100000
set_option maxHeartbeats 4000000
/-! Mn, part J: the other expressions, argument lists, what is walked. -/
namespace Mn
open PySem PySem.Spec PyProof.Rows L2 RZ
section
variable {exc : Nat → Option Addr} {L : Lk} {t : Tab} {n : Dn} {C : Nm} {N : List Str} {sc : Scope} {X : Cx} {W : WX}
abbrev WpEs := XD → Mn.Env → Hm → (List D → Hm → Prop) → Prop
theorem PE.nev {e : Expr} : PE X e (fun _ _ _ => False) := ⟨fun _ _ _ _ _ _ h => h.elim⟩
theorem LA.go {k : Nat} {wa : WpEs} {σ : L2.St} {H : Hp} {R : List V → Hp → Prop} {Xd : XD} {r : Mn.Env} {m : Hm} {P : List D → Hm → Prop} (re : REnv L.F H r σ) (rel : Rel L m H) (xl : XL exc L W H Xd) (h : wa Xd r m P)
    (hk : ∀ xs m2 vs H2, P xs m2 → Rps L.F H2 xs vs → Rel L m2 H2 → Kp H H2 → R vs H2) : LA exc L W k wa σ H R := ⟨r, m, P, Xd, re, rel, h, fun xs m2 vs H2 _ hp rs rel2 k2 => hk xs m2 vs H2 hp rs rel2 k2, xl⟩
theorem LE.args {k : Nat} {w : WpE} {wa : WpEs} {σ : L2.St} {H : Hp} {Q : VK} {R : List V → Hp → Prop} (q : LE exc L W w σ H Q) {kk : XD → Mn.Env → PD → List D → Hm → Prop} (hw : ∀ Xd r m P, w Xd r m P → wa Xd r m (kk Xd r P))
    (hk : ∀ Xd r P xs m vs H1, xs.length = k → REnv L.F H1 r σ → Rel L m H1 → XL exc L W H1 Xd → Kt L H1 P Q → kk Xd r P xs m → Rps L.F H1 xs vs → R vs H1) : LA exc L W k wa σ H R := by
  obtain ⟨r, m, P, Xd, re, rel, h, q, xl⟩ := q
  exact ⟨r, m, kk Xd r P, Xd, re, rel, hw _ _ _ _ h, fun d m2 v H2 hl hp rv rel2 k2 => hk Xd r P d m2 v H2 hl (re.mono k2) rel2 (xl.mono k2) (q.mono k2) hp rv, xl⟩

/-! ### argument lists, and, or -/
theorem g_nil : GoEs exc L t n C N .nil := fun sc X W ps hm cx tk => by
  cases ps with
  | nil =>
    exact ⟨PA.weak pa_nil fun σ H Q ⟨r, m, P, Xd, re, rel, hw, q, xl⟩ => q [] m [] H rfl hw .nil rel (.refl H), rfl, fun z => absurd rfl z, fun z => absurd rfl z⟩
  | cons _ _ => simp [mEs] at hm
theorem g_cons {e : E} {es : Es} (ge : GoE exc L t n C N e) (gs : GoEs exc L t n C N es) : GoEs exc L t n C N (.cons e es) := fun sc X W ps hm cx tk => by
  cases ps with
  | nil => simp [mEs] at hm
  | cons p ps =>
    simp only [mEs, Bool.and_eq_true] at hm
    have h1 := ge _ _ _ _ hm.1 cx tk
    have h2 := gs _ _ _ _ hm.2 cx tk
    have hst : starEach (p :: ps) X.env = (false, eval p X.env) :: starEach ps X.env ∨ ∃ a b, p = .Starred a b := by
      cases p <;> first | exact .inl rfl | exact .inr ⟨_, _, rfl⟩
    have hns : starEach (p :: ps) X.env = (false, eval p X.env) :: starEach ps X.env := by
      rcases hst with h | ⟨a, b, rfl⟩
      · exact h
      · have := hm.1
        cases e <;> simp [mE] at this
    refine ⟨PA.weak (pa_cons h1.1 h2.pa hns) fun σ H Q ⟨r, m, P, Xd, re, rel, hw, q, xl⟩ => ?_, by simp only [List.length_cons, lenE, h2.len], fun _ pos => ?_, fun _ pos => ?_⟩
    · exact .go re rel xl (show wpE (sgh t n) e Xd r m fun d m1 => wpEs (sgh t n) es Xd r m1 fun ds m2 => P (d :: ds) m2 from hw) fun d m2 v H2 hp rv rel2 k2 =>
        ⟨r, m2, _, Xd, re.mono k2, rel2, hp, fun xs m3 vs H3 hl hp3 rs rel3 k3 => q (d :: xs) m3 (v :: vs) H3 (by simp only [List.length_cons, lenE, hl]) hp3 (.cons (rv.mono k3) rs) rel3 (k2.trans k3), xl.mono k2⟩
    · cases ps with
      | nil =>
        cases es with
        | cons _ _ => simp [mEs] at hm
        | nil => exact ⟨PE.weak (pe_one h1.1) fun σ H Q q => q, PW.weak (pw_and1 h1.2) fun σ H Q q => q⟩
      | cons p2 ps =>
        cases es with
        | nil => simp [mEs] at hm
        | cons e2 es =>
          have h3 := h2.an (by simp) pos
          have g := pe_andU (pos := pos) h1.1 h3.1
          rw [cx.k] at g
          refine ⟨PE.weak g fun σ H Q q => q.seq (k := fun Xd r P x m1 => ∃ b, truth m1 x = some b ∧ if b = true then wpAnd (sgh t n) (.cons e2 es) Xd r m1 P else P x m1) (fun _ _ _ _ h => h) fun Xd r P x m1 v H1 re rel xl q ⟨b, hb, h⟩ rv => ⟨b, truth_ok hb rv rel, ?_⟩,
            PW.weak (pw_and h1.2 h3.2) fun σ H Q ⟨r, m, P, Xd, re, rel, hw, q, xl⟩ => ?_⟩
          · cases b with
            | true => exact ⟨r, m1, P, Xd, re, rel, h, q, xl⟩
            | false => exact q.here h rv rel
          · refine ⟨r, m, fun x m1 => ∃ b, truth m1 x = some b ∧ if b = true then wpAnd (sgh t n) (.cons e2 es) Xd r m1 P else P x m1, Xd, re, rel, hw, fun x m2 v H2 ⟨b, hb, h⟩ rv rel2 k2 => ⟨b, hb, ?_⟩, xl⟩
            cases b with
            | true => exact ⟨r, m2, P, Xd, re.mono k2, rel2, h, Ktt.mono q k2, xl.mono k2⟩
            | false =>
              obtain ⟨b2, e3, z⟩ := q x m2 v H2 h rv rel2 k2
              rw [hb] at e3
              cases e3
              exact z
    · cases ps with
      | nil =>
        cases es with
        | cons _ _ => simp [mEs] at hm
        | nil => exact ⟨PE.weak (pe_one h1.1) fun σ H Q q => q, PW.weak (pw_or1 h1.2) fun σ H Q q => q⟩
      | cons p2 ps =>
        cases es with
        | nil => simp [mEs] at hm
        | cons e2 es =>
          have h3 := h2.or (by simp) pos
          have g := pe_orU (pos := pos) h1.1 h3.1
          rw [cx.k] at g
          refine ⟨PE.weak g fun σ H Q q => q.seq (k := fun Xd r P x m1 => ∃ b, truth m1 x = some b ∧ if b = true then P x m1 else wpOr (sgh t n) (.cons e2 es) Xd r m1 P) (fun _ _ _ _ h => h) fun Xd r P x m1 v H1 re rel xl q ⟨b, hb, h⟩ rv => ⟨b, truth_ok hb rv rel, ?_⟩,
            PW.weak (pw_or h1.2 h3.2) fun σ H Q ⟨r, m, P, Xd, re, rel, hw, q, xl⟩ => ?_⟩
          · cases b with
            | false => exact ⟨r, m1, P, Xd, re, rel, h, q, xl⟩
            | true => exact q.here h rv rel
          · refine ⟨r, m, fun x m1 => ∃ b, truth m1 x = some b ∧ if b = true then P x m1 else wpOr (sgh t n) (.cons e2 es) Xd r m1 P, Xd, re, rel, hw, fun x m2 v H2 ⟨b, hb, h⟩ rv rel2 k2 => ⟨b, hb, ?_⟩, xl⟩
            cases b with
            | false => exact ⟨r, m2, P, Xd, re.mono k2, rel2, h, Ktt.mono q k2, xl.mono k2⟩
            | true =>
              obtain ⟨b2, e3, z⟩ := q x m2 v H2 h rv rel2 k2
              rw [hb] at e3
              cases e3
              exact z
theorem g_and {es : Es} (gs : GoEs exc L t n C N es) : GoE exc L t n C N (.and_ es) := fun sc X W pe hm cx tk => by
  simp only [mE] at hm
  split at hm
  · rename_i vs _
    cases vs with
    | nil => 
      have := gs _ _ _ _ hm cx tk
      have h0 := this.len
      cases es with
      | nil => exact ⟨PE.weak PE.nev fun σ H Q ⟨r, m, P, Xd, re, rel, hw, q, xl⟩ => hw, ⟨fun _ _ _ _ _ _ ⟨r, m, P, Xd, re, rel, hw, q, xl⟩ => False.elim hw⟩⟩
      | cons _ _ => simp [lenE] at h0
    | cons v vs =>
      have h := (gs _ _ _ _ hm cx tk).an (by simp) ‹Pos›
      exact ⟨h.1, h.2.pt⟩
  · cases hm
theorem g_or {es : Es} (gs : GoEs exc L t n C N es) : GoE exc L t n C N (.or_ es) := fun sc X W pe hm cx tk => by
  simp only [mE] at hm
  split at hm
  · rename_i vs _
    cases vs with
    | nil => 
      have := gs _ _ _ _ hm cx tk
      have h0 := this.len
      cases es with
      | nil => exact ⟨PE.weak PE.nev fun σ H Q ⟨r, m, P, Xd, re, rel, hw, q, xl⟩ => hw, ⟨fun _ _ _ _ _ _ ⟨r, m, P, Xd, re, rel, hw, q, xl⟩ => False.elim hw⟩⟩
      | cons _ _ => simp [lenE] at h0
    | cons v vs =>
      have h := (gs _ _ _ _ hm cx tk).or (by simp) ‹Pos›
      exact ⟨h.1, h.2.pt⟩
  · cases hm
theorem g_not {a : E} (ga : GoE exc L t n C N a) : GoE exc L t n C N (.not_ a) := fun sc X W pe hm cx tk => by
  simp only [mE] at hm
  split at hm
  · have h := ga _ _ _ _ hm cx tk
    have g := pe_notU (pos := ‹Pos›) h.1
    rw [cx.k] at g
    refine ⟨PE.weak g fun σ H Q q => q.seq (k := fun Xd r P x m1 => ∃ b, truth m1 x = some b ∧ P (.bl (!b)) m1) (fun _ _ _ _ h => h) fun Xd r P x m1 v H1 re rel xl q ⟨b, hb, h⟩ rv => ⟨b, truth_ok hb rv rel, q.here h (.bl _) rel⟩,
      PT.weak (pt_not h.2) fun σ H Q ⟨r, m, P, Xd, re, rel, hw, q, xl⟩ => ⟨r, m, fun x m1 => ∃ b, truth m1 x = some b ∧ P (.bl (!b)) m1, Xd, re, rel, hw, fun x m2 v H2 ⟨b, hb, h⟩ rv rel2 k2 => ⟨b, hb, ?_⟩, xl⟩⟩
    obtain ⟨b2, e, z⟩ := q (.bl (!b)) m2 (.bl (!b)) H2 h (.bl _) rel2 k2
    cases e
    exact z
  · cases hm
theorem g_ifx {c a b : E} (gc : GoE exc L t n C N c) (ga : GoE exc L t n C N a) (gb : GoE exc L t n C N b) : GoE exc L t n C N (.ifx c a b) := fun sc X W pe hm cx tk => by
  simp only [mE] at hm
  split at hm
  · simp only [Bool.and_eq_true] at hm
    obtain ⟨⟨h1, h2⟩, h3⟩ := hm
    have hc := gc _ _ _ _ h1 cx tk
    have ha := ga _ _ _ _ h2 cx tk
    have hb := gb _ _ _ _ h3 cx tk
    refine ⟨PE.weak (pe_ifExp hc.2 ha.1 hb.1) fun σ H Q ⟨r, m, P, Xd, re, rel, hw, q, xl⟩ => ⟨r, m, fun x m1 => ∃ k, truth m1 x = some k ∧ if k = true then wpE (sgh t n) a Xd r m1 P else wpE (sgh t n) b Xd r m1 P, Xd, re, rel, hw, fun x m2 v H2 ⟨k, hk, h⟩ rv rel2 k2 => ⟨k, hk, ?_⟩, xl⟩,
      PT.weak (pt_ifU hc.2 ha.2 hb.2) fun σ H Q ⟨r, m, P, Xd, re, rel, hw, q, xl⟩ => ⟨r, m, fun x m1 => ∃ k, truth m1 x = some k ∧ if k = true then wpE (sgh t n) a Xd r m1 P else wpE (sgh t n) b Xd r m1 P, Xd, re, rel, hw, fun x m2 v H2 ⟨k, hk, h⟩ rv rel2 k2 => ⟨k, hk, ?_⟩, xl⟩⟩
    · cases k with
      | true => exact ⟨r, m2, P, Xd, re.mono k2, rel2, h, q.mono k2, xl.mono k2⟩
      | false => exact ⟨r, m2, P, Xd, re.mono k2, rel2, h, q.mono k2, xl.mono k2⟩
    · cases k with
      | true => exact ⟨r, m2, P, Xd, re.mono k2, rel2, h, Ktt.mono q k2, xl.mono k2⟩
      | false => exact ⟨r, m2, P, Xd, re.mono k2, rel2, h, Ktt.mono q k2, xl.mono k2⟩
  · cases hm

/-! ### displays, subscripts -/
theorem lenSz : (10000 : Nat) ≤ sizeLine := by rw [sizeLine_eq]; decide
theorem g_tup {es : Es} (gs : GoEs exc L t n C N es) : GoE exc L t n C N (.tup es) := fun sc X W pe hm cx tk => by
  simp only [mE] at hm
  split at hm
  · simp only [Bool.and_eq_true, decide_eq_true_eq] at hm
    obtain ⟨⟨_, h1⟩, h2⟩ := hm
    refine .of cx.k rfl (PE.weak (pe_tupZ (gs _ _ _ _ h2 cx tk).pa) fun σ H Q q => q.args (kk := fun Xd r P ds m1 => P (.tup ds) m1) (fun _ _ _ _ h => h) fun Xd r P xs m1 vs H1 hl re rel xl q h rv => ⟨?_, q.tup h rv rel⟩)
    rw [← rv.length, hl]
    exact Nat.le_trans h1 lenSz
  · cases hm
theorem g_lst {es : Es} (gs : GoEs exc L t n C N es) : GoE exc L t n C N (.lst es) := fun sc X W pe hm cx tk => by
  simp only [mE] at hm
  split at hm
  · simp only [Bool.and_eq_true, decide_eq_true_eq] at hm
    obtain ⟨⟨_, h1⟩, h2⟩ := hm
    refine .of cx.k rfl (PE.weak (pe_lst (gs _ _ _ _ h2 cx tk).pa) fun σ H Q q => q.args (kk := fun Xd r P ds m1 => newO m1 (.lst ds) P) (fun _ _ _ _ h => h) fun Xd r P xs m1 vs H1 hl re rel xl q h rv => ⟨?_, fun p hp => q.lst h rv rel hp⟩)
    rw [← rv.length, hl]
    exact Nat.le_trans h1 lenSz
  · cases hm
theorem g_dctK : GoE exc L t n C N .dctK := fun sc X W pe hm cx tk => by
  simp only [mE] at hm
  split at hm
  · exact .of cx.k rfl (PE.weak pe_dnewK fun σ H Q ⟨r, m, P, Xd, re, rel, hw, q, xl⟩ => fun p hp =>
      q _ _ _ _ ((show newO m (.dK []) P from hw) p (rel.free hp)) (.ref p) (rel.put (.new hp) ⟨[], upd_same, .nil⟩) (.new hp))
  · cases hm
theorem unl_take {α : Type} [DecidableEq α] (l : List α) (d : α) : ∀ i, i ≤ l.length → unl (fun j => l.getD j d) i = unlL (l.take i)
  | 0, _ => rfl
  | i + 1, hi => by
    have ih := unl_take l d i (by omega)
    have e : l.take (i + 1) = l.take i ++ [l.getD i d] := by
      rw [List.take_succ, List.getD_eq_getElem?_getD, List.getElem?_eq_getElem (show i < l.length by omega)]
      rfl
    unfold unl
    rw [ih, e]
    unfold unlL
    rw [List.foldl_append]
    rfl
theorem unl_all {α : Type} [DecidableEq α] (l : List α) (d : α) : unl (fun j => l.getD j d) l.length = unlL l := by
  have h := unl_take l d l.length (Nat.le_refl _)
  rwa [List.take_length] at h
theorem unl_map {α β : Type} [DecidableEq α] [DecidableEq β] {f : α → β} (hf : ∀ a b, f a = f b → a = b) (l : List α) : unlL (l.map f) = (unlL l).map f := by
  have key : ∀ (l acc : List α), (l.map f).foldl (fun acc x => if x ∈ acc then acc else acc ++ [x]) (acc.map f) = (l.foldl (fun acc x => if x ∈ acc then acc else acc ++ [x]) acc).map f := by
    intro l
    induction l with
    | nil => intro acc; rfl
    | cons x l ih =>
      intro acc
      rw [List.map_cons, List.foldl_cons, List.foldl_cons]
      have e : f x ∈ acc.map f ↔ x ∈ acc := by
        constructor
        · intro h
          obtain ⟨y, hy, e⟩ := List.mem_map.mp h
          rw [← hf _ _ e]; exact hy
        · exact fun h => List.mem_map.mpr ⟨x, h, rfl⟩
      by_cases h : x ∈ acc
      · rw [if_pos h, if_pos (e.mpr h), ih]
      · rw [if_neg h, if_neg fun z => h (e.mp z), ← ih, List.map_append]
        rfl
  exact key l []
theorem kys_ok {L : Lk} {H : Hp} : ∀ {ds : List D} {vs : List V} {ks : List Ky}, kysOf ds = some ks → Rps L.F H ds vs → vs = (ks.map kyV).map kV
  | [], _, ks, e, .nil => by simp [kysOf] at e; subst e; rfl
  | d :: ds, _, ks, e, .cons a b => by
    simp only [kysOf] at e
    split at e
    · rename_i k r e1 e2
      cases e
      rw [kys_ok e2 b]
      rw [ky_rp (L := L) e1 a]
      rfl
    · cases e
theorem g_lenS {a : E} (ga : GoE exc L t n C N a) : GoE exc L t n C N (.lenS a) := fun sc X W pe hm cx tk => by
  simp only [mE] at hm
  split at hm
  · simp only [Bool.and_eq_true, decide_eq_true_eq] at hm
    obtain ⟨⟨⟨⟨⟨⟨hc0, h1⟩, h2⟩, h3⟩, h4⟩, h5⟩, h6⟩ := hm
    subst h1 h3
    have hh := cx.cold hc0
    have h := fun p1 p2 p3 p4 : Pos => pe_lenK (p := p1) (p2 := p2) (q := p3) (pos := p4) (cx.gl h2) (cx.sta.blt _ (by decide +kernel)) (cx.gl h4) (cx.sta.blt _ (by decide +kernel)) (ga _ _ _ _ h6 cx tk).1 (cx.calm hh) (star_ok h5 _ _)
    rw [cx.k] at h
    refine .of cx.k rfl (PE.weak (h _ _ _ _) fun σ H Q q => q.seq (k := fun Xd r P x m1 => match x with
      | .ref a => ∃ ds ks, m1 a = some (.lst ds) ∧ kysOf ds = some ks ∧ ks.length ≤ 4000 ∧ P (.int ((unlL ks).length : Nat)) m1
      | _ => False) (fun _ _ _ _ h => h) fun Xd r P x m1 v H1 re rel xl q h rv => ?_)
    cases rv with
    | ref a =>
      obtain ⟨ds, ks, e1, e2, e3, hp⟩ := h
      obtain ⟨ws, k1, k2, _⟩ := lst_of e1 rel
      have e4 := kys_ok e2 k2
      subst e4
      refine ⟨a, ks.map kyV, rfl, k1, by rw [List.length_map]; exact e3, ?_⟩
      rw [unl_all, unl_map (fun _ _ => kyV_inj), List.length_map]
      exact q.here hp (.int _) rel
    | _ => exact h.elim
  · cases hm
theorem g_idx {a b : E} (ga : GoE exc L t n C N a) (gb : GoE exc L t n C N b) : GoE exc L t n C N (.idx a b) := fun sc X W pe hm cx tk => by
  simp only [mE] at hm
  split at hm
  · simp only [Bool.and_eq_true] at hm
    obtain ⟨⟨h1, h2⟩, h3⟩ := hm
    have h := pe_ix (pos := ‹Pos›) (ixS cx.k cx.sta.w cx.un) (ga _ _ _ _ h2 cx tk).1 (gb _ _ _ _ h3 cx tk).1 (plain_ix h1)
    refine .of cx.k rfl (PE.weak h fun σ H Q q => q.seq (k := fun Xd r P x m1 => wpE (sgh t n) b Xd r m1 fun y m2 => ixW x y m2 P) (fun _ _ _ _ h => h) fun Xd r P x m1 v H1 re rel xl q h rv =>
      .go re rel xl h fun y m2 u H2 h2 ru rel2 k2 => ix_ok h2 (rv.mono k2) ru rel2 (q.mono k2))
  · cases hm
theorem g_no : GoO exc L t n C N .no := fun sc X W pe hm cx tk => by
  cases pe with
  | none => exact PO.weak po_none fun σ H Q ⟨r, m, P, Xd, re, rel, hw, q, xl⟩ => q none m H hw rel (.refl H)
  | some _ => simp [mO] at hm
theorem g_yes {e : E} (ge : GoE exc L t n C N e) : GoO exc L t n C N (.yes e) := fun sc X W pe hm cx tk => by
  cases pe with
  | none => simp [mO] at hm
  | some p =>
    simp only [mO] at hm
    refine PO.weak (po_some (ge _ _ _ _ hm cx tk).1) fun σ H Q ⟨r, m, P, Xd, re, rel, hw, q, xl⟩ => .go re rel xl (show wpE (sgh t n) e Xd r m fun x m1 => match x with | .int i => P (some i) m1 | _ => False from hw) fun d m2 v H2 hp rv rel2 k2 => ?_
    cases rv <;> first | exact ⟨_, rfl, q _ _ _ hp rel2 k2⟩ | exact hp.elim
theorem g_slc {a : E} {lo hi : O} (ga : GoE exc L t n C N a) (gl : GoO exc L t n C N lo) (gh : GoO exc L t n C N hi) : GoE exc L t n C N (.slc a lo hi) := fun sc X W pe hm cx tk => by
  simp only [mE] at hm
  split at hm
  · simp only [Bool.and_eq_true] at hm
    obtain ⟨⟨h1, h2⟩, h3⟩ := hm
    rename_i pa pl ph p1 p2
    have h := pe_slice (pos := p2) (p2 := p1) slS (ga _ _ _ _ h1 cx tk).1 (gl _ _ _ _ h2 cx tk) (gh _ _ _ _ h3 cx tk)
    rw [cx.k] at h
    refine .of cx.k rfl (PE.weak h fun σ H Q q => q.seq (k := fun Xd r P x m1 => wpO (sgh t n) lo Xd r m1 fun l m2 => wpO (sgh t n) hi Xd r m2 fun h m3 => slW x l h m3 P) (fun _ _ _ _ h => h) fun Xd r P x m1 v H1 re rel xl q h rv =>
      ⟨r, m1, _, Xd, re, rel, h, fun l m2 H2 h2 rel2 k2 => ⟨r, m2, _, Xd, re.mono k2, rel2, h2, fun u m3 H3 h3 rel3 k3 => sl_ok h3 (rv.mono (k2.trans k3)) rel3 (q.mono (k2.trans k3)), xl.mono k2⟩, xl⟩)
  · cases hm
theorem g_rev {a : E} (ga : GoE exc L t n C N a) : GoE exc L t n C N (.rev a) := fun sc X W pe hm cx tk => by
  simp only [mE] at hm
  split at hm
  · rename_i k p1 p2 p3 p4
    have h := pe_back (k := k) (p1 := p1) (p2 := p2) (p3 := p3) (pos := p4) (ga _ _ _ _ hm cx tk).1
    rw [cx.k] at h
    refine .of cx.k rfl (PE.weak h fun σ H Q q => q.seq (k := fun Xd r P x m1 => revW x m1 P) (fun _ _ _ _ h => h) fun Xd r P x m1 v H1 re rel xl q h rv => ?_)
    cases rv with
    | ref a =>
      have h : (match getL m1 a with | some xs => newO m1 (.lst xs.reverse) P | none => False) := h
      split at h
      · rename_i xs e
        obtain ⟨ws, h1, h2, h3⟩ := lst_of (getL_of e) rel
        exact .inl ⟨a, ws, rfl, h1, fun p hp => q.lst h h2.reverse rel hp⟩
      · exact h.elim
    | @tup ds a vs sq rs =>
      have h : P (.tup ds.reverse) m1 := h
      exact .inr ⟨a, vs, rfl, sq.sq, q.tup h rs.reverse rel⟩
    | _ => exact h.elim
  · cases hm
end
end Mn
end

section
set_option Elab.async false
set_option linter.all false
set_option maxRecDepth 100000
set_option maxHeartbeats 4000000
/-! Mn, part K: calls, fields, what is walked, comprehensions, all expressions. -/
namespace Mn
open PySem PySem.Spec PyProof.Rows L2 RZ
section
variable {exc : Nat → Option Addr} {L : Lk} {t : Tab} {n : Dn} {C : Nm} {N : List Str} {sc : Scope} {X : Cx} {W : WX}
theorem PE.nev2 {e : Expr} {t : TE} (h : ∀ σ H Q, ¬ t σ H Q) : PE X e t := ⟨fun _ _ σ H Q _ q => (h σ H Q q).elim⟩
theorem sp_of {c f : Nat} {ds : List D} {vs : List V} {m : Hm} {H : Hp} {P : PD} {Q : VK} {Xd : XD} {r : Mn.Env} {σ : L2.St} (re : REnv L.F H r σ) (xl : XL exc L W H Xd) (rs : Rps L.F H ds vs) (rel : Rel L m H) (h : callD t n c f ds m P fun c m2 => Xd c r m2) (q : Kt L H P Q) :
    spOf exc L t n c f vs H Q (WE W σ) :=
  ⟨ds, m, P, fun c m2 => Xd c r m2, rs, rel, h, q, fun k m2 Ca H2 hx he rel2 k2 => xl k r m2 Ca H2 σ hx he (re.mono k2) rel2 k2⟩
theorem no_args {k : Nat} {g : Sg} : LA exc L W k (wpEs g .nil) = LA exc L W k (wpEs g .nil) := rfl
theorem la_nil {σ : L2.St} {H : Hp} {Q : List V → Hp → Prop} (h : LA exc L W (lenE .nil) (wpEs (sgh t n) .nil) σ H Q) : Q [] H := by
  obtain ⟨r, m, P, Xd, re, rel, hw, q, xl⟩ := h
  exact q [] m [] H rfl hw .nil rel (.refl H)
theorem mEs_nil {es : Es} (h : mEs C N es sc [] = true) : es = .nil := by cases es <;> simp_all [mEs]
theorem hs_some {c f : Nat} (h : (sgh t n).hs c f = true) : ∃ fn, t.F c f = some fn := Option.isSome_iff_exists.mp (show (t.F c f).isSome = true from h)
theorem g_call {es : Es} (f : Nat) (gs : GoEs exc L t n C N es) : GoE exc L t n C N (.call f es) := fun sc X W pe hm cx tk => by
  simp only [mE] at hm
  split at hm
  · rename_i x p as pos
    simp only [Bool.and_eq_true, decide_eq_true_eq] at hm
    obtain ⟨⟨⟨⟨⟨h0, h1⟩, h2⟩, h3⟩, h4⟩, h5⟩ := hm
    have ha := (gs _ _ _ _ h5 cx tk).pa
    refine .of cx.k rfl ?_
    cases e : (sgh t n).hs 0 f with
    | false =>
        refine PE.nev2 fun σ H Q ⟨r, m, P, Xd, re, rel, hw, q, xl⟩ => ?_
        have h0 := (show (sgh t n).hs 0 f = true ∧ _ from hw).1
        rw [e] at h0
        cases h0
    | true =>
      obtain ⟨fn, e⟩ := hs_some e
      cases hh : n.hx with
      | none =>
        obtain ⟨fa, fd, ps, m1, m2, m3, m4⟩ := cx.sta.fn hh f fn e
        rw [h1] at m1
        cases as with
        | nil =>
          cases mEs_nil h5
          exact PE.weak (pe_c0 m4 ((cx.room hh).mono (Nat.le_succ _)) (cx.gl h2) m1 m2 m3 tk (okx_d h3).1) fun σ H Q ⟨r, m, P, Xd, re, rel, hw, q, xl⟩ => sp_of re xl .nil rel (show callD t n 0 f [] m P _ from hw.2) q
        | cons a as =>
          exact PE.weak (pe_c1 m4 ((cx.room hh).mono (Nat.le_succ _)) (cx.gl h2) m1 m2 m3 tk ha h4 (okx_d h3).1) fun σ H Q q => q.args (kk := fun Xd r P ds m1 => callD t n 0 f ds m1 P fun c m2 => Xd c r m2) (fun _ _ _ _ h => h.2) fun Xd r P xs m1 vs H1 hl re rel xl q h rv => sp_of re xl rv rel h q
      | some h =>
        have hc : C.hfn f = true := by
          rw [Bool.or_eq_true] at h0
          rcases h0 with z | z
          · rw [cx.cold z] at hh; cases hh
          · exact z
        obtain ⟨fa, fd, ps, m1, m2, m3, m4⟩ := cx.sta.fnh h f fn e hc
        rw [h1] at m1
        obtain ⟨p, g1, g2, g3⟩ := cx.hld h hh
        have hn : (⟨n.n, some h⟩ : Dn) = n := by rw [← hh]
        rw [hn] at m4
        exact PE.weak (pe_cK m4 (cx.roomH.mono (Nat.le_succ _)) g1 g2 g3 (cx.gl h2) m1 m2 m3 tk ha (fun z σ H Q q => by subst z; cases mEs_nil h5; exact la_nil q) h4 (okx_d h3).1) fun σ H Q q => q.args (kk := fun Xd r P ds m1 => callD t n 0 f ds m1 P fun c m2 => Xd c r m2) (fun _ _ _ _ h => h.2) fun Xd r P xs m1 vs H1 hl re rel xl q h rv => sp_of re xl rv rel h q
  · cases hm
theorem g_make {es : Es} (f : Nat) (gs : GoEs exc L t n C N es) : GoE exc L t n C N (.make f es) := fun sc X W pe hm cx tk => by
  simp only [mE] at hm
  split at hm
  · simp only [Bool.and_eq_true, decide_eq_true_eq] at hm
    obtain ⟨⟨⟨⟨⟨⟨hc0, h0⟩, h1⟩, h2⟩, h3⟩, h4⟩, h5⟩ := hm
    have hh := cx.cold hc0
    have ha := gs _ _ _ _ h5 cx tk
    refine .of cx.k rfl ?_
    cases e : (sgh t n).hs f (sgh t n).ini with
    | false =>
        refine PE.nev2 fun σ H Q ⟨r, m, P, Xd, re, rel, hw, q, xl⟩ => ?_
        have h0 := (show (sgh t n).hs f (sgh t n).ini = true ∧ _ from hw).1
        rw [e] at h0
        cases h0
    | true =>
      obtain ⟨fn, e⟩ := hs_some e
      obtain ⟨Ca, fa, fd, ps, k1, k2, k3, k4, k5⟩ := cx.sta.mke hh f fn h0 e
      rw [h1] at k3
      refine PE.weak (pe_mkU (cx.gl h2) k3 k2 k5 (cx.room hh) k4 tk ha.pa (fun z σ H Q q => ?_) h4 (okx_d h3).1) fun σ H Q q => q.args (kk := fun Xd r P ds m1 => ∀ p, m1 p = none → callD t n f t.ini (.ref p :: ds) (up m1 p (.ins f [])) (fun d m2 => d = .non ∧ P (.ref p) m2) fun c m2 => Xd c r m2) (fun _ _ _ _ h => h.2)
        fun Xd r P xs m1 vs H1 hl re rel xl q h rv y dy hy hdy ne => ?_
      · subst z
        cases mEs_nil h5
        exact la_nil q
      · have hy2 : upd H1 dy (.own y) y = none := by rw [upd_ne (fun z => ne z.symm)]; exact hy
        have kp : Kp H1 (upd (upd H1 dy (.own y)) y (.ins Ca dy [])) := (Kp.new hdy).trans (.new hy2)
        have rel2 : Rel L (up m1 y (.ins f [])) (upd (upd H1 dy (.own y)) y (.ins Ca dy [])) := (rel.hide hdy).put (.new hy2) ⟨Ca, dy, [], k1, upd_same, .nil, rfl⟩
        refine sp_of (re.mono kp) (xl.mono kp) (.cons (.ref y) (rv.mono kp)) rel2 (h y (rel.free hy)) fun d m3 v H3 hp rv3 rel3 k3 => ?_
        obtain ⟨e1, hp⟩ := hp
        subst e1
        cases rv3
        exact ⟨rfl, q _ _ _ _ hp (.ref y) rel3 (kp.trans k3)⟩
  · cases hm
/-! fields -/
theorem fget_ok {F : PySem.W.Frag} {H : Hp} {nm : Nat → Str} {ok : Nat → Bool} (inj : ∀ a b, ok a = true → ok b = true → nm a = nm b → a = b) {f : Nat} (hf : ok f = true) : ∀ {fs : List (Nat × D)} {gs : List (Str × V)}, KvR F H nm fs gs → (fs.all fun p => ok p.1) = true →
    (∃ d v, fget fs f = some d ∧ gs.lookup (nm f) = some v ∧ Rp F H d v) ∨ (fget fs f = none ∧ gs.lookup (nm f) = none)
  | _, _, .nil, _ => .inr ⟨rfl, rfl⟩
  | (a, d) :: fs, (b, v) :: gs, .cons ⟨h1, h2⟩ r, hk => by
    have h1 : b = nm a := h1
    rw [List.all_cons, Bool.and_eq_true] at hk
    by_cases hz : f = a
    · subst hz
      refine .inl ⟨d, v, by simp only [fget, if_true], ?_, h2⟩
      subst h1
      simp [List.lookup]
    · have hne : (nm f == b) = false := by
        rw [beq_eq_false_iff_ne, h1]
        exact fun z => hz (inj _ _ hf hk.1 z)
      rcases fget_ok inj hf r hk.2 with ⟨d2, v2, e1, e2, e3⟩ | ⟨e1, e2⟩
      · exact .inl ⟨d2, v2, by simp only [fget, if_neg hz, e1], by simp only [List.lookup, hne, e2], e3⟩
      · exact .inr ⟨by simp only [fget, if_neg hz, e1], by simp only [List.lookup, hne, e2]⟩
theorem all_l {L : Lk} {c : Nat} {fs : List (Nat × D)} (h : (fs.all fun p => L.ok p.1 && L.fld c p.1) = true) : (fs.all fun p => L.ok p.1) = true := by
  simp only [List.all_eq_true, Bool.and_eq_true] at h ⊢
  exact fun p hp => (h p hp).1
theorem all_r {L : Lk} {c f : Nat} {d : D} : ∀ {fs : List (Nat × D)}, (fs.all fun p => L.ok p.1 && L.fld c p.1) = true → fget fs f = some d → L.fld c f = true
  | [], _, e => by cases e
  | (a, v) :: fs, h, e => by
    rw [List.all_cons, Bool.and_eq_true, Bool.and_eq_true] at h
    simp only [fget] at e
    split at e
    · rename_i z; rw [z]; exact h.1.2
    · exact all_r h.2 e
theorem g_attr {a : E} (f : Nat) (ga : GoE exc L t n C N a) : GoE exc L t n C N (.attr f a) := fun sc X W pe hm cx tk => by
  simp only [mE] at hm
  split at hm
  · simp only [Bool.and_eq_true, decide_eq_true_eq] at hm
    obtain ⟨⟨⟨h1, h2⟩, h3⟩, h4⟩ := hm
    have h := pe_fld (pos := ‹Pos›) (ga _ _ _ _ h4 cx tk).1 (sup_ok h3 ‹Str› X.env)
    rw [cx.k] at h
    refine .of cx.k rfl (PE.weak h fun σ H Q q => q.seq (k := fun Xd r P x m1 => match x with | .ref a => ∃ c fs d, m1 a = some (.ins c fs) ∧ fget fs f = some d ∧ P d m1 | _ => False) (fun _ _ _ _ h => h) fun Xd r P x m1 v H1 re rel xl q h rv => ?_)
    cases rv with
    | ref a =>
      obtain ⟨c, fs, d, e1, e2, h⟩ := h
      obtain ⟨Ca, dx, gs, k1, k2, k3, k4⟩ := rel _ _ e1
      have ho : L.ok f = true := by rw [cx.sta.okL]; exact h2
      rcases fget_ok (ok := L.ok) (by rw [cx.sta.okL, cx.sta.nm]; exact cx.sta.inj) ho k3 (all_l k4) with ⟨d2, v2, g1, g2, g3⟩ | ⟨g1, g2⟩
      · rw [e2] at g1
        cases g1
        rw [cx.sta.nm, h1] at g2
        refine ⟨a, Ca, dx, gs, v2, rfl, k2, ?_, ?_, g2, q.here h g3 rel⟩
        · have := cx.sta.cls c Ca k1
          rw [cx.k] at this
          exact this
        · have := cx.sta.att c Ca f k1 (by rw [← cx.sta.fldL]; exact all_r k4 e2)
          rw [cx.k, h1] at this
          exact this
      · rw [e2] at g1; cases g1
    | _ => exact h.elim
  · cases hm
theorem g_meth {a : E} {es : Es} (f : Nat) (ga : GoE exc L t n C N a) (gs : GoEs exc L t n C N es) : GoE exc L t n C N (.meth f a es) := fun sc X W pe hm cx tk => by
  simp only [mE] at hm
  split at hm
  · rename_i po mm apos as pos
    simp only [Bool.and_eq_true, decide_eq_true_eq] at hm
    obtain ⟨⟨⟨⟨⟨⟨⟨⟨hc0, h1⟩, h2⟩, h3⟩, h4⟩, h5⟩, h6⟩, h7⟩, h8⟩ := hm
    have hh := cx.cold hc0
    have hA := gs _ _ _ _ h8 cx tk
    have h := pe_mU (m := mm) (k := lv n.n) (ga _ _ _ _ h7 cx tk).1 h3 h4 h5 h6 tk hA.pa (fun z σ H Q q => by subst z; cases mEs_nil h8; exact la_nil q) ((cx.room hh).mono (Nat.le_succ _))
    refine .of cx.k rfl (PE.weak h fun σ H Q q => q.seq (k := fun Xd r P x m1 => match x with
      | .ref a => ∃ c fs, m1 a = some (.ins c fs) ∧ fget fs f = none ∧ (sgh t n).hs c f = true ∧ wpEs (sgh t n) es Xd r m1 fun ds m2 => callD t n c f (x :: ds) m2 P fun c m2 => Xd c r m2
      | _ => False) (fun _ _ _ _ h => h) fun Xd r P x m1 v H1 re rel xl q h rv => ?_)
    cases rv with
    | ref a =>
      obtain ⟨c, fs, e1, e2, e3, h⟩ := h
      obtain ⟨Ca, dx, gs, k1, k2, k3, k4⟩ := rel _ _ e1
      obtain ⟨fn, e⟩ := hs_some e3
      obtain ⟨fa, fd, ps, m1', m2', m3'⟩ := cx.sta.met hh c f fn Ca e k1 h2
      have ho : L.ok f = true := by rw [cx.sta.okL]; exact h2
      rcases fget_ok (ok := L.ok) (by rw [cx.sta.okL, cx.sta.nm]; exact cx.sta.inj) ho k3 (all_l k4) with ⟨d2, v2, g1, g2, g3⟩ | ⟨g1, g2⟩
      · rw [e2] at g1; cases g1
      · rw [cx.sta.nm, h1] at g2
        rw [h1] at m1'
        exact ⟨a, Ca, dx, gs, fa, fd, ps, _, rfl, k2, g2, cx.sta.cls c Ca k1, m1', m2', m3', .go re rel xl h fun xs m2 vs H2 hp rs rel2 k2' => sp_of (re.mono k2') (xl.mono k2') (.cons (.ref a) rs) rel2 hp (q.mono k2')⟩
    | _ => exact h.elim
  · cases hm
/-! built-in -/
theorem bf_kind (f : Bf) : (∃ id, bfV f = .builtin id) ∨ ∃ T, bfV f = .type T := by cases f <;> first | exact .inl ⟨_, rfl⟩ | exact .inr ⟨_, rfl⟩
theorem bf_none (f : Bf) : isBlt (bfN f) = true := by cases f <;> decide +kernel
theorem g_bcall {es : Es} (f : Bf) (gs : GoEs exc L t n C N es) : GoE exc L t n C N (.bcall f es) := fun sc X W pe hm cx tk => by
  simp only [mE] at hm
  split at hm
  · rename_i x p as pos
    simp only [Bool.and_eq_true, decide_eq_true_eq] at hm
    obtain ⟨⟨⟨⟨hc0, h1⟩, h2⟩, h4⟩, h5⟩ := hm
    have ha := (gs _ _ _ _ h5 cx tk).pa
    refine .of cx.k rfl ?_
    subst h1
    have hm := cx.sta.blt _ (bf_none f)
    cases hh : n.hx with
    | some hp =>
      have hf : f = .max := by
        cases f with
        | max => rfl
        | _ =>
          rw [show isMx _ = false from rfl, Bool.or_false] at hc0
          rw [cx.cold hc0] at hh
          cases hh
      subst hf
      obtain ⟨p1, g1, g2, g3⟩ := cx.hld hp hh
      have hc : CallR X (.builtin "max") (rMaxT L.F) := by
        have := cr_maxTH (X := X) ⟨p1, g1, g2⟩
        rwa [cx.k] at this
      cases as with
      | nil =>
        cases mEs_nil h5
        refine PE.nev2 fun σ H Q ⟨r, m, P, Xd, re, rel, hw, q, xl⟩ => ?_
        have hw : bfW .max [] m P := (show _ ∧ bfW .max [] m P from hw).2
        exact hw
      | cons a as =>
        have hs2 : nostar a = true ∧ as.all nostar = true := by rw [List.all_cons, Bool.and_eq_true] at h4; exact h4
        refine PE.weak (pe_callB hc (cx.gl h2) hm (bf_boot .max) ha (bf_name .max).1 (bf_name .max).2 (star_ok hs2.1 _ _) (stars_ok hs2.2 _ _).1) fun σ H Q q => ?_
        refine q.args (kk := fun Xd r P ds m1 => ((sgh t n).hx = none ∨ (Bf.max = .max ∧ ∃ xs, ds = [.tup xs])) ∧ bfW .max ds m1 P) (fun _ _ _ _ h => h) fun Xd r P xs m1 vs H1 hl re rel xl q h rv => ?_
        obtain ⟨h0, h⟩ := h
        rcases h0 with h0 | ⟨_, ds, rfl⟩
        · rw [show (sgh t n).hx = n.hx from rfl, hh] at h0
          cases h0
        · cases rv with
          | cons r1 rs =>
            cases rs
            cases r1 with
            | @tup es a ws sq rw1 =>
              obtain ⟨ns, h1, h2, h3⟩ := h
              have e2 := rw1.ints h1
              subst e2
              refine ⟨a, ns, rfl, sq.sq, List.length_pos_iff.mpr h2, fun z hz hle => ?_⟩
              obtain ⟨o1, o2⟩ := maxI_ok h2
              have e3 : z = maxI ns := Int.le_antisymm (o2 _ hz) (hle _ o1)
              rw [e3]
              exact q.here h3 (.int _) rel
    | none =>
      have hb := bf_boot f
      have hc := bfS (X := X) cx.k cx.sta.w (cx.calm hh) cx.un f
      have hw : ∀ {r : RC} {a : Expr} {as : List Expr}, r = bfR L f → ∀ σ H Q, LE exc L W (wpE (sgh t n) (.bcall f es)) σ H Q → LA exc L W (lenE es) (wpEs (sgh t n) es) σ H fun vs H1 => r vs H1 Q := fun {r a as} hr σ H Q q => by
        subst hr
        exact q.args (kk := fun Xd r P ds m1 => ((sgh t n).hx = none ∨ (f = .max ∧ ∃ xs, ds = [.tup xs])) ∧ bfW f ds m1 P) (fun _ _ _ _ h => h) fun Xd r P xs m1 vs H1 hl re rel xl q h rv => bf_ok h.2 rv rel q
      cases as with
      | nil =>
        cases mEs_nil h5
        refine PE.nev2 fun σ H Q ⟨r, m, P, Xd, re, rel, hw, q, xl⟩ => ?_
        have hw : bfW f [] m P := (show _ ∧ bfW f [] m P from hw).2
        cases f <;> exact hw
      | cons a as =>
        have hs2 : nostar a = true ∧ as.all nostar = true := by rw [List.all_cons, Bool.and_eq_true] at h4; exact h4
        rcases bf_kind f with ⟨id, e⟩ | ⟨T, e⟩
        · rw [e] at hb hc
          exact PE.weak (pe_callB hc (cx.gl h2) hm hb ha (bf_name f).1 (bf_name f).2 (star_ok hs2.1 _ _) (stars_ok hs2.2 _ _).1) (hw (a := a) (as := as) rfl)
        · rw [e] at hb hc
          exact PE.weak (pe_callTy hc (cx.gl h2) hm hb ha (bf_name f).1 (bf_name f).2 (star_ok hs2.1 _ _) (stars_ok hs2.2 _ _).1) (hw (a := a) (as := as) rfl)
  · cases hm
theorem g_bmeth {a : E} {es : Es} (f : Bm) (ga : GoE exc L t n C N a) (gs : GoEs exc L t n C N es) : GoE exc L t n C N (.bmeth f a es) := fun sc X W pe hm cx tk => by
  simp only [mE] at hm
  split at hm
  · simp only [Bool.and_eq_true, decide_eq_true_eq] at hm
    obtain ⟨⟨⟨⟨⟨⟨h1, h3⟩, h4⟩, h5⟩, h6⟩, h7⟩, h8⟩ := hm
    subst h1
    have hA := gs _ _ _ _ h8 cx tk
    have h := pe_bU (m := bmN f) cx.k cx.sta.w (ga _ _ _ _ h7 cx tk).1 h3 h4 h5 h6 hA.pa (fun z σ H Q q => by subst z; cases mEs_nil h8; exact la_nil q)
    refine .of cx.k rfl (PE.weak h fun σ H Q q => q.seq (k := fun Xd r P x m1 => mok f (rk m1 x) = true ∧ wpEs (sgh t n) es Xd r m1 fun ds m2 => rk m2 x = rk m1 x ∧ bmW f x ds m2 P) (fun _ _ _ _ h => h) fun Xd r P x m1 v H1 re rel xl q h rv => ?_)
    have hT := rk_ty h.1 rfl rv rel
    have hS := bmS cx.k cx.sta.w cx.un h.1
    exact ⟨_, _, _, hS, hT, .go re rel xl h.2 fun xs m2 vs H2 hp rs rel2 k2 => bm_ok hp.1 hp.2 (rv.mono k2) rs rel2 (q.mono k2)⟩
  · cases hm
theorem ty_boot {t : Ty} (h : isBt t = true) : bootBuiltins (Str.ofString (tyN t)) = some (.type (tyN t)) := by cases t <;> first | decide +kernel | cases h
theorem ty_blt {t : Ty} (h : isBt t = true) : isBlt (Str.ofString (tyN t)) = true ∧ Str.ofString (tyN t) ≠ "__name__" ∧ (Str.ofString (tyN t) == ("__debug__" : Str)) = false := by cases t <;> first | decide +kernel | cases h
theorem isT_bt {g : Sg} {m : Hm} {x : D} {ty : Ty} (h : isBt ty = true) : isT g m x [ty] = tyIs m x ty := by
  cases ty <;> first | exact absurd h Bool.false_ne_true | (simp only [isT, tyAny]; split <;> simp_all)
theorem g_isin {a : E} (ts : List Ty) (ga : GoE exc L t n C N a) : GoE exc L t n C N (.isin a ts) := fun sc X W pe hm cx tk => by
  simp only [mE] at hm
  split at hm
  · simp only [Bool.and_eq_true, decide_eq_true_eq] at hm
    obtain ⟨⟨⟨⟨⟨h1, h2⟩, h3⟩, h5⟩, h6⟩, h7⟩ := hm
    subst h1
    rename_i y py pos ty
    by_cases hbt : isBt ty = true
    · have h4 : y = Str.ofString (tyN ty) := by
        cases ty <;> first | exact absurd hbt Bool.false_ne_true | exact of_decide_eq_true h3
      subst h4
      have hb := ty_blt hbt
      have h := fun p1 p2 p3 : Pos => pe_callB (pos := p1) (p := p2) call_isi (cx.gl h2) (cx.sta.blt _ (by decide +kernel)) (by decide +kernel)
        (pa_cons (ga _ _ _ _ h7 cx tk).1 (pa_cons (pe_bltn (v := .ty (tyN ty)) (pos := p3) (cx.gl h5) (cx.sta.blt _ hb.1) (ty_boot hbt) rfl hb.2.1 hb.2.2) pa_nil rfl) (star_ok h6 _ _)) (by decide) (by decide) (star_ok h6 _ _) rfl
      rw [cx.k] at h
      refine .of cx.k rfl (PE.weak (h _ _ _) fun σ H Q q => q.seq (k := fun Xd r P x m1 => ∃ b, isT (sgh t n) m1 x [ty] = some b ∧ P (.bl b) m1) (fun _ _ _ _ h => h) fun Xd r P x m1 v H1 re rel xl q h rv => ?_)
      obtain ⟨b, e, h⟩ := h
      rw [isT_bt hbt] at e
      obtain ⟨c, t1, t2⟩ := ty_ok hbt e rv rel
      exact ⟨v, .ty (tyN ty), c, _, b, rfl, .ty _, t1, t2, q.here h (.bl b) rel⟩
    · have no : ∀ (m1 : Hm) (y : D), (∀ a c, y ≠ .exc a c) → isT (sgh t n) m1 y [ty] = none := fun m1 y hy => by
        cases ty with
        | own k => cases y <;> first | rfl | exact absurd rfl (hy _ _)
        | verr => cases y <;> first | rfl | exact absurd rfl (hy _ _)
        | _ => exact absurd rfl hbt
      -- the class that is asked for
      have cls : ∃ (te : TE) (cv : Value) (cw : V), (∀ p3 : Pos, PE X (.Name y p3) te) ∧ (∀ σ H Q, Q cw H → te σ H Q) ∧ (∀ u, RelV cw u → u = cv) ∧ ∀ a c Ca, exc c = some Ca → ∃ b, (∀ m, isT (sgh t n) m (.exc a c) [ty] = if n.hx = some (a, c) then some b else none) ∧ PySem.W.kitOne X.K (.ref Ca) cv = some b := by
        cases ty with
        | own k =>
          simp only [mTy, Bool.and_eq_true, decide_eq_true_eq] at h3
          obtain ⟨⟨e1, e2⟩, e3⟩ := h3
          obtain ⟨Ck, e5, e4⟩ := cx.sta.exg k e2
          rw [e1] at e5
          exact ⟨_, .ref Ck, .ref Ck, fun p3 => pe_glob (v := .ref Ck) (pos := p3) (cx.gl h5) e5 rfl (okx_d e3).1, fun σ H Q q => q, fun u h => h, fun a c Ca g => ⟨t.sub c k, fun m => rfl, (e4 _ _ g).2⟩⟩
        | verr =>
          have e1 : y = "ValueError" := of_decide_eq_true h3
          subst e1
          exact ⟨_, .type "ValueError", .ty "ValueError", fun p3 => pe_bltn (v := .ty "ValueError") (pos := p3) (cx.gl h5) (cx.sta.blt _ (by decide +kernel)) (by decide +kernel) rfl (by decide +kernel) (by decide +kernel), fun σ H Q q => q, fun u h => h, fun a c Ca g => ⟨true, fun m => rfl, (cx.sta.exs _ _ g).ve⟩⟩
        | _ => exact absurd rfl hbt
      obtain ⟨te, cv, cw, c1, c2, c3, c4⟩ := cls
      cases hh : n.hx with
      | none =>
        have h := fun p1 p2 p3 : Pos => pe_callB (pos := p1) (p := p2) call_isi (cx.gl h2) (cx.sta.blt _ (by decide +kernel)) (by decide +kernel)
          (pa_cons (ga _ _ _ _ h7 cx tk).1 (pa_cons (c1 p3) pa_nil rfl) (star_ok h6 _ _)) (by decide) (by decide) (star_ok h6 _ _) rfl
        refine .of cx.k rfl (PE.weak (h _ _ _) fun σ H Q q => q.seq (k := fun Xd r P x m1 => ∃ b, isT (sgh t n) m1 x [ty] = some b ∧ P (.bl b) m1) (fun _ _ _ _ h => h) fun Xd r P x m1 v H1 re rel xl q h rv => ?_)
        obtain ⟨b, e, h⟩ := h
        have none_ : isT (sgh t n) m1 x [ty] = none := by
          cases x with
          | exc a c =>
            have hx0 : (sgh t n).hx = none := hh
            cases ty with
            | own k => simp only [isT, hx0]; rfl
            | verr => simp only [isT, hx0]; rfl
            | _ => exact absurd rfl hbt
          | _ => exact no _ _ (fun a c z => by cases z)
        rw [none_] at e
        cases e
      | some hx =>
        obtain ⟨p, g1, g2, g3, g4, Ca, g5, g6⟩ := cx.hld hx hh
        have F := cx.sta.exs _ _ g5
        have isK := call_isK F.cl g2 g6.zc g4
        have h := fun p1 p2 p3 : Pos => pe_callB (pos := p1) (p := p2) isK (cx.gl h2) (cx.sta.blt _ (by decide +kernel)) (by decide +kernel)
          (pa_cons (ga _ _ _ _ h7 cx tk).1 (pa_cons (c1 p3) pa_nil rfl) (star_ok h6 _ _)) (by decide) (by decide) (star_ok h6 _ _) rfl
        refine .of cx.k rfl (PE.weak (h _ _ _) fun σ H Q q => q.seq (k := fun Xd r P x m1 => ∃ b, isT (sgh t n) m1 x [ty] = some b ∧ P (.bl b) m1) (fun _ _ _ _ h => h) fun Xd r P x m1 v H1 re rel xl q h rv => ?_)
        obtain ⟨b, e, h⟩ := h
        cases rv with
        | exc a c =>
          have z : n.hx = some (a, c) := by
            by_cases z : n.hx = some (a, c)
            · exact z
            · have none_ : isT (sgh t n) m1 (.exc a c) [ty] = none := by
                have hx0 : ¬ (sgh t n).hx = some (a, c) := z
                cases ty with
                | own k => simp only [isT]; rw [if_neg hx0]
                | verr => simp only [isT]; rw [if_neg hx0]
                | _ => exact absurd rfl hbt
              rw [none_] at e
              cases e
          rw [hh] at z
          cases z
          obtain ⟨b2, z2, z3⟩ := c4 a c Ca g5
          rw [z2, if_pos hh] at e
          cases e
          refine c2 _ _ _ ⟨cw, cv, b, ?_, c3, z3, q.here h (.bl b) rel⟩
          rw [g3]
        | _ => rw [no _ _ (fun a c z => by cases z)] at e; cases e
  · simp only [Bool.and_eq_true, decide_eq_true_eq] at hm
    obtain ⟨⟨⟨⟨⟨⟨⟨⟨⟨h1, h2⟩, b1⟩, e1⟩, g1⟩, b2⟩, e2⟩, g2⟩, h6⟩, h7⟩ := hm
    subst h1 e1 e2
    rename_i t1 t2
    have l1 := ty_blt b1
    have l2 := ty_blt b2
    have hT := fun (p1 p2 p3 : Pos) (kk : Nat) => pe_tup (x1 := kk) (pos := p3) (pa_cons (pe_bltn (v := .ty (tyN t1)) (pos := p1) (cx.gl g1) (cx.sta.blt _ l1.1) (ty_boot b1) rfl l1.2.1 l1.2.2) (pa_cons (pe_bltn (v := .ty (tyN t2)) (pos := p2) (cx.gl g2) (cx.sta.blt _ l2.1) (ty_boot b2) rfl l2.2.1 l2.2.2) pa_nil rfl) rfl)
    have h := fun (p1 p2 p3 p4 p5 : Pos) (kk : Nat) => pe_callB (pos := p1) (p := p2) call_isiT (cx.gl h2) (cx.sta.blt _ (by decide +kernel)) (by decide +kernel)
      (pa_cons (ga _ _ _ _ h7 cx tk).1 (pa_cons (hT p3 p4 p5 kk) pa_nil rfl) (star_ok h6 _ _)) (by decide) (by decide) (star_ok h6 _ _) rfl
    rw [cx.k] at h
    refine .of cx.k rfl (PE.weak (h _ _ _ _ _ _) fun σ H Q q => q.seq (k := fun Xd r P x m1 => ∃ b, isT (sgh t n) m1 x [t1, t2] = some b ∧ P (.bl b) m1) (fun _ _ _ _ h => h) fun Xd r P x m1 v H1 re rel xl q h rv => ?_)
    obtain ⟨b, e, h⟩ := h
    refine ⟨by show 2 ≤ sizeLine; decide, fun p hp => ?_⟩
    have kp : Kp H1 (upd H1 p (.tup [V.ty (tyN t1), V.ty (tyN t2)])) := .new hp
    have rv2 := rv.mono kp
    have rel2 := rel.hide hp (o := .tup [V.ty (tyN t1), V.ty (tyN t2)])
    have e0 : isT (sgh t n) m1 x [t1, t2] = tyAny m1 x [t1, t2] := by cases t1 <;> rfl
    rw [e0] at e
    simp only [tyAny] at e
    cases ht : tyIs m1 x t1 with
    | none => rw [ht] at e; cases e
    | some c1 =>
      rw [ht] at e
      obtain ⟨ct, k1, k2⟩ := ty_all ht rv2 rel2
      have fin : PySem.W.kitAny L.F ct [.type (tyN t1), .type (tyN t2)] = some b := by
        cases c1 with
        | true =>
          cases e
          simp only [PySem.W.kitAny, k2 t1 true b1 ht]
        | false =>
          cases hu : tyIs m1 x t2 with
          | none => rw [hu] at e; cases e
          | some c2 =>
            rw [hu] at e
            simp only [PySem.W.kitAny, k2 t1 false b1 ht, k2 t2 c2 b2 hu]
            cases c2 <;> exact e
      exact ⟨v, p, _, ct, _, b, rfl, upd_same, .cons (.ty _) (.cons (.ty _) .nil), k1, fin, q _ _ _ _ h (.bl b) rel2 kp⟩
  · cases hm
end
end Mn
end

section
set_option Elab.async false
set_option linter.all false
set_option maxRecDepth 100000
set_option maxHeartbeats 4000000
/-! Mn, part L: what is walked, comprehensions, all expressions. -/
namespace Mn
open PySem PySem.Spec PyProof.Rows L2 RZ
section
variable {exc : Nat → Option Addr} {L : Lk} {t : Tab} {n : Dn} {C : Nm} {N : List Str} {sc : Scope} {X : Cx} {W : WX}
theorem mEs_len : ∀ {es : Es} {ps : List Expr}, mEs C N es sc ps = true → lenE es = ps.length
  | .nil, [], _ => rfl
  | .nil, _ :: _, h => by simp [mEs] at h
  | .cons _ _, [], h => by simp [mEs] at h
  | .cons e es, p :: ps, h => by
    simp only [mEs, Bool.and_eq_true] at h
    simp only [lenE, List.length_cons, mEs_len h.2]
theorem len1 {α : Type} {xs : List α} (h : xs.length = 1) : ∃ a, xs = [a] := by
  match xs, h with
  | [a], _ => exact ⟨a, rfl⟩
theorem len2 {α : Type} {xs : List α} (h : xs.length = 2) : ∃ a b, xs = [a, b] := by
  match xs, h with
  | [a, b], _ => exact ⟨a, b, rfl⟩
theorem len3 {α : Type} {xs : List α} (h : xs.length = 3) : ∃ a b c, xs = [a, b, c] := by
  match xs, h with
  | [a, b, c], _ => exact ⟨a, b, c, rfl⟩
theorem walk_ok {d : D} {v : V} {m : Hm} {H : Hp} {K : List D → (Hm → Prop) → Hm → Prop} {R : It → Hp → Prop} (h : walkV d m K) (rv : Rp L.F H d v) (rel : Rel L m H) (q : ∀ xs st J, K xs st m → ItOk L H J xs st → R J H) :
    (∃ a, v = .ref a ∧ (∃ xs, SqL L.F H a xs) ∧ R (Itl L.F a) H) ∨ (∃ a, v = .ref a ∧ (∃ xs, SqT L.F H a xs) ∧ R (Itt L.F a) H) ∨ ∃ z, v = .str z ∧ R (Its z) H := by
  cases rv with
  | str s => exact .inr (.inr ⟨_, rfl, q _ _ _ h it_str⟩)
  | @tup ds a vs sa ra => exact .inr (.inl ⟨a, rfl, ⟨_, sa.sq⟩, q _ _ _ h (it_tup sa ra)⟩)
  | @lst ds a vs sa ra => exact .inl ⟨a, rfl, ⟨_, sa.sq⟩, q _ _ _ h (it_fz sa ra)⟩
  | ref a =>
    have h : (match m a with | some (.lst ds) => K ds (fun m2 => m2 a = some (.lst ds)) m | _ => False) := h
    split at h
    · rename_i ds e
      obtain ⟨ws, h1, h2, h3⟩ := lst_of e rel
      exact .inl ⟨a, rfl, ⟨_, h1⟩, q _ _ _ h it_lst⟩
    · exact h.elim
  | _ => exact h.elim
theorem g_val {e : E} (ge : GoE exc L t n C N e) : GoI exc L t n C N (.val e) := fun sc X W tg pe hm cx tk => by
  simp only [mI] at hm
  have h := pi_any (tg := tg) (ge _ _ _ _ hm cx tk).1
  rw [cx.k] at h
  exact PI.weak h fun σ H R ⟨r, m, P, Xd, re, rel, hw, q, xl⟩ => .go re rel xl (show wpE (sgh t n) e Xd r m fun d m1 => walkV d m1 P from hw) fun d m2 v H2 hp rv rel2 k2 =>
    walk_ok hp rv rel2 fun xs st J hk it => q xs st m2 J H2 hk it rel2 k2
theorem blt_rng : isBlt "range" = true ∧ isBlt "enumerate" = true ∧ isBlt "zip" = true := by decide +kernel
theorem g_rng {es : Es} (gs : GoEs exc L t n C N es) : GoI exc L t n C N (.rng es) := fun sc X W tg pe hm cx tk => by
  simp only [mI] at hm
  split at hm
  · rename_i x p as pos
    simp only [Bool.and_eq_true, decide_eq_true_eq] at hm
    obtain ⟨⟨⟨⟨⟨h1, h2⟩, h3⟩, h4⟩, h5⟩, h6⟩ := hm
    subst h1
    have ha := (gs _ _ _ _ h6 cx tk).pa
    have hl := mEs_len h6
    have hb := cx.sta.blt _ blt_rng.1
    have key : ∀ {σ : L2.St} {H : Hp} {R : It → Hp → Prop}, LI exc L W (wpI (sgh t n) (.rng es)) σ H R → ∃ r m Xd P, REnv L.F H r σ ∧ Rel L m H ∧ wpEs (sgh t n) es Xd r m (fun ds m1 => rngW ds m1 P) ∧
        (∀ xs st m2 J H2, P xs st m2 → ItOk L H2 J xs st → Rel L m2 H2 → Kp H H2 → R J H2) ∧ XL exc L W H Xd := fun ⟨r, m, P, Xd, re, rel, hw, q, xl⟩ => ⟨r, m, Xd, P, re, rel, hw, q, xl⟩
    match as, h4, h5, h6, ha, hl, h3 with
    | [a], _, _, h6, ha, hl, h3 =>
      have h3 : nostar a = true := by simpa using h3
      refine PI.weak (pi_range1 (cx.gl h2) hb ha (star_ok h3 _ _)) fun σ H R q => ?_
      obtain ⟨r, m, Xd, P, re, rel, hw, q, xl⟩ := key q
      refine ⟨r, m, _, Xd, re, rel, hw, fun xs m2 vs H2 hlx hp rs rel2 k2 => ?_, xl⟩
      obtain ⟨x, rfl⟩ := len1 (hlx.trans hl)
      cases rs with
      | cons r1 rr =>
        cases rr
        cases r1 with
        | int j => exact ⟨j, rfl, hp.1.1, hp.1.2, q _ _ _ _ _ hp.2 it_rng rel2 k2⟩
        | _ => exact hp.elim
    | [a, b], _, _, h6, ha, hl, h3 =>
      have h3 : nostar a = true ∧ nostar b = true := by simpa using h3
      refine PI.weak (pi_range2 (cx.gl h2) hb ha (by rw [star_ok h3.1, star_ok h3.2]; rfl) (star_ok h3.2 _ _)) fun σ H R q => ?_
      obtain ⟨r, m, Xd, P, re, rel, hw, q, xl⟩ := key q
      refine ⟨r, m, _, Xd, re, rel, hw, fun xs m2 vs H2 hlx hp rs rel2 k2 => ?_, xl⟩
      obtain ⟨x, y, rfl⟩ := len2 (hlx.trans hl)
      cases rs with
      | cons r1 rr =>
        cases rr with
        | cons r2 rr =>
          cases rr
          cases r1 with
          | int i => cases r2 with
            | int j => exact ⟨i, j, rfl, ⟨hp.1.1, hp.1.2, hp.2.1.1, hp.2.1.2⟩, q _ _ _ _ _ hp.2.2 it_rng rel2 k2⟩
            | _ => exact hp.elim
          | _ => cases r2 <;> exact hp.elim
    | [a, b, c], _, _, h6, ha, hl, h3 =>
      have h3 : nostar a = true ∧ nostar b = true ∧ nostar c = true := by simpa using h3
      refine PI.weak (pi_range3 (cx.gl h2) hb ha (star_ok h3.1 _ _) (stars_ok (by simp [h3.2]) _ _).1) fun σ H R q => ?_
      obtain ⟨r, m, Xd, P, re, rel, hw, q, xl⟩ := key q
      refine ⟨r, m, _, Xd, re, rel, hw, fun xs m2 vs H2 hlx hp rs rel2 k2 => ?_, xl⟩
      obtain ⟨x, y, z, rfl⟩ := len3 (hlx.trans hl)
      cases rs with
      | cons r1 rr =>
        cases rr with
        | cons r2 rr =>
          cases rr with
          | cons r3 rr =>
            cases rr
            cases r1 with
            | int i => cases r2 with
              | int j => cases r3 with
                | int k =>
                  obtain ⟨b1, b2, hp⟩ := hp
                  rcases hp with ⟨b3, hp⟩ | ⟨b3, hp⟩
                  · subst b3
                    exact ⟨i, j, -1, _, rfl, RgC.neg b1.1 b1.2 b2.1 b2.2, q _ _ _ _ _ hp it_rngC rel2 k2⟩
                  · subst b3
                    exact ⟨i, j, 1, _, rfl, ⟨by decide, by decide, PySem.small_one b1.1 b1.2 b2.1 b2.2, PyProof.Rows.rangeSize_nat i j⟩, q _ _ _ _ _ hp it_rngC rel2 k2⟩
                | _ => exact hp.elim
              | _ => cases r3 <;> exact hp.elim
            | _ => cases r2 <;> cases r3 <;> exact hp.elim
  · cases hm
theorem pa_one {p : Expr} {e : E} (h : PE X p (LE exc L W (wpE (sgh t n) e))) (hs : nostar p = true) : PA X [p] (tCons (LE exc L W (wpE (sgh t n) e)) tNil) := pa_cons h pa_nil (star_ok hs _ _)
theorem g_enum {e : E} (ge : GoE exc L t n C N e) : GoI exc L t n C N (.enum e) := fun sc X W tg pe hm cx tk => by
  simp only [mI] at hm
  split at hm
  · simp only [Bool.and_eq_true, decide_eq_true_eq] at hm
    obtain ⟨⟨⟨h1, h2⟩, h3⟩, h4⟩ := hm
    subst h1
    have h := fun (elts : List Expr) (kk : Nat) (p1 p2 p3 : Pos) => pi_enumZ (elts := elts) (kk := kk) (tpos := p1) (p := p2) (pos := p3) (cx.gl h2) (cx.sta.blt _ blt_rng.2.1) (pa_one (ge _ _ _ _ h4 cx tk).1 h3) (star_ok h3 _ _)
    rw [cx.k] at h
    refine PI.weak (h _ _ _ _ _) fun σ H R ⟨r, m, P, Xd, re, rel, hw, q, xl⟩ => .go re rel xl (show wpE (sgh t n) e Xd r m fun d m1 => match d with
      | .str _ => False
      | _ => walkV d m1 fun xs st m2 => P (enumD 0 xs) st m2 from hw) fun d m2 v H2 hp rv rel2 k2 => ?_
    cases rv with
    | @tup ds a vs sa ra => exact ⟨a, vs, rfl, .inr ⟨sa.sq, q _ _ _ _ _ hp (it_enumZ (sc_tup sa ra)) rel2 k2⟩⟩
    | @lst ds a vs sa ra => exact ⟨a, vs, rfl, .inl ⟨sa.sq, q _ _ _ _ _ hp (it_enumZ (sc_fz sa ra)) rel2 k2⟩⟩
    | ref a =>
      have h : (match m2 a with | some (.lst ds) => P (enumD 0 ds) (fun m3 => m3 a = some (.lst ds)) m2 | _ => False) := hp
      split at h
      · rename_i ds e
        obtain ⟨ws, h1, h2, h3⟩ := lst_of e rel2
        exact ⟨a, ws, rfl, .inl ⟨h1, q _ _ _ _ _ h (it_enumZ sc_lst) rel2 k2⟩⟩
      · exact h.elim
    | _ => exact hp.elim
  · cases hm
theorem src_ok {d : D} {v : V} {m : Hm} {H : Hp} {ds : List D} {st : Hm → Prop} (h : zsrc m d = some (ds, st)) (rv : Rp L.F H d v) (rel : Rel L m H) : ∃ A ws, v = A.v ∧ A.has L.F H ws ∧ ScOk L H A ds st := by
  cases rv with
  | @tup es a vs sa ra =>
    cases h
    exact ⟨.tup a, vs, rfl, sa.sq, sc_tup sa ra⟩
  | @lst es a vs sa ra =>
    cases h
    exact ⟨.lst a, vs, rfl, sa.sq, sc_fz sa ra⟩
  | str s =>
    cases h
    exact ⟨.txt (toS s), _, rfl, rfl, sc_str⟩
  | ref a =>
    simp only [zsrc] at h
    split at h
    · rename_i es e
      cases h
      obtain ⟨ws, h1, h2, h3⟩ := lst_of e rel
      exact ⟨.lst a, ws, rfl, h1, sc_lst⟩
    · cases h
  | _ => cases h
theorem g_zip {a b : E} (ga : GoE exc L t n C N a) (gb : GoE exc L t n C N b) : GoI exc L t n C N (.zip a b) := fun sc X W tg pe hm cx tk => by
  simp only [mI] at hm
  split at hm
  · simp only [Bool.and_eq_true, decide_eq_true_eq] at hm
    obtain ⟨⟨⟨⟨⟨h1, h2⟩, h3⟩, h4⟩, h5⟩, h6⟩ := hm
    subst h1
    have h := fun (elts : List Expr) (kk : Nat) (p1 p2 p3 : Pos) => pi_zipZ (elts := elts) (kk := kk) (tpos := p1) (p := p2) (pos := p3) (cx.gl h2) (cx.sta.blt _ blt_rng.2.2) (pa_cons (ga _ _ _ _ h5 cx tk).1 (pa_one (gb _ _ _ _ h6 cx tk).1 h4) (star_ok h3 _ _)) (star_ok h3 _ _) (stars_ok (by simp [h4]) _ _).1
    rw [cx.k] at h
    refine PI.weak (h _ _ _ _ _) fun σ H R ⟨r, m, P, Xd, re, rel, hw, q, xl⟩ => .go re rel xl (show wpE (sgh t n) a Xd r m fun x m1 => wpE (sgh t n) b Xd r m1 fun y m2 => ∃ xs s1 ys s2, zsrc m2 x = some (xs, s1) ∧ zsrc m2 y = some (ys, s2) ∧ P (zipD xs ys) (fun m3 => s1 m3 ∧ s2 m3) m2 from hw) fun x m2 v H2 hp rv rel2 k2 => .go (re.mono k2) rel2 (xl.mono k2) hp fun y m3 u H3 hp ru rel3 k3 => ?_
    have rv := rv.mono k3
    obtain ⟨xs, s1, ys, s2, z1, z2, hp⟩ := hp
    obtain ⟨A, ws, rfl, a1, a2⟩ := src_ok z1 rv rel3
    obtain ⟨B, us, rfl, b1, b2⟩ := src_ok z2 ru rel3
    exact ⟨A, B, ws, us, rfl, a1, b1, q _ _ _ _ _ hp (it_zipZ a2 b2) rel3 (k2.trans k3)⟩
  · cases hm

/-! ### comprehensions -/
theorem wipe_get (σ : L2.St) : ∀ (vs : List Nat) (j : Nat), (L2.wipe σ vs)[j]? = if j ∈ vs then (if j < σ.length then some none else none) else σ[j]?
  | [], j => by simp [L2.wipe]
  | v :: vs, j => by
    simp only [L2.wipe, List.getElem?_set, L2.wipe_length, wipe_get σ vs, List.mem_cons]
    by_cases h : v = j
    · subst h; simp
    · have h2 : ¬ j = v := fun z => h z.symm
      simp only [h, h2, if_false, false_or]
theorem wipe_ext {σ τ : L2.St} {vs : List Nat} (hl : τ.length = σ.length) (h : ∀ j, j ∉ vs → τ[j]? = σ[j]?) : L2.wipe τ vs = L2.wipe σ vs := by
  apply List.ext_getElem?
  intro j
  rw [wipe_get, wipe_get, hl]
  split
  · rfl
  · rename_i z; exact h j z
theorem wipe_set {σ : L2.St} {vs : List Nat} {i : Nat} {x : Option V} (h : i ∈ vs) : L2.wipe (σ.set i x) vs = L2.wipe σ vs :=
  wipe_ext (by simp) fun j hj => by
    have hne : i ≠ j := fun z => hj (z ▸ h)
    rw [List.getElem?_set_ne hne]
theorem wipe_wipe {σ : L2.St} {vs : List Nat} : L2.wipe (L2.wipe σ vs) vs = L2.wipe σ vs := wipe_ext (L2.wipe_length _ _) fun j hj => by rw [wipe_get, if_neg hj]
theorem asg_ok {e : Expr} (h : nostar e = true) (es : List Expr) (env : PySem.Env) : assignEach (e :: es) env = (false, assign e env) :: assignEach es env := by
  cases e <;> first | rfl | cases h
theorem asgs_ok : ∀ {es : List Expr}, es.all nostar = true → ∀ (env : PySem.Env), (assignEach es env).length = es.length ∧ (assignEach es env).findIdx? (·.1) = none
  | [], _, _ => ⟨rfl, rfl⟩
  | e :: es, h, env => by
    rw [List.all_cons, Bool.and_eq_true] at h
    obtain ⟨h1, h2⟩ := asgs_ok h.2 env
    rw [asg_ok h.1]
    exact ⟨by simp [h1], by simp [List.findIdx?_cons, h2]⟩
/-- an own target -/
def LGo (L : Lk) (own : List Nat) (wp : D → XD → Mn.Env → Hm → (Mn.Env → Hm → Prop) → Prop) : TG := fun v σ H Q => ∃ d r m Xd P, REnv L.F H r σ ∧ Rel L m H ∧ Rp L.F H d v ∧ wp d Xd r m P ∧
  ∀ r2 m2 σ2 H2, P r2 m2 → REnv L.F H2 r2 σ2 → Rel L m2 H2 → Kp H H2 → L2.wipe σ2 own = L2.wipe σ own → Q σ2 H2
def LGos (L : Lk) (own : List Nat) (wp : List D → XD → Mn.Env → Hm → (Mn.Env → Hm → Prop) → Prop) : TGs := fun v σ H Q => ∃ d r m Xd P, REnv L.F H r σ ∧ Rel L m H ∧ Rps L.F H d v ∧ d.length = v.length ∧ wp d Xd r m P ∧
  ∀ r2 m2 σ2 H2, P r2 m2 → REnv L.F H2 r2 σ2 → Rel L m2 H2 → Kp H H2 → L2.wipe σ2 own = L2.wipe σ own → Q σ2 H2
structure OwnX (L : Lk) (N : List Str) (scope : Scope) (Y : Cx) : Prop where
  k : Y.K = L.F
  nn : Y.N = N
  nd : N.Nodup
  calm : Y.calm = true
  loc : ∀ x, Mn.loc scope x = true → Loc Y.env.scope x ∧ (Y.fn x = true ∨ Y.env.scope.names.lookup x = some .local)
mutual
theorem own_t {g : Sg} {own : List Nat} {scope : Scope} {Y : Cx} (o : OwnX L N scope Y) : ∀ (tg : T) (pe : Expr), mTo N scope own tg pe = true → PG Y pe (LGo L own (wpT g tg))
  | .nm i, pe, hm => by
    simp only [mTo] at hm
    split at hm
    · simp only [Bool.and_eq_true, decide_eq_true_eq] at hm
      obtain ⟨⟨h1, h2⟩, h3⟩ := hm
      refine PG.weak (pg_name (i := i) (by rw [o.nn]; exact o.nd) (by rw [o.nn]; exact h1) (o.loc _ h3).1 (o.loc _ h3).2) fun v σ H Q ⟨d, r, m, Xd, P, re, rel, rv, hw, q⟩ => ?_
      exact q _ _ _ _ hw (re.set i rv) rel (.refl H) (wipe_set h2)
    · cases hm
  | .tp ts, pe, hm => by
    simp only [mTo] at hm
    split at hm
    · simp only [Bool.and_eq_true] at hm
      have h := pg_unp (pos := ‹Pos›) (k := ‹Nat›) (by exact o.calm) (own_ts (g := g) o ts _ hm.1) (asgs_ok hm.2 _).1 (asgs_ok hm.2 _).2
      rw [o.k] at h
      refine PG.weak h fun v σ H Q ⟨d, r, m, Xd, P, re, rel, rv, hw, q⟩ => ?_
      cases rv with
      | @tup ds a vs sa ra =>
        have hw : ds.length = lenT ts ∧ wpTs g ts ds Xd r m P := hw
        exact ⟨a, vs, rfl, .inl sa.sq, by rw [← ra.length, hw.1, mTos_len ts _ hm.1], ds, r, m, Xd, P, re, rel, ra, ra.length, hw.2, q⟩
      | ref a =>
        have hw : (match m a with
          | some (.lst ds) => ds.length = lenT ts ∧ wpTs g ts ds Xd r m P
          | _ => False) := hw
        cases e : m a with
        | none => rw [e] at hw; exact hw.elim
        | some o2 => cases o2 with
          | lst ds =>
            rw [e] at hw
            obtain ⟨vs, hv, ra⟩ := rel _ _ e
            exact ⟨a, vs, rfl, .inr (SqL.of hv), by rw [← ra.length, hw.1, mTos_len ts _ hm.1], ds, r, m, Xd, P, re, rel, ra, ra.length, hw.2, q⟩
          | _ => rw [e] at hw; exact hw.elim
      | _ => exact hw.elim
    · cases hm
  | .at_ _ _, _, hm => by simp [mTo] at hm
  | .sb _ _, _, hm => by simp [mTo] at hm
theorem own_ts {g : Sg} {own : List Nat} {scope : Scope} {Y : Cx} (o : OwnX L N scope Y) : ∀ (ts : Ts) (ps : List Expr), mTos N scope own ts ps = true → PGs Y ps (LGos L own (wpTs g ts))
  | .nil, [], _ => PGs.weak pgs_nil fun v σ H Q ⟨d, r, m, Xd, P, re, rel, rv, hl, hw, q⟩ => by
    cases rv with
    | nil => exact ⟨rfl, q r m σ H hw re rel (.refl H) rfl⟩
    | cons _ _ => exact hw.elim
  | .nil, _ :: _, hm => by simp [mTos] at hm
  | .cons _ _, [], hm => by simp [mTos] at hm
  | .cons tg ts, p :: ps, hm => by
    simp only [mTos, Bool.and_eq_true] at hm
    have hns : nostar p = true := by cases p <;> first | rfl | (cases tg <;> simp [mTo] at hm)
    refine PGs.weak (pgs_cons (own_t (g := g) o tg p hm.1) (own_ts (g := g) o ts ps hm.2) (by rw [asg_ok hns]; rfl)) fun v σ H Q ⟨d, r, m, Xd, P, re, rel, rv, hl, hw, q⟩ => ?_
    cases rv with
    | nil => exact hw.elim
    | @cons d1 v1 ds vs r1 rr =>
      have hw : wpT g tg d1 Xd r m (fun r1 m1 => wpTs g ts ds Xd r1 m1 P) := hw
      exact ⟨v1, vs, rfl, d1, r, m, Xd, _, re, rel, r1, hw, fun r2 m2 σ2 H2 hp re2 rel2 k2 hwp => ⟨ds, r2, m2, Xd, P, re2, rel2, rr.mono k2, rr.length, hp, fun r3 m3 σ3 H3 hp3 re3 rel3 k3 hw3 => q r3 m3 σ3 H3 hp3 re3 rel3 (k2.trans k3) (hw3.trans hwp)⟩⟩
theorem mTos_len {own : List Nat} {scope : Scope} : ∀ (ts : Ts) (ps : List Expr), mTos N scope own ts ps = true → lenT ts = ps.length
  | .nil, [], _ => rfl
  | .nil, _ :: _, hm => by simp [mTos] at hm
  | .cons _ _, [], hm => by simp [mTos] at hm
  | .cons _ ts, _ :: ps, hm => by
    simp only [mTos, Bool.and_eq_true] at hm
    simp only [lenT, List.length_cons, mTos_len ts ps hm.2]
end
end
end Mn
end

section
set_option Elab.async false
set_option linter.all false
set_option maxRecDepth 100000
set_option maxHeartbeats 4000000
/-! Mn, part M: comprehensions, all expressions. -/
namespace Mn
open PySem PySem.Spec PyProof.Rows L2 RZ
section
variable {exc : Nat → Option Addr} {L : Lk} {t : Tab} {n : Dn} {C : Nm} {N : List Str} {sc : Scope} {X : Cx} {W : WX}
theorem takesN {Y : Cx} : L2N.Takes Y (fun _ _ _ _ => False) := fun _ _ ⟨_, _, _, _, _, _, _, _, _, _, _, _, _, _, _, _, w⟩ => w.elim
/-- a comprehension stands in no except suite -/
theorem comp_cold {elt : E} {tg : T} {it : I} {cond : O} {own : List Nat} {pe : Expr} (hm : mE C N (.comp elt tg it cond own) sc pe = true) : (!C.hot) = true := by
  unfold mE at hm
  split at hm
  · simp only [Bool.and_eq_true] at hm
    exact hm.1.1.1.1.1.1.1
  · cases hm
theorem xlN {H : Hp} : XL exc L (fun _ _ _ _ => False) H XF := fun _ _ _ _ _ _ h _ _ _ _ => h.elim
theorem lookup_map (f : Str → NameKind → NameKind) : ∀ (l : List (Str × NameKind)) (x : Str), (l.map fun p => (p.1, f p.1 p.2)).lookup x = (l.lookup x).map (f x)
  | [], _ => rfl
  | (a, k) :: l, x => by
    simp only [List.map_cons, List.lookup]
    cases h : x == a with
    | true => rw [beq_iff_eq] at h; subst h; rfl
    | false => exact lookup_map f l x
def relF (sc : Scope) (n : Str) (k : NameKind) : NameKind := if (k == .free && sc.kind == .function && sc.names.lookup n == some .cell) then NameKind.cell else k
theorem relS_names (scope sc : Scope) : (relS scope sc).names = scope.names.map fun p => (p.1, relF sc p.1 p.2) := by
  unfold relS
  apply List.map_congr_left
  rintro ⟨a, k⟩ _
  unfold relF
  dsimp only
  split <;> rfl
theorem loc_blk {scope sc : Scope} {x : Str} (h : loc scope x = true) : Loc (relS scope sc) x ∧ ((scope.names.lookup x == some .cell) = true ∨ (relS scope sc).names.lookup x = some .local) := by
  unfold Mn.loc at h
  unfold L2.Loc
  rw [relS_names, lookup_map (relF sc)]
  split at h
  · rename_i e; rw [e]; exact ⟨.inl rfl, .inr rfl⟩
  · rename_i e; rw [e]; exact ⟨.inr rfl, .inl rfl⟩
  · cases h
theorem own_snd (own : List Nat) : (ownP N own).map (·.2) = own := by simp [ownP, List.map_map, Function.comp_def]
theorem Sta.of {Y : Cx} (a : Sta exc L t n C X) (e1 : Y.prog = X.prog) (e2 : Y.w = X.w) (e3 : Y.K = X.K) (e4 : Y.mg = X.mg) (e5 : Y.base = X.base) : Sta exc L t n C Y := by
  cases X; cases Y
  cases e1; cases e2; cases e3; cases e4; cases e5
  exact { k := a.k, w := a.w, nm := a.nm, inj := a.inj, okL := a.okL, fldL := a.fldL, okF := a.okF, blt := a.blt, con := a.con, fn := a.fn, fnh := a.fnh, met := a.met, mke := a.mke, cls := a.cls, att := a.att, exs := a.exs, exg := a.exg, exr := a.exr }
section
variable (cx : Ctx exc L t n C N sc X) (hh : n.hx = none)
include cx hh
theorem Ctx.blk (s : Shared) (H : Hp) (scope : Scope) (C1 : Addr) (cl : List (Str × Addr)) (fp : List Addr) : Ctx exc L t n C N (relS scope sc) (X.blk s H scope (compEnvC scope cl C1 X.env) fp) where
  sta := cx.sta.of rfl rfl rfl rfl rfl
  nn := cx.nn
  sc := by rw [← cx.sc]; rfl
  nd := cx.nd
  hot := cx.hot
  calm := cx.calm
  room := cx.room
  roomH := cx.roomH
  own := PassesOwn.never
  hld := fun h e => by rw [hh] at e; cases e
theorem Ctx.ownX (s : Shared) (H : Hp) (scope : Scope) (C1 : Addr) (cl : List (Str × Addr)) (fp : List Addr) : OwnX L N scope (X.blk s H scope (compEnvC scope cl C1 X.env) fp) where
  k := cx.sta.k
  nn := cx.nn
  nd := cx.nd
  calm := cx.calm hh
  loc := fun x h => by
    have h2 := loc_blk (sc := sc) h
    rw [← cx.sc] at h2
    exact h2
end
def tCond (exc : Nat → Option Addr) (L : Lk) (t : Tab) (n : Dn) : O → TT
  | .no => tYes
  | .yes c => LB exc L (fun _ _ _ _ => False) (wpE (sgh t n) c)
def condW (g : Sg) (elt : E) (cond : O) (Q1 : PD) (Q2 : Hm → Prop) (r3 : Mn.Env) (m3 : Hm) : Prop := match cond with
  | .no => wpE g elt XF r3 m3 Q1
  | .yes t => wpE g t XF r3 m3 fun y m4 => ∃ b, truth m4 y = some b ∧ if b = true then wpE g elt XF r3 m4 Q1 else Q2 m4
theorem wpE_comp {g : Sg} {elt : E} {tg : T} {it : I} {cond : O} {own : List Nat} {Xd : XD} {r : Mn.Env} {m : Hm} {P : PD} : wpE g (.comp elt tg it cond own) Xd r m P = wpI g it Xd r m fun xs st m1 => ∀ p, m1 p = none →
      compW p st (fun x m2 Q1 Q2 => wpT g tg x XF (Mn.wipe r own) m2 fun r3 m3 => condW g elt cond Q1 Q2 r3 m3) (fun m2 => P (.ref p) m2) xs (up m1 p (.lst [])) := by
  cases cond <;> rfl
theorem cond_ok {elt : E} {cond : O} {σ : L2.St} {H : Hp} {r : Mn.Env} {m : Hm} {Q1 : PD} {Q2 : Hm → Prop} {R1 : VK} {R2 : Hp → Prop} (re : REnv L.F H r σ) (rel : Rel L m H) (h : condW (sgh t n) elt cond Q1 Q2 r m)
    (k1 : Kt L H Q1 R1) (k2 : ∀ m2 H2, Q2 m2 → Rel L m2 H2 → Kp H H2 → R2 H2) :
    tCond exc L t n cond σ H fun b H3 => if b = true then LE exc L (fun _ _ _ _ => False) (wpE (sgh t n) elt) σ H3 R1 else R2 H3 := by
  cases cond with
  | no => exact ⟨r, m, Q1, XF, re, rel, h, k1, xlN⟩
  | yes c =>
    refine ⟨r, m, fun y m4 => ∃ b, truth m4 y = some b ∧ if b = true then wpE (sgh t n) elt XF r m4 Q1 else Q2 m4, XF, re, rel, h, fun x m2 v H2 ⟨b, hb, h2⟩ rv rel2 kp => ⟨b, hb, ?_⟩, xlN⟩
    cases b with
    | true => exact ⟨r, m2, Q1, XF, re.mono kp, rel2, h2, k1.mono kp, xlN⟩
    | false => exact k2 m2 H2 h2 rel2 kp
theorem up_D {m : Hm} {H : Hp} {D : Addr} {acc : List Mn.D} {y : Mn.D} {v : V} (rel : Rel L m H) (e : m D = some (.lst acc)) (ry : Rp L.F H y v) : ∃ ws, H D = some (.lst ws) ∧ ws.length = acc.length ∧ Kp H (upd H D (.lst (ws ++ [v]))) ∧ Rel L (up m D (.lst (acc ++ [y]))) (upd H D (.lst (ws ++ [v]))) := by
  obtain ⟨ws, h1, h2⟩ := rel _ _ e
  exact ⟨ws, h1, h2.length.symm, .over h1 trivial, rel.lst h1 (h2.append (.cons ry .nil))⟩
theorem lc_parts {elt : E} {tg : T} {it : I} {cond : O} (own : List Nat) (ge : GoE exc L t n C N elt) (gi : GoI exc L t n C N it) (gc : ∀ c, cond = .yes c → GoE exc L t n C N c) {pe : Expr} (hm : mE C N (.comp elt tg it cond own) sc pe = true) (cx : Ctx exc L t n C N sc X) (tk : L2N.Takes X W) :
    ∃ pelt ptg pit pifs scope pos wi gg tt te, pe = .ListComp pelt [⟨ptg, pit, pifs, 0⟩] scope pos ∧ PI X ptg pit wi ∧ BlkOk X.N X.env.scope scope (ownP N own) ∧
      (∀ (s : Shared) (H : Hp) (C1 : Addr) (cl : List (Str × Addr)) (fp : List Addr), PG (X.blk s H scope (compEnvC scope cl C1 X.env) fp) ptg gg) ∧ (∀ (s : Shared) (H : Hp) (C1 : Addr) (cl : List (Str × Addr)) (fp : List Addr), PTs (X.blk s H scope (compEnvC scope cl C1 X.env) fp) pifs tt) ∧
      (∀ (s : Shared) (H : Hp) (C1 : Addr) (cl : List (Str × Addr)) (fp : List Addr), PE (X.blk s H scope (compEnvC scope cl C1 X.env) fp) pelt te) ∧ (∀ x, foldedSetIterable pit X.env x = pure x) ∧
      ∀ σ H Q, LE exc L W (wpE (sgh t n) (.comp elt tg it cond own)) σ H Q → tLc wi gg tt te ((ownP N own).map (·.2)) σ H Q := by
  have hh := cx.cold (comp_cold hm)
  unfold mE at hm
  split at hm
  · rename_i pelt ptg pit pifs z scope pos
    simp only [Bool.and_eq_true, decide_eq_true_eq] at hm
    obtain ⟨⟨⟨⟨⟨⟨⟨_, h0⟩, h1⟩, h2⟩, h3⟩, h4⟩, h5⟩, h6⟩ := hm
    subst h0
    have bo := blkOk_by h2
    have hts : ∀ (s : Shared) (H : Hp) (C1 : Addr) (cl : List (Str × Addr)) (fp : List Addr), PTs (X.blk s H scope (compEnvC scope cl C1 X.env) fp) pifs (tCond exc L t n cond) := fun s H C1 cl fp => by
      split at h6
      · exact pts_nil
      · exact pts_one ((gc _ rfl) _ _ _ _ h6 (cx.blk hh s H scope C1 cl fp) takesN).2
      · cases h6
    refine ⟨pelt, ptg, pit, pifs, scope, pos, _, _, _, _, rfl, gi _ _ _ _ _ h3 cx tk, by rw [cx.nn, cx.sc]; exact bo,
      fun s H C1 cl fp => own_t (g := sgh t n) (cx.ownX hh s H scope C1 cl fp) tg ptg h4, hts, fun s H C1 cl fp => (ge _ _ _ _ h5 (cx.blk hh s H scope C1 cl fp) takesN).1, fun x => fold_ok h1 _ x, ?_⟩
    rw [own_snd]
    rintro σ H Q ⟨r, m, P, Xd, re, rel, hw, q, xl⟩
    rw [wpE_comp] at hw
    refine ⟨r, m, _, Xd, re, rel, hw, fun xs st m1 J H1 hp ito rel1 k1 => ?_, xl⟩
    intro D hD
    have hp := hp D (rel1.free hD)
    have k0 : Kp H1 (upd H1 D (.lst [])) := .new hD
    refine ⟨fun i μ H2 => μ = xs.length - i ∧ i ≤ xs.length ∧ ∃ m2, Rel L m2 H2 ∧ Kp H1 H2 ∧
      compW D st (fun x m2 Q1 Q2 => wpT (sgh t n) tg x XF (Mn.wipe r own) m2 fun r3 m3 => condW (sgh t n) elt cond Q1 Q2 r3 m3) (fun m2 => P (.ref D) m2) (xs.drop i) m2,
      ⟨xs.length, by omega, Nat.zero_le _, _, rel1.put (o := .lst []) k0 ⟨[], upd_same, .nil⟩, k0, by rw [List.drop_zero]; exact hp⟩, ?_⟩
    rintro i μ H2 ⟨rfl, hi, m2, rel2, k2, hc⟩
    by_cases hlt : i < xs.length
    · rw [List.drop_eq_getElem_cons hlt] at hc
      obtain ⟨hst, hc⟩ := hc
      obtain ⟨g1, g2⟩ := ito.go i xs[i] m2 H2 (by simp [hlt]) rel2 hst k2
      refine .inr ⟨g1, fun H3 => ∃ μ', μ' = xs.length - (i + 1) ∧ i + 1 ≤ xs.length ∧ ∃ m2, Rel L m2 H3 ∧ Kp H1 H3 ∧
        compW D st (fun x m2 Q1 Q2 => wpT (sgh t n) tg x XF (Mn.wipe r own) m2 fun r3 m3 => condW (sgh t n) elt cond Q1 Q2 r3 m3) (fun m2 => P (.ref D) m2) (xs.drop (i + 1)) m2,
        fun H3 ⟨μ', e1, e2, e3⟩ => ⟨μ', by omega, e1, e2, e3⟩, fun x H3 hy => ?_⟩
      obtain ⟨rx, rel3, k3⟩ := g2 x H3 hy
      have kk := k1.trans (k2.trans k3)
      refine ⟨xs[i], Mn.wipe r own, m2, XF, _, (re.mono kk).wipe own, rel3, rx, hc, fun r4 m4 σ4 H4 hq re4 rel4 k4 hwp => ⟨hwp.trans wipe_wipe, ?_⟩⟩
      refine cond_ok re4 rel4 hq (fun y m5 v H5 hacc ry rel5 k5 => ?_) fun m5 H5 hn rel5 k5 => ?_
      · obtain ⟨acc, e, hl, hcc⟩ := hacc
        obtain ⟨ws, w1, w2, w3, w4⟩ := up_D rel5 e ry
        exact ⟨ws, w1, by rw [w2]; exact SZ_line hl, _, rfl, hlt, _, w4, k2.trans (k3.trans (k4.trans (k5.trans w3))), hcc⟩
      · exact ⟨_, rfl, hlt, m5, rel5, k2.trans (k3.trans (k4.trans k5)), hn⟩
    · have e : i = xs.length := by omega
      subst e
      rw [List.drop_length] at hc
      exact .inl ⟨ito.stop m2 H2 rel2 hc.1 k2, q _ _ _ _ hc.2 (.ref D) rel2 (k1.trans k2)⟩
  · cases hm
theorem g_comp {elt : E} {tg : T} {it : I} {cond : O} (own : List Nat) (ge : GoE exc L t n C N elt) (gi : GoI exc L t n C N it) (gc : ∀ c, cond = .yes c → GoE exc L t n C N c) : GoE exc L t n C N (.comp elt tg it cond own) := fun sc X W pe hm cx tk => by
  have hh := cx.cold (comp_cold hm)
  obtain ⟨pelt, ptg, pit, pifs, scope, pos, wi, gg, tt, te, rfl, p1, p2, p3, p4, p5, p6, p7⟩ := lc_parts own ge gi gc hm cx tk
  exact .of cx.k rfl (PE.weak (pe_lc (cx.calm hh) (by rw [cx.nn]; exact cx.nd) p1 p2 p3 p4 p5 p6) p7)
/-! ### a comprehension over a dict -/
theorem it_keys {kvs : List (Ky × Mn.D)} {kws : List (Key × V)} {od : Obj} {a : Addr} {Hx : Hp} (ha : Hx a = some (.frz od (.dK kws))) (r : KvR L.F Hx kyV kvs kws) : ItOk L Hx (Itk a od kws) (kvs.map fun kv => dOf kv.1) (fun _ => True) where
  stop := fun m H rel _ k => ⟨k.fz _ _ _ ha, by rw [List.length_map, r.len]; exact Nat.le_refl _⟩
  go := fun i x m H hx rel _ k => by
    have hi := (List.getElem?_eq_some_iff.mp hx).1
    rw [List.length_map, r.len] at hi
    refine ⟨⟨k.fz _ _ _ ha, hi⟩, fun v H2 ⟨e, kk, w, h1, h2⟩ => ?_⟩
    subst e h2
    obtain ⟨v, g1, g2⟩ := (keys_ok r).get hx
    rw [List.getElem?_map, h1] at g1
    cases g1
    exact ⟨g2.mono k, rel, .refl _⟩
theorem compD_cold {elt : E} {tg : T} {i : Nat} {cond : O} {own : List Nat} {pe : Expr} (hm : mE C N (.compD elt tg i cond own) sc pe = true) : (!C.hot) = true := by
  unfold mE at hm
  split at hm
  · simp only [Bool.and_eq_true] at hm
    exact hm.1.1.1.1.1.1
  · cases hm
theorem wpE_compD {g : Sg} {elt : E} {tg : T} {i : Nat} {cond : O} {own : List Nat} {Xd : XD} {r : Mn.Env} {m : Hm} {P : PD} : wpE g (.compD elt tg i cond own) Xd r m P = (∃ a kvs, vget r i = some (.ref a) ∧ m a = some (.dK kvs) ∧ ∀ p, m p = none →
      compW p (fun _ => True) (fun x m2 Q1 Q2 => wpT g tg x XF (Mn.wipe r own) m2 fun r3 m3 => condW g elt cond Q1 Q2 r3 m3) (fun m2 => P (.ref p) (up m2 a (.dK kvs))) (kvs.map fun kv => dOf kv.1) (up (up m a (.fz kvs)) p (.lst []))) := by
  cases cond <;> rfl
theorem lcD_parts {elt : E} {tg : T} {i : Nat} {cond : O} (own : List Nat) (ge : GoE exc L t n C N elt) (gc : ∀ c, cond = .yes c → GoE exc L t n C N c) {pe : Expr} (hm : mE C N (.compD elt tg i cond own) sc pe = true) (cx : Ctx exc L t n C N sc X) (tk : L2N.Takes X W) :
    ∃ pelt ptg pit pifs scope pos wi gg tt te, pe = .ListComp pelt [⟨ptg, pit, pifs, 0⟩] scope pos ∧ PI X ptg pit wi ∧ BlkOk X.N X.env.scope scope (ownP N own) ∧
      (∀ (s : Shared) (H : Hp) (C1 : Addr) (cl : List (Str × Addr)) (fp : List Addr), PG (X.blk s H scope (compEnvC scope cl C1 X.env) fp) ptg gg) ∧ (∀ (s : Shared) (H : Hp) (C1 : Addr) (cl : List (Str × Addr)) (fp : List Addr), PTs (X.blk s H scope (compEnvC scope cl C1 X.env) fp) pifs tt) ∧
      (∀ (s : Shared) (H : Hp) (C1 : Addr) (cl : List (Str × Addr)) (fp : List Addr), PE (X.blk s H scope (compEnvC scope cl C1 X.env) fp) pelt te) ∧ (∀ x, foldedSetIterable pit X.env x = pure x) ∧
      ∀ σ H Q, LE exc L W (wpE (sgh t n) (.compD elt tg i cond own)) σ H Q → tLockE (tLc wi gg tt te ((ownP N own).map (·.2))) σ H Q := by
  have hh := cx.cold (compD_cold hm)
  unfold mE at hm
  split at hm
  · rename_i pelt ptg x xp pifs z scope pos
    simp only [Bool.and_eq_true, decide_eq_true_eq] at hm
    obtain ⟨⟨⟨⟨⟨⟨_, h0⟩, h2⟩, ⟨⟨n1, n2⟩, n3⟩⟩, h4⟩, h5⟩, h6⟩ := hm
    subst h0
    have bo := blkOk_by h2
    have hts : ∀ (s : Shared) (H : Hp) (C1 : Addr) (cl : List (Str × Addr)) (fp : List Addr), PTs (X.blk s H scope (compEnvC scope cl C1 X.env) fp) pifs (tCond exc L t n cond) := fun s H C1 cl fp => by
      split at h6
      · exact pts_nil
      · exact pts_one ((gc _ rfl) _ _ _ _ h6 (cx.blk hh s H scope C1 cl fp) takesN).2
      · cases h6
    refine ⟨pelt, ptg, .Name x xp, pifs, scope, pos, _, _, _, _, rfl, pi_keys (pe_var (i := i) (by rw [cx.nn]; exact n1) (cx.vis n2) (okx_d n3).1 (okx_d n3).2), by rw [cx.nn, cx.sc]; exact bo,
      fun s H C1 cl fp => own_t (g := sgh t n) (cx.ownX hh s H scope C1 cl fp) tg ptg h4, hts, fun s H C1 cl fp => (ge _ _ _ _ h5 (cx.blk hh s H scope C1 cl fp) takesN).1, fun x => fold_ok rfl _ x, ?_⟩
    rw [own_snd]
    rintro σ H Q ⟨r, m, P, Xd, re, rel, hw, q, xl⟩
    rw [wpE_compD] at hw
    obtain ⟨a, kvs, hv, hma, hp⟩ := hw
    obtain ⟨v, hv2, rv⟩ := re.2 _ _ hv
    obtain ⟨kws, ha, r0⟩ := rel _ _ hma
    cases rv
    refine ⟨a, .dK kws, ha, trivial, fun od => ?_⟩
    refine ⟨.ref a, hv2, a, od, rfl, .inl ⟨kws, upd_same, ?_⟩⟩
    have kl : Kp H (upd H a (.frz od (.dK kws))) := .lock ha
    have rel1 : Rel L (up m a (.fz kvs)) (upd H a (.frz od (.dK kws))) := rel.lock ha r0
    have re1 := re.mono kl
    have r1 := r0.mono kl
    have ito : ItOk L (upd H a (.frz od (.dK kws))) (Itk a od kws) (kvs.map fun kv => dOf kv.1) (fun _ => True) := it_keys upd_same r1
    generalize hx9 : (kvs.map fun kv => dOf kv.1) = xs at hp ito
    have hfa : (upd H a (.frz od (.dK kws))) a = some (.frz od (.dK kws)) := upd_same
    have hfr : ∀ D, (upd H a (.frz od (.dK kws))) D = none → H D = none := fun D hD => by
      rw [upd_ne (fun z => by rw [z, hfa] at hD; cases hD)] at hD
      exact hD
    have hth : ∀ (o : HO) (H2 : Hp), Kp (upd H a (.frz od (.dK kws))) H2 → Kp H (upd H2 a o) := fun o H2 k => .through ha k
    generalize upd H a (.frz od (.dK kws)) = H1 at rel1 re1 r1 ito hfa hfr hth ⊢
    intro D hD
    have hp := hp D (rel.free (hfr D hD))
    have k0 : Kp H1 (upd H1 D (.lst [])) := .new hD
    refine ⟨fun i μ H2 => μ = xs.length - i ∧ i ≤ xs.length ∧ ∃ m2, Rel L m2 H2 ∧ Kp H1 H2 ∧
      compW D (fun _ => True) (fun x m2 Q1 Q2 => wpT (sgh t n) tg x XF (Mn.wipe r own) m2 fun r3 m3 => condW (sgh t n) elt cond Q1 Q2 r3 m3) (fun m2 => P (.ref D) (up m2 a (.dK kvs))) (xs.drop i) m2,
      ⟨xs.length, by omega, Nat.zero_le _, _, rel1.put (o := .lst []) k0 ⟨[], upd_same, .nil⟩, k0, by rw [List.drop_zero]; exact hp⟩, ?_⟩
    rintro i μ H2 ⟨rfl, hi, m2, rel2, k2, hc⟩
    by_cases hlt : i < xs.length
    · rw [List.drop_eq_getElem_cons hlt] at hc
      obtain ⟨hst, hc⟩ := hc
      obtain ⟨g1, g2⟩ := ito.go i xs[i] m2 H2 (by simp [hlt]) rel2 hst k2
      refine .inr ⟨g1, fun H3 => ∃ μ', μ' = xs.length - (i + 1) ∧ i + 1 ≤ xs.length ∧ ∃ m2, Rel L m2 H3 ∧ Kp H1 H3 ∧
        compW D (fun _ => True) (fun x m2 Q1 Q2 => wpT (sgh t n) tg x XF (Mn.wipe r own) m2 fun r3 m3 => condW (sgh t n) elt cond Q1 Q2 r3 m3) (fun m2 => P (.ref D) (up m2 a (.dK kvs))) (xs.drop (i + 1)) m2,
        fun H3 ⟨μ', e1, e2, e3⟩ => ⟨μ', by omega, e1, e2, e3⟩, fun x H3 hy => ?_⟩
      obtain ⟨rx, rel3, k3⟩ := g2 x H3 hy
      have kk := k2.trans k3
      refine ⟨xs[i], Mn.wipe r own, m2, XF, _, (re1.mono kk).wipe own, rel3, rx, hc, fun r4 m4 σ4 H4 hq re4 rel4 k4 hwp => ⟨hwp.trans wipe_wipe, ?_⟩⟩
      refine cond_ok re4 rel4 hq (fun y m5 v H5 hacc ry rel5 k5 => ?_) fun m5 H5 hn rel5 k5 => ?_
      · obtain ⟨acc, e, hl, hcc⟩ := hacc
        obtain ⟨ws, w1, w2, w3, w4⟩ := up_D rel5 e ry
        exact ⟨ws, w1, by rw [w2]; exact SZ_line hl, _, rfl, hlt, _, w4, k2.trans (k3.trans (k4.trans (k5.trans w3))), hcc⟩
      · exact ⟨_, rfl, hlt, m5, rel5, k2.trans (k3.trans (k4.trans k5)), hn⟩
    · have e : i = xs.length := by omega
      subst e
      rw [List.drop_length] at hc
      have hf2 := k2.fz _ _ _ hfa
      exact .inl ⟨ito.stop m2 H2 rel2 hc.1 k2, hf2, q _ _ _ _ hc.2 (.ref D) (rel2.unlock hf2 (r1.mono k2)) (hth _ _ k2)⟩
  · cases hm
theorem g_compD {elt : E} {tg : T} {i : Nat} {cond : O} (own : List Nat) (ge : GoE exc L t n C N elt) (gc : ∀ c, cond = .yes c → GoE exc L t n C N c) : GoE exc L t n C N (.compD elt tg i cond own) := fun sc X W pe hm cx tk => by
  have hh := cx.cold (compD_cold hm)
  obtain ⟨pelt, ptg, pit, pifs, scope, pos, wi, gg, tt, te, rfl, p1, p2, p3, p4, p5, p6, p7⟩ := lcD_parts own ge gc hm cx tk
  exact .of cx.k rfl (PE.weak (pe_lock (pe_lc (cx.calm hh) (by rw [cx.nn]; exact cx.nd) p1 p2 p3 p4 p5 p6)) p7)
/-! ### f'..', {k: v, ..} -/
def GoJ (exc : Nat → Option Addr) (L : Lk) (t : Tab) (n : Dn) (C : Nm) (N : List Str) (e : Es) : Prop := ∀ (sc : Scope) (X : Cx) (W : WX) (ps : List Expr), mJs C N e sc ps = true → Ctx exc L t n C N sc X → L2N.Takes X W → ∃ ts, PJ X ps ts ∧
  ∀ acc r m P Xd σ H Q, REnv L.F H r σ → Rel L m H → wpJ (sgh t n) e acc Xd r m P → Kt L H P Q → XL exc L W H Xd → tJs ts (toS acc) σ H fun out H1 => Q (.str out) H1
theorem g_jnil : GoJ exc L t n C N .nil := fun sc X W ps hm cx tk => by
  simp only [mJs, List.isEmpty_iff] at hm
  subst hm
  exact ⟨[], .nil, fun acc r m P Xd σ H Q re rel hw q xl => q.here hw (.str acc) rel⟩
theorem g_jcons {e : E} {es : Es} (ge : GoE exc L t n C N e) (gj : GoJ exc L t n C N es) : GoJ exc L t n C N (.cons e es) := fun sc X W ps hm cx tk => by
  cases ps with
  | nil => simp [mJs] at hm
  | cons p ps =>
    simp only [mJs, Bool.and_eq_true] at hm
    obtain ⟨hm1, hm2⟩ := hm
    obtain ⟨ts, hpj, hk⟩ := gj _ _ _ _ hm1 cx tk
    split at hm2
    · simp only [Bool.and_eq_true, decide_eq_true_eq] at hm2
      obtain ⟨hc, he⟩ := hm2
      subst hc
      refine ⟨_ :: ts, .cons (pe_fmt (ge _ _ _ _ he cx tk).1) hpj, fun acc r m P Xd σ H Q re rel hw q xl => ?_⟩
      refine ⟨r, m, fun d m1 => ∃ s, fmtD d = some s ∧ acc.length + s.length ≤ SZ ∧ wpJ (sgh t n) es (acc ++ s) Xd r m1 P, Xd, re, rel, hw, fun d m2 v H2 ⟨s, h1, h2, h3⟩ rv rel2 k2 => ?_, xl⟩
      have fin : ∃ y : Str, V.str (toS s) = .str y ∧ (toS acc ++ y).length ≤ sizeLine ∧ tJs ts (toS acc ++ y) σ H2 fun out H1 => Q (.str out) H1 := by
        refine ⟨toS s, rfl, ?_, ?_⟩
        · rw [toS_app, toS_len, List.length_append]
          exact SZ_line h2
        · rw [toS_app]
          exact hk _ r m2 P Xd σ H2 Q (re.mono k2) rel2 h3 (q.mono k2) (xl.mono k2)
      cases rv with
      | str s2 =>
        have h1 : (if s2.length ≤ SZ then some s2 else none) = some s := h1
        split at h1
        · rename_i hz
          have e2 : s = s2 := (Option.some.inj h1).symm
          subst e2
          exact .inl ⟨toS s, rfl, by rw [toS_len]; exact SZ_line hz, fin⟩
        · cases h1
      | int i =>
        have h1 : (if i.natAbs.log2 < 1920 then some (digitsT i) else none) = some s := h1
        split at h1
        · rename_i hz
          cases h1
          refine .inr ⟨i, rfl, hz, ?_⟩
          have e2 := digits_ok i
          show ∃ y : Str, V.str (Str.ofString (toString i)) = .str y ∧ _
          rw [e2]
          exact fin
        · cases h1
      | _ => simp [fmtD] at h1
    · simp only [Bool.and_eq_true] at hm2
      obtain ⟨h1, he⟩ := hm2
      refine ⟨_ :: ts, .cons (ge _ _ _ _ he cx tk).1 hpj, fun acc r m P Xd σ H Q re rel hw q xl => ?_⟩
      cases e with
      | txt s =>
        have h1 : decide (s.length ≤ SZ) = true := h1
        have hw : ∃ s2, fmtD (.str s) = some s2 ∧ acc.length + s2.length ≤ SZ ∧ wpJ (sgh t n) es (acc ++ s2) Xd r m P := hw
        obtain ⟨s2, w1, w2, w3⟩ := hw
        have e2 : s2 = s := by
          have w1 : (if s.length ≤ SZ then some s else none) = some s2 := w1
          rw [if_pos (of_decide_eq_true h1)] at w1
          exact (Option.some.inj w1).symm
        subst e2
        refine ⟨r, m, fun d m1 => d = .str s2 ∧ wpJ (sgh t n) es (acc ++ s2) Xd r m1 P, Xd, re, rel, ⟨rfl, w3⟩, fun d m2 v H2 ⟨h1, h3⟩ rv rel2 k2 => ?_, xl⟩
        subst h1
        cases rv
        refine ⟨toS s2, rfl, ?_, ?_⟩
        · rw [toS_app, toS_len, List.length_append]
          exact SZ_line w2
        · rw [toS_app]
          exact hk _ r m2 P Xd σ H2 Q (re.mono k2) rel2 h3 (q.mono k2) (xl.mono k2)
      | _ => cases h1
theorem g_fstr {es : Es} (gj : GoJ exc L t n C N es) : GoE exc L t n C N (.fstr es) := fun sc X W pe hm cx tk => by
  simp only [mE] at hm
  split at hm
  · rename_i ps pos
    simp only [Bool.and_eq_true, decide_eq_true_eq] at hm
    obtain ⟨h1, h2⟩ := hm
    obtain ⟨ts, hpj, hk⟩ := gj _ _ _ _ h2 cx tk
    match ps, h1, hpj with
    | v1 :: v2 :: rest, _, hpj => exact .of cx.k rfl (PE.weak (pe_joined hpj) fun σ H Q ⟨r, m, P, Xd, re, rel, hw, q, xl⟩ => hk [] r m P Xd σ H Q re rel hw q xl)
  · cases hm
def GoD (exc : Nat → Option Addr) (L : Lk) (t : Tab) (n : Dn) (C : Nm) (N : List Str) (e : Es) : Prop := ∀ (ks : List Ky) (sc : Scope) (X : Cx) (W : WX) (kes : List (Option Expr)) (ves : List Expr) (pos : Pos), mKs ks kes = true → mEs C N e sc ves = true → ves.length = ks.length → Ctx exc L t n C N sc X → L2N.Takes X W →
  ∃ trs, PPs X pos kes ves trs ∧ kes.length = ks.length ∧ kes.all (·.isSome) = true ∧ ∀ r m P Xd σ H Q, REnv L.F H r σ → Rel L m H → wpEs (sgh t n) e Xd r m P →
    (∀ ds m2 vs H2, P ds m2 → Rps L.F H2 ds vs → Rel L m2 H2 → Kp H H2 → Q ((ks.map fun k => kV (kyV k)).zip vs) H2) → XL exc L W H Xd → tPairs trs σ H Q
theorem g_dnil : GoD exc L t n C N .nil := fun ks sc X W kes ves pos h1 h2 h3 cx tk => by
  simp only [mEs, List.isEmpty_iff] at h2
  subst h2
  obtain rfl : ks = [] := List.length_eq_zero_iff.mp h3.symm
  simp only [mKs, List.isEmpty_iff] at h1
  subst h1
  exact ⟨[], pps_nil, rfl, rfl, fun r m P Xd σ H Q re rel hw q xl => q [] m [] H hw .nil rel (.refl H)⟩
theorem g_dcons {e : E} {es : Es} (ge : GoE exc L t n C N e) (gd : GoD exc L t n C N es) : GoD exc L t n C N (.cons e es) := fun ks sc X W kes ves pos h1 h2 h3 cx tk => by
  cases ves with
  | nil => simp [mEs] at h2
  | cons p ps =>
    cases ks with
    | nil => simp at h3
    | cons k ks =>
      simp only [mKs] at h1
      split at h1
      · rename_i pk pks
        simp only [mEs, Bool.and_eq_true] at h1 h2
        obtain ⟨trs, g1, g2, g3, g4⟩ := gd ks sc X W pks ps pos h1.2 h2.2 (by simpa using h3) cx tk
        have hv := (ge _ _ _ _ h2.1 cx tk).1
        have hkey : PE X pk (fun σ H Q => Q (kV (kyV k)) H) := by
          have h1 := h1.1
          split at h1
          · have h1 := of_decide_eq_true h1
            subst h1
            exact pe_int
          · have h1 := of_decide_eq_true h1
            subst h1
            exact pe_str
          · cases h1
        refine ⟨_ :: trs, pps_cons hkey hv g1, by simp [g2], by simp only [List.all_cons, g3]; rfl, fun r m P Xd σ H Q re rel hw q xl => ?_⟩
        show (LE exc L W (wpE (sgh t n) e)) σ H _
        refine ⟨r, m, fun d m1 => wpEs (sgh t n) es Xd r m1 fun ds m2 => P (d :: ds) m2, Xd, re, rel, hw, fun d m2 v H2 hp rv rel2 k2 => ?_, xl⟩
        refine g4 r m2 _ Xd σ H2 _ (re.mono k2) rel2 hp (fun ds m3 vs H3 hp3 rs rel3 k3 => ?_) (xl.mono k2)
        exact q (d :: ds) m3 (v :: vs) H3 hp3 (.cons (rv.mono k3) rs) rel3 (k2.trans k3)
      · cases h1
theorem zip_kv {H : Hp} : ∀ {ks : List Ky} {ds : List Mn.D} {vs : List V}, Rps L.F H ds vs → KvR L.F H kyV (ks.zip ds) ((ks.map kyV).zip vs)
  | [], _, _, _ => .nil
  | _ :: _, _, _, .nil => .nil
  | k :: ks, _, _, .cons r rs => .cons ⟨rfl, r⟩ (zip_kv rs)
theorem zip_kV : ∀ {ks : List Ky} {vs : List V}, ((ks.map fun k => kV (kyV k)).zip vs) = ((ks.map kyV).zip vs).map fun kv => (kV kv.1, kv.2)
  | [], _ => rfl
  | _ :: _, [] => rfl
  | k :: ks, v :: vs => by
    simp only [List.map_cons, List.zip_cons_cons]
    rw [zip_kV (ks := ks) (vs := vs)]
theorem g_dctD {ks : List Ky} {es : Es} (gd : GoD exc L t n C N es) : GoE exc L t n C N (.dctD ks es) := fun sc X W pe hm cx tk => by
  simp only [mE] at hm
  split at hm
  · rename_i kes ves pos
    simp only [Bool.and_eq_true, decide_eq_true_eq] at hm
    obtain ⟨⟨⟨⟨h1, h2⟩, h3⟩, h4⟩, h5⟩ := hm
    obtain ⟨trs, g1, g2, g3, g4⟩ := gd ks sc X W kes ves pos h3 h5 h4 cx tk
    refine .of cx.k rfl (PE.weak (pe_disp g1 g3 (by rw [g2, h4]) (fun z => h1 (List.length_eq_zero_iff.mp (by rw [← g2, z]; rfl))) (by rw [g2]; exact h2)) fun σ H Q ⟨r, m, P, Xd, re, rel, hw, q, xl⟩ => fun p hp => ?_)
    have kn : Kp H (upd H p (.dK [])) := .new hp
    refine g4 r (up m p (.dK [])) _ Xd σ _ _ (re.mono kn) (rel.put (o := .dK []) kn ⟨[], upd_same, .nil⟩) (hw p (rel.free hp)) (fun ds m2 vs H2 ⟨w1, w2⟩ rs rel2 k2 => ?_) (xl.mono kn)
    obtain ⟨kws, e1, e2⟩ := rel2 _ _ w1
    cases e2
    have ko : Kp H2 (upd H2 p (.dK (mergeK [] ((ks.map kyV).zip vs)))) := .over e1 trivial
    refine ⟨e1, (ks.map kyV).zip vs, zip_kV, ?_, ?_⟩
    · rw [List.length_zip, List.length_map]
      omega
    · exact q _ _ _ _ w2 (.ref p) (rel2.put ko ⟨_, upd_same, (merge_ok (zip_kv rs)).mono ko⟩) (kn.trans (k2.trans ko))
  · cases hm
/-! ### list(range(..)), tuple(range(..)) -/
theorem prgA {as : List Expr} {ta : TA} {p pos : Pos} (hg : Gl X "range") (hm : X.mg "range" = none) (ha : PA X as ta) (hs : as.all nostar = true) (hl : 1 ≤ as.length) :
    PRg X (.Call (.Name "range" p) as [] pos) (fun σ H Q => ta σ H fun vs H1 => (∃ j, vs = [.int j] ∧ Q 0 j H1) ∨ ∃ i j, vs = [.int i, .int j] ∧ Q i j H1) := by
  intro pins s σ H Q J h
  cases as with
  | nil => cases hl
  | cons e es =>
    have hs2 : nostar e = true ∧ es.all nostar = true := by rw [List.all_cons, Bool.and_eq_true] at hs; exact hs
    refine Call_ (ld_blt J hg hm boot_range (PyProof.Rows.callWith_type1 (thn (ha.run pos pins s σ H _ J h) fun us s1 ⟨vs, H1, J1, rs, q1⟩ => ?_)
      (star_ok hs2.1 es X.env) (stars_ok hs2.2 pos X.env).1))
    rcases q1 with ⟨j, rfl, q⟩ | ⟨i, j, rfl, q⟩
    · obtain ⟨u, rfl, ru⟩ := rs.one
      obtain ⟨k, rfl⟩ := ru
      exact call_range_1 ⟨_, 0, j, _, _, _, H1, rfl, IsRange.new _ _ _ _ _ _ _, J1.kept fun b u e => Heap.get?_push_of_some _ e, q⟩
    · obtain ⟨u1, u2, rfl, r1, r2⟩ := rs.two
      obtain ⟨k1, rfl⟩ := r1
      obtain ⟨k2, rfl⟩ := r2
      exact call_range_2 ⟨_, i, j, _, _, _, H1, rfl, IsRange.new _ _ _ _ _ _ _, J1.kept fun b u e => Heap.get?_push_of_some _ e, q⟩
theorem rgV_rp {F : PySem.W.Frag} {H : Hp} (a b : Int) : Rps F H (rangeD a (b - a).toNat) (rgV a b) := by
  have key : ∀ l : List Nat, Rps F H (l.map fun i => D.int (a + (i : Nat))) (l.map fun i => V.int (a + (i : Nat))) := fun l => by
    induction l with
    | nil => exact .nil
    | cons x xs ih => exact .cons (.int _) ih
  exact key _
theorem rng_args {es : Es} {σ : L2.St} {H : Hp} {K : Int → Int → Hp → Prop} {kk : List D → Hm → PD → Prop} {w : XD → Mn.Env → Hm → PD → Prop} (hw : ∀ Xd r m P, w Xd r m P → wpEs (sgh t n) es Xd r m fun ds m1 => rngD ds fun xs => kk xs m1 P) {Q : VK}
    (q : LE exc L W w σ H Q) (hk : ∀ a b P xs m1 H1, xs = rangeD a (b - a).toNat → RgOk a b → kk xs m1 P → Rel L m1 H1 → Kt L H1 P Q → K a b H1) :
    LA exc L W (lenE es) (wpEs (sgh t n) es) σ H fun vs H1 => (∃ j, vs = [.int j] ∧ K 0 j H1) ∨ ∃ i j, vs = [.int i, .int j] ∧ K i j H1 := by
  obtain ⟨r, m, P, Xd, re, rel, h, q, xl⟩ := q
  refine ⟨r, m, _, Xd, re, rel, hw _ _ _ _ h, fun xs m2 vs H2 hl hp rs rel2 k2 => ?_, xl⟩
  unfold rngD at hp
  split at hp
  · rename_i j
    cases rs with
    | cons r1 rs => cases rs; cases r1; exact .inl ⟨j, rfl, hk 0 j P _ m2 H2 (by rw [Int.sub_zero]) ⟨by decide, by decide, hp.1.1, by omega, by omega⟩ hp.2 rel2 (q.mono k2)⟩
  · rename_i i j
    cases rs with
    | cons r1 rs => cases rs with
      | cons r2 rs => cases rs; cases r1; cases r2; exact .inr ⟨i, j, rfl, hk i j P _ m2 H2 rfl ⟨hp.1.1, hp.1.2, hp.2.1.1, hp.2.1.2, hp.2.2.1⟩ hp.2.2.2 rel2 (q.mono k2)⟩
  · exact hp.elim
theorem g_rngL {es : Es} (gs : GoEs exc L t n C N es) : GoE exc L t n C N (.rngL es) := fun sc X W pe hm cx tk => by
  simp only [mE] at hm
  split at hm
  · simp only [Bool.and_eq_true, decide_eq_true_eq] at hm
    obtain ⟨⟨⟨⟨⟨⟨⟨⟨hc0, h1⟩, h2⟩, h3⟩, h4⟩, h5⟩, h6⟩, h7⟩, h8⟩ := hm
    subst h1 h3
    have ha := (gs _ _ _ _ h8 cx tk).pa
    refine .of cx.k rfl (PE.weak (pe_listRg (cx.calm (cx.cold hc0)) (cx.gl h2) (cx.sta.blt _ (by decide +kernel)) (prgA (cx.gl h4) (cx.sta.blt _ (by decide +kernel)) ha h5 h6)) fun σ H Q q => ?_)
    exact rng_args (K := fun a b H1 => RgOk a b ∧ ∀ p, H1 p = none → Q (.ref p) (upd H1 p (.lst (rgV a b)))) (kk := fun xs m1 P => newO m1 (.lst xs) P) (fun _ _ _ _ h => h) q fun a b P xs m1 H1 e ok hp rel1 q1 => ⟨ok, fun p hp1 => by
      subst e
      exact q1.lst hp (rgV_rp a b) rel1 hp1⟩
  · cases hm
theorem g_rngT {es : Es} (gs : GoEs exc L t n C N es) : GoE exc L t n C N (.rngT es) := fun sc X W pe hm cx tk => by
  simp only [mE] at hm
  split at hm
  · simp only [Bool.and_eq_true, decide_eq_true_eq] at hm
    obtain ⟨⟨⟨⟨⟨⟨⟨⟨hc0, h1⟩, h2⟩, h3⟩, h4⟩, h5⟩, h6⟩, h7⟩, h8⟩ := hm
    subst h1 h3
    have ha := (gs _ _ _ _ h8 cx tk).pa
    refine .of cx.k rfl (PE.weak (pe_tupRgZ (cx.calm (cx.cold hc0)) (cx.gl h2) (cx.sta.blt _ (by decide +kernel)) (prgA (cx.gl h4) (cx.sta.blt _ (by decide +kernel)) ha h5 h6)) fun σ H Q q => ?_)
    exact rng_args (K := fun a b H1 => RgOk a b ∧ NewT H1 (rgV a b) Q) (kk := fun xs m1 P => P (.tup xs) m1) (fun _ _ _ _ h => h) q fun a b P xs m1 H1 e ok hp rel1 q1 => ⟨ok, by
      subst e
      exact q1.tup hp (rgV_rp a b) rel1⟩
  · cases hm
theorem fu_pe {X : Cx} {f : Fu} {as : List Expr} {ta : TA} {p p2 q pos : Pos} (hg : Gl X (fuN f).1) (hm : X.mg (fuN f).1 = none) (hg2 : Gl X (fuN f).2) (hm2 : X.mg (fuN f).2 = none) (ha : PA X as ta) (hc : X.calm = true) (hu : X.A.units + 64 < cLine) (hs : as.all nostar = true) (hl : as.length = fuA f) :
    PE X (.Call (.Name (fuN f).1 p) [.Call (.Name (fuN f).2 p2) as [] q] [] pos) (fun σ H Q => ta σ H fun vs H1 => fuR X.K f vs H1 Q) := by
  cases f with
  | sortS => cases as with
    | nil => cases hl
    | cons a as => cases as with
      | cons _ _ => simp [fuA] at hl
      | nil => exact pe_sortSet hg hm hg2 hm2 ha hc (star_ok (by simpa using hs) _ _)
  | zipT => cases as with
    | nil => cases hl
    | cons a as => cases as with
      | nil => simp [fuA] at hl
      | cons b as => cases as with
        | cons _ _ => simp [fuA] at hl
        | nil =>
          have h2 : nostar a = true ∧ nostar b = true := by simpa using hs
          exact pe_zipT hg hm hg2 hm2 ha hc (star_ok h2.1 _ _) (stars_ok (es := [b]) (by simpa using h2.2) q X.env).1
  | lenT => cases as with
    | nil => cases hl
    | cons a as => cases as with
      | cons _ _ => simp [fuA] at hl
      | nil => exact pe_lenTups hg hm hg2 hm2 ha hc hu (star_ok (by simpa using hs) _ _)
theorem g_fus {es : Es} (f : Fu) (gs : GoEs exc L t n C N es) : GoE exc L t n C N (.fus f es) := fun sc X W pe hm cx tk => by
  simp only [mE] at hm
  split at hm
  · simp only [Bool.and_eq_true, decide_eq_true_eq] at hm
    obtain ⟨⟨⟨⟨⟨⟨⟨hc0, h1⟩, h2⟩, h3⟩, h4⟩, h5⟩, h6⟩, h7⟩ := hm
    subst h1 h3
    have hh := cx.cold hc0
    have hA := gs _ _ _ _ h7 cx tk
    have hb : isBlt (fuN f).1 = true ∧ isBlt (fuN f).2 = true := by cases f <;> decide +kernel
    have h := fun p1 p2 p3 p4 : Pos => fu_pe (p := p1) (p2 := p2) (q := p3) (pos := p4) (cx.gl h2) (cx.sta.blt _ hb.1) (cx.gl h4) (cx.sta.blt _ hb.2) hA.pa (cx.calm hh) (by have := cx.un; omega) h5 h6
    rw [cx.k] at h
    exact .of cx.k rfl (PE.weak (h _ _ _ _) fun σ H Q q => q.args (kk := fun Xd r P ds m1 => fuW f ds m1 P) (fun _ _ _ _ h => h) fun Xd r P xs m1 vs H1 hl re rel xl q h rv => fu_ok h rv rel q)
  · cases hm
theorem g_sortV {a : E} (ga : GoE exc L t n C N a) : GoE exc L t n C N (.sortV a) := fun sc X W pe hm cx tk => by
  simp only [mE] at hm
  split at hm
  · simp only [Bool.and_eq_true, decide_eq_true_eq] at hm
    obtain ⟨⟨⟨⟨⟨⟨hc0, h1⟩, h2⟩, h3⟩, h4⟩, h5⟩, h6⟩ := hm
    subst h1 h3
    have hh := cx.cold hc0
    refine .of cx.k rfl (PE.weak (pe_sortV cx.k cx.sta.w (cx.calm hh) cx.un (cx.gl h2) (cx.sta.blt _ (by decide +kernel)) (ga _ _ _ _ h6 cx tk).1 h4 h5) fun σ H Q q => q.seq (k := fun Xd r P x m1 => match x with
      | .ref a => ∃ vs, valsOf m1 a = some vs ∧ sortable vs = true ∧ newO m1 (.lst (vs.mergeSort leD)) P
      | _ => False) (fun _ _ _ _ h => h) fun Xd r P x m1 v H1 re rel xl q h rv => ?_)
    cases rv with
    | ref a =>
      obtain ⟨vs, e1, e2, hp⟩ := h
      unfold valsOf at e1
      split at e1
      · rename_i kvs e
        cases e1
        obtain ⟨xs, k1, k2⟩ := rel _ _ e
        exact ⟨a, kvs, xs, rfl, .inl ⟨k1, k2⟩, e2, fun p ys hn ry => q.lst hp ry rel hn⟩
      · rename_i e
        cases e1
        obtain ⟨kws, k1, k2⟩ := rel _ _ e
        cases k2
        exact ⟨a, [], [], rfl, .inr ⟨k1, rfl, rfl⟩, e2, fun p ys hn ry => q.lst hp ry rel hn⟩
      · cases e1
    | _ => exact h.elim
  · cases hm
theorem g_maxD {a d : E} (ga : GoE exc L t n C N a) (gd : GoE exc L t n C N d) : GoE exc L t n C N (.maxD a d) := fun sc X W pe hm cx tk => by
  simp only [mE] at hm
  split at hm
  · rename_i y yp pa k pd kp pos
    simp only [Bool.and_eq_true, decide_eq_true_eq] at hm
    obtain ⟨⟨⟨⟨⟨⟨hc0, h1⟩, h2⟩, h3⟩, h4⟩, h5⟩, h6⟩ := hm
    subst h1 h3
    have hh := cx.cold hc0
    have h := pe_callBK (p := yp) (pos := pos) (cr_maxD (cx.calm hh) cx.un) (cx.gl h2) (cx.sta.blt _ (by decide +kernel)) (by decide +kernel) (pa_cons (ga _ _ _ _ h5 cx tk).1 pa_nil (star_ok h4 _ _)) (pk_cons (nm := some "default") (kpos := kp) (gd _ _ _ _ h6 cx tk).1 pk_nil) (by decide) (by decide)
      (by rw [star_ok h4]; rfl) (stars_ok (es := [pa]) (by simpa using h4) pos X.env).1 rfl rfl rfl
    rw [cx.k] at h
    refine .of cx.k rfl (PE.weak h fun σ H Q q => ?_)
    show (tCons _ tNil) σ H _
    refine q.seq (k := fun Xd r P x m1 => wpE (sgh t n) d Xd r m1 fun y m2 => match x, y with
      | .ref a, .int i => ∃ ds ns, m2 a = some (.lst ds) ∧ intsOf ds = some ns ∧ P (.int (if ns = [] then i else maxI ns)) m2
      | _, _ => False) (fun _ _ _ _ h => h) fun Xd r P x m1 v H1 re rel xl q h rv => ?_
    refine .go re rel xl h fun y m2 u H2 h2 ru rel2 k2 => ?_
    have rv2 := rv.mono k2
    cases rv2 with
    | ref a => cases ru with
      | int i =>
        obtain ⟨ds, ns, e1, e2, hp⟩ := h2
        obtain ⟨us, k1, k3, _⟩ := lst_of e1 rel2
        have e5 := k3.ints e2
        subst e5
        exact ⟨a, ns, i, rfl, rfl, k1, (q.mono k2).here hp (.int _) rel2⟩
      | _ => exact h2.elim
    | _ => first | exact h2.elim | (cases ru <;> exact h2.elim)
  · cases hm
end

/-! ### all -/
section
variable {exc : Nat → Option Addr} {L : Lk} {t : Tab} {n : Dn} {C : Nm} {N : List Str}
mutual
theorem goE : ∀ e : E, GoE exc L t n C N e
  | .var i => g_var i
  | .non => g_non
  | .bl b => g_bl b
  | .num i => g_num i
  | .txt s => g_txt s
  | .glob k d => g_glob k d
  | .bin op a b => g_bin op (goE a) (goE b)
  | .neg a => g_neg (goE a)
  | .cmp op a b => g_cmp op (goE a) (goE b)
  | .cmp2 op op2 a b c => g_cmp2 op op2 (goE a) (goE b) (goE c)
  | .and_ es => g_and (goEs es)
  | .or_ es => g_or (goEs es)
  | .not_ a => g_not (goE a)
  | .ifx c a b => g_ifx (goE c) (goE a) (goE b)
  | .call f es => g_call f (goEs es)
  | .meth k o es => g_meth k (goE o) (goEs es)
  | .make f es => g_make f (goEs es)
  | .bcall f es => g_bcall f (goEs es)
  | .bmeth f o es => g_bmeth f (goE o) (goEs es)
  | .isin a ts => g_isin ts (goE a)
  | .attr f o => g_attr f (goE o)
  | .idx a i => g_idx (goE a) (goE i)
  | .slc a lo hi => g_slc (goE a) (goO lo) (goO hi)
  | .rev a => g_rev (goE a)
  | .tup es => g_tup (goEs es)
  | .lst es => g_lst (goEs es)
  | .dctK => g_dctK
  | .lenS e => g_lenS (goE e)
  | .rngL es => g_rngL (goEs es)
  | .rngT es => g_rngT (goEs es)
  | .fus f es => g_fus f (goEs es)
  | .sortV e => g_sortV (goE e)
  | .maxD e d => g_maxD (goE e) (goE d)
  | .comp elt tg it .no own => g_comp own (goE elt) (goI it) fun c h => nomatch h
  | .comp elt tg it (.yes c) own => g_comp own (goE elt) (goI it) fun c2 h => by cases h; exact goE c
  | .fstr es => g_fstr (goJ es)
  | .dctD ks es => g_dctD (goD es)
  | .compD elt tg i .no own => g_compD own (goE elt) fun c h => nomatch h
  | .compD elt tg i (.yes c) own => g_compD own (goE elt) fun c2 h => by cases h; exact goE c
theorem goJ : ∀ e : Es, GoJ exc L t n C N e
  | .nil => g_jnil
  | .cons e es => g_jcons (goE e) (goJ es)
theorem goD : ∀ e : Es, GoD exc L t n C N e
  | .nil => g_dnil
  | .cons e es => g_dcons (goE e) (goD es)
theorem goEs : ∀ e : Es, GoEs exc L t n C N e
  | .nil => g_nil
  | .cons e es => g_cons (goE e) (goEs es)
theorem goO : ∀ e : O, GoO exc L t n C N e
  | .no => g_no
  | .yes e => g_yes (goE e)
theorem goI : ∀ e : I, GoI exc L t n C N e
  | .val e => g_val (goE e)
  | .rng es => g_rng (goEs es)
  | .enum e => g_enum (goE e)
  | .zip a b => g_zip (goE a) (goE b)
end
end
end Mn
end

section
set_option Elab.async false
set_option linter.all false
set_option maxRecDepth 100000
set_option maxHeartbeats 4000000
/-! Mn, part N: statements. -/
namespace Mn
open PySem PySem.Spec PyProof.Rows L2 RZ
/-! ### the matching -/
def lo_ (sc : Scope) (x : Str) : Bool := match sc.names.lookup x with | some .local => true | _ => false
def isTup : Expr → Bool | .Tuple .. => true | _ => false
/-- a comprehension that is stored while its block stands -/
def swC (sc : Scope) (x : Str) (px : Pos) (pe : Expr) : Bool := match pe with
  | .ListComp _ _ scope pos => lo_ sc x && (px.line == pos.line) && !(scope.names.any fun (n, k) => n == x && (k == .local || k == .cell))
  | _ => false
def isLc : Expr → Bool | .ListComp .. => true | _ => false
section
variable (C : Nm) (N : List Str)
def mPar (sc : Scope) (pt pe : Expr) : Bool := match pt, pe with
  | .Tuple [.Name x px, .Name y py] _ _, .Tuple [a, b] _ _ => (px.line == py.line) && !(x == y) && lo_ sc x && lo_ sc y && nostar a && nostar b && !(foldedForSure 8 a && foldedForSure 8 b) && !(constantsAlone 8 a && constantsAlone 8 b) &&
      (match sc.kind with | .function => true | _ => false)
  | _, _ => false
/-- x, y = a, b where not both names are plain locals -/
def mCel (sc : Scope) (pt pe : Expr) : Bool := match pt, pe with
  | .Tuple [.Name x _, .Name y _] _ _, .Tuple [_, _] _ _ => !(lo_ sc x) || !(lo_ sc y)
  | _, _ => false
/-- o[i], x = .. -/
def mSub (sc : Scope) (ts : Ts) (pt : Expr) : Bool := match ts, pt with
  | .cons (.sb o i) (.cons (.nm j) .nil), .Tuple [.Subscript po pi _, .Name y _] _ _ => nosl pi && mE C N o sc po && mE C N i sc pi && decide (N[j]? = some y) && loc sc y
  | _, _ => false
def mAsg (t : T) (e : E) (sc : Scope) (pt pe : Expr) : Bool := match t with
  | .nm i => match pt with
    | .Name x px => decide (N[i]? = some x) && loc sc x && (nocomp pe || (isLc pe && (match sc.kind with | .function => true | _ => false))) && mE C N e sc pe
    | _ => false
  | .at_ f o => match pt with
    | .Attribute po a _ => decide (C.nm f = a) && C.ok f && mE C N o sc po && mE C N e sc pe
    | _ => false
  | .sb o i => match pt with
    | .Subscript po pi _ => nosl pi && mE C N o sc po && mE C N i sc pi && mE C N e sc pe
    | _ => false
  | .tp ts => !C.hot && ((mTo N sc (List.range N.length) (.tp ts) pt && (!(isTup pe) || mCel sc pt pe) && mE C N e sc pe) || (mTo N sc (List.range N.length) (.tp ts) pt && mPar sc pt pe && mE C N e sc pe) || (mSub C N sc ts pt && !(isTup pe) && mE C N e sc pe))
end
mutual
def mS (N : List Str) : Nm → S → Scope → Stmt → Bool
  | C, .pass, _, ps => match ps with | .Pass _ => true | _ => false
  | C, .ex e, sc, ps => match ps with | .Expr pe _ => nocomp pe && mE C N e sc pe | _ => false
  | C, .asg t e, sc, ps => match ps with | .Assign [pt] pe _ => mAsg C N t e sc pt pe | _ => false
  | C, .aug t op e, sc, ps => match ps with
    | .AugAssign pt o pe _ => decide (o = bopO op) && mE C N e sc pe &&
      (match t with
        | .nm i => (match pt with | .Name x _ => decide (N[i]? = some x) && loc sc x | _ => false)
        | .at_ f ob => (match pt with | .Attribute po a _ => decide (C.nm f = a) && C.ok f && mE C N ob sc po | _ => false)
        | .sb ob i => (match pt with | .Subscript po pi _ => nosl pi && mE C N ob sc po && mE C N i sc pi | _ => false)
        | .tp _ => false)
    | _ => false
  | C, .ife c a b, sc, ps => match ps with | .If pc pa pb _ => mE C N c sc pc && mSs N C a sc pa && mSs N C b sc pb | _ => false
  | C, .fr t it b, sc, ps => match ps with | .For pt pit pb [] _ => !C.hot && noset pit && mTo N sc (List.range N.length) t pt && mI C N it sc pt pit && mSs N C b sc pb | _ => false
  | C, .whl c b, sc, ps => match ps with | .While pc pb [] _ => mE C N c sc pc && mSs N C b sc pb | _ => false
  | C, .brk, _, ps => match ps with | .Break _ => true | _ => false
  | C, .cnt, _, ps => match ps with | .Continue _ => true | _ => false
  | C, .ret e, sc, ps => match ps with | .Return (some pe) _ => mE C N e sc pe | _ => false
  | C, .ret0, _, ps => match ps with | .Return none _ => true | _ => false
  | C, .rais c, sc, ps => match ps with | .Raise (some (.Call (.Name x _) [.Constant (.str _) _ _] [] _)) none _ => !C.hot && decide (C.nm c = x) && glb sc x && okx x | _ => false
  | C, .nev, _, _ => true
  | C, .tr b i c s o, sc, ps => match ps with
    | .Try pb [.ExceptHandler (some (.Name x _)) (some z) (p0 :: pz) _] po [] _ => !C.hot && decide (N[i]? = some z) && lo_ sc z && decide (C.nm c = x) && glb sc x && okx x && C.exn c && mSs N C b sc pb && mSs N { C with hot := true } s sc (p0 :: pz) && mSs N C o sc po
    | _ => false
def mSs (N : List Str) : Nm → Ss → Scope → List Stmt → Bool
  | C, .nil, _, l => l.isEmpty
  | C, .cons s ss, sc, l => match l with | [] => false | p :: ps => mS N C s sc p && mSs N C ss sc ps
end
/-! ### lifts -/
def KD (L : Lk) (H : Hp) (Q : K) (D : Ends) : Prop := (∀ r m σ H2, Q.nx r m → REnv L.F H2 r σ → Rel L m H2 → Kp H H2 → D.nx σ H2) ∧ Kt L H Q.rt D.rt ∧
  (∀ r m σ H2, Q.bk r m → REnv L.F H2 r σ → Rel L m H2 → Kp H H2 → D.bk σ H2) ∧ (∀ r m σ H2, Q.ct r m → REnv L.F H2 r σ → Rel L m H2 → Kp H H2 → D.ct σ H2)
theorem KD.mono {L : Lk} {H H2 : Hp} {Q : K} {D : Ends} (q : KD L H Q D) (k : Kp H H2) : KD L H2 Q D :=
  ⟨fun r m σ H3 h re rel k3 => q.1 r m σ H3 h re rel (k.trans k3), q.2.1.mono k, fun r m σ H3 h re rel k3 => q.2.2.1 r m σ H3 h re rel (k.trans k3), fun r m σ H3 h re rel k3 => q.2.2.2 r m σ H3 h re rel (k.trans k3)⟩
abbrev WpS := XD → Mn.Env → Hm → K → Prop
def LS (exc : Nat → Option Addr) (L : Lk) (W : WX) (wp : WpS) : TS := fun D σ H => ∃ r m Q Xd, REnv L.F H r σ ∧ Rel L m H ∧ wp Xd r m Q ∧ KD L H Q D ∧ XL exc L W H Xd
structure SCtx (exc : Nat → Option Addr) (L : Lk) (t : Tab) (n : Dn) (C : Nm) (N : List Str) (sc : Scope) (X : Cx) : Prop extends Ctx exc L t n C N sc X where
  fn : ∀ x, X.fn x = true
  stk : X.stack = X.env :: X.outer
  frm : X.env.frame = some X.env.locals
def GoS (exc : Nat → Option Addr) (L : Lk) (t : Tab) (n : Dn) (C : Nm) (N : List Str) (s : S) : Prop := ∀ (sc : Scope) (X : Cx) (W : WX) (ps : Stmt), mS N C s sc ps = true → SCtx exc L t n C N sc X → L2N.Takes X W → PS X ps (LS exc L W fun Xd r m Q => wpS (sgh t n) Xd s r m Q)
def GoSs (exc : Nat → Option Addr) (L : Lk) (t : Tab) (n : Dn) (C : Nm) (N : List Str) (s : Ss) : Prop := ∀ (sc : Scope) (X : Cx) (W : WX) (ps : List Stmt), mSs N C s sc ps = true → SCtx exc L t n C N sc X → L2N.Takes X W → PSs X ps (LS exc L W fun Xd r m Q => wpSs (sgh t n) Xd s r m Q)
section
variable {exc : Nat → Option Addr} {L : Lk} {t : Tab} {n : Dn} {C : Nm} {N : List Str} {sc : Scope} {X : Cx} {W : WX}
section
variable (cx : SCtx exc L t n C N sc X)
include cx
theorem SCtx.loc {x : Str} (h : loc sc x = true) : L2.Loc X.env.scope x := by
  rw [cx.sc]
  unfold Mn.loc at h
  unfold L2.Loc
  split at h
  · exact .inl (by assumption)
  · exact .inr (by assumption)
  · cases h
theorem SCtx.ownX (hh : n.hx = none) : OwnX L N sc X := ⟨cx.sta.k, cx.nn, cx.nd, cx.calm hh, fun x h => ⟨cx.loc h, .inl (cx.fn x)⟩⟩
end
theorem LS.bd {w : WpS} {we : WpE} {D : Ends} {σ : L2.St} {H : Hp} {R : VK} (q : LS exc L W w D σ H) {k : XD → Mn.Env → K → PD} (hw : ∀ Xd r m Q, w Xd r m Q → we Xd r m (k Xd r Q))
    (hk : ∀ Xd r Q x m v H1, REnv L.F H1 r σ → Rel L m H1 → XL exc L W H1 Xd → KD L H1 Q D → k Xd r Q x m → Rp L.F H1 x v → R v H1) : LE exc L W we σ H R := by
  obtain ⟨r, m, Q, Xd, re, rel, h, q, xl⟩ := q
  exact ⟨r, m, k Xd r Q, Xd, re, rel, hw _ _ _ _ h, fun d m2 v H2 hp rv rel2 k2 => hk Xd r Q d m2 v H2 (re.mono k2) rel2 (xl.mono k2) (q.mono k2) hp rv, xl⟩
theorem s_pass : GoS exc L t n C N .pass := fun sc X W ps hm cx tk => by
  simp only [mS] at hm
  split at hm
  · exact PS.weak ps_pass fun D σ H ⟨r, m, Q, Xd, re, rel, h, q, xl⟩ => q.1 r m σ H h re rel (.refl H)
  · cases hm
theorem s_brk : GoS exc L t n C N .brk := fun sc X W ps hm cx tk => by
  simp only [mS] at hm
  split at hm
  · exact PS.weak ps_break fun D σ H ⟨r, m, Q, Xd, re, rel, h, q, xl⟩ => q.2.2.1 r m σ H h re rel (.refl H)
  · cases hm
theorem s_cnt : GoS exc L t n C N .cnt := fun sc X W ps hm cx tk => by
  simp only [mS] at hm
  split at hm
  · exact PS.weak ps_continue fun D σ H ⟨r, m, Q, Xd, re, rel, h, q, xl⟩ => q.2.2.2 r m σ H h re rel (.refl H)
  · cases hm
theorem s_ret0 : GoS exc L t n C N .ret0 := fun sc X W ps hm cx tk => by
  simp only [mS] at hm
  split at hm
  · exact PS.weak ps_retN fun D σ H ⟨r, m, Q, Xd, re, rel, h, q, xl⟩ => q.2.1.here h .non rel
  · cases hm
theorem s_nev : GoS exc L t n C N .nev := fun sc X W ps hm cx tk => PS.weak ps_never fun D σ H ⟨r, m, Q, Xd, re, rel, h, q, xl⟩ => h
theorem s_ex (e : E) : GoS exc L t n C N (.ex e) := fun sc X W ps hm cx tk => by
  simp only [mS] at hm
  split at hm
  · simp only [Bool.and_eq_true] at hm
    exact PS.weak (ps_expr (goE e _ _ _ _ hm.2 cx.toCtx tk).1 (swap_ok hm.1 _ _ _)) fun D σ H q => q.bd (k := fun Xd r Q _ m1 => Q.nx r m1) (fun _ _ _ _ h => h) fun Xd r Q x m v H1 re rel xl q h rv => q.1 r m σ H1 h re rel (.refl H1)
  · cases hm
theorem s_ret (e : E) : GoS exc L t n C N (.ret e) := fun sc X W ps hm cx tk => by
  simp only [mS] at hm
  split at hm
  · exact PS.weak (ps_ret (goE e _ _ _ _ hm cx.toCtx tk).1) fun D σ H ⟨r, m, Q, Xd, re, rel, h, q, xl⟩ => ⟨r, m, Q.rt, Xd, re, rel, h, q.2.1, xl⟩
  · cases hm
theorem s_ife {c : E} {a b : Ss} (ga : GoSs exc L t n C N a) (gb : GoSs exc L t n C N b) : GoS exc L t n C N (.ife c a b) := fun sc X W ps hm cx tk => by
  simp only [mS] at hm
  split at hm
  · simp only [Bool.and_eq_true] at hm
    obtain ⟨⟨h1, h2⟩, h3⟩ := hm
    refine PS.weak (ps_if (goE c _ _ _ _ h1 cx.toCtx tk).2 (ga _ _ _ _ h2 cx tk) (gb _ _ _ _ h3 cx tk)) fun D σ H ⟨r, m, Q, Xd, re, rel, h, q, xl⟩ => ?_
    refine ⟨r, m, fun x m1 => ∃ k, truth m1 x = some k ∧ if k = true then wpSs (sgh t n) Xd a r m1 Q else wpSs (sgh t n) Xd b r m1 Q, Xd, re, rel, h, fun x m2 v H2 ⟨k, hk, h2⟩ rv rel2 k2 => ⟨k, hk, ?_⟩, xl⟩
    cases k with
    | true => exact ⟨r, m2, Q, Xd, re.mono k2, rel2, h2, q.mono k2, xl.mono k2⟩
    | false => exact ⟨r, m2, Q, Xd, re.mono k2, rel2, h2, q.mono k2, xl.mono k2⟩
  · cases hm
theorem ss_nil : GoSs exc L t n C N .nil := fun sc X W ps hm cx tk => by
  cases ps with
  | nil => exact PSs.weak pss_nil fun D σ H ⟨r, m, Q, Xd, re, rel, h, q, xl⟩ => q.1 r m σ H h re rel (.refl H)
  | cons _ _ => simp [mSs] at hm
theorem ss_cons {s : S} {ss : Ss} (g : GoS exc L t n C N s) (gs : GoSs exc L t n C N ss) : GoSs exc L t n C N (.cons s ss) := fun sc X W ps hm cx tk => by
  cases ps with
  | nil => simp [mSs] at hm
  | cons p ps =>
    simp only [mSs, Bool.and_eq_true] at hm
    refine PSs.weak (pss_cons (g _ _ _ _ hm.1 cx tk) (gs _ _ _ _ hm.2 cx tk)) fun D σ H ⟨r, m, Q, Xd, re, rel, h, q, xl⟩ => ?_
    exact ⟨r, m, _, Xd, re, rel, h, ⟨fun r2 m2 σ2 H2 hp re2 rel2 k2 => ⟨r2, m2, Q, Xd, re2, rel2, hp, q.mono k2, xl.mono k2⟩, q.2⟩, xl⟩
theorem s_whl {c : E} {b : Ss} (gb : GoSs exc L t n C N b) : GoS exc L t n C N (.whl c b) := fun sc X W ps hm cx tk => by
  simp only [mS] at hm
  split at hm
  · simp only [Bool.and_eq_true] at hm
    refine PS.weak (ps_while cx.own (goE c _ _ _ _ hm.1 cx.toCtx tk).2 (gb _ _ _ _ hm.2 cx tk)) fun D σ H ⟨r, m, Q, Xd, re, rel, h, q, xl⟩ => ?_
    obtain ⟨k, h⟩ := (show ∃ k, whileW (testW (sgh t n) c Xd) (fun r2 m2 nx => wpSs (sgh t n) Xd b r2 m2 { nx := nx, rt := Q.rt, bk := Q.nx, ct := nx }) Q.nx k r m from h)
    refine ⟨fun i σ2 H2 => ∃ r2 m2, REnv L.F H2 r2 σ2 ∧ Rel L m2 H2 ∧ Kp H H2 ∧ whileW (testW (sgh t n) c Xd) (fun r2 m2 nx => wpSs (sgh t n) Xd b r2 m2 { nx := nx, rt := Q.rt, bk := Q.nx, ct := nx }) Q.nx i r2 m2,
      ⟨k, r, m, re, rel, .refl H, h⟩, ?_⟩
    rintro i σ2 H2 ⟨r2, m2, re2, rel2, k2, h2⟩
    cases i with
    | zero => exact h2.elim
    | succ i =>
      refine ⟨r2, m2, _,
        Xd, re2, rel2, h2, fun x m3 v H3 ⟨k, hk, h3⟩ rv rel3 k3 => ⟨k, hk, ?_⟩, xl.mono k2⟩
      cases k with
      | true =>
        refine ⟨fun σ4 H4 => ∃ r2 m2, REnv L.F H4 r2 σ4 ∧ Rel L m2 H4 ∧ Kp H H4 ∧ whileW (testW (sgh t n) c Xd) (fun r2 m2 nx => wpSs (sgh t n) Xd b r2 m2 { nx := nx, rt := Q.rt, bk := Q.nx, ct := nx }) Q.nx i r2 m2,
          fun σ4 H4 h4 => ⟨i, Nat.lt_succ_self i, h4⟩, r2, m3, _, Xd, re2.mono k3, rel3, h3, ?_, xl.mono (k2.trans k3)⟩
        refine ⟨fun r4 m4 σ4 H4 h4 re4 rel4 k4 => ?_, q.2.1.mono (k2.trans k3), fun r4 m4 σ4 H4 h4 re4 rel4 k4 => q.1 r4 m4 σ4 H4 h4 re4 rel4 (k2.trans (k3.trans k4)), fun r4 m4 σ4 H4 h4 re4 rel4 k4 => ?_⟩
        · exact ⟨r4, m4, re4, rel4, k2.trans (k3.trans k4), h4⟩
        · exact ⟨r4, m4, re4, rel4, k2.trans (k3.trans k4), h4⟩
      | false => exact q.1 r2 m3 σ2 H3 h3 (re2.mono k3) rel3 (k2.trans k3)
  · cases hm
theorem s_fr {tg : T} {it : I} {b : Ss} (gb : GoSs exc L t n C N b) : GoS exc L t n C N (.fr tg it b) := fun sc X W ps hm cx tk => by
  simp only [mS] at hm
  split at hm
  · simp only [Bool.and_eq_true] at hm
    obtain ⟨⟨⟨⟨hc0, h1⟩, h2⟩, h3⟩, h4⟩ := hm
    have hh := cx.cold hc0
    refine PS.weak (ps_for cx.own (cx.calm hh) (goI it _ _ _ _ _ h3 cx.toCtx tk) (own_t (g := sgh t n) (cx.ownX hh) tg _ h2) (gb _ _ _ _ h4 cx tk) (fun x => fold_ok h1 _ x)) fun D σ H ⟨r, m, Q, Xd, re, rel, h, q, xl⟩ => ?_
    refine ⟨r, m, _, Xd, re, rel, (show wpI (sgh t n) it Xd r m fun xs st m1 =>
      loopW st (fun x r2 m2 nx => wpT (sgh t n) tg x Xd r2 m2 fun r3 m3 => wpSs (sgh t n) Xd b r3 m3 { nx := nx, rt := Q.rt, bk := Q.nx, ct := nx }) Q.nx xs r m1 from h), fun xs st m1 J H1 hp ito rel1 k1 => ?_, xl⟩
    refine ⟨fun i μ σ2 H2 => μ = xs.length - i ∧ i ≤ xs.length ∧ ∃ r2 m2, REnv L.F H2 r2 σ2 ∧ Rel L m2 H2 ∧ Kp H1 H2 ∧
      loopW st (fun x r2 m2 nx => wpT (sgh t n) tg x Xd r2 m2 fun r3 m3 => wpSs (sgh t n) Xd b r3 m3 { nx := nx, rt := Q.rt, bk := Q.nx, ct := nx }) Q.nx (xs.drop i) r2 m2,
      ⟨xs.length, by omega, Nat.zero_le _, r, m1, re.mono k1, rel1, .refl H1, by rw [List.drop_zero]; exact hp⟩, ?_⟩
    rintro i μ σ2 H2 ⟨rfl, hi, r2, m2, re2, rel2, k2, hc⟩
    by_cases hlt : i < xs.length
    · rw [List.drop_eq_getElem_cons hlt] at hc
      obtain ⟨hst, hc⟩ := hc
      obtain ⟨g1, g2⟩ := ito.go i xs[i] m2 H2 (by simp [hlt]) rel2 hst k2
      refine .inr ⟨g1, fun σ3 H3 => ∃ μ', μ' = xs.length - (i + 1) ∧ i + 1 ≤ xs.length ∧ ∃ r2 m2, REnv L.F H3 r2 σ3 ∧ Rel L m2 H3 ∧ Kp H1 H3 ∧
        loopW st (fun x r2 m2 nx => wpT (sgh t n) tg x Xd r2 m2 fun r3 m3 => wpSs (sgh t n) Xd b r3 m3 { nx := nx, rt := Q.rt, bk := Q.nx, ct := nx }) Q.nx (xs.drop (i + 1)) r2 m2,
        fun σ3 H3 ⟨μ', e1, e2, e3⟩ => ⟨μ', by omega, e1, e2, e3⟩, fun x H3 hy => ?_⟩
      obtain ⟨rx, rel3, k3⟩ := g2 x H3 hy
      refine ⟨xs[i], r2, m2, Xd, _, re2.mono k3, rel3, rx, hc, fun r4 m4 σ4 H4 hq re4 rel4 k4 _ => ⟨r4, m4, _, Xd, re4, rel4, hq, ?_, xl.mono (k1.trans (k2.trans (k3.trans k4)))⟩⟩
      refine ⟨fun r5 m5 σ5 H5 h5 re5 rel5 k5 => ?_, q.2.1.mono (k1.trans (k2.trans (k3.trans k4))), fun r5 m5 σ5 H5 h5 re5 rel5 k5 => q.1 r5 m5 σ5 H5 h5 re5 rel5 (k1.trans (k2.trans (k3.trans (k4.trans k5)))), fun r5 m5 σ5 H5 h5 re5 rel5 k5 => ?_⟩
      · exact ⟨_, rfl, hlt, r5, m5, re5, rel5, k2.trans (k3.trans (k4.trans k5)), h5⟩
      · exact ⟨_, rfl, hlt, r5, m5, re5, rel5, k2.trans (k3.trans (k4.trans k5)), h5⟩
    · have e : i = xs.length := by omega
      subst e
      rw [List.drop_length] at hc
      exact .inl ⟨ito.stop m2 H2 rel2 hc.1 k2, q.1 r2 m2 σ2 H2 hc.2 re2 rel2 (k1.trans k2)⟩
  · cases hm
end
end Mn
end

section
set_option Elab.async false
set_option linter.all false
set_option maxRecDepth 100000
set_option maxHeartbeats 4000000
/-! Mn, part O: stores; all statements. -/
namespace Mn
open PySem PySem.Spec PyProof.Rows L2 RZ
section
variable {exc : Nat → Option Addr} {L : Lk} {t : Tab} {n : Dn} {C : Nm} {N : List Str} {sc : Scope} {X : Cx} {W : WX}
theorem swL {elt : Expr} {gs : List Comprehension} {scope : Scope} {pos px : Pos} {x : Str} {l : Nat} {env : PySem.Env} (hk : env.scope.kind = .function) : swapsWith (.ListComp elt gs scope pos) (some (.Name x px)) l env = pure (swC env.scope x px (.ListComp elt gs scope pos)) := by
  have hb : env.blockKind = .function := by unfold Env.blockKind; rw [hk]; rfl
  unfold swapsWith swC lo_
  simp only [hb, Expr.pos]
  show pure _ = pure _
  congr 1
  have e : (env.kindOf x == some .local) = (match env.scope.names.lookup x with | some .local => true | _ => false) := by
    show (env.scope.names.lookup x == some .local) = _
    cases env.scope.names.lookup x with
    | none => rfl
    | some k => cases k <;> rfl
  rw [e]
  rfl
theorem tpS_none {o i : Expr} {p : Pos} {e : Expr} {env : PySem.Env} : swappedStores [.Subscript o i p] e env = pure none := by cases e <;> rfl
theorem tpT_none {es : List Expr} {k : Nat} {p : Pos} {e : Expr} {env : PySem.Env} (h : isTup e = false) : swappedStores [.Tuple es k p] e env = pure none := by cases e <;> first | rfl | cases h
theorem lo_no {sc : Scope} {x : Str} (h : lo_ sc x = false) : (sc.names.lookup x == some .local) = false := by
  unfold lo_ at h
  split at h
  · cases h
  · rename_i h2
    cases e : sc.names.lookup x with
    | none => rfl
    | some k => cases k <;> first | rfl | exact absurd e h2
theorem cel_none {pt pe : Expr} {env : PySem.Env} (h : mCel env.scope pt pe = true) : swappedStores [pt] pe env = pure none := by
  unfold mCel at h
  split at h
  · rename_i x px y py k1 p1 a b k2 p2
    have hx : ∀ z, env.kindOf z = env.scope.names.lookup z := fun _ => rfl
    unfold swappedStores
    simp only [List.length_cons, List.length_nil, List.filterMap_cons, List.filterMap_nil, hx]
    rw [Bool.or_eq_true, Bool.not_eq_true', Bool.not_eq_true'] at h
    rcases h with h | h
    · rw [lo_no h]
      simp only [Bool.false_and, Bool.false_eq_true, if_false]
      split <;> first | rfl | skip
      split <;> first | rfl | skip
      split <;> first | rfl | skip
      all_goals simp
    · rw [lo_no h]
      simp only [Bool.false_and, Bool.false_eq_true, if_false]
      split <;> first | rfl | skip
      split <;> first | rfl | skip
      split <;> first | rfl | skip
      all_goals simp
  · cases h
theorem swN {es : List Expr} {k : Nat} {p : Pos} {e : Expr} {env : PySem.Env} (h : isTup e = false ∨ mCel env.scope (.Tuple es k p) e = true) : swappedStores [.Tuple es k p] e env = pure none := by
  rcases h with h | h
  · exact tpT_none h
  · exact cel_none h
theorem kind_fn {b : Bool} {k : ScopeKind} (h : (match k with | .function => true | _ => false) = true) : k = .function := by cases k <;> first | rfl | cases h
theorem lo_eq {sc : Scope} {x : Str} (h : lo_ sc x = true) : sc.names.lookup x = some .local := by
  unfold lo_ at h
  split at h
  · assumption
  · cases h
theorem any_no {f : Expr → Bool} (hf : ∀ e, nostar e = true → f e = false) {a b : Expr} (ha : nostar a = true) (hb : nostar b = true) : [a, b].any f = false := by simp [List.any_cons, hf a ha, hf b hb]
theorem par_some {x y : Str} {px py pt pt2 : Pos} {a b : Expr} {k1 k2 : Nat} {env : PySem.Env} (h : mPar env.scope (.Tuple [.Name x px, .Name y py] k1 pt) (.Tuple [a, b] k2 pt2) = true) :
    swappedStores [.Tuple [.Name x px, .Name y py] k1 pt] (.Tuple [a, b] k2 pt2) env = pure (some [x, y]) ∧ x ≠ y ∧ env.scope.names.lookup x = some .local ∧ env.scope.names.lookup y = some .local := by
  simp only [mPar, Bool.and_eq_true, Bool.not_eq_true'] at h
  obtain ⟨⟨⟨⟨⟨⟨⟨⟨h1, h2⟩, h3⟩, h4⟩, h5⟩, h6⟩, h7⟩, h8⟩, h9⟩ := h
  have hk := kind_fn (b := true) h9
  have hb : env.blockKind = .function := by unfold Env.blockKind; rw [hk]; rfl
  have e1 := lo_eq h3
  have e2 := lo_eq h4
  have k1 : env.kindOf x = some .local := e1
  have k2 : env.kindOf y = some .local := e2
  have hxy : x ≠ y := by simpa using h2
  refine ⟨?_, hxy, e1, e2⟩
  have s1 : ([a, b].any fun | .Starred .. => true | _ => false) = false := any_no (fun e h => by cases e <;> first | rfl | cases h) h5 h6
  have h1 : px.line = py.line := by simpa using h1
  have f1 : [a, b].all (foldedForSure 8) = false := by simpa using h7
  have f2 : [a, b].all (constantsAlone 8) = false := by simpa using h8
  have hyx : (y == x) = false := by simpa using Ne.symm hxy
  unfold swappedStores
  simp only [List.length_cons, List.length_nil, hb, List.head?_cons, Option.map_some, Option.getD_some, Expr.pos, List.filterMap_cons, List.filterMap_nil, k1, k2, h1, f1, f2, s1]
  simp [List.eraseDups_cons, hyx, hxy, Ne.symm hxy]
  intro z
  exfalso
  rcases z with z | z
  · cases a <;> first | (cases z; done) | (cases h5; done)
  · cases b <;> first | (cases z; done) | (cases h6; done)

theorem asg_name {i : Nat} {x : Str} {px pos : Pos} {e : E} {pe : Expr} (cx : SCtx exc L t n C N sc X) (tk : L2N.Takes X W) (hi : N[i]? = some x) (hx : Mn.loc sc x = true) (hc : nocomp pe = true ∨ (isLc pe = true ∧ sc.kind = .function)) (hm : mE C N e sc pe = true) :
    PS X (.Assign [.Name x px] pe pos) (tAsg (LE exc L W (wpE (sgh t n) e)) (gName i)) := by
  have hN : X.N.Nodup := by rw [cx.nn]; exact cx.nd
  have hi2 : X.N[i]? = some x := by rw [cx.nn]; exact hi
  rcases hc with hc | ⟨hc, hk⟩
  · exact ps_set hN hi2 (cx.loc hx) (goE e _ _ _ _ hm cx.toCtx tk).1 (swap_ok hc _ _ _) (.inl (cx.fn x))
  · cases pe with
    | ListComp elt gs scope cpos =>
      have hk2 : X.env.scope.kind = .function := by rw [cx.sc]; exact hk
      cases hs : swC X.env.scope x px (.ListComp elt gs scope cpos) with
      | false => exact ps_set hN hi2 (cx.loc hx) (goE e _ _ _ _ hm cx.toCtx tk).1 (by rw [swL hk2, hs]) (.inl (cx.fn x))
      | true =>
        have hl : X.env.scope.names.lookup x = some .local := by
          unfold swC at hs
          simp only [Bool.and_eq_true] at hs
          exact lo_eq hs.1.1
        cases e with
        | comp e1 tg it cond own =>
          have hh := cx.cold (comp_cold hm)
          have gc : ∀ c, cond = .yes c → GoE exc L t n C N c := fun c _ => goE c
          obtain ⟨pelt, ptg, pit, pifs, scope2, pos2, wi, gg, tt, te, he, p1, p2, p3, p4, p5, p6, p7⟩ := lc_parts own (goE e1) (goI it) gc hm cx.toCtx tk
          cases he
          exact PS.weak (ps_setLc (cx.calm hh) hN hi2 hl (by rw [swL hk2, hs]) p1 p2 p3 p4 p5 p6) fun D σ H q => p7 _ _ _ q
        | compD e1 tg k cond own =>
          have hh := cx.cold (compD_cold hm)
          have gc : ∀ c, cond = .yes c → GoE exc L t n C N c := fun c _ => goE c
          obtain ⟨pelt, ptg, pit, pifs, scope2, pos2, wi, gg, tt, te, he, p1, p2, p3, p4, p5, p6, p7⟩ := lcD_parts own (goE e1) gc hm cx.toCtx tk
          cases he
          exact PS.weak (ps_lock (ps_setLc (cx.calm hh) hN hi2 hl (by rw [swL hk2, hs]) p1 p2 p3 p4 p5 p6)) fun D σ H q => p7 _ _ _ q
        | _ => simp [mE] at hm
    | _ => cases hc
theorem fput_ok {F : PySem.W.Frag} {H : Hp} {nm : Nat → Str} {ok : Nat → Bool} (inj : ∀ a b, ok a = true → ok b = true → nm a = nm b → a = b) {f : Nat} (hf : ok f = true) {d : D} {v : V} (rd : Rp F H d v) : ∀ {fs : List (Nat × D)} {gs : List (Str × V)}, KvR F H nm fs gs → (fs.all fun p => ok p.1) = true →
    KvR F H nm (fput fs f d) (putF (nm f) v gs)
  | _, _, .nil, _ => .cons ⟨rfl, rd⟩ .nil
  | (a, d2) :: fs, (b, v2) :: gs, .cons ⟨h1, h2⟩ r, hk => by
    have h1 : b = nm a := h1
    rw [List.all_cons, Bool.and_eq_true] at hk
    by_cases hz : a = f
    · subst hz
      subst h1
      show KvR F H nm (if a = a then _ else _) (if nm a = nm a then _ else _)
      rw [if_pos rfl, if_pos rfl]
      exact .cons ⟨rfl, rd⟩ r
    · have hne : b ≠ nm f := by rw [h1]; exact fun z => hz (inj _ _ hk.1 hf z)
      show KvR F H nm (if a = f then _ else _) (if b = nm f then _ else _)
      rw [if_neg hz, if_neg hne]
      exact .cons ⟨h1, h2⟩ (fput_ok inj hf rd r hk.2)
theorem fput_all {p : Nat → Bool} {f : Nat} {d : D} (hf : p f = true) : ∀ {fs : List (Nat × D)}, (fs.all fun q => p q.1) = true → ((fput fs f d).all fun q => p q.1) = true
  | [], _ => by simp [fput, hf]
  | (a, v) :: fs, h => by
    rw [List.all_cons, Bool.and_eq_true] at h
    unfold fput
    split
    · rename_i z; simp only [List.all_cons, Bool.and_eq_true]; exact ⟨h.1, h.2⟩
    · simp only [List.all_cons, Bool.and_eq_true]; exact ⟨h.1, fput_all hf h.2⟩
/-- a field put -/
theorem fld_put (cx : Ctx exc L t n C N sc X) {m : Hm} {H : Hp} {a : Addr} {c f : Nat} {fs : List (Nat × D)} {d : D} {v : V} (rel : Rel L m H) (e : m a = some (.ins c fs)) (ho : C.ok f = true) (hf : t.fld c f = true) (rd : Rp L.F H d v) :
    ∃ Ca dx gs, H a = some (.ins Ca dx gs) ∧ Cls X.K Ca ∧ NoAttr X.K Ca (C.nm f) ∧ gs.length = fs.length ∧ Kp H (upd H a (.ins Ca dx (putF (C.nm f) v gs))) ∧ Rel L (up m a (.ins c (fput fs f d))) (upd H a (.ins Ca dx (putF (C.nm f) v gs))) := by
  obtain ⟨Ca, dx, gs, k1, k2, k3, k4⟩ := rel _ _ e
  have ho2 : L.ok f = true := by rw [cx.sta.okL]; exact ho
  have kp : Kp H (upd H a (.ins Ca dx (putF (C.nm f) v gs))) := .over k2 trivial
  refine ⟨Ca, dx, gs, k2, cx.sta.cls c Ca k1, cx.sta.att c Ca f k1 hf, (Paired.length k3).symm, kp, rel.put kp ⟨Ca, dx, _, k1, upd_same, ?_, ?_⟩⟩
  · have := fput_ok (ok := L.ok) (by rw [cx.sta.okL, cx.sta.nm]; exact cx.sta.inj) ho2 (rd.mono kp) (k3.mono kp) (all_l k4)
    rw [cx.sta.nm] at this ⊢
    exact this
  · exact fput_all (p := fun q => L.ok q && L.fld c q) (by rw [ho2, cx.sta.fldL, hf]; rfl) k4
theorem mTo_tup {own : List Nat} {ts : Ts} {pt : Expr} (h : mTo N sc own (.tp ts) pt = true) : ∃ es k p, pt = .Tuple es k p := by
  simp only [mTo] at h
  split at h
  · exact ⟨_, _, _, rfl⟩
  · cases h
theorem s_asg (tg : T) (e : E) : GoS exc L t n C N (.asg tg e) := fun sc X W ps hm cx tk => by
  simp only [mS] at hm
  split at hm
  · rename_i pt pe pos
    cases tg with
    | nm i =>
      simp only [mAsg] at hm
      split at hm
      · simp only [Bool.and_eq_true, decide_eq_true_eq, Bool.or_eq_true] at hm
        obtain ⟨⟨⟨h1, h2⟩, h3⟩, h4⟩ := hm
        refine PS.weak (asg_name cx tk h1 h2 (h3.imp id fun z => ⟨z.1, kind_fn (b := true) z.2⟩) h4) fun D σ H q => ?_
        exact q.bd (k := fun Xd r Q d m1 => Q.nx (r.set i (some d)) m1) (fun _ _ _ _ h => h) fun Xd r Q x m v H1 re rel xl q h rv => q.1 _ m _ H1 h (re.set i rv) rel (.refl H1)
      · cases hm
    | tp ts =>
      simp only [mAsg, Bool.or_eq_true, Bool.and_eq_true] at hm
      obtain ⟨hc0, hm⟩ := hm
      have hh := cx.cold hc0
      rcases hm with (⟨⟨h1, h2⟩, h3⟩ | ⟨⟨h1, h2⟩, h3⟩) | ⟨⟨h1, h2⟩, h3⟩
      · obtain ⟨es, k, p, rfl⟩ := mTo_tup h1
        have h2 : isTup pe = false ∨ mCel X.env.scope (.Tuple es k p) pe = true := by
          rw [cx.sc]
          simpa using h2
        refine PS.weak (ps_asg (goE e _ _ _ _ h3 cx.toCtx tk).1 (own_t (g := sgh t n) (cx.ownX hh) (.tp ts) _ h1) (swap_tup (e := pe) es k p pos.line X.env) (swN h2) rfl) fun D σ H q => ?_
        exact q.bd (k := fun Xd r Q d m1 => wpT (sgh t n) (.tp ts) d Xd r m1 Q.nx) (fun _ _ _ _ h => h) fun Xd r Q x m v H1 re rel xl q h rv =>
          ⟨x, r, m, Xd, Q.nx, re, rel, rv, h, fun r2 m2 σ2 H2 hp re2 rel2 k2 _ => q.1 r2 m2 σ2 H2 hp re2 rel2 k2⟩
      · have hp := h2
        unfold mPar at h2
        split at h2
        · rename_i x px y py k1 pt1 a b k2 pt2
          have hp2 : mPar X.env.scope (.Tuple [.Name x px, .Name y py] k1 pt1) (.Tuple [a, b] k2 pt2) = true := by rw [cx.sc]; exact hp
          obtain ⟨w1, w2, w3, w4⟩ := par_some hp2
          cases e with
          | tup es =>
            simp only [mE, Bool.and_eq_true] at h3
            have hes := h3.2
            have hA := goEs es _ _ _ _ hes cx.toCtx tk
            simp only [mTo, Bool.and_eq_true] at h1
            cases ts with
            | nil => simp [mTos] at h1
            | cons t1 ts =>
              cases ts with
              | nil => simp [mTos] at h1
              | cons t2 ts =>
                cases ts with
                | cons _ _ => simp [mTos] at h1
                | nil =>
                  simp only [mTos, Bool.and_eq_true] at h1
                  obtain ⟨⟨g1, g2, _⟩, _⟩ := h1
                  cases t1 with
                  | nm i =>
                    cases t2 with
                    | nm j =>
                      simp only [mTo, Bool.and_eq_true, decide_eq_true_eq] at g1 g2
                      have hij : i ≠ j := fun z => by
                        subst z
                        have := g1.1.1.symm.trans g2.1.1
                        cases this
                        exact w2 rfl
                      refine PS.weak (ps_par (cx.calm hh) (by rw [cx.nn]; exact cx.nd) (by rw [cx.nn]; exact g1.1.1) (by rw [cx.nn]; exact g2.1.1) hij w3 w4 hA.pa w1 (swap_tup (e := .Tuple [a, b] k2 pt2) [.Name x px, .Name y py] k1 pt1 pos.line X.env)) fun D σ H ⟨r, m, Q, Xd, re, rel, h, q, xl⟩ => ?_
                      refine ⟨r, m, _, Xd, re, rel, (show wpEs (sgh t n) es Xd r m fun ds m1 => wpT (sgh t n) (.tp (.cons (.nm i) (.cons (.nm j) .nil))) (.tup ds) Xd r m1 Q.nx from h), fun xs m2 vs H2 hl hp rs rel2 k2 => ?_, xl⟩
                      cases rs with
                      | nil => exact hp.2.elim
                      | cons r1 rs => cases rs with
                        | nil => exact hp.2.elim
                        | cons r2 rs => cases rs with
                          | cons _ _ => exact hp.2.elim
                          | nil => exact ⟨_, _, rfl, q.1 _ m2 _ H2 hp.2 (((re.mono k2).set i r1).set j r2) rel2 k2⟩
                    | _ => simp [mTo] at g2
                  | _ => simp [mTo] at g1
          | _ => simp [mE] at h3
        · cases h2
      · have h2 : isTup pe = false := by simpa using h2
        unfold mSub at h1
        split at h1
        · rename_i o i j po pi spos y py k p
          simp only [Bool.and_eq_true, decide_eq_true_eq] at h1
          obtain ⟨⟨⟨⟨g1, g2⟩, g3⟩, g4⟩, g5⟩ := h1
          have ox := cx.ownX (L := L) (N := N) hh
          have pn := pg_name (i := j) (x := y) (pos := py) (by rw [ox.nn]; exact ox.nd) (by rw [ox.nn]; exact g4) (ox.loc _ g5).1 (ox.loc _ g5).2
          have ps := pg_sub (goE o _ _ _ _ g2 cx.toCtx tk).1 (goE i _ _ _ _ g3 cx.toCtx tk).1 (setS cx.k cx.sta.w cx.un) (pos := spos) (fun v => by cases pi <;> first | rfl | cases g1)
          have pu := pg_unp (pos := p) (k := k) (by exact ox.calm) (pgs_cons ps (pgs_cons pn pgs_nil (by rfl)) (by rfl)) (asgs_ok (es := [.Subscript po pi spos, .Name y py]) rfl _).1 (asgs_ok (es := [.Subscript po pi spos, .Name y py]) rfl _).2
          refine PS.weak (ps_asg (goE e _ _ _ _ h3 cx.toCtx tk).1 pu (swap_tup (e := pe) [.Subscript po pi spos, .Name y py] k p pos.line X.env) (tpT_none h2) rfl) fun D σ H q => ?_
          refine q.bd (k := fun Xd r Q d m1 => wpT (sgh t n) (.tp (.cons (.sb o i) (.cons (.nm j) .nil))) d Xd r m1 Q.nx) (fun _ _ _ _ h => h) fun Xd r Q d m v H1 re rel xl q h rv => ?_
          cases rv with
          | @tup ds a vs sa ra =>
            have hw : ds.length = 2 ∧ wpTs (sgh t n) (.cons (.sb o i) (.cons (.nm j) .nil)) ds Xd r m Q.nx := h
            refine ⟨a, vs, rfl, .inl (by rw [ox.k]; exact sa.sq), by rw [← ra.length]; exact hw.1, ?_⟩
            obtain ⟨hl, hw⟩ := hw
            cases ra with
            | nil => cases hl
            | @cons d1 v1 ds vs r1 rr =>
              cases rr with
              | nil => cases hl
              | @cons d2 v2 ds2 vs2 r2 rr2 =>
                cases rr2 with
                | cons _ _ => simp at hl
                | nil =>
                  have hw : wpE (sgh t n) o Xd r m (fun x m1 => wpE (sgh t n) i Xd r m1 fun y m2 => setW x y d1 m2 fun m3 => Q.nx (r.set j (some d2)) m3) := hw
                  exact ⟨v1, [v2], rfl, .go re rel xl hw fun x m2 u H2 hp ru rel2 k2 => .go (re.mono k2) rel2 (xl.mono k2) hp fun y m3 w H3 hp rw_ rel3 k3 =>
                    set_ok hp (ru.mono k3) rw_ (r1.mono (k2.trans k3)) rel3 fun m4 H4 h4 rel4 k4 => ⟨v2, [], rfl, rfl, q.1 _ m4 _ H4 h4 ((re.mono (k2.trans (k3.trans k4))).set j (r2.mono (k2.trans (k3.trans k4)))) rel4 (k2.trans (k3.trans k4))⟩⟩
          | ref a =>
            have hw : (match m a with
              | some (.lst ds) => ds.length = 2 ∧ wpTs (sgh t n) (.cons (.sb o i) (.cons (.nm j) .nil)) ds Xd r m Q.nx
              | _ => False) := h
            cases e0 : m a with
            | none => rw [e0] at hw; exact hw.elim
            | some o2 => cases o2 with
              | lst ds =>
                rw [e0] at hw
                obtain ⟨vs, hv, ra⟩ := rel _ _ e0
                refine ⟨a, vs, rfl, .inr (SqL.of hv), by rw [← ra.length]; exact hw.1, ?_⟩
                obtain ⟨hl, hw⟩ := hw
                cases ra with
                | nil => cases hl
                | @cons d1 v1 ds vs r1 rr =>
                  cases rr with
                  | nil => cases hl
                  | @cons d2 v2 ds2 vs2 r2 rr2 =>
                    cases rr2 with
                    | cons _ _ => simp at hl
                    | nil =>
                      have hw : wpE (sgh t n) o Xd r m (fun x m1 => wpE (sgh t n) i Xd r m1 fun y m2 => setW x y d1 m2 fun m3 => Q.nx (r.set j (some d2)) m3) := hw
                      exact ⟨v1, [v2], rfl, .go re rel xl hw fun x m2 u H2 hp ru rel2 k2 => .go (re.mono k2) rel2 (xl.mono k2) hp fun y m3 w H3 hp rw_ rel3 k3 =>
                        set_ok hp (ru.mono k3) rw_ (r1.mono (k2.trans k3)) rel3 fun m4 H4 h4 rel4 k4 => ⟨v2, [], rfl, rfl, q.1 _ m4 _ H4 h4 ((re.mono (k2.trans (k3.trans k4))).set j (r2.mono (k2.trans (k3.trans k4)))) rel4 (k2.trans (k3.trans k4))⟩⟩
              | _ => rw [e0] at hw; exact hw.elim
          | _ => exact h.elim
        · cases h1
    | at_ f o =>
      simp only [mAsg] at hm
      split at hm
      · simp only [Bool.and_eq_true, decide_eq_true_eq] at hm
        obtain ⟨⟨⟨h1, h2⟩, h3⟩, h4⟩ := hm
        refine PS.weak (ps_fld (goE o _ _ _ _ h3 cx.toCtx tk).1 (goE e _ _ _ _ h4 cx.toCtx tk).1 (swap_oth _ _ _ _ _)) fun D σ H q => ?_
        refine q.bd (k := fun Xd r Q d m1 => wpE (sgh t n) o Xd r m1 fun x m2 => match x with
          | .ref a => ∃ c fs, m2 a = some (.ins c fs) ∧ (sgh t n).fld c f = true ∧ fs.length < 1000 ∧ Q.nx r (up m2 a (.ins c (fput fs f d)))
          | _ => False) (fun _ _ _ _ h => h) fun Xd r Q d m v H1 re rel xl q h rv => .go re rel xl h fun x m2 u H2 hp ru rel2 k2 => ?_
        cases ru with
        | ref a =>
          obtain ⟨c, fs, e1, e2, e3, hp⟩ := hp
          obtain ⟨Ca, dx, gs, g1, g2, g3, g4, g5, g6⟩ := fld_put cx.toCtx rel2 e1 h2 e2 (rv.mono k2)
          rw [h1] at g3 g5 g6
          exact ⟨a, Ca, dx, gs, rfl, g1, g2, g3, by rw [g4]; exact e3, q.1 r _ σ _ hp (re.mono (k2.trans g5)) g6 (k2.trans g5)⟩
        | _ => exact hp.elim
      · cases hm
    | sb o i =>
      simp only [mAsg] at hm
      split at hm
      · rename_i po pi spos
        simp only [Bool.and_eq_true] at hm
        obtain ⟨⟨⟨h1, h2⟩, h3⟩, h4⟩ := hm
        refine PS.weak (ps_asg (goE e _ _ _ _ h4 cx.toCtx tk).1 (pg_sub (goE o _ _ _ _ h2 cx.toCtx tk).1 (goE i _ _ _ _ h3 cx.toCtx tk).1 (setS cx.k cx.sta.w cx.un) (pos := spos) (fun v => by cases pi <;> first | rfl | cases h1)) (swap_sub (e := pe) po pi spos pos.line X.env) tpS_none rfl) fun D σ H q => ?_
        refine q.bd (k := fun Xd r Q d m1 => wpE (sgh t n) o Xd r m1 fun x m2 => wpE (sgh t n) i Xd r m2 fun y m3 => setW x y d m3 fun m4 => Q.nx r m4) (fun _ _ _ _ h => h) fun Xd r Q d m v H1 re rel xl q h rv =>
          .go re rel xl h fun x m2 u H2 hp ru rel2 k2 => .go (re.mono k2) rel2 (xl.mono k2) hp fun y m3 w H3 hp rw_ rel3 k3 =>
            set_ok hp (ru.mono k3) rw_ (rv.mono (k2.trans k3)) rel3 fun m4 H4 h4 rel4 k4 => q.1 r m4 σ H4 h4 (re.mono (k2.trans (k3.trans k4))) rel4 (k2.trans (k3.trans k4))
      · cases hm
  · cases hm

/-! ### op= -/
def augR : Bop → V → V → Hp → VK → Prop
  | .add => ipI fun i j => i + j
  | .sub => ipI fun i j => i - j
  | _ => fun _ _ _ _ => False
theorem augS : ∀ op : Bop, PIp X (bopO op) (augR op)
  | .add => ip_add
  | .sub => ip_sub
  | .mul => fun _ _ _ _ _ _ _ _ _ _ _ _ h => h.elim
  | .fdiv => fun _ _ _ _ _ _ _ _ _ _ _ _ h => h.elim
  | .mod => fun _ _ _ _ _ _ _ _ _ _ _ _ h => h.elim
  | .pow => fun _ _ _ _ _ _ _ _ _ _ _ _ h => h.elim
theorem aug_val {op : Bop} {x y : D} {P : D → Prop} {v u : V} {H : Hp} {Q : VK} (h : augW op x y P) (rx : Rp L.F H x v) (ry : Rp L.F H y u) (q : ∀ z w, P z → Rp L.F H z w → Q w H) : augR op v u H Q := by
  cases op with
  | add => cases rx with
    | int i => cases ry with
      | int j => exact ⟨i, j, rfl, rfl, q _ _ h (.int _)⟩
      | _ => exact h.elim
    | _ => exact h.elim
  | sub => cases rx with
    | int i => cases ry with
      | int j => exact ⟨i, j, rfl, rfl, q _ _ h (.int _)⟩
      | _ => exact h.elim
    | _ => exact h.elim
  | _ => exact h.elim
theorem get_dict (hu : X.A.units + 1 < cLine) : PGet X rIxD := by
  intro pins s σ H o i ov iv Q J ro ri h
  obtain ⟨a, w, rfl, g, q⟩ := h
  obtain rfl : ov = Value.ref a := ro
  exact d_getItem hu J g ri fun w2 s2 J2 r2 => ⟨w, H, J2, r2, q⟩
theorem get_dT (hk : X.K = L.F) (hw : X.w = L.w) (hu : X.A.units + 65 < cLine) : PGet X (rIxT L) := by
  intro pins s σ H o i ov iv Q J ro ri h
  obtain ⟨a, kvs, xs, ks, w, rfl, D, rk, hs, g, q⟩ := h
  obtain rfl : ov = Value.ref a := ro
  obtain ⟨b, rfl⟩ := rk.tup_ref
  obtain rfl : iv = Value.ref b := ri
  exact dt_getItem (by omega) J (D.now hk hw J) (keyT_is hk J hs rk) g fun w2 s2 J2 r2 => ⟨w, H, J2, r2, q⟩
theorem get_dict2 (hk : X.K = L.F) (hw : X.w = L.w) (hu : X.A.units + 65 < cLine) : PGet X (fun x y H Q => rIxD x y H Q ∨ rIxT L x y H Q) := by
  intro pins s σ H o i ov iv Q J ro ri h
  rcases h with h | h
  · exact get_dict (by omega) pins s σ H o i ov iv Q J ro ri h
  · exact get_dT hk hw hu pins s σ H o i ov iv Q J ro ri h
theorem s_aug (tg : T) (op : Bop) (e : E) : GoS exc L t n C N (.aug tg op e) := fun sc X W ps hm cx tk => by
  simp only [mS] at hm
  split at hm
  · rename_i pt o1 pe pos
    simp only [Bool.and_eq_true, decide_eq_true_eq] at hm
    obtain ⟨⟨h1, h2⟩, h3⟩ := hm
    subst h1
    have he := (goE e _ _ _ _ h2 cx.toCtx tk).1
    cases tg with
    | nm i =>
      simp only at h3
      split at h3
      · simp only [Bool.and_eq_true, decide_eq_true_eq] at h3
        refine PS.weak (ps_aug (i := i) (by rw [cx.nn]; exact cx.nd) (by rw [cx.nn]; exact h3.1) (cx.loc h3.2) he (augS op) (.inl (cx.fn _))) fun D σ H ⟨r, m, Q, Xd, re, rel, h, q, xl⟩ => ?_
        obtain ⟨x, hx, h⟩ := (show ∃ x, vget r i = some x ∧ wpE (sgh t n) e Xd r m fun y m1 => augW op x y fun z => Q.nx (r.set i (some z)) m1 from h)
        obtain ⟨v, hv, rv⟩ := re.2 _ _ hx
        exact ⟨v, hv, .go re rel xl h fun y m1 u H1 hp ru rel1 k1 => aug_val hp (rv.mono k1) ru fun z w hz rz => q.1 _ m1 _ H1 hz ((re.mono k1).set i rz) rel1 k1⟩
      · cases h3
    | at_ f o =>
      simp only at h3
      split at h3
      · simp only [Bool.and_eq_true, decide_eq_true_eq] at h3
        obtain ⟨⟨g1, g2⟩, g3⟩ := h3
        refine PS.weak (ps_fldaug (goE o _ _ _ _ g3 cx.toCtx tk).1 he (augS op)) fun D σ H q => ?_
        refine q.bd (k := fun Xd r Q x m1 => match x with
          | .ref a => ∃ c fs d, m1 a = some (.ins c fs) ∧ fget fs f = some d ∧ wpE (sgh t n) e Xd r m1 fun y m2 => augW op d y fun z =>
              ∃ fs2, m2 a = some (.ins c fs2) ∧ fs2.length < 1000 ∧ Q.nx r (up m2 a (.ins c (fput fs2 f z)))
          | _ => False) (fun _ _ _ _ h => h) fun Xd r Q x m v H1 re rel xl q h rv => ?_
        cases rv with
        | ref a =>
          obtain ⟨c, fs, d, e1, e2, h⟩ := h
          obtain ⟨Ca, dx, gs, k1, k2, k3, k4⟩ := rel _ _ e1
          have ho : L.ok f = true := by rw [cx.sta.okL]; exact g2
          have hfl : t.fld c f = true := by rw [← cx.sta.fldL]; exact all_r k4 e2
          rcases fget_ok (ok := L.ok) (by rw [cx.sta.okL, cx.sta.nm]; exact cx.sta.inj) ho k3 (all_l k4) with ⟨d2, v2, z1, z2, z3⟩ | ⟨z1, z2⟩
          · rw [e2] at z1
            cases z1
            rw [cx.sta.nm, g1] at z2
            have hat := cx.sta.att c Ca f k1 hfl
            rw [g1] at hat
            refine ⟨a, Ca, dx, gs, v2, rfl, k2, cx.sta.cls c Ca k1, hat, z2, .go re rel xl h fun y m2 u H2 hp ru rel2 kp2 => aug_val hp (z3.mono kp2) ru fun z w hz rz => ?_⟩
            obtain ⟨fs2, e5, e6, hz⟩ := hz
            obtain ⟨Cb, dx2, gs2, y1, y2, y3, y4, y5, y6⟩ := fld_put cx.toCtx rel2 e5 g2 hfl rz
            obtain ⟨Cc, dx3, gs3, q1, q2, q3, q4⟩ := rel2 _ _ e5
            rw [y1] at q2
            cases q2
            rw [k1] at q1
            cases q1
            rw [g1] at y5 y6
            exact ⟨dx2, gs2, y1, by rw [y4]; exact e6, q.1 r _ σ _ hz (re.mono (kp2.trans y5)) y6 (kp2.trans y5)⟩
          · rw [e2] at z1; cases z1
        | _ => exact h.elim
      · cases h3
    | sb o i =>
      simp only at h3
      split at h3
      · simp only [Bool.and_eq_true] at h3
        obtain ⟨⟨g1, g2⟩, g3⟩ := h3
        refine PS.weak (ps_augS (goE o _ _ _ _ g2 cx.toCtx tk).1 (goE i _ _ _ _ g3 cx.toCtx tk).1 (get_dict2 cx.k cx.sta.w cx.un) he (augS op) (setS cx.k cx.sta.w cx.un) (fun ov iv new => aug_ok g1 _ _ _)) fun D σ H q => ?_
        refine q.bd (k := fun Xd r Q x m1 => wpE (sgh t n) i Xd r m1 fun y m2 => match x with
          | .ref a => ∃ d, dget m2 a y = some (some d) ∧ wpE (sgh t n) e Xd r m2 fun v m3 => augW op d v fun z => setW x y z m3 fun m4 => Q.nx r m4
          | _ => False) (fun _ _ _ _ h => h) fun Xd r Q x m v H1 re rel xl q h rv => .go re rel xl h fun y m2 u H2 hp ru rel2 k2 => ?_
        cases rv with
        | ref a =>
          obtain ⟨d, e1, hp⟩ := hp
          rcases dget_ok e1 ru rel2 with ⟨w, g, hw⟩ | ⟨ks, kvs, xs, f1, f2, f3, f4⟩
          · rcases hw with ⟨z, _⟩ | ⟨d2, z2, z3, z4, z5⟩
            · cases z
            · cases z3
              subst z4
              refine .inl ⟨a, z2, rfl, g, .go (re.mono k2) rel2 (xl.mono k2) hp fun v3 m3 w3 H3 hp rv3 rel3 k3 => aug_val hp (z5.mono k3) rv3 fun z w hz rz => ?_⟩
              exact set_ok hz (.ref a) (ru.mono k3) rz rel3 fun m4 H4 h4 rel4 k4 => q.1 r m4 σ H4 h4 (re.mono (k2.trans (k3.trans k4))) rel4 (k2.trans (k3.trans k4))
          · subst f1
            rcases lookT f2 f3.r with ⟨g1, _⟩ | ⟨d2, z2, g1, g2, z5⟩
            · rw [g1] at f4; cases f4
            · rw [g1] at f4
              cases f4
              refine .inr ⟨a, kvs, xs, ks, z2, rfl, f3, ru, f2, g2, .go (re.mono k2) rel2 (xl.mono k2) hp fun v3 m3 w3 H3 hp rv3 rel3 k3 => aug_val hp (z5.mono k3) rv3 fun z w hz rz => ?_⟩
              exact set_ok hz (.ref a) (ru.mono k3) rz rel3 fun m4 H4 h4 rel4 k4 => q.1 r m4 σ H4 h4 (re.mono (k2.trans (k3.trans k4))) rel4 (k2.trans (k3.trans k4))
        | _ => exact hp.elim
      · cases h3
    | tp _ => cases h3
  · cases hm
theorem s_rais (c : Nat) : GoS exc L t n C N (.rais c) := fun sc X W ps hm cx tk => by
  simp only [mS] at hm
  split at hm
  · simp only [Bool.and_eq_true, decide_eq_true_eq] at hm
    obtain ⟨⟨⟨hc0, h1⟩, h2⟩, h3⟩ := hm
    have hh := cx.cold hc0
    subst h1
    cases he : t.ex c with
    | false =>
      refine ⟨fun pins s σ H D J ⟨r, m, Q, Xd, re, rel, h, q, xl⟩ => ?_⟩
      have h0 : (n.hx.isNone && t.ex c) = true := (show (n.hx.isNone && t.ex c) = true ∧ _ from h).1
      rw [he, Bool.and_false] at h0
      cases h0
    | true =>
      obtain ⟨Ca, e1, e2⟩ := cx.sta.exr c he
      have F := cx.sta.exs c Ca e1
      refine PS.weak (L2N.ps_raise (cx.calm hh) tk (L2N.pmk_own PySem.F.excBase_ValueError F.q e2 F.kp (raises_own F.sb F.ty) (cx.gl h2) (okx_d h3).1)) fun D σ H ⟨r, m, Q, Xd, re, rel, h, q, xl⟩ => ?_
      exact xl c r m Ca H σ h.2 e1 re rel (.refl H)
  · cases hm
theorem REnv.gone {F : PySem.W.Frag} {H : Hp} {r : Mn.Env} {σ : L2.St} (h : REnv F H r σ) (i : Nat) : REnv F H (r.set i none) (σ.set i none) := by
  refine ⟨by simp [h.1], fun j d e => ?_⟩
  rw [vget_set] at e
  split at e
  · cases e
  · rename_i z
    obtain ⟨w, h1, h2⟩ := h.2 j d e
    have hlt : j < σ.length := (List.getElem?_eq_some_iff.mp h1).1
    exact ⟨w, by rw [List.getElem?_set_ne (fun y => z ⟨y.symm, by rw [h.1, y]; exact hlt⟩)]; exact h1, h2⟩
/-- try: .. except x as z: .. -/
theorem s_tr {b s o : Ss} {i c : Nat} (gb : GoSs exc L t n C N b) (gs : ∀ h, GoSs exc L t ⟨n.n, some h⟩ { C with hot := true } N s) (go : GoSs exc L t n C N o) : GoS exc L t n C N (.tr b i c s o) := fun sc X W ps hm cx tk => by
  simp only [mS] at hm
  split at hm
  · rename_i pb x px z p0 pz hp po tp
    simp only [Bool.and_eq_true, decide_eq_true_eq] at hm
    obtain ⟨⟨⟨⟨⟨⟨⟨⟨⟨hc0, hi⟩, hl⟩, hx⟩, hg⟩, hok⟩, hex⟩, hb⟩, hs⟩, hol⟩ := hm
    have hh := cx.cold hc0
    obtain ⟨Cc, e2, e1⟩ := cx.sta.exg c hex
    rw [hx] at e2
    have names : L2.Names X x (.ref Cc) := ⟨cx.gl hg, (okx_d hok).1, .inl e2⟩
    have hln : X.env.kindOf z = some .local := by
      show X.env.scope.names.lookup z = _
      rw [cx.sc]
      exact lo_eq hl
    have hbody : ∀ (W2 : WX) (pn : List (Addr × Obj)) (xe : Value → Shared → Prop), L2N.Takes (X.tr pn xe) W2 → PassesOwn (model X.prog X.w) X.A X.env xe → PSs (X.tr pn xe) pb (LS exc L W2 fun Xd r m Q => wpSs (sgh t n) Xd b r m Q) := fun W2 pn xe tk2 own2 =>
      gb sc _ _ _ hb { sta := cx.sta.of rfl rfl rfl rfl rfl, nn := cx.nn, sc := cx.sc, nd := cx.nd, hot := cx.hot, calm := cx.calm, room := cx.room, roomH := cx.roomH, own := own2, hld := fun h e => (by rw [hh] at e; cases e), fn := cx.fn, stk := cx.stk, frm := cx.frm } tk2
    have hsu : ∀ (a : Addr) (oe : Obj) (cls : Value) (d : Option Addr) (pn : List (Addr × Obj)), L2N.Zn cls d oe → (∃ vs, oe.data = .fields vs) → PSs (X.suite a ((a, oe) :: pn)) (p0 :: pz)
        (fun D σ H => ∃ k Ca, cls = .ref Ca ∧ d = none ∧ exc k = some Ca ∧ LS exc L (fun _ _ _ _ => False) (fun Xd r m Q => wpSs (sgh t ⟨n.n, some (a, k)⟩) Xd s r m Q) D σ H) := fun a oe cls d pn hz hf => by
      refine ⟨fun pins st σ H D J ⟨k, Ca, y1, y2, y3, q⟩ => ?_⟩
      subst y1 y2
      have cx2 : SCtx exc L t ⟨n.n, some (a, k)⟩ { C with hot := true } N sc (X.suite a ((a, oe) :: pn)) :=
        { sta := { k := cx.sta.k, w := cx.sta.w, nm := cx.sta.nm, inj := cx.sta.inj, okL := cx.sta.okL, fldL := cx.sta.fldL, okF := cx.sta.okF, blt := cx.sta.blt, con := cx.sta.con, fn := fun y => (nomatch y), fnh := cx.sta.fnh, met := fun y => (nomatch y), mke := fun y => (nomatch y), cls := cx.sta.cls, att := cx.sta.att, exs := cx.sta.exs, exg := cx.sta.exg, exr := cx.sta.exr }
          nn := cx.nn, sc := cx.sc, nd := cx.nd, hot := rfl, calm := fun y => (nomatch y), room := fun y => (nomatch y), roomH := ⟨cx.roomH.dp, cx.roomH.un⟩, own := PassesOwn.never,
          hld := fun h e => (by
            cases e
            obtain ⟨vs, hv⟩ := hf
            exact ⟨(a, oe), ⟨rfl, vs, hv, hz.2.2 vs hv⟩, List.mem_cons_self, rfl, ⟨vs, hv⟩, Ca, y3, hz⟩)
          fn := cx.fn, stk := cx.stk, frm := cx.frm }
      exact (gs (a, k) sc _ _ _ hs cx2 takesN).run pins st σ H D J q
    refine PS.weak (L2N.mn_try_else (go sc _ _ _ hol cx tk) cx.stk cx.frm (by rw [cx.nn]; exact cx.nd) (by rw [cx.nn]; exact hi) hln names tk hbody hsu) fun D σ H ⟨r, m, Q, Xd, re, rel, h, q, xl⟩ => ?_
    have h : wpSs (sgh t n) (fun k r1 m1 => if t.sub k c = true then (∀ a, wpSs ((sgh t n).hot a k) XF s (r1.set i (some (.exc a k))) m1
      { nx := fun r2 m2 => Q.nx (r2.set i none) m2, rt := Q.rt, bk := fun r2 m2 => Q.bk (r2.set i none) m2, ct := fun r2 m2 => Q.ct (r2.set i none) m2 }) else Xd k r1 m1) b r m { Q with nx := fun r1 m1 => wpSs (sgh t n) Xd o r1 m1 Q } := h
    refine ⟨r, m, _, _, re, rel, h, ⟨fun r3 m3 σ3 H3 h3 re3 rel3 k3 => ⟨r3, m3, Q, Xd, re3, rel3, h3, q.mono k3, xl.mono k3⟩, q.2⟩, fun k r1 m1 Ca H2 σ2 hxk he re2 rel2 k2 => ⟨t.sub k c, (e1 k Ca he).1, fun hs1 a ha => ?_, fun hs1 => ?_⟩⟩
    · dsimp only at hxk
      rw [if_pos hs1] at hxk
      have hxa := hxk a
      have eg : (sgh t n).hot a k = sgh t ⟨n.n, some (a, k)⟩ := by
        obtain ⟨nn, hx⟩ := n
        cases hh
        rfl
      rw [eg] at hxa
      refine ⟨k, Ca, rfl, rfl, he, _, m1, _, XF, re2.set i (.exc a k), rel2, hxa, ⟨fun r3 m3 σ3 H3 h3 re3 rel3 k3 => q.1 _ m3 _ H3 h3 (re3.gone i) rel3 (k2.trans k3), q.2.1.mono k2,
        fun r3 m3 σ3 H3 h3 re3 rel3 k3 => q.2.2.1 _ m3 _ H3 h3 (re3.gone i) rel3 (k2.trans k3), fun r3 m3 σ3 H3 h3 re3 rel3 k3 => q.2.2.2 _ m3 _ H3 h3 (re3.gone i) rel3 (k2.trans k3)⟩, xlN⟩
    · dsimp only at hxk
      rw [if_neg (by rw [hs1]; decide)] at hxk
      exact xl k r1 m1 Ca H2 σ2 hxk he re2 rel2 k2
  · cases hm
end
section
variable {exc : Nat → Option Addr} {L : Lk} {t : Tab} {N : List Str}
mutual
theorem goS : ∀ (s : S) (n : Dn) (C : Nm), GoS exc L t n C N s
  | .pass, _, _ => s_pass
  | .ex e, _, _ => s_ex e
  | .asg tg e, _, _ => s_asg tg e
  | .aug tg op e, _, _ => s_aug tg op e
  | .ife _ a b, n, C => s_ife (goSs a n C) (goSs b n C)
  | .fr _ _ b, n, C => s_fr (goSs b n C)
  | .whl _ b, n, C => s_whl (goSs b n C)
  | .brk, _, _ => s_brk
  | .cnt, _, _ => s_cnt
  | .ret e, _, _ => s_ret e
  | .ret0, _, _ => s_ret0
  | .rais c, _, _ => s_rais c
  | .nev, _, _ => s_nev
  | .tr b _ _ s o, n, C => s_tr (goSs b n C) (fun h => goSs s ⟨n.n, some h⟩ { C with hot := true }) (goSs o n C)
theorem goSs : ∀ (s : Ss) (n : Dn) (C : Nm), GoSs exc L t n C N s
  | .nil, _, _ => ss_nil
  | .cons s ss, n, C => ss_cons (goS s n C) (goSs ss n C)
end
end
end Mn
end

section
set_option Elab.async false
set_option linter.all false
set_option maxRecDepth 100000
set_option maxHeartbeats 4000000
/-! Mn, part P: a law's text as one datum; its defs keep the terms' promises. -/
namespace Mn
open PySem PySem.Spec PyProof.Rows L2 RZ

/-- a def: class, name, term, names of its slots, its text -/
structure Dd where
  c : Nat
  f : Nat
  fn : Fn
  N : List Str
  d : He.DefD
structure Pk where
  nms : List Str
  ini : Nat
  defs : List Dd
  cls : List Nat
  fld : List (Nat × Nat)
  con : List (Nat × D)
  /-- classes of exceptions: raised; asked for; which is of which; defs called in except suites -/
  rz : List Nat
  exs : List Nat
  sub : List (Nat × Nat)
  hfn : List Nat
namespace Pk
variable (p : Pk)
def nm (i : Nat) : Str := p.nms.getD i ""
def at_ (c f : Nat) : Option Dd := p.defs.find? fun e => decide (e.c = c) && decide (e.f = f)
def tab : Tab := ⟨fun c f => (p.at_ c f).map (·.fn), p.ini, fun c f => decide ((c, f) ∈ p.fld), fun c => decide (c ∈ p.rz), fun c k => decide ((c, k) ∈ p.sub)⟩
def C : Nm := ⟨p.nm, fun k d => p.con.any fun q => decide (q.1 = k) && D.same q.2 d, fun i => decide (i < p.nms.length), false, fun f => decide (f ∈ p.hfn), fun k => decide (k ∈ p.exs)⟩
def L (K : PySem.W.Frag) (w : World) : Lk := ⟨K, w, p.nm, fun c => if c ∈ p.cls then some (He.ga K (p.nm c)) else none, p.C.ok, p.tab.fld⟩
def exN (K : PySem.W.Frag) : Nat → Option Addr := fun c => if c ∈ p.rz then some (He.ga K (p.nm c)) else none
end Pk
def blts : List Str := ["len", "abs", "int", "str", "ord", "min", "max", "sum", "all", "any", "sorted", "list", "tuple", "dict", "set", "bool", "range", "enumerate", "zip", "isinstance", "ValueError"]
theorem blts_ok {x : Str} (h : isBlt x = true) : x ∈ blts := of_decide_eq_true h
def parN (d : He.DefD) : List Str := d.params.args.map (·.arg)
def scB (N P : List Str) (sc : Scope) : Bool := (match sc.kind with | .function => true | _ => false) && !sc.isCoroutine && !sc.isGenerator && decide N.Nodup && decide (N.take P.length = P) &&
  (P.all fun x => match sc.names.lookup x with | some .local => true | some .cell => true | _ => false) && (sc.names.all fun y => match y.2 with | .free => false | _ => true)
theorem scB_ok {N P : List Str} {sc : Scope} (h : scB N P sc = true) : FnScope N P sc := by
  simp only [scB, Bool.and_eq_true, Bool.not_eq_true', decide_eq_true_eq, List.all_eq_true] at h
  obtain ⟨⟨⟨⟨⟨⟨h1, h2⟩, h3⟩, h4⟩, h5⟩, h6⟩, h7⟩ := h
  refine ⟨kind_fn (b := true) h1, h2, h3, h4, h5, fun x hx => ?_, fun y hy e => ?_⟩
  · have := h6 x hx
    split at this
    · exact .inl (by assumption)
    · exact .inr (by assumption)
    · cases this
  · have := h7 y hy
    rw [e] at this
    cases this
namespace Pk
def okD (p : Pk) (e : Dd) : Bool := decide (e.fn.params = (parN e.d).length) && decide (e.fn.slots = e.N.length) && scB e.N (parN e.d) e.d.scope && e.d.dfl.isEmpty && e.d.kwd.isEmpty &&
  decide (e.d.at_ = if e.c = 0 then (p.nm e.f, none) else (p.nm e.c, some (p.nm e.f))) && decide (e.f < p.nms.length) && (decide (e.c = 0) || decide (e.c ∈ p.cls)) && mSs e.N p.C e.fn.body e.d.scope e.d.body && (!(decide (e.c = 0) && decide (e.f ∈ p.hfn)) || mSs e.N { p.C with hot := true } e.fn.body e.d.scope e.d.body)
def ok (p : Pk) : Bool := decide p.nms.Nodup && (p.fld.all fun q => decide (q.2 < p.nms.length) && decide (q.1 ∈ p.cls)) && (p.cls.all fun c => !decide (c = 0)) && decide (p.nm p.ini = "__init__") && decide (p.ini < p.nms.length) && p.defs.all p.okD
def fa (p : Pk) : List He.Fa := blts.map .free ++ ((p.defs.filter fun e => decide (e.c = 0)).map fun e => .glo (p.nm e.f)) ++ (p.cls.flatMap fun c => [.glo (p.nm c), .cls (p.nm c), .mkr (p.nm c)]) ++
  ((p.defs.filter fun e => !decide (e.c = 0)).map fun e => .meth (p.nm e.c) (p.nm e.f)) ++ (p.fld.map fun q => .noat (p.nm q.1) (p.nm q.2)) ++ (p.rz.flatMap fun c => [.glo (p.nm c), .exc (p.nm c)]) ++ p.exs.flatMap fun k => .glo (p.nm k) :: p.rz.map fun c => .exm (p.nm c) (p.nm k) (decide ((c, k) ∈ p.sub))
def fnl (p : Pk) : List He.DefD := p.defs.map (·.d)
end Pk
/-! ### constants -/
mutual
def relK (K : PySem.W.Frag) : D → Value → Bool
  | .non, u => match u with | .none => true | _ => false
  | .bl b, u => match u with | .bool c => b == c | _ => false
  | .int i, u => match u with | .int j _ => decide (i = j) | _ => false
  | .str s, u => match u with | .str z _ => decide (z = toS s) | _ => false
  | .tup ds, u => match u with
    | .ref a => (match K.lookup a with
      | some ⟨.type c, none, .seq its _, _⟩ => decide (c = "tuple") && decide (its.size ≤ sizeLine) && relKs K ds its.toList
      | _ => false)
    | _ => false
  | .lst _, _ => false
  | .ref _, _ => false
  | .exc _ _, _ => false
def relKs (K : PySem.W.Frag) : List D → List Value → Bool
  | [], us => us.isEmpty
  | d :: ds, us => match us with | [] => false | u :: us => relK K d u && relKs K ds us
end
section
variable {K : PySem.W.Frag}
mutual
theorem relK_ok : ∀ {d : D} {u : Value}, relK K d u = true → ∃ v, RelV v u ∧ ∀ H, Rp K H d v
  | .non, u, h => by
    cases u with
    | none => exact ⟨.non, rfl, fun _ => .non⟩
    | _ => cases h
  | .bl b, u, h => by
    cases u with
    | bool c =>
      have h : (b == c) = true := h
      rw [beq_iff_eq] at h
      subst h
      exact ⟨.bl b, rfl, fun _ => .bl b⟩
    | _ => cases h
  | .int i, u, h => by
    cases u with
    | int j t =>
      have h : i = j := of_decide_eq_true h
      subst h
      exact ⟨.int i, ⟨t, rfl⟩, fun _ => .int i⟩
    | _ => cases h
  | .str s, u, h => by
    cases u with
    | str z t =>
      have h : z = toS s := of_decide_eq_true h
      subst h
      exact ⟨.str (toS s), ⟨t, rfl⟩, fun _ => .str s⟩
    | _ => cases h
  | .tup ds, u, h => by
    cases u with
    | ref a =>
      simp only [relK] at h
      split at h
      · rename_i c its n sl e
        simp only [Bool.and_eq_true, decide_eq_true_eq] at h
        obtain ⟨⟨h1, h2⟩, h3⟩ := h
        obtain ⟨vs, r1, r2⟩ := relKs_ok h3
        subst h1
        exact ⟨.ref a, rfl, fun H => .tup (.inr ⟨_, its, n, e, rfl, rfl, rfl, h2, r1⟩) (r2 H)⟩
      · cases h
    | _ => simp [relK] at h
  | .lst _, _, h => by simp [relK] at h
  | .ref _, _, h => by simp [relK] at h
  | .exc _ _, _, h => by simp [relK] at h
theorem relKs_ok : ∀ {ds : List D} {us : List Value}, relKs K ds us = true → ∃ vs, Vals vs us ∧ ∀ H, Rps K H ds vs
  | [], [], _ => ⟨[], .nil, fun _ => .nil⟩
  | [], _ :: _, h => by simp [relKs] at h
  | _ :: _, [], h => by simp [relKs] at h
  | d :: ds, u :: us, h => by
    simp only [relKs, Bool.and_eq_true] at h
    obtain ⟨v, h1, h2⟩ := relK_ok h.1
    obtain ⟨vs, h3, h4⟩ := relKs_ok h.2
    exact ⟨v :: vs, .cons h1 h3, fun H => .cons (h2 H) (h4 H)⟩
end
end
def conB (p : Pk) (K : PySem.W.Frag) : Bool := p.con.all fun q => match PySem.W.nsIn K mainGlobals (p.nm q.1) with
  | some (some u) => relK K q.2 u
  | _ => false
/-! ### exceptions' classes -/
def oneB (K : PySem.W.Frag) (C : Addr) : Bool := He.eqO (PySem.W.findIn K (.ref C) "__getattribute__") (some (some (.builtin "BaseException.__getattribute__"))) && (He.eqO (PySem.W.findIn K (.ref C) "__getattr__") (some none) && (PySem.W.hasDictIn K C &&
  (He.eqO (PySem.W.findIn K (.ref C) "__class__") (some (some (.builtin "object.__class__"))) && (He.eqO (PySem.W.specialIn K (.builtin "object.__class__") "__get__") (some (some (.builtin "getset_descriptor.__get__"))) &&
  (decide (PySem.W.takesIn K (.builtin "object.__class__") = some true) && (decide (PySem.W.mroIn K C (.type "object") = some true) && decide (PySem.W.kitOne K (.ref C) (.type "ValueError") = some true)))))))
def excB (p : Pk) (K : PySem.W.Frag) : Bool := (p.rz.all fun c => oneB K (He.ga K (p.nm c))) && p.rz.all fun c => p.exs.all fun k => decide (PySem.W.kitOne K (.ref (He.ga K (p.nm c))) (.ref (He.ga K (p.nm k))) = some (decide ((c, k) ∈ p.sub)))
/-! ### the hook -/
def obsM (p : Pk) (K : PySem.W.Frag) : He.AlD := (conB p K && (excB p K && (He.obsD p.fa p.fnl K).1), (He.obsD p.fa p.fnl K).2)
def SaysM (p : Pk) (K : PySem.W.Frag) : Prop := obsM p K = He.valD p.fnl
def obsMG (n : Nat) (p : Pk) (g : Addr → Option Obj) : He.AlD := obsM p (He.frG g (He.asD g n))
def hookM (n : Nat) (p : Pk) : PySem.W.Hook where
  α := He.AlD
  obs := fun s => obsMG n p s.heap.get?
  val := fun _ => He.valD p.fnl
  says := fun _ h => ∃ K : PySem.W.Frag, K.In h ∧ SaysM p K
  of := fun _ _ e => ⟨_, He.frG_in, e⟩
  keeps := fun _ _ _ ⟨K, hK, c⟩ k => ⟨K, PySem.W.Frag.In.keeps hK k, c⟩
theorem obsMG_eq {n : Nat} {p : Pk} {g : Addr → Option Obj} {s : Shared} (h : ∀ a, g a = s.heap.get? a) : obsMG n p g = (hookM n p).obs s := by
  have e : g = s.heap.get? := funext h
  subst e
  rfl
theorem SaysM.both {p : Pk} {K : PySem.W.Frag} (c : SaysM p K) : conB p K = true ∧ excB p K = true ∧ He.SaysD p.fa p.fnl K := by
  have h1 : (conB p K && (excB p K && (He.obsD p.fa p.fnl K).1)) = true := congrArg (fun z : He.AlD => z.1) c
  have h2 : (He.obsD p.fa p.fnl K).2 = (He.valD p.fnl).2 := by
    show (obsM p K).2 = _
    rw [show obsM p K = He.valD p.fnl from c]
  rw [Bool.and_eq_true, Bool.and_eq_true] at h1
  exact ⟨h1.1, h1.2.1, Prod.ext h1.2.2 h2⟩
/-! ### the table's defs -/
/-- a def's call binds its arguments in their order -/
def BindP (d : He.DefD) : Prop := ∀ (kV doc pm : Value) (an : Option Addr) (cdv ct : Value) (us : List Value), us.length = (parN d).length → bindArgs (PySem.W.fnOf d.name d.qual d.params d.body d.scope .none kV doc pm an cdv ct) ⟨us, []⟩ = pure ((parN d).zip us)
structure DefAt (p : Pk) (K : PySem.W.Frag) (e : Dd) (fd : FuncData) : Prop where
  fun_ : FunD K e.d.name e.d.qual e.d.params e.d.body e.d.scope [] [] (He.fAd K e.d.at_) fd
  bnd : Binds K fd (parN e.d) []
  okD : p.okD e = true
section
variable {p : Pk} {K : PySem.W.Frag} {P : Program} {w : World} {h base : Heap} {mg : Str → Option Value}
theorem start_ok {F : PySem.W.Frag} {H : Hp} {fn : Fn} {N : List Str} (hl : fn.slots = N.length) {ds : List D} {vs : List V} (r : Rps F H ds vs) : REnv F H (Mn.start fn ds) (L2.start N vs) := by
  refine ⟨by simp [Mn.start, L2.start, r.length, hl], fun i d e => ?_⟩
  rw [vget_get] at e
  unfold Mn.start at e
  by_cases hi : i < ds.length
  · rw [List.getElem?_append_left (by simpa using hi), List.getElem?_map] at e
    cases q : ds[i]? with
    | none => rw [q] at e; cases e
    | some d2 =>
      rw [q] at e
      cases e
      obtain ⟨v, h1, h2⟩ := r.get q
      refine ⟨v, ?_, h2⟩
      unfold L2.start
      have hi2 : i < vs.length := by rw [← r.length]; exact hi
      rw [List.getElem?_append_left (by simpa using hi2), List.getElem?_map, h1]
      rfl
  · rw [List.getElem?_append_right (by simpa using hi), List.getElem?_replicate] at e
    split at e <;> cases e
theorem KD.ret {L : Lk} {H : Hp} {P : PD} {Q : VK} (q : Kt L H P Q) : KD L H (retK P) { nx := fun _ H' => Q .non H', rt := Q } :=
  ⟨fun r m σ H2 hp re rel k => q _ _ _ _ hp .non rel k, fun d m v H2 hp rv rel k => q _ _ _ _ hp rv rel k, fun _ _ _ _ h => h.elim, fun _ _ _ _ h => h.elim⟩
structure Ln (p : Pk) (K : PySem.W.Frag) (mg : Str → Option Value) : Prop where
  ok : p.ok = true
  blt : ∀ x, isBlt x = true → mg x = none
  con : ∀ k d, p.C.con k d = true → ∃ v u, mg (p.nm k) = some u ∧ RelV v u ∧ ∀ H, Rp K H d v
  glo : ∀ e ∈ p.defs, e.c = 0 → mg (p.nm e.f) = some (.ref (He.ga K (p.nm e.f)))
  met : ∀ e ∈ p.defs, e.c ≠ 0 → Meth K (He.ga K (p.nm e.c)) (p.nm e.f) (He.ma K (He.ga K (p.nm e.c)) (p.nm e.f))
  cls : ∀ c ∈ p.cls, mg (p.nm c) = some (.ref (He.ga K (p.nm c))) ∧ Cls K (He.ga K (p.nm c)) ∧ Mk K (He.ga K (p.nm c)) (He.ma K (He.ga K (p.nm c)) "__init__")
  noat : ∀ q ∈ p.fld, NoAttr K (He.ga K (p.nm q.1)) (p.nm q.2)
  exs : ∀ c ∈ p.rz, ExF K (He.ga K (p.nm c)) ∧ mg (p.nm c) = some (.ref (He.ga K (p.nm c)))
  exg : ∀ k ∈ p.exs, mg (p.nm k) = some (.ref (He.ga K (p.nm k))) ∧ ∀ c ∈ p.rz, PySem.W.exmOne K (.ref (He.ga K (p.nm c))) (.ref (He.ga K (p.nm k))) = some (decide ((c, k) ∈ p.sub)) ∧ PySem.W.kitOne K (.ref (He.ga K (p.nm c))) (.ref (He.ga K (p.nm k))) = some (decide ((c, k) ∈ p.sub))
  defs : ∀ e ∈ p.defs, ∃ fd, DefAt p K e fd
theorem Pk.find {c f : Nat} {fn : Fn} (e : p.tab.F c f = some fn) : ∃ d ∈ p.defs, p.at_ c f = some d ∧ d.fn = fn ∧ d.c = c ∧ d.f = f := by
  have e : (p.at_ c f).map (·.fn) = some fn := e
  cases q : p.at_ c f with
  | none => rw [q] at e; cases e
  | some d =>
    rw [q] at e
    cases e
    have h1 := List.find?_some q
    simp only [Bool.and_eq_true, decide_eq_true_eq] at h1
    exact ⟨d, List.mem_of_find?_eq_some q, rfl, rfl, h1.1, h1.2⟩
theorem Pk.parts (ok : p.ok = true) : p.nms.Nodup ∧ (∀ q ∈ p.fld, q.2 < p.nms.length ∧ q.1 ∈ p.cls) ∧ (∀ c ∈ p.cls, c ≠ 0) ∧ p.nm p.ini = "__init__" ∧ p.ini < p.nms.length ∧ ∀ e ∈ p.defs, p.okD e = true := by
  simp only [Pk.ok, Bool.and_eq_true, decide_eq_true_eq, List.all_eq_true, Bool.not_eq_true', decide_eq_false_iff_not] at ok
  obtain ⟨⟨⟨⟨⟨h1, h2⟩, h3⟩, h4⟩, h5⟩, h6⟩ := ok
  exact ⟨h1, h2, h3, h4, h5, h6⟩
theorem Pk.inj (ok : p.ok = true) {a b : Nat} (ha : p.C.ok a = true) (hb : p.C.ok b = true) (e : p.C.nm a = p.C.nm b) : a = b := by
  have ha : a < p.nms.length := of_decide_eq_true ha
  have hb : b < p.nms.length := of_decide_eq_true hb
  have e : p.nms.getD a "" = p.nms.getD b "" := e
  rw [List.getD_eq_getElem?_getD, List.getD_eq_getElem?_getD, List.getElem?_eq_getElem ha, List.getElem?_eq_getElem hb] at e
  exact (List.getElem_inj (p.parts ok).1).mp e
theorem Pk.okD_parts {e : Dd} (h : p.okD e = true) : e.fn.params = (parN e.d).length ∧ e.fn.slots = e.N.length ∧ FnScope e.N (parN e.d) e.d.scope ∧ e.d.at_ = (if e.c = 0 then (p.nm e.f, none) else (p.nm e.c, some (p.nm e.f))) ∧ e.f < p.nms.length ∧
    (e.c = 0 ∨ e.c ∈ p.cls) ∧ mSs e.N p.C e.fn.body e.d.scope e.d.body = true ∧ (e.c = 0 → e.f ∈ p.hfn → mSs e.N { p.C with hot := true } e.fn.body e.d.scope e.d.body = true) := by
  simp only [Pk.okD, Bool.and_eq_true, Bool.or_eq_true, decide_eq_true_eq] at h
  obtain ⟨⟨⟨⟨⟨⟨⟨⟨⟨h1, h2⟩, h3⟩, _⟩, _⟩, h4⟩, h5⟩, h6⟩, h7⟩, h8⟩ := h
  refine ⟨h1, h2, scB_ok h3, h4, h5, h6, h7, fun z1 z2 => ?_⟩
  rcases h8 with z | z
  · simp [z1, z2] at z
  · exact z
theorem Ln.adr (l : Ln p K mg) {e : Dd} (he : e ∈ p.defs) (ok : p.okD e = true) : He.fAd K e.d.at_ = if e.c = 0 then He.ga K (p.nm e.f) else He.ma K (He.ga K (p.nm e.c)) (p.nm e.f) := by
  rw [(Pk.okD_parts ok).2.2.2.1]
  split <;> rfl
theorem Sta.toHot {exc : Nat → Option Addr} {L : Lk} {t : Tab} {n : Dn} {C : Nm} {X : Cx} (a : Sta exc L t n C X) : Sta exc L t n { C with hot := true } X :=
  { k := a.k, w := a.w, nm := a.nm, inj := a.inj, okL := a.okL, fldL := a.fldL, okF := a.okF, blt := a.blt, con := a.con, fn := a.fn, fnh := a.fnh, met := a.met, mke := a.mke, cls := a.cls, att := a.att, exs := a.exs, exg := a.exg, exr := a.exr }
theorem sta_of (l : Ln p K mg) {n : Dn} {X : Cx} {w : World} (hW : X.w = w) (hK : X.K = K) (hm : X.mg = mg) (hF : n.hx = none → ∀ e ∈ p.defs, p.at_ e.c e.f = some e → ∀ fd, DefAt p K e fd → FnOk X.prog X.w X.K X.mg X.base (L2N.CX X.prog X.w) (lv n.n) (He.fAd K e.d.at_) fd (parN e.d) (spOf (p.exN K) (p.L K w) p.tab n e.c e.f))
    (hH : ∀ h, ∀ e ∈ p.defs, p.at_ e.c e.f = some e → e.c = 0 → e.f ∈ p.hfn → ∀ fd, DefAt p K e fd → FnK X.prog X.w X.K X.mg X.base (lv n.n) (He.fAd K e.d.at_) fd (parN e.d) (spOf (p.exN K) (p.L K w) p.tab ⟨n.n, some h⟩ e.c e.f) (Hld (p.exN K) h)) :
    Sta (p.exN K) (p.L K w) p.tab n p.C X := by
  obtain ⟨h1, h2, h3, h4, h5, h6⟩ := p.parts l.ok
  refine { k := hK, w := hW, nm := rfl, inj := fun a b ha hb e => Pk.inj l.ok ha hb e, okL := rfl, fldL := rfl, okF := fun c f h => ?_, blt := fun x hx => by rw [hm]; exact l.blt x hx, con := fun k d h => by rw [hm]; exact l.con k d h, fn := fun z0 f fn h => ?_, fnh := fun hx f fn h hf => ?_, met := fun z0 c k fn Ca h hc _ => ?_, mke := fun z0 c fn hc h => ?_, cls := fun c Ca h => ?_, att := fun c Ca f h hf => ?_, exs := fun c Ca h => ?_, exg := fun k h => ?_, exr := fun c h => ?_ }
  · have h : (c, f) ∈ p.fld := of_decide_eq_true h
    exact decide_eq_true (h2 _ h).1
  · obtain ⟨e, he, hat, e1, e2, e3⟩ := Pk.find h
    obtain ⟨fd, D⟩ := l.defs e he
    have hf := hF z0 e he (by rw [e2, e3]; exact hat) fd D
    have ha := l.adr he D.okD
    have hg := l.glo e he e2
    have hkp := D.fun_.kp
    have hb := D.bnd
    subst e3
    rw [e2] at hf
    rw [if_pos e2] at ha
    rw [ha] at hf hkp
    exact ⟨_, fd, _, by rw [hm]; exact hg, by rw [hK]; exact hkp, by rw [hK]; exact hb, hf⟩
  · obtain ⟨e, he, hat, e1, e2, e3⟩ := Pk.find h
    obtain ⟨fd, D⟩ := l.defs e he
    have hf2 := hH hx e he (by rw [e2, e3]; exact hat) e2 (by rw [e3]; exact of_decide_eq_true hf) fd D
    have ha := l.adr he D.okD
    have hg := l.glo e he e2
    have hkp := D.fun_.kp
    have hb := D.bnd
    subst e3
    rw [e2] at hf2
    rw [if_pos e2] at ha
    rw [ha] at hf2 hkp
    exact ⟨_, fd, _, by rw [hm]; exact hg, by rw [hK]; exact hkp, by rw [hK]; exact hb, hf2⟩
  · obtain ⟨e, he, hat, e1, e2, e3⟩ := Pk.find h
    obtain ⟨fd, D⟩ := l.defs e he
    have hcs : c ∈ p.cls ∧ Ca = He.ga K (p.nm c) := by
      have hc : (if c ∈ p.cls then some (He.ga K (p.nm c)) else none) = some Ca := hc
      split at hc
      · rename_i z; exact ⟨z, (Option.some.inj hc).symm⟩
      · cases hc
    have hc0 := h3 c hcs.1
    have hf := hF z0 e he (by rw [e2, e3]; exact hat) fd D
    have ha := l.adr he D.okD
    have hg := l.met e he (by rw [e2]; exact hc0)
    have hb := D.bnd
    subst e2 e3
    rw [if_neg hc0] at ha
    rw [ha] at hf
    refine ⟨_, fd, _, ?_, by rw [hK]; exact hb, hf⟩
    rw [hK, hcs.2]
    exact hg
  · obtain ⟨e, he, hat, e1, e2, e3⟩ := Pk.find h
    obtain ⟨fd, D⟩ := l.defs e he
    have hcs : e.c ∈ p.cls := by
      rcases (Pk.okD_parts D.okD).2.2.2.2.2.1 with z | z
      · exact absurd (e2.symm.trans z) hc
      · exact z
    have hf := hF z0 e he (by rw [e2, e3]; exact hat) fd D
    have ha := l.adr he D.okD
    have hb := D.bnd
    subst e2
    have e3 : e.f = p.ini := e3
    rw [if_neg hc, e3, h4] at ha
    rw [ha, e3] at hf
    obtain ⟨c1, c2, c3⟩ := l.cls _ hcs
    refine ⟨_, _, fd, _, (show (if e.c ∈ p.cls then some (He.ga K (p.nm e.c)) else none) = some (He.ga K (p.nm e.c)) from if_pos hcs), by rw [hK]; exact c3, by rw [hm]; exact c1, by rw [hK]; exact hb, hf⟩
  · have h : (if c ∈ p.cls then some (He.ga K (p.nm c)) else none) = some Ca := h
    split at h
    · rename_i z
      cases h
      rw [hK]
      exact (l.cls c z).2.1
    · cases h
  · have h : (if c ∈ p.cls then some (He.ga K (p.nm c)) else none) = some Ca := h
    split at h
    · rename_i z
      cases h
      rw [hK]
      exact l.noat (c, f) (of_decide_eq_true hf)
    · cases h
  · have h : (if c ∈ p.rz then some (He.ga K (p.nm c)) else none) = some Ca := h
    split at h
    · rename_i z
      cases h
      rw [hK]
      exact (l.exs c z).1
    · cases h
  · obtain ⟨g1, g2⟩ := l.exg k (of_decide_eq_true h)
    refine ⟨_, by rw [hm]; exact g1, fun c Ca hc => ?_⟩
    have hc : (if c ∈ p.rz then some (He.ga K (p.nm c)) else none) = some Ca := hc
    split at hc
    · rename_i z
      cases hc
      rw [hK]
      exact g2 c z
    · cases hc
  · have hz : c ∈ p.rz := of_decide_eq_true h
    exact ⟨_, (show (if c ∈ p.rz then some (He.ga K (p.nm c)) else none) = some (He.ga K (p.nm c)) from if_pos hz), by rw [hm]; exact (l.exs c hz).2⟩
/-- THE LINK, while an exception is handled: a def keeps its term's promise -/
theorem fn_hot (l : Ln p K mg) : ∀ (n : Nat) (h : Nat × Nat) (e : Dd), e ∈ p.defs → p.at_ e.c e.f = some e → e.c = 0 → e.f ∈ p.hfn → ∀ fd, DefAt p K e fd → FnK P w K mg base (lv n) (He.fAd K e.d.at_) fd (parN e.d) (spOf (p.exN K) (p.L K w) p.tab ⟨n, some h⟩ e.c e.f) (Hld (p.exN K) h)
  | 0, h, e, he, hat, _, _, fd, D => ⟨fun vs H Q E ⟨ds, m, R, Xc, _, _, h, _⟩ => False.elim h, fun A outer s H args us vs Q E p2 _ _ _ _ _ _ _ ⟨ds, m, R, Xc, _, _, h, _⟩ => False.elim h⟩
  | n + 1, h, e, he, hat, hc0, hfe, fd, D => by
    obtain ⟨o1, o2, S, _, _, _, _, hm⟩ := Pk.okD_parts D.okD
    have hm := hm hc0 hfe
    have hfn : ∀ fn, p.tab.F e.c e.f = some fn → fn = e.fn := fun fn h => by
      have h : (p.at_ e.c e.f).map (·.fn) = some fn := h
      rw [hat] at h
      exact (Option.some.inj h).symm
    refine fnK_of D.fun_ S (fun vs H Q E ⟨ds, m, R, Xc, rs, _, ⟨fn, hf, hl, _⟩, _⟩ => by rw [← rs.length, hl, hfn fn hf, o1]) fun cdv A outer s H vs Q E pa hot hG hr ⟨ds, m, R, Xc, rs, rel, ⟨fn, hf, hl, hwp⟩, q, xl⟩ => ?_
    have e1 := hfn fn hf
    subst e1
    have sta : Sta (p.exN K) (p.L K w) p.tab ⟨n, some h⟩ p.C (L2H.cxH (L2N.CX P w) P w K mg base e.N e.d.qual e.d.scope (He.fAd K e.d.at_) cdv A outer s H E pa) := sta_of l rfl rfl rfl (fun y => (nomatch y)) fun h2 e2 he2 hat2 hc2 hf2 fd2 D2 => fn_hot l n h2 e2 he2 hat2 hc2 hf2 fd2 D2
    have cx : SCtx (p.exN K) (p.L K w) p.tab ⟨n, some h⟩ { p.C with hot := true } e.N e.d.scope (L2H.cxH (L2N.CX P w) P w K mg base e.N e.d.qual e.d.scope (He.fAd K e.d.at_) cdv A outer s H E pa) :=
      { sta := sta.toHot, nn := rfl, sc := rfl, nd := S.nd, hot := rfl, calm := fun y => (nomatch y), room := fun y => (nomatch y), roomH := hr, own := L2.passes_of rfl, hld := fun h2 e2 => (by cases e2; exact ⟨pa, hot, List.mem_cons_self, hG⟩), fn := fun _ => rfl, stk := rfl, frm := rfl }
    exact ⟨_, goSs e.fn.body _ _ _ _ (fun _ _ _ _ => False) _ hm cx takesN, Mn.start e.fn ds, m, retK R, XF, start_ok o2 rs, rel, hwp, KD.ret q, xlN⟩
/-- THE LINK: every def keeps its term's promise, at every depth -/
theorem fn_all (l : Ln p K mg) : ∀ (n : Nat) (e : Dd), e ∈ p.defs → p.at_ e.c e.f = some e → ∀ fd, DefAt p K e fd → FnOk P w K mg base (L2N.CX P w) (lv n) (He.fAd K e.d.at_) fd (parN e.d) (spOf (p.exN K) (p.L K w) p.tab ⟨n, none⟩ e.c e.f)
  | 0, e, he, hat, fd, D => ⟨fun vs H Q E ⟨ds, m, R, Xc, _, _, h, _⟩ => False.elim h, fun A outer s H args us vs Q E _ _ _ _ ⟨ds, m, R, Xc, _, _, h, _⟩ => False.elim h⟩
  | n + 1, e, he, hat, fd, D => by
    obtain ⟨o1, o2, S, _, _, _, hm, _⟩ := Pk.okD_parts D.okD
    have hfn : ∀ fn, p.tab.F e.c e.f = some fn → fn = e.fn := fun fn h => by
      have h : (p.at_ e.c e.f).map (·.fn) = some fn := h
      rw [hat] at h
      exact (Option.some.inj h).symm
    refine D.fun_.ok S (fun vs H Q E ⟨ds, m, R, Xc, rs, _, ⟨fn, hf, hl, _⟩, _⟩ => by rw [← rs.length, hl, hfn fn hf, o1]) fun cdv A outer s H vs Q E hr ⟨ds, m, R, Xc, rs, rel, ⟨fn, hf, hl, hwp⟩, q, xl⟩ => ?_
    have e1 := hfn fn hf
    subst e1
    have sta : Sta (p.exN K) (p.L K w) p.tab ⟨n, none⟩ p.C (cxOf (L2N.CX P w) P w K mg base e.N e.d.qual e.d.scope (He.fAd K e.d.at_) cdv A outer s H E) := sta_of l rfl rfl rfl (fun _ e2 he2 hat2 fd2 D2 => fn_all l n e2 he2 hat2 fd2 D2) fun h e2 he2 hat2 hc2 hf2 fd2 D2 => fn_hot l n h e2 he2 hat2 hc2 hf2 fd2 D2
    have cx : SCtx (p.exN K) (p.L K w) p.tab ⟨n, none⟩ p.C e.N e.d.scope (cxOf (L2N.CX P w) P w K mg base e.N e.d.qual e.d.scope (He.fAd K e.d.at_) cdv A outer s H E) :=
      { sta := sta, nn := rfl, sc := rfl, nd := S.nd, hot := rfl, calm := fun _ => rfl, room := fun _ => hr, roomH := L2H.roomH_of hr, own := L2.passes_of rfl, hld := fun h y => (nomatch y), fn := fun _ => rfl, stk := rfl, frm := rfl }
    exact ⟨_, goSs e.fn.body _ _ _ _ (fun cls d _ H => E cls d H) _ hm cx (L2N.takes_of rfl rfl rfl rfl), Mn.start e.fn ds, m, retK R, fun c _ m2 => Xc c m2, start_ok o2 rs, rel, hwp, KD.ret q, fun c r m2 Ca H2 σ hx he _ rel2 k2 => xl c m2 Ca H2 hx he rel2 k2⟩
/-- what the head's facts give -/
theorem Ln.of {p : Pk} {K : PySem.W.Frag} {h : Heap} {mg : Str → Option Value} (X : K.In h) (G : h.Ns mainGlobals mg) (ok : p.ok = true) (bnd : ∀ e ∈ p.defs, BindP e.d) (c : SaysM p K) : Ln p K mg := by
  obtain ⟨hc, hx, hs⟩ := c.both
  have fct : ∀ {f : He.Fa}, f ∈ p.fa → f.ok K = true := fun {f} hf => hs.facts hf
  refine { ok := ok, blt := fun x hx => ?_, con := fun k d hd => ?_, glo := fun e he hz => ?_, met := fun e he hz => ?_, cls := fun c hc => ?_, noat := fun q hq => ?_, exs := fun c hc => ?_, exg := fun k hk => ?_, defs := fun e he => ?_ }
  · refine He.free_ok X G (fct (f := .free x) ?_)
    unfold Pk.fa
    simp only [List.mem_append, List.mem_map]
    exact .inl (.inl (.inl (.inl (.inl (.inl ⟨x, blts_ok hx, rfl⟩)))))
  · have hd : (p.con.any fun q => decide (q.1 = k) && D.same q.2 d) = true := hd
    rw [List.any_eq_true] at hd
    obtain ⟨q, hq, hz⟩ := hd
    rw [Bool.and_eq_true, decide_eq_true_eq] at hz
    obtain ⟨z1, z2⟩ := hz
    have z2 := same_eq z2
    subst z1 z2
    have h1 := List.all_eq_true.mp hc q hq
    split at h1
    · rename_i u e
      obtain ⟨v, r1, r2⟩ := relK_ok h1
      exact ⟨v, u, PySem.W.mg_of X G e, r1, r2⟩
    · cases h1
  · refine He.glo_ok X G (fct (f := .glo (p.nm e.f)) ?_)
    unfold Pk.fa
    simp only [List.mem_append, List.mem_map, List.mem_filter]
    exact .inl (.inl (.inl (.inl (.inl (.inr ⟨e, ⟨he, decide_eq_true hz⟩, rfl⟩)))))
  · refine He.meth_ok (fct (f := .meth (p.nm e.c) (p.nm e.f)) ?_)
    unfold Pk.fa
    simp only [List.mem_append, List.mem_map, List.mem_filter]
    exact .inl (.inl (.inl (.inr ⟨e, ⟨he, by simp [hz]⟩, rfl⟩)))
  · have hm : ∀ f ∈ ([.glo (p.nm c), .cls (p.nm c), .mkr (p.nm c)] : List He.Fa), f ∈ p.fa := fun f hf => by
      unfold Pk.fa
      simp only [List.mem_append, List.mem_flatMap]
      exact .inl (.inl (.inl (.inl (.inr ⟨c, hc, hf⟩))))
    exact ⟨He.glo_ok X G (fct (hm _ (by simp))), He.cls_ok (fct (hm _ (by simp))), He.mkr_ok (fct (hm _ (by simp)))⟩
  · refine He.noat_ok (fct (f := .noat (p.nm q.1) (p.nm q.2)) ?_)
    unfold Pk.fa
    simp only [List.mem_append, List.mem_map]
    exact .inl (.inl (.inr ⟨q, hq, rfl⟩))
  · have hm : ∀ f ∈ ([.glo (p.nm c), .exc (p.nm c)] : List He.Fa), f ∈ p.fa := fun f hf => by
      unfold Pk.fa
      simp only [List.mem_append, List.mem_flatMap]
      exact .inl (.inr ⟨c, hc, hf⟩)
    obtain ⟨e1, e2, e3, e4⟩ := He.exc_ok (fct (hm (.exc (p.nm c)) (by simp)))
    have hx1 : (p.rz.all fun c => oneB K (He.ga K (p.nm c))) = true := (Bool.and_eq_true_iff.mp hx).1
    have ho := List.all_eq_true.mp hx1 c hc
    simp only [oneB, Bool.and_eq_true, decide_eq_true_eq] at ho
    obtain ⟨o1, o2, o3, o4, o5, o6, o7, o8⟩ := ho
    exact ⟨⟨e1, e2, e3, e4, ⟨He.eqO_ok o1, He.eqO_ok o2, e3, o3, He.eqO_ok o4, He.eqO_ok o5, o6, o7⟩, o8⟩, He.glo_ok X G (fct (hm (.glo (p.nm c)) (by simp)))⟩
  · have hm : ∀ f ∈ (.glo (p.nm k) :: p.rz.map fun c => .exm (p.nm c) (p.nm k) (decide ((c, k) ∈ p.sub)) : List He.Fa), f ∈ p.fa := fun f hf => by
      unfold Pk.fa
      simp only [List.mem_append, List.mem_flatMap]
      exact .inr ⟨k, hk, hf⟩
    refine ⟨He.glo_ok X G (fct (hm (.glo (p.nm k)) (by simp))), fun c hc => ⟨He.exm_ok (fct (hm (.exm (p.nm c) (p.nm k) (decide ((c, k) ∈ p.sub))) (List.mem_cons_of_mem _ (List.mem_map.mpr ⟨c, hc, rfl⟩)))), ?_⟩⟩
    have hx2 := List.all_eq_true.mp (Bool.and_eq_true_iff.mp hx).2 c hc
    exact of_decide_eq_true (List.all_eq_true.mp hx2 k hk)
  · have ho := (p.parts ok).2.2.2.2.2 e he
    obtain ⟨fd, F⟩ := hs.defs (d := e.d) (List.mem_map.mpr ⟨e, he, rfl⟩)
    have hd : e.d.dfl = [] ∧ e.d.kwd = [] := by
      simp only [Pk.okD, Bool.and_eq_true, List.isEmpty_iff] at ho
      exact ⟨ho.1.1.1.1.1.1.2, ho.1.1.1.1.1.2⟩
    have F2 : FunD K e.d.name e.d.qual e.d.params e.d.body e.d.scope [] [] (He.fAd K e.d.at_) fd := by
      have e1 : e.d.dvs K = [] := by show e.d.dfl.map _ = []; rw [hd.1]; rfl
      have e2 : e.d.kws K = [] := by show e.d.kwd.map _ = []; rw [hd.2]; rfl
      rw [e1, e2] at F
      exact F
    exact ⟨fd, F2, F2.bindsN (bnd e he), ho⟩
theorem fz_of {F : PySem.W.Frag} {H : Hp} {a : Addr} {vs : List V} (o : Only H) (s : SqL F H a vs) : FzL F H a vs := by
  rcases s with (h | h) | h
  · rcases o a with z | ⟨b, xs, z⟩
    · rw [h] at z; cases z
    · rw [h] at z; cases z
  · exact .inl h
  · exact .inr h
theorem no_out {H : Hp} {s : Shared} {x : Value} {s2 : Shared} : L2N.CX P w [] H s (fun _ _ _ => False) x s2 → False := fun h => by
  obtain ⟨_, _, _, _, _, _, _, _, _, _, _, _, z⟩ := h
  exact z.elim
/-- THE END: the law's term answers true -/
theorem end_of {l : PySem.W.OpenLaw} {q : Program} {loose : List Str} {XP : (Str → Option Value) → Heap → Prop} {d : DefRec} (p : Pk) (nd hn : Nat) (e : Dd) (h63 : l.most = some 63) (hdf : d.params.defaults = []) (hr : Room (lv nd) callerA)
    (he : e ∈ p.defs) (hat : p.at_ e.c e.f = some e) (hnm : d.name = p.nm e.f) (hz : e.c = 0) (hpar : parN e.d = (["_law_script"] : List Str)) (ok : p.ok = true) (bnd : ∀ e ∈ p.defs, BindP e.d)
    (law : ∀ ns : List Int, ns.length ≤ 63 → callN p.tab nd 0 e.f [.lst (ns.map D.int)] (fun _ => none) (fun d _ => d = .bl true) (fun _ _ => False)) :
    PySem.W.WalkO q loose XP (hookM hn p).says l.row.toRowW d [] (fun f vs => PySem.call f vs) := by
  refine Att.attach_call h63 hdf fun w s0 s1 mg mb fa o pm cd doc a vs ns Gt Yt ho hd hcd hmg hobj hints hlen hg => ?_
  obtain ⟨K, KX, c⟩ := Yt
  have ln : Ln p K mg := Ln.of KX Gt.T.g ok bnd c
  obtain ⟨fd, Dt⟩ := ln.defs e he
  have ga : mg (p.nm e.f) = some (.ref (He.ga K (p.nm e.f))) := ln.glo e he hz
  have had := ln.adr he Dt.okD
  rw [if_pos hz] at had
  rw [hnm] at hmg
  obtain rfl : fa = He.ga K (p.nm e.f) := by
    have := hmg.symm.trans ga
    cases this
    rfl
  have F : ∀ base : Heap, K.In base → base.Ns mainGlobals mg → FnOk l.prog w K mg base (L2N.CX l.prog w) (lv nd) (He.ga K (p.nm e.f)) fd (["_law_script"] : List Str) (spOf (p.exN K) (p.L K w) p.tab ⟨nd, none⟩ e.c e.f) := fun base _ _ => by
    have := fn_all (P := l.prog) (w := w) (base := base) ln nd e he hat fd Dt
    rw [had, hpar] at this
    exact this
  have B : ∀ (s : Shared) (u : Value), BindsTo s fd ⟨[u], []⟩ [("_law_script", u)] := fun s u => by
    have := FunD.bindsA Dt.fun_ (bnd e he) s [u] (by rw [hpar]; rfl)
    rw [hpar] at this
    exact this
  have S : ∀ H, Only H → SqL K H a (ns.map V.int) → spOf (p.exN K) (p.L K w) p.tab ⟨nd, none⟩ e.c e.f [.ref a] H (fun v _ => v = .bl true) fun _ _ _ => False := fun H hO hS => by
    have hcall := law ns hlen
    rw [← hz] at hcall
    refine ⟨[.lst (ns.map D.int)], fun _ => none, _, _, .cons (.lst (fz_of hO hS) (Rps.mkInts ns)) .nil, (fun a o h => by cases h), hcall, fun d m v H2 hd rv _ _ => ?_, fun k m2 Ca H2 hx _ _ _ => False.elim hx⟩
    have hd : d = .bl true := hd
    subst hd
    cases rv
    rfl
  have g1 := Gt.T.g
  have g2 := Gt.T.b
  exact law_call KX g1 g2 Gt.T.builtins Gt.T.nolimit hg hobj hints (Nat.le_trans hlen (by decide)) hr F B (fun H hO hS => S H hO hS)
    fun H x s2 hx => no_out hx
end
theorem fa_nil {α : Type} {P : α → Prop} : ∀ x ∈ ([] : List α), P x := fun _ h => nomatch h
theorem fa_cons {α : Type} {P : α → Prop} {a : α} {l : List α} (h : P a) (t : ∀ x ∈ l, P x) : ∀ x ∈ a :: l, P x := fun x hx => by
  rcases List.mem_cons.mp hx with e | e
  · subst e; exact h
  · exact t x e
end Mn
end

section
set_option Elab.async false
set_option linter.all false
set_option maxRecDepth 100000
set_option maxHeartbeats 4000000
namespace Mn.K04
open PySem L2 Mn
/-! the terms -/
/-- devices(plan); slots 0:plan 1:found 2:loop 3:places 4:at 5:kind 6:address 7:spur 8:way 9:other 10:number -/
def f_devices : Fn := ⟨1, 11,
  (.cons (.asg (.nm 1) (.lst .nil))
  (.cons (.fr (.tp (.cons (.nm 2) (.cons (.nm 3) .nil))) (.enum (.idx (.var 0) (.num 1))) (.cons (.fr (.tp (.cons (.nm 4) (.cons (.tp (.cons (.nm 5) (.cons (.nm 6) (.cons (.nm 7) .nil)))) .nil))) (.enum (.var 3)) (.cons (.ife (.cmp .ne (.var 5) (.glob 32 (D.str [111, 112, 101, 110, 101, 114]))) (.cons (.ex (.bmeth .append (.var 1) (.cons (.tup (.cons (.tup (.cons (.var 2) (.cons (.bin .add (.var 4) (.num 1)) (.cons (.num 0) .nil)))) (.cons (.var 5) (.cons (.var 6) .nil)))) .nil)))
  .nil) .nil)
  (.cons (.fr (.tp (.cons (.nm 8) (.cons (.tp (.cons (.nm 9) (.cons (.nm 10) .nil))) .nil))) (.enum (.var 7)) (.cons (.ex (.bmeth .append (.var 1) (.cons (.tup (.cons (.tup (.cons (.var 2) (.cons (.bin .add (.var 4) (.num 1)) (.cons (.bin .add (.var 8) (.num 1)) .nil)))) (.cons (.var 9) (.cons (.var 10) .nil)))) .nil)))
  .nil))
  .nil)))
  .nil))
  (.cons (.ret (.var 1))
  .nil)))⟩

/-- parts(plan, loop); slots 0:plan 1:loop 2:found 3:at 4:kind 5:address 6:spur 7:way -/
def f_parts : Fn := ⟨2, 8,
  (.cons (.asg (.nm 2) (.lst (.cons (.lst .nil) .nil)))
  (.cons (.fr (.tp (.cons (.nm 3) (.cons (.tp (.cons (.nm 4) (.cons (.nm 5) (.cons (.nm 6) .nil)))) .nil))) (.enum (.idx (.idx (.var 0) (.num 1)) (.var 1))) (.cons (.ife (.cmp .eq (.var 4) (.glob 32 (D.str [111, 112, 101, 110, 101, 114]))) (.cons (.ex (.bmeth .append (.var 2) (.cons (.lst .nil) .nil)))
  .nil) (.cons (.ex (.bmeth .extend (.idx (.var 2) (.neg (.num 1))) (.cons (.comp (.tup (.cons (.var 1) (.cons (.bin .add (.var 3) (.num 1)) (.cons (.var 7) .nil)))) (.nm 7) (.rng (.cons (.bin .add (.bcall .len (.cons (.var 6) .nil)) (.num 1)) .nil)) .no [7]) .nil)))
  .nil))
  .nil))
  (.cons (.ret (.var 2))
  .nil)))⟩

/-- told_twice(plan); slots 0:plan 1:met 2:spot 3:kind 4:address -/
def f_told_twice : Fn := ⟨1, 5,
  (.cons (.asg (.nm 1) .dctK)
  (.cons (.fr (.tp (.cons (.nm 2) (.cons (.nm 3) (.cons (.nm 4) .nil)))) (.val (.call 45 (.cons (.var 0) .nil))) (.cons (.ife (.cmp .in_ (.var 4) (.var 1)) (.cons (.ret (.tup (.cons (.txt [116, 119, 105, 99, 101]) (.cons (.var 4) .nil))))
  .nil) .nil)
  (.cons (.asg (.sb (.var 1) (.var 4)) (.bl true))
  .nil)))
  (.cons (.ret .non)
  .nil)))⟩

/-- crowded(plan); slots 0:plan 1:loop 2:number 3:part -/
def f_crowded : Fn := ⟨1, 4,
  (.cons (.fr (.nm 1) (.rng (.cons (.bcall .len (.cons (.idx (.var 0) (.num 1)) .nil)) .nil)) (.cons (.fr (.tp (.cons (.nm 2) (.cons (.nm 3) .nil))) (.enum (.call 48 (.cons (.var 0) (.cons (.var 1) .nil)))) (.cons (.ife (.cmp .gt (.bcall .len (.cons (.var 3) .nil)) (.idx (.var 0) (.num 0))) (.cons (.ret (.tup (.cons (.txt [99, 114, 111, 119, 100, 101, 100]) (.cons (.var 1) (.cons (.var 2) .nil)))))
  .nil) .nil)
  .nil))
  .nil))
  (.cons (.ret .non)
  .nil))⟩

/-- zone_at_odds(plan); slots 0:plan 1:known 2:spot 3:kind 4:address 5:shared 6:met 7:name 8:addresses -/
def f_zone_at_odds : Fn := ⟨1, 9,
  (.cons (.asg (.nm 1) (.comp (.var 4) (.tp (.cons (.nm 2) (.cons (.nm 3) (.cons (.nm 4) .nil)))) (.val (.call 45 (.cons (.var 0) .nil))) (.yes (.cmp .in_ (.var 3) (.glob 31 (D.tup [(D.str [115, 101, 101, 107, 101, 114]), (D.str [107, 110, 111, 98])])))) [2, 3, 4]))
  (.cons (.asg (.nm 5) .non)
  (.cons (.asg (.nm 6) .dctK)
  (.cons (.fr (.tp (.cons (.nm 7) (.cons (.nm 8) .nil))) (.val (.idx (.var 0) (.num 2))) (.cons (.fr (.nm 4) (.val (.var 8)) (.cons (.ife (.cmp .nin (.var 4) (.var 1)) (.cons (.ret (.tup (.cons (.txt [115, 116, 114, 97, 110, 103, 101, 114]) (.cons (.var 7) (.cons (.var 4) .nil)))))
  .nil) .nil)
  (.cons (.ife (.and_ (.cons (.cmp .in_ (.var 4) (.var 6)) (.cons (.cmp .is_ (.var 5) .non) .nil))) (.cons (.asg (.nm 5) (.tup (.cons (.txt [115, 104, 97, 114, 101, 100]) (.cons (.var 7) (.cons (.var 4) .nil)))))
  .nil) .nil)
  .nil)))
  (.cons (.fr (.nm 4) (.val (.var 8)) (.cons (.asg (.sb (.var 6) (.var 4)) (.bl true))
  .nil))
  .nil)))
  (.cons (.ret (.var 5))
  .nil)))))⟩

/-- wrong(plan); slots 0:plan 1:found -/
def f_wrong : Fn := ⟨1, 2,
  (.cons (.fr (.nm 1) (.val (.tup (.cons (.call 49 (.cons (.var 0) .nil)) (.cons (.call 50 (.cons (.var 0) .nil)) (.cons (.call 51 (.cons (.var 0) .nil)) .nil))))) (.cons (.ife (.cmp .isn (.var 1) .non) (.cons (.ret (.var 1))
  .nil) .nil)
  .nil))
  (.cons (.ret .non)
  .nil))⟩

/-- _law_bag(_law_script, _law_k); slots 0:_law_script 1:_law_k 2:_law_cell -/
def f_law_bag : Fn := ⟨2, 3,
  (.cons (.asg (.nm 2) (.bin .add (.bin .add (.bin .mul (.bin .mul (.num 9973) (.var 1)) (.var 1)) (.bin .mul (.num 101) (.var 1))) (.num 17)))
  (.cons (.ife (.cmp .lt (.var 1) (.bcall .len (.cons (.var 0) .nil))) (.cons (.asg (.nm 2) (.idx (.var 0) (.var 1)))
  .nil) .nil)
  (.cons (.ret (.lst (.cons (.bin .mul (.bcall .abs (.cons (.var 2) .nil)) (.bcall .int (.cons (.cmp .ge (.bcall .abs (.cons (.var 2) .nil)) (.bin .pow (.num 10) (.num 18))) .nil))) (.cons (.bin .add (.bin .mod (.var 2) (.num 2147483647)) (.bin .mul (.num 37) (.var 1))) (.cons (.num 0) .nil)))))
  .nil)))⟩

/-- _law_take(_law_bag_here, _law_many); slots 0:_law_bag_here 1:_law_many 2:_law_digit 3:_law_primes 4:_law_step 5:_law_base 6:_law_found -/
def f_law_take : Fn := ⟨2, 7,
  (.cons (.ife (.cmp .gt (.idx (.var 0) (.num 0)) (.num 0)) (.cons (.asg (.nm 2) (.bin .mod (.idx (.var 0) (.num 0)) (.var 1)))
  (.cons (.asg (.sb (.var 0) (.num 0)) (.bin .fdiv (.idx (.var 0) (.num 0)) (.var 1)))
  (.cons (.ret (.var 2))
  .nil))) .nil)
  (.cons (.asg (.nm 3) (.tup (.cons (.num 2147483629) (.cons (.num 2147483587) (.cons (.num 2147483579) (.cons (.num 2147483563) (.cons (.num 2147483549) (.cons (.num 2147483543) (.cons (.num 2147483497) .nil)))))))))
  (.cons (.asg (.sb (.var 0) (.num 2)) (.bin .add (.idx (.var 0) (.num 2)) (.num 1)))
  (.cons (.asg (.nm 4) (.idx (.var 0) (.num 2)))
  (.cons (.asg (.nm 5) (.bin .add (.bin .add (.bin .mul (.idx (.var 0) (.num 1)) (.bin .add (.bin .mul (.num 2) (.var 4)) (.num 1))) (.bin .mul (.bin .mul (.num 6007) (.var 4)) (.var 4))) (.num 29)))
  (.cons (.asg (.nm 6) (.bin .mod (.bin .pow (.var 5) (.num 3)) (.idx (.var 3) (.bin .mod (.var 4) (.num 7)))))
  (.cons (.ret (.bin .mod (.bin .fdiv (.bin .mod (.bin .mul (.var 6) (.bin .add (.bin .fdiv (.var 6) (.num 4096)) (.num 11))) (.idx (.var 3) (.bin .mod (.bin .add (.var 4) (.num 3)) (.num 7)))) (.num 16)) (.var 1)))
  .nil)))))))⟩

/-- _law_name(_law_bag_here); slots 0:_law_bag_here 1:_law_letters 2:_law_place -/
def f_law_name : Fn := ⟨1, 3,
  (.cons (.asg (.nm 1) (.txt [97, 98, 99, 100, 101, 102, 103, 104, 105, 106, 107, 108, 109, 110, 111, 112, 113, 114, 115, 116, 117, 118, 119, 120, 121, 122]))
  (.cons (.ret (.bmeth .join (.txt []) (.cons (.comp (.idx (.var 1) (.call 3 (.cons (.var 0) (.cons (.num 26) .nil)))) (.nm 2) (.rng (.cons (.bin .add (.num 1) (.call 3 (.cons (.var 0) (.cons (.num 8) .nil)))) .nil)) .no [2]) .nil)))
  .nil))⟩

/-- _law_names(_law_bag_here, _law_many); slots 0:_law_bag_here 1:_law_many 2:_law_found 3:_law_place 4:_law_name_here 5:_law_one -/
def f_law_names : Fn := ⟨2, 6,
  (.cons (.asg (.nm 2) (.lst .nil))
  (.cons (.fr (.nm 3) (.rng (.cons (.var 1) .nil)) (.cons (.asg (.nm 4) (.call 347 (.cons (.var 0) .nil)))
  (.cons (.ife (.cmp .in_ (.var 4) (.var 2)) (.cons (.asg (.nm 4) (.idx (.comp (.bin .add (.var 5) (.slc (.var 4) (.yes (.num 1)) .no)) (.nm 5) (.val (.txt [97, 98, 99, 100, 101, 102, 103, 104, 105, 106, 107, 108, 109, 110, 111, 112, 113, 114, 115, 116, 117, 118, 119, 120, 121, 122])) (.yes (.cmp .nin (.bin .add (.var 5) (.slc (.var 4) (.yes (.num 1)) .no)) (.var 2))) [5]) (.num 0)))
  .nil) .nil)
  (.cons (.ex (.bmeth .append (.var 2) (.cons (.var 4) .nil)))
  .nil))))
  (.cons (.ret (.var 2))
  .nil)))⟩

/-- _law_loop(_law_bag_here, _law_numbers, _law_most_places); slots 0:_law_bag_here 1:_law_numbers 2:_law_most_places 3:_law_places 4:_law_at 5:_law_many 6:_law_some 7:_law_way -/
def f_law_loop : Fn := ⟨3, 8,
  (.cons (.asg (.nm 3) (.lst .nil))
  (.cons (.fr (.nm 4) (.rng (.cons (.bin .add (.num 1) (.call 3 (.cons (.var 0) (.cons (.var 2) .nil)))) .nil)) (.cons (.asg (.nm 5) (.bin .add (.num 1) (.idx (.lst (.cons (.num 0) (.cons (.num 0) (.cons (.num 0) (.cons (.num 1) (.cons (.num 2) (.cons (.num 3) .nil))))))) (.call 3 (.cons (.var 0) (.cons (.num 6) .nil))))))
  (.cons (.ife (.or_ (.cons (.cmp .eq (.call 3 (.cons (.var 0) (.cons (.num 4) .nil))) (.num 0)) (.cons (.cmp .lt (.bcall .len (.cons (.var 1) .nil)) (.var 5)) .nil))) (.cons (.ex (.bmeth .append (.var 3) (.cons (.tup (.cons (.txt [111, 112, 101, 110, 101, 114]) (.cons (.num 0) (.cons (.tup .nil) .nil)))) .nil)))
  .nil) (.cons (.asg (.nm 6) (.lst .nil))
  (.cons (.fr (.nm 7) (.rng (.cons (.var 5) .nil)) (.cons (.ex (.bmeth .append (.var 6) (.cons (.tup (.cons (.idx (.lst (.cons (.txt [115, 101, 101, 107, 101, 114]) (.cons (.txt [107, 110, 111, 98]) (.cons (.txt [98, 101, 108, 108]) (.cons (.txt [100, 111, 111, 114]) .nil))))) (.call 3 (.cons (.var 0) (.cons (.num 4) .nil)))) (.cons (.bmeth .pop (.var 1) (.cons (.num 0) .nil)) .nil))) .nil)))
  .nil))
  (.cons (.ex (.bmeth .append (.var 3) (.cons (.bin .add (.idx (.var 6) (.num 0)) (.tup (.cons (.bcall .tuple (.cons (.slc (.var 6) (.yes (.num 1)) .no) .nil)) .nil))) .nil)))
  .nil))))
  .nil)))
  (.cons (.ret (.bcall .tuple (.cons (.var 3) .nil)))
  .nil)))⟩

/-- _law_parts(_law_places); slots 0:_law_places 1:_law_found 2:_law_kind 3:_law_address 4:_law_spur -/
def f_law_parts : Fn := ⟨1, 5,
  (.cons (.asg (.nm 1) (.lst (.cons (.num 0) .nil)))
  (.cons (.fr (.tp (.cons (.nm 2) (.cons (.nm 3) (.cons (.nm 4) .nil)))) (.val (.var 0)) (.cons (.ife (.cmp .eq (.var 2) (.txt [111, 112, 101, 110, 101, 114])) (.cons (.ex (.bmeth .append (.var 1) (.cons (.num 0) .nil)))
  .nil) (.cons (.asg (.sb (.var 1) (.neg (.num 1))) (.bin .add (.bin .add (.idx (.var 1) (.neg (.num 1))) (.num 1)) (.bcall .len (.cons (.var 4) .nil))))
  .nil))
  .nil))
  (.cons (.ret (.var 1))
  .nil)))⟩

/-- _law_plan(_law_bag_here, _law_most_loops, _law_most_places); slots 0:_law_bag_here 1:_law_most_loops 2:_law_most_places 3:_law_start 4:_law_stride 5:_law_numbers 6:_law_k 7:_law_own 8:_law_first 9:_law_at 10:_law_loops 11:_law_loop_here 12:_law_most 13:_law_places 14:_law_told 15:_law_kind 16:_law_address 17:_law_spur 18:_law_other 19:_law_number 20:_law_zones 21:_law_names_here 22:_law_name_here 23:_law_some -/
def f_law_plan : Fn := ⟨3, 24,
  (.cons (.asg (.nm 3) (.call 3 (.cons (.var 0) (.cons (.num 99) .nil))))
  (.cons (.asg (.nm 4) (.idx (.lst (.cons (.num 1) (.cons (.num 2) (.cons (.num 4) (.cons (.num 5) (.cons (.num 7) (.cons (.num 8) (.cons (.num 10) (.cons (.num 13) (.cons (.num 98) .nil)))))))))) (.call 3 (.cons (.var 0) (.cons (.num 9) .nil)))))
  (.cons (.asg (.nm 5) (.comp (.bin .add (.bin .mod (.bin .add (.var 3) (.bin .mul (.var 4) (.var 6))) (.num 99)) (.num 1)) (.nm 6) (.rng (.cons (.num 30) .nil)) .no [6]))
  (.cons (.asg (.nm 7) (.bmeth .pop (.var 5) (.cons (.num 0) .nil)))
  (.cons (.asg (.nm 8) (.tup .nil))
  (.cons (.ife (.cmp .gt (.call 3 (.cons (.var 0) (.cons (.num 8) .nil))) (.num 0)) (.cons (.asg (.nm 8) (.call 349 (.cons (.var 0) (.cons (.var 5) (.cons (.bin .sub (.var 2) (.num 1)) .nil)))))
  .nil) .nil)
  (.cons (.asg (.nm 9) (.call 3 (.cons (.var 0) (.cons (.bin .add (.bcall .len (.cons (.var 8) .nil)) (.num 1)) .nil))))
  (.cons (.asg (.nm 10) (.lst (.cons (.bin .add (.bin .add (.slc (.var 8) .no (.yes (.var 9))) (.tup (.cons (.tup (.cons (.txt [115, 101, 101, 107, 101, 114]) (.cons (.var 7) (.cons (.tup .nil) .nil)))) .nil))) (.slc (.var 8) (.yes (.var 9)) .no)) .nil)))
  (.cons (.fr (.nm 11) (.rng (.cons (.call 3 (.cons (.var 0) (.cons (.var 1) .nil))) .nil)) (.cons (.ex (.bmeth .append (.var 10) (.cons (.call 349 (.cons (.var 0) (.cons (.var 5) (.cons (.var 2) .nil)))) .nil)))
  .nil))
  (.cons (.asg (.nm 12) (.bcall .max (.cons (.comp (.bcall .max (.cons (.call 350 (.cons (.var 13) .nil)) .nil)) (.nm 13) (.val (.var 10)) .no [13]) .nil)))
  (.cons (.asg (.nm 14) (.lst .nil))
  (.cons (.fr (.nm 13) (.val (.var 10)) (.cons (.fr (.tp (.cons (.nm 15) (.cons (.nm 16) (.cons (.nm 17) .nil)))) (.val (.var 13)) (.cons (.ex (.bmeth .extend (.var 14) (.cons (.comp (.var 19) (.tp (.cons (.nm 18) (.cons (.nm 19) .nil))) (.val (.bin .add (.tup (.cons (.tup (.cons (.var 15) (.cons (.var 16) .nil))) .nil)) (.var 17))) (.yes (.cmp .in_ (.var 18) (.tup (.cons (.txt [115, 101, 101, 107, 101, 114]) (.cons (.txt [107, 110, 111, 98]) .nil))))) [18, 19]) .nil)))
  .nil))
  .nil))
  (.cons (.asg (.nm 20) (.lst .nil))
  (.cons (.asg (.nm 21) (.call 348 (.cons (.var 0) (.cons (.call 3 (.cons (.var 0) (.cons (.num 5) .nil))) .nil))))
  (.cons (.fr (.nm 22) (.val (.var 21)) (.cons (.asg (.nm 23) (.bcall .sorted (.cons (.comp (.var 19) (.nm 19) (.val (.var 14)) (.yes (.cmp .eq (.call 3 (.cons (.var 0) (.cons (.num 3) .nil))) (.num 0))) [19]) .nil)))
  (.cons (.asg (.nm 14) (.comp (.var 19) (.nm 19) (.val (.var 14)) (.yes (.cmp .nin (.var 19) (.var 23))) [19]))
  (.cons (.ife (.cmp .gt (.bcall .len (.cons (.var 23) .nil)) (.num 0)) (.cons (.ex (.bmeth .append (.var 20) (.cons (.tup (.cons (.var 22) (.cons (.bcall .tuple (.cons (.var 23) .nil)) .nil))) .nil)))
  .nil) .nil)
  .nil))))
  (.cons (.ret (.tup (.cons (.bcall .min (.cons (.num 30) (.cons (.bin .add (.var 12) (.call 3 (.cons (.var 0) (.cons (.num 3) .nil)))) .nil))) (.cons (.bcall .tuple (.cons (.var 10) .nil)) (.cons (.bcall .tuple (.cons (.var 20) .nil)) .nil)))))
  .nil))))))))))))))))⟩

/-- _law_readdressed(_law_bag_here, _law_loops); slots 0:_law_bag_here 1:_law_loops 2:_law_spots 3:_law_known 4:_law_loop_here 5:_law_at 6:_law_kind 7:_law_address 8:_law_spur 9:_law_way 10:_law_number 11:_law_place 12:_law_places -/
def f_law_readdressed : Fn := ⟨2, 13,
  (.cons (.asg (.nm 2) (.lst .nil))
  (.cons (.asg (.nm 3) (.lst .nil))
  (.cons (.fr (.nm 4) (.rng (.cons (.bcall .len (.cons (.var 1) .nil)) .nil)) (.cons (.fr (.nm 5) (.rng (.cons (.bcall .len (.cons (.idx (.var 1) (.var 4)) .nil)) .nil)) (.cons (.asg (.tp (.cons (.nm 6) (.cons (.nm 7) (.cons (.nm 8) .nil)))) (.idx (.idx (.var 1) (.var 4)) (.var 5)))
  (.cons (.ife (.cmp .ne (.var 6) (.txt [111, 112, 101, 110, 101, 114])) (.cons (.fr (.nm 9) (.rng (.cons (.bin .add (.bcall .len (.cons (.var 8) .nil)) (.num 1)) .nil)) (.cons (.ex (.bmeth .append (.var 2) (.cons (.tup (.cons (.var 4) (.cons (.var 5) (.cons (.var 9) .nil)))) .nil)))
  (.cons (.ex (.bmeth .append (.var 3) (.cons (.idx (.idx (.bin .add (.tup (.cons (.tup (.cons (.var 6) (.cons (.var 7) .nil))) .nil)) (.var 8)) (.var 9)) (.num 1)) .nil)))
  .nil)))
  .nil) .nil)
  .nil)))
  .nil))
  (.cons (.asg (.tp (.cons (.nm 4) (.cons (.nm 5) (.cons (.nm 9) .nil)))) (.idx (.var 2) (.call 3 (.cons (.var 0) (.cons (.bcall .len (.cons (.var 2) .nil)) .nil)))))
  (.cons (.asg (.nm 10) (.idx (.lst (.cons (.idx (.var 3) (.call 3 (.cons (.var 0) (.cons (.bcall .len (.cons (.var 3) .nil)) .nil)))) (.cons (.bin .add (.num 1) (.call 3 (.cons (.var 0) (.cons (.num 99) .nil)))) .nil))) (.bcall .int (.cons (.cmp .eq (.call 3 (.cons (.var 0) (.cons (.num 4) .nil))) (.num 0)) .nil))))
  (.cons (.asg (.tp (.cons (.nm 6) (.cons (.nm 7) (.cons (.nm 8) .nil)))) (.idx (.idx (.var 1) (.var 4)) (.var 5)))
  (.cons (.ife (.cmp .eq (.var 9) (.num 0)) (.cons (.asg (.nm 11) (.tup (.cons (.var 6) (.cons (.var 10) (.cons (.var 8) .nil)))))
  .nil) (.cons (.asg (.nm 11) (.tup (.cons (.var 6) (.cons (.var 7) (.cons (.bin .add (.bin .add (.slc (.var 8) .no (.yes (.bin .sub (.var 9) (.num 1)))) (.tup (.cons (.tup (.cons (.idx (.idx (.var 8) (.bin .sub (.var 9) (.num 1))) (.num 0)) (.cons (.var 10) .nil))) .nil))) (.slc (.var 8) (.yes (.var 9)) .no)) .nil)))))
  .nil))
  (.cons (.asg (.nm 12) (.bin .add (.bin .add (.slc (.idx (.var 1) (.var 4)) .no (.yes (.var 5))) (.tup (.cons (.var 11) .nil))) (.slc (.idx (.var 1) (.var 4)) (.yes (.bin .add (.var 5) (.num 1))) .no)))
  (.cons (.ret (.tup (.cons (.bin .add (.bin .add (.slc (.var 1) .no (.yes (.var 4))) (.tup (.cons (.var 12) .nil))) (.slc (.var 1) (.yes (.bin .add (.var 4) (.num 1))) .no)) (.cons (.var 3) .nil))))
  .nil)))))))))⟩

/-- _law_spoilt(_law_bag_here, _law_plan_here); slots 0:_law_bag_here 1:_law_plan_here 2:_law_most 3:_law_loops 4:_law_zones 5:_law_known 6:_law_again 7:_law_at 8:_law_more 9:_law_other 10:_law_addresses -/
def f_law_spoilt : Fn := ⟨2, 11,
  (.cons (.asg (.tp (.cons (.nm 2) (.cons (.nm 3) (.cons (.nm 4) .nil)))) (.var 1))
  (.cons (.asg (.nm 5) (.lst (.cons (.bin .add (.num 1) (.call 3 (.cons (.var 0) (.cons (.num 99) .nil)))) .nil)))
  (.cons (.fr (.nm 6) (.rng (.cons (.call 3 (.cons (.var 0) (.cons (.num 3) .nil))) .nil)) (.cons (.asg (.tp (.cons (.nm 3) (.cons (.nm 5) .nil))) (.call 356 (.cons (.var 0) (.cons (.var 3) .nil))))
  .nil))
  (.cons (.ife (.cmp .eq (.call 3 (.cons (.var 0) (.cons (.num 3) .nil))) (.num 0)) (.cons (.asg (.nm 2) (.bcall .max (.cons (.num 1) (.cons (.bin .sub (.var 2) (.call 3 (.cons (.var 0) (.cons (.num 6) .nil)))) .nil))))
  .nil) .nil)
  (.cons (.fr (.nm 6) (.rng (.cons (.call 3 (.cons (.var 0) (.cons (.num 4) .nil))) .nil)) (.cons (.ife (.cmp .gt (.bcall .len (.cons (.var 4) .nil)) (.num 0)) (.cons (.asg (.nm 7) (.call 3 (.cons (.var 0) (.cons (.bcall .len (.cons (.var 4) .nil)) .nil))))
  (.cons (.asg (.nm 8) (.idx (.var 5) (.call 3 (.cons (.var 0) (.cons (.bcall .len (.cons (.var 5) .nil)) .nil)))))
  (.cons (.ife (.cmp .eq (.call 3 (.cons (.var 0) (.cons (.num 2) .nil))) (.num 0)) (.cons (.asg (.nm 9) (.idx (.idx (.var 4) (.call 3 (.cons (.var 0) (.cons (.bcall .len (.cons (.var 4) .nil)) .nil)))) (.num 1)))
  (.cons (.asg (.nm 8) (.idx (.var 9) (.call 3 (.cons (.var 0) (.cons (.bcall .len (.cons (.var 9) .nil)) .nil)))))
  .nil)) .nil)
  (.cons (.ife (.cmp .lt (.bcall .len (.cons (.idx (.idx (.var 4) (.var 7)) (.num 1)) .nil)) (.num 30)) (.cons (.asg (.nm 10) (.bcall .tuple (.cons (.fus .sortS (.cons (.bin .add (.idx (.idx (.var 4) (.var 7)) (.num 1)) (.tup (.cons (.var 8) .nil))) .nil)) .nil)))
  (.cons (.asg (.nm 4) (.bin .add (.bin .add (.slc (.var 4) .no (.yes (.var 7))) (.tup (.cons (.tup (.cons (.idx (.idx (.var 4) (.var 7)) (.num 0)) (.cons (.var 10) .nil))) .nil))) (.slc (.var 4) (.yes (.bin .add (.var 7) (.num 1))) .no)))
  .nil)) .nil)
  .nil)))) .nil)
  .nil))
  (.cons (.ret (.tup (.cons (.var 2) (.cons (.var 3) (.cons (.var 4) .nil)))))
  .nil))))))⟩

/-- _law_wrong(_law_plan_here); slots 0:_law_plan_here 1:_law_most 2:_law_loops 3:_law_zones 4:_law_told 5:_law_places 6:_law_kind 7:_law_address 8:_law_spur 9:_law_k 10:_law_number 11:_law_loop_here 12:_law_many 13:_law_name_here 14:_law_addresses 15:_law_ahead -/
def f_law_wrong : Fn := ⟨1, 16,
  (.cons (.asg (.tp (.cons (.nm 1) (.cons (.nm 2) (.cons (.nm 3) .nil)))) (.var 0))
  (.cons (.asg (.nm 4) (.lst .nil))
  (.cons (.fr (.nm 5) (.val (.var 2)) (.cons (.fr (.tp (.cons (.nm 6) (.cons (.nm 7) (.cons (.nm 8) .nil)))) (.val (.var 5)) (.cons (.ife (.cmp .ne (.var 6) (.txt [111, 112, 101, 110, 101, 114])) (.cons (.ex (.bmeth .extend (.var 4) (.cons (.bcall .list (.cons (.bin .add (.tup (.cons (.tup (.cons (.var 6) (.cons (.var 7) .nil))) .nil)) (.var 8)) .nil)) .nil)))
  .nil) .nil)
  .nil))
  .nil))
  (.cons (.fr (.nm 9) (.rng (.cons (.bcall .len (.cons (.var 4) .nil)) .nil)) (.cons (.ife (.cmp .in_ (.idx (.idx (.var 4) (.var 9)) (.num 1)) (.comp (.var 10) (.tp (.cons (.nm 6) (.cons (.nm 10) .nil))) (.val (.slc (.var 4) .no (.yes (.var 9)))) .no [6, 10])) (.cons (.ret (.tup (.cons (.txt [116, 119, 105, 99, 101]) (.cons (.idx (.idx (.var 4) (.var 9)) (.num 1)) .nil))))
  .nil) .nil)
  .nil))
  (.cons (.fr (.nm 11) (.rng (.cons (.bcall .len (.cons (.var 2) .nil)) .nil)) (.cons (.asg (.nm 12) (.call 350 (.cons (.idx (.var 2) (.var 11)) .nil)))
  (.cons (.fr (.nm 10) (.rng (.cons (.bcall .len (.cons (.var 12) .nil)) .nil)) (.cons (.ife (.cmp .gt (.idx (.var 12) (.var 10)) (.var 1)) (.cons (.ret (.tup (.cons (.txt [99, 114, 111, 119, 100, 101, 100]) (.cons (.var 11) (.cons (.var 10) .nil)))))
  .nil) .nil)
  .nil))
  .nil)))
  (.cons (.fr (.tp (.cons (.nm 13) (.cons (.nm 14) .nil))) (.val (.var 3)) (.cons (.fr (.nm 7) (.val (.var 14)) (.cons (.ife (.cmp .nin (.var 7) (.comp (.var 10) (.tp (.cons (.nm 6) (.cons (.nm 10) .nil))) (.val (.var 4)) (.yes (.cmp .in_ (.var 6) (.tup (.cons (.txt [115, 101, 101, 107, 101, 114]) (.cons (.txt [107, 110, 111, 98]) .nil))))) [6, 10])) (.cons (.ret (.tup (.cons (.txt [115, 116, 114, 97, 110, 103, 101, 114]) (.cons (.var 13) (.cons (.var 7) .nil)))))
  .nil) .nil)
  .nil))
  .nil))
  (.cons (.asg (.nm 15) (.lst .nil))
  (.cons (.fr (.tp (.cons (.nm 13) (.cons (.nm 14) .nil))) (.val (.var 3)) (.cons (.fr (.nm 7) (.val (.var 14)) (.cons (.ife (.cmp .in_ (.var 7) (.var 15)) (.cons (.ret (.tup (.cons (.txt [115, 104, 97, 114, 101, 100]) (.cons (.var 13) (.cons (.var 7) .nil)))))
  .nil) .nil)
  .nil))
  (.cons (.ex (.bmeth .extend (.var 15) (.cons (.bcall .list (.cons (.var 14) .nil)) .nil)))
  .nil)))
  (.cons (.ret .non)
  .nil)))))))))⟩

/-- law(_law_script); slots 0:_law_script 1:_law_k 2:_law_bag_here 3:_law_plan_here -/
def f_law : Fn := ⟨1, 4,
  (.cons (.fr (.nm 1) (.rng (.cons (.bcall .max (.cons (.num 1) (.cons (.bcall .min (.cons (.num 8) (.cons (.bcall .len (.cons (.var 0) .nil)) .nil))) .nil))) .nil)) (.cons (.asg (.nm 2) (.call 2 (.cons (.var 0) (.cons (.var 1) .nil))))
  (.cons (.asg (.nm 3) (.call 351 (.cons (.var 2) (.cons (.num 3) (.cons (.num 12) .nil)))))
  (.cons (.ife (.cmp .isn (.call 52 (.cons (.var 3) .nil)) .non) (.cons (.ret (.bl false))
  .nil) .nil)
  (.cons (.asg (.nm 3) (.call 357 (.cons (.var 2) (.cons (.var 3) .nil))))
  (.cons (.ife (.cmp .ne (.call 52 (.cons (.var 3) .nil)) (.call 358 (.cons (.var 3) .nil))) (.cons (.ret (.bl false))
  .nil) .nil)
  .nil))))))
  (.cons (.ret (.bl true))
  .nil))⟩

/-! the text by places -/
def top (i : Nat) : Stmt := (PySem.Challenge.pw_warnloop_k04_wrong_plans).main.body.getD i (.Pass ⟨0, 0, 0, 0⟩)
def e_devices : Dd := ⟨0, 45, f_devices, ["plan", "found", "loop", "places", "at", "kind", "address", "spur", "way", "other", "number"], ⟨("devices", none), "devices", "devices", defArgs (top 3), defBody (top 3), defScope (top 3), [], []⟩⟩
def e_parts : Dd := ⟨0, 48, f_parts, ["plan", "loop", "found", "at", "kind", "address", "spur", "way"], ⟨("parts", none), "parts", "parts", defArgs (top 4), defBody (top 4), defScope (top 4), [], []⟩⟩
def e_told_twice : Dd := ⟨0, 49, f_told_twice, ["plan", "met", "spot", "kind", "address"], ⟨("told_twice", none), "told_twice", "told_twice", defArgs (top 5), defBody (top 5), defScope (top 5), [], []⟩⟩
def e_crowded : Dd := ⟨0, 50, f_crowded, ["plan", "loop", "number", "part"], ⟨("crowded", none), "crowded", "crowded", defArgs (top 6), defBody (top 6), defScope (top 6), [], []⟩⟩
def e_zone_at_odds : Dd := ⟨0, 51, f_zone_at_odds, ["plan", "known", "spot", "kind", "address", "shared", "met", "name", "addresses"], ⟨("zone_at_odds", none), "zone_at_odds", "zone_at_odds", defArgs (top 7), defBody (top 7), defScope (top 7), [], []⟩⟩
def e_wrong : Dd := ⟨0, 52, f_wrong, ["plan", "found"], ⟨("wrong", none), "wrong", "wrong", defArgs (top 8), defBody (top 8), defScope (top 8), [], []⟩⟩
def e_law_bag : Dd := ⟨0, 2, f_law_bag, ["_law_script", "_law_k", "_law_cell"], ⟨("_law_bag", none), "_law_bag", "_law_bag", defArgs (top 10), defBody (top 10), defScope (top 10), [], []⟩⟩
def e_law_take : Dd := ⟨0, 3, f_law_take, ["_law_bag_here", "_law_many", "_law_digit", "_law_primes", "_law_step", "_law_base", "_law_found"], ⟨("_law_take", none), "_law_take", "_law_take", defArgs (top 11), defBody (top 11), defScope (top 11), [], []⟩⟩
def e_law_name : Dd := ⟨0, 347, f_law_name, ["_law_bag_here", "_law_letters", "_law_place"], ⟨("_law_name", none), "_law_name", "_law_name", defArgs (top 12), defBody (top 12), defScope (top 12), [], []⟩⟩
def e_law_names : Dd := ⟨0, 348, f_law_names, ["_law_bag_here", "_law_many", "_law_found", "_law_place", "_law_name_here", "_law_one"], ⟨("_law_names", none), "_law_names", "_law_names", defArgs (top 13), defBody (top 13), defScope (top 13), [], []⟩⟩
def e_law_loop : Dd := ⟨0, 349, f_law_loop, ["_law_bag_here", "_law_numbers", "_law_most_places", "_law_places", "_law_at", "_law_many", "_law_some", "_law_way"], ⟨("_law_loop", none), "_law_loop", "_law_loop", defArgs (top 14), defBody (top 14), defScope (top 14), [], []⟩⟩
def e_law_parts : Dd := ⟨0, 350, f_law_parts, ["_law_places", "_law_found", "_law_kind", "_law_address", "_law_spur"], ⟨("_law_parts", none), "_law_parts", "_law_parts", defArgs (top 15), defBody (top 15), defScope (top 15), [], []⟩⟩
def e_law_plan : Dd := ⟨0, 351, f_law_plan, ["_law_bag_here", "_law_most_loops", "_law_most_places", "_law_start", "_law_stride", "_law_numbers", "_law_k", "_law_own", "_law_first", "_law_at", "_law_loops", "_law_loop_here", "_law_most", "_law_places", "_law_told", "_law_kind", "_law_address", "_law_spur", "_law_other", "_law_number", "_law_zones", "_law_names_here", "_law_name_here", "_law_some"], ⟨("_law_plan", none), "_law_plan", "_law_plan", defArgs (top 16), defBody (top 16), defScope (top 16), [], []⟩⟩
def e_law_readdressed : Dd := ⟨0, 356, f_law_readdressed, ["_law_bag_here", "_law_loops", "_law_spots", "_law_known", "_law_loop_here", "_law_at", "_law_kind", "_law_address", "_law_spur", "_law_way", "_law_number", "_law_place", "_law_places"], ⟨("_law_readdressed", none), "_law_readdressed", "_law_readdressed", defArgs (top 17), defBody (top 17), defScope (top 17), [], []⟩⟩
def e_law_spoilt : Dd := ⟨0, 357, f_law_spoilt, ["_law_bag_here", "_law_plan_here", "_law_most", "_law_loops", "_law_zones", "_law_known", "_law_again", "_law_at", "_law_more", "_law_other", "_law_addresses"], ⟨("_law_spoilt", none), "_law_spoilt", "_law_spoilt", defArgs (top 18), defBody (top 18), defScope (top 18), [], []⟩⟩
def e_law_wrong : Dd := ⟨0, 358, f_law_wrong, ["_law_plan_here", "_law_most", "_law_loops", "_law_zones", "_law_told", "_law_places", "_law_kind", "_law_address", "_law_spur", "_law_k", "_law_number", "_law_loop_here", "_law_many", "_law_name_here", "_law_addresses", "_law_ahead"], ⟨("_law_wrong", none), "_law_wrong", "_law_wrong", defArgs (top 19), defBody (top 19), defScope (top 19), [], []⟩⟩
def e_law : Dd := ⟨0, 4, f_law, ["_law_script", "_law_k", "_law_bag_here", "_law_plan_here"], ⟨("law", none), "law", "law", defArgs (top 20), defBody (top 20), defScope (top 20), [], []⟩⟩
def nms : List Str := (["", "__init__", "_law_bag", "_law_take", "law", "_law_kind", "HouseError", "NoPlan", "NoText", "NoStretch", "NoSpot", "NoOpener", "NoAddress", "NoRules", "NoHand"] : List Str) ++ (["NoPanel", "NoLink", "NoLog", "NoDeed", "NoRow", "LETTERS", "FIGURES", "MOST_LETTERS", "is_whole", "is_name", "rises", "are_rising", "are_whole", "is_written", "numeral"] : List Str) ++ (["KINDS", "TOLD_BY", "OPENER", "MOST_ADDRESS", "MOST_DEVICES", "MOST_LOOPS", "MOST_PLACES", "MOST_SPUR", "MOST_ZONES", "is_device", "is_place", "is_loop", "is_zone", "are_zones", "is_plan"] : List Str) ++ (["devices", "stretches", "openers", "parts", "told_twice", "crowded", "zone_at_odds", "wrong", "is_let_by", "device_text", "place_text", "show_plan", "device_of", "place_of", "zone_of"] : List Str) ++ (["plan_of", "read_plan", "spur_come_to", "come_to", "steps_of", "feels", "all_rest", "heard_by", "MOST_NUMBER", "Wires", "need_stretch", "need_spot", "cut", "short", "mend"] : List Str) ++ (["how", "take_out", "put_in", "there", "parted", "change", "act", "rests", "come_to_rest", "heard", "plan", "hows", "stops", "devices_there", "MOST_TURN"] : List Str) ++ (["MOST_WORD", "CHECKED_BY", "check_of", "frame", "is_frame", "TURNS", "LOST_AT", "words_counted", "Talk", "turn", "beat", "hears", "misses", "word_of", "lost"] : List Str) ++ (["heard_now", "all_addresses", "beats_done", "last_words", "missed_for", "were_two", "are_lost", "last_heard", "ROW_ABOVE", "ROW_CALM", "DIRTY", "Seeker", "ask", "count_above", "drift"] : List Str) ++ (["reset", "base", "warned", "first_mark", "day_mark", "night_mark", "number", "level_base", "over_first", "above_run", "calm_run", "has_warned", "MOST_OF", "MOST_KEY", "MOST_HOUR"] : List Str) ++ (["MOST_BACK", "DEEPEST", "MOST_CONDITIONS", "MOST_RULES", "MOST_WARNED", "MOST_BEATS", "SOUNDED", "inner_of", "is_condition", "is_rule", "is_rules", "is_brought", "is_history", "all_in", "names_in"] : List Str) ++ (["terms_of", "stranger", "sounds_nothing", "is_ready", "in_order", "ring", "still_bell", "rules_wrong", "need_rules", "in_hours", "Saying", "holds", "reckoned", "zones", "terms"] : List Str) ++ (["history", "known", "says", "MOST_ROWS", "is_row", "is_out", "is_table", "Making", "number_of", "made", "rows", "numbers", "named", "needed", "table_of"] : List Str) ++ (["Runner", "holds_now", "outs", "past", "MOST_FIGURES", "TWO", "show_condition", "show_rules", "must_be", "behind", "end_of", "number_at", "name_at", "plain_at", "two_at"] : List Str) ++ (["condition_at", "row_of", "read_rules", "STILL", "SOUNDING", "SILENCED", "waiting", "Sounder", "need", "all_that", "moved_on", "used_again", "press", "lengthen", "silence"] : List Str) ++ (["put_out", "state_of", "sounded", "out_of_use", "delays", "standing", "longer", "unused", "wanted_before", "MARKS", "GREAT", "SMALL", "SIGNS", "LEFT_OUT", "MOST_SIGNS"] : List Str) ++ (["SUM_OF_SIZES", "NUMBERS", "is_sign_number", "sign_of", "check_of_cells", "record", "note_at", "read_journal", "Journal", "write", "notes", "cells", "kept_notes", "Store", "kept_loads"] : List Str) ++ (["keep", "held", "stands", "full_at", "gained", "all_loads", "now_held", "kept_many", "joined", "Ring", "need_panel", "need_link", "log_of", "tied_to", "houses"] : List Str) ++ (["many_panels", "logs", "links_whole", "HOWS", "need_plan", "heard_so", "of_loop", "heard_with", "single_faults", "fault_sets", "agreeing", "told_place", "NOUGHT", "fewest_openers", "lowest"] : List Str) ++ (["plus", "less", "times", "drops", "volts", "least_supply", "ENDS", "MOST_WEIGHTS", "MOST_WEIGHT", "MOST_STAMP", "MOST_TEXT", "is_text_of", "is_fault", "are_faults", "is_opener"] : List Str) ++ (["are_openers", "all_so", "is_spot", "goes_on", "is_heard", "beside", "is_of_fence", "is_shut", "is_still", "are_spans", "are_fewest", "is_entry", "is_log", "are_joined", "are_said"] : List Str) ++ (["way_to", "fence_round", "paper_of", "MORNING", "EVENING", "LOST", "note_of", "spoilt", "House", "all_of", "befall", "done", "answers", "asked", "dumb_now"] : List Str) ++ (["wires", "table_run", "loops", "kinds", "talking", "seekers", "pressed", "journal", "dumb_ahead", "NONE", "KEPT", "DONE", "numbers_of", "some_rising", "brought_by"] : List Str) ++ (["pointed", "listed", "wrong_words", "Desk", "say", "row_told", "need_loop", "plan_told", "rules_told", "stretch_told", "heard_told", "where_told", "beat_told", "kept_plan", "kept_wires"] : List Str) ++ (["kept_run", "_law_whole", "_law_name", "_law_names", "_law_loop", "_law_parts", "_law_plan", "_law_walk", "_law_befall", "_law_rests", "_law_outs", "_law_readdressed", "_law_spoilt", "_law_wrong"] : List Str)
def pk : Pk := ⟨nms, 1, [e_devices, e_parts, e_told_twice, e_crowded, e_zone_at_odds, e_wrong, e_law_bag, e_law_take, e_law_name, e_law_names, e_law_loop, e_law_parts, e_law_plan, e_law_readdressed, e_law_spoilt, e_law_wrong, e_law], [], [], [(31, (D.tup [(D.str [115, 101, 101, 107, 101, 114]), (D.str [107, 110, 111, 98])])), (32, (D.str [111, 112, 101, 110, 101, 114]))], [], [], [], []⟩
-- raised: []; asked: []; hot: []
abbrev T : Tab := pk.tab
theorem F_devices : T.F 0 45 = some f_devices := rfl
theorem F_parts : T.F 0 48 = some f_parts := rfl
theorem F_told_twice : T.F 0 49 = some f_told_twice := rfl
theorem F_crowded : T.F 0 50 = some f_crowded := rfl
theorem F_zone_at_odds : T.F 0 51 = some f_zone_at_odds := rfl
theorem F_wrong : T.F 0 52 = some f_wrong := rfl
theorem F_law_bag : T.F 0 2 = some f_law_bag := rfl
theorem F_law_take : T.F 0 3 = some f_law_take := rfl
theorem F_law_name : T.F 0 347 = some f_law_name := rfl
theorem F_law_names : T.F 0 348 = some f_law_names := rfl
theorem F_law_loop : T.F 0 349 = some f_law_loop := rfl
theorem F_law_parts : T.F 0 350 = some f_law_parts := rfl
theorem F_law_plan : T.F 0 351 = some f_law_plan := rfl
theorem F_law_readdressed : T.F 0 356 = some f_law_readdressed := rfl
theorem F_law_spoilt : T.F 0 357 = some f_law_spoilt := rfl
theorem F_law_wrong : T.F 0 358 = some f_law_wrong := rfl
theorem F_law : T.F 0 4 = some f_law := rfl
end Mn.K04
end

section
set_option Elab.async false
set_option linter.all false
set_option maxRecDepth 100000
set_option maxHeartbeats 4000000
namespace Mn.K04
open PySem L2 Mn
theorem b_devices : BindP e_devices.d := fun _ _ _ _ _ _ us hl => match us, hl with | [_], _ => rfl
theorem b_parts : BindP e_parts.d := fun _ _ _ _ _ _ us hl => match us, hl with | [_, _], _ => rfl
theorem b_told_twice : BindP e_told_twice.d := fun _ _ _ _ _ _ us hl => match us, hl with | [_], _ => rfl
theorem b_crowded : BindP e_crowded.d := fun _ _ _ _ _ _ us hl => match us, hl with | [_], _ => rfl
theorem b_zone_at_odds : BindP e_zone_at_odds.d := fun _ _ _ _ _ _ us hl => match us, hl with | [_], _ => rfl
theorem b_wrong : BindP e_wrong.d := fun _ _ _ _ _ _ us hl => match us, hl with | [_], _ => rfl
theorem b_law_bag : BindP e_law_bag.d := fun _ _ _ _ _ _ us hl => match us, hl with | [_, _], _ => rfl
theorem b_law_take : BindP e_law_take.d := fun _ _ _ _ _ _ us hl => match us, hl with | [_, _], _ => rfl
theorem b_law_name : BindP e_law_name.d := fun _ _ _ _ _ _ us hl => match us, hl with | [_], _ => rfl
theorem b_law_names : BindP e_law_names.d := fun _ _ _ _ _ _ us hl => match us, hl with | [_, _], _ => rfl
theorem b_law_loop : BindP e_law_loop.d := fun _ _ _ _ _ _ us hl => match us, hl with | [_, _, _], _ => rfl
theorem b_law_parts : BindP e_law_parts.d := fun _ _ _ _ _ _ us hl => match us, hl with | [_], _ => rfl
theorem b_law_plan : BindP e_law_plan.d := fun _ _ _ _ _ _ us hl => match us, hl with | [_, _, _], _ => rfl
theorem b_law_readdressed : BindP e_law_readdressed.d := fun _ _ _ _ _ _ us hl => match us, hl with | [_, _], _ => rfl
theorem b_law_spoilt : BindP e_law_spoilt.d := fun _ _ _ _ _ _ us hl => match us, hl with | [_, _], _ => rfl
theorem b_law_wrong : BindP e_law_wrong.d := fun _ _ _ _ _ _ us hl => match us, hl with | [_], _ => rfl
theorem b_law : BindP e_law.d := fun _ _ _ _ _ _ us hl => match us, hl with | [_], _ => rfl
theorem bnd : ∀ e ∈ pk.defs, BindP e.d := fa_cons b_devices (fa_cons b_parts (fa_cons b_told_twice (fa_cons b_crowded (fa_cons b_zone_at_odds (fa_cons b_wrong (fa_cons b_law_bag (fa_cons b_law_take (fa_cons b_law_name (fa_cons b_law_names (fa_cons b_law_loop (fa_cons b_law_parts (fa_cons b_law_plan (fa_cons b_law_readdressed (fa_cons b_law_spoilt (fa_cons b_law_wrong (fa_cons b_law (fa_nil)))))))))))))))))
theorem pk_ok : pk.ok = true := by decide +kernel
abbrev R : PySem.W.OpenRow := PySem.W.OpenLaw.row PySem.Challenge.rw_warnloop_k04_wrong_plans
def layG (g : Addr → Option Obj) : Nat → List Addr → List Addr
  | 0, _ => []
  | n + 1, as => as ++ layG g n (as.flatMap fun a => match g a with | some o => He.refsD o | none => [])
def hookY (n : Nat) (p : Pk) : PySem.W.Hook where
  α := He.AlD
  obs := fun s => obsM p (He.frG s.heap.get? (layG s.heap.get? n [mainGlobals]))
  val := fun _ => He.valD p.fnl
  says := fun _ h => ∃ K : PySem.W.Frag, K.In h ∧ SaysM p K
  of := fun _ _ e => ⟨_, He.frG_in, e⟩
  keeps := fun _ _ _ ⟨K, hK, c⟩ k => ⟨K, PySem.W.Frag.In.keeps hK k, c⟩
abbrev hk : PySem.W.Hook := hookY 7 pk
def ob (s : PySem.W.SharedT) : He.AlD := obsM pk (He.frG (HandSHeadRun.getT s) (layG (HandSHeadRun.getT s) 7 [mainGlobals]))
theorem ob_eq (s : PySem.W.SharedT) : ob s = hk.obs s.abs := by
  have e : HandSHeadRun.getT s = s.abs.heap.get? := funext (HandSHeadRun.getT_eq s)
  unfold ob
  rw [e]
  rfl
def loose : List PySem.Str := (["TOLD_BY", "OPENER", "devices", "parts", "told_twice", "crowded", "zone_at_odds", "wrong", "_law_bag", "_law_take", "_law_name", "_law_names", "_law_loop", "_law_parts", "_law_plan"] : List PySem.Str) ++ (["_law_readdressed", "_law_spoilt", "_law_wrong"] : List PySem.Str)
set_option maxHeartbeats 0 in
theorem run (w : World) : HandSHeadRun.RunEq R (PySem.W.view R.prog [20]) hk ob 30000 loose w := by
  intro os
  kernel_rfl
end Mn.K04
end

section
set_option autoImplicit false
set_option linter.all false
set_option maxRecDepth 100000
set_option maxHeartbeats 4000000
/-! Mn, part Q: the rules of the terms as rewriting rules. -/
namespace Mn
@[simp] theorem w_var {g : Sg} {X : XD} {r : Env} {m : Hm} {P : PD} {i : Nat} : wpE g (.var i) X r m P = (∃ d, vget r i = some d ∧ P d m) := rfl
@[simp] theorem w_non {g : Sg} {X : XD} {r : Env} {m : Hm} {P : PD}  : wpE g (.non) X r m P = (P .non m) := rfl
@[simp] theorem w_bl {g : Sg} {X : XD} {r : Env} {m : Hm} {P : PD} {b : Bool} : wpE g (.bl b) X r m P = (P (.bl b) m) := rfl
@[simp] theorem w_num {g : Sg} {X : XD} {r : Env} {m : Hm} {P : PD} {i : Int} : wpE g (.num i) X r m P = (P (.int i) m) := rfl
@[simp] theorem w_txt {g : Sg} {X : XD} {r : Env} {m : Hm} {P : PD} {s : List Nat} : wpE g (.txt s) X r m P = (P (.str s) m) := rfl
@[simp] theorem w_glob {g : Sg} {X : XD} {r : Env} {m : Hm} {P : PD} {k : Nat} {d : D} : wpE g (.glob k d) X r m P = (P d m) := rfl
@[simp] theorem w_bin {g : Sg} {X : XD} {r : Env} {m : Hm} {P : PD} {op : Bop} {a c : E} : wpE g (.bin op a c) X r m P = (wpE g a X r m fun x m1 => wpE g c X r m1 fun y m2 => binW op x y m2 P) := rfl
@[simp] theorem w_neg {g : Sg} {X : XD} {r : Env} {m : Hm} {P : PD} {a : E} : wpE g (.neg a) X r m P = (wpE g a X r m fun x m1 => match x with | .int i => P (.int (-i)) m1 | _ => False) := rfl
@[simp] theorem w_cmp {g : Sg} {X : XD} {r : Env} {m : Hm} {P : PD} {op : Cop} {a c : E} : wpE g (.cmp op a c) X r m P = (wpE g a X r m fun x m1 => wpE g c X r m1 fun y m2 => cmpW op x y m2 P) := rfl
@[simp] theorem w_cmp2 {g : Sg} {X : XD} {r : Env} {m : Hm} {P : PD} {op op2 : Cop} {a c d : E} : wpE g (.cmp2 op op2 a c d) X r m P = (wpE g a X r m fun x m1 => wpE g c X r m1 fun y m2 => cmpW op x y m2 fun z m3 => match z with | .bl k => (if k = true then wpE g d X r m3 fun w m4 => cmpW op2 y w m4 P else P (.bl false) m3) | _ => False) := rfl
@[simp] theorem w_and {g : Sg} {X : XD} {r : Env} {m : Hm} {P : PD} {es : Es} : wpE g (.and_ es) X r m P = (wpAnd g es X r m P) := rfl
@[simp] theorem w_or {g : Sg} {X : XD} {r : Env} {m : Hm} {P : PD} {es : Es} : wpE g (.or_ es) X r m P = (wpOr g es X r m P) := rfl
@[simp] theorem w_not {g : Sg} {X : XD} {r : Env} {m : Hm} {P : PD} {a : E} : wpE g (.not_ a) X r m P = (wpE g a X r m fun x m1 => ∃ b, truth m1 x = some b ∧ P (.bl (!b)) m1) := rfl
@[simp] theorem w_ifx {g : Sg} {X : XD} {r : Env} {m : Hm} {P : PD} {t a c : E} : wpE g (.ifx t a c) X r m P = (wpE g t X r m fun x m1 => ∃ k, truth m1 x = some k ∧ if k = true then wpE g a X r m1 P else wpE g c X r m1 P) := rfl
@[simp] theorem w_call {g : Sg} {X : XD} {r : Env} {m : Hm} {P : PD} {f : Nat} {es : Es} : wpE g (.call f es) X r m P = (g.hs 0 f = true ∧ wpEs g es X r m fun ds m1 => g.C 0 f ds m1 P fun c m2 => X c r m2) := rfl
@[simp] theorem w_make {g : Sg} {X : XD} {r : Env} {m : Hm} {P : PD} {c : Nat} {es : Es} : wpE g (.make c es) X r m P = (g.hs c g.ini = true ∧ wpEs g es X r m fun ds m1 => ∀ p, m1 p = none → g.C c g.ini (.ref p :: ds) (up m1 p (.ins c [])) (fun d m2 => d = .non ∧ P (.ref p) m2) fun c m2 => X c r m2) := rfl
theorem w_bcall_ {g : Sg} {X : XD} {r : Env} {m : Hm} {P : PD} {f : Bf} {es : Es} : wpE g (.bcall f es) X r m P = (wpEs g es X r m fun ds m1 => (g.hx = none ∨ (f = .max ∧ ∃ xs, ds = [.tup xs])) ∧ bfW f ds m1 P) := rfl
@[simp] theorem w_bcall {t : Tab} {n : Nat} {X : XD} {r : Env} {m : Hm} {P : PD} {f : Bf} {es : Es} : wpE (sg t n) (.bcall f es) X r m P = (wpEs (sg t n) es X r m fun ds m1 => bfW f ds m1 P) := by
  rw [w_bcall_]
  congr 1
  funext ds m1
  rw [show (sg t n).hx = none from rfl]
  simp
@[simp] theorem w_bcallH {t : Tab} {n : Nat} {h : Nat × Nat} {X : XD} {r : Env} {m : Hm} {P : PD} {f : Bf} {es : Es} : wpE (sgH t n h) (.bcall f es) X r m P = (wpEs (sgH t n h) es X r m fun ds m1 => (f = .max ∧ ∃ xs, ds = [.tup xs]) ∧ bfW f ds m1 P) := by
  rw [w_bcall_]
  congr 1
  funext ds m1
  rw [show (sgH t n h).hx = some h from rfl]
  simp
@[simp] theorem w_bmeth {g : Sg} {X : XD} {r : Env} {m : Hm} {P : PD} {f : Bm} {o : E} {es : Es} : wpE g (.bmeth f o es) X r m P = (wpE g o X r m fun x m1 => mok f (rk m1 x) = true ∧ wpEs g es X r m1 fun ds m2 => rk m2 x = rk m1 x ∧ bmW f x ds m2 P) := rfl
@[simp] theorem w_isin {g : Sg} {X : XD} {r : Env} {m : Hm} {P : PD} {a : E} {ts : List Ty} : wpE g (.isin a ts) X r m P = (wpE g a X r m fun x m1 => ∃ b, isT g m1 x ts = some b ∧ P (.bl b) m1) := rfl
@[simp] theorem w_idx {g : Sg} {X : XD} {r : Env} {m : Hm} {P : PD} {a i : E} : wpE g (.idx a i) X r m P = (wpE g a X r m fun x m1 => wpE g i X r m1 fun y m2 => ixW x y m2 P) := rfl
@[simp] theorem w_slc {g : Sg} {X : XD} {r : Env} {m : Hm} {P : PD} {a : E} {lo hi : O} : wpE g (.slc a lo hi) X r m P = (wpE g a X r m fun x m1 => wpO g lo X r m1 fun l m2 => wpO g hi X r m2 fun h m3 => slW x l h m3 P) := rfl
@[simp] theorem w_rev {g : Sg} {X : XD} {r : Env} {m : Hm} {P : PD} {a : E} : wpE g (.rev a) X r m P = (wpE g a X r m fun x m1 => revW x m1 P) := rfl
@[simp] theorem w_tup {g : Sg} {X : XD} {r : Env} {m : Hm} {P : PD} {es : Es} : wpE g (.tup es) X r m P = (wpEs g es X r m fun ds m1 => P (.tup ds) m1) := rfl
@[simp] theorem w_lst {g : Sg} {X : XD} {r : Env} {m : Hm} {P : PD} {es : Es} : wpE g (.lst es) X r m P = (wpEs g es X r m fun ds m1 => ∀ p, m1 p = none → P (.ref p) (up m1 p (.lst ds))) := rfl
@[simp] theorem w_dctK {g : Sg} {X : XD} {r : Env} {m : Hm} {P : PD}  : wpE g (.dctK) X r m P = (∀ p, m p = none → P (.ref p) (up m p (.dK []))) := rfl
@[simp] theorem w_lenS {g : Sg} {X : XD} {r : Env} {m : Hm} {P : PD} {e : E} : wpE g (.lenS e) X r m P = (wpE g e X r m fun x m1 => match x with | .ref a => ∃ ds ks, m1 a = some (.lst ds) ∧ kysOf ds = some ks ∧ ks.length ≤ 4000 ∧ P (.int ((unlL ks).length : Nat)) m1 | _ => False) := rfl
@[simp] theorem w_attr {g : Sg} {X : XD} {r : Env} {m : Hm} {P : PD} {f : Nat} {o : E} : wpE g (.attr f o) X r m P = (wpE g o X r m fun x m1 => match x with | .ref a => ∃ c fs d, m1 a = some (.ins c fs) ∧ fget fs f = some d ∧ P d m1 | _ => False) := rfl
@[simp] theorem w_meth {g : Sg} {X : XD} {r : Env} {m : Hm} {P : PD} {k : Nat} {o : E} {es : Es} : wpE g (.meth k o es) X r m P = (wpE g o X r m fun x m1 => match x with | .ref a => ∃ c fs, m1 a = some (.ins c fs) ∧ fget fs k = none ∧ g.hs c k = true ∧ wpEs g es X r m1 fun ds m2 => g.C c k (x :: ds) m2 P fun c m2 => X c r m2 | _ => False) := rfl
@[simp] theorem w_compN {g : Sg} {X : XD} {r : Env} {m : Hm} {P : PD} {elt : E} {tg : T} {it : I} {own : List Nat} : wpE g (.comp elt tg it .no own) X r m P = (wpI g it X r m fun xs st m1 => ∀ p, m1 p = none → compW p st (fun x m2 Q1 Q2 => wpT g tg x XF (wipe r own) m2 fun r3 m3 => wpE g elt XF r3 m3 Q1) (fun m2 => P (.ref p) m2) xs (up m1 p (.lst []))) := rfl
@[simp] theorem w_compY {g : Sg} {X : XD} {r : Env} {m : Hm} {P : PD} {elt c : E} {tg : T} {it : I} {own : List Nat} : wpE g (.comp elt tg it (.yes c) own) X r m P = (wpI g it X r m fun xs st m1 => ∀ p, m1 p = none → compW p st (fun x m2 Q1 Q2 => wpT g tg x XF (wipe r own) m2 fun r3 m3 => wpE g c XF r3 m3 fun y m4 => ∃ b, truth m4 y = some b ∧ if b = true then wpE g elt XF r3 m4 Q1 else Q2 m4) (fun m2 => P (.ref p) m2) xs (up m1 p (.lst []))) := rfl
@[simp] theorem w_nil {g : Sg} {X : XD} {r : Env} {m : Hm} {P : List D → Hm → Prop} : wpEs g .nil X r m P = P [] m := rfl
@[simp] theorem w_cons {g : Sg} {X : XD} {r : Env} {m : Hm} {P : List D → Hm → Prop} {e : E} {es : Es} : wpEs g (.cons e es) X r m P = (wpE g e X r m fun d m1 => wpEs g es X r m1 fun ds m2 => P (d :: ds) m2) := rfl
@[simp] theorem w_and1 {g : Sg} {X : XD} {r : Env} {m : Hm} {P : PD} {e : E} : wpAnd g (.cons e .nil) X r m P = wpE g e X r m P := rfl
@[simp] theorem w_and2 {g : Sg} {X : XD} {r : Env} {m : Hm} {P : PD} {e e2 : E} {es : Es} : wpAnd g (.cons e (.cons e2 es)) X r m P = (wpE g e X r m fun x m1 => ∃ b, truth m1 x = some b ∧ if b = true then wpAnd g (.cons e2 es) X r m1 P else P x m1) := rfl
@[simp] theorem w_or1 {g : Sg} {X : XD} {r : Env} {m : Hm} {P : PD} {e : E} : wpOr g (.cons e .nil) X r m P = wpE g e X r m P := rfl
@[simp] theorem w_or2 {g : Sg} {X : XD} {r : Env} {m : Hm} {P : PD} {e e2 : E} {es : Es} : wpOr g (.cons e (.cons e2 es)) X r m P = (wpE g e X r m fun x m1 => ∃ b, truth m1 x = some b ∧ if b = true then P x m1 else wpOr g (.cons e2 es) X r m1 P) := rfl
@[simp] theorem w_ono {g : Sg} {X : XD} {r : Env} {m : Hm} {P : Option Int → Hm → Prop} : wpO g .no X r m P = P none m := rfl
@[simp] theorem w_oyes {g : Sg} {X : XD} {r : Env} {m : Hm} {P : Option Int → Hm → Prop} {e : E} : wpO g (.yes e) X r m P = (wpE g e X r m fun x m1 => match x with | .int i => P (some i) m1 | _ => False) := rfl
@[simp] theorem w_ival {g : Sg} {X : XD} {r : Env} {m : Hm} {K : List D → (Hm → Prop) → Hm → Prop} {e : E} : wpI g (.val e) X r m K = wpE g e X r m fun d m1 => walkV d m1 K := rfl
@[simp] theorem w_irng {g : Sg} {X : XD} {r : Env} {m : Hm} {K : List D → (Hm → Prop) → Hm → Prop} {es : Es} : wpI g (.rng es) X r m K = wpEs g es X r m fun ds m1 => rngW ds m1 K := rfl
@[simp] theorem w_ienum {g : Sg} {X : XD} {r : Env} {m : Hm} {K : List D → (Hm → Prop) → Hm → Prop} {e : E} : wpI g (.enum e) X r m K = (wpE g e X r m fun d m1 => match d with | .str _ => False | _ => walkV d m1 fun xs st m2 => K (enumD 0 xs) st m2) := rfl
@[simp] theorem w_izip {g : Sg} {X : XD} {r : Env} {m : Hm} {K : List D → (Hm → Prop) → Hm → Prop} {a c : E} : wpI g (.zip a c) X r m K = (wpE g a X r m fun x m1 => wpE g c X r m1 fun y m2 => ∃ xs s1 ys s2, zsrc m2 x = some (xs, s1) ∧ zsrc m2 y = some (ys, s2) ∧ K (zipD xs ys) (fun m3 => s1 m3 ∧ s2 m3) m2) := rfl
@[simp] theorem w_nm {g : Sg} {X : XD} {r : Env} {m : Hm} {Q : Env → Hm → Prop} {i : Nat} {d : D} : wpT g (.nm i) d X r m Q = Q (r.set i (some d)) m := rfl
@[simp] theorem w_tp {g : Sg} {X : XD} {r : Env} {m : Hm} {Q : Env → Hm → Prop} {ts : Ts} {ds : List D} : wpT g (.tp ts) (.tup ds) X r m Q = (ds.length = lenT ts ∧ wpTs g ts ds X r m Q) := rfl
@[simp] theorem w_at {g : Sg} {X : XD} {r : Env} {m : Hm} {Q : Env → Hm → Prop} {f : Nat} {o : E} {d : D} : wpT g (.at_ f o) d X r m Q = wpE g o X r m fun x m1 => match x with | .ref a => ∃ c fs, m1 a = some (.ins c fs) ∧ g.fld c f = true ∧ fs.length < 1000 ∧ Q r (up m1 a (.ins c (fput fs f d))) | _ => False := rfl
@[simp] theorem w_sb {g : Sg} {X : XD} {r : Env} {m : Hm} {Q : Env → Hm → Prop} {o i : E} {d : D} : wpT g (.sb o i) d X r m Q = wpE g o X r m fun x m1 => wpE g i X r m1 fun y m2 => setW x y d m2 fun m3 => Q r m3 := rfl
@[simp] theorem w_tnil {g : Sg} {X : XD} {r : Env} {m : Hm} {Q : Env → Hm → Prop} : wpTs g .nil [] X r m Q = Q r m := rfl
@[simp] theorem w_tcons {g : Sg} {X : XD} {r : Env} {m : Hm} {Q : Env → Hm → Prop} {t : T} {ts : Ts} {d : D} {ds : List D} : wpTs g (.cons t ts) (d :: ds) X r m Q = wpT g t d X r m fun r1 m1 => wpTs g ts ds X r1 m1 Q := rfl
@[simp] theorem w_pass {g : Sg} {X : XD} {r : Env} {m : Hm} {Q : K}  : wpS g X (.pass) r m Q = (Q.nx r m) := rfl
@[simp] theorem w_ex {g : Sg} {X : XD} {r : Env} {m : Hm} {Q : K} {e : E} : wpS g X (.ex e) r m Q = (wpE g e X r m fun _ m1 => Q.nx r m1) := rfl
@[simp] theorem w_asg {g : Sg} {X : XD} {r : Env} {m : Hm} {Q : K} {t : T} {e : E} : wpS g X (.asg t e) r m Q = (wpE g e X r m fun d m1 => wpT g t d X r m1 Q.nx) := rfl
@[simp] theorem w_augn {g : Sg} {X : XD} {r : Env} {m : Hm} {Q : K} {i : Nat} {op : Bop} {e : E} : wpS g X (.aug (.nm i) op e) r m Q = (∃ x, vget r i = some x ∧ wpE g e X r m fun y m1 => augW op x y fun z => Q.nx (r.set i (some z)) m1) := rfl
@[simp] theorem w_auga {g : Sg} {X : XD} {r : Env} {m : Hm} {Q : K} {f : Nat} {o e : E} {op : Bop} : wpS g X (.aug (.at_ f o) op e) r m Q = (wpE g o X r m fun x m1 => match x with | .ref a => ∃ c fs d, m1 a = some (.ins c fs) ∧ fget fs f = some d ∧ wpE g e X r m1 fun y m2 => augW op d y fun z => ∃ fs2, m2 a = some (.ins c fs2) ∧ fs2.length < 1000 ∧ Q.nx r (up m2 a (.ins c (fput fs2 f z))) | _ => False) := rfl
@[simp] theorem w_ife {g : Sg} {X : XD} {r : Env} {m : Hm} {Q : K} {c : E} {a b : Ss} : wpS g X (.ife c a b) r m Q = (wpE g c X r m fun x m1 => ∃ k, truth m1 x = some k ∧ if k = true then wpSs g X a r m1 Q else wpSs g X b r m1 Q) := rfl
@[simp] theorem w_fr {g : Sg} {X : XD} {r : Env} {m : Hm} {Q : K} {t : T} {it : I} {b : Ss} : wpS g X (.fr t it b) r m Q = (wpI g it X r m fun xs st m1 => loopW st (fun x r2 m2 nx => wpT g t x X r2 m2 fun r3 m3 => wpSs g X b r3 m3 ⟨nx, Q.rt, Q.nx, nx⟩) Q.nx xs r m1) := rfl
@[simp] theorem w_whl {g : Sg} {X : XD} {r : Env} {m : Hm} {Q : K} {c : E} {b : Ss} : wpS g X (.whl c b) r m Q = (∃ n, whileW (testW g c X) (fun r2 m2 nx => wpSs g X b r2 m2 ⟨nx, Q.rt, Q.nx, nx⟩) Q.nx n r m) := rfl
@[simp] theorem w_brk {g : Sg} {X : XD} {r : Env} {m : Hm} {Q : K}  : wpS g X (.brk) r m Q = (Q.bk r m) := rfl
@[simp] theorem w_cnt {g : Sg} {X : XD} {r : Env} {m : Hm} {Q : K}  : wpS g X (.cnt) r m Q = (Q.ct r m) := rfl
@[simp] theorem w_ret {g : Sg} {X : XD} {r : Env} {m : Hm} {Q : K} {e : E} : wpS g X (.ret e) r m Q = (wpE g e X r m Q.rt) := rfl
@[simp] theorem w_ret0 {g : Sg} {X : XD} {r : Env} {m : Hm} {Q : K}  : wpS g X (.ret0) r m Q = (Q.rt .non m) := rfl
@[simp] theorem w_snil {g : Sg} {X : XD} {r : Env} {m : Hm} {Q : K} : wpSs g X .nil r m Q = Q.nx r m := rfl
@[simp] theorem w_scons {g : Sg} {X : XD} {r : Env} {m : Hm} {Q : K} {s : S} {ss : Ss} : wpSs g X (.cons s ss) r m Q = wpS g X s r m ⟨fun r1 m1 => wpSs g X ss r1 m1 Q, Q.rt, Q.bk, Q.ct⟩ := rfl
@[simp] theorem b_add {m : Hm} {P : PD} {i j : Int} : binW .add (.int i) (.int j) m P = P (.int (i + j)) m := rfl
@[simp] theorem b_sub {m : Hm} {P : PD} {i j : Int} : binW .sub (.int i) (.int j) m P = P (.int (i - j)) m := rfl
@[simp] theorem b_mul {m : Hm} {P : PD} {i j : Int} : binW .mul (.int i) (.int j) m P = (mulOk i j = true ∧ P (.int (i * j)) m) := rfl
@[simp] theorem b_fdiv {m : Hm} {P : PD} {i j : Int} : binW .fdiv (.int i) (.int j) m P = ((j ≠ 0 ∧ (j.natAbs < 1073741824 ∨ (0 < j ∧ j.natAbs.log2 < 9000))) ∧ P (.int (i.fdiv j)) m) := rfl
@[simp] theorem b_mod {m : Hm} {P : PD} {i j : Int} : binW .mod (.int i) (.int j) m P = (j ≠ 0 ∧ P (.int (i.fmod j)) m) := rfl
@[simp] theorem b_pow {m : Hm} {P : PD} {i j : Int} : binW .pow (.int i) (.int j) m P = ((0 ≤ j ∧ j ≤ 1000000 ∧ i.natAbs < 2 ^ 64) ∧ P (.int (i ^ j.toNat)) m) := rfl
@[simp] theorem b_tadd {m : Hm} {P : PD} {a c : List D} : binW .add (.tup a) (.tup c) m P = (a.length + c.length ≤ SZ ∧ P (.tup (a ++ c)) m) := rfl
@[simp] theorem b_sadd {m : Hm} {P : PD} {s t : List Nat} : binW .add (.str s) (.str t) m P = (s.length + t.length ≤ SZ ∧ P (.str (s ++ t)) m) := rfl
@[simp] theorem c_lt {m : Hm} {P : PD} {i j : Int} : cmpW .lt (.int i) (.int j) m P = P (.bl (decide (i < j))) m := rfl
@[simp] theorem c_le {m : Hm} {P : PD} {i j : Int} : cmpW .le (.int i) (.int j) m P = P (.bl (decide (i ≤ j))) m := rfl
@[simp] theorem c_gt {m : Hm} {P : PD} {i j : Int} : cmpW .gt (.int i) (.int j) m P = P (.bl (decide (j < i))) m := rfl
@[simp] theorem c_ge {m : Hm} {P : PD} {i j : Int} : cmpW .ge (.int i) (.int j) m P = P (.bl (decide (j ≤ i))) m := rfl
@[simp] theorem c_eq {m : Hm} {P : PD} {i j : Int} : cmpW .eq (.int i) (.int j) m P = P (.bl (decide (i = j))) m := by show P (.bl (xor false (i == j))) m = _; simp [Bool.beq_eq_decide_eq]
@[simp] theorem c_ne {m : Hm} {P : PD} {i j : Int} : cmpW .ne (.int i) (.int j) m P = P (.bl (!decide (i = j))) m := by show P (.bl (xor true (i == j))) m = _; simp [Bool.beq_eq_decide_eq]
@[simp] theorem c_seq {m : Hm} {P : PD} {s t : List Nat} : cmpW .eq (.str s) (.str t) m P = P (.bl (decide (s = t))) m := by show P (.bl (xor false (s == t))) m = _; simp [Bool.beq_eq_decide_eq]
@[simp] theorem c_sne {m : Hm} {P : PD} {s t : List Nat} : cmpW .ne (.str s) (.str t) m P = P (.bl (!decide (s = t))) m := by show P (.bl (xor true (s == t))) m = _; simp [Bool.beq_eq_decide_eq]
@[simp] theorem c_isb {m : Hm} {P : PD} {a c : Bool} : cmpW .is_ (.bl a) (.bl c) m P = P (.bl (a == c)) m := by show P (.bl (xor false (a == c))) m = _; simp
@[simp] theorem c_isnb {m : Hm} {P : PD} {a c : Bool} : cmpW .isn (.bl a) (.bl c) m P = P (.bl (!(a == c))) m := by show P (.bl (xor true (a == c))) m = _; simp
@[simp] theorem t_bl {m : Hm} {b : Bool} : truth m (.bl b) = some b := rfl
@[simp] theorem t_non {m : Hm} : truth m .non = some false := rfl
@[simp] theorem t_int {m : Hm} {i : Int} : truth m (.int i) = some (i != 0) := rfl
@[simp] theorem t_tup {m : Hm} {ds : List D} : truth m (.tup ds) = some (!ds.isEmpty) := rfl
@[simp] theorem x_tup {m : Hm} {P : PD} {ds : List D} {i : Int} : ixW (.tup ds) (.int i) m P = ∃ d, atI ds i = some d ∧ P d m := rfl
@[simp] theorem x_lst {m : Hm} {P : PD} {ds : List D} {i : Int} : ixW (.lst ds) (.int i) m P = ∃ d, atI ds i = some d ∧ P d m := rfl
@[simp] theorem y_int {m : Hm} {i : Int} {t : Ty} : tyAny m (.int i) [t] = some (match t with | .int => true | _ => false) := by cases t <;> rfl
@[simp] theorem y_bl {m : Hm} {b : Bool} {t : Ty} : tyAny m (.bl b) [t] = some (match t with | .int => true | .bool => true | _ => false) := by cases t <;> rfl
@[simp] theorem y_str {m : Hm} {s : List Nat} {t : Ty} : tyAny m (.str s) [t] = some (match t with | .str => true | _ => false) := by cases t <;> rfl
@[simp] theorem y_non {m : Hm} {t : Ty} : tyAny m .non [t] = some false := rfl
@[simp] theorem y_tup {m : Hm} {ds : List D} {t : Ty} : tyAny m (.tup ds) [t] = some (match t with | .tuple => true | _ => false) := by cases t <;> rfl
@[simp] theorem y_lst {m : Hm} {ds : List D} {t : Ty} : tyAny m (.lst ds) [t] = some (match t with | .list => true | _ => false) := by cases t <;> rfl
@[simp] theorem y_ref {m : Hm} {a : Nat} {ds : List D} {t : Ty} (h : m a = some (.lst ds)) : tyAny m (.ref a) [t] = some (match t with | .list => true | _ => false) := by simp only [tyAny, tyIs, h]; cases t <;> rfl
@[simp] theorem f_ltup {m : Hm} {P : PD} {ds : List D} : bfW .len [.tup ds] m P = P (.int ds.length) m := rfl
@[simp] theorem f_llst {m : Hm} {P : PD} {ds : List D} : bfW .len [.lst ds] m P = P (.int ds.length) m := rfl
@[simp] theorem f_abs {m : Hm} {P : PD} {i : Int} : bfW .abs [.int i] m P = P (.int (if i < 0 then -i else i)) m := rfl
@[simp] theorem f_inti {m : Hm} {P : PD} {i : Int} : bfW .int [.int i] m P = P (.int i) m := rfl
@[simp] theorem f_intb {m : Hm} {P : PD} {b : Bool} : bfW .int [.bl b] m P = P (.int (if b then 1 else 0)) m := rfl
@[simp] theorem f_min {m : Hm} {P : PD} {i j : Int} : bfW .min [.int i, .int j] m P = P (.int (if j < i then j else i)) m := rfl
@[simp] theorem f_max {m : Hm} {P : PD} {i j : Int} : bfW .max [.int i, .int j] m P = P (.int (if j > i then j else i)) m := rfl
@[simp] theorem v_z {o : Option D} {r : Env} : vget (o :: r) 0 = o := rfl
@[simp] theorem v_s {o : Option D} {r : Env} {n : Nat} : vget (o :: r) (n + 1) = vget r n := rfl
@[simp] theorem v_1 {o : Option D} {r : Env} : vget (o :: r) 1 = vget r 0 := rfl
@[simp] theorem v_2 {o : Option D} {r : Env} : vget (o :: r) 2 = vget r 1 := rfl
@[simp] theorem v_3 {o : Option D} {r : Env} : vget (o :: r) 3 = vget r 2 := rfl
@[simp] theorem v_4 {o : Option D} {r : Env} : vget (o :: r) 4 = vget r 3 := rfl
@[simp] theorem v_5 {o : Option D} {r : Env} : vget (o :: r) 5 = vget r 4 := rfl
@[simp] theorem v_6 {o : Option D} {r : Env} : vget (o :: r) 6 = vget r 5 := rfl
@[simp] theorem v_7 {o : Option D} {r : Env} : vget (o :: r) 7 = vget r 6 := rfl
@[simp] theorem v_8 {o : Option D} {r : Env} : vget (o :: r) 8 = vget r 7 := rfl
@[simp] theorem v_9 {o : Option D} {r : Env} : vget (o :: r) 9 = vget r 8 := rfl
@[simp] theorem v_10 {o : Option D} {r : Env} : vget (o :: r) 10 = vget r 9 := rfl
@[simp] theorem v_11 {o : Option D} {r : Env} : vget (o :: r) 11 = vget r 10 := rfl
@[simp] theorem v_12 {o : Option D} {r : Env} : vget (o :: r) 12 = vget r 11 := rfl
@[simp] theorem v_13 {o : Option D} {r : Env} : vget (o :: r) 13 = vget r 12 := rfl
@[simp] theorem v_14 {o : Option D} {r : Env} : vget (o :: r) 14 = vget r 13 := rfl
@[simp] theorem v_15 {o : Option D} {r : Env} : vget (o :: r) 15 = vget r 14 := rfl
@[simp] theorem isT_int {g : Sg} {m : Hm} {x : D} : isT g m x [.int] = tyAny m x [.int] := rfl
@[simp] theorem isT_bool {g : Sg} {m : Hm} {x : D} : isT g m x [.bool] = tyAny m x [.bool] := rfl
@[simp] theorem isT_str {g : Sg} {m : Hm} {x : D} : isT g m x [.str] = tyAny m x [.str] := rfl
@[simp] theorem isT_tuple {g : Sg} {m : Hm} {x : D} : isT g m x [.tuple] = tyAny m x [.tuple] := rfl
@[simp] theorem isT_list {g : Sg} {m : Hm} {x : D} : isT g m x [.list] = tyAny m x [.list] := rfl
@[simp] theorem isT_dict {g : Sg} {m : Hm} {x : D} : isT g m x [.dict] = tyAny m x [.dict] := rfl
theorem isT_own {g : Sg} {m : Hm} {a c k : Nat} (h : g.hx = some (a, c)) : isT g m (.exc a c) [.own k] = some (g.sub c k) := by simp only [isT]; rw [if_pos h]
theorem isT_verr {g : Sg} {m : Hm} {a c : Nat} (h : g.hx = some (a, c)) : isT g m (.exc a c) [.verr] = some true := by simp only [isT]; rw [if_pos h]
@[simp] theorem w_rngL {g : Sg} {X : XD} {r : Env} {m : Hm} {P : PD} {es : Es} : wpE g (.rngL es) X r m P = (wpEs g es X r m fun ds m1 => rngD ds fun xs => ∀ p, m1 p = none → P (.ref p) (up m1 p (.lst xs))) := rfl
@[simp] theorem w_fus {g : Sg} {X : XD} {r : Env} {m : Hm} {P : PD} {f : Fu} {es : Es} : wpE g (.fus f es) X r m P = (wpEs g es X r m fun ds m1 => fuW f ds m1 P) := rfl
@[simp] theorem w_sortV {g : Sg} {X : XD} {r : Env} {m : Hm} {P : PD} {e : E} : wpE g (.sortV e) X r m P = (wpE g e X r m fun x m1 => match x with | .ref a => ∃ vs, valsOf m1 a = some vs ∧ sortable vs = true ∧ newO m1 (.lst (vs.mergeSort leD)) P | _ => False) := rfl
@[simp] theorem w_maxD {g : Sg} {X : XD} {r : Env} {m : Hm} {P : PD} {e d : E} : wpE g (.maxD e d) X r m P = (wpE g e X r m fun x m1 => wpE g d X r m1 fun y m2 => match x, y with | .ref a, .int i => ∃ ds ns, m2 a = some (.lst ds) ∧ intsOf ds = some ns ∧ P (.int (if ns = [] then i else maxI ns)) m2 | _, _ => False) := rfl
@[simp] theorem w_rngT {g : Sg} {X : XD} {r : Env} {m : Hm} {P : PD} {es : Es} : wpE g (.rngT es) X r m P = (wpEs g es X r m fun ds m1 => rngD ds fun xs => P (.tup xs) m1) := rfl
@[simp] theorem w_rais {g : Sg} {X : XD} {r : Env} {m : Hm} {Q : K} {c : Nat} : wpS g X (.rais c) r m Q = (g.ex c = true ∧ X c r m) := rfl
@[simp] theorem w_tr {g : Sg} {X : XD} {r : Env} {m : Hm} {Q : K} {b s o : Ss} {i c : Nat} : wpS g X (.tr b i c s o) r m Q = wpSs g (fun k r1 m1 => if g.sub k c = true then (∀ a, wpSs (g.hot a k) XF s (r1.set i (some (.exc a k))) m1
  ⟨fun r2 m2 => Q.nx (r2.set i none) m2, Q.rt, fun r2 m2 => Q.bk (r2.set i none) m2, fun r2 m2 => Q.ct (r2.set i none) m2⟩) else X k r1 m1) b r m ⟨fun r1 m1 => wpSs g X o r1 m1 Q, Q.rt, Q.bk, Q.ct⟩ := rfl
@[simp] theorem v_16 {o : Option D} {r : Env} : vget (o :: r) 16 = vget r 15 := rfl
@[simp] theorem v_17 {o : Option D} {r : Env} : vget (o :: r) 17 = vget r 16 := rfl
@[simp] theorem v_18 {o : Option D} {r : Env} : vget (o :: r) 18 = vget r 17 := rfl
@[simp] theorem v_19 {o : Option D} {r : Env} : vget (o :: r) 19 = vget r 18 := rfl
@[simp] theorem v_20 {o : Option D} {r : Env} : vget (o :: r) 20 = vget r 19 := rfl
@[simp] theorem v_21 {o : Option D} {r : Env} : vget (o :: r) 21 = vget r 20 := rfl
@[simp] theorem v_22 {o : Option D} {r : Env} : vget (o :: r) 22 = vget r 21 := rfl
@[simp] theorem v_23 {o : Option D} {r : Env} : vget (o :: r) 23 = vget r 22 := rfl
@[simp] theorem v_24 {o : Option D} {r : Env} : vget (o :: r) 24 = vget r 23 := rfl
@[simp] theorem v_25 {o : Option D} {r : Env} : vget (o :: r) 25 = vget r 24 := rfl
@[simp] theorem v_26 {o : Option D} {r : Env} : vget (o :: r) 26 = vget r 25 := rfl
@[simp] theorem v_27 {o : Option D} {r : Env} : vget (o :: r) 27 = vget r 26 := rfl
@[simp] theorem v_28 {o : Option D} {r : Env} : vget (o :: r) 28 = vget r 27 := rfl
@[simp] theorem v_29 {o : Option D} {r : Env} : vget (o :: r) 29 = vget r 28 := rfl
@[simp] theorem v_30 {o : Option D} {r : Env} : vget (o :: r) 30 = vget r 29 := rfl
@[simp] theorem v_31 {o : Option D} {r : Env} : vget (o :: r) 31 = vget r 30 := rfl
@[simp] theorem v_32 {o : Option D} {r : Env} : vget (o :: r) 32 = vget r 31 := rfl
@[simp] theorem v_33 {o : Option D} {r : Env} : vget (o :: r) 33 = vget r 32 := rfl
@[simp] theorem v_34 {o : Option D} {r : Env} : vget (o :: r) 34 = vget r 33 := rfl
@[simp] theorem v_35 {o : Option D} {r : Env} : vget (o :: r) 35 = vget r 34 := rfl
@[simp] theorem v_36 {o : Option D} {r : Env} : vget (o :: r) 36 = vget r 35 := rfl
@[simp] theorem v_37 {o : Option D} {r : Env} : vget (o :: r) 37 = vget r 36 := rfl
@[simp] theorem v_38 {o : Option D} {r : Env} : vget (o :: r) 38 = vget r 37 := rfl
@[simp] theorem v_39 {o : Option D} {r : Env} : vget (o :: r) 39 = vget r 38 := rfl
@[simp] theorem v_40 {o : Option D} {r : Env} : vget (o :: r) 40 = vget r 39 := rfl
@[simp] theorem aug_add {i j : Int} {P : D → Prop} : augW .add (.int i) (.int j) P = P (.int (i + j)) := rfl
@[simp] theorem aug_sub {i j : Int} {P : D → Prop} : augW .sub (.int i) (.int j) P = P (.int (i - j)) := rfl
@[simp] theorem c_isn {m : Hm} {P : PD} : cmpW .is_ .non .non m P = P (.bl true) m := rfl
@[simp] theorem c_isi {m : Hm} {P : PD} {i : Int} : cmpW .is_ (.int i) .non m P = P (.bl false) m := rfl
@[simp] theorem c_isnn {m : Hm} {P : PD} : cmpW .isn .non .non m P = P (.bl false) m := rfl
@[simp] theorem c_isni {m : Hm} {P : PD} {i : Int} : cmpW .isn (.int i) .non m P = P (.bl true) m := rfl
@[simp] theorem w_fstr {g : Sg} {X : XD} {r : Env} {m : Hm} {P : PD} {es : Es} : wpE g (.fstr es) X r m P = wpJ g es [] X r m P := rfl
@[simp] theorem w_jnil {g : Sg} {X : XD} {r : Env} {m : Hm} {P : PD} {acc : List Nat} : wpJ g .nil acc X r m P = P (.str acc) m := rfl
@[simp] theorem w_jcons {g : Sg} {X : XD} {r : Env} {m : Hm} {P : PD} {acc : List Nat} {e : E} {es : Es} : wpJ g (.cons e es) acc X r m P = (wpE g e X r m fun d m1 => ∃ s, fmtD d = some s ∧ acc.length + s.length ≤ SZ ∧ wpJ g es (acc ++ s) X r m1 P) := rfl
@[simp] theorem w_dctD {g : Sg} {X : XD} {r : Env} {m : Hm} {P : PD} {ks : List Ky} {es : Es} : wpE g (.dctD ks es) X r m P = (∀ p, m p = none → wpEs g es X r (up m p (.dK [])) fun ds m1 => m1 p = some (.dK []) ∧ P (.ref p) (up m1 p (.dK (mergeD (ks.zip ds))))) := rfl
@[simp] theorem w_compDN {g : Sg} {X : XD} {r : Env} {m : Hm} {P : PD} {elt : E} {tg : T} {i : Nat} {own : List Nat} : wpE g (.compD elt tg i .no own) X r m P = (∃ a kvs, vget r i = some (.ref a) ∧ m a = some (.dK kvs) ∧ ∀ p, m p = none → compW p (fun _ => True) (fun x m2 Q1 Q2 => wpT g tg x XF (wipe r own) m2 fun r3 m3 => wpE g elt XF r3 m3 Q1) (fun m2 => P (.ref p) (up m2 a (.dK kvs))) (kvs.map fun kv => dOf kv.1) (up (up m a (.fz kvs)) p (.lst []))) := rfl
@[simp] theorem w_compDY {g : Sg} {X : XD} {r : Env} {m : Hm} {P : PD} {elt c : E} {tg : T} {i : Nat} {own : List Nat} : wpE g (.compD elt tg i (.yes c) own) X r m P = (∃ a kvs, vget r i = some (.ref a) ∧ m a = some (.dK kvs) ∧ ∀ p, m p = none → compW p (fun _ => True) (fun x m2 Q1 Q2 => wpT g tg x XF (wipe r own) m2 fun r3 m3 => wpE g c XF r3 m3 fun y m4 => ∃ b, truth m4 y = some b ∧ if b = true then wpE g elt XF r3 m4 Q1 else Q2 m4) (fun m2 => P (.ref p) (up m2 a (.dK kvs))) (kvs.map fun kv => dOf kv.1) (up (up m a (.fz kvs)) p (.lst []))) := rfl
@[simp] theorem b_addbi {m : Hm} {P : PD} {b : Bool} {j : Int} : binW .add (.bl b) (.int j) m P = P (.int ((if b then 1 else 0) + j)) m := rfl
@[simp] theorem b_addib {m : Hm} {P : PD} {b : Bool} {i : Int} : binW .add (.int i) (.bl b) m P = P (.int (i + (if b then 1 else 0))) m := rfl
@[simp] theorem b_subbi {m : Hm} {P : PD} {b : Bool} {j : Int} : binW .sub (.bl b) (.int j) m P = P (.int ((if b then 1 else 0) - j)) m := rfl
@[simp] theorem f_strb {m : Hm} {P : PD} {b : Bool} : bfW .str [.bl b] m P = P (.str (boolT b)) m := rfl
@[simp] theorem f_ints {m : Hm} {P : PD} {s : List Nat} : bfW .int [.str s] m P = (∃ n, numT s = some n ∧ P (.int n) m) := rfl
@[simp] theorem m_upper {m : Hm} {P : PD} {s : List Nat} : bmW .upper (.str s) [] m P = ((s.all (· < 128) = true ∧ s.length ≤ 5592405) ∧ P (.str (s.map upC)) m) := rfl
@[simp] theorem m_part {m : Hm} {P : PD} {s t : List Nat} : bmW .partition (.str s) [.str t] m P = ((t ≠ [] ∧ s.length ≤ SZ) ∧ P (.tup (par3 s t)) m) := rfl
@[simp] theorem m_split {m : Hm} {P : PD} {s t : List Nat} : bmW .split (.str s) [.str t] m P = ((t ≠ [] ∧ t.all (· < 256) = true ∧ s.length + 2 ≤ SZ) ∧ ∀ p, m p = none → P (.ref p) (up m p (.lst ((splT t 0 [] s).map .str)))) := rfl
@[simp] theorem m_starts {m : Hm} {P : PD} {s t : List Nat} : bmW .startswith (.str s) [.str t] m P = P (.bl (preT t s)) m := rfl
theorem rk_str {m : Hm} {s : List Nat} : rk m (.str s) = 3 := rfl
end Mn
end

section
set_option autoImplicit false
set_option linter.all false
set_option maxRecDepth 100000
set_option maxHeartbeats 4000000
/-! Mn, part R: what all laws share: the bag of draws. -/
namespace Mn
@[simp] theorem up_at {m : Hm} {p : Nat} {o : MO} : up m p o p = some o := by unfold up; rw [if_pos rfl]
theorem up_off {m : Hm} {p a : Nat} {o : MO} (h : a ≠ p) : up m p o a = m a := by unfold up; rw [if_neg h]
theorem x_ref {m : Hm} {P : PD} {a : Nat} {xs : List D} {i : Int} (h : m a = some (.lst xs)) : ixW (.ref a) (.int i) m P = ∃ d, atI xs i = some d ∧ P d m := by
  show (match m a with | some (.lst xs) => ∃ d, atI xs i = some d ∧ P d m | some (.dK kvs) => ∃ d, look kvs (.inl i) = some d ∧ P d m | _ => False) = _
  rw [h]
theorem set_ref {m : Hm} {Q : Hm → Prop} {a : Nat} {xs : List D} {i : Int} {v : D} (h : m a = some (.lst xs)) : setW (.ref a) (.int i) v m Q = ∃ j, ixN xs.length i = some j ∧ Q (up m a (.lst (xs.set j v))) := by
  show (match m a with | some (.lst ds) => ∃ j, ixN ds.length i = some j ∧ Q (up m a (.lst (ds.set j v))) | some (.dK kvs) => kvs.length < SZ ∧ Q (up m a (.dK (putk kvs (.inl i) v))) | _ => False) = _
  rw [h]
theorem le_refl_ (m : Hm) : Le m m := fun _ _ h => h
theorem call_eq {t : Tab} {n f : Nat} {ds : List D} {m : Hm} {P : PD} {X : Nat → Hm → Prop} {fn : Fn} (h : t.F 0 f = some fn) (hl : ds.length = fn.params) (w : wpSs (sg t n) (fun c _ m2 => X c m2) fn.body (start fn ds) m (retK P)) : callN t (n + 1) 0 f ds m P X := ⟨fn, h, hl, w⟩
@[simp] theorem ret_rt {P : PD} : (retK P).rt = P := rfl
@[simp] theorem ret_nx {P : PD} {r : Env} {m : Hm} : (retK P).nx r m = P .non m := rfl
@[simp] theorem sg_C {t : Tab} {n : Nat} : (sg t n).C = callN t n := rfl
@[simp] theorem sg_hs {t : Tab} {n c k : Nat} : (sg t n).hs c k = (t.F c k).isSome := rfl
@[simp] theorem sg_ini {t : Tab} {n : Nat} : (sg t n).ini = t.ini := rfl
@[simp] theorem sg_ex {t : Tab} {n c : Nat} : (sg t n).ex c = t.ex c := rfl
@[simp] theorem sg_sub {t : Tab} {n c k : Nat} : (sg t n).sub c k = t.sub c k := rfl
@[simp] theorem sg_hot {t : Tab} {n a c : Nat} : (sg t n).hot a c = sgH t n (a, c) := rfl
@[simp] theorem sgH_C {t : Tab} {n : Nat} {h : Nat × Nat} : (sgH t n h).C = callH t h n := rfl
@[simp] theorem sgH_hs {t : Tab} {n c k : Nat} {h : Nat × Nat} : (sgH t n h).hs c k = (t.F c k).isSome := rfl
@[simp] theorem sgH_hx {t : Tab} {n : Nat} {h : Nat × Nat} : (sgH t n h).hx = some h := rfl
@[simp] theorem sgH_sub {t : Tab} {n c k : Nat} {h : Nat × Nat} : (sgH t n h).sub c k = t.sub c k := rfl
@[simp] theorem sgH_fld {t : Tab} {n : Nat} {h : Nat × Nat} : (sgH t n h).fld = t.fld := rfl
@[simp] theorem sg_fld {t : Tab} {n : Nat} : (sg t n).fld = t.fld := rfl
theorem call_iff {t : Tab} {n f : Nat} {ds : List D} {m : Hm} {P : PD} {X : Nat → Hm → Prop} {fn : Fn} (h : t.F 0 f = some fn) : callN t (n + 1) 0 f ds m P X ↔ ds.length = fn.params ∧ wpSs (sg t n) (fun c _ m2 => X c m2) fn.body (start fn ds) m (retK P) :=
  ⟨fun ⟨fn2, h1, h2, h3⟩ => by rw [h] at h1; cases h1; exact ⟨h2, h3⟩, fun ⟨h2, h3⟩ => ⟨fn, h, h2, h3⟩⟩
theorem ret_all {P : PD} {d : D} {m : Hm} (h : P d m) : (retK P).rt d m := h

def Keep (p : Nat) (m m2 : Hm) : Prop := ∀ a o, a ≠ p → m a = some o → m2 a = some o
def Bag (m : Hm) (p n : Nat) : Prop := ∃ a b s : Int, m p = some (.lst [.int a, .int b, .int s]) ∧ 0 ≤ a ∧ 0 ≤ b ∧ b < 4294967296 ∧ 0 ≤ s ∧ s + n ≤ 1000000
theorem Bag.mono {m : Hm} {p n k : Nat} (h : Bag m p n) (hk : k ≤ n) : Bag m p k := let ⟨a, b, s, h1, h2, h3, h4, h5, h6⟩ := h; ⟨a, b, s, h1, h2, h3, h4, h5, by omega⟩
theorem Keep.trans {p : Nat} {a b c : Hm} (h : Keep p a b) (h2 : Keep p b c) : Keep p a c := fun x o hx e => h2 x o hx (h x o hx e)
theorem Keep.up {p : Nat} {m : Hm} {o : MO} : Keep p m (up m p o) := fun a q ha e => by rw [up_off ha]; exact e
theorem Keep.refl {p : Nat} {m : Hm} : Keep p m m := fun a q ha e => e
def takeF : Fn := ⟨2, 7,
  (.cons (.ife (.cmp .gt (.idx (.var 0) (.num 0)) (.num 0)) (.cons (.asg (.nm 2) (.bin .mod (.idx (.var 0) (.num 0)) (.var 1)))
  (.cons (.asg (.sb (.var 0) (.num 0)) (.bin .fdiv (.idx (.var 0) (.num 0)) (.var 1)))
  (.cons (.ret (.var 2))
  .nil))) .nil)
  (.cons (.asg (.nm 3) (.tup (.cons (.num 2147483629) (.cons (.num 2147483587) (.cons (.num 2147483579) (.cons (.num 2147483563) (.cons (.num 2147483549) (.cons (.num 2147483543) (.cons (.num 2147483497) .nil)))))))))
  (.cons (.asg (.sb (.var 0) (.num 2)) (.bin .add (.idx (.var 0) (.num 2)) (.num 1)))
  (.cons (.asg (.nm 4) (.idx (.var 0) (.num 2)))
  (.cons (.asg (.nm 5) (.bin .add (.bin .add (.bin .mul (.idx (.var 0) (.num 1)) (.bin .add (.bin .mul (.num 2) (.var 4)) (.num 1))) (.bin .mul (.bin .mul (.num 6007) (.var 4)) (.var 4))) (.num 29)))
  (.cons (.asg (.nm 6) (.bin .mod (.bin .pow (.var 5) (.num 3)) (.idx (.var 3) (.bin .mod (.var 4) (.num 7)))))
  (.cons (.ret (.bin .mod (.bin .fdiv (.bin .mod (.bin .mul (.var 6) (.bin .add (.bin .fdiv (.var 6) (.num 4096)) (.num 11))) (.idx (.var 3) (.bin .mod (.bin .add (.var 4) (.num 3)) (.num 7)))) (.num 16)) (.var 1)))
  .nil)))))))⟩
theorem mulL {i j : Int} (h : -(2 ^ 64) < i ∧ i < 2 ^ 64) : mulOk i j = true := decide_eq_true (.inl h)
theorem mulR {i j : Int} (h : -(2 ^ 64) < j ∧ j < 2 ^ 64) : mulOk i j = true := decide_eq_true (.inr (.inl h))
def primes : List Int := [2147483629, 2147483587, 2147483579, 2147483563, 2147483549, 2147483543, 2147483497]
theorem prime_at (i : Int) : ∃ q : Int, atI ([.int 2147483629, .int 2147483587, .int 2147483579, .int 2147483563, .int 2147483549, .int 2147483543, .int 2147483497] : List D) (i.fmod 7) = some (.int q) ∧ 2147483497 ≤ q ∧ q ≤ 2147483629 := by
  have h1 : 0 ≤ i.fmod 7 := Int.fmod_nonneg_of_pos i (by decide)
  have h2 : i.fmod 7 < 7 := Int.fmod_lt_of_pos i (by decide)
  generalize i.fmod 7 = j at h1 h2
  have : j = 0 ∨ j = 1 ∨ j = 2 ∨ j = 3 ∨ j = 4 ∨ j = 5 ∨ j = 6 := by omega
  rcases this with e | e | e | e | e | e | e <;> subst e <;> exact ⟨_, rfl, by decide, by decide⟩
theorem take_ok {t : Tab} {k n p : Nat} {d : Int} {m : Hm} {P : PD} {X : Nat → Hm → Prop} (hF : t.F 0 3 = some takeF) (hb : Bag m p (n + 1)) (h0 : 0 < d) (h1 : d < 1073741824)
    (post : ∀ (e : Int) m2, 0 ≤ e → e < d → Keep p m m2 → Bag m2 p n → P (.int e) m2) : callN t (k + 1) 0 3 [.ref p, .int d] m P X := by
  obtain ⟨a, b, s, hm, b1, b2, b3, b4, b5⟩ := hb
  refine call_eq hF rfl ?_
  have hd : d ≠ 0 := by omega
  have hd2 : d.natAbs < 1073741824 := by omega
  simp only [takeF, start, List.map, List.length, List.replicate, List.append, w_scons, w_ife, w_cmp, w_idx, w_var, w_num, v_z, v_s, List.cons_append, List.nil_append]
  refine ⟨_, rfl, ?_⟩
  rw [x_ref hm]
  refine ⟨_, rfl, ?_⟩
  rw [c_gt]
  refine ⟨_, rfl, ?_⟩
  by_cases hc : 0 < a
  · rw [if_pos (decide_eq_true hc)]
    simp only [w_scons, w_asg, w_bin, w_idx, w_var, w_num, w_sb, w_ret, w_nm, v_z, v_s, List.set]
    refine ⟨_, rfl, ?_⟩
    rw [x_ref hm]
    refine ⟨_, rfl, _, rfl, ?_⟩
    rw [b_mod]
    refine ⟨hd, _, rfl, ?_⟩
    rw [x_ref hm]
    refine ⟨_, rfl, _, rfl, ?_⟩
    rw [b_fdiv]
    refine ⟨⟨hd, .inl hd2⟩, _, rfl, ?_⟩
    rw [set_ref hm]
    refine ⟨0, rfl, _, rfl, ?_⟩
    refine ret_all (post _ _ (Int.fmod_nonneg_of_pos _ h0) (Int.fmod_lt_of_pos _ h0) .up ⟨_, b, s, up_at, ?_, b2, b3, b4, by omega⟩)
    exact Int.fdiv_nonneg b1 (by omega)
  · rw [if_neg (by simpa using hc)]
    simp only [w_snil, w_scons, w_asg, w_tup, w_cons, w_nil, w_bin, w_idx, w_var, w_num, w_sb, w_ret, w_nm, v_z, v_s, List.set]
    refine ⟨_, rfl, ?_⟩
    rw [x_ref hm]
    refine ⟨_, rfl, ?_⟩
    rw [b_add]
    refine ⟨_, rfl, ?_⟩
    rw [set_ref hm]
    refine ⟨2, rfl, _, rfl, ?_⟩
    rw [x_ref up_at]
    refine ⟨_, rfl, _, rfl, ?_⟩
    rw [x_ref up_at]
    have m1 : -(2 ^ 64) < (2 : Int) ∧ (2 : Int) < 2 ^ 64 := by decide
    refine ⟨_, rfl, _, rfl, ?_⟩
    rw [b_mul]
    refine ⟨mulL (by decide), ?_⟩
    rw [b_add, b_mul]
    refine ⟨mulL ⟨by omega, by omega⟩, _, rfl, ?_⟩
    rw [b_mul]
    refine ⟨mulL (by decide), _, rfl, ?_⟩
    rw [b_mul]
    refine ⟨mulR ⟨by omega, by omega⟩, ?_⟩
    rw [b_add, b_add]
    refine ⟨_, rfl, ?_⟩
    rw [b_pow]
    refine ⟨⟨by decide, by decide, ?_⟩, _, rfl, _, rfl, ?_⟩
    · have hs : s + 1 ≤ 1000000 := by omega
      have e1 : 0 ≤ b * (2 * (s + 1) + 1) := Int.mul_nonneg b2 (by omega)
      have e2 : b * (2 * (s + 1) + 1) ≤ 4294967296 * 2000001 := Int.mul_le_mul (by omega) (by omega) (by omega) (by omega)
      have e3 : 0 ≤ 6007 * (s + 1) * (s + 1) := Int.mul_nonneg (by omega) (by omega)
      have e4 : 6007 * (s + 1) * (s + 1) ≤ 6007000000 * 1000000 := Int.mul_le_mul (by omega) (by omega) (by omega) (by omega)
      show (b * (2 * (s + 1) + 1) + 6007 * (s + 1) * (s + 1) + 29).natAbs < 2 ^ 64
      omega
    rw [b_mod]
    refine ⟨by decide, ?_⟩
    obtain ⟨q, q1, q2, q3⟩ := prime_at (s + 1)
    rw [x_tup]
    refine ⟨_, q1, ?_⟩
    rw [b_mod]
    refine ⟨by omega, _, rfl, _, rfl, ?_⟩
    rw [b_fdiv]
    refine ⟨by decide, ?_⟩
    rw [b_add, b_mul]
    generalize hf : ((b * (2 * (s + 1) + 1) + 6007 * (s + 1) * (s + 1) + 29) ^ (3 : Int).toNat).fmod q = f
    have f1 : 0 ≤ f := by rw [← hf]; exact Int.fmod_nonneg_of_pos _ (by omega)
    have f2 : f < q := by rw [← hf]; exact Int.fmod_lt_of_pos _ (by omega)
    refine ⟨mulL ⟨by omega, by omega⟩, _, rfl, _, rfl, ?_⟩
    rw [b_add, b_mod]
    refine ⟨by decide, ?_⟩
    obtain ⟨q', q1', q2', q3'⟩ := prime_at (s + 1 + 3)
    rw [x_tup]
    refine ⟨_, q1', ?_⟩
    rw [b_mod]
    refine ⟨by omega, ?_⟩
    rw [b_fdiv]
    refine ⟨by decide, _, rfl, ?_⟩
    rw [b_mod]
    refine ⟨hd, ret_all (post _ _ (Int.fmod_nonneg_of_pos _ h0) (Int.fmod_lt_of_pos _ h0) .up ⟨a, b, s + 1, up_at, b1, b2, b3, by omega, by omega⟩)⟩
end Mn
end

section
set_option autoImplicit false
set_option linter.all false
set_option maxRecDepth 100000
set_option maxHeartbeats 4000000
/-! Mn, part S: loops, comprehensions, comparisons of plain data, the bag's making. -/
namespace Mn
@[simp] theorem up_up {m : Hm} {p : Nat} {a b : MO} : up (up m p a) p b = up m p b := by
  funext x
  unfold up
  split <;> rfl
theorem loop_inv {st : Hm → Prop} {turn : D → Env → Hm → (Env → Hm → Prop) → Prop} {done : Env → Hm → Prop} (I : Nat → Env → Hm → Prop) : ∀ {xs : List D} {k : Nat} {r : Env} {m : Hm}, I k r m →
    (∀ i x r m nx, xs[i]? = some x → I (k + i) r m → (∀ r2 m2, I (k + i + 1) r2 m2 → nx r2 m2) → st m ∧ turn x r m nx) → (∀ r m, I (k + xs.length) r m → st m ∧ done r m) → loopW st turn done xs r m
  | [], k, r, m, h0, _, hd => hd r m h0
  | x :: xs, k, r, m, h0, hs, hd => by
    refine hs 0 x r m _ rfl h0 fun r2 m2 h => ?_
    refine loop_inv (k := k + 1) I h (fun i y r m nx hy hi hn => hs (i + 1) y r m nx hy (by rw [show k + (i + 1) = k + 1 + i by omega]; exact hi) fun r2 m2 h => hn r2 m2 (by rw [show k + 1 + i + 1 = k + (i + 1) + 1 by omega]; exact h)) fun r m h => hd r m ?_
    rw [show k + (x :: xs).length = k + 1 + xs.length by simp only [List.length_cons]; omega]
    exact h
theorem loop_mem {st : Hm → Prop} {turn : D → Env → Hm → (Env → Hm → Prop) → Prop} {done : Env → Hm → Prop} (I : Env → Hm → Prop) : ∀ {xs : List D} {r : Env} {m : Hm}, I r m →
    (∀ x r m nx, x ∈ xs → I r m → (∀ r2 m2, I r2 m2 → nx r2 m2) → st m ∧ turn x r m nx) → (∀ r m, I r m → st m ∧ done r m) → loopW st turn done xs r m
  | [], r, m, h0, _, hd => hd r m h0
  | x :: xs, r, m, h0, hs, hd => hs x r m _ (List.mem_cons_self) h0 fun r2 m2 h => loop_mem I h (fun y r m nx hy => hs y r m nx (List.mem_cons_of_mem _ hy)) hd
theorem comp_map {p : Nat} {st : Hm → Prop} {turn : D → Hm → PD → (Hm → Prop) → Prop} {done : Hm → Prop} {m : Hm} (F : D → Option D) (hst : ∀ acc, st (up m p (.lst acc))) : ∀ {xs : List D} {acc : List D}, acc.length + xs.length < SZ →
    (∀ x ∈ xs, ∀ acc Q1 Q2, (match F x with | some y => Q1 y (up m p (.lst acc)) | none => Q2 (up m p (.lst acc))) → turn x (up m p (.lst acc)) Q1 Q2) → done (up m p (.lst (acc ++ xs.filterMap F))) → compW p st turn done xs (up m p (.lst acc))
  | [], acc, _, _, hd => ⟨hst acc, by simpa using hd⟩
  | x :: xs, acc, hl, ht, hd => by
    refine ⟨hst acc, ht x List.mem_cons_self acc _ _ ?_⟩
    cases e : F x with
    | none =>
      refine comp_map F hst (by simp only [List.length_cons] at hl; omega) (fun y hy => ht y (List.mem_cons_of_mem _ hy)) ?_
      rw [List.filterMap_cons, e] at hd
      exact hd
    | some y =>
      refine ⟨acc, up_at, by simp only [List.length_cons] at hl; omega, ?_⟩
      rw [up_up]
      refine comp_map F hst (by simp only [List.length_cons, List.length_append, List.length_nil] at hl ⊢; omega) (fun z hz => ht z (List.mem_cons_of_mem _ hz)) ?_
      rw [List.filterMap_cons, e] at hd
      simpa using hd
/-! plain data -/
mutual
theorem flat_res {m : Hm} : ∀ {n : Nat} {d : D}, D.flat n d = true → Res m d d ∧ D.shp n d = true
  | _, .non, _ => ⟨.non, by simp [D.shp]⟩
  | _, .bl b, _ => ⟨.bl b, by simp [D.shp]⟩
  | _, .int i, _ => ⟨.int i, by simp [D.shp]⟩
  | _, .str s, h => ⟨.str s, by simpa [D.shp, D.flat] using h⟩
  | n, .tup ds, h => by
    cases n with
    | zero => simp [D.flat] at h
    | succ k =>
      have h : D.flats k ds = true := by simpa [D.flat] using h
      obtain ⟨h1, h2⟩ := flats_res (m := m) h
      exact ⟨.tup h1, by simpa [D.shp] using h2⟩
  | _, .lst _, h => by simp [D.flat] at h
  | _, .ref _, h => by simp [D.flat] at h
theorem flats_res {m : Hm} : ∀ {n : Nat} {ds : List D}, D.flats n ds = true → Ress m ds ds ∧ D.shps n ds = true
  | _, [], _ => ⟨.nil, by simp [D.shps]⟩
  | n, d :: ds, h => by
    have h : D.flat n d = true ∧ D.flats n ds = true := by simpa [D.flats] using h
    obtain ⟨h1, h2⟩ := flat_res (m := m) h.1
    obtain ⟨h3, h4⟩ := flats_res (m := m) h.2
    exact ⟨.cons h1 h3, by simp [D.shps, h2, h4]⟩
end
theorem eq_flat {m : Hm} {P : PD} {x y : D} {neg : Bool} (hx : D.flat 60 x = true) (hy : D.flat 60 y = true) (h : P (.bl (xor neg (D.eqv x y))) m) : eqW x y neg m P := by
  unfold eqW
  split
  · exact h
  · exact .inl ⟨x, y, (flat_res (m := m) hx).1, (flat_res (m := m) hy).1, (flat_res (m := m) hx).2, (flat_res (m := m) hy).2, h⟩
theorem eq_res {m : Hm} {P : PD} {x y x2 y2 : D} {neg : Bool} (hs : (scalD x && scalD y) = false) (hx : Res m x x2) (hy : Res m y y2) (sx : D.shp 60 x2 = true) (sy : D.shp 60 y2 = true) (h : P (.bl (xor neg (D.eqv x2 y2))) m) : eqW x y neg m P := by
  unfold eqW
  rw [if_neg (by rw [hs]; decide)]
  exact .inl ⟨x2, y2, hx, hy, sx, sy, h⟩
/-! the bag's making -/
def bagF : Fn := ⟨2, 3,
  (.cons (.asg (.nm 2) (.bin .add (.bin .add (.bin .mul (.bin .mul (.num 9973) (.var 1)) (.var 1)) (.bin .mul (.num 101) (.var 1))) (.num 17)))
  (.cons (.ife (.cmp .lt (.var 1) (.bcall .len (.cons (.var 0) .nil))) (.cons (.asg (.nm 2) (.idx (.var 0) (.var 1)))
  .nil) .nil)
  (.cons (.ret (.lst (.cons (.bin .mul (.bcall .abs (.cons (.var 2) .nil)) (.bcall .int (.cons (.cmp .ge (.bcall .abs (.cons (.var 2) .nil)) (.bin .pow (.num 10) (.num 18))) .nil))) (.cons (.bin .add (.bin .mod (.var 2) (.num 2147483647)) (.bin .mul (.num 37) (.var 1))) (.cons (.num 0) .nil)))))
  .nil)))⟩
theorem bag_end {t : Tab} {k : Nat} {sc : D} {j c : Int} {m : Hm} {P : PD} {X : XD} (hj : 0 ≤ j) (hj2 : j < 1000) (post : ∀ p m2, m p = none → (∀ a o, m a = some o → m2 a = some o) → Bag m2 p 1000000 → P (.ref p) m2) :
    wpSs (sg t k) X (.cons (.ret (.lst (.cons (.bin .mul (.bcall .abs (.cons (.var 2) .nil)) (.bcall .int (.cons (.cmp .ge (.bcall .abs (.cons (.var 2) .nil)) (.bin .pow (.num 10) (.num 18))) .nil))) (.cons (.bin .add (.bin .mod (.var 2) (.num 2147483647)) (.bin .mul (.num 37) (.var 1))) (.cons (.num 0) .nil))))) .nil)
      [some sc, some (.int j), some (.int c)] m (retK P) := by
  have h1 : 0 ≤ c.fmod 2147483647 := Int.fmod_nonneg_of_pos _ (by decide)
  have h2 : c.fmod 2147483647 < 2147483647 := Int.fmod_lt_of_pos _ (by decide)
  have key : ∀ u : Int, 0 ≤ u → ∀ p, m p = none → P (.ref p) (up m p (.lst [.int u, .int (c.fmod 2147483647 + 37 * j), .int 0])) := fun u hu p hp => by
    refine post p _ hp (fun a o e => by rw [up_off (fun z => by rw [z, hp] at e; cases e)]; exact e) ⟨_, _, 0, up_at, hu, by omega, by omega, by decide, by decide⟩
  have m0 : ∀ i : Int, mulOk i 0 = true := fun i => mulR (by decide)
  have m1 : ∀ i : Int, mulOk i 1 = true := fun i => mulR (by decide)
  have m37 : mulOk 37 j = true := mulL (by decide)
  have kk := key 0 (by decide)
  by_cases hc : c < 0
  · by_cases hb : (1000000000000000000 : Int) ≤ -c
    · have := key (-c) (by omega)
      simp [hc, hb, m1, m37]
      exact this
    · simp [hc, hb, m0, m37]
      simpa using kk
  · by_cases hb : (1000000000000000000 : Int) ≤ c
    · have := key c (by omega)
      simp [hc, hb, m1, m37]
      exact this
    · simp [hc, hb, m0, m37]
      simpa using kk
theorem atI_map {ns : List Int} {j : Int} (h0 : 0 ≤ j) (h1 : j < ns.length) : ∃ c, atI (ns.map D.int) j = some (.int c) := by
  refine ⟨ns[j.toNat]'(by omega), ?_⟩
  unfold atI ixN
  rw [if_pos h0, List.length_map, if_pos h1]
  simp [List.getElem?_eq_getElem (show j.toNat < ns.length by omega)]
theorem bag_ok {t : Tab} {k : Nat} {ns : List Int} {j : Int} {m : Hm} {P : PD} {X : Nat → Hm → Prop} (hF : t.F 0 2 = some bagF) (hj : 0 ≤ j) (hj2 : j < 1000)
    (post : ∀ p m2, m p = none → (∀ a o, m a = some o → m2 a = some o) → Bag m2 p 1000000 → P (.ref p) m2) : callN t (k + 1) 0 2 [.lst (ns.map D.int), .int j] m P X := by
  refine call_eq hF rfl ?_
  have a1 : mulOk 9973 j = true := mulL (by decide)
  have a2 : mulOk (9973 * j) j = true := mulR ⟨by omega, by omega⟩
  have a3 : mulOk 101 j = true := mulL (by decide)
  show wpSs (sg t k) _ (.cons _ (.cons _ _)) _ _ _
  rw [w_scons, w_asg]
  simp only [w_bin, w_num, w_var, start, List.map, List.length, List.replicate, List.cons_append, List.nil_append, v_z, v_s, w_nm]
  refine ⟨_, rfl, ?_⟩
  rw [b_mul]
  refine ⟨a1, _, rfl, ?_⟩
  rw [b_mul]
  refine ⟨a2, _, rfl, ?_⟩
  rw [b_mul]
  refine ⟨a3, ?_⟩
  rw [b_add, b_add, w_scons, w_ife]
  simp only [w_cmp, w_var, w_bcall, w_cons, w_nil, v_z, v_s, List.set]
  refine ⟨_, rfl, _, rfl, ?_⟩
  rw [f_llst, c_lt]
  refine ⟨_, rfl, ?_⟩
  rw [List.length_map]
  by_cases hc : j < ns.length
  · rw [if_pos (decide_eq_true hc)]
    rw [w_scons, w_asg]
    simp only [w_idx, w_var, w_nm, w_snil, v_z, v_s, List.set]
    obtain ⟨c, e⟩ := atI_map hj hc
    refine ⟨_, rfl, _, rfl, ?_⟩
    rw [x_lst]
    refine ⟨_, e, ?_⟩
    exact bag_end (sc := .lst (ns.map D.int)) (c := c) hj hj2 post
  · rw [if_neg (by simpa using hc), w_snil]
    exact bag_end hj hj2 post
end Mn
end

section
set_option autoImplicit false
set_option linter.all false
set_option maxRecDepth 100000
set_option maxHeartbeats 4000000
/-! Mn, part U: lists in cells. -/
namespace Mn
theorem tp_ref {g : Sg} {X : XD} {r : Env} {m : Hm} {Q : Env → Hm → Prop} {ts : Ts} {p : Nat} {ds : List D} (h : m p = some (.lst ds)) : wpT g (.tp ts) (.ref p) X r m Q = (ds.length = lenT ts ∧ wpTs g ts ds X r m Q) := by
  show (match m p with | some (.lst ds) => _ | _ => False) = _
  rw [h]
@[simp] theorem newO_eq {m : Hm} {o : MO} {P : PD} : newO m o P = ∀ p, m p = none → P (.ref p) (up m p o) := rfl
theorem get_new {m : Hm} {p a : Nat} {o o2 : MO} (hp : m p = none) (h : m a = some o) : up m p o2 a = some o := by rw [up_off (fun z => by rw [z, hp] at h; cases h)]; exact h
theorem ne_new {m : Hm} {p a : Nat} {o : MO} (hp : m p = none) (h : m a = some o) : a ≠ p := fun z => by rw [z, hp] at h; cases h
section
variable {m : Hm} {P : PD} {a b : Nat} {xs ys : List D}
theorem sl_ref {lo hi : Option Int} (h : m a = some (.lst xs)) : slW (.ref a) lo hi m P = ∀ p, m p = none → P (.ref p) (up m p (.lst (cut xs lo hi))) := by simp [slW, getL, h]
@[simp] theorem sl_tup {lo hi : Option Int} : slW (.tup xs) lo hi m P = P (.tup (cut xs lo hi)) m := rfl
theorem add_ref (h : m a = some (.lst xs)) (h2 : m b = some (.lst ys)) : binW .add (.ref a) (.ref b) m P = (xs.length + ys.length ≤ SZ ∧ ∀ p, m p = none → P (.ref p) (up m p (.lst (xs ++ ys)))) := by simp [binW, h, h2]
theorem mul_ref {k : Int} (h : m a = some (.lst xs)) : binW .mul (.ref a) (.int k) m P = ((-(2 ^ 63) ≤ k ∧ k < 2 ^ 63) ∧ xs.length * k.toNat ≤ SZ ∧ ∀ p, m p = none → P (.ref p) (up m p (.lst (repD xs k.toNat)))) := by simp [binW, h]
theorem tuple_ref (h : m a = some (.lst xs)) : bfW .tuple [.ref a] m P = P (.tup xs) m := by simp [bfW, getL, h]
@[simp] theorem tuple_tup : bfW .tuple [.tup xs] m P = P (.tup xs) m := rfl
theorem list_ref (h : m a = some (.lst xs)) : bfW .list [.ref a] m P = ∀ p, m p = none → P (.ref p) (up m p (.lst xs)) := by simp [bfW, seqOf, h]
@[simp] theorem list_tup : bfW .list [.tup xs] m P = ∀ p, m p = none → P (.ref p) (up m p (.lst xs)) := by simp [bfW, seqOf]
theorem len_ref (h : m a = some (.lst xs)) : bfW .len [.ref a] m P = P (.int xs.length) m := by simp [bfW, h]
theorem ne_eq_ {x y : D} : cmpW .ne x y m P = eqW x y true m P := rfl
theorem eq_eq_ {x y : D} : cmpW .eq x y m P = eqW x y false m P := rfl
theorem app_ref {d : D} (h : m a = some (.lst xs)) : bmW .append (.ref a) [d] m P = (xs.length < SZ ∧ P .non (up m a (.lst (xs ++ [d])))) := by simp [bmW, h]
theorem rk_ref (h : m a = some (.lst xs)) : rk m (.ref a) = 1 := by simp [rk, h]
theorem str_int {i : Int} (h : i.natAbs < 2 ^ 64) : bfW .str [.int i] m P = P (.str (digitsT i)) m := by
  have h2 : i.natAbs.log2 < 1920 := by
    by_cases h0 : i.natAbs = 0
    · rw [h0]; decide
    · exact Nat.lt_trans ((Nat.log2_lt h0).mpr h) (by decide)
  simp [bfW, h2]
end
theorem at_all {p : D → Prop} {ds : List D} (h : ∀ d ∈ ds, p d) {j : Int} (h0 : 0 ≤ j) (h1 : j < ds.length) : ∃ d, atI ds j = some d ∧ p d := by
  refine ⟨ds[j.toNat]'(by omega), ?_, h _ (List.getElem_mem _)⟩
  unfold atI ixN
  rw [if_pos h0, if_pos h1]
  simp [List.getElem?_eq_getElem (show j.toNat < ds.length by omega)]
theorem ix_nat {n : Nat} {j : Int} (h0 : 0 ≤ j) (h1 : j < n) : ixN n j = some j.toNat := by
  unfold ixN
  rw [if_pos h0, if_pos h1]
theorem set_all {p : D → Prop} {ds : List D} (h : ∀ d ∈ ds, p d) {i : Nat} {v : D} (hv : p v) : ∀ d ∈ ds.set i v, p d := fun d hd => by
  rcases List.mem_or_eq_of_mem_set hd with z | z
  · exact h d z
  · rw [z]; exact hv
def isInt : D → Bool | .int _ => true | _ => false
def nr : D → Bool | .ref _ => false | .exc _ _ => false | _ => true
@[simp] theorem nr_int {i : Int} : nr (.int i) = true := id rfl
@[simp] theorem isInt_int {i : Int} : isInt (.int i) = true := id rfl
theorem isInt_nr {d : D} (h : isInt d = true) : nr d = true := by cases d <;> first | rfl | cases h
theorem Bag.new {m : Hm} {p k q : Nat} {o : MO} (hq : m q = none) (h : Bag m p k) : Bag (up m q o) p k := let ⟨a, b, s, h1, h2⟩ := h; ⟨a, b, s, get_new hq h1, h2⟩
theorem Bag.at {m : Hm} {p k : Nat} (h : Bag m p k) : ∃ o, m p = some o := let ⟨_, _, _, h1, _⟩ := h; ⟨_, h1⟩
theorem Bag.off {m : Hm} {p k q : Nat} {o : MO} (hq : p ≠ q) (h : Bag m p k) : Bag (up m q o) p k := let ⟨a, b, s, h1, h2⟩ := h; ⟨a, b, s, by rw [up_off hq]; exact h1, h2⟩
/-- one of a list of numbers, drawn -/
theorem draw {ds : List D} {j : Int} {f : D → Hm → Prop} (hall : ∀ d ∈ ds, isInt d = true) {q : Nat} {m : Hm} (hm : m q = some (.lst ds)) (h0 : 0 ≤ j) (h1 : j < ds.length) (post : ∀ i : Int, f (.int i) m) : ixW (.ref q) (.int j) m f := by
  rw [x_ref hm]
  obtain ⟨d, hd, hi⟩ := at_all hall h0 h1
  cases d <;> simp [isInt] at hi
  exact ⟨_, hd, post _⟩
@[simp] theorem ex_ins {c0 : Nat} {f0 : List (Nat × D)} {Q : Nat → List (Nat × D) → Prop} : (∃ c fs, (c0 = c ∧ f0 = fs) ∧ Q c fs) ↔ Q c0 f0 :=
  ⟨fun ⟨_, _, ⟨h1, h2⟩, q⟩ => by subst h1 h2; exact q, fun q => ⟨_, _, ⟨rfl, rfl⟩, q⟩⟩
theorem call_iffM {t : Tab} {n c f : Nat} {ds : List D} {m : Hm} {P : PD} {X : Nat → Hm → Prop} {fn : Fn} (h : t.F c f = some fn) : callN t (n + 1) c f ds m P X ↔ ds.length = fn.params ∧ wpSs (sg t n) (fun c _ m2 => X c m2) fn.body (start fn ds) m (retK P) :=
  ⟨fun ⟨fn2, h1, h2, h3⟩ => by rw [h] at h1; cases h1; exact ⟨h2, h3⟩, fun ⟨h2, h3⟩ => ⟨fn, h, h2, h3⟩⟩
/-- one statement, what is known behind it named -/
theorem seq_to {g : Sg} {X : XD} {s : S} {ss : Ss} {r : Env} {m : Hm} {Q : K} (R : Env → Hm → Prop) (h1 : ∀ nx : Env → Hm → Prop, (∀ r1 m1, R r1 m1 → nx r1 m1) → wpS g X s r m ⟨nx, Q.rt, Q.bk, Q.ct⟩) (h2 : ∀ r1 m1, R r1 m1 → wpSs g X ss r1 m1 Q) : wpSs g X (.cons s ss) r m Q := h1 _ h2
theorem seq_eq {g : Sg} {X : XD} {s : S} {ss : Ss} {r : Env} {m : Hm} {Q : K} (r2 : Env) (m2 : Hm) (h1 : ∀ nx : Env → Hm → Prop, nx r2 m2 → wpS g X s r m ⟨nx, Q.rt, Q.bk, Q.ct⟩) (h2 : wpSs g X ss r2 m2 Q) : wpSs g X (.cons s ss) r m Q := h1 _ h2
@[simp] theorem ex_insN {c0 : Nat} {f0 : List (Nat × D)} {Q : Nat → List (Nat × D) → Prop} : (∃ c fs, (c0 = c ∧ fs = f0) ∧ Q c fs) ↔ Q c0 f0 :=
  ⟨fun ⟨_, _, ⟨h1, h2⟩, q⟩ => by subst h1 h2; exact q, fun q => ⟨_, _, ⟨rfl, rfl⟩, q⟩⟩
theorem in_flat {m : Hm} {P : PD} {a : Nat} {x : D} {ds : List D} {neg : Bool} (h : m a = some (.lst ds)) (hx : D.flat 60 x = true) (hd : D.flats 60 ds = true) (q : P (.bl (xor neg (ds.any fun z => D.eqv z x))) m) : inW x (.ref a) neg m P := by
  simp only [inW, h]
  exact ⟨x, ds, (flat_res (m := m) hx).1, (flats_res (m := m) hd).1, (flat_res (m := m) hx).2, (flats_res (m := m) hd).2, q⟩
theorem in_eq {m : Hm} {P : PD} {x y : D} : cmpW .in_ x y m P = inW x y false m P := rfl
theorem nin_eq {m : Hm} {P : PD} {x y : D} : cmpW .nin x y m P = inW x y true m P := rfl
@[simp] theorem in_tup {m : Hm} {P : PD} {x : D} {ds : List D} : cmpW .in_ x (.tup ds) m P = ((scalD x && ds.all scalD || D.flat 58 x && D.flats 58 ds) = true ∧ P (.bl (xor false (ds.any fun z => D.eqv z x))) m) := rfl
@[simp] theorem nin_tup {m : Hm} {P : PD} {x : D} {ds : List D} : cmpW .nin x (.tup ds) m P = ((scalD x && ds.all scalD || D.flat 58 x && D.flats 58 ds) = true ∧ P (.bl (xor true (ds.any fun z => D.eqv z x))) m) := rfl
/-- two lists of plain data -/
theorem eq_lists {m : Hm} {P : PD} {a b : Nat} {xs ys : List D} {neg : Bool} (ha : m a = some (.lst xs)) (hb : m b = some (.lst ys)) (fx : D.flats 59 xs = true) (fy : D.flats 59 ys = true) (q : P (.bl (xor neg (D.eqvs xs ys))) m) : eqW (.ref a) (.ref b) neg m P :=
  eq_res rfl (.ref ha (flats_res (m := m) fx).1) (.ref hb (flats_res (m := m) fy).1) (by simpa [D.shp] using (flats_res (m := m) fx).2) (by simpa [D.shp] using (flats_res (m := m) fy).2) (by simpa [D.eqv] using q)
mutual
theorem eqv_refl : ∀ {n : Nat} {d : D}, D.flat n d = true → D.eqv d d = true
  | _, .non, _ => by simp [D.eqv]
  | _, .bl b, _ => by simp [D.eqv]
  | _, .int i, _ => by simp [D.eqv]
  | _, .str s, _ => by simp [D.eqv]
  | n, .tup ds, h => by
    cases n with
    | zero => simp [D.flat] at h
    | succ k => simpa [D.eqv] using eqvs_refl (n := k) (ds := ds) (by simpa [D.flat] using h)
  | _, .lst _, h => by simp [D.flat] at h
  | _, .ref _, h => by simp [D.flat] at h
theorem eqvs_refl : ∀ {n : Nat} {ds : List D}, D.flats n ds = true → D.eqvs ds ds = true
  | _, [], _ => by simp [D.eqvs]
  | n, d :: ds, h => by
    have h : D.flat n d = true ∧ D.flats n ds = true := by simpa [D.flats] using h
    simp [D.eqvs, eqv_refl h.1, eqvs_refl h.2]
end
theorem flats_app {n : Nat} : ∀ {xs ys : List D}, D.flats n (xs ++ ys) = (D.flats n xs && D.flats n ys)
  | [], ys => by simp [D.flats]
  | x :: xs, ys => by simp [D.flats, flats_app (xs := xs), Bool.and_assoc]
def Ext (m m2 : Hm) : Prop := ∀ b o, m b = some o → m2 b = some o
theorem Ext.refl {m : Hm} : Ext m m := fun _ _ h => h
theorem Ext.trans {a b c : Hm} (h : Ext a b) (h2 : Ext b c) : Ext a c := fun x o e => h2 x o (h x o e)
theorem Ext.new {m : Hm} {p : Nat} {o : MO} (hp : m p = none) : Ext m (up m p o) := fun b q h => get_new hp h
theorem Bag.ext {m m2 : Hm} {p k : Nat} (h : Bag m p k) (e : Ext m m2) : Bag m2 p k := let ⟨a, b, s, h1, h2⟩ := h; ⟨a, b, s, e _ _ h1, h2⟩
end Mn
end

section
set_option autoImplicit false
set_option linter.all false
set_option maxRecDepth 100000
set_option maxHeartbeats 4000000
/-! Mn, part V: the name of a refusal's class, told in an except suite. -/
namespace Mn
def kindF : Fn := ⟨1, 3,
  (.cons (.asg (.nm 1) (.lst (.cons (.isin (.var 0) [.own 7]) (.cons (.isin (.var 0) [.own 8]) (.cons (.isin (.var 0) [.own 9]) (.cons (.isin (.var 0) [.own 10]) .nil))))))
  (.cons (.asg (.nm 1) (.bin .add (.var 1) (.lst (.cons (.isin (.var 0) [.own 11]) (.cons (.isin (.var 0) [.own 12]) (.cons (.isin (.var 0) [.own 13]) (.cons (.isin (.var 0) [.own 14]) .nil)))))))
  (.cons (.asg (.nm 1) (.bin .add (.var 1) (.lst (.cons (.isin (.var 0) [.own 15]) (.cons (.isin (.var 0) [.own 16]) (.cons (.isin (.var 0) [.own 17]) (.cons (.isin (.var 0) [.own 18]) .nil)))))))
  (.cons (.ex (.bmeth .append (.var 1) (.cons (.isin (.var 0) [.own 19]) .nil)))
  (.cons (.asg (.nm 2) (.lst (.cons (.txt [112, 108, 97, 110]) (.cons (.txt [116, 101, 120, 116]) (.cons (.txt [115, 116, 114, 101, 116, 99, 104]) (.cons (.txt [115, 112, 111, 116]) (.cons (.txt [111, 112, 101, 110, 101, 114]) (.cons (.txt [97, 100, 100, 114, 101, 115, 115]) (.cons (.txt [114, 117, 108, 101, 115]) (.cons (.txt [104, 97, 110, 100]) (.cons (.txt [112, 97, 110, 101, 108]) (.cons (.txt [108, 105, 110, 107]) (.cons (.txt [108, 111, 103]) (.cons (.txt [100, 101, 101, 100]) .nil))))))))))))))
  (.cons (.ex (.bmeth .append (.var 2) (.cons (.txt [114, 111, 119]) .nil)))
  (.cons (.ife (.or_ (.cons (.not_ (.isin (.var 0) [.verr])) (.cons (.cmp .ne (.bmeth .count (.var 1) (.cons (.bl true) .nil)) (.num 1)) .nil))) (.cons (.ret (.txt [111, 116, 104, 101, 114]))
  .nil) .nil)
  (.cons (.ret (.idx (.var 2) (.bmeth .index (.var 1) (.cons (.bl true) .nil))))
  .nil))))))))⟩
def knames : List (List Nat) := [[112, 108, 97, 110], [116, 101, 120, 116], [115, 116, 114, 101, 116, 99, 104], [115, 112, 111, 116], [111, 112, 101, 110, 101, 114], [97, 100, 100, 114, 101, 115, 115], [114, 117, 108, 101, 115], [104, 97, 110, 100], [112, 97, 110, 101, 108], [108, 105, 110, 107], [108, 111, 103], [100, 101, 101, 100], [114, 111, 119]]
def kname (c : Nat) : List Nat := knames.getD (c - 7) []
theorem idx_ref {m : Hm} {P : PD} {a : Nat} {x : D} {ds : List D} {j : Nat} (h : m a = some (.lst ds)) (hx : D.flat 60 x = true) (hd : D.flats 60 ds = true) (hj : fstIx x ds 0 = some j) (q : P (.int (j : Nat)) m) : bmW .index (.ref a) [x] m P := by
  simp only [bmW, h]
  exact ⟨x, ds, j, (flat_res (m := m) hx).1, (flats_res (m := m) hd).1, (flat_res (m := m) hx).2, (flats_res (m := m) hd).2, hj, q⟩
theorem Ext.none {m m2 : Hm} {q : Nat} (e : Ext m m2) (h : m2 q = none) : m q = none := by
  cases z : m q with
  | none => rfl
  | some o => rw [e _ _ z] at h; cases h
theorem kind_ok {t : Tab} {n a c : Nat} {m : Hm} {P : PD} {X : Nat → Hm → Prop} (hF : t.F 0 5 = some kindF) (h7 : 7 ≤ c) (h19 : c ≤ 19) (hs : ∀ k, 7 ≤ k → k ≤ 19 → t.sub c k = decide (c = k))
    (post : ∀ m2, Ext m m2 → P (.str (kname c)) m2) : callH t (a, c) (n + 1) 0 5 [.exc a c] m P X := by
  refine ⟨kindF, hF, rfl, ?_⟩
  show wpSs (sgH t n (a, c)) XF kindF.body _ m (retK P)
  obtain ⟨b7, hb7, o7⟩ : ∃ b, b = decide (c = 7) ∧ ∀ m : Hm, isT (sgH t n (a, c)) m (.exc a c) [.own 7] = some b := ⟨_, rfl, fun m => by rw [isT_own rfl]; exact congrArg some (hs 7 (by decide) (by decide))⟩
  obtain ⟨b8, hb8, o8⟩ : ∃ b, b = decide (c = 8) ∧ ∀ m : Hm, isT (sgH t n (a, c)) m (.exc a c) [.own 8] = some b := ⟨_, rfl, fun m => by rw [isT_own rfl]; exact congrArg some (hs 8 (by decide) (by decide))⟩
  obtain ⟨b9, hb9, o9⟩ : ∃ b, b = decide (c = 9) ∧ ∀ m : Hm, isT (sgH t n (a, c)) m (.exc a c) [.own 9] = some b := ⟨_, rfl, fun m => by rw [isT_own rfl]; exact congrArg some (hs 9 (by decide) (by decide))⟩
  obtain ⟨b10, hb10, o10⟩ : ∃ b, b = decide (c = 10) ∧ ∀ m : Hm, isT (sgH t n (a, c)) m (.exc a c) [.own 10] = some b := ⟨_, rfl, fun m => by rw [isT_own rfl]; exact congrArg some (hs 10 (by decide) (by decide))⟩
  obtain ⟨b11, hb11, o11⟩ : ∃ b, b = decide (c = 11) ∧ ∀ m : Hm, isT (sgH t n (a, c)) m (.exc a c) [.own 11] = some b := ⟨_, rfl, fun m => by rw [isT_own rfl]; exact congrArg some (hs 11 (by decide) (by decide))⟩
  obtain ⟨b12, hb12, o12⟩ : ∃ b, b = decide (c = 12) ∧ ∀ m : Hm, isT (sgH t n (a, c)) m (.exc a c) [.own 12] = some b := ⟨_, rfl, fun m => by rw [isT_own rfl]; exact congrArg some (hs 12 (by decide) (by decide))⟩
  obtain ⟨b13, hb13, o13⟩ : ∃ b, b = decide (c = 13) ∧ ∀ m : Hm, isT (sgH t n (a, c)) m (.exc a c) [.own 13] = some b := ⟨_, rfl, fun m => by rw [isT_own rfl]; exact congrArg some (hs 13 (by decide) (by decide))⟩
  obtain ⟨b14, hb14, o14⟩ : ∃ b, b = decide (c = 14) ∧ ∀ m : Hm, isT (sgH t n (a, c)) m (.exc a c) [.own 14] = some b := ⟨_, rfl, fun m => by rw [isT_own rfl]; exact congrArg some (hs 14 (by decide) (by decide))⟩
  obtain ⟨b15, hb15, o15⟩ : ∃ b, b = decide (c = 15) ∧ ∀ m : Hm, isT (sgH t n (a, c)) m (.exc a c) [.own 15] = some b := ⟨_, rfl, fun m => by rw [isT_own rfl]; exact congrArg some (hs 15 (by decide) (by decide))⟩
  obtain ⟨b16, hb16, o16⟩ : ∃ b, b = decide (c = 16) ∧ ∀ m : Hm, isT (sgH t n (a, c)) m (.exc a c) [.own 16] = some b := ⟨_, rfl, fun m => by rw [isT_own rfl]; exact congrArg some (hs 16 (by decide) (by decide))⟩
  obtain ⟨b17, hb17, o17⟩ : ∃ b, b = decide (c = 17) ∧ ∀ m : Hm, isT (sgH t n (a, c)) m (.exc a c) [.own 17] = some b := ⟨_, rfl, fun m => by rw [isT_own rfl]; exact congrArg some (hs 17 (by decide) (by decide))⟩
  obtain ⟨b18, hb18, o18⟩ : ∃ b, b = decide (c = 18) ∧ ∀ m : Hm, isT (sgH t n (a, c)) m (.exc a c) [.own 18] = some b := ⟨_, rfl, fun m => by rw [isT_own rfl]; exact congrArg some (hs 18 (by decide) (by decide))⟩
  obtain ⟨b19, hb19, o19⟩ : ∃ b, b = decide (c = 19) ∧ ∀ m : Hm, isT (sgH t n (a, c)) m (.exc a c) [.own 19] = some b := ⟨_, rfl, fun m => by rw [isT_own rfl]; exact congrArg some (hs 19 (by decide) (by decide))⟩
  have ov : ∀ m : Hm, isT (sgH t n (a, c)) m (.exc a c) [.verr] = some true := fun m => isT_verr rfl
  have z8 : 4 + 4 ≤ SZ := by decide
  have z12 : 8 + 4 ≤ SZ := by decide
  unfold kindF start
  simp only [List.map, List.length, List.replicate, List.cons_append, List.nil_append]
  let R : List Bool → Mn.Env → Hm → Prop := fun bs r1 m1 => ∃ q, r1 = [some (.exc a c), some (.ref q), none] ∧ m1 q = some (.lst (bs.map D.bl)) ∧ Ext m m1 ∧ m q = none
  refine seq_to (R [b7, b8, b9, b10]) (fun nx hn => ?_) ?_
  · simp [-Bool.exists_bool, o7, o8, o9, o10]
    exact fun p hp => hn _ _ ⟨p, rfl, up_at, .new hp, hp⟩
  rintro _ m1 ⟨q, rfl, hq, e1, q0⟩
  refine seq_to (R [b7, b8, b9, b10, b11, b12, b13, b14]) (fun nx hn => ?_) ?_
  · simp [-Bool.exists_bool, o11, o12, o13, o14]
    intro p hp
    rw [add_ref (get_new hp hq) up_at]
    exact ⟨z8, fun p2 hp2 => hn _ _ ⟨p2, rfl, up_at, (e1.trans (.new hp)).trans (.new hp2), (e1.trans (.new hp)).none hp2⟩⟩
  clear hq e1 q0 q m1
  rintro _ m1 ⟨q, rfl, hq, e1, q0⟩
  refine seq_to (R [b7, b8, b9, b10, b11, b12, b13, b14, b15, b16, b17, b18]) (fun nx hn => ?_) ?_
  · simp [-Bool.exists_bool, o15, o16, o17, o18]
    intro p hp
    rw [add_ref (get_new hp hq) up_at]
    exact ⟨z12, fun p2 hp2 => hn _ _ ⟨p2, rfl, up_at, (e1.trans (.new hp)).trans (.new hp2), (e1.trans (.new hp)).none hp2⟩⟩
  clear hq e1 q0 q m1
  rintro _ m1 ⟨q, rfl, hq, e1, q0⟩
  refine seq_eq [some (.exc a c), some (.ref q), none] (up m1 q (.lst ([b7, b8, b9, b10, b11, b12, b13, b14, b15, b16, b17, b18, b19].map D.bl))) (fun nx hn => ?_) ?_
  · simp [-Bool.exists_bool, o19, rk_ref hq, mok]
    rw [app_ref hq]
    exact ⟨by show 12 < SZ; decide, hn⟩
  have hq2 : up m1 q (.lst ([b7, b8, b9, b10, b11, b12, b13, b14, b15, b16, b17, b18, b19].map D.bl)) q = some (.lst ([b7, b8, b9, b10, b11, b12, b13, b14, b15, b16, b17, b18, b19].map D.bl)) := up_at
  have e2 : Ext m (up m1 q (.lst ([b7, b8, b9, b10, b11, b12, b13, b14, b15, b16, b17, b18, b19].map D.bl))) := fun x ob hx => by
    rw [up_off (ne_new q0 hx)]
    exact e1 _ _ hx
  generalize up m1 q (.lst ([b7, b8, b9, b10, b11, b12, b13, b14, b15, b16, b17, b18, b19].map D.bl)) = m2 at hq2 e2 ⊢
  let N0 : List D := [.str [112, 108, 97, 110], .str [116, 101, 120, 116], .str [115, 116, 114, 101, 116, 99, 104], .str [115, 112, 111, 116], .str [111, 112, 101, 110, 101, 114], .str [97, 100, 100, 114, 101, 115, 115], .str [114, 117, 108, 101, 115], .str [104, 97, 110, 100], .str [112, 97, 110, 101, 108], .str [108, 105, 110, 107], .str [108, 111, 103], .str [100, 101, 101, 100]]
  refine seq_to (fun r1 m3 => ∃ z, r1 = [some (.exc a c), some (.ref q), some (.ref z)] ∧ z ≠ q ∧ m3 q = some (.lst ([b7, b8, b9, b10, b11, b12, b13, b14, b15, b16, b17, b18, b19].map D.bl)) ∧ m3 z = some (.lst N0) ∧ m2 z = none ∧ Ext m2 m3) (fun nx hn => ?_) ?_
  · simp
    exact fun p hp => hn _ _ ⟨p, rfl, (ne_new hp hq2).symm, get_new hp hq2, up_at, hp, .new hp⟩
  rintro _ m3 ⟨z, rfl, hz, hq3, hz3, hz0, e3⟩
  refine seq_eq [some (.exc a c), some (.ref q), some (.ref z)] (up m3 z (.lst (N0 ++ [.str [114, 111, 119]]))) (fun nx hn => ?_) ?_
  · simp [rk_ref hz3, mok]
    rw [app_ref hz3]
    exact ⟨by decide, hn⟩
  have hq4 : up m3 z (.lst (N0 ++ [.str [114, 111, 119]])) q = some (.lst ([b7, b8, b9, b10, b11, b12, b13, b14, b15, b16, b17, b18, b19].map D.bl)) := by rw [up_off hz.symm]; exact hq3
  have hz4 : up m3 z (.lst (N0 ++ [.str [114, 111, 119]])) z = some (.lst (N0 ++ [.str [114, 111, 119]])) := up_at
  have e4 : Ext m (up m3 z (.lst (N0 ++ [.str [114, 111, 119]]))) := fun x ob hx => by
    have hx2 := e2 _ _ hx
    rw [up_off (ne_new hz0 hx2)]
    exact e3 _ _ hx2
  generalize up m3 z (.lst (N0 ++ [.str [114, 111, 119]])) = m4 at hq4 hz4 e4 ⊢
  have fb : ∀ bs : List Bool, D.flats 60 (bs.map D.bl) = true := fun bs => by induction bs with | nil => rfl | cons b bs ih => simp [D.flats, D.flat, ih]
  have cnt : ∀ bs : List Bool, blsOf (bs.map D.bl) = some bs := fun bs => by induction bs with | nil => rfl | cons b bs ih => simp [blsOf, ih]
  have fin : ∃ j : Nat, [b7, b8, b9, b10, b11, b12, b13, b14, b15, b16, b17, b18, b19].count true = 1 ∧ fstIx (.bl true) ([b7, b8, b9, b10, b11, b12, b13, b14, b15, b16, b17, b18, b19].map D.bl) 0 = some j ∧ atI (N0 ++ [.str [114, 111, 119]]) (j : Int) = some (.str (kname c)) := by
    have hc : c = 7 ∨ c = 8 ∨ c = 9 ∨ c = 10 ∨ c = 11 ∨ c = 12 ∨ c = 13 ∨ c = 14 ∨ c = 15 ∨ c = 16 ∨ c = 17 ∨ c = 18 ∨ c = 19 := by omega
    rcases hc with e | e | e | e | e | e | e | e | e | e | e | e | e <;> subst e <;> subst hb7 hb8 hb9 hb10 hb11 hb12 hb13 hb14 hb15 hb16 hb17 hb18 hb19 <;> exact ⟨_, rfl, rfl, rfl⟩
  obtain ⟨j, f1, f2, f3⟩ := fin
  refine seq_eq [some (.exc a c), some (.ref q), some (.ref z)] m4 (fun nx hn => ?_) ?_
  · have hcount : ∀ P : PD, bmW .count (.ref q) [.bl true] m4 P = P (.int 1) m4 := fun P => by
      simp only [bmW, hq4, cnt]
      simp [f1]
    simp [-Bool.exists_bool, ov, rk_ref hq4, mok, hcount]
    exact hn
  simp [rk_ref hq4, mok]
  refine idx_ref hq4 rfl (fb _) f2 ?_
  rw [x_ref hz4]
  exact ⟨_, f3, post _ e4⟩
end Mn
end

section
set_option autoImplicit false
set_option linter.all false
set_option maxRecDepth 100000
set_option maxHeartbeats 4000000
/-! Mn, part W: comprehensions over a heap that grows; lists of numbers, of truths, of texts. -/
namespace Mn
theorem Keep.ext {p : Nat} {m m2 : Hm} (hp : m p = none) (k : Keep p m m2) : Ext m m2 := fun b o e => k b o (fun z => by rw [z, hp] at e; cases e) e
theorem Ext.keep {p : Nat} {m m2 : Hm} (e : Ext m m2) : Keep p m m2 := fun b o _ h => e b o h
theorem keep_new {p : Nat} {m : Hm} {o : MO} (hp : m p = none) : Keep p m (up m p o) := .up
/-- what each item comes to is told by F, while the heap may grow -/
theorem comp_keep {p : Nat} {st : Hm → Prop} {turn : D → Hm → PD → (Hm → Prop) → Prop} {done : Hm → Prop} {m0 : Hm} (F : D → Option D) (hst : ∀ m1, Keep p m0 m1 → st m1) :
    ∀ {xs acc : List D} {m1 : Hm}, Keep p m0 m1 → m1 p = some (.lst acc) → acc.length + xs.length < SZ →
    (∀ x ∈ xs, ∀ m2 acc Q1 Q2, Keep p m0 m2 → m2 p = some (.lst acc) → (∀ m3, Keep p m0 m3 → m3 p = some (.lst acc) → match F x with | some y => Q1 y m3 | none => Q2 m3) → turn x m2 Q1 Q2) →
    (∀ m3, Keep p m0 m3 → m3 p = some (.lst (acc ++ xs.filterMap F)) → done m3) → compW p st turn done xs m1
  | [], acc, m1, k, h, _, _, hd => ⟨hst _ k, hd _ k (by simpa using h)⟩
  | x :: xs, acc, m1, k, h, hl, ht, hd => by
    refine ⟨hst _ k, ht x List.mem_cons_self m1 acc _ _ k h fun m3 k3 h3 => ?_⟩
    cases e : F x with
    | none =>
      refine comp_keep F hst k3 h3 (by simp only [List.length_cons] at hl; omega) (fun y hy => ht y (List.mem_cons_of_mem _ hy)) fun m4 k4 h4 => ?_
      refine hd m4 k4 ?_
      rw [List.filterMap_cons, e]
      exact h4
    | some y =>
      refine ⟨acc, h3, by simp only [List.length_cons] at hl; omega, ?_⟩
      refine comp_keep F hst (k3.trans .up) up_at (by simp only [List.length_cons, List.length_append, List.length_nil] at hl ⊢; omega) (fun z hz => ht z (List.mem_cons_of_mem _ hz)) fun m4 k4 h4 => ?_
      refine hd m4 k4 ?_
      rw [List.filterMap_cons, e]
      simpa using h4
/-- items of a kind, each comes to one -/
theorem comp_list {α : Type} {p : Nat} {st : Hm → Prop} {turn : D → Hm → PD → (Hm → Prop) → Prop} {done : Hm → Prop} {m0 : Hm} (l : List α) (g f : α → D) (hp : m0 p = none) (hst : ∀ m1, Keep p m0 m1 → st m1) (hl : l.length < SZ)
    (ht : ∀ x ∈ l, ∀ m2 acc Q1 Q2, Keep p m0 m2 → m2 p = some (.lst acc) → (∀ m3, Keep p m0 m3 → m3 p = some (.lst acc) → Q1 (f x) m3) → turn (g x) m2 Q1 Q2)
    (hd : ∀ m3, Ext m0 m3 → m3 p = some (.lst (l.map f)) → done m3) : compW p st turn done (l.map g) (up m0 p (.lst [])) := by
  have key : ∀ (l2 : List α) (acc : List D) (m1 : Hm), (∀ x ∈ l2, x ∈ l) → Keep p m0 m1 → m1 p = some (.lst acc) → acc.length + l2.length < SZ → (∀ m3, Keep p m0 m3 → m3 p = some (.lst (acc ++ l2.map f)) → done m3) → compW p st turn done (l2.map g) m1 := by
    intro l2
    induction l2 with
    | nil => exact fun acc m1 _ k h _ hd => ⟨hst _ k, hd _ k (by simpa using h)⟩
    | cons x xs ih =>
      intro acc m1 hx k h hl hd
      refine ⟨hst _ k, ht x (hx x List.mem_cons_self) m1 acc _ _ k h fun m3 k3 h3 => ⟨acc, h3, by simp only [List.length_cons] at hl; omega, ?_⟩⟩
      refine ih (acc ++ [f x]) _ (fun y hy => hx y (List.mem_cons_of_mem _ hy)) (k3.trans .up) up_at (by simp only [List.length_cons, List.length_append, List.length_nil] at hl ⊢; omega) fun m4 k4 h4 => hd m4 k4 ?_
      simpa using h4
  exact key l [] _ (fun _ h => h) .up up_at (by simpa using hl) fun m3 k3 h3 => hd m3 (k3.ext hp) (by simpa using h3)
/-- turn by turn: I holds of how many turns there were, the items so far, the heap -/
theorem comp_inv {p : Nat} {st : Hm → Prop} {turn : D → Hm → PD → (Hm → Prop) → Prop} {done : Hm → Prop} (I : Nat → List D → Hm → Prop) : ∀ {xs acc : List D} {k : Nat} {m : Hm}, I k acc m → acc.length + xs.length < SZ →
    (∀ i x acc m Q1 Q2, xs[i]? = some x → I (k + i) acc m → (∀ y m2, m2 p = some (.lst acc) → I (k + i + 1) (acc ++ [y]) (up m2 p (.lst (acc ++ [y]))) → Q1 y m2) → (∀ m2, I (k + i + 1) acc m2 → Q2 m2) → st m ∧ turn x m Q1 Q2) →
    (∀ acc m, I (k + xs.length) acc m → st m ∧ done m) → compW p st turn done xs m
  | [], acc, k, m, h0, _, _, hd => hd acc m h0
  | x :: xs, acc, k, m, h0, hl, ht, hd => by
    have next : ∀ {acc2 : List D} {m2 : Hm}, I (k + 1) acc2 m2 → acc2.length ≤ acc.length + 1 → compW p st turn done xs m2 := fun {acc2 m2} h2 hl2 =>
      comp_inv I (k := k + 1) h2 (by simp only [List.length_cons] at hl; omega)
        (fun i y a m Q1 Q2 hy hi q1 q2 => ht (i + 1) y a m Q1 Q2 hy (by rw [show k + (i + 1) = k + 1 + i by omega]; exact hi)
          (fun y m2 h h2 => q1 y m2 h (by rw [show k + 1 + i + 1 = k + (i + 1) + 1 by omega]; exact h2)) (fun m2 h2 => q2 m2 (by rw [show k + 1 + i + 1 = k + (i + 1) + 1 by omega]; exact h2)))
        (fun a m h => hd a m (by rw [show k + (x :: xs).length = k + 1 + xs.length by simp only [List.length_cons]; omega]; exact h))
    exact ht 0 x acc m _ _ rfl h0 (fun y m2 h h2 => ⟨acc, h, by simp only [List.length_cons] at hl; omega, next h2 (by simp)⟩) (fun m2 h2 => next h2 (by omega))
/-- each turn draws from the bag at b, and comes to something that G holds of -/
theorem comp_bag {p b : Nat} {st : Hm → Prop} {turn : D → Hm → PD → (Hm → Prop) → Prop} {done : Hm → Prop} {m0 : Hm} (G : D → Prop) (c : Nat) (hp : m0 p = none) (hst : ∀ m1, Keep b m0 m1 → st m1) :
    ∀ {xs : List D} {k : Nat}, Bag m0 b (k + c * xs.length) → xs.length < SZ →
    (∀ x ∈ xs, ∀ m2 j Q1 Q2, Keep b m0 m2 → Bag m2 b (j + c) → (∀ y m3, G y → Keep b m2 m3 → Bag m3 b j → Q1 y m3) → turn x m2 Q1 Q2) →
    (∀ m3 ys, ys.length = xs.length → (∀ y ∈ ys, G y) → Keep b m0 m3 → Bag m3 b k → m3 p = some (.lst ys) → done m3) → compW p st turn done xs (up m0 p (.lst [])) := by
  intro xs k hb hl ht hd
  have hpb : p ≠ b := by
    obtain ⟨o, ho⟩ := hb.at
    exact (ne_new hp ho).symm
  have key : ∀ (l : List D) (acc : List D) (m1 : Hm), (∀ x ∈ l, x ∈ xs) → (∀ y ∈ acc, G y) → Keep b m0 m1 → Bag m1 b (k + c * l.length) → m1 p = some (.lst acc) → acc.length + l.length < SZ →
      (∀ m3 ys, ys.length = acc.length + l.length → (∀ y ∈ ys, G y) → Keep b m0 m3 → Bag m3 b k → m3 p = some (.lst ys) → done m3) → compW p st turn done l m1 := by
    intro l
    induction l with
    | nil => exact fun acc m1 _ hg k1 b1 h1 _ hd => ⟨hst _ k1, hd m1 acc (by simp) hg k1 (by simpa using b1) h1⟩
    | cons x l ih =>
      intro acc m1 hx hg k1 b1 h1 hl hd
      refine ⟨hst _ k1, ht x (hx x List.mem_cons_self) m1 (k + c * l.length) _ _ k1 (by rw [List.length_cons, Nat.mul_succ] at b1; rw [Nat.add_assoc]; exact b1) fun y m2 gy k2 b2 => ⟨acc, k2 _ _ hpb h1, by simp only [List.length_cons] at hl; omega, ?_⟩⟩
      refine ih (acc ++ [y]) _ (fun z hz => hx z (List.mem_cons_of_mem _ hz)) (fun z hz => ?_) (fun o ob ho hm => ?_) (b2.off hpb.symm) up_at (by simp only [List.length_cons, List.length_append, List.length_nil] at hl ⊢; omega) fun m3 ys hy => hd m3 ys (by rw [hy]; simp only [List.length_append, List.length_cons, List.length_nil]; omega)
      · rcases List.mem_append.mp hz with e | e
        · exact hg z e
        · rw [List.mem_singleton.mp e]; exact gy
      · rw [up_off (ne_new hp hm)]
        exact k2 _ _ ho (k1 _ _ ho hm)
  refine key xs [] _ (fun _ h => h) (fun _ h => nomatch h) (fun o ob ho hm => by rw [up_off (ne_new hp hm)]; exact hm) (hb.off hpb.symm) up_at (by simpa using hl) fun m3 ys hy => hd m3 ys (by simpa using hy)
/-- a loop's body kept shut -/
theorem fr_shut {g : Sg} {X : XD} {t : T} {it : I} {b : Ss} {r : Env} {m : Hm} {Q : K} (h : ∀ B, B = b → wpS g X (.fr t it B) r m Q) : wpS g X (.fr t it b) r m Q := h b rfl
/-! plain lists -/
theorem ints_map : ∀ ns : List Int, intsOf (ns.map D.int) = some ns
  | [] => rfl
  | n :: ns => by simp [intsOf, ints_map ns]
theorem bls_map : ∀ bs : List Bool, blsOf (bs.map D.bl) = some bs
  | [] => rfl
  | n :: ns => by simp [blsOf, bls_map ns]
theorem strs_map : ∀ ss : List (List Nat), strsOf (ss.map D.str) = some ss
  | [] => rfl
  | n :: ns => by simp [strsOf, strs_map ns]
theorem flats_ints {n : Nat} : ∀ ns : List Int, D.flats n (ns.map D.int) = true
  | [] => by simp [D.flats]
  | x :: xs => by simp [D.flats, D.flat, flats_ints xs]
theorem flats_bls {n : Nat} : ∀ ns : List Bool, D.flats n (ns.map D.bl) = true
  | [] => by simp [D.flats]
  | x :: xs => by simp [D.flats, D.flat, flats_bls xs]
/-- a text of plain signs -/
def pln (s : List Nat) : Bool := s.all (· < 1114112)
theorem flats_strs {n : Nat} : ∀ {ss : List (List Nat)}, (∀ s ∈ ss, pln s = true) → D.flats n (ss.map D.str) = true
  | [], _ => by simp [D.flats]
  | x :: xs, h => by
    have h1 := h x List.mem_cons_self
    have h2 := flats_strs (n := n) (ss := xs) fun s hs => h s (List.mem_cons_of_mem _ hs)
    simp only [List.map_cons, D.flats, D.flat, h2, Bool.and_true]
    exact h1
theorem eqvs_ints : ∀ {xs ys : List Int}, D.eqvs (xs.map D.int) (ys.map D.int) = decide (xs = ys)
  | [], [] => by simp [D.eqvs]
  | [], _ :: _ => by simp [D.eqvs]
  | _ :: _, [] => by simp [D.eqvs]
  | x :: xs, y :: ys => by
    simp only [List.map_cons, D.eqvs, D.eqv, eqvs_ints, List.cons.injEq, Bool.decide_and]
    rfl
theorem eqvs_strs : ∀ {xs ys : List (List Nat)}, D.eqvs (xs.map D.str) (ys.map D.str) = decide (xs = ys)
  | [], [] => by simp [D.eqvs]
  | [], _ :: _ => by simp [D.eqvs]
  | _ :: _, [] => by simp [D.eqvs]
  | x :: xs, y :: ys => by
    simp only [List.map_cons, D.eqvs, D.eqv, eqvs_strs, List.cons.injEq, Bool.decide_and, Bool.beq_eq_decide_eq]
section
variable {m : Hm} {P : PD} {a b : Nat} {xs ys : List D}
theorem all_bls {bs : List Bool} (h : m a = some (.lst (bs.map D.bl))) : bfW .all [.ref a] m P = P (.bl (bs.all id)) m := by simp [bfW, h, bls_map]
theorem any_bls {bs : List Bool} (h : m a = some (.lst (bs.map D.bl))) : bfW .any [.ref a] m P = P (.bl (bs.any id)) m := by simp [bfW, h, bls_map]
theorem sum_ints {ns : List Int} (h : m a = some (.lst (ns.map D.int))) : bfW .sum [.ref a] m P = P (.int ns.sum) m := by simp [bfW, h, ints_map]
theorem join_strs {sep : List Nat} {ss : List (List Nat)} (h : m a = some (.lst (ss.map D.str))) : bmW .join (.str sep) [.ref a] m P = ((ss.map List.length).sum + ss.length * sep.length ≤ SZ ∧ P (.str (joinT sep ss)) m) := by simp [bmW, h, strs_map]
theorem ext_ref (h : m a = some (.lst xs)) (h2 : m b = some (.lst ys)) : bmW .extend (.ref a) [.ref b] m P = (xs.length + ys.length ≤ SZ ∧ P .non (up m a (.lst (xs ++ ys)))) := by simp [bmW, h, h2]
theorem clear_ref (h : m a = some (.lst xs)) : bmW .clear (.ref a) [] m P = P .non (up m a (.lst [])) := by simp [bmW, h]
@[simp] theorem f_lstr {s : List Nat} : bfW .len [.str s] m P = (s.length ≤ SZ ∧ P (.int s.length) m) := rfl
@[simp] theorem f_ord {c : Nat} : bfW .ord [.str [c]] m P = P (.int c) m := rfl
@[simp] theorem x_str {s : List Nat} {i : Int} : ixW (.str s) (.int i) m P = (s.length ≤ SZ ∧ ∃ c, atI s i = some c ∧ P (.str [c]) m) := rfl
@[simp] theorem sl_str {s : List Nat} {lo hi : Option Int} : slW (.str s) lo hi m P = (s.length ≤ SZ ∧ P (.str (cut s lo hi)) m) := rfl
@[simp] theorem b_smul {s : List Nat} {k : Int} : binW .mul (.str s) (.int k) m P = ((-(2 ^ 63) ≤ k ∧ k < 2 ^ 63) ∧ s.length * k.toNat ≤ SZ ∧ P (.str (repD s k.toNat)) m) := rfl
@[simp] theorem walk_str {s : List Nat} {K : List D → (Hm → Prop) → Hm → Prop} : walkV (.str s) m K = K (s.map fun c => .str [c]) (fun _ => True) m := rfl
@[simp] theorem walk_tup {ds : List D} {K : List D → (Hm → Prop) → Hm → Prop} : walkV (.tup ds) m K = K ds (fun _ => True) m := rfl
@[simp] theorem walk_lst {ds : List D} {K : List D → (Hm → Prop) → Hm → Prop} : walkV (.lst ds) m K = K ds (fun _ => True) m := rfl
theorem walk_ref {K : List D → (Hm → Prop) → Hm → Prop} (h : m a = some (.lst xs)) : walkV (.ref a) m K = K xs (fun m2 => m2 a = some (.lst xs)) m := by simp [walkV, h]
@[simp] theorem rng1 {j : Int} {K : List D → (Hm → Prop) → Hm → Prop} : rngW [.int j] m K = (inB j ∧ K (rangeD 0 j.toNat) (fun _ => True) m) := rfl
@[simp] theorem rng2 {i j : Int} {K : List D → (Hm → Prop) → Hm → Prop} : rngW [.int i, .int j] m K = (inB i ∧ inB j ∧ K (rangeD i (j - i).toNat) (fun _ => True) m) := rfl
@[simp] theorem ty_ref (h : m a = some (.lst xs)) {g : Sg} : isT g m (.ref a) [.list] = some true := by simp [y_ref h]
end
theorem rangeD_map (n : Nat) : rangeD 0 n = (List.range n).map fun i => D.int (i : Nat) := by simp [rangeD]
theorem range_get {lo : Int} {n i : Nat} {x : D} (h : (rangeD lo n)[i]? = some x) : x = .int (lo + (i : Nat)) ∧ i < n := by
  unfold rangeD at h
  rw [List.getElem?_map] at h
  cases e : (List.range n)[i]? with
  | none => rw [e] at h; cases h
  | some j =>
    rw [e] at h
    have hl : i < n := by have := (List.getElem?_eq_some_iff.mp e).1; simpa using this
    rw [List.getElem?_range hl] at e
    cases e
    cases h
    exact ⟨rfl, hl⟩
@[simp] theorem rangeD_length {lo : Int} {n : Nat} : (rangeD lo n).length = n := by simp [rangeD]
theorem atI_nat {α : Type} {xs : List α} {i : Nat} (h : i < xs.length) : atI xs (i : Int) = some xs[i] := by
  unfold atI ixN
  rw [if_pos (by omega), if_pos (by omega)]
  simp [h]
theorem atI_some {α : Type} {xs : List α} {j : Int} (h0 : 0 ≤ j) (h1 : j < xs.length) : ∃ x, atI xs j = some x ∧ xs[j.toNat]? = some x ∧ x ∈ xs := by
  have hl : j.toNat < xs.length := by omega
  refine ⟨xs[j.toNat], ?_, by simp [hl], List.getElem_mem _⟩
  unfold atI ixN
  rw [if_pos h0, if_pos h1]
  simp [hl]
theorem joinT_nil : ∀ ss : List (List Nat), joinT [] ss = ss.flatten
  | [] => rfl
  | [x] => by simp [joinT]
  | x :: y :: r => by
    simp only [joinT, joinT_nil (y :: r)]
    simp
theorem one_signs (s : List Nat) : (s.map fun c => [c]).flatten = s := by
  induction s with
  | nil => rfl
  | cons c s ih => simp [ih]
end Mn
end

section
set_option autoImplicit false
set_option linter.all false
set_option maxRecDepth 100000
set_option maxHeartbeats 4000000
/-! Mn, part X: dicts told by their keys and a function; frames of several cells. -/
namespace Mn
section
variable {κ : Type} [DecidableEq κ]
theorem look_consK {p : κ × D} {r : List (κ × D)} {k : κ} : look (p :: r) k = if p.1 = k then some p.2 else look r k := by
  unfold look
  rw [List.find?_cons]
  by_cases h : p.1 = k
  · simp [h]
  · simp [h]
theorem look_app {a b : List (κ × D)} {k : κ} (h : look a k = none) : look (a ++ b) k = look b k := by
  induction a with
  | nil => rfl
  | cons p r ih =>
    rw [look_consK] at h
    rw [List.cons_append, look_consK]
    by_cases e : p.1 = k
    · rw [if_pos e] at h; cases h
    · rw [if_neg e] at h ⊢; exact ih h
end
/-- keys that are numbers, what each holds -/
def kvF (as : List Int) (f : Int → D) : List (Ky × D) := as.map fun a => (Sum.inl a, f a)
@[simp] theorem kvF_length {as : List Int} {f : Int → D} : (kvF as f).length = as.length := by simp [kvF]
theorem look_kvF {f : Int → D} {a : Int} : ∀ {as : List Int}, a ∈ as → look (kvF as f) (.inl a) = some (f a)
  | b :: as, h => by
    show look ((Sum.inl b, f b) :: kvF as f) (.inl a) = _
    rw [look_consK]
    by_cases e : b = a
    · subst e; simp
    · rw [if_neg (by simpa using e)]
      exact look_kvF (by simpa [Ne.symm e] using h)
theorem look_kvF_no {f : Int → D} {a : Int} : ∀ {as : List Int}, a ∉ as → look (kvF as f) (.inl a) = none
  | [], _ => rfl
  | b :: as, h => by
    show look ((Sum.inl b, f b) :: kvF as f) (.inl a) = _
    rw [look_consK, if_neg (fun z => h (by simp only [Sum.inl.injEq] at z; simp [z]))]
    exact look_kvF_no fun z => h (List.mem_cons_of_mem _ z)
def fupd (f : Int → D) (a : Int) (v : D) : Int → D := fun x => if x = a then v else f x
@[simp] theorem fupd_at {f : Int → D} {a : Int} {v : D} : fupd f a v a = v := by simp [fupd]
theorem fupd_ne {f : Int → D} {a b : Int} {v : D} (h : b ≠ a) : fupd f a v b = f b := by simp [fupd, h]
theorem putk_kvF {f : Int → D} {a : Int} {v : D} {as : List Int} (h : a ∈ as) : putk (kvF as f) (.inl a) v = kvF as (fupd f a v) := by
  unfold putk
  rw [if_pos (by simp only [kvF, List.any_eq_true, List.mem_map]; exact ⟨_, ⟨a, h, rfl⟩, by simp⟩)]
  simp only [kvF, List.map_map]
  refine List.map_congr_left fun b _ => ?_
  by_cases e : b = a
  · subst e; simp
  · simp [e, fupd]
theorem putk_kvF_new {f : Int → D} {a : Int} {v : D} {as : List Int} (h : a ∉ as) : putk (kvF as f) (.inl a) v = kvF (as ++ [a]) (fupd f a v) := by
  unfold putk
  rw [if_neg (by simp only [kvF, List.any_eq_true, List.mem_map]; rintro ⟨_, ⟨b, hb, rfl⟩, e⟩; exact h (by simp at e; rw [← e]; exact hb))]
  simp only [kvF, List.map_append, List.map_cons, List.map_nil, fupd_at]
  congr 1
  refine List.map_congr_left fun b hb => ?_
  rw [fupd_ne (fun z => h (by rw [← z]; exact hb))]
theorem kvF_congr {as : List Int} {f g : Int → D} (h : ∀ a ∈ as, f a = g a) : kvF as f = kvF as g := List.map_congr_left fun a ha => by rw [h a ha]
theorem fupd_const {f : Int → D} {a : Int} {v : D} (h : f a = v) : fupd f a v = f := by
  funext x
  by_cases e : x = a
  · rw [e, fupd_at, h]
  · rw [fupd_ne e]
theorem putk_kvF_snoc {f : Int → D} {a : Int} {v : D} {as : List Int} (h : a ∉ as) (hv : f a = v) : putk (kvF as f) (.inl a) v = kvF (as ++ [a]) f := by rw [putk_kvF_new h, fupd_const hv]
theorem nodup_take {as : List Int} (nd : as.Nodup) {i : Nat} {a : Int} (e : as[i]? = some a) : a ∉ as.take i := by
  have tk : as.take (i + 1) = as.take i ++ [a] := by rw [List.take_succ, e]; rfl
  have h2 : (as.take (i + 1)).Nodup := nd.sublist (List.take_sublist _ _)
  rw [tk, List.nodup_append] at h2
  exact fun h => h2.2.2 a h a (by simp) rfl
section
variable {m : Hm} {P : PD} {q : Nat} {kvs : List (Ky × D)}
theorem x_dict {a : Int} (h : m q = some (.dK kvs)) : ixW (.ref q) (.int a) m P = ∃ d, look kvs (.inl a) = some d ∧ P d m := by
  show (match m q with | some (.lst xs) => ∃ d, atI xs a = some d ∧ P d m | some (.dK kvs) => ∃ d, look kvs (.inl a) = some d ∧ P d m | _ => False) = _
  rw [h]
theorem set_dict {a : Int} {v : D} {Q : Hm → Prop} (h : m q = some (.dK kvs)) : setW (.ref q) (.int a) v m Q = (kvs.length < SZ ∧ Q (up m q (.dK (putk kvs (.inl a) v)))) := by
  show (match m q with | some (.lst ds) => ∃ j, ixN ds.length a = some j ∧ Q (up m q (.lst (ds.set j v))) | some (.dK kvs) => kvs.length < SZ ∧ Q (up m q (.dK (putk kvs (.inl a) v))) | _ => False) = _
  rw [h]
theorem dget_dict {a : Int} (h : m q = some (.dK kvs)) : dget m q (.int a) = some (look kvs (.inl a)) := by simp [dget, h]
theorem in_dict {a : Int} {neg : Bool} (h : m q = some (.dK kvs)) : inW (.int a) (.ref q) neg m P = P (.bl (xor neg (look kvs (.inl a)).isSome)) m := by
  simp [inW, h, dget]
theorem len_dict (h : m q = some (.dK kvs)) : bfW .len [.ref q] m P = P (.int kvs.length) m := by simp [bfW, h]
theorem list_dict (h : m q = some (.dK kvs)) : bfW .list [.ref q] m P = ∀ p, m p = none → P (.ref p) (up m p (.lst (kvs.map fun kv => dOf kv.1))) := by simp [bfW, seqOf, h]
theorem rk_dict (h : m q = some (.dK kvs)) : rk m (.ref q) = 2 := by simp [rk, h]
theorem get_dict_ {a : Int} {d : D} (h : m q = some (.dK kvs)) : bmW .get (.ref q) [.int a, d] m P = P ((look kvs (.inl a)).getD d) m := by
  simp [bmW, dget, h]
theorem keys_kvF {as : List Int} {f : Int → D} : ((kvF as f).map fun kv => dOf kv.1) = as.map D.int := by simp [kvF, dOf]
end
theorem pop_at {m : Hm} {P : PD} {a : Nat} {ds : List D} {i : Int} (h : m a = some (.lst ds)) : bmW .pop (.ref a) [.int i] m P = ((-(2 ^ 63) ≤ i ∧ i < 2 ^ 63) ∧ ∃ k d, ixN ds.length i = some k ∧ ds[k]? = some d ∧ P d (up m a (.lst (ds.eraseIdx k)))) := by simp [bmW, h]
theorem insert_at {m : Hm} {P : PD} {a : Nat} {ds : List D} {i : Int} {d : D} (h : m a = some (.lst ds)) : bmW .insert (.ref a) [.int i, d] m P = (ds.length < SZ ∧ (0 ≤ i ∧ i < 2 ^ 63) ∧ P .non (up m a (.lst (ds.take i.toNat ++ [d] ++ ds.drop i.toNat)))) := by simp [bmW, h]
theorem reverse_ref {m : Hm} {P : PD} {a : Nat} {ds : List D} (h : m a = some (.lst ds)) : bmW .reverse (.ref a) [] m P = P .non (up m a (.lst ds.reverse)) := by simp [bmW, h]
theorem sorted_ints {m : Hm} {P : PD} {a : Nat} {ns : List Int} (h : m a = some (.lst (ns.map D.int))) : bfW .sorted [.ref a] m P = ∀ p, m p = none → P (.ref p) (up m p (.lst ((ns.mergeSort (fun a b => decide (a ≤ b))).map D.int))) := by simp [bfW, h, ints_map]
/-- ints that g lets through -/
def fI (g : Int → Bool) : D → Option D | .int a => if g a = true then some (.int a) else none | _ => none
@[simp] theorem fI_int {g : Int → Bool} {a : Int} : fI g (.int a) = if g a = true then some (.int a) else none := id rfl
theorem filt_ints (g : Int → Bool) : ∀ as : List Int, (as.map D.int).filterMap (fI g) = (as.filter g).map D.int
  | [] => rfl
  | a :: as => by
    simp only [List.map_cons, List.filterMap_cons, List.filter_cons, filt_ints g as, fI_int]
    cases g a <;> simp
theorem erase_map {α β : Type} (f : α → β) : ∀ (l : List α) (i : Nat), (l.map f).eraseIdx i = (l.eraseIdx i).map f
  | [], _ => rfl
  | _ :: _, 0 => rfl
  | x :: l, i + 1 => by simp only [List.map_cons, List.eraseIdx_cons_succ, erase_map f l i]
theorem erase_perm {α : Type} : ∀ {l : List α} {i : Nat} (h : i < l.length), (l[i] :: l.eraseIdx i).Perm l
  | x :: l, 0, _ => .refl _
  | x :: l, i + 1, h => by
    simp only [List.getElem_cons_succ, List.eraseIdx_cons_succ]
    exact (List.Perm.swap x _ _).trans ((erase_perm (Nat.lt_of_succ_lt_succ h)).cons x)
theorem any_ints {ws : List Int} {w : Int} : ((ws.map D.int).any fun z => D.eqv z (.int w)) = decide (w ∈ ws) := by
  induction ws with
  | nil => simp
  | cons x xs ih =>
    simp only [List.map_cons, List.any_cons, ih, D.eqv, List.mem_cons]
    by_cases h : x = w
    · simp [h]
    · simp [h, Ne.symm h]
theorem scal_ints {ws : List Int} : (ws.map D.int).all scalD = true := by
  induction ws with
  | nil => rfl
  | cons x xs ih => simp [scalD]
theorem in_ints {m : Hm} {P : PD} {ws : List Int} {w : Int} : cmpW .in_ (.int w) (.tup (ws.map D.int)) m P = P (.bl (decide (w ∈ ws))) m := by
  rw [in_tup, any_ints, scal_ints]; simp [scalD]
theorem nin_ints {m : Hm} {P : PD} {ws : List Int} {w : Int} : cmpW .nin (.int w) (.tup (ws.map D.int)) m P = P (.bl (!decide (w ∈ ws))) m := by
  rw [nin_tup, any_ints, scal_ints]; simp [scalD]
theorem w_augs {g : Sg} {X : XD} {r : Env} {m : Hm} {Q : K} {o i e : E} {op : Bop} : wpS g X (.aug (.sb o i) op e) r m Q = (wpE g o X r m fun x m1 => wpE g i X r m1 fun y m2 => match x with | .ref a => ∃ d, dget m2 a y = some (some d) ∧ wpE g e X r m2 fun v m3 => augW op d v fun z => setW x y z m3 fun m4 => Q.nx r m4 | _ => False) := rfl
theorem nodup_at {α : Type} {l : List α} (nd : l.Nodup) {i j : Nat} {x : α} (hi : l[i]? = some x) (hj : l[j]? = some x) : i = j := by
  obtain ⟨h1, h2⟩ := List.getElem?_eq_some_iff.mp hi
  obtain ⟨h3, h4⟩ := List.getElem?_eq_some_iff.mp hj
  have hp := List.pairwise_iff_getElem.mp nd
  rcases Nat.lt_trichotomy i j with h | h | h
  · exact (hp i j h1 h3 h (h2.trans h4.symm)).elim
  · exact h
  · exact (hp j i h3 h1 h (h4.trans h2.symm)).elim
/-! by index -/
def flatIdx {α β : Type} (f : Nat → α → List β) : Nat → List α → List β
  | _, [] => []
  | i, x :: l => f i x ++ flatIdx f (i + 1) l
theorem flatIdx_app {α β : Type} {f : Nat → α → List β} : ∀ {a b : List α} {i : Nat}, flatIdx f i (a ++ b) = flatIdx f i a ++ flatIdx f (i + a.length) b
  | [], b, i => by simp [flatIdx]
  | x :: a, b, i => by
    simp only [List.cons_append, flatIdx, flatIdx_app (a := a), List.length_cons, List.append_assoc]
    rw [show i + 1 + a.length = i + (a.length + 1) by omega]
theorem flatIdx_snoc {α β : Type} {f : Nat → α → List β} {a : List α} {x : α} {i : Nat} : flatIdx f i (a ++ [x]) = flatIdx f i a ++ f (i + a.length) x := by
  rw [flatIdx_app]; simp [flatIdx]
theorem flatIdx_take {α β : Type} {f : Nat → α → List β} {l : List α} {i : Nat} {x : α} (e : l[i]? = some x) : flatIdx f 0 (l.take (i + 1)) = flatIdx f 0 (l.take i) ++ f i x := by
  have hi : i < l.length := (List.getElem?_eq_some_iff.mp e).1
  rw [List.take_succ, e]
  show flatIdx f 0 (l.take i ++ [x]) = _
  rw [flatIdx_snoc, List.length_take, Nat.min_eq_left (Nat.le_of_lt hi), Nat.zero_add]
theorem flatIdx_len {α β : Type} {f : Nat → α → List β} {c : Nat} : ∀ {l : List α} {i : Nat}, (∀ j, ∀ x ∈ l, (f j x).length ≤ c) → (flatIdx f i l).length ≤ c * l.length
  | [], _, _ => by simp [flatIdx]
  | x :: l, i, h => by
    have h1 := h i x List.mem_cons_self
    have h2 := flatIdx_len (l := l) (i := i + 1) (f := f) (c := c) fun j y hy => h j y (List.mem_cons_of_mem _ hy)
    simp only [flatIdx, List.length_append, List.length_cons, Nat.mul_succ]
    omega
theorem mem_flatIdx {α β : Type} {f : Nat → α → List β} {y : β} : ∀ {l : List α} {i : Nat}, y ∈ flatIdx f i l ↔ ∃ j x, l[j]? = some x ∧ y ∈ f (i + j) x
  | [], i => by simp [flatIdx]
  | x :: l, i => by
    rw [flatIdx, List.mem_append, mem_flatIdx (l := l)]
    constructor
    · rintro (h | ⟨j, z, h1, h2⟩)
      · exact ⟨0, x, rfl, h⟩
      · exact ⟨j + 1, z, h1, by rw [show i + (j + 1) = i + 1 + j by omega]; exact h2⟩
    · rintro ⟨j, z, h1, h2⟩
      cases j with
      | zero => cases h1; exact .inl h2
      | succ j => exact .inr ⟨j, z, h1, by rw [show i + 1 + j = i + (j + 1) by omega]; exact h2⟩
theorem enum_at : ∀ {xs : List D} {k i : Nat} {x : D}, (enumD k xs)[i]? = some x → ∃ y, xs[i]? = some y ∧ x = .tup [.int ((k + i : Nat) : Int), y]
  | [], k, i, x, h => by simp [enumD] at h
  | y :: xs, k, 0, x, h => by simp [enumD] at h; exact ⟨y, rfl, h.symm⟩
  | y :: xs, k, i + 1, x, h => by
    simp only [enumD, List.getElem?_cons_succ] at h
    obtain ⟨z, h1, h2⟩ := enum_at h
    exact ⟨z, h1, by rw [h2, show k + 1 + i = k + (i + 1) by omega]⟩
theorem enum_length : ∀ {xs : List D} {k : Nat}, (enumD k xs).length = xs.length
  | [], _ => rfl
  | x :: xs, k => by simp [enumD, enum_length (xs := xs)]
/-! lists looked up: what holds while the heap grows -/
mutual
theorem Res.ext {m m2 : Hm} (e : Ext m m2) : ∀ {d d2 : D}, Res m d d2 → Res m2 d d2
  | _, _, .non => .non
  | _, _, .bl b => .bl b
  | _, _, .int i => .int i
  | _, _, .str s => .str s
  | _, _, .tup h => .tup (Ress.ext e h)
  | _, _, .lst h => .lst (Ress.ext e h)
  | _, _, .ref h1 h2 => .ref (e _ _ h1) (Ress.ext e h2)
theorem Ress.ext {m m2 : Hm} (e : Ext m m2) : ∀ {d d2 : List D}, Ress m d d2 → Ress m2 d d2
  | _, _, .nil => .nil
  | _, _, .cons h1 h2 => .cons (Res.ext e h1) (Ress.ext e h2)
end
mutual
theorem eqv_shp : ∀ {n : Nat} {d : D}, D.shp n d = true → D.eqv d d = true
  | _, .non, _ => by simp [D.eqv]
  | _, .bl b, _ => by simp [D.eqv]
  | _, .int i, _ => by simp [D.eqv]
  | _, .str s, _ => by simp [D.eqv]
  | n, .tup ds, h => by
    cases n with
    | zero => simp [D.shp] at h
    | succ k => simpa [D.eqv] using eqvs_shp (n := k) (ds := ds) (by simpa [D.shp] using h)
  | n, .lst ds, h => by
    cases n with
    | zero => simp [D.shp] at h
    | succ k => simpa [D.eqv] using eqvs_shp (n := k) (ds := ds) (by simpa [D.shp] using h)
  | _, .ref _, h => by simp [D.shp] at h
  | _, .exc _ _, h => by simp [D.shp] at h
theorem eqvs_shp : ∀ {n : Nat} {ds : List D}, D.shps n ds = true → D.eqvs ds ds = true
  | _, [], _ => by simp [D.eqvs]
  | n, d :: ds, h => by
    have h : D.shp n d = true ∧ D.shps n ds = true := by simpa [D.shps] using h
    simp [D.eqvs, eqv_shp h.1, eqvs_shp h.2]
end
/-- a test's blocks kept shut -/
theorem ife_shut {g : Sg} {X : XD} {c : E} {a b : Ss} {r : Env} {m : Hm} {Q : K} (h : ∀ A B, A = a → B = b → wpS g X (.ife c A B) r m Q) : wpS g X (.ife c a b) r m Q := h a b rfl rfl
/-! frames -/
def KeepS (l : List Nat) (m m2 : Hm) : Prop := ∀ a o, a ∉ l → m a = some o → m2 a = some o
theorem KeepS.refl {l : List Nat} {m : Hm} : KeepS l m m := fun _ _ _ h => h
theorem KeepS.trans {l : List Nat} {a b c : Hm} (h : KeepS l a b) (h2 : KeepS l b c) : KeepS l a c := fun x o hx e => h2 x o hx (h x o hx e)
theorem KeepS.up {l : List Nat} {m : Hm} {p : Nat} {o : MO} (h : p ∈ l) : KeepS l m (up m p o) := fun x ob hx e => by rw [up_off (fun z => hx (by rw [z]; exact h))]; exact e
theorem Ext.keepS {l : List Nat} {m m2 : Hm} (h : Ext m m2) : KeepS l m m2 := fun x o _ e => h x o e
theorem Keep.keepS {l : List Nat} {p : Nat} {m m2 : Hm} (h : Keep p m m2) (hp : p ∈ l) : KeepS l m m2 := fun x o hx e => h x o (fun z => hx (by rw [z]; exact hp)) e
theorem KeepS.mono {l l2 : List Nat} {m m2 : Hm} (h : KeepS l m m2) (hs : ∀ a ∈ l, a ∈ l2) : KeepS l2 m m2 := fun x o hx e => h x o (fun z => hx (hs x z)) e
theorem KeepS.new {l : List Nat} {m : Hm} {p : Nat} {o : MO} (hp : m p = none) : KeepS l m (Mn.up m p o) := (Ext.new hp).keepS
/-- new cells are no matter to who was there -/
theorem KeepS.drop {l : List Nat} {p : Nat} {m m2 : Hm} (h : KeepS (p :: l) m m2) (hp : m p = none) : KeepS l m m2 := fun x o hx e => h x o (fun z => by
  rcases List.mem_cons.mp z with z | z
  · rw [z, hp] at e; cases e
  · exact hx z) e
theorem KeepS.none {l : List Nat} {m m2 : Hm} {q : Nat} (h : KeepS l m m2) (hq : q ∉ l) (e : m2 q = none) : m q = none := by
  cases z : m q with
  | none => rfl
  | some o => rw [h _ _ hq z] at e; cases e
/-- an instance in the making: its fields, the new cells that they hold -/
structure Mk (m : Hm) (t c : Nat) (fs : List (Nat × D)) (cs : List (Nat × MO)) (m1 : Hm) : Prop where
  i : m1 t = some (.ins c fs)
  k : Keep t m m1
  c : ∀ x ∈ cs, m1 x.1 = some x.2 ∧ m x.1 = none ∧ x.1 ≠ t
  nd : (cs.map (·.1)).Nodup
theorem Mk.start {m : Hm} {t c : Nat} {fs : List (Nat × D)} (h : m t = some (.ins c fs)) : Mk m t c fs [] m := ⟨h, .refl, fun _ h => (nomatch h), .nil⟩
theorem Mk.fld {m m1 : Hm} {t c : Nat} {fs fs2 : List (Nat × D)} {cs : List (Nat × MO)} (z : Mk m t c fs cs m1) : Mk m t c fs2 cs (Mn.up m1 t (.ins c fs2)) :=
  ⟨up_at, z.k.trans .up, fun x hx => ⟨by rw [up_off (z.c x hx).2.2]; exact (z.c x hx).1, (z.c x hx).2⟩, z.nd⟩
theorem Mk.add {m m1 : Hm} {t c p : Nat} {o : MO} {fs fs2 : List (Nat × D)} {cs : List (Nat × MO)} (z : Mk m t c fs cs m1) (hp : m1 p = none) : Mk m t c fs2 ((p, o) :: cs) (Mn.up (Mn.up m1 p o) t (.ins c fs2)) := by
  have hpt : p ≠ t := (ne_new hp z.i).symm
  have hp0 : m p = none := by
    cases e : m p with
    | none => rfl
    | some o2 => rw [z.k _ _ hpt e] at hp; cases hp
  refine ⟨up_at, (z.k.trans (Ext.new hp).keep).trans .up, fun x hx => ?_, ?_⟩
  · rcases List.mem_cons.mp hx with e | e
    · subst e; exact ⟨by rw [up_off hpt, up_at], hp0, hpt⟩
    · exact ⟨by rw [up_off (z.c x e).2.2]; exact get_new hp (z.c x e).1, (z.c x e).2⟩
  · simp only [List.map_cons, List.nodup_cons]
    refine ⟨fun h => ?_, z.nd⟩
    obtain ⟨x, hx, e⟩ := List.mem_map.mp h
    have := (z.c x hx).1
    rw [e, hp] at this
    cases this
theorem Bag.keepS {l : List Nat} {m m2 : Hm} {p k : Nat} (h : Bag m p k) (hp : p ∉ l) (e : KeepS l m m2) : Bag m2 p k := let ⟨a, b, s, h1, h2⟩ := h; ⟨a, b, s, e _ _ hp h1, h2⟩
end Mn
end

section
/-! dicts from pairs, sorted pairs. Own work. -/
set_option linter.all false
set_option maxRecDepth 100000
namespace Mn
theorem pairs_ints {f : Int → D} : ∀ {as : List Int}, pairsOf (as.map fun a => D.tup [.int a, f a]) = some (as.map fun a => (Sum.inl a, f a))
  | [] => rfl
  | a :: as => by simp [pairsOf, kyOf, pairs_ints (as := as)]
theorem fold_kvF {f : Int → D} : ∀ {bs as : List Int}, (as ++ bs).Nodup → (bs.map fun a => ((Sum.inl a : Ky), f a)).foldl (fun acc kv => putk acc kv.1 kv.2) (kvF as f) = kvF (as ++ bs) f
  | [], as, _ => by simp
  | b :: bs, as, h => by
    have hb : b ∉ as := by
      rw [List.nodup_append] at h
      exact fun z => h.2.2 b z b (by simp) rfl
    have e := putk_kvF_snoc (f := f) (v := f b) hb rfl
    simp only [List.map_cons, List.foldl_cons, e]
    rw [fold_kvF (as := as ++ [b]) (by simpa using h)]
    simp
theorem dict_ints {m : Hm} {P : PD} {q : Nat} {as : List Int} {f : Int → D} (nd : as.Nodup) (h : m q = some (.lst (as.map fun a => D.tup [.int a, f a]))) : bfW .dict [.ref q] m P = ∀ p, m p = none → P (.ref p) (up m p (.dK (kvF as f))) := by
  have e := fold_kvF (f := f) (as := []) (bs := as) (by simpa using nd)
  simp only [bfW, h, dictW, pairs_ints, newO]
  rw [show ([] : List (Ky × D)) = kvF [] f from rfl, e]
  rfl
theorem sorted_any {m : Hm} {P : PD} {a : Nat} {ds : List D} (h : m a = some (.lst ds)) (hn : intsOf ds = none) (hs : sortable ds = true) (q : ∀ p, m p = none → P (.ref p) (up m p (.lst (ds.mergeSort leD)))) : bfW .sorted [.ref a] m P := by
  simp only [bfW, h, hn]
  exact ⟨hs, q⟩
def prI (o : Int × Int) : D := .tup [.int o.1, .int o.2]
def leP (a b : Int × Int) : Bool := decide (a.1 < b.1) || (decide (a.1 = b.1) && decide (a.2 ≤ b.2))
theorem leP_D {a b : Int × Int} : leD (prI a) (prI b) = leP a b := by
  obtain ⟨a1, a2⟩ := a
  obtain ⟨b1, b2⟩ := b
  simp only [leD, prI, D.lt, D.lts, D.eqv, leP]
  by_cases h1 : b1 = a1
  · subst h1
    by_cases h2 : b2 = a2
    · subst h2; simp
    · by_cases h3 : a2 ≤ b2
      · simp [h2, h3]
      · simp [h2, h3]; omega
  · by_cases h3 : b1 < a1
    · simp [h1, h3, Ne.symm h1, show ¬ a1 < b1 by omega]
    · simp [h1, h3, Ne.symm h1, show a1 < b1 by omega]
theorem leP_trans (a b c : Int × Int) (h : leP a b = true) (h2 : leP b c = true) : leP a c = true := by
  simp only [leP, Bool.or_eq_true, Bool.and_eq_true, decide_eq_true_eq] at *
  omega
theorem leP_total (a b : Int × Int) : (leP a b || leP b a) = true := by
  simp only [leP, Bool.or_eq_true, Bool.and_eq_true, decide_eq_true_eq] at *
  omega
theorem flats_prs : ∀ {n : Nat} {os : List (Int × Int)}, D.flats (n + 2) (os.map prI) = true
  | _, [] => rfl
  | n, o :: os => by simp only [List.map_cons, D.flats, Bool.and_eq_true]; exact ⟨by simp [prI, D.flat, D.flats], flats_prs⟩
theorem sort_prs {os : List (Int × Int)} : (os.map prI).mergeSort leD = (os.mergeSort leP).map prI :=
  (List.map_mergeSort (r := leP) (s := leD) (f := prI) (l := os) (fun a _ b _ => leP_D.symm)).symm
theorem sortable_prs {os : List (Int × Int)} (hl : os.length ≤ SZ) : sortable (os.map prI) = true := by
  simp only [sortable, Bool.and_eq_true, Bool.or_eq_true, decide_eq_true_eq, List.all_eq_true, List.length_map]
  refine ⟨⟨⟨.inl fun d hd => ?_, fun d hd e he => ?_⟩, flats_prs⟩, hl⟩
  · obtain ⟨o, _, rfl⟩ := List.mem_map.mp hd; rfl
  · obtain ⟨o, _, rfl⟩ := List.mem_map.mp hd
    obtain ⟨u, _, rfl⟩ := List.mem_map.mp he
    rfl
theorem sorted_prs {m : Hm} {P : PD} {a : Nat} {os : List (Int × Int)} (h : m a = some (.lst (os.map prI))) (hl : os.length ≤ SZ) (q : ∀ p, m p = none → P (.ref p) (up m p (.lst ((os.mergeSort leP).map prI)))) : bfW .sorted [.ref a] m P := by
  cases os with
  | nil =>
    simp only [bfW, h]
    intro p hp
    simpa using q p hp
  | cons o os =>
    refine sorted_any h rfl (sortable_prs hl) fun p hp => ?_
    rw [sort_prs]
    exact q p hp
section
variable {κ : Type} [DecidableEq κ]
theorem look_none {kvs : List (κ × D)} {k : κ} : look kvs k = none ↔ k ∉ kvs.map Prod.fst := by
  induction kvs with
  | nil => simp [look]
  | cons p r ih =>
    rw [look_consK]
    by_cases h : p.1 = k
    · simp [h]
    · simp only [if_neg h, ih, List.map_cons, List.mem_cons, not_or]
      exact ⟨fun z => ⟨Ne.symm h, z⟩, fun z => z.2⟩
theorem look_mem {kvs : List (κ × D)} {k : κ} {v : D} (h : look kvs k = some v) : (k, v) ∈ kvs := by
  induction kvs with
  | nil => simp [look] at h
  | cons p r ih =>
    rw [look_consK] at h
    by_cases e : p.1 = k
    · rw [if_pos e] at h; cases h; rw [← e]; exact List.mem_cons_self
    · rw [if_neg e] at h; exact List.mem_cons_of_mem _ (ih h)
theorem look_map_set {k k2 : κ} {v : D} : ∀ {kvs : List (κ × D)}, look (kvs.map fun kv => if kv.1 = k then (kv.1, v) else kv) k2 = if k = k2 then (look kvs k2).map fun _ => v else look kvs k2
  | [] => by simp [look]
  | p :: r => by
    have ih := look_map_set (k := k) (k2 := k2) (v := v) (kvs := r)
    rw [List.map_cons, look_consK, look_consK, ih]
    by_cases h1 : p.1 = k
    · by_cases h2 : k = k2
      · subst h2; simp [h1]
      · simp [h1, h2]
    · by_cases h2 : k = k2
      · subst h2; simp [h1]
      · simp [h1, h2]
theorem any_key {kvs : List (κ × D)} {k : κ} : (kvs.any fun kv => decide (kv.1 = k)) = decide (k ∈ kvs.map Prod.fst) := by
  induction kvs with
  | nil => rfl
  | cons p r ih =>
    simp only [List.any_cons, ih, List.map_cons, List.mem_cons]
    by_cases h : p.1 = k
    · simp [h]
    · simp [h, Ne.symm h]
theorem look_putk {kvs : List (κ × D)} {k k2 : κ} {v : D} : look (putk kvs k v) k2 = if k = k2 then some v else look kvs k2 := by
  unfold putk
  rw [any_key]
  by_cases h : k ∈ kvs.map Prod.fst
  · simp only [h, decide_true, if_true, look_map_set]
    by_cases h2 : k = k2
    · subst h2
      simp only [if_true]
      cases e : look kvs k with
      | none => exact absurd h (look_none.mp e)
      | some d => rfl
    · simp [h2]
  · simp only [h, decide_false, Bool.false_eq_true, if_false]
    by_cases h2 : k = k2
    · subst h2
      rw [look_app (look_none.mpr h)]
      simp [look]
    · rw [if_neg h2]
      cases e : look kvs k2 with
      | none => rw [look_app e]; simp [look, h2]
      | some d =>
        unfold look at e ⊢
        rw [List.find?_append]
        cases e3 : kvs.find? fun kv => decide (kv.1 = k2) with
        | none => rw [e3] at e; cases e
        | some kv => rw [e3] at e; simpa using e
theorem look_dropk {kvs : List (κ × D)} {k k2 : κ} : look (dropk kvs k) k2 = if k = k2 then none else look kvs k2 := by
  induction kvs with
  | nil => simp [dropk, look]
  | cons p r ih =>
    unfold dropk at ih ⊢
    rw [List.filter_cons, look_consK]
    by_cases h1 : p.1 = k
    · simp only [h1, ne_eq, not_true, decide_false, Bool.false_eq_true, if_false, ih]
      by_cases h2 : k = k2 <;> simp [h2]
    · simp only [h1, ne_eq, not_false_eq_true, decide_true, if_true]
      rw [look_consK, ih]
      by_cases h2 : k = k2
      · subst h2; simp [h1]
      · simp [h2]
theorem putk_le {kvs : List (κ × D)} {k : κ} {v : D} : (putk kvs k v).length ≤ kvs.length + 1 := by unfold putk; split <;> simp
theorem dropk_le {kvs : List (κ × D)} {k : κ} : (dropk kvs k).length ≤ kvs.length := List.length_filter_le _ _
theorem keys_putk {kvs : List (κ × D)} {k : κ} {v : D} : (putk kvs k v).map Prod.fst = if k ∈ kvs.map Prod.fst then kvs.map Prod.fst else kvs.map Prod.fst ++ [k] := by
  unfold putk
  rw [any_key]
  by_cases h : k ∈ kvs.map Prod.fst
  · simp only [h, decide_true, if_true, List.map_map]
    refine List.map_congr_left fun kv _ => ?_
    simp only [Function.comp]
    split <;> rfl
  · simp [h]
theorem keys_dropk {kvs : List (κ × D)} {k : κ} : (dropk kvs k).map Prod.fst = (kvs.map Prod.fst).filter fun x => decide (x ≠ k) := by
  unfold dropk
  rw [List.filter_map]; rfl
theorem putk_len_in {kvs : List (κ × D)} {k : κ} {v : D} (h : look kvs k ≠ none) : (putk kvs k v).length = kvs.length := by
  unfold putk
  have : (kvs.any fun kv => decide (kv.1 = k)) = true := by
    rw [any_key]
    exact decide_eq_true (Classical.not_not.mp fun z => h (look_none.mpr z))
  rw [if_pos this, List.length_map]
theorem putk_keys {kvs : List (κ × D)} {k : κ} {v : D} {R : κ → Prop} (h : ∀ kv ∈ kvs, R kv.1) (hk : R k) : ∀ kv ∈ putk kvs k v, R kv.1 := fun kv hkv => by
  have : kv.1 ∈ (putk kvs k v).map Prod.fst := List.mem_map.mpr ⟨kv, hkv, rfl⟩
  rw [keys_putk] at this
  split at this
  · obtain ⟨x, hx, e⟩ := List.mem_map.mp this
    rw [← e]; exact h x hx
  · rcases List.mem_append.mp this with h2 | h2
    · obtain ⟨x, hx, e⟩ := List.mem_map.mp h2
      rw [← e]; exact h x hx
    · simp at h2; rw [h2]; exact hk
theorem keys_put_nd {kvs : List (κ × D)} {k : κ} {v : D} (h : (kvs.map Prod.fst).Nodup) : ((putk kvs k v).map Prod.fst).Nodup := by
  rw [keys_putk]
  split
  · exact h
  · rename_i hk
    rw [List.nodup_append]
    exact ⟨h, by simp, fun a ha b hb e => by simp at hb; subst hb; subst e; exact hk ha⟩
theorem keys_drop_nd {kvs : List (κ × D)} {k : κ} (h : (kvs.map Prod.fst).Nodup) : ((dropk kvs k).map Prod.fst).Nodup := by
  rw [keys_dropk]; exact h.filter _
end
/-! ### dicts with tuple keys, in which form so ever the empty one comes -/
def DT (m : Hm) (a : Nat) (kvs : List (List D × D)) : Prop := m a = some (.dT kvs) ∨ (m a = some (.dK []) ∧ kvs = [])
section
variable {m m2 : Hm} {P : PD} {a : Nat} {kvs : List (List D × D)} {ks : List D}
theorem DT.of (h : DT m a kvs) (e : ∀ o, m a = some o → m2 a = some o) : DT m2 a kvs := h.elim (fun h => .inl (e _ h)) fun h => .inr ⟨e _ h.1, h.2⟩
theorem DT.ext (h : DT m a kvs) (e : Ext m m2) : DT m2 a kvs := h.of fun o => e _ o
theorem DT.keepS {l : List Nat} (h : DT m a kvs) (e : KeepS l m m2) (ha : a ∉ l) : DT m2 a kvs := h.of fun o => e _ o ha
theorem DT.keep {p : Nat} (h : DT m a kvs) (e : Keep p m m2) (ha : a ≠ p) : DT m2 a kvs := h.of fun o => e _ o ha
theorem DT.up : DT (up m a (.dT kvs)) a kvs := .inl up_at
theorem DT.at (h : DT m a kvs) : ∃ o, m a = some o := h.elim (fun h => ⟨_, h⟩) fun h => ⟨_, h.1⟩
theorem DT.ne_lst {b : Nat} {xs : List D} (h : DT m a kvs) (hb : m b = some (.lst xs)) : a ≠ b := fun z => by
  subst z
  rcases h with h | h
  · rw [h] at hb; cases hb
  · rw [h.1] at hb; cases hb
theorem DT.ne_ins {b c : Nat} {fs : List (Nat × D)} (h : DT m a kvs) (hb : m b = some (.ins c fs)) : a ≠ b := fun z => by
  subst z
  rcases h with h | h
  · rw [h] at hb; cases hb
  · rw [h.1] at hb; cases hb
theorem DT.ne_new {q : Nat} (h : DT m a kvs) (hq : m q = none) : a ≠ q := fun z => by
  subst z
  obtain ⟨o, h⟩ := h.at
  rw [h] at hq; cases hq
theorem set_DT {v : D} {Q : Hm → Prop} (h : DT m a kvs) (hk : D.keyds 7 ks = true) (hl : kvs.length < SZ) (q : Q (Mn.up m a (.dT (putk kvs ks v)))) : setW (.ref a) (.tup ks) v m Q := by
  show ∃ ob, dput m a (.tup ks) v = some ob ∧ Q (Mn.up m a ob)
  rcases h with h | ⟨h, e⟩
  · exact ⟨_, by simp [dput, h, hk, hl], q⟩
  · subst e
    exact ⟨.dT [(ks, v)], by simp [dput, h, hk], by simpa [putk] using q⟩
theorem dget_DT (h : DT m a kvs) (hk : D.keyds 7 ks = true) : dget m a (.tup ks) = some (look kvs ks) := by
  rcases h with h | ⟨h, e⟩
  · simp [dget, h, hk]
  · subst e; simp [dget, h, hk, look]
theorem rk_DT (h : DT m a kvs) : rk m (.ref a) = 2 := by
  rcases h with h | ⟨h, e⟩ <;> simp [rk, h]
theorem get_DT {d : D} (h : DT m a kvs) (hk : D.keyds 7 ks = true) : bmW .get (.ref a) [.tup ks, d] m P = P ((look kvs ks).getD d) m := by
  simp [bmW, dget_DT h hk]
theorem x_DT {d : D} (h : m a = some (.dT kvs)) (hk : D.keyds 7 ks = true) : ixW (.ref a) (.tup ks) m P = ∃ d, look kvs ks = some d ∧ P d m := by
  simp [ixW, h, dget, hk]
theorem x_DT2 {d : D} (h : DT m a kvs) (hk : D.keyds 7 ks = true) (e : look kvs ks = some d) : ixW (.ref a) (.tup ks) m P = P d m := by
  rcases h with h | ⟨h, e2⟩
  · rw [x_DT (d := d) h hk]
    simp [e]
  · subst e2; simp [look] at e
theorem in_DT {neg : Bool} (h : DT m a kvs) (hk : D.keyds 7 ks = true) : inW (.tup ks) (.ref a) neg m P = P (.bl (xor neg (look kvs ks).isSome)) m := by
  have e := dget_DT h hk
  rcases h with h | ⟨h, _⟩ <;> simp [inW, h, e]
theorem list_DT (h : DT m a kvs) : bfW .list [.ref a] m P = ∀ p, m p = none → P (.ref p) (Mn.up m p (.lst (kvs.map fun kv => .tup kv.1))) := by
  rcases h with h | ⟨h, e⟩
  · simp [bfW, seqOf, h, newO]
  · subst e; simp [bfW, seqOf, h, newO]
theorem len_DT (h : DT m a kvs) : bfW .len [.ref a] m P = P (.int kvs.length) m := by
  rcases h with h | ⟨h, e⟩
  · simp [bfW, h]
  · subst e; simp [bfW, h]
theorem pop_DT {z : D} (h : DT m a kvs) (hk : D.keyds 7 ks = true) (q : ∀ d m2, d = (look kvs ks).getD z → Keep a m m2 → DT m2 a (dropk kvs ks) → P d m2) : bmW .pop (.ref a) [.tup ks, z] m P := by
  rcases h with h | ⟨h, e⟩
  · simp only [bmW, h, hk, true_and]
    cases e : look kvs ks with
    | none =>
      refine q _ _ (by rw [e]; rfl) .refl ?_
      have : dropk kvs ks = kvs := by
        unfold dropk
        refine List.filter_eq_self.mpr fun kv hkv => ?_
        have := look_none.mp e
        simp only [ne_eq, decide_eq_true_eq]
        exact fun z => this (List.mem_map.mpr ⟨kv, hkv, z⟩)
      rw [this]; exact .inl h
    | some d => exact q _ _ (by rw [e]; rfl) .up .up
  · subst e
    simp only [bmW, h, kyOf, hk, true_and]
    exact q _ _ rfl .refl (.inr ⟨h, rfl⟩)
end
/-- a sorted list of tuples -/
theorem sorted_map {α : Type} {g : α → D} {m : Hm} {P : PD} {a : Nat} {l : List α} (hg : ∀ a, isTupD (g a) = true ∧ D.flat 59 (g a) = true) (hb : ∀ a b, D.alike (g a) (g b) = true) (h : m a = some (.lst (l.map g))) (hl : l.length ≤ SZ)
    (q : ∀ p, m p = none → P (.ref p) (up m p (.lst ((l.mergeSort fun a b => leD (g a) (g b)).map g)))) : bfW .sorted [.ref a] m P := by
  cases l with
  | nil =>
    simp only [bfW, h]
    intro p hp
    simpa using q p hp
  | cons o os =>
    have hfl : ∀ l : List α, D.flats 59 (l.map g) = true := fun l => by
      induction l with
      | nil => rfl
      | cons x xs ih => simp only [List.map_cons, D.flats, Bool.and_eq_true]; exact ⟨(hg x).2, ih⟩
    refine sorted_any h ?_ ?_ fun p hp => ?_
    · have := (hg o).1
      simp only [List.map_cons, intsOf]
      cases e : g o <;> first | rfl | (rw [e] at this; cases this)
    · simp only [sortable, Bool.and_eq_true, Bool.or_eq_true, decide_eq_true_eq, List.all_eq_true, List.length_map]
      refine ⟨⟨⟨.inl fun d hd => ?_, fun d hd e he => ?_⟩, hfl _⟩, hl⟩
      · obtain ⟨x, _, rfl⟩ := List.mem_map.mp hd; exact (hg x).1
      · obtain ⟨x, _, rfl⟩ := List.mem_map.mp hd
        obtain ⟨y, _, rfl⟩ := List.mem_map.mp he
        exact hb x y
    · rw [← List.map_mergeSort (r := fun a b => leD (g a) (g b)) (s := leD) (f := g) (l := o :: os) fun a _ b _ => rfl]
      exact q p hp
end Mn
namespace Mn
/-- a while: I holds of how many tests there still may be -/
theorem while_inv {test : Env → Hm → (Bool → Hm → Prop) → Prop} {body : Env → Hm → (Env → Hm → Prop) → Prop} {done : Env → Hm → Prop} (I : Nat → Env → Hm → Prop)
    (h : ∀ g r m, I (g + 1) r m → ∀ nx : Env → Hm → Prop, (∀ r2 m2, I g r2 m2 → g ≠ 0 → nx r2 m2) → test r m fun b m1 => if b = true then body r m1 nx else done r m1) :
    ∀ {n : Nat} {r : Env} {m : Hm}, n ≠ 0 → I n r m → whileW test body done n r m
  | 0, _, _, hn, _ => absurd rfl hn
  | n + 1, r, m, _, hI => h n r m hI _ fun r2 m2 h2 hne => while_inv I h hne h2
end Mn
namespace Mn
theorem whl_shut {g : Sg} {X : XD} {c : E} {b : Ss} {r : Env} {m : Hm} {Q : K} (h : ∀ B, B = b → wpS g X (.whl c B) r m Q) : wpS g X (.whl c b) r m Q := h b rfl
end Mn
namespace Mn
theorem any_look {κ : Type} [DecidableEq κ] {kvs : List (κ × D)} {k : κ} (h : (look kvs k).isSome = true) : (kvs.any fun kv => decide (kv.1 = k)) = true := by
  rw [any_key]
  exact decide_eq_true (Classical.not_not.mp fun z => by rw [look_none.mpr z] at h; cases h)
end Mn
end

section
set_option Elab.async false
set_option linter.all false
set_option maxRecDepth 100000
set_option maxHeartbeats 4000000
set_option pp.maxSteps 600
namespace Mn.K04
open Mn
variable {n : Nat} {m : Hm} {P : PD} {X : Nat → Hm → Prop}
theorem bag_ne {p k q : Nat} (hb : Bag m p k) (hq : m q = none) : q ≠ p := by
  obtain ⟨o, ho⟩ := hb.at
  exact (ne_new hq ho).symm
/-! plans -/
def tOpen : List Nat := [111, 112, 101, 110, 101, 114]
def tSeek : List Nat := [115, 101, 101, 107, 101, 114]
def tKnob : List Nat := [107, 110, 111, 98]
def tBell : List Nat := [98, 101, 108, 108]
def tDoor : List Nat := [100, 111, 111, 114]
def kinds : List (List Nat) := [tSeek, tKnob, tBell, tDoor]
structure Dv where
  k : List Nat
  a : Int
def Dv.D (d : Dv) : Mn.D := .tup [.str d.k, .int d.a]
inductive Pl where
  | op
  | dev (d : Dv) (sp : List Dv)
def Pl.D : Pl → Mn.D
  | .op => .tup [.str tOpen, .int 0, .tup []]
  | .dev d sp => .tup [.str d.k, .int d.a, .tup (sp.map Dv.D)]
def Pl.devs : Pl → List Dv
  | .op => []
  | .dev d sp => d :: sp
structure PlanT where
  most : Int
  loops : List (List Pl)
  zones : List (List Nat × List Int)
def loopD (l : List Pl) : Mn.D := .tup (l.map Pl.D)
def zoneD (z : List Nat × List Int) : Mn.D := .tup [.str z.1, .tup (z.2.map Mn.D.int)]
def PlanT.D (p : PlanT) : Mn.D := .tup [.int p.most, .tup (p.loops.map loopD), .tup (p.zones.map zoneD)]
def devsL (l : List Pl) : List Dv := l.flatMap Pl.devs
def PlanT.devs (p : PlanT) : List Dv := p.loops.flatMap devsL
/-- how many devices stand between openers next to one another; k ahead -/
def partsFrom : Nat → List Pl → List Nat
  | k, [] => [k]
  | k, .op :: l => k :: partsFrom 0 l
  | k, .dev _ sp :: l => partsFrom (k + 1 + sp.length) l
def partsN (l : List Pl) : List Nat := partsFrom 0 l
def WfD (d : Dv) : Prop := d.k ∈ kinds ∧ 1 ≤ d.a ∧ d.a ≤ 99
def WfP : Pl → Prop
  | .op => True
  | .dev d sp => WfD d ∧ sp.length ≤ 3 ∧ ∀ s ∈ sp, WfD s
def toldBy (ds : List Dv) : List Int := (ds.filter fun d => decide (d.k = tSeek ∨ d.k = tKnob)).map Dv.a
def nameOk (s : List Nat) : Prop := 1 ≤ s.length ∧ s.length ≤ 8 ∧ ∀ c ∈ s, 97 ≤ c ∧ c ≤ 122
structure LetBy (p : PlanT) : Prop where
  m0 : 1 ≤ p.most
  m1 : p.most ≤ 30
  l0 : 1 ≤ p.loops.length
  l1 : p.loops.length ≤ 3
  lp : ∀ l ∈ p.loops, 1 ≤ l.length ∧ l.length ≤ 12 ∧ ∀ q ∈ l, WfP q
  n0 : 1 ≤ p.devs.length
  n1 : p.devs.length ≤ 30
  nd : (p.devs.map Dv.a).Nodup
  pt : ∀ l ∈ p.loops, ∀ c ∈ partsN l, (c : Int) ≤ p.most
  z1 : p.zones.length ≤ 8
  zn : ∀ z ∈ p.zones, nameOk z.1 ∧ z.2.Pairwise (· < ·) ∧ 1 ≤ z.2.length ∧ ∀ a ∈ z.2, a ∈ toldBy p.devs
  znd : (p.zones.map Prod.fst).Nodup
  zdis : (p.zones.flatMap Prod.snd).Nodup
/-! names -/
def letters : List Nat := [97, 98, 99, 100, 101, 102, 103, 104, 105, 106, 107, 108, 109, 110, 111, 112, 113, 114, 115, 116, 117, 118, 119, 120, 121, 122]
theorem nodup_sub {α : Type} [DecidableEq α] : ∀ {l k : List α}, l.Nodup → (∀ x ∈ l, x ∈ k) → l.length ≤ k.length
  | [], _, _, _ => Nat.zero_le _
  | x :: l, k, h, hs => by
    rw [List.nodup_cons] at h
    have hx : x ∈ k := hs x List.mem_cons_self
    have := nodup_sub (l := l) (k := k.erase x) h.2 fun y hy => (List.mem_erase_of_ne (fun z => h.1 (by rw [← z]; exact hy))).mpr (hs y (List.mem_cons_of_mem _ hy))
    rw [List.length_erase_of_mem hx] at this
    have := List.length_pos_of_mem hx
    simp only [List.length_cons]
    omega
theorem letter_at {j : Int} (h0 : 0 ≤ j) (h1 : j < 26) : ∃ c, atI letters j = some c ∧ 97 ≤ c ∧ c ≤ 122 := by
  obtain ⟨c, h2, h3, h4⟩ := atI_some (xs := letters) h0 (by simpa [letters] using h1)
  refine ⟨c, h2, ?_⟩
  have : ∀ c ∈ letters, 97 ≤ c ∧ c ≤ 122 := by decide
  exact this c h4
theorem s_name {p k : Nat} (hb : Bag m p (k + 9)) (post : ∀ s m2, nameOk s → Keep p m m2 → Bag m2 p k → P (.str s) m2) : callN T (n + 2) 0 347 [.ref p] m P X := by
  rw [call_iff F_law_name]
  refine ⟨rfl, ?_⟩
  have hSZ : (100000 : Nat) < SZ := by decide
  simp [-Bool.exists_bool, f_law_name, start, F_law_take]
  have hj : mok .join (rk m (.str [])) = true := rfl
  refine ⟨hj, ?_⟩
  refine take_ok F_law_take (n := k + 8) hb (by decide) (by decide) fun z m1 z0 z1 k1 b1 => ?_
  simp [-Bool.exists_bool]
  refine ⟨⟨by omega, by omega⟩, fun q hq => ?_⟩
  have hqp := bag_ne b1 hq
  refine comp_inv (p := q) (fun i acc m3 => m3 q = some (.lst acc) ∧ KeepS [p, q] m1 m3 ∧ Bag m3 p (k + (8 - i)) ∧ ∃ s : List Nat, acc = (s.map fun c => [c]).map D.str ∧ s.length = i ∧ ∀ c ∈ s, 97 ≤ c ∧ c ≤ 122) (k := 0) (acc := []) ⟨up_at, .new hq, b1.new hq, [], rfl, rfl, by simp⟩ (by simp only [rangeD_length, List.length_nil]; omega) (fun i x acc m3 Q1 Q2 hx hI q1 q2 => ?_) fun acc m3 hI => ?_
  · obtain ⟨h3, k3, b3, s, rfl, hs, hc⟩ := hI
    rw [Nat.zero_add] at b3 q1 hs
    obtain ⟨rfl, hi⟩ := range_get hx
    refine ⟨trivial, ?_⟩
    simp [-Bool.exists_bool, wipe]
    have b3' : Bag m3 p (k + (8 - (i + 1)) + 1) := b3.mono (by omega)
    refine take_ok F_law_take b3' (by decide) (by decide) fun j m4 j0 j1 k4 b4 => ?_
    refine ⟨by simp [SZ], ?_⟩
    obtain ⟨c, hc1, hc2⟩ := letter_at j0 j1
    refine ⟨c, hc1, q1 _ _ (k4 _ _ hqp h3) ⟨up_at, (k3.trans (k4.keepS (by simp))).trans (.up (by simp)), b4.off hqp.symm, s ++ [c], by simp, by simp [hs], fun y hy => ?_⟩⟩
    rcases List.mem_append.mp hy with h | h
    · exact hc y h
    · rw [List.mem_singleton.mp h]; exact hc2
  · obtain ⟨h3, k3, b3, s, rfl, hs, hc⟩ := hI
    rw [rangeD_length, Nat.zero_add] at b3 hs
    refine ⟨trivial, ?_⟩
    have hl : s.length ≤ 8 := by omega
    show rk m3 (.str []) = rk m (.str []) ∧ _
    refine ⟨rfl, ?_⟩
    rw [join_strs h3, joinT_nil, one_signs]
    refine ⟨?_, post s m3 ⟨by omega, hl, hc⟩ (fun o ob ho hh => ?_) (b3.mono (by omega))⟩
    · have : ((s.map fun c => [c]).map List.length).sum = s.length := by
        clear h3 hs hc hl
        induction s with
        | nil => rfl
        | cons c s ih => simp only [List.map_cons, List.sum_cons, ih, List.length_cons, List.length_nil]; omega
      rw [this, List.length_map]
      simp only [List.length_nil, Nat.mul_zero]
      omega
    · have h1 := k1 _ _ ho hh
      exact k3 _ _ (by simp only [List.mem_cons, List.not_mem_nil, or_false, not_or]; exact ⟨ho, ne_new hq h1⟩) h1
theorem nameOk_pln {s : List Nat} (h : nameOk s) : pln s = true := by
  simp only [pln, List.all_eq_true, decide_eq_true_eq]
  intro c hc
  have := (h.2.2 c hc).2
  omega
theorem any_strs {ss : List (List Nat)} {s : List Nat} : ((ss.map D.str).any fun z => D.eqv z (.str s)) = decide (s ∈ ss) := by
  induction ss with
  | nil => simp
  | cons x xs ih =>
    simp only [List.map_cons, List.any_cons, ih, D.eqv, List.mem_cons]
    by_cases h : x = s
    · simp [h]
    · simp [h, Ne.symm h]
def fS (t : List Nat) (found : List (List Nat)) : D → Option D
  | .str [c] => if (c :: t) ∈ found then none else some (.str (c :: t))
  | _ => none
theorem fS_some {t : List Nat} {found : List (List Nat)} (h : found.length < 26) : ∃ c ∈ letters, (c :: t) ∉ found ∧ ((letters.map fun c => D.str [c]).filterMap (fS t found))[0]? = some (.str (c :: t)) := by
  have hex : ∃ c ∈ letters, (c :: t) ∉ found := by
    refine Classical.byContradiction fun hno => ?_
    have hall : ∀ x ∈ letters.map (fun c => c :: t), x ∈ found := fun x hx => by
      obtain ⟨c, hc, rfl⟩ := List.mem_map.mp hx
      exact Classical.byContradiction fun z => hno ⟨c, hc, z⟩
    have nd : (letters.map fun c => c :: t).Nodup := by
      have h0 : letters.Nodup := by decide
      exact List.pairwise_map.mpr (h0.imp fun h z => h (by simpa using z))
    have := nodup_sub nd hall
    rw [List.length_map] at this
    have : letters.length = 26 := rfl
    omega
  generalize letters = ls at hex
  induction ls with
  | nil => obtain ⟨c, hc, _⟩ := hex; cases hc
  | cons x ls ih =>
    by_cases hx : (x :: t) ∈ found
    · obtain ⟨c, hc, hn⟩ := hex
      have hc2 : c ∈ ls := (List.mem_cons.mp hc).elim (fun e => (hn (by rw [e]; exact hx)).elim) id
      obtain ⟨c, h1, h2, h3⟩ := ih ⟨c, hc2, hn⟩
      refine ⟨c, List.mem_cons_of_mem _ h1, h2, ?_⟩
      have e : fS t found (.str [x]) = none := by simp [fS, hx]
      rw [List.map_cons, List.filterMap_cons, e]
      exact h3
    · have e : fS t found (.str [x]) = some (.str (x :: t)) := by simp [fS, hx]
      refine ⟨x, List.mem_cons_self, hx, ?_⟩
      rw [List.map_cons, List.filterMap_cons, e]
      rfl
theorem s_names {p k : Nat} {z : Int} (z0 : 0 ≤ z) (z1 : z ≤ 20) (hb : Bag m p (k + 200)) (post : ∀ (q : Nat) (ss : List (List Nat)) (m2 : Hm), m q = none → Keep p m m2 → m2 q = some (.lst (ss.map D.str)) → ss.Nodup → (∀ s ∈ ss, nameOk s) → (ss.length : Int) = z → Bag m2 p k → P (.ref q) m2) :
    callN T (n + 3) 0 348 [.ref p, .int z] m P X := by
  rw [call_iff F_law_names]
  refine ⟨rfl, ?_⟩
  have hSZ : (100000 : Nat) < SZ := by decide
  unfold f_law_names start
  simp only [List.map, List.length, List.replicate, List.cons_append, List.nil_append]
  refine seq_to (fun r1 m1 => ∃ q, r1 = [some (.ref p), some (.int z), some (.ref q), none, none, none] ∧ m q = none ∧ m1 = up m q (.lst [])) (fun nx hn => ?_) ?_
  · simp [-Bool.exists_bool]
    exact fun q hq => hn _ _ ⟨q, rfl, hq, rfl⟩
  rintro _ _ ⟨q, rfl, hq, rfl⟩
  have hqp := bag_ne hb hq
  let I : Nat → Mn.Env → Hm → Prop := fun i r1 m2 => ∃ x y, ∃ ss : List (List Nat), r1 = [some (.ref p), some (.int z), some (.ref q), x, y, none] ∧ KeepS [p, q] m m2 ∧ m2 q = some (.lst (ss.map D.str)) ∧ ss.length = i ∧ ss.Nodup ∧ (∀ s ∈ ss, nameOk s) ∧ Bag m2 p (k + (200 - 10 * i))
  refine seq_to (I z.toNat) (fun nx hn => ?_) ?_
  · refine fr_shut fun B hB => ?_
    have hz : inB z := ⟨by omega, by omega⟩
    simp [-Bool.exists_bool, hz]
    refine loop_inv I (k := 0) ⟨none, none, [], rfl, .new hq, up_at, rfl, .nil, by simp, hb.new hq⟩ (fun i x r1 m2 nx2 hx hI hn2 => ?_) fun r1 m2 hI => ?_
    · obtain ⟨_, y, ss, rfl, k2, q2, hl, nd, ok, b2⟩ := hI
      rw [Nat.zero_add] at hl b2 hn2
      obtain ⟨rfl, hi⟩ := range_get hx
      refine ⟨trivial, ?_⟩
      subst hB
      rw [Int.zero_add]
      refine seq_to (fun r1 m3 => ∃ s, r1 = [some (.ref p), some (.int z), some (.ref q), some (.int ((i : Nat) : Int)), some (.str s), none] ∧ nameOk s ∧ Keep p m2 m3 ∧ Bag m3 p (k + (200 - 10 * (i + 1)))) (fun nx hn => ?_) ?_
      · simp [-Bool.exists_bool, F_law_name]
        refine s_name (n := n) (k := k + (200 - 10 * (i + 1))) (b2.mono (by omega)) fun s m3 hs k3 b3 => ?_
        exact hn _ _ ⟨s, rfl, hs, k3, b3⟩
      rintro _ m3 ⟨s, rfl, hs, k3, b3⟩
      have q3 := k3 _ _ hqp q2
      have fss : D.flats 60 (ss.map D.str) = true := flats_strs fun s h => nameOk_pln (ok s h)
      refine seq_to (fun r1 m4 => ∃ s, r1 = [some (.ref p), some (.int z), some (.ref q), some (.int ((i : Nat) : Int)), some (.str s), none] ∧ nameOk s ∧ s ∉ ss ∧ Ext m3 m4) (fun nx hn => ?_) ?_
      · simp [-Bool.exists_bool, in_eq]
        refine in_flat q3 (by simpa [D.flat, pln] using nameOk_pln hs) fss ?_
        rw [any_strs]
        by_cases hm : s ∈ ss
        · simp [-Bool.exists_bool, hm]
          intro c hc
          have hsl : s.length ≤ SZ := by have := hs.2.1; omega
          have hct : cut s (some 1) none = s.tail := by
            have h1 := hs.1
            unfold cut sIx
            simp only [if_neg (show ¬ (1 : Int) < 0 by decide)]
            have : min (1 : Int).toNat s.length = 1 := by
              have : (1 : Int).toNat = 1 := rfl
              rw [this]
              omega
            rw [this, List.drop_one, List.take_of_length_le]
            simp
          refine comp_map (p := c) (acc := []) (fS s.tail ss) (fun acc => trivial) (by simp [SZ]) (fun x hx acc Q1 Q2 hQ => ?_) ?_
          · simp only [List.mem_cons, List.not_mem_nil, or_false] at hx
            have hx2 : ∃ a, x = .str [a] ∧ a ∈ letters := by
              rcases hx with e | e | e | e | e | e | e | e | e | e | e | e | e | e | e | e | e | e | e | e | e | e | e | e | e | e <;> exact ⟨_, e, by simp [letters]⟩
            obtain ⟨a, rfl, ha⟩ := hx2
            have hla : a < 1114112 := by have : ∀ c ∈ letters, c < 1114112 := by decide
                                         exact this a ha
            have hlt : 1 + (s.length - 1) ≤ SZ := by have := hs.2.1; omega
            simp [-Bool.exists_bool, wipe, hsl, hct, hlt, nin_eq]
            refine in_flat (get_new hc q3) ?_ fss ?_
            · have := nameOk_pln hs
              simp only [pln, List.all_eq_true, decide_eq_true_eq] at this
              simp only [D.flat, List.all_eq_true, decide_eq_true_eq]
              intro y hy
              rcases List.mem_cons.mp hy with e | e
              · rw [e]; exact hla
              · exact this y (List.mem_of_mem_tail e)
            · rw [any_strs]
              by_cases hf : (a :: s.tail) ∈ ss
              · simp [fS, hf] at hQ
                simp [-Bool.exists_bool, hf]
                exact hQ
              · simp [fS, hf] at hQ
                simp [-Bool.exists_bool, hf, hsl, hct, hlt]
                exact hQ
          · obtain ⟨a, ha, hno, hat⟩ := fS_some (t := s.tail) (found := ss) (by omega)
            have hal : 97 ≤ a ∧ a ≤ 122 := by
              have : ∀ c ∈ letters, 97 ≤ c ∧ c ≤ 122 := by decide
              exact this a ha
            rw [x_ref up_at, List.nil_append]
            refine ⟨.str (a :: s.tail), ?_, hn _ _ ⟨_, rfl, ⟨by simp, ?_, fun y hy => ?_⟩, hno, .new hc⟩⟩
            · have e : atI ((letters.map fun c => D.str [c]).filterMap (fS s.tail ss)) 0 = some (.str (a :: s.tail)) := by
                unfold atI ixN
                have hlen : 0 < ((letters.map fun c => D.str [c]).filterMap (fS s.tail ss)).length := by
                  have := (List.getElem?_eq_some_iff.mp hat).1
                  exact this
                rw [if_pos (by decide), if_pos (by exact_mod_cast hlen)]
                exact hat
              exact e
            · have := hs.2.1
              rw [List.length_cons, List.length_tail]
              have := hs.1
              omega
            · rcases List.mem_cons.mp hy with e | e
              · rw [e]; exact hal
              · exact hs.2.2 y (List.mem_of_mem_tail e)
        · simp [-Bool.exists_bool, hm]
          exact hn _ _ ⟨s, rfl, hs, hm, .refl⟩
      clear hs
      rintro _ m4 ⟨s, rfl, hs, hns, e4⟩
      have q4 := e4 _ _ q3
      simp [-Bool.exists_bool, rk_ref q4, mok]
      rw [app_ref q4]
      refine ⟨by rw [List.length_map]; omega, hn2 _ _ ⟨_, _, ss ++ [s], rfl, ((k2.trans (k3.keepS (by simp))).trans e4.keepS).trans (.up (by simp)), by rw [up_at]; simp, by simp [hl], ?_, fun y hy => ?_, ?_⟩⟩
      · rw [List.nodup_append]
        exact ⟨nd, by simp, fun x hx y hy => by rw [List.mem_singleton.mp hy]; exact fun z => hns (z ▸ hx)⟩
      · rcases List.mem_append.mp hy with h | h
        · exact ok y h
        · rw [List.mem_singleton.mp h]; exact hs
      · exact (b3.ext e4).off hqp.symm
    · rw [rangeD_length, Nat.zero_add] at hI
      exact ⟨trivial, hn _ _ hI⟩
  rintro _ m2 ⟨x, y, ss, rfl, k2, q2, hl, nd, ok, b2⟩
  simp [-Bool.exists_bool]
  refine post q ss m2 hq (fun o ob ho hh => k2 _ _ (by simp only [List.mem_cons, List.not_mem_nil, or_false, not_or]; exact ⟨ho, ne_new hq hh⟩) hh) q2 nd ok (by omega) (b2.mono (by omega))
end Mn.K04
end

section
set_option Elab.async false
set_option linter.all false
set_option maxRecDepth 100000
set_option maxHeartbeats 4000000
set_option pp.maxSteps 600
namespace Mn.K04
open Mn
variable {n : Nat} {m : Hm} {P : PD} {X : Nat → Hm → Prop}
theorem devsL_snoc {l : List Pl} {q : Pl} : devsL (l ++ [q]) = devsL l ++ q.devs := by simp [devsL]
theorem s_loop {p nu k : Nat} {mp : Int} {ns : List Int} (hp1 : 1 ≤ mp) (hp2 : mp ≤ 12) (hb : Bag m p (k + 100)) (hnu : m nu = some (.lst (ns.map D.int))) (hne : nu ≠ p) (hns : ∀ a ∈ ns, 1 ≤ a ∧ a ≤ 99) (hnl : ns.length ≤ 100)
    (post : ∀ (l : List Pl) (ns2 : List Int) m2, 1 ≤ l.length → (l.length : Int) ≤ mp → (∀ q ∈ l, WfP q) → (devsL l).map Dv.a ++ ns2 = ns → KeepS [p, nu] m m2 → m2 nu = some (.lst (ns2.map D.int)) → Bag m2 p k → P (loopD l) m2) :
    callN T (n + 2) 0 349 [.ref p, .ref nu, .int mp] m P X := by
  rw [call_iff F_law_loop]
  refine ⟨rfl, ?_⟩
  have hSZ : (100000 : Nat) < SZ := by decide
  unfold f_law_loop start
  simp only [List.map, List.length, List.replicate, List.cons_append, List.nil_append]
  let En : Nat → List (Option D) → Mn.Env := fun q xs => [some (.ref p), some (.ref nu), some (.int mp), some (.ref q)] ++ xs
  refine seq_to (fun r1 m1 => ∃ q, r1 = En q [none, none, none, none] ∧ m q = none ∧ m1 = up m q (.lst [])) (fun nx hn => ?_) ?_
  · simp [-Bool.exists_bool]
    exact fun q hq => hn _ _ ⟨q, rfl, hq, rfl⟩
  rintro _ _ ⟨q, rfl, hq, rfl⟩
  have hqp := bag_ne hb hq
  have hqn : nu ≠ q := ne_new hq hnu
  let J : Nat → Hm → List Pl → List Int → Prop := fun b m2 l ns2 => KeepS [p, nu, q] m m2 ∧ m2 q = some (.lst (l.map Pl.D)) ∧ (∀ x ∈ l, WfP x) ∧ (devsL l).map Dv.a ++ ns2 = ns ∧ m2 nu = some (.lst (ns2.map D.int)) ∧ Bag m2 p (k + b)
  refine seq_to (fun r1 m2 => ∃ x y z w, ∃ l : List Pl, ∃ ns2 : List Int, r1 = En q [x, y, z, w] ∧ 1 ≤ l.length ∧ (l.length : Int) ≤ mp ∧ J 0 m2 l ns2) (fun nx hn => ?_) ?_
  · refine fr_shut fun B hB => ?_
    simp [-Bool.exists_bool, En, F_law_take]
    refine take_ok F_law_take (n := k + 90) ((hb.new hq).mono (by omega)) (by omega) (by omega) fun z m1 z0 z1 k1 b1 => ?_
    simp [-Bool.exists_bool]
    refine ⟨⟨by omega, by omega⟩, ?_⟩
    refine loop_inv (fun i r1 m2 => ∃ x y z w, ∃ l : List Pl, ∃ ns2 : List Int, r1 = En q [x, y, z, w] ∧ l.length = i ∧ J (90 - 7 * i) m2 l ns2) (k := 0) ⟨none, none, none, none, [], ns, rfl, rfl, (KeepS.new hq).trans (k1.keepS (by simp)), k1 _ _ hqp up_at, by simp, rfl, k1 _ _ hne (get_new hq hnu), b1⟩ (fun i x r1 m2 nx2 hx hI hn2 => ?_) fun r1 m2 hI => ?_
    · obtain ⟨_, y, v, w, l, ns2, rfl, hl, k2, q2, wf, hdv, n2, b2⟩ := hI
      rw [Nat.zero_add] at hl b2 hn2
      obtain ⟨rfl, hi⟩ := range_get hx
      have hi12 : i < 12 := by omega
      refine ⟨trivial, ?_⟩
      subst hB
      rw [Int.zero_add]
      have hn2l : ns2.length ≤ 100 := by
        have := congrArg List.length hdv
        rw [List.length_append] at this
        omega
      have hn2b : ∀ a ∈ ns2, 1 ≤ a ∧ a ≤ 99 := fun a ha => hns a (by rw [← hdv]; exact List.mem_append_right _ ha)
      -- how many
      refine seq_to (fun r1 m3 => ∃ c : Int, r1 = En q [some (.int ((i : Nat) : Int)), some (.int c), v, w] ∧ 1 ≤ c ∧ c ≤ 4 ∧ Keep p m2 m3 ∧ Bag m3 p (k + (90 - 7 * i - 1))) (fun nx hn => ?_) ?_
      · simp [-Bool.exists_bool, En, F_law_take]
        intro t ht
        refine take_ok F_law_take (n := k + (90 - 7 * i - 1)) ((b2.new ht).mono (by omega)) (by decide) (by decide) fun j m3 j0 j1 k3 b3 => ?_
        rw [x_ref (k3 _ _ (bag_ne b2 ht) up_at)]
        obtain ⟨d, hd, c, rfl, c0, c1⟩ := at_all (p := fun d => ∃ c : Int, d = .int c ∧ 0 ≤ c ∧ c ≤ 3) (ds := [.int 0, .int 0, .int 0, .int 1, .int 2, .int 3]) (by simp) j0 (by simpa using j1)
        refine ⟨_, hd, ?_⟩
        simp [-Bool.exists_bool]
        exact hn _ _ ⟨1 + c, rfl, by omega, by omega, (Ext.new ht).keep.trans k3, b3⟩
      rintro _ m3 ⟨c, rfl, c1, c4, k3, b3⟩
      have q3 := k3 _ _ hqp q2
      have n3 := k3 _ _ hne n2
      have put : ∀ m4 (o : Pl) ns3 v w, KeepS [p, nu] m3 m4 → WfP o → o.devs.map Dv.a ++ ns3 = ns2 → m4 nu = some (.lst (ns3.map D.int)) → Bag m4 p (k + (90 - 7 * (i + 1))) → nx2 (En q [some (.int ((i : Nat) : Int)), some (.int c), v, w]) (up m4 q (.lst (l.map Pl.D ++ [o.D]))) := fun m4 o ns3 v w k4 wo ho n4 b4 => by
        refine hn2 _ _ ⟨_, _, _, _, l ++ [o], ns3, rfl, by simp [hl], ?_, by rw [up_at]; simp, fun x hx => ?_, ?_, by rw [up_off hqn]; exact n4, b4.off hqp.symm⟩
        · exact ((k2.trans (k3.keepS (by simp))).trans (k4.mono (by simp))).trans (.up (by simp))
        · rcases List.mem_append.mp hx with h | h
          · exact wf x h
          · rw [List.mem_singleton.mp h]; exact wo
        · rw [devsL_snoc, List.map_append, List.append_assoc, ho, hdv]
      have q4 : ∀ m4, KeepS [p, nu] m3 m4 → m4 q = some (.lst (l.map Pl.D)) := fun m4 k4 => k4 _ _ (by simp [hqp, hqn.symm]) q3
      have opn : ∀ m4, Keep p m3 m4 → Bag m4 p (k + (90 - 7 * (i + 1))) → mok .append (rk m4 (.ref q)) = true ∧ bmW .append (.ref q) [.tup [.str tOpen, .int 0, .tup []]] m4 fun _ m5 => nx2 (En q [some (.int ((i : Nat) : Int)), some (.int c), v, w]) m5 := fun m4 k4 b4 => by
        have h4 := q4 m4 (k4.keepS (by simp))
        refine ⟨by rw [rk_ref h4]; rfl, ?_⟩
        rw [app_ref h4]
        exact ⟨by rw [List.length_map]; omega, put m4 .op ns2 _ _ (k4.keepS (by simp)) trivial rfl (k4 _ _ hne n3) b4⟩
      refine ife_shut fun A Bb hA hBb => ?_
      simp [-Bool.exists_bool, En, F_law_take]
      refine take_ok F_law_take (n := k + (90 - 7 * i - 2)) (b3.mono (by omega)) (by decide) (by decide) fun t m4 t0 t1 k4 b4 => ?_
      by_cases ht : t = 0
      · simp [-Bool.exists_bool, ht]
        subst hA
        simp [-Bool.exists_bool]
        exact opn m4 k4 (b4.mono (by omega))
      · have n4 := k4 _ _ hne n3
        simp [-Bool.exists_bool, ht]
        rw [len_ref n4, List.length_map]
        by_cases hlt : (ns2.length : Int) < c
        · simp [-Bool.exists_bool, hlt]
          subst hA
          simp [-Bool.exists_bool]
          exact opn m4 k4 (b4.mono (by omega))
        · simp [-Bool.exists_bool, hlt]
          subst hBb
          -- devices
          refine seq_to (fun r1 m5 => ∃ s, r1 = En q [some (.int ((i : Nat) : Int)), some (.int c), some (.ref s), w] ∧ m4 s = none ∧ m5 = up m4 s (.lst [])) (fun nx hn => ?_) ?_
          · simp [-Bool.exists_bool, En]
            intro s hs
            exact hn _ _ ⟨s, rfl, hs, rfl⟩
          rintro _ _ ⟨s, rfl, hs0, rfl⟩
          have hsp := bag_ne b4 hs0
          have hsn : nu ≠ s := ne_new hs0 n4
          refine seq_to (fun r1 m5 => ∃ w, ∃ ds : List Dv, ∃ ns3 : List Int, r1 = En q [some (.int ((i : Nat) : Int)), some (.int c), some (.ref s), w] ∧ (ds.length : Int) = c ∧ KeepS [p, nu, s] m4 m5 ∧ m5 s = some (.lst (ds.map Dv.D)) ∧ (∀ d ∈ ds, WfD d) ∧ ds.map Dv.a ++ ns3 = ns2 ∧ m5 nu = some (.lst (ns3.map D.int)) ∧ Bag m5 p (k + (90 - 7 * (i + 1)))) (fun nx hn => ?_) ?_
          · refine fr_shut fun B hB => ?_
            have hc : inB c := ⟨by omega, by omega⟩
            simp [-Bool.exists_bool, En, hc]
            refine loop_inv (fun j r1 m5 => ∃ w, ∃ ds : List Dv, ∃ ns3 : List Int, r1 = En q [some (.int ((i : Nat) : Int)), some (.int c), some (.ref s), w] ∧ ds.length = j ∧ KeepS [p, nu, s] m4 m5 ∧ m5 s = some (.lst (ds.map Dv.D)) ∧ (∀ d ∈ ds, WfD d) ∧ ds.map Dv.a ++ ns3 = ns2 ∧ m5 nu = some (.lst (ns3.map D.int)) ∧ Bag m5 p (k + (90 - 7 * i - 2 - j))) (k := 0) ⟨w, [], ns2, rfl, rfl, .new hs0, up_at, by simp, rfl, get_new hs0 n4, b4.new hs0⟩ (fun j x r1 m5 nx5 hx5 hI hn5 => ?_) fun r1 m5 hI => ?_
            · obtain ⟨_, ds, ns3, rfl, hdl, k5, s5, wd, hd3, n5, b5⟩ := hI
              rw [Nat.zero_add] at hdl b5 hn5
              obtain ⟨rfl, hj⟩ := range_get hx5
              have hj4 : j < 4 := by omega
              refine ⟨trivial, ?_⟩
              subst hB
              have h3l : 0 < ns3.length := by
                have := congrArg List.length hd3
                rw [List.length_append, List.length_map] at this
                omega
              match ns3, h3l with
              | a :: ns4, _ =>
              simp [-Bool.exists_bool, En, rk_ref s5, mok, F_law_take]
              intro t2 ht2
              refine take_ok F_law_take (n := k + (90 - 7 * i - 2 - (j + 1))) ((b5.new ht2).mono (by omega)) (by decide) (by decide) fun u m6 u0 u1 k6 b6 => ?_
              rw [x_ref (k6 _ _ (bag_ne b5 ht2) up_at)]
              obtain ⟨d, hd, kd, rfl, hkd⟩ := at_all (p := fun d => ∃ kd, d = .str kd ∧ kd ∈ kinds) (ds := [.str tSeek, .str tKnob, .str tBell, .str tDoor]) (by simp [kinds]) u0 (by simpa using u1)
              refine ⟨_, hd, ?_⟩
              have n6 := k6 _ _ hne (get_new ht2 n5)
              have s6 := k6 _ _ hsp (get_new ht2 s5)
              simp [-Bool.exists_bool, rk_ref n6, mok]
              rw [pop_at n6]
              refine ⟨⟨by decide, by decide⟩, 0, .int a, by simp [ixN], by simp, ?_⟩
              have s7 : up m6 nu (.lst (((a :: ns4).map D.int).eraseIdx 0)) s = some (.lst (ds.map Dv.D)) := by rw [up_off hsn.symm]; exact s6
              refine ⟨rk_ref s7, ?_⟩
              rw [app_ref s7]
              refine ⟨by rw [List.length_map]; omega, hn5 _ _ ⟨_, ds ++ [⟨kd, a⟩], ns4, rfl, by simp [hdl], ?_, by rw [up_at]; simp [Dv.D], fun y hy => ?_, by rw [← hd3]; simp, by rw [up_off hsn, up_at]; simp, (b6.off hne.symm).off hsp.symm⟩⟩
              · exact ((k5.trans ((KeepS.new ht2).trans (k6.keepS (by simp)))).trans (.up (by simp))).trans (.up (by simp))
              · rcases List.mem_append.mp hy with h | h
                · exact wd y h
                · rw [List.mem_singleton.mp h]
                  have := hn2b a (by rw [← hd3]; simp)
                  exact ⟨hkd, this.1, this.2⟩
            · rw [rangeD_length, Nat.zero_add] at hI
              obtain ⟨w, ds, ns3, rfl, h1, h2, h3, h4, h5, h6, h7⟩ := hI
              exact ⟨trivial, hn _ _ ⟨w, ds, ns3, rfl, by omega, h2, h3, h4, h5, h6, h7.mono (by omega)⟩⟩
          rintro _ m5 ⟨w5, ds, ns3, rfl, hdl, k5, s5, wd, hd3, n5, b5⟩
          have hdl2 : 0 < ds.length := by omega
          match ds, hdl2 with
          | d :: rest, _ =>
          have k35 : KeepS [p, nu] m3 m5 := fun o ob ho hh => by
            have h4 := k4 _ _ (fun z => ho (by simp [z])) hh
            refine k5 _ _ ?_ h4
            simp only [List.mem_cons, List.not_mem_nil, or_false, not_or] at ho ⊢
            exact ⟨ho.1, ho.2, ne_new hs0 h4⟩
          have h5 := q4 m5 k35
          simp [-Bool.exists_bool, En, rk_ref h5, mok]
          rw [x_ref s5]
          refine ⟨d.D, by simp [atI, ixN], ?_⟩
          have hct : cut ((d :: rest).map Dv.D) (some 1) none = rest.map Dv.D := by
            unfold cut sIx
            simp only [if_neg (show ¬ (1 : Int) < 0 by decide), List.map_cons, List.length_cons]
            have : min (1 : Int).toNat ((rest.map Dv.D).length + 1) = 1 := by
              have : (1 : Int).toNat = 1 := rfl
              rw [this]
              omega
            rw [this, List.drop_one, List.tail_cons, List.take_of_length_le (by omega)]
          rw [sl_ref s5, hct]
          intro t3 ht3
          rw [tuple_ref up_at]
          have h6 := get_new ht3 h5 (o2 := .lst (rest.map Dv.D))
          have hrl : rest.length ≤ 3 := by simp at hdl; omega
          simp [-Bool.exists_bool, Dv.D]
          refine ⟨by simp [SZ], rk_ref h6, ?_⟩
          rw [app_ref h6]
          refine ⟨by rw [List.length_map]; omega, ?_⟩
          exact put _ (.dev d rest) ns3 _ _ (k35.trans (.new ht3)) ⟨wd d (by simp), hrl, fun y hy => wd y (by simp [hy])⟩ hd3 (get_new ht3 n5) (b5.new ht3)
    · rw [rangeD_length, Nat.zero_add] at hI
      obtain ⟨x, y, z2, w, l, ns2, rfl, hl, h1, h2, h3, h4, h5, h6⟩ := hI
      exact ⟨trivial, hn _ _ ⟨x, y, z2, w, l, ns2, rfl, by omega, by omega, h1, h2, h3, h4, h5, h6.mono (by omega)⟩⟩
  rintro _ m2 ⟨x, y, z, w, l, ns2, rfl, l0, l1, k2, q2, wf, hdv, n2, b2⟩
  simp [-Bool.exists_bool, En]
  rw [tuple_ref q2]
  refine post l ns2 m2 l0 l1 wf hdv (fun o ob ho hh => k2 _ _ ?_ hh) n2 b2
  simp only [List.mem_cons, List.not_mem_nil, or_false, not_or] at ho ⊢
  exact ⟨ho.1, ho.2, ne_new hq hh⟩
theorem s_parts {l : List Pl} (hl : l.length ≤ 1000) (hs : ∀ q ∈ l, WfP q) (post : ∀ q m2, m q = none → Ext m m2 → m2 q = some (.lst ((partsN l).map fun (c : Nat) => D.int c)) → P (.ref q) m2) : callN T (n + 1) 0 350 [loopD l] m P X := by
  rw [call_iff F_law_parts]
  refine ⟨rfl, ?_⟩
  have hSZ : (100000 : Nat) < SZ := by decide
  unfold f_law_parts start
  simp only [List.map, List.length, List.replicate, List.cons_append, List.nil_append]
  refine seq_to (fun r1 m1 => ∃ q, r1 = [some (loopD l), some (.ref q), none, none, none] ∧ m q = none ∧ m1 = up m q (.lst [.int 0])) (fun nx hn => ?_) ?_
  · simp [-Bool.exists_bool]
    exact fun q hq => hn _ _ ⟨q, rfl, hq, rfl⟩
  rintro _ _ ⟨q, rfl, hq, rfl⟩
  let I : Nat → Mn.Env → Hm → Prop := fun i r1 m2 => ∃ x y z, ∃ done : List Nat, ∃ c : Nat, r1 = [some (loopD l), some (.ref q), x, y, z] ∧ Keep q m m2 ∧ m2 q = some (.lst ((done ++ [c]).map fun (c : Nat) => D.int c)) ∧ done ++ partsFrom c (l.drop i) = partsN l ∧ done.length ≤ i
  refine seq_to (I l.length) (fun nx hn => ?_) ?_
  · refine fr_shut fun B hB => ?_
    simp [-Bool.exists_bool, loopD]
    refine loop_inv I (k := 0) ⟨none, none, none, [], 0, rfl, .up, by rw [up_at]; rfl, by simp [partsN], by simp⟩ (fun i x r1 m2 nx2 hx hI hn2 => ?_) fun r1 m2 hI => ?_
    · obtain ⟨_, _, _, done, c, rfl, k2, q2, hd, hdl⟩ := hI
      rw [Nat.zero_add] at hd hdl hn2
      rw [List.getElem?_map] at hx
      cases e : l[i]? with
      | none => rw [e] at hx; cases hx
      | some o =>
        rw [e] at hx
        cases hx
        have hi : i < l.length := (List.getElem?_eq_some_iff.mp e).1
        have dr : l.drop i = o :: l.drop (i + 1) := by rw [List.drop_eq_getElem_cons hi]; congr 1; rw [List.getElem?_eq_getElem hi] at e; exact Option.some.inj e
        refine ⟨trivial, ?_⟩
        subst hB
        cases o with
        | op =>
          simp [-Bool.exists_bool, Pl.D, lenT, tOpen, rk_ref q2, mok]
          rw [app_ref q2]
          refine ⟨by simp; omega, hn2 _ _ ⟨_, _, _, done ++ [c], 0, rfl, k2.trans .up, by rw [up_at]; simp, ?_, by simp; omega⟩⟩
          rw [dr] at hd
          simpa [partsFrom] using hd
        | dev d sp =>
          have hk : d.k ≠ tOpen := by
            have := (hs _ (List.mem_of_getElem? e)).1.1
            intro z
            rw [z] at this
            revert this
            decide
          have hk2 : ¬ d.k = [111, 112, 101, 110, 101, 114] := hk
          have hlen : ((done ++ [c]).map fun (c : Nat) => D.int c).length = done.length + 1 := by simp
          have hat : atI ((done ++ [c]).map fun (c : Nat) => D.int c) (-1) = some (.int (c : Nat)) := by
            unfold atI ixN
            rw [if_neg (by decide), if_pos (by rw [hlen]; omega), hlen]
            have : ((-1 : Int) + ((done.length + 1 : Nat) : Int)).toNat = done.length := by omega
            simp only [Option.bind_some, this]
            simp
          have hix : ixN ((done ++ [c]).map fun (c : Nat) => D.int c).length (-1) = some done.length := by
            unfold ixN
            rw [if_neg (by decide), if_pos (by rw [hlen]; omega), hlen]
            have : ((-1 : Int) + ((done.length + 1 : Nat) : Int)).toNat = done.length := by omega
            rw [this]
          simp [-Bool.exists_bool, Pl.D, lenT, hk2]
          rw [x_ref q2]
          refine ⟨_, hat, ?_⟩
          simp [-Bool.exists_bool]
          rw [set_ref q2]
          refine ⟨_, hix, hn2 _ _ ⟨_, _, _, done, c + 1 + sp.length, rfl, k2.trans .up, ?_, ?_, by omega⟩⟩
          · rw [up_at]
            simp
          · rw [dr] at hd
            simpa [partsFrom] using hd
    · rw [Nat.zero_add, List.length_map] at hI
      exact ⟨trivial, hn _ _ hI⟩
  rintro _ m2 ⟨x, y, z, done, c, rfl, k2, q2, hd, _⟩
  simp [-Bool.exists_bool]
  refine post q m2 hq (k2.ext hq) ?_
  rw [List.drop_length] at hd
  rw [q2, ← hd]
  rfl
end Mn.K04
end

section
set_option Elab.async false
set_option linter.all false
set_option maxRecDepth 100000
set_option maxHeartbeats 4000000
set_option pp.maxSteps 600
namespace Mn.K04
open Mn
variable {n : Nat} {m : Hm} {P : PD} {X : Nat → Hm → Prop}
def strides : List Int := [1, 2, 4, 5, 7, 8, 10, 13, 98]
def nums (st sr : Int) : List Int := (List.range 30).map fun (i : Nat) => (st + sr * (i : Int)).fmod 99 + 1
theorem nums_len {st sr : Int} : (nums st sr).length = 30 := by simp [nums]
theorem nums_b {st sr a : Int} (h : a ∈ nums st sr) : 1 ≤ a ∧ a ≤ 99 := by
  unfold nums at h
  obtain ⟨i, _, rfl⟩ := List.mem_map.mp h
  have h1 : 0 ≤ (st + sr * (i : Int)).fmod 99 := Int.fmod_nonneg_of_pos _ (by decide)
  have h2 : (st + sr * (i : Int)).fmod 99 < 99 := Int.fmod_lt_of_pos _ (by decide)
  omega
theorem nums_nd {st sr : Int} (h : sr ∈ strides) : (nums st sr).Nodup := by
  unfold nums
  have h0 : (List.range 30).Nodup := List.nodup_range
  refine List.pairwise_map.mpr ?_
  have hm : (List.range 30).Pairwise fun a b => a ≠ b ∧ a < 30 ∧ b < 30 := by
    refine List.pairwise_iff_getElem.mpr fun i j hi hj hij => ?_
    simp only [List.length_range] at hi hj
    simp only [List.getElem_range]
    omega
  refine hm.imp fun {a b} hab z => ?_
  obtain ⟨h1, h2, h3⟩ := hab
  rw [Int.fmod_eq_emod_of_nonneg _ (by decide), Int.fmod_eq_emod_of_nonneg _ (by decide)] at z
  simp only [strides, List.mem_cons, List.not_mem_nil, or_false] at h
  rcases h with e | e | e | e | e | e | e | e | e <;> subst e <;> omega
theorem maxI_mem : ∀ {ns : List Int}, ns ≠ [] → maxI ns ∈ ns ∧ ∀ y ∈ ns, y ≤ maxI ns
  | [x], _ => by simp [maxI]
  | x :: y :: l, _ => by
    obtain ⟨h1, h2⟩ := maxI_mem (ns := y :: l) (by simp)
    have e : maxI (x :: y :: l) = if maxI (y :: l) ≤ x then x else maxI (y :: l) := rfl
    rw [e]
    split
    · rename_i hle
      refine ⟨by simp, fun z hz => ?_⟩
      rcases List.mem_cons.mp hz with e | e
      · rw [e]; exact Int.le_refl _
      · exact Int.le_trans (h2 z e) hle
    · rename_i hle
      refine ⟨List.mem_cons_of_mem _ h1, fun z hz => ?_⟩
      rcases List.mem_cons.mp hz with e | e
      · rw [e]; omega
      · exact h2 z e
theorem parts_sum : ∀ (l : List Pl) (k : Nat), (partsFrom k l).sum = k + (devsL l).length
  | [], k => by simp [partsFrom, devsL]
  | .op :: l, k => by
    have := parts_sum l 0
    simp only [partsFrom, List.sum_cons, this]
    simp [devsL, Pl.devs]
  | .dev d sp :: l, k => by
    have := parts_sum l (k + 1 + sp.length)
    simp only [partsFrom, this]
    simp [devsL, Pl.devs]
    omega
theorem parts_ne {l : List Pl} : ∀ {k : Nat}, partsFrom k l ≠ [] := by
  induction l with
  | nil => simp [partsFrom]
  | cons q l ih => cases q <;> simp [partsFrom, ih]
theorem le_sum {c : Nat} : ∀ {l : List Nat}, c ∈ l → c ≤ l.sum
  | x :: l, h => by
    rw [List.sum_cons]
    rcases List.mem_cons.mp h with e | e
    · omega
    · have := le_sum e; omega
theorem parts_le {l : List Pl} {c : Nat} (h : c ∈ partsN l) : c ≤ (devsL l).length := by
  have := le_sum h
  rw [partsN, parts_sum] at this
  omega
theorem parts_pos {l : List Pl} (h : 1 ≤ (devsL l).length) : ∃ c ∈ partsN l, 1 ≤ c := by
  refine Classical.byContradiction fun hno => ?_
  have hz : ∀ c ∈ partsN l, c = 0 := fun c hc => by
    have : ¬ 1 ≤ c := fun z => hno ⟨c, hc, z⟩
    omega
  have hs : ∀ ls : List Nat, (∀ c ∈ ls, c = 0) → ls.sum = 0 := by
    intro ls
    induction ls with
    | nil => intro _; rfl
    | cons x ls ih => intro h; rw [List.sum_cons, h x List.mem_cons_self, ih fun c hc => h c (List.mem_cons_of_mem _ hc)]
  have := parts_sum l 0
  rw [show partsFrom 0 l = partsN l from rfl, hs _ hz] at this
  omega
def maxP (l : List Pl) : Int := maxI ((partsN l).map fun (c : Nat) => (c : Int))
theorem maxP_ok {l : List Pl} : (∃ c ∈ partsN l, maxP l = (c : Nat)) ∧ ∀ c ∈ partsN l, (c : Int) ≤ maxP l := by
  have hne : (partsN l).map (fun (c : Nat) => (c : Int)) ≠ [] := by
    intro z
    exact parts_ne (l := l) (k := 0) (List.map_eq_nil_iff.mp z)
  obtain ⟨h1, h2⟩ := maxI_mem hne
  refine ⟨?_, fun c hc => h2 _ (List.mem_map.mpr ⟨c, hc, rfl⟩)⟩
  obtain ⟨c, hc, e⟩ := List.mem_map.mp h1
  exact ⟨c, hc, e.symm⟩
/-! the law's own plan -/
def isTold (k : List Nat) : Bool := decide (k = tSeek ∨ k = tKnob)
def fN : D → Option D
  | .tup [.str k, .int a] => if isTold k then some (.int a) else none
  | _ => none
theorem told_app {a b : List Dv} : toldBy (a ++ b) = toldBy a ++ toldBy b := by simp [toldBy]
theorem fN_devs : ∀ ds : List Dv, (ds.map Dv.D).filterMap fN = (toldBy ds).map D.int
  | [] => rfl
  | d :: ds => by
    have h := fN_devs ds
    have e : fN d.D = if isTold d.k then some (.int d.a) else none := rfl
    have et : toldBy (d :: ds) = (if isTold d.k then [d.a] else []) ++ toldBy ds := by
      unfold toldBy isTold
      rw [List.filter_cons]
      split <;> simp
    rw [List.map_cons, List.filterMap_cons, e, et, List.map_append, ← h]
    cases isTold d.k <;> simp
theorem place_told (q : Pl) : ([D.tup [.str (match q with | .op => tOpen | .dev d _ => d.k), .int (match q with | .op => 0 | .dev d _ => d.a)]] ++ (match q with | .op => ([] : List D) | .dev _ sp => sp.map Dv.D)).filterMap fN = (toldBy q.devs).map D.int := by
  cases q with
  | op => rfl
  | dev d sp => exact fN_devs (d :: sp)
def Pl.kk : Pl → List Nat | .op => tOpen | .dev d _ => d.k
def Pl.aa : Pl → Int | .op => 0 | .dev d _ => d.a
def Pl.ss : Pl → List Dv | .op => [] | .dev _ sp => sp
theorem Pl.D_eq (q : Pl) : q.D = .tup [.str q.kk, .int q.aa, .tup (q.ss.map Dv.D)] := by cases q <;> rfl
theorem kinds_pln : ∀ k ∈ kinds, pln k = true := by decide
theorem WfP.pln {q : Pl} (h : WfP q) : Mn.pln q.kk = true ∧ ∀ s ∈ q.ss, Mn.pln s.k = true := by
  cases q with
  | op => exact ⟨by decide, by simp [Pl.ss]⟩
  | dev d sp => exact ⟨kinds_pln _ h.1.1, fun s hs => kinds_pln _ (h.2.2 s hs).1⟩
theorem WfP.sl {q : Pl} (h : WfP q) : q.ss.length ≤ 3 := by
  cases q with
  | op => simp [Pl.ss]
  | dev d sp => exact h.2.1
/-- what the generator has at hand -/
structure Gen (ml mp : Int) (al : List Int) (ls : List (List Pl)) (ns : List Int) : Prop where
  lp : ∀ l ∈ ls, 1 ≤ l.length ∧ (l.length : Int) ≤ mp ∧ ∀ q ∈ l, WfP q
  pm : ((ls.flatMap devsL).map Dv.a ++ ns).Perm al
end Mn.K04
end

section
set_option Elab.async false
set_option linter.all false
set_option maxRecDepth 100000
set_option maxHeartbeats 4000000
set_option pp.maxSteps 600
namespace Mn.K04
open Mn
variable {n : Nat} {m : Hm} {P : PD} {X : Nat → Hm → Prop}
theorem min30 {a : Int} : (if a < 30 then a else 30) ≤ 30 := by split <;> omega
theorem cutA {α : Type} {xs : List α} {i : Int} (h0 : 0 ≤ i) (h1 : i ≤ xs.length) : cut xs none (some i) = xs.take i.toNat := by
  unfold cut sIx
  simp only [if_neg (show ¬ i < 0 by omega), List.drop_zero, Nat.sub_zero]
  rw [Nat.min_eq_left (by omega)]
theorem cutB {α : Type} {xs : List α} {i : Int} (h0 : 0 ≤ i) (h1 : i ≤ xs.length) : cut xs (some i) none = xs.drop i.toNat := by
  unfold cut sIx
  simp only [if_neg (show ¬ i < 0 by omega)]
  rw [Nat.min_eq_left (by omega), List.take_of_length_le]
  rw [List.length_drop]
  exact Nat.le_refl _
theorem devsL_app {a b : List Pl} : devsL (a ++ b) = devsL a ++ devsL b := by simp [devsL]
theorem flat_mem_len {α β : Type} {f : α → List β} {x : α} : ∀ {l : List α}, x ∈ l → (f x).length ≤ (l.flatMap f).length
  | y :: l, h => by
    rw [List.flatMap_cons, List.length_append]
    rcases List.mem_cons.mp h with e | e
    · subst e; omega
    · have := flat_mem_len (f := f) e; omega
theorem flat_take_len {α β : Type} {f : α → List β} (l : List α) (i : Nat) : ((l.take i).flatMap f).length ≤ (l.flatMap f).length := by
  have h : (l.take i ++ l.drop i).flatMap f = l.flatMap f := by rw [List.take_append_drop]
  rw [List.flatMap_append] at h
  rw [← h, List.length_append]
  omega
theorem told_len (ds : List Dv) : (toldBy ds).length ≤ ds.length := by
  unfold toldBy
  rw [List.length_map]
  exact List.length_filter_le _ _
theorem s_plan {p k : Nat} {ml mp : Int} (ml1 : 1 ≤ ml) (ml3 : ml ≤ 3) (mp2 : 2 ≤ mp) (mp12 : mp ≤ 12) (hb : Bag m p (k + 3000))
    (post : ∀ (pl : PlanT) (m2 : Hm), LetBy pl → (pl.loops.length : Int) ≤ ml → (∀ l ∈ pl.loops, (l.length : Int) ≤ mp) → Keep p m m2 → Bag m2 p k → P pl.D m2) :
    callN T (n + 4) 0 351 [.ref p, .int ml, .int mp] m P X := by
  rw [call_iff F_law_plan]
  refine ⟨rfl, ?_⟩
  have hSZ : (100000 : Nat) < SZ := by decide
  unfold f_law_plan start
  simp only [List.map, List.length, List.replicate, List.cons_append, List.nil_append]
  let E0 : List (Option D) → Mn.Env := fun xs => [some (.ref p), some (.int ml), some (.int mp)] ++ xs
  let no : List (Option D) := [none, none, none, none, none, none, none, none, none, none, none, none]
  refine seq_to (fun r1 m1 => ∃ st : Int, r1 = E0 ([some (.int st), none, none, none, none, none, none, none, none] ++ no) ∧ Keep p m m1 ∧ Bag m1 p (k + 2900)) (fun nx hn => ?_) ?_
  · simp [-Bool.exists_bool, F_law_take]
    exact take_ok F_law_take (n := k + 2900) (hb.mono (by omega)) (by decide) (by decide) fun st m1 _ _ k1 b1 => hn _ _ ⟨st, rfl, k1, b1⟩
  rintro _ m1 ⟨st, rfl, k1, b1⟩
  refine seq_to (fun r1 m1 => ∃ sr : Int, r1 = E0 ([some (.int st), some (.int sr), none, none, none, none, none, none, none] ++ no) ∧ sr ∈ strides ∧ Keep p m m1 ∧ Bag m1 p (k + 2800)) (fun nx hn => ?_) ?_
  · simp [-Bool.exists_bool, E0, no, F_law_take]
    intro t ht
    refine take_ok F_law_take (n := k + 2800) ((b1.new ht).mono (by omega)) (by decide) (by decide) fun j m2 j0 j1 k2 b2 => ?_
    rw [x_ref (k2 _ _ (bag_ne b1 ht) up_at)]
    obtain ⟨d, hd, sr, rfl, hsr⟩ := at_all (p := fun d => ∃ sr : Int, d = .int sr ∧ sr ∈ strides) (ds := [.int 1, .int 2, .int 4, .int 5, .int 7, .int 8, .int 10, .int 13, .int 98]) (by simp [strides]) j0 (by simpa using j1)
    exact ⟨_, hd, hn _ _ ⟨sr, rfl, hsr, k1.trans ((Ext.new ht).keep.trans k2), b2⟩⟩
  clear k1 b1 m1
  rintro _ m1 ⟨sr, rfl, hsr, k1, b1⟩
  let NS := nums st sr
  have nsl : NS.length = 30 := nums_len
  refine seq_to (fun r1 m2 => ∃ nu, r1 = E0 ([some (.int st), some (.int sr), some (.ref nu), none, none, none, none, none, none] ++ no) ∧ m1 nu = none ∧ m2 = up m1 nu (.lst (NS.map D.int))) (fun nx hn => ?_) ?_
  · have h30 : inB 30 := ⟨by decide, by decide⟩
    simp [-Bool.exists_bool, E0, no, h30]
    intro nu hnu
    have er : rangeD 0 30 = (List.range 30).map fun i => D.int (i : Nat) := rangeD_map 30
    refine comp_map (p := nu) (acc := []) (fun x => match x with | .int i => some (.int ((st + sr * i).fmod 99 + 1)) | _ => none) (fun acc => trivial) (by simp [SZ]) (fun x hx acc Q1 Q2 hQ => ?_) ?_
    · obtain ⟨i, hi, rfl⟩ : ∃ i : Int, (0 ≤ i ∧ i < 30) ∧ x = .int i := by
        have hx2 : x ∈ rangeD 0 30 := hx
        rw [er] at hx2
        obtain ⟨i, h1, h2⟩ := List.mem_map.mp hx2
        have := List.mem_range.mp h1
        exact ⟨(i : Nat), ⟨by omega, by omega⟩, h2.symm⟩
      have hmul : mulOk sr i = true := mulR ⟨by omega, by omega⟩
      simp [-Bool.exists_bool, wipe, hmul]
      exact hQ
    · have e : ([] ++ (rangeD 0 30).filterMap fun x => match x with | .int i => some (.int ((st + sr * i).fmod 99 + 1)) | _ => none) = NS.map D.int := by
        rw [List.nil_append, er, List.filterMap_map]
        simp only [NS, nums, List.map_map]
        rw [← List.filterMap_eq_map]
        rfl
      show nx _ (up m1 nu (.lst _))
      rw [e]
      exact hn _ _ ⟨nu, rfl, hnu, rfl⟩
  rintro _ _ ⟨nu, rfl, hnu0, rfl⟩
  have hnp := bag_ne b1 hnu0
  obtain ⟨own, rest, hNS⟩ : ∃ own rest, NS = own :: rest := by
    cases e : NS with
    | nil => rw [e] at nsl; cases nsl
    | cons a l => exact ⟨a, l, rfl⟩
  have ownb : 1 ≤ own ∧ own ≤ 99 := nums_b (st := st) (sr := sr) (by rw [show nums st sr = NS from rfl, hNS]; simp)
  have restb : ∀ a ∈ rest, 1 ≤ a ∧ a ≤ 99 := fun a ha => nums_b (st := st) (sr := sr) (by rw [show nums st sr = NS from rfl, hNS]; simp [ha])
  have restl : rest.length = 29 := by rw [hNS] at nsl; simpa using nsl
  have n1 : up m1 nu (.lst (NS.map D.int)) nu = some (.lst (NS.map D.int)) := up_at
  refine seq_eq (E0 ([some (.int st), some (.int sr), some (.ref nu), none, some (.int own), none, none, none, none] ++ no)) (up m1 nu (.lst (rest.map D.int))) (fun nx hn => ?_) ?_
  · simp [-Bool.exists_bool, E0, no, rk_ref n1, mok]
    rw [pop_at n1]
    refine ⟨⟨by decide, by decide⟩, 0, .int own, by rw [hNS]; simp [ixN], by rw [hNS]; simp, ?_⟩
    rw [up_up, hNS]
    exact hn
  have b2 : Bag (up m1 nu (.lst (rest.map D.int))) p (k + 2800) := b1.new hnu0
  have n2 : up m1 nu (.lst (rest.map D.int)) nu = some (.lst (rest.map D.int)) := up_at
  have k2 : KeepS [p, nu] m (up m1 nu (.lst (rest.map D.int))) := (k1.keepS (by simp)).trans (.up (by simp))
  have nu0 : m nu = none := by
    cases e : m nu with
    | none => rfl
    | some o => rw [k1 _ _ hnp e] at hnu0; cases hnu0
  generalize up m1 nu (.lst (rest.map D.int)) = m2 at b2 n2 k2 ⊢
  clear n1 b1 k1 hnu0 m1
  refine seq_eq (E0 ([some (.int st), some (.int sr), some (.ref nu), none, some (.int own), some (loopD []), none, none, none] ++ no)) m2 (fun nx hn => by simp [-Bool.exists_bool, E0, no]; exact hn) ?_
  -- the first loop
  refine seq_to (fun r1 m3 => ∃ l : List Pl, ∃ ns2 : List Int, r1 = E0 ([some (.int st), some (.int sr), some (.ref nu), none, some (.int own), some (loopD l), none, none, none] ++ no) ∧ (l.length : Int) ≤ mp - 1 ∧ (∀ q ∈ l, WfP q) ∧ (devsL l).map Dv.a ++ ns2 = rest ∧ KeepS [p, nu] m m3 ∧ m3 nu = some (.lst (ns2.map D.int)) ∧ Bag m3 p (k + 2600)) (fun nx hn => ?_) ?_
  · simp [-Bool.exists_bool, E0, no, F_law_take]
    refine take_ok F_law_take (n := k + 2700) (b2.mono (by omega)) (by decide) (by decide) fun e m3 _ _ k3 b3 => ?_
    have n3 := k3 _ _ hnp n2
    by_cases he : 0 < e
    · simp [-Bool.exists_bool, he, F_law_loop]
      refine s_loop (n := n + 1) (k := k + 2600) (by omega) (by omega) (b3.mono (by omega)) n3 hnp restb (by omega) fun l ns2 m4 l0 l1 wf hd k4 n4 b4 => ?_
      exact hn _ _ ⟨l, ns2, rfl, l1, wf, hd, (k2.trans (k3.keepS (by simp))).trans k4, n4, b4⟩
    · simp [-Bool.exists_bool, he]
      exact hn _ _ ⟨[], rest, rfl, by simp; omega, by simp, rfl, k2.trans (k3.keepS (by simp)), n3, b3.mono (by omega)⟩
  clear b2 n2 k2 m2
  rintro _ m2 ⟨l, ns2, rfl, l1, wf, hdv, k2, n2, b2⟩
  refine seq_to (fun r1 m3 => ∃ at_ : Int, r1 = E0 ([some (.int st), some (.int sr), some (.ref nu), none, some (.int own), some (loopD l), some (.int at_), none, none] ++ no) ∧ 0 ≤ at_ ∧ at_ ≤ l.length ∧ KeepS [p, nu] m m3 ∧ m3 nu = some (.lst (ns2.map D.int)) ∧ Bag m3 p (k + 2500)) (fun nx hn => ?_) ?_
  · simp [-Bool.exists_bool, E0, no, F_law_take, loopD]
    exact take_ok F_law_take (n := k + 2500) (b2.mono (by omega)) (by omega) (by omega) fun a m3 a0 a1 k3 b3 => hn _ _ ⟨a, rfl, a0, by omega, k2.trans (k3.keepS (by simp)), k3 _ _ hnp n2, b3⟩
  clear k2 n2 b2 m2
  rintro _ m2 ⟨at_, rfl, a0, a1, k2, n2, b2⟩
  let L0 : List Pl := l.take at_.toNat ++ [.dev ⟨tSeek, own⟩ []] ++ l.drop at_.toNat
  have L0l : L0.length = l.length + 1 := by simp only [L0, List.length_append, List.length_take, List.length_drop, List.length_cons, List.length_nil]; omega
  have L0w : ∀ q ∈ L0, WfP q := fun q hq => by
    simp only [L0, List.mem_append, List.mem_singleton] at hq
    rcases hq with (h | h) | h
    · exact wf q (List.mem_of_mem_take h)
    · subst h; exact ⟨⟨by simp [kinds], ownb.1, ownb.2⟩, by simp, by simp⟩
    · exact wf q (List.mem_of_mem_drop h)
  have L0p : ((devsL L0).map Dv.a ++ ns2).Perm NS := by
    rw [hNS]
    simp only [L0, devsL_app, List.map_append]
    have e : devsL [Pl.dev ⟨tSeek, own⟩ []] = [⟨tSeek, own⟩] := rfl
    rw [e]
    have h1 : ((devsL (l.take at_.toNat)).map Dv.a ++ (devsL (l.drop at_.toNat)).map Dv.a) ++ ns2 = rest := by
      rw [← List.map_append, ← devsL_app, List.take_append_drop]
      exact hdv
    rw [← h1]
    simp only [List.append_assoc, List.map_cons, List.map_nil, List.cons_append, List.nil_append]
    exact List.perm_middle
  refine seq_to (fun r1 m3 => ∃ lo, r1 = E0 ([some (.int st), some (.int sr), some (.ref nu), none, some (.int own), some (loopD l), some (.int at_), some (.ref lo), none] ++ no) ∧ m2 lo = none ∧ m3 = up m2 lo (.lst [loopD L0])) (fun nx hn => ?_) ?_
  · simp [-Bool.exists_bool, E0, no, loopD]
    have hx1 : at_ ≤ (l.map Pl.D).length := by rw [List.length_map]; exact a1
    rw [cutA a0 hx1, cutB a0 hx1]
    refine ⟨by simp; omega, by simp; omega, fun lo hlo => hn _ _ ⟨lo, rfl, hlo, ?_⟩⟩
    simp [L0, Pl.D, List.map_take, List.map_drop, tSeek, loopD]
  rintro _ _ ⟨lo, rfl, hlo0, rfl⟩
  have hlp := bag_ne b2 hlo0
  have hln : nu ≠ lo := ne_new hlo0 n2
  have lo0 : m lo = none := k2.none (by simp [hlp, Ne.symm hln]) hlo0
  -- more loops
  refine seq_to (fun r1 m3 => ∃ x, ∃ ls : List (List Pl), ∃ ns3 : List Int, r1 = E0 ([some (.int st), some (.int sr), some (.ref nu), none, some (.int own), some (loopD l), some (.int at_), some (.ref lo), x] ++ no) ∧ (ls.length : Int) ≤ ml ∧ (∃ tl, ls = L0 :: tl) ∧ (∀ l ∈ ls, 1 ≤ l.length ∧ (l.length : Int) ≤ mp ∧ ∀ q ∈ l, WfP q) ∧ ((ls.flatMap devsL).map Dv.a ++ ns3).Perm NS ∧ KeepS [p, nu, lo] m m3 ∧ m3 lo = some (.lst (ls.map loopD)) ∧ Bag m3 p (k + 2000)) (fun nx hn => ?_) ?_
  · refine fr_shut fun B hB => ?_
    simp [-Bool.exists_bool, E0, no, F_law_take]
    refine take_ok F_law_take (n := k + 2490) ((b2.new hlo0).mono (by omega)) (by omega) (by omega) fun e m3 e0 e1 k3 b3 => ?_
    have he : inB e := ⟨by omega, by omega⟩
    simp [-Bool.exists_bool, he]
    have k03 : KeepS [p, nu, lo] m m3 := ((k2.mono (by simp)).trans (.new hlo0)).trans (k3.keepS (by simp))
    refine loop_inv (fun i r1 m3 => ∃ x, ∃ ls : List (List Pl), ∃ ns3 : List Int, r1 = E0 ([some (.int st), some (.int sr), some (.ref nu), none, some (.int own), some (loopD l), some (.int at_), some (.ref lo), x] ++ no) ∧ ls.length = i + 1 ∧ (∃ tl, ls = L0 :: tl) ∧ (∀ l ∈ ls, 1 ≤ l.length ∧ (l.length : Int) ≤ mp ∧ ∀ q ∈ l, WfP q) ∧ ((ls.flatMap devsL).map Dv.a ++ ns3).Perm NS ∧ KeepS [p, nu, lo] m m3 ∧ m3 lo = some (.lst (ls.map loopD)) ∧ m3 nu = some (.lst (ns3.map D.int)) ∧ Bag m3 p (k + (2490 - 150 * i))) (k := 0) ⟨none, [L0], ns2, rfl, rfl, ⟨[], rfl⟩, fun l2 hl2 => ?_, by simpa using L0p, k03, k3 _ _ hlp up_at, k3 _ _ hnp (get_new hlo0 n2), b3⟩ (fun i x r1 m4 nx2 hx hI hn2 => ?_) fun r1 m4 hI => ?_
    · rw [List.mem_singleton.mp hl2]
      exact ⟨by omega, by rw [L0l]; omega, L0w⟩
    · obtain ⟨_, ls, ns3, rfl, hll, ⟨tl, htl⟩, hlw, hpm, k4, l4, n4, b4⟩ := hI
      rw [Nat.zero_add] at hll b4 hn2
      obtain ⟨rfl, hi⟩ := range_get hx
      have hi2 : i < 3 := by omega
      refine ⟨trivial, ?_⟩
      subst hB
      have hns3 : ∀ a ∈ ns3, 1 ≤ a ∧ a ≤ 99 := fun a ha => nums_b (st := st) (sr := sr) (hpm.mem_iff.mp (List.mem_append_right _ ha))
      have hn3l : ns3.length ≤ 100 := by have := hpm.length_eq; rw [List.length_append] at this; omega
      simp [-Bool.exists_bool, E0, no, rk_ref l4, mok, F_law_loop]
      refine s_loop (n := n + 1) (k := k + (2490 - 150 * (i + 1))) (by omega) mp12 (b4.mono (by omega)) n4 hnp hns3 hn3l fun l2 ns4 m5 l20 l21 wf2 hd2 k5 n5 b5 => ?_
      have l5 := k5 _ _ (by simp [hlp, Ne.symm hln]) l4
      refine ⟨rk_ref l5, ?_⟩
      rw [app_ref l5]
      refine ⟨by rw [List.length_map]; omega, hn2 _ _ ⟨_, ls ++ [l2], ns4, rfl, by simp [hll], ⟨tl ++ [l2], by simp [htl]⟩, fun l3 hl3 => ?_, ?_, (k4.trans (k5.mono (by simp))).trans (.up (by simp)), by rw [up_at]; simp, by rw [up_off hln]; exact n5, b5.off hlp.symm⟩⟩
      · rcases List.mem_append.mp hl3 with h | h
        · exact hlw l3 h
        · rw [List.mem_singleton.mp h]; exact ⟨l20, l21, wf2⟩
      · rw [List.flatMap_append, List.map_append, List.append_assoc]
        have : ([l2].flatMap devsL).map Dv.a ++ ns4 = ns3 := by simpa using hd2
        rw [this]
        exact hpm
    · rw [rangeD_length, Nat.zero_add] at hI
      obtain ⟨x, ls, ns3, rfl, h1, h2, h3, h4, h5, h6, h7, h8⟩ := hI
      exact ⟨trivial, hn _ _ ⟨x, ls, ns3, rfl, by omega, h2, h3, h4, h5, h6, h8.mono (by omega)⟩⟩
  clear k2 n2 b2 hlo0 m2
  rintro _ m2 ⟨x, ls, ns3, rfl, hll, ⟨tl, htl⟩, hlw, hpm, k2, l2, b2⟩
  replace k2 : Keep p m m2 := fun o ob ho hh => k2 _ _ (by simp only [List.mem_cons, List.not_mem_nil, or_false, not_or]; exact ⟨ho, ne_new nu0 hh, ne_new lo0 hh⟩) hh
  let DS := ls.flatMap devsL
  have dsl : DS.length ≤ 30 := by
    have := hpm.length_eq
    rw [List.length_append, List.length_map, nsl] at this
    show (ls.flatMap devsL).length ≤ 30
    omega
  have dsnd : (DS.map Dv.a).Nodup := by
    have := hpm.nodup_iff.mpr (nums_nd hsr)
    exact (List.nodup_append.mp this).1
  have inL : ∀ l ∈ ls, (devsL l).length ≤ 30 := fun l hl => by
    exact Nat.le_trans (flat_mem_len hl) dsl
  let MX := ls.map maxP
  have MXne : MX ≠ [] := by simp [MX, htl]
  let most := maxI MX
  have most_ge : ∀ l ∈ ls, ∀ c ∈ partsN l, (c : Int) ≤ most := fun l hl c hc => Int.le_trans (maxP_ok.2 c hc) ((maxI_mem MXne).2 _ (List.mem_map.mpr ⟨l, hl, rfl⟩))
  have most_le : most ≤ 30 := by
    obtain ⟨l, hl, e⟩ := List.mem_map.mp (maxI_mem MXne).1
    obtain ⟨c, hc, e2⟩ := (maxP_ok (l := l)).1
    have := parts_le hc
    have := inL l hl
    show maxI MX ≤ 30
    rw [← e, e2]
    omega
  have most_1 : 1 ≤ most := by
    have h0 : L0 ∈ ls := by rw [htl]; simp
    have h1 : 1 ≤ (devsL L0).length := by simp [L0, devsL_app, devsL, Pl.devs]; omega
    obtain ⟨c, hc, c1⟩ := parts_pos h1
    have := most_ge L0 h0 c hc
    omega
  have lsl : ls.length ≤ 3 := by omega
  -- most
  let E1 : Option D → List (Option D) → Mn.Env := fun x xs => E0 ([some (.int st), some (.int sr), some (.ref nu), none, some (.int own), some (loopD l), some (.int at_), some (.ref lo), x] ++ xs)
  refine seq_to (fun r1 m3 => r1 = E1 x [some (.int most), none, none, none, none, none, none, none, none, none, none, none] ∧ Ext m2 m3) (fun nx hn => ?_) ?_
  · simp [-Bool.exists_bool, E0, no]
    rw [walk_ref l2]
    intro c hc
    refine comp_list ls loopD (fun l => .int (maxP l)) hc (fun m3 k3 => k3 _ _ (ne_new hc l2) l2) (by omega) (fun l hl m3 acc Q1 Q2 k3 h3 hQ => ?_) fun m3 e3 h3 => ?_
    · simp [-Bool.exists_bool, wipe, F_law_parts]
      have hw := hlw l hl
      refine s_parts (n := n + 2) (by omega) hw.2.2 fun q m4 q0 e4 q4 => ?_
      have hne : (partsN l).map (fun (c : Nat) => D.int c) = ((partsN l).map fun (c : Nat) => (c : Int)).map D.int := by simp
      rw [hne] at q4
      simp only [bfW, q4, ints_map]
      refine ⟨_, rfl, ?_, hQ m4 (k3.trans e4.keep) (e4 _ _ h3)⟩
      intro z
      exact parts_ne (l := l) (k := 0) (List.map_eq_nil_iff.mp z)
    · have hm : ls.map (fun l => D.int (maxP l)) = MX.map D.int := by simp [MX]
      rw [hm] at h3
      simp only [bfW, h3, ints_map]
      exact ⟨_, rfl, MXne, hn _ _ ⟨rfl, e3⟩⟩
  rintro _ m3 ⟨rfl, e3⟩
  have l3 := e3 _ _ l2
  have b3 := b2.ext e3
  have k3 : Keep p m m3 := k2.trans e3.keep
  clear l2 b2 k2 e3 m2
  refine seq_to (fun r1 m4 => ∃ to, r1 = E1 x [some (.int most), none, some (.ref to), none, none, none, none, none, none, none, none, none] ∧ m3 to = none ∧ m4 = up m3 to (.lst [])) (fun nx hn => ?_) ?_
  · simp [-Bool.exists_bool, E1, E0]
    exact fun to hto => hn _ _ ⟨to, rfl, hto, rfl⟩
  rintro _ _ ⟨to, rfl, hto, rfl⟩
  have hlt : lo ≠ to := ne_new hto l3
  have htp := bag_ne b3 hto
  -- who tells
  refine seq_to (fun r1 m4 => ∃ y1 y2 y3 y4 y5 y6, r1 = E1 x [some (.int most), y1, some (.ref to), y2, y3, y4, y5, y6, none, none, none, none] ∧ Keep to m3 m4 ∧ m4 to = some (.lst ((toldBy DS).map D.int))) (fun nx hn => ?_) ?_
  · refine fr_shut fun B hB => ?_
    simp [-Bool.exists_bool, E1, E0]
    have l4 := get_new hto l3 (o2 := .lst [])
    rw [walk_ref l4]
    refine loop_inv (fun i r1 m4 => ∃ y1 y2 y3 y4 y5 y6, r1 = E1 x [some (.int most), y1, some (.ref to), y2, y3, y4, y5, y6, none, none, none, none] ∧ Keep to m3 m4 ∧ m4 to = some (.lst ((toldBy ((ls.take i).flatMap devsL)).map D.int))) (k := 0) ⟨none, none, none, none, none, none, rfl, .up, by rw [up_at]; rfl⟩ (fun i x5 r1 m4 nx2 hx hI hn2 => ?_) fun r1 m4 hI => ?_
    · obtain ⟨_, y2, y3, y4, y5, y6, rfl, k4, t4⟩ := hI
      rw [Nat.zero_add] at t4 hn2
      rw [List.getElem?_map] at hx
      cases e : ls[i]? with
      | none => rw [e] at hx; cases hx
      | some li =>
        rw [e] at hx
        cases hx
        have hli : li ∈ ls := List.mem_of_getElem? e
        have tk : ls.take (i + 1) = ls.take i ++ [li] := by rw [List.take_succ, e]; rfl
        have hw := hlw li hli
        have hbase : (toldBy ((ls.take i).flatMap devsL)).length ≤ 30 := by
          have h2 := flat_take_len (f := devsL) ls i
          have dsl2 : (ls.flatMap devsL).length ≤ 30 := dsl
          have h3 : (toldBy ((ls.take i).flatMap devsL)).length ≤ ((ls.take i).flatMap devsL).length := by
            unfold toldBy
            rw [List.length_map]
            exact List.length_filter_le _ _
          omega
        refine ⟨k4 _ _ hlt l3, ?_⟩
        subst hB
        refine fr_shut fun B hB => ?_
        simp [-Bool.exists_bool, E1, E0, loopD]
        refine loop_inv (fun j r1 m5 => ∃ y2 y3 y4 y5 y6, r1 = E1 x [some (.int most), some (loopD li), some (.ref to), y2, y3, y4, y5, y6, none, none, none, none] ∧ Keep to m3 m5 ∧ m5 to = some (.lst ((toldBy ((ls.take i).flatMap devsL ++ devsL (li.take j))).map D.int))) (k := 0) ⟨y2, y3, y4, y5, y6, rfl, k4, by simpa [devsL] using t4⟩ (fun j x6 r1 m5 nx5 hx5 hI hn5 => ?_) fun r1 m5 hI => ?_
        · obtain ⟨_, _, _, y5, y6, rfl, k5, t5⟩ := hI
          rw [Nat.zero_add] at t5 hn5
          rw [List.getElem?_map] at hx5
          cases e5 : li[j]? with
          | none => rw [e5] at hx5; cases hx5
          | some q =>
            rw [e5] at hx5
            cases hx5
            have hj : j < li.length := (List.getElem?_eq_some_iff.mp e5).1
            have tk5 : li.take (j + 1) = li.take j ++ [q] := by rw [List.take_succ, e5]; rfl
            have hwq := hw.2.2 q (List.mem_of_getElem? e5)
            refine ⟨trivial, ?_⟩
            subst hB
            rw [Pl.D_eq]
            have hsl := hwq.sl
            simp [-Bool.exists_bool, E1, E0, lenT, rk_ref t5, mok]
            refine ⟨by omega, fun c hc => ?_⟩
            let G : D → Option D := fN
            refine comp_map (p := c) (acc := []) fN (fun acc => trivial) (by simp; omega) (fun x7 hx7 acc Q1 Q2 hQ => ?_) ?_
            · obtain ⟨k7, a7, rfl⟩ : ∃ k a, x7 = .tup [.str k, .int a] := by
                rcases List.mem_cons.mp hx7 with h | h
                · exact ⟨_, _, h⟩
                · obtain ⟨d, _, rfl⟩ := List.mem_map.mp h
                  exact ⟨_, _, rfl⟩
              simp [-Bool.exists_bool, wipe, lenT, scalD, D.eqv]
              by_cases hk : k7 = tSeek ∨ k7 = tKnob
              · have : isTold k7 = true := by simpa [isTold] using hk
                simp [fN, this] at hQ
                rcases hk with h | h <;> subst h <;> simp [-Bool.exists_bool, tSeek, tKnob] <;> exact hQ
              · have : isTold k7 = false := by simpa [isTold] using hk
                simp [fN, this] at hQ
                have h1 : ¬ k7 = [115, 101, 101, 107, 101, 114] := fun z => hk (.inl z)
                have h2 : ¬ k7 = [107, 110, 111, 98] := fun z => hk (.inr z)
                simp [-Bool.exists_bool, h1, h2, Ne.symm h1, Ne.symm h2]
                exact hQ
            · have hpt := place_told q
              have e8 : ([] ++ (D.tup [.str q.kk, .int q.aa] :: q.ss.map Dv.D).filterMap fN) = (toldBy q.devs).map D.int := by
                cases q <;> exact hpt
              rw [e8]
              have t6 := get_new hc t5 (o2 := .lst ((toldBy q.devs).map D.int))
              refine ⟨rk_ref t6, ?_⟩
              rw [ext_ref t6 up_at]
              have hb2 := told_len ((ls.take i).flatMap devsL ++ devsL (li.take j))
              have hb3 := told_len q.devs
              have hb4 := flat_take_len (f := devsL) ls i
              have hb5 : (devsL (li.take j)).length ≤ (devsL li).length := flat_take_len (f := Pl.devs) li j
              have hb6 : q.devs.length ≤ (devsL li).length := flat_mem_len (List.mem_of_getElem? e5)
              have hb7 := inL li hli
              have dsl2 : (ls.flatMap devsL).length ≤ 30 := dsl
              rw [List.length_append] at hb2
              refine ⟨by simp only [List.length_map]; omega, hn5 _ _ ⟨_, _, _, _, _, rfl, (k5.trans (Ext.new hc).keep).trans .up, ?_⟩⟩
              rw [up_at, tk5, devsL_snoc]
              simp only [told_app, List.map_append, List.append_assoc]
        · rw [Nat.zero_add, List.length_map] at hI
          obtain ⟨y2, y3, y4, y5, y6, rfl, k5, t5⟩ := hI
          rw [List.take_length] at t5
          refine ⟨trivial, hn2 _ _ ⟨_, y2, y3, y4, y5, y6, rfl, k5, ?_⟩⟩
          rw [t5, tk, List.flatMap_append]
          simp
    · rw [Nat.zero_add, List.length_map] at hI
      obtain ⟨y1, y2, y3, y4, y5, y6, h1, h2, h3⟩ := hI
      rw [List.take_length] at h3
      exact ⟨h2 _ _ hlt l3, hn _ _ ⟨y1, y2, y3, y4, y5, y6, h1, h2, h3⟩⟩
  rintro _ m4 ⟨y1, y2, y3, y4, y5, y6, rfl, k4, t4⟩
  have l4 := k4 _ _ hlt l3
  have to0 : m to = none := by
    cases e : m to with
    | none => rfl
    | some o => rw [k3 _ _ htp e] at hto; cases hto
  have k04 : Keep p m m4 := fun o ob ho hh => k4 _ _ (ne_new to0 hh) (k3 _ _ ho hh)
  have b4 : Bag m4 p (k + 2000) := by
    obtain ⟨a, b, c, h1, h2⟩ := b3
    exact ⟨a, b, c, k4 _ _ htp.symm h1, h2⟩
  clear k4 b3 k3 hto l3 m3
  let TB := toldBy DS
  have TBnd : TB.Nodup := by
    have : (DS.filter fun d => decide (d.k = tSeek ∨ d.k = tKnob)).Sublist DS := List.filter_sublist
    exact dsnd.sublist (this.map Dv.a)
  have TBl : TB.length ≤ 30 := Nat.le_trans (told_len DS) dsl
  refine seq_to (fun r1 m5 => ∃ zo, r1 = E1 x [some (.int most), y1, some (.ref to), y2, y3, y4, y5, y6, some (.ref zo), none, none, none] ∧ m4 zo = none ∧ m5 = up m4 zo (.lst [])) (fun nx hn => ?_) ?_
  · simp [-Bool.exists_bool, E1, E0]
    exact fun zo hzo => hn _ _ ⟨zo, rfl, hzo, rfl⟩
  rintro _ _ ⟨zo, rfl, hzo, rfl⟩
  have hzp := bag_ne b4 hzo
  have hzl : lo ≠ zo := ne_new hzo l4
  have hzt : to ≠ zo := ne_new hzo t4
  have zo0 : m zo = none := by
    cases e : m zo with
    | none => rfl
    | some o => rw [k04 _ _ hzp e] at hzo; cases hzo
  -- names
  refine seq_to (fun r1 m5 => ∃ na, ∃ ss : List (List Nat), r1 = E1 x [some (.int most), y1, some (.ref to), y2, y3, y4, y5, y6, some (.ref zo), some (.ref na), none, none] ∧ m5 na = some (.lst (ss.map D.str)) ∧ ss.Nodup ∧ (∀ s ∈ ss, nameOk s) ∧ ss.length ≤ 4 ∧ Keep p m m5 ∧ m5 lo = some (.lst (ls.map loopD)) ∧ m5 to = some (.lst (TB.map D.int)) ∧ m5 zo = some (.lst []) ∧ na ≠ p ∧ na ≠ zo ∧ Bag m5 p (k + 1500)) (fun nx hn => ?_) ?_
  · simp [-Bool.exists_bool, E1, E0, F_law_names, F_law_take]
    refine take_ok F_law_take (n := k + 1800) ((b4.new hzo).mono (by omega)) (by decide) (by decide) fun e m5 e0 e1 k5 b5 => ?_
    refine s_names (n := n) (k := k + 1500) e0 (by omega) (b5.mono (by omega)) fun na ss m6 na0 k6 h6 nd ok hl b6 => ?_
    have z5 := k5 _ _ hzp up_at
    have o4 := fun {a : Nat} {o : MO} (ha : a ≠ p) (h : m4 a = some o) => k6 _ _ ha (k5 _ _ ha (get_new hzo h (o2 := .lst [])))
    exact hn _ _ ⟨na, ss, rfl, h6, nd, ok, by omega, fun o ob ho hh => o4 ho (k04 _ _ ho hh), o4 hlp l4, o4 htp t4, k6 _ _ hzp z5, bag_ne b5 na0, (ne_new na0 z5).symm, b6⟩
  clear b4 k04 hzo l4 t4 m4
  rintro _ m4 ⟨na, ss, rfl, na4, nd, ok, ssl, k04, l4, t4, z4, hnp2, hnz, b4⟩
  -- zones
  let Zs : List (List Nat × List Int) → List Int → Nat → Prop := fun zs tb i => (zs.map Prod.fst).Sublist (ss.take i) ∧ (∀ z ∈ zs, z.2.Pairwise (· < ·) ∧ 1 ≤ z.2.length ∧ ∀ a ∈ z.2, a ∈ TB) ∧ (zs.flatMap Prod.snd ++ tb).Nodup ∧ (∀ a ∈ tb, a ∈ TB)
  refine seq_to (fun r1 m5 => ∃ x2 x3 x4 x5, ∃ zs : List (List Nat × List Int), ∃ tb : List Int, r1 = E1 x [some (.int most), y1, x2, y2, y3, y4, y5, x3, some (.ref zo), some (.ref na), x4, x5] ∧ Zs zs tb ss.length ∧ KeepS [p, zo] m4 m5 ∧ m5 zo = some (.lst (zs.map zoneD)) ∧ Bag m5 p (k + 1000)) (fun nx hn => ?_) ?_
  · refine fr_shut fun B hB => ?_
    simp [-Bool.exists_bool, E1, E0]
    rw [walk_ref na4]
    refine loop_inv (fun i r1 m5 => ∃ tr x3 x4 x5, ∃ zs : List (List Nat × List Int), ∃ tb : List Int, r1 = E1 x [some (.int most), y1, some (.ref tr), y2, y3, y4, y5, x3, some (.ref zo), some (.ref na), x4, x5] ∧ Zs zs tb i ∧ zs.length ≤ i ∧ KeepS [p, zo] m4 m5 ∧ m5 zo = some (.lst (zs.map zoneD)) ∧ m5 tr = some (.lst (tb.map D.int)) ∧ tr ≠ p ∧ tr ≠ zo ∧ Bag m5 p (k + (1400 - 40 * i))) (k := 0) ⟨to, y6, none, none, [], TB, rfl, ⟨by simp, by simp, by simpa using TBnd, fun a h => h⟩, by simp, .refl, z4, t4, htp, hzt, b4.mono (by omega)⟩ (fun i x8 r1 m5 nx2 hx hI hn2 => ?_) fun r1 m5 hI => ?_
    · obtain ⟨tr, x3, _, x5, zs, tb, rfl, ⟨g1, g2, g3, g4⟩, hzsl, k5, z5, t5, trp, trz, b5⟩ := hI
      rw [Nat.zero_add] at g1 hzsl b5 hn2
      rw [List.getElem?_map] at hx
      cases e : ss[i]? with
      | none => rw [e] at hx; cases hx
      | some s =>
        rw [e] at hx
        cases hx
        have hi : i < ss.length := (List.getElem?_eq_some_iff.mp e).1
        have tk : ss.take (i + 1) = ss.take i ++ [s] := by rw [List.take_succ, e]; rfl
        have na5 := k5 _ _ (by simp [hnp2, hnz]) na4
        have tbnd : tb.Nodup := (List.nodup_append.mp g3).2.1
        have tbl : tb.length ≤ 30 := by
          have := nodup_sub tbnd g4
          omega
        refine ⟨na5, ?_⟩
        subst hB
        -- some of them
        refine seq_to (fun r1 m6 => ∃ so, ∃ sm : List Int, r1 = E1 x [some (.int most), y1, some (.ref tr), y2, y3, y4, y5, x3, some (.ref zo), some (.ref na), some (.str s), some (.ref so)] ∧ m6 so = some (.lst (sm.map D.int)) ∧ sm.Pairwise (· < ·) ∧ (∀ a ∈ sm, a ∈ tb) ∧ so ≠ p ∧ so ≠ zo ∧ Keep p m5 m6 ∧ Bag m6 p (k + (1400 - 40 * (i + 1)))) (fun nx hn => ?_) ?_
        · simp [-Bool.exists_bool, E1, E0]
          rw [walk_ref t5]
          intro c hc
          have hcp := bag_ne b5 hc
          refine comp_inv (p := c) (fun j acc m6 => m6 c = some (.lst acc) ∧ KeepS [p, c] m5 m6 ∧ (∃ ys : List Int, acc = ys.map D.int ∧ ys.Sublist (tb.take j)) ∧ Bag m6 p (k + (1400 - 40 * i - j))) (k := 0) (acc := []) ⟨up_at, .new hc, ⟨[], rfl, by simp⟩, b5.new hc⟩ (by simp; omega) (fun j x9 acc m6 Q1 Q2 hx9 hI q1 q2 => ?_) fun acc m6 hI => ?_
          · obtain ⟨h6, k6, ⟨ys, rfl, hys⟩, b6⟩ := hI
            rw [Nat.zero_add] at hys b6 q1 q2
            rw [List.getElem?_map] at hx9
            cases e9 : tb[j]? with
            | none => rw [e9] at hx9; cases hx9
            | some a =>
              rw [e9] at hx9
              cases hx9
              have hj : j < tb.length := (List.getElem?_eq_some_iff.mp e9).1
              have tk9 : tb.take (j + 1) = tb.take j ++ [a] := by rw [List.take_succ, e9]; rfl
              refine ⟨k6 _ _ (by simp [trp, ne_new hc t5]) t5, ?_⟩
              simp [-Bool.exists_bool, wipe, F_law_take]
              refine take_ok F_law_take (n := k + (1400 - 40 * i - (j + 1))) (b6.mono (by omega)) (by decide) (by decide) fun t m7 _ _ k7 b7 => ?_
              have h7 := k7 _ _ hcp h6
              have kk := k6.trans (k7.keepS (l := [p, c]) (by simp))
              by_cases ht : t = 0
              · simp [-Bool.exists_bool, ht]
                exact q1 _ _ h7 ⟨up_at, kk.trans (.up (by simp)), ⟨ys ++ [a], by simp, by rw [tk9]; exact hys.append (List.Sublist.refl _)⟩, b7.off hcp.symm⟩
              · simp [-Bool.exists_bool, ht]
                exact q2 _ ⟨h7, kk, ⟨ys, rfl, by rw [tk9]; exact hys.trans (List.sublist_append_left _ _)⟩, b7⟩
          · obtain ⟨h6, k6, ⟨ys, rfl, hys⟩, b6⟩ := hI
            rw [Nat.zero_add, List.length_map] at hys b6
            rw [List.take_length] at hys
            refine ⟨k6 _ _ (by simp [trp, ne_new hc t5]) t5, ?_⟩
            rw [sorted_ints h6]
            intro so hso
            have pm := List.mergeSort_perm ys (fun a b => decide (a ≤ b))
            have hsrt : (ys.mergeSort fun a b => decide (a ≤ b)).Pairwise (· < ·) := by
              have h1 := List.pairwise_mergeSort (le := fun a b : Int => decide (a ≤ b)) (fun a b c h1 h2 => by simp at *; omega) (fun a b => by simp; omega) ys
              have h2 : (ys.mergeSort fun a b => decide (a ≤ b)).Nodup := pm.nodup_iff.mpr (tbnd.sublist hys)
              exact (List.Pairwise.and h1 h2).imp fun {a b} hab => by simp at hab; omega
            have kp : Keep p m5 m6 := fun o ob ho hh => k6 _ _ (by simp only [List.mem_cons, List.not_mem_nil, or_false, not_or]; exact ⟨ho, ne_new hc hh⟩) hh
            refine hn _ _ ⟨so, _, rfl, up_at, hsrt, fun a ha => hys.subset (pm.mem_iff.mp ha), bag_ne b6 hso, (ne_new hso (kp _ _ (by intro z; exact hzp z) z5)).symm, kp.trans (Ext.new hso).keep, (b6.new hso).mono (by omega)⟩
        rintro _ m6 ⟨so, sm, rfl, s6, hsm, hsub, sop, soz, k6, b6⟩
        have t6 := k6 _ _ trp t5
        have z6 := k6 _ _ hzp z5
        -- the others
        refine seq_to (fun r1 m7 => ∃ tr2 x3, r1 = E1 x [some (.int most), y1, some (.ref tr2), y2, y3, y4, y5, x3, some (.ref zo), some (.ref na), some (.str s), some (.ref so)] ∧ m6 tr2 = none ∧ m7 = up m6 tr2 (.lst ((tb.filter fun a => !decide (a ∈ sm)).map D.int))) (fun nx hn => ?_) ?_
        · simp [-Bool.exists_bool, E1, E0]
          rw [walk_ref t6]
          intro c hc
          refine comp_map (p := c) (acc := []) (fI fun a => !decide (a ∈ sm)) (fun acc => get_new hc t6) (by simp; omega) (fun x9 hx9 acc Q1 Q2 hQ => ?_) ?_
          · obtain ⟨a, _, rfl⟩ := List.mem_map.mp hx9
            simp [-Bool.exists_bool, wipe, nin_eq]
            refine in_flat (get_new hc s6) rfl (flats_ints _) ?_
            rw [any_ints]
            by_cases hin : a ∈ sm
            · simp [hin] at hQ; simp [-Bool.exists_bool, hin]; exact hQ
            · simp [hin] at hQ; simp [-Bool.exists_bool, hin]; exact hQ
          · rw [List.nil_append, filt_ints]
            exact hn _ _ ⟨c, x3, rfl, hc, rfl⟩
        rintro _ _ ⟨tr2, x3b, rfl, htr2, rfl⟩
        let tb2 := tb.filter fun a => !decide (a ∈ sm)
        have s7 := get_new htr2 s6 (o2 := .lst (tb2.map D.int))
        have z7 := get_new htr2 z6 (o2 := .lst (tb2.map D.int))
        have t7 : up m6 tr2 (.lst (tb2.map D.int)) tr2 = some (.lst (tb2.map D.int)) := up_at
        have k7 : KeepS [p, zo] m4 (up m6 tr2 (.lst (tb2.map D.int))) := (k5.trans (k6.keepS (by simp))).trans (.new htr2)
        have b7 : Bag (up m6 tr2 (.lst (tb2.map D.int))) p (k + (1400 - 40 * (i + 1))) := b6.new htr2
        have tr2p := bag_ne b6 htr2
        have tr2z := (ne_new htr2 z6).symm
        have nd2 : (zs.flatMap Prod.snd ++ tb2).Nodup := g3.sublist (List.Sublist.append (List.Sublist.refl _) List.filter_sublist)
        have in2 : ∀ a ∈ tb2, a ∈ TB := fun a ha => g4 a (List.mem_filter.mp ha).1
        show wpSs _ _ _ _ (up m6 tr2 (.lst (tb2.map D.int))) _
        generalize up m6 tr2 (.lst (tb2.map D.int)) = m7 at s7 z7 t7 k7 b7 ⊢
        simp [-Bool.exists_bool, E1, E0]
        rw [len_ref s7, List.length_map]
        by_cases h0 : 0 < sm.length
        · have h0i : (0 : Int) < (sm.length : Nat) := by omega
          simp [-Bool.exists_bool, h0, h0i, rk_ref z7, mok]
          rw [tuple_ref s7]
          refine ⟨rk_ref z7, ?_⟩
          rw [app_ref z7]
          refine ⟨by rw [List.length_map]; omega, hn2 _ _ ⟨tr2, _, _, _, zs ++ [(s, sm)], tb2, rfl, ⟨?_, fun z hz => ?_, ?_, in2⟩, by simp; omega, k7.trans (.up (by simp)), by rw [up_at]; simp [zoneD], by rw [up_off tr2z]; exact t7, tr2p, tr2z, b7.off hzp.symm⟩⟩
          · rw [tk, List.map_append]
            exact g1.append (List.Sublist.refl _)
          · rcases List.mem_append.mp hz with h | h
            · exact g2 z h
            · rw [List.mem_singleton.mp h]
              exact ⟨hsm, h0, fun a ha => g4 a (hsub a ha)⟩
          · rw [List.flatMap_append]
            have e1 : [(s, sm)].flatMap Prod.snd = sm := by simp
            rw [e1]
            have smnd : sm.Nodup := hsm.imp fun {a b} h z => by omega
            obtain ⟨a1, a2, a3⟩ := List.nodup_append.mp g3
            rw [List.nodup_append, List.nodup_append]
            refine ⟨⟨a1, smnd, fun a ha b hb => a3 a ha b (hsub b hb)⟩, (List.nodup_append.mp nd2).2.1, fun a ha b hb z => ?_⟩
            subst z
            rcases List.mem_append.mp ha with h | h
            · exact a3 a h a (List.mem_filter.mp hb).1 rfl
            · have := (List.mem_filter.mp hb).2
              simp at this
              exact this h
        · have h0i : ¬ (0 : Int) < (sm.length : Nat) := by omega
          simp [-Bool.exists_bool, h0, h0i]
          exact hn2 _ _ ⟨tr2, _, _, _, zs, tb2, rfl, ⟨by rw [tk]; exact g1.trans (List.sublist_append_left _ _), g2, nd2, in2⟩, by omega, k7, z7, t7, tr2p, tr2z, b7⟩
    · rw [Nat.zero_add, List.length_map] at hI
      obtain ⟨tr, x3, x4, x5, zs, tb, rfl, g, hzl2, k5, z5, t5, _, _, b5⟩ := hI
      exact ⟨k5 _ _ (by simp [hnp2, hnz]) na4, hn _ _ ⟨_, x3, x4, x5, zs, tb, rfl, g, k5, z5, b5.mono (by omega)⟩⟩
  rintro _ m5 ⟨x2, x3, x4, x5, zs, tb, rfl, ⟨g1, g2, g3, g4⟩, k5, z5, b5⟩
  have l5 := k5 _ _ (by simp [hlp, hzl]) l4
  simp [-Bool.exists_bool, E1, E0, F_law_take]
  refine take_ok F_law_take (n := k) (b5.mono (by omega)) (by decide) (by decide) fun r m6 r0 r1 k6 b6 => ?_
  have l6 := k6 _ _ hlp l5
  have z6 := k6 _ _ hzp z5
  simp [-Bool.exists_bool]
  rw [tuple_ref l6, tuple_ref z6]
  have kp : Keep p m m6 := fun o ob ho hh => k6 _ _ ho (k5 _ _ (by simp only [List.mem_cons, List.not_mem_nil, or_false, not_or]; exact ⟨ho, ne_new zo0 hh⟩) (k04 _ _ ho hh))
  rw [List.take_length] at g1
  have zl : zs.length ≤ 4 := by
    have := g1.length_le
    rw [List.length_map] at this
    omega
  let M : Int := if most + r < 30 then most + r else 30
  have hM : most ≤ M ∧ M ≤ 30 ∧ 1 ≤ M := by simp only [M]; split <;> omega
  have fin := post ⟨M, ls, zs⟩ m6 ⟨hM.2.2, hM.2.1, by rw [htl]; simp, lsl, fun l2 hl2 => ⟨(hlw l2 hl2).1, by have := (hlw l2 hl2).2.1; omega, (hlw l2 hl2).2.2⟩, ?_, dsl, dsnd, fun l2 hl2 c hc => Int.le_trans (most_ge l2 hl2 c hc) hM.1, by show zs.length ≤ 8; omega, fun z hz => ⟨ok _ (g1.subset (List.mem_map.mpr ⟨z, hz, rfl⟩)), g2 z hz⟩, nd.sublist g1, (List.nodup_append.mp g3).1⟩ hll (fun l2 hl2 => (hlw l2 hl2).2.1) kp b6
  · exact fin
  · have h1 : 1 ≤ (devsL L0).length := by simp [L0, devsL_app, devsL, Pl.devs]; omega
    have h2 : (devsL L0).length ≤ (ls.flatMap devsL).length := flat_mem_len (by rw [htl]; simp)
    show 1 ≤ (ls.flatMap devsL).length
    omega
end Mn.K04
end

section
set_option Elab.async false
set_option linter.all false
set_option maxRecDepth 100000
set_option maxHeartbeats 4000000
set_option pp.maxSteps 600
namespace Mn.K04
open Mn
variable {n : Nat} {m : Hm} {P : PD} {X : Nat → Hm → Prop}
abbrev Spot := Int × Int × Int
def spotD (s : Spot) : D := .tup [.int s.1, .int s.2.1, .int s.2.2]
def gateD (s : Int × Int) : D := .tup [.int s.1, .int s.2]
def devD (x : Spot × Dv) : D := .tup [spotD x.1, .str x.2.k, .int x.2.a]
def Pl.isOp : Pl → Bool | .op => true | .dev _ _ => false
def spurDevs (li at_ : Nat) (sp : List Dv) : List (Spot × Dv) := flatIdx (fun w s => [((((li : Nat) : Int), ((at_ + 1 : Nat) : Int), ((w + 1 : Nat) : Int)), s)]) 0 sp
def placeDevs (li at_ : Nat) : Pl → List (Spot × Dv)
  | .op => []
  | .dev d sp => ((((li : Nat) : Int), ((at_ + 1 : Nat) : Int), 0), d) :: spurDevs li at_ sp
def headDev (li at_ : Nat) : Pl → List (Spot × Dv)
  | .op => []
  | .dev d _ => [((((li : Nat) : Int), ((at_ + 1 : Nat) : Int), 0), d)]
def loopDevs (li : Nat) (l : List Pl) : List (Spot × Dv) := flatIdx (placeDevs li) 0 l
def devsS (ls : List (List Pl)) : List (Spot × Dv) := flatIdx loopDevs 0 ls
def placeStr (li at_ : Nat) (q : Pl) : List Spot := (List.range (q.ss.length + 1)).map fun w => (((li : Nat) : Int), ((at_ + 1 : Nat) : Int), ((w : Nat) : Int))
def loopStr (li : Nat) (l : List Pl) : List Spot := (((li : Nat) : Int), 0, 0) :: flatIdx (placeStr li) 0 l
def strsS (ls : List (List Pl)) : List Spot := flatIdx loopStr 0 ls
def placeGate (li at_ : Nat) (q : Pl) : List (Int × Int) := if q.isOp then [(((li : Nat) : Int), ((at_ + 1 : Nat) : Int))] else []
def loopGate (li : Nat) (l : List Pl) : List (Int × Int) := (((li : Nat) : Int), 0) :: (flatIdx (placeGate li) 0 l ++ [(((li : Nat) : Int), ((l.length + 1 : Nat) : Int))])
def gatesS (ls : List (List Pl)) : List (Int × Int) := flatIdx loopGate 0 ls
/-- what the walks ask of a plan -/
structure Shp (p : PlanT) : Prop where
  l1 : p.loops.length ≤ 3
  lp : ∀ l ∈ p.loops, l.length ≤ 12 ∧ ∀ q ∈ l, WfP q
theorem LetBy.shp {p : PlanT} (h : LetBy p) : Shp p := ⟨h.l1, fun l hl => ⟨(h.lp l hl).2.1, (h.lp l hl).2.2⟩⟩
theorem spur_len {li at_ : Nat} {sp : List Dv} : (spurDevs li at_ sp).length ≤ 1 * sp.length := flatIdx_len fun _ _ _ => by simp
theorem place_len {li at_ : Nat} {q : Pl} (h : WfP q) : (placeDevs li at_ q).length ≤ 4 := by
  cases q with
  | op => simp [placeDevs]
  | dev d sp =>
    have := spur_len (li := li) (at_ := at_) (sp := sp)
    have := h.2.1
    simp only [placeDevs, List.length_cons]
    omega
theorem loopDevs_len {li : Nat} {l : List Pl} (h : ∀ q ∈ l, WfP q) : (loopDevs li l).length ≤ 4 * l.length := flatIdx_len fun _ q hq => place_len (h q hq)
theorem kind_op {q : Pl} (h : WfP q) : decide (q.kk = tOpen) = q.isOp := by
  cases q with
  | op => rfl
  | dev d sp =>
    refine decide_eq_false ?_
    have := h.1.1
    intro z
    have z2 : d.k = tOpen := z
    rw [z2] at this
    revert this
    decide
theorem planD_1 (p : PlanT) : atI [D.int p.most, D.tup (p.loops.map loopD), D.tup (p.zones.map zoneD)] 1 = some (.tup (p.loops.map loopD)) := rfl
theorem placeStr_len {li at_ : Nat} {q : Pl} (h : WfP q) : (placeStr li at_ q).length ≤ 4 := by
  have := h.sl
  simp only [placeStr, List.length_map, List.length_range]
  omega
theorem loopStr_len {li : Nat} {l : List Pl} (h : ∀ q ∈ l, WfP q) : (loopStr li l).length ≤ 4 * l.length + 1 := by
  have : (flatIdx (placeStr li) 0 l).length ≤ 4 * l.length := flatIdx_len fun _ q hq => placeStr_len (h q hq)
  simp only [loopStr, List.length_cons]
  omega
def gF (li : Nat) : D → Option D
  | .tup [.int a, .tup (.str k :: _)] => if k = tOpen then some (gateD (((li : Nat) : Int), a + 1)) else none
  | _ => none
theorem gF_all {li : Nat} : ∀ {l : List Pl} {k : Nat}, (∀ q ∈ l, WfP q) → (enumD k (l.map Pl.D)).filterMap (gF li) = (flatIdx (placeGate li) k l).map gateD
  | [], _, _ => rfl
  | q :: l, k, h => by
    have ih := gF_all (li := li) (l := l) (k := k + 1) fun x hx => h x (List.mem_cons_of_mem _ hx)
    have ho := kind_op (h q List.mem_cons_self)
    rw [List.map_cons, enumD, List.filterMap_cons, Pl.D_eq, flatIdx, List.map_append, ← ih]
    have e : gF li (.tup [.int ((k : Nat) : Int), .tup [.str q.kk, .int q.aa, .tup (q.ss.map Dv.D)]]) = if q.kk = tOpen then some (gateD (((li : Nat) : Int), ((k : Nat) : Int) + 1)) else none := rfl
    rw [e]
    cases hq : q.isOp with
    | true =>
      rw [hq] at ho
      simp only [decide_eq_true_eq] at ho
      simp [ho, placeGate, hq]
    | false =>
      rw [hq] at ho
      simp only [decide_eq_false_iff_not] at ho
      simp [ho, placeGate, hq]
theorem placeGate_len {li at_ : Nat} {q : Pl} : (placeGate li at_ q).length ≤ 1 := by unfold placeGate; split <;> simp
theorem loopGate_len {li : Nat} {l : List Pl} : (loopGate li l).length ≤ l.length + 2 := by
  have : (flatIdx (placeGate li) 0 l).length ≤ 1 * l.length := flatIdx_len fun _ _ _ => placeGate_len
  simp only [loopGate, List.length_cons, List.length_append, List.length_nil]
  omega
end Mn.K04
end

section
set_option Elab.async false
set_option linter.all false
set_option maxRecDepth 100000
set_option maxHeartbeats 4000000
set_option pp.maxSteps 600
namespace Mn.K04
open Mn
variable {n : Nat} {m : Hm} {P : PD} {X : Nat → Hm → Prop}
theorem s_devices {pl : PlanT} (h : Shp pl) (post : ∀ q m2, m q = none → Ext m m2 → m2 q = some (.lst ((devsS pl.loops).map devD)) → P (.ref q) m2) : callN T (n + 1) 0 45 [pl.D] m P X := by
  rw [call_iff F_devices]
  refine ⟨rfl, ?_⟩
  have hSZ : (100000 : Nat) < SZ := by decide
  unfold f_devices start
  simp only [List.map, List.length, List.replicate, List.cons_append, List.nil_append]
  refine seq_to (fun r1 m1 => ∃ q, r1 = [some pl.D, some (.ref q), none, none, none, none, none, none, none, none, none] ∧ m q = none ∧ m1 = up m q (.lst [])) (fun nx hn => ?_) ?_
  · simp [-Bool.exists_bool]
    exact fun q hq => hn _ _ ⟨q, rfl, hq, rfl⟩
  rintro _ _ ⟨q, rfl, hq, rfl⟩
  refine seq_to (fun r1 m2 => ∃ x2 x3 x4 x5 x6 x7 x8 x9 x10, r1 = [some pl.D, some (.ref q), x2, x3, x4, x5, x6, x7, x8, x9, x10] ∧ Keep q m m2 ∧ m2 q = some (.lst ((devsS pl.loops).map devD))) (fun nx hn => ?_) ?_
  · refine fr_shut fun B hB => ?_
    simp [-Bool.exists_bool, PlanT.D, planD_1]
    refine loop_inv (fun i r1 m2 => ∃ x2 x3 x4 x5 x6 x7 x8 x9 x10, r1 = [some pl.D, some (.ref q), x2, x3, x4, x5, x6, x7, x8, x9, x10] ∧ Keep q m m2 ∧ m2 q = some (.lst ((flatIdx loopDevs 0 (pl.loops.take i)).map devD))) (k := 0) ⟨none, none, none, none, none, none, none, none, none, rfl, .up, by rw [up_at]; rfl⟩ (fun i x r1 m2 nx2 hx hI hn2 => ?_) fun r1 m2 hI => ?_
    · obtain ⟨_, _, x4, x5, x6, x7, x8, x9, x10, rfl, k2, q2⟩ := hI
      rw [Nat.zero_add] at q2 hn2
      obtain ⟨y, hy, rfl⟩ := enum_at hx
      rw [List.getElem?_map] at hy
      cases e : pl.loops[i]? with
      | none => rw [e] at hy; cases hy
      | some l =>
        rw [e] at hy
        cases hy
        have hi : i < pl.loops.length := (List.getElem?_eq_some_iff.mp e).1
        obtain ⟨hl12, hw⟩ := h.lp l (List.mem_of_getElem? e)
        have hbase : (flatIdx loopDevs 0 (pl.loops.take i)).length ≤ 48 * 3 := by
          have h1 : (flatIdx loopDevs 0 (pl.loops.take i)).length ≤ 48 * (pl.loops.take i).length := flatIdx_len fun j l2 hl2 => by
            obtain ⟨a1, a2⟩ := h.lp l2 (List.mem_of_mem_take hl2)
            have := loopDevs_len (li := j) a2
            omega
          rw [List.length_take] at h1
          have := h.l1
          omega
        refine ⟨trivial, ?_⟩
        rw [Nat.zero_add]
        simp [-Bool.exists_bool, lenT]
        subst hB
        rw [w_scons]
        refine fr_shut fun B hB => ?_
        simp [-Bool.exists_bool, loopD]
        refine loop_inv (fun j r1 m3 => ∃ x4 x5 x6 x7 x8 x9 x10, r1 = [some pl.D, some (.ref q), some (.int ((i : Nat) : Int)), some (loopD l), x4, x5, x6, x7, x8, x9, x10] ∧ Keep q m m3 ∧ m3 q = some (.lst ((flatIdx loopDevs 0 (pl.loops.take i) ++ flatIdx (placeDevs i) 0 (l.take j)).map devD))) (k := 0) ⟨x4, x5, x6, x7, x8, x9, x10, rfl, k2, by simpa [flatIdx] using q2⟩ (fun j x r1 m3 nx3 hx3 hI hn3 => ?_) fun r1 m3 hI => ?_
        · obtain ⟨_, _, _, _, x8, x9, x10, rfl, k3, q3⟩ := hI
          rw [Nat.zero_add] at q3 hn3
          obtain ⟨y, hy, rfl⟩ := enum_at hx3
          rw [List.getElem?_map] at hy
          cases e3 : l[j]? with
          | none => rw [e3] at hy; cases hy
          | some o =>
            rw [e3] at hy
            cases hy
            have hj : j < l.length := (List.getElem?_eq_some_iff.mp e3).1
            have hwo := hw o (List.mem_of_getElem? e3)
            have hb3 : (flatIdx (placeDevs i) 0 (l.take j)).length ≤ 48 := by
              have h1 := loopDevs_len (li := i) (l := l.take j) fun q hq => hw q (List.mem_of_mem_take hq)
              rw [List.length_take] at h1
              have h2 : (flatIdx (placeDevs i) 0 (l.take j)).length ≤ 4 * min j l.length := h1
              omega
            refine ⟨trivial, ?_⟩
            have hB_ := hB
            rw [Nat.zero_add]
            have hko := kind_op hwo
            have done : ∀ x8 x9 x10 m4, Keep q m m4 → m4 q = some (.lst (((flatIdx loopDevs 0 (pl.loops.take i) ++ flatIdx (placeDevs i) 0 (l.take j)) ++ placeDevs i j o).map devD)) → nx3 [some pl.D, some (.ref q), some (.int ((i : Nat) : Int)), some (loopD l), some (.int ((j : Nat) : Int)), some (.str o.kk), some (.int o.aa), some (.tup (o.ss.map Dv.D)), x8, x9, x10] m4 := fun x8 x9 x10 m4 k4 q4 =>
              hn3 _ _ ⟨_, _, _, _, x8, x9, x10, rfl, k4, by rw [q4, flatIdx_take e3, List.append_assoc]⟩
            -- the place itself
            simp [-Bool.exists_bool, lenT]
            rw [Pl.D_eq]
            simp [-Bool.exists_bool, lenT]
            subst hB_
            refine seq_to (fun r1 m4 => r1 = [some pl.D, some (.ref q), some (.int ((i : Nat) : Int)), some (loopD l), some (.int ((j : Nat) : Int)), some (.str o.kk), some (.int o.aa), some (.tup (o.ss.map Dv.D)), x8, x9, x10] ∧ Keep q m m4 ∧ m4 q = some (.lst (((flatIdx loopDevs 0 (pl.loops.take i) ++ flatIdx (placeDevs i) 0 (l.take j)) ++ headDev i j o).map devD))) (fun nx hn => ?_) ?_
            · cases o with
              | op =>
                simp [-Bool.exists_bool, Pl.kk, tOpen]
                exact hn _ _ ⟨rfl, k3, by simpa [headDev] using q3⟩
              | dev d sp =>
                have hk2 : ¬ d.k = [111, 112, 101, 110, 101, 114] := fun z => by
                  have := hko
                  simp [Pl.kk, Pl.isOp, tOpen] at this
                  exact of_decide_eq_false this z
                simp [-Bool.exists_bool, Pl.kk, hk2, rk_ref q3, mok]
                rw [app_ref q3]
                refine ⟨by rw [List.length_map, List.length_append]; omega, hn _ _ ⟨rfl, k3.trans .up, ?_⟩⟩
                rw [up_at]
                simp [devD, spotD, Pl.aa, headDev]
            rintro _ m4 ⟨rfl, k4, q4⟩
            let base := ((flatIdx loopDevs 0 (pl.loops.take i) ++ flatIdx (placeDevs i) 0 (l.take j)) ++ headDev i j o)
            have hbl : base.length ≤ 193 := by
              have : (headDev i j o).length ≤ 1 := by cases o <;> simp [headDev]
              simp only [base, List.length_append]
              omega
            have hsl := hwo.sl
            refine seq_to (fun r1 m5 => ∃ x8 x9 x10, r1 = [some pl.D, some (.ref q), some (.int ((i : Nat) : Int)), some (loopD l), some (.int ((j : Nat) : Int)), some (.str o.kk), some (.int o.aa), some (.tup (o.ss.map Dv.D)), x8, x9, x10] ∧ Keep q m m5 ∧ m5 q = some (.lst ((base ++ spurDevs i j o.ss).map devD))) (fun nx hn => ?_) ?_
            · refine fr_shut fun B hB => ?_
              simp [-Bool.exists_bool]
              refine loop_inv (fun w r1 m5 => ∃ x8 x9 x10, r1 = [some pl.D, some (.ref q), some (.int ((i : Nat) : Int)), some (loopD l), some (.int ((j : Nat) : Int)), some (.str o.kk), some (.int o.aa), some (.tup (o.ss.map Dv.D)), x8, x9, x10] ∧ Keep q m m5 ∧ m5 q = some (.lst ((base ++ spurDevs i j (o.ss.take w)).map devD))) (k := 0) ⟨x8, x9, x10, rfl, k4, by simpa [spurDevs, flatIdx, base] using q4⟩ (fun w x r1 m5 nx5 hx5 hI hn5 => ?_) fun r1 m5 hI => ?_
              · obtain ⟨_, _, _, rfl, k5, q5⟩ := hI
                rw [Nat.zero_add] at q5 hn5
                obtain ⟨y, hy, rfl⟩ := enum_at hx5
                rw [List.getElem?_map] at hy
                cases e5 : o.ss[w]? with
                | none => rw [e5] at hy; cases hy
                | some d =>
                  rw [e5] at hy
                  cases hy
                  have hw3 : w < o.ss.length := (List.getElem?_eq_some_iff.mp e5).1
                  have hb5 := spur_len (li := i) (at_ := j) (sp := o.ss.take w)
                  rw [List.length_take] at hb5
                  refine ⟨trivial, ?_⟩
                  subst hB
                  simp [-Bool.exists_bool, lenT, Dv.D, rk_ref q5, mok]
                  rw [app_ref q5]
                  refine ⟨by rw [List.length_map, List.length_append]; omega, hn5 _ _ ⟨_, _, _, rfl, k5.trans .up, ?_⟩⟩
                  have : spurDevs i j (o.ss.take (w + 1)) = spurDevs i j (o.ss.take w) ++ [((((i : Nat) : Int), ((j + 1 : Nat) : Int), ((w + 1 : Nat) : Int)), d)] := flatIdx_take e5
                  rw [up_at, this]
                  simp [devD, spotD]
              · rw [Nat.zero_add, enum_length, List.length_map] at hI
                obtain ⟨x8, x9, x10, h1, h2, h3⟩ := hI
                rw [List.take_length] at h3
                exact ⟨trivial, hn _ _ ⟨x8, x9, x10, h1, h2, h3⟩⟩
            rintro _ m5 ⟨x8, x9, x10, rfl, k5, q5⟩
            rw [w_snil]
            refine done x8 x9 x10 m5 k5 ?_
            rw [q5]
            cases o with
            | op => simp [base, placeDevs, Pl.ss, spurDevs, flatIdx, headDev]
            | dev d sp => simp [base, placeDevs, Pl.ss, headDev]
        · rw [Nat.zero_add, enum_length, List.length_map] at hI
          obtain ⟨x4, x5, x6, x7, x8, x9, x10, rfl, k3, q3⟩ := hI
          rw [List.take_length] at q3
          exact ⟨trivial, hn2 _ _ ⟨_, _, x4, x5, x6, x7, x8, x9, x10, rfl, k3, by rw [q3, flatIdx_take e]; rfl⟩⟩
    · rw [Nat.zero_add, enum_length, List.length_map] at hI
      obtain ⟨x2, x3, x4, x5, x6, x7, x8, x9, x10, h1, h2, h3⟩ := hI
      rw [List.take_length] at h3
      exact ⟨trivial, hn _ _ ⟨x2, x3, x4, x5, x6, x7, x8, x9, x10, h1, h2, h3⟩⟩
  rintro _ m2 ⟨x2, x3, x4, x5, x6, x7, x8, x9, x10, rfl, k2, q2⟩
  simp [-Bool.exists_bool]
  exact post q m2 hq (k2.ext hq) q2
end Mn.K04
end

section
set_option Elab.async false
set_option linter.all false
set_option maxRecDepth 100000
set_option maxHeartbeats 4000000
set_option pp.maxSteps 600
namespace Mn.K04
open Mn
variable {n : Nat} {m : Hm} {P : PD} {X : Nat → Hm → Prop}
/-- the parts of a loop, cur begun -/
def partsFromS (li : Nat) : Nat → List Spot → List Pl → List (List Spot)
  | _, cur, [] => [cur]
  | k, cur, .op :: l => cur :: partsFromS li (k + 1) [] l
  | k, cur, .dev d sp :: l => partsFromS li (k + 1) (cur ++ placeStr li k (.dev d sp)) l
def partsS (li : Nat) (l : List Pl) : List (List Spot) := partsFromS li 0 [] l
theorem spots_flat {k : Nat} : ∀ {l : List Spot}, D.flats (k + 1) (l.map spotD) = true
  | [] => by simp [D.flats]
  | x :: l => by
    have h2 := spots_flat (k := k) (l := l)
    simp only [List.map_cons, D.flats, Bool.and_eq_true]
    exact ⟨by simp [spotD, D.flat, D.flats], h2⟩
/-- lists of spots in cells of their own -/
structure Cells (m : Hm) (q : Nat) (rs : List Nat) (ps : List (List Spot)) : Prop where
  hq : m q = some (.lst (rs.map D.ref))
  l : rs.length = ps.length
  c : ∀ (i r : Nat) (p : List Spot), rs[i]? = some r → ps[i]? = some p → m r = some (.lst (p.map spotD))
  nd : (q :: rs).Nodup
theorem s_parts3 {pl : PlanT} {li : Nat} {l : List Pl} (h : Shp pl) (hl : pl.loops[li]? = some l) (post : ∀ (q : Nat) (rs : List Nat) (m2 : Hm), m q = none → (∀ r ∈ rs, m r = none) → Ext m m2 → Cells m2 q rs (partsS li l) → rs.length ≤ 13 → P (.ref q) m2) :
    callN T (n + 1) 0 48 [pl.D, .int ((li : Nat) : Int)] m P X := by
  rw [call_iff F_parts]
  refine ⟨rfl, ?_⟩
  have hSZ : (100000 : Nat) < SZ := by decide
  obtain ⟨hl12, hw⟩ := h.lp l (List.mem_of_getElem? hl)
  have hli : li < pl.loops.length := (List.getElem?_eq_some_iff.mp hl).1
  have atL : atI (pl.loops.map loopD) ((li : Nat) : Int) = some (loopD l) := by
    rw [atI_nat (by rw [List.length_map]; exact hli)]
    rw [List.getElem?_eq_getElem hli] at hl
    simp only [List.getElem_map]
    rw [Option.some.inj hl]
  unfold f_parts start
  simp only [List.map, List.length, List.replicate, List.cons_append, List.nil_append]
  refine seq_to (fun r1 m1 => ∃ q r, r1 = [some pl.D, some (.int ((li : Nat) : Int)), some (.ref q), none, none, none, none, none] ∧ m r = none ∧ m q = none ∧ q ≠ r ∧ Ext m m1 ∧ m1 q = some (.lst [.ref r]) ∧ m1 r = some (.lst [])) (fun nx hn => ?_) ?_
  · simp [-Bool.exists_bool]
    intro r hr q hq
    have hqr : q ≠ r := fun z => by rw [z, up_at] at hq; cases hq
    exact hn _ _ ⟨q, r, rfl, hr, (Ext.new hr).none hq, hqr, (Ext.new hr).trans (.new hq), up_at, get_new hq up_at⟩
  rintro _ m1 ⟨q, r0, rfl, hr0, hq0, hqr, e1, q1, r1⟩
  let I : Nat → Mn.Env → Hm → Prop := fun i ev m2 => ∃ x3 x4 x5 x6, ∃ rs : List Nat, ∃ done : List (List Spot), ∃ cur : List Spot, ev = [some pl.D, some (.int ((li : Nat) : Int)), some (.ref q), x3, x4, x5, x6, none] ∧ Ext m m2 ∧ Cells m2 q rs (done ++ [cur]) ∧ (∀ r ∈ rs, m r = none) ∧ done ++ partsFromS li i cur (l.drop i) = partsS li l ∧ done.length ≤ i ∧ cur.length ≤ 4 * i
  refine seq_to (I l.length) (fun nx hn => ?_) ?_
  · refine fr_shut fun B hB => ?_
    simp [-Bool.exists_bool, PlanT.D, planD_1]
    refine ⟨_, atL, ?_⟩
    simp [-Bool.exists_bool, loopD]
    refine loop_inv I (k := 0) ⟨none, none, none, none, [r0], [], [], rfl, e1, ⟨q1, rfl, ?_, by simp [hqr]⟩, by simpa using hr0, by simp [partsS], by simp, by simp⟩ (fun i x ev m2 nx2 hx hI hn2 => ?_) fun ev m2 hI => ?_
    · intro i r p hr hp
      cases i with
      | zero => simp at hr hp; subst hr; subst hp; exact r1
      | succ i => simp at hr
    · obtain ⟨_, _, _, _, rs, done, cur, rfl, e2, hc, hrs, hd, hdl, hcl⟩ := hI
      rw [Nat.zero_add] at hd hdl hcl hn2
      obtain ⟨y, hy, rfl⟩ := enum_at hx
      rw [List.getElem?_map] at hy
      cases e : l[i]? with
      | none => rw [e] at hy; cases hy
      | some o =>
        rw [e] at hy
        cases hy
        have hi : i < l.length := (List.getElem?_eq_some_iff.mp e).1
        have dr : l.drop i = o :: l.drop (i + 1) := by rw [List.drop_eq_getElem_cons hi]; congr 1; rw [List.getElem?_eq_getElem hi] at e; exact Option.some.inj e
        have hwo := hw o (List.mem_of_getElem? e)
        have hO : (Pl.D o) = .tup [.str o.kk, .int o.aa, .tup (o.ss.map Dv.D)] := Pl.D_eq o
        have hko := kind_op hwo
        have rsl : rs.length = done.length + 1 := by rw [hc.l]; simp
        refine ⟨trivial, ?_⟩
        rw [Nat.zero_add]
        simp [-Bool.exists_bool, lenT]
        rw [hO]
        simp [-Bool.exists_bool, lenT]
        subst hB
        cases o with
        | op =>
          simp [-Bool.exists_bool, Pl.kk, tOpen, rk_ref hc.hq, mok]
          intro r hr
          have q2 := get_new hr hc.hq (o2 := .lst [])
          refine ⟨rk_ref q2, ?_⟩
          rw [app_ref q2]
          have hrq : q ≠ r := ne_new hr hc.hq
          have hrn : r ∉ rs := fun hm => by
            obtain ⟨k, hk⟩ := List.getElem?_of_mem hm
            have hk2 : k < (done ++ [cur]).length := by rw [← hc.l]; exact (List.getElem?_eq_some_iff.mp hk).1
            have := hc.c k r _ hk (List.getElem?_eq_getElem hk2)
            rw [hr] at this
            cases this
          refine ⟨by rw [List.length_map]; omega, hn2 _ _ ⟨_, _, _, _, rs ++ [r], done ++ [cur], [], rfl, fun o ob ho => ?_, ⟨by rw [up_at]; simp, by simp [rsl], ?_, ?_⟩, fun y hy => ?_, ?_, by simp; omega, by simp⟩⟩
          · rw [up_off (fun z => by rw [z, hq0] at ho; cases ho)]
            exact get_new hr (e2 _ _ ho)
          · intro k y p hk hp
            by_cases hlt : k < rs.length
            · rw [List.getElem?_append_left hlt] at hk
              rw [List.getElem?_append_left (by rw [← hc.l]; exact hlt)] at hp
              have hy : y ∈ rs := List.mem_of_getElem? hk
              have hyq : y ≠ q := fun z => (List.nodup_cons.mp hc.nd).1 (z ▸ hy)
              rw [up_off hyq]
              exact get_new hr (hc.c k y p hk hp)
            · have hkl := (List.getElem?_eq_some_iff.mp hk).1
              rw [List.length_append] at hkl
              have hke : k = rs.length := by simp at hkl; omega
              subst hke
              rw [List.getElem?_append_right (Nat.le_refl _)] at hk
              rw [hc.l, List.getElem?_append_right (Nat.le_refl _)] at hp
              simp at hk hp
              subst hk
              subst hp
              rw [up_off hrq.symm, up_at]
              rfl
          · have h1 := List.nodup_cons.mp hc.nd
            rw [← List.cons_append, List.nodup_append]
            exact ⟨hc.nd, by simp, fun a ha b hb => by
              rw [List.mem_singleton.mp hb]
              rcases List.mem_cons.mp ha with z | z
              · rw [z]; exact hrq
              · exact fun e => hrn (e ▸ z)⟩
          · rcases List.mem_append.mp hy with h | h
            · exact hrs y h
            · rw [List.mem_singleton.mp h]; exact e2.none hr
          · rw [dr] at hd
            simpa [partsFromS] using hd
        | dev d sp =>
          have hk2 : ¬ d.k = [111, 112, 101, 110, 101, 114] := fun z => of_decide_eq_false hko z
          have hsl := hwo.sl
          obtain ⟨rl, hrl⟩ : ∃ rl, rs[done.length]? = some rl := ⟨_, List.getElem?_eq_getElem (by omega)⟩
          have hcur := hc.c _ _ cur hrl (by simp)
          have hrlm : rl ∈ rs := List.mem_of_getElem? hrl
          have hrlq : rl ≠ q := fun z => (List.nodup_cons.mp hc.nd).1 (z ▸ hrlm)
          have hat : atI (rs.map D.ref) (-1) = some (.ref rl) := by
            unfold atI ixN
            rw [if_neg (by decide), if_pos (by rw [List.length_map]; omega), List.length_map, rsl]
            have : ((-1 : Int) + ((done.length + 1 : Nat) : Int)).toNat = done.length := by omega
            simp only [Option.bind_some, this]
            rw [List.getElem?_map, hrl]
            rfl
          simp [-Bool.exists_bool, Pl.kk, hk2]
          rw [x_ref hc.hq]
          refine ⟨_, hat, ?_⟩
          simp [-Bool.exists_bool, rk_ref hcur, mok, Pl.ss]
          have hsl2 : sp.length ≤ 3 := hsl
          refine ⟨⟨by omega, by omega⟩, fun c hcn => ?_⟩
          have er : rangeD 0 (sp.length + 1) = (List.range (sp.length + 1)).map fun w => D.int ((w : Nat) : Int) := rangeD_map _
          rw [er]
          refine comp_list (List.range (sp.length + 1)) (fun w => D.int ((w : Nat) : Int)) (fun w => spotD (((li : Nat) : Int), ((i + 1 : Nat) : Int), ((w : Nat) : Int))) hcn (fun _ _ => trivial) (by rw [List.length_range]; omega) (fun w hw m4 acc Q1 Q2 k4 h4 hQ => ?_) fun m4 e4 h4 => ?_
          · simp [-Bool.exists_bool, wipe]
            exact hQ m4 k4 h4
          · have c4 := e4 _ _ hcur
            have hh : m4 c = some (.lst ((placeStr li i (.dev d sp)).map spotD)) := by rw [h4, placeStr, List.map_map]; rfl
            refine ⟨rk_ref c4, ?_⟩
            rw [ext_ref c4 hh]
            have hpl := placeStr_len (li := li) (at_ := i) hwo
            refine ⟨by rw [List.length_map, List.length_map]; omega, hn2 _ _ ⟨_, _, _, _, rs, done, cur ++ placeStr li i (.dev d sp), rfl, fun o ob ho => ?_, ⟨by rw [up_off hrlq.symm]; exact e4 _ _ hc.hq, by rw [rsl]; simp, ?_, hc.nd⟩, hrs, ?_, by omega, by rw [List.length_append]; omega⟩⟩
            · rw [up_off (fun z => by rw [z, hrs rl hrlm] at ho; cases ho)]
              exact e4 _ _ (e2 _ _ ho)
            · intro k y p hk hp
              by_cases hke : k = done.length
              · subst hke
                rw [hrl] at hk
                simp at hk hp
                subst hk
                subst hp
                rw [up_at]
                simp
              · have hlt : k < done.length := by
                  have := (List.getElem?_eq_some_iff.mp hp).1
                  rw [List.length_append] at this
                  simp at this
                  omega
                rw [List.getElem?_append_left hlt] at hp
                have hyr : y ≠ rl := fun z => by
                  subst z
                  exact hke (nodup_at (List.nodup_cons.mp hc.nd).2 hk hrl)
                rw [up_off hyr]
                exact e4 _ _ (hc.c k y p hk (by rw [List.getElem?_append_left hlt]; exact hp))
            · rw [dr] at hd
              simpa [partsFromS] using hd
    · rw [Nat.zero_add, enum_length, List.length_map] at hI
      exact ⟨trivial, hn _ _ hI⟩
  rintro _ m2 ⟨x3, x4, x5, x6, rs, done, cur, rfl, e2, hc, hrs, hd, hdl, _⟩
  simp [-Bool.exists_bool]
  rw [List.drop_length] at hd
  have hd2 : done ++ [cur] = partsS li l := hd
  rw [hd2] at hc
  refine post q rs m2 hq0 hrs e2 hc ?_
  have := hc.l
  rw [← hd2] at this
  simp at this
  omega
end Mn.K04
end

section
set_option Elab.async false
set_option linter.all false
set_option maxRecDepth 100000
set_option maxHeartbeats 4000000
set_option pp.maxSteps 600
namespace Mn.K04
open Mn
variable {n : Nat} {m : Hm} {P : PD} {X : Nat → Hm → Prop}
theorem spur_snd {li at_ : Nat} : ∀ (sp : List Dv) (k : Nat), (flatIdx (fun w s => [((((li : Nat) : Int), ((at_ + 1 : Nat) : Int), ((w + 1 : Nat) : Int)), s)]) k sp).map Prod.snd = sp
  | [], _ => rfl
  | s :: sp, k => by simp only [flatIdx, List.map_append, spur_snd sp (k + 1)]; rfl
theorem place_snd {li at_ : Nat} (q : Pl) : (placeDevs li at_ q).map Prod.snd = q.devs := by
  cases q with
  | op => rfl
  | dev d sp => simp only [placeDevs, List.map_cons, Pl.devs, spurDevs, spur_snd]
theorem loop_snd {li : Nat} : ∀ (l : List Pl) (k : Nat), (flatIdx (placeDevs li) k l).map Prod.snd = devsL l
  | [], _ => rfl
  | q :: l, k => by simp only [flatIdx, List.map_append, loop_snd l (k + 1), place_snd, devsL, List.flatMap_cons]
theorem devs_snd : ∀ (ls : List (List Pl)) (k : Nat), (flatIdx loopDevs k ls).map Prod.snd = ls.flatMap devsL
  | [], _ => rfl
  | l :: ls, k => by simp only [flatIdx, List.map_append, devs_snd ls (k + 1), loopDevs, loop_snd, List.flatMap_cons]
theorem devs_all (p : PlanT) : (devsS p.loops).map Prod.snd = p.devs := devs_snd p.loops 0
theorem devs_n (p : PlanT) : (devsS p.loops).length = p.devs.length := by rw [← devs_all, List.length_map]
theorem part_ns {li : Nat} : ∀ (l : List Pl) (k : Nat) (cur : List Spot), (partsFromS li k cur l).map List.length = partsFrom cur.length l
  | [], _, _ => rfl
  | .op :: l, k, cur => by simp only [partsFromS, partsFrom, List.map_cons]; rw [part_ns l (k + 1) []]; rfl
  | .dev d sp :: l, k, cur => by
    simp only [partsFromS, partsFrom]
    rw [part_ns l (k + 1)]
    congr 1
    simp [placeStr, Pl.ss]; omega
theorem s_told_twice {p : PlanT} (h : LetBy p) (post : ∀ m2, Ext m m2 → P .non m2) : callN T (n + 2) 0 49 [p.D] m P X := by
  rw [call_iff F_told_twice]
  refine ⟨rfl, ?_⟩
  have hSZ : (100000 : Nat) < SZ := by decide
  unfold f_told_twice start
  simp only [List.map, List.length, List.replicate, List.cons_append, List.nil_append]
  refine seq_to (fun r1 m1 => ∃ q, r1 = [some p.D, some (.ref q), none, none, none] ∧ m q = none ∧ m1 = up m q (.dK [])) (fun nx hn => ?_) ?_
  · simp [-Bool.exists_bool]
    exact fun q hq => hn _ _ ⟨q, rfl, hq, rfl⟩
  rintro _ _ ⟨q, rfl, hq, rfl⟩
  let as := (devsS p.loops).map fun x => x.2.a
  have has : as = p.devs.map Dv.a := by rw [← devs_all]; simp [as, List.map_map, Function.comp_def]
  have nd : as.Nodup := by rw [has]; exact h.nd
  have al : as.length ≤ 30 := by rw [has, List.length_map]; exact h.n1
  refine seq_to (fun r1 m1 => ∃ x y z w, r1 = [some p.D, some w, x, y, z] ∧ Ext m m1) (fun nx hn => ?_) ?_
  · refine fr_shut fun B hB => ?_
    simp [-Bool.exists_bool, F_devices]
    refine s_devices h.shp fun d m1 hd e1 d1 => ?_
    rw [walk_ref d1]
    have qd : q ≠ d := ne_new hd up_at
    refine loop_inv (fun i r1 m2 => ∃ x y z, r1 = [some p.D, some (.ref q), x, y, z] ∧ Keep q m m2 ∧ m2 d = some (.lst ((devsS p.loops).map devD)) ∧ m2 q = some (.dK (kvF (as.take i) fun _ => .bl true))) (k := 0) ⟨none, none, none, rfl, ((Ext.new hq).trans e1).keep, d1, e1 _ _ up_at⟩ (fun i x r1 m2 nx2 hx hI hn2 => ?_) fun r1 m2 hI => ?_
    · obtain ⟨_, _, _, rfl, k2, c1, c2⟩ := hI
      rw [Nat.zero_add] at c2 hn2
      rw [List.getElem?_map] at hx
      cases e : (devsS p.loops)[i]? with
      | none => rw [e] at hx; cases hx
      | some o =>
        rw [e] at hx
        cases hx
        have ea : as[i]? = some o.2.a := by simp only [as, List.getElem?_map, e]; rfl
        have hi : i < as.length := (List.getElem?_eq_some_iff.mp ea).1
        have tk : as.take (i + 1) = as.take i ++ [o.2.a] := by rw [List.take_succ, ea]; rfl
        have na := nodup_take nd ea
        refine ⟨c1, ?_⟩
        subst hB
        have e1 : ∀ P : PD, cmpW .in_ (.int o.2.a) (.ref q) m2 P = P (.bl false) m2 := fun P => by rw [in_eq, in_dict c2, look_kvF_no na]; rfl
        simp [-Bool.exists_bool, lenT, devD, e1]
        rw [set_dict c2, putk_kvF_snoc na rfl, ← tk]
        refine ⟨by rw [kvF_length, List.length_take]; omega, hn2 _ _ ⟨_, _, _, rfl, k2.trans .up, by rw [up_off qd.symm]; exact c1, up_at⟩⟩
    · obtain ⟨x, y, z, rfl, k2, c1, _⟩ := hI
      exact ⟨c1, hn _ _ ⟨x, y, z, _, rfl, k2.ext hq⟩⟩
  rintro _ m1 ⟨x, y, z, w, rfl, e1⟩
  simp [-Bool.exists_bool]
  exact post m1 e1
theorem s_crowdedG {p : PlanT} (hs : Shp p) (hpt : ∀ l ∈ p.loops, ∀ c ∈ partsN l, (c : Int) ≤ p.most) (post : ∀ m2, Ext m m2 → P .non m2) : callN T (n + 2) 0 50 [p.D] m P X := by
  rw [call_iff F_crowded]
  refine ⟨rfl, ?_⟩
  have hl1 := hs.l1
  unfold f_crowded start
  simp only [List.map, List.length, List.replicate, List.cons_append, List.nil_append]
  refine seq_to (fun r1 m1 => ∃ x y z, r1 = [some p.D, x, y, z] ∧ Ext m m1) (fun nx hn => ?_) ?_
  · refine fr_shut fun B hB => ?_
    have hb : inB (p.loops.length : Int) := ⟨by omega, by omega⟩
    simp [-Bool.exists_bool, PlanT.D, planD_1, hb]
    refine loop_mem (fun r1 m1 => ∃ x y z, r1 = [some p.D, x, y, z] ∧ Ext m m1) ⟨none, none, none, rfl, .refl⟩ (fun x r1 m1 nx2 hx hI hn2 => ?_) fun r1 m1 hI => ⟨trivial, hn _ _ hI⟩
    obtain ⟨_, y, z, rfl, e1⟩ := hI
    obtain ⟨i, hi⟩ := List.mem_iff_getElem?.mp hx
    obtain ⟨rfl, hi2⟩ := range_get hi
    rw [Int.zero_add]
    obtain ⟨l, hl⟩ : ∃ l, p.loops[i]? = some l := ⟨_, List.getElem?_eq_getElem hi2⟩
    refine ⟨trivial, ?_⟩
    subst hB
    rw [w_scons]
    refine fr_shut fun B hB => ?_
    simp [-Bool.exists_bool, F_parts]
    refine s_parts3 hs hl fun q rs m2 hq hrs e2 hc hrl => ?_
    simp [-Bool.exists_bool, walk_ref hc.hq]
    refine loop_mem (fun r1 m3 => ∃ x y z, r1 = [some p.D, x, y, z] ∧ Ext m m3 ∧ Cells m3 q rs (partsS i l)) ⟨_, _, _, rfl, e1.trans e2, hc⟩ (fun x r1 m3 nx3 hx3 hI hn3 => ?_) fun r1 m3 hI => ?_
    · obtain ⟨_, _, _, rfl, e3, hc3⟩ := hI
      obtain ⟨j, hj⟩ := List.mem_iff_getElem?.mp hx3
      obtain ⟨y, hy, rfl⟩ := enum_at hj
      rw [List.getElem?_map] at hy
      cases er : rs[j]? with
      | none => rw [er] at hy; cases hy
      | some r =>
        rw [er] at hy
        cases hy
        have hjl : j < (partsS i l).length := by rw [← hc3.l]; exact (List.getElem?_eq_some_iff.mp er).1
        have hcr := hc3.c j r _ er (List.getElem?_eq_getElem hjl)
        have hpt2 : ((partsS i l)[j].length : Int) ≤ p.most := by
          refine hpt l (List.mem_of_getElem? hl) _ ?_
          have := part_ns (li := i) l 0 []
          unfold partsN
          rw [show partsFrom 0 l = partsFrom ([] : List Spot).length l from rfl, ← this]
          exact List.mem_map.mpr ⟨_, List.getElem_mem hjl, rfl⟩
        refine ⟨hc3.hq, ?_⟩
        subst hB
        have npt : ¬ p.most < ((partsS i l)[j].length : Int) := by omega
        simp [-Bool.exists_bool, lenT, PlanT.D, atI, ixN, len_ref hcr, npt]
        exact hn3 _ _ ⟨_, _, _, rfl, e3, hc3⟩
    · obtain ⟨x, y, z, rfl, e3, hc3⟩ := hI
      refine ⟨hc3.hq, ?_⟩
      exact hn2 _ _ ⟨_, _, _, rfl, e3⟩
  rintro _ m1 ⟨x, y, z, rfl, e1⟩
  simp [-Bool.exists_bool]
  exact post m1 e1
theorem s_crowded {p : PlanT} (h : LetBy p) (post : ∀ m2, Ext m m2 → P .non m2) : callN T (n + 2) 0 50 [p.D] m P X := s_crowdedG h.shp h.pt post
end Mn.K04
end

section
set_option Elab.async false
set_option linter.all false
set_option maxRecDepth 100000
set_option maxHeartbeats 4000000
set_option pp.maxSteps 600
namespace Mn.K04
open Mn
variable {n : Nat} {m : Hm} {P : PD} {X : Nat → Hm → Prop}
def tTwice : List Nat := [116, 119, 105, 99, 101]
def tCrowd : List Nat := [99, 114, 111, 119, 100, 101, 100]
def tStran : List Nat := [115, 116, 114, 97, 110, 103, 101, 114]
def tShare : List Nat := [115, 104, 97, 114, 101, 100]
abbrev Zn := List Nat × List Int
/-- the first address told twice -/
def dupF : List Int → List Int → D
  | _, [] => .non
  | ah, a :: r => if a ∈ ah then .tup [.str tTwice, .int a] else dupF (ah ++ [a]) r
/-- the first part crowded -/
def cr1 (most : Int) (li : Nat) : Nat → List Nat → D
  | _, [] => .non
  | j, c :: r => if most < (c : Int) then .tup [.str tCrowd, .int (li : Nat), .int (j : Nat)] else cr1 most li (j + 1) r
def orD : D → D → D
  | .non, y => y
  | x, _ => x
def crF (most : Int) : Nat → List (List Pl) → D
  | _, [] => .non
  | i, l :: r => orD (cr1 most i 0 (partsN l)) (crF most (i + 1) r)
def st1 (known : List Int) (nm : List Nat) : List Int → Option (List Nat × Int)
  | [] => none
  | a :: r => if a ∈ known then st1 known nm r else some (nm, a)
def stF (known : List Int) : List Zn → Option (List Nat × Int)
  | [] => none
  | z :: r => (st1 known z.1 z.2).or (stF known r)
def sh1 (ah : List Int) (nm : List Nat) : List Int → Option (List Nat × Int)
  | [] => none
  | a :: r => if a ∈ ah then some (nm, a) else sh1 ah nm r
def shF : List Int → List Zn → Option (List Nat × Int)
  | _, [] => none
  | ah, z :: r => (sh1 ah z.1 z.2).or (shF (ah ++ z.2) r)
def opD (t : List Nat) : Option (List Nat × Int) → D
  | none => .non
  | some v => .tup [.str t, .str v.1, .int v.2]
def zoF (known : List Int) (zs : List Zn) : D := orD (opD tStran (stF known zs)) (opD tShare (shF [] zs))
def orL : List D → D
  | [] => .non
  | x :: r => orD x (orL r)
def wrF (p : PlanT) : D := orL [dupF [] (p.devs.map Dv.a), crF p.most 0 p.loops, zoF (toldBy p.devs) p.zones]
theorem dupF_cons {ah r : List Int} {a : Int} : dupF ah (a :: r) = if a ∈ ah then .tup [.str tTwice, .int a] else dupF (ah ++ [a]) r := rfl
theorem cr1_cons {most : Int} {li j c : Nat} {r : List Nat} : cr1 most li j (c :: r) = if most < (c : Int) then .tup [.str tCrowd, .int (li : Nat), .int (j : Nat)] else cr1 most li (j + 1) r := rfl
theorem crF_cons {most : Int} {i : Nat} {l : List Pl} {r : List (List Pl)} : crF most i (l :: r) = orD (cr1 most i 0 (partsN l)) (crF most (i + 1) r) := rfl
/-- nothing, or a tuple -/
def NT (d : D) : Prop := d = .non ∨ ∃ ds, d = .tup ds
theorem NT.or_ {x y : D} (hx : NT x) (hy : NT y) : NT (orD x y) := by
  rcases hx with rfl | ⟨ds, rfl⟩
  · exact hy
  · exact .inr ⟨ds, rfl⟩
theorem dupF_nt : ∀ {r ah : List Int}, NT (dupF ah r)
  | [], _ => .inl rfl
  | a :: r, ah => by
    unfold dupF
    split
    · exact .inr ⟨_, rfl⟩
    · exact dupF_nt
theorem cr1_nt {most : Int} {li : Nat} : ∀ {r : List Nat} {j : Nat}, NT (cr1 most li j r)
  | [], _ => .inl rfl
  | a :: r, j => by
    unfold cr1
    split
    · exact .inr ⟨_, rfl⟩
    · exact cr1_nt
theorem crF_nt {most : Int} : ∀ {r : List (List Pl)} {i : Nat}, NT (crF most i r)
  | [], _ => .inl rfl
  | l :: r, i => cr1_nt.or_ crF_nt
theorem opD_nt {t : List Nat} : ∀ {o : Option (List Nat × Int)}, NT (opD t o)
  | none => .inl rfl
  | some v => .inr ⟨_, rfl⟩
theorem zoF_nt {known : List Int} {zs : List Zn} : NT (zoF known zs) := opD_nt.or_ opD_nt
theorem drop_at {α : Type} {l : List α} {i : Nat} {a : α} (h : l[i]? = some a) : l.drop i = a :: l.drop (i + 1) := by
  have hi := (List.getElem?_eq_some_iff.mp h).1
  rw [List.drop_eq_getElem_cons hi]
  congr 1
  rw [List.getElem?_eq_getElem hi] at h
  exact Option.some.inj h
theorem take_at {α : Type} {l : List α} {i : Nat} {a : α} (h : l[i]? = some a) : l.take (i + 1) = l.take i ++ [a] := by rw [List.take_succ, h]; rfl
theorem devs_le {p : PlanT} (h : Shp p) : p.devs.length ≤ 200 := by
  rw [← devs_n]
  have h1 : (devsS p.loops).length ≤ 60 * p.loops.length := flatIdx_len fun _ l hl => by
    have := loopDevs_len (li := 0) (h.lp l hl).2
    have h2 := (h.lp l hl).1
    refine Nat.le_trans (loopDevs_len (h.lp l hl).2) (by omega)
  have := h.l1
  omega
theorem s_told {p : PlanT} (h : Shp p) (post : ∀ m2, Ext m m2 → P (dupF [] (p.devs.map Dv.a)) m2) : callN T (n + 2) 0 49 [p.D] m P X := by
  rw [call_iff F_told_twice]
  refine ⟨rfl, ?_⟩
  have hSZ : (100000 : Nat) < SZ := by decide
  unfold f_told_twice start
  simp only [List.map, List.length, List.replicate, List.cons_append, List.nil_append]
  refine seq_to (fun r1 m1 => ∃ q, r1 = [some p.D, some (.ref q), none, none, none] ∧ m q = none ∧ m1 = up m q (.dK [])) (fun nx hn => ?_) ?_
  · simp [-Bool.exists_bool]
    exact fun q hq => hn _ _ ⟨q, rfl, hq, rfl⟩
  rintro _ _ ⟨q, rfl, hq, rfl⟩
  have has : (devsS p.loops).map (fun x => x.2.a) = p.devs.map Dv.a := by rw [← devs_all]; simp [List.map_map, Function.comp_def]
  have al : (p.devs.map Dv.a).length ≤ 200 := by rw [List.length_map]; exact devs_le h
  generalize hA : p.devs.map Dv.a = as at has al post
  refine seq_to (fun r1 m1 => ∃ x y z w, r1 = [some p.D, some w, x, y, z] ∧ Ext m m1 ∧ dupF [] as = .non) (fun nx hn => ?_) ?_
  · refine fr_shut fun B hB => ?_
    simp [-Bool.exists_bool, F_devices]
    refine s_devices h fun d m1 hd e1 d1 => ?_
    rw [walk_ref d1]
    have qd : q ≠ d := ne_new hd up_at
    refine loop_inv (fun i r1 m2 => ∃ x y z, r1 = [some p.D, some (.ref q), x, y, z] ∧ Keep q m m2 ∧ m2 d = some (.lst ((devsS p.loops).map devD)) ∧ m2 q = some (.dK (kvF (as.take i) fun _ => .bl true)) ∧ dupF [] as = dupF (as.take i) (as.drop i)) (k := 0) ⟨none, none, none, rfl, ((Ext.new hq).trans e1).keep, d1, e1 _ _ up_at, rfl⟩ (fun i x r1 m2 nx2 hx hI hn2 => ?_) fun r1 m2 hI => ?_
    · obtain ⟨_, _, _, rfl, k2, c1, c2, sp⟩ := hI
      rw [Nat.zero_add] at c2 hn2 sp
      rw [List.getElem?_map] at hx
      cases e : (devsS p.loops)[i]? with
      | none => rw [e] at hx; cases hx
      | some o =>
        rw [e] at hx
        cases hx
        have ea : as[i]? = some o.2.a := by simp only [← has, List.getElem?_map, e]; rfl
        have hi : i < as.length := (List.getElem?_eq_some_iff.mp ea).1
        have tk := take_at ea
        rw [drop_at ea, dupF_cons] at sp
        refine ⟨c1, ?_⟩
        subst hB
        by_cases na : o.2.a ∈ as.take i
        · have e1 : ∀ P : PD, cmpW .in_ (.int o.2.a) (.ref q) m2 P = P (.bl true) m2 := fun P => by rw [in_eq, in_dict c2, look_kvF na]; rfl
          simp [-Bool.exists_bool, lenT, devD, e1]
          rw [if_pos na] at sp
          have := post m2 (k2.ext hq)
          rw [sp] at this
          exact this
        · have e1 : ∀ P : PD, cmpW .in_ (.int o.2.a) (.ref q) m2 P = P (.bl false) m2 := fun P => by rw [in_eq, in_dict c2, look_kvF_no na]; rfl
          simp [-Bool.exists_bool, lenT, devD, e1]
          rw [if_neg na, ← tk] at sp
          rw [set_dict c2, putk_kvF_snoc na rfl, ← tk]
          refine ⟨by rw [kvF_length, List.length_take]; omega, hn2 _ _ ⟨_, _, _, rfl, k2.trans .up, by rw [up_off qd.symm]; exact c1, up_at, sp⟩⟩
    · obtain ⟨x, y, z, rfl, k2, c1, _, sp⟩ := hI
      refine ⟨c1, hn _ _ ⟨x, y, z, _, rfl, k2.ext hq, ?_⟩⟩
      rw [sp, Nat.zero_add, List.length_map, ← List.length_map (f := fun x : Spot × Dv => x.2.a) , has, List.drop_length]
      rfl
  rintro _ m1 ⟨x, y, z, w, rfl, e1, sp⟩
  simp [-Bool.exists_bool]
  rw [sp] at post
  exact post m1 e1
theorem s_crow {p : PlanT} (hs : Shp p) (post : ∀ m2, Ext m m2 → P (crF p.most 0 p.loops) m2) : callN T (n + 2) 0 50 [p.D] m P X := by
  rw [call_iff F_crowded]
  refine ⟨rfl, ?_⟩
  have hl1 := hs.l1
  unfold f_crowded start
  simp only [List.map, List.length, List.replicate, List.cons_append, List.nil_append]
  refine seq_to (fun r1 m1 => ∃ x y z, r1 = [some p.D, x, y, z] ∧ Ext m m1 ∧ crF p.most 0 p.loops = .non) (fun nx hn => ?_) ?_
  · refine fr_shut fun B hB => ?_
    have hb : inB (p.loops.length : Int) := ⟨by omega, by omega⟩
    simp [-Bool.exists_bool, PlanT.D, planD_1, hb]
    refine loop_inv (fun i r1 m1 => ∃ x y z, r1 = [some p.D, x, y, z] ∧ Ext m m1 ∧ crF p.most 0 p.loops = crF p.most i (p.loops.drop i)) (k := 0) ⟨none, none, none, rfl, .refl, rfl⟩ (fun i x r1 m1 nx2 hx hI hn2 => ?_) fun r1 m1 hI => ?_
    · obtain ⟨_, y, z, rfl, e1, sp⟩ := hI
      rw [Nat.zero_add] at sp hn2
      obtain ⟨rfl, hi2⟩ := range_get hx
      rw [Int.zero_add]
      obtain ⟨l, hl⟩ : ∃ l, p.loops[i]? = some l := ⟨_, List.getElem?_eq_getElem hi2⟩
      rw [drop_at hl, crF_cons] at sp
      have pn : partsN l = (partsS i l).map List.length := (part_ns (li := i) l 0 []).symm
      rw [pn] at sp
      refine ⟨trivial, ?_⟩
      subst hB
      rw [w_scons]
      refine fr_shut fun B hB => ?_
      simp [-Bool.exists_bool, F_parts]
      refine s_parts3 hs hl fun q rs m2 hq hrs e2 hc hrl => ?_
      simp [-Bool.exists_bool, walk_ref hc.hq]
      refine loop_inv (fun j r1 m3 => ∃ x y z, r1 = [some p.D, x, y, z] ∧ x = some (.int (i : Nat)) ∧ Ext m m3 ∧ Cells m3 q rs (partsS i l) ∧ cr1 p.most i 0 ((partsS i l).map List.length) = cr1 p.most i j (((partsS i l).map List.length).drop j)) (k := 0) ⟨_, _, _, rfl, rfl, e1.trans e2, hc, rfl⟩ (fun j x r1 m3 nx3 hj hI hn3 => ?_) fun r1 m3 hI => ?_
      · obtain ⟨_, _, _, rfl, rfl, e3, hc3, sq⟩ := hI
        rw [Nat.zero_add] at sq hn3
        obtain ⟨y, hy, rfl⟩ := enum_at hj
        rw [List.getElem?_map] at hy
        cases er : rs[j]? with
        | none => rw [er] at hy; cases hy
        | some r =>
          rw [er] at hy
          cases hy
          have hjl : j < (partsS i l).length := by rw [← hc3.l]; exact (List.getElem?_eq_some_iff.mp er).1
          have hcr := hc3.c j r _ er (List.getElem?_eq_getElem hjl)
          have eg : ((partsS i l).map List.length)[j]? = some (partsS i l)[j].length := by rw [List.getElem?_map, List.getElem?_eq_getElem hjl]; rfl
          rw [drop_at eg, cr1_cons] at sq
          refine ⟨hc3.hq, ?_⟩
          subst hB
          by_cases npt : p.most < ((partsS i l)[j].length : Int)
          · simp [-Bool.exists_bool, lenT, PlanT.D, atI, ixN, len_ref hcr, npt]
            rw [if_pos npt] at sq
            have := post m3 e3
            rw [sp, sq] at this
            exact this
          · simp [-Bool.exists_bool, lenT, PlanT.D, atI, ixN, len_ref hcr, npt]
            rw [if_neg npt] at sq
            exact hn3 _ _ ⟨_, _, _, rfl, rfl, e3, hc3, sq⟩
      · obtain ⟨x, y, z, rfl, rfl, e3, hc3, sq⟩ := hI
        refine ⟨hc3.hq, ?_⟩
        refine hn2 _ _ ⟨_, _, _, rfl, e3, ?_⟩
        rw [sp, sq]
        have : (enumD 0 (rs.map D.ref)).length = ((partsS i l).map List.length).length := by rw [enum_length, List.length_map, List.length_map, hc3.l]
        rw [Nat.zero_add, this, List.drop_length]
        rfl
    · obtain ⟨x, y, z, rfl, e1, sp⟩ := hI
      refine ⟨trivial, hn _ _ ⟨x, y, z, rfl, e1, ?_⟩⟩
      rw [sp, Nat.zero_add, rangeD_length]
      simp only [Int.toNat_natCast, List.drop_length]
      rfl
  rintro _ m1 ⟨x, y, z, rfl, e1, sp⟩
  simp [-Bool.exists_bool]
  rw [sp] at post
  exact post m1 e1
end Mn.K04
end

section
set_option Elab.async false
set_option linter.all false
set_option maxRecDepth 100000
set_option maxHeartbeats 4000000
set_option pp.maxSteps 600
namespace Mn.K04
open Mn
variable {n : Nat} {m : Hm} {P : PD} {X : Nat → Hm → Prop}
def fK : D → Option D
  | .tup [_, .str k, .int a] => if isTold k = true then some (.int a) else none
  | _ => none
theorem fK_devs : ∀ ds : List (Spot × Dv), (ds.map devD).filterMap fK = (toldBy (ds.map Prod.snd)).map D.int
  | [] => rfl
  | x :: ds => by
    simp only [List.map_cons, List.filterMap_cons, fK_devs ds]
    have e : fK (devD x) = if isTold x.2.k = true then some (.int x.2.a) else none := rfl
    rw [e]
    unfold isTold
    by_cases h : x.2.k = tSeek ∨ x.2.k = tKnob
    · simp [h, toldBy]
    · simp [h, toldBy]
theorem is_tup {ds : List D} : cmpW .is_ (.tup ds) .non m P = P (.bl false) m := rfl
theorem isn_tup {ds : List D} : cmpW .isn (.tup ds) .non m P = P (.bl true) m := rfl
theorem opt_or_none {α : Type} (o : Option α) : o.or none = o := by cases o <;> rfl
theorem opt_or_assoc {α : Type} (a b c : Option α) : (a.or b).or c = a.or (b.or c) := by cases a <;> rfl
theorem st1_cons {known : List Int} {nm : List Nat} {a : Int} {r : List Int} : st1 known nm (a :: r) = if a ∈ known then st1 known nm r else some (nm, a) := rfl
theorem sh1_cons {ah : List Int} {nm : List Nat} {a : Int} {r : List Int} : sh1 ah nm (a :: r) = if a ∈ ah then some (nm, a) else sh1 ah nm r := rfl
theorem stF_cons {known : List Int} {z : Zn} {r : List Zn} : stF known (z :: r) = (st1 known z.1 z.2).or (stF known r) := rfl
theorem shF_cons {ah : List Int} {z : Zn} {r : List Zn} : shF ah (z :: r) = (sh1 ah z.1 z.2).or (shF (ah ++ z.2) r) := rfl
def frZ (zs : List Zn) : List Int := zs.flatMap Prod.snd
/-- zones of a bounded size -/
structure ZnOk (zs : List Zn) : Prop where
  l : zs.length ≤ 8
  a : ∀ z ∈ zs, z.2.length ≤ 40
  n : ∀ z ∈ zs, pln z.1 = true
theorem s_zone {p : PlanT} (hs : Shp p) (hz : ZnOk p.zones) (post : ∀ m2, Ext m m2 → P (zoF (toldBy p.devs) p.zones) m2) : callN T (n + 2) 0 51 [p.D] m P X := by
  rw [call_iff F_zone_at_odds]
  refine ⟨rfl, ?_⟩
  have hSZ : (100000 : Nat) < SZ := by decide
  have tl := told_len p.devs
  have n1 := devs_le hs
  unfold f_zone_at_odds start
  simp only [List.map, List.length, List.replicate, List.cons_append, List.nil_append]
  refine seq_to (fun r1 m1 => ∃ q, r1 = [some p.D, some (.ref q), none, none, none, none, none, none, none] ∧ Ext m m1 ∧ m1 q = some (.lst ((toldBy p.devs).map D.int))) (fun nx hn => ?_) ?_
  · simp [-Bool.exists_bool, F_devices]
    refine s_devices hs fun d m1 hd e1 d1 => ?_
    rw [walk_ref d1]
    intro q hq
    have dn := devs_n p
    refine comp_map (acc := []) fK (fun acc => get_new hq d1) (by simp; omega) (fun x hx acc Q1 Q2 hQ => ?_) ?_
    · obtain ⟨o, ho, rfl⟩ := List.mem_map.mp hx
      simp [-Bool.exists_bool, wipe, lenT, devD, scalD, D.eqv]
      have e : fK (devD o) = if isTold o.2.k = true then some (.int o.2.a) else none := rfl
      rw [e] at hQ
      by_cases h1 : o.2.k = tSeek
      · rw [show isTold o.2.k = true by simp [isTold, h1]] at hQ
        simp only [tSeek] at h1
        simp [-Bool.exists_bool, h1]
        exact hQ
      · by_cases h2 : o.2.k = tKnob
        · rw [show isTold o.2.k = true by simp [isTold, h2]] at hQ
          simp only [tKnob] at h2
          simp [-Bool.exists_bool, h2]
          exact hQ
        · rw [show isTold o.2.k = false by simp [isTold, h1, h2]] at hQ
          simp only [tSeek, tKnob] at h1 h2
          simp [-Bool.exists_bool, Ne.symm h1, Ne.symm h2]
          exact hQ
    · refine hn _ _ ⟨q, rfl, e1.trans (.new hq), ?_⟩
      rw [up_at, List.nil_append, fK_devs, devs_all]
  rintro _ m1 ⟨q, rfl, e1, q1⟩
  obtain ⟨known, hkn⟩ : ∃ k, toldBy p.devs = k := ⟨_, rfl⟩
  rw [hkn] at tl q1 post
  have zl := hz.l
  refine seq_eq [some p.D, some (.ref q), none, none, none, some .non, none, none, none] m1 (fun nx hn => ?_) ?_
  · simp [-Bool.exists_bool]
    exact hn
  refine seq_to (fun r1 m2 => ∃ c, r1 = [some p.D, some (.ref q), none, none, none, some .non, some (.ref c), none, none] ∧ m1 c = none ∧ m2 = up m1 c (.dK [])) (fun nx hn => ?_) ?_
  · simp [-Bool.exists_bool]
    exact fun q hq => hn _ _ ⟨q, rfl, hq, rfl⟩
  rintro _ _ ⟨c, rfl, hc, rfl⟩
  have qc : q ≠ c := ne_new hc q1
  have hfl : ∀ l : List Int, D.flats 60 (l.map D.int) = true := fun l => flats_ints l
  let I : Nat → Mn.Env → Hm → Prop := fun i r1 m2 => ∃ (x y z : Option Mn.D) (s : Option (List Nat × Int)) (kvs : List (Ky × Mn.D)), r1 = [some p.D, some (.ref q), none, none, x, some (opD tShare s), some (.ref c), y, z] ∧ Keep c m1 m2 ∧ m2 c = some (.dK kvs) ∧ kvs.length ≤ 40 * i ∧
    (∀ a : Int, (look kvs (.inl a)).isSome = decide (a ∈ frZ (p.zones.take i))) ∧ stF known p.zones = stF known (p.zones.drop i) ∧ shF [] p.zones = s.or (shF (frZ (p.zones.take i)) (p.zones.drop i))
  refine seq_to (I p.zones.length) (fun nx hn => ?_) ?_
  · refine fr_shut fun B hB => ?_
    simp [-Bool.exists_bool, PlanT.D, atI, ixN]
    refine loop_inv I (k := 0) ⟨none, none, none, none, [], rfl, .up, up_at, by simp, fun a => by simp [look, frZ], rfl, rfl⟩ (fun i x r1 m2 nx2 hx hI hn2 => ?_) fun r1 m2 hI => ?_
    · obtain ⟨x4, _, _, s, kvs, rfl, k2, c2, kl, ka, hst, hsh⟩ := hI
      rw [Nat.zero_add] at kl ka hst hsh hn2
      rw [List.getElem?_map] at hx
      cases e : p.zones[i]? with
      | none => rw [e] at hx; cases hx
      | some z =>
        rw [e] at hx
        cases hx
        have za := hz.a z (List.mem_of_getElem? e)
        have tk := take_at e
        have il := (List.getElem?_eq_some_iff.mp e).1
        have ftk : frZ (p.zones.take (i + 1)) = frZ (p.zones.take i) ++ z.2 := by simp [frZ, tk]
        rw [drop_at e, stF_cons] at hst
        rw [drop_at e, shF_cons] at hsh
        refine ⟨trivial, ?_⟩
        simp [-Bool.exists_bool, lenT, zoneD]
        subst hB
        have q2 := k2 _ _ qc q1
        refine seq_to (fun r1 m3 => ∃ x t, r1 = [some p.D, some (.ref q), none, none, x, some (opD tShare t), some (.ref c), some (.str z.1), some (.tup (z.2.map D.int))] ∧ m2 = m3 ∧ st1 known z.1 z.2 = none ∧ s.or (sh1 (frZ (p.zones.take i)) z.1 z.2) = t) (fun nx3 hn3 => ?_) ?_
        · refine fr_shut fun B hB => ?_
          simp [-Bool.exists_bool]
          refine loop_inv (fun j r1 m3 => ∃ x t, r1 = [some p.D, some (.ref q), none, none, x, some (opD tShare t), some (.ref c), some (.str z.1), some (.tup (z.2.map D.int))] ∧ m2 = m3 ∧ st1 known z.1 z.2 = st1 known z.1 (z.2.drop j) ∧ s.or (sh1 (frZ (p.zones.take i)) z.1 z.2) = t.or (sh1 (frZ (p.zones.take i)) z.1 (z.2.drop j))) (k := 0) ⟨x4, s, rfl, rfl, rfl, rfl⟩ (fun j x r1 m3 nx4 hx3 hI hn4 => ?_) fun r1 m3 hI => ?_
          · obtain ⟨_, t, rfl, rfl, ht1, ht2⟩ := hI
            rw [Nat.zero_add] at ht1 ht2 hn4
            rw [List.getElem?_map] at hx3
            cases ej : z.2[j]? with
            | none => rw [ej] at hx3; cases hx3
            | some a =>
              rw [ej] at hx3
              cases hx3
              rw [drop_at ej, st1_cons] at ht1
              rw [drop_at ej, sh1_cons] at ht2
              refine ⟨trivial, ?_⟩
              subst hB
              have eX := e1
              have e1 : ∀ P : PD, cmpW .in_ (.int a) (.ref c) m2 P = P (.bl (decide (a ∈ frZ (p.zones.take i)))) m2 := fun P => by rw [in_eq, in_dict c2, ka a, Bool.false_xor]
              simp [-Bool.exists_bool, e1]
              rw [nin_eq]
              refine in_flat q2 rfl (hfl _) ?_
              rw [any_ints]
              by_cases hk : a ∈ known
              · rw [if_pos hk] at ht1
                by_cases hm : a ∈ frZ (p.zones.take i)
                · rw [if_pos hm] at ht2
                  cases t with
                  | none =>
                    simp [-Bool.exists_bool, hk, hm, e1, opD]
                    exact hn4 _ _ ⟨_, some (z.1, a), rfl, rfl, ht1, ht2⟩
                  | some v =>
                    simp [-Bool.exists_bool, hk, hm, e1, opD, is_tup]
                    exact hn4 _ _ ⟨_, some v, rfl, rfl, ht1, ht2⟩
                · rw [if_neg hm] at ht2
                  simp [-Bool.exists_bool, hk, hm, e1]
                  exact hn4 _ _ ⟨_, t, rfl, rfl, ht1, ht2⟩
              · rw [if_neg hk] at ht1
                simp [-Bool.exists_bool, hk]
                have q0 := post m2 (eX.trans (k2.ext hc))
                unfold zoF at q0
                rw [hst, ht1] at q0
                exact q0
          · obtain ⟨_, t, rfl, rfl, ht1, ht2⟩ := hI
            rw [Nat.zero_add, List.length_map, List.drop_length] at ht1 ht2
            exact ⟨trivial, hn3 _ _ ⟨_, t, rfl, rfl, ht1, by rw [ht2]; exact opt_or_none t⟩⟩
        · rintro _ _ ⟨x, t, rfl, rfl, ht1, ht2⟩
          rw [ht1] at hst
          have hst2 : stF known p.zones = stF known (p.zones.drop (i + 1)) := hst
          rw [← opt_or_assoc, ht2, ← ftk] at hsh
          rw [w_scons]
          refine fr_shut fun B2 hB2 => ?_
          simp [-Bool.exists_bool]
          refine loop_inv (fun j r1 m3 => ∃ x kvs, r1 = [some p.D, some (.ref q), none, none, x, some (opD tShare t), some (.ref c), some (.str z.1), some (.tup (z.2.map D.int))] ∧ Keep c m1 m3 ∧ m3 c = some (.dK kvs) ∧ kvs.length ≤ 40 * i + j ∧ ∀ a : Int, (look kvs (.inl a)).isSome = decide (a ∈ frZ (p.zones.take i) ++ z.2.take j)) (k := 0) ⟨x, kvs, rfl, k2, c2, kl, by simpa using ka⟩ (fun j x r1 m3 nx3 hx3 hI hn3 => ?_) fun r1 m3 hI => ?_
          · obtain ⟨_, kv, rfl, k3, c3, kl3, ka3⟩ := hI
            rw [Nat.zero_add] at kl3 ka3 hn3
            rw [List.getElem?_map] at hx3
            cases ej : z.2[j]? with
            | none => rw [ej] at hx3; cases hx3
            | some a =>
              rw [ej] at hx3
              cases hx3
              have jl := (List.getElem?_eq_some_iff.mp ej).1
              refine ⟨trivial, ?_⟩
              subst hB2
              simp [-Bool.exists_bool]
              rw [set_dict c3]
              refine ⟨by omega, hn3 _ _ ⟨_, _, rfl, k3.trans .up, up_at, by have := putk_le (kvs := kv) (k := Sum.inl a) (v := .bl true); omega, fun a2 => ?_⟩⟩
              rw [look_putk, take_at ej, ← List.append_assoc]
              by_cases h : a = a2
              · subst h
                simp
              · have h2 : ¬ (Sum.inl a : Ky) = Sum.inl a2 := fun z => h (Sum.inl.inj z)
                rw [if_neg h2, ka3 a2]
                simp [Ne.symm h]
          · obtain ⟨x, kv, rfl, k3, c3, kl3, ka3⟩ := hI
            rw [Nat.zero_add, List.length_map] at kl3 ka3
            rw [List.take_length, ← ftk] at ka3
            exact ⟨trivial, hn2 _ _ ⟨_, _, _, t, kv, rfl, k3, c3, by omega, ka3, hst2, hsh⟩⟩
    · rw [Nat.zero_add, List.length_map] at hI
      exact ⟨trivial, hn _ _ hI⟩
  rintro _ m2 ⟨x, y, z, s, kvs, rfl, k2, c2, _, _, hst, hsh⟩
  simp [-Bool.exists_bool]
  rw [List.drop_length] at hst hsh
  have hs2 : shF [] p.zones = s := by rw [hsh]; exact opt_or_none s
  have q0 := post m2 (e1.trans (k2.ext hc))
  unfold zoF at q0
  rw [hst, hs2] at q0
  exact q0
theorem s_wrong {p : PlanT} (h : Shp p) (hz : ZnOk p.zones) (post : ∀ m2, Ext m m2 → P (wrF p) m2) : callN T (n + 3) 0 52 [p.D] m P X := by
  rw [call_iff F_wrong]
  refine ⟨rfl, ?_⟩
  unfold f_wrong start
  simp only [List.map, List.length, List.replicate, List.cons_append, List.nil_append]
  have hnt : ∀ d ∈ [dupF [] (p.devs.map Dv.a), crF p.most 0 p.loops, zoF (toldBy p.devs) p.zones], NT d := by
    simp only [List.forall_mem_cons]
    exact ⟨dupF_nt, crF_nt, zoF_nt, fun _ h => nomatch h⟩
  refine seq_to (fun r1 m2 => ∃ x, r1 = [some p.D, x] ∧ Ext m m2 ∧ wrF p = .non) (fun nx hn => ?_) ?_
  · refine fr_shut fun B hB => ?_
    simp [-Bool.exists_bool, F_told_twice, F_crowded, F_zone_at_odds]
    refine s_told h fun m1 e1 => ?_
    refine s_crow h fun m2 e2 => ?_
    refine s_zone h hz fun m3 e3 => ?_
    subst hB
    unfold wrF at post hn
    generalize [dupF [] (p.devs.map Dv.a), crF p.most 0 p.loops, zoF (toldBy p.devs) p.zones] = vs at hnt post hn ⊢
    refine loop_inv (fun i r1 m2 => ∃ x, r1 = [some p.D, x] ∧ Ext m m2 ∧ orL vs = orL (vs.drop i)) (k := 0) ⟨none, rfl, (e1.trans e2).trans e3, rfl⟩ (fun i x r1 m2 nx2 hx hI hn2 => ?_) fun r1 m2 hI => ?_
    · obtain ⟨_, rfl, e4, sp⟩ := hI
      rw [Nat.zero_add] at sp hn2
      rw [drop_at hx] at sp
      have sp2 : orL vs = orD x (orL (vs.drop (i + 1))) := sp
      refine ⟨trivial, ?_⟩
      rcases hnt x (List.mem_of_getElem? hx) with rfl | ⟨ds, rfl⟩
      · simp [-Bool.exists_bool]
        exact hn2 _ _ ⟨_, rfl, e4, sp2⟩
      · simp [-Bool.exists_bool, isn_tup]
        have := post m2 e4
        rw [sp2] at this
        exact this
    · obtain ⟨x, rfl, e4, sp⟩ := hI
      rw [Nat.zero_add, List.drop_length] at sp
      exact ⟨trivial, hn _ _ ⟨x, rfl, e4, sp⟩⟩
  rintro _ m1 ⟨x, rfl, e1, sp⟩
  simp [-Bool.exists_bool]
  rw [sp] at post
  exact post m1 e1
end Mn.K04
end

section
set_option Elab.async false
set_option linter.all false
set_option maxRecDepth 100000
set_option maxHeartbeats 4000000
set_option pp.maxSteps 600
namespace Mn.K04
open Mn
variable {n : Nat} {m : Hm} {P : PD} {X : Nat → Hm → Prop}
theorem kind_ne {d : Dv} (h : WfD d) : ¬ d.k = [111, 112, 101, 110, 101, 114] := by
  have := h.1
  intro z
  rw [z] at this
  revert this
  decide
theorem cutN {α : Type} {xs : List α} {i : Nat} (h : i ≤ xs.length) : cut xs none (some (i : Int)) = xs.take i := by
  have := cutA (xs := xs) (i := (i : Int)) (by omega) (by omega)
  rw [this]
  simp
theorem s_law_wrong {p : PlanT} (hs : Shp p) (hz : ZnOk p.zones) (post : ∀ m2, Ext m m2 → P (wrF p) m2) : callN T (n + 2) 0 358 [p.D] m P X := by
  rw [call_iff F_law_wrong]
  refine ⟨rfl, ?_⟩
  have hSZ : (100000 : Nat) < SZ := by decide
  have dl := devs_le hs
  have zl := hz.l
  have ll := hs.l1
  unfold f_law_wrong start
  simp only [List.map, List.length, List.replicate, List.cons_append, List.nil_append]
  let E (x4 x5 x6 x7 x8 x9 x10 x11 x12 x13 x14 x15 : Option Mn.D) : Mn.Env := [some p.D, some (.int p.most), some (.tup (p.loops.map loopD)), some (.tup (p.zones.map zoneD)), x4, x5, x6, x7, x8, x9, x10, x11, x12, x13, x14, x15]
  refine seq_eq (E none none none none none none none none none none none none) m (fun nx hn => ?_) ?_
  · simp [-Bool.exists_bool, E, PlanT.D, lenT]
    exact hn
  refine seq_to (fun r1 m1 => ∃ t, r1 = E (some (.ref t)) none none none none none none none none none none none ∧ m t = none ∧ m1 = up m t (.lst [])) (fun nx hn => ?_) ?_
  · simp [-Bool.exists_bool, E]
    exact fun q hq => hn _ _ ⟨q, rfl, hq, rfl⟩
  rintro _ _ ⟨t, rfl, ht, rfl⟩
  refine seq_to (fun r1 m1 => ∃ x5 x6 x7 x8, r1 = E (some (.ref t)) x5 x6 x7 x8 none none none none none none none ∧ Ext m m1 ∧ m1 t = some (.lst (p.devs.map Dv.D))) (fun nx hn => ?_) ?_
  · refine fr_shut fun B hB => ?_
    simp [-Bool.exists_bool, E]
    refine loop_inv (fun i r1 m1 => ∃ x5 x6 x7 x8, r1 = E (some (.ref t)) x5 x6 x7 x8 none none none none none none none ∧ Keep t m m1 ∧ m1 t = some (.lst (((p.loops.take i).flatMap devsL).map Dv.D))) (k := 0) ⟨none, none, none, none, rfl, .up, up_at⟩ (fun i x r1 m1 nx2 hx hI hn2 => ?_) fun r1 m1 hI => ?_
    · obtain ⟨_, x6, x7, x8, rfl, k1, t1⟩ := hI
      rw [Nat.zero_add] at t1 hn2
      rw [List.getElem?_map] at hx
      obtain ⟨l, hl, rfl⟩ := Option.map_eq_some_iff.mp hx
      have hlm := List.mem_of_getElem? hl
      obtain ⟨l12, lw⟩ := hs.lp l hlm
      have ftk : (p.loops.take (i + 1)).flatMap devsL = (p.loops.take i).flatMap devsL ++ devsL l := by simp [take_at hl]
      have fle : ((p.loops.take i).flatMap devsL).length ≤ 200 := Nat.le_trans (flat_take_len p.loops i) dl
      refine ⟨trivial, ?_⟩
      subst hB
      refine fr_shut fun B hB => ?_
      simp [-Bool.exists_bool, E, loopD]
      refine loop_inv (fun j r1 m1 => ∃ x6 x7 x8, r1 = E (some (.ref t)) (some (loopD l)) x6 x7 x8 none none none none none none none ∧ Keep t m m1 ∧ m1 t = some (.lst (((p.loops.take i).flatMap devsL ++ devsL (l.take j)).map Dv.D))) (k := 0) ⟨x6, x7, x8, rfl, k1, by simpa [devsL] using t1⟩ (fun j x r1 m1 nx3 hx hI hn3 => ?_) fun r1 m1 hI => ?_
      · obtain ⟨_, _, _, rfl, k1, t1⟩ := hI
        rw [Nat.zero_add] at t1 hn3
        rw [List.getElem?_map] at hx
        obtain ⟨q, hq, rfl⟩ := Option.map_eq_some_iff.mp hx
        have qw := lw q (List.mem_of_getElem? hq)
        have jl := (List.getElem?_eq_some_iff.mp hq).1
        have dtk : devsL (l.take (j + 1)) = devsL (l.take j) ++ q.devs := by rw [take_at hq, devsL_snoc]
        have dle : (devsL (l.take j)).length ≤ 200 := by
          refine Nat.le_trans (flat_take_len l j) ?_
          have := flat_mem_len (f := devsL) hlm
          exact Nat.le_trans this dl
        refine ⟨trivial, ?_⟩
        subst hB
        cases q with
        | op =>
          simp [-Bool.exists_bool, E, Pl.D, lenT, tOpen]
          exact hn3 _ _ ⟨_, _, _, rfl, k1, by rw [t1, dtk]; simp [Pl.devs]⟩
        | dev d sp =>
          obtain ⟨dw, sl, sw⟩ := qw
          simp [-Bool.exists_bool, E, Pl.D, lenT, kind_ne dw, rk_ref t1, mok]
          refine ⟨by omega, ?_⟩
          intro q hq2
          have t2 := get_new (o2 := .lst ([D.tup [.str d.k, .int d.a]] ++ sp.map Dv.D)) hq2 t1
          simp only [List.cons_append, List.nil_append] at t2
          rw [rk_ref t2]
          refine ⟨rfl, ?_⟩
          rw [ext_ref t2 up_at]
          refine ⟨by simp only [List.length_map, List.length_append, List.length_cons]; omega, hn3 _ _ ⟨_, _, _, rfl, ?_, ?_⟩⟩
          · exact (k1.trans (Ext.new hq2).keep).trans .up
          · rw [up_at, dtk]
            simp [Pl.devs, Dv.D]
      · obtain ⟨x6, x7, x8, rfl, k1, t1⟩ := hI
        rw [Nat.zero_add, List.length_map, List.take_length, ← ftk] at t1
        exact ⟨trivial, hn2 _ _ ⟨_, x6, x7, x8, rfl, k1, t1⟩⟩
    · obtain ⟨x5, x6, x7, x8, rfl, k1, t1⟩ := hI
      rw [Nat.zero_add, List.length_map, List.take_length] at t1
      exact ⟨trivial, hn _ _ ⟨x5, x6, x7, x8, rfl, k1.ext ht, t1⟩⟩
  rintro _ m1 ⟨y5, y6, y7, y8, rfl, e1, t1⟩
  refine seq_to (fun r1 m2 => ∃ x6 x9 x10, r1 = E (some (.ref t)) y5 x6 y7 y8 x9 x10 none none none none none ∧ Ext m m2 ∧ m2 t = some (.lst (p.devs.map Dv.D)) ∧ dupF [] (p.devs.map Dv.a) = .non) (fun nx hn => ?_) ?_
  · refine fr_shut fun B hB => ?_
    simp [-Bool.exists_bool, E, len_ref t1]
    refine ⟨⟨by omega, by omega⟩, ?_⟩
    refine loop_inv (fun i r1 m2 => ∃ x6 x9 x10, r1 = E (some (.ref t)) y5 x6 y7 y8 x9 x10 none none none none none ∧ Ext m m2 ∧ m2 t = some (.lst (p.devs.map Dv.D)) ∧ dupF [] (p.devs.map Dv.a) = dupF ((p.devs.map Dv.a).take i) ((p.devs.map Dv.a).drop i)) (k := 0) ⟨_, _, _, rfl, e1, t1, rfl⟩ (fun i x r1 m2 nx2 hx hI hn2 => ?_) fun r1 m2 hI => ?_
    · obtain ⟨x6, x9, x10, rfl, e2, t2, sp⟩ := hI
      rw [Nat.zero_add] at sp hn2
      obtain ⟨rfl, il⟩ := range_get hx
      rw [Int.zero_add]
      have il : i < p.devs.length := il
      have hd : p.devs[i]? = some p.devs[i] := List.getElem?_eq_getElem il
      generalize p.devs[i] = d at hd
      have ha : (p.devs.map Dv.a)[i]? = some d.a := by rw [List.getElem?_map, hd]; rfl
      have hat : atI (p.devs.map Dv.D) (i : Int) = some d.D := by
        rw [atI_nat (by rw [List.length_map]; exact il)]
        rw [List.getElem?_eq_getElem il] at hd
        simp only [List.getElem_map]
        rw [Option.some.inj hd]
      have a1 : ∀ (P : PD) (m9 : Hm), ixW d.D (.int 1) m9 P = P (.int d.a) m9 := fun P m9 => by simp [Dv.D, atI, ixN]
      rw [drop_at ha, dupF_cons] at sp
      refine ⟨trivial, ?_⟩
      subst hB
      simp [-Bool.exists_bool, E]
      rw [x_ref t2]
      refine ⟨_, hat, ?_⟩
      simp [-Bool.exists_bool, a1]
      rw [sl_ref t2]
      intro c hc
      rw [cutN (by rw [List.length_map]; omega), ← List.map_take]
      have tc := get_new (o2 := .lst ((p.devs.take i).map Dv.D)) hc t2
      have c0 : (up m2 c (.lst ((p.devs.take i).map Dv.D))) c = some (.lst ((p.devs.take i).map Dv.D)) := up_at
      have e3 : Ext m (up m2 c (.lst ((p.devs.take i).map Dv.D))) := e2.trans (.new hc)
      generalize up m2 c (.lst ((p.devs.take i).map Dv.D)) = m3 at tc c0 e3 ⊢
      rw [walk_ref c0]
      intro z hz2
      have cz : c ≠ z := ne_new hz2 c0
      refine comp_list (p.devs.take i) Dv.D (fun d => .int d.a) hz2 (fun m4 k4 => k4 _ _ cz c0) (by rw [List.length_take]; omega) (fun y hy m4 acc Q1 Q2 k4 h4 q => ?_) fun m4 e4 h4 => ?_
      · simp [-Bool.exists_bool, wipe, Dv.D, lenT]
        exact q m4 k4 h4
      · have h5 : m4 z = some (.lst (((p.devs.take i).map Dv.a).map D.int)) := by rw [h4, List.map_map]; rfl
        rw [in_eq]
        refine in_flat h5 rfl (flats_ints _) ?_
        rw [any_ints]
        have t4 := e4 _ _ tc
        rw [List.map_take]
        by_cases hin : d.a ∈ (p.devs.map Dv.a).take i
        · rw [if_pos hin] at sp
          simp [-Bool.exists_bool, hin]
          rw [x_ref t4]
          refine ⟨_, hat, ?_⟩
          simp [-Bool.exists_bool, a1]
          have q0 := post m4 (e3.trans e4)
          unfold wrF at q0
          rw [sp] at q0
          exact q0
        · rw [if_neg hin, ← take_at ha] at sp
          simp [-Bool.exists_bool, hin]
          exact hn2 _ _ ⟨_, _, _, rfl, e3.trans e4, t4, sp⟩
    · obtain ⟨x6, x9, x10, rfl, e2, t2, sp⟩ := hI
      refine ⟨trivial, hn _ _ ⟨x6, x9, x10, rfl, e2, t2, ?_⟩⟩
      rw [sp, Nat.zero_add, rangeD_length]
      have : (p.devs.map Dv.a).drop p.devs.length = [] := by rw [← List.length_map (f := Dv.a), List.drop_length]
      simp only [Int.toNat_natCast, List.length_map, this]
      rfl
  clear e1 t1
  rintro _ m2 ⟨y6, y9, y10, rfl, e2, t2, hdup⟩
  refine seq_to (fun r1 m3 => ∃ x10 x11 x12, r1 = E (some (.ref t)) y5 y6 y7 y8 y9 x10 x11 x12 none none none ∧ Ext m m3 ∧ m3 t = some (.lst (p.devs.map Dv.D)) ∧ crF p.most 0 p.loops = .non) (fun nx hn => ?_) ?_
  · refine fr_shut fun B hB => ?_
    have hb : inB (p.loops.length : Int) := ⟨by omega, by omega⟩
    simp [-Bool.exists_bool, E, hb]
    refine loop_inv (fun i r1 m3 => ∃ x10 x11 x12, r1 = E (some (.ref t)) y5 y6 y7 y8 y9 x10 x11 x12 none none none ∧ Ext m m3 ∧ m3 t = some (.lst (p.devs.map Dv.D)) ∧ crF p.most 0 p.loops = crF p.most i (p.loops.drop i)) (k := 0) ⟨_, _, _, rfl, e2, t2, rfl⟩ (fun i x r1 m3 nx2 hx hI hn2 => ?_) fun r1 m3 hI => ?_
    · obtain ⟨x10, x11, x12, rfl, e3, t3, sp⟩ := hI
      rw [Nat.zero_add] at sp hn2
      obtain ⟨rfl, il⟩ := range_get hx
      rw [Int.zero_add]
      have il : i < p.loops.length := il
      have hl : p.loops[i]? = some p.loops[i] := List.getElem?_eq_getElem il
      generalize p.loops[i] = l at hl
      have hat : atI (p.loops.map loopD) (i : Int) = some (loopD l) := by
        rw [atI_nat (by rw [List.length_map]; exact il)]
        rw [List.getElem?_eq_getElem il] at hl
        simp only [List.getElem_map]
        rw [Option.some.inj hl]
      obtain ⟨l12, lw⟩ := hs.lp l (List.mem_of_getElem? hl)
      rw [drop_at hl, crF_cons] at sp
      refine ⟨trivial, ?_⟩
      subst hB
      refine seq_to (fun r1 m4 => ∃ q, r1 = E (some (.ref t)) y5 y6 y7 y8 y9 x10 (some (.int (i : Nat))) (some (.ref q)) none none none ∧ Ext m m4 ∧ m4 t = some (.lst (p.devs.map Dv.D)) ∧ m4 q = some (.lst ((partsN l).map fun (c : Nat) => D.int c))) (fun nx hn => ?_) ?_
      · simp [-Bool.exists_bool, E, F_law_parts]
        refine ⟨_, hat, ?_⟩
        exact s_parts (by omega) lw fun q m4 hq e4 q4 => hn _ _ ⟨q, rfl, e3.trans e4, e4 _ _ t3, q4⟩
      clear e3 t3
      rintro _ m4 ⟨q, rfl, e4, t4, q4⟩
      refine fr_shut fun B hB => ?_
      have pl : (partsN l).length ≤ 2000 := by
        have : ∀ (l : List Pl) (k : Nat), (partsFrom k l).length ≤ l.length + 1 := fun l => by
          induction l with
          | nil => intro k; simp [partsFrom]
          | cons a l ih =>
            intro k
            cases a with
            | op => simp only [partsFrom, List.length_cons]; have := ih 0; omega
            | dev d sp => simp only [partsFrom, List.length_cons]; have := ih (k + 1 + sp.length); omega
        have := this l 0
        unfold partsN
        omega
      simp [-Bool.exists_bool, E, len_ref q4]
      refine ⟨⟨by omega, by omega⟩, ?_⟩
      refine loop_inv (fun j r1 m5 => ∃ x10, r1 = E (some (.ref t)) y5 y6 y7 y8 y9 x10 (some (.int (i : Nat))) (some (.ref q)) none none none ∧ m5 = m4 ∧ cr1 p.most i 0 (partsN l) = cr1 p.most i j ((partsN l).drop j)) (k := 0) ⟨_, rfl, rfl, rfl⟩ (fun j x r1 m5 nx3 hj hI hn3 => ?_) fun r1 m5 hI => ?_
      · obtain ⟨_, rfl, rfl, sq⟩ := hI
        rw [Nat.zero_add] at sq hn3
        obtain ⟨rfl, jl⟩ := range_get hj
        rw [Int.zero_add]
        have jl : j < (partsN l).length := jl
        have hc : (partsN l)[j]? = some (partsN l)[j] := List.getElem?_eq_getElem jl
        generalize (partsN l)[j] = c at hc
        have hcat : atI ((partsN l).map fun (c : Nat) => D.int c) (j : Int) = some (.int (c : Nat)) := by
          rw [atI_nat (by rw [List.length_map]; exact jl)]
          rw [List.getElem?_eq_getElem jl] at hc
          simp only [List.getElem_map]
          rw [Option.some.inj hc]
        rw [drop_at hc, cr1_cons] at sq
        refine ⟨trivial, ?_⟩
        subst hB
        simp [-Bool.exists_bool, E]
        rw [x_ref q4]
        refine ⟨_, hcat, ?_⟩
        by_cases npt : p.most < (c : Int)
        · rw [if_pos npt] at sq
          simp [-Bool.exists_bool, npt]
          have q0 := post m5 e4
          unfold wrF at q0
          rw [hdup, sp, sq] at q0
          exact q0
        · rw [if_neg npt] at sq
          simp [-Bool.exists_bool, npt]
          exact hn3 _ _ ⟨_, rfl, rfl, sq⟩
      · obtain ⟨x10, rfl, rfl, sq⟩ := hI
        refine ⟨trivial, hn2 _ _ ⟨_, _, _, rfl, e4, t4, ?_⟩⟩
        rw [sp, sq, Nat.zero_add, rangeD_length]
        simp only [Int.toNat_natCast, List.length_map, List.drop_length]
        rfl
    · obtain ⟨x10, x11, x12, rfl, e3, t3, sp⟩ := hI
      refine ⟨trivial, hn _ _ ⟨x10, x11, x12, rfl, e3, t3, ?_⟩⟩
      rw [sp, Nat.zero_add, rangeD_length]
      simp only [Int.toNat_natCast, List.drop_length]
      rfl
  clear e2 t2
  rintro _ m3 ⟨y10, y11, y12, rfl, e3, t3, hcr⟩
  have hfl : ∀ l : List Int, D.flats 60 (l.map D.int) = true := fun l => flats_ints l
  refine seq_to (fun r1 m4 => ∃ x6 x7 x10 x13 x14, r1 = E (some (.ref t)) y5 x6 x7 y8 y9 x10 y11 y12 x13 x14 none ∧ Ext m m4 ∧ stF (toldBy p.devs) p.zones = none) (fun nx hn => ?_) ?_
  · refine fr_shut fun B hB => ?_
    simp [-Bool.exists_bool, E]
    refine loop_inv (fun i r1 m4 => ∃ x6 x7 x10 x13 x14, r1 = E (some (.ref t)) y5 x6 x7 y8 y9 x10 y11 y12 x13 x14 none ∧ Ext m m4 ∧ m4 t = some (.lst (p.devs.map Dv.D)) ∧ stF (toldBy p.devs) p.zones = stF (toldBy p.devs) (p.zones.drop i)) (k := 0) ⟨_, _, _, _, _, rfl, e3, t3, rfl⟩ (fun i x r1 m4 nx2 hx hI hn2 => ?_) fun r1 m4 hI => ?_
    · obtain ⟨x6, x7, x10, _, _, rfl, e4, t4, sp⟩ := hI
      rw [Nat.zero_add] at sp hn2
      rw [List.getElem?_map] at hx
      obtain ⟨z, hzz, rfl⟩ := Option.map_eq_some_iff.mp hx
      rw [drop_at hzz, stF_cons] at sp
      refine ⟨trivial, ?_⟩
      simp [-Bool.exists_bool, E, lenT, zoneD]
      subst hB
      refine fr_shut fun B hB => ?_
      simp [-Bool.exists_bool]
      refine loop_inv (fun j r1 m5 => ∃ x6 x7 x10, r1 = E (some (.ref t)) y5 x6 x7 y8 y9 x10 y11 y12 (some (.str z.1)) (some (.tup (z.2.map D.int))) none ∧ Ext m m5 ∧ m5 t = some (.lst (p.devs.map Dv.D)) ∧ st1 (toldBy p.devs) z.1 z.2 = st1 (toldBy p.devs) z.1 (z.2.drop j)) (k := 0) ⟨_, _, _, rfl, e4, t4, rfl⟩ (fun j x r1 m5 nx3 hj hI hn3 => ?_) fun r1 m5 hI => ?_
      · obtain ⟨x6, _, x10, rfl, e5, t5, sq⟩ := hI
        rw [Nat.zero_add] at sq hn3
        rw [List.getElem?_map] at hj
        obtain ⟨a, ha, rfl⟩ := Option.map_eq_some_iff.mp hj
        rw [drop_at ha, st1_cons] at sq
        refine ⟨trivial, ?_⟩
        subst hB
        simp [-Bool.exists_bool, E, walk_ref t5]
        intro c hc
        have tcn : t ≠ c := ne_new hc t5
        refine comp_map (acc := []) fN (fun acc => get_new hc t5) (by simp; omega) (fun x hx acc Q1 Q2 hQ => ?_) ?_
        · obtain ⟨o, ho, rfl⟩ := List.mem_map.mp hx
          simp [-Bool.exists_bool, wipe, lenT, Dv.D, scalD, D.eqv]
          have e : fN o.D = if isTold o.k = true then some (.int o.a) else none := rfl
          rw [e] at hQ
          by_cases h1 : o.k = tSeek
          · rw [show isTold o.k = true by simp [isTold, h1]] at hQ
            simp only [tSeek] at h1
            simp [-Bool.exists_bool, h1]
            exact hQ
          · by_cases h2 : o.k = tKnob
            · rw [show isTold o.k = true by simp [isTold, h2]] at hQ
              simp only [tKnob] at h2
              simp [-Bool.exists_bool, h2]
              exact hQ
            · rw [show isTold o.k = false by simp [isTold, h1, h2]] at hQ
              simp only [tSeek, tKnob] at h1 h2
              simp [-Bool.exists_bool, Ne.symm h1, Ne.symm h2]
              exact hQ
        · rw [List.nil_append, fN_devs, nin_eq]
          refine in_flat up_at rfl (hfl _) ?_
          rw [any_ints]
          have e6 : Ext m (up m5 c (.lst ((toldBy p.devs).map D.int))) := e5.trans (.new hc)
          by_cases hk : a ∈ toldBy p.devs
          · rw [if_pos hk] at sq
            simp [-Bool.exists_bool, hk]
            exact hn3 _ _ ⟨_, _, _, rfl, e6, get_new hc t5, sq⟩
          · rw [if_neg hk] at sq
            simp [-Bool.exists_bool, hk]
            have q0 := post _ e6
            unfold wrF zoF at q0
            rw [hdup, hcr, sp, sq] at q0
            exact q0
      · obtain ⟨x6, x7, x10, rfl, e5, t5, sq⟩ := hI
        rw [Nat.zero_add, List.length_map, List.drop_length] at sq
        refine ⟨trivial, hn2 _ _ ⟨_, _, _, _, _, rfl, e5, t5, ?_⟩⟩
        rw [sp, sq]
        rfl
    · obtain ⟨x6, x7, x10, x13, x14, rfl, e4, t4, sp⟩ := hI
      rw [Nat.zero_add, List.length_map, List.drop_length] at sp
      exact ⟨trivial, hn _ _ ⟨x6, x7, x10, x13, x14, rfl, e4, sp⟩⟩
  clear e3 t3
  rintro _ m4 ⟨z6, z7, z10, z13, z14, rfl, e4, hst⟩
  refine seq_to (fun r1 m5 => ∃ g, r1 = E (some (.ref t)) y5 z6 z7 y8 y9 z10 y11 y12 z13 z14 (some (.ref g)) ∧ m4 g = none ∧ m5 = up m4 g (.lst [])) (fun nx hn => ?_) ?_
  · simp [-Bool.exists_bool, E]
    exact fun q hq => hn _ _ ⟨q, rfl, hq, rfl⟩
  rintro _ _ ⟨g, rfl, hg, rfl⟩
  refine seq_to (fun r1 m5 => ∃ x7 x13 x14, r1 = E (some (.ref t)) y5 z6 x7 y8 y9 z10 y11 y12 x13 x14 (some (.ref g)) ∧ Ext m m5 ∧ shF [] p.zones = none) (fun nx hn => ?_) ?_
  · refine fr_shut fun B hB => ?_
    simp [-Bool.exists_bool, E]
    refine loop_inv (fun i r1 m5 => ∃ x7 x13 x14, r1 = E (some (.ref t)) y5 z6 x7 y8 y9 z10 y11 y12 x13 x14 (some (.ref g)) ∧ Keep g m4 m5 ∧ m5 g = some (.lst ((frZ (p.zones.take i)).map D.int)) ∧ (frZ (p.zones.take i)).length ≤ 40 * i ∧ shF [] p.zones = shF (frZ (p.zones.take i)) (p.zones.drop i)) (k := 0) ⟨_, _, _, rfl, .up, up_at, by simp [frZ], rfl⟩ (fun i x r1 m5 nx2 hx hI hn2 => ?_) fun r1 m5 hI => ?_
    · obtain ⟨x7, _, _, rfl, k5, g5, gl, sp⟩ := hI
      rw [Nat.zero_add] at g5 gl sp hn2
      rw [List.getElem?_map] at hx
      obtain ⟨z, hzz, rfl⟩ := Option.map_eq_some_iff.mp hx
      have za := hz.a z (List.mem_of_getElem? hzz)
      have il := (List.getElem?_eq_some_iff.mp hzz).1
      have ftk : frZ (p.zones.take (i + 1)) = frZ (p.zones.take i) ++ z.2 := by simp [frZ, take_at hzz]
      rw [drop_at hzz, shF_cons] at sp
      refine ⟨trivial, ?_⟩
      simp [-Bool.exists_bool, E, lenT, zoneD]
      subst hB
      refine seq_to (fun r1 m6 => ∃ x7, r1 = E (some (.ref t)) y5 z6 x7 y8 y9 z10 y11 y12 (some (.str z.1)) (some (.tup (z.2.map D.int))) (some (.ref g)) ∧ m6 = m5 ∧ sh1 (frZ (p.zones.take i)) z.1 z.2 = none) (fun nx hn => ?_) ?_
      · refine fr_shut fun B hB => ?_
        simp [-Bool.exists_bool]
        refine loop_inv (fun j r1 m6 => ∃ x7, r1 = E (some (.ref t)) y5 z6 x7 y8 y9 z10 y11 y12 (some (.str z.1)) (some (.tup (z.2.map D.int))) (some (.ref g)) ∧ m6 = m5 ∧ sh1 (frZ (p.zones.take i)) z.1 z.2 = sh1 (frZ (p.zones.take i)) z.1 (z.2.drop j)) (k := 0) ⟨_, rfl, rfl, rfl⟩ (fun j x r1 m6 nx3 hj hI hn3 => ?_) fun r1 m6 hI => ?_
        · obtain ⟨_, rfl, rfl, sq⟩ := hI
          rw [Nat.zero_add] at sq hn3
          rw [List.getElem?_map] at hj
          obtain ⟨a, ha, rfl⟩ := Option.map_eq_some_iff.mp hj
          rw [drop_at ha, sh1_cons] at sq
          refine ⟨trivial, ?_⟩
          subst hB
          simp [-Bool.exists_bool, E]
          rw [in_eq]
          refine in_flat g5 rfl (hfl _) ?_
          rw [any_ints]
          by_cases hk : a ∈ frZ (p.zones.take i)
          · rw [if_pos hk] at sq
            simp [-Bool.exists_bool, hk]
            have q0 := post m6 (e4.trans (k5.ext hg))
            unfold wrF zoF at q0
            rw [hdup, hcr, hst, sp, sq] at q0
            exact q0
          · rw [if_neg hk] at sq
            simp [-Bool.exists_bool, hk]
            exact hn3 _ _ ⟨_, rfl, rfl, sq⟩
        · obtain ⟨x7, rfl, rfl, sq⟩ := hI
          rw [Nat.zero_add, List.length_map, List.drop_length] at sq
          exact ⟨trivial, hn _ _ ⟨x7, rfl, rfl, sq⟩⟩
      rintro _ _ ⟨x7, rfl, rfl, sq⟩
      rw [sq, ← ftk] at sp
      simp [-Bool.exists_bool, E, rk_ref g5, mok]
      intro q hq
      have g6 := get_new (o2 := .lst (z.2.map D.int)) hq g5
      rw [rk_ref g6]
      refine ⟨rfl, ?_⟩
      rw [ext_ref g6 up_at]
      refine ⟨by simp only [List.length_map]; omega, hn2 _ _ ⟨_, _, _, rfl, (k5.trans (Ext.new hq).keep).trans .up, by rw [up_at, ftk, List.map_append], by rw [ftk, List.length_append]; omega, sp⟩⟩
    · obtain ⟨x7, x13, x14, rfl, k5, g5, gl, sp⟩ := hI
      rw [Nat.zero_add, List.length_map, List.drop_length] at sp
      exact ⟨trivial, hn _ _ ⟨x7, x13, x14, rfl, e4.trans (k5.ext hg), sp⟩⟩
  rintro _ m5 ⟨x7, x13, x14, rfl, e5, hsh⟩
  simp [-Bool.exists_bool, E]
  have q0 := post m5 e5
  unfold wrF zoF at q0
  rw [hdup, hcr, hst, hsh] at q0
  exact q0
end Mn.K04
end

section
set_option Elab.async false
set_option linter.all false
set_option maxRecDepth 100000
set_option maxHeartbeats 4000000
set_option pp.maxSteps 600
namespace Mn.K04
open Mn
variable {n : Nat} {m m2 : Hm} {P : PD} {X : Nat → Hm → Prop} {b : Nat}
theorem ife_shut {g : Sg} {X : XD} {c : Mn.E} {b e : Ss} {r : Mn.Env} {m : Hm} {Q : K} (h : ∀ B, B = b → wpS g X (.ife c B e) r m Q) : wpS g X (.ife c b e) r m Q := h b rfl
theorem bag_same {k : Nat} (hb : Bag m b k) (h : ∀ z, m b = some z → m2 b = some z) : Bag m2 b k := by
  obtain ⟨a, c, s, hm, r⟩ := hb
  exact ⟨a, c, s, h _ hm, r⟩
/-- one put in another's place -/
def putL {α : Type} (xs : List α) (i : Nat) (y : α) : List α := xs.take i ++ y :: xs.drop (i + 1)
theorem putL_mem {α : Type} {xs : List α} {i : Nat} {x y : α} (h : x ∈ putL xs i y) : x = y ∨ x ∈ xs := by
  unfold putL at h
  rcases List.mem_append.mp h with h | h
  · exact .inr (List.mem_of_mem_take h)
  · rcases List.mem_cons.mp h with h | h
    · exact .inl h
    · exact .inr (List.mem_of_mem_drop h)
theorem putL_in {α : Type} {xs : List α} {i : Nat} {y : α} : y ∈ putL xs i y := by simp [putL]
theorem putL_len {α : Type} {xs : List α} {i : Nat} {y : α} (h : i < xs.length) : (putL xs i y).length = xs.length := by
  simp only [putL, List.length_append, List.length_cons, List.length_take, List.length_drop]
  omega
theorem cutM {α : Type} {xs : List α} {i : Nat} (h : i ≤ xs.length) : cut xs (some (i : Int)) none = xs.drop i := by
  have := cutB (xs := xs) (i := (i : Int)) (by omega) (by omega)
  rw [this]
  simp
theorem put_map {α : Type} {f : α → D} {xs : List α} {i : Nat} {y : α} (h : i < xs.length) : cut (xs.map f) none (some (i : Int)) ++ f y :: cut (xs.map f) (some ((i : Int) + 1)) none = (putL xs i y).map f := by
  have e : ((i : Int) + 1) = ((i + 1 : Nat) : Int) := by omega
  rw [e, cutN (by rw [List.length_map]; omega), cutM (by rw [List.length_map]; omega)]
  simp [putL]
/-- loops with a device -/
structure LpOk (ls : List (List Pl)) : Prop where
  l1 : ls.length ≤ 3
  lp : ∀ l ∈ ls, l.length ≤ 12 ∧ ∀ q ∈ l, WfP q
  dv : 1 ≤ (ls.flatMap devsL).length
def SpOk (ls : List (List Pl)) (x : D) : Prop := ∃ (i j w : Nat) (l : List Pl) (d : Dv) (sp : List Dv), x = .tup [.int (i : Nat), .int (j : Nat), .int (w : Nat)] ∧ ls[i]? = some l ∧ l[j]? = some (.dev d sp) ∧ w ≤ sp.length
variable {ls : List (List Pl)}
theorem LpOk.dl (h : LpOk ls) : (ls.flatMap devsL).length ≤ 200 := devs_le (p := ⟨0, ls, []⟩) ⟨h.l1, h.lp⟩
theorem LpOk.wf (h : LpOk ls) : ∀ d ∈ ls.flatMap devsL, WfD d := fun d hd => by
  obtain ⟨l, hl, h2⟩ := List.mem_flatMap.mp hd
  obtain ⟨q, hq, h3⟩ := List.mem_flatMap.mp h2
  have := (h.lp l hl).2 q hq
  cases q with
  | op => simp [Pl.devs] at h3
  | dev e sp =>
    simp only [Pl.devs, List.mem_cons] at h3
    rcases h3 with rfl | h3
    · exact this.1
    · exact this.2.2 d h3
theorem LpOk.put {i j : Nat} {l : List Pl} {q : Pl} (h : LpOk ls) (hl : ls[i]? = some l) (hj : j < l.length) (hq : WfP q) (hd : 1 ≤ q.devs.length) : LpOk (putL ls i (putL l j q)) := by
  have hi := (List.getElem?_eq_some_iff.mp hl).1
  have hlm := h.lp l (List.mem_of_getElem? hl)
  refine ⟨by rw [putL_len hi]; exact h.l1, fun l2 h2 => ?_, ?_⟩
  · rcases putL_mem h2 with rfl | h2
    · refine ⟨by rw [putL_len hj]; exact hlm.1, fun q2 hq2 => ?_⟩
      rcases putL_mem hq2 with rfl | hq2
      · exact hq
      · exact hlm.2 q2 hq2
    · exact h.lp l2 h2
  · have a1 := flat_mem_len (f := devsL) (putL_in (xs := ls) (i := i) (y := putL l j q))
    have a2 := flat_mem_len (f := Pl.devs) (putL_in (xs := l) (i := j) (y := q))
    exact Nat.le_trans hd (Nat.le_trans a2 a1)
theorem at_nat {α : Type} {xs : List α} {i : Nat} {x : α} (h : xs[i]? = some x) : atI xs (i : Int) = some x := by
  have hi := (List.getElem?_eq_some_iff.mp h).1
  rw [atI_nat hi]
  rw [List.getElem?_eq_getElem hi] at h
  exact h
theorem at_mapD {α : Type} {f : α → D} {xs : List α} {i : Nat} {x : α} (h : xs[i]? = some x) : atI (xs.map f) (i : Int) = some (f x) := at_nat (by rw [List.getElem?_map, h]; rfl)
theorem s_readdressed {k : Nat} (h : LpOk ls) (hb : Bag m b (k + 4)) (post : ∀ (ls2 : List (List Pl)) (kn : List Int) (q : Nat) (m2 : Hm), LpOk ls2 → 1 ≤ kn.length → kn.length ≤ 200 → m2 q = some (.lst (kn.map D.int)) → q ≠ b → Keep b m m2 → Bag m2 b k → P (.tup [.tup (ls2.map loopD), .ref q]) m2) :
    callN T (n + 2) 0 356 [.ref b, .tup (ls.map loopD)] m P X := by
  rw [call_iff F_law_readdressed]
  refine ⟨rfl, ?_⟩
  have hSZ : (100000 : Nat) < SZ := by decide
  have dl := h.dl
  have l3 := h.l1
  unfold f_law_readdressed start
  simp only [List.map, List.length, List.replicate, List.cons_append, List.nil_append]
  obtain ⟨LD, hLD⟩ : ∃ d, d = D.tup (ls.map loopD) := ⟨_, rfl⟩
  rw [← hLD]
  let E (x2 x3 x4 x5 x6 x7 x8 x9 x10 x11 x12 : Option Mn.D) : Mn.Env := [some (.ref b), some LD, x2, x3, x4, x5, x6, x7, x8, x9, x10, x11, x12]
  have lenL : ∀ (P : PD) (m9 : Hm), bfW .len [LD] m9 P = P (.int (ls.length : Nat)) m9 := fun P m9 => by rw [hLD]; simp
  have atL : ∀ {i : Nat} {l : List Pl}, ls[i]? = some l → ∀ (P : PD) (m9 : Hm), ixW LD (.int (i : Nat)) m9 P = P (loopD l) m9 := fun hl P m9 => by
    rw [hLD, x_tup, at_mapD hl]
    simp
  have lenP : ∀ (l : List Pl) (P : PD) (m9 : Hm), bfW .len [loopD l] m9 P = P (.int (l.length : Nat)) m9 := fun l P m9 => by simp [loopD]
  have atP : ∀ {j : Nat} {l : List Pl} {q : Pl}, l[j]? = some q → ∀ (P : PD) (m9 : Hm), ixW (loopD l) (.int (j : Nat)) m9 P = P q.D m9 := fun hl P m9 => by
    unfold loopD
    rw [x_tup, at_mapD hl]
    simp
  refine seq_to (fun r1 m1 => ∃ s, r1 = E (some (.ref s)) none none none none none none none none none none ∧ m s = none ∧ m1 = up m s (.lst [])) (fun nx hn => ?_) ?_
  · simp [-Bool.exists_bool, E]
    exact fun q hq => hn _ _ ⟨q, rfl, hq, rfl⟩
  rintro _ _ ⟨s, rfl, hs, rfl⟩
  refine seq_to (fun r1 m1 => ∃ q, r1 = E (some (.ref s)) (some (.ref q)) none none none none none none none none none ∧ m q = none ∧ s ≠ q ∧ m1 s = some (.lst []) ∧ m1 q = some (.lst []) ∧ Ext m m1) (fun nx hn => ?_) ?_
  · simp [-Bool.exists_bool, E]
    intro q hq
    refine hn _ _ ⟨q, rfl, ?_, ne_new hq up_at, get_new hq up_at, up_at, (Ext.new hs).trans (.new hq)⟩
    cases hz : m q with
    | none => rfl
    | some z => rw [get_new hs hz] at hq; cases hq
  rintro _ m1 ⟨q, rfl, hq, sq, s1, q1, e1⟩
  have sb := bag_ne hb hs
  have qb := bag_ne hb hq
  refine seq_to (fun r1 m2 => ∃ (x4 x5 x6 x7 x8 x9 : Option Mn.D) (ss : List Mn.D), r1 = E (some (.ref s)) (some (.ref q)) x4 x5 x6 x7 x8 x9 none none none ∧ m2 s = some (.lst ss) ∧ m2 q = some (.lst (((ls.flatMap devsL).map Dv.a).map D.int)) ∧ ss.length = (ls.flatMap devsL).length ∧ (∀ x ∈ ss, SpOk ls x) ∧ KeepS [s, q] m1 m2) (fun nx hn => ?_) ?_
  · refine fr_shut fun B hB => ?_
    simp [-Bool.exists_bool, E, lenL]
    refine ⟨⟨by omega, by omega⟩, ?_⟩
    let J (ds : List Dv) (m2 : Hm) : Prop := ∃ ss : List Mn.D, m2 s = some (.lst ss) ∧ m2 q = some (.lst ((ds.map Dv.a).map D.int)) ∧ ss.length = ds.length ∧ (∀ x ∈ ss, SpOk ls x) ∧ KeepS [s, q] m1 m2
    refine loop_inv (fun i r1 m2 => ∃ x4 x5 x6 x7 x8 x9, r1 = E (some (.ref s)) (some (.ref q)) x4 x5 x6 x7 x8 x9 none none none ∧ J ((ls.take i).flatMap devsL) m2) (k := 0) ⟨_, _, _, _, _, _, rfl, [], s1, q1, rfl, fun _ h => (nomatch h), .refl⟩ (fun i x r1 m2 nx2 hx hI hn2 => ?_) fun r1 m2 hI => ?_
    · obtain ⟨_, x5, x6, x7, x8, x9, rfl, hJ⟩ := hI
      rw [Nat.zero_add] at hJ hn2
      obtain ⟨rfl, il⟩ := range_get hx
      rw [Int.zero_add]
      have il : i < ls.length := il
      have hl : ls[i]? = some ls[i] := List.getElem?_eq_getElem il
      generalize ls[i] = l at hl
      have hlm := List.mem_of_getElem? hl
      obtain ⟨l12, lw⟩ := h.lp l hlm
      have ftk : (ls.take (i + 1)).flatMap devsL = (ls.take i).flatMap devsL ++ devsL l := by simp [take_at hl]
      have fle : ((ls.take (i + 1)).flatMap devsL).length ≤ 200 := Nat.le_trans (flat_take_len ls (i + 1)) dl
      rw [ftk, List.length_append] at fle
      refine ⟨trivial, ?_⟩
      subst hB
      refine fr_shut fun B hB => ?_
      simp [-Bool.exists_bool, E, atL hl, lenP]
      refine ⟨⟨by omega, by omega⟩, ?_⟩
      refine loop_inv (fun j r1 m2 => ∃ x5 x6 x7 x8 x9, r1 = E (some (.ref s)) (some (.ref q)) (some (.int (i : Nat))) x5 x6 x7 x8 x9 none none none ∧ J ((ls.take i).flatMap devsL ++ devsL (l.take j)) m2) (k := 0) ⟨_, _, _, _, _, rfl, by simpa [devsL] using hJ⟩ (fun j x r1 m2 nx3 hx hI hn3 => ?_) fun r1 m2 hI => ?_
      · obtain ⟨_, x6, x7, x8, x9, rfl, hJ⟩ := hI
        rw [Nat.zero_add] at hJ hn3
        obtain ⟨rfl, jl⟩ := range_get hx
        rw [Int.zero_add]
        have jl : j < l.length := jl
        have hp : l[j]? = some l[j] := List.getElem?_eq_getElem jl
        generalize l[j] = pl at hp
        have pw := lw pl (List.mem_of_getElem? hp)
        have dtk : devsL (l.take (j + 1)) = devsL (l.take j) ++ pl.devs := by rw [take_at hp, devsL_snoc]
        have dle : (devsL (l.take (j + 1))).length ≤ (devsL l).length := flat_take_len l (j + 1)
        rw [dtk, List.length_append] at dle
        refine ⟨trivial, ?_⟩
        subst hB
        cases pl with
        | op =>
          simp [-Bool.exists_bool, E, atL hl, atP hp, Pl.D, lenT, tOpen]
          refine hn3 _ _ ⟨_, _, _, _, _, rfl, ?_⟩
          rw [dtk]
          simpa [Pl.devs] using hJ
        | dev d sp =>
          obtain ⟨dw, sl, sw⟩ := pw
          refine seq_eq (E (some (.ref s)) (some (.ref q)) (some (.int (i : Nat))) (some (.int (j : Nat))) (some (.str d.k)) (some (.int d.a)) (some (.tup (sp.map Dv.D))) x9 none none none) m2 (fun nx hn => by simp [-Bool.exists_bool, E, atL hl, atP hp, Pl.D, lenT]; exact hn) ?_
          rw [w_scons]
          refine ife_shut fun B hB => ?_
          simp [-Bool.exists_bool, E, tOpen, kind_ne dw]
          subst hB
          rw [w_scons]
          refine fr_shut fun B hB => ?_
          simp [-Bool.exists_bool]
          refine ⟨⟨by omega, by omega⟩, ?_⟩
          have hdv : (Pl.dev d sp).devs = d :: sp := rfl
          rw [hdv, List.length_cons] at dle
          refine loop_inv (fun w r1 m2 => ∃ x9, r1 = E (some (.ref s)) (some (.ref q)) (some (.int (i : Nat))) (some (.int (j : Nat))) (some (.str d.k)) (some (.int d.a)) (some (.tup (sp.map Dv.D))) x9 none none none ∧ J ((ls.take i).flatMap devsL ++ devsL (l.take j) ++ (d :: sp).take w) m2) (k := 0) ⟨_, rfl, by simpa using hJ⟩ (fun w x r1 m2 nx4 hx hI hn4 => ?_) fun r1 m2 hI => ?_
          · obtain ⟨_, rfl, ss, s2, q2, sl2, so2, k2⟩ := hI
            rw [Nat.zero_add] at q2 sl2 hn4
            obtain ⟨rfl, wl⟩ := range_get hx
            rw [Int.zero_add]
            have wl : w < sp.length + 1 := by have : ((sp.length : Int) + 1).toNat = sp.length + 1 := by omega
                                              omega
            have hw : (d :: sp)[w]? = some (d :: sp)[w] := List.getElem?_eq_getElem (by rw [List.length_cons]; exact wl)
            generalize (d :: sp)[w] = e at hw
            refine ⟨trivial, ?_⟩
            subst hB
            have bnd : ((ls.take i).flatMap devsL ++ devsL (l.take j) ++ (d :: sp).take w).length ≤ 200 := by
              simp only [List.length_append, List.length_take, List.length_cons]
              omega
            refine seq_to (fun r1 m3 => r1 = E (some (.ref s)) (some (.ref q)) (some (.int (i : Nat))) (some (.int (j : Nat))) (some (.str d.k)) (some (.int d.a)) (some (.tup (sp.map Dv.D))) (some (.int (w : Nat))) none none none ∧ m3 = up m2 s (.lst (ss ++ [.tup [.int (i : Nat), .int (j : Nat), .int (w : Nat)]]))) (fun nx hn => ?_) ?_
            · simp [-Bool.exists_bool, E, rk_ref s2, mok]
              rw [app_ref s2]
              exact ⟨by omega, hn _ _ ⟨rfl, rfl⟩⟩
            rintro _ _ ⟨rfl, rfl⟩
            have q3 : (up m2 s (.lst (ss ++ [.tup [.int (i : Nat), .int (j : Nat), .int (w : Nat)]]))) q = some (.lst (((((ls.take i).flatMap devsL ++ devsL (l.take j) ++ (d :: sp).take w).map Dv.a).map D.int))) := by rw [up_off sq.symm]; exact q2
            have s3 : (up m2 s (.lst (ss ++ [.tup [.int (i : Nat), .int (j : Nat), .int (w : Nat)]]))) s = some (.lst (ss ++ [.tup [.int (i : Nat), .int (j : Nat), .int (w : Nat)]])) := up_at
            have k3 : KeepS [s, q] m1 (up m2 s (.lst (ss ++ [.tup [.int (i : Nat), .int (j : Nat), .int (w : Nat)]]))) := k2.trans (.up (by simp))
            generalize up m2 s (.lst (ss ++ [.tup [.int (i : Nat), .int (j : Nat), .int (w : Nat)]])) = m3 at q3 s3 k3 ⊢
            have hat : atI (D.tup [.str d.k, .int d.a] :: sp.map Dv.D) (w : Int) = some e.D := at_mapD (f := Dv.D) hw
            simp [-Bool.exists_bool, E, rk_ref q3, mok]
            refine ⟨by omega, _, hat, ?_⟩
            simp only [Dv.D]
            refine ⟨_, (rfl : atI [D.str e.k, D.int e.a] 1 = _), ?_⟩
            refine ⟨rk_ref q3, ?_⟩
            rw [app_ref q3]
            refine ⟨by simp only [List.length_map]; omega, hn4 _ _ ⟨_, rfl, ss ++ [.tup [.int (i : Nat), .int (j : Nat), .int (w : Nat)]], ?_, ?_, ?_, fun x hx => ?_, k3.trans (.up (by simp))⟩⟩
            · rw [up_off sq]; exact s3
            · rw [up_at, take_at hw]
              simp
            · rw [List.length_append, sl2, take_at hw]
              simp
              omega
            · rcases List.mem_append.mp hx with hx | hx
              · exact so2 x hx
              · rw [List.mem_singleton.mp hx]
                exact ⟨i, j, w, l, d, sp, rfl, hl, hp, by omega⟩
          · obtain ⟨x9, rfl, hJ⟩ := hI
            refine ⟨trivial, hn3 _ _ ⟨_, _, _, _, _, rfl, ?_⟩⟩
            rw [Nat.zero_add, rangeD_length, show sp.length + 1 = (d :: sp).length from rfl, List.take_length] at hJ
            rw [dtk, ← List.append_assoc]
            exact hJ
      · obtain ⟨x5, x6, x7, x8, x9, rfl, hJ⟩ := hI
        refine ⟨trivial, hn2 _ _ ⟨_, _, _, _, _, _, rfl, ?_⟩⟩
        rw [Nat.zero_add, rangeD_length] at hJ
        simp only [Int.toNat_natCast, List.take_length] at hJ
        rw [← ftk] at hJ
        exact hJ
    · obtain ⟨x4, x5, x6, x7, x8, x9, rfl, ss, a1, a2, a3, a4, a5⟩ := hI
      rw [Nat.zero_add, rangeD_length] at a2 a3
      simp only [Int.toNat_natCast, List.take_length] at a2 a3
      exact ⟨trivial, hn _ _ ⟨_, _, _, _, _, _, ss, rfl, a1, a2, a3, a4, a5⟩⟩
  rintro _ m2 ⟨x4, x5, x6, x7, x8, x9, ss, rfl, s2, q2, sl, so, k2⟩
  have b2 : Bag m2 b (k + 4) := bag_same hb fun z hz => k2 _ _ (by simp; exact ⟨sb.symm, qb.symm⟩) (e1 _ _ hz)
  have kb : Keep b m m2 := fun a z ha hz => by
    refine k2 _ _ ?_ (e1 _ _ hz)
    simp only [List.mem_cons, List.not_mem_nil, or_false, not_or]
    exact ⟨ne_new hs hz, ne_new hq hz⟩
  have dv := h.dv
  generalize hkn : (ls.flatMap devsL).map Dv.a = kn at q2
  have kl : kn.length = (ls.flatMap devsL).length := by rw [← hkn, List.length_map]
  refine seq_to (fun r1 m3 => ∃ (i j w : Nat) (l : List Pl) (d : Dv) (sp : List Dv), r1 = E (some (.ref s)) (some (.ref q)) (some (.int (i : Nat))) (some (.int (j : Nat))) x6 x7 x8 (some (.int (w : Nat))) none none none ∧ ls[i]? = some l ∧ l[j]? = some (.dev d sp) ∧ w ≤ sp.length ∧ m3 q = some (.lst (kn.map D.int)) ∧ Keep b m m3 ∧ Bag m3 b (k + 3)) (fun nx hn => ?_) ?_
  · simp [-Bool.exists_bool, E, F_law_take, len_ref s2]
    refine take_ok F_law_take (n := k + 3) b2 (by omega) (by omega) fun z m3 z0 z1 k3 b3 => ?_
    rw [x_ref (k3 _ _ sb s2)]
    obtain ⟨x, hx, _, hxm⟩ := atI_some (xs := ss) z0 z1
    obtain ⟨i, j, w, l, d, sp, rfl, hl, hp, hw⟩ := so x hxm
    refine ⟨_, hx, ?_⟩
    simp [-Bool.exists_bool, lenT]
    exact hn _ _ ⟨i, j, w, l, d, sp, rfl, hl, hp, hw, k3 _ _ qb q2, kb.trans k3, b3⟩
  clear kb b2 s2 k2 q2
  rintro _ m3 ⟨i, j, w, l, d, sp, rfl, hl, hp, hw, q3, kb, b3⟩
  obtain ⟨l12, lw⟩ := h.lp l (List.mem_of_getElem? hl)
  obtain ⟨dw, spl, sw⟩ := lw _ (List.mem_of_getElem? hp)
  have il := (List.getElem?_eq_some_iff.mp hl).1
  have jl := (List.getElem?_eq_some_iff.mp hp).1
  have hkb : ∀ x ∈ kn, 1 ≤ x ∧ x ≤ 99 := fun x hx => by
    rw [← hkn] at hx
    obtain ⟨e, he, rfl⟩ := List.mem_map.mp hx
    exact (h.wf e he).2
  refine seq_to (fun r1 m4 => ∃ nu : Int, r1 = E (some (.ref s)) (some (.ref q)) (some (.int (i : Nat))) (some (.int (j : Nat))) x6 x7 x8 (some (.int (w : Nat))) (some (.int nu)) none none ∧ 1 ≤ nu ∧ nu ≤ 99 ∧ m4 q = some (.lst (kn.map D.int)) ∧ Keep b m m4 ∧ Bag m4 b k) (fun nx hn => ?_) ?_
  · simp [-Bool.exists_bool, E, F_law_take, len_ref q3]
    refine take_ok F_law_take (n := k + 2) b3 (by omega) (by omega) fun z m4 z0 z1 k4 b4 => ?_
    have q4 := k4 _ _ qb q3
    rw [x_ref q4]
    obtain ⟨x, hx, _, hxm⟩ := atI_some (xs := kn.map D.int) z0 (by rw [List.length_map]; exact z1)
    obtain ⟨v, hv, rfl⟩ := List.mem_map.mp hxm
    obtain ⟨v1, v2⟩ := hkb v hv
    refine ⟨_, hx, ?_⟩
    refine take_ok F_law_take (n := k + 1) b4 (by omega) (by omega) fun y m5 y0 y1 k5 b5 => ?_
    simp [-Bool.exists_bool]
    intro c hc
    refine take_ok F_law_take (n := k) (b5.new hc) (by omega) (by omega) fun u m6 u0 u1 k6 b6 => ?_
    have q6 := k6 _ _ qb (get_new hc (k5 _ _ qb q4))
    have kk := ((kb.trans k4).trans k5).trans ((Ext.new (o := .lst [.int v, .int (1 + y)]) hc).keep.trans k6)
    simp [-Bool.exists_bool]
    rw [x_ref (k6 _ _ (bag_ne b5 hc) up_at)]
    by_cases hu : u = 0
    · rw [if_pos hu]
      exact ⟨_, rfl, hn _ _ ⟨_, rfl, by omega, by omega, q6, kk, b6⟩⟩
    · rw [if_neg hu]
      exact ⟨_, rfl, hn _ _ ⟨_, rfl, by omega, by omega, q6, kk, b6⟩⟩
  clear kb b3 q3
  rintro _ m4 ⟨nu, rfl, n1, n2, q4, kb, b4⟩
  refine seq_eq (E (some (.ref s)) (some (.ref q)) (some (.int (i : Nat))) (some (.int (j : Nat))) (some (.str d.k)) (some (.int d.a)) (some (.tup (sp.map Dv.D))) (some (.int (w : Nat))) (some (.int nu)) none none) m4 (fun nx hn => by simp [-Bool.exists_bool, E, atL hl, atP hp, Pl.D, lenT]; exact hn) ?_
  refine seq_to (fun r1 m5 => ∃ q2 : Pl, r1 = E (some (.ref s)) (some (.ref q)) (some (.int (i : Nat))) (some (.int (j : Nat))) (some (.str d.k)) (some (.int d.a)) (some (.tup (sp.map Dv.D))) (some (.int (w : Nat))) (some (.int nu)) (some q2.D) none ∧ m5 = m4 ∧ WfP q2 ∧ 1 ≤ q2.devs.length) (fun nx hn => ?_) ?_
  · by_cases h0 : w = 0
    · subst h0
      simp [-Bool.exists_bool, E]
      exact hn _ _ ⟨.dev ⟨d.k, nu⟩ sp, rfl, rfl, ⟨⟨dw.1, n1, n2⟩, spl, sw⟩, by simp [Pl.devs]⟩
    · have hw0 : ¬ (w : Int) = 0 := by omega
      obtain ⟨v, rfl⟩ : ∃ v, w = v + 1 := ⟨w - 1, by omega⟩
      have ev : ((v + 1 : Nat) : Int) - 1 = (v : Nat) := by omega
      have hs1 : sp[v]? = some sp[v] := List.getElem?_eq_getElem (by omega)
      have hsw := sw sp[v] (List.getElem_mem _)
      generalize sp[v] = e at hs1 hsw
      have hat : atI (sp.map Dv.D) (v : Int) = some e.D := at_mapD hs1
      have hpm := put_map (f := Dv.D) (xs := sp) (i := v) (y := ⟨e.k, nu⟩) (by omega)
      have hlen := congrArg List.length hpm
      rw [List.length_map, putL_len (by omega), List.length_append, List.length_cons] at hlen
      simp [-Bool.exists_bool, E, hw0]
      rw [if_neg (show ¬ (v : Int) + 1 = 0 by omega)]
      refine ⟨_, hat, ?_⟩
      simp only [Dv.D]
      refine ⟨_, (rfl : atI [D.str e.k, D.int e.a] 0 = _), ?_⟩
      refine ⟨by omega, by omega, ?_⟩
      rw [show D.tup [.str e.k, .int nu] = Dv.D ⟨e.k, nu⟩ from rfl, hpm]
      refine hn _ _ ⟨.dev d (putL sp v ⟨e.k, nu⟩), rfl, rfl, ⟨dw, by rw [putL_len (by omega)]; exact spl, fun x hx => ?_⟩, by simp [Pl.devs]⟩
      rcases putL_mem hx with rfl | hx
      · exact ⟨hsw.1, n1, n2⟩
      · exact sw x hx
  rintro _ m5 ⟨q2, rfl, rfl, qw, qd⟩
  have slL : ∀ lo hi (P : PD) (m9 : Hm), slW LD lo hi m9 P = P (.tup (cut (ls.map loopD) lo hi)) m9 := fun lo hi P m9 => by rw [hLD]; simp
  have slP : ∀ lo hi (P : PD) (m9 : Hm), slW (loopD l) lo hi m9 P = P (.tup (cut (l.map Pl.D) lo hi)) m9 := fun lo hi P m9 => by simp [loopD]
  refine seq_eq (E (some (.ref s)) (some (.ref q)) (some (.int (i : Nat))) (some (.int (j : Nat))) (some (.str d.k)) (some (.int d.a)) (some (.tup (sp.map Dv.D))) (some (.int (w : Nat))) (some (.int nu)) (some q2.D) (some (loopD (putL l j q2)))) m5 (fun nx hn => ?_) ?_
  · have hpm := put_map (f := Pl.D) (xs := l) (i := j) (y := q2) jl
    have hlen := congrArg List.length hpm
    rw [List.length_map, putL_len jl, List.length_append, List.length_cons] at hlen
    simp [-Bool.exists_bool, E, atL hl, slP]
    refine ⟨by omega, by omega, ?_⟩
    rw [hpm]
    exact hn
  · have hpm := put_map (f := loopD) (xs := ls) (i := i) (y := putL l j q2) il
    have hlen := congrArg List.length hpm
    rw [List.length_map, putL_len il, List.length_append, List.length_cons] at hlen
    simp [-Bool.exists_bool, E, slL]
    refine ⟨by omega, by omega, ?_⟩
    rw [hpm]
    exact post _ kn q m5 (h.put hl jl qw qd) (by omega) (by omega) q4 qb kb b4
end Mn.K04
end

section
set_option Elab.async false
set_option linter.all false
set_option maxRecDepth 100000
set_option maxHeartbeats 4000000
set_option pp.maxSteps 600
namespace Mn.K04
open Mn
variable {n : Nat} {m m2 : Hm} {P : PD} {X : Nat → Hm → Prop} {b : Nat}
theorem pw_nd {l : List Int} (h : l.Pairwise (· < ·)) : l.Nodup := h.imp fun {a b} hab e => by rw [e] at hab; omega
theorem unl_le {α : Type} [DecidableEq α] (l : List α) : (unlL l).length ≤ l.length := by
  have key : ∀ (l acc : List α), (l.foldl (fun acc x => if x ∈ acc then acc else acc ++ [x]) acc).length ≤ acc.length + l.length := by
    intro l
    induction l with
    | nil => intro acc; simp
    | cons x l ih =>
      intro acc
      simp only [List.foldl_cons, List.length_cons]
      split
      · have := ih acc; omega
      · have := ih (acc ++ [x]); simp only [List.length_append, List.length_singleton] at this; omega
  have := key l []
  simpa [unlL] using this
theorem sortI {x : D} {ns : List Int} (hq : itsOf m x = some (ns.map D.int)) (hl : ns.length < 64)
    (post : ∀ (ms : List Int) p, m p = none → (∀ k, k ∈ ms ↔ k ∈ ns) → ms.length ≤ ns.length → P (.ref p) (up m p (.lst (ms.map D.int)))) : fuW .sortS [x] m P := by
  refine ⟨_, ns, hq, ints_map ns, ?_, by omega, fun ms pw mem p hp => ?_⟩
  · have := unl_le ns
    omega
  · exact post ms p hp mem ((pw_nd pw).length_le_of_subset fun x hx => (mem x).mp hx)
/-- zones with addresses -/
structure ZsOk (zs : List Zn) : Prop where
  l : zs.length ≤ 8
  a : ∀ z ∈ zs, 1 ≤ z.2.length ∧ z.2.length ≤ 30
  n : ∀ z ∈ zs, pln z.1 = true
theorem ZsOk.ok {zs : List Zn} (h : ZsOk zs) : ZnOk zs := ⟨h.l, fun z hz => by have := h.a z hz; omega, h.n⟩
theorem ZsOk.put {zs : List Zn} {i : Nat} {z : Zn} {ns : List Int} (h : ZsOk zs) (hi : zs[i]? = some z) (h1 : 1 ≤ ns.length) (h2 : ns.length ≤ 30) : ZsOk (putL zs i (z.1, ns)) := by
  have il := (List.getElem?_eq_some_iff.mp hi).1
  refine ⟨by rw [putL_len il]; exact h.l, fun x hx => ?_, fun x hx => ?_⟩
  · rcases putL_mem hx with rfl | hx
    · exact ⟨h1, h2⟩
    · exact h.a x hx
  · rcases putL_mem hx with rfl | hx
    · exact h.n z (List.mem_of_getElem? hi)
    · exact h.n x hx
theorem s_law_spoilt {k : Nat} {p : PlanT} (hls : LpOk p.loops) (hzs : ZsOk p.zones) (hb : Bag m b (k + 100)) (post : ∀ (p2 : PlanT) m2, LpOk p2.loops → ZsOk p2.zones → Keep b m m2 → Bag m2 b k → P p2.D m2) :
    callN T (n + 3) 0 357 [.ref b, p.D] m P X := by
  rw [call_iff F_law_spoilt]
  refine ⟨rfl, ?_⟩
  have hSZ : (100000 : Nat) < SZ := by decide
  unfold f_law_spoilt start
  simp only [List.map, List.length, List.replicate, List.cons_append, List.nil_append]
  let E (mo : Int) (ls : List (List Pl)) (zs : List Zn) (x5 x6 x7 x8 x9 x10 : Option Mn.D) : Mn.Env := [some (.ref b), some p.D, some (.int mo), some (.tup (ls.map loopD)), some (.tup (zs.map zoneD)), x5, x6, x7, x8, x9, x10]
  refine seq_eq (E p.most p.loops p.zones none none none none none none) m (fun nx hn => ?_) ?_
  · simp [-Bool.exists_bool, E, PlanT.D, lenT]
    exact hn
  refine seq_to (fun r1 m1 => ∃ (q : Nat) (kn : List Int), r1 = E p.most p.loops p.zones (some (.ref q)) none none none none none ∧ m1 q = some (.lst (kn.map D.int)) ∧ 1 ≤ kn.length ∧ kn.length ≤ 200 ∧ q ≠ b ∧ Keep b m m1 ∧ Bag m1 b (k + 99)) (fun nx hn => ?_) ?_
  · simp [-Bool.exists_bool, E, F_law_take]
    refine take_ok F_law_take (n := k + 99) hb (by decide) (by decide) fun z m1 z0 z1 k1 b1 => ?_
    simp [-Bool.exists_bool]
    intro q hq
    exact hn _ _ ⟨q, [1 + z], rfl, up_at, by simp, by simp, bag_ne b1 hq, k1.trans (Ext.new hq).keep, b1.new hq⟩
  rintro _ m1 ⟨q, kn, rfl, q1, kn1, kn2, qb, k1, b1⟩
  refine seq_to (fun r1 m2 => ∃ (ls : List (List Pl)) (q : Nat) (kn : List Int) (x6 : Option Mn.D), r1 = E p.most ls p.zones (some (.ref q)) x6 none none none none ∧ LpOk ls ∧ m2 q = some (.lst (kn.map D.int)) ∧ 1 ≤ kn.length ∧ kn.length ≤ 200 ∧ q ≠ b ∧ Keep b m m2 ∧ Bag m2 b (k + 80)) (fun nx hn => ?_) ?_
  · refine fr_shut fun B hB => ?_
    simp [-Bool.exists_bool, E, F_law_take]
    refine take_ok F_law_take (n := k + 98) b1 (by decide) (by decide) fun c m2 c0 c1 k2 b2 => ?_
    have hin : inB c := ⟨by omega, by omega⟩
    simp [-Bool.exists_bool, hin]
    refine loop_inv (fun i r1 m2 => ∃ (ls : List (List Pl)) (q : Nat) (kn : List Int) (x6 : Option Mn.D), r1 = E p.most ls p.zones (some (.ref q)) x6 none none none none ∧ LpOk ls ∧ m2 q = some (.lst (kn.map D.int)) ∧ 1 ≤ kn.length ∧ kn.length ≤ 200 ∧ q ≠ b ∧ Keep b m m2 ∧ Bag m2 b (k + 98 - 4 * i)) (k := 0) ⟨p.loops, q, kn, none, rfl, hls, k2 _ _ qb q1, kn1, kn2, qb, k1.trans k2, b2⟩ (fun i x r1 m2 nx2 hx hI hn2 => ?_) fun r1 m2 hI => ?_
    · obtain ⟨ls, q, kn, _, rfl, hl, q2, kn1, kn2, qb, k2, b2⟩ := hI
      rw [Nat.zero_add] at b2 hn2
      obtain ⟨rfl, il⟩ := range_get hx
      have il : i < 3 := by omega
      refine ⟨trivial, ?_⟩
      subst hB
      simp [-Bool.exists_bool, E, F_law_readdressed]
      refine s_readdressed (n := n) (k := k + 98 - 4 * (i + 1)) hl (b2.mono (by omega)) fun ls2 kn2_ q2_ m3 hl2 g1 g2 g3 g4 k3 b3 => ?_
      refine ⟨rfl, ?_⟩
      exact hn2 _ _ ⟨ls2, q2_, kn2_, _, rfl, hl2, g3, g1, g2, g4, k2.trans k3, b3⟩
    · obtain ⟨ls, q, kn, x6, rfl, hl, q2, kn1, kn2, qb, k2, b2⟩ := hI
      rw [Nat.zero_add, rangeD_length] at b2
      exact ⟨trivial, hn _ _ ⟨ls, q, kn, x6, rfl, hl, q2, kn1, kn2, qb, k2, b2.mono (by omega)⟩⟩
  clear q1 kn1 kn2 qb k1 b1
  rintro _ m2 ⟨ls, q, kn, y6, rfl, hl, q2, kn1, kn2, qb, k2, b2⟩
  refine seq_to (fun r1 m3 => ∃ mo : Int, r1 = E mo ls p.zones (some (.ref q)) y6 none none none none ∧ m3 q = some (.lst (kn.map D.int)) ∧ Keep b m m3 ∧ Bag m3 b (k + 70)) (fun nx hn => ?_) ?_
  · simp [-Bool.exists_bool, E, F_law_take]
    refine take_ok F_law_take (n := k + 79) b2 (by decide) (by decide) fun c m3 c0 c1 k3 b3 => ?_
    have q3 := k3 _ _ qb q2
    by_cases hc : c = 0
    · simp [-Bool.exists_bool, hc, F_law_take]
      refine take_ok F_law_take (n := k + 78) b3 (by decide) (by decide) fun z m4 z0 z1 k4 b4 => ?_
      simp [-Bool.exists_bool]
      exact hn _ _ ⟨_, rfl, k4 _ _ qb q3, (k2.trans k3).trans k4, b4.mono (by omega)⟩
    · simp [-Bool.exists_bool, hc]
      exact hn _ _ ⟨_, rfl, q3, k2.trans k3, b3.mono (by omega)⟩
  clear q2 k2 b2
  rintro _ m3 ⟨mo, rfl, q3, k3, b3⟩
  refine seq_to (fun r1 m4 => ∃ (zs : List Zn) (x6 x7 x8 x9 x10 : Option Mn.D), r1 = E mo ls zs (some (.ref q)) x6 x7 x8 x9 x10 ∧ ZsOk zs ∧ Keep b m m4 ∧ Bag m4 b k) (fun nx hn => ?_) ?_
  · refine fr_shut fun B hB => ?_
    simp [-Bool.exists_bool, E, F_law_take]
    refine take_ok F_law_take (n := k + 69) b3 (by decide) (by decide) fun c m4 c0 c1 k4 b4 => ?_
    have hin : inB c := ⟨by omega, by omega⟩
    simp [-Bool.exists_bool, hin]
    refine loop_inv (fun i r1 m4 => ∃ (zs : List Zn) (x6 x7 x8 x9 x10 : Option Mn.D), r1 = E mo ls zs (some (.ref q)) x6 x7 x8 x9 x10 ∧ ZsOk zs ∧ m4 q = some (.lst (kn.map D.int)) ∧ Keep b m m4 ∧ Bag m4 b (k + 69 - 10 * i)) (k := 0) ⟨p.zones, _, _, _, _, _, rfl, hzs, k4 _ _ qb q3, k3.trans k4, b4⟩ (fun i x r1 m4 nx2 hx hI hn2 => ?_) fun r1 m4 hI => ?_
    · obtain ⟨zs, _, x7, x8, x9, x10, rfl, hz, q4, k4, b4⟩ := hI
      rw [Nat.zero_add] at b4 hn2
      obtain ⟨rfl, il⟩ := range_get hx
      have il : i < 4 := by omega
      rw [Int.zero_add]
      refine ⟨trivial, ?_⟩
      subst hB
      have zl := hz.l
      rw [w_scons]
      refine ife_shut fun B hB => ?_
      by_cases hz0 : (0 : Int) < (zs.length : Nat)
      · simp [-Bool.exists_bool, E]
        rw [if_pos (show 0 < zs.length by omega)]
        subst hB
        refine seq_to (fun r1 m5 => ∃ (j : Nat) (z : Zn), r1 = E mo ls zs (some (.ref q)) (some (.int (i : Nat))) (some (.int (j : Nat))) x8 x9 x10 ∧ zs[j]? = some z ∧ m5 q = some (.lst (kn.map D.int)) ∧ Keep b m m5 ∧ Bag m5 b (k + 69 - 10 * i - 1)) (fun nx hn => ?_) ?_
        · simp [-Bool.exists_bool, E, F_law_take]
          refine take_ok F_law_take (n := k + 69 - 10 * i - 1) (b4.mono (by omega)) (by omega) (by omega) fun z m5 z0 z1 k5 b5 => ?_
          obtain ⟨j, rfl⟩ := Int.eq_ofNat_of_zero_le z0
          have jl : j < zs.length := by omega
          exact hn _ _ ⟨j, _, rfl, List.getElem?_eq_getElem jl, k5 _ _ qb q4, k4.trans k5, b5⟩
        clear q4 k4 b4
        rintro _ m5 ⟨j, z, rfl, hj, q5, k5, b5⟩
        have jl := (List.getElem?_eq_some_iff.mp hj).1
        obtain ⟨za1, za2⟩ := hz.a z (List.mem_of_getElem? hj)
        have zo : ∀ (z : Zn) (P : PD) (m9 : Hm), ixW (zoneD z) (.int 1) m9 P = P (.tup (z.2.map D.int)) m9 := fun z P m9 => by simp [zoneD, atI, ixN]
        have zn : ∀ (z : Zn) (P : PD) (m9 : Hm), ixW (zoneD z) (.int 0) m9 P = P (.str z.1) m9 := fun z P m9 => by simp [zoneD, atI, ixN]
        refine seq_to (fun r1 m6 => ∃ v : Int, r1 = E mo ls zs (some (.ref q)) (some (.int (i : Nat))) (some (.int (j : Nat))) (some (.int v)) x9 x10 ∧ m6 q = some (.lst (kn.map D.int)) ∧ Keep b m m6 ∧ Bag m6 b (k + 69 - 10 * i - 2)) (fun nx hn => ?_) ?_
        · simp [-Bool.exists_bool, E, F_law_take, len_ref q5]
          refine take_ok F_law_take (n := k + 69 - 10 * i - 2) (b5.mono (by omega)) (by omega) (by omega) fun y m6 y0 y1 k6 b6 => ?_
          have q6 := k6 _ _ qb q5
          rw [x_ref q6]
          obtain ⟨x, hx, _, hxm⟩ := atI_some (xs := kn.map D.int) y0 (by rw [List.length_map]; exact y1)
          obtain ⟨v, hv, rfl⟩ := List.mem_map.mp hxm
          exact ⟨_, hx, hn _ _ ⟨v, rfl, q6, k5.trans k6, b6⟩⟩
        clear q5 k5 b5
        rintro _ m6 ⟨v, rfl, q6, k6, b6⟩
        refine seq_to (fun r1 m7 => ∃ (v : Int) (x9 : Option Mn.D), r1 = E mo ls zs (some (.ref q)) (some (.int (i : Nat))) (some (.int (j : Nat))) (some (.int v)) x9 x10 ∧ m7 q = some (.lst (kn.map D.int)) ∧ Keep b m m7 ∧ Bag m7 b (k + 69 - 10 * i - 5)) (fun nx hn => ?_) ?_
        · simp [-Bool.exists_bool, E, F_law_take]
          refine take_ok F_law_take (n := k + 69 - 10 * i - 3) (b6.mono (by omega)) (by omega) (by omega) fun y m7 y0 y1 k7 b7 => ?_
          have q7 := k7 _ _ qb q6
          by_cases hy : y = 0
          · simp [-Bool.exists_bool, hy, F_law_take]
            refine take_ok F_law_take (n := k + 69 - 10 * i - 4) (b7.mono (by omega)) (by omega) (by omega) fun u m8 u0 u1 k8 b8 => ?_
            obtain ⟨g, rfl⟩ := Int.eq_ofNat_of_zero_le u0
            have gl : g < zs.length := by omega
            have hg : zs[g]? = some zs[g] := List.getElem?_eq_getElem gl
            generalize zs[g] = z2 at hg
            obtain ⟨zb1, zb2⟩ := hz.a z2 (List.mem_of_getElem? hg)
            refine ⟨_, at_mapD hg, ?_⟩
            show ixW (zoneD z2) (.int 1) m8 _
            rw [zo]
            simp [-Bool.exists_bool, F_law_take]
            refine take_ok F_law_take (n := k + 69 - 10 * i - 5) (b8.mono (by omega)) (by omega) (by omega) fun t m9 t0 t1 k9 b9 => ?_
            obtain ⟨x, hx, _, hxm⟩ := atI_some (xs := z2.2.map D.int) t0 (by rw [List.length_map]; exact t1)
            obtain ⟨v2, hv, rfl⟩ := List.mem_map.mp hxm
            exact ⟨_, hx, hn _ _ ⟨v2, _, rfl, k9 _ _ qb (k8 _ _ qb q7), ((k6.trans k7).trans k8).trans k9, b9⟩⟩
          · simp [-Bool.exists_bool, hy]
            exact hn _ _ ⟨v, x9, rfl, q7, k6.trans k7, b7.mono (by omega)⟩
        clear q6 k6 b6
        rintro _ m7 ⟨v, y9, rfl, q7, k7, b7⟩
        rw [w_scons]
        refine ife_shut fun B hB => ?_
        by_cases h30 : ((z.2.length : Nat) : Int) < 30
        · simp [-Bool.exists_bool, E]
          refine ⟨_, at_mapD hj, ?_⟩
          rw [zo]
          simp [-Bool.exists_bool, h30]
          subst hB
          refine seq_to (fun r1 m8 => ∃ ns : List Int, r1 = E mo ls zs (some (.ref q)) (some (.int (i : Nat))) (some (.int (j : Nat))) (some (.int v)) y9 (some (.tup (ns.map D.int))) ∧ 1 ≤ ns.length ∧ ns.length ≤ 30 ∧ m8 q = some (.lst (kn.map D.int)) ∧ Keep b m m8 ∧ Bag m8 b (k + 69 - 10 * i - 5)) (fun nx hn => ?_) ?_
          · simp [-Bool.exists_bool, E]
            refine ⟨_, at_mapD hj, ?_⟩
            rw [zo]
            simp [-Bool.exists_bool]
            refine ⟨by omega, ?_⟩
            refine sortI (ns := z.2 ++ [v]) (by simp [itsOf]) (by simp; omega) fun ms p hp mem le => ?_
            rw [tuple_ref up_at]
            rw [List.length_append, List.length_singleton] at le
            refine hn _ _ ⟨ms, rfl, ?_, by omega, get_new hp q7, k7.trans (Ext.new hp).keep, b7.new hp⟩
            have := (mem v).mpr (by simp)
            exact List.length_pos_of_mem this
          clear q7 k7 b7
          rintro _ m8 ⟨ns, rfl, n1, n2, q8, k8, b8⟩
          have hpm := put_map (f := zoneD) (xs := zs) (i := j) (y := (z.1, ns)) jl
          have hlen := congrArg List.length hpm
          rw [List.length_map, putL_len jl, List.length_append, List.length_cons] at hlen
          simp [-Bool.exists_bool, E]
          refine ⟨_, at_mapD hj, ?_⟩
          rw [zn]
          refine ⟨by omega, by omega, ?_⟩
          rw [show D.tup [.str z.1, .tup (ns.map D.int)] = zoneD (z.1, ns) from rfl, hpm]
          exact hn2 _ _ ⟨putL zs j (z.1, ns), _, _, _, _, _, rfl, hz.put hj n1 n2, q8, k8, b8.mono (by omega)⟩
        · simp [-Bool.exists_bool, E]
          refine ⟨_, at_mapD hj, ?_⟩
          rw [zo]
          simp [-Bool.exists_bool, h30]
          exact hn2 _ _ ⟨zs, _, _, _, _, _, rfl, hz, q7, k7, b7.mono (by omega)⟩
      · simp [-Bool.exists_bool, E]
        rw [if_neg (show ¬ 0 < zs.length by omega)]
        exact hn2 _ _ ⟨zs, _, _, _, _, _, rfl, hz, q4, k4, b4.mono (by omega)⟩
    · obtain ⟨zs, x6, x7, x8, x9, x10, rfl, hz, q4, k4, b4⟩ := hI
      rw [Nat.zero_add, rangeD_length] at b4
      exact ⟨trivial, hn _ _ ⟨zs, _, _, _, _, _, rfl, hz, k4, b4.mono (by omega)⟩⟩
  rintro _ m4 ⟨zs, x6, x7, x8, x9, x10, rfl, hz, k4, b4⟩
  simp [-Bool.exists_bool, E]
  exact post ⟨mo, ls, zs⟩ m4 hl hz k4 b4
end Mn.K04
end

section
set_option Elab.async false
set_option linter.all false
set_option maxRecDepth 100000
set_option maxHeartbeats 4000000
set_option pp.maxSteps 600
namespace Mn.K04
open Mn
variable {n : Nat} {m m2 : Hm} {P : PD} {X : Nat → Hm → Prop}
theorem wrF_let {p : PlanT} (h : LetBy p) (hz : ZnOk p.zones) : wrF p = .non := by
  have w1 : dupF [] (p.devs.map Dv.a) = .non := by
    have key : ∀ (r ah : List Int), (ah ++ r).Nodup → dupF ah r = .non := by
      intro r
      induction r with
      | nil => exact fun _ _ => rfl
      | cons a r ih =>
        intro ah nd
        rw [dupF_cons, if_neg, ih]
        · simpa using nd
        · intro ha
          rw [List.nodup_append] at nd
          exact nd.2.2 a ha a List.mem_cons_self rfl
    exact key _ [] (by simpa using h.nd)
  have w2 : crF p.most 0 p.loops = .non := by
    have k1 : ∀ (r : List Nat) (li j : Nat), (∀ c ∈ r, (c : Int) ≤ p.most) → cr1 p.most li j r = .non := by
      intro r
      induction r with
      | nil => exact fun _ _ _ => rfl
      | cons c r ih =>
        intro li j hc
        have := hc c List.mem_cons_self
        rw [cr1_cons, if_neg (by omega), ih li (j + 1) fun x hx => hc x (List.mem_cons_of_mem _ hx)]
    have k2 : ∀ (r : List (List Pl)) (i : Nat), (∀ l ∈ r, ∀ c ∈ partsN l, (c : Int) ≤ p.most) → crF p.most i r = .non := by
      intro r
      induction r with
      | nil => exact fun _ _ => rfl
      | cons l r ih =>
        intro i hr
        rw [crF_cons, k1 _ _ _ (hr l List.mem_cons_self), ih (i + 1) fun x hx => hr x (List.mem_cons_of_mem _ hx)]
        rfl
    exact k2 _ _ h.pt
  have w3 : stF (toldBy p.devs) p.zones = none := by
    have k1 : ∀ (r : List Int) (nm : List Nat), (∀ a ∈ r, a ∈ toldBy p.devs) → st1 (toldBy p.devs) nm r = none := by
      intro r
      induction r with
      | nil => exact fun _ _ => rfl
      | cons a r ih =>
        intro nm hr
        rw [st1_cons, if_pos (hr a List.mem_cons_self), ih nm fun x hx => hr x (List.mem_cons_of_mem _ hx)]
    have k2 : ∀ (r : List Zn), (∀ z ∈ r, ∀ a ∈ z.2, a ∈ toldBy p.devs) → stF (toldBy p.devs) r = none := by
      intro r
      induction r with
      | nil => exact fun _ => rfl
      | cons z r ih =>
        intro hr
        rw [stF_cons, k1 _ _ (hr z List.mem_cons_self), ih fun x hx => hr x (List.mem_cons_of_mem _ hx)]
        rfl
    exact k2 _ fun z hz => (h.zn z hz).2.2.2
  have w4 : shF [] p.zones = none := by
    have k1 : ∀ (r ah : List Int) (nm : List Nat), (∀ a ∈ r, a ∉ ah) → sh1 ah nm r = none := by
      intro r
      induction r with
      | nil => exact fun _ _ _ => rfl
      | cons a r ih =>
        intro ah nm hr
        rw [sh1_cons, if_neg (hr a List.mem_cons_self), ih ah nm fun x hx => hr x (List.mem_cons_of_mem _ hx)]
    have k2 : ∀ (r : List Zn) (ah : List Int), (ah ++ r.flatMap Prod.snd).Nodup → shF ah r = none := by
      intro r
      induction r with
      | nil => exact fun _ _ => rfl
      | cons z r ih =>
        intro ah nd
        rw [List.flatMap_cons, ← List.append_assoc] at nd
        rw [shF_cons, k1, ih _ nd]
        · rfl
        · intro a ha hh
          have := (List.nodup_append.mp (List.nodup_append.mp nd).1).2.2 a hh a ha
          exact this rfl
    exact k2 _ [] (by simpa using h.zdis)
  unfold wrF zoF
  rw [w1, w2, w3, w4]
  rfl
theorem LetBy.lpOk {p : PlanT} (h : LetBy p) : LpOk p.loops := ⟨h.l1, fun l hl => ⟨(h.lp l hl).2.1, (h.lp l hl).2.2⟩, h.n0⟩
theorem LetBy.zsOk {p : PlanT} (h : LetBy p) : ZsOk p.zones := ⟨h.z1, fun z hz => by
  obtain ⟨_, h2, h3, h4⟩ := h.zn z hz
  have tl := told_len p.devs
  have n1 := h.n1
  exact ⟨h3, Nat.le_trans (nodup_sub (pw_nd h2) h4) (Nat.le_trans tl n1)⟩, fun z hz => nameOk_pln (h.zn z hz).1⟩
/-- what is told is flat -/
theorem wrF_flat {p : PlanT} (hz : ZnOk p.zones) : D.flat 60 (wrF p) = true := by
  have f0 : D.flat 60 .non = true := by simp [D.flat]
  have fo : ∀ x y, D.flat 60 x = true → D.flat 60 y = true → D.flat 60 (orD x y) = true := fun x y hx hy => by
    cases x <;> first | exact hy | exact hx
  have f1 : ∀ r ah, D.flat 60 (dupF ah r) = true := fun r => by
    induction r with
    | nil => exact fun _ => f0
    | cons a r ih =>
      intro ah
      rw [dupF_cons]
      split
      · simp [D.flat, D.flats, tTwice, pln]
      · exact ih _
  have f2 : ∀ r li j, D.flat 60 (cr1 p.most li j r) = true := fun r => by
    induction r with
    | nil => exact fun _ _ => f0
    | cons a r ih =>
      intro li j
      rw [cr1_cons]
      split
      · simp [D.flat, D.flats, tCrowd, pln]
      · exact ih _ _
  have f3 : ∀ r i, D.flat 60 (crF p.most i r) = true := fun r => by
    induction r with
    | nil => exact fun _ => f0
    | cons a r ih => exact fun i => fo _ _ (f2 _ _ _) (ih _)
  have g1 : ∀ (t : List Nat) (o : Option (List Nat × Int)), pln t = true → (∀ v, o = some v → pln v.1 = true) → D.flat 60 (opD t o) = true := fun t o ht ho => by
    cases o with
    | none => exact f0
    | some v =>
      have h1 := ht
      have h2 := ho v rfl
      simp [pln] at h1 h2
      simp [opD, D.flat, D.flats, pln]
      exact ⟨h1, h2⟩
  have s1 : ∀ (r : List Int) (nm : List Nat) v, st1 (toldBy p.devs) nm r = some v → v.1 = nm := fun r => by
    induction r with
    | nil => exact fun nm v h => nomatch h
    | cons a r ih =>
      intro nm v h
      rw [st1_cons] at h
      split at h
      · exact ih nm v h
      · cases h; rfl
  have s2 : ∀ (r : List Zn) v, (∀ z ∈ r, pln z.1 = true) → stF (toldBy p.devs) r = some v → pln v.1 = true := fun r => by
    induction r with
    | nil => exact fun v _ h => nomatch h
    | cons z r ih =>
      intro v hr h
      rw [stF_cons] at h
      cases e : st1 (toldBy p.devs) z.1 z.2 with
      | none => rw [e] at h; exact ih v (fun x hx => hr x (List.mem_cons_of_mem _ hx)) h
      | some w =>
        rw [e] at h
        cases h
        rw [s1 _ _ _ e]
        exact hr z List.mem_cons_self
  have t1 : ∀ (r ah : List Int) (nm : List Nat) v, sh1 ah nm r = some v → v.1 = nm := fun r => by
    induction r with
    | nil => exact fun ah nm v h => nomatch h
    | cons a r ih =>
      intro ah nm v h
      rw [sh1_cons] at h
      split at h
      · cases h; rfl
      · exact ih ah nm v h
  have t2 : ∀ (r : List Zn) ah v, (∀ z ∈ r, pln z.1 = true) → shF ah r = some v → pln v.1 = true := fun r => by
    induction r with
    | nil => exact fun ah v _ h => nomatch h
    | cons z r ih =>
      intro ah v hr h
      rw [shF_cons] at h
      cases e : sh1 ah z.1 z.2 with
      | none => rw [e] at h; exact ih _ v (fun x hx => hr x (List.mem_cons_of_mem _ hx)) h
      | some w =>
        rw [e] at h
        cases h
        rw [t1 _ _ _ _ e]
        exact hr z List.mem_cons_self
  exact fo _ _ (f1 _ _) (fo _ _ (f3 _ _) (fo _ _ (fo _ _ (g1 _ _ (by decide) fun v h => s2 _ v hz.n h) (g1 _ _ (by decide) fun v h => t2 _ _ v hz.n h)) f0))
theorem law_ok : ∀ ns : List Int, ns.length ≤ 63 → callN T 60 0 4 [.lst (ns.map D.int)] (fun _ => none) (fun d _ => d = .bl true) (fun _ _ => False) := by
  intro ns hns
  generalize (fun _ => none : Hm) = m0
  rw [call_iff F_law]
  refine ⟨rfl, ?_⟩
  have hSZ : (100000 : Nat) < SZ := by decide
  unfold f_law start
  simp only [List.map, List.length, List.replicate, List.cons_append, List.nil_append]
  refine seq_to (fun r1 m1 => True) (fun nx hn => ?_) (fun r1 m1 _ => by simp [-Bool.exists_bool])
  refine fr_shut fun B hB => ?_
  simp [-Bool.exists_bool]
  refine ⟨⟨by split <;> split <;> omega, by split <;> split <;> omega⟩, ?_⟩
  refine loop_mem (fun r m1 => ∃ x1 x2 x3, r = [some (.lst (ns.map D.int)), x1, x2, x3]) ⟨_, _, _, rfl⟩ (fun x r m1 nx2 hx hI hn2 => ?_) fun r m1 _ => ⟨trivial, hn _ _ trivial⟩
  obtain ⟨x1, x2, x3, rfl⟩ := hI
  obtain ⟨i, hi⟩ := List.mem_iff_getElem?.mp hx
  obtain ⟨rfl, hi2⟩ := range_get hi
  have hi9 : (i : Int) < 9 := by
    have : (if (1 : Int) < (if (ns.length : Int) < 8 then (ns.length : Int) else 8) then (if (ns.length : Int) < 8 then (ns.length : Int) else 8) else 1) ≤ 8 := by split <;> split <;> omega
    omega
  refine ⟨trivial, ?_⟩
  subst hB
  rw [Int.zero_add]
  let E (b : Nat) (x3 : Option D) : Mn.Env := [some (.lst (ns.map D.int)), some (.int ((i : Nat) : Int)), some (.ref b), x3]
  refine seq_to (fun r1 m2 => ∃ b, r1 = E b x3 ∧ Bag m2 b 1000000) (fun nx hn => ?_) ?_
  · simp [-Bool.exists_bool, F_law_bag]
    exact bag_ok F_law_bag (by omega) (by omega) fun p m2 _ _ hb => hn _ _ ⟨p, rfl, hb⟩
  rintro _ m1 ⟨b, rfl, b1⟩
  refine seq_to (fun r1 m2 => ∃ p : PlanT, r1 = E b (some p.D) ∧ LetBy p ∧ Bag m2 b 990000) (fun nx hn => ?_) ?_
  · simp [-Bool.exists_bool, E, F_law_plan]
    exact s_plan (n := 55) (k := 990000) (by decide) (by decide) (by decide) (by decide) (b1.mono (by omega)) fun p m2 hp _ _ k2 b2 => hn _ _ ⟨p, rfl, hp, b2⟩
  clear b1
  rintro _ m1 ⟨p, rfl, hp, b1⟩
  refine seq_to (fun r1 m2 => r1 = E b (some p.D) ∧ Bag m2 b 990000) (fun nx hn => ?_) ?_
  · simp [-Bool.exists_bool, E, F_wrong]
    refine s_wrong (n := 56) hp.shp hp.zsOk.ok fun m2 e2 => ?_
    rw [wrF_let hp hp.zsOk.ok]
    simp [-Bool.exists_bool]
    exact hn _ _ ⟨rfl, b1.ext e2⟩
  clear b1
  rintro _ m1 ⟨rfl, b1⟩
  refine seq_to (fun r1 m2 => ∃ p2 : PlanT, r1 = E b (some p2.D) ∧ LpOk p2.loops ∧ ZsOk p2.zones) (fun nx hn => ?_) ?_
  · simp [-Bool.exists_bool, E, F_law_spoilt]
    exact s_law_spoilt (n := 56) (k := 900000) hp.lpOk hp.zsOk (b1.mono (by omega)) fun p2 m2 h1 h2 k2 b2 => hn _ _ ⟨p2, rfl, h1, h2⟩
  rintro _ m2 ⟨p2, rfl, hl, hz⟩
  simp [-Bool.exists_bool, E, F_wrong, F_law_wrong]
  refine s_wrong (n := 56) ⟨hl.l1, hl.lp⟩ hz.ok fun m3 e3 => ?_
  refine s_law_wrong (n := 57) ⟨hl.l1, hl.lp⟩ hz.ok fun m4 e4 => ?_
  have hf := wrF_flat hz.ok
  rw [ne_eq_]
  refine eq_flat hf hf ?_
  rw [eqv_refl hf]
  simp [-Bool.exists_bool]
  exact hn2 _ _ ⟨_, _, _, rfl⟩
end Mn.K04
end

open PySem PySem.W PySem.Calls PyProof.Rows in
set_option maxRecDepth 100000 in
set_option maxHeartbeats 0 in
theorem PySem.Challenge.cw_warnloop_k04_wrong_plans_holds : PySem.Challenge.rw_warnloop_k04_wrong_plans.Holds := by
  w_on; o_law
  refine HandSHeadRun.head_any (q := view Mn.K04.R.prog [20])
    (H := Mn.K04.hk) (ob := Mn.K04.ob) (M := 30000) (kwd := [])
    (loose := Mn.K04.loose) (d := HandSHeadRun.topDef Mn.K04.R.prog 20)
    Mn.K04.ob_eq (by kernel_rfl) (fun s => by kernel_rfl)
    Mn.K04.run (by kernel_rfl) (by kernel_rfl) (by kernel_rfl) (by rfl)
    (by first | assumption | decide +kernel) (by decide +kernel)
    ⟨rfl, rfl, rfl, rfl, rfl, by decide +kernel⟩ ?hw ?hc
  case hw => w_witness2
  case hc => exact Mn.end_of Mn.K04.pk 60 6 Mn.K04.e_law rfl (by kernel_rfl)
              ⟨rfl, by decide, by decide⟩ (by simp [Mn.K04.pk]) rfl (by kernel_rfl) rfl (by kernel_rfl)
              Mn.K04.pk_ok Mn.K04.bnd Mn.K04.law_ok
