import PyProof.Rows.All
import HandS.TupAny
import HandS.SetFor
import HandS.Strs
import HandS.SortInts
import HandS.DictComp
import HandS.Style
import HandS.Iter
import HandS.Zip
import HandS.Walk
import KE.GoesEnum
import Wide.All
import OpenK.AllK
import Wide.FinOn
import HandS.ForMost
import HandS.Deep
import HandS.Exc
import HandS.TryOnly
import HandS.ExcOwn
import HandS.WordsExc
import HandS.Conv
import HandS.IsInst
import PySem.Challenge.RW_leftwithout_k15_whole_together_and_never
import HandS.TupSets
import KE.KSortTupAny
import HandS.NamedTupSort
import HandS.ExcIs
import HandS.Flow
set_option Elab.async false
set_option linter.all false
set_option maxRecDepth 100000
set_option maxHeartbeats 1000000
/-! What the hand layer lacks: enumerate(tuple). -/
namespace Zk
open PySem PySem.Spec PyProof.Rows L2
section
variable {pg : Program} {wo : World} {Ar : Around} {Ex : Value → Shared → Prop} {sh : Shared}
set_option maxHeartbeats 1000000 in
theorem enumNew {v : Value} {ob : Obj} {Hv : Heap → Prop} (Bg : Begins v ob Hv) :
    Meets (Builtin.«enumerate.__new__» ⟨[.type "enumerate", v], []⟩) fun _ R s =>
      Hv s.heap ∧ R (.ok (.ret (.ref (s.heap.push ob).objs.size)))
        { s with heap := (s.heap.push ob).push { cls := .type "enumerate", data := .fields #[.none, .bool false, .ref s.heap.objs.size, rawInt 0, .none, .none] } } :=
  .of_wp fun pg2 wo2 Ar2 R sh2 both => by
    obtain ⟨hp, gs, dr, tk, os⟩ := sh2
    obtain ⟨hv, hR⟩ := both
    have hsb := sub_enumerate
    have starts : ∀ {A' : Around} {E' Q' : Value → Shared → Prop}, Q' (.ref hp.objs.size) ⟨hp.push ob, gs, dr, tk, os⟩ → wpAny (model pg2 wo2) A' (pyIter v) Q' E' ⟨hp, gs, dr, tk, os⟩ :=
      fun q => Bg.iter pg2 wo2 _ _ ⟨hp, gs, dr, tk, os⟩ _ hv q
    wp_walk using starts
    refine wpAny_stack_any fun stk => wpAny_pure ?_
    split
    next c _ _ _ _ _ =>
      cases (c == Value.type "enumerate") <;> (wp_walk using starts; exact ⟨_, rfl, hR⟩)
    all_goals (wp_walk using starts; exact ⟨_, rfl, hR⟩)
theorem callEnumT {t : Addr} {its : Array Value} {Q : Value → Shared → Prop} (ht : sh.heap.IsTuple t its)
    (hq : ∀ h', IsEnum h' (sh.heap.objs.size + 1) sh.heap.objs.size 0 .none → h'.IsTupleIter sh.heap.objs.size t 0 → (∀ b ob, sh.heap.get? b = some ob → h'.get? b = some ob) → Q (.ref (sh.heap.objs.size + 1)) { sh with heap := h' }) :
    wpAny (model pg wo) Ar (call (.type "enumerate") [.ref t]) Q Ex sh := by
  refine callType_new F.called_enumerate (by decide) (F.typeCall_enumerate_1 _) (F.newCall_enumerate_1 _) (fun o => F.args_object_init_2 o _) F.entry_enumerate_new (enumNew (begins_tuple t its)) ⟨ht, ?_⟩
  let itO : Obj := { cls := .type "tuple_iterator", data := .fields #[.ref t, .int 0 0] }
  have sz : (sh.heap.push itO).objs.size = sh.heap.objs.size + 1 := Heap.size_push ..
  show _ ∧ _
  rw [sz]
  let enO : Obj := { cls := .type "enumerate", data := .fields #[.none, .bool false, .ref sh.heap.objs.size, rawInt 0, .none, .none] }
  have en : IsEnum ((sh.heap.push itO).push enO) (sh.heap.objs.size + 1) sh.heap.objs.size 0 .none := by
    have g := Heap.get?_push_size (sh.heap.push itO) (o := enO) rfl
    rw [sz] at g
    exact g
  exact ⟨⟨_, en, rfl⟩, hq _ en ⟨itO, Heap.get?_push_of_some _ (Heap.get?_push_size _ rfl), rfl, rfl⟩ fun b ob x => Heap.get?_push_of_some _ (Heap.get?_push_of_some _ x)⟩
end
/-- the tuple at a, each item in a new pair -/
def IteT (K : PySem.W.Frag) (a : Addr) : It where
  go := fun i H => ∃ (xs : List V) (x : V), SqT K H a xs ∧ xs[i]? = some x
  yld := fun i H v H' => ∃ T x, v = .ref T ∧ H T = none ∧ H' = upd H T (.tup [.int (i : Nat), x]) ∧ ∀ xs, SqT K H a xs → xs[i]? = some x
  stop := fun i H => ∃ xs : List V, SqT K H a xs ∧ xs.length = i
theorem turnEnumT {pg : Program} {wo : World} {K : PySem.W.Frag} {elts : List Expr} {kk : Nat} {tpos : Pos} (a e j : Addr) :
    Turn pg wo K (.Tuple elts kk tpos) (IteT K a) [e, j] e (fun i h => (∃ old, IsEnum h e j ((i : Nat) : Int) old) ∧ h.IsTupleIter j a i ∧ e ≠ j ∧ a ≠ j ∧ e ≠ a) where
  mem := by simp
  obj := fun i h st b hb => by
    obtain ⟨⟨old, he⟩, ⟨o, ho, hc, hd⟩, _⟩ := st
    rcases (by simpa using hb : b = e ∨ b = j) with z | z
    · subst z
      exact ⟨_, he, fun v q => nomatch q⟩
    · subst z
      refine ⟨o, ho, fun v q => ?_⟩
      rw [hd] at q
      cases q
  keep := fun i h h' st k => by
    obtain ⟨⟨old, he⟩, hi, n⟩ := st
    exact ⟨⟨old, k e (by simp) _ he⟩, hi.at fun o q => k j (by simp) o q, n⟩
  item := by
    intro X hP hw hK hc i pins s σ H E I hf st hg
    subst hP hw hK
    obtain ⟨⟨old, he⟩, hit, n1, n2, n3⟩ := st
    obtain ⟨xs, x, hq, hx⟩ := hg
    obtain ⟨its, rv, pt, hz⟩ := I.tuple hq
    obtain ⟨u, hu, ru⟩ := rv.get hx
    have le : e < s.heap.objs.size := Heap.lt_size he
    have lj : j < s.heap.objs.size := by
      obtain ⟨_, q, _⟩ := hit
      exact Heap.lt_size q
    have hi : i < its.toArray.size := by
      rw [List.size_toArray]
      exact (List.getElem?_eq_some_iff.mp hu).1
    have Dr := Draws.tuple (prog := X.prog) (w := X.w) (A := X.A.in1) (I.ok.hd hc) j a n2 its.toArray
    refine wpAny_pyNext_enum_itemD Dr he ⟨hit, pt⟩ hi n1 (by simp [n1, n3]) fun y h' tk hy ho hst hT hsz hk => ?_
    have ey : y = u := by
      have hy' : its.toArray[i]? = some y := hy
      rw [List.getElem?_toArray, hu] at hy'
      exact (Option.some.inj hy').symm
    subst ey
    refine ⟨_, rfl, wpAny_letOwnedTupleGo_enum (s := { s with heap := h', toks := tk + 1 }) ho fun h2 he' sb => ?_⟩
    have hT2 := (sb.2 s.heap.objs.size (Nat.ne_of_gt le)).trans hT
    have okN : ObjOk X.prog X.w (upd H s.heap.objs.size (.tup [.int (i : Nat), x])) h2 s.heap.objs.size (.tup [.int (i : Nat), x]) :=
      ⟨by show 2 ≤ sizeLine; decide, [.int i tk, y], .cons ⟨_, rfl⟩ (.cons ru .nil), ⟨_, hT2, rfl, _, rfl⟩⟩
    have I2 : Inv X pins σ (upd H s.heap.objs.size (.tup [.int (i : Nat), x])) { s with heap := h2, toks := tk + 1 } :=
      I.turnedNew (ch := [e, j]) (fun b ob hb q => by
        have b1 : b ≠ e := fun z => hb (by simp [z])
        have b2 : b ≠ j := fun z => hb (by simp [z])
        exact (sb.2 b b1).trans (hk b ob b1 b2 q)) hf (Nat.le_refl _) okN
    refine ⟨.ref s.heap.objs.size, _, I2, rfl, ⟨_, x, rfl, I.hok.fresh (Nat.le_refl _), rfl, fun ys hys => by rw [I.tuple_inj hys hq]; exact hx⟩, ⟨⟨y, ?_⟩, hst.1.at fun o q => (sb.2 j (Ne.symm n1)).trans q, n1, n2, n3⟩, fun b hb => ?_⟩
    · have e1 : ((i + 1 : Nat) : Int) = (i : Int) + 1 := by omega
      rw [e1]
      exact he'
    · have lb : b < s.heap.objs.size := by
        rcases (by simpa using hb : b = e ∨ b = j) with z | z
        · exact z ▸ le
        · exact z ▸ lj
      rw [upd_ne (Nat.ne_of_lt lb)]
      exact (hf b hb).1
  done := by
    intro X hP hw hK hc i pins s σ H E I hf st hg
    subst hP hw hK
    obtain ⟨⟨old, he⟩, hit, n1, n2, n3⟩ := st
    obtain ⟨xs, hq, hx⟩ := hg
    obtain ⟨its, rv, pt, hz⟩ := I.tuple hq
    obtain ⟨f0, f1, f2, f3, f4, f5⟩ := hf j (by simp)
    have hl := rv.length
    have Dr := Draws.tuple (prog := X.prog) (w := X.w) (A := X.A.in1) (I.ok.hd hc) j a n2 its.toArray
    have sz : its.toArray.size = i := by
      rw [List.size_toArray, ← hl]
      exact hx
    refine wpAny_pyNext_enum_endD (n := its.toArray.size) Dr he ⟨by rw [sz]; exact hit, pt⟩ fun h' eb => ⟨rfl, ?_⟩
    exact I.turned (t' := s.toks) (fun b o hb q => eb b o hb q) f0 f1 f3 f4 f5
  self := fun A i s Q E st h => by
    obtain ⟨⟨_, he⟩, _⟩ := st
    exact wpAny_pyIter_enum he h
def iEnumT (K : PySem.W.Frag) (ta : TA) : TI := fun σ H R => ta σ H fun vs H1 => ∃ a xs, vs = [.ref a] ∧ SqT K H1 a xs ∧ R (IteT K a) H1
theorem piEnumT {X : Cx} {e : Expr} {ta : TA} {p pos tpos : Pos} {elts : List Expr} {kk : Nat} (hg : Gl X "enumerate") (hm : X.mg "enumerate" = none) (ha : PA X [e] ta) (hs : starEach [e] X.env = [(false, eval e X.env)] := by rfl) :
    PI X (.Tuple elts kk tpos) (.Call (.Name "enumerate" p) [e] [] pos) (iEnumT X.K ta) := by
  refine ⟨fun pins s σ H R I h => ?_⟩
  refine Call_ (ld_blt I hg hm boot_enumerate (PyProof.Rows.callWith_type1 (thn (ha.run pos pins s σ H _ I h) fun us s1 ⟨vs, H1, I1, r1, q1⟩ => ?_) hs rfl))
  obtain ⟨a, xs, rfl, hq, q⟩ := q1
  have one : us = [Value.ref a] := by
    cases r1 with
    | cons r rr =>
      cases rr
      cases r
      rfl
  subst one
  obtain ⟨its, rv, pt, hz⟩ := I1.tuple hq
  have la : a < s1.heap.objs.size := by
    obtain ⟨o, ho, _⟩ := id pt
    exact Heap.lt_size ho
  refine callEnumT (show s1.heap.IsTuple a its.toArray from pt) fun h' he hit hk => wpAny_pyIter_enum he ?_
  have fr : ∀ b ∈ [s1.heap.objs.size + 1, s1.heap.objs.size], FpOk X pins H1 b := fun b hb => by
    have le : s1.heap.objs.size ≤ b := by
      rcases (by simpa using hb : b = s1.heap.objs.size + 1 ∨ b = s1.heap.objs.size) with z | z
      · exact z ▸ Nat.le_succ _
      · exact z ▸ Nat.le_refl _
    exact I1.fpOk le (I1.hok.fresh le)
  exact ⟨s1.heap.objs.size + 1, [s1.heap.objs.size + 1, s1.heap.objs.size], _, _, H1, rfl, I1.kept (t' := s1.toks) hk, turnEnumT a (s1.heap.objs.size + 1) s1.heap.objs.size, ⟨⟨.none, he⟩, hit, Nat.succ_ne_self _, Nat.ne_of_lt la, Nat.ne_of_gt (Nat.lt_succ_of_lt la)⟩, fr, q⟩
theorem walkEnumT {K : PySem.W.Frag} {a : Addr} {xs : List V} : Walk (IteT K a) xs.length (fun H => SqT K H a xs) (YPair (fun i => some (.int (i : Nat))) (fun i => xs[i]?)) := by
  refine ⟨fun i _ hi q => ⟨xs, xs[i], q, by simp [hi]⟩, fun _ q => ⟨xs, q, rfl⟩, fun i H v H' _ q y => ?_⟩
  obtain ⟨T, x, h1, h2, h3, h4⟩ := y
  exact ⟨T, .int (i : Nat), x, h1, h2, h3, rfl, h4 xs q⟩
end Zk
set_option maxHeartbeats 3200000
/-! What the hand layer lacks: set(list) whose entries are known, slices that go back. -/
namespace Zk
open PySem PySem.Spec PyProof.Rows L2
section
variable {P : Program} {w : World} {A : Around} {E : Value → Shared → Prop} {s : Shared}
/-- an empty set -/
abbrev setOb (w : World) : Obj := { cls := .type "set", dict := none, data := .set #[] 0 (.fresh 0 0 (!w.params.followText "set-order")) }
theorem callSetList {l : Addr} {xs : Array Value} (ns : List Int) {Q : Value → Shared → Prop} (hh : A.handled = none) (hl : s.heap.IsList l xs) (hx : IntsAre xs.toList ns) (few : ns.length + 1 < scanBound)
    (fin : ∀ (h' : Heap) (tk c : Nat), SetR w h' s.heap.objs.size (fun j => decide (j ∈ ns)) c → c ≤ ns.length → (∀ b o, s.heap.get? b = some o → h'.get? b = some o) → Q (.ref s.heap.objs.size) { s with heap := h', toks := tk }) :
    wpAny (model P w) A (call (.type "set") [.ref l]) Q E s := by
  have sz : xs.size = ns.length := by
    rw [← Array.length_toList]
    exact IntsAre.length hx
  have hmade := F.called_set.made
  have hsub := F.called_set.sub
  obtain ⟨cc, tl, hmro⟩ := F.called_set.mro
  refine wpAny_call (codeAny_of_tree ?_)
  show wpAny _ _ (callAny (.type "set") _) _ _ _
  refine wpAny_pure ⟨Code.quiet_builtin _ (by decide +kernel), codeAny_builtin F.entry_type_call ?_⟩
  rw [Around.under_plain (weight_type_call_type "set" [.ref l] []) rfl]
  have hct := F.typeCall_set_1 (.ref l)
  have h2 := F.called_set.canCreate
  have h1 := F.called_set.notType
  repeat (any_goals (first | assumption | wp_step))
  refine codeAny_mono (code_set_led1 (.ref l) (E := E) (Q₁ := fun ob s1 => ob = .ref s.heap.objs.size ∧ s1 = { s with heap := s.heap.push (setOb w) }) ⟨rfl, rfl⟩) fun r s1 hr => ?_
  match r, hr with
  | .error e, hr => exact hr
  | .ok (.ret ob), hr =>
    obtain ⟨rfl, rfl⟩ := hr
    have at0 : (s.heap.push (setOb w)).get? s.heap.objs.size = some (setOb w) := Heap.get?_push_size _ rfl
    have tyS : Shared.TypeIs { s with heap := s.heap.push (setOb w) } (.ref s.heap.objs.size) "set" := ⟨_, at0, rfl⟩
    have hbi := F.called_set.init.bind (.ref s.heap.objs.size)
    have hli := F.called_set.init.lookup
    repeat (any_goals (first | assumption | wp_step))
    refine codeAny_mono (codeAny_call_builtin (R := wants (fun r s2 => r = .none ∧ ∃ h' tk c, s2 = { s with heap := h', toks := tk } ∧ SetR w h' s.heap.objs.size (fun j => decide (j ∈ ns)) c ∧ c ≤ ns.length ∧ (∀ b o, s.heap.get? b = some o → h'.get? b = some o)) E)
      F.called_set.init.plain F.entry_set_init (check_set_init_1 tyS ?_)) fun r2 s2 hr2 => ?_
    · obtain ⟨⟨oc, od, oda, osl⟩, hol, hcl, nl, hdl⟩ := hl
      simp only at hcl hdl
      subst hcl hdl
      have atl : (s.heap.push (setOb w)).get? l = some { cls := .type "list", dict := od, data := .seq xs nl, slots := osl } := Heap.get?_push_of_some _ hol
      have sb1 := F.sub_list_set
      have sb2 := F.sub_list_frozenset
      have nd : (Value.type "list" == Value.type "dict") = false := by decide
      have isl : (s.heap.push (setOb w)).IsList l xs := ⟨_, atl, rfl, nl, rfl⟩
      unfold Builtin.«set.__init__» noKeywords Builtin.Frozenset.updateFrom
      generalize hIt : pyIter = It0
      wp_walk
      subst hIt
      refine wpAny_pyIter_list isl (wpAny_bind (wpAny_runValue ?_))
      have lS : l < s.heap.objs.size := Heap.lt_size hol
      have hh3 : A.in1.in1.in1.handled = none := by simp [hh]
      have szP : (s.heap.push (setOb w)).objs.size = s.heap.objs.size + 1 := Heap.size_push ..
      have neI : l ≠ (s.heap.push (setOb w)).objs.size := by
        rw [szP]
        exact Nat.ne_of_lt (Nat.lt_succ_of_lt lS)
      have notIn : s.heap.objs.size ∉ [(s.heap.push (setOb w)).objs.size, l] := by
        rw [szP]
        intro hm
        rcases List.mem_cons.mp hm with z | z
        · exact Nat.ne_of_lt (Nat.lt_succ_self _) z
        · exact Nat.ne_of_gt lS (List.mem_singleton.mp z)
      have vals : ∀ (i : Nat) (v : Value), xs[i]? = some v → ∃ k t, ns[i]? = some k ∧ v = .int k t := fun i v hv => by
        have hi : i < ns.length := sz ▸ (Array.getElem?_eq_some_iff.mp hv).1
        obtain ⟨t, e⟩ := PyProof.Rows.IntsAre.int_at hx i v (by rw [Array.getElem?_toList]; exact hv)
        refine ⟨ns[i], t, List.getElem?_eq_getElem hi, ?_⟩
        rw [e, List.getD_eq_getElem?_getD, List.getElem?_eq_getElem hi] <;> rfl
      refine set_update_ints ((Walks.list hh3 _ l neI xs).toS) s.heap.objs.size notIn ns sz few vals (xs.size - 0) 0 _ (Nat.sub_zero _ ▸ rfl) (Nat.zero_le _) ⟨⟨_, Heap.get?_push_size _ rfl, rfl, rfl⟩, isl.push _⟩ ?_ ?_
      · have at1 : ((s.heap.push (setOb w)).push { cls := .type "list_iterator", data := .fields #[.ref l, .int 0 0] }).get? s.heap.objs.size = some (setOb w) := Heap.get?_push_of_some _ at0
        exact ⟨0, Nat.le_refl 0, setR_new_at at1⟩
      · intro s3 c3 mv hc3 hS3
        obtain ⟨h3, g3, d3, t3, o3⟩ := s3
        have eg : g3 = s.gens := mv.gens
        have ed : d3 = s.drawn := mv.drawn
        have eo : o3 = s.os := mv.os
        subst eg ed eo
        show wpAny _ _ _ _ _ _
        refine wpAny_pure ?_
        show wpAny _ _ (ret Value.none) _ _ _
        refine wpAny_pure ⟨rfl, h3, t3, c3, rfl, hS3, sz ▸ hc3, fun b o e => ?_⟩
        have b0 : b < s.heap.objs.size := Heap.lt_size e
        refine mv.heap b o (fun hm => ?_) (Heap.get?_push_of_some _ (Heap.get?_push_of_some _ e))
        rw [szP] at hm
        rcases List.mem_cons.mp hm with z | z
        · exact Nat.ne_of_lt b0 z
        · exact Nat.ne_of_lt (Nat.lt_succ_of_lt b0) (List.mem_singleton.mp z)
    · match r2, hr2 with
      | .error e, hr2 => exact hr2
      | .ok (.ret r), hr2 =>
        obtain ⟨rfl, h', tk, c, rfl, hS', hc', hk'⟩ := hr2
        repeat (any_goals (first | assumption | wp_step))
        exact fin _ _ _ hS' hc' hk'
end
end Zk
set_option maxHeartbeats 800000
/-! t[:0:-1], t a tuple of one or more. -/
namespace Zk
open PySem PySem.Spec PyProof.Rows L2
section
variable {P : Program} {w : World} {A : Around} {E : Value → Shared → Prop} {s : Shared}
theorem filterMap_eq {α β : Type} {f g : α → Option β} : ∀ {l : List α}, (∀ x ∈ l, f x = g x) → l.filterMap f = l.filterMap g
  | [], _ => rfl
  | x :: l, h => by rw [List.filterMap_cons, List.filterMap_cons, h x (List.mem_cons_self ..), filterMap_eq fun y hy => h y (List.mem_cons_of_mem _ hy)]
theorem getAll {α : Type} : ∀ (l : List α), (List.range l.length).filterMap (fun k => l[k]?) = l
  | [] => rfl
  | a :: l => by
    rw [List.length_cons, List.range_succ_eq_map, List.filterMap_cons]
    show a :: _ = _
    rw [List.filterMap_map]
    congr 1
    exact getAll l
theorem back_pick (xs : List Value) (h : 1 ≤ xs.length) : ((List.range (xs.length - 1)).filterMap fun (k : Nat) => xs.toArray[(((xs.length : Int) - 1) + (k : Int) * (-1)).toNat]?) = (xs.drop 1).reverse := by
  have e : (xs.drop 1).reverse.length = xs.length - 1 := by rw [List.length_reverse, List.length_drop]
  rw [← getAll (xs.drop 1).reverse, e]
  refine filterMap_eq fun k hk => ?_
  rw [List.mem_range] at hk
  have e1 : (((xs.length : Int) - 1) + (k : Int) * (-1)).toNat = xs.length - 1 - k := by omega
  rw [e1, List.getElem?_toArray, List.getElem?_reverse (by rw [List.length_drop]; exact hk), List.getElem?_drop, List.length_drop]
  congr 1
  omega
theorem getBack {t sl : Addr} {xs : List Value} {tk tk2 : Tok} {Q : Value → Shared → Prop} (ht : IsTup s.heap t xs.toArray) (hs : s.heap.IsSliceOf sl .none (.int 0 tk) (.int (-1) tk2)) (h1 : 1 ≤ xs.length) (hz : xs.length ≤ sizeLine)
    (fin : Q (.ref s.heap.objs.size) { s with heap := s.heap.push { cls := .type "tuple", data := .seq (xs.drop 1).reverse.toArray } }) : wpAny (model P w) A (getItem (.ref t) (.ref sl)) Q E s := by
  have szs : xs.toArray.size = xs.length := List.size_toArray
  have okz : sizeOk (.seq (xs.drop 1).reverse.toArray) := by
    show (xs.drop 1).reverse.toArray.size ≤ sizeLine
    rw [List.size_toArray, List.length_reverse, List.length_drop]
    omega
  obtain ⟨os, hos, hcs, hds⟩ := id hs
  have tyS : s.TypeIs (.ref sl) "slice" := ⟨os, hos, hcs⟩
  unfold getItem
  try with_reducible refine wpAny_holding ?_
  first | refine wpAny_bind (wpAny_pure ?_) | skip
  refine wpAny_bind (wpAny_sequenceKey ht.typeIs (by decide) ?_)
  refine wpAny_bind (wpAny_callSpecial?_slot (name := Str.ofString "__getitem__") ht.typeIs PyProof.Rows.slot_tuple_getitem (wpAny_call_entry PyProof.Rows.slot_tuple_getitem ht.typeIs entry_tuple_getitem ?_ (args_tuple_getitem _ _)))
  show wpAny _ _ (Builtin.Tuple.tupleItemsOf (.ref t) >>= _) _ _ s
  refine wpAny_bind (tupleItemsOf_ ht (wpAny_bind (wpAny_typeOf tyS ?_)))
  rw [if_pos (by decide)]
  refine wpAny_bind ?_
  unfold Builtin.Slice.sliceApplied Builtin.Slice.sliceFields
  refine wpAny_bind (wpAny_bind (wpAny_field hos hds (x := .none) rfl (wpAny_bind (wpAny_field hos hds (x := .int 0 tk) rfl (wpAny_bind (wpAny_field hos hds (x := .int (-1) tk2) rfl (wpAny_pure ?_)))))))
  refine wpAny_bind (slicePart_int ?_)
  show wpAny _ _ (if ((-1 : Int) == 0) = true then _ else _) _ _ s
  rw [if_neg (by decide)]
  refine wpAny_bind (slicePart_none (wpAny_bind (slicePart_int (wpAny_bind (wpAny_pure ?_)))))
  have adj : Builtin.Slice.sliceAdjust none (some 0) (-1) (xs.toArray.size : Int) = ((xs.length : Int) - 1, 0) := by
    have n1 : (-1 : Int) < 0 := by omega
    unfold Builtin.Slice.sliceAdjust
    rw [szs]
    simp only [n1, if_true]
    refine Prod.ext rfl ?_
    show (if (0 : Int) < 0 then max (0 + (xs.length : Int)) (-1) else min 0 ((xs.length : Int) - 1)) = 0
    rw [if_neg (by omega)]
    omega
  show wpAny _ _ (match Builtin.Slice.sliceAdjust none (some 0) (-1) (xs.toArray.size : Int) with | (lo, hi) => pure (lo, (-1 : Int), Builtin.Slice.slicePlaces lo hi (-1))) _ _ s
  rw [adj]
  have pls : Builtin.Slice.slicePlaces ((xs.length : Int) - 1) 0 (-1) = xs.length - 1 := by
    unfold Builtin.Slice.slicePlaces
    have n1 : ¬ ((-1 : Int) > 0) := by omega
    simp only [n1, if_false]
    by_cases q : (xs.length : Int) - 1 > 0
    · rw [if_pos q]
      have : ((xs.length : Int) - 1 - 0 - 1) / (- -1) = (xs.length : Int) - 2 := by
        rw [Int.neg_neg, Int.ediv_one]
        omega
      rw [this]
      omega
    · rw [if_neg q]
      omega
  show wpAny _ _ (pure ((xs.length : Int) - 1, (-1 : Int), Builtin.Slice.slicePlaces ((xs.length : Int) - 1) 0 (-1))) _ _ s
  rw [pls]
  refine wpAny_pure ?_
  have no : ¬ ((((xs.length : Int) - 1 == 0) && ((-1 : Int) == 1) && (xs.length - 1 == xs.toArray.size)) = true) := by
    rw [Bool.and_assoc, show ((-1 : Int) == 1) = false from rfl, Bool.false_and, Bool.and_false]
    exact Bool.false_ne_true
  show wpAny _ _ (if (((xs.length : Int) - 1 == 0) && ((-1 : Int) == 1) && (xs.length - 1 == xs.toArray.size)) = true then _ else _) _ _ s
  rw [if_neg no, back_pick xs h1]
  first
    | exact wpAny_bind (m := Builtin.Tuple.tupleExact _) (wpAny_newObj_type (wpAny_pure ⟨_, rfl, wpAny_pure fin⟩) okz)
    | exact wpAny_bind (wpAny_bind (m := Builtin.Tuple.tupleExact _) (wpAny_newObj_type (wpAny_pure (wpAny_pure ⟨_, rfl, wpAny_pure fin⟩)) okz))
    | exact wpAny_bind (wpAny_bind (m := Builtin.Tuple.tupleExact _) (wpAny_newObj_type (wpAny_pure ⟨_, rfl, wpAny_pure fin⟩) okz))
end
section
variable {X : Cx}
def tBack (K : PySem.W.Frag) (te : TE) : TE := fun σ H Q => te σ H fun x H1 => ∃ a xs, x = .ref a ∧ SqT K H1 a xs ∧ 1 ≤ xs.length ∧ ∀ p, H1 p = none → Q (.ref p) (upd H1 p (.tup (xs.drop 1).reverse))
theorem peBack {e : Expr} {te : TE} {k j : Nat} {p0 p1 p2 p3 pos : Pos} (he : PE X e te) : PE X (.Subscript e (.Slice none (some (.Constant (.int 0) j p0)) (some (.UnaryOp .USub (.Constant (.int 1) k p1) p2)) p3) pos) (tBack X.K te) := by
  refine ⟨fun pins s σ H Q I h => ?_⟩
  refine Subscript_ (thn (he.run pins s σ H _ I h) fun v s1 ⟨x, H1, I1, r1, q1⟩ => ?_)
  obtain ⟨a, xs, ex, hx, h1, q⟩ := q1
  subst ex
  cases r1
  have hi : PO X (some (.Constant (.int 0) j p0)) (tPart (tC (.int 0))) := po_some pe_int
  have st : PO X (some (.UnaryOp .USub (.Constant (.int 1) k p1) p2)) (tPart (tUn (rU fun i => .int (-i)) (tC (.int 1)))) := po_some (pe_un un_neg pe_int)
  refine wpAny_Slice (thn (po_none.run pins s1 σ H1 (fun o H2 => o = none ∧ H2 = H1) I1 ⟨rfl, rfl⟩) fun vl s2 ⟨l, H2, I2, pl, el, e2⟩ => ?_)
  subst el e2
  refine thn (hi.run pins s2 σ H2 (fun o H3 => o = some 0 ∧ H3 = H2) I2 ⟨0, rfl, rfl, rfl⟩) fun vu s3 ⟨u, H3, I3, pu, eu, e3⟩ => ?_
  subst eu e3
  refine thn (st.run pins s3 σ H3 (fun o H4 => o = some (-1) ∧ H4 = H3) I3 ⟨1, rfl, -1, rfl, rfl, rfl⟩) fun vs s4 ⟨o, H4, I4, ps, eo, e4⟩ => ?_
  subst eo e4
  cases pl
  cases pu with
  | int i tu =>
  cases ps with
  | int i2 ts =>
  have I5 : Inv X pins σ H4 { s4 with heap := s4.heap.push { cls := .type "slice", data := .fields #[.none, .int 0 tu, .int (-1) ts] } } := I4.kept (t' := s4.toks) fun b ob q => Heap.get?_push_of_some _ q
  obtain ⟨its, r, ht, hz⟩ := I5.tuple hx
  have hlen := r.length
  show wpAny (model X.prog X.w) X.A (subscriptTail e (.Slice none (some (.Constant (.int 0) j p0)) (some (.UnaryOp .USub (.Constant (.int 1) k p1) p2)) p3) (.ref a) (.ref s4.heap.objs.size)) (EP X pins σ Q) X.xe { s4 with heap := s4.heap.push { cls := .type "slice", data := .fields #[.none, .int 0 tu, .int (-1) ts] } }
  refine tail_any (ops := [.ref a, .ref s4.heap.objs.size]) ht.typeIs (PyProof.Rows.slot_tuple_getitem.lookup) ?_ (by with_unfolding_all rfl)
  refine getBack ht (Heap.IsSliceOf.new _ _ _ _) (by rw [← hlen]; exact h1) (by rw [← hlen]; exact hz) ?_
  refine ⟨.ref _, _, I5.laid (t' := s4.toks) (o := .tup (xs.drop 1).reverse) (fun b ob q => Heap.get?_push_of_some _ q) (Nat.le_refl _) ?_, rfl, q _ (I5.hok.fresh (Nat.le_refl _))⟩
  refine ⟨by rw [List.length_reverse, List.length_drop]; exact Nat.le_trans (Nat.sub_le _ _) hz, _, (r.drop 1).reverse, ?_⟩
  exact ⟨_, Heap.get?_push_size _ rfl, rfl, _, rfl⟩
end
end Zk
set_option maxHeartbeats 4000000
/-! The data layer, 1: data, how the heap bears them, expressions and tests. -/
namespace Zb
open PySem PySem.Spec PyProof.Rows L2

/-- pure data -/
inductive D where
  | non
  | bl (b : Bool)
  | int (i : Int)
  | str (s : Str)
  | tup (ds : List D)
  | lst (ds : List D)
  | dic (ks : List Int) (ds : List D)

mutual
inductive R (K : PySem.W.Frag) (H : Hp) (N : Addr → Prop) : V → D → Prop
  | non : R K H N .non .non
  | bl (b : Bool) : R K H N (.bl b) (.bl b)
  | int (i : Int) : R K H N (.int i) (.int i)
  | str (s : Str) : R K H N (.str s) (.str s)
  | tup {a : Addr} {xs : List V} {ds : List D} : SqT K H a xs → RA K H N xs ds → R K H N (.ref a) (.tup ds)
  | lst {a : Addr} {xs : List V} {ds : List D} : H a = some (.lst xs) → N a → RA K H N xs ds → R K H N (.ref a) (.lst ds)
  | dic {a : Addr} {kvs : List (Key × V)} {ks : List Int} {ds : List D} : Rd H a (.dK kvs) → N a → kvs.map (·.1) = ks.map Sum.inl → RA K H N (kvs.map (·.2)) ds → R K H N (.ref a) (.dic ks ds)
inductive RA (K : PySem.W.Frag) (H : Hp) (N : Addr → Prop) : List V → List D → Prop
  | nil : RA K H N [] []
  | cons {v : V} {vs : List V} {d : D} {ds : List D} : R K H N v d → RA K H N vs ds → RA K H N (v :: vs) (d :: ds)
end

section
variable {K : PySem.W.Frag} {H H' : Hp} {N N' : Addr → Prop} {p : Addr}

theorem rd_same {a : Addr} {u : HO} (e : Same H H') (h : Rd H a u) : Rd H' a u := by
  rcases h with h | ⟨o, h⟩
  · exact .inl (e _ _ h)
  · exact .inr ⟨o, e _ _ h⟩
theorem sqt_same {a : Addr} {xs : List V} (e : Same H H') (h : SqT K H a xs) : SqT K H' a xs := by
  rcases h with h | h
  · exact .inl (rd_same e h)
  · exact .inr h
theorem same_new {o : HO} (h : H p = none) : Same H (upd H p o) := fun b x e => by
  rw [upd_ne (ne_of_none e h)]
  exact e
theorem same_mut {o : HO} (e : Same H H') (h : H p = none) : Same H (upd H' p o) := fun a u ha => by
  rw [upd_ne (ne_of_none ha h)]
  exact e a u ha

mutual
theorem R.mono (e : Same H H') (n : ∀ a, N a → N' a) : ∀ {v : V} {d : D}, R K H N v d → R K H' N' v d
  | _, _, .non => .non
  | _, _, .bl b => .bl b
  | _, _, .int i => .int i
  | _, _, .str s => .str s
  | _, _, .tup s r => .tup (sqt_same e s) (RA.mono e n r)
  | _, _, .lst s h r => .lst (e _ _ s) (n _ h) (RA.mono e n r)
  | _, _, .dic s h k r => .dic (rd_same e s) (n _ h) k (RA.mono e n r)
theorem RA.mono (e : Same H H') (n : ∀ a, N a → N' a) : ∀ {vs : List V} {ds : List D}, RA K H N vs ds → RA K H' N' vs ds
  | _, _, .nil => .nil
  | _, _, .cons a b => .cons (R.mono e n a) (RA.mono e n b)
end
theorem R.same (e : Same H H') {v : V} {d : D} (h : R K H N v d) : R K H' N v d := h.mono e fun _ z => z
theorem RA.same (e : Same H H') {v : List V} {d : List D} (h : RA K H N v d) : RA K H' N v d := h.mono e fun _ z => z

/-- an object that the layer may change -/
def Wr (H : Hp) (p : Addr) : Prop := (∃ xs, H p = some (.lst xs)) ∨ ∃ kvs, H p = some (.dK kvs)
theorem wr_rd {a : Addr} {xs : List V} (w : Wr H p) (h : Rd H a (.tup xs)) : a ≠ p := by
  rintro rfl
  rcases w with ⟨_, w⟩ | ⟨_, w⟩ <;> rcases h with h | ⟨o, h⟩ <;> rw [w] at h <;> cases h
theorem rd_upd {a : Addr} {u o : HO} (h : Rd H a u) (n : a ≠ p) : Rd (upd H p o) a u := by
  rcases h with h | ⟨z, h⟩
  · exact .inl (by rw [upd_ne n]; exact h)
  · exact .inr ⟨z, by rw [upd_ne n]; exact h⟩
theorem sqt_upd {a : Addr} {xs : List V} {o : HO} (w : Wr H p) (h : SqT K H a xs) : SqT K (upd H p o) a xs := by
  rcases h with h | h
  · exact .inl (rd_upd h (wr_rd w h))
  · exact .inr h
theorem ne_N {a : Addr} (n : ¬ N p) (h : N a) : a ≠ p := fun e => n (e ▸ h)
mutual
theorem R.upd {o : HO} (w : Wr H p) (n : ¬ N p) : ∀ {v : V} {d : D}, R K H N v d → R K (upd H p o) N v d
  | _, _, .non => .non
  | _, _, .bl b => .bl b
  | _, _, .int i => .int i
  | _, _, .str s => .str s
  | _, _, .tup s r => .tup (sqt_upd w s) (RA.upd w n r)
  | _, _, .lst s h r => .lst ((upd_ne (ne_N n h)).trans s) h (RA.upd w n r)
  | _, _, .dic s h k r => .dic (rd_upd s fun e => n (e ▸ h)) h k (RA.upd w n r)
theorem RA.upd {o : HO} (w : Wr H p) (n : ¬ N p) : ∀ {vs : List V} {ds : List D}, RA K H N vs ds → RA K (L2.upd H p o) N vs ds
  | _, _, .nil => .nil
  | _, _, .cons a b => .cons (R.upd w n a) (RA.upd w n b)
end
theorem rd_dom {a : Addr} {u : HO} (h : Rd H a u) (hp : H p = none) : a ≠ p := by
  rintro rfl
  rcases h with h | ⟨o, h⟩ <;> rw [hp] at h <;> cases h
mutual
theorem R.avoid (hp : H p = none) : ∀ {v : V} {d : D}, R K H N v d → R K H (fun a => N a ∧ a ≠ p) v d
  | _, _, .non => .non
  | _, _, .bl b => .bl b
  | _, _, .int i => .int i
  | _, _, .str s => .str s
  | _, _, .tup s r => .tup s (RA.avoid hp r)
  | _, _, .lst s h r => .lst s ⟨h, ne_of_none s hp⟩ (RA.avoid hp r)
  | _, _, .dic s h k r => .dic s ⟨h, rd_dom s hp⟩ k (RA.avoid hp r)
theorem RA.avoid (hp : H p = none) : ∀ {vs : List V} {ds : List D}, RA K H N vs ds → RA K H (fun a => N a ∧ a ≠ p) vs ds
  | _, _, .nil => .nil
  | _, _, .cons a b => .cons (R.avoid hp a) (RA.avoid hp b)
end
mutual
def D.flat : D → Bool
  | .lst _ => false
  | .dic _ _ => false
  | .tup ds => flats ds
  | _ => true
def D.flats : List D → Bool
  | [] => true
  | d :: ds => D.flat d && D.flats ds
end
mutual
theorem R.flat : ∀ {v : V} {d : D}, R K H N v d → d.flat = true → R K H N' v d
  | _, _, .non, _ => .non
  | _, _, .bl b, _ => .bl b
  | _, _, .int i, _ => .int i
  | _, _, .str s, _ => .str s
  | _, _, .tup s r, f => .tup s (RA.flat r (by simpa [D.flat] using f))
  | _, _, .lst s h r, f => by simp [D.flat] at f
  | _, _, .dic s h k r, f => by simp [D.flat] at f
theorem RA.flat : ∀ {vs : List V} {ds : List D}, RA K H N vs ds → D.flats ds = true → RA K H N' vs ds
  | _, _, .nil, _ => .nil
  | _, _, .cons a b, f => by
    simp [D.flats] at f
    exact .cons (R.flat a f.1) (RA.flat b f.2)
end
theorem RA.length : ∀ {vs : List V} {ds : List D}, RA K H N vs ds → vs.length = ds.length
  | _, _, .nil => rfl
  | _, _, .cons _ b => by simp [RA.length b]
theorem RA.get : ∀ {vs : List V} {ds : List D} {i : Nat} {d : D}, RA K H N vs ds → ds[i]? = some d → ∃ v, vs[i]? = some v ∧ R K H N v d
  | _, _, _, _, .nil, e => by simp at e
  | _, _, 0, _, .cons r _, e => by simp at e; subst e; exact ⟨_, rfl, r⟩
  | _, _, i + 1, d, .cons _ t, e => by
    obtain ⟨v, h1, h2⟩ := RA.get (i := i) (d := d) t (by simpa using e)
    exact ⟨v, by simpa using h1, h2⟩
theorem RA.getV : ∀ {vs : List V} {ds : List D} {i : Nat} {v : V}, RA K H N vs ds → vs[i]? = some v → ∃ d, ds[i]? = some d ∧ R K H N v d
  | _, _, _, _, .nil, e => by simp at e
  | _, _, 0, _, .cons r _, e => by simp at e; subst e; exact ⟨_, rfl, r⟩
  | _, _, i + 1, v, .cons _ t, e => by
    obtain ⟨d, h1, h2⟩ := RA.getV (i := i) (v := v) t (by simpa using e)
    exact ⟨d, by simpa using h1, h2⟩
theorem RA.append : ∀ {vs ws : List V} {ds es : List D}, RA K H N vs ds → RA K H N ws es → RA K H N (vs ++ ws) (ds ++ es)
  | _, _, _, _, .nil, s => s
  | _, _, _, _, .cons r t, s => .cons r (RA.append t s)
theorem RA.take : ∀ {vs : List V} {ds : List D} (n : Nat), RA K H N vs ds → RA K H N (vs.take n) (ds.take n)
  | _, _, 0, _ => .nil
  | _, _, _ + 1, .nil => .nil
  | _, _, n + 1, .cons r t => .cons r (RA.take n t)
theorem RA.drop : ∀ {vs : List V} {ds : List D} (n : Nat), RA K H N vs ds → RA K H N (vs.drop n) (ds.drop n)
  | _, _, 0, h => h
  | _, _, _ + 1, .nil => .nil
  | _, _, n + 1, .cons _ t => RA.drop n t
theorem RA.set {x : V} {d : D} (r : R K H N x d) : ∀ {vs : List V} {ds : List D} (i : Nat), RA K H N vs ds → RA K H N (vs.set i x) (ds.set i d)
  | _, _, _, .nil => .nil
  | _, _, 0, .cons _ t => .cons r t
  | _, _, i + 1, .cons q t => .cons q (RA.set r i t)
theorem RA.dropLast {vs : List V} {ds : List D} (h : RA K H N vs ds) : RA K H N vs.dropLast ds.dropLast := by
  rw [List.dropLast_eq_take, List.dropLast_eq_take, h.length]
  exact h.take _
theorem RA.reverse : ∀ {vs : List V} {ds : List D}, RA K H N vs ds → RA K H N vs.reverse ds.reverse
  | _, _, .nil => .nil
  | _, _, .cons a b => by
    rw [List.reverse_cons, List.reverse_cons]
    exact (RA.reverse b).append (.cons a .nil)
theorem RA.rep {vs : List V} {ds : List D} (h : RA K H N vs ds) : ∀ k : Nat, RA K H N (List.replicate k vs).flatten (List.replicate k ds).flatten
  | 0 => .nil
  | k + 1 => by
    rw [List.replicate_succ, List.replicate_succ, List.flatten_cons, List.flatten_cons]
    exact h.append (RA.rep h k)
/-- one data for v -/
theorem RA.ints : ∀ {vs : List V} {ns : List Int}, RA K H N vs (ns.map D.int) → vs = ns.map V.int
  | _, [], .nil => rfl
  | _, n :: ns, .cons (.int _) b => by
    rw [List.map_cons, RA.ints b]
theorem RA.bls : ∀ {vs : List V} {bs : List Bool}, RA K H N vs (bs.map D.bl) → vs = bs.map V.bl
  | _, [], .nil => rfl
  | _, n :: ns, .cons (.bl _) b => by
    rw [List.map_cons, RA.bls b]
theorem ra_ints : ∀ (ns : List Int), RA K H N (ns.map V.int) (ns.map D.int)
  | [] => .nil
  | n :: ns => .cons (.int n) (ra_ints ns)

/-- the list or dict at p is the layer's own; what is in it stands where N says -/
def OwnR (K : PySem.W.Frag) (H : Hp) (N : Addr → Prop) (p : Addr) : D → Prop
  | .lst ds => ∃ vs, H p = some (.lst vs) ∧ RA K H N vs ds
  | .dic ks ds => ∃ kvs, H p = some (.dK kvs) ∧ kvs.map (·.1) = ks.map Sum.inl ∧ RA K H N (kvs.map (·.2)) ds
  | _ => False
theorem OwnR.mono (e : Same H H') (n : ∀ a, N a → N' a) {x : D} (h : OwnR K H N p x) : OwnR K H' N' p x := by
  cases x with
  | lst ds => obtain ⟨vs, h1, h2⟩ := h; exact ⟨vs, e _ _ h1, h2.mono e n⟩
  | dic ks ds => obtain ⟨vs, h1, k, h2⟩ := h; exact ⟨vs, e _ _ h1, k, h2.mono e n⟩
  | _ => exact h.elim
theorem OwnR.same (e : Same H H') {x : D} (h : OwnR K H N p x) : OwnR K H' N p x := h.mono e fun _ z => z
theorem OwnR.wr {x : D} (h : OwnR K H N p x) : Wr H p := by
  cases x with
  | lst ds => obtain ⟨vs, h1, h2⟩ := h; exact .inl ⟨vs, h1⟩
  | dic ks ds => obtain ⟨vs, h1, k, h2⟩ := h; exact .inr ⟨vs, h1⟩
  | _ => exact h.elim
theorem OwnR.upd {q : Addr} {o : HO} (w : Wr H q) (n : ¬ N q) (ne : p ≠ q) {x : D} (h : OwnR K H N p x) : OwnR K (L2.upd H q o) N p x := by
  cases x with
  | lst ds => obtain ⟨vs, h1, h2⟩ := h; exact ⟨vs, by rw [upd_ne ne]; exact h1, h2.upd w n⟩
  | dic ks ds => obtain ⟨vs, h1, k, h2⟩ := h; exact ⟨vs, by rw [upd_ne ne]; exact h1, k, h2.upd w n⟩
  | _ => exact h.elim
theorem OwnR.avoid {q : Addr} (hq : H q = none) {x : D} (h : OwnR K H N p x) : OwnR K H (fun a => N a ∧ a ≠ q) p x := by
  cases x with
  | lst ds => obtain ⟨vs, h1, h2⟩ := h; exact ⟨vs, h1, h2.avoid hq⟩
  | dic ks ds => obtain ⟨vs, h1, k, h2⟩ := h; exact ⟨vs, h1, k, h2.avoid hq⟩
  | _ => exact h.elim
theorem OwnR.r (h : N p) {x : D} (o : OwnR K H N p x) : R K H N (.ref p) x := by
  cases x with
  | lst ds => obtain ⟨vs, h1, h2⟩ := o; exact .lst h1 h h2
  | dic ks ds => obtain ⟨vs, h1, k, h2⟩ := o; exact .dic (.inl h1) h k h2
  | _ => exact o.elim
end

/-- a name's slot: unknown, data that nobody changes, an own list or dict -/
inductive Sl where
  | no
  | d (x : D)
  | o (x : D)
abbrev Ev := List Sl

/-- a result: data that nobody changes; a new list or dict that nobody else has; an own slot's -/
inductive Res where
  | d (x : D)
  | new (x : D)
  | al (i : Nat) (x : D)
def Res.v : Res → D
  | .d x => x
  | .new x => x
  | .al _ x => x
def Res.per : Res → Bool
  | .al _ _ => false
  | _ => true

/-- the state bears the names' data -/
structure Ok (K : PySem.W.Frag) (H0 : Hp) (M N : Addr → Prop) (σ : L2.St) (H : Hp) (env : Ev) (O : List (Option Addr)) : Prop where
  ext : Same H0 H
  nm : ∀ a, N a → M a
  nf : ∀ a, H a = none → N a
  len : env.length = σ.length
  olen : O.length = σ.length
  d : ∀ (i : Nat) (x : D), env[i]? = some (.d x) → ∃ v, σ[i]? = some (some v) ∧ R K H N v x
  o : ∀ (i : Nat) (x : D), env[i]? = some (.o x) → ∃ p, O[i]? = some (some p) ∧ σ[i]? = some (some (.ref p)) ∧ OwnR K H N p x
  own : ∀ (i : Nat) (p : Addr), O[i]? = some (some p) → ¬ N p ∧ H0 p = none ∧ Wr H p
  inj : ∀ (i j : Nat) (p : Addr), O[i]? = some (some p) → O[j]? = some (some p) → i = j

/-- what stays from one state to a later one -/
def Mu : HO → Bool
  | .lst _ => true
  | .dK _ => true
  | _ => false
def Fr (N : Addr → Prop) (H : Hp) (N' : Addr → Prop) (H' : Hp) : Prop := ∀ b o, H b = some o → (N b → H' b = some o ∧ N' b) ∧ (Mu o = false → H' b = some o)

section
variable {K : PySem.W.Frag} {H0 H H1 H2 H3 : Hp} {M N N1 N2 : Addr → Prop} {σ : L2.St} {env : Ev} {O : List (Option Addr)} {v w : V} {r r' : Res}
theorem Fr.refl : Fr N H N H := fun _ _ h => ⟨fun n => ⟨h, n⟩, fun _ => h⟩
theorem Fr.trans (a : Fr N H N1 H1) (b : Fr N1 H1 N2 H2) : Fr N H N2 H2 := fun p o h =>
  ⟨fun n => ((b p o ((a p o h).1 n).1).1 ((a p o h).1 n).2), fun m => (b p o ((a p o h).2 m)).2 m⟩
theorem Fr.of_same (e : Same H H1) : Fr N H N H1 := fun b o h => ⟨fun n => ⟨e _ _ h, n⟩, fun _ => e _ _ h⟩
theorem Ok.mono (ok : Ok K H0 M N σ H env O) (e : Same H H1) : Ok K H0 M N σ H1 env O where
  ext := ok.ext.trans e
  nm := ok.nm
  nf := fun a h => ok.nf a (e.free h)
  len := ok.len
  olen := ok.olen
  d := fun i x h => by
    obtain ⟨v, h1, h2⟩ := ok.d i x h
    exact ⟨v, h1, h2.same e⟩
  o := fun i x h => by
    obtain ⟨p, h1, h2, h3⟩ := ok.o i x h
    exact ⟨p, h1, h2, h3.same e⟩
  own := fun i p h => by
    obtain ⟨a, b, c⟩ := ok.own i p h
    refine ⟨a, b, ?_⟩
    rcases c with ⟨xs, c⟩ | ⟨xs, c⟩
    · exact .inl ⟨xs, e _ _ c⟩
    · exact .inr ⟨xs, e _ _ c⟩
  inj := ok.inj

def RR (K : PySem.W.Frag) (N : Addr → Prop) (O : List (Option Addr)) (H H' : Hp) (v : V) : Res → Prop
  | .d x => R K H' N v x
  | .new x => ∃ p, v = .ref p ∧ H p = none ∧ N p ∧ OwnR K H' (fun a => N a ∧ a ≠ p) p x
  | .al i x => ∃ p, O[i]? = some (some p) ∧ v = .ref p ∧ OwnR K H' N p x
theorem RR.same (e : Same H1 H2) (h : RR K N O H H1 v r) : RR K N O H H2 v r := by
  cases r with
  | d x => exact R.same e h
  | new x => obtain ⟨p, h1, h2, h3, h4⟩ := h; exact ⟨p, h1, h2, h3, h4.same e⟩
  | al i x => obtain ⟨p, h1, h2, h3⟩ := h; exact ⟨p, h1, h2, h3.same e⟩
theorem RR.back (e : Same H H1) (h : RR K N O H1 H2 v r) : RR K N O H H2 v r := by
  cases r with
  | d x => exact h
  | new x => obtain ⟨p, h1, h2, h3, h4⟩ := h; exact ⟨p, h1, e.free h2, h3, h4⟩
  | al i x => exact h
/-- what may be kept -/
theorem RR.keep (h : RR K N O H H1 v r) (hp : r.per = true) : R K H1 N v r.v := by
  cases r with
  | d x => exact h
  | new x =>
    obtain ⟨p, h1, h2, h3, h4⟩ := h
    subst h1
    exact OwnR.r h3 (h4.mono (Same.refl _) fun a z => z.1)
  | al i x => cases hp
/-- what may be read -/
theorem RR.any (h : RR K N O H H1 v r) : R K H1 (fun _ => True) v r.v := by
  cases r with
  | d x => exact R.mono (Same.refl _) (fun _ _ => trivial) h
  | new x =>
    obtain ⟨p, h1, h2, h3, h4⟩ := h
    subst h1
    exact OwnR.r trivial (h4.mono (Same.refl _) fun a z => trivial)
  | al i x =>
    obtain ⟨p, h1, h2, h3⟩ := h
    subst h2
    exact OwnR.r trivial (h3.mono (Same.refl _) fun a z => trivial)
/-- a list's items -/
theorem RR.items {ds : List D} (h : RR K N O H H1 v r) (e : r.v = .lst ds) : ∃ a vs, v = .ref a ∧ H1 a = some (.lst vs) ∧ RA K H1 N vs ds := by
  cases r with
  | d x =>
    have e : x = .lst ds := e
    subst e
    cases h with
    | lst a b c => exact ⟨_, _, rfl, a, c⟩
  | new x =>
    have e : x = .lst ds := e
    subst e
    obtain ⟨p, h1, h2, h3, vs, h4, h5⟩ := h
    exact ⟨p, vs, h1, h4, h5.mono (Same.refl _) fun a z => z.1⟩
  | al i x =>
    have e : x = .lst ds := e
    subst e
    obtain ⟨p, h1, h2, vs, h4, h5⟩ := h
    exact ⟨p, vs, h2, h4, h5⟩
theorem RR.titems {ds : List D} (h : RR K N O H H1 v r) (e : r.v = .tup ds) : ∃ a vs, v = .ref a ∧ SqT K H1 a vs ∧ RA K H1 N vs ds := by
  cases r with
  | d x =>
    have e : x = .tup ds := e
    subst e
    cases h with
    | tup a b => exact ⟨_, _, rfl, a, b⟩
  | new x =>
    have e : x = .tup ds := e
    subst e
    obtain ⟨p, h1, h2, h3, h4⟩ := h
    exact h4.elim
  | al i x =>
    have e : x = .tup ds := e
    subst e
    obtain ⟨p, h1, h2, h3⟩ := h
    exact h3.elim
theorem RR.ditems {ks : List Int} {ds : List D} (h : RR K N O H H1 v r) (e : r.v = .dic ks ds) : ∃ a kvs, v = .ref a ∧ Rd H1 a (.dK kvs) ∧ kvs.map (·.1) = ks.map Sum.inl ∧ RA K H1 N (kvs.map (·.2)) ds := by
  cases r with
  | d x =>
    have e : x = .dic ks ds := e
    subst e
    cases h with
    | dic a b c d => exact ⟨_, _, rfl, a, c, d⟩
  | new x =>
    have e : x = .dic ks ds := e
    subst e
    obtain ⟨p, h1, h2, h3, kvs, h4, h5, h6⟩ := h
    exact ⟨p, kvs, h1, .inl h4, h5, h6.mono (Same.refl _) fun a z => z.1⟩
  | al i x =>
    have e : x = .dic ks ds := e
    subst e
    obtain ⟨p, h1, h2, kvs, h4, h5, h6⟩ := h
    exact ⟨p, kvs, h2, .inl h4, h5, h6⟩
theorem RR.isI {i : Int} (h : RR K N O H H1 v (.d (.int i))) : v = .int i := by
  cases (show R K H1 N v (.int i) from h)
  rfl
theorem RR.isB {i : Bool} (h : RR K N O H H1 v (.d (.bl i))) : v = .bl i := by
  cases (show R K H1 N v (.bl i) from h)
  rfl
/-- an own slot is filled with a new list; a slot is filled with data; a slot is forgotten -/
theorem Ok.set_d {i : Nat} {x : D} (ok : Ok K H0 M N σ H env O) (h : R K H N v x) : Ok K H0 M N (σ.set i (some v)) H (env.set i (.d x)) (O.set i none) where
  ext := ok.ext
  nm := ok.nm
  nf := ok.nf
  len := by simp [ok.len]
  olen := by simp [ok.olen]
  d := fun j y hj => by
    by_cases e : i = j
    · subst e
      have hl : i < env.length := by
        have := (List.getElem?_eq_some_iff.mp hj).1
        simpa using this
      rw [List.getElem?_set_self hl] at hj
      cases hj
      exact ⟨v, by rw [List.getElem?_set_self (by rw [← ok.len]; exact hl)], h⟩
    · rw [List.getElem?_set_ne e] at hj ⊢
      exact ok.d j y hj
  o := fun j y hj => by
    by_cases e : i = j
    · subst e
      have hl : i < env.length := by
        have := (List.getElem?_eq_some_iff.mp hj).1
        simpa using this
      rw [List.getElem?_set_self hl] at hj
      cases hj
    · rw [List.getElem?_set_ne e] at hj ⊢
      rw [List.getElem?_set_ne e]
      exact ok.o j y hj
  own := fun j p hj => by
    by_cases e : i = j
    · subst e
      by_cases hl : i < O.length
      · rw [List.getElem?_set_self hl] at hj
        cases hj
      · rw [List.getElem?_eq_none (by simpa using hl)] at hj
        cases hj
    · rw [List.getElem?_set_ne e] at hj
      exact ok.own j p hj
  inj := fun j k p hj hk => by
    have f : ∀ m, (O.set i none)[m]? = some (some p) → O[m]? = some (some p) := fun m hm => by
      by_cases e : i = m
      · subst e
        by_cases hl : i < O.length
        · rw [List.getElem?_set_self hl] at hm
          cases hm
        · rw [List.getElem?_eq_none (by simpa using hl)] at hm
          cases hm
      · rw [List.getElem?_set_ne e] at hm
        exact hm
    exact ok.inj j k p (f j hj) (f k hk)
theorem Ok.set_no {i : Nat} {z : Option V} (ok : Ok K H0 M N σ H env O) : Ok K H0 M N (σ.set i z) H (env.set i .no) (O.set i none) where
  ext := ok.ext
  nm := ok.nm
  nf := ok.nf
  len := by simp [ok.len]
  olen := by simp [ok.olen]
  d := fun j y hj => by
    by_cases e : i = j
    · subst e
      have hl : i < env.length := by
        have := (List.getElem?_eq_some_iff.mp hj).1
        simpa using this
      rw [List.getElem?_set_self hl] at hj
      cases hj
    · rw [List.getElem?_set_ne e] at hj ⊢
      exact ok.d j y hj
  o := fun j y hj => by
    by_cases e : i = j
    · subst e
      have hl : i < env.length := by
        have := (List.getElem?_eq_some_iff.mp hj).1
        simpa using this
      rw [List.getElem?_set_self hl] at hj
      cases hj
    · rw [List.getElem?_set_ne e] at hj ⊢
      rw [List.getElem?_set_ne e]
      exact ok.o j y hj
  own := fun j p hj => by
    by_cases e : i = j
    · subst e
      by_cases hl : i < O.length
      · rw [List.getElem?_set_self hl] at hj
        cases hj
      · rw [List.getElem?_eq_none (by simpa using hl)] at hj
        cases hj
    · rw [List.getElem?_set_ne e] at hj
      exact ok.own j p hj
  inj := fun j k p hj hk => by
    have f : ∀ m, (O.set i none)[m]? = some (some p) → O[m]? = some (some p) := fun m hm => by
      by_cases e : i = m
      · subst e
        by_cases hl : i < O.length
        · rw [List.getElem?_set_self hl] at hm
          cases hm
        · rw [List.getElem?_eq_none (by simpa using hl)] at hm
          cases hm
      · rw [List.getElem?_set_ne e] at hm
        exact hm
    exact ok.inj j k p (f j hj) (f k hk)
/-- a new list or dict comes to be a slot's own -/
theorem Ok.set_o {i : Nat} {x : D} {p : Addr} (hi : i < σ.length) (ok : Ok K H0 M N σ H env O) (e : Same H H1) (hp : H p = none) (ow : OwnR K H1 (fun a => N a ∧ a ≠ p) p x) :
    Ok K H0 M (fun a => N a ∧ a ≠ p) (σ.set i (some (.ref p))) H1 (env.set i (.o x)) (O.set i (some p)) where
  ext := ok.ext.trans e
  nm := fun a h => ok.nm a h.1
  nf := fun a h => ⟨ok.nf a (e.free h), fun z => by
    subst z
    rcases ow.wr with ⟨_, w⟩ | ⟨_, w⟩ <;> rw [h] at w <;> cases w⟩
  len := by simp [ok.len]
  olen := by simp [ok.olen]
  d := fun j y hj => by
    by_cases ej : i = j
    · subst ej
      have hl : i < env.length := by rw [ok.len]; exact hi
      rw [List.getElem?_set_self hl] at hj
      cases hj
    · rw [List.getElem?_set_ne ej] at hj ⊢
      obtain ⟨v, h1, h2⟩ := ok.d j y hj
      exact ⟨v, h1, (h2.avoid hp).same e⟩
  o := fun j y hj => by
    by_cases ej : i = j
    · subst ej
      have hl : i < env.length := by rw [ok.len]; exact hi
      rw [List.getElem?_set_self hl] at hj
      cases hj
      exact ⟨p, by rw [List.getElem?_set_self (by rw [ok.olen]; exact hi)], by rw [List.getElem?_set_self hi], ow⟩
    · rw [List.getElem?_set_ne ej] at hj ⊢
      rw [List.getElem?_set_ne ej]
      obtain ⟨q, h1, h2, h3⟩ := ok.o j y hj
      exact ⟨q, h1, h2, (h3.avoid hp).same e⟩
  own := fun j q hj => by
    by_cases ej : i = j
    · subst ej
      rw [List.getElem?_set_self (by rw [ok.olen]; exact hi)] at hj
      cases hj
      exact ⟨fun z => z.2 rfl, ok.ext.free hp, ow.wr⟩
    · rw [List.getElem?_set_ne ej] at hj
      obtain ⟨a, b, c⟩ := ok.own j q hj
      refine ⟨fun z => a z.1, b, ?_⟩
      rcases c with ⟨xs, c⟩ | ⟨xs, c⟩
      · exact .inl ⟨xs, e _ _ c⟩
      · exact .inr ⟨xs, e _ _ c⟩
  inj := fun j k q hj hk => by
    have f : ∀ m, (O.set i (some p))[m]? = some (some q) → (m = i ∧ q = p) ∨ (m ≠ i ∧ O[m]? = some (some q)) := fun m hm => by
      by_cases em : i = m
      · subst em
        rw [List.getElem?_set_self (by rw [ok.olen]; exact hi)] at hm
        cases hm
        exact .inl ⟨rfl, rfl⟩
      · rw [List.getElem?_set_ne em] at hm
        exact .inr ⟨fun z => em z.symm, hm⟩
    have g : ∀ m, O[m]? = some (some p) → False := fun m hm => by
      obtain ⟨_, _, c⟩ := ok.own m p hm
      rcases c with ⟨_, c⟩ | ⟨_, c⟩ <;> rw [hp] at c <;> cases c
    rcases f j hj with ⟨a, b⟩ | ⟨a, b⟩ <;> rcases f k hk with ⟨c, d⟩ | ⟨c, d⟩
    · rw [a, c]
    · subst b
      exact (g k d).elim
    · subst d
      exact (g j b).elim
    · exact ok.inj j k q b d
theorem Fr.own {p : Addr} (e : Same H H1) (hp : H p = none) : Fr N H (fun a => N a ∧ a ≠ p) H1 := fun b o h => ⟨fun n => ⟨e _ _ h, n, ne_of_none h hp⟩, fun _ => e _ _ h⟩
theorem ok_lt {i : Nat} {s : Sl} (ok : Ok K H0 M N σ H env O) (h : env[i]? = some s) : i < σ.length := by
  rw [← ok.len]
  exact (List.getElem?_eq_some_iff.mp h).1
/-- a slot's own list or dict is changed -/
theorem Ok.change {i : Nat} {x y : D} {p : Addr} {o : HO} (ok : Ok K H0 M N σ H env O) (hi : env[i]? = some (.o x)) (hp : O[i]? = some (some p)) (ow : OwnR K (L2.upd H p o) N p y) : Ok K H0 M N σ (L2.upd H p o) (env.set i (.o y)) O := by
  obtain ⟨n, h0, w⟩ := ok.own i p hp
  have hl : i < env.length := (List.getElem?_eq_some_iff.mp hi).1
  refine ⟨same_mut ok.ext h0, ok.nm, fun a h => ?_, by simp [ok.len], ok.olen, fun j z hj => ?_, fun j z hj => ?_, fun j q hj => ?_, ok.inj⟩
  · refine ok.nf a ?_
    by_cases e : a = p
    · subst e
      rw [upd_same] at h
      cases h
    · rw [upd_ne e] at h
      exact h
  · by_cases ej : i = j
    · subst ej
      rw [List.getElem?_set_self hl] at hj
      cases hj
    · rw [List.getElem?_set_ne ej] at hj
      obtain ⟨v, h1, h2⟩ := ok.d j z hj
      exact ⟨v, h1, h2.upd w n⟩
  · by_cases ej : i = j
    · subst ej
      rw [List.getElem?_set_self hl] at hj
      cases hj
      obtain ⟨q, h1, h2, h3⟩ := ok.o i x hi
      rw [hp] at h1
      cases h1
      exact ⟨p, hp, h2, ow⟩
    · rw [List.getElem?_set_ne ej] at hj
      obtain ⟨q, h1, h2, h3⟩ := ok.o j z hj
      exact ⟨q, h1, h2, h3.upd w n fun e => ej (by subst e; exact (ok.inj i j q hp h1))⟩
  · obtain ⟨a, b, c⟩ := ok.own j q hj
    refine ⟨a, b, ?_⟩
    by_cases e : q = p
    · subst e
      exact ow.wr
    · rcases c with ⟨xs, c⟩ | ⟨xs, c⟩
      · exact .inl ⟨xs, by rw [upd_ne e]; exact c⟩
      · exact .inr ⟨xs, by rw [upd_ne e]; exact c⟩
theorem Fr.change {i : Nat} {p : Addr} {o : HO} (ok : Ok K H0 M N σ H env O) (hp : O[i]? = some (some p)) : Fr N H N (L2.upd H p o) := fun b u h => by
  obtain ⟨n, h0, w⟩ := ok.own i p hp
  refine ⟨fun nb => ⟨(upd_ne (ne_N n nb)).trans h, nb⟩, fun m => ?_⟩
  by_cases e : b = p
  · subst e
    rcases w with ⟨_, w⟩ | ⟨_, w⟩ <;> rw [h] at w <;> cases w <;> cases m
  · rw [upd_ne e]
    exact h
/-- N without the address p, which is new or nobody's -/
theorem Ok.hide {p : Addr} (ok : Ok K H0 M N σ H env O) (hp : H p = none) {o : HO} : Ok K H0 M (fun a => N a ∧ a ≠ p) σ (L2.upd H p o) env O where
  ext := ok.ext.trans (same_new hp)
  nm := fun a h => ok.nm a h.1
  nf := fun a h => ⟨ok.nf a ((same_new hp).free h), fun e => by
    subst e
    rw [upd_same] at h
    cases h⟩
  len := ok.len
  olen := ok.olen
  d := fun i x h => by
    obtain ⟨v, h1, h2⟩ := ok.d i x h
    exact ⟨v, h1, (h2.avoid hp).same (same_new hp)⟩
  o := fun i x h => by
    obtain ⟨q, h1, h2, h3⟩ := ok.o i x h
    exact ⟨q, h1, h2, (h3.avoid hp).same (same_new hp)⟩
  own := fun i q h => by
    obtain ⟨a, b, c⟩ := ok.own i q h
    refine ⟨fun z => a z.1, b, ?_⟩
    rcases c with ⟨xs, c⟩ | ⟨xs, c⟩
    · exact .inl ⟨xs, same_new hp _ _ c⟩
    · exact .inr ⟨xs, same_new hp _ _ c⟩
  inj := ok.inj
end
end Zb
/-! The data layer, 2: expressions and tests. -/
namespace Zb
open PySem PySem.Spec PyProof.Rows L2

def tEX (K : PySem.W.Frag) (H0 : Hp) (M : Addr → Prop) (env : Ev) (r : Res) : TE := fun σ H Q => ∃ N O, Ok K H0 M N σ H env O ∧ ∀ v H', Same H H' → RR K N O H H' v r → Q v H'
def tET (K : PySem.W.Frag) (H0 : Hp) (M : Addr → Prop) (env : Ev) (b : Bool) : TT := fun σ H Q => ∃ N O, Ok K H0 M N σ H env O ∧ ∀ H', Same H H' → Q b H'
abbrev RRs (K : PySem.W.Frag) (N : Addr → Prop) (O : List (Option Addr)) (H H' : Hp) : List V → List Res → Prop := Paired (RR K N O H H')
def tEA (K : PySem.W.Frag) (H0 : Hp) (M : Addr → Prop) (env : Ev) (rs : List Res) : TA := fun σ H Q => ∃ N O, Ok K H0 M N σ H env O ∧ ∀ vs H', Same H H' → RRs K N O H H' vs rs → Q vs H'
/-- in a state with these data the expression gives the result; the test answers; the arguments give the results -/
abbrev EX (X : Cx) (H0 : Hp) (M : Addr → Prop) (e : Expr) (env : Ev) (r : Res) : Prop := PE X e (tEX X.K H0 M env r)
abbrev ET (X : Cx) (H0 : Hp) (M : Addr → Prop) (e : Expr) (env : Ev) (b : Bool) : Prop := PT X e (tET X.K H0 M env b)
abbrev EW (X : Cx) (H0 : Hp) (M : Addr → Prop) (e : Expr) (env : Ev) (b : Bool) : Prop := PW X e (tET X.K H0 M env b)
abbrev EA (X : Cx) (H0 : Hp) (M : Addr → Prop) (es : List Expr) (env : Ev) (rs : List Res) : Prop := PA X es (tEA X.K H0 M env rs)

theorem pe_weak {X : Cx} {e : Expr} {t t' : TE} (h : PE X e t) (w : ∀ σ H Q, t' σ H Q → t σ H Q) : PE X e t' := ⟨fun pins s σ H Q I q => h.run pins s σ H Q I (w _ _ _ q)⟩
theorem pt_weak {X : Cx} {e : Expr} {t t' : TT} (h : PT X e t) (w : ∀ σ H Q, t' σ H Q → t σ H Q) : PT X e t' := ⟨fun pins s σ H Q I q => h.run pins s σ H Q I (w _ _ _ q)⟩
theorem pw_weak {X : Cx} {e : Expr} {t t' : TT} (h : PW X e t) (w : ∀ σ H Q, t' σ H Q → t σ H Q) : PW X e t' := ⟨fun wh pins s σ H Q I q => h.run wh pins s σ H Q I (w _ _ _ q)⟩
theorem pa_weak {X : Cx} {e : List Expr} {t t' : TA} (h : PA X e t) (w : ∀ σ H Q, t' σ H Q → t σ H Q) : PA X e t' := ⟨fun pos pins s σ H Q I q => h.run pos pins s σ H Q I (w _ _ _ q)⟩
theorem ps_weak {X : Cx} {e : Stmt} {t t' : TS} (h : PS X e t) (w : ∀ D σ H, t' D σ H → t D σ H) : PS X e t' := ⟨fun pins s σ H D I q => h.run pins s σ H D I (w _ _ _ q)⟩
theorem pss_weak {X : Cx} {e : List Stmt} {t t' : TS} (h : PSs X e t) (w : ∀ D σ H, t' D σ H → t D σ H) : PSs X e t' := ⟨fun pins s σ H D I q => h.run pins s σ H D I (w _ _ _ q)⟩
/-- a premise that is looked at only where it counts -/
theorem pe_if {X : Cx} {e : Expr} {t : TE} {c : Prop} (h : c → PE X e t) : PE X e (fun σ H Q => c ∧ t σ H Q) := ⟨fun pins s σ H Q I q => (h q.1).run pins s σ H Q I q.2⟩
theorem pt_if {X : Cx} {e : Expr} {t : TT} {c : Prop} (h : c → PT X e t) : PT X e (fun σ H Q => c ∧ t σ H Q) := ⟨fun pins s σ H Q I q => (h q.1).run pins s σ H Q I q.2⟩
theorem pw_if {X : Cx} {e : Expr} {t : TT} {c : Prop} (h : c → PW X e t) : PW X e (fun σ H Q => c ∧ t σ H Q) := ⟨fun wh pins s σ H Q I q => (h q.1).run wh pins s σ H Q I q.2⟩
theorem pss_if {X : Cx} {e : List Stmt} {t : TS} {c : Prop} (h : c → PSs X e t) : PSs X e (fun D σ H => c ∧ t D σ H) := ⟨fun pins s σ H D I q => (h q.1).run pins s σ H D I q.2⟩
/-- one of many readings -/
theorem pe_any {X : Cx} {e : Expr} {ι : Type} {c : ι → Prop} {t : ι → TE} (h : ∀ i, c i → PE X e (t i)) : PE X e (fun σ H Q => ∃ i, c i ∧ t i σ H Q) := ⟨fun pins s σ H Q I ⟨i, ci, q⟩ => (h i ci).run pins s σ H Q I q⟩
theorem pt_any {X : Cx} {e : Expr} {ι : Type} {c : ι → Prop} {t : ι → TT} (h : ∀ i, c i → PT X e (t i)) : PT X e (fun σ H Q => ∃ i, c i ∧ t i σ H Q) := ⟨fun pins s σ H Q I ⟨i, ci, q⟩ => (h i ci).run pins s σ H Q I q⟩
theorem pss_any {X : Cx} {e : List Stmt} {ι : Type} {c : ι → Prop} {t : ι → TS} (h : ∀ i, c i → PSs X e (t i)) : PSs X e (fun D σ H => ∃ i, c i ∧ t i D σ H) := ⟨fun pins s σ H D I ⟨i, ci, q⟩ => (h i ci).run pins s σ H D I q⟩

section
variable {X : Cx} {H0 : Hp} {M : Addr → Prop} {env : Ev} {r ra rb rc : Res} {a b c e : Expr} {es : List Expr} {pos : Pos} {x y : Bool}

theorem EX.to (h : EX X H0 M e env r) {r' : Res} (q : r = r') : EX X H0 M e env r' := q ▸ h
theorem ET.to (h : ET X H0 M e env x) {y : Bool} (q : x = y) : ET X H0 M e env y := q ▸ h
theorem EA.to {rs rs' : List Res} (h : EA X H0 M es env rs) (q : rs = rs') : EA X H0 M es env rs' := q ▸ h
/-- a new thing is kept by all -/
theorem EX.kept (h : EX X H0 M e env r) (hp : r.per = true) : EX X H0 M e env (.d r.v) := pe_weak h fun σ H Q ⟨N, O, ok, k⟩ => ⟨N, O, ok, fun v H' e1 r1 => k v H' e1 (r1.keep hp)⟩

/-! ### names, constants -/
theorem ex_var {n : Str} (i : Nat) {d : D} (h : env[i]? = some (.d d)) (hN : X.N[i]? = some n := by rfl) (hv : Vis X.env.scope n := by first | exact Or.inl rfl | exact Or.inr (Or.inl rfl) | exact Or.inr (Or.inr rfl)) (hd : (n == ("__debug__" : Str)) = false := by decide)
    (hcd : (n == ("__classdict__" : Str)) = false := by decide) : EX X H0 M (.Name n pos) env (.d d) :=
  pe_weak (pe_var (i := i) hN hv hd hcd) fun σ H Q ⟨N, O, ok, k⟩ => by
    obtain ⟨v, h1, h2⟩ := ok.d i d h
    exact ⟨v, h1, k v H (Same.refl _) h2⟩
theorem ex_own {n : Str} (i : Nat) {d : D} (h : env[i]? = some (.o d)) (hN : X.N[i]? = some n := by rfl) (hv : Vis X.env.scope n := by first | exact Or.inl rfl | exact Or.inr (Or.inl rfl) | exact Or.inr (Or.inr rfl)) (hd : (n == ("__debug__" : Str)) = false := by decide)
    (hcd : (n == ("__classdict__" : Str)) = false := by decide) : EX X H0 M (.Name n pos) env (.al i d) :=
  pe_weak (pe_var (i := i) hN hv hd hcd) fun σ H Q ⟨N, O, ok, k⟩ => by
    obtain ⟨p, h1, h2, h3⟩ := ok.o i d h
    exact ⟨.ref p, h2, k _ H (Same.refl _) ⟨p, h1, rfl, h3⟩⟩
theorem ex_int {i : Int} {j} : EX X H0 M (.Constant (.int i) j pos) env (.d (.int i)) := pe_weak pe_int fun _ H Q ⟨_, _, _, k⟩ => k _ H (Same.refl _) (.int i)
theorem ex_bl {j} : EX X H0 M (.Constant (.bool x) j pos) env (.d (.bl x)) := pe_weak pe_bl fun _ H Q ⟨_, _, _, k⟩ => k _ H (Same.refl _) (.bl x)
theorem ex_non {j} : EX X H0 M (.Constant .none j pos) env (.d .non) := pe_weak pe_non fun _ H Q ⟨_, _, _, k⟩ => k _ H (Same.refl _) .non
theorem ex_str {s : Str} {j} : EX X H0 M (.Constant (.str s) j pos) env (.d (.str s)) := pe_weak pe_str fun _ H Q ⟨_, _, _, k⟩ => k _ H (Same.refl _) (.str s)

/-! ### two operands -/
def Rd2 (X : Cx) (H0 : Hp) (M : Addr → Prop) (env : Ev) (ra rb r : Res) (rd : R2) : Prop := ∀ (N : Addr → Prop) (O : List (Option Addr)) (σ : L2.St) (H H2 : Hp) (v w : V) (Q : VK), Ok X.K H0 M N σ H2 env O → Same H H2 → RR X.K N O H H2 v ra → RR X.K N O H H2 w rb →
  (∀ z H3, Same H2 H3 → RR X.K N O H H3 z r → Q z H3) → rd v w H2 Q
theorem two {K : PySem.W.Frag} {N : Addr → Prop} {O : List (Option Addr)} {σ : L2.St} {H : Hp} (ok : Ok K H0 M N σ H env O) {P : V → V → Hp → Prop}
    (h : ∀ v w H2, Ok K H0 M N σ H2 env O → Same H H2 → RR K N O H H2 v ra → RR K N O H H2 w rb → P v w H2) : tEX K H0 M env ra σ H fun v H1 => tEX K H0 M env rb σ H1 fun w H2 => P v w H2 :=
  ⟨N, O, ok, fun v H1 e1 r1 => ⟨N, O, ok.mono e1, fun w H2 e2 r2 => h v w H2 ((ok.mono e1).mono e2) (e1.trans e2) (r1.same e2) (r2.back e1)⟩⟩
theorem ex_bin {op : Operator} {rd : R2} (ho : OpR X (binaryOp op) rd) (ha : EX X H0 M a env ra) (hb : EX X H0 M b env rb) (h : Rd2 X H0 M env ra rb r rd) : EX X H0 M (.BinOp a op b pos) env r :=
  pe_weak (pe_op ho ha hb) fun σ H Q ⟨N, O, ok, k⟩ => two ok fun v w H2 ok2 e r1 r2 => h N O σ H H2 v w Q ok2 e r1 r2 fun z H3 e3 r3 => k z H3 (e.trans e3) r3
theorem ex_cmp {op : CmpOp} {rd : R2} (ho : OpR X (compareOp op) rd) (ha : EX X H0 M a env ra) (hb : EX X H0 M b env rb) (h : Rd2 X H0 M env ra rb (.d (.bl x)) rd) (hm : behindInMarks op b = false) : EX X H0 M (.Compare a [op] [b] pos) env (.d (.bl x)) :=
  pe_weak (pe_cmpR ho ha hb hm) fun σ H Q ⟨N, O, ok, k⟩ => two ok fun v w H2 ok2 e r1 r2 => h N O σ H H2 v w Q ok2 e r1 r2 fun z H3 e3 r3 => k z H3 (e.trans e3) r3
theorem et_cmp {op : CmpOp} {rd : R2} (ho : OpR X (compareOp op) rd) (ha : EX X H0 M a env ra) (hb : EX X H0 M b env rb) (h : Rd2 X H0 M env ra rb (.d (.bl x)) rd) (hm : behindInMarks op b = false) : ET X H0 M (.Compare a [op] [b] pos) env x :=
  pt_weak (pt_cmpR ho ha hb hm) fun σ H Q ⟨N, O, ok, k⟩ => two ok fun v w H2 ok2 e r1 r2 => h N O σ H H2 v w _ ok2 e r1 r2 fun z H3 e3 r3 => by
    cases (show R X.K H3 N z (.bl x) from r3)
    exact ⟨x, rfl, k H3 (e.trans e3)⟩
theorem ex_ix {rd : R2} (ho : IxR X rd) (ha : EX X H0 M a env ra) (hb : EX X H0 M b env rb) (h : Rd2 X H0 M env ra rb r rd) (hs : PlainIx b := by first | exact fun _ _ => rfl) : EX X H0 M (.Subscript a b pos) env r :=
  pe_weak (pe_ix ho ha hb hs) fun σ H Q ⟨N, O, ok, k⟩ => two ok fun v w H2 ok2 e r1 r2 => h N O σ H H2 v w Q ok2 e r1 r2 fun z H3 e3 r3 => k z H3 (e.trans e3) r3

theorem r2_ii {g : Int → Int → Int} {i j : Int} : Rd2 X H0 M env (.d (.int i)) (.d (.int j)) (.d (.int (g i j))) (rI0 fun i j => .int (g i j)) := fun N O σ H H2 v w Q ok e r1 r2 k => by
  cases r1.isI
  cases r2.isI
  exact ⟨i, j, rfl, rfl, k _ H2 (Same.refl _) (.int _)⟩
theorem r2_ib {g : Int → Int → Bool} {i j : Int} : Rd2 X H0 M env (.d (.int i)) (.d (.int j)) (.d (.bl (g i j))) (rI0 fun i j => .bl (g i j)) := fun N O σ H H2 v w Q ok e r1 r2 k => by
  cases r1.isI
  cases r2.isI
  exact ⟨i, j, rfl, rfl, k _ H2 (Same.refl _) (.bl _)⟩
theorem ex_add {i j : Int} (ha : EX X H0 M a env (.d (.int i))) (hb : EX X H0 M b env (.d (.int j))) : EX X H0 M (.BinOp a .Add b pos) env (.d (.int (i + j))) := ex_bin op_add ha hb r2_ii
theorem ex_sub {i j : Int} (ha : EX X H0 M a env (.d (.int i))) (hb : EX X H0 M b env (.d (.int j))) : EX X H0 M (.BinOp a .Sub b pos) env (.d (.int (i - j))) := ex_bin op_sub ha hb r2_ii

/-! ### scalars -/
def D.sc : D → Bool
  | .non => true
  | .bl _ => true
  | .int _ => true
  | .str _ => true
  | _ => false
def D.toV : D → V
  | .non => .non
  | .bl b => .bl b
  | .int i => .int i
  | .str s => .str s
  | _ => .non
theorem D.flatV {d : D} (h : d.sc = true) : L2.flatV d.toV = true := by
  cases d <;> first | rfl | cases h
theorem R.toV {K : PySem.W.Frag} {H : Hp} {N : Addr → Prop} {v : V} {d : D} (r : R K H N v d) (h : d.sc = true) : v = d.toV := by
  cases r <;> first | rfl | cases h
theorem RA.toV {K : PySem.W.Frag} {H : Hp} {N : Addr → Prop} : ∀ {vs : List V} {ds : List D}, RA K H N vs ds → ds.all D.sc = true → vs = ds.map D.toV
  | _, _, .nil, _ => rfl
  | _, _, .cons a b, h => by
    simp only [List.all_cons, Bool.and_eq_true] at h
    rw [List.map_cons, ← a.toV h.1, ← RA.toV b h.2]
theorem flatV_all : ∀ {ds : List D}, ds.all D.sc = true → (ds.map D.toV).all L2.flatV = true
  | [], _ => rfl
  | d :: ds, h => by
    simp only [List.all_cons, Bool.and_eq_true] at h
    rw [List.map_cons, List.all_cons, D.flatV h.1, flatV_all h.2]
    rfl

/-! ### comparisons -/
theorem et_lt {i j : Int} (ha : EX X H0 M a env (.d (.int i))) (hb : EX X H0 M b env (.d (.int j))) : ET X H0 M (.Compare a [.Lt] [b] pos) env (decide (i < j)) := et_cmp op_lt ha hb (r2_ib (g := fun i j => decide (i < j))) (nomark _)
theorem et_le {i j : Int} (ha : EX X H0 M a env (.d (.int i))) (hb : EX X H0 M b env (.d (.int j))) : ET X H0 M (.Compare a [.LtE] [b] pos) env (decide (i ≤ j)) := et_cmp op_le ha hb (r2_ib (g := fun i j => decide (i ≤ j))) (nomark _)
theorem et_gt {i j : Int} (ha : EX X H0 M a env (.d (.int i))) (hb : EX X H0 M b env (.d (.int j))) : ET X H0 M (.Compare a [.Gt] [b] pos) env (decide (j < i)) := et_cmp op_gt ha hb (r2_ib (g := fun i j => decide (j < i))) (nomark _)
theorem et_ge {i j : Int} (ha : EX X H0 M a env (.d (.int i))) (hb : EX X H0 M b env (.d (.int j))) : ET X H0 M (.Compare a [.GtE] [b] pos) env (decide (j ≤ i)) := et_cmp op_ge ha hb (r2_ib (g := fun i j => decide (j ≤ i))) (nomark _)
theorem ex_lt {i j : Int} (ha : EX X H0 M a env (.d (.int i))) (hb : EX X H0 M b env (.d (.int j))) : EX X H0 M (.Compare a [.Lt] [b] pos) env (.d (.bl (decide (i < j)))) := ex_cmp op_lt ha hb (r2_ib (g := fun i j => decide (i < j))) (nomark _)
theorem ex_le {i j : Int} (ha : EX X H0 M a env (.d (.int i))) (hb : EX X H0 M b env (.d (.int j))) : EX X H0 M (.Compare a [.LtE] [b] pos) env (.d (.bl (decide (i ≤ j)))) := ex_cmp op_le ha hb (r2_ib (g := fun i j => decide (i ≤ j))) (nomark _)
theorem ex_gt {i j : Int} (ha : EX X H0 M a env (.d (.int i))) (hb : EX X H0 M b env (.d (.int j))) : EX X H0 M (.Compare a [.Gt] [b] pos) env (.d (.bl (decide (j < i)))) := ex_cmp op_gt ha hb (r2_ib (g := fun i j => decide (j < i))) (nomark _)
theorem ex_ge {i j : Int} (ha : EX X H0 M a env (.d (.int i))) (hb : EX X H0 M b env (.d (.int j))) : EX X H0 M (.Compare a [.GtE] [b] pos) env (.d (.bl (decide (j ≤ i)))) := ex_cmp op_ge ha hb (r2_ib (g := fun i j => decide (j ≤ i))) (nomark _)
/-- == of two ints, two bools, two texts -/
theorem r2_eqS {d d' : D} (h : scal d.toV d'.toV = true) (s1 : d.sc = true) (s2 : d'.sc = true) : Rd2 X H0 M env (.d d) (.d d') (.d (.bl (decide (d.toV = d'.toV)))) rEq := fun N O σ H H2 v w Q ok e r1 r2 k => by
  rw [R.toV (show R X.K H2 N v d from r1) s1, R.toV (show R X.K H2 N w d' from r2) s2]
  exact ⟨h, k _ H2 (Same.refl _) (.bl _)⟩
theorem r2_neS {d d' : D} (h : scal d.toV d'.toV = true) (s1 : d.sc = true) (s2 : d'.sc = true) : Rd2 X H0 M env (.d d) (.d d') (.d (.bl (!decide (d.toV = d'.toV)))) rNe := fun N O σ H H2 v w Q ok e r1 r2 k => by
  rw [R.toV (show R X.K H2 N v d from r1) s1, R.toV (show R X.K H2 N w d' from r2) s2]
  exact ⟨h, k _ H2 (Same.refl _) (.bl _)⟩
theorem dec_V_int {i j : Int} : decide (D.toV (.int i) = D.toV (.int j)) = decide (i = j) := by
  by_cases h : i = j
  · subst h
    simp
  · have : ¬ D.toV (.int i) = D.toV (.int j) := fun z => h (V.int.inj z)
    rw [decide_eq_false this, decide_eq_false h]
theorem dec_V_bl {i j : Bool} : decide (D.toV (.bl i) = D.toV (.bl j)) = (i == j) := by cases i <;> cases j <;> decide
theorem et_eqI {i j : Int} (ha : EX X H0 M a env (.d (.int i))) (hb : EX X H0 M b env (.d (.int j))) : ET X H0 M (.Compare a [.Eq] [b] pos) env (decide (i = j)) := (et_cmp op_eq ha hb (r2_eqS rfl rfl rfl) (nomark _)).to dec_V_int
theorem ex_eqI {i j : Int} (ha : EX X H0 M a env (.d (.int i))) (hb : EX X H0 M b env (.d (.int j))) : EX X H0 M (.Compare a [.Eq] [b] pos) env (.d (.bl (decide (i = j)))) := (ex_cmp op_eq ha hb (r2_eqS rfl rfl rfl) (nomark _)).to (by rw [dec_V_int])
theorem et_neI {i j : Int} (ha : EX X H0 M a env (.d (.int i))) (hb : EX X H0 M b env (.d (.int j))) : ET X H0 M (.Compare a [.NotEq] [b] pos) env (!decide (i = j)) := (et_cmp op_ne ha hb (r2_neS rfl rfl rfl) (nomark _)).to (by rw [dec_V_int])
theorem ex_neI {i j : Int} (ha : EX X H0 M a env (.d (.int i))) (hb : EX X H0 M b env (.d (.int j))) : EX X H0 M (.Compare a [.NotEq] [b] pos) env (.d (.bl (!decide (i = j)))) := (ex_cmp op_ne ha hb (r2_neS rfl rfl rfl) (nomark _)).to (by rw [dec_V_int])
theorem et_eqB {i j : Bool} (ha : EX X H0 M a env (.d (.bl i))) (hb : EX X H0 M b env (.d (.bl j))) : ET X H0 M (.Compare a [.Eq] [b] pos) env (i == j) := (et_cmp op_eq ha hb (r2_eqS rfl rfl rfl) (nomark _)).to dec_V_bl
theorem ex_eqB {i j : Bool} (ha : EX X H0 M a env (.d (.bl i))) (hb : EX X H0 M b env (.d (.bl j))) : EX X H0 M (.Compare a [.Eq] [b] pos) env (.d (.bl (i == j))) := (ex_cmp op_eq ha hb (r2_eqS rfl rfl rfl) (nomark _)).to (by rw [dec_V_bl])
theorem et_neB {i j : Bool} (ha : EX X H0 M a env (.d (.bl i))) (hb : EX X H0 M b env (.d (.bl j))) : ET X H0 M (.Compare a [.NotEq] [b] pos) env (!(i == j)) := (et_cmp op_ne ha hb (r2_neS rfl rfl rfl) (nomark _)).to (by rw [dec_V_bl])
theorem ex_neB {i j : Bool} (ha : EX X H0 M a env (.d (.bl i))) (hb : EX X H0 M b env (.d (.bl j))) : EX X H0 M (.Compare a [.NotEq] [b] pos) env (.d (.bl (!(i == j)))) := (ex_cmp op_ne ha hb (r2_neS rfl rfl rfl) (nomark _)).to (by rw [dec_V_bl])
/-- is None -/
def D.isN : D → Bool
  | .non => true
  | _ => false
theorem R.isN {K : PySem.W.Frag} {H : Hp} {N : Addr → Prop} {v : V} {d : D} (r : R K H N v d) : decide (v = .non) = d.isN := by cases r <;> simp [D.isN]
theorem r2_isN {d : D} : Rd2 X H0 M env (.d d) (.d .non) (.d (.bl d.isN)) (fun x y H Q => y = .non ∧ Q (.bl (decide (x = .non))) H) := fun N O σ H H2 v w Q ok e r1 r2 k => by
  cases (show R X.K H2 N w .non from r2)
  rw [R.isN (show R X.K H2 N v d from r1)]
  exact ⟨rfl, k _ H2 (Same.refl _) (.bl _)⟩
theorem r2_notN {d : D} : Rd2 X H0 M env (.d d) (.d .non) (.d (.bl !d.isN)) (fun x y H Q => y = .non ∧ Q (.bl (!decide (x = .non))) H) := fun N O σ H H2 v w Q ok e r1 r2 k => by
  cases (show R X.K H2 N w .non from r2)
  rw [R.isN (show R X.K H2 N v d from r1)]
  exact ⟨rfl, k _ H2 (Same.refl _) (.bl _)⟩
theorem et_isN {d : D} (ha : EX X H0 M a env (.d d)) (hb : EX X H0 M b env (.d .non)) : ET X H0 M (.Compare a [.Is] [b] pos) env d.isN := et_cmp op_isN ha hb r2_isN (nomark _)
theorem ex_isN {d : D} (ha : EX X H0 M a env (.d d)) (hb : EX X H0 M b env (.d .non)) : EX X H0 M (.Compare a [.Is] [b] pos) env (.d (.bl d.isN)) := ex_cmp op_isN ha hb r2_isN (nomark _)
theorem et_notN {d : D} (ha : EX X H0 M a env (.d d)) (hb : EX X H0 M b env (.d .non)) : ET X H0 M (.Compare a [.IsNot] [b] pos) env (!d.isN) := et_cmp op_notN ha hb r2_notN (nomark _)
/-- in, of scalars -/
def inD (d : D) (ds : List D) : Bool := inV d.toV (ds.map D.toV)
theorem r2_in {neg : Bool} {d : D} {ds : List D} (hd : d.sc = true) (hs : ds.all D.sc = true) (hr : rb.v = .tup ds ∨ rb.v = .lst ds) : Rd2 X H0 M env (.d d) rb (.d (.bl (if neg then !inD d ds else inD d ds))) (rIn X.K neg) := fun N O σ H H2 v w Q ok e r1 r2 k => by
  have e1 := R.toV (show R X.K H2 N v d from r1) hd
  subst e1
  rcases hr with hr | hr
  · obtain ⟨p, vs, rfl, h1, h2⟩ := r2.titems hr
    have e2 := h2.toV hs
    subst e2
    exact ⟨p, _, rfl, .inr h1, D.flatV hd, flatV_all hs, k _ H2 (Same.refl _) (.bl _)⟩
  · obtain ⟨p, vs, rfl, h1, h2⟩ := r2.items hr
    have e2 := h2.toV hs
    subst e2
    exact ⟨p, _, rfl, .inl (SqL.of h1), D.flatV hd, flatV_all hs, k _ H2 (Same.refl _) (.bl _)⟩
theorem et_in {d : D} {ds : List D} (ha : EX X H0 M a env (.d d)) (hb : EX X H0 M b env rb) (hd : d.sc = true) (hs : ds.all D.sc = true) (hr : rb.v = .tup ds ∨ rb.v = .lst ds) (hm : behindInMarks .In b = false := by rfl) : ET X H0 M (.Compare a [.In] [b] pos) env (inD d ds) := et_cmp op_in_seq ha hb (r2_in (neg := false) hd hs hr) hm
theorem ex_in {d : D} {ds : List D} (ha : EX X H0 M a env (.d d)) (hb : EX X H0 M b env rb) (hd : d.sc = true) (hs : ds.all D.sc = true) (hr : rb.v = .tup ds ∨ rb.v = .lst ds) (hm : behindInMarks .In b = false := by rfl) : EX X H0 M (.Compare a [.In] [b] pos) env (.d (.bl (inD d ds))) := ex_cmp op_in_seq ha hb (r2_in (neg := false) hd hs hr) hm
theorem et_notIn {d : D} {ds : List D} (ha : EX X H0 M a env (.d d)) (hb : EX X H0 M b env rb) (hd : d.sc = true) (hs : ds.all D.sc = true) (hr : rb.v = .tup ds ∨ rb.v = .lst ds) (hm : behindInMarks .NotIn b = false := by rfl) : ET X H0 M (.Compare a [.NotIn] [b] pos) env (!inD d ds) := et_cmp op_notIn_seq ha hb (r2_in (neg := true) hd hs hr) hm
/-- in, of a dict -/
def hasD (k : Int) (ks : List Int) : Bool := decide (k ∈ ks)
theorem valV_ks {kvs : List (Key × V)} {ks : List Int} {k : Int} (h : kvs.map (·.1) = ks.map Sum.inl) : (valV kvs (Sum.inl k)).isSome = hasD k ks := by
  rw [← valV_any]
  induction kvs generalizing ks with
  | nil =>
    cases ks with
    | nil => simp [hasD]
    | cons a b => cases h
  | cons p r ih =>
    cases ks with
    | nil => cases h
    | cons a b =>
      obtain ⟨p1, p2⟩ := p
      simp only [List.map_cons, List.cons.injEq] at h
      obtain ⟨h1, h2⟩ := h
      subst h1
      rw [List.any_cons, ih h2]
      unfold hasD
      by_cases e : k = a
      · subst e
        simp
      · have e' : ¬ (Sum.inl a : Key) = Sum.inl k := fun z => e (Sum.inl.inj z).symm
        simp [e, e']
theorem tD_in {K : PySem.W.Frag} {N : Addr → Prop} {O : List (Option Addr)} {H H2 : Hp} {w : V} {ks : List Int} {ds : List D} {k : Int} (r2 : RR K N O H H2 w rb) (hr : rb.v = .dic ks ds) : ∃ a o, w = .ref a ∧ DGet H2 a (.int k) o ∧ o.isSome = hasD k ks := by
  obtain ⟨a, kvs, rfl, h1, h2, h3⟩ := r2.ditems hr
  exact ⟨a, _, rfl, .inl ⟨kvs, Sum.inl k, h1, rfl, rfl⟩, valV_ks h2⟩
theorem pe_din (hu : X.A.units + 1 < cLine) (ha : EX X H0 M a env (.d (.int k))) (hb : EX X H0 M b env rb) {ks : List Int} {ds : List D} (hr : rb.v = .dic ks ds) : PC X .In a b (tEX X.K H0 M env (.d (.bl (hasD k ks)))) := by
  have h := pc_din hu ha hb
  refine ⟨fun pins s σ H Q I q => h.run pins s σ H Q I ?_⟩
  obtain ⟨N, O, ok, q⟩ := q
  refine two ok fun v w H2 ok2 e r1 r2 => ?_
  cases r1.isI
  obtain ⟨p, o, rfl, h1, h2⟩ := tD_in (k := k) r2 hr
  exact ⟨p, o, rfl, h1, by rw [h2]; exact q _ _ e (.bl _)⟩
theorem pe_dnotin (hu : X.A.units + 1 < cLine) (ha : EX X H0 M a env (.d (.int k))) (hb : EX X H0 M b env rb) {ks : List Int} {ds : List D} (hr : rb.v = .dic ks ds) : PC X .NotIn a b (tEX X.K H0 M env (.d (.bl (!hasD k ks)))) := by
  have h := pc_dnotin hu ha hb
  refine ⟨fun pins s σ H Q I q => h.run pins s σ H Q I ?_⟩
  obtain ⟨N, O, ok, q⟩ := q
  refine two ok fun v w H2 ok2 e r1 r2 => ?_
  cases r1.isI
  obtain ⟨p, o, rfl, h1, h2⟩ := tD_in (k := k) r2 hr
  exact ⟨p, o, rfl, h1, by rw [h2]; exact q _ _ e (.bl _)⟩
theorem tB_of {t : Bool} {σ : L2.St} {H : Hp} {Q : Bool → Hp → Prop} (h : tET X.K H0 M env t σ H Q) : tB (tEX X.K H0 M env (.d (.bl t))) σ H Q := by
  obtain ⟨N, O, ok, k⟩ := h
  refine ⟨N, O, ok, fun v H' e r => ?_⟩
  cases r.isB
  exact ⟨t, rfl, k H' e⟩
theorem ex_dIn (hu : X.A.units + 1 < cLine) {k : Int} (ha : EX X H0 M a env (.d (.int k))) (hb : EX X H0 M b env rb) {ks : List Int} {ds : List D} (hr : rb.v = .dic ks ds) (hm : behindInMarks .In b = false := by rfl) : EX X H0 M (.Compare a [.In] [b] pos) env (.d (.bl (hasD k ks))) := pe_cmp (pe_din hu ha hb hr) hm
theorem et_dIn (hu : X.A.units + 1 < cLine) {k : Int} (ha : EX X H0 M a env (.d (.int k))) (hb : EX X H0 M b env rb) {ks : List Int} {ds : List D} (hr : rb.v = .dic ks ds) (hm : behindInMarks .In b = false := by rfl) : ET X H0 M (.Compare a [.In] [b] pos) env (hasD k ks) := pt_weak (pt_cmp (pe_din hu ha hb hr) hm) fun _ _ _ => tB_of
theorem ex_dNotIn (hu : X.A.units + 1 < cLine) {k : Int} (ha : EX X H0 M a env (.d (.int k))) (hb : EX X H0 M b env rb) {ks : List Int} {ds : List D} (hr : rb.v = .dic ks ds) (hm : behindInMarks .NotIn b = false := by rfl) : EX X H0 M (.Compare a [.NotIn] [b] pos) env (.d (.bl (!hasD k ks))) := pe_cmp (pe_dnotin hu ha hb hr) hm
theorem et_dNotIn (hu : X.A.units + 1 < cLine) {k : Int} (ha : EX X H0 M a env (.d (.int k))) (hb : EX X H0 M b env rb) {ks : List Int} {ds : List D} (hr : rb.v = .dic ks ds) (hm : behindInMarks .NotIn b = false := by rfl) : ET X H0 M (.Compare a [.NotIn] [b] pos) env (!hasD k ks) := pt_weak (pt_cmp (pe_dnotin hu ha hb hr) hm) fun _ _ _ => tB_of
/-- a bool as a test -/
theorem et_val (h : EX X H0 M e env (.d (.bl x))) (he : ∀ whole, isTrue e X.env whole = (do let v ← whole; standAt e.pos; holding [v] (truthy v)) := by intro _; rfl) : ET X H0 M e env x := pt_weak (pt_val h he) fun _ _ _ => tB_of

/-! ### and, or, not, if -/
theorem et_not (h : ET X H0 M a env x) : ET X H0 M (.UnaryOp .Not a pos) env (!x) := pt_weak (pt_not h) fun σ H Q ⟨N, O, ok, k⟩ => ⟨N, O, ok, k⟩
theorem ex_not (h : EX X H0 M a env (.d (.bl x))) : EX X H0 M (.UnaryOp .Not a pos) env (.d (.bl !x)) := pe_weak (pe_not h) fun σ H Q ⟨N, O, ok, k⟩ => ⟨N, O, ok, fun v H' e r => by
  cases r.isB
  exact ⟨x, rfl, k _ H' e (.bl _)⟩⟩
theorem ew_and1 (h : ET X H0 M a env x) : EW X H0 M (.BoolOp .And [a] pos) env x := pw_and1 h
theorem ew_or1 (h : ET X H0 M a env x) : EW X H0 M (.BoolOp .Or [a] pos) env x := pw_or1 h
theorem ew_and (h : ET X H0 M a env x) (k : x = true → EW X H0 M (.BoolOp .And (b :: es) pos) env y) : EW X H0 M (.BoolOp .And (a :: b :: es) pos) env (x && y) :=
  pw_weak (pw_and h (pw_if k)) fun σ H Q ⟨N, O, ok, q⟩ => ⟨N, O, ok, fun H' e => by
    cases x with
    | true =>
      rw [if_pos rfl]
      exact ⟨rfl, N, O, ok.mono e, fun H2 e2 => q H2 (e.trans e2)⟩
    | false =>
      rw [if_neg Bool.false_ne_true]
      exact q H' e⟩
theorem ew_or (h : ET X H0 M a env x) (k : x = false → EW X H0 M (.BoolOp .Or (b :: es) pos) env y) : EW X H0 M (.BoolOp .Or (a :: b :: es) pos) env (x || y) :=
  pw_weak (pw_or h (pw_if k)) fun σ H Q ⟨N, O, ok, q⟩ => ⟨N, O, ok, fun H' e => by
    cases x with
    | false =>
      rw [if_neg Bool.false_ne_true]
      exact ⟨rfl, N, O, ok.mono e, fun H2 e2 => q H2 (e.trans e2)⟩
    | true =>
      rw [if_pos rfl]
      exact q H' e⟩
theorem et_w (h : EW X H0 M e env x) : ET X H0 M e env x := h.pt
theorem ex_one {op} (h : EX X H0 M a env r) : EX X H0 M (.BoolOp op [a] pos) env r := pe_one h
theorem ex_and (h : EX X H0 M a env (.d (.bl x))) (k : x = true → EX X H0 M (.BoolOp .And (b :: es) pos) env (.d (.bl y))) : EX X H0 M (.BoolOp .And (a :: b :: es) pos) env (.d (.bl (x && y))) :=
  pe_weak (pe_and h (pe_if k)) fun σ H Q ⟨N, O, ok, q⟩ => ⟨N, O, ok, fun v H' e r => by
    cases r.isB
    refine ⟨x, rfl, ?_⟩
    cases x with
    | true =>
      rw [if_pos rfl]
      exact ⟨rfl, N, O, ok.mono e, fun w H2 e2 r2 => q w H2 (e.trans e2) (r2.back e)⟩
    | false =>
      rw [if_neg Bool.false_ne_true]
      exact q _ H' e (.bl _)⟩
theorem ex_or (h : EX X H0 M a env (.d (.bl x))) (k : x = false → EX X H0 M (.BoolOp .Or (b :: es) pos) env (.d (.bl y))) : EX X H0 M (.BoolOp .Or (a :: b :: es) pos) env (.d (.bl (x || y))) :=
  pe_weak (pe_or h (pe_if k)) fun σ H Q ⟨N, O, ok, q⟩ => ⟨N, O, ok, fun v H' e r => by
    cases r.isB
    refine ⟨x, rfl, ?_⟩
    cases x with
    | false =>
      rw [if_neg Bool.false_ne_true]
      exact ⟨rfl, N, O, ok.mono e, fun w H2 e2 r2 => q w H2 (e.trans e2) (r2.back e)⟩
    | true =>
      rw [if_pos rfl]
      exact q _ H' e (.bl _)⟩
theorem ex_ifE (h : ET X H0 M c env x) (h1 : x = true → EX X H0 M a env r) (h2 : x = false → EX X H0 M b env r) : EX X H0 M (.IfExp c a b pos) env r :=
  pe_weak (pe_ifExp h (pe_if h1) (pe_if h2)) fun σ H Q ⟨N, O, ok, q⟩ => ⟨N, O, ok, fun H' e => by
    cases x with
    | true =>
      rw [if_pos rfl]
      exact ⟨rfl, N, O, ok.mono e, fun w H2 e2 r2 => q w H2 (e.trans e2) (r2.back e)⟩
    | false =>
      rw [if_neg Bool.false_ne_true]
      exact ⟨rfl, N, O, ok.mono e, fun w H2 e2 r2 => q w H2 (e.trans e2) (r2.back e)⟩⟩
/-- a ≤ b ≤ c, of ints -/
theorem ex_chain {op op' : CmpOp} {g g' : Int → Int → Bool} {i j k : Int} (ho : OpR X (compareOp op) (rI0 fun i j => .bl (g i j))) (ho' : OpR X (compareOp op') (rI0 fun i j => .bl (g' i j))) (ha : EX X H0 M a env (.d (.int i))) (hb : EX X H0 M b env (.d (.int j)))
    (hc : g i j = true → EX X H0 M c env (.d (.int k))) (hm : lastMarks [op, op'] [b, c] = false := by rfl) : EX X H0 M (.Compare a [op, op'] [b, c] pos) env (.d (.bl (g i j && g' j k))) :=
  pe_weak (pe_chain ho ho' ha hb (pe_if hc) hm) fun σ H Q ⟨N, O, ok, q⟩ => two ok fun v w H2 ok2 e r1 r2 => by
    cases r1.isI
    cases r2.isI
    refine ⟨i, j, rfl, rfl, g i j, rfl, ?_⟩
    cases hg : g i j with
    | true =>
      rw [if_pos rfl]
      refine ⟨rfl, N, O, ok2, fun z H3 e3 r3 => ?_⟩
      cases r3.isI
      refine ⟨j, k, rfl, rfl, ?_⟩
      have z := q (.bl (g i j && g' j k)) H3 (e.trans e3) (.bl _)
      rw [hg] at z
      exact z
    | false =>
      rw [if_neg Bool.false_ne_true]
      have z := q (.bl (g i j && g' j k)) H2 e (.bl _)
      rw [hg] at z
      exact z

/-! ### arguments, displays -/
theorem ea_nil : EA X H0 M [] env [] := pa_weak pa_nil fun σ H Q ⟨N, O, ok, k⟩ => k _ H (Same.refl _) .nil
theorem rrs_same {K : PySem.W.Frag} {N : Addr → Prop} {O : List (Option Addr)} {H H1 H2 : Hp} (e : Same H1 H2) : ∀ {vs : List V} {rs : List Res}, RRs K N O H H1 vs rs → RRs K N O H H2 vs rs
  | _, _, .nil => .nil
  | _, _, .cons a b => .cons (a.same e) (rrs_same e b)
theorem rrs_back {K : PySem.W.Frag} {N : Addr → Prop} {O : List (Option Addr)} {H H1 H2 : Hp} (e : Same H H1) : ∀ {vs : List V} {rs : List Res}, RRs K N O H1 H2 vs rs → RRs K N O H H2 vs rs
  | _, _, .nil => .nil
  | _, _, .cons a b => .cons (a.back e) (rrs_back e b)
theorem ea_cons {rs : List Res} (h : EX X H0 M e env r) (ht : EA X H0 M es env rs) (hs : starEach (e :: es) X.env = (false, eval e X.env) :: starEach es X.env := by rfl) : EA X H0 M (e :: es) env (r :: rs) :=
  pa_weak (pa_cons h ht hs) fun σ H Q ⟨N, O, ok, k⟩ => ⟨N, O, ok, fun v H1 e1 r1 => ⟨N, O, ok.mono e1, fun vs H2 e2 r2 => k _ H2 (e1.trans e2) (.cons (r1.same e2) (rrs_back e1 r2))⟩⟩
theorem rrs_keep {K : PySem.W.Frag} {N : Addr → Prop} {O : List (Option Addr)} {H H1 : Hp} : ∀ {vs : List V} {rs : List Res}, RRs K N O H H1 vs rs → rs.all Res.per = true → RA K H1 N vs (rs.map Res.v)
  | _, _, .nil, _ => .nil
  | _, _, .cons a b, h => by
    simp only [List.all_cons, Bool.and_eq_true] at h
    exact .cons (a.keep h.1) (rrs_keep b h.2)
theorem rrs_any {K : PySem.W.Frag} {N : Addr → Prop} {O : List (Option Addr)} {H H1 : Hp} : ∀ {vs : List V} {rs : List Res}, RRs K N O H H1 vs rs → RA K H1 (fun _ => True) vs (rs.map Res.v)
  | _, _, .nil => .nil
  | _, _, .cons a b => .cons a.any (rrs_any b)
theorem rrs_len {K : PySem.W.Frag} {N : Addr → Prop} {O : List (Option Addr)} {H H1 : Hp} : ∀ {vs : List V} {rs : List Res}, RRs K N O H H1 vs rs → vs.length = rs.length
  | _, _, .nil => rfl
  | _, _, .cons a b => by simp [rrs_len b]
theorem small {n : Nat} (h : n ≤ 100000) : n ≤ sizeLine := Nat.le_trans h (by decide)
theorem ex_tup {rs : List Res} {k} (h : EA X H0 M es env rs) (hp : rs.all Res.per = true := by rfl) (hl : rs.length ≤ 100000 := by exact Nat.le_of_ble_eq_true rfl) : EX X H0 M (.Tuple es k pos) env (.d (.tup (rs.map Res.v))) :=
  pe_weak (pe_tup h) fun σ H Q ⟨N, O, ok, k⟩ => ⟨N, O, ok, fun vs H1 e1 r1 => ⟨small (by rw [rrs_len r1]; exact hl), fun p hp' => k _ _ (e1.trans (same_new hp')) (.tup (SqT.of upd_same) ((rrs_keep r1 hp).same (same_new hp')))⟩⟩
theorem new_lst {K : PySem.W.Frag} {N : Addr → Prop} {σ : L2.St} {O : List (Option Addr)} {H H1 : Hp} {vs : List V} {ds : List D} {p : Addr} (ok : Ok K H0 M N σ H env O) (e1 : Same H H1) (hp : H1 p = none) (r : RA K H1 N vs ds) : RR K N O H (L2.upd H1 p (.lst vs)) (.ref p) (.new (.lst ds)) :=
  ⟨p, rfl, e1.free hp, ok.nf p (e1.free hp), vs, upd_same, (r.avoid hp).same (same_new hp)⟩
theorem ex_lst {rs : List Res} (h : EA X H0 M es env rs) (hp : rs.all Res.per = true := by rfl) (hl : rs.length ≤ 100000 := by exact Nat.le_of_ble_eq_true rfl) : EX X H0 M (.List es pos) env (.new (.lst (rs.map Res.v))) :=
  pe_weak (pe_lst h) fun σ H Q ⟨N, O, ok, k⟩ => ⟨N, O, ok, fun vs H1 e1 r1 => ⟨small (by rw [rrs_len r1]; exact hl), fun p hp' => k _ _ (e1.trans (same_new hp')) (new_lst ok e1 hp' (rrs_keep r1 hp))⟩⟩

/-! ### built-in calls -/
def RdC (X : Cx) (H0 : Hp) (M : Addr → Prop) (env : Ev) (rs : List Res) (r : Res) (rd : List V → Hp → VK → Prop) : Prop := ∀ (N : Addr → Prop) (O : List (Option Addr)) (σ : L2.St) (H H2 : Hp) (vs : List V) (Q : VK), Ok X.K H0 M N σ H2 env O → Same H H2 → RRs X.K N O H H2 vs rs →
  (∀ z H3, Same H2 H3 → RR X.K N O H H3 z r → Q z H3) → rd vs H2 Q
theorem ex_callB {id : String} {n : Str} {p : Pos} {rs : List Res} {rd : List V → Hp → VK → Prop} (hc : CallR X (.builtin id) rd) (hm : X.mg n = none) (ha : EA X H0 M (e :: es) env rs) (h : RdC X H0 M env rs r rd) (hg : Gl X n := by rfl) (hv : bootBuiltins n = some (.builtin id) := by decide +kernel)
    (hn : n ≠ "__name__" := by decide) (hdb : (n == ("__debug__" : Str)) = false := by decide)
    (he : starEach (e :: es) X.env = (false, eval e X.env) :: starEach es X.env := by rfl) (hpl : (backTo pos (starEach es X.env)).any (·.1) = false := by rfl) : EX X H0 M (.Call (.Name n p) (e :: es) [] pos) env r :=
  pe_weak (pe_callB hc hg hm hv ha hn hdb he hpl) fun σ H Q ⟨N, O, ok, k⟩ => ⟨N, O, ok, fun vs H1 e1 r1 => h N O σ H H1 vs Q (ok.mono e1) e1 r1 fun z H3 e3 r3 => k z H3 (e1.trans e3) r3⟩
theorem ex_callTy {id : String} {n : Str} {p : Pos} {rs : List Res} {rd : List V → Hp → VK → Prop} (hc : CallR X (.type id) rd) (hm : X.mg n = none) (ha : EA X H0 M (e :: es) env rs) (h : RdC X H0 M env rs r rd) (hg : Gl X n := by rfl) (hv : bootBuiltins n = some (.type id) := by decide +kernel)
    (hn : n ≠ "__name__" := by decide) (hdb : (n == ("__debug__" : Str)) = false := by decide)
    (he : starEach (e :: es) X.env = (false, eval e X.env) :: starEach es X.env := by rfl) (hpl : (backTo pos (starEach es X.env)).any (·.1) = false := by rfl) : EX X H0 M (.Call (.Name n p) (e :: es) [] pos) env r :=
  pe_weak (pe_callTy hc hg hm hv ha hn hdb he hpl) fun σ H Q ⟨N, O, ok, k⟩ => ⟨N, O, ok, fun vs H1 e1 r1 => h N O σ H H1 vs Q (ok.mono e1) e1 r1 fun z H3 e3 r3 => k z H3 (e1.trans e3) r3⟩
theorem rrs1 {K : PySem.W.Frag} {N : Addr → Prop} {O : List (Option Addr)} {H H1 : Hp} {vs : List V} (h : RRs K N O H H1 vs [r]) : ∃ v, vs = [v] ∧ RR K N O H H1 v r := by
  cases h with
  | cons a b =>
    cases b
    exact ⟨_, rfl, a⟩
theorem rrs2 {K : PySem.W.Frag} {N : Addr → Prop} {O : List (Option Addr)} {H H1 : Hp} {vs : List V} (h : RRs K N O H H1 vs [ra, rb]) : ∃ v w, vs = [v, w] ∧ RR K N O H H1 v ra ∧ RR K N O H H1 w rb := by
  cases h with
  | cons a b =>
    obtain ⟨w, e, h2⟩ := rrs1 b
    subst e
    exact ⟨_, w, rfl, a, h2⟩
/-- items of a list or a tuple -/
def D.seq : D → List D → Prop := fun d ds => d = .lst ds ∨ d = .tup ds
theorem rr_seq {K : PySem.W.Frag} {N : Addr → Prop} {O : List (Option Addr)} {H H1 : Hp} {v : V} {ds : List D} (h : RR K N O H H1 v r) (hr : D.seq r.v ds) : ∃ a vs, v = .ref a ∧ (SqL K H1 a vs ∨ SqT K H1 a vs) ∧ RA K H1 N vs ds := by
  rcases hr with hr | hr
  · obtain ⟨a, vs, h1, h2, h3⟩ := h.items hr
    exact ⟨a, vs, h1, .inl (SqL.of h2), h3⟩
  · obtain ⟨a, vs, h1, h2, h3⟩ := h.titems hr
    exact ⟨a, vs, h1, .inr h2, h3⟩
theorem ex_len {p : Pos} {ds : List D} (hm : X.mg "len" = none) (ha : EX X H0 M a env ra) (hr : D.seq ra.v ds) (hg : Gl X "len" := by rfl) (hs : starEach [a] X.env = (false, eval a X.env) :: starEach [] X.env := by rfl) : EX X H0 M (.Call (.Name "len" p) [a] [] pos) env (.d (.int (ds.length : Int))) :=
  ex_callB call_len_seq hm (ea_cons ha ea_nil hs) (fun N O σ H H2 vs Q ok e r k => by
    obtain ⟨v, rfl, r1⟩ := rrs1 r
    obtain ⟨q, ws, rfl, h1, h2⟩ := rr_seq r1 hr
    exact ⟨q, ws, rfl, h1, by rw [h2.length]; exact k _ H2 (Same.refl _) (.int _)⟩) hg PySem.boot_len (he := hs)
theorem ex_tupleOf {p : Pos} {ds : List D} (hm : X.mg "tuple" = none) (ha : EX X H0 M a env ra) (hr : D.seq ra.v ds) (hg : Gl X "tuple" := by rfl) (hs : starEach [a] X.env = (false, eval a X.env) :: starEach [] X.env := by rfl) : EX X H0 M (.Call (.Name "tuple" p) [a] [] pos) env (.d (.tup ds)) :=
  ex_callTy call_tuple_of hm (ea_cons ha ea_nil hs) (fun N O σ H H2 vs Q ok e r k => by
    obtain ⟨v, rfl, r1⟩ := rrs1 r
    rcases hr with hr | hr
    · obtain ⟨q, ws, rfl, h1, h2⟩ := r1.items hr
      exact ⟨q, ws, rfl, .inl ⟨SqL.of h1, fun l hl => k _ _ (same_new hl) (.tup (SqT.of upd_same) (h2.same (same_new hl)))⟩⟩
    · obtain ⟨q, ws, rfl, h1, h2⟩ := r1.titems hr
      exact ⟨q, ws, rfl, .inr ⟨h1, k _ H2 (Same.refl _) (.tup h1 h2)⟩⟩) hg (he := hs)
theorem ex_listOf {p : Pos} {ds : List D} (hm : X.mg "list" = none) (ha : EX X H0 M a env ra) (hr : D.seq ra.v ds) (hg : Gl X "list" := by rfl) (hs : starEach [a] X.env = (false, eval a X.env) :: starEach [] X.env := by rfl) : EX X H0 M (.Call (.Name "list" p) [a] [] pos) env (.new (.lst ds)) :=
  ex_callTy call_list_of hm (ea_cons ha ea_nil hs) (fun N O σ H H2 vs Q ok e r k => by
    obtain ⟨v, rfl, r1⟩ := rrs1 r
    obtain ⟨q, ws, rfl, h1, h2⟩ := rr_seq r1 hr
    exact ⟨q, ws, rfl, h1, fun l hl => k _ _ (same_new hl) ((new_lst ok (Same.refl _) hl h2).back e)⟩) hg (he := hs)
theorem ex_all {p : Pos} {bs : List Bool} (hc : X.calm = true) (hm : X.mg "all" = none) (ha : EX X H0 M a env ra) (hr : ra.v = .lst (bs.map D.bl)) (hg : Gl X "all" := by rfl) (hs : starEach [a] X.env = (false, eval a X.env) :: starEach [] X.env := by rfl) : EX X H0 M (.Call (.Name "all" p) [a] [] pos) env (.d (.bl (bs.all id))) :=
  ex_callB (cr_all hc) hm (ea_cons ha ea_nil hs) (fun N O σ H H2 vs Q ok e r k => by
    obtain ⟨v, rfl, r1⟩ := rrs1 r
    obtain ⟨q, ws, rfl, h1, h2⟩ := r1.items hr
    cases h2.bls
    exact ⟨q, bs, rfl, SqL.of h1, k _ H2 (Same.refl _) (.bl _)⟩) hg (he := hs)
theorem ex_any {p : Pos} {bs : List Bool} (hc : X.calm = true) (hm : X.mg "any" = none) (ha : EX X H0 M a env ra) (hr : ra.v = .lst (bs.map D.bl)) (hg : Gl X "any" := by rfl) (hs : starEach [a] X.env = (false, eval a X.env) :: starEach [] X.env := by rfl) : EX X H0 M (.Call (.Name "any" p) [a] [] pos) env (.d (.bl (bs.any id))) :=
  ex_callB (cr_any hc) hm (ea_cons ha ea_nil hs) (fun N O σ H H2 vs Q ok e r k => by
    obtain ⟨v, rfl, r1⟩ := rrs1 r
    obtain ⟨q, ws, rfl, h1, h2⟩ := r1.items hr
    cases h2.bls
    exact ⟨q, bs, rfl, SqL.of h1, k _ H2 (Same.refl _) (.bl _)⟩) hg (he := hs)

/-! ### items -/
theorem ex_item {ds : List D} {j : Nat} {i : Int} {d : D} (ha : EX X H0 M a env ra) (hb : EX X H0 M b env (.d (.int i))) (hr : D.seq ra.v ds) (hi : i = (j : Int)) (hj : ds[j]? = some d) (hs : PlainIx b := by first | exact fun _ _ => rfl) : EX X H0 M (.Subscript a b pos) env (.d d) :=
  ex_ix (ix_list.or ix_tup) ha hb (fun N O σ H H2 v w Q ok e r1 r2 k => by
    cases r2.isI
    subst hi
    rcases hr with hr | hr
    · obtain ⟨q, ws, rfl, h1, h2⟩ := r1.items hr
      obtain ⟨z, h3, h4⟩ := h2.get hj
      exact .inl ⟨q, ws, _, z, rfl, rfl, SqL.of h1, atI_nat h3, k _ H2 (Same.refl _) h4⟩
    · obtain ⟨q, ws, rfl, h1, h2⟩ := r1.titems hr
      obtain ⟨z, h3, h4⟩ := h2.get hj
      exact .inr ⟨q, ws, _, z, rfl, rfl, h1, atI_nat h3, k _ H2 (Same.refl _) h4⟩) hs
/-- d[k] -/
theorem valV_get {K : PySem.W.Frag} {H : Hp} {N : Addr → Prop} : ∀ {kvs : List (Key × V)} {ks : List Int} {ds : List D} {k : Int} {j : Nat} {d : D}, kvs.map (·.1) = ks.map Sum.inl → RA K H N (kvs.map (·.2)) ds → ks.Nodup → ks[j]? = some k → ds[j]? = some d →
    ∃ v, valV kvs (Sum.inl k) = some v ∧ R K H N v d
  | [], ks, _, _, _, _, h, r, _, hk, hd => by
    cases ks with
    | nil => simp at hk
    | cons a b => cases h
  | (p1, p2) :: kvs, ks, ds, k, j, d, h, r, nd, hk, hd => by
    cases ks with
    | nil => simp at hk
    | cons a b =>
      simp only [List.map_cons, List.cons.injEq] at h
      obtain ⟨h1, h2⟩ := h
      subst h1
      cases r with
      | cons r1 r2 =>
        cases j with
        | zero =>
          simp only [List.getElem?_cons_zero, Option.some.injEq] at hk hd
          subst hk hd
          exact ⟨p2, valV_pos rfl, r1⟩
        | succ j =>
          simp only [List.getElem?_cons_succ] at hk hd
          obtain ⟨n1, n2⟩ := List.nodup_cons.mp nd
          obtain ⟨v, q1, q2⟩ := valV_get h2 r2 n2 hk hd
          refine ⟨v, ?_, q2⟩
          rw [valV_neg]
          · exact q1
          · intro z
            have z : a = k := Sum.inl.inj z
            exact n1 (by rw [z]; exact List.mem_of_getElem? hk)
theorem ex_dget {ks : List Int} {ds : List D} {k : Int} {j : Nat} {d : D} (hu : X.A.units + 1 < cLine) (ha : EX X H0 M a env ra) (hb : EX X H0 M b env (.d (.int k))) (hr : ra.v = .dic ks ds) (nd : ks.Nodup) (hk : ks[j]? = some k) (hd : ds[j]? = some d)
    (hs : NoSl b := by exact fun _ _ => rfl) : EX X H0 M (.Subscript a b pos) env (.d d) :=
  pe_weak (pe_dget hu ha hb hs) fun σ H Q ⟨N, O, ok, q⟩ => two ok fun v w H2 ok2 e r1 r2 => by
    cases r2.isI
    obtain ⟨p, kvs, rfl, h1, h2, h3⟩ := r1.ditems hr
    obtain ⟨z, h4, h5⟩ := valV_get h2 h3 nd hk hd
    exact ⟨p, z, rfl, .inl ⟨kvs, Sum.inl k, h1, rfl, h4.symm⟩, q _ _ e h5⟩

/-! ### lists and tuples put together -/
theorem ex_cat {ds es' : List D} (ha : EX X H0 M a env ra) (hb : EX X H0 M b env rb) (h1 : ra.v = .lst ds) (h2 : rb.v = .lst es') (hl : ds.length + es'.length ≤ 100000) : EX X H0 M (.BinOp a .Add b pos) env (.new (.lst (ds ++ es'))) :=
  ex_bin op_cat ha hb (fun N O σ H H2 v w Q ok e r1 r2 k => by
    obtain ⟨q1, vs, rfl, g1, g2⟩ := r1.items h1
    obtain ⟨q2, ws, rfl, g3, g4⟩ := r2.items h2
    refine ⟨q1, q2, vs, ws, rfl, rfl, g1, g3, small (by rw [g2.length, g4.length]; exact hl), fun p hp => ?_⟩
    exact k _ _ (same_new hp) ((new_lst ok (Same.refl _) hp (g2.append g4)).back e))
end
end Zb
/-! The data layer, 3: statements, targets, loops, comprehensions. -/
namespace Zb
open PySem PySem.Spec PyProof.Rows L2

section
variable {K : PySem.W.Frag} {H H' : Hp} {N N' : Addr → Prop} {p : Addr}
theorem sqt_fr (f : Fr N H N' H') {a : Addr} {xs : List V} (h : SqT K H a xs) : SqT K H' a xs := by
  rcases h with (h | ⟨o, h⟩) | h
  · exact .inl (.inl ((f _ _ h).2 rfl))
  · exact .inl (.inr ⟨o, (f _ _ h).2 rfl⟩)
  · exact .inr h
theorem rd_fr (f : Fr N H N' H') {a : Addr} {u : HO} (n : N a) (h : Rd H a u) : Rd H' a u := by
  rcases h with h | ⟨o, h⟩
  · exact .inl ((f _ _ h).1 n).1
  · exact .inr ⟨o, ((f _ _ h).1 n).1⟩
theorem rd_frN (f : Fr N H N' H') {a : Addr} {u : HO} (n : N a) (h : Rd H a u) : N' a := by
  rcases h with h | ⟨o, h⟩
  · exact ((f _ _ h).1 n).2
  · exact ((f _ _ h).1 n).2
mutual
theorem R.fr (f : Fr N H N' H') : ∀ {v : V} {d : D}, R K H N v d → R K H' N' v d
  | _, _, .non => .non
  | _, _, .bl b => .bl b
  | _, _, .int i => .int i
  | _, _, .str s => .str s
  | _, _, .tup s r => .tup (sqt_fr f s) (RA.fr f r)
  | _, _, .lst s h r => .lst ((f _ _ s).1 h).1 ((f _ _ s).1 h).2 (RA.fr f r)
  | _, _, .dic s h k r => .dic (rd_fr f h s) (rd_frN f h s) k (RA.fr f r)
theorem RA.fr (f : Fr N H N' H') : ∀ {vs : List V} {ds : List D}, RA K H N vs ds → RA K H' N' vs ds
  | _, _, .nil => .nil
  | _, _, .cons a b => .cons (R.fr f a) (RA.fr f b)
end
theorem OwnR.fr (f : Fr N H N' H') {x : D} (h : OwnR K H N p x) (e : H' p = H p) : OwnR K H' N' p x := by
  cases x with
  | lst ds => obtain ⟨vs, h1, h2⟩ := h; exact ⟨vs, e.trans h1, h2.fr f⟩
  | dic ks ds => obtain ⟨vs, h1, k, h2⟩ := h; exact ⟨vs, e.trans h1, k, h2.fr f⟩
  | _ => exact h.elim
end

/-- a thing of the def's own -/
def Res.fr : Res → Bool
  | .d _ => false
  | _ => true
/-- how a statement ends -/
inductive Out where
  | nx (env : Ev)
  | bk (env : Ev)
  | ct (env : Ev)
  | rt (fr : Bool) (x : D)
def Out.goes : Out → Bool
  | .nx _ => true
  | _ => false
/-- what is handed back: a thing of its own | data -/
def RetR (K : PySem.W.Frag) (H0 H' : Hp) (M : Addr → Prop) (v : V) (fr : Bool) (x : D) : Prop :=
  if fr = true then ∃ p, v = .ref p ∧ H0 p = none ∧ OwnR K H' M p x else R K H' M v x
def Post (K : PySem.W.Frag) (H0 : Hp) (M N : Addr → Prop) (H : Hp) (E : Ends) : Out → Prop
  | .nx env' => ∀ σ' H' N' O', Ok K H0 M N' σ' H' env' O' → Fr N H N' H' → E.nx σ' H'
  | .bk env' => ∀ σ' H' N' O', Ok K H0 M N' σ' H' env' O' → Fr N H N' H' → E.bk σ' H'
  | .ct env' => ∀ σ' H' N' O', Ok K H0 M N' σ' H' env' O' → Fr N H N' H' → E.ct σ' H'
  | .rt fr x => ∀ v H', Same H0 H' → RetR K H0 H' M v fr x → E.rt v H'
def tXS (K : PySem.W.Frag) (H0 : Hp) (M : Addr → Prop) (env : Ev) (out : Out) : TS := fun E σ H => ∃ N O, Ok K H0 M N σ H env O ∧ Post K H0 M N H E out
abbrev XS (X : Cx) (H0 : Hp) (M : Addr → Prop) (st : List Stmt) (env : Ev) (out : Out) : Prop := PSs X st (tXS X.K H0 M env out)
abbrev X1 (X : Cx) (H0 : Hp) (M : Addr → Prop) (st : Stmt) (env : Ev) (out : Out) : Prop := PS X st (tXS X.K H0 M env out)
theorem Post.fr {K : PySem.W.Frag} {H0 : Hp} {M N N1 : Addr → Prop} {H H1 : Hp} {E : Ends} {out : Out} (f : Fr N H N1 H1) (h : Post K H0 M N H E out) : Post K H0 M N1 H1 E out := by
  cases out with
  | nx e => exact fun σ' H' N' O' o g => h σ' H' N' O' o (f.trans g)
  | bk e => exact fun σ' H' N' O' o g => h σ' H' N' O' o (f.trans g)
  | ct e => exact fun σ' H' N' O' o g => h σ' H' N' O' o (f.trans g)
  | rt a b => exact h

section
variable {X : Cx} {H0 : Hp} {M : Addr → Prop} {env env1 env2 : Ev} {out out' : Out} {r ra rb rc : Res} {a b c e : Expr} {es : List Expr} {pos : Pos} {st : Stmt} {sts els : List Stmt} {x y : Bool}

theorem XS.to (h : XS X H0 M sts env out) (q : out = out') : XS X H0 M sts env out' := q ▸ h
theorem X1.to (h : X1 X H0 M st env out) (q : out = out') : X1 X H0 M st env out' := q ▸ h
theorem xs_nil : XS X H0 M [] env (.nx env) := pss_weak pss_nil fun E σ H ⟨N, O, ok, q⟩ => q σ H N O ok .refl
theorem xs_cons (h1 : X1 X H0 M st env (.nx env1)) (h2 : XS X H0 M sts env1 out) : XS X H0 M (st :: sts) env out :=
  pss_weak (pss_cons h1 h2) fun E σ H ⟨N, O, ok, q⟩ => ⟨N, O, ok, fun σ' H' N' O' ok' f => ⟨N', O', ok', q.fr f⟩⟩
theorem xs_stop (h1 : X1 X H0 M st env out) (ho : out.goes = false := by rfl) : XS X H0 M (st :: sts) env out :=
  pss_weak (pss_cons h1 pss_never) fun E σ H ⟨N, O, ok, q⟩ => ⟨N, O, ok, by
    cases out with
    | nx e => cases ho
    | bk e => exact q
    | ct e => exact q
    | rt a b => exact q⟩
theorem xs_one (h1 : X1 X H0 M st env out) : XS X H0 M [st] env out := pss_one h1
theorem x_pass : X1 X H0 M (.Pass pos) env (.nx env) := ps_weak ps_pass fun E σ H ⟨N, O, ok, q⟩ => q σ H N O ok .refl
theorem x_continue : X1 X H0 M (.Continue pos) env (.ct env) := ps_weak ps_continue fun E σ H ⟨N, O, ok, q⟩ => q σ H N O ok .refl
theorem x_break : X1 X H0 M (.Break pos) env (.bk env) := ps_weak ps_break fun E σ H ⟨N, O, ok, q⟩ => q σ H N O ok .refl
theorem x_ifT (hc : ET X H0 M c env true) (h : XS X H0 M sts env out) : X1 X H0 M (.If c sts els pos) env out :=
  ps_weak (ps_if hc h pss_never) fun E σ H ⟨N, O, ok, q⟩ => ⟨N, O, ok, fun H1 e => iteT ⟨N, O, ok.mono e, q.fr (.of_same e)⟩⟩
theorem x_ifF (hc : ET X H0 M c env false) (h : XS X H0 M els env out) : X1 X H0 M (.If c sts els pos) env out :=
  ps_weak (ps_if hc pss_never h) fun E σ H ⟨N, O, ok, q⟩ => ⟨N, O, ok, fun H1 e => iteF ⟨N, O, ok.mono e, q.fr (.of_same e)⟩⟩
theorem x_if (hc : ET X H0 M c env x) (h1 : x = true → XS X H0 M sts env out) (h2 : x = false → XS X H0 M els env out) : X1 X H0 M (.If c sts els pos) env out := by
  cases x with
  | true => exact x_ifT hc (h1 rfl)
  | false => exact x_ifF hc (h2 rfl)
/-- return -/
theorem ret_of {K : PySem.W.Frag} {N : Addr → Prop} {σ : L2.St} {O : List (Option Addr)} {H H' : Hp} {v : V} (ok : Ok K H0 M N σ H env O) (h : RR K N O H H' v r) : RetR K H0 H' M v r.fr r.v := by
  cases r with
  | d x => exact R.mono (Same.refl _) ok.nm h
  | new x =>
    obtain ⟨p, h1, h2, h3, h4⟩ := h
    exact ⟨p, h1, ok.ext.free h2, h4.mono (Same.refl _) fun a z => ok.nm a z.1⟩
  | al i x =>
    obtain ⟨p, h1, h2, h3⟩ := h
    exact ⟨p, h2, (ok.own i p h1).2.1, h3.mono (Same.refl _) ok.nm⟩
theorem x_ret (h : EX X H0 M e env r) : X1 X H0 M (.Return (some e) pos) env (.rt r.fr r.v) :=
  ps_weak (ps_ret h) fun E σ H ⟨N, O, ok, q⟩ => ⟨N, O, ok, fun v H' e1 r1 => q v H' (ok.ext.trans e1) (ret_of ok r1)⟩
theorem x_retD {d : D} (h : EX X H0 M e env (.d d)) : X1 X H0 M (.Return (some e) pos) env (.rt false d) := x_ret h
theorem x_retW {d : D} (h : EX X H0 M e env (.new d)) : X1 X H0 M (.Return (some e) pos) env (.rt true d) := x_ret h
theorem x_retO {d : D} {i : Nat} (h : EX X H0 M e env (.al i d)) : X1 X H0 M (.Return (some e) pos) env (.rt true d) := x_ret h
theorem x_retN : X1 X H0 M (.Return none pos) env (.rt false .non) := ps_weak ps_retN fun E σ H ⟨N, O, ok, q⟩ => q _ H ok.ext .non

/-! ### name = e -/
theorem x_set {n : Str} {p' : Pos} (i : Nat) (hN : X.N.Nodup) (h : EX X H0 M e env r) (hp : r.per = true := by rfl) (hi : X.N[i]? = some n := by rfl) (hx : Loc X.env.scope n := by first | exact Or.inl rfl | exact Or.inr rfl) (hs : swapsWith e (some (.Name n p')) pos.line X.env = pure false := by rfl)
    (hf : X.fn n = true ∨ X.env.scope.names.lookup n = some .local := by first | exact .inl rfl | exact .inr rfl) : X1 X H0 M (.Assign [.Name n p'] e pos) env (.nx (env.set i (.d r.v))) :=
  ps_weak (ps_set (i := i) hN hi hx h hs hf) fun E σ H ⟨N, O, ok, q⟩ => ⟨N, O, ok, fun v H' e1 r1 => q _ H' N (O.set i none) ((ok.mono e1).set_d (r1.keep hp)) (.of_same e1)⟩
theorem x_setO {n : Str} {p' : Pos} {d : D} (i : Nat) (hN : X.N.Nodup) (h : EX X H0 M e env (.new d)) (hl : i < env.length := by exact Nat.le_of_ble_eq_true rfl) (hi : X.N[i]? = some n := by rfl) (hx : Loc X.env.scope n := by first | exact Or.inl rfl | exact Or.inr rfl) (hs : swapsWith e (some (.Name n p')) pos.line X.env = pure false := by rfl)
    (hf : X.fn n = true ∨ X.env.scope.names.lookup n = some .local := by first | exact .inl rfl | exact .inr rfl) : X1 X H0 M (.Assign [.Name n p'] e pos) env (.nx (env.set i (.o d))) :=
  ps_weak (ps_set (i := i) hN hi hx h hs hf) fun E σ H ⟨N, O, ok, q⟩ => ⟨N, O, ok, fun v H' e1 r1 => by
    obtain ⟨p, rfl, h2, h3, h4⟩ := r1
    exact q _ H' _ _ (Ok.set_o (by rw [← ok.len]; exact hl) ok e1 h2 h4) (.own e1 h2)⟩
/-- an expression whose value is dropped -/
theorem x_expr (h : EX X H0 M e env r) (hs : swapsWith e none pos.line X.env = pure false := by rfl) : X1 X H0 M (.Expr e pos) env (.nx env) :=
  ps_weak (ps_expr h hs) fun E σ H ⟨N, O, ok, q⟩ => ⟨N, O, ok, fun v H' e1 r1 => q σ H' N O (ok.mono e1) (.of_same e1)⟩

/-! ### targets -/
def tAG (K : PySem.W.Frag) (H0 : Hp) (M : Addr → Prop) (env : Ev) (d : D) (env' : Ev) (js : List Nat) : TG := fun v σ H Q => ∃ N O, Ok K H0 M N σ H env O ∧ R K H N v d ∧
  ∀ σ' O', Ok K H0 M N σ' H env' O' → σ'.length = σ.length → (∀ j, j ∉ js → σ'[j]? = σ[j]?) → Q σ' H
abbrev AG (X : Cx) (H0 : Hp) (M : Addr → Prop) (tg : Expr) (env : Ev) (d : D) (env' : Ev) (js : List Nat) : Prop := PG X tg (tAG X.K H0 M env d env' js)
def tAGs (K : PySem.W.Frag) (H0 : Hp) (M : Addr → Prop) (env : Ev) (ds : List D) (env' : Ev) (js : List Nat) : TGs := fun vs σ H Q => ∃ N O, Ok K H0 M N σ H env O ∧ RA K H N vs ds ∧
  ∀ σ' O', Ok K H0 M N σ' H env' O' → σ'.length = σ.length → (∀ j, j ∉ js → σ'[j]? = σ[j]?) → Q σ' H
abbrev AGs (X : Cx) (H0 : Hp) (M : Addr → Prop) (tgs : List Expr) (env : Ev) (ds : List D) (env' : Ev) (js : List Nat) : Prop := PGs X tgs (tAGs X.K H0 M env ds env' js)
theorem pg_weak {tg : Expr} {t t' : TG} (h : PG X tg t) (w : ∀ v σ H Q, t' v σ H Q → t v σ H Q) : PG X tg t' := ⟨fun pins s σ H v u Q I r q => h.run pins s σ H v u Q I r (w _ _ _ _ q)⟩
theorem pgs_weak {tg : List Expr} {t t' : TGs} (h : PGs X tg t) (w : ∀ v σ H Q, t' v σ H Q → t v σ H Q) : PGs X tg t' := ⟨fun pins s σ H v u Q I r q => h.run pins s σ H v u Q I r (w _ _ _ _ q)⟩
theorem pg_any {tg : Expr} {ι : Type} {c : ι → Prop} {t : ι → TG} (h : ∀ i, c i → PG X tg (t i)) : PG X tg (fun v σ H Q => ∃ i, c i ∧ t i v σ H Q) := ⟨fun pins s σ H v u Q I r ⟨i, ci, q⟩ => (h i ci).run pins s σ H v u Q I r q⟩
theorem ag_name {n : Str} {d : D} (i : Nat) (hN : X.N.Nodup) (hi : X.N[i]? = some n := by rfl) (hx : Loc X.env.scope n := by first | exact Or.inl rfl | exact Or.inr rfl) (hf : X.fn n = true ∨ X.env.scope.names.lookup n = some .local := by first | exact .inl rfl | exact .inr rfl) :
    AG X H0 M (.Name n pos) env d (env.set i (.d d)) [i] :=
  pg_weak (pg_name (i := i) hN hi hx hf) fun v σ H Q ⟨N, O, ok, r, q⟩ => q _ _ (ok.set_d r) (by simp) fun j hj => by
    rw [List.getElem?_set_ne]
    intro z
    exact hj (by rw [z]; exact List.mem_singleton_self _)
/-- a name that is of no use further on -/
theorem ag_drop {n : Str} {d : D} (i : Nat) (hN : X.N.Nodup) (hi : X.N[i]? = some n := by rfl) (hx : Loc X.env.scope n := by first | exact Or.inl rfl | exact Or.inr rfl) (hf : X.fn n = true ∨ X.env.scope.names.lookup n = some .local := by first | exact .inl rfl | exact .inr rfl) :
    AG X H0 M (.Name n pos) env d (env.set i .no) [i] :=
  pg_weak (pg_name (i := i) hN hi hx hf) fun v σ H Q ⟨N, O, ok, r, q⟩ => q _ _ ok.set_no (by simp) fun j hj => by
    rw [List.getElem?_set_ne]
    intro z
    exact hj (by rw [z]; exact List.mem_singleton_self _)
theorem ags_nil : AGs X H0 M [] env [] env [] := pgs_weak pgs_nil fun v σ H Q ⟨N, O, ok, r, q⟩ => by
  cases r
  exact ⟨rfl, q σ O ok rfl fun _ _ => rfl⟩
theorem ags_cons {tg : Expr} {tgs : List Expr} {d : D} {ds : List D} {js ks : List Nat} (h1 : AG X H0 M tg env d env1 js) (h2 : AGs X H0 M tgs env1 ds env2 ks)
    (hs : (assignEach (tg :: tgs) X.env).map (·.2) = assign tg X.env :: (assignEach tgs X.env).map (·.2) := by rfl) : AGs X H0 M (tg :: tgs) env (d :: ds) env2 (js ++ ks) :=
  pgs_weak (pgs_cons h1 h2 hs) fun v σ H Q ⟨N, O, ok, r, q⟩ => by
    cases r with
    | cons a b =>
      refine ⟨_, _, rfl, N, O, ok, a, fun σ1 O1 ok1 l1 f1 => ⟨N, O1, ok1, b, fun σ2 O2 ok2 l2 f2 => q σ2 O2 ok2 (l2.trans l1) fun j hj => ?_⟩⟩
      rw [List.mem_append] at hj
      exact (f2 j fun z => hj (.inr z)).trans (f1 j fun z => hj (.inl z))
theorem ag_tup {tgs : List Expr} {k : Nat} {ds : List D} {js : List Nat} (hc : X.calm = true) (h : AGs X H0 M tgs env ds env1 js) {n : Nat} (hn : (assignEach tgs X.env).length = n := by rfl) (hl : ds.length = n := by rfl) (hst : (assignEach tgs X.env).findIdx? (·.1) = none := by rfl) :
    AG X H0 M (.Tuple tgs k pos) env (.tup ds) env1 js :=
  pg_weak (pg_tup hc h hn hst) fun v σ H Q ⟨N, O, ok, r, q⟩ => by
    cases r with
    | tup s t => exact ⟨_, _, rfl, s, by rw [t.length]; exact hl, N, O, ok, t, q⟩
/-- target = e -/
theorem x_asg {tg : Expr} {js : List Nat} (h : EX X H0 M e env r) (hg : AG X H0 M tg env r.v env1 js) (hp : r.per = true := by rfl) (hs : swapsWithSole [tg] e pos.line X.env = pure false := by rfl) (hw : swappedStores [tg] e X.env = pure none := by rfl)
    (h1 : (assignEach [tg] X.env).map (·.2) = [assign tg X.env] := by rfl) : X1 X H0 M (.Assign [tg] e pos) env (.nx env1) :=
  ps_weak (ps_asg h hg hs hw h1) fun E σ H ⟨N, O, ok, q⟩ => ⟨N, O, ok, fun v H' e1 r1 => ⟨N, O, ok.mono e1, r1.keep hp, fun σ' O' ok' _ _ => q σ' H' N O' ok' (.of_same e1)⟩⟩

/-! ### a, b, .. = x, y, .. -/
/-- a value about to be stored; own things are new from Hs on -/
def PdI (K : PySem.W.Frag) (H0 : Hp) (N : Addr → Prop) (O : List (Option Addr)) (Hs H : Hp) (v : V) : Sl → Prop
  | .d x => R K H N v x
  | .o x => ∃ p, v = .ref p ∧ ¬ N p ∧ H0 p = none ∧ Hs p = none ∧ OwnR K H N p x ∧ ∀ i : Nat, O[i]? ≠ some (some p)
  | .no => True
def ownAt (v : V) (s : Sl) (p : Addr) : Prop := match s with
  | .o _ => v = .ref p
  | _ => False
inductive Pds (K : PySem.W.Frag) (H0 : Hp) (N : Addr → Prop) (O : List (Option Addr)) (Hs H : Hp) : List V → List Sl → Prop
  | nil : Pds K H0 N O Hs H [] []
  | cons {v : V} {vs : List V} {s : Sl} {ss : List Sl} : PdI K H0 N O Hs H v s → Pds K H0 N O Hs H vs ss → (∀ p, ownAt v s p → ∀ (j : Nat) (w : V) (t : Sl), vs[j]? = some w → ss[j]? = some t → ¬ ownAt w t p) → Pds K H0 N O Hs H (v :: vs) (s :: ss)
def tEP (K : PySem.W.Frag) (H0 : Hp) (M : Addr → Prop) (env : Ev) (ss : List Sl) : TA := fun σ H Q => ∃ N O, Ok K H0 M N σ H env O ∧
  ∀ vs H' N', Same H H' → (∀ a, N' a → N a) → Fr N H N' H' → Ok K H0 M N' σ H' env O → Pds K H0 N' O H H' vs ss → Q vs H'
abbrev EP (X : Cx) (H0 : Hp) (M : Addr → Prop) (es : List Expr) (env : Ev) (ss : List Sl) : Prop := PA X es (tEP X.K H0 M env ss)
theorem pds_back {K : PySem.W.Frag} {N : Addr → Prop} {O : List (Option Addr)} {Hs H1 H : Hp} (e : Same Hs H1) : ∀ {vs : List V} {ss : List Sl}, Pds K H0 N O H1 H vs ss → Pds K H0 N O Hs H vs ss
  | _, _, .nil => .nil
  | _, _, @Pds.cons _ _ _ _ _ _ w ws s ss a b c => by
    refine .cons ?_ (pds_back e b) c
    cases s with
    | d x => exact a
    | o x =>
      obtain ⟨p, q1, q2, q3, q4, q5⟩ := a
      exact ⟨p, q1, q2, q3, e.free q4, q5⟩
    | no => trivial
theorem pds_off {K : PySem.W.Frag} {N : Addr → Prop} {O : List (Option Addr)} {H1 H : Hp} {p : Addr} (hp : Wr H1 p) : ∀ {vs : List V} {ss : List Sl}, Pds K H0 N O H1 H vs ss → ∀ (j : Nat) (w : V) (t : Sl), vs[j]? = some w → ss[j]? = some t → ¬ ownAt w t p
  | _, _, .nil, j, w, t, hw, ht, hz => by simp at hw
  | _, _, @Pds.cons _ _ _ _ _ _ w' ws s ss a b c, 0, w, t, hw, ht, hz => by
    simp only [List.getElem?_cons_zero, Option.some.injEq] at hw ht
    subst hw ht
    cases s with
    | o x =>
      obtain ⟨q, q1, q2, q3, q4, q5⟩ := a
      have hz : w' = .ref p := hz
      rw [q1] at hz
      cases hz
      rcases hp with ⟨_, w⟩ | ⟨_, w⟩ <;> rw [q4] at w <;> cases w
    | _ => exact hz.elim
  | _, _, .cons a b c, j + 1, w, t, hw, ht, hz => by
    simp only [List.getElem?_cons_succ] at hw ht
    exact pds_off hp b j w t hw ht hz
theorem ep_nil : EP X H0 M [] env [] := pa_weak pa_nil fun σ H Q ⟨N, O, ok, k⟩ => k _ H N (Same.refl _) (fun _ z => z) .refl ok .nil
theorem ep_d {ss : List Sl} (h : EX X H0 M e env r) (ht : EP X H0 M es env ss) (hp : r.per = true := by rfl) (hs : starEach (e :: es) X.env = (false, eval e X.env) :: starEach es X.env := by rfl) : EP X H0 M (e :: es) env (.d r.v :: ss) :=
  pa_weak (pa_cons h ht hs) fun σ H Q ⟨N, O, ok, k⟩ => ⟨N, O, ok, fun v H1 e1 r1 => ⟨N, O, ok.mono e1, fun vs H2 N2 e2 n2 f2 ok2 p2 => k _ H2 N2 (e1.trans e2) n2 ((Fr.of_same e1).trans f2) ok2 (.cons ((r1.keep hp).fr f2) (pds_back e1 p2) fun p z => z.elim)⟩⟩
theorem ep_o {ss : List Sl} {d : D} (h : EX X H0 M e env (.new d)) (ht : EP X H0 M es env ss) (hs : starEach (e :: es) X.env = (false, eval e X.env) :: starEach es X.env := by rfl) : EP X H0 M (e :: es) env (.o d :: ss) :=
  pa_weak (pa_cons h ht hs) fun σ H Q ⟨N, O, ok, k⟩ => ⟨N, O, ok, fun v H1 e1 r1 => by
    obtain ⟨p, rfl, h2, h3, h4⟩ := r1
    have ok1 : Ok X.K H0 M (fun a => N a ∧ a ≠ p) σ H1 env O := by
      refine ⟨ok.ext.trans e1, fun a z => ok.nm a z.1, fun a z => ⟨ok.nf a (e1.free z), fun y => ?_⟩, ok.len, ok.olen, fun i x hi => ?_, fun i x hi => ?_, fun i q hi => ?_, ok.inj⟩
      · subst y
        rcases h4.wr with ⟨_, w⟩ | ⟨_, w⟩ <;> rw [z] at w <;> cases w
      · obtain ⟨v, q1, q2⟩ := ok.d i x hi
        exact ⟨v, q1, (q2.avoid h2).same e1⟩
      · obtain ⟨v, q1, q2, q3⟩ := ok.o i x hi
        exact ⟨v, q1, q2, (q3.avoid h2).same e1⟩
      · obtain ⟨q1, q2, q3⟩ := (ok.mono e1).own i q hi
        exact ⟨fun z => q1 z.1, q2, q3⟩
    refine ⟨_, O, ok1, fun vs H2 N2 e2 n2 f2 ok2 p2 => k _ H2 N2 (e1.trans e2) (fun a z => (n2 a z).1) ((Fr.own e1 h2).trans f2) ok2 (.cons ?_ ?_ ?_)⟩
    · have hp1 : H2 p = H1 p := by
        rcases h4.wr with ⟨_, w⟩ | ⟨_, w⟩ <;> rw [w] <;> exact e2 _ _ w
      refine ⟨p, rfl, fun z => (n2 p z).2 rfl, ok.ext.free h2, h2, h4.fr f2 hp1, fun i hi => ?_⟩
      obtain ⟨_, _, w⟩ := ok.own i p hi
      rcases w with ⟨_, w⟩ | ⟨_, w⟩ <;> rw [h2] at w <;> cases w
    · exact pds_back e1 p2
    · intro q hq j w t hw ht
      have hq : p = q := V.ref.inj hq
      subst hq
      exact pds_off h4.wr p2 j w t hw ht⟩
/-- stores, one after another -/
def sets {α : Type} (l : List α) (is : List Nat) (ss : List α) : List α := (is.zip ss).foldl (fun l p => l.set p.1 p.2) l
theorem ok_put {K : PySem.W.Frag} {N : Addr → Prop} {Hs H : Hp} : ∀ {is : List Nat} {vs : List V} {ss : List Sl} {env : Ev} {O : List (Option Addr)} {σ : L2.St}, Ok K H0 M N σ H env O → Pds K H0 N O Hs H vs ss → (∀ i ∈ is, i < env.length) →
    ∃ O', Ok K H0 M N (sets σ is (vs.map some)) H (sets env is ss) O'
  | [], _, _, _, O, _, ok, _, _ => ⟨O, ok⟩
  | i :: is, [], [], _, O, _, ok, _, _ => ⟨O, ok⟩
  | i :: is, v :: vs, s :: ss, env, O, σ, ok, .cons a b c, hl => by
    have hi : i < env.length := hl i (List.mem_cons_self ..)
    have step : ∃ O1, Ok K H0 M N (σ.set i (some v)) H (env.set i s) O1 ∧ ∀ (q : Addr), (∀ m : Nat, O[m]? ≠ some (some q)) → ¬ ownAt v s q → ∀ m : Nat, O1[m]? ≠ some (some q) := by
      cases s with
      | d x =>
        refine ⟨O.set i none, ok.set_d a, fun q h1 h2 m h3 => ?_⟩
        by_cases em : i = m
        · subst em
          by_cases z : i < O.length
          · rw [List.getElem?_set_self z] at h3
            cases h3
          · rw [List.getElem?_eq_none (by simpa using z)] at h3
            cases h3
        · rw [List.getElem?_set_ne em] at h3
          exact h1 m h3
      | no =>
        refine ⟨O.set i none, ok.set_no, fun q h1 h2 m h3 => ?_⟩
        by_cases em : i = m
        · subst em
          by_cases z : i < O.length
          · rw [List.getElem?_set_self z] at h3
            cases h3
          · rw [List.getElem?_eq_none (by simpa using z)] at h3
            cases h3
        · rw [List.getElem?_set_ne em] at h3
          exact h1 m h3
      | o x =>
        obtain ⟨p, rfl, q2, q3, q4, q5, q6⟩ := a
        refine ⟨O.set i (some p), ?_, fun q h1 h2 m h3 => ?_⟩
        · refine ⟨ok.ext, ok.nm, ok.nf, by simp [ok.len], by simp [ok.olen], fun j y hj => ?_, fun j y hj => ?_, fun j q hj => ?_, fun j k q hj hk => ?_⟩
          · by_cases ej : i = j
            · subst ej
              rw [List.getElem?_set_self hi] at hj
              cases hj
            · rw [List.getElem?_set_ne ej] at hj ⊢
              exact ok.d j y hj
          · by_cases ej : i = j
            · subst ej
              rw [List.getElem?_set_self hi] at hj
              cases hj
              exact ⟨p, by rw [List.getElem?_set_self (by rw [ok.olen, ← ok.len]; exact hi)], by rw [List.getElem?_set_self (by rw [← ok.len]; exact hi)], q5⟩
            · rw [List.getElem?_set_ne ej] at hj ⊢
              rw [List.getElem?_set_ne ej]
              exact ok.o j y hj
          · by_cases ej : i = j
            · subst ej
              rw [List.getElem?_set_self (by rw [ok.olen, ← ok.len]; exact hi)] at hj
              cases hj
              exact ⟨q2, q3, q5.wr⟩
            · rw [List.getElem?_set_ne ej] at hj
              exact ok.own j q hj
          · by_cases ej : i = j
            · subst ej
              rw [List.getElem?_set_self (by rw [ok.olen, ← ok.len]; exact hi)] at hj
              cases hj
              by_cases ek : i = k
              · exact ek
              · rw [List.getElem?_set_ne ek] at hk
                exact absurd hk (q6 k)
            · rw [List.getElem?_set_ne ej] at hj
              by_cases ek : i = k
              · subst ek
                rw [List.getElem?_set_self (by rw [ok.olen, ← ok.len]; exact hi)] at hk
                cases hk
                exact absurd hj (q6 j)
              · rw [List.getElem?_set_ne ek] at hk
                exact ok.inj j k q hj hk
        · by_cases em : i = m
          · subst em
            rw [List.getElem?_set_self (by rw [ok.olen, ← ok.len]; exact hi)] at h3
            cases h3
            exact h2 rfl
          · rw [List.getElem?_set_ne em] at h3
            exact h1 m h3
    obtain ⟨O1, ok1, dj⟩ := step
    refine ok_put (Hs := Hs) (is := is) (vs := vs) (ss := ss) ok1 ?_ fun j hj => by
      rw [List.length_set]
      exact hl j (List.mem_cons_of_mem _ hj)
    clear ok1 hl
    have key : ∀ {vs : List V} {ss : List Sl}, Pds K H0 N O Hs H vs ss → (∀ p, ownAt v s p → ∀ (j : Nat) w t, vs[j]? = some w → ss[j]? = some t → ¬ ownAt w t p) → Pds K H0 N O1 Hs H vs ss := by
      intro vs ss h
      induction h with
      | nil => exact fun _ => .nil
      | @cons w ws t ts a' b' c' ih =>
        intro hd
        refine .cons ?_ (ih fun p hp j w t hw ht => hd p hp (j + 1) w t hw ht) c'
        cases t with
        | d x => exact a'
        | no => trivial
        | o x =>
          obtain ⟨p, q1, q2, q3, q4, q5, q6⟩ := a'
          exact ⟨p, q1, q2, q3, q4, q5, dj p q6 fun z => hd p z 0 w _ rfl rfl q1⟩
    exact key b c
theorem pds_len {K : PySem.W.Frag} {N : Addr → Prop} {O : List (Option Addr)} {Hs H : Hp} : ∀ {vs : List V} {ss : List Sl}, Pds K H0 N O Hs H vs ss → vs.length = ss.length
  | _, _, .nil => rfl
  | _, _, .cons _ b _ => by simp [pds_len b]
/-- a, b = x, y: plain local names -/
theorem x_par2 {n m : Str} {p1 p2 pt : Pos} {kt k2 pt2} {s1 s2 : Sl} (i j : Nat) (hc : X.calm = true) (hN : X.N.Nodup) (h : EP X H0 M [a, b] env [s1, s2]) (hl : i < env.length ∧ j < env.length := by exact ⟨Nat.le_of_ble_eq_true rfl, Nat.le_of_ble_eq_true rfl⟩) (hij : i ≠ j := by decide) (hi : X.N[i]? = some n := by rfl) (hj : X.N[j]? = some m := by rfl)
    (hx : X.env.scope.names.lookup n = some .local := by rfl) (hy : X.env.scope.names.lookup m = some .local := by rfl)
    (hw : swappedStores [.Tuple [.Name n p1, .Name m p2] kt pt] (.Tuple [a, b] k2 pt2) X.env = pure (some [n, m]) := by rfl)
    (hs : swapsWithSole [.Tuple [.Name n p1, .Name m p2] kt pt] (.Tuple [a, b] k2 pt2) pos.line X.env = pure false := by rfl) : X1 X H0 M (.Assign [.Tuple [.Name n p1, .Name m p2] kt pt] (.Tuple [a, b] k2 pt2) pos) env (.nx ((env.set i s1).set j s2)) :=
  ps_weak (ps_par (i := i) (j := j) hc hN hi hj hij hx hy h hw hs) fun E σ H ⟨N, O, ok, q⟩ => ⟨N, O, ok, fun vs H' N' e1 n1 f1 ok1 p1 => by
    obtain ⟨O', ok2⟩ := ok_put (is := [i, j]) ok1 p1 (by intro k hk; simp only [List.mem_cons, List.not_mem_nil, or_false] at hk; rcases hk with rfl | rfl; exact hl.1; exact hl.2)
    have := pds_len p1
    match vs, this with
    | [v, w], _ => exact ⟨v, w, rfl, q _ H' N' O' ok2 f1⟩⟩
theorem x_par3 {n m l : Str} {p1 p2 p3 pt : Pos} {kt k2 pt2} {s1 s2 s3 : Sl} (i j k : Nat) (hc : X.calm = true) (hN : X.N.Nodup) (h : EP X H0 M [a, b, c] env [s1, s2, s3]) (hl : i < env.length ∧ j < env.length ∧ k < env.length := by exact ⟨Nat.le_of_ble_eq_true rfl, Nat.le_of_ble_eq_true rfl, Nat.le_of_ble_eq_true rfl⟩) (hij : i ≠ j := by decide) (hik : i ≠ k := by decide) (hjk : j ≠ k := by decide) (hi : X.N[i]? = some n := by rfl) (hj : X.N[j]? = some m := by rfl) (hk : X.N[k]? = some l := by rfl)
    (hx : X.env.scope.names.lookup n = some .local := by rfl) (hy : X.env.scope.names.lookup m = some .local := by rfl) (hz : X.env.scope.names.lookup l = some .local := by rfl)
    (hw : swappedStores [.Tuple [.Name n p1, .Name m p2, .Name l p3] kt pt] (.Tuple [a, b, c] k2 pt2) X.env = pure (some [n, m, l]) := by rfl)
    (hs : swapsWithSole [.Tuple [.Name n p1, .Name m p2, .Name l p3] kt pt] (.Tuple [a, b, c] k2 pt2) pos.line X.env = pure false := by rfl) : X1 X H0 M (.Assign [.Tuple [.Name n p1, .Name m p2, .Name l p3] kt pt] (.Tuple [a, b, c] k2 pt2) pos) env (.nx (((env.set i s1).set j s2).set k s3)) :=
  ps_weak (ps_par3 (i := i) (j := j) (l := k) hc hN hi hj hk hij hik hjk hx hy hz h hw hs) fun E σ H ⟨N, O, ok, q⟩ => ⟨N, O, ok, fun vs H' N' e1 n1 f1 ok1 p1 => by
    obtain ⟨O', ok2⟩ := ok_put (is := [i, j, k]) ok1 p1 (by intro u hu; simp only [List.mem_cons, List.not_mem_nil, or_false] at hu; rcases hu with rfl | rfl | rfl; exact hl.1; exact hl.2.1; exact hl.2.2)
    have := pds_len p1
    match vs, this with
    | [u, v, w], _ => exact ⟨u, v, w, rfl, q _ H' N' O' ok2 f1⟩⟩

/-! ### own lists and dicts changed -/
theorem x_append {n : Str} {d : List D} {p1 apos cpos : Pos} (i : Nat) (he : env[i]? = some (.o (.lst d))) (h : EX X H0 M e env r) (hl : d.length < 100000) (hp : r.per = true := by rfl) (hN : X.N[i]? = some n := by rfl) (hv : Vis X.env.scope n := by first | exact Or.inl rfl | exact Or.inr (Or.inl rfl) | exact Or.inr (Or.inr rfl))
    (hd : (n == ("__debug__" : Str)) = false := by decide) (hcd : (n == ("__classdict__" : Str)) = false := by decide) (hse : starEach (e :: []) X.env = (false, eval e X.env) :: starEach [] X.env := by rfl)
    (hline : (apos.endLine == cpos.line) = true := by rfl) (hs : swapsWith (.Call (.Attribute (.Name n p1) "append" apos) [e] [] cpos) none pos.line X.env = pure false := by rfl) :
    X1 X H0 M (.Expr (.Call (.Attribute (.Name n p1) "append" apos) [e] [] cpos) pos) env (.nx (env.set i (.o (.lst (d ++ [r.v]))))) :=
  ps_weak (ps_expr (pe_bm PySem.F.plainAttrs_list PySem.F.slot_list_append PySem.F.type_list_append mt_append (pe_var (i := i) hN hv hd hcd) (pa_cons h pa_nil hse) (hfew := by rw [hse]; rfl) (hline := hline) (hs := hse)) hs) fun E σ H ⟨N, O, ok, q⟩ => by
    obtain ⟨p, h1, h2, vs, h3, h4⟩ := ok.o i _ he
    refine ⟨.ref p, h2, .inl ⟨rfl, _, SqL.of h3⟩, N, O, ok, fun v H' e1 r1 => ⟨p, vs, v, rfl, rfl, e1 _ _ h3, Nat.lt_of_lt_of_le (by rw [h4.length]; exact hl) (by decide : 100000 ≤ sizeLine), ?_⟩⟩
    have ok1 := ok.mono e1
    exact q σ _ N O (ok1.change he h1 ⟨_, upd_same, (((h4.same e1).append (.cons (r1.keep hp) .nil)).upd (ok1.own i p h1).2.2 (ok1.own i p h1).1)⟩) ((Fr.of_same e1).trans (Fr.change ok1 h1))
theorem x_extend {n : Str} {d es' : List D} {p1 apos cpos : Pos} (i : Nat) (he : env[i]? = some (.o (.lst d))) (h : EX X H0 M e env r) (hr : r.v = .lst es') (hl : d.length + es'.length ≤ 100000) (hN : X.N[i]? = some n := by rfl) (hv : Vis X.env.scope n := by first | exact Or.inl rfl | exact Or.inr (Or.inl rfl) | exact Or.inr (Or.inr rfl))
    (hd : (n == ("__debug__" : Str)) = false := by decide) (hcd : (n == ("__classdict__" : Str)) = false := by decide) (hse : starEach (e :: []) X.env = (false, eval e X.env) :: starEach [] X.env := by rfl)
    (hline : (apos.endLine == cpos.line) = true := by rfl) (hs : swapsWith (.Call (.Attribute (.Name n p1) "extend" apos) [e] [] cpos) none pos.line X.env = pure false := by rfl) :
    X1 X H0 M (.Expr (.Call (.Attribute (.Name n p1) "extend" apos) [e] [] cpos) pos) env (.nx (env.set i (.o (.lst (d ++ es'))))) :=
  ps_weak (ps_expr (pe_bm PySem.F.plainAttrs_list PySem.F.slot_list_extend PySem.F.type_list_extend mt_extend (pe_var (i := i) hN hv hd hcd) (pa_cons h pa_nil hse) (hfew := by rw [hse]; rfl) (hline := hline) (hs := hse)) hs) fun E σ H ⟨N, O, ok, q⟩ => by
    obtain ⟨p, h1, h2, vs, h3, h4⟩ := ok.o i _ he
    refine ⟨.ref p, h2, .inl ⟨rfl, _, SqL.of h3⟩, N, O, ok, fun v H' e1 r1 => ?_⟩
    obtain ⟨b, ws, rfl, g1, g2⟩ := r1.items hr
    refine ⟨p, b, vs, ws, rfl, rfl, e1 _ _ h3, g1, small (by rw [h4.length, g2.length]; exact hl), ?_⟩
    have ok1 := ok.mono e1
    exact q σ _ N O (ok1.change he h1 ⟨_, upd_same, (((h4.same e1).append g2).upd (ok1.own i p h1).2.2 (ok1.own i p h1).1)⟩) ((Fr.of_same e1).trans (Fr.change ok1 h1))
/-- target = own.pop() -/
theorem x_pop {n : Str} {d : List D} {z : D} {js : List Nat} {p1 apos cpos : Pos} {tg : Expr} (i : Nat) (he : env[i]? = some (.o (.lst (d ++ [z])))) (hg : AG X H0 M tg (env.set i (.o (.lst d))) z env1 js) (hN : X.N[i]? = some n := by rfl) (hv : Vis X.env.scope n := by first | exact Or.inl rfl | exact Or.inr (Or.inl rfl) | exact Or.inr (Or.inr rfl))
    (hd : (n == ("__debug__" : Str)) = false := by decide) (hcd : (n == ("__classdict__" : Str)) = false := by decide)
    (hline : (apos.endLine == cpos.line) = true := by rfl) (hs : swapsWithSole [tg] (.Call (.Attribute (.Name n p1) "pop" apos) [] [] cpos) pos.line X.env = pure false := by rfl) (hw : swappedStores [tg] (.Call (.Attribute (.Name n p1) "pop" apos) [] [] cpos) X.env = pure none := by rfl)
    (h1 : (assignEach [tg] X.env).map (·.2) = [assign tg X.env] := by rfl) :
    X1 X H0 M (.Assign [tg] (.Call (.Attribute (.Name n p1) "pop" apos) [] [] cpos) pos) env (.nx env1) :=
  ps_weak (ps_asg (pe_bm0 PySem.F.plainAttrs_list PySem.F.slot_list_pop PySem.F.type_list_pop mt_pop (pe_var (i := i) hN hv hd hcd) (hline := hline)) hg hs hw h1) fun E σ H ⟨N, O, ok, q⟩ => by
    obtain ⟨p, h1, h2, vs, h3, h4⟩ := ok.o i _ he
    have hl : vs.length = d.length + 1 := by
      rw [h4.length]
      simp
    obtain ⟨u, g1, g2⟩ := h4.get (i := d.length) (d := z) (by simp)
    refine ⟨.ref p, h2, .inl ⟨rfl, _, SqL.of h3⟩, p, vs, u, rfl, rfl, h3, by rw [hl]; exact g1, ?_⟩
    have w := (ok.own i p h1)
    have h5 := h4.dropLast
    rw [List.dropLast_concat] at h5
    exact ⟨N, O, ok.change he h1 ⟨_, upd_same, h5.upd w.2.2 w.1⟩, g2.upd w.2.2 w.1, fun σ' O' ok' _ _ => q σ' _ N O' ok' (Fr.change ok h1)⟩
/-- own[k] = e, a dict -/
def putD (k : Int) (d : D) : List Int → List D → List Int × List D
  | [], _ => ([k], [d])
  | _ :: _, [] => ([k], [d])
  | j :: ks, x :: ds => if j = k then (k :: ks, d :: ds) else (j :: (putD k d ks ds).1, x :: (putD k d ks ds).2)
theorem put_ra {K : PySem.W.Frag} {H : Hp} {N : Addr → Prop} {k : Int} {v : V} {d : D} (r : R K H N v d) : ∀ {kvs : List (Key × V)} {ks : List Int} {ds : List D}, ks.Nodup → kvs.map (·.1) = ks.map Sum.inl → RA K H N (kvs.map (·.2)) ds →
    (putK kvs (Sum.inl k) v).map (·.1) = (putD k d ks ds).1.map Sum.inl ∧ RA K H N ((putK kvs (Sum.inl k) v).map (·.2)) (putD k d ks ds).2
  | [], [], [], _, _, _ => ⟨rfl, .cons r .nil⟩
  | [], a :: b, _, _, h, _ => by cases h
  | p :: kvs, [], _, _, h, _ => by cases h
  | p :: kvs, _ :: _, [], _, _, h => by cases h
  | (p1, p2) :: kvs, j :: ks, x :: ds, nd, h, .cons r1 r2 => by
    simp only [List.map_cons, List.cons.injEq] at h
    obtain ⟨h1, h2⟩ := h
    have h1 : p1 = Sum.inl j := h1
    subst h1
    obtain ⟨n1, n2⟩ := List.nodup_cons.mp nd
    by_cases e : j = k
    · subst e
      have hno : ∀ q ∈ kvs, ¬ q.1 = Sum.inl j := fun q hq z => n1 (by
        have : q.1 ∈ kvs.map (·.1) := List.mem_map_of_mem hq
        rw [h2, z] at this
        obtain ⟨y, hy, hz⟩ := List.mem_map.mp this
        rw [Sum.inl.inj hz] at hy
        exact hy)
      have hm : (kvs.map fun kv => if kv.1 = Sum.inl j then (kv.1, v) else kv) = kvs := by
        conv => rhs; rw [← List.map_id kvs]
        refine List.map_congr_left fun q hq => ?_
        rw [if_neg (hno q hq)]
        rfl
      have e1 : putK ((Sum.inl j, p2) :: kvs) (Sum.inl j) v = (Sum.inl j, v) :: kvs := by
        unfold putK
        rw [if_pos (by simp), List.map_cons, if_pos rfl, hm]
      rw [e1]
      unfold putD
      rw [if_pos rfl]
      exact ⟨by simp only [List.map_cons, h2], .cons r r2⟩
    · obtain ⟨i1, i2⟩ := put_ra r n2 h2 r2
      have e' : ¬ (Sum.inl j : Key) = Sum.inl k := fun z => e (Sum.inl.inj z)
      have e1 : putK ((Sum.inl j, p2) :: kvs) (Sum.inl k) v = (Sum.inl j, p2) :: putK kvs (Sum.inl k) v := by
        unfold putK
        simp only [List.any_cons, decide_eq_false e', Bool.false_or, List.map_cons, if_neg e']
        split <;> rfl
      rw [e1]
      unfold putD
      rw [if_neg e]
      exact ⟨by simp only [List.map_cons, i1], .cons r1 i2⟩
theorem x_dput {n : Str} {ks : List Int} {ds : List D} {k : Int} {p1 pos' : Pos} (i : Nat) (hu : X.A.units + 1 < cLine) (he : env[i]? = some (.o (.dic ks ds))) (h : EX X H0 M e env r) (hb : EX X H0 M b env (.d (.int k))) (nd : ks.Nodup) (hl : ks.length < 100000) (hp : r.per = true := by rfl) (hN : X.N[i]? = some n := by rfl) (hv : Vis X.env.scope n := by first | exact Or.inl rfl | exact Or.inr (Or.inl rfl) | exact Or.inr (Or.inr rfl))
    (hd : (n == ("__debug__" : Str)) = false := by decide) (hcd : (n == ("__classdict__" : Str)) = false := by decide) (hs : swapsWith e (some (.Subscript (.Name n p1) b pos')) pos.line X.env = pure false := by rfl) :
    X1 X H0 M (.Assign [.Subscript (.Name n p1) b pos'] e pos) env (.nx (env.set i (.o (.dic (putD k r.v ks ds).1 (putD k r.v ks ds).2)))) :=
  ps_weak (ps_dput hu (pe_var (i := i) hN hv hd hcd) hb h hs) fun E σ H ⟨N, O, ok, q⟩ => ⟨N, O, ok, fun v H1 e1 r1 => by
    obtain ⟨p, h1, h2, kvs, h3, h4, h5⟩ := ok.o i _ he
    refine ⟨.ref p, h2, N, O, ok.mono e1, fun w H2 e2 r2 => ?_⟩
    cases r2.isI
    have ok2 := (ok.mono e1).mono e2
    have w := ok2.own i p h1
    obtain ⟨g1, g2⟩ := put_ra ((r1.keep hp).same e2) nd h4 (h5.same (e1.trans e2))
    refine ⟨p, _, rfl, DPut.k (k := Sum.inl k) ((e1.trans e2) _ _ h3) ?_, q σ _ N O (ok2.change he h1 ⟨_, upd_same, g1, g2.upd w.2.2 w.1⟩) ((Fr.of_same (e1.trans e2)).trans (Fr.change ok2 h1))⟩
    have : kvs.length = ks.length := by
      have := congrArg List.length h4
      simpa using this
    rw [this]
    exact Nat.lt_of_lt_of_le hl (by decide : 100000 ≤ sizeLine)⟩
/-- own[k] = e, a list -/
theorem x_lput {n : Str} {ds : List D} {j : Nat} {p1 pos' : Pos} (i : Nat) (he : env[i]? = some (.o (.lst ds))) (h : EX X H0 M e env r) (hb : EX X H0 M b env (.d (.int (j : Int)))) (hj : j < ds.length) (hp : r.per = true := by rfl) (hN : X.N[i]? = some n := by rfl) (hv : Vis X.env.scope n := by first | exact Or.inl rfl | exact Or.inr (Or.inl rfl) | exact Or.inr (Or.inr rfl))
    (hd : (n == ("__debug__" : Str)) = false := by decide) (hcd : (n == ("__classdict__" : Str)) = false := by decide)
    (hga : ∀ v, assign (.Subscript (.Name n p1) b pos') X.env v = (do
      let ov ← holding [v] (eval (.Name n p1) X.env)
      let iv ← holding [v, ov] (eval b X.env)
      standAt pos'
      holding [v, ov, iv] (setItem ov iv v)
      release [v, ov, iv] []) := by intro _; rfl)
    (hs : swapsWithSole [.Subscript (.Name n p1) b pos'] e pos.line X.env = pure false := by rfl) (hw : swappedStores [.Subscript (.Name n p1) b pos'] e X.env = pure none := by rfl)
    (h1 : (assignEach [.Subscript (.Name n p1) b pos'] X.env).map (·.2) = [assign (.Subscript (.Name n p1) b pos') X.env] := by rfl) :
    X1 X H0 M (.Assign [.Subscript (.Name n p1) b pos'] e pos) env (.nx (env.set i (.o (.lst (ds.set j r.v))))) :=
  ps_weak (ps_asg h (pg_sub (pe_var (i := i) hN hv hd hcd) hb set_list hga) hs hw h1) fun E σ H ⟨N, O, ok, q⟩ => ⟨N, O, ok, fun v H1 e1 r1 => by
    obtain ⟨p, h1, h2, vs, h3, h4⟩ := ok.o i _ he
    refine ⟨.ref p, h2, N, O, ok.mono e1, fun w H2 e2 r2 => ?_⟩
    cases r2.isI
    have ok2 := (ok.mono e1).mono e2
    have w := ok2.own i p h1
    have hl : j < vs.length := by
      rw [h4.length]
      exact hj
    refine ⟨p, vs, _, j, rfl, rfl, (e1.trans e2) _ _ h3, ?_, q σ _ N O (ok2.change he h1 ⟨_, upd_same, ((h4.same (e1.trans e2)).set ((r1.keep hp).same e2) j).upd w.2.2 w.1⟩) ((Fr.of_same (e1.trans e2)).trans (Fr.change ok2 h1))⟩
    unfold ixN
    rw [if_pos (by omega), if_pos (by omega)]
    simp⟩
end
end Zb
/-! The data layer, 4: loops, comprehensions, calls, defs. -/
namespace Zb
open PySem PySem.Spec PyProof.Rows L2

/-! ### while -/
inductive Wl (X : Cx) (H0 : Hp) (M : Addr → Prop) (c : Expr) (body : List Stmt) : Nat → Ev → Out → Prop
  | stop {n : Nat} {env : Ev} : ET X H0 M c env false → Wl X H0 M c body n env (.nx env)
  | turn {n : Nat} {env env1 : Ev} {out : Out} : ET X H0 M c env true → XS X H0 M body env (.nx env1) → Wl X H0 M c body n env1 out → Wl X H0 M c body (n + 1) env out
  | ret {n : Nat} {env : Ev} {f : Bool} {x : D} : ET X H0 M c env true → XS X H0 M body env (.rt f x) → Wl X H0 M c body n env (.rt f x)
section
variable {X : Cx} {H0 : Hp} {M : Addr → Prop} {env env1 env2 : Ev} {out out' : Out} {r ra rb rc : Res} {a b c e tg iter elt : Expr} {es ifs : List Expr} {pos : Pos} {st : Stmt} {body sts els : List Stmt} {x y : Bool} {ds : List D}
theorem x_while {n : Nat} (h : Wl X H0 M c body n env out) (hp : PassesOwn (model X.prog X.w) X.A X.env X.xe := by exact PassesOwn.never) : X1 X H0 M (.While c body [] pos) env out :=
  ps_weak (ps_while hp (pt_any (ι := Ev × Bool) (c := fun p => ET X H0 M c p.1 p.2) (t := fun p => tET X.K H0 M p.1 p.2) fun _ z => z) (pss_any (ι := Ev × Out) (c := fun p => XS X H0 M body p.1 p.2) (t := fun p => tXS X.K H0 M p.1 p.2) fun _ z => z)) fun E σ H ⟨N, O, ok, q⟩ => by
    refine ⟨fun m σ' H' => ∃ env' N' O', Wl X H0 M c body m env' out ∧ Ok X.K H0 M N' σ' H' env' O' ∧ Fr N H N' H', ⟨n, env, N, O, h, ok, .refl⟩, fun m σ' H' ⟨env', N', O', hw, ok', f⟩ => ?_⟩
    cases hw with
    | stop ht => exact ⟨(env', false), ht, N', O', ok', fun H1 e => iteF (q σ' H1 N' O' (ok'.mono e) (f.trans (.of_same e)))⟩
    | @turn m' _ env1 _ ht hb hw =>
      exact ⟨(env', true), ht, N', O', ok', fun H1 e => iteT ⟨fun σ2 H2 => ∃ N2 O2, Ok X.K H0 M N2 σ2 H2 env1 O2 ∧ Fr N H N2 H2, fun σ2 H2 ⟨N2, O2, ok2, f2⟩ => ⟨m', Nat.lt_succ_self _, env1, N2, O2, hw, ok2, f2⟩,
        (env', .nx env1), hb, N', O', ok'.mono e, fun σ2 H2 N2 O2 ok2 f2 => ⟨N2, O2, ok2, (f.trans (.of_same e)).trans f2⟩⟩⟩
    | ret ht hb => exact ⟨(env', true), ht, N', O', ok', fun H1 e => iteT ⟨fun _ _ => False, fun _ _ z => z.elim, (env', _), hb, N', O', ok'.mono e, q⟩⟩

/-! ### what is walked -/
def ItOk (K : PySem.W.Frag) (N : Addr → Prop) (H : Hp) (ds : List D) (J : It) : Prop := ∃ G Y, Walk J ds.length G Y ∧ (∀ N' H', Fr N H N' H' → G H') ∧
  ∀ (i : Nat) H' x H3 N' d, Fr N H N' H' → ds[i]? = some d → Y i H' x H3 → Same H' H3 ∧ R K H3 N' x d
def tIT (K : PySem.W.Frag) (H0 : Hp) (M : Addr → Prop) (env : Ev) (ds : List D) : TI := fun σ H Q => ∃ N O, Ok K H0 M N σ H env O ∧ ∀ J H', Same H H' → ItOk K N H' ds J → Q J H'
abbrev IT (X : Cx) (H0 : Hp) (M : Addr → Prop) (tg iter : Expr) (env : Ev) (ds : List D) : Prop := PI X tg iter (tIT X.K H0 M env ds)
theorem pi_weak {t t' : TI} (h : PI X tg iter t) (w : ∀ σ H Q, t' σ H Q → t σ H Q) : PI X tg iter t' := ⟨fun pins s σ H Q I q => h.run pins s σ H Q I (w _ _ _ q)⟩
theorem it_list (h : EX X H0 M iter env r) (hr : r.v = .lst ds) (hp : r.per = true := by rfl) : IT X H0 M tg iter env ds :=
  pi_weak (pi_list h) fun σ H Q ⟨N, O, ok, k⟩ => ⟨N, O, ok, fun v H' e1 r1 => by
    have r2 := r1.keep hp
    rw [hr] at r2
    cases r2 with
    | @lst a xs _ h1 h2 h3 =>
      refine ⟨a, rfl, ⟨xs, SqL.of h1⟩, k _ H' e1 ⟨_, _, by rw [← h3.length]; exact walk_list (xs := xs), fun N' H2 f => SqL.of ((f _ _ h1).1 h2).1, fun i H2 x H3 N' d f hd y => ?_⟩⟩
      obtain ⟨rfl, y⟩ := y
      obtain ⟨w, g1, g2⟩ := h3.get hd
      rw [g1] at y
      cases y
      exact ⟨Same.refl _, g2.fr f⟩⟩
theorem it_tup (h : EX X H0 M iter env r) (hr : r.v = .tup ds) (hp : r.per = true := by rfl) : IT X H0 M tg iter env ds :=
  pi_weak (pi_tup h) fun σ H Q ⟨N, O, ok, k⟩ => ⟨N, O, ok, fun v H' e1 r1 => by
    have r2 := r1.keep hp
    rw [hr] at r2
    cases r2 with
    | @tup a xs _ h1 h3 =>
      refine ⟨a, rfl, ⟨xs, h1⟩, k _ H' e1 ⟨_, _, by rw [← h3.length]; exact walk_tup (xs := xs), fun N' H2 f => sqt_fr f h1, fun i H2 x H3 N' d f hd y => ?_⟩⟩
      obtain ⟨rfl, y⟩ := y
      obtain ⟨w, g1, g2⟩ := h3.get hd
      rw [g1] at y
      cases y
      exact ⟨Same.refl _, g2.fr f⟩⟩
def natD (n : Nat) : D := .int (n : Int)
theorem it_rangeI {p : Pos} {z : Int} (hm : X.mg "range" = none) (h : EX X H0 M a env (.d (.int z))) (h0 : -1000000 ≤ z) (hn : z ≤ 1000000) (hg : Gl X "range" := by rfl) (hs : starEach [a] X.env = (false, eval a X.env) :: starEach [] X.env := by rfl) (hs2 : starEach [a] X.env = [(false, eval a X.env)] := by rfl) :
    IT X H0 M tg (.Call (.Name "range" p) [a] [] pos) env ((List.range z.toNat).map natD) :=
  pi_weak (pi_range1 hg hm (ea_cons h ea_nil hs) hs2) fun σ H Q ⟨N, O, ok, k⟩ => ⟨N, O, ok, fun vs H' e1 r1 => by
    obtain ⟨v, rfl, r2⟩ := rrs1 r1
    cases r2.isI
    refine ⟨z, rfl, by omega, by omega, k _ H' e1 ⟨fun _ => True, YFn fun i => .int (0 + (i : Int)), ?_, fun _ _ _ => trivial, fun i H2 x H3 N' d f hd y => ?_⟩⟩
    · have : ((List.range z.toNat).map natD).length = z.toNat := by simp
      rw [this]
      exact walk_range
    · obtain ⟨rfl, rfl⟩ := y
      rw [List.getElem?_map] at hd
      have hi : i < z.toNat := by
        by_cases z' : i < z.toNat
        · exact z'
        · rw [List.getElem?_eq_none (by simpa using z')] at hd
          cases hd
      rw [List.getElem?_eq_getElem (by simpa using hi)] at hd
      simp only [List.getElem_range, Option.map_some, Option.some.injEq] at hd
      subst hd
      refine ⟨Same.refl _, ?_⟩
      show R X.K H3 N' (.int (0 + (i : Int))) (.int (i : Int))
      rw [Int.zero_add]
      exact .int _⟩
theorem it_range {p : Pos} {n : Nat} (hm : X.mg "range" = none) (h : EX X H0 M a env (.d (.int (n : Int)))) (hn : n ≤ 1000000) (hg : Gl X "range" := by rfl) (hs : starEach [a] X.env = (false, eval a X.env) :: starEach [] X.env := by rfl) (hs2 : starEach [a] X.env = [(false, eval a X.env)] := by rfl) :
    IT X H0 M tg (.Call (.Name "range" p) [a] [] pos) env ((List.range n).map natD) := it_rangeI (z := (n : Int)) hm h (by omega) (by omega) hg hs hs2

/-! ### for -/
inductive Lp (X : Cx) (H0 : Hp) (M : Addr → Prop) (tg : Expr) (body : List Stmt) : Ev → List D → Out → Prop
  | nil {env : Ev} : Lp X H0 M tg body env [] (.nx env)
  | nx {env env1 env2 : Ev} {d : D} {ds : List D} {out : Out} {js : List Nat} : AG X H0 M tg env d env1 js → XS X H0 M body env1 (.nx env2) → Lp X H0 M tg body env2 ds out → Lp X H0 M tg body env (d :: ds) out
  | ct {env env1 env2 : Ev} {d : D} {ds : List D} {out : Out} {js : List Nat} : AG X H0 M tg env d env1 js → XS X H0 M body env1 (.ct env2) → Lp X H0 M tg body env2 ds out → Lp X H0 M tg body env (d :: ds) out
  | bk {env env1 env2 : Ev} {d : D} {ds : List D} {js : List Nat} : AG X H0 M tg env d env1 js → XS X H0 M body env1 (.bk env2) → Lp X H0 M tg body env (d :: ds) (.nx env2)
  | rt {env env1 : Ev} {d x : D} {ds : List D} {f : Bool} {js : List Nat} : AG X H0 M tg env d env1 js → XS X H0 M body env1 (.rt f x) → Lp X H0 M tg body env (d :: ds) (.rt f x)
theorem drop_cons {α : Type} {l : List α} {i : Nat} (h : i < l.length) : l.drop i = l[i] :: l.drop (i + 1) := (List.drop_eq_getElem_cons h)
def gL (X : Cx) (H0 : Hp) (M : Addr → Prop) (tg : Expr) : TG := fun v σ H Q => ∃ p : Ev × D × Ev × List Nat, AG X H0 M tg p.1 p.2.1 p.2.2.1 p.2.2.2 ∧ tAG X.K H0 M p.1 p.2.1 p.2.2.1 p.2.2.2 v σ H Q
def bL (X : Cx) (H0 : Hp) (M : Addr → Prop) (body : List Stmt) : TS := fun E σ H => ∃ p : Ev × Out, XS X H0 M body p.1 p.2 ∧ tXS X.K H0 M p.1 p.2 E σ H
theorem gL_ok : PG X tg (gL X H0 M tg) := pg_any (ι := Ev × D × Ev × List Nat) (c := fun p => AG X H0 M tg p.1 p.2.1 p.2.2.1 p.2.2.2) (t := fun p => tAG X.K H0 M p.1 p.2.1 p.2.2.1 p.2.2.2) fun _ z => z
theorem bL_ok : PSs X body (bL X H0 M body) := pss_any (ι := Ev × Out) (c := fun p => XS X H0 M body p.1 p.2) (t := fun p => tXS X.K H0 M p.1 p.2) fun _ z => z
theorem x_for (hc : X.calm = true) (hi : IT X H0 M tg iter env ds) (h : Lp X H0 M tg body env ds out) (hp : PassesOwn (model X.prog X.w) X.A X.env X.xe := by exact PassesOwn.never) (hs : ∀ x, foldedSetIterable iter X.env x = pure x := by intro _; rfl) : X1 X H0 M (.For tg iter body [] pos) env out :=
  ps_weak (ps_for hp hc hi (gL_ok (H0 := H0) (M := M)) (bL_ok (H0 := H0) (M := M)) hs) fun E σ H ⟨N, O, ok, q⟩ => ⟨N, O, ok, fun J H1 e1 ⟨G, Y, w, hG, hY⟩ => by
    have ok1 := ok.mono e1
    have q : Post X.K H0 M N H1 E out := q.fr (.of_same e1)
    refine for_it (D := E) (g := gL X H0 M tg) (tb := bL X H0 M body) w (fun i σ' H' => ∃ env' N' O', Lp X H0 M tg body env' (ds.drop i) out ∧ Ok X.K H0 M N' σ' H' env' O' ∧ Fr N H1 N' H') ⟨env, N, O, h, ok1, .refl⟩ (fun i σ' H' _ ⟨env', N', O', _, _, f⟩ => hG N' H' f) (fun i x σ' H' H2 hi ⟨env', N', O', hl, ok', f⟩ y => ?_) fun σ' H' ⟨env', N', O', hl, ok', f⟩ => ?_
    · obtain ⟨s2, r2⟩ := hY i H' x H2 N' ds[i] f (List.getElem?_eq_getElem hi) y
      rw [drop_cons hi] at hl
      have f2 := f.trans (Fr.of_same (N := N') s2)
      cases hl with
      | nx ha hb hl => exact ⟨(_, _, _, _), ha, N', O', ok'.mono s2, r2, fun σ3 O3 ok3 _ _ => ⟨(_, _), hb, N', O3, ok3, fun σ4 H4 N4 O4 ok4 f4 => ⟨_, N4, O4, hl, ok4, f2.trans f4⟩⟩⟩
      | ct ha hb hl => exact ⟨(_, _, _, _), ha, N', O', ok'.mono s2, r2, fun σ3 O3 ok3 _ _ => ⟨(_, _), hb, N', O3, ok3, fun σ4 H4 N4 O4 ok4 f4 => ⟨_, N4, O4, hl, ok4, f2.trans f4⟩⟩⟩
      | bk ha hb => exact ⟨(_, _, _, _), ha, N', O', ok'.mono s2, r2, fun σ3 O3 ok3 _ _ => ⟨(_, _), hb, N', O3, ok3, fun σ4 H4 N4 O4 ok4 f4 => q σ4 H4 N4 O4 ok4 (f2.trans f4)⟩⟩
      | rt ha hb => exact ⟨(_, _, _, _), ha, N', O', ok'.mono s2, r2, fun σ3 O3 ok3 _ _ => ⟨(_, _), hb, N', O3, ok3, q⟩⟩
    · rw [List.drop_length] at hl
      cases hl
      exact q σ' H' N' O' ok' f⟩

/-! ### comprehensions -/
def wipeE (env : Ev) : List Nat → Ev
  | [] => env
  | v :: vs => (wipeE env vs).set v .no
theorem ok_wipe {K : PySem.W.Frag} {N : Addr → Prop} {σ : L2.St} {H : Hp} {O : List (Option Addr)} (ok : Ok K H0 M N σ H env O) : ∀ vs : List Nat, ∃ O', Ok K H0 M N (wipe σ vs) H (wipeE env vs) O' ∧ ∀ (j : Nat) p, O'[j]? = some (some p) → O[j]? = some (some p)
  | [] => ⟨O, ok, fun _ _ z => z⟩
  | v :: vs => by
    obtain ⟨O1, ok1, h1⟩ := ok_wipe ok vs
    refine ⟨O1.set v none, ok1.set_no, fun j p hj => ?_⟩
    by_cases e : v = j
    · subst e
      by_cases z : v < O1.length
      · rw [List.getElem?_set_self z] at hj
        cases hj
      · rw [List.getElem?_eq_none (by simpa using z)] at hj
        cases hj
    · rw [List.getElem?_set_ne e] at hj
      exact h1 j p hj
theorem wipe_get {σ : L2.St} {vs : List Nat} {j : Nat} : (wipe σ vs)[j]? = if j ∈ vs ∧ j < σ.length then some none else σ[j]? := by
  induction vs with
  | nil => simp [wipe]
  | cons v vs ih =>
    unfold wipe
    by_cases e : v = j
    · subst e
      by_cases z : v < σ.length
      · rw [List.getElem?_set_self (by rw [wipe_length]; exact z), if_pos ⟨List.mem_cons_self .., z⟩]
      · rw [List.getElem?_eq_none (by rw [List.length_set, wipe_length]; omega), if_neg (fun y => z y.2), List.getElem?_eq_none (by omega)]
    · rw [List.getElem?_set_ne e, ih]
      simp only [List.mem_cons, show ¬ j = v from fun z => e z.symm, false_or]
theorem wipe_eq {σ σ2 : L2.St} {vs js : List Nat} (hl : σ2.length = (wipe σ vs).length) (h : ∀ j, j ∉ js → σ2[j]? = (wipe σ vs)[j]?) (hj : ∀ j ∈ js, j ∈ vs) : wipe σ2 vs = wipe σ vs := by
  rw [wipe_length] at hl
  refine List.ext_getElem? fun j => ?_
  rw [wipe_get, wipe_get, hl]
  by_cases z : j ∈ vs ∧ j < σ.length
  · rw [if_pos z, if_pos z]
  · rw [if_neg z, if_neg z]
    by_cases y : j ∈ js
    · have : ¬ j < σ.length := fun x => z ⟨hj j y, x⟩
      rw [List.getElem?_eq_none (by omega), List.getElem?_eq_none (by omega)]
    · rw [h j y, wipe_get, if_neg z]
/-- the contexts of a comprehension's block -/
def Bk (X : Cx) (scope : Scope) (Y : Cx) : Prop := ∃ s H C cl fp, Y = X.blk s H scope (compEnvC scope cl C X.env) fp
abbrev ETs (X : Cx) (H0 : Hp) (M : Addr → Prop) (ifs : List Expr) (env : Ev) (b : Bool) : Prop := PTs X ifs (tET X.K H0 M env b)
theorem pts_weak {t t' : TT} (h : PTs X ifs t) (w : ∀ σ H Q, t' σ H Q → t σ H Q) : PTs X ifs t' := ⟨fun pins s σ H Q I q => h.run pins s σ H Q I (w _ _ _ q)⟩
theorem pts_any {ι : Type} {c : ι → Prop} {t : ι → TT} (h : ∀ i, c i → PTs X ifs (t i)) : PTs X ifs (fun σ H Q => ∃ i, c i ∧ t i σ H Q) := ⟨fun pins s σ H Q I ⟨i, ci, q⟩ => (h i ci).run pins s σ H Q I q⟩
theorem ets_nil : ETs X H0 M [] env true := pts_weak pts_nil fun σ H Q ⟨N, O, ok, k⟩ => k H (Same.refl _)
theorem ets_one (h : ET X H0 M c env x) : ETs X H0 M [c] env x := pts_one h
inductive Cp (P : Cx → Prop) (H0 : Hp) (M : Addr → Prop) (tg : Expr) (ifs : List Expr) (elt : Expr) (vs : List Nat) (env : Ev) : List D → List D → Prop
  | nil : Cp P H0 M tg ifs elt vs env [] []
  | yes {env1 : Ev} {d : D} {ds out : List D} {js : List Nat} {r : Res} : (∀ Y, P Y → AG Y H0 M tg env d env1 js) → (∀ j ∈ js, j ∈ vs) → (∀ Y, P Y → ETs Y H0 M ifs env1 true) → (∀ Y, P Y → EX Y H0 M elt env1 r) → r.per = true → Cp P H0 M tg ifs elt vs env ds out → Cp P H0 M tg ifs elt vs env (d :: ds) (r.v :: out)
  | no {env1 : Ev} {d : D} {ds out : List D} {js : List Nat} : (∀ Y, P Y → AG Y H0 M tg env d env1 js) → (∀ j ∈ js, j ∈ vs) → (∀ Y, P Y → ETs Y H0 M ifs env1 false) → Cp P H0 M tg ifs elt vs env ds out → Cp P H0 M tg ifs elt vs env (d :: ds) out
theorem Ok.upd_hid {K : PySem.W.Frag} {N : Addr → Prop} {σ : L2.St} {H : Hp} {O : List (Option Addr)} {p : Addr} {o : HO} (ok : Ok K H0 M N σ H env O) (hn : ¬ N p) (w : Wr H p) (h0 : H0 p = none) (ho : ∀ j : Nat, O[j]? ≠ some (some p)) : Ok K H0 M N σ (L2.upd H p o) env O where
  ext := same_mut ok.ext h0
  nm := ok.nm
  nf := fun a h => ok.nf a (by
    by_cases e : a = p
    · subst e
      rw [upd_same] at h
      cases h
    · rw [upd_ne e] at h
      exact h)
  len := ok.len
  olen := ok.olen
  d := fun i x h => by
    obtain ⟨v, h1, h2⟩ := ok.d i x h
    exact ⟨v, h1, h2.upd w hn⟩
  o := fun i x h => by
    obtain ⟨q, h1, h2, h3⟩ := ok.o i x h
    exact ⟨q, h1, h2, h3.upd w hn fun e => ho i (by rw [← e]; exact h1)⟩
  own := fun i q h => by
    obtain ⟨a, b, c⟩ := ok.own i q h
    have ne : q ≠ p := fun e => ho i (by rw [← e]; exact h)
    refine ⟨a, b, ?_⟩
    rcases c with ⟨xs, c⟩ | ⟨xs, c⟩
    · exact .inl ⟨xs, by rw [upd_ne ne]; exact c⟩
    · exact .inr ⟨xs, by rw [upd_ne ne]; exact c⟩
  inj := ok.inj
/-- the readings of a block's parts -/
def gCp (P : Cx → Prop) (K : PySem.W.Frag) (H0 : Hp) (M : Addr → Prop) (tg : Expr) : TG := fun v σ H Q => ∃ p : Ev × D × Ev × List Nat, (∀ Y, P Y → AG Y H0 M tg p.1 p.2.1 p.2.2.1 p.2.2.2) ∧ tAG K H0 M p.1 p.2.1 p.2.2.1 p.2.2.2 v σ H Q
def tCp (P : Cx → Prop) (K : PySem.W.Frag) (H0 : Hp) (M : Addr → Prop) (ifs : List Expr) : TT := fun σ H Q => ∃ p : Ev × Bool, (∀ Y, P Y → ETs Y H0 M ifs p.1 p.2) ∧ tET K H0 M p.1 p.2 σ H Q
def eCp (P : Cx → Prop) (K : PySem.W.Frag) (H0 : Hp) (M : Addr → Prop) (elt : Expr) : TE := fun σ H Q => ∃ p : Ev × Res, (∀ Y, P Y → EX Y H0 M elt p.1 p.2) ∧ tEX K H0 M p.1 p.2 σ H Q
theorem lc_read {K : PySem.W.Frag} {P : Cx → Prop} {vs : List Nat} {out : List D} {σ : L2.St} {H : Hp} {Q : VK} (hz : ds.length ≤ 100000) (h : Cp P H0 M tg ifs elt vs (wipeE env vs) ds out) (t : tEX K H0 M env (.new (.lst out)) σ H Q) : tLc (tIT K H0 M env ds) (gCp P K H0 M tg) (tCp P K H0 M ifs) (eCp P K H0 M elt) vs σ H Q := by
  obtain ⟨N, O, ok, q⟩ := t
  refine ⟨N, O, ok, fun J H1 e1 ⟨G, Y, w, hG, hY⟩ L hL => ?_⟩
  obtain ⟨O1, ok1, hO⟩ := ok_wipe (ok.mono e1) vs
  have hoD : ∀ j : Nat, O1[j]? ≠ some (some L) := fun j hj => by
    obtain ⟨_, _, c⟩ := (ok.mono e1).own j L (hO j L hj)
    rcases c with ⟨_, c⟩ | ⟨_, c⟩ <;> rw [hL] at c <;> cases c
  have h0D : H0 L = none := (ok.mono e1).ext.free hL
  have frD : ∀ {H' : Hp} {N' : Addr → Prop}, Same H1 H' → (∀ a, N' a ↔ N a ∧ a ≠ L) → Fr N H1 N' H' := fun e n b o hb => ⟨fun nb => ⟨e _ _ hb, (n b).mpr ⟨nb, ne_of_none hb hL⟩⟩, fun _ => e _ _ hb⟩
  refine lc_it w (fun i H' => Same H1 H' ∧ Ok K H0 M (fun a => N a ∧ a ≠ L) (wipe σ vs) H' (wipeE env vs) O1 ∧ ∃ acc fin rest, H' L = some (.lst acc) ∧ RA K H' (fun a => N a ∧ a ≠ L) acc fin ∧ fin.length ≤ i ∧ out = fin ++ rest ∧ Cp P H0 M tg ifs elt vs (wipeE env vs) (ds.drop i) rest)
    ⟨same_new hL, ok1.hide hL, [], [], out, upd_same, .nil, Nat.le_refl _, rfl, h⟩ (fun i H' _ ⟨e, _⟩ => hG _ H' (frD e fun _ => Iff.rfl)) (fun i x H' H2 hi ⟨e, ok2, acc, fin, rest, ha, hr, hf, ho, hc⟩ y => ?_) fun H' ⟨e, ok2, acc, fin, rest, ha, hr, hf, ho, hc⟩ => ?_
  · obtain ⟨s2, r2⟩ := hY i H' x H2 _ ds[i] (frD e fun _ => Iff.rfl) (List.getElem?_eq_getElem hi) y
    rw [drop_cons hi] at hc
    have key : ∀ {H4 : Hp} {v : V} {d : D}, Same H' H4 → Ok K H0 M (fun a => N a ∧ a ≠ L) (wipe σ vs) H4 (wipeE env vs) O1 → R K H4 (fun a => N a ∧ a ≠ L) v d → ∀ rest', out = fin ++ (d :: rest') → Cp P H0 M tg ifs elt vs (wipeE env vs) (ds.drop (i + 1)) rest' →
        ∃ acc, H4 L = some (.lst acc) ∧ acc.length < sizeLine ∧ (Same H1 (L2.upd H4 L (.lst (acc ++ [v]))) ∧ Ok K H0 M (fun a => N a ∧ a ≠ L) (wipe σ vs) (L2.upd H4 L (.lst (acc ++ [v]))) (wipeE env vs) O1 ∧ ∃ acc' fin' rest', L2.upd H4 L (.lst (acc ++ [v])) L = some (.lst acc') ∧
          RA K (L2.upd H4 L (.lst (acc ++ [v]))) (fun a => N a ∧ a ≠ L) acc' fin' ∧ fin'.length ≤ i + 1 ∧ out = fin' ++ rest' ∧ Cp P H0 M tg ifs elt vs (wipeE env vs) (ds.drop (i + 1)) rest') := fun {H4 v d} e4 ok4 r4 rest' ho' hc' => by
      have hw : Wr H4 L := .inl ⟨acc, e4 _ _ ha⟩
      have hn : ¬ (N L ∧ L ≠ L) := fun z => z.2 rfl
      refine ⟨acc, e4 _ _ ha, ?_, same_mut (e.trans e4) hL, ok4.upd_hid hn hw h0D hoD, acc ++ [v], fin ++ [d], rest', upd_same, RA.upd hw hn ((hr.same e4).append (.cons r4 .nil)), ?_, ?_, hc'⟩
      · rw [hr.length]
        exact Nat.lt_of_lt_of_le (by omega) (by decide : 200000 ≤ sizeLine)
      · rw [List.length_append, List.length_singleton]
        omega
      · rw [ho', List.append_assoc]
        rfl
    cases hc with
    | @yes env1 _ _ out' js r hag hj ht he hper hc =>
      refine ⟨(_, _, _, _), hag, _, O1, ok2.mono s2, r2, fun σ2 O2 ok3 l3 f3 => ⟨wipe_eq l3 f3 hj, (_, true), ht, _, O2, ok3, fun H3 e3 => iteT ⟨(_, _), he, _, O2, ok3.mono e3, fun v H4 e4 r4 => ?_⟩⟩⟩
      have s4 := (s2.trans e3).trans e4
      exact key s4 (ok2.mono s4) (r4.keep hper) _ ho hc
    | @no env1 _ _ _ js hag hj ht hc =>
      refine ⟨(_, _, _, _), hag, _, O1, ok2.mono s2, r2, fun σ2 O2 ok3 l3 f3 => ⟨wipe_eq l3 f3 hj, (_, false), ht, _, O2, ok3, fun H3 e3 => iteF ?_⟩⟩
      have s4 := s2.trans e3
      exact ⟨e.trans s4, ok2.mono s4, acc, fin, rest, s4 _ _ ha, hr.same s4, by omega, ho, hc⟩
  · rw [List.drop_length] at hc
    cases hc
    rw [List.append_nil] at ho
    subst ho
    exact q _ H' (e1.trans e) ⟨L, rfl, e1.free hL, ok.nf L (e1.free hL), acc, ha, hr⟩
theorem cp_all {P : Cx → Prop} {vs : List Nat} {α : Type} {xs : List α} {enc f : α → D} (e1 : α → Ev) (js : List Nat) (hj : ∀ j ∈ js, j ∈ vs) (hag : ∀ x ∈ xs, ∀ Y, P Y → AG Y H0 M tg env (enc x) (e1 x) js) (he : ∀ x ∈ xs, ∀ Y, P Y → EX Y H0 M elt (e1 x) (.d (f x))) : Cp P H0 M tg [] elt vs env (xs.map enc) (xs.map f) := by
  induction xs with
  | nil => exact .nil
  | cons x xs ih =>
    exact .yes (hag x (List.mem_cons_self ..)) hj (fun Y _ => ets_nil) (he x (List.mem_cons_self ..)) rfl (ih (fun y hy => hag y (List.mem_cons_of_mem _ hy)) fun y hy => he y (List.mem_cons_of_mem _ hy))
theorem cp_filt {P : Cx → Prop} {vs : List Nat} {α : Type} {xs : List α} {enc f : α → D} (p : α → Bool) (e1 : α → Ev) (js : List Nat) (hj : ∀ j ∈ js, j ∈ vs) (hag : ∀ x ∈ xs, ∀ Y, P Y → AG Y H0 M tg env (enc x) (e1 x) js) (ht : ∀ x ∈ xs, ∀ Y, P Y → ET Y H0 M c (e1 x) (p x)) (he : ∀ x ∈ xs, p x = true → ∀ Y, P Y → EX Y H0 M elt (e1 x) (.d (f x))) :
    Cp P H0 M tg [c] elt vs env (xs.map enc) ((xs.filter p).map f) := by
  induction xs with
  | nil => exact .nil
  | cons x xs ih =>
    have h1 := hag x (List.mem_cons_self ..)
    have h2 := ht x (List.mem_cons_self ..)
    have h3 := he x (List.mem_cons_self ..)
    have h4 := ih (fun y hy => hag y (List.mem_cons_of_mem _ hy)) (fun y hy => ht y (List.mem_cons_of_mem _ hy)) fun y hy => he y (List.mem_cons_of_mem _ hy)
    cases hp : p x with
    | true =>
      rw [List.filter_cons_of_pos hp]
      rw [hp] at h2
      exact .yes h1 hj (fun Y hY => ets_one (h2 Y hY)) (h3 hp) rfl h4
    | false =>
      rw [List.filter_cons_of_neg (by rw [hp]; decide)]
      rw [hp] at h2
      exact .no h1 hj (fun Y hY => ets_one (h2 Y hY)) h4
theorem cp_allD {P : Cx → Prop} {vs : List Nat} {f : D → D} (e1 : D → Ev) (js : List Nat) (hj : ∀ j ∈ js, j ∈ vs) (hag : ∀ x ∈ ds, ∀ Y, P Y → AG Y H0 M tg env x (e1 x) js) (he : ∀ x ∈ ds, ∀ Y, P Y → EX Y H0 M elt (e1 x) (.d (f x))) : Cp P H0 M tg [] elt vs env ds (ds.map f) := by
  have := cp_all (P := P) (vs := vs) (xs := ds) (enc := id) e1 js hj hag he
  rw [List.map_id] at this
  exact this
theorem ex_lc {scope : Scope} {out : List D} (own : List (Str × Nat)) (hc : X.calm = true) (hN : X.N.Nodup) (hi : IT X H0 M tg iter env ds) (hz : ds.length ≤ 100000) (h : Cp (Bk X scope) H0 M tg ifs elt (own.map (·.2)) (wipeE env (own.map (·.2))) ds out)
    (ok : blkC X.N X.env.scope scope own = true := by kernel_rfl) (hs : ∀ x, foldedSetIterable iter X.env x = pure x := by intro _; rfl) : EX X H0 M (.ListComp elt [⟨tg, iter, ifs, 0⟩] scope pos) env (.new (.lst out)) :=
  pe_weak (pe_lc (own := own) hc hN hi (blkOk_by ok) (fun s H C cl fp => pg_any (ι := Ev × D × Ev × List Nat) (c := fun p => ∀ Y, Bk X scope Y → AG Y H0 M tg p.1 p.2.1 p.2.2.1 p.2.2.2) (t := fun p => tAG X.K H0 M p.1 p.2.1 p.2.2.1 p.2.2.2) fun _ z => z _ ⟨s, H, C, cl, fp, rfl⟩)
    (fun s H C cl fp => pts_any (ι := Ev × Bool) (c := fun p => ∀ Y, Bk X scope Y → ETs Y H0 M ifs p.1 p.2) (t := fun p => tET X.K H0 M p.1 p.2) fun _ z => z _ ⟨s, H, C, cl, fp, rfl⟩)
    (fun s H C cl fp => pe_any (ι := Ev × Res) (c := fun p => ∀ Y, Bk X scope Y → EX Y H0 M elt p.1 p.2) (t := fun p => tEX X.K H0 M p.1 p.2) fun _ z => z _ ⟨s, H, C, cl, fp, rfl⟩) hs) fun σ H Q t => lc_read hz h t
/-- name = [..] on one line, the name a local -/
theorem x_lc {scope : Scope} {out : List D} {n : Str} {py spos : Pos} (i : Nat) (own : List (Str × Nat)) (hc : X.calm = true) (hN : X.N.Nodup) (hi : IT X H0 M tg iter env ds) (hz : ds.length ≤ 100000) (h : Cp (Bk X scope) H0 M tg ifs elt (own.map (·.2)) (wipeE env (own.map (·.2))) ds out)
    (hy : X.N[i]? = some n := by rfl) (hyl : X.env.scope.names.lookup n = some .local := by rfl) (hk : X.env.scope.kind = .function := by rfl) (hl : (py.line == pos.line) = true := by rfl) (ha : (scope.names.any fun (m, k) => m == n && (k == .local || k == .cell)) = false := by decide +kernel)
    (ok : blkC X.N X.env.scope scope own = true := by kernel_rfl) (hs : ∀ x, foldedSetIterable iter X.env x = pure x := by intro _; rfl) : X1 X H0 M (.Assign [.Name n py] (.ListComp elt [⟨tg, iter, ifs, 0⟩] scope pos) spos) env (.nx (env.set i (.d (.lst out)))) :=
  ps_weak (ps_setLc (i := i) (own := own) hc hN hy hyl (sw_true hk hyl hl ha) hi (blkOk_by ok) (fun s H C cl fp => pg_any (ι := Ev × D × Ev × List Nat) (c := fun p => ∀ Y, Bk X scope Y → AG Y H0 M tg p.1 p.2.1 p.2.2.1 p.2.2.2) (t := fun p => tAG X.K H0 M p.1 p.2.1 p.2.2.1 p.2.2.2) fun _ z => z _ ⟨s, H, C, cl, fp, rfl⟩)
    (fun s H C cl fp => pts_any (ι := Ev × Bool) (c := fun p => ∀ Y, Bk X scope Y → ETs Y H0 M ifs p.1 p.2) (t := fun p => tET X.K H0 M p.1 p.2) fun _ z => z _ ⟨s, H, C, cl, fp, rfl⟩)
    (fun s H C cl fp => pe_any (ι := Ev × Res) (c := fun p => ∀ Y, Bk X scope Y → EX Y H0 M elt p.1 p.2) (t := fun p => tEX X.K H0 M p.1 p.2) fun _ z => z _ ⟨s, H, C, cl, fp, rfl⟩) hs) fun E σ H ⟨N, O, okk, q⟩ =>
    lc_read hz h ⟨N, O, okk, fun v H' e1 r1 => q _ H' N (O.set i none) ((okk.mono e1).set_d (r1.keep rfl)) (.of_same e1)⟩

/-! ### calls of defs -/
def spF (K : PySem.W.Frag) (F : List D → D → Prop) : Sp := fun vs H Q _ => ∃ ds d, F ds d ∧ RA K H (fun _ => True) vs ds ∧ ∀ v H', Same H H' → R K H' (fun a => H a = none) v d → Q v H'
/-- what a def's object is, and that each parameter is given in a call -/
abbrev BindsA (K : PySem.W.Frag) (f : Addr) (fd : FuncData) (ps : List Str) : Prop := Binds K fd ps [] ∧ ∃ oc od osl, K.lookup f = some ⟨oc, od, .func fd, osl⟩
theorem fun_at {K : PySem.W.Frag} {x q : Str} {st : Stmt} {f : Addr} {fd : FuncData} (F : Fun K x q st f fd) : ∃ oc od osl, K.lookup f = some ⟨oc, od, .func fd, osl⟩ := by
  obtain ⟨oc, od, _, _, _, _, _, _, osl, _, lk, _⟩ := F.ex
  exact ⟨oc, od, osl, lk⟩
/-- a def that hands back F's data -/
structure Ct (P : Program) (w : World) (K : PySem.W.Frag) (mg : Str → Option Value) (base : Heap) (k : Nat) (n : Str) (ps : List Str) (F : List D → D → Prop) : Prop where
  ex : ∃ f fd, FnOk P w K mg base CX0 k f fd ps (spF K F) ∧ mg n = some (.ref f) ∧ PySem.W.keepIn K (.ref f) = true ∧ BindsA K f fd ps
theorem Ct.mono {P : Program} {w : World} {K : PySem.W.Frag} {mg : Str → Option Value} {base : Heap} {j k : Nat} {n : Str} {ps : List Str} {F : List D → D → Prop} (c : Ct P w K mg base j n ps F) (h : j ≤ k) : Ct P w K mg base k n ps F := by
  obtain ⟨f, fd, h1, h2⟩ := c.ex
  exact ⟨f, fd, h1.mono h, h2⟩
theorem rest_fresh {K : PySem.W.Frag} {N : Addr → Prop} {σ : L2.St} {H1 H2 : Hp} {O : List (Option Addr)} {v : V} {d : D} (ok : Ok K H0 M N σ H1 env O) (h : R K H2 (fun a => H1 a = none) v d) : R K H2 N v d := h.mono (Same.refl _) ok.nf
theorem ex_call {k : Nat} {n : Str} {ps : List Str} {F : List D → D → Prop} {rs : List Res} {d : D} {p : Pos} (C : Ct X.prog X.w X.K X.mg X.base k n ps F) (hr : Room k X.A) (ha : EA X H0 M (e :: es) env rs) (h : F (rs.map Res.v) d) (hg : Gl X n := by rfl) (hdb : (n == ("__debug__" : Str)) = false := by decide)
    (he : starEach (e :: es) X.env = (false, eval e X.env) :: starEach es X.env := by rfl) (hpl : (backTo pos (starEach es X.env)).any (·.1) = false := by rfl) : EX X H0 M (.Call (.Name n p) (e :: es) [] pos) env (.d d) := by
  obtain ⟨f, fd, h1, h2, h3, h4⟩ := C.ex
  exact pe_weak (pe_call h1 hr hg h2 h3 h4.1 .nil pass0 ha hdb he hpl) fun σ H Q ⟨N, O, ok, q⟩ => ⟨N, O, ok, fun vs H1 e1 r1 => ⟨_, d, h, by rw [List.append_nil]; exact rrs_any r1, fun v H2 e2 r2 => q v H2 (e1.trans e2) (rest_fresh (ok.mono e1) r2)⟩⟩
/-- the list handed back is the caller's own, its items without lists -/
theorem ex_callN {k : Nat} {n : Str} {ps : List Str} {F : List D → D → Prop} {rs : List Res} {d : List D} {p : Pos} (C : Ct X.prog X.w X.K X.mg X.base k n ps F) (hr : Room k X.A) (ha : EA X H0 M (e :: es) env rs) (h : F (rs.map Res.v) (.lst d)) (hf : D.flats d = true) (hg : Gl X n := by rfl) (hdb : (n == ("__debug__" : Str)) = false := by decide)
    (he : starEach (e :: es) X.env = (false, eval e X.env) :: starEach es X.env := by rfl) (hpl : (backTo pos (starEach es X.env)).any (·.1) = false := by rfl) : EX X H0 M (.Call (.Name n p) (e :: es) [] pos) env (.new (.lst d)) := by
  obtain ⟨f, fd, h1, h2, h3, h4⟩ := C.ex
  exact pe_weak (pe_call h1 hr hg h2 h3 h4.1 .nil pass0 ha hdb he hpl) fun σ H Q ⟨N, O, ok, q⟩ => ⟨N, O, ok, fun vs H1 e1 r1 => ⟨_, _, h, by rw [List.append_nil]; exact rrs_any r1, fun v H2 e2 r2 => by
    cases r2 with
    | @lst a xs _ g1 g2 g3 => exact q _ H2 (e1.trans e2) ⟨a, rfl, e1.free g2, ok.nf a (e1.free g2), xs, g1, g3.flat hf⟩⟩⟩

/-! ### defs -/
abbrev cx0 (P : Program) (w : World) (K : PySem.W.Frag) (mg : Str → Option Value) (base : Heap) (N : List Str) (x : Str) (st : Stmt) (f : Addr) (cdv : Value) (A : Around) (outer : List Env) (s : Shared) (H : Hp) (E : XK) : Cx := (cxOf CX0 P w K mg base N x (defScope st) f cdv A outer s H E).nox
def envOf (N : List Str) (ds : List D) : Ev := ds.map Sl.d ++ List.replicate (N.length - ds.length) .no
def BodyOk (X : Cx) (H0 : Hp) (M : Addr → Prop) (body : List Stmt) (env : Ev) (d : D) : Prop := (∃ fr, XS X H0 M body env (.rt fr d)) ∨ (d = .non ∧ ∃ env', XS X H0 M body env (.nx env'))
/-- for lists and dicts among the arguments: what is handed back is flat, or a new list or dict of flat things -/
def BodyOkA (X : Cx) (H0 : Hp) (M : Addr → Prop) (body : List Stmt) (env : Ev) (d : D) : Prop := (d.flat = true ∧ ∃ fr, XS X H0 M body env (.rt fr d)) ∨ ((∃ es, d = .lst es ∧ D.flats es = true) ∧ XS X H0 M body env (.rt true d)) ∨ ((∃ ks es, d = .dic ks es ∧ D.flats es = true) ∧ XS X H0 M body env (.rt true d)) ∨ (d = .non ∧ ∃ env', XS X H0 M body env (.nx env'))
theorem ok_start {K : PySem.W.Frag} {H : Hp} {N : List Str} {vs : List V} (hm : ∀ a, H a = none → M a) (h : RA K H M vs ds) (hl : ds.length ≤ N.length) : Ok K H M M (L2.start N vs) H (envOf N ds) (List.replicate N.length none) where
  ext := Same.refl _
  nm := fun _ z => z
  nf := hm
  len := by simp [envOf, L2.start, h.length]
  olen := by simp [L2.start, h.length]; omega
  d := fun i x hi => by
    unfold envOf at hi
    by_cases z : i < ds.length
    · rw [List.getElem?_append_left (by simpa using z), List.getElem?_map, List.getElem?_eq_getElem z] at hi
      simp only [Option.map_some, Option.some.injEq, Sl.d.injEq] at hi
      obtain ⟨v, h1, h2⟩ := h.get (i := i) (d := x) (by rw [List.getElem?_eq_getElem z, hi])
      refine ⟨v, ?_, h2⟩
      unfold L2.start
      rw [List.getElem?_append_left (by simpa [h.length] using z), List.getElem?_map, h1]
      rfl
    · rw [List.getElem?_append_right (by simpa using z), List.getElem?_replicate] at hi
      split at hi <;> cases hi
  o := fun i x hi => by
    unfold envOf at hi
    by_cases z : i < ds.length
    · rw [List.getElem?_append_left (by simpa using z), List.getElem?_map, List.getElem?_eq_getElem z] at hi
      simp only [Option.map_some, Option.some.injEq] at hi
      cases hi
    · rw [List.getElem?_append_right (by simpa using z), List.getElem?_replicate] at hi
      split at hi <;> cases hi
  own := fun i p hi => by
    rw [List.getElem?_replicate] at hi
    split at hi <;> cases hi
  inj := fun i j p hi => by
    rw [List.getElem?_replicate] at hi
    split at hi <;> cases hi
theorem ret_fresh {K : PySem.W.Frag} {H H' : Hp} {v : V} {d : D} {fr : Bool} (h : RetR K H H' (fun a => H a = none) v fr d) : R K H' (fun a => H a = none) v d := by
  cases fr with
  | true =>
    obtain ⟨p, rfl, h1, h2⟩ := (show ∃ p, v = .ref p ∧ H p = none ∧ OwnR K H' (fun a => H a = none) p d from h)
    exact OwnR.r h1 h2
  | false => exact h
section
variable {P : Program} {w : World} {K : PySem.W.Frag} {mg : Str → Option Value} {base : Heap} {n : Str} {st : Stmt} {f : Addr} {fd : FuncData} {N ps : List Str} {k : Nat} {F : List D → D → Prop}
/-- a def whose arguments hold no lists and dicts -/
theorem ct_flat (Fn : Fun K n n st f fd) (S : FnScope N ps (defScope st)) (hb : Binds K fd ps []) (hm : mg n = some (.ref f)) (hlen : ∀ ds d, F ds d → ds.length = ps.length ∧ D.flats ds = true) (hN : ps.length ≤ N.length)
    (body : ∀ (cdv : Value) (A : Around) (outer : List Env) (s : Shared) (H : Hp) (E : XK), Room k (A.deeper (envOfC n (defScope st) s.heap.objs.size f cdv)) → ∀ ds d, F ds d → BodyOk (cx0 P w K mg base N n st f cdv A outer s H E) H (fun a => H a = none) (defBody st) (envOf N ds) d) : Ct P w K mg base (k + 1) n ps F := by
  refine ⟨f, fd, Fn.ok S (fun vs H Q E h => ?_) (fun cdv A outer s H vs Q E hr h => ?_), hm, Fn.kp, hb, fun_at Fn⟩
  · obtain ⟨ds, d, h1, h2, _⟩ := h
    rw [h2.length]
    exact (hlen ds d h1).1
  · obtain ⟨ds, d, h1, h2, q⟩ := h
    obtain ⟨hl, hf⟩ := hlen ds d h1
    have ok := ok_start (M := fun a => H a = none) (N := N) (fun _ z => z) (h2.flat hf) (by rw [hl]; exact hN)
    rcases body cdv A outer s H E hr ds d h1 with ⟨fr, hx⟩ | ⟨rfl, env', hx⟩
    · exact ⟨_, hx, _, _, ok, fun v H' e r => q v H' e (ret_fresh r)⟩
    · exact ⟨_, hx, _, _, ok, fun σ' H' N' O' ok' _ => q _ H' ok'.ext .non⟩
theorem ct_any (Fn : Fun K n n st f fd) (S : FnScope N ps (defScope st)) (hb : Binds K fd ps []) (hm : mg n = some (.ref f)) (hlen : ∀ ds d, F ds d → ds.length = ps.length) (hN : ps.length ≤ N.length)
    (body : ∀ (cdv : Value) (A : Around) (outer : List Env) (s : Shared) (H : Hp) (E : XK), Room k (A.deeper (envOfC n (defScope st) s.heap.objs.size f cdv)) → ∀ ds d, F ds d → BodyOkA (cx0 P w K mg base N n st f cdv A outer s H E) H (fun _ => True) (defBody st) (envOf N ds) d) : Ct P w K mg base (k + 1) n ps F := by
  refine ⟨f, fd, Fn.ok S (fun vs H Q E h => ?_) (fun cdv A outer s H vs Q E hr h => ?_), hm, Fn.kp, hb, fun_at Fn⟩
  · obtain ⟨ds, d, h1, h2, _⟩ := h
    rw [h2.length]
    exact hlen ds d h1
  · obtain ⟨ds, d, h1, h2, q⟩ := h
    have ok := ok_start (M := fun _ => True) (N := N) (fun _ _ => trivial) h2 (by rw [hlen ds d h1]; exact hN)
    rcases body cdv A outer s H E hr ds d h1 with ⟨hf, fr, hx⟩ | ⟨⟨es, rfl, hf⟩, hx⟩ | ⟨⟨ks, es, rfl, hf⟩, hx⟩ | ⟨rfl, env', hx⟩
    · refine ⟨_, hx, _, _, ok, fun v H' e r => q v H' e ?_⟩
      cases fr with
      | true =>
        obtain ⟨p, rfl, g1, g2⟩ := (show ∃ p, v = .ref p ∧ H p = none ∧ OwnR K H' (fun _ => True) p d from r)
        exact (OwnR.r (N := fun _ => True) trivial g2).flat hf
      | false => exact (show R K H' (fun _ => True) v d from r).flat hf
    · refine ⟨_, hx, _, _, ok, fun v H' e r => q v H' e ?_⟩
      obtain ⟨p, rfl, g1, vs, g2, g3⟩ := (show ∃ p, v = .ref p ∧ H p = none ∧ OwnR K H' (fun _ => True) p (.lst es) from r)
      exact .lst g2 g1 (g3.flat hf)
    · refine ⟨_, hx, _, _, ok, fun v H' e r => q v H' e ?_⟩
      obtain ⟨p, rfl, g1, vs, g2, g3, g4⟩ := (show ∃ p, v = .ref p ∧ H p = none ∧ OwnR K H' (fun _ => True) p (.dic ks es) from r)
      exact .dic (.inl g2) g1 g3 (g4.flat hf)
    · exact ⟨_, hx, _, _, ok, fun σ' H' N' O' ok' _ => q _ H' ok'.ext .non⟩
end
end
end Zb
/-! The data layer, 5: more built-ins. -/
namespace Zb
open PySem PySem.Spec PyProof.Rows L2

/-! ### isinstance -/
def D.ty : D → String
  | .non => "NoneType"
  | .bl _ => "bool"
  | .int _ => "int"
  | .str _ => "str"
  | .tup _ => "tuple"
  | .lst _ => "list"
  | .dic _ _ => "dict"
theorem R.ty {K : PySem.W.Frag} {H : Hp} {N : Addr → Prop} {v : V} {d : D} (r : R K H N v d) : TyX K H v (.type d.ty) := by
  cases r with
  | non => exact .base .non
  | bl b => exact .base (.bl b)
  | int b => exact .base (.int b)
  | str b => exact .base (.str b)
  | tup s _ =>
    rcases s with (s | ⟨o, s⟩) | ⟨o, its, n, h1, h2, _⟩
    · exact .base (.tup s)
    · exact .fTuple s
    · exact .kTuple h1 h2
  | lst s _ _ => exact .base (.lst s)
  | dic s _ _ _ =>
    rcases s with s | ⟨o, s⟩
    · exact .base (.dK s)
    · exact .fDict s
def isT (T : String) (d : D) : Bool := (kitB d.ty T).getD false
def KitOk (T : String) : Prop := ∀ d : D, (kitB d.ty T).isSome = true
theorem kit_int : KitOk "int" := fun d => by cases d <;> (simp only [D.ty]; decide +kernel)
theorem kit_bool : KitOk "bool" := fun d => by cases d <;> (simp only [D.ty]; decide +kernel)
theorem kit_tuple : KitOk "tuple" := fun d => by cases d <;> (simp only [D.ty]; decide +kernel)
theorem kit_list : KitOk "list" := fun d => by cases d <;> (simp only [D.ty]; decide +kernel)
theorem kit_str : KitOk "str" := fun d => by cases d <;> (simp only [D.ty]; decide +kernel)
theorem kit_is {K : PySem.W.Frag} {T : String} (h : KitOk T) (d : D) : PySem.W.kitOne K (.type d.ty) (.type T) = some (isT T d) := by
  refine kit_ty ?_
  unfold isT
  cases e : kitB d.ty T with
  | none =>
    have := h d
    rw [e] at this
    cases this
  | some b => rfl
def isI : D → Bool
  | .bl _ => true
  | .int _ => true
  | _ => false
def isB : D → Bool
  | .bl _ => true
  | _ => false
def isTu : D → Bool
  | .tup _ => true
  | _ => false
def isLi : D → Bool
  | .lst _ => true
  | _ => false
def isS : D → Bool
  | .str _ => true
  | _ => false
theorem isT_int (d : D) : isT "int" d = isI d := by cases d <;> (simp only [isT, D.ty, isI]; decide +kernel)
theorem isT_bool (d : D) : isT "bool" d = isB d := by cases d <;> (simp only [isT, D.ty, isB]; decide +kernel)
theorem isT_tuple (d : D) : isT "tuple" d = isTu d := by cases d <;> (simp only [isT, D.ty, isTu]; decide +kernel)
theorem isT_list (d : D) : isT "list" d = isLi d := by cases d <;> (simp only [isT, D.ty, isLi]; decide +kernel)
theorem isT_str (d : D) : isT "str" d = isS d := by cases d <;> (simp only [isT, D.ty, isS]; decide +kernel)
section
variable {X : Cx} {H0 : Hp} {M : Addr → Prop} {env env1 env2 : Ev} {out out' : Out} {r ra rb rc : Res} {a b c e tg iter elt : Expr} {es ifs : List Expr} {pos : Pos} {st : Stmt} {body sts els : List Stmt} {x y : Bool} {ds : List D}
theorem ex_isi {p p2 : Pos} {T : Str} {U : String} (k : KitOk U) (hm : X.mg "isinstance" = none) (hmT : X.mg T = none) (ha : EX X H0 M a env r) (hg : Gl X "isinstance" := by rfl) (hgT : Gl X T := by rfl) (hv : bootBuiltins T = some (.type U) := by decide +kernel) (hn : T ≠ "__name__" := by decide) (hd : (T == ("__debug__" : Str)) = false := by decide)
    (h1 : starEach [a, .Name T p2] X.env = (false, eval a X.env) :: starEach [.Name T p2] X.env := by rfl) (h2 : (backTo pos (starEach [.Name T p2] X.env)).any (·.1) = false := by rfl) : EX X H0 M (.Call (.Name "isinstance" p) [a, .Name T p2] [] pos) env (.d (.bl (isT U r.v))) :=
  pe_weak (pe_callB call_isi hg hm (by decide +kernel) (pa_cons ha (pa_cons (pe_bltn (v := .ty U) hgT hmT hv rfl hn hd) pa_nil) h1) (he := h1) (hpl := h2)) fun σ H Q ⟨N, O, ok, k'⟩ => ⟨N, O, ok, fun v H1 e1 r1 =>
    ⟨v, .ty U, _, _, _, rfl, .ty U, r1.any.ty, kit_is k _, k' _ H1 e1 (.bl _)⟩⟩
theorem ex_isi2 {p p2 p3 tpos : Pos} {T1 T2 : Str} {U1 U2 : String} {kk} (k1 : KitOk U1) (k2 : KitOk U2) (hm : X.mg "isinstance" = none) (hm1 : X.mg T1 = none) (hm2 : X.mg T2 = none) (ha : EX X H0 M a env r) (hg : Gl X "isinstance" := by rfl) (hg1 : Gl X T1 := by rfl) (hg2 : Gl X T2 := by rfl) (hv1 : bootBuiltins T1 = some (.type U1) := by decide +kernel) (hv2 : bootBuiltins T2 = some (.type U2) := by decide +kernel)
    (hn1 : T1 ≠ "__name__" := by decide) (hn2 : T2 ≠ "__name__" := by decide) (hd1 : (T1 == ("__debug__" : Str)) = false := by decide) (hd2 : (T2 == ("__debug__" : Str)) = false := by decide)
    (h1 : starEach [a, .Tuple [.Name T1 p2, .Name T2 p3] kk tpos] X.env = (false, eval a X.env) :: starEach [.Tuple [.Name T1 p2, .Name T2 p3] kk tpos] X.env := by rfl) (h2 : (backTo pos (starEach [.Tuple [.Name T1 p2, .Name T2 p3] kk tpos] X.env)).any (·.1) = false := by rfl) :
    EX X H0 M (.Call (.Name "isinstance" p) [a, .Tuple [.Name T1 p2, .Name T2 p3] kk tpos] [] pos) env (.d (.bl (isT U1 r.v || isT U2 r.v))) :=
  pe_weak (pe_callB call_isiT hg hm (by decide +kernel) (pa_cons ha (pa_cons (pe_tup (pa_cons (pe_bltn (v := .ty U1) hg1 hm1 hv1 rfl hn1 hd1) (pa_cons (pe_bltn (v := .ty U2) hg2 hm2 hv2 rfl hn2 hd2) pa_nil))) pa_nil) h1) (he := h1) (hpl := h2)) fun σ H Q ⟨N, O, ok, k'⟩ => ⟨N, O, ok, fun v H1 e1 r1 =>
    ⟨by show 2 ≤ sizeLine; decide, fun q hq => ⟨v, q, _, _, _, _, rfl, upd_same, .cons (.ty U1) (.cons (.ty U2) .nil), (R.same (same_new hq) r1.any).ty, by
      refine kitAny_cons (kit_is k1 _) (r := isT U1 r.v || isT U2 r.v) (fun h => ?_) fun h => by rw [h]; rfl
      rw [h, Bool.false_or]
      exact kitAny_cons (kit_is k2 _) (fun h => by rw [h]; rfl) id, k' _ _ (e1.trans (same_new hq)) (.bl _)⟩⟩⟩

/-! ### == of data -/
mutual
def D.toP : D → PyData
  | .non => .none
  | .bl b => .bool b
  | .int i => .int i
  | .str s => .str s
  | .tup ds => .tuple (D.toPs ds)
  | .lst ds => .list (D.toPs ds)
  | .dic _ _ => .none
def D.toPs : List D → List PyData
  | [] => []
  | d :: ds => d.toP :: D.toPs ds
end
/-- nested so deep at the most, no dicts -/
def Shp : Nat → D → Prop
  | _, .non => True
  | _, .bl _ => True
  | _, .int _ => True
  | _, .str s => PyData.canLay0 (.str s) = true
  | 0, .tup _ => False
  | 0, .lst _ => False
  | k + 1, .tup ds => ∀ d ∈ ds, Shp k d
  | k + 1, .lst ds => ∀ d ∈ ds, Shp k d
  | _, .dic _ _ => False
theorem toPs_map : ∀ ds : List D, D.toPs ds = ds.map D.toP
  | [] => rfl
  | d :: ds => by rw [D.toPs, toPs_map ds]; rfl
theorem shp_mono : ∀ {k : Nat} {d : D}, Shp k d → Shp (k + 1) d
  | k, .non, _ => by cases k <;> trivial
  | k, .bl _, _ => by cases k <;> trivial
  | k, .int _, _ => by cases k <;> trivial
  | 0, .str s, h => h
  | k + 1, .str s, h => h
  | 0, .tup _, h => h.elim
  | 0, .lst _, h => h.elim
  | k + 1, .tup ds, h => fun d hd => shp_mono (h d hd)
  | k + 1, .lst ds, h => fun d hd => shp_mono (h d hd)
  | 0, .dic _ _, h => h.elim
  | k + 1, .dic _ _, h => h.elim
theorem shp_le {j k : Nat} {d : D} (h : Shp j d) (l : j ≤ k) : Shp k d := by
  induction l with
  | refl => exact h
  | step _ ih => exact shp_mono ih
theorem lay_all : ∀ {ds : List D}, (∀ d ∈ ds, d.toP.canLay0 = true) → PyData.canLayAll0 (D.toPs ds) = true
  | [], _ => by simp [D.toPs, PyData.canLayAll0]
  | d :: ds, h => by
    simp only [D.toPs, PyData.canLayAll0, Bool.and_eq_true]
    exact ⟨h d (List.mem_cons_self ..), lay_all fun x hx => h x (List.mem_cons_of_mem _ hx)⟩
theorem depth_all : ∀ {ds : List D} {k : Nat}, (∀ d ∈ ds, d.toP.depth ≤ k) → PyData.depthAll (D.toPs ds) ≤ k
  | [], k, _ => by simp [D.toPs, PyData.depthAll]
  | d :: ds, k, h => by
    simp only [D.toPs, PyData.depthAll]
    have h1 := h d (List.mem_cons_self ..)
    have h2 := depth_all (ds := ds) (k := k) fun x hx => h x (List.mem_cons_of_mem _ hx)
    omega
theorem shp_ok : ∀ {k : Nat} {d : D}, Shp k d → d.toP.canLay0 = true ∧ d.toP.depth ≤ k
  | k, .non, _ => by simp [D.toP, PyData.canLay0, PyData.depth]
  | k, .bl _, _ => by simp [D.toP, PyData.canLay0, PyData.depth]
  | k, .int _, _ => by simp [D.toP, PyData.canLay0, PyData.depth]
  | 0, .str s, h => ⟨h, by simp [D.toP, PyData.depth]⟩
  | k + 1, .str s, h => ⟨h, by simp [D.toP, PyData.depth]⟩
  | 0, .tup _, h => h.elim
  | 0, .lst _, h => h.elim
  | k + 1, .tup ds, h => by
    refine ⟨?_, ?_⟩
    · simp only [D.toP, PyData.canLay0]
      exact lay_all fun d hd => (shp_ok (h d hd)).1
    · simp only [D.toP, PyData.depth]
      have := depth_all (ds := ds) (k := k) fun d hd => (shp_ok (h d hd)).2
      omega
  | k + 1, .lst ds, h => by
    refine ⟨?_, ?_⟩
    · simp only [D.toP, PyData.canLay0]
      exact lay_all fun d hd => (shp_ok (h d hd)).1
    · simp only [D.toP, PyData.depth]
      have := depth_all (ds := ds) (k := k) fun d hd => (shp_ok (h d hd)).2
      omega
  | 0, .dic _ _, h => h.elim
  | k + 1, .dic _ _, h => h.elim
theorem shp_shaped {d : D} {k : Nat} (h : Shp k d) (hk : k ≤ 64) : SeqAt.shaped d.toP = true := by
  obtain ⟨h1, h2⟩ := shp_ok h
  unfold SeqAt.shaped
  rw [h1, Bool.true_and]
  exact decide_eq_true (by omega)
theorem shp_dp {K : PySem.W.Frag} {H : Hp} {N : Addr → Prop} : ∀ {k : Nat} {v : V} {d : D}, Shp k d → R K H N v d → Dp K H v d.toP := by
  intro k
  have all : ∀ (k : Nat), (∀ {v : V} {d : D}, Shp k d → R K H N v d → Dp K H v d.toP) → ∀ {vs : List V} {ds : List D}, (∀ d ∈ ds, Shp k d) → RA K H N vs ds → DpAll K H vs (D.toPs ds) := by
    intro k ih vs ds h r
    induction ds generalizing vs with
    | nil => cases r; exact .nil
    | cons d ds ih2 =>
      cases r with
      | cons a b => exact .cons (ih (h d (List.mem_cons_self ..)) a) (ih2 (fun x hx => h x (List.mem_cons_of_mem _ hx)) b)
  induction k with
  | zero =>
    intro v d h r
    cases r with
    | non => exact .non
    | bl b => exact .bl b
    | int b => exact .int b
    | str b => exact .str b
    | tup s t => exact h.elim
    | lst s n t => exact h.elim
    | dic s n k t => exact h.elim
  | succ k ih =>
    intro v d h r
    cases r with
    | non => exact .non
    | bl b => exact .bl b
    | int b => exact .int b
    | str b => exact .str b
    | tup s t => exact .tup s (all k ih h t)
    | lst s n t => exact .lst (SqL.of s) (all k ih h t)
    | dic s n k t => exact h.elim
def D.eqv (d e : D) : Bool := PyData.eqv d.toP e.toP
theorem r2_eqD {i j : Nat} (h1 : Shp i ra.v) (h2 : Shp j rb.v) (l1 : i ≤ 64) (l2 : j ≤ 64) : Rd2 X H0 M env ra rb (.d (.bl (D.eqv ra.v rb.v))) (rEqD X.K) := fun N O σ H H2 v w Q ok e r1 r2 k =>
  ⟨_, _, shp_dp h1 r1.any, shp_dp h2 r2.any, shp_shaped h1 l1, shp_shaped h2 l2, k _ H2 (Same.refl _) (.bl _)⟩
theorem r2_neD {i j : Nat} (h1 : Shp i ra.v) (h2 : Shp j rb.v) (l1 : i ≤ 64) (l2 : j ≤ 64) : Rd2 X H0 M env ra rb (.d (.bl (!D.eqv ra.v rb.v))) (rNeD X.K) := fun N O σ H H2 v w Q ok e r1 r2 k =>
  ⟨_, _, shp_dp h1 r1.any, shp_dp h2 r2.any, shp_shaped h1 l1, shp_shaped h2 l2, k _ H2 (Same.refl _) (.bl _)⟩
theorem ex_eqD {i j : Nat} (hu : X.A.units + 64 < cLine) (ha : EX X H0 M a env ra) (hb : EX X H0 M b env rb) (h1 : Shp i ra.v) (h2 : Shp j rb.v) (l1 : i ≤ 64 := by decide) (l2 : j ≤ 64 := by decide) : EX X H0 M (.Compare a [.Eq] [b] pos) env (.d (.bl (D.eqv ra.v rb.v))) := ex_cmp (op_eqD hu) ha hb (r2_eqD h1 h2 l1 l2) (nomark _)
theorem et_eqD {i j : Nat} (hu : X.A.units + 64 < cLine) (ha : EX X H0 M a env ra) (hb : EX X H0 M b env rb) (h1 : Shp i ra.v) (h2 : Shp j rb.v) (l1 : i ≤ 64 := by decide) (l2 : j ≤ 64 := by decide) : ET X H0 M (.Compare a [.Eq] [b] pos) env (D.eqv ra.v rb.v) := et_cmp (op_eqD hu) ha hb (r2_eqD h1 h2 l1 l2) (nomark _)
theorem ex_neD {i j : Nat} (hu : X.A.units + 64 < cLine) (ha : EX X H0 M a env ra) (hb : EX X H0 M b env rb) (h1 : Shp i ra.v) (h2 : Shp j rb.v) (l1 : i ≤ 64 := by decide) (l2 : j ≤ 64 := by decide) : EX X H0 M (.Compare a [.NotEq] [b] pos) env (.d (.bl (!D.eqv ra.v rb.v))) := ex_cmp (op_neD hu) ha hb (r2_neD h1 h2 l1 l2) (nomark _)
theorem et_neD {i j : Nat} (hu : X.A.units + 64 < cLine) (ha : EX X H0 M a env ra) (hb : EX X H0 M b env rb) (h1 : Shp i ra.v) (h2 : Shp j rb.v) (l1 : i ≤ 64 := by decide) (l2 : j ≤ 64 := by decide) : ET X H0 M (.Compare a [.NotEq] [b] pos) env (!D.eqv ra.v rb.v) := et_cmp (op_neD hu) ha hb (r2_neD h1 h2 l1 l2) (nomark _)
/-- in a list of data -/
theorem ex_inD {i j : Nat} (hu : X.A.units + 65 < cLine) (ha : EX X H0 M a env ra) (hb : EX X H0 M b env rb) (hr : rb.v = .lst ds) (h1 : Shp i ra.v) (h2 : Shp j (.lst ds)) (l1 : i ≤ 64 := by decide) (l2 : j ≤ 64 := by decide) (hm : behindInMarks .In b = false := by rfl) : EX X H0 M (.Compare a [.In] [b] pos) env (.d (.bl (ds.any fun z => D.eqv z ra.v))) :=
  ex_cmp (op_inD hu) ha hb (fun N O σ H H2 v w Q ok e r1 r2 k => by
    have g := r2.any
    rw [hr] at g
    have g2 := shp_dp h2 g
    have g3 := shp_shaped h2 l2
    simp only [D.toP] at g2 g3
    refine ⟨_, _, shp_dp h1 r1.any, g2, shp_shaped h1 l1, g3, ?_⟩
    have : ((D.toPs ds).any fun z => PyData.eqv z ra.v.toP) = ds.any fun z => D.eqv z ra.v := by
      rw [toPs_map, List.any_map]
      rfl
    rw [this]
    exact k _ H2 (Same.refl _) (.bl _)) hm

/-! ### sequences -/
theorem ex_rep {i : Int} (ha : EX X H0 M a env ra) (hb : EX X H0 M b env (.d (.int i))) (hr : ra.v = .lst ds) (h0 : 0 ≤ i) (hi : i ≤ 100000) (hl : ds.length * i.toNat ≤ 100000) : EX X H0 M (.BinOp a .Mult b pos) env (.new (.lst (List.replicate i.toNat ds).flatten)) :=
  ex_bin op_rep ha hb fun N O σ H H2 v w Q ok e r1 r2 k => by
    cases r2.isI
    obtain ⟨q1, vs, rfl, g1, g2⟩ := r1.items hr
    exact ⟨q1, i, vs, rfl, rfl, g1, by omega, by omega, small (by rw [g2.length]; exact hl), fun p hp => k _ _ (same_new hp) ((new_lst ok (Same.refl _) hp (g2.rep _)).back e)⟩
theorem ex_catT {es' : List D} (ha : EX X H0 M a env ra) (hb : EX X H0 M b env rb) (h1 : ra.v = .tup ds) (h2 : rb.v = .tup es') (hl : ds.length + es'.length ≤ 100000) : EX X H0 M (.BinOp a .Add b pos) env (.d (.tup (ds ++ es'))) :=
  ex_bin op_catA ha hb fun N O σ H H2 v w Q ok e r1 r2 k => by
    obtain ⟨q1, vs, rfl, g1, g2⟩ := r1.titems h1
    obtain ⟨q2, ws, rfl, g3, g4⟩ := r2.titems h2
    have gg := g2.append g4
    refine ⟨q1, q2, vs, ws, rfl, rfl, g1, g3, small (by rw [g2.length, g4.length]; exact hl), fun z => k _ H2 (Same.refl _) (.tup g3 ?_), fun _ z => k _ H2 (Same.refl _) (.tup g1 ?_), fun _ _ p hp => k _ _ (same_new hp) (.tup (SqT.of upd_same) (gg.same (same_new hp)))⟩
    · subst z
      exact gg
    · subst z
      rw [List.append_nil] at gg
      exact gg
/-- t[:n] -/
theorem ex_takeT {n : Nat} {p2 : Pos} (ha : EX X H0 M a env ra) (hb : EX X H0 M b env (.d (.int (n : Int)))) (hr : ra.v = .tup ds) (hn : n ≤ ds.length) : EX X H0 M (.Subscript a (.Slice none (some b) none p2) pos) env (.d (.tup (ds.take n))) :=
  pe_weak (pe_slice sl_tupA ha po_none (po_some hb)) fun σ H Q ⟨N, O, ok, k⟩ => ⟨N, O, ok, fun v H1 e1 r1 => ⟨N, O, ok.mono e1, fun w H2 e2 r2 => by
    cases r2.isI
    obtain ⟨q, vs, rfl, g1, g2⟩ := (r1.same e2).titems hr
    have hl := g2.length
    have hs : HT.sIx vs.length 0 none = 0 := rfl
    have hs2 : HT.sIx vs.length vs.length (some (n : Int)) = n := by
      rw [HT.sIx_nat]
      omega
    refine ⟨(n : Int), rfl, q, vs, rfl, g1, fun z => ?_, fun _ p hp => ?_⟩
    · rw [hs2] at z
      refine k _ H2 (e1.trans e2) (.tup g1 ?_)
      rw [List.take_of_length_le (by omega)]
      exact g2
    · refine k _ _ ((e1.trans e2).trans (same_new hp)) (.tup (SqT.of upd_same) ?_)
      unfold cutV
      rw [hs, hs2, List.drop_zero, Nat.sub_zero]
      exact (g2.take n).same (same_new hp)⟩⟩

/-! ### dicts -/
theorem ex_dict0 : EX X H0 M (.Dict [] [] pos) env (.new (.dic [] [])) :=
  pe_weak pe_dnewK fun σ H Q ⟨N, O, ok, k⟩ p hp => k _ _ (same_new hp) ⟨p, rfl, hp, ok.nf p hp, [], upd_same, rfl, .nil⟩
/-- {k: v} -/
theorem ex_dict1 {i : Int} (ha : EX X H0 M a env (.d (.int i))) (hb : EX X H0 M b env r) (hp : r.per = true := by rfl) : EX X H0 M (.Dict [some a] [b] pos) env (.new (.dic [i] [r.v])) :=
  pe_weak (pe_disp (pps_cons ha hb pps_nil) (by rfl) (by rfl) (fun z => by cases z) (show 1 ≤ 15 by decide)) fun σ H Q ⟨N, O, ok, k⟩ p hn => by
    have s0 : Same H (L2.upd H p (.dK [])) := same_new hn
    refine ⟨_, O, ok.hide hn, fun v H1 e1 r1 => ⟨_, O, (ok.hide hn).mono e1, fun w H2 e2 r2 => ?_⟩⟩
    cases r1.isI
    have hk := r2.keep hp
    have h2 : H2 p = some (.dK []) := e2 _ _ (e1 _ _ upd_same)
    refine ⟨h2, [(Sum.inl i, w)], rfl, (show 1 ≤ 15 by decide), k _ _ (same_mut ((s0.trans e1).trans e2) hn) ⟨p, rfl, hn, ok.nf p hn, [(Sum.inl i, w)], upd_same, rfl, ?_⟩⟩
    exact .cons (R.upd (.inr ⟨_, h2⟩) (fun z => z.2 rfl) hk) .nil
/-- dict of pairs -/
theorem merge_ra {K : PySem.W.Frag} {H : Hp} {N : Addr → Prop} : ∀ {ps : List (Int × D)} {kvs more : List (Key × V)} {ks : List Int} {ds : List D}, ks.Nodup → kvs.map (·.1) = ks.map Sum.inl → RA K H N (kvs.map (·.2)) ds → more.map (·.1) = ps.map (fun p => Sum.inl p.1) → RA K H N (more.map (·.2)) (ps.map (·.2)) →
    ∃ ks' ds', (ks', ds') = ps.foldl (fun acc p => putD p.1 p.2 acc.1 acc.2) (ks, ds) ∧ (mergeK kvs more).map (·.1) = ks'.map Sum.inl ∧ RA K H N ((mergeK kvs more).map (·.2)) ds'
  | [], kvs, [], ks, ds, _, h1, h2, _, _ => ⟨ks, ds, rfl, h1, h2⟩
  | [], _, _ :: _, _, _, _, _, _, h, _ => by cases h
  | _ :: _, _, [], _, _, _, _, _, h, _ => by cases h
  | p :: ps, kvs, m :: more, ks, ds, nd, h1, h2, h3, .cons r1 r2 => by
    simp only [List.map_cons, List.cons.injEq] at h3
    obtain ⟨h3, h4⟩ := h3
    obtain ⟨g1, g2⟩ := put_ra (k := p.1) r1 nd h1 h2
    have nd' : (putD p.1 p.2 ks ds).1.Nodup := by
      have : ∀ (k : Int) (d : D) (ks : List Int) (ds : List D), ks.Nodup → (putD k d ks ds).1.Nodup ∧ ∀ j, j ∈ (putD k d ks ds).1 → j = k ∨ j ∈ ks := by
        intro k d ks
        induction ks with
        | nil => intro ds _; simp [putD]
        | cons a ks ih =>
          intro ds nd
          cases ds with
          | nil => simp [putD]
          | cons x ds =>
            obtain ⟨n1, n2⟩ := List.nodup_cons.mp nd
            unfold putD
            by_cases e : a = k
            · subst e
              rw [if_pos rfl]
              exact ⟨nd, fun j hj => .inr hj⟩
            · rw [if_neg e]
              obtain ⟨i1, i2⟩ := ih ds n2
              refine ⟨List.nodup_cons.mpr ⟨fun m => ?_, i1⟩, fun j hj => ?_⟩
              · rcases i2 a m with z | z
                · exact e z
                · exact n1 z
              · rcases List.mem_cons.mp hj with z | z
                · exact .inr (by rw [z]; exact List.mem_cons_self ..)
                · rcases i2 j z with y | y
                  · exact .inl y
                  · exact .inr (List.mem_cons_of_mem _ y)
      exact (this _ _ _ _ nd).1
    have e : m.1 = Sum.inl p.1 := h3
    rw [← e] at g1 g2
    exact merge_ra (ps := ps) (kvs := putK kvs m.1 m.2) nd' g1 g2 h4 r2
theorem ra_pairs {K : PySem.W.Frag} {H : Hp} {N : Addr → Prop} : ∀ {ps : List (Int × D)} {vs : List V}, RA K H N vs (ps.map fun p => .tup [.int p.1, p.2]) → ∃ (as : List Addr) (more : List (Key × V)), vs = as.map V.ref ∧ Paired (fun p kv => SqT K H p [kV kv.1, kv.2]) as more ∧ more.map (·.1) = ps.map (fun p => Sum.inl p.1) ∧ RA K H N (more.map (·.2)) (ps.map (·.2))
  | [], _, .nil => ⟨[], [], rfl, .nil, rfl, .nil⟩
  | p :: ps, _, .cons r1 r2 => by
    obtain ⟨as, more, e, h1, h2, h3⟩ := ra_pairs r2
    subst e
    generalize hd : (D.tup [.int p.1, p.2]) = d at r1
    cases r1 with
    | @tup a xs ds s t =>
      cases hd
      cases t with
      | cons t1 t2 =>
        cases t2 with
        | @cons w _ _ _ t2 t3 =>
          cases t3
          cases t1
          exact ⟨a :: as, (Sum.inl p.1, w) :: more, rfl, .cons s h1, by simp only [List.map_cons, h2], .cons t2 h3⟩
    | _ => cases hd
theorem ex_dictP {p : Pos} {ps : List (Int × D)} (hc : X.calm = true) (hm : X.mg "dict" = none) (ha : EX X H0 M a env ra) (hr : ra.v = .lst (ps.map fun p => .tup [.int p.1, p.2])) (hg : Gl X "dict" := by rfl) (hs : starEach [a] X.env = (false, eval a X.env) :: starEach [] X.env := by rfl) :
    EX X H0 M (.Call (.Name "dict" p) [a] [] pos) env (.new (.dic (ps.foldl (fun acc p => putD p.1 p.2 acc.1 acc.2) ([], [])).1 (ps.foldl (fun acc p => putD p.1 p.2 acc.1 acc.2) ([], [])).2)) :=
  ex_callTy (call_dictP hc) hm (ea_cons ha ea_nil hs) (fun N O σ H H2 vs Q ok e r k => by
    obtain ⟨v, rfl, r1⟩ := rrs1 r
    obtain ⟨q, ws, rfl, h1, h2⟩ := r1.items hr
    obtain ⟨as, more, rfl, g1, g2, g3⟩ := ra_pairs h2
    refine ⟨q, as, more, rfl, SqL.of h1, g1, fun l hl => ?_⟩
    obtain ⟨ks', ds', e1, e2, e3⟩ := merge_ra (K := X.K) (H := H2) (N := N) (kvs := []) (ks := []) (ds := []) List.nodup_nil rfl .nil g2 g3
    refine k _ _ (same_new hl) ⟨l, rfl, e.free hl, ok.nf l hl, _, upd_same, ?_, ?_⟩
    · rw [← e1]
      exact e2
    · rw [← e1]
      exact (e3.avoid hl).same (same_new hl)) hg (he := hs)
end
end Zb
set_option maxHeartbeats 200000
/-! The text: each def of the row's top, its names by slot (printed by gen_text.py). -/
namespace Zt
open PySem L2
def topS (i : Nat) : Stmt := PySem.Challenge.pw_leftwithout_k15_whole_together_and_never.main.body.getD i (.Pass ⟨0, 0, 0, 0⟩)
abbrev s_is_number : Stmt := topS 5
theorem sc_is_number : FnScope ["thing"] ["thing"] (defScope s_is_number) := ⟨rfl, rfl, rfl, by decide +kernel, rfl, by decide +kernel, by decide +kernel⟩
abbrev s_is_from : Stmt := topS 6
theorem sc_is_from : FnScope ["thing", "least"] ["thing", "least"] (defScope s_is_from) := ⟨rfl, rfl, rfl, by decide +kernel, rfl, by decide +kernel, by decide +kernel⟩
abbrev s_is_within : Stmt := topS 7
theorem sc_is_within : FnScope ["thing", "least", "most"] ["thing", "least", "most"] (defScope s_is_within) := ⟨rfl, rfl, rfl, by decide +kernel, rfl, by decide +kernel, by decide +kernel⟩
abbrev s_is_long : Stmt := topS 8
theorem sc_is_long : FnScope ["thing", "length"] ["thing", "length"] (defScope s_is_long) := ⟨rfl, rfl, rfl, by decide +kernel, rfl, by decide +kernel, by decide +kernel⟩
abbrev s_tupled : Stmt := topS 9
theorem sc_tupled : FnScope ["value", "own"] ["value"] (defScope s_tupled) := ⟨rfl, rfl, rfl, by decide +kernel, rfl, by decide +kernel, by decide +kernel⟩
abbrev s_ascends : Stmt := topS 10
theorem sc_ascends : FnScope ["row", "k"] ["row"] (defScope s_ascends) := ⟨rfl, rfl, rfl, by decide +kernel, rfl, by decide +kernel, by decide +kernel⟩
abbrev s_set_of : Stmt := topS 11
theorem sc_set_of : FnScope ["row"] ["row"] (defScope s_set_of) := ⟨rfl, rfl, rfl, by decide +kernel, rfl, by decide +kernel, by decide +kernel⟩
abbrev s_is_guest_of : Stmt := topS 13
theorem sc_is_guest_of : FnScope ["many", "thing", "own"] ["many", "thing"] (defScope s_is_guest_of) := ⟨rfl, rfl, rfl, by decide +kernel, rfl, by decide +kernel, by decide +kernel⟩
abbrev s_is_web : Stmt := topS 14
theorem sc_is_web : FnScope ["thing", "own"] ["thing"] (defScope s_is_web) := ⟨rfl, rfl, rfl, by decide +kernel, rfl, by decide +kernel, by decide +kernel⟩
abbrev s_sure_web : Stmt := topS 15
theorem sc_sure_web : FnScope ["web", "own"] ["web"] (defScope s_sure_web) := ⟨rfl, rfl, rfl, by decide +kernel, rfl, by decide +kernel, by decide +kernel⟩
abbrev s_sure_guest : Stmt := topS 16
theorem sc_sure_guest : FnScope ["web", "guest"] ["web", "guest"] (defScope s_sure_guest) := ⟨rfl, rfl, rfl, by decide +kernel, rfl, by decide +kernel, by decide +kernel⟩
abbrev s_unwanted_in : Stmt := topS 17
theorem sc_unwanted_in : FnScope ["web", "known", "own", "place"] ["web"] (defScope s_unwanted_in) := ⟨rfl, rfl, rfl, by decide +kernel, rfl, by decide +kernel, by decide +kernel⟩
abbrev s_is_lot_in : Stmt := topS 19
theorem sc_is_lot_in : FnScope ["web", "thing", "many", "guest"] ["web", "thing"] (defScope s_is_lot_in) := ⟨rfl, rfl, rfl, by decide +kernel, rfl, by decide +kernel, by decide +kernel⟩
abbrev s_sure_lot : Stmt := topS 20
theorem sc_sure_lot : FnScope ["web", "lot", "own"] ["web", "lot"] (defScope s_sure_lot) := ⟨rfl, rfl, rfl, by decide +kernel, rfl, by decide +kernel, by decide +kernel⟩
abbrev s_others_in : Stmt := topS 21
theorem sc_others_in : FnScope ["web", "lot", "guest"] ["web", "lot"] (defScope s_others_in) := ⟨rfl, rfl, rfl, by decide +kernel, rfl, by decide +kernel, by decide +kernel⟩
abbrev s_beside_by : Stmt := topS 22
theorem sc_beside_by : FnScope ["web", "lot", "found", "place", "guest", "near", "far"] ["web", "lot"] (defScope s_beside_by) := ⟨rfl, rfl, rfl, by decide +kernel, rfl, by decide +kernel, by decide +kernel⟩
abbrev s_part_from : Stmt := topS 23
theorem sc_part_from : FnScope ["known", "place", "row", "spot", "_", "far"] ["known", "place"] (defScope s_part_from) := ⟨rfl, rfl, rfl, by decide +kernel, rfl, by decide +kernel, by decide +kernel⟩
abbrev s_parts_in : Stmt := topS 24
theorem sc_parts_in : FnScope ["web", "lot", "known", "seen", "found", "place", "part", "own"] ["web", "lot"] (defScope s_parts_in) := ⟨rfl, rfl, rfl, by decide +kernel, rfl, by decide +kernel, by decide +kernel⟩
abbrev s_guests_in : Stmt := topS 25
theorem sc_guests_in : FnScope ["web", "lot", "part", "guest"] ["web", "lot", "part"] (defScope s_guests_in) := ⟨rfl, rfl, rfl, by decide +kernel, rfl, by decide +kernel, by decide +kernel⟩
abbrev s_way_from : Stmt := topS 26
theorem sc_way_from : FnScope ["known", "place", "goal", "barred", "rows", "seen", "row", "here", "guest", "far"] ["known", "place", "goal", "barred"] (defScope s_way_from) := ⟨rfl, rfl, rfl, by decide +kernel, rfl, by decide +kernel, by decide +kernel⟩
abbrev s_round_of : Stmt := topS 27
theorem sc_round_of : FnScope ["web", "lot", "part", "own", "number", "guest", "ahead", "near", "far", "known"] ["web", "lot", "part"] (defScope s_round_of) := ⟨rfl, rfl, rfl, by decide +kernel, rfl, by decide +kernel, by decide +kernel⟩
abbrev s_is_row_in : Stmt := topS 29
theorem sc_is_row_in : FnScope ["web", "thing", "own"] ["web", "thing"] (defScope s_is_row_in) := ⟨rfl, rfl, rfl, by decide +kernel, rfl, by decide +kernel, by decide +kernel⟩
abbrev s_is_order_in : Stmt := topS 30
theorem sc_is_order_in : FnScope ["web", "thing"] ["web", "thing"] (defScope s_is_order_in) := ⟨rfl, rfl, rfl, by decide +kernel, rfl, by decide +kernel, by decide +kernel⟩
abbrev s_seat_in : Stmt := topS 31
theorem sc_seat_in : FnScope ["web", "taken", "guest", "near", "far"] ["web", "taken", "guest"] (defScope s_seat_in) := ⟨rfl, rfl, rfl, by decide +kernel, rfl, by decide +kernel, by decide +kernel⟩
abbrev s_seats_in : Stmt := topS 32
theorem sc_seats_in : FnScope ["web", "row", "taken", "found", "guest", "place"] ["web", "row"] (defScope s_seats_in) := ⟨rfl, rfl, rfl, by decide +kernel, rfl, by decide +kernel, by decide +kernel⟩
abbrev s_without_in : Stmt := topS 33
theorem sc_without_in : FnScope ["web", "row", "found", "guest"] ["web", "row"] (defScope s_without_in) := ⟨rfl, rfl, rfl, by decide +kernel, rfl, by decide +kernel, by decide +kernel⟩
abbrev s_both_sure : Stmt := topS 35
theorem sc_both_sure : FnScope ["web", "lot", "own"] ["web", "lot"] (defScope s_both_sure) := ⟨rfl, rfl, rfl, by decide +kernel, rfl, by decide +kernel, by decide +kernel⟩
abbrev s_met_by : Stmt := topS 36
theorem sc_met_by : FnScope ["web", "lot", "found", "guest"] ["web", "lot"] (defScope s_met_by) := ⟨rfl, rfl, rfl, by decide +kernel, rfl, by decide +kernel, by decide +kernel⟩
abbrev s_spare_in : Stmt := topS 37
theorem sc_spare_in : FnScope ["web", "lot", "met", "place"] ["web", "lot"] (defScope s_spare_in) := ⟨rfl, rfl, rfl, by decide +kernel, rfl, by decide +kernel, by decide +kernel⟩
abbrev s_is_tree_in : Stmt := topS 38
theorem sc_is_tree_in : FnScope ["web", "others", "part"] ["web", "others", "part"] (defScope s_is_tree_in) := ⟨rfl, rfl, rfl, by decide +kernel, rfl, by decide +kernel, by decide +kernel⟩
abbrev s_next_to : Stmt := topS 39
theorem sc_next_to : FnScope ["web", "guests", "known", "guest"] ["web", "guests", "known"] (defScope s_next_to) := ⟨rfl, rfl, rfl, by decide +kernel, rfl, by decide +kernel, by decide +kernel⟩
abbrev s_grown_from : Stmt := topS 40
theorem sc_grown_from : FnScope ["web", "guests", "first", "place", "known", "found", "left", "goods", "guest", "own"] ["web", "guests", "first"] (defScope s_grown_from) := ⟨rfl, rfl, rfl, by decide +kernel, rfl, by decide +kernel, by decide +kernel⟩
abbrev s_seated_round : Stmt := topS 41
theorem sc_seated_round : FnScope ["web", "way", "first", "place", "guest", "_"] ["web", "way"] (defScope s_seated_round) := ⟨rfl, rfl, rfl, by decide +kernel, rfl, by decide +kernel, by decide +kernel⟩
abbrev s_kept_in : Stmt := topS 42
theorem sc_kept_in : FnScope ["web", "others", "part", "frees", "guests", "way", "found", "rest", "place", "guest", "_"] ["web", "others", "part", "frees"] (defScope s_kept_in) := ⟨rfl, rfl, rfl, by decide +kernel, rfl, by decide +kernel, by decide +kernel⟩
abbrev s_order_by : Stmt := topS 43
theorem sc_order_by : FnScope ["web", "lot", "frees", "others", "found", "part"] ["web", "lot", "frees"] (defScope s_order_by) := ⟨rfl, rfl, rfl, by decide +kernel, rfl, by decide +kernel, by decide +kernel⟩
abbrev s_trees_of : Stmt := topS 44
theorem sc_trees_of : FnScope ["web", "others", "part"] ["web", "others"] (defScope s_trees_of) := ⟨rfl, rfl, rfl, by decide +kernel, rfl, by decide +kernel, by decide +kernel⟩
abbrev s_order_in_lot : Stmt := topS 45
theorem sc_order_in_lot : FnScope ["web", "lot", "spare", "frees", "place", "part"] ["web", "lot"] (defScope s_order_in_lot) := ⟨rfl, rfl, rfl, by decide +kernel, rfl, by decide +kernel, by decide +kernel⟩
abbrev s_is_one_of : Stmt := topS 46
theorem sc_is_one_of : FnScope ["thing", "parts", "own"] ["thing", "parts"] (defScope s_is_one_of) := ⟨rfl, rfl, rfl, by decide +kernel, rfl, by decide +kernel, by decide +kernel⟩
abbrev s_barring_in : Stmt := topS 48
theorem sc_barring_in : FnScope ["web", "lot", "others", "spare", "met", "found", "part", "place"] ["web", "lot"] (defScope s_barring_in) := ⟨rfl, rfl, rfl, by decide +kernel, rfl, by decide +kernel, by decide +kernel⟩
abbrev s_can_together : Stmt := topS 49
theorem sc_can_together : FnScope ["web", "lot", "own", "told"] ["web", "lot"] (defScope s_can_together) := ⟨rfl, rfl, rfl, by decide +kernel, rfl, by decide +kernel, by decide +kernel⟩
abbrev s_is_never : Stmt := topS 50
theorem sc_is_never : FnScope ["web", "guest"] ["web", "guest"] (defScope s_is_never) := ⟨rfl, rfl, rfl, by decide +kernel, rfl, by decide +kernel, by decide +kernel⟩
abbrev s_never_without : Stmt := topS 51
theorem sc_never_without : FnScope ["web", "own", "guest"] ["web"] (defScope s_never_without) := ⟨rfl, rfl, rfl, by decide +kernel, rfl, by decide +kernel, by decide +kernel⟩
abbrev s_rivals : Stmt := topS 52
theorem sc_rivals : FnScope ["web", "guest", "own", "told", "found", "other"] ["web", "guest"] (defScope s_rivals) := ⟨rfl, rfl, rfl, by decide +kernel, rfl, by decide +kernel, by decide +kernel⟩
abbrev s_lot_grown : Stmt := topS 53
theorem sc_lot_grown : FnScope ["web", "lot", "others", "found", "part", "guests", "kept", "guest"] ["web", "lot"] (defScope s_lot_grown) := ⟨rfl, rfl, rfl, by decide +kernel, rfl, by decide +kernel, by decide +kernel⟩
abbrev s_lot_sure : Stmt := topS 54
theorem sc_lot_sure : FnScope ["web", "lot", "own", "told"] ["web", "lot"] (defScope s_lot_sure) := ⟨rfl, rfl, rfl, by decide +kernel, rfl, by decide +kernel, by decide +kernel⟩
abbrev s_lot_with : Stmt := topS 55
theorem sc_lot_with : FnScope ["web", "lot"] ["web", "lot"] (defScope s_lot_with) := ⟨rfl, rfl, rfl, by decide +kernel, rfl, by decide +kernel, by decide +kernel⟩
abbrev s_order_with : Stmt := topS 56
theorem sc_order_with : FnScope ["web", "lot", "own", "grown"] ["web", "lot"] (defScope s_order_with) := ⟨rfl, rfl, rfl, by decide +kernel, rfl, by decide +kernel, by decide +kernel⟩
abbrev s_is_order_with : Stmt := topS 57
theorem sc_is_order_with : FnScope ["web", "lot", "thing", "own", "told", "found", "guest"] ["web", "lot", "thing"] (defScope s_is_order_with) := ⟨rfl, rfl, rfl, by decide +kernel, rfl, by decide +kernel, by decide +kernel⟩
abbrev s_why_never : Stmt := topS 58
theorem sc_why_never : FnScope ["web", "lot", "own", "told", "found"] ["web", "lot"] (defScope s_why_never) := ⟨rfl, rfl, rfl, by decide +kernel, rfl, by decide +kernel, by decide +kernel⟩
abbrev s_is_why_never : Stmt := topS 59
theorem sc_is_why_never : FnScope ["web", "lot", "thing", "own", "told"] ["web", "lot", "thing"] (defScope s_is_why_never) := ⟨rfl, rfl, rfl, by decide +kernel, rfl, by decide +kernel, by decide +kernel⟩
abbrev s_law_box : Stmt := topS 61
theorem sc_law_box : FnScope ["_law_script", "_law_k", "_law_bit_so"] ["_law_script", "_law_k"] (defScope s_law_box) := ⟨rfl, rfl, rfl, by decide +kernel, rfl, by decide +kernel, by decide +kernel⟩
abbrev s_law_take : Stmt := topS 62
theorem sc_law_take : FnScope ["_law_tin", "_law_below_so", "_law_drawn", "_law_once_so", "_law_wide_so", "_law_twice_so"] ["_law_tin", "_law_below_so"] (defScope s_law_take) := ⟨rfl, rfl, rfl, by decide +kernel, rfl, by decide +kernel, by decide +kernel⟩
abbrev s_law_cells : Stmt := topS 63
theorem sc_law_cells : FnScope ["_law_script", "_law_most_so", "_law_cells_so", "_law_k", "_law_bit_so", "_law_at_so"] ["_law_script", "_law_most_so"] (defScope s_law_cells) := ⟨rfl, rfl, rfl, by decide +kernel, rfl, by decide +kernel, by decide +kernel⟩
abbrev s_law_pick : Stmt := topS 64
theorem sc_law_pick : FnScope ["_law_tin", "_law_goods_so", "_law_count_so", "_law_pool_so", "_law_found", "_law_lap"] ["_law_tin", "_law_goods_so", "_law_count_so"] (defScope s_law_pick) := ⟨rfl, rfl, rfl, by decide +kernel, rfl, by decide +kernel, by decide +kernel⟩
abbrev s_law_lists : Stmt := topS 65
theorem sc_law_lists : FnScope ["_law_matter", "_law_bit"] ["_law_matter"] (defScope s_law_lists) := ⟨rfl, rfl, rfl, by decide +kernel, rfl, by decide +kernel, by decide +kernel⟩
abbrev s_law_same : Stmt := topS 66
theorem sc_law_same : FnScope ["_law_got", "_law_due", "_law_mine", "_law_its"] ["_law_got", "_law_due"] (defScope s_law_same) := ⟨rfl, rfl, rfl, by decide +kernel, rfl, by decide +kernel, by decide +kernel⟩
abbrev s_law_unwanted : Stmt := topS 67
theorem sc_law_unwanted : FnScope ["_law_net_here", "_law_wanted_so", "_law_own"] ["_law_net_here"] (defScope s_law_unwanted) := ⟨rfl, rfl, rfl, by decide +kernel, rfl, by decide +kernel, by decide +kernel⟩
abbrev s_law_seat : Stmt := topS 68
theorem sc_law_seat : FnScope ["_law_net_here", "_law_taken_so", "_law_k", "_law_near_so", "_law_far_so"] ["_law_net_here", "_law_taken_so", "_law_k"] (defScope s_law_seat) := ⟨rfl, rfl, rfl, by decide +kernel, rfl, by decide +kernel, by decide +kernel⟩
abbrev s_law_run : Stmt := topS 69
theorem sc_law_run : FnScope ["_law_net_here", "_law_walk", "_law_seats", "_law_taken_so", "_law_k", "_law_own"] ["_law_net_here", "_law_walk"] (defScope s_law_run) := ⟨rfl, rfl, rfl, by decide +kernel, rfl, by decide +kernel, by decide +kernel⟩
abbrev s_law_lacking : Stmt := topS 70
theorem sc_law_lacking : FnScope ["_law_seats", "_law_k", "_law_own"] ["_law_seats"] (defScope s_law_lacking) := ⟨rfl, rfl, rfl, by decide +kernel, rfl, by decide +kernel, by decide +kernel⟩
abbrev s_law_all_runs : Stmt := topS 71
theorem sc_law_all_runs : FnScope ["_law_net_here", "_law_many_so", "_law_found", "_law_lap", "_law_later_so", "_law_walk", "_law_taken_so", "_law_k", "_law_told_so", "_law_seats", "_law_own"] ["_law_net_here"] (defScope s_law_all_runs) := ⟨rfl, rfl, rfl, by decide +kernel, rfl, by decide +kernel, by decide +kernel⟩
abbrev s_law_lots : Stmt := topS 72
theorem sc_law_lots : FnScope ["_law_many_so", "_law_found", "_law_own", "_law_its"] ["_law_many_so"] (defScope s_law_lots) := ⟨rfl, rfl, rfl, by decide +kernel, rfl, by decide +kernel, by decide +kernel⟩
abbrev s_law_others : Stmt := topS 73
theorem sc_law_others : FnScope ["_law_net_here", "_law_heap", "_law_k"] ["_law_net_here", "_law_heap"] (defScope s_law_others) := ⟨rfl, rfl, rfl, by decide +kernel, rfl, by decide +kernel, by decide +kernel⟩
abbrev s_law_parts : Stmt := topS 74
theorem sc_law_parts : FnScope ["_law_net_here", "_law_heap", "_law_marks_so", "_law_k", "_law_one", "_law_two", "_law_own", "_law_kinds_so", "_law_spot"] ["_law_net_here", "_law_heap"] (defScope s_law_parts) := ⟨rfl, rfl, rfl, by decide +kernel, rfl, by decide +kernel, by decide +kernel⟩
abbrev s_law_in_part : Stmt := topS 75
theorem sc_law_in_part : FnScope ["_law_net_here", "_law_heap", "_law_part_so", "_law_k"] ["_law_net_here", "_law_heap", "_law_part_so"] (defScope s_law_in_part) := ⟨rfl, rfl, rfl, by decide +kernel, rfl, by decide +kernel, by decide +kernel⟩
abbrev s_law_part_kind : Stmt := topS 76
theorem sc_law_part_kind : FnScope ["_law_net_here", "_law_heap", "_law_part_so", "_law_more_so"] ["_law_net_here", "_law_heap", "_law_part_so"] (defScope s_law_part_kind) := ⟨rfl, rfl, rfl, by decide +kernel, rfl, by decide +kernel, by decide +kernel⟩
abbrev s_law_free_in : Stmt := topS 77
theorem sc_law_free_in : FnScope ["_law_net_here", "_law_heap", "_law_part_so", "_law_found", "_law_none_so", "_law_spot", "_law_k"] ["_law_net_here", "_law_heap", "_law_part_so"] (defScope s_law_free_in) := ⟨rfl, rfl, rfl, by decide +kernel, rfl, by decide +kernel, by decide +kernel⟩
abbrev s_law_net : Stmt := topS 78
theorem sc_law_net : FnScope ["_law_tin", "_law_places_so", "_law_guests_so", "_law_many_so", "_law_long_so", "_law_found", "_law_lap"] ["_law_tin", "_law_places_so", "_law_guests_so"] (defScope s_law_net) := ⟨rfl, rfl, rfl, by decide +kernel, rfl, by decide +kernel, by decide +kernel⟩
abbrev s_law_lots_met : Stmt := topS 79
theorem sc_law_lots_met : FnScope ["_law_net_here", "_law_found", "_law_walk", "_law_seats", "_law_heap", "_law_free_so", "_law_spot"] ["_law_net_here"] (defScope s_law_lots_met) := ⟨rfl, rfl, rfl, by decide +kernel, rfl, by decide +kernel, by decide +kernel⟩
abbrev s_law_are_within : Stmt := topS 80
theorem sc_law_are_within : FnScope ["_law_heap", "_law_wide_so", "_law_own"] ["_law_heap", "_law_wide_so"] (defScope s_law_are_within) := ⟨rfl, rfl, rfl, by decide +kernel, rfl, by decide +kernel, by decide +kernel⟩
abbrev s_law_is_walk : Stmt := topS 81
theorem sc_law_is_walk : FnScope ["_law_net_here", "_law_matter", "_law_own"] ["_law_net_here", "_law_matter"] (defScope s_law_is_walk) := ⟨rfl, rfl, rfl, by decide +kernel, rfl, by decide +kernel, by decide +kernel⟩
abbrev s_law_all_of : Stmt := topS 82
theorem sc_law_all_of : FnScope ["_law_net_here", "_law_heap", "_law_matter"] ["_law_net_here", "_law_heap", "_law_matter"] (defScope s_law_all_of) := ⟨rfl, rfl, rfl, by decide +kernel, rfl, by decide +kernel, by decide +kernel⟩
abbrev s_law_barred_by : Stmt := topS 83
theorem sc_law_barred_by : FnScope ["_law_net_here", "_law_heap", "_law_rest_so", "_law_found", "_law_part_so", "_law_ends_so", "_law_k"] ["_law_net_here", "_law_heap"] (defScope s_law_barred_by) := ⟨rfl, rfl, rfl, by decide +kernel, rfl, by decide +kernel, by decide +kernel⟩
abbrev s_law_one_of : Stmt := topS 84
theorem sc_law_one_of : FnScope ["_law_matter", "_law_rows_so", "_law_own"] ["_law_matter", "_law_rows_so"] (defScope s_law_one_of) := ⟨rfl, rfl, rfl, by decide +kernel, rfl, by decide +kernel, by decide +kernel⟩
abbrev s_law_fuller : Stmt := topS 85
theorem sc_law_fuller : FnScope ["_law_tin", "_law_places_so", "_law_guests_so", "_law_found", "_law_lap", "_law_later_so"] ["_law_tin", "_law_places_so", "_law_guests_so"] (defScope s_law_fuller) := ⟨rfl, rfl, rfl, by decide +kernel, rfl, by decide +kernel, by decide +kernel⟩
abbrev s_law_heard : Stmt := topS 86
theorem sc_law_heard : FnScope ["_law_door", "_law_net_here", "_law_heap", "_law_found", "error_a"] ["_law_door", "_law_net_here", "_law_heap"] (defScope s_law_heard) := ⟨rfl, rfl, rfl, by decide +kernel, rfl, by decide +kernel, by decide +kernel⟩
abbrev s_law_by_hand_right : Stmt := topS 87
theorem sc_law_by_hand_right : FnScope ["_law_street", "_law_bench", "_law_crowd", "_law_triple", "_law_got", "_law_due", "_law_own"] [] (defScope s_law_by_hand_right) := ⟨rfl, rfl, rfl, by decide +kernel, rfl, by decide +kernel, by decide +kernel⟩
abbrev s_law_right : Stmt := topS 88
theorem sc_law_right : FnScope ["_law_tin", "_law_net_here", "_law_met_so", "_law_many_so", "_law_soft_so", "_law_k", "_law_alone_so", "_law_heap", "_law_due", "_law_wide_so", "_law_walk", "_law_part_so", "_law_got", "_law_mates_so", "_law_own"] ["_law_tin"] (defScope s_law_right) := ⟨rfl, rfl, rfl, by decide +kernel, rfl, by decide +kernel, by decide +kernel⟩
abbrev s_law : Stmt := topS 89
theorem sc_law : FnScope ["_law_script"] ["_law_script"] (defScope s_law) := ⟨rfl, rfl, rfl, by decide +kernel, rfl, by decide +kernel, by decide +kernel⟩
end Zt
set_option maxHeartbeats 4000000
/-! The data layer, 6: comprehensions made handy. -/
namespace Zb
open PySem PySem.Spec PyProof.Rows L2
section
variable {X : Cx} {H0 : Hp} {M : Addr → Prop} {env env1 env2 : Ev} {out out' : Out} {r ra rb rc : Res} {a b c e tg iter elt : Expr} {es ifs : List Expr} {pos : Pos} {st : Stmt} {body sts els : List Stmt} {x y : Bool} {ds : List D}
abbrev blkX (X : Cx) (scope : Scope) (s : Shared) (H : Hp) (C : Addr) (cl : List (Str × Addr)) (fp : List Addr) : Cx := X.blk s H scope (compEnvC scope cl C X.env) fp
theorem cp_A {scope : Scope} {α : Type} {xs : List α} {enc f : α → D} {n : Str} {tp : Pos} (i : Nat) (hN : X.N.Nodup) (he : ∀ x ∈ xs, ∀ s H C cl fp, EX (blkX X scope s H C cl fp) H0 M elt (env.set i (.d (enc x))) (.d (f x)))
    (hi : X.N[i]? = some n) (hx : Loc (relabel scope X.env) n) (hf : (relabel scope X.env).names.lookup n = some .local) : Cp (Bk X scope) H0 M (.Name n tp) [] elt [i] (wipeE env [i]) (xs.map enc) (xs.map f) :=
  cp_all (fun z => env.set i (.d (enc z))) [i] (fun _ h => h) (fun z hz Y ⟨s', H', C, cl, fp, hY⟩ => by
    subst hY
    have := ag_name (X := blkX X scope s' H' C cl fp) (H0 := H0) (M := M) (env := wipeE env [i]) (d := enc z) (pos := tp) i hN hi hx (.inr hf)
    rw [wipeE, wipeE, List.set_set] at this
    exact this) (fun z hz Y ⟨s', H', C, cl, fp, hY⟩ => by subst hY; exact he z hz s' H' C cl fp)
theorem cp_F {scope : Scope} {α : Type} {xs : List α} {enc f : α → D} {n : Str} {tp : Pos} (p : α → Bool) (i : Nat) (hN : X.N.Nodup) (ht : ∀ x ∈ xs, ∀ s H C cl fp, ET (blkX X scope s H C cl fp) H0 M c (env.set i (.d (enc x))) (p x))
    (he : ∀ x ∈ xs, p x = true → ∀ s H C cl fp, EX (blkX X scope s H C cl fp) H0 M elt (env.set i (.d (enc x))) (.d (f x)))
    (hi : X.N[i]? = some n) (hx : Loc (relabel scope X.env) n) (hf : (relabel scope X.env).names.lookup n = some .local) : Cp (Bk X scope) H0 M (.Name n tp) [c] elt [i] (wipeE env [i]) (xs.map enc) ((xs.filter p).map f) :=
  cp_filt p (fun z => env.set i (.d (enc z))) [i] (fun _ h => h) (fun z hz Y ⟨s', H', C, cl, fp, hY⟩ => by
    subst hY
    have := ag_name (X := blkX X scope s' H' C cl fp) (H0 := H0) (M := M) (env := wipeE env [i]) (d := enc z) (pos := tp) i hN hi hx (.inr hf)
    rw [wipeE, wipeE, List.set_set] at this
    exact this) (fun z hz Y ⟨s', H', C, cl, fp, hY⟩ => by subst hY; exact ht z hz s' H' C cl fp) (fun z hz hp Y ⟨s', H', C, cl, fp, hY⟩ => by subst hY; exact he z hz hp s' H' C cl fp)
/-- [elt for n in iter] -/
theorem ex_lcA {scope : Scope} {α : Type} {xs : List α} {enc : α → D} (f : α → D) {n : Str} {tp : Pos} (i : Nat) (hc : X.calm = true) (hN : X.N.Nodup) (hit : IT X H0 M (.Name n tp) iter env (xs.map enc)) (hz : xs.length ≤ 100000)
    (he : ∀ x ∈ xs, ∀ s H C cl fp, EX (blkX X scope s H C cl fp) H0 M elt (env.set i (.d (enc x))) (.d (f x)))
    (hi : X.N[i]? = some n := by rfl) (hx : Loc (relabel scope X.env) n := by first | exact Or.inl rfl | exact Or.inr rfl) (hf : (relabel scope X.env).names.lookup n = some .local := by rfl)
    (ok : blkC X.N X.env.scope scope [(n, i)] = true := by kernel_rfl) (hs : ∀ x, foldedSetIterable iter X.env x = pure x := by intro _; rfl) : EX X H0 M (.ListComp elt [⟨.Name n tp, iter, [], 0⟩] scope pos) env (.new (.lst (xs.map f))) :=
  ex_lc [(n, i)] hc hN hit (by rw [List.length_map]; exact hz) (cp_A i hN he hi hx hf) ok hs
/-- [elt for n in iter if c] -/
theorem ex_lcF {scope : Scope} {α : Type} {xs : List α} {enc : α → D} (f : α → D) {n : Str} {tp : Pos} (p : α → Bool) (i : Nat) (hc : X.calm = true) (hN : X.N.Nodup) (hit : IT X H0 M (.Name n tp) iter env (xs.map enc)) (hz : xs.length ≤ 100000)
    (ht : ∀ x ∈ xs, ∀ s H C cl fp, ET (blkX X scope s H C cl fp) H0 M c (env.set i (.d (enc x))) (p x))
    (he : ∀ x ∈ xs, p x = true → ∀ s H C cl fp, EX (blkX X scope s H C cl fp) H0 M elt (env.set i (.d (enc x))) (.d (f x)))
    (hi : X.N[i]? = some n := by rfl) (hx : Loc (relabel scope X.env) n := by first | exact Or.inl rfl | exact Or.inr rfl) (hf : (relabel scope X.env).names.lookup n = some .local := by rfl)
    (ok : blkC X.N X.env.scope scope [(n, i)] = true := by kernel_rfl) (hs : ∀ x, foldedSetIterable iter X.env x = pure x := by intro _; rfl) : EX X H0 M (.ListComp elt [⟨.Name n tp, iter, [c], 0⟩] scope pos) env (.new (.lst ((xs.filter p).map f))) :=
  ex_lc [(n, i)] hc hN hit (by rw [List.length_map]; exact hz) (cp_F p i hN ht he hi hx hf) ok hs
/-- name = [elt for n in iter] on one line -/
theorem x_lcA {scope : Scope} {α : Type} {xs : List α} {enc : α → D} (f : α → D) {m n : Str} {tp py spos : Pos} (j i : Nat) (hc : X.calm = true) (hN : X.N.Nodup) (hit : IT X H0 M (.Name n tp) iter env (xs.map enc)) (hz : xs.length ≤ 100000)
    (he : ∀ x ∈ xs, ∀ s H C cl fp, EX (blkX X scope s H C cl fp) H0 M elt (env.set i (.d (enc x))) (.d (f x)))
    (hy : X.N[j]? = some m := by rfl) (hyl : X.env.scope.names.lookup m = some .local := by rfl) (hk : X.env.scope.kind = .function := by rfl) (hl : (py.line == pos.line) = true := by rfl) (ha : (scope.names.any fun (z, k) => z == m && (k == .local || k == .cell)) = false := by decide +kernel)
    (hi : X.N[i]? = some n := by rfl) (hx : Loc (relabel scope X.env) n := by first | exact Or.inl rfl | exact Or.inr rfl) (hf : (relabel scope X.env).names.lookup n = some .local := by rfl)
    (ok : blkC X.N X.env.scope scope [(n, i)] = true := by kernel_rfl) (hs : ∀ x, foldedSetIterable iter X.env x = pure x := by intro _; rfl) : X1 X H0 M (.Assign [.Name m py] (.ListComp elt [⟨.Name n tp, iter, [], 0⟩] scope pos) spos) env (.nx (env.set j (.d (.lst (xs.map f))))) :=
  x_lc j [(n, i)] hc hN hit (by rw [List.length_map]; exact hz) (cp_A i hN he hi hx hf) hy hyl hk hl ha ok hs
theorem x_lcF {scope : Scope} {α : Type} {xs : List α} {enc : α → D} (f : α → D) {m n : Str} {tp py spos : Pos} (p : α → Bool) (j i : Nat) (hc : X.calm = true) (hN : X.N.Nodup) (hit : IT X H0 M (.Name n tp) iter env (xs.map enc)) (hz : xs.length ≤ 100000)
    (ht : ∀ x ∈ xs, ∀ s H C cl fp, ET (blkX X scope s H C cl fp) H0 M c (env.set i (.d (enc x))) (p x))
    (he : ∀ x ∈ xs, p x = true → ∀ s H C cl fp, EX (blkX X scope s H C cl fp) H0 M elt (env.set i (.d (enc x))) (.d (f x)))
    (hy : X.N[j]? = some m := by rfl) (hyl : X.env.scope.names.lookup m = some .local := by rfl) (hk : X.env.scope.kind = .function := by rfl) (hl : (py.line == pos.line) = true := by rfl) (ha : (scope.names.any fun (z, k) => z == m && (k == .local || k == .cell)) = false := by decide +kernel)
    (hi : X.N[i]? = some n := by rfl) (hx : Loc (relabel scope X.env) n := by first | exact Or.inl rfl | exact Or.inr rfl) (hf : (relabel scope X.env).names.lookup n = some .local := by rfl)
    (ok : blkC X.N X.env.scope scope [(n, i)] = true := by kernel_rfl) (hs : ∀ x, foldedSetIterable iter X.env x = pure x := by intro _; rfl) : X1 X H0 M (.Assign [.Name m py] (.ListComp elt [⟨.Name n tp, iter, [c], 0⟩] scope pos) spos) env (.nx (env.set j (.d (.lst ((xs.filter p).map f))))) :=
  x_lc j [(n, i)] hc hN hit (by rw [List.length_map]; exact hz) (cp_F p i hN ht he hi hx hf) hy hyl hk hl ha ok hs
end
end Zb
set_option maxHeartbeats 1600000
/-! The data layer, 7: sorted, set, enumerate, zip, dicts made in one go. -/
namespace Zb
open PySem PySem.Spec PyProof.Rows L2
/-! ### sets of ints -/
section
variable {X : Cx}
def rSetI (K : PySem.W.Frag) (w : World) : List V → Hp → VK → Prop := fun vs H Q => ∃ (a : Addr) (ns : List Int), vs = [V.ref a] ∧ (SqL K H a (ns.map V.int) ∨ SqT K H a (ns.map V.int)) ∧ ns.length ≤ 1000 ∧
  ∀ p c, H p = none → c ≤ ns.length → (ns.Nodup → c = ns.length) → Q (.ref p) (upd H p (SetO w p (fun j => decide (j ∈ ns)) c))
theorem setR_count {w : World} {h : Heap} {a : Addr} {ns : List Int} {c : Nat} (R : SetR w h a (fun j => decide (j ∈ ns)) c) (nd : ns.Nodup) : c = ns.length := by
  obtain ⟨o, es, ep, t, _, _, _, _, kn, km, _, _, hn, _⟩ := R
  have p : (es.toList.map keyOf).Perm ns := (List.perm_ext_iff_of_nodup kn nd).mpr fun k => by rw [← km k, decide_eq_true_eq]
  rw [← hn, ← Array.length_toList, ← p.length_eq, List.length_map]
theorem cr_setI (hc : X.calm = true) : CallR X (.type "set") (rSetI X.K X.w) := by
  intro pins s σ H vs us Q I r h
  obtain ⟨a, ns, rfl, hs, hl, q⟩ := h
  rw [Vals.ref1 r]
  have fresh : H s.heap.objs.size = none := I.hok.fresh (Nat.le_refl _)
  have few : ns.length + 1 < scanBound := Nat.lt_of_le_of_lt (Nat.succ_le_succ hl) (by decide)
  rcases hs with hs | hs
  · obtain ⟨its, rv, pl, hz⟩ := I.list hs
    refine Zk.callSetList ns (I.ok.hd hc) pl.isList (by simpa using ints_of_vals rv) few fun h' tk c R hcn k => ?_
    exact ⟨.ref s.heap.objs.size, upd H s.heap.objs.size (SetO X.w s.heap.objs.size (fun j => decide (j ∈ ns)) c), I.laid (t' := tk) k (Nat.le_refl _) (setO_new R), rfl, q _ c fresh hcn (setR_count R)⟩
  · obtain ⟨its, rv, pt, hz⟩ := I.tuple hs
    refine call_set_tupI ns (I.ok.hd hc) (show s.heap.IsTuple a its.toArray from pt) (by simpa using ints_of_vals rv) few fun h' tk c R hcn k => ?_
    exact ⟨.ref s.heap.objs.size, upd H s.heap.objs.size (SetO X.w s.heap.objs.size (fun j => decide (j ∈ ns)) c), I.laid (t' := tk) k (Nat.le_refl _) (setO_new R), rfl, q _ c fresh hcn (setR_count R)⟩
/-- len(set) -/
def rLenSet (w : World) : List V → Hp → VK → Prop := fun vs H Q => ∃ (a : Addr) (S : Int → Bool) (n : Nat), vs = [V.ref a] ∧ H a = some (SetO w a S n) ∧ n ≤ 100000 ∧ Q (.int (n : Nat)) H
theorem cr_lenSet : CallR X (.builtin "len") (rLenSet X.w) := by
  intro pins s σ H vs us Q I r h
  obtain ⟨a, S, n, rfl, ha, hn, q⟩ := h
  rw [Vals.ref1 r]
  obtain ⟨o, es, ep, t, ho, hex, hd, _, _, _, _, hf, hz, _⟩ := setO_get I ha
  refine call_len_set ho hex hd hf (by omega) ?_
  exact ⟨.int n, H, I.tok _, ⟨_, by rw [hz]⟩, q⟩
end
section
variable {X : Cx} {H0 : Hp} {M : Addr → Prop} {env env1 env2 : Ev} {out out' : Out} {r ra rb rc : Res} {a b c e tg iter elt : Expr} {es ifs : List Expr} {pos : Pos} {st : Stmt} {body sts els : List Stmt} {x y : Bool} {ds : List D}
/-- sorted(list of ints) -/
theorem ex_sortI {p : Pos} {ns res : List Int} (hm : X.mg "sorted" = none) (ha : EX X H0 M a env ra) (hr : ra.v = .lst (ns.map D.int)) (h : ∀ ns' : List Int, ns'.Perm ns → ns'.Pairwise (· ≤ ·) → ns' = res)
    (hg : Gl X "sorted" := by rfl) (hs : starEach [a] X.env = (false, eval a X.env) :: starEach [] X.env := by rfl) : EX X H0 M (.Call (.Name "sorted" p) [a] [] pos) env (.new (.lst (res.map D.int))) :=
  ex_callB cr_sortedI hm (ea_cons ha ea_nil hs) (fun N O σ H H2 vs Q ok e r k => by
    obtain ⟨v, rfl, r1⟩ := rrs1 r
    obtain ⟨q, ws, rfl, h1, h2⟩ := r1.items hr
    cases h2.ints
    refine ⟨q, ns, rfl, SqL.of h1, fun ns' l hp hw hl => ?_⟩
    rw [h ns' hp hw]
    exact k _ _ (same_new hl) ((new_lst ok (Same.refl _) hl (ra_ints res)).back e)) hg (he := hs)
/-- sorted(set(ints)) -/
theorem ex_sortSet {p p2 q2 : Pos} {ns res : List Int} (hc : X.calm = true) (hm : X.mg "sorted" = none) (hm2 : X.mg "set" = none) (ha : EX X H0 M a env ra) (hr : D.seq ra.v (ns.map D.int)) (hl : ns.length < 64) (h : ∀ ns' : List Int, ns'.Pairwise (· < ·) → (∀ k, k ∈ ns' ↔ k ∈ ns) → ns' = res)
    (hg : Gl X "sorted" := by rfl) (hg2 : Gl X "set" := by rfl) (hs : starEach [a] X.env = (false, eval a X.env) :: starEach [] X.env := by rfl)
    (hs2 : starEach [.Call (.Name "set" p2) [a] [] q2] X.env = (false, eval (.Call (.Name "set" p2) [a] [] q2) X.env) :: starEach [] X.env := by rfl) : EX X H0 M (.Call (.Name "sorted" p) [.Call (.Name "set" p2) [a] [] q2] [] pos) env (.new (.lst (res.map D.int))) :=
  pe_weak (pe_callB (cr_sortedSet hc) hg hm (by decide +kernel) (pa_cons (pe_callTy (cr_setI hc) hg2 hm2 (by decide +kernel) (pa_cons ha pa_nil hs) (he := hs)) pa_nil hs2) (he := hs2)) fun σ H Q ⟨N, O, ok, k⟩ => ⟨N, O, ok, fun v H1 e1 r1 => by
    obtain ⟨q, ws, rfl, h1, h2⟩ := rr_seq r1 hr
    cases h2.ints
    refine ⟨q, ns, rfl, h1, by omega, fun s c hs' hc' _ => ?_⟩
    refine ⟨s, _, c, rfl, upd_same, by omega, fun ns' l hp hw _ hl' => ?_⟩
    rw [h ns' hp fun j => by rw [hw j, decide_eq_true_eq]]
    have e2 := e1.trans (same_new (o := SetO X.w s (fun j => decide (j ∈ ns)) c) hs')
    exact k _ _ (e2.trans (same_new hl')) ((new_lst (ok.mono e2) (Same.refl _) hl' (ra_ints res)).back e2)⟩
/-- len(set(ints)), no two alike -/
theorem ex_lenSet {p p2 q2 : Pos} {ns : List Int} (hc : X.calm = true) (hm : X.mg "len" = none) (hm2 : X.mg "set" = none) (ha : EX X H0 M a env ra) (hr : D.seq ra.v (ns.map D.int)) (hl : ns.length ≤ 1000) (nd : ns.Nodup)
    (hg : Gl X "len" := by rfl) (hg2 : Gl X "set" := by rfl) (hs : starEach [a] X.env = (false, eval a X.env) :: starEach [] X.env := by rfl)
    (hs2 : starEach [.Call (.Name "set" p2) [a] [] q2] X.env = (false, eval (.Call (.Name "set" p2) [a] [] q2) X.env) :: starEach [] X.env := by rfl) : EX X H0 M (.Call (.Name "len" p) [.Call (.Name "set" p2) [a] [] q2] [] pos) env (.d (.int (ns.length : Int))) :=
  pe_weak (pe_callB cr_lenSet hg hm (by decide +kernel) (pa_cons (pe_callTy (cr_setI hc) hg2 hm2 (by decide +kernel) (pa_cons ha pa_nil hs) (he := hs)) pa_nil hs2) (he := hs2)) fun σ H Q ⟨N, O, ok, k⟩ => ⟨N, O, ok, fun v H1 e1 r1 => by
    obtain ⟨q, ws, rfl, h1, h2⟩ := rr_seq r1 hr
    cases h2.ints
    refine ⟨q, ns, rfl, h1, hl, fun s c hs' hc' hn => ?_⟩
    refine ⟨s, _, c, rfl, upd_same, by omega, ?_⟩
    cases hn nd
    have e2 := e1.trans (same_new (o := SetO X.w s (fun j => decide (j ∈ ns)) ns.length) hs')
    exact k _ _ e2 (.int _)⟩

/-! ### enumerate, zip -/
theorem it_enumT {p tpos : Pos} {elts : List Expr} {kk : Nat} (hm : X.mg "enumerate" = none) (h : EX X H0 M e env r) (hr : r.v = .tup ds) (hp : r.per = true := by rfl) (hg : Gl X "enumerate" := by rfl) (hs : starEach [e] X.env = (false, eval e X.env) :: starEach [] X.env := by rfl) (hs2 : starEach [e] X.env = [(false, eval e X.env)] := by rfl) :
    IT X H0 M (.Tuple elts kk tpos) (.Call (.Name "enumerate" p) [e] [] pos) env (ds.zipIdx.map fun z => .tup [natD z.2, z.1]) :=
  pi_weak (Zk.piEnumT hg hm (pa_cons h pa_nil hs) hs2) fun σ H Q ⟨N, O, ok, k⟩ => ⟨N, O, ok, fun v H' e1 r1 => by
    have r2 := r1.keep hp
    rw [hr] at r2
    cases r2 with
    | @tup a xs _ h1 h3 =>
      refine ⟨a, xs, rfl, h1, k _ H' e1 ⟨_, _, by rw [List.length_map, List.length_zipIdx, ← h3.length]; exact Zk.walkEnumT (xs := xs), fun N' H2 f => sqt_fr f h1, fun i H2 x H3 N' d f hd y => ?_⟩⟩
      obtain ⟨T, u, z, rfl, hT, rfl, eu, ez⟩ := y
      cases eu
      rw [List.getElem?_map, List.getElem?_zipIdx] at hd
      cases hx : ds[i]? with
      | none => rw [hx] at hd; cases hd
      | some d0 =>
        rw [hx] at hd
        cases hd
        obtain ⟨w, g1, g2⟩ := h3.get hx
        have ez : xs[i]? = some z := ez
        rw [g1] at ez
        cases ez
        have sn : Same H2 (upd H2 T (.tup [.int (i : Nat), z])) := same_new hT
        refine ⟨sn, .tup (SqT.of upd_same) (.cons ?_ (.cons ((g2.fr f).same sn) .nil))⟩
        show R X.K _ N' (.int (i : Nat)) (natD (0 + i))
        rw [Nat.zero_add]
        exact .int _⟩
end
end Zb
/-! The data layer, 8: zip, dicts made in one go, keys walked, more of lists and tuples. -/
namespace Zb
open PySem PySem.Spec PyProof.Rows L2 RZ
section
variable {X : Cx} {H0 : Hp} {M : Addr → Prop} {env env1 env2 : Ev} {out out' : Out} {r ra rb rc : Res} {a b c e tg iter elt : Expr} {es ifs : List Expr} {pos : Pos} {st : Stmt} {body sts els : List Stmt} {x y : Bool} {ds es' : List D}
theorem walkZipT {K : PySem.W.Frag} {a b : Addr} {xs ys : List V} {n : Nat} (hn : n = min xs.length ys.length) : Walk (ItzT K a b) n (fun H => SqT K H a xs ∧ SqT K H b ys) (YPair (fun i => xs[i]?) (fun i => ys[i]?)) := by
  subst hn
  refine ⟨fun i _ hi q => ?_, fun _ q => ⟨xs, ys, q.1, q.2, by omega⟩, fun i H v H' _ q y => ?_⟩
  · have l1 : i < xs.length := by omega
    have l2 : i < ys.length := by omega
    exact ⟨xs, ys, xs[i], ys[i], q.1, q.2, by simp [l1], by simp [l2]⟩
  · obtain ⟨T, x, z, y1, y2, y3, y4, y5⟩ := y
    exact ⟨T, x, z, y1, y2, y3, y4 xs q.1, y5 ys q.2⟩
theorem zip_pair {N N' : Addr → Prop} {K : PySem.W.Frag} {H' H2 H3 : Hp} {xs ys : List V} {ds es' : List D} (h3 : RA K H' N xs ds) (h4 : RA K H' N ys es') (f : Fr N H' N' H2) {i : Nat} {d : D} {v : V} (hd : ((ds.zip es').map fun z => D.tup [z.1, z.2])[i]? = some d)
    (hy : YPair (fun i => xs[i]?) (fun i => ys[i]?) i H2 v H3) : Same H2 H3 ∧ R K H3 N' v d := by
  obtain ⟨T, u, z, rfl, hT, rfl, eu, ez⟩ := hy
  have eu : xs[i]? = some u := eu
  have ez : ys[i]? = some z := ez
  obtain ⟨d1, g1, g2⟩ := h3.getV eu
  obtain ⟨d2, g3, g4⟩ := h4.getV ez
  have hz : (ds.zip es')[i]? = some (d1, d2) := List.getElem?_zip_eq_some.mpr ⟨g1, g3⟩
  rw [List.getElem?_map, hz] at hd
  cases hd
  have sn : Same H2 (upd H2 T (.tup [u, z])) := same_new hT
  exact ⟨sn, .tup (SqT.of upd_same) (.cons ((g2.fr f).same sn) (.cons ((g4.fr f).same sn) .nil))⟩
/-- zip of two tuples | of two lists -/
theorem it_zip {p tpos : Pos} {elts : List Expr} {kk : Nat} (hm : X.mg "zip" = none) (h : EX X H0 M e env ra) (h2 : EX X H0 M b env rb) (hr : (ra.v = .tup ds ∧ rb.v = .tup es') ∨ (ra.v = .lst ds ∧ rb.v = .lst es')) (hp : ra.per = true := by rfl) (hp2 : rb.per = true := by rfl) (hg : Gl X "zip" := by rfl)
    (hs : starEach [e, b] X.env = (false, eval e X.env) :: starEach [b] X.env := by rfl) (hs2 : starEach [b] X.env = (false, eval b X.env) :: starEach [] X.env := by rfl) (hpl : (backTo pos (starEach [b] X.env)).any (·.1) = false := by rfl) :
    IT X H0 M (.Tuple elts kk tpos) (.Call (.Name "zip" p) [e, b] [] pos) env ((ds.zip es').map fun z => .tup [z.1, z.2]) :=
  pi_weak (pi_zipA hg hm (pa_cons h (pa_cons h2 pa_nil hs2) hs) hs hpl) fun σ H Q ⟨N, O, ok, k⟩ => ⟨N, O, ok, fun v H' e1 r1 => ⟨N, O, ok.mono e1, fun w H2 e2 r2 => by
    have k1 := (r1.same e2).keep hp
    have k2 := (r2.back e1).keep hp2
    rcases hr with ⟨hr, hr2⟩ | ⟨hr, hr2⟩
    · rw [hr] at k1
      rw [hr2] at k2
      cases k1 with
      | @tup a xs _ h1 h3 =>
        cases k2 with
        | @tup b ys _ g1 g3 =>
          refine ⟨a, b, xs, ys, rfl, .inr ⟨h1, g1, k _ H2 (e1.trans e2) ⟨_, _, walkZipT (by rw [List.length_map, List.length_zip, h3.length, g3.length]), fun N' H3 f => ⟨sqt_fr f h1, sqt_fr f g1⟩, fun i H3 x H4 N' d f hd y => zip_pair h3 g3 f hd y⟩⟩⟩
    · rw [hr] at k1
      rw [hr2] at k2
      cases k1 with
      | @lst a xs _ h1 hn h3 =>
        cases k2 with
        | @lst b ys _ g1 gn g3 =>
          refine ⟨a, b, xs, ys, rfl, .inl ⟨SqL.of h1, SqL.of g1, k _ H2 (e1.trans e2) ⟨_, _, walk_zip (by rw [List.length_map, List.length_zip, h3.length, g3.length]), fun N' H3 f => ⟨SqL.of ((f _ _ h1).1 hn).1, SqL.of ((f _ _ g1).1 gn).1⟩, fun i H3 x H4 N' d f hd y => zip_pair h3 g3 f hd y⟩⟩⟩⟩⟩

/-! ### {k: v for n in ..} -/
def foldP (ps : List (Int × D)) (acc : List Int × List D) : List Int × List D := ps.foldl (fun acc p => putD p.1 p.2 acc.1 acc.2) acc
theorem putD_nodup {k : Int} {d : D} : ∀ {ks : List Int} {ds : List D}, ks.Nodup → (putD k d ks ds).1.Nodup ∧ ∀ j, j ∈ (putD k d ks ds).1 → j = k ∨ j ∈ ks
  | [], _, _ => by simp [putD]
  | _ :: _, [], nd => by simp [putD]
  | j :: ks, x :: ds, nd => by
    obtain ⟨n1, n2⟩ := List.nodup_cons.mp nd
    unfold putD
    by_cases q : j = k
    · subst q
      rw [if_pos rfl]
      exact ⟨nd, fun i hi => .inr hi⟩
    · rw [if_neg q]
      obtain ⟨i1, i2⟩ := putD_nodup (k := k) (d := d) (ds := ds) n2
      refine ⟨List.nodup_cons.mpr ⟨fun m => ?_, i1⟩, fun i hi => ?_⟩
      · rcases i2 j m with z | z
        · exact q z
        · exact n1 z
      · rcases List.mem_cons.mp hi with z | z
        · exact .inr (z ▸ List.mem_cons_self ..)
        · rcases i2 i z with z | z
          · exact .inl z
          · exact .inr (List.mem_cons_of_mem _ z)
/-- what a block that makes a dict goes through -/
inductive Cd (P : Cx → Prop) (H0 : Hp) (M : Addr → Prop) (tg kx vx : Expr) (vs : List Nat) (env : Ev) : List D → List (Int × D) → Prop
  | nil : Cd P H0 M tg kx vx vs env [] []
  | cons {env1 : Ev} {d : D} {ds : List D} {out : List (Int × D)} {js : List Nat} {k : Int} {r : Res} : (∀ Y, P Y → AG Y H0 M tg env d env1 js) → (∀ j ∈ js, j ∈ vs) → (∀ Y, P Y → EX Y H0 M kx env1 (.d (.int k))) → (∀ Y, P Y → EX Y H0 M vx env1 r) → r.per = true → Cd P H0 M tg kx vx vs env ds out → Cd P H0 M tg kx vx vs env (d :: ds) ((k, r.v) :: out)
theorem dc_it {J : It} {n : Nat} {G : Hp → Prop} {Y : Nat → Hp → V → Hp → Prop} (w : Walk J n G Y) {g : TG} {tt : TT} {tk tv : TE} {vs : List Nat} {σ : L2.St} {H1 : Hp} {D : Addr} {Qd : Hp → Prop} (Pv : Nat → Hp → Prop) (h0 : Pv 0 (upd H1 D (.dK []))) (hG : ∀ i H, i ≤ n → Pv i H → G H)
    (hs : ∀ i x H H', i < n → Pv i H → Y i H x H' → g x (wipe σ vs) H' fun σ2 H2 => wipe σ2 vs = wipe σ vs ∧ tt σ2 H2 fun b H3 =>
      if b = true then tk σ2 H3 fun y H4 => tv σ2 H4 fun z H5 => ∃ kvs k, y = kV k ∧ H5 D = some (.dK kvs) ∧ kvs.length < sizeLine ∧ Pv (i + 1) (upd H5 D (.dK (putK kvs k z))) else Pv (i + 1) H3) (hd : ∀ H, Pv n H → Qd H) :
    ∃ W : Nat → Nat → Hp → Prop, (∃ m, W 0 m (upd H1 D (.dK []))) ∧ ∀ i m H, W i m H →
      (J.stop i H ∧ Qd H) ∨ (J.go i H ∧ ∃ Nx : Hp → Prop, (∀ H', Nx H' → ∃ m', m' < m ∧ W (i + 1) m' H') ∧ ∀ x H', J.yld i H x H' → g x (wipe σ vs) H' fun σ2 H2 => wipe σ2 vs = wipe σ vs ∧ tt σ2 H2 fun b H3 =>
        if b = true then tk σ2 H3 fun y H4 => tv σ2 H4 fun z H5 => ∃ kvs k, y = kV k ∧ H5 D = some (.dK kvs) ∧ kvs.length < sizeLine ∧ Nx (upd H5 D (.dK (putK kvs k z))) else Nx H3) := by
  refine ⟨fun i m H => m = n - i ∧ i ≤ n ∧ Pv i H, ⟨n, rfl, Nat.zero_le _, h0⟩, fun i m H ⟨em, hi, p⟩ => ?_⟩
  subst em
  by_cases hlt : i < n
  · exact .inr ⟨w.goes i H hlt (hG i H hi p), Pv (i + 1), fun H' p' => ⟨n - (i + 1), by omega, rfl, hlt, p'⟩, fun x H' y => hs i x H H' hlt p (w.yields i H x H' hlt (hG i H hi p) y)⟩
  · have e : i = n := by omega
    subst e
    exact .inl ⟨w.stops H (hG i H hi p), hd H p⟩
def tTr (K : PySem.W.Frag) (H0 : Hp) (M : Addr → Prop) : TT := fun σ H Q => ∃ p : Ev × Bool, (p.2 = true) ∧ tET K H0 M p.1 p.2 σ H Q
theorem dc_read {K : PySem.W.Frag} {P : Cx → Prop} {vs : List Nat} {out : List (Int × D)} {σ : L2.St} {H : Hp} {Q : VK} {kx vx : Expr} (hz : ds.length ≤ 100000) (h : Cd P H0 M tg kx vx vs (wipeE env vs) ds out) (t : tEX K H0 M env (.new (.dic (foldP out ([], [])).1 (foldP out ([], [])).2)) σ H Q) :
    tDc (tIT K H0 M env ds) (gCp P K H0 M tg) (tTr K H0 M) (eCp P K H0 M kx) (eCp P K H0 M vx) vs σ H Q := by
  obtain ⟨N, O, ok, q⟩ := t
  refine ⟨N, O, ok, fun J H1 e1 ⟨G, Y, w, hG, hY⟩ L hL => ?_⟩
  obtain ⟨O1, ok1, hO⟩ := ok_wipe (ok.mono e1) vs
  have hoD : ∀ j : Nat, O1[j]? ≠ some (some L) := fun j hj => by
    obtain ⟨_, _, c⟩ := (ok.mono e1).own j L (hO j L hj)
    rcases c with ⟨_, c⟩ | ⟨_, c⟩ <;> rw [hL] at c <;> cases c
  have h0D : H0 L = none := (ok.mono e1).ext.free hL
  have frD : ∀ {H' : Hp} {N' : Addr → Prop}, Same H1 H' → (∀ a, N' a ↔ N a ∧ a ≠ L) → Fr N H1 N' H' := fun e n b o hb => ⟨fun nb => ⟨e _ _ hb, (n b).mpr ⟨nb, ne_of_none hb hL⟩⟩, fun _ => e _ _ hb⟩
  refine dc_it w (fun i H' => Same H1 H' ∧ Ok K H0 M (fun a => N a ∧ a ≠ L) (wipe σ vs) H' (wipeE env vs) O1 ∧ ∃ kvs ks xs rest, H' L = some (.dK kvs) ∧ ks.Nodup ∧ kvs.map (·.1) = ks.map Sum.inl ∧ RA K H' (fun a => N a ∧ a ≠ L) (kvs.map (·.2)) xs ∧ kvs.length ≤ i ∧ foldP out ([], []) = foldP rest (ks, xs) ∧ Cd P H0 M tg kx vx vs (wipeE env vs) (ds.drop i) rest)
    ⟨same_new hL, ok1.hide hL, [], [], [], out, upd_same, List.nodup_nil, rfl, .nil, Nat.le_refl _, rfl, h⟩ (fun i H' _ ⟨e, _⟩ => hG _ H' (frD e fun _ => Iff.rfl)) (fun i x H' H2 hi ⟨e, ok2, kvs, ks, xs, rest, ha, nd, hk, hr, hf, ho, hc⟩ y => ?_) fun H' ⟨e, ok2, kvs, ks, xs, rest, ha, nd, hk, hr, hf, ho, hc⟩ => ?_
  · obtain ⟨s2, r2⟩ := hY i H' x H2 _ ds[i] (frD e fun _ => Iff.rfl) (List.getElem?_eq_getElem hi) y
    rw [drop_cons hi] at hc
    cases hc with
    | @cons env1 _ _ out' js k r hag hj hkx hvx hper hc =>
      refine ⟨(_, _, _, _), hag, _, O1, ok2.mono s2, r2, fun σ2 O2 ok3 l3 f3 => ⟨wipe_eq l3 f3 hj, (_, true), rfl, _, O2, ok3, fun H3 e3 => iteT ⟨(_, _), hkx, _, O2, ok3.mono e3, fun kv H4 e4 r4 => ?_⟩⟩⟩
      refine ⟨(_, _), hvx, _, O2, (ok3.mono e3).mono e4, fun v H5 e5 r5 => ?_⟩
      cases r4.isI
      have s5 := ((s2.trans e3).trans e4).trans e5
      have hw : Wr H5 L := .inr ⟨kvs, s5 _ _ ha⟩
      have hn : ¬ (N L ∧ L ≠ L) := fun z => z.2 rfl
      obtain ⟨g1, g2⟩ := put_ra (k := k) (r5.keep hper) nd hk (hr.same s5)
      refine ⟨kvs, Sum.inl k, rfl, s5 _ _ ha, Nat.lt_of_lt_of_le (by omega) (by decide : 200000 ≤ sizeLine), same_mut (e.trans s5) hL, (ok2.mono s5).upd_hid hn hw h0D hoD, _, _, _, out', upd_same, (putD_nodup nd).1, g1, g2.upd hw hn, ?_, ho, hc⟩
      have : ∀ (kvs : List (Key × V)) (k : Key) (v : V), (putK kvs k v).length ≤ kvs.length + 1 := fun kvs k v => by
        unfold putK
        split
        · rw [List.length_map]
          exact Nat.le_succ _
        · rw [List.length_append]
          exact Nat.le_refl _
      exact Nat.le_trans (this _ _ _) (Nat.succ_le_succ hf)
  · rw [List.drop_length] at hc
    cases hc
    have ho : foldP out ([], []) = (ks, xs) := ho
    refine q _ H' (e1.trans e) ⟨L, rfl, e1.free hL, ok.nf L (e1.free hL), kvs, ha, ?_, ?_⟩
    · rw [ho]
      exact hk
    · rw [ho]
      exact hr
theorem cd_A {scope : Scope} {α : Type} {xs : List α} {enc : α → D} {f : α → Int × D} {n : Str} {tp : Pos} {kx vx : Expr} (i : Nat) (hN : X.N.Nodup) (hk : ∀ x ∈ xs, ∀ s H C cl fp, EX (blkX X scope s H C cl fp) H0 M kx (env.set i (.d (enc x))) (.d (.int (f x).1)))
    (he : ∀ x ∈ xs, ∀ s H C cl fp, EX (blkX X scope s H C cl fp) H0 M vx (env.set i (.d (enc x))) (.d (f x).2))
    (hi : X.N[i]? = some n) (hx : Loc (relabel scope X.env) n) (hf : (relabel scope X.env).names.lookup n = some .local) : Cd (Bk X scope) H0 M (.Name n tp) kx vx [i] (wipeE env [i]) (xs.map enc) (xs.map f) := by
  induction xs with
  | nil => exact .nil
  | cons z xs ih =>
    refine .cons (env1 := env.set i (.d (enc z))) (js := [i]) (k := (f z).1) (r := .d (f z).2) (fun Y ⟨s', H', C, cl, fp, hY⟩ => ?_) (fun _ h => h) (fun Y ⟨s', H', C, cl, fp, hY⟩ => ?_) (fun Y ⟨s', H', C, cl, fp, hY⟩ => ?_) rfl (ih (fun y hy => hk y (List.mem_cons_of_mem _ hy)) fun y hy => he y (List.mem_cons_of_mem _ hy))
    · subst hY
      have := ag_name (X := blkX X scope s' H' C cl fp) (H0 := H0) (M := M) (env := wipeE env [i]) (d := enc z) (pos := tp) i hN hi hx (.inr hf)
      rw [wipeE, wipeE, List.set_set] at this
      exact this
    · subst hY
      exact hk z (List.mem_cons_self ..) s' H' C cl fp
    · subst hY
      exact he z (List.mem_cons_self ..) s' H' C cl fp
theorem ex_dc {scope : Scope} {α : Type} {xs : List α} {enc : α → D} (f : α → Int × D) {n : Str} {tp : Pos} {kx vx : Expr} (i : Nat) (hc : X.calm = true) (hN : X.N.Nodup) (hit : IT X H0 M (.Name n tp) iter env (xs.map enc)) (hz : xs.length ≤ 100000)
    (hk : ∀ x ∈ xs, ∀ s H C cl fp, EX (blkX X scope s H C cl fp) H0 M kx (env.set i (.d (enc x))) (.d (.int (f x).1)))
    (he : ∀ x ∈ xs, ∀ s H C cl fp, EX (blkX X scope s H C cl fp) H0 M vx (env.set i (.d (enc x))) (.d (f x).2))
    (hi : X.N[i]? = some n := by rfl) (hx : Loc (relabel scope X.env) n := by first | exact Or.inl rfl | exact Or.inr rfl) (hf : (relabel scope X.env).names.lookup n = some .local := by rfl)
    (ok : blkC X.N X.env.scope scope [(n, i)] = true := by kernel_rfl) (hs : ∀ x, foldedSetIterable iter X.env x = pure x := by intro _; rfl) :
    EX X H0 M (.DictComp kx vx [⟨.Name n tp, iter, [], 0⟩] scope pos) env (.new (.dic (foldP (xs.map f) ([], [])).1 (foldP (xs.map f) ([], [])).2)) :=
  pe_weak (pe_dc (own := [(n, i)]) hc hN hit (blkOk_by ok) (fun s H C cl fp => pg_any (ι := Ev × D × Ev × List Nat) (c := fun p => ∀ Y, Bk X scope Y → AG Y H0 M (.Name n tp) p.1 p.2.1 p.2.2.1 p.2.2.2) (t := fun p => tAG X.K H0 M p.1 p.2.1 p.2.2.1 p.2.2.2) fun _ z => z _ ⟨s, H, C, cl, fp, rfl⟩)
    (fun s H C cl fp => pts_any (ι := Ev × Bool) (c := fun p => p.2 = true) (t := fun p => tET X.K H0 M p.1 p.2) fun p z => by
      obtain ⟨e', b'⟩ := p
      cases (z : b' = true)
      exact ets_nil)
    (fun s H C cl fp => pe_any (ι := Ev × Res) (c := fun p => ∀ Y, Bk X scope Y → EX Y H0 M kx p.1 p.2) (t := fun p => tEX X.K H0 M p.1 p.2) fun _ z => z _ ⟨s, H, C, cl, fp, rfl⟩)
    (fun s H C cl fp => pe_any (ι := Ev × Res) (c := fun p => ∀ Y, Bk X scope Y → EX Y H0 M vx p.1 p.2) (t := fun p => tEX X.K H0 M p.1 p.2) fun _ z => z _ ⟨s, H, C, cl, fp, rfl⟩) hs)
    fun σ H Q t => dc_read (by rw [List.length_map]; exact hz) (cd_A i hN hk he hi hx hf) t
end
end Zb
/-! The data layer, 9: extend by a tuple, slices that go back, list(range), the keys of an own dict walked. -/
namespace Zk
open PySem PySem.Spec PyProof.Rows L2
open AutoSeq1
set_option maxRecDepth 8000 in
theorem extT (l : Addr) (xs : Array Value) (n : Nat) (b : Addr) (ys : Array Value) (m : Nat) (dd : Option Addr) (sl : Array (Option Value)) (h0 : ¬ (!xs.isEmpty && Builtin.List.listTooLong (xs.size + ys.size)) = true) (h1 : xs.size ≤ sizeLine) (h2 : xs.size + ys.size ≤ sizeLine + 1) :
    Meets (Builtin.«list.extend» ⟨[.ref l, .ref b], []⟩) fun _ R s => s.heap.get? l = some { cls := .type "list", dict := none, data := .seq xs n, slots := #[] } ∧
      s.heap.get? b = some { cls := .type "tuple", dict := dd, data := .seq ys m, slots := sl } ∧ R (.ok (.ret Value.none)) { s with heap := s.heap.update l (Obj.mapSeq fun z => z ++ ys), toks := s.toks } :=
  .of_wp fun pg wo Ar R s both => by
    obtain ⟨hp, g, d, tk, os⟩ := s
    obtain ⟨hl, hb, fin⟩ := both
    have z1 := AutoSeq1.idx_int
    have z2 := AutoSeq1.sub_tuple_tuple
    have z3 := AutoSeq1.sub_list_list
    have z4 := AutoSeq1.sub_tuple_list
    have z5 := AutoSeq1.sub_list_tuple
    have szs : (xs ++ ys).size ≤ sizeLine + 1 := by
      rw [Array.size_append]
      exact h2
    wp_walk using (wpAny_updateSeq hl rfl (hz := h1) (_hz' := szs)), wpAny_loadPart' hl, wpAny_loadPart' hb
    exact ⟨_, rfl, fin⟩
end Zk
namespace Zb
open PySem PySem.Spec PyProof.Rows L2 RZ
section
variable {X : Cx}
def rExtendT (K : PySem.W.Frag) : V → List V → Hp → VK → Prop := fun x vs H Q => ∃ l b xs zs, x = .ref l ∧ vs = [.ref b] ∧ H l = some (.lst xs) ∧ SqT K H b zs ∧ xs.length + zs.length ≤ sizeLine ∧ Q .non (upd H l (.lst (xs ++ zs)))
theorem mt_extendT : MtM X "list.extend" (rExtendT X.K) := by
  intro pins s σ H x vs v us Q I rx rv h
  obtain ⟨l, b, xs, zs, rfl, rfl, hH, hB, hz, q⟩ := h
  cases rx
  obtain ⟨u, rfl, ru⟩ := rv.one
  cases ru
  obtain ⟨z, its, n, r, hl, e⟩ := I.lstM hH
  obtain ⟨its2, r2, pt, z2⟩ := I.tuple hB
  obtain ⟨⟨oc, od, oda, osl⟩, hob, hcb, nb, hdb⟩ := id pt
  simp only at hcb hdb
  subst hcb hdb
  have l2 := r2.length
  have szs : its.toArray.size + its2.toArray.size ≤ sizeLine := by
    rw [List.size_toArray, List.size_toArray]
    omega
  have short : ¬ (!its.toArray.isEmpty && Builtin.List.listTooLong (its.toArray.size + its2.toArray.size)) = true := by
    rw [notLongL szs, Bool.and_false]
    exact Bool.false_ne_true
  refine call_meets PySem.F.slot_list_extend ⟨_, e, rfl⟩ PySem.F.entry_list_extend (PySem.F.args_list_extend_2 _ _) (Zk.extT l its.toArray n b its2.toArray nb od osl short (by rw [List.size_toArray]; omega) (by omega)) ⟨e, hob, ?_⟩
  refine ⟨.non, _, I.lset (its' := its ++ its2) hH e (by simp) (r.append r2) ?_, rfl, q⟩
  rw [List.length_append]
  omega
end
section
variable {X : Cx} {H0 : Hp} {M : Addr → Prop} {env env1 env2 : Ev} {out out' : Out} {r ra rb rc : Res} {a b c e tg iter elt : Expr} {es ifs : List Expr} {pos : Pos} {st : Stmt} {body sts els : List Stmt} {x y : Bool} {ds es' : List D}
theorem x_extendT {n : Str} {d es' : List D} {p1 apos cpos : Pos} (i : Nat) (he : env[i]? = some (.o (.lst d))) (h : EX X H0 M e env r) (hr : r.v = .tup es') (hl : d.length + es'.length ≤ 100000) (hN : X.N[i]? = some n := by rfl) (hv : Vis X.env.scope n := by first | exact Or.inl rfl | exact Or.inr (Or.inl rfl) | exact Or.inr (Or.inr rfl))
    (hd : (n == ("__debug__" : Str)) = false := by decide) (hcd : (n == ("__classdict__" : Str)) = false := by decide) (hse : starEach (e :: []) X.env = (false, eval e X.env) :: starEach [] X.env := by rfl)
    (hline : (apos.endLine == cpos.line) = true := by rfl) (hs : swapsWith (.Call (.Attribute (.Name n p1) "extend" apos) [e] [] cpos) none pos.line X.env = pure false := by rfl) :
    X1 X H0 M (.Expr (.Call (.Attribute (.Name n p1) "extend" apos) [e] [] cpos) pos) env (.nx (env.set i (.o (.lst (d ++ es'))))) :=
  ps_weak (ps_expr (pe_bm PySem.F.plainAttrs_list PySem.F.slot_list_extend PySem.F.type_list_extend mt_extendT (pe_var (i := i) hN hv hd hcd) (pa_cons h pa_nil hse) (hfew := by rw [hse]; rfl) (hline := hline) (hs := hse)) hs) fun E σ H ⟨N, O, ok, q⟩ => by
    obtain ⟨p, h1, h2, vs, h3, h4⟩ := ok.o i _ he
    refine ⟨.ref p, h2, .inl ⟨rfl, _, SqL.of h3⟩, N, O, ok, fun v H' e1 r1 => ?_⟩
    obtain ⟨b, ws, rfl, g1, g2⟩ := r1.titems hr
    refine ⟨p, b, vs, ws, rfl, rfl, e1 _ _ h3, g1, small (by rw [h4.length, g2.length]; exact hl), ?_⟩
    have ok1 := ok.mono e1
    exact q σ _ N O (ok1.change he h1 ⟨_, upd_same, (((h4.same e1).append g2).upd (ok1.own i p h1).2.2 (ok1.own i p h1).1)⟩) ((Fr.of_same e1).trans (Fr.change ok1 h1))
/-- t[:0:-1] -/
theorem ex_backT {k j : Nat} {p0 p1 p2 p3 : Pos} (ha : EX X H0 M a env ra) (hr : ra.v = .tup ds) (h1 : 1 ≤ ds.length) : EX X H0 M (.Subscript a (.Slice none (some (.Constant (.int 0) j p0)) (some (.UnaryOp .USub (.Constant (.int 1) k p1) p2)) p3) pos) env (.d (.tup (ds.drop 1).reverse)) :=
  pe_weak (Zk.peBack ha) fun σ H Q ⟨N, O, ok, k⟩ => ⟨N, O, ok, fun v H1 e1 r1 => by
    obtain ⟨q, ws, rfl, g1, g2⟩ := r1.titems hr
    exact ⟨q, ws, rfl, g1, by rw [g2.length]; exact h1, fun p hp => k _ _ (e1.trans (same_new hp)) (.tup (SqT.of upd_same) ((g2.drop 1).reverse.same (same_new hp)))⟩⟩
/-- list(range(n)) -/
theorem ex_listRg {p p2 q2 : Pos} {n : Nat} (hc : X.calm = true) (hm : X.mg "list" = none) (hm2 : X.mg "range" = none) (ha : EX X H0 M a env (.d (.int (n : Int)))) (hn : n ≤ 100000) (hg : Gl X "list" := by rfl) (hg2 : Gl X "range" := by rfl) (hs : starEach [a] X.env = (false, eval a X.env) :: starEach [] X.env := by rfl)
    (hs2 : starEach [.Call (.Name "range" p2) [a] [] q2] X.env = (false, eval (.Call (.Name "range" p2) [a] [] q2) X.env) :: starEach [] X.env := by rfl) : EX X H0 M (.Call (.Name "list" p) [.Call (.Name "range" p2) [a] [] q2] [] pos) env (.new (.lst ((List.range n).map natD))) :=
  pe_weak (pe_listRg hc hg hm (prg_1 hg2 hm2 ha hs) hs2) fun σ H Q ⟨N, O, ok, k⟩ => ⟨N, O, ok, fun v H1 e1 r1 => by
    cases r1.isI
    refine ⟨(n : Int), rfl, RgOk.of_le (Int.le_refl 0) (by omega) (by omega) (by omega), fun q hq => ?_⟩
    have hv : rgV 0 (n : Int) = ((List.range n).map fun i : Nat => (i : Int)).map V.int := by
      unfold rgV
      rw [Int.sub_zero, Int.toNat_natCast, List.map_map]
      refine List.map_congr_left fun i _ => ?_
      show V.int (0 + (i : Int)) = V.int (i : Int)
      rw [Int.zero_add]
    have hd : (List.range n).map natD = ((List.range n).map fun i : Nat => (i : Int)).map D.int := by
      rw [List.map_map]
      rfl
    rw [hv]
    refine k _ _ (e1.trans (same_new hq)) ?_
    rw [hd]
    exact (new_lst (ok.mono e1) (Same.refl _) hq (ra_ints _)).back e1⟩
end
end Zb
/-! The data layer, 10: the keys of an own dict walked. -/
namespace Zb
open PySem PySem.Spec PyProof.Rows L2 RZ
section
variable {K : PySem.W.Frag} {H0 H H1 : Hp} {M N : Addr → Prop} {σ : L2.St} {env : Ev} {O : List (Option Addr)} {p : Addr}
theorem set_none {O : List (Option Addr)} {i j : Nat} {q : Addr} (h : (O.set i none)[j]? = some (some q)) : i ≠ j ∧ O[j]? = some (some q) := by
  by_cases e : i = j
  · subst e
    by_cases hl : i < O.length
    · rw [List.getElem?_set_self hl] at h
      cases h
    · rw [List.getElem?_eq_none (by simpa using hl)] at h
      cases h
  · rw [List.getElem?_set_ne e] at h
    exact ⟨e, h⟩
theorem Ok.freeze {i : Nat} {ks : List Int} {ds : List D} {kvs : List (Key × V)} {od : Obj} (hM : ∀ a, M a) (ok : Ok K H0 M N σ H env O) (he : env[i]? = some (.o (.dic ks ds))) (hp : O[i]? = some (some p)) (hs : σ[i]? = some (some (.ref p))) (h3 : H p = some (.dK kvs)) (hk : kvs.map (·.1) = ks.map Sum.inl) (h4 : RA K H N (kvs.map (·.2)) ds) :
    Ok K H0 M (fun a => N a ∨ a = p) σ (L2.upd H p (.frz od (.dK kvs))) (env.set i (.d (.dic ks ds))) (O.set i none) := by
  obtain ⟨w1, w2, w3⟩ := ok.own i p hp
  have hl : i < env.length := (List.getElem?_eq_some_iff.mp he).1
  exact {
    ext := fun b x hb => by
      have : b ≠ p := fun z => by rw [z, w2] at hb; cases hb
      rw [upd_ne this]
      exact ok.ext b x hb
    nm := fun a _ => hM a
    nf := fun a ha => by
      by_cases z : a = p
      · exact .inr z
      · rw [upd_ne z] at ha
        exact .inl (ok.nf a ha)
    len := by rw [List.length_set]; exact ok.len
    olen := by rw [List.length_set]; exact ok.olen
    d := fun j x hj => by
      by_cases z : i = j
      · subst z
        rw [List.getElem?_set_self hl] at hj
        cases hj
        exact ⟨.ref p, hs, .dic (.inr ⟨od, upd_same⟩) (.inr rfl) hk ((h4.upd w3 w1).mono (Same.refl _) fun a z => .inl z)⟩
      · rw [List.getElem?_set_ne z] at hj
        obtain ⟨v, g1, g2⟩ := ok.d j x hj
        exact ⟨v, g1, (g2.upd w3 w1).mono (Same.refl _) fun a z => .inl z⟩
    o := fun j x hj => by
      by_cases z : i = j
      · subst z
        rw [List.getElem?_set_self hl] at hj
        cases hj
      · rw [List.getElem?_set_ne z] at hj
        obtain ⟨q, g1, g2, g3⟩ := ok.o j x hj
        have ne : q ≠ p := fun y => z (ok.inj i j p hp (y ▸ g1))
        exact ⟨q, by rw [List.getElem?_set_ne z]; exact g1, g2, (g3.upd w3 w1 ne).mono (Same.refl _) fun a z => .inl z⟩
    own := fun j q hj => by
      obtain ⟨z, hj⟩ := set_none hj
      obtain ⟨g1, g2, g3⟩ := ok.own j q hj
      have ne : q ≠ p := fun y => z (ok.inj i j p hp (y ▸ hj))
      refine ⟨fun y => y.elim g1 ne, g2, ?_⟩
      unfold Wr
      rw [upd_ne ne]
      exact g3
    inj := fun j k q hj hk => ok.inj j k q (set_none hj).2 (set_none hk).2 }
theorem sqt_thaw {od : Obj} {kvs : List (Key × V)} {o : HO} (h : H p = some (.frz od (.dK kvs))) {a : Addr} {xs : List V} (s : SqT K H a xs) : SqT K (L2.upd H p o) a xs := by
  rcases s with (s | ⟨z, s⟩) | s
  · have ne : a ≠ p := fun e => by rw [e, h] at s; cases s
    exact .inl (.inl (by rw [upd_ne ne]; exact s))
  · have ne : a ≠ p := fun e => by rw [e, h] at s; cases s
    exact .inl (.inr ⟨z, by rw [upd_ne ne]; exact s⟩)
  · exact .inr s
mutual
theorem R.thaw {od : Obj} {kvs : List (Key × V)} {o : HO} {N N' : Addr → Prop} (h : H p = some (.frz od (.dK kvs))) : ∀ {v : V} {d : D}, R K H N v d → d.flat = true → R K (L2.upd H p o) N' v d
  | _, _, .non, _ => .non
  | _, _, .bl b, _ => .bl b
  | _, _, .int i, _ => .int i
  | _, _, .str s, _ => .str s
  | _, _, .tup s r, f => .tup (sqt_thaw h s) (RA.thaw h r (by simpa [D.flat] using f))
  | _, _, .lst s g r, f => by simp [D.flat] at f
  | _, _, .dic s g k r, f => by simp [D.flat] at f
theorem RA.thaw {od : Obj} {kvs : List (Key × V)} {o : HO} {N N' : Addr → Prop} (h : H p = some (.frz od (.dK kvs))) : ∀ {vs : List V} {ds : List D}, RA K H N vs ds → D.flats ds = true → RA K (L2.upd H p o) N' vs ds
  | _, _, .nil, _ => .nil
  | _, _, .cons a b, f => by
    simp only [D.flats, Bool.and_eq_true] at f
    exact .cons (R.thaw h a f.1) (RA.thaw h b f.2)
end
end
section
variable {X : Cx} {H0 : Hp} {M : Addr → Prop} {env env1 env2 : Ev} {out out' : Out} {r ra rb rc : Res} {a b c e tg iter elt : Expr} {es ifs : List Expr} {pos : Pos} {st : Stmt} {body sts els : List Stmt} {x y : Bool} {ds es' : List D}
/-- [elt for target in own if ..], own an own dict; what comes of it is flat -/
theorem ex_lcK {scope : Scope} {out : List D} {n : Str} {p1 : Pos} {ks : List Int} (i : Nat) (own : List (Str × Nat)) (hM : ∀ a, M a) (hc : X.calm = true) (hN : X.N.Nodup) (he : env[i]? = some (.o (.dic ks ds))) (hz : ks.length ≤ 100000) (hf : D.flats out = true)
    (h : Cp (Bk X scope) H0 M tg ifs elt (own.map (·.2)) (wipeE (env.set i (.d (.dic ks ds))) (own.map (·.2))) (ks.map D.int) out)
    (hn : X.N[i]? = some n := by rfl) (hv : Vis X.env.scope n := by first | exact Or.inl rfl | exact Or.inr (Or.inl rfl) | exact Or.inr (Or.inr rfl)) (hd : (n == ("__debug__" : Str)) = false := by decide) (hcd : (n == ("__classdict__" : Str)) = false := by decide)
    (ok : blkC X.N X.env.scope scope own = true := by kernel_rfl) (hs : ∀ x, foldedSetIterable (.Name n p1) X.env x = pure x := by intro _; rfl) : EX X H0 M (.ListComp elt [⟨tg, .Name n p1, ifs, 0⟩] scope pos) env (.new (.lst out)) :=
  pe_weak (pe_lock (pe_lc (own := own) hc hN (pi_keys (pe_var (i := i) hn hv hd hcd)) (blkOk_by ok) (fun s H C cl fp => pg_any (ι := Ev × D × Ev × List Nat) (c := fun p => ∀ Y, Bk X scope Y → AG Y H0 M tg p.1 p.2.1 p.2.2.1 p.2.2.2) (t := fun p => tAG X.K H0 M p.1 p.2.1 p.2.2.1 p.2.2.2) fun _ z => z _ ⟨s, H, C, cl, fp, rfl⟩)
    (fun s H C cl fp => pts_any (ι := Ev × Bool) (c := fun p => ∀ Y, Bk X scope Y → ETs Y H0 M ifs p.1 p.2) (t := fun p => tET X.K H0 M p.1 p.2) fun _ z => z _ ⟨s, H, C, cl, fp, rfl⟩)
    (fun s H C cl fp => pe_any (ι := Ev × Res) (c := fun p => ∀ Y, Bk X scope Y → EX Y H0 M elt p.1 p.2) (t := fun p => tEX X.K H0 M p.1 p.2) fun _ z => z _ ⟨s, H, C, cl, fp, rfl⟩) hs)) fun σ H Q ⟨N, O, okk, k⟩ => by
    obtain ⟨p, h1, h2, kvs, h3, hk, h4⟩ := okk.o i _ he
    obtain ⟨w1, w2, w3⟩ := okk.own i p h1
    refine ⟨p, .dK kvs, h3, trivial, fun od => ?_⟩
    have okf := okk.freeze (od := od) hM he h1 h2 h3 hk h4
    have key := lc_read (K := X.K) (Q := fun v H' => H' p = some (.frz od (.dK kvs)) ∧ Q v (L2.upd H' p (.dK kvs))) (ds := ks.map D.int) (by rw [List.length_map]; exact hz) h ⟨_, _, okf, fun v H' e1 r1 => ?_⟩
    · obtain ⟨N2, O2, ok2, k2⟩ := key
      refine ⟨.ref p, h2, p, od, rfl, .inl ⟨kvs, upd_same, k2 _ _ (Same.refl _) ?_⟩⟩
      have hl : kvs.length = ks.length := by
        have := congrArg List.length hk
        simpa using this
      refine ⟨fun H => H p = some (.frz od (.dK kvs)), _, by rw [List.length_map, ← hl]; exact walk_keys (d := p) (o := od) (kvs := kvs), fun N' H2 f => (f _ _ upd_same).2 rfl, fun j H2 z H3 N' d f hd' y => ?_⟩
      obtain ⟨rfl, kk, vv, g1, rfl⟩ := y
      refine ⟨Same.refl _, ?_⟩
      have g2 : (kvs.map (·.1))[j]? = some kk := by rw [List.getElem?_map, g1]; rfl
      rw [hk, List.getElem?_map] at g2
      rw [List.getElem?_map] at hd'
      cases hx : ks[j]? with
      | none => rw [hx] at hd'; cases hd'
      | some z =>
        rw [hx] at hd' g2
        cases hd'
        cases g2
        exact .int z
    · have fz := e1 _ _ (upd_same (H := H) (a := p) (o := .frz od (.dK kvs)))
      refine ⟨fz, ?_⟩
      obtain ⟨q, rfl, g1, g2, vs, g3, g4⟩ := r1
      have ne : q ≠ p := fun z => by rw [z, upd_same] at g1; cases g1
      rw [upd_ne ne] at g1
      refine k _ _ (fun b u hb => ?_) ⟨q, rfl, g1, okk.nf q g1, vs, by rw [upd_ne ne]; exact g3, RA.thaw fz g4 hf⟩
      by_cases z : b = p
      · subst z
        rw [upd_same, ← hb, h3]
      · rw [upd_ne z]
        exact e1 b u (by rw [upd_ne z]; exact hb)
end
end Zb
/-! The data layer, 11: defs that hand back a list or dict of the caller's own. -/
namespace Zb
open PySem PySem.Spec PyProof.Rows L2 RZ
theorem OwnR.flat {K : PySem.W.Frag} {H : Hp} {N N' : Addr → Prop} {p : Addr} {d : D} (h : OwnR K H N p d) (f : match d with | .lst es => D.flats es = true | .dic _ es => D.flats es = true | _ => True) : OwnR K H N' p d := by
  cases d with
  | lst es =>
    obtain ⟨vs, g1, g2⟩ := h
    exact ⟨vs, g1, g2.flat f⟩
  | dic ks es =>
    obtain ⟨vs, g1, g2, g3⟩ := h
    exact ⟨vs, g1, g2, g3.flat f⟩
  | _ => exact h.elim
def spO (K : PySem.W.Frag) (F : List D → D → Prop) : Sp := fun vs H Q _ => ∃ ds d, F ds d ∧ RA K H (fun _ => True) vs ds ∧ ∀ p H', Same H H' → H p = none → OwnR K H' (fun _ => False) p d → Q (.ref p) H'
structure CtO (P : Program) (w : World) (K : PySem.W.Frag) (mg : Str → Option Value) (base : Heap) (k : Nat) (n : Str) (ps : List Str) (F : List D → D → Prop) : Prop where
  ex : ∃ f fd, FnOk P w K mg base CX0 k f fd ps (spO K F) ∧ mg n = some (.ref f) ∧ PySem.W.keepIn K (.ref f) = true ∧ BindsA K f fd ps
section
variable {P : Program} {w : World} {K : PySem.W.Frag} {mg : Str → Option Value} {base : Heap} {n : Str} {st : Stmt} {f : Addr} {fd : FuncData} {N ps : List Str} {k : Nat} {F : List D → D → Prop}
def flatIn : D → Prop
  | .lst es => D.flats es = true
  | .dic _ es => D.flats es = true
  | _ => True
theorem ct_own (Fn : Fun K n n st f fd) (S : FnScope N ps (defScope st)) (hb : Binds K fd ps []) (hm : mg n = some (.ref f)) (hlen : ∀ ds d, F ds d → ds.length = ps.length) (hN : ps.length ≤ N.length)
    (body : ∀ (cdv : Value) (A : Around) (outer : List Env) (s : Shared) (H : Hp) (E : XK), Room k (A.deeper (envOfC n (defScope st) s.heap.objs.size f cdv)) → ∀ ds d, F ds d → flatIn d ∧ XS (cx0 P w K mg base N n st f cdv A outer s H E) H (fun _ => True) (defBody st) (envOf N ds) (.rt true d)) : CtO P w K mg base (k + 1) n ps F := by
  refine ⟨f, fd, Fn.ok S (fun vs H Q E h => ?_) (fun cdv A outer s H vs Q E hr h => ?_), hm, Fn.kp, hb, fun_at Fn⟩
  · obtain ⟨ds, d, h1, h2, _⟩ := h
    rw [h2.length]
    exact hlen ds d h1
  · obtain ⟨ds, d, h1, h2, q⟩ := h
    have ok := ok_start (M := fun _ => True) (N := N) (fun _ _ => trivial) h2 (by rw [hlen ds d h1]; exact hN)
    obtain ⟨hf, hx⟩ := body cdv A outer s H E hr ds d h1
    refine ⟨_, hx, _, _, ok, fun v H' e r => ?_⟩
    obtain ⟨p, rfl, g1, g2⟩ := (show ∃ p, v = .ref p ∧ H p = none ∧ OwnR K H' (fun _ => True) p d from r)
    refine q p H' e g1 (g2.flat ?_)
    cases d <;> first | exact hf | trivial
end
section
variable {X : Cx} {H0 : Hp} {M : Addr → Prop} {env : Ev} {e c elt : Expr} {es : List Expr} {pos : Pos}
/-- [elt for m in own if c], own an own dict -/
theorem ex_lcKF {scope : Scope} {α : Type} {xs : List α} (enc : α → D) {ds : List D} {n m : Str} {p1 tp : Pos} {ks : List Int} (f : α → D) (p : α → Bool) (i j : Nat) (hM : ∀ a, M a) (hc : X.calm = true) (hN : X.N.Nodup) (he : env[i]? = some (.o (.dic ks ds))) (hz : ks.length ≤ 100000) (hks : ks.map D.int = xs.map enc) (hf : D.flats ((xs.filter p).map f) = true)
    (ht : ∀ x ∈ xs, ∀ s H C cl fp, ET (blkX X scope s H C cl fp) H0 M c ((env.set i (.d (.dic ks ds))).set j (.d (enc x))) (p x))
    (hv : ∀ x ∈ xs, p x = true → ∀ s H C cl fp, EX (blkX X scope s H C cl fp) H0 M elt ((env.set i (.d (.dic ks ds))).set j (.d (enc x))) (.d (f x)))
    (hn : X.N[i]? = some n := by rfl) (hvv : Vis X.env.scope n := by first | exact Or.inl rfl | exact Or.inr (Or.inl rfl) | exact Or.inr (Or.inr rfl)) (hd : (n == ("__debug__" : Str)) = false := by decide) (hcd : (n == ("__classdict__" : Str)) = false := by decide)
    (hi : X.N[j]? = some m := by rfl) (hx : Loc (relabel scope X.env) m := by first | exact Or.inl rfl | exact Or.inr rfl) (hfn : (relabel scope X.env).names.lookup m = some .local := by rfl)
    (ok : blkC X.N X.env.scope scope [(m, j)] = true := by kernel_rfl) (hs : ∀ x, foldedSetIterable (.Name n p1) X.env x = pure x := by intro _; rfl) : EX X H0 M (.ListComp elt [⟨.Name m tp, .Name n p1, [c], 0⟩] scope pos) env (.new (.lst ((xs.filter p).map f))) :=
  ex_lcK i [(m, j)] hM hc hN he hz hf (by rw [hks]; exact cp_F p j hN ht hv hi hx hfn) hn hvv hd hcd ok hs
theorem OwnR.none {K : PySem.W.Frag} {H : Hp} {N' : Addr → Prop} {p : Addr} {d : D} (h : OwnR K H (fun _ => False) p d) : OwnR K H N' p d := h.mono (Same.refl _) fun _ z => z.elim
theorem ex_callO {k : Nat} {n : Str} {ps : List Str} {F : List D → D → Prop} {rs : List Res} {d : D} {p : Pos} (C : CtO X.prog X.w X.K X.mg X.base k n ps F) (hr : Room k X.A) (ha : EA X H0 M (e :: es) env rs) (h : F (rs.map Res.v) d) (hg : Gl X n := by rfl) (hdb : (n == ("__debug__" : Str)) = false := by decide)
    (he : starEach (e :: es) X.env = (false, eval e X.env) :: starEach es X.env := by rfl) (hpl : (backTo pos (starEach es X.env)).any (·.1) = false := by rfl) : EX X H0 M (.Call (.Name n p) (e :: es) [] pos) env (.new d) := by
  obtain ⟨f, fd, h1, h2, h3, h4⟩ := C.ex
  exact pe_weak (pe_call h1 hr hg h2 h3 h4.1 .nil pass0 ha hdb he hpl) fun σ H Q ⟨N, O, ok, q⟩ => ⟨N, O, ok, fun vs H1 e1 r1 => ⟨_, d, h, by rw [List.append_nil]; exact rrs_any r1, fun a H2 e2 hn r2 => q _ H2 (e1.trans e2) ⟨a, rfl, e1.free hn, ok.nf a (e1.free hn), r2.none⟩⟩⟩
/-! ### two names walked -/
theorem wipe2 {env : Ev} {i j : Nat} (hij : i ≠ j) (x y : Sl) : ((wipeE env [i, j]).set i x).set j y = (env.set i x).set j y := by
  show ((((env.set j .no).set i .no).set i x).set j y) = _
  rw [List.set_set, List.set_comm _ _ (Ne.symm hij), List.set_set]
theorem ag_two {n m : Str} {d1 d2 : D} {p1 p2 tp : Pos} {kk : Nat} {X : Cx} {H0 : Hp} {M : Addr → Prop} {env : Ev} (i j : Nat) (hc : X.calm = true) (hN : X.N.Nodup) (hi : X.N[i]? = some n) (hj : X.N[j]? = some m) (hx : Loc X.env.scope n) (hy : Loc X.env.scope m) (hf : X.env.scope.names.lookup n = some .local) (hg : X.env.scope.names.lookup m = some .local) :
    AG X H0 M (.Tuple [.Name n p1, .Name m p2] kk tp) env (.tup [d1, d2]) ((env.set i (.d d1)).set j (.d d2)) [i, j] :=
  ag_tup hc (ags_cons (ag_name i hN hi hx (.inr hf)) (ags_cons (ag_name j hN hj hy (.inr hg)) ags_nil))
theorem cp_T2 {scope : Scope} {α : Type} {xs : List α} {d1 d2 f : α → D} {n m : Str} {tp p1 p2 : Pos} {kk : Nat} (i j : Nat) (hij : i ≠ j) (hc : X.calm = true) (hN : X.N.Nodup) (he : ∀ x ∈ xs, ∀ s H C cl fp, EX (blkX X scope s H C cl fp) H0 M elt ((env.set i (.d (d1 x))).set j (.d (d2 x))) (.d (f x)))
    (hi : X.N[i]? = some n) (hj : X.N[j]? = some m) (hx : Loc (relabel scope X.env) n) (hy : Loc (relabel scope X.env) m) (hf : (relabel scope X.env).names.lookup n = some .local) (hg : (relabel scope X.env).names.lookup m = some .local) :
    Cp (Bk X scope) H0 M (.Tuple [.Name n p1, .Name m p2] kk tp) [] elt [i, j] (wipeE env [i, j]) (xs.map fun x => .tup [d1 x, d2 x]) (xs.map f) :=
  cp_all (fun z => (env.set i (.d (d1 z))).set j (.d (d2 z))) [i, j] (fun _ h => h) (fun z hz Y ⟨s', H', C, cl, fp, hY⟩ => by
    subst hY
    have := ag_two (X := blkX X scope s' H' C cl fp) (H0 := H0) (M := M) (env := wipeE env [i, j]) (d1 := d1 z) (d2 := d2 z) (p1 := p1) (p2 := p2) (tp := tp) (kk := kk) i j hc hN hi hj hx hy hf hg
    rw [wipe2 hij] at this
    exact this) (fun z hz Y ⟨s', H', C, cl, fp, hY⟩ => by subst hY; exact he z hz s' H' C cl fp)
theorem cp_T2F {scope : Scope} {α : Type} {xs : List α} {d1 d2 f : α → D} {n m : Str} {tp p1 p2 : Pos} {kk : Nat} (p : α → Bool) (i j : Nat) (hij : i ≠ j) (hc : X.calm = true) (hN : X.N.Nodup) (ht : ∀ x ∈ xs, ∀ s H C cl fp, ET (blkX X scope s H C cl fp) H0 M c ((env.set i (.d (d1 x))).set j (.d (d2 x))) (p x))
    (he : ∀ x ∈ xs, p x = true → ∀ s H C cl fp, EX (blkX X scope s H C cl fp) H0 M elt ((env.set i (.d (d1 x))).set j (.d (d2 x))) (.d (f x)))
    (hi : X.N[i]? = some n) (hj : X.N[j]? = some m) (hx : Loc (relabel scope X.env) n) (hy : Loc (relabel scope X.env) m) (hf : (relabel scope X.env).names.lookup n = some .local) (hg : (relabel scope X.env).names.lookup m = some .local) :
    Cp (Bk X scope) H0 M (.Tuple [.Name n p1, .Name m p2] kk tp) [c] elt [i, j] (wipeE env [i, j]) (xs.map fun x => .tup [d1 x, d2 x]) ((xs.filter p).map f) :=
  cp_filt p (fun z => (env.set i (.d (d1 z))).set j (.d (d2 z))) [i, j] (fun _ h => h) (fun z hz Y ⟨s', H', C, cl, fp, hY⟩ => by
    subst hY
    have := ag_two (X := blkX X scope s' H' C cl fp) (H0 := H0) (M := M) (env := wipeE env [i, j]) (d1 := d1 z) (d2 := d2 z) (p1 := p1) (p2 := p2) (tp := tp) (kk := kk) i j hc hN hi hj hx hy hf hg
    rw [wipe2 hij] at this
    exact this) (fun z hz Y ⟨s', H', C, cl, fp, hY⟩ => by subst hY; exact ht z hz s' H' C cl fp) (fun z hz hp Y ⟨s', H', C, cl, fp, hY⟩ => by subst hY; exact he z hz hp s' H' C cl fp)
/-- [elt for n, m in iter] -/
theorem ex_lcT2 {scope : Scope} {α : Type} {xs : List α} (d1 d2 f : α → D) {iter : Expr} {n m : Str} {tp p1 p2 : Pos} {kk : Nat} (i j : Nat) (hc : X.calm = true) (hN : X.N.Nodup) (hit : IT X H0 M (.Tuple [.Name n p1, .Name m p2] kk tp) iter env (xs.map fun x => .tup [d1 x, d2 x])) (hz : xs.length ≤ 100000)
    (he : ∀ x ∈ xs, ∀ s H C cl fp, EX (blkX X scope s H C cl fp) H0 M elt ((env.set i (.d (d1 x))).set j (.d (d2 x))) (.d (f x))) (hij : i ≠ j := by decide)
    (hi : X.N[i]? = some n := by rfl) (hj : X.N[j]? = some m := by rfl) (hx : Loc (relabel scope X.env) n := by first | exact Or.inl rfl | exact Or.inr rfl) (hy : Loc (relabel scope X.env) m := by first | exact Or.inl rfl | exact Or.inr rfl) (hf : (relabel scope X.env).names.lookup n = some .local := by rfl) (hg : (relabel scope X.env).names.lookup m = some .local := by rfl)
    (ok : blkC X.N X.env.scope scope [(n, i), (m, j)] = true := by kernel_rfl) (hs : ∀ x, foldedSetIterable iter X.env x = pure x := by intro _; rfl) : EX X H0 M (.ListComp elt [⟨.Tuple [.Name n p1, .Name m p2] kk tp, iter, [], 0⟩] scope pos) env (.new (.lst (xs.map f))) :=
  ex_lc [(n, i), (m, j)] hc hN hit (by rw [List.length_map]; exact hz) (cp_T2 i j hij hc hN he hi hj hx hy hf hg) ok hs
theorem ex_lcT2F {scope : Scope} {α : Type} {xs : List α} (d1 d2 f : α → D) {iter : Expr} {n m : Str} {tp p1 p2 : Pos} {kk : Nat} (p : α → Bool) (i j : Nat) (hc : X.calm = true) (hN : X.N.Nodup) (hit : IT X H0 M (.Tuple [.Name n p1, .Name m p2] kk tp) iter env (xs.map fun x => .tup [d1 x, d2 x])) (hz : xs.length ≤ 100000)
    (ht : ∀ x ∈ xs, ∀ s H C cl fp, ET (blkX X scope s H C cl fp) H0 M c ((env.set i (.d (d1 x))).set j (.d (d2 x))) (p x))
    (he : ∀ x ∈ xs, p x = true → ∀ s H C cl fp, EX (blkX X scope s H C cl fp) H0 M elt ((env.set i (.d (d1 x))).set j (.d (d2 x))) (.d (f x))) (hij : i ≠ j := by decide)
    (hi : X.N[i]? = some n := by rfl) (hj : X.N[j]? = some m := by rfl) (hx : Loc (relabel scope X.env) n := by first | exact Or.inl rfl | exact Or.inr rfl) (hy : Loc (relabel scope X.env) m := by first | exact Or.inl rfl | exact Or.inr rfl) (hf : (relabel scope X.env).names.lookup n = some .local := by rfl) (hg : (relabel scope X.env).names.lookup m = some .local := by rfl)
    (ok : blkC X.N X.env.scope scope [(n, i), (m, j)] = true := by kernel_rfl) (hs : ∀ x, foldedSetIterable iter X.env x = pure x := by intro _; rfl) : EX X H0 M (.ListComp elt [⟨.Tuple [.Name n p1, .Name m p2] kk tp, iter, [c], 0⟩] scope pos) env (.new (.lst ((xs.filter p).map f))) :=
  ex_lc [(n, i), (m, j)] hc hN hit (by rw [List.length_map]; exact hz) (cp_T2F p i j hij hc hN ht he hi hj hx hy hf hg) ok hs
end
end Zb
/-! The data layer, 12: what is raised. -/
namespace Zb
open PySem PySem.Spec PyProof.Rows L2 RZ
/-- an own error class without own parts -/
structure Cn (K : PySem.W.Frag) (mg : Str → Option Value) (n : Str) (C : Addr) : Prop where
  gC : mg n = some (.ref C)
  q : ∃ bmB B newId initId, ExcBaseFacts B newId initId bmB ∧ PySem.W.excIn K C bmB newId = true
  kC : PySem.W.keepIn K (.ref C) = true
  exC : PySem.W.subIn K (.ref C) (.type "BaseException") = some true
  tyC : PySem.W.typeIn K (.ref C) = some (.type "type")
section
variable {X : Cx} {H0 : Hp} {M : Addr → Prop} {env env1 env2 : Ev} {out out' : Out} {r ra rb rc : Res} {a b c e tg iter elt : Expr} {es ifs : List Expr} {pos : Pos} {st : Stmt} {body sts els : List Stmt} {x y : Bool} {ds : List D} {Ex : Hp → Prop}
/-- X() -/
theorem pmk_own0 {n : Str} {C : Addr} {p : Pos} (T : Cn X.K X.mg n C) (hg : Gl X n := by rfl) (hdb : (n == ("__debug__" : Str)) = false := by decide) : PMk X (.Call (.Name n p) [] [] pos) (fun _ H Q => Q (.ref C) none H) := by
  intro pins s σ H Q I h
  obtain ⟨bmB, B, newId, initId, F, q⟩ := T.q
  refine wpAny_Call_Name_kw (ld_glob I hg T.gC ?_ hdb)
  refine PySem.W.callWith_K0 I.kIn T.kC ?_
  show wpAny _ _ (call (.ref C) []) _ _ _
  obtain ⟨bm, N, nm, qn, bs, hdct, sn, sub, ab, col, dd, k0, k1, k2, k3, k5, mN, hC, hN, hni, Tl⟩ := exc_obj I.kIn q
  obtain ⟨hp, g, d, tk, os⟩ := s
  exact wpAny_call_exc_subT F Tl hC hN hni (fun h' e hm => mk_of I hm (raises_own T.exC T.tyC) h (I.hok.gone hm.new)) (Nat.zero_le _)
/-- what the statements raise -/
def tXR (K : PySem.W.Frag) (H0 : Hp) (M : Addr → Prop) (env : Ev) (Ex : Hp → Prop) : TS := fun E σ H => ∃ N O, Ok K H0 M N σ H env O ∧ ∀ H', Same H0 H' → Ex H'
abbrev XR (X : Cx) (H0 : Hp) (M : Addr → Prop) (st : List Stmt) (env : Ev) (Ex : Hp → Prop) : Prop := PSs X st (tXR X.K H0 M env Ex)
def tER (K : PySem.W.Frag) (H0 : Hp) (M : Addr → Prop) (env : Ev) (Ex : Hp → Prop) : TE := fun σ H Q => ∃ N O, Ok K H0 M N σ H env O ∧ ∀ H', Same H0 H' → Ex H'
abbrev ER (X : Cx) (H0 : Hp) (M : Addr → Prop) (e : Expr) (env : Ev) (Ex : Hp → Prop) : Prop := PE X e (tER X.K H0 M env Ex)
theorem xr_cons (h1 : X1 X H0 M st env (.nx env1)) (h2 : XR X H0 M sts env1 Ex) : XR X H0 M (st :: sts) env Ex :=
  pss_weak (pss_cons h1 h2) fun E σ H ⟨N, O, ok, q⟩ => ⟨N, O, ok, fun σ' H' N' O' ok' _ => ⟨N', O', ok', q⟩⟩
theorem xr_one {t : TS} (h : PS X st t) (w : ∀ D σ H, tXR X.K H0 M env Ex D σ H → ∀ D', t D' σ H) : XR X H0 M (st :: sts) env Ex :=
  pss_weak (pss_cons h pss_never) fun E σ H q => w E σ H q _
theorem xr_ifT (hc : ET X H0 M c env true) (h : XR X H0 M body env Ex) : XR X H0 M (.If c body els pos :: sts) env Ex :=
  xr_one (ps_if hc h pss_never) fun D σ H ⟨N, O, ok, q⟩ D' => ⟨N, O, ok, fun H1 e => iteT ⟨N, O, ok.mono e, q⟩⟩
theorem xr_raise {n : Str} {C : Addr} {p p2 : Pos} {E : XK} (hc : X.calm = true) (tk : Takes X (fun cls d _ H => E cls d H)) (T : Cn X.K X.mg n C) (hE : ∀ H', Ex H' → E (.ref C) none H') (hg : Gl X n := by rfl) (hdb : (n == ("__debug__" : Str)) = false := by decide) :
    XR X H0 M (.Raise (some (.Call (.Name n p) [] [] p2)) none pos :: sts) env Ex :=
  xr_one (ps_raise hc tk (pmk_own0 T hg hdb)) fun D σ H ⟨N, O, ok, q⟩ D' => hE H (q H ok.ext)
theorem xr_ret (h : ER X H0 M e env Ex) : XR X H0 M (.Return (some e) pos :: sts) env Ex := xr_one (ps_ret h) fun D σ H q D' => q
theorem er_item {j : Int} (h : ER X H0 M a env Ex) (hb : EX X H0 M b env (.d (.int j))) (hs : PlainIx b := by first | exact fun _ _ => rfl) : ER X H0 M (.Subscript a b pos) env Ex := pe_weak (pe_ix (r := fun _ _ _ _ => False) (fun _ _ _ _ _ _ _ _ _ _ _ _ _ _ z => z.elim) h hb hs) fun σ H Q q => q
theorem xr_asg (h : ER X H0 M e env Ex) {t : TG} (hg : PG X tg t) (hs : swapsWithSole [tg] e pos.line X.env = pure false := by rfl) (hw : swappedStores [tg] e X.env = pure none := by rfl) (h1 : (assignEach [tg] X.env).map (·.2) = [assign tg X.env] := by rfl) : XR X H0 M (.Assign [tg] e pos :: sts) env Ex :=
  xr_one (ps_asg h hg hs hw h1) fun D σ H q D' => q
end
/-- a def that hands back F's data, or raises where Fx says so -/
def spX (K : PySem.W.Frag) (C : Addr) (F : List D → D → Prop) (Fx : List D → Prop) : Sp := fun vs H Q E => ∃ ds, RA K H (fun _ => True) vs ds ∧ ((∃ d, F ds d ∧ ∀ v H', Same H H' → R K H' (fun a => H a = none) v d → Q v H') ∨ (Fx ds ∧ ∀ H', Same H H' → E (.ref C) none H'))
structure CtX (P : Program) (w : World) (K : PySem.W.Frag) (mg : Str → Option Value) (base : Heap) (k : Nat) (n : Str) (ps : List Str) (C : Addr) (F : List D → D → Prop) (Fx : List D → Prop) : Prop where
  ex : ∃ f fd, FnOk P w K mg base (L2.CX P w) k f fd ps (spX K C F Fx) ∧ mg n = some (.ref f) ∧ PySem.W.keepIn K (.ref f) = true ∧ BindsA K f fd ps
abbrev cxX (P : Program) (w : World) (K : PySem.W.Frag) (mg : Str → Option Value) (base : Heap) (N : List Str) (x : Str) (st : Stmt) (f : Addr) (cdv : Value) (A : Around) (outer : List Env) (s : Shared) (H : Hp) (E : XK) : Cx := cxOf (L2.CX P w) P w K mg base N x (defScope st) f cdv A outer s H E
section
variable {P : Program} {w : World} {K : PySem.W.Frag} {mg : Str → Option Value} {base : Heap} {n : Str} {st : Stmt} {f : Addr} {fd : FuncData} {N ps : List Str} {k : Nat} {F : List D → D → Prop} {Fx : List D → Prop} {C : Addr}
theorem ct_x (Fn : Fun K n n st f fd) (S : FnScope N ps (defScope st)) (hb : Binds K fd ps []) (hm : mg n = some (.ref f)) (hlen : ∀ ds, (Fx ds ∨ ∃ d, F ds d) → ds.length = ps.length) (hN : ps.length ≤ N.length)
    (body : ∀ (cdv : Value) (A : Around) (outer : List Env) (s : Shared) (H : Hp) (E : XK), Room k (A.deeper (envOfC n (defScope st) s.heap.objs.size f cdv)) → ∀ ds d, F ds d → d.flat = true ∧ XS (cxX P w K mg base N n st f cdv A outer s H E) H (fun _ => True) (defBody st) (envOf N ds) (.rt false d))
    (bodyX : ∀ (cdv : Value) (A : Around) (outer : List Env) (s : Shared) (H : Hp) (E : XK), Room k (A.deeper (envOfC n (defScope st) s.heap.objs.size f cdv)) → ∀ ds, Fx ds → XR (cxX P w K mg base N n st f cdv A outer s H E) H (fun _ => True) (defBody st) (envOf N ds) (fun H' => E (.ref C) none H')) : CtX P w K mg base (k + 1) n ps C F Fx := by
  refine ⟨f, fd, Fn.okX S (fun vs H Q E h => ?_) (fun cdv A outer s H vs Q E hr h => ?_), hm, Fn.kp, hb, fun_at Fn⟩
  · obtain ⟨ds, h2, h⟩ := h
    rw [h2.length]
    exact hlen ds (h.elim (fun ⟨d, z, _⟩ => .inr ⟨d, z⟩) fun z => .inl z.1)
  · obtain ⟨ds, h2, h⟩ := h
    have hl := hlen ds (h.elim (fun ⟨d, z, _⟩ => .inr ⟨d, z⟩) fun z => .inl z.1)
    have ok := ok_start (M := fun _ => True) (N := N) (fun _ _ => trivial) h2 (by rw [hl]; exact hN)
    rcases h with ⟨d, hF, q⟩ | ⟨hFx, q⟩
    · obtain ⟨hf, hx⟩ := body cdv A outer s H E hr ds d hF
      exact ⟨_, hx, _, _, ok, fun v H' e r => q v H' e ((show R K H' (fun _ => True) v d from r).flat hf)⟩
    · exact ⟨_, bodyX cdv A outer s H E hr ds hFx, _, _, ok, q⟩
end
section
variable {X : Cx} {H0 : Hp} {M : Addr → Prop} {env : Ev} {e : Expr} {es : List Expr} {pos : Pos} {Ex : Hp → Prop}
theorem ex_callX {k : Nat} {n : Str} {ps : List Str} {C : Addr} {F : List D → D → Prop} {Fx : List D → Prop} {rs : List Res} {d : D} {p : Pos} {W : WX} (T : CtX X.prog X.w X.K X.mg X.base k n ps C F Fx) (tk : Takes X W) (hr : Room k X.A) (ha : EA X H0 M (e :: es) env rs) (h : F (rs.map Res.v) d) (hg : Gl X n := by rfl) (hdb : (n == ("__debug__" : Str)) = false := by decide)
    (he : starEach (e :: es) X.env = (false, eval e X.env) :: starEach es X.env := by rfl) (hpl : (backTo pos (starEach es X.env)).any (·.1) = false := by rfl) : EX X H0 M (.Call (.Name n p) (e :: es) [] pos) env (.d d) := by
  obtain ⟨f, fd, h1, h2, h3, h4⟩ := T.ex
  exact pe_weak (pe_callS h1 hr hg h2 h3 h4.1 (fun σ => passAt tk σ) ha hdb he hpl) fun σ H Q ⟨N, O, ok, q⟩ => ⟨N, O, ok, fun vs H1 e1 r1 => ⟨_, rrs_any r1, .inl ⟨d, h, fun v H2 e2 r2 => q v H2 (e1.trans e2) (rest_fresh (ok.mono e1) r2)⟩⟩⟩
theorem er_call {k : Nat} {n : Str} {ps : List Str} {C : Addr} {F : List D → D → Prop} {Fx : List D → Prop} {rs : List Res} {p : Pos} {W : WX} (T : CtX X.prog X.w X.K X.mg X.base k n ps C F Fx) (tk : Takes X W) (hr : Room k X.A) (ha : EA X H0 M (e :: es) env rs) (h : Fx (rs.map Res.v)) (hW : ∀ σ H', Ex H' → W (.ref C) none σ H') (hg : Gl X n := by rfl) (hdb : (n == ("__debug__" : Str)) = false := by decide)
    (he : starEach (e :: es) X.env = (false, eval e X.env) :: starEach es X.env := by rfl) (hpl : (backTo pos (starEach es X.env)).any (·.1) = false := by rfl) : ER X H0 M (.Call (.Name n p) (e :: es) [] pos) env Ex := by
  obtain ⟨f, fd, h1, h2, h3, h4⟩ := T.ex
  exact pe_weak (pe_callS h1 hr hg h2 h3 h4.1 (fun σ => passAt tk σ) ha hdb he hpl) fun σ H Q ⟨N, O, ok, q⟩ => ⟨N, O, ok, fun vs H1 e1 r1 => ⟨_, rrs_any r1, .inr ⟨h, fun H2 e2 => hW σ H2 (q H2 (ok.ext.trans (e1.trans e2)))⟩⟩⟩
end
end Zb
/-! The data layer, 13: an own list is given away, and is data from then on. -/
namespace Zb
open PySem PySem.Spec PyProof.Rows L2 RZ
section
variable {K : PySem.W.Frag} {H0 H H1 : Hp} {M N : Addr → Prop} {σ : L2.St} {env : Ev} {O : List (Option Addr)} {p : Addr}
theorem Ok.give {i : Nat} {x : D} (hM : ∀ a, H0 a = none → M a) (ok : Ok K H0 M N σ H env O) (he : env[i]? = some (.o x)) (hp : O[i]? = some (some p)) :
    Ok K H0 M (fun a => N a ∨ a = p) σ H (env.set i (.d x)) (O.set i none) := by
  obtain ⟨w1, w2, w3⟩ := ok.own i p hp
  have hl : i < env.length := (List.getElem?_eq_some_iff.mp he).1
  have up : ∀ a, N a → N a ∨ a = p := fun a z => .inl z
  exact {
    ext := ok.ext
    nm := fun a h => h.elim (ok.nm a) fun e => e ▸ hM p w2
    nf := fun a ha => .inl (ok.nf a ha)
    len := by rw [List.length_set]; exact ok.len
    olen := by rw [List.length_set]; exact ok.olen
    d := fun j y hj => by
      by_cases z : i = j
      · subst z
        rw [List.getElem?_set_self hl] at hj
        cases hj
        obtain ⟨q, g1, g2, g3⟩ := ok.o i x he
        rw [hp] at g1
        cases g1
        exact ⟨.ref p, g2, OwnR.r (.inr rfl) (g3.mono (Same.refl _) up)⟩
      · rw [List.getElem?_set_ne z] at hj
        obtain ⟨v, g1, g2⟩ := ok.d j y hj
        exact ⟨v, g1, g2.mono (Same.refl _) up⟩
    o := fun j y hj => by
      by_cases z : i = j
      · subst z
        rw [List.getElem?_set_self hl] at hj
        cases hj
      · rw [List.getElem?_set_ne z] at hj
        obtain ⟨q, g1, g2, g3⟩ := ok.o j y hj
        exact ⟨q, by rw [List.getElem?_set_ne z]; exact g1, g2, g3.mono (Same.refl _) up⟩
    own := fun j q hj => by
      obtain ⟨z, hj⟩ := set_none hj
      obtain ⟨g1, g2, g3⟩ := ok.own j q hj
      exact ⟨fun y => y.elim g1 fun e => z (ok.inj i j p hp (e ▸ hj)), g2, g3⟩
    inj := fun j k q hj hk => ok.inj j k q (set_none hj).2 (set_none hk).2 }
end
section
variable {X : Cx} {H0 : Hp} {M : Addr → Prop} {env : Ev} {e : Expr} {pos : Pos}
theorem x_give {n : Str} {p' : Pos} {x : D} (i j : Nat) (hM : ∀ a, H0 a = none → M a) (hN : X.N.Nodup) (he : env[i]? = some (.o x)) (h : EX X H0 M e env (.al i x)) (hi : X.N[j]? = some n := by rfl) (hx : Loc X.env.scope n := by first | exact Or.inl rfl | exact Or.inr rfl) (hs : swapsWith e (some (.Name n p')) pos.line X.env = pure false := by rfl)
    (hf : X.fn n = true ∨ X.env.scope.names.lookup n = some .local := by first | exact .inl rfl | exact .inr rfl) : X1 X H0 M (.Assign [.Name n p'] e pos) env (.nx ((env.set i (.d x)).set j (.d x))) :=
  ps_weak (ps_set (i := j) hN hi hx h hs hf) fun E σ H ⟨N, O, ok, q⟩ => ⟨N, O, ok, fun v H' e1 r1 => by
    obtain ⟨p, h1, rfl, h3⟩ := r1
    have g := (ok.mono e1).give hM he h1
    have r : R X.K H' (fun a => N a ∨ a = p) (.ref p) x := OwnR.r (.inr rfl) (h3.mono (Same.refl _) fun a z => .inl z)
    exact q _ H' _ _ (g.set_d r) fun b o hb => ⟨fun hn => ⟨e1 b o hb, .inl hn⟩, fun _ => e1 b o hb⟩⟩
end
end Zb
set_option maxHeartbeats 200000
/-! The mirror: what each def reckons, as plain functions of lists of numbers. No program in sight. -/
namespace Gr
abbrev G := List (Nat × Nat)
def gAt (gs : G) (k : Nat) : Nat × Nat := gs.getD k (0, 0)
def others (m : Nat) (lot : List Nat) : List Nat := (List.range m).filter fun k => !decide (k ∈ lot)
def met (gs : G) (lot : List Nat) : List Nat := lot.flatMap fun k => [(gAt gs k).1, (gAt gs k).2]
def unwanted (n : Nat) (gs : G) : List Nat := (List.range n).filter fun p => !decide (p ∈ gs.map (·.1))
def spare (n : Nat) (gs : G) (lot : List Nat) : List Nat := (unwanted n gs).filter fun p => !decide (p ∈ met gs lot)
def guestsIn (gs : G) (lot part : List Nat) : List Nat := lot.filter fun k => decide ((gAt gs k).1 ∈ part)
def isTree (gs : G) (oth part : List Nat) : Bool := decide ((guestsIn gs oth part).length + 1 = part.length)
/-- where guests lead from a place -/
def bes (gs : G) (lot : List Nat) (p : Nat) : List (Nat × Nat) := lot.filterMap fun k => if (gAt gs k).1 = p then some (k, (gAt gs k).2) else if (gAt gs k).2 = p then some (k, (gAt gs k).1) else none
def addFar (row : List Nat) (ps : List (Nat × Nat)) : List Nat := ps.foldl (fun row q => if q.2 ∈ row then row else row ++ [q.2]) row
def bfs (kn : Nat → List (Nat × Nat)) : Nat → List Nat → Nat → List Nat
  | 0, row, _ => row
  | f + 1, row, spot => match row[spot]? with
    | none => row
    | some p => bfs kn f (addFar row (kn p)) (spot + 1)
/-- the places of a list, ascending -/
def asc (n : Nat) (row : List Nat) : List Nat := (List.range n).filter fun p => decide (p ∈ row)
def partFrom (n : Nat) (kn : Nat → List (Nat × Nat)) (p : Nat) : List Nat := asc n (bfs kn (n + 1) [p] 0)
def addOne (l : List Nat) (p : Nat) : List Nat := if p ∈ l then l else l ++ [p]
def partsStep (n : Nat) (kn : Nat → List (Nat × Nat)) (st : List Nat × List (List Nat)) (p : Nat) : List Nat × List (List Nat) :=
  if p ∈ st.1 then st else ((partFrom n kn p).foldl addOne st.1, st.2 ++ [partFrom n kn p])
def parts (n : Nat) (gs : G) (lot : List Nat) : List (List Nat) := ((List.range n).foldl (partsStep n (bes gs lot)) ([], [])).2
/-- the stack of ways (the top first) and the places seen -/
def wayPush (barred : Nat) (row : List (Nat × Nat)) (here : Nat) (st : List (List (Nat × Nat) × Nat) × List Nat) (q : Nat × Nat) : List (List (Nat × Nat) × Nat) × List Nat :=
  if q.1 ≠ barred ∧ q.2 ∉ st.2 then ((row ++ [(q.1, here)], q.2) :: st.1, st.2 ++ [q.2]) else st
def wayGo (kn : Nat → List (Nat × Nat)) (goal barred : Nat) : Nat → List (List (Nat × Nat) × Nat) → List Nat → List (Nat × Nat)
  | 0, _, _ => []
  | _ + 1, [], _ => []
  | f + 1, (row, here) :: rest, seen => if here = goal then row else wayGo kn goal barred f ((kn here).foldl (wayPush barred row here) (rest, seen)).1 ((kn here).foldl (wayPush barred row here) (rest, seen)).2
def wayFrom (n : Nat) (kn : Nat → List (Nat × Nat)) (place goal barred : Nat) : List (Nat × Nat) := wayGo kn goal barred (n + 1) [([], place)] [place]
def roundAt (n : Nat) (gs : G) (ahead : List Nat) (guest : Nat) : Option (List (Nat × Nat)) :=
  if (gAt gs guest).2 ∈ partFrom n (bes gs ahead) (gAt gs guest).1 then some (wayFrom n (bes gs ahead) (gAt gs guest).1 (gAt gs guest).2 guest ++ [(guest, (gAt gs guest).2)]) else none
/-- done: the guests gone through; the rest -/
def roundGo (n : Nat) (gs : G) : List Nat → List Nat → Option (List (Nat × Nat))
  | _, [] => none
  | done, g :: rest => match roundAt n gs done g with
    | some w => some w
    | none => roundGo n gs (done ++ [g]) rest
def roundOf (n : Nat) (gs : G) (lot part : List Nat) : Option (List (Nat × Nat)) := roundGo n gs [] (guestsIn gs lot part)
def seatedRound (gs : G) (way : List (Nat × Nat)) : List Nat := match way with
  | [] => []
  | (f, p) :: t => if (gAt gs f).1 = p then f :: t.reverse.map (·.1) else f :: t.map (·.1)
def nextTo (gs : G) (guests known : List Nat) : List Nat := guests.filter fun k => decide ((gAt gs k).1 ∈ known) != decide ((gAt gs k).2 ∈ known)
def grownGo (gs : G) : Nat → List Nat → List Nat → List Nat
  | 0, _, _ => []
  | f + 1, known, left => match nextTo gs left known with
    | [] => []
    | g :: _ => g :: grownGo gs f (addOne (addOne known (gAt gs g).1) (gAt gs g).2) (left.filter fun k => !decide (k = g))
def grown (gs : G) (guests first : List Nat) : List Nat := grownGo gs (guests.length + 1) (first.foldl addOne []) guests
def keptIn (n : Nat) (gs : G) (oth part frees : List Nat) : List Nat :=
  if isTree gs oth part = true then grown gs (guestsIn gs oth part) (part.filter fun p => decide (p ∈ frees))
  else
    let way := (roundOf n gs oth part).getD []
    let found := seatedRound gs way
    found ++ grown gs ((guestsIn gs oth part).filter fun k => !decide (k ∈ found)) (way.map (·.2))
def orderBy (n : Nat) (gs : G) (lot frees : List Nat) : List Nat := (parts n gs (others gs.length lot)).flatMap (fun part => keptIn n gs (others gs.length lot) part frees) ++ lot
def treesOf (n : Nat) (gs : G) (oth : List Nat) : List (List Nat) := (parts n gs oth).filter fun part => isTree gs oth part
def freesOf (n : Nat) (gs : G) (lot : List Nat) : List Nat := (treesOf n gs (others gs.length lot)).map fun part => (part.filter fun p => decide (p ∈ spare n gs lot)).headD 0
def orderInLot (n : Nat) (gs : G) (lot : List Nat) : List Nat := orderBy n gs lot (freesOf n gs lot)
def bars (n : Nat) (gs : G) (lot part : List Nat) : Bool :=
  (isTree gs (others gs.length lot) part && part.any fun p => decide (p ∈ met gs lot)) && !(part.any fun p => decide (p ∈ spare n gs lot))
def barring (n : Nat) (gs : G) (lot : List Nat) : List (List Nat) := (parts n gs (others gs.length lot)).filter (bars n gs lot)
def isNever (n : Nat) (gs : G) (k : Nat) : Bool := !(barring n gs [k]).isEmpty
def neverWithout (n : Nat) (gs : G) : List Nat := (List.range gs.length).filter fun k => isNever n gs k
def rivals (n : Nat) (gs : G) (k : Nat) : List Nat := if isNever n gs k = true then [] else
  (List.range gs.length).filter fun j => (!decide (j = k) && !isNever n gs j) && !(barring n gs (asc gs.length [k, j])).isEmpty
def moreOf (n : Nat) (gs : G) (oth part : List Nat) : List Nat :=
  if part.length < (guestsIn gs oth part).length then (guestsIn gs oth part).filter fun k => !decide (k ∈ keptIn n gs oth part []) else []
def lotGrown (n : Nat) (gs : G) (lot : List Nat) : List Nat := asc gs.length (lot ++ (parts n gs (others gs.length lot)).flatMap fun part => moreOf n gs (others gs.length lot) part)
/-- where a guest sits -/
def seat (gs : G) (taken : List Nat) (k : Nat) : Option Nat := if (gAt gs k).1 ∉ taken then some (gAt gs k).1 else if (gAt gs k).2 ∈ taken then none else some (gAt gs k).2
def push (taken : List Nat) : Option Nat → List Nat
  | none => taken
  | some p => addOne taken p
/-- the places of the guests of a row, as they come -/
def seats (gs : G) : List Nat → List Nat → List (Nat × Option Nat)
  | _, [] => []
  | taken, k :: row => (k, seat gs taken k) :: seats gs (push taken (seat gs taken k)) row
def lacks (gs : G) (row : List Nat) : List Nat := ((seats gs [] row).filter fun q => q.2.isNone).map (·.1)
/-- the lot without -/
def without (gs : G) (row : List Nat) : List Nat := asc gs.length (lacks gs row)
def IsOrder (gs : G) (row : List Nat) : Prop := row.Perm (List.range gs.length)
/-- a web -/
structure Web (n : Nat) (gs : G) : Prop where
  pos : 1 ≤ n
  few : n ≤ 7
  fewG : gs.length ≤ 7
  ok : ∀ g ∈ gs, g.1 < n ∧ g.2 < n ∧ g.1 ≠ g.2
/-- a lot -/
structure Lot (gs : G) (lot : List Nat) : Prop where
  asc : lot.Pairwise (· < ·)
  ok : ∀ k ∈ lot, k < gs.length
end Gr
/-! Plain mathematics, 1: what is joined, parts. No program in sight. -/
namespace Gq
open Gr
/-- p and q are the ends of a guest -/
def End (gs : G) (k p q : Nat) : Prop := ((gAt gs k).1 = p ∧ (gAt gs k).2 = q) ∨ ((gAt gs k).2 = p ∧ (gAt gs k).1 = q)
def Adj (gs : G) (lot : List Nat) (p q : Nat) : Prop := ∃ k ∈ lot, End gs k p q
theorem End.symm {gs : G} {k p q : Nat} (h : End gs k p q) : End gs k q p := h.elim (fun z => .inr ⟨z.2, z.1⟩) fun z => .inl ⟨z.2, z.1⟩
theorem end_self (gs : G) (k : Nat) : End gs k (gAt gs k).1 (gAt gs k).2 := .inl ⟨rfl, rfl⟩
inductive Con (gs : G) (lot : List Nat) (p : Nat) : Nat → Prop
  | refl : Con gs lot p p
  | step {q r : Nat} : Con gs lot p q → Adj gs lot q r → Con gs lot p r
theorem Con.trans {gs : G} {lot : List Nat} {p q r : Nat} (h : Con gs lot p q) (k : Con gs lot q r) : Con gs lot p r := by
  induction k with
  | refl => exact h
  | step _ a ih => exact ih.step a
theorem Con.one {gs : G} {lot : List Nat} {p q : Nat} (h : Adj gs lot p q) : Con gs lot p q := .step .refl h
theorem Adj.symm {gs : G} {lot : List Nat} {p q : Nat} (h : Adj gs lot p q) : Adj gs lot q p := h.elim fun k z => ⟨k, z.1, z.2.symm⟩
theorem Con.symm {gs : G} {lot : List Nat} {p q : Nat} (h : Con gs lot p q) : Con gs lot q p := by
  induction h with
  | refl => exact .refl
  | step _ a ih => exact (Con.one a.symm).trans ih
theorem Con.mono {gs : G} {lot lot' : List Nat} (s : ∀ k ∈ lot, k ∈ lot') {p q : Nat} (h : Con gs lot p q) : Con gs lot' p q := by
  induction h with
  | refl => exact .refl
  | step _ a ih => exact ih.step (a.elim fun k z => ⟨k, s k z.1, z.2⟩)
/-- what is closed holds what is joined to it -/
theorem Con.closed {gs : G} {lot : List Nat} {S : Nat → Prop} (c : ∀ k ∈ lot, S (gAt gs k).1 ↔ S (gAt gs k).2) {p q : Nat} (h : Con gs lot p q) (hp : S p) : S q := by
  induction h with
  | refl => exact hp
  | step _ a ih =>
    obtain ⟨k, hk, ⟨e1, e2⟩ | ⟨e1, e2⟩⟩ := a
    · rw [← e2]
      exact (c k hk).mp (e1 ▸ ih)
    · rw [← e2]
      exact (c k hk).mpr (e1 ▸ ih)
theorem mem_bes {gs : G} {lot : List Nat} {p : Nat} {z : Nat × Nat} (h : z ∈ bes gs lot p) : z.1 ∈ lot ∧ End gs z.1 p z.2 := by
  unfold bes at h
  obtain ⟨k, hk, e⟩ := List.mem_filterMap.mp h
  split at e
  · rename_i h1
    cases e
    exact ⟨hk, .inl ⟨h1, rfl⟩⟩
  · split at e
    · rename_i h2
      cases e
      exact ⟨hk, .inr ⟨h2, rfl⟩⟩
    · cases e
theorem bes_mem {gs : G} {lot : List Nat} {p q k : Nat} (hk : k ∈ lot) (h : End gs k p q) : (k, q) ∈ bes gs lot p := by
  unfold bes
  refine List.mem_filterMap.mpr ⟨k, hk, ?_⟩
  by_cases e : (gAt gs k).1 = p
  · rw [if_pos e]
    rcases h with h | h
    · rw [h.2]
    · have : (gAt gs k).2 = q := by rw [h.1, ← e, h.2]
      rw [this]
  · rw [if_neg e]
    rcases h with h | h
    · exact absurd h.1 e
    · rw [if_pos h.1, h.2]
/-! ### lists -/
theorem nodup_sub {l m : List Nat} (hn : l.Nodup) (h : ∀ x ∈ l, x ∈ m) : l.length ≤ m.length := List.Nodup.length_le_of_subset hn h
theorem nodup_le {n : Nat} {l : List Nat} (hn : l.Nodup) (hl : ∀ x ∈ l, x < n) : l.length ≤ n := by
  have := nodup_sub hn (m := List.range n) fun x hx => List.mem_range.mpr (hl x hx)
  rwa [List.length_range] at this
theorem nodup_full {l m : List Nat} (hn : l.Nodup) (h : ∀ x ∈ l, x ∈ m) (hl : m.length ≤ l.length) : ∀ x ∈ m, x ∈ l := by
  intro x hx
  refine Classical.byContradiction fun hc => ?_
  have := nodup_sub (List.nodup_cons.mpr ⟨hc, hn⟩) (m := m) fun y hy => (List.mem_cons.mp hy).elim (fun e => e ▸ hx) (h y)
  rw [List.length_cons] at this
  omega
theorem mem_addOne {l : List Nat} {p x : Nat} : x ∈ addOne l p ↔ x ∈ l ∨ x = p := by
  unfold addOne
  split
  · rename_i h
    exact ⟨.inl, fun z => z.elim id fun e => e ▸ h⟩
  · rw [List.mem_append, List.mem_singleton]
theorem nodup_addOne {l : List Nat} {p : Nat} (h : l.Nodup) : (addOne l p).Nodup := by
  unfold addOne
  split
  · exact h
  · rename_i e
    exact List.nodup_append.mpr ⟨h, by simp, fun a ha b hb => by
      rw [List.mem_singleton] at hb
      rintro rfl
      exact e (hb ▸ ha)⟩
theorem mem_addAll {x : Nat} : ∀ {q l : List Nat}, x ∈ q.foldl addOne l ↔ x ∈ l ∨ x ∈ q
  | [], l => by simp
  | p :: q, l => by
    rw [List.foldl_cons, mem_addAll, mem_addOne, List.mem_cons, or_assoc]
theorem nodup_addAll : ∀ {q l : List Nat}, l.Nodup → (q.foldl addOne l).Nodup
  | [], l, h => h
  | p :: q, l, h => nodup_addAll (q := q) (nodup_addOne h)
theorem mem_asc {n x : Nat} {l : List Nat} : x ∈ asc n l ↔ x < n ∧ x ∈ l := by
  unfold asc
  rw [List.mem_filter, List.mem_range, decide_eq_true_eq]
theorem sorted_range (n : Nat) : (List.range n).Pairwise (· < ·) := List.pairwise_lt_range
theorem asc_sorted (n : Nat) (l : List Nat) : (asc n l).Pairwise (· < ·) := (sorted_range n).filter _
theorem sorted_nodup {l : List Nat} (h : l.Pairwise (· < ·)) : l.Nodup := h.imp fun z => Nat.ne_of_lt z
theorem sorted_uniq : ∀ {l m : List Nat}, l.Pairwise (· < ·) → m.Pairwise (· < ·) → (∀ x, x ∈ l ↔ x ∈ m) → l = m
  | [], [], _, _, _ => rfl
  | [], b :: m, _, _, h => absurd ((h b).mpr (List.mem_cons_self ..)) (by simp)
  | a :: l, [], _, _, h => absurd ((h a).mp (List.mem_cons_self ..)) (by simp)
  | a :: l, b :: m, hl, hm, h => by
    rw [List.pairwise_cons] at hl hm
    have e : a = b := by
      rcases List.mem_cons.mp ((h a).mp (List.mem_cons_self ..)) with e | e
      · exact e
      · rcases List.mem_cons.mp ((h b).mpr (List.mem_cons_self ..)) with e' | e'
        · exact e'.symm
        · have h1 := hl.1 b e'
          have h2 := hm.1 a e
          omega
    subst e
    congr 1
    refine sorted_uniq hl.2 hm.2 fun x => ⟨fun hx => ?_, fun hx => ?_⟩
    · rcases List.mem_cons.mp ((h x).mp (List.mem_cons_of_mem _ hx)) with e | e
      · have := hl.1 x hx
        omega
      · exact e
    · rcases List.mem_cons.mp ((h x).mpr (List.mem_cons_of_mem _ hx)) with e | e
      · have := hm.1 x hx
        omega
      · exact e
/-! ### bfs -/
theorem mem_addFar {x : Nat} : ∀ {ps : List (Nat × Nat)} {row : List Nat}, x ∈ addFar row ps ↔ x ∈ row ∨ ∃ q ∈ ps, q.2 = x
  | [], row => by simp [addFar]
  | q :: ps, row => by
    have e : addFar row (q :: ps) = addFar (if q.2 ∈ row then row else row ++ [q.2]) ps := rfl
    rw [e, mem_addFar]
    have : (x ∈ if q.2 ∈ row then row else row ++ [q.2]) ↔ x ∈ row ∨ q.2 = x := by
      split
      · rename_i h
        exact ⟨.inl, fun z => z.elim id fun e => e ▸ h⟩
      · rw [List.mem_append, List.mem_singleton]
        exact ⟨fun z => z.elim .inl fun z => .inr z.symm, fun z => z.elim .inl fun z => .inr z.symm⟩
    rw [this]
    simp only [List.mem_cons, exists_eq_or_imp, or_assoc]
theorem nodup_addFar : ∀ {ps : List (Nat × Nat)} {row : List Nat}, row.Nodup → (addFar row ps).Nodup
  | [], row, h => h
  | q :: ps, row, h => by
    have e : addFar row (q :: ps) = addFar (addOne row q.2) ps := rfl
    rw [e]
    exact nodup_addFar (nodup_addOne h)
theorem addFar_pre : ∀ {ps : List (Nat × Nat)} {row : List Nat}, ∃ t, addFar row ps = row ++ t
  | [], row => ⟨[], by simp [addFar]⟩
  | q :: ps, row => by
    have e : addFar row (q :: ps) = addFar (if q.2 ∈ row then row else row ++ [q.2]) ps := rfl
    obtain ⟨t, ht⟩ := addFar_pre (ps := ps) (row := if q.2 ∈ row then row else row ++ [q.2])
    rw [e, ht]
    split
    · exact ⟨t, rfl⟩
    · exact ⟨q.2 :: t, by simp⟩
theorem bfs_ok {n : Nat} {kn : Nat → List (Nat × Nat)} (hkn : ∀ x, x < n → ∀ q ∈ kn x, q.2 < n) : ∀ (f : Nat) (row : List Nat) (spot : Nat), row.Nodup → (∀ x ∈ row, x < n) → spot ≤ row.length → n + 1 ≤ f + spot → (∀ i x, i < spot → row[i]? = some x → ∀ q ∈ kn x, q.2 ∈ row) →
    (∀ x ∈ row, x ∈ bfs kn f row spot) ∧ (∀ x ∈ bfs kn f row spot, ∀ q ∈ kn x, q.2 ∈ bfs kn f row spot) ∧ ∀ S : Nat → Prop, (∀ x ∈ row, S x) → (∀ x, S x → ∀ q ∈ kn x, S q.2) → ∀ x ∈ bfs kn f row spot, S x
  | 0, row, spot, nd, lt, sp, fu, cl => by
    have := nodup_le nd lt
    omega
  | f + 1, row, spot, nd, lt, sp, fu, cl => by
    unfold bfs
    cases h : row[spot]? with
    | none =>
      have hl := List.getElem?_eq_none_iff.mp h
      dsimp only
      refine ⟨fun x hx => hx, fun x hx q hq => ?_, fun S h1 _ x hx => h1 x hx⟩
      obtain ⟨i, hi, e⟩ := List.mem_iff_getElem.mp hx
      exact cl i x (by omega) (by rw [List.getElem?_eq_getElem hi, e]) q hq
    | some p =>
      have hp : p ∈ row := List.mem_of_getElem? h
      have hpn := lt p hp
      obtain ⟨hl, _⟩ := List.getElem?_eq_some_iff.mp h
      obtain ⟨t, ht⟩ := addFar_pre (ps := kn p) (row := row)
      have key := bfs_ok hkn f (addFar row (kn p)) (spot + 1) (nodup_addFar nd) (fun x hx => by
        rcases mem_addFar.mp hx with h | ⟨q, hq, rfl⟩
        · exact lt x h
        · exact hkn p hpn q hq) (by rw [ht, List.length_append]; omega) (by omega) (fun i x hi hx q hq => by
        by_cases e : i < spot
        · rw [ht, List.getElem?_append_left (by omega)] at hx
          exact mem_addFar.mpr (.inl (cl i x e hx q hq))
        · have : i = spot := by omega
          subst this
          rw [ht, List.getElem?_append_left hl, h] at hx
          cases hx
          exact mem_addFar.mpr (.inr ⟨q, hq, rfl⟩))
      obtain ⟨k1, k2, k3⟩ := key
      refine ⟨fun x hx => k1 x (mem_addFar.mpr (.inl hx)), k2, fun S h1 h2 x hx => k3 S (fun y hy => ?_) h2 x hx⟩
      rcases mem_addFar.mp hy with h | ⟨q, hq, rfl⟩
      · exact h1 y h
      · exact h2 p (h1 p hp) q hq
theorem gAt_ok {n : Nat} {gs : G} (hw : Web n gs) {k : Nat} (h : k < gs.length) : (gAt gs k).1 < n ∧ (gAt gs k).2 < n ∧ (gAt gs k).1 ≠ (gAt gs k).2 := by
  unfold gAt
  rw [List.getD_eq_getElem?_getD, List.getElem?_eq_getElem h]
  exact hw.ok _ (List.getElem_mem h)
theorem end_lt {n : Nat} {gs : G} (hw : Web n gs) {k p q : Nat} (h : k < gs.length) (e : End gs k p q) : p < n ∧ q < n ∧ p ≠ q := by
  obtain ⟨a, b, c⟩ := gAt_ok hw h
  rcases e with ⟨rfl, rfl⟩ | ⟨rfl, rfl⟩
  · exact ⟨a, b, c⟩
  · exact ⟨b, a, c.symm⟩
theorem con_lt {n : Nat} {gs : G} (hw : Web n gs) {lot : List Nat} (hl : ∀ k ∈ lot, k < gs.length) {p q : Nat} (h : Con gs lot p q) (hp : p < n) : q < n := by
  cases h with
  | refl => exact hp
  | step _ a =>
    obtain ⟨k, hk, e⟩ := a
    exact (end_lt hw (hl k hk) e).2.1
theorem mem_partFrom {n : Nat} {gs : G} (hw : Web n gs) {lot : List Nat} (hl : ∀ k ∈ lot, k < gs.length) {p : Nat} (hp : p < n) {x : Nat} : x ∈ partFrom n (bes gs lot) p ↔ Con gs lot p x := by
  unfold partFrom
  have kn : ∀ x, x < n → ∀ q ∈ bes gs lot x, q.2 < n := fun x _ q hq => (end_lt hw (hl _ (mem_bes hq).1) (mem_bes hq).2).2.1
  obtain ⟨k1, k2, k3⟩ := bfs_ok kn (n + 1) [p] 0 (by simp) (fun x hx => by rw [List.mem_singleton] at hx; omega) (Nat.zero_le _) (Nat.le_refl _) (fun i x hi _ => by omega)
  rw [mem_asc]
  constructor
  · rintro ⟨_, h⟩
    refine k3 (Con gs lot p) (fun y hy => ?_) (fun y hy q hq => hy.step ⟨q.1, (mem_bes hq).1, (mem_bes hq).2⟩) x h
    rw [List.mem_singleton] at hy
    subst hy
    exact .refl
  · intro h
    refine ⟨con_lt hw hl h hp, ?_⟩
    induction h with
    | refl => exact k1 p (List.mem_singleton.mpr rfl)
    | step _ a ih =>
      obtain ⟨k, hk, e⟩ := a
      exact k2 _ ih _ (bes_mem hk e)
theorem partFrom_nodup (n : Nat) (kn : Nat → List (Nat × Nat)) (p : Nat) : (partFrom n kn p).Nodup := sorted_nodup (asc_sorted _ _)
/-! ### parts -/
structure PartInv (n : Nat) (gs : G) (lot : List Nat) (done : Nat → Prop) (st : List Nat × List (List Nat)) : Prop where
  seen : ∀ x, x ∈ st.1 ↔ ∃ r ∈ st.2, x ∈ r
  is : ∀ r ∈ st.2, ∃ p, p < n ∧ r = partFrom n (bes gs lot) p
  dis : st.2.Pairwise fun a b => ∀ x ∈ a, x ∉ b
  all : ∀ p, done p → p ∈ st.1
theorem parts_inv {n : Nat} {gs : G} (hw : Web n gs) {lot : List Nat} (hl : ∀ k ∈ lot, k < gs.length) : ∀ (ps : List Nat) (done : Nat → Prop) (st : List Nat × List (List Nat)), (∀ p ∈ ps, p < n) → PartInv n gs lot done st → PartInv n gs lot (fun p => done p ∨ p ∈ ps) (ps.foldl (partsStep n (bes gs lot)) st)
  | [], done, st, _, h => ⟨h.seen, h.is, h.dis, fun p hp => hp.elim (h.all p) fun z => by cases z⟩
  | p :: ps, done, st, lt, h => by
    rw [List.foldl_cons]
    have hp := lt p (List.mem_cons_self ..)
    have one : PartInv n gs lot (fun x => done x ∨ x = p) (partsStep n (bes gs lot) st p) := by
      unfold partsStep
      split
      · rename_i hin
        exact ⟨h.seen, h.is, h.dis, fun x hx => hx.elim (h.all x) fun z => z ▸ hin⟩
      · rename_i hout
        refine ⟨fun x => ?_, fun r hr => ?_, ?_, fun x hx => ?_⟩
        · show x ∈ (partFrom n (bes gs lot) p).foldl addOne st.1 ↔ ∃ r ∈ st.2 ++ [partFrom n (bes gs lot) p], x ∈ r
          rw [mem_addAll, h.seen]
          constructor
          · rintro (⟨r, hr, hx⟩ | hx)
            · exact ⟨r, List.mem_append.mpr (.inl hr), hx⟩
            · exact ⟨_, List.mem_append.mpr (.inr (List.mem_singleton.mpr rfl)), hx⟩
          · rintro ⟨r, hr, hx⟩
            rcases List.mem_append.mp hr with z | z
            · exact .inl ⟨r, z, hx⟩
            · rw [List.mem_singleton] at z
              exact .inr (z ▸ hx)
        · rcases List.mem_append.mp hr with z | z
          · exact h.is r z
          · rw [List.mem_singleton] at z
            exact ⟨p, hp, z⟩
        · refine List.pairwise_append.mpr ⟨h.dis, by simp, fun a ha b hb x hx hx' => ?_⟩
          rw [List.mem_singleton] at hb
          subst hb
          obtain ⟨q, hq, rfl⟩ := h.is a ha
          have c1 := (mem_partFrom hw hl hq).mp hx
          have c2 := (mem_partFrom hw hl hp).mp hx'
          exact hout ((h.seen p).mpr ⟨_, ha, (mem_partFrom hw hl hq).mpr (c1.trans c2.symm)⟩)
        · show x ∈ (partFrom n (bes gs lot) p).foldl addOne st.1
          rw [mem_addAll]
          rcases hx with hx | rfl
          · exact .inl (h.all x hx)
          · exact .inr ((mem_partFrom hw hl hp).mpr .refl)
    have := parts_inv hw hl ps _ _ (fun q hq => lt q (List.mem_cons_of_mem _ hq)) one
    exact ⟨this.seen, this.is, this.dis, fun x hx => this.all x (by
      rcases hx with hx | hx
      · exact .inl (.inl hx)
      · rcases List.mem_cons.mp hx with rfl | hx
        · exact .inl (.inr rfl)
        · exact .inr hx)⟩
/-- parts: each is what is joined to a place; each place is in one; they don't overlap -/
theorem parts_is {n : Nat} {gs : G} (hw : Web n gs) {lot : List Nat} (hl : ∀ k ∈ lot, k < gs.length) : (∀ r ∈ parts n gs lot, ∃ p, p < n ∧ r = partFrom n (bes gs lot) p) ∧ (parts n gs lot).Pairwise (fun a b => ∀ x ∈ a, x ∉ b) ∧ ∀ p, p < n → ∃ r ∈ parts n gs lot, p ∈ r := by
  have h := parts_inv hw hl (List.range n) (fun _ => False) ([], []) (fun p hp => List.mem_range.mp hp) ⟨fun x => by simp, fun r hr => by simp at hr, by simp, fun p hp => hp.elim⟩
  exact ⟨h.is, h.dis, fun p hp => (h.seen p).mp (h.all p (.inr (List.mem_range.mpr hp)))⟩
/-- what is known of a part -/
structure Part (n : Nat) (gs : G) (lot part : List Nat) : Prop where
  nd : part.Nodup
  lt : ∀ p ∈ part, p < n
  ne : part ≠ []
  con : ∀ p ∈ part, ∀ q, q ∈ part ↔ Con gs lot p q
theorem part_of {n : Nat} {gs : G} (hw : Web n gs) {lot : List Nat} (hl : ∀ k ∈ lot, k < gs.length) {part : List Nat} (h : part ∈ parts n gs lot) : Part n gs lot part := by
  obtain ⟨p, hp, rfl⟩ := (parts_is hw hl).1 part h
  have self := (mem_partFrom hw hl hp).mpr .refl
  refine ⟨partFrom_nodup _ _ _, fun q hq => con_lt hw hl ((mem_partFrom hw hl hp).mp hq) hp, fun e => ?_, fun q hq r => ?_⟩
  · rw [e] at self
    cases self
  · rw [mem_partFrom hw hl hp]
    have := (mem_partFrom hw hl hp).mp hq
    exact ⟨fun h => this.symm.trans h, fun h => this.trans h⟩
theorem part_in {n : Nat} {gs : G} (hw : Web n gs) {lot : List Nat} (hl : ∀ k ∈ lot, k < gs.length) {p : Nat} (hp : p < n) : partFrom n (bes gs lot) p ∈ parts n gs lot := by
  obtain ⟨r, hr, hin⟩ := (parts_is hw hl).2.2 p hp
  obtain ⟨q, hq, rfl⟩ := (parts_is hw hl).1 r hr
  have c := (mem_partFrom hw hl hq).mp hin
  have : partFrom n (bes gs lot) p = partFrom n (bes gs lot) q := sorted_uniq (asc_sorted _ _) (asc_sorted _ _) fun x => by
    rw [mem_partFrom hw hl hp, mem_partFrom hw hl hq]
    exact ⟨fun h => c.trans h, fun h => c.symm.trans h⟩
  rw [this]
  exact hr
theorem Part.near {n : Nat} {gs : G} {lot part : List Nat} (h : Part n gs lot part) {k : Nat} (hk : k ∈ lot) : (gAt gs k).1 ∈ part ↔ (gAt gs k).2 ∈ part := by
  constructor
  · exact fun z => (h.con _ z _).mpr (.one ⟨k, hk, end_self gs k⟩)
  · exact fun z => (h.con _ z _).mpr (.one ⟨k, hk, (end_self gs k).symm⟩)
theorem mem_guestsIn {gs : G} {lot part : List Nat} {k : Nat} : k ∈ guestsIn gs lot part ↔ k ∈ lot ∧ (gAt gs k).1 ∈ part := by
  unfold guestsIn
  rw [List.mem_filter, decide_eq_true_eq]
/-- a part is joined by its own guests -/
theorem Part.own {n : Nat} {gs : G} {lot part : List Nat} (h : Part n gs lot part) {p q : Nat} (hp : p ∈ part) (hq : q ∈ part) : Con gs (guestsIn gs lot part) p q := by
  have c := (h.con p hp q).mp hq
  clear hq
  induction c with
  | refl => exact .refl
  | step a b ih =>
    obtain ⟨k, hk, e⟩ := b
    refine ih.step ⟨k, mem_guestsIn.mpr ⟨hk, ?_⟩, e⟩
    have hq := (h.con p hp _).mpr a
    rcases e with ⟨e, _⟩ | ⟨e, _⟩
    · rw [e]
      exact hq
    · rw [h.near hk, e]
      exact hq
end Gq
/-! Plain mathematics, 2: ways, rounds, forests. -/
namespace Gq
open Gr
/-- a way: each guest with the place it is left from; the places differ -/
inductive Way (gs : G) (lot : List Nat) (s : Nat) : List (Nat × Nat) → Nat → Prop
  | nil : Way gs lot s [] s
  | snoc {row : List (Nat × Nat)} {k q r : Nat} : Way gs lot s row q → k ∈ lot → End gs k q r → r ∉ row.map (·.2) → r ≠ q → Way gs lot s (row ++ [(k, q)]) r
theorem End.other {gs : G} {k q r x y : Nat} (h : End gs k q r) (g : End gs k x y) : r = x ∨ r = y := by
  rcases h with ⟨a, b⟩ | ⟨a, b⟩ <;> rcases g with ⟨c, d⟩ | ⟨c, d⟩ <;> omega
theorem way_lot {gs : G} {lot : List Nat} {s t : Nat} {row : List (Nat × Nat)} (h : Way gs lot s row t) : ∀ z ∈ row, z.1 ∈ lot := by
  induction h with
  | nil => intro z hz; cases hz
  | snoc _ hk _ _ _ ih =>
    intro z hz
    rcases List.mem_append.mp hz with hz | hz
    · exact ih z hz
    · rw [List.mem_singleton] at hz
      rw [hz]
      exact hk
theorem way_ends {gs : G} {lot : List Nat} {s t : Nat} {row : List (Nat × Nat)} (h : Way gs lot s row t) : ∀ z ∈ row, ∃ r, End gs z.1 z.2 r ∧ r ∈ row.map (·.2) ++ [t] := by
  induction h with
  | nil => intro z hz; cases hz
  | @snoc row k q r _ hk e _ _ ih =>
    intro z hz
    rcases List.mem_append.mp hz with hz | hz
    · obtain ⟨y, h1, h2⟩ := ih z hz
      refine ⟨y, h1, ?_⟩
      rw [List.map_append]
      exact List.mem_append.mpr (.inl h2)
    · rw [List.mem_singleton] at hz
      subst hz
      exact ⟨r, e, by simp⟩
theorem way_places {gs : G} {lot : List Nat} {s t : Nat} {row : List (Nat × Nat)} (h : Way gs lot s row t) : (row.map (·.2) ++ [t]).Nodup := by
  induction h with
  | nil => simp
  | @snoc row k q r _ hk e h1 h2 ih =>
    rw [List.map_append]
    refine List.nodup_append.mpr ⟨ih, by simp, fun a ha b hb => ?_⟩
    rw [List.mem_singleton] at hb
    subst hb
    rcases List.mem_append.mp ha with ha | ha
    · rintro rfl
      exact h1 ha
    · rw [List.map_cons, List.map_nil, List.mem_singleton] at ha
      rw [ha]
      exact h2.symm
theorem way_guests {gs : G} {lot : List Nat} {s t : Nat} {row : List (Nat × Nat)} (h : Way gs lot s row t) : (row.map (·.1)).Nodup := by
  induction h with
  | nil => simp
  | @snoc row k q r w hk e h1 h2 ih =>
    rw [List.map_append]
    refine List.nodup_append.mpr ⟨ih, by simp, fun a ha b hb => ?_⟩
    rw [List.map_cons, List.map_nil, List.mem_singleton] at hb
    subst hb
    rintro rfl
    obtain ⟨z, hz, rfl⟩ := List.mem_map.mp ha
    obtain ⟨y, g1, g2⟩ := way_ends w z hz
    rcases e.other g1 with rfl | rfl
    · exact h1 (List.mem_map.mpr ⟨z, hz, rfl⟩)
    · rcases List.mem_append.mp g2 with g2 | g2
      · exact h1 g2
      · exact h2 (List.mem_singleton.mp g2)
theorem way_mono {gs : G} {lot lot' : List Nat} (c : ∀ k ∈ lot, k ∈ lot') {s t : Nat} {row : List (Nat × Nat)} (h : Way gs lot s row t) : Way gs lot' s row t := by
  induction h with
  | nil => exact .nil
  | snoc _ hk e h1 h2 ih => exact .snoc ih (c _ hk) e h1 h2
/-- a chain: each guest with a place, its other end is the place before -/
inductive Chain (gs : G) : Nat → List (Nat × Nat) → Prop
  | nil (x : Nat) : Chain gs x []
  | cons {k x y : Nat} {l : List (Nat × Nat)} : End gs k x y → Chain gs y l → Chain gs x ((k, y) :: l)
theorem Chain.left {gs : G} : ∀ {l m : List (Nat × Nat)} {x : Nat}, Chain gs x (l ++ m) → Chain gs x l
  | [], _, x, _ => .nil x
  | _ :: _, _, _, .cons e h => .cons e h.left
theorem Chain.snoc {gs : G} {k y : Nat} : ∀ {l : List (Nat × Nat)} {x : Nat}, Chain gs x l → End gs k (((x :: l.map (·.2)).getLast?).getD 0) y → Chain gs x (l ++ [(k, y)])
  | [], x, _, e => .cons (by simpa using e) (.nil _)
  | (j, z) :: l, x, .cons e h, e' => .cons e (h.snoc (by
      rw [List.map_cons, List.getLast?_cons_cons] at e'
      exact e'))
theorem way_bwd {gs : G} {lot : List Nat} {s t : Nat} {row : List (Nat × Nat)} (h : Way gs lot s row t) : Chain gs t row.reverse := by
  induction h with
  | nil => exact .nil _
  | snoc _ _ e _ _ ih =>
    rw [List.reverse_append]
    exact .cons e.symm ih
theorem way_fwd {gs : G} {lot : List Nat} {s t : Nat} {row : List (Nat × Nat)} (h : Way gs lot s row t) : ∃ l, Chain gs s l ∧ l.map (·.1) = row.map (·.1) ∧ s :: l.map (·.2) = row.map (·.2) ++ [t] := by
  induction h with
  | nil => exact ⟨[], .nil _, rfl, rfl⟩
  | @snoc row k q r _ hk e _ _ ih =>
    obtain ⟨l, h1, h2, h3⟩ := ih
    refine ⟨l ++ [(k, r)], h1.snoc ?_, by simp [h2], ?_⟩
    · rw [h3]
      simpa using e
    · rw [List.map_append, ← List.cons_append, h3]
      simp
/-- each guest of a row sits down -/
inductive Sits (gs : G) : List Nat → List Nat → List Nat → Prop
  | nil {taken : List Nat} : Sits gs taken [] []
  | cons {taken : List Nat} {k p : Nat} {row ps : List Nat} : seat gs taken k = some p → Sits gs (taken ++ [p]) row ps → Sits gs taken (k :: row) (p :: ps)
theorem seat_at {gs : G} {taken : List Nat} {k x y : Nat} (e : End gs k x y) (hx : x ∈ taken ∨ (gAt gs k).1 = y) (hy : y ∉ taken) : seat gs taken k = some y := by
  unfold seat
  rcases e with ⟨rfl, rfl⟩ | ⟨rfl, rfl⟩
  · by_cases h : (gAt gs k).1 ∈ taken
    · rw [if_neg (fun z => z h), if_neg hy]
    · rw [if_pos h]
      rcases hx with hx | hx
      · exact absurd hx h
      · rw [hx]
  · rw [if_pos hy]
theorem seat_not {gs : G} {taken : List Nat} {k p : Nat} (h : seat gs taken k = some p) : p ∉ taken := by
  unfold seat at h
  split at h
  · cases h
    assumption
  · split at h
    · cases h
    · cases h
      assumption
theorem Sits.append {gs : G} : ∀ {row row' ps ps' taken : List Nat}, Sits gs taken row ps → Sits gs (taken ++ ps) row' ps' → Sits gs taken (row ++ row') (ps ++ ps')
  | [], row', _, ps', taken, .nil, h => by
    rw [List.append_nil] at h
    exact h
  | _ :: _, _, _, _, _, .cons e h, h' => .cons e (h.append (by
      rw [List.append_assoc]
      exact h'))
theorem Sits.fresh {gs : G} : ∀ {row ps taken : List Nat}, Sits gs taken row ps → ps.Nodup ∧ ∀ p ∈ ps, p ∉ taken
  | _, _, _, .nil => ⟨by simp, fun p hp => by cases hp⟩
  | _, _, _, .cons e h => by
    obtain ⟨h1, h2⟩ := h.fresh
    refine ⟨List.nodup_cons.mpr ⟨fun z => h2 _ z (by simp), h1⟩, fun p hp => ?_⟩
    rcases List.mem_cons.mp hp with rfl | hp
    · exact seat_not e
    · exact fun z => h2 p hp (List.mem_append.mpr (.inl z))
theorem chain_sits {gs : G} : ∀ {l : List (Nat × Nat)} {x : Nat} {taken : List Nat}, Chain gs x l → x ∈ taken → (l.map (·.2)).Nodup → (∀ y ∈ l.map (·.2), y ∉ taken) → Sits gs taken (l.map (·.1)) (l.map (·.2))
  | [], _, _, _, _, _, _ => .nil
  | (k, y) :: l, x, taken, .cons e h, hx, nd, fr => by
    rw [List.map_cons, List.nodup_cons] at nd
    refine .cons (seat_at e (.inl hx) (fr y (by simp))) (chain_sits h (by simp) nd.2 fun z hz => ?_)
    rw [List.mem_append, List.mem_singleton]
    rintro (h' | rfl)
    · exact fr z (by rw [List.map_cons]; exact List.mem_cons_of_mem _ hz) h'
    · exact nd.1 hz
/-- a round among some guests -/
structure Round (gs : G) (E : List Nat) (W : List (Nat × Nat)) : Prop where
  ex : ∃ (pre : List Nat) (row : List (Nat × Nat)) (g : Nat), W = row ++ [(g, (gAt gs g).2)] ∧ Way gs pre (gAt gs g).1 row (gAt gs g).2 ∧ (∀ k ∈ pre, k ∈ E) ∧ g ∈ E ∧ g ∉ pre ∧ (gAt gs g).1 ≠ (gAt gs g).2
theorem Round.guests {gs : G} {E : List Nat} {W : List (Nat × Nat)} (h : Round gs E W) : (W.map (·.1)).Nodup ∧ ∀ k ∈ W.map (·.1), k ∈ E := by
  obtain ⟨pre, row, g, rfl, w, h1, h2, h3, _⟩ := h.ex
  rw [List.map_append]
  refine ⟨List.nodup_append.mpr ⟨way_guests w, by simp, fun a ha b hb => ?_⟩, fun k hk => ?_⟩
  · rw [List.map_cons, List.map_nil, List.mem_singleton] at hb
    subst hb
    obtain ⟨z, hz, rfl⟩ := List.mem_map.mp ha
    intro e
    exact h3 (e ▸ way_lot w z hz)
  · rcases List.mem_append.mp hk with hk | hk
    · obtain ⟨z, hz, rfl⟩ := List.mem_map.mp hk
      exact h1 _ (way_lot w z hz)
    · rw [List.map_cons, List.map_nil, List.mem_singleton] at hk
      rw [hk]
      exact h2
theorem Round.places {gs : G} {E : List Nat} {W : List (Nat × Nat)} (h : Round gs E W) : (W.map (·.2)).Nodup ∧ W ≠ [] ∧ ∀ z ∈ W, (gAt gs z.1).1 ∈ W.map (·.2) ∧ (gAt gs z.1).2 ∈ W.map (·.2) := by
  obtain ⟨pre, row, g, rfl, w, h1, h2, h3, h4⟩ := h.ex
  have e : (row ++ [(g, (gAt gs g).2)]).map (·.2) = row.map (·.2) ++ [(gAt gs g).2] := by rw [List.map_append]; rfl
  rw [e]
  refine ⟨way_places w, by simp, fun z hz => ?_⟩
  rcases List.mem_append.mp hz with hz | hz
  · obtain ⟨r, h5, h6⟩ := way_ends w z hz
    have h7 : z.2 ∈ row.map (·.2) ++ [(gAt gs g).2] := List.mem_append.mpr (.inl (List.mem_map.mpr ⟨z, hz, rfl⟩))
    rcases h5 with ⟨a, b⟩ | ⟨a, b⟩
    · rw [a, b]
      exact ⟨h7, h6⟩
    · rw [a, b]
      exact ⟨h6, h7⟩
  · rw [List.mem_singleton] at hz
    subst hz
    refine ⟨?_, by simp⟩
    obtain ⟨l, _, _, h5⟩ := way_fwd w
    rw [← h5]
    simp
theorem round_perm {gs : G} (W : List (Nat × Nat)) : (seatedRound gs W).Perm (W.map (·.1)) := by
  unfold seatedRound
  match W with
  | [] => exact .refl _
  | (f, p) :: t =>
    simp only
    split
    · exact ((List.reverse_perm t).map _).cons f
    · exact .refl _
/-- the guests of a round sit down at its places -/
theorem round_sits {gs : G} {E : List Nat} {W : List (Nat × Nat)} (h : Round gs E W) {taken : List Nat} (fr : ∀ p ∈ W.map (·.2), p ∉ taken) : ∃ ps, Sits gs taken (seatedRound gs W) ps ∧ ∀ p, p ∈ ps ↔ p ∈ W.map (·.2) := by
  have nd := h.places.1
  obtain ⟨pre, row, g, rfl, w, h1, h2, h3, h4⟩ := h.ex
  obtain ⟨l, f1, f2, f3⟩ := way_fwd w
  have bw : Chain gs (gAt gs g).1 (row ++ [(g, (gAt gs g).2)]).reverse := by
    rw [List.reverse_append]
    exact .cons (end_self gs g) (way_bwd w)
  have fw : Chain gs (gAt gs g).1 (l ++ [(g, (gAt gs g).1)]) := f1.snoc (by
    rw [f3]
    simpa using (end_self gs g).symm)
  have em : (row ++ [(g, (gAt gs g).2)]).map (·.2) = (gAt gs g).1 :: l.map (·.2) := by
    rw [List.map_append, f3]
    rfl
  have eg : (row ++ [(g, (gAt gs g).2)]).map (·.1) = (l ++ [(g, (gAt gs g).1)]).map (·.1) := by
    rw [List.map_append, List.map_append, f2]
    rfl
  cases hW : row ++ [(g, (gAt gs g).2)] with
  | nil => simp at hW
  | cons z t =>
    obtain ⟨f, p⟩ := z
    rw [hW] at nd bw em eg fr
    have hp : p = (gAt gs g).1 := by
      rw [List.map_cons] at em
      exact (List.cons.inj em).1
    subst hp
    rw [List.map_cons, List.nodup_cons] at nd
    unfold seatedRound
    simp only
    by_cases hf : (gAt gs f).1 = (gAt gs g).1
    · rw [if_pos hf]
      refine ⟨(gAt gs g).1 :: t.reverse.map (·.2), .cons ?_ (chain_sits ?_ (by simp : (gAt gs g).1 ∈ taken ++ [(gAt gs g).1]) ?_ ?_), fun p => ?_⟩
      · unfold seat
        rw [hf, if_pos (fr _ (by simp))]
      · rw [List.reverse_cons] at bw
        exact bw.left
      · rw [List.map_reverse]
        exact (List.reverse_perm _).nodup_iff.mpr nd.2
      · intro y hy
        rw [List.map_reverse, List.mem_reverse] at hy
        rw [List.mem_append, List.mem_singleton]
        rintro (h' | rfl)
        · exact fr y (by rw [List.map_cons]; exact List.mem_cons_of_mem _ hy) h'
        · exact nd.1 hy
      · rw [List.map_cons, List.mem_cons, List.mem_cons, List.map_reverse, List.mem_reverse]
    · rw [if_neg hf]
      have hfw : ∃ y m, l ++ [(g, (gAt gs g).1)] = (f, y) :: m ∧ t.map (·.1) = m.map (·.1) := by
        cases hl : l ++ [(g, (gAt gs g).1)] with
        | nil => simp at hl
        | cons z m =>
          rw [hl, List.map_cons, List.map_cons] at eg
          obtain ⟨e1, e2⟩ := List.cons.inj eg
          have e1' : f = z.1 := e1
          exact ⟨z.2, m, by rw [e1'], e2⟩
      obtain ⟨y, m, hm, ht⟩ := hfw
      have pl : ((f, y) :: m).map (·.2) = l.map (·.2) ++ [(gAt gs g).1] := by
        rw [← hm, List.map_append]
        rfl
      have mem : ∀ p, p ∈ ((f, y) :: m).map (·.2) ↔ p ∈ ((f, (gAt gs g).1) :: t).map (·.2) := by
        intro p
        rw [pl, em, List.mem_append, List.mem_singleton, List.mem_cons]
        exact or_comm
      have nd' : (((f, y) :: m).map (·.2)).Nodup := by
        rw [pl]
        have : ((gAt gs g).1 :: l.map (·.2)).Nodup := by
          rw [← em, List.map_cons, List.nodup_cons]
          exact nd
        exact (List.perm_append_singleton (gAt gs g).1 (l.map (·.2))).nodup_iff.mpr this
      have nd2 := nd'
      rw [List.map_cons, List.nodup_cons] at nd'
      rw [hm] at fw
      cases fw with
      | cons e c =>
        refine ⟨y :: m.map (·.2), ?_, fun p => by rw [← mem p, List.map_cons]⟩
        rw [ht]
        refine .cons (seat_at e (.inr ?_) (fr y ((mem y).mp (by simp)))) (chain_sits c (by simp) nd'.2 fun z hz => ?_)
        · rcases e with ⟨a, b⟩ | ⟨a, b⟩
          · exact absurd a hf
          · exact b
        · rw [List.mem_append, List.mem_singleton]
          rintro (h' | rfl)
          · exact fr z ((mem z).mp (by rw [List.map_cons]; exact List.mem_cons_of_mem _ hz)) h'
          · exact nd'.1 hz
/-! ### finding a way -/
structure Pushed (gs : G) (lot : List Nat) (n s : Nat) (qs : List (Nat × Nat)) (st : List (List (Nat × Nat) × Nat)) (seen : List Nat) (st' : List (List (Nat × Nat) × Nat)) (seen' : List Nat) : Prop where
  way : ∀ e ∈ st', Way gs lot s e.1 e.2 ∧ (∀ z ∈ e.1, z.2 ∈ seen') ∧ e.2 ∈ seen'
  sub : ∀ e ∈ st, e ∈ st'
  old : ∀ x ∈ seen, x ∈ seen'
  all : ∀ q ∈ qs, q.2 ∈ seen'
  new : ∀ x ∈ seen', x ∉ seen → ∃ e ∈ st', e.2 = x
  nd : seen'.Nodup
  lt : ∀ x ∈ seen', x < n
  len : seen'.length + st.length = seen.length + st'.length
theorem pushed {gs : G} {lot : List Nat} {n s barred here : Nat} {row : List (Nat × Nat)} (w : Way gs lot s row here) : ∀ (qs : List (Nat × Nat)) (st : List (List (Nat × Nat) × Nat)) (seen : List Nat), (∀ q ∈ qs, q.1 ∈ lot ∧ End gs q.1 here q.2 ∧ q.1 ≠ barred ∧ q.2 < n) →
    (∀ z ∈ row, z.2 ∈ seen) → here ∈ seen → (∀ e ∈ st, Way gs lot s e.1 e.2 ∧ (∀ z ∈ e.1, z.2 ∈ seen) ∧ e.2 ∈ seen) → seen.Nodup → (∀ x ∈ seen, x < n) →
    Pushed gs lot n s qs st seen (qs.foldl (wayPush barred row here) (st, seen)).1 (qs.foldl (wayPush barred row here) (st, seen)).2
  | [], st, seen, _, _, _, hw, nd, lt => ⟨hw, fun _ h => h, fun _ h => h, fun q hq => (by cases hq), fun x h h' => absurd h h', nd, lt, rfl⟩
  | q :: qs, st, seen, hq, hr, hh, hw, nd, lt => by
    obtain ⟨q1, q2, q3, q4⟩ := hq q (List.mem_cons_self ..)
    rw [List.foldl_cons]
    by_cases hc : q.2 ∈ seen
    · have e : wayPush barred row here (st, seen) q = (st, seen) := by
        unfold wayPush
        rw [if_neg (fun z => z.2 hc)]
      rw [e]
      have ih := pushed w qs st seen (fun x hx => hq x (List.mem_cons_of_mem _ hx)) hr hh hw nd lt
      exact ⟨ih.way, ih.sub, ih.old, fun x hx => (List.mem_cons.mp hx).elim (fun z => by rw [z]; exact ih.old _ hc) (ih.all x), ih.new, ih.nd, ih.lt, ih.len⟩
    · have e : wayPush barred row here (st, seen) q = ((row ++ [(q.1, here)], q.2) :: st, seen ++ [q.2]) := by
        unfold wayPush
        rw [if_pos ⟨q3, hc⟩]
      rw [e]
      have up : ∀ x ∈ seen, x ∈ seen ++ [q.2] := fun x hx => List.mem_append.mpr (.inl hx)
      have ih := pushed w qs ((row ++ [(q.1, here)], q.2) :: st) (seen ++ [q.2]) (fun x hx => hq x (List.mem_cons_of_mem _ hx)) (fun z hz => up _ (hr z hz)) (up _ hh) (fun e he => by
        rcases List.mem_cons.mp he with rfl | he
        · refine ⟨.snoc w q1 q2 (fun z => ?_) (fun z => hc (z ▸ hh)), fun z hz => ?_, by simp⟩
          · obtain ⟨y, hy, hy'⟩ := List.mem_map.mp z
            exact hc (hy' ▸ hr y hy)
          · rcases List.mem_append.mp hz with hz | hz
            · exact up _ (hr z hz)
            · rw [List.mem_singleton] at hz
              rw [hz]
              exact up _ hh
        · obtain ⟨a, b, c⟩ := hw e he
          exact ⟨a, fun z hz => up _ (b z hz), up _ c⟩) (List.nodup_append.mpr ⟨nd, by simp, fun a ha b hb => by
          rw [List.mem_singleton] at hb
          rintro rfl
          exact hc (hb ▸ ha)⟩) (fun x hx => by
          rcases List.mem_append.mp hx with hx | hx
          · exact lt x hx
          · rw [List.mem_singleton] at hx
            rw [hx]
            exact q4)
      refine ⟨ih.way, fun e he => ih.sub e (List.mem_cons_of_mem _ he), fun x hx => ih.old x (up x hx), fun x hx => (List.mem_cons.mp hx).elim (fun z => by rw [z]; exact ih.old _ (by simp)) (ih.all x), fun x hx hn => ?_, ih.nd, ih.lt, ?_⟩
      · by_cases hx2 : x = q.2
        · exact ⟨_, ih.sub _ (List.mem_cons_self ..), hx2.symm⟩
        · refine ih.new x hx fun z => ?_
          rcases List.mem_append.mp z with z | z
          · exact hn z
          · exact hx2 (List.mem_singleton.mp z)
      · have := ih.len
        rw [List.length_append, List.length_cons, List.length_singleton] at this
        omega
theorem wayGo_ok {gs : G} {lot : List Nat} {n s goal barred : Nat} (hl : ∀ k ∈ lot, k < gs.length) (hw : Web n gs) (hb : barred ∉ lot) (hc : Con gs lot s goal) : ∀ (f : Nat) (st : List (List (Nat × Nat) × Nat)) (seen : List Nat),
    (∀ e ∈ st, Way gs lot s e.1 e.2 ∧ (∀ z ∈ e.1, z.2 ∈ seen) ∧ e.2 ∈ seen) → seen.Nodup → (∀ x ∈ seen, x < n) → (∀ x ∈ seen, (∀ e ∈ st, e.2 ≠ x) → ∀ k ∈ lot, ∀ y, End gs k x y → y ∈ seen) → (goal ∈ seen → ∃ e ∈ st, e.2 = goal) → s ∈ seen →
    n + 1 + st.length ≤ f + seen.length → Way gs lot s (wayGo (bes gs lot) goal barred f st seen) goal
  | 0, st, seen, h1, nd, lt, cl, hg, hs, fu => by
    have := nodup_le nd lt
    omega
  | f + 1, [], seen, h1, nd, lt, cl, hg, hs, fu => by
    have : goal ∈ seen := hc.closed (S := fun x => x ∈ seen) (fun k hk => ⟨fun z => cl _ z (fun e he => by cases he) k hk _ (end_self gs k), fun z => cl _ z (fun e he => by cases he) k hk _ (end_self gs k).symm⟩) hs
    obtain ⟨e, he, _⟩ := hg this
    cases he
  | f + 1, (row, here) :: rest, seen, h1, nd, lt, cl, hg, hs, fu => by
    obtain ⟨w0, w2, w3⟩ := h1 _ (List.mem_cons_self ..)
    have w : Way gs lot s row here := w0
    unfold wayGo
    by_cases hh : here = goal
    · rw [if_pos hh]
      exact hh ▸ w
    · rw [if_neg hh]
      have ph := pushed (n := n) (barred := barred) w (bes gs lot here) rest seen (fun q hq => by
        obtain ⟨a, b⟩ := mem_bes hq
        exact ⟨a, b, fun z => hb (z ▸ a), (end_lt hw (hl _ a) b).2.1⟩) w2 w3 (fun e he => h1 e (List.mem_cons_of_mem _ he)) nd lt
      refine wayGo_ok hl hw hb hc f _ _ ph.way ph.nd ph.lt (fun x hx hn k hk y e => ?_) (fun hx => ?_) (ph.old _ hs) ?_
      · by_cases hx1 : x ∈ seen
        · by_cases hx2 : x = here
          · subst hx2
            exact ph.all _ (bes_mem hk e)
          · refine ph.old _ (cl x hx1 (fun e' he' => ?_) k hk y e)
            rcases List.mem_cons.mp he' with rfl | he'
            · exact fun z => hx2 z.symm
            · exact hn e' (ph.sub _ he')
        · obtain ⟨e', h', rfl⟩ := ph.new x hx hx1
          exact absurd rfl (hn e' h')
      · by_cases hx1 : goal ∈ seen
        · obtain ⟨e, he, rfl⟩ := hg hx1
          rcases List.mem_cons.mp he with rfl | he
          · exact absurd rfl hh
          · exact ⟨e, ph.sub _ he, rfl⟩
        · exact ph.new _ hx hx1
      · have := ph.len
        rw [List.length_cons] at fu
        show n + 1 + (List.foldl (wayPush barred row here) (rest, seen) (bes gs lot here)).1.length ≤ f + (List.foldl (wayPush barred row here) (rest, seen) (bes gs lot here)).2.length
        omega
theorem wayFrom_ok {gs : G} {lot : List Nat} {n s goal barred : Nat} (hl : ∀ k ∈ lot, k < gs.length) (hw : Web n gs) (hb : barred ∉ lot) (hs : s < n) (hc : Con gs lot s goal) : Way gs lot s (wayFrom n (bes gs lot) s goal barred) goal := by
  unfold wayFrom
  refine wayGo_ok hl hw hb hc (n + 1) _ _ (fun e he => ?_) (by simp) (fun x hx => ?_) (fun x hx hn => ?_) (fun h => ?_) (by simp) (by simp)
  · rw [List.mem_singleton] at he
    subst he
    exact ⟨.nil, fun z hz => (by cases hz), by simp⟩
  · rw [List.mem_singleton] at hx
    rw [hx]
    exact hs
  · rw [List.mem_singleton] at hx
    exact absurd hx.symm (hn _ (List.mem_singleton.mpr rfl))
  · rw [List.mem_singleton] at h
    exact ⟨_, List.mem_singleton.mpr rfl, h.symm⟩
/-! ### forests -/
inductive Forest (gs : G) : List Nat → Prop
  | nil : Forest gs []
  | snoc {l : List Nat} {k : Nat} : Forest gs l → ¬ Con gs l (gAt gs k).1 (gAt gs k).2 → Forest gs (l ++ [k])
theorem roundAt_none {n : Nat} {gs : G} (hw : Web n gs) {ahead : List Nat} (hl : ∀ k ∈ ahead, k < gs.length) {g : Nat} (hg : g < gs.length) (h : roundAt n gs ahead g = none) : ¬ Con gs ahead (gAt gs g).1 (gAt gs g).2 := by
  unfold roundAt at h
  split at h
  · cases h
  · rename_i z
    rwa [mem_partFrom hw hl (gAt_ok hw hg).1] at z
theorem roundAt_some {n : Nat} {gs : G} (hw : Web n gs) {ahead : List Nat} (hl : ∀ k ∈ ahead, k < gs.length) {g : Nat} (hg : g < gs.length) (hn : g ∉ ahead) {W : List (Nat × Nat)} (h : roundAt n gs ahead g = some W) {E : List Nat} (hE : ∀ k ∈ ahead, k ∈ E) (hgE : g ∈ E) : Round gs E W := by
  unfold roundAt at h
  split at h
  · rename_i z
    cases h
    rw [mem_partFrom hw hl (gAt_ok hw hg).1] at z
    exact ⟨⟨ahead, _, g, rfl, wayFrom_ok hl hw hn (gAt_ok hw hg).1 z, hE, hgE, hn, (gAt_ok hw hg).2.2⟩⟩
  · cases h
theorem roundGo_ok {n : Nat} {gs : G} (hw : Web n gs) {E : List Nat} : ∀ (rest done : List Nat), (∀ k ∈ done ++ rest, k < gs.length) → (done ++ rest).Nodup → (∀ k ∈ done ++ rest, k ∈ E) → Forest gs done →
    (roundGo n gs done rest = none → Forest gs (done ++ rest)) ∧ ∀ W, roundGo n gs done rest = some W → Round gs E W
  | [], done, _, _, _, f => by
    rw [List.append_nil]
    exact ⟨fun _ => f, fun W h => by cases h⟩
  | g :: rest, done, hl, nd, hE, f => by
    have hg := hl g (by simp)
    have ha : ∀ k ∈ done, k < gs.length := fun k hk => hl k (List.mem_append.mpr (.inl hk))
    unfold roundGo
    cases h : roundAt n gs done g with
    | some W =>
      refine ⟨fun z => (by cases z), fun W' z => ?_⟩
      cases z
      refine roundAt_some hw ha hg (fun z => ?_) h (fun k hk => hE k (List.mem_append.mpr (.inl hk))) (hE g (by simp))
      exact (List.nodup_append.mp nd).2.2 g z g (by simp) rfl
    | none =>
      have e : done ++ g :: rest = (done ++ [g]) ++ rest := by simp
      rw [e] at hl nd hE ⊢
      exact roundGo_ok hw rest (done ++ [g]) hl nd hE (.snoc f (roundAt_none hw ha hg h))
theorem forest_few {gs : G} {P : List Nat} (nd : P.Nodup) : ∀ {l : List Nat}, Forest gs l → (∀ k ∈ l, (gAt gs k).1 ∈ P ∧ (gAt gs k).2 ∈ P) → ∃ R : List Nat, R.Nodup ∧ (∀ r ∈ R, r ∈ P) ∧ R.length + l.length = P.length ∧ ∀ p ∈ P, ∃ r ∈ R, Con gs l p r := by
  intro l h
  induction h with
  | nil => exact fun _ => ⟨P, nd, fun _ h => h, by simp, fun p hp => ⟨p, hp, .refl⟩⟩
  | @snoc l k _ hn ih =>
    intro hl
    obtain ⟨R, h1, h2, h3, h4⟩ := ih fun j hj => hl j (List.mem_append.mpr (.inl hj))
    obtain ⟨a, b⟩ := hl k (by simp)
    obtain ⟨r1, g1, c1⟩ := h4 _ a
    obtain ⟨r2, g2, c2⟩ := h4 _ b
    have ne : r1 ≠ r2 := fun e => hn (c1.trans (e ▸ c2.symm))
    have up : ∀ {p q : Nat}, Con gs l p q → Con gs (l ++ [k]) p q := fun h => h.mono fun j hj => List.mem_append.mpr (.inl hj)
    have hk : Con gs (l ++ [k]) (gAt gs k).1 (gAt gs k).2 := .one ⟨k, by simp, end_self gs k⟩
    refine ⟨R.erase r2, h1.erase _, fun r hr => h2 r (List.mem_of_mem_erase hr), ?_, fun p hp => ?_⟩
    · rw [List.length_erase_of_mem g2, List.length_append, List.length_singleton]
      have := List.length_pos_of_mem g2
      omega
    · obtain ⟨r, hr, c⟩ := h4 p hp
      by_cases e : r = r2
      · subst e
        exact ⟨r1, (List.mem_erase_of_ne ne).mpr g1, (up (c.trans c2.symm)).trans (hk.symm.trans (up c1))⟩
      · exact ⟨r, (List.mem_erase_of_ne e).mpr hr, up c⟩
theorem forest_lt {gs : G} {P : List Nat} (nd : P.Nodup) (ne : P ≠ []) {l : List Nat} (h : Forest gs l) (hl : ∀ k ∈ l, (gAt gs k).1 ∈ P ∧ (gAt gs k).2 ∈ P) : l.length + 1 ≤ P.length := by
  obtain ⟨R, h1, h2, h3, h4⟩ := forest_few nd h hl
  cases P with
  | nil => exact absurd rfl ne
  | cons p P =>
    obtain ⟨r, hr, _⟩ := h4 p (List.mem_cons_self ..)
    have := List.length_pos_of_mem hr
    omega
end Gq
/-! Plain mathematics, 3: guests that grow from what is known; what is kept of a part. -/
namespace Gq
open Gr
def grow (gs : G) (known : List Nat) (k : Nat) : List Nat := addOne (addOne known (gAt gs k).1) (gAt gs k).2
def after (gs : G) (known r : List Nat) : List Nat := r.foldl (grow gs) known
theorem mem_grow {gs : G} {known : List Nat} {k x : Nat} : x ∈ grow gs known k ↔ x ∈ known ∨ x = (gAt gs k).1 ∨ x = (gAt gs k).2 := by
  unfold grow
  rw [mem_addOne, mem_addOne, or_assoc]
theorem nodup_grow {gs : G} {known : List Nat} {k : Nat} (h : known.Nodup) : (grow gs known k).Nodup := nodup_addOne (nodup_addOne h)
theorem mem_after {gs : G} {x : Nat} : ∀ {r known : List Nat}, x ∈ after gs known r ↔ x ∈ known ∨ ∃ k ∈ r, x = (gAt gs k).1 ∨ x = (gAt gs k).2
  | [], known => by simp [after]
  | k :: r, known => by
    have e : after gs known (k :: r) = after gs (grow gs known k) r := rfl
    rw [e, mem_after, mem_grow]
    simp only [List.mem_cons, exists_eq_or_imp, or_assoc]
theorem nodup_after {gs : G} : ∀ {r known : List Nat}, known.Nodup → (after gs known r).Nodup
  | [], _, h => h
  | k :: r, known, h => nodup_after (r := r) (nodup_grow (k := k) h)
/-- guests, each with one end known -/
inductive Gro (gs : G) : List Nat → List Nat → Prop
  | nil {known : List Nat} : Gro gs known []
  | cons {known r : List Nat} {g x y : Nat} : End gs g x y → x ∈ known → y ∉ known → Gro gs (grow gs known g) r → Gro gs known (g :: r)
theorem mem_grow_end {gs : G} {known : List Nat} {k x y z : Nat} (e : End gs k x y) (hx : x ∈ known) : z ∈ grow gs known k ↔ z ∈ known ∨ z = y := by
  rw [mem_grow]
  rcases e with ⟨rfl, rfl⟩ | ⟨rfl, rfl⟩
  · exact ⟨fun h => h.elim .inl fun h => h.elim (fun h => .inl (h ▸ hx)) .inr, fun h => h.elim .inl fun h => .inr (.inr h)⟩
  · exact ⟨fun h => h.elim .inl fun h => h.elim .inr fun h => .inl (h ▸ hx), fun h => h.elim .inl fun h => .inr (.inl h)⟩
theorem grow_len {gs : G} {known : List Nat} {k x y : Nat} (nd : known.Nodup) (e : End gs k x y) (hx : x ∈ known) (hy : y ∉ known) : (grow gs known k).length = known.length + 1 := by
  have h1 : (y :: known).Nodup := List.nodup_cons.mpr ⟨hy, nd⟩
  have h2 := nodup_grow (gs := gs) (k := k) nd
  have a := nodup_sub h1 (m := grow gs known k) fun z hz => (mem_grow_end e hx).mpr ((List.mem_cons.mp hz).elim .inr .inl)
  have b := nodup_sub h2 (m := y :: known) fun z hz => List.mem_cons.mpr (((mem_grow_end e hx).mp hz).elim .inr .inl)
  rw [List.length_cons] at a b
  omega
theorem gro_len {gs : G} : ∀ {r known : List Nat}, Gro gs known r → known.Nodup → (after gs known r).length = known.length + r.length
  | [], _, _, _ => rfl
  | k :: r, known, .cons e hx hy h, nd => by
    have e1 : after gs known (k :: r) = after gs (grow gs known k) r := rfl
    rw [e1, gro_len h (nodup_grow nd), grow_len nd e hx hy, List.length_cons]
    omega
theorem gro_con {gs : G} : ∀ {r known : List Nat}, Gro gs known r → ∀ x ∈ after gs known r, ∃ y ∈ known, Con gs r x y
  | [], known, _, x, hx => ⟨x, hx, .refl⟩
  | k :: r, known, .cons (x := a) (y := b) e ha hb h, x, hx => by
    obtain ⟨y, hy, c⟩ := gro_con h x hx
    have c' : Con gs (k :: r) x y := c.mono fun j hj => List.mem_cons_of_mem _ hj
    rcases (mem_grow_end e ha).mp hy with hy | rfl
    · exact ⟨y, hy, c'⟩
    · exact ⟨a, ha, c'.step ⟨k, List.mem_cons_self .., e.symm⟩⟩
/-- they sit down one by one -/
theorem gro_sits {gs : G} {P : List Nat} {F : Nat → Prop} : ∀ {r known taken : List Nat}, Gro gs known r → (∀ k ∈ r, (gAt gs k).1 ∈ P ∧ (gAt gs k).2 ∈ P ∧ ¬ F (gAt gs k).1) → (∀ x ∈ known, x ∈ taken ∨ F x) → (∀ x ∈ P, x ∈ taken → x ∈ known) →
    ∃ ps, Sits gs taken r ps ∧ (∀ x ∈ after gs known r, x ∈ taken ∨ x ∈ ps ∨ F x) ∧ ∀ x ∈ ps, x ∈ P
  | [], known, taken, _, _, h2, _ => ⟨[], .nil, fun x hx => (h2 x hx).elim .inl fun z => .inr (.inr z), fun x hx => by cases hx⟩
  | k :: r, known, taken, .cons (x := a) (y := b) e ha hb h, h1, h2, h3 => by
    obtain ⟨p1, p2, p3⟩ := h1 k (List.mem_cons_self ..)
    have hbP : b ∈ P := by
      rcases e with ⟨_, rfl⟩ | ⟨_, rfl⟩
      · exact p2
      · exact p1
    have hbt : b ∉ taken := fun z => hb (h3 b hbP z)
    have st : seat gs taken k = some b := by
      refine seat_at e ?_ hbt
      rcases h2 a ha with z | z
      · exact .inl z
      · rcases e with ⟨rfl, _⟩ | ⟨_, e⟩
        · exact absurd z p3
        · exact .inr e
    obtain ⟨ps, g1, g2, g3⟩ := gro_sits (P := P) (F := F) (taken := taken ++ [b]) h (fun j hj => h1 j (List.mem_cons_of_mem _ hj)) (fun x hx => by
      rcases (mem_grow_end e ha).mp hx with hx | rfl
      · exact (h2 x hx).elim (fun z => .inl (List.mem_append.mpr (.inl z))) .inr
      · exact .inl (by simp)) (fun x hx ht => by
      rcases List.mem_append.mp ht with ht | ht
      · exact (mem_grow_end e ha).mpr (.inl (h3 x hx ht))
      · exact (mem_grow_end e ha).mpr (.inr (List.mem_singleton.mp ht)))
    refine ⟨b :: ps, .cons st g1, fun x hx => ?_, fun x hx => ?_⟩
    · rcases g2 x hx with z | z | z
      · rcases List.mem_append.mp z with z | z
        · exact .inl z
        · exact .inr (.inl (by rw [List.mem_singleton.mp z]; exact List.mem_cons_self ..))
      · exact .inr (.inl (List.mem_cons_of_mem _ z))
      · exact .inr (.inr z)
    · rcases List.mem_cons.mp hx with rfl | hx
      · exact hbP
      · exact g3 x hx
theorem grownGo_ok {gs : G} : ∀ (f : Nat) (known left : List Nat), left.Nodup → left.length < f →
    (grownGo gs f known left).Nodup ∧ (∀ k ∈ grownGo gs f known left, k ∈ left) ∧ Gro gs known (grownGo gs f known left) ∧ ∀ k ∈ left, (gAt gs k).1 ∈ after gs known (grownGo gs f known left) ↔ (gAt gs k).2 ∈ after gs known (grownGo gs f known left)
  | 0, known, left, nd, hf => by omega
  | f + 1, known, left, nd, hf => by
    unfold grownGo
    cases h : nextTo gs left known with
    | nil =>
      dsimp only
      refine ⟨by simp, fun k hk => (by cases hk), .nil, fun k hk => ?_⟩
      unfold nextTo at h
      have := List.filter_eq_nil_iff.mp h k hk
      show (gAt gs k).1 ∈ known ↔ (gAt gs k).2 ∈ known
      by_cases h1 : (gAt gs k).1 ∈ known <;> by_cases h2 : (gAt gs k).2 ∈ known <;> simp_all
    | cons g t =>
      dsimp only
      have hg : g ∈ nextTo gs left known := by rw [h]; exact List.mem_cons_self ..
      unfold nextTo at hg
      obtain ⟨hl, hx⟩ := List.mem_filter.mp hg
      have nd' : (left.filter fun k => !decide (k = g)).Nodup := nd.sublist List.filter_sublist
      have out : ∀ k, k ∈ (left.filter fun k => !decide (k = g)) ↔ k ∈ left ∧ k ≠ g := fun k => by
        rw [List.mem_filter]
        simp
      have ln : (left.filter fun k => !decide (k = g)).length + 1 ≤ left.length := by
        have := nodup_sub (l := g :: left.filter fun k => !decide (k = g)) (m := left) (List.nodup_cons.mpr ⟨fun z => ((out g).mp z).2 rfl, nd'⟩) fun k hk => (List.mem_cons.mp hk).elim (fun e => e ▸ hl) fun z => ((out k).mp z).1
        rwa [List.length_cons] at this
      obtain ⟨g1, g2, g3, g4⟩ := grownGo_ok f (grow gs known g) (left.filter fun k => !decide (k = g)) nd' (by omega)
      refine ⟨List.nodup_cons.mpr ⟨fun z => ((out g).mp (g2 g z)).2 rfl, g1⟩, fun k hk => (List.mem_cons.mp hk).elim (fun e => e ▸ hl) fun z => ((out k).mp (g2 k z)).1, ?_, fun k hk => ?_⟩
      · by_cases h1 : (gAt gs g).1 ∈ known
        · by_cases h2 : (gAt gs g).2 ∈ known
          · simp [h1, h2] at hx
          · exact .cons (end_self gs g) h1 h2 g3
        · by_cases h2 : (gAt gs g).2 ∈ known
          · exact .cons (end_self gs g).symm h2 h1 g3
          · simp [h1, h2] at hx
      · show (gAt gs k).1 ∈ after gs (grow gs known g) _ ↔ (gAt gs k).2 ∈ after gs (grow gs known g) _
        by_cases e : k = g
        · subst e
          exact ⟨fun _ => mem_after.mpr (.inl (mem_grow.mpr (.inr (.inr rfl)))), fun _ => mem_after.mpr (.inl (mem_grow.mpr (.inr (.inl rfl))))⟩
        · exact g4 k ((out k).mpr ⟨hk, e⟩)
theorem grown_ok {gs : G} {E first : List Nat} (nd : E.Nodup) : (grown gs E first).Nodup ∧ (∀ k ∈ grown gs E first, k ∈ E) ∧ Gro gs (first.foldl addOne []) (grown gs E first) ∧ ∀ k ∈ E, (gAt gs k).1 ∈ after gs (first.foldl addOne []) (grown gs E first) ↔ (gAt gs k).2 ∈ after gs (first.foldl addOne []) (grown gs E first) := grownGo_ok _ _ _ nd (Nat.lt_succ_self _)
/-! ### parts and their guests -/
theorem guestsIn_nodup {gs : G} {oth : List Nat} (h : oth.Nodup) (P : List Nat) : (guestsIn gs oth P).Nodup := h.sublist List.filter_sublist
theorem Part.ends {n : Nat} {gs : G} {oth P : List Nat} (h : Part n gs oth P) {k : Nat} (hk : k ∈ guestsIn gs oth P) : (gAt gs k).1 ∈ P ∧ (gAt gs k).2 ∈ P := by
  obtain ⟨a, b⟩ := mem_guestsIn.mp hk
  exact ⟨b, (h.near a).mp b⟩
/-- what grows from a place of a part holds the part -/
theorem Part.all {n : Nat} {gs : G} {oth P K : List Nat} (h : Part n gs oth P) (c : ∀ k ∈ guestsIn gs oth P, (gAt gs k).1 ∈ K ↔ (gAt gs k).2 ∈ K) {x : Nat} (hx : x ∈ P) (hK : x ∈ K) : ∀ y ∈ P, y ∈ K := fun y hy => (h.own hx hy).closed (S := fun z => z ∈ K) c hK
theorem Part.least {n : Nat} {gs : G} {oth P : List Nat} (h : Part n gs oth P) (nd : oth.Nodup) : P.length ≤ (guestsIn gs oth P).length + 1 := by
  cases hP : P with
  | nil => exact absurd hP h.ne
  | cons p t =>
    rw [← hP]
    have hp : p ∈ P := by rw [hP]; exact List.mem_cons_self ..
    obtain ⟨g1, g2, g3, g4⟩ := grown_ok (gs := gs) (first := [p]) (guestsIn_nodup (gs := gs) nd P)
    have e : [p].foldl addOne [] = [p] := rfl
    rw [e] at g3 g4
    have all := h.all g4 hp (mem_after.mpr (.inl (List.mem_singleton.mpr rfl)))
    have l1 := nodup_sub h.nd all
    rw [gro_len g3 (by simp), List.length_singleton] at l1
    have l2 := nodup_sub g1 g2
    omega
/-- a part that is no tree has a round -/
theorem Part.round {n : Nat} {gs : G} {oth P : List Nat} (hw : Web n gs) (hl : ∀ k ∈ oth, k < gs.length) (nd : oth.Nodup) (h : Part n gs oth P) (ht : isTree gs oth P = false) : ∃ W, roundOf n gs oth P = some W ∧ Round gs (guestsIn gs oth P) W := by
  unfold isTree at ht
  rw [decide_eq_false_iff_not] at ht
  have lo := h.least nd
  obtain ⟨h1, h2⟩ := roundGo_ok (n := n) hw (E := guestsIn gs oth P) (guestsIn gs oth P) [] (fun k hk => hl k (mem_guestsIn.mp hk).1) (guestsIn_nodup nd P) (fun k hk => hk) .nil
  unfold roundOf
  cases hr : roundGo n gs [] (guestsIn gs oth P) with
  | none =>
    have := forest_lt h.nd h.ne (h1 hr) fun k hk => h.ends hk
    rw [List.nil_append] at this
    omega
  | some W => exact ⟨W, rfl, h2 W hr⟩
/-- what is kept of a part -/
structure Kept (gs : G) (E P : List Nat) (F : Nat → Prop) (kept : List Nat) : Prop where
  nd : kept.Nodup
  sub : ∀ k ∈ kept, k ∈ E
  sits : ∀ taken : List Nat, (∀ p ∈ P, p ∉ taken) → ∃ ps, Sits gs taken kept ps ∧ (∀ x ∈ P, x ∈ ps ∨ F x) ∧ ∀ x ∈ ps, x ∈ P
theorem Round.at {gs : G} {E : List Nat} {W : List (Nat × Nat)} (h : Round gs E W) : ∀ z ∈ W, z.1 ∈ E ∧ ∃ r, End gs z.1 z.2 r := by
  obtain ⟨pre, row, g, rfl, w, h1, h2, h3, h4⟩ := h.ex
  intro z hz
  rcases List.mem_append.mp hz with hz | hz
  · obtain ⟨r, h5, _⟩ := way_ends w z hz
    exact ⟨h1 _ (way_lot w z hz), r, h5⟩
  · rw [List.mem_singleton] at hz
    subst hz
    exact ⟨h2, _, (end_self gs g).symm⟩
theorem way_con {gs : G} {lot : List Nat} {s t : Nat} {row : List (Nat × Nat)} (w : Way gs lot s row t) : ∀ x ∈ row.map (·.2) ++ [t], Con gs (row.map (·.1)) s x := by
  induction w with
  | nil =>
    intro x hx
    rw [List.map_nil, List.nil_append, List.mem_singleton] at hx
    subst hx
    exact .refl
  | @snoc row k q r _ hk e _ _ ih =>
    intro x hx
    have up : ∀ {p q : Nat}, Con gs (row.map (·.1)) p q → Con gs ((row ++ [(k, q)]).map (·.1)) p q := fun h => h.mono fun j hj => by
      rw [List.map_append]
      exact List.mem_append.mpr (.inl hj)
    rw [List.map_append] at hx ⊢
    have up : ∀ {p z : Nat}, Con gs (row.map (·.1)) p z → Con gs (row.map (·.1) ++ [(k, q)].map (·.1)) p z := fun h => h.mono fun j hj => List.mem_append.mpr (.inl hj)
    rcases List.mem_append.mp hx with hx | hx
    · exact up (ih x hx)
    · rw [List.mem_singleton] at hx
      subst hx
      exact (up (ih q (by simp))).step ⟨k, by simp, e⟩
theorem Round.con {gs : G} {E : List Nat} {W : List (Nat × Nat)} (h : Round gs E W) : ∀ x ∈ W.map (·.2), ∀ y ∈ W.map (·.2), Con gs (W.map (·.1)) x y := by
  obtain ⟨pre, row, g, rfl, w, h1, h2, h3, h4⟩ := h.ex
  have c : ∀ x ∈ (row ++ [(g, (gAt gs g).2)]).map (·.2), Con gs ((row ++ [(g, (gAt gs g).2)]).map (·.1)) (gAt gs g).1 x := fun x hx => by
    rw [List.map_append] at hx ⊢
    exact (way_con w x hx).mono fun j hj => List.mem_append.mpr (.inl hj)
  exact fun x hx y hy => (c x hx).symm.trans (c y hy)
/-- a tree and its free place -/
theorem tree_kept {n : Nat} {gs : G} {oth P first : List Nat} {f : Nat} {F : Nat → Prop} (h : Part n gs oth P) (nd : oth.Nodup) (ht : (guestsIn gs oth P).length + 1 = P.length) (hf : f ∈ P) (h1 : ∀ x, x ∈ first ↔ x = f) (hF : F f) (hn : ∀ k ∈ oth, ¬ F (gAt gs k).1) :
    Kept gs (guestsIn gs oth P) P F (grown gs (guestsIn gs oth P) first) ∧ ∀ k ∈ guestsIn gs oth P, k ∈ grown gs (guestsIn gs oth P) first := by
  obtain ⟨g1, g2, g3, g4⟩ := grown_ok (gs := gs) (first := first) (guestsIn_nodup (gs := gs) nd P)
  have m : ∀ x, x ∈ first.foldl addOne [] ↔ x = f := fun x => by
    rw [mem_addAll, h1]
    simp
  have ndf : (first.foldl addOne []).Nodup := nodup_addAll (by simp)
  have all := h.all g4 hf (mem_after.mpr (.inl ((m f).mpr rfl)))
  have one : (first.foldl addOne []).length = 1 := by
    have a := nodup_sub ndf (m := [f]) fun x hx => List.mem_singleton.mpr ((m x).mp hx)
    have b := List.length_pos_of_mem ((m f).mpr rfl)
    rw [List.length_singleton] at a
    omega
  refine ⟨⟨g1, g2, fun taken fr => ?_⟩, nodup_full g1 g2 ?_⟩
  · obtain ⟨ps, s1, s2, s3⟩ := gro_sits (P := P) (F := F) (taken := taken) g3 (fun k hk => ⟨(h.ends (g2 k hk)).1, (h.ends (g2 k hk)).2, hn k (mem_guestsIn.mp (g2 k hk)).1⟩) (fun x hx => .inr ((m x).mp hx ▸ hF)) (fun x hx ht => absurd ht (fr x hx))
    exact ⟨ps, s1, fun x hx => (s2 x (all x hx)).elim (fun z => absurd z (fr x hx)) id, s3⟩
  · have := nodup_sub h.nd all
    rw [gro_len g3 ndf, one] at this
    omega
/-- a part with a round -/
theorem round_kept {n : Nat} {gs : G} {oth P : List Nat} {W : List (Nat × Nat)} {F : Nat → Prop} (h : Part n gs oth P) (nd : oth.Nodup) (hr : Round gs (guestsIn gs oth P) W) (hn : ∀ k ∈ oth, ¬ F (gAt gs k).1) {kept : List Nat}
    (hk : kept = seatedRound gs W ++ grown gs ((guestsIn gs oth P).filter fun k => !decide (k ∈ seatedRound gs W)) (W.map (·.2))) :
    Kept gs (guestsIn gs oth P) P F kept ∧ kept.length = P.length ∧ ∀ x ∈ P, ∀ y ∈ P, Con gs kept x y := by
  have pm := round_perm (gs := gs) W
  have ndE := guestsIn_nodup (gs := gs) nd P
  have out : ∀ k, k ∈ ((guestsIn gs oth P).filter fun k => !decide (k ∈ seatedRound gs W)) ↔ k ∈ guestsIn gs oth P ∧ k ∉ seatedRound gs W := fun k => by
    rw [List.mem_filter]
    simp
  obtain ⟨g1, g2, g3, g4⟩ := grown_ok (gs := gs) (E := (guestsIn gs oth P).filter fun k => !decide (k ∈ seatedRound gs W)) (first := W.map (·.2)) (ndE.sublist List.filter_sublist)
  have m : ∀ x, x ∈ (W.map (·.2)).foldl addOne [] ↔ x ∈ W.map (·.2) := fun x => by
    rw [mem_addAll]
    simp
  have ndf : ((W.map (·.2)).foldl addOne []).Nodup := nodup_addAll (by simp)
  have lf : ((W.map (·.2)).foldl addOne []).length = W.length := by
    have a := nodup_sub ndf (m := W.map (·.2)) fun x hx => (m x).mp hx
    have b := nodup_sub hr.places.1 (m := (W.map (·.2)).foldl addOne []) fun x hx => (m x).mpr hx
    rw [List.length_map] at a b
    omega
  have inP : ∀ x ∈ W.map (·.2), x ∈ P := fun x hx => by
    obtain ⟨z, hz, rfl⟩ := List.mem_map.mp hx
    obtain ⟨a, r, e⟩ := hr.at z hz
    have := h.ends a
    rcases e with ⟨e, _⟩ | ⟨e, _⟩
    · exact e ▸ this.1
    · exact e ▸ this.2
  have memW : ∀ k, k ∈ seatedRound gs W ↔ k ∈ W.map (·.1) := fun k => pm.mem_iff
  have cl : ∀ k ∈ guestsIn gs oth P, (gAt gs k).1 ∈ after gs ((W.map (·.2)).foldl addOne []) (grown gs ((guestsIn gs oth P).filter fun k => !decide (k ∈ seatedRound gs W)) (W.map (·.2))) ↔ (gAt gs k).2 ∈ after gs ((W.map (·.2)).foldl addOne []) (grown gs ((guestsIn gs oth P).filter fun k => !decide (k ∈ seatedRound gs W)) (W.map (·.2))) := fun k hk => by
    by_cases e : k ∈ seatedRound gs W
    · obtain ⟨z, hz, rfl⟩ := List.mem_map.mp ((memW k).mp e)
      obtain ⟨a, b⟩ := hr.places.2.2 z hz
      exact ⟨fun _ => mem_after.mpr (.inl ((m _).mpr b)), fun _ => mem_after.mpr (.inl ((m _).mpr a))⟩
    · exact g4 k ((out k).mpr ⟨hk, e⟩)
  obtain ⟨x0, hx0⟩ : ∃ x, x ∈ W.map (·.2) := by
    have := hr.places.2.1
    cases W with
    | nil => exact absurd rfl this
    | cons z t => exact ⟨z.2, by simp⟩
  have all := h.all cl (inP x0 hx0) (mem_after.mpr (.inl ((m x0).mpr hx0)))
  have back : ∀ x ∈ after gs ((W.map (·.2)).foldl addOne []) (grown gs ((guestsIn gs oth P).filter fun k => !decide (k ∈ seatedRound gs W)) (W.map (·.2))), x ∈ P := fun x hx => by
    rcases mem_after.mp hx with hx | ⟨k, hk, hx⟩
    · exact inP x ((m x).mp hx)
    · have := h.ends ((out k).mp (g2 k hk)).1
      rcases hx with rfl | rfl
      · exact this.1
      · exact this.2
  subst hk
  refine ⟨⟨?_, fun k hk => ?_, fun taken fr => ?_⟩, ?_, fun x hx y hy => ?_⟩
  · refine List.nodup_append.mpr ⟨pm.nodup_iff.mpr hr.guests.1, g1, fun a ha b hb => ?_⟩
    rintro rfl
    exact ((out a).mp (g2 a hb)).2 ha
  · rcases List.mem_append.mp hk with hk | hk
    · exact hr.guests.2 k ((memW k).mp hk)
    · exact ((out k).mp (g2 k hk)).1
  · obtain ⟨ps1, s1, s2⟩ := round_sits hr (taken := taken) fun p hp => fr p (inP p hp)
    obtain ⟨ps2, t1, t2, t3⟩ := gro_sits (P := P) (F := F) (taken := taken ++ ps1) g3 (fun k hk => ⟨(h.ends ((out k).mp (g2 k hk)).1).1, (h.ends ((out k).mp (g2 k hk)).1).2, hn k (mem_guestsIn.mp ((out k).mp (g2 k hk)).1).1⟩)
      (fun x hx => .inl (List.mem_append.mpr (.inr ((s2 x).mpr ((m x).mp hx))))) (fun x hx ht => by
        rcases List.mem_append.mp ht with ht | ht
        · exact absurd ht (fr x hx)
        · exact (m x).mpr ((s2 x).mp ht))
    refine ⟨ps1 ++ ps2, s1.append t1, fun x hx => ?_, fun x hx => ?_⟩
    · rcases t2 x (all x hx) with z | z | z
      · rcases List.mem_append.mp z with z | z
        · exact absurd z (fr x hx)
        · exact .inl (List.mem_append.mpr (.inl z))
      · exact .inl (List.mem_append.mpr (.inr z))
      · exact .inr z
    · rcases List.mem_append.mp hx with hx | hx
      · exact inP x ((s2 x).mp hx)
      · exact t3 x hx
  · have a := nodup_sub h.nd all
    have b := nodup_sub (nodup_after (gs := gs) (r := grown gs ((guestsIn gs oth P).filter fun k => !decide (k ∈ seatedRound gs W)) (W.map (·.2))) ndf) back
    rw [gro_len g3 ndf, lf] at a b
    rw [List.length_append, pm.length_eq, List.length_map]
    omega
  · have go : ∀ x ∈ P, ∃ z ∈ W.map (·.2), Con gs (seatedRound gs W ++ grown gs ((guestsIn gs oth P).filter fun k => !decide (k ∈ seatedRound gs W)) (W.map (·.2))) x z := fun x hx => by
      obtain ⟨z, hz, c⟩ := gro_con g3 x (all x hx)
      exact ⟨z, (m z).mp hz, c.mono fun j hj => List.mem_append.mpr (.inr hj)⟩
    obtain ⟨z1, hz1, c1⟩ := go x hx
    obtain ⟨z2, hz2, c2⟩ := go y hy
    exact c1.trans (((hr.con z1 hz1 z2 hz2).mono fun j hj => List.mem_append.mpr (.inl ((memW j).mpr hj))).trans c2.symm)
end Gq
/-! Plain mathematics, 4: orders whose lot without is what is asked. -/
namespace Gq
open Gr
theorem mem_others {m : Nat} {lot : List Nat} {k : Nat} : k ∈ others m lot ↔ k < m ∧ k ∉ lot := by
  unfold others
  rw [List.mem_filter, List.mem_range]
  simp
theorem others_sorted (m : Nat) (lot : List Nat) : (others m lot).Pairwise (· < ·) := (sorted_range m).filter _
theorem others_nodup (m : Nat) (lot : List Nat) : (others m lot).Nodup := sorted_nodup (others_sorted m lot)
theorem others_lt {m : Nat} {lot : List Nat} : ∀ k ∈ others m lot, k < m := fun k hk => (mem_others.mp hk).1
theorem mem_unwanted {n : Nat} {gs : G} {p : Nat} : p ∈ unwanted n gs ↔ p < n ∧ ∀ k, k < gs.length → (gAt gs k).1 ≠ p := by
  unfold unwanted
  rw [List.mem_filter, List.mem_range, Bool.not_eq_true', decide_eq_false_iff_not]
  refine and_congr_right fun _ => ⟨fun h k hk e => h ?_, fun h z => ?_⟩
  · refine List.mem_map.mpr ⟨gs[k], List.getElem_mem hk, ?_⟩
    rw [← e]
    unfold gAt
    rw [List.getD_eq_getElem?_getD, List.getElem?_eq_getElem hk]
    rfl
  · obtain ⟨g, hg, rfl⟩ := List.mem_map.mp z
    obtain ⟨k, hk, rfl⟩ := List.mem_iff_getElem.mp hg
    refine h k hk ?_
    unfold gAt
    rw [List.getD_eq_getElem?_getD, List.getElem?_eq_getElem hk]
    rfl
theorem mem_met {gs : G} {lot : List Nat} {p : Nat} : p ∈ met gs lot ↔ ∃ k ∈ lot, p = (gAt gs k).1 ∨ p = (gAt gs k).2 := by
  unfold met
  simp [List.mem_flatMap]
theorem mem_spare {n : Nat} {gs : G} {lot : List Nat} {p : Nat} : p ∈ spare n gs lot ↔ p ∈ unwanted n gs ∧ p ∉ met gs lot := by
  unfold spare
  rw [List.mem_filter]
  simp
theorem isTree_iff {gs : G} {oth P : List Nat} : isTree gs oth P = true ↔ (guestsIn gs oth P).length + 1 = P.length := by
  unfold isTree
  rw [decide_eq_true_eq]
/-! ### seats -/
theorem seats_sits {gs : G} : ∀ {row ps taken l : List Nat}, Sits gs taken row ps → seats gs taken (row ++ l) = row.zip (ps.map some) ++ seats gs (taken ++ ps) l
  | _, _, taken, l, .nil => by simp
  | _, _, taken, l, .cons (k := k) (p := p) (row := row) (ps := ps) e h => by
    rw [List.cons_append, seats, e]
    have : push taken (some p) = taken ++ [p] := by
      show addOne taken p = _
      unfold addOne
      rw [if_neg (seat_not e)]
    rw [this, seats_sits h, List.map_cons, List.zip_cons_cons, List.cons_append, List.append_assoc, List.singleton_append]
theorem seats_none {gs : G} {taken : List Nat} : ∀ {l : List Nat}, (∀ k ∈ l, (gAt gs k).1 ∈ taken ∧ (gAt gs k).2 ∈ taken) → seats gs taken l = l.map fun k => (k, none)
  | [], _ => rfl
  | k :: l, h => by
    obtain ⟨a, b⟩ := h k (List.mem_cons_self ..)
    have e : seat gs taken k = none := by
      unfold seat
      rw [if_neg (fun z => z a), if_pos b]
    rw [seats, e, List.map_cons]
    congr 1
    exact seats_none fun j hj => h j (List.mem_cons_of_mem _ hj)
theorem lacks_of {gs : G} {row ps l : List Nat} (h : Sits gs [] row ps) (hl : ∀ k ∈ l, (gAt gs k).1 ∈ ps ∧ (gAt gs k).2 ∈ ps) : lacks gs (row ++ l) = l := by
  unfold lacks
  rw [seats_sits h, List.nil_append, seats_none hl, List.filter_append, List.map_append]
  have e1 : ((row.zip (ps.map some)).filter fun q => q.2.isNone) = [] := by
    refine List.filter_eq_nil_iff.mpr fun q hq => ?_
    obtain ⟨p, _, e⟩ := List.mem_map.mp (List.of_mem_zip hq).2
    rw [← e]
    simp
  have e2 : (l.map fun k => (k, (none : Option Nat))).filter (fun q => q.2.isNone) = l.map fun k => (k, none) := List.filter_eq_self.mpr fun q hq => by
    obtain ⟨k, _, rfl⟩ := List.mem_map.mp hq
    rfl
  rw [e1, e2, List.map_map]
  show [] ++ l.map (fun k => k) = l
  rw [List.nil_append, List.map_id']
/-! ### orders made part by part -/
theorem flat_sits {gs : G} {F : Nat → Prop} {kept : List Nat → List Nat} {E : List Nat → List Nat} : ∀ (Ps : List (List Nat)) (taken : List Nat), (∀ P ∈ Ps, Kept gs (E P) P F (kept P)) → Ps.Pairwise (fun a b => ∀ x ∈ a, x ∉ b) → (∀ P ∈ Ps, ∀ p ∈ P, p ∉ taken) →
    ∃ ps, Sits gs taken (Ps.flatMap kept) ps ∧ (∀ P ∈ Ps, ∀ x ∈ P, x ∈ ps ∨ F x) ∧ ∀ x ∈ ps, ∃ P ∈ Ps, x ∈ P
  | [], taken, _, _, _ => ⟨[], .nil, fun P hP => (by cases hP), fun x hx => (by cases hx)⟩
  | P :: Ps, taken, h, dis, fr => by
    rw [List.pairwise_cons] at dis
    obtain ⟨ps, s1, s2, s3⟩ := (h P (List.mem_cons_self ..)).sits taken (fr P (List.mem_cons_self ..))
    obtain ⟨qs, t1, t2, t3⟩ := flat_sits Ps (taken ++ ps) (fun Q hQ => h Q (List.mem_cons_of_mem _ hQ)) dis.2 (fun Q hQ p hp z => by
      rcases List.mem_append.mp z with z | z
      · exact fr Q (List.mem_cons_of_mem _ hQ) p hp z
      · exact dis.1 Q hQ p (s3 p z) hp)
    refine ⟨ps ++ qs, s1.append t1, fun Q hQ x hx => ?_, fun x hx => ?_⟩
    · rcases List.mem_cons.mp hQ with rfl | hQ
      · exact (s2 x hx).elim (fun z => .inl (List.mem_append.mpr (.inl z))) .inr
      · exact (t2 Q hQ x hx).elim (fun z => .inl (List.mem_append.mpr (.inr z))) .inr
    · rcases List.mem_append.mp hx with hx | hx
      · exact ⟨P, List.mem_cons_self .., s3 x hx⟩
      · obtain ⟨Q, hQ, z⟩ := t3 x hx
        exact ⟨Q, List.mem_cons_of_mem _ hQ, z⟩
theorem flat_nodup {gs : G} {oth : List Nat} {kept : List Nat → List Nat} : ∀ (Ps : List (List Nat)), (∀ P ∈ Ps, (kept P).Nodup ∧ ∀ k ∈ kept P, k ∈ guestsIn gs oth P) → Ps.Pairwise (fun a b => ∀ x ∈ a, x ∉ b) → (Ps.flatMap kept).Nodup
  | [], _, _ => by simp
  | P :: Ps, h, dis => by
    rw [List.pairwise_cons] at dis
    rw [List.flatMap_cons]
    refine List.nodup_append.mpr ⟨(h P (List.mem_cons_self ..)).1, flat_nodup Ps (fun Q hQ => h Q (List.mem_cons_of_mem _ hQ)) dis.2, fun a ha b hb => ?_⟩
    rintro rfl
    obtain ⟨Q, hQ, hk⟩ := List.mem_flatMap.mp hb
    exact dis.1 Q hQ _ (mem_guestsIn.mp ((h P (List.mem_cons_self ..)).2 a ha)).2 (mem_guestsIn.mp ((h Q (List.mem_cons_of_mem _ hQ)).2 a hk)).2
/-- what makes an order of a lot -/
structure Good (n : Nat) (gs : G) (lot : List Nat) : Prop where
  tree : ∀ P ∈ parts n gs (others gs.length lot), isTree gs (others gs.length lot) P = true → ∃ p ∈ P, p ∈ spare n gs lot
  full : ∀ P ∈ parts n gs (others gs.length lot), isTree gs (others gs.length lot) P = false → (guestsIn gs (others gs.length lot) P).length = P.length
theorem two_parts {Ps : List (List Nat)} (dis : Ps.Pairwise (fun a b => ∀ x ∈ a, x ∉ b)) {P Q : List Nat} (hP : P ∈ Ps) (hQ : Q ∈ Ps) {x : Nat} (h1 : x ∈ P) (h2 : x ∈ Q) : P = Q := by
  induction Ps with
  | nil => cases hP
  | cons R Ps ih =>
    rw [List.pairwise_cons] at dis
    rcases List.mem_cons.mp hP with e | hP1
    · rcases List.mem_cons.mp hQ with e' | hQ1
      · rw [e, e']
      · exact absurd h2 (dis.1 Q hQ1 x (e ▸ h1))
    · rcases List.mem_cons.mp hQ with e' | hQ1
      · exact absurd h1 (dis.1 P hP1 x (e' ▸ h2))
      · exact ih dis.2 hP1 hQ1
theorem frees_one {n : Nat} {gs : G} {lot P : List Nat} (hw : Web n gs) (good : Good n gs lot) (hP : P ∈ parts n gs (others gs.length lot)) (ht : isTree gs (others gs.length lot) P = true) : ∃ f, f ∈ P ∧ f ∈ spare n gs lot ∧ ∀ x, x ∈ P.filter (fun p => decide (p ∈ freesOf n gs lot)) ↔ x = f := by
  have pi := parts_is hw (lot := others gs.length lot) others_lt
  have hd : ∀ Q ∈ parts n gs (others gs.length lot), isTree gs (others gs.length lot) Q = true → (Q.filter fun p => decide (p ∈ spare n gs lot)).headD 0 ∈ Q.filter fun p => decide (p ∈ spare n gs lot) := fun Q hQ h => by
    obtain ⟨p, h1, h2⟩ := good.tree Q hQ h
    have : p ∈ Q.filter fun p => decide (p ∈ spare n gs lot) := List.mem_filter.mpr ⟨h1, decide_eq_true h2⟩
    cases hc : Q.filter fun p => decide (p ∈ spare n gs lot) with
    | nil => rw [hc] at this; cases this
    | cons a t => exact List.mem_cons_self ..
  have h0 := hd P hP ht
  obtain ⟨a, b⟩ := List.mem_filter.mp h0
  refine ⟨_, a, of_decide_eq_true b, fun x => ?_⟩
  rw [List.mem_filter, decide_eq_true_eq]
  constructor
  · rintro ⟨hx, hf⟩
    unfold freesOf at hf
    obtain ⟨Q, hQ, e⟩ := List.mem_map.mp hf
    unfold treesOf at hQ
    obtain ⟨hQ, hT⟩ := List.mem_filter.mp hQ
    have h1 := (List.mem_filter.mp (hd Q hQ hT)).1
    rw [e] at h1
    have := two_parts pi.2.1 hP hQ hx h1
    subst this
    exact e.symm
  · rintro rfl
    refine ⟨a, ?_⟩
    unfold freesOf treesOf
    exact List.mem_map.mpr ⟨P, List.mem_filter.mpr ⟨hP, ht⟩, rfl⟩
theorem not_spare {n : Nat} {gs : G} {lot : List Nat} {k : Nat} (hk : k < gs.length) : (gAt gs k).1 ∉ spare n gs lot := fun h => (mem_unwanted.mp (mem_spare.mp h).1).2 k hk rfl
theorem kept_ok {n : Nat} {gs : G} {lot P : List Nat} (hw : Web n gs) (good : Good n gs lot) (hP : P ∈ parts n gs (others gs.length lot)) :
    Kept gs (guestsIn gs (others gs.length lot) P) P (fun x => x ∈ spare n gs lot) (keptIn n gs (others gs.length lot) P (freesOf n gs lot)) ∧ ∀ k ∈ guestsIn gs (others gs.length lot) P, k ∈ keptIn n gs (others gs.length lot) P (freesOf n gs lot) := by
  have pt := part_of hw (lot := others gs.length lot) others_lt hP
  have nd := others_nodup gs.length lot
  unfold keptIn
  by_cases ht : isTree gs (others gs.length lot) P = true
  · rw [if_pos ht]
    obtain ⟨f, f1, f2, f3⟩ := frees_one hw good hP ht
    exact tree_kept pt nd (isTree_iff.mp ht) f1 f3 f2 fun k hk => not_spare (others_lt k hk)
  · rw [if_neg ht]
    have ht' : isTree gs (others gs.length lot) P = false := by
      cases h : isTree gs (others gs.length lot) P with
      | true => exact absurd h ht
      | false => rfl
    obtain ⟨W, w1, w2⟩ := pt.round hw others_lt nd ht'
    have := round_kept (F := fun x => x ∈ spare n gs lot) pt nd w2 (fun k hk => not_spare (others_lt k hk)) rfl
    rw [w1]
    refine ⟨this.1, nodup_full this.1.nd this.1.sub ?_⟩
    have h2 : (seatedRound gs W ++ grown gs ((guestsIn gs (others gs.length lot) P).filter fun k => !decide (k ∈ seatedRound gs W)) (W.map (·.2))).length = P.length := this.2.1
    have h3 := good.full P hP ht'
    show (guestsIn gs (others gs.length lot) P).length ≤ (seatedRound gs W ++ grown gs ((guestsIn gs (others gs.length lot) P).filter fun k => !decide (k ∈ seatedRound gs W)) (W.map (·.2))).length
    omega
/-- the order made of a lot: all guests, and just the lot goes without -/
theorem order_ok {n : Nat} {gs : G} {lot : List Nat} (hw : Web n gs) (hl : Lot gs lot) (good : Good n gs lot) : IsOrder gs (orderInLot n gs lot) ∧ Gr.without gs (orderInLot n gs lot) = lot := by
  have pi := parts_is hw (lot := others gs.length lot) others_lt
  obtain ⟨ps, s1, s2, s3⟩ := flat_sits (E := fun P => guestsIn gs (others gs.length lot) P) (kept := fun P => keptIn n gs (others gs.length lot) P (freesOf n gs lot)) (F := fun x => x ∈ spare n gs lot) (parts n gs (others gs.length lot)) [] (fun P hP => (kept_ok hw good hP).1) pi.2.1 (fun P hP p hp => by simp)
  have inps : ∀ p, p < n → p ∉ spare n gs lot → p ∈ ps := fun p hp hs => by
    obtain ⟨P, hP, hin⟩ := pi.2.2 p hp
    exact (s2 P hP p hin).elim id fun z => absurd z hs
  constructor
  · refine (List.perm_ext_iff_of_nodup ?_ List.nodup_range).mpr fun k => ?_
    · unfold orderInLot orderBy
      refine List.nodup_append.mpr ⟨flat_nodup (gs := gs) (oth := others gs.length lot) _ (fun P hP => ⟨(kept_ok hw good hP).1.nd, (kept_ok hw good hP).1.sub⟩) pi.2.1, sorted_nodup hl.asc, fun a ha b hb => ?_⟩
      rintro rfl
      obtain ⟨P, hP, hk⟩ := List.mem_flatMap.mp ha
      exact (mem_others.mp (mem_guestsIn.mp ((kept_ok hw good hP).1.sub a hk)).1).2 hb
    · unfold orderInLot orderBy
      rw [List.mem_append, List.mem_range]
      constructor
      · rintro (h | h)
        · obtain ⟨P, hP, hk⟩ := List.mem_flatMap.mp h
          exact others_lt k (mem_guestsIn.mp ((kept_ok hw good hP).1.sub k hk)).1
        · exact hl.ok k h
      · intro hk
        by_cases hin : k ∈ lot
        · exact .inr hin
        · obtain ⟨P, hP, hp⟩ := pi.2.2 _ (gAt_ok hw hk).1
          exact .inl (List.mem_flatMap.mpr ⟨P, hP, (kept_ok hw good hP).2 k (mem_guestsIn.mpr ⟨mem_others.mpr ⟨hk, hin⟩, hp⟩)⟩)
  · unfold Gr.without orderInLot orderBy
    rw [lacks_of s1 fun k hk => ?_]
    · refine sorted_uniq (asc_sorted _ _) hl.asc fun x => ?_
      rw [mem_asc]
      exact ⟨fun h => h.2, fun h => ⟨hl.ok x h, h⟩⟩
    · have hk' := hl.ok k hk
      exact ⟨inps _ (gAt_ok hw hk').1 (not_spare hk'), inps _ (gAt_ok hw hk').2.1 fun z => (mem_spare.mp z).2 (mem_met.mpr ⟨k, hk, .inr rfl⟩)⟩
/-- a tree where none of the lot ends, too, has a spare place -/
theorem spare_of {n : Nat} {gs : G} {lot P : List Nat} (hw : Web n gs) (hb : barring n gs lot = []) (hP : P ∈ parts n gs (others gs.length lot)) (ht : isTree gs (others gs.length lot) P = true) : ∃ p ∈ P, p ∈ spare n gs lot := by
  have pt := part_of hw (lot := others gs.length lot) others_lt hP
  have nb : bars n gs lot P ≠ true := fun h => by
    have : P ∈ barring n gs lot := List.mem_filter.mpr ⟨hP, h⟩
    rw [hb] at this
    cases this
  refine Classical.byContradiction fun hno => ?_
  have no : (P.any fun p => decide (p ∈ spare n gs lot)) = false := by
    rw [List.any_eq_false]
    exact fun p hp z => hno ⟨p, hp, of_decide_eq_true z⟩
  by_cases hm : (P.any fun p => decide (p ∈ met gs lot)) = true
  · refine nb ?_
    unfold bars
    rw [ht, hm, no]
    rfl
  · have few : P.length ≤ ((guestsIn gs (others gs.length lot) P).map fun k => (gAt gs k).1).length := nodup_sub pt.nd fun p hp => by
      have nm : p ∉ met gs lot := fun z => hm (List.any_eq_true.mpr ⟨p, hp, decide_eq_true z⟩)
      have nu : p ∉ unwanted n gs := fun z => hno ⟨p, hp, mem_spare.mpr ⟨z, nm⟩⟩
      rw [mem_unwanted] at nu
      obtain ⟨k, hk⟩ := Classical.not_forall.mp fun h => nu ⟨pt.lt p hp, h⟩
      obtain ⟨hk, e⟩ := Classical.not_imp.mp hk
      have e := Classical.not_not.mp e
      refine List.mem_map.mpr ⟨k, mem_guestsIn.mpr ⟨mem_others.mpr ⟨hk, fun z => nm (mem_met.mpr ⟨k, z, .inl e.symm⟩)⟩, by rw [e]; exact hp⟩, e⟩
    have := isTree_iff.mp ht
    rw [List.length_map] at few
    omega
theorem mem_lotGrown {n : Nat} {gs : G} {lot : List Nat} {k : Nat} : k ∈ lotGrown n gs lot ↔ k < gs.length ∧ (k ∈ lot ∨ ∃ P ∈ parts n gs (others gs.length lot), P.length < (guestsIn gs (others gs.length lot) P).length ∧ k ∈ guestsIn gs (others gs.length lot) P ∧ k ∉ keptIn n gs (others gs.length lot) P []) := by
  unfold lotGrown
  rw [mem_asc, List.mem_append, List.mem_flatMap]
  refine and_congr_right fun _ => or_congr_right ⟨fun ⟨P, hP, h⟩ => ?_, fun ⟨P, hP, h1, h2, h3⟩ => ⟨P, hP, ?_⟩⟩
  · unfold moreOf at h
    split at h
    · rename_i hc
      rw [List.mem_filter] at h
      exact ⟨P, hP, hc, h.1, by simpa using h.2⟩
    · cases h
  · unfold moreOf
    rw [if_pos h1, List.mem_filter]
    exact ⟨h2, by simpa using h3⟩
theorem lotGrown_lot {n : Nat} {gs : G} {lot : List Nat} : Lot gs (lotGrown n gs lot) := ⟨asc_sorted _ _, fun k hk => (mem_lotGrown.mp hk).1⟩
theorem lotGrown_sub {n : Nat} {gs : G} {lot : List Nat} (hl : Lot gs lot) : ∀ k ∈ lot, k ∈ lotGrown n gs lot := fun k hk => mem_lotGrown.mpr ⟨hl.ok k hk, .inl hk⟩
theorem rest_grown {n : Nat} {gs : G} {lot : List Nat} (hw : Web n gs) {P : List Nat} (hP : P ∈ parts n gs (others gs.length lot)) {k : Nat} : k ∈ guestsIn gs (others gs.length (lotGrown n gs lot)) P ↔ k ∈ guestsIn gs (others gs.length lot) P ∧ (P.length < (guestsIn gs (others gs.length lot) P).length → k ∈ keptIn n gs (others gs.length lot) P []) := by
  have pi := parts_is hw (lot := others gs.length lot) others_lt
  rw [mem_guestsIn, mem_others, mem_lotGrown, mem_guestsIn, mem_others]
  constructor
  · rintro ⟨⟨h1, h2⟩, h3⟩
    have nl : k ∉ lot := fun z => h2 ⟨h1, .inl z⟩
    have inG : k ∈ guestsIn gs (others gs.length lot) P := mem_guestsIn.mpr ⟨mem_others.mpr ⟨h1, nl⟩, h3⟩
    exact ⟨⟨⟨h1, nl⟩, h3⟩, fun hc => Classical.byContradiction fun z => h2 ⟨h1, .inr ⟨P, hP, hc, inG, z⟩⟩⟩
  · rintro ⟨⟨⟨h1, h2⟩, h3⟩, h4⟩
    refine ⟨⟨h1, fun h => ?_⟩, h3⟩
    rcases h.2 with z | ⟨Q, hQ, hc, hk, hn⟩
    · exact h2 z
    · have := two_parts pi.2.1 hP hQ h3 (mem_guestsIn.mp hk).2
      subst this
      exact hn (h4 hc)
theorem crowd_kept {n : Nat} {gs : G} {lot P : List Nat} (hw : Web n gs) (hP : P ∈ parts n gs (others gs.length lot)) (hc : P.length < (guestsIn gs (others gs.length lot) P).length) :
    (keptIn n gs (others gs.length lot) P []).Nodup ∧ (∀ k ∈ keptIn n gs (others gs.length lot) P [], k ∈ guestsIn gs (others gs.length lot) P) ∧ (keptIn n gs (others gs.length lot) P []).length = P.length ∧ ∀ x ∈ P, ∀ y ∈ P, Con gs (keptIn n gs (others gs.length lot) P []) x y := by
  have pt := part_of hw (lot := others gs.length lot) others_lt hP
  have nd := others_nodup gs.length lot
  have ht : isTree gs (others gs.length lot) P = false := by
    unfold isTree
    rw [decide_eq_false_iff_not]
    omega
  obtain ⟨W, w1, w2⟩ := pt.round hw others_lt nd ht
  have := round_kept (F := fun _ => False) pt nd w2 (fun k hk => id) rfl
  unfold keptIn
  rw [if_neg (by rw [ht]; exact Bool.false_ne_true), w1]
  exact ⟨this.1.nd, this.1.sub, this.2.1, this.2.2⟩
theorem con_grown {n : Nat} {gs : G} {lot P : List Nat} (hw : Web n gs) (hP : P ∈ parts n gs (others gs.length lot)) {p q : Nat} (hp : p ∈ P) : Con gs (others gs.length (lotGrown n gs lot)) p q ↔ Con gs (others gs.length lot) p q := by
  have pt := part_of hw (lot := others gs.length lot) others_lt hP
  constructor
  · refine fun h => h.mono fun k hk => ?_
    obtain ⟨h1, h2⟩ := mem_others.mp hk
    exact mem_others.mpr ⟨h1, fun z => h2 (mem_lotGrown.mpr ⟨h1, .inl z⟩)⟩
  · intro h
    have hq := (pt.con p hp q).mpr h
    by_cases hc : P.length < (guestsIn gs (others gs.length lot) P).length
    · obtain ⟨k1, k2, k3, k4⟩ := crowd_kept hw hP hc
      exact (k4 p hp q hq).mono fun k hk => (mem_guestsIn.mp ((rest_grown hw hP).mpr ⟨k2 k hk, fun _ => hk⟩)).1
    · exact (pt.own hp hq).mono fun k hk => (mem_guestsIn.mp ((rest_grown hw hP).mpr ⟨hk, fun z => absurd z hc⟩)).1
theorem parts_grown {n : Nat} {gs : G} {lot P : List Nat} (hw : Web n gs) (hP : P ∈ parts n gs (others gs.length (lotGrown n gs lot))) : P ∈ parts n gs (others gs.length lot) := by
  obtain ⟨p, hp, rfl⟩ := (parts_is hw (lot := others gs.length (lotGrown n gs lot)) others_lt).1 P hP
  have hin := part_in hw (lot := others gs.length lot) others_lt hp
  have self := (mem_partFrom hw (lot := others gs.length lot) others_lt hp).mpr .refl
  have : partFrom n (bes gs (others gs.length (lotGrown n gs lot))) p = partFrom n (bes gs (others gs.length lot)) p := sorted_uniq (asc_sorted _ _) (asc_sorted _ _) fun x => by
    rw [mem_partFrom hw others_lt hp, mem_partFrom hw others_lt hp]
    exact con_grown hw hin self
  rw [this]
  exact hin
theorem good_grown {n : Nat} {gs : G} {lot : List Nat} (hw : Web n gs) (hb : barring n gs lot = []) : Good n gs (lotGrown n gs lot) := by
  have pi := parts_is hw (lot := others gs.length lot) others_lt
  have cnt : ∀ P ∈ parts n gs (others gs.length lot), P.length < (guestsIn gs (others gs.length lot) P).length → (guestsIn gs (others gs.length (lotGrown n gs lot)) P).length = P.length := fun P hP hc => by
    obtain ⟨k1, k2, k3, k4⟩ := crowd_kept hw hP hc
    rw [← k3]
    refine ((List.perm_ext_iff_of_nodup (guestsIn_nodup (others_nodup _ _) _) k1).mpr fun k => ?_).length_eq
    rw [rest_grown hw hP]
    exact ⟨fun h => h.2 hc, fun h => ⟨k2 k h, fun _ => h⟩⟩
  have same : ∀ P ∈ parts n gs (others gs.length lot), ¬ P.length < (guestsIn gs (others gs.length lot) P).length → (guestsIn gs (others gs.length (lotGrown n gs lot)) P).length = (guestsIn gs (others gs.length lot) P).length := fun P hP hc => by
    refine ((List.perm_ext_iff_of_nodup (guestsIn_nodup (others_nodup _ _) _) (guestsIn_nodup (others_nodup _ _) _)).mpr fun k => ?_).length_eq
    rw [rest_grown hw hP]
    exact ⟨fun h => h.1, fun h => ⟨h, fun z => absurd z hc⟩⟩
  refine ⟨fun P hP ht => ?_, fun P hP ht => ?_⟩
  · have hP0 := parts_grown hw hP
    have pt := part_of hw (lot := others gs.length lot) others_lt hP0
    have tr := isTree_iff.mp ht
    by_cases hc : P.length < (guestsIn gs (others gs.length lot) P).length
    · have := cnt P hP0 hc
      omega
    · rw [same P hP0 hc] at tr
      obtain ⟨p, h1, h2⟩ := spare_of hw hb hP0 (isTree_iff.mpr tr)
      refine ⟨p, h1, mem_spare.mpr ⟨(mem_spare.mp h2).1, fun z => ?_⟩⟩
      obtain ⟨k, hk, he⟩ := mem_met.mp z
      obtain ⟨_, z | ⟨Q, hQ, hc', hk', _⟩⟩ := mem_lotGrown.mp hk
      · exact (mem_spare.mp h2).2 (mem_met.mpr ⟨k, z, he⟩)
      · have ptQ := part_of hw (lot := others gs.length lot) others_lt hQ
        have hpQ : p ∈ Q := by
          have := ptQ.ends hk'
          rcases he with rfl | rfl
          · exact this.1
          · exact this.2
        have := two_parts pi.2.1 hP0 hQ h1 hpQ
        subst this
        exact hc hc'
  · have hP0 := parts_grown hw hP
    have pt := part_of hw (lot := others gs.length lot) others_lt hP0
    by_cases hc : P.length < (guestsIn gs (others gs.length lot) P).length
    · exact cnt P hP0 hc
    · have e := same P hP0 hc
      unfold isTree at ht
      rw [decide_eq_false_iff_not] at ht
      have lo := pt.least (others_nodup gs.length lot)
      omega
theorem rounds {n : Nat} {gs : G} {lot : List Nat} (hw : Web n gs) : ∀ P ∈ parts n gs (others gs.length lot), isTree gs (others gs.length lot) P = false → ∃ W, roundOf n gs (others gs.length lot) P = some W := fun P hP ht => by
  obtain ⟨W, h, _⟩ := (part_of hw (lot := others gs.length lot) others_lt hP).round hw others_lt (others_nodup _ _) ht
  exact ⟨W, h⟩
/-! ### what bars a lot bars it from every order -/
def sat (gs : G) (taken row : List Nat) : List (Nat × Nat) := (seats gs taken row).filterMap fun q => q.2.map fun p => (q.1, p)
theorem sat_cons (gs : G) (taken row : List Nat) (k : Nat) : sat gs taken (k :: row) = (match seat gs taken k with | none => sat gs taken row | some p => (k, p) :: sat gs (addOne taken p) row) := by
  unfold sat
  rw [seats, List.filterMap_cons]
  cases seat gs taken k <;> rfl
theorem sat_fst {gs : G} : ∀ {row taken : List Nat}, ((sat gs taken row).map (·.1)).Sublist row
  | [], _ => by simp [sat, seats]
  | k :: row, taken => by
    rw [sat_cons]
    cases seat gs taken k with
    | none => exact (sat_fst (row := row) (taken := taken)).cons k
    | some p => exact (sat_fst (row := row) (taken := addOne taken p)).cons₂ k
theorem sat_end {gs : G} : ∀ {row taken : List Nat}, ∀ z ∈ sat gs taken row, z.2 = (gAt gs z.1).1 ∨ z.2 = (gAt gs z.1).2
  | [], _, z, h => by simp [sat, seats] at h
  | k :: row, taken, z, h => by
    rw [sat_cons] at h
    cases hs : seat gs taken k with
    | none =>
      rw [hs] at h
      exact sat_end (row := row) (taken := taken) z h
    | some p =>
      rw [hs] at h
      rcases List.mem_cons.mp h with rfl | h
      · unfold seat at hs
        split at hs
        · cases hs
          exact .inl rfl
        · split at hs
          · cases hs
          · cases hs
            exact .inr rfl
      · exact sat_end (row := row) (taken := addOne taken p) z h
/-- the near place of each is taken at the end, both of them of who goes without; who goes without sits nowhere -/
theorem sat_all {gs : G} : ∀ {row taken : List Nat}, row.Nodup → (∀ k ∈ row, (gAt gs k).1 ∈ taken ∨ (gAt gs k).1 ∈ (sat gs taken row).map (·.2)) ∧ ∀ q ∈ seats gs taken row, q.2.isNone = true → ((gAt gs q.1).2 ∈ taken ∨ (gAt gs q.1).2 ∈ (sat gs taken row).map (·.2)) ∧ q.1 ∉ (sat gs taken row).map (·.1)
  | [], taken, _ => by simp [sat, seats]
  | k :: row, taken, nd => by
    rw [List.nodup_cons] at nd
    have notin : ∀ t, k ∉ (sat gs t row).map (·.1) := fun t z => nd.1 (sat_fst.subset z)
    have hmem : ∀ (t : List Nat) (q : Nat × Option Nat), q ∈ seats gs t row → q.1 ∈ row := by
      clear nd notin
      induction row with
      | nil => intro t q h; cases h
      | cons j row ih =>
        intro t q h
        rw [seats] at h
        rcases List.mem_cons.mp h with rfl | h
        · exact List.mem_cons_self ..
        · exact List.mem_cons_of_mem _ (ih _ _ h)
    rw [sat_cons, seats]
    cases hs : seat gs taken k with
    | none =>
      dsimp only
      obtain ⟨h1, h2⟩ := sat_all (gs := gs) (taken := taken) nd.2
      have both : (gAt gs k).1 ∈ taken ∧ (gAt gs k).2 ∈ taken := by
        unfold seat at hs
        split at hs
        · cases hs
        · rename_i a
          split at hs
          · rename_i b
            exact ⟨Classical.not_not.mp a, b⟩
          · cases hs
      refine ⟨fun j hj => ?_, fun q hq hn => ?_⟩
      · rcases List.mem_cons.mp hj with rfl | hj
        · exact .inl both.1
        · exact h1 j hj
      · rcases List.mem_cons.mp hq with rfl | hq
        · exact ⟨.inl both.2, notin taken⟩
        · exact h2 q hq hn
    | some p =>
      dsimp only
      obtain ⟨h1, h2⟩ := sat_all (gs := gs) (taken := addOne taken p) nd.2
      have up : ∀ x, (x ∈ addOne taken p ∨ x ∈ (sat gs (addOne taken p) row).map (·.2)) → x ∈ taken ∨ x ∈ ((k, p) :: sat gs (addOne taken p) row).map (·.2) := fun x h => by
        rw [List.map_cons, List.mem_cons]
        rcases h with h | h
        · exact (mem_addOne.mp h).elim .inl fun z => .inr (.inl z)
        · exact .inr (.inr h)
      refine ⟨fun j hj => ?_, fun q hq hn => ?_⟩
      · rcases List.mem_cons.mp hj with rfl | hj
        · unfold seat at hs
          split at hs
          · cases hs
            exact .inr (by simp)
          · rename_i a
            exact .inl (Classical.not_not.mp a)
        · exact up _ (h1 j hj)
      · rcases List.mem_cons.mp hq with rfl | hq
        · cases hn
        · obtain ⟨a, b⟩ := h2 q hq hn
          refine ⟨up _ a, fun z => ?_⟩
          rw [List.map_cons, List.mem_cons] at z
          rcases z with z | z
          · have z' : q.1 = k := z
            exact nd.1 (z' ▸ hmem _ q hq)
          · exact b z
theorem order_bars {n : Nat} {gs : G} {lot row : List Nat} (hw : Web n gs) (hl : Lot gs lot) (ho : IsOrder gs row) (hs : ∀ k ∈ lot, k ∈ Gr.without gs row) : barring n gs lot = [] := by
  have nd : row.Nodup := ho.nodup_iff.mpr List.nodup_range
  obtain ⟨a1, a2⟩ := sat_all (gs := gs) (taken := []) nd
  have inrow : ∀ k, k ∈ row ↔ k < gs.length := fun k => ho.mem_iff.trans List.mem_range
  have lackq : ∀ k ∈ lot, ∃ q ∈ seats gs [] row, q.2.isNone = true ∧ q.1 = k := fun k hk => by
    have := (mem_asc.mp (hs k hk)).2
    unfold lacks at this
    obtain ⟨q, hq, e⟩ := List.mem_map.mp this
    obtain ⟨h1, h2⟩ := List.mem_filter.mp hq
    exact ⟨q, h1, h2, e⟩
  refine List.filter_eq_nil_iff.mpr fun P hP hbar => ?_
  have pt := part_of hw (lot := others gs.length lot) others_lt hP
  unfold bars at hbar
  simp only [Bool.and_eq_true, Bool.not_eq_true'] at hbar
  obtain ⟨⟨ht, _⟩, hno⟩ := hbar
  have taken : ∀ p ∈ P, p ∈ (sat gs [] row).map (·.2) := fun p hp => by
    have ns : p ∉ spare n gs lot := fun z => by
      have := List.any_eq_false.mp hno p hp
      rw [decide_eq_true z] at this
      exact this rfl
    by_cases hm : p ∈ met gs lot
    · obtain ⟨k, hk, he⟩ := mem_met.mp hm
      obtain ⟨q, h1, h2, rfl⟩ := lackq k hk
      rcases he with rfl | rfl
      · rcases a1 q.1 ((inrow _).mpr (hl.ok _ hk)) with z | z
        · cases z
        · exact z
      · rcases (a2 q h1 h2).1 with z | z
        · cases z
        · exact z
    · have nu : p ∉ unwanted n gs := fun z => ns (mem_spare.mpr ⟨z, hm⟩)
      rw [mem_unwanted] at nu
      obtain ⟨k, hk⟩ := Classical.not_forall.mp fun h => nu ⟨pt.lt p hp, h⟩
      obtain ⟨hk, e⟩ := Classical.not_imp.mp hk
      have e := Classical.not_not.mp e
      rcases a1 k ((inrow k).mpr hk) with z | z
      · cases z
      · rw [← e]
        exact z
  have c1 : P.length ≤ (((sat gs [] row).filter fun z => decide (z.2 ∈ P)).map (·.2)).length := nodup_sub pt.nd fun p hp => by
    obtain ⟨z, hz, rfl⟩ := List.mem_map.mp (taken p hp)
    exact List.mem_map.mpr ⟨z, List.mem_filter.mpr ⟨hz, decide_eq_true hp⟩, rfl⟩
  have c2 : (((sat gs [] row).filter fun z => decide (z.2 ∈ P)).map (·.1)).length ≤ (guestsIn gs (others gs.length lot) P).length := by
    refine nodup_sub ((nd.sublist sat_fst).sublist (List.filter_sublist.map _)) fun k hk => ?_
    obtain ⟨z, hz, rfl⟩ := List.mem_map.mp hk
    obtain ⟨hz, hp⟩ := List.mem_filter.mp hz
    have hp := of_decide_eq_true hp
    have hin : z.1 ∈ (sat gs [] row).map (·.1) := List.mem_map.mpr ⟨z, hz, rfl⟩
    have hlt : z.1 < gs.length := (inrow _).mp (sat_fst.subset hin)
    have ho : z.1 ∈ others gs.length lot := mem_others.mpr ⟨hlt, fun hl' => by
      obtain ⟨q, h1, h2, e⟩ := lackq z.1 hl'
      exact (a2 q h1 h2).2 (e ▸ hin)⟩
    refine mem_guestsIn.mpr ⟨ho, ?_⟩
    rcases sat_end z hz with e | e
    · exact e ▸ hp
    · rw [pt.near ho, ← e]
      exact hp
  have := isTree_iff.mp ht
  rw [List.length_map] at c1 c2
  omega
/-- a lot is together without by some order just if no part bars it -/
theorem together_iff {n : Nat} {gs : G} {lot : List Nat} (hw : Web n gs) (hl : Lot gs lot) : barring n gs lot = [] ↔ ∃ row, IsOrder gs row ∧ ∀ k ∈ lot, k ∈ Gr.without gs row := by
  constructor
  · intro hb
    obtain ⟨h1, h2⟩ := order_ok hw lotGrown_lot (good_grown hw hb)
    exact ⟨_, h1, fun k hk => by rw [h2]; exact lotGrown_sub hl k hk⟩
  · rintro ⟨row, h1, h2⟩
    exact order_bars hw hl h1 h2
end Gq
/-! Plain mathematics, 5: parts by marks. -/
namespace Gq
open Gr
def mAt (m : List Nat) (p : Nat) : Nat := m.getD p 0
def marksStep (gs : G) (m : List Nat) (k : Nat) : List Nat := m.map fun x => if x = mAt m (gAt gs k).2 then mAt m (gAt gs k).1 else x
def marksL (n : Nat) (gs : G) (heap : List Nat) : List Nat := heap.foldl (marksStep gs) (List.range n)
def partOf (n : Nat) (m : List Nat) (w : Nat) : List Nat := (List.range n).filter fun p => decide (mAt m p = w)
def kindsL (m : List Nat) : List Nat := m.foldl addOne []
theorem mAt_get {m : List Nat} {p : Nat} (h : p < m.length) : m[p]? = some (mAt m p) := by
  unfold mAt
  rw [List.getD_eq_getElem?_getD, List.getElem?_eq_getElem h]
  rfl
theorem marksStep_at {gs : G} {m : List Nat} {k x : Nat} (h : x < m.length) : mAt (marksStep gs m k) x = if mAt m x = mAt m (gAt gs k).2 then mAt m (gAt gs k).1 else mAt m x := by
  unfold marksStep
  conv => lhs; unfold mAt
  rw [List.getD_eq_getElem?_getD, List.getElem?_map, mAt_get h]
  rfl
theorem marksStep_len (gs : G) (m : List Nat) (k : Nat) : (marksStep gs m k).length = m.length := List.length_map ..
theorem marks_ok {n : Nat} {gs : G} (hw : Web n gs) : ∀ (heap done m : List Nat), m.length = n → (∀ k ∈ done ++ heap, k < gs.length) → (∀ x y, x < n → y < n → (mAt m x = mAt m y ↔ Con gs done x y)) →
    (heap.foldl (marksStep gs) m).length = n ∧ ∀ x y, x < n → y < n → (mAt (heap.foldl (marksStep gs) m) x = mAt (heap.foldl (marksStep gs) m) y ↔ Con gs (done ++ heap) x y)
  | [], done, m, hl, _, h => by
    rw [List.append_nil]
    exact ⟨hl, h⟩
  | k :: heap, done, m, hl, hk, h => by
    have hkk := hk k (by simp)
    obtain ⟨ha, hb, hab⟩ := gAt_ok hw hkk
    have at' : ∀ x, x < n → mAt (marksStep gs m k) x = if mAt m x = mAt m (gAt gs k).2 then mAt m (gAt gs k).1 else mAt m x := fun x hx => marksStep_at (by omega)
    have up : ∀ {p q : Nat}, Con gs done p q → Con gs (done ++ [k]) p q := fun z => z.mono fun j hj => List.mem_append.mpr (.inl hj)
    have own : Con gs (done ++ [k]) (gAt gs k).1 (gAt gs k).2 := .one ⟨k, by simp, end_self gs k⟩
    have e : done ++ k :: heap = (done ++ [k]) ++ heap := by simp
    rw [e] at hk ⊢
    refine marks_ok hw heap (done ++ [k]) (marksStep gs m k) ((marksStep_len gs m k).trans hl) hk fun x y hx hy => ⟨fun hxy => ?_, fun hc => ?_⟩
    · rw [at' x hx, at' y hy] at hxy
      by_cases h1 : mAt m x = mAt m (gAt gs k).2
      · have c1 := up ((h x _ hx hb).mp h1)
        by_cases h2 : mAt m y = mAt m (gAt gs k).2
        · exact c1.trans (up ((h y _ hy hb).mp h2)).symm
        · rw [if_pos h1, if_neg h2] at hxy
          exact c1.trans (own.symm.trans (up ((h _ y ha hy).mp hxy)))
      · by_cases h2 : mAt m y = mAt m (gAt gs k).2
        · rw [if_neg h1, if_pos h2] at hxy
          exact (up ((h x _ hx ha).mp hxy)).trans (own.trans (up ((h y _ hy hb).mp h2)).symm)
        · rw [if_neg h1, if_neg h2] at hxy
          exact up ((h x y hx hy).mp hxy)
    · refine hc.closed (S := fun z => mAt (marksStep gs m k) x = mAt (marksStep gs m k) z) (fun j hj => ?_) rfl
      have ej : mAt (marksStep gs m k) (gAt gs j).1 = mAt (marksStep gs m k) (gAt gs j).2 := by
        obtain ⟨h1, h2, _⟩ := gAt_ok hw (hk j (List.mem_append.mpr (.inl hj)))
        rw [at' _ h1, at' _ h2]
        rcases List.mem_append.mp hj with z | z
        · have : mAt m (gAt gs j).1 = mAt m (gAt gs j).2 := (h _ _ h1 h2).mpr (.one ⟨j, z, end_self gs j⟩)
          rw [this]
        · rw [List.mem_singleton] at z
          subst z
          rw [if_pos rfl]
          split <;> rfl
      rw [ej]
theorem marksL_ok {n : Nat} {gs : G} (hw : Web n gs) {heap : List Nat} (hk : ∀ k ∈ heap, k < gs.length) : (marksL n gs heap).length = n ∧ ∀ x y, x < n → y < n → (mAt (marksL n gs heap) x = mAt (marksL n gs heap) y ↔ Con gs heap x y) := by
  have r : ∀ x, x < n → mAt (List.range n) x = x := fun x hx => by
    unfold mAt
    rw [List.getD_eq_getElem?_getD, List.getElem?_range hx]
    rfl
  have := marks_ok hw heap [] (List.range n) List.length_range (by simpa using hk) fun x y hx hy => by
    rw [r x hx, r y hy]
    constructor
    · rintro rfl
      exact .refl
    · intro c
      cases c with
      | refl => rfl
      | step _ a =>
        obtain ⟨k, hk, _⟩ := a
        cases hk
  exact this
theorem partOf_eq {n : Nat} {gs : G} (hw : Web n gs) {heap : List Nat} (hk : ∀ k ∈ heap, k < gs.length) {p : Nat} (hp : p < n) : partOf n (marksL n gs heap) (mAt (marksL n gs heap) p) = partFrom n (bes gs heap) p := by
  refine sorted_uniq ((sorted_range n).filter _) (asc_sorted _ _) fun x => ?_
  unfold partOf
  rw [mem_partFrom hw hk hp, List.mem_filter, List.mem_range, decide_eq_true_eq]
  have h := (marksL_ok hw hk).2
  constructor
  · rintro ⟨hx, e⟩
    exact (h p x hp hx).mp e.symm
  · intro c
    have hx := con_lt hw hk c hp
    exact ⟨hx, ((h p x hp hx).mpr c).symm⟩
def rowsL (n : Nat) (gs : G) (heap : List Nat) : List (List Nat) := (kindsL (marksL n gs heap)).map (partOf n (marksL n gs heap))
theorem mem_kindsL {m : List Nat} {w : Nat} : w ∈ kindsL m ↔ w ∈ m := by
  unfold kindsL
  rw [mem_addAll]
  simp
theorem mem_rowsL {n : Nat} {gs : G} (hw : Web n gs) {heap : List Nat} (hk : ∀ k ∈ heap, k < gs.length) {part : List Nat} : part ∈ rowsL n gs heap ↔ ∃ p, p < n ∧ part = partFrom n (bes gs heap) p := by
  unfold rowsL
  have hl := (marksL_ok hw hk).1
  constructor
  · intro h
    obtain ⟨w, hw', rfl⟩ := List.mem_map.mp h
    obtain ⟨p, hp, e⟩ := List.mem_iff_getElem.mp (mem_kindsL.mp hw')
    have e' : mAt (marksL n gs heap) p = w := by
      unfold mAt
      rw [List.getD_eq_getElem?_getD, List.getElem?_eq_getElem hp, e]
      rfl
    refine ⟨p, by omega, ?_⟩
    rw [← e', partOf_eq hw hk (by omega)]
  · rintro ⟨p, hp, rfl⟩
    refine List.mem_map.mpr ⟨mAt (marksL n gs heap) p, mem_kindsL.mpr (List.mem_of_getElem? (mAt_get (by omega))), partOf_eq hw hk hp⟩
theorem rowsL_ne {n : Nat} {gs : G} (hw : Web n gs) {heap : List Nat} (hk : ∀ k ∈ heap, k < gs.length) : ∀ part ∈ rowsL n gs heap, part ≠ [] := fun part h e => by
  obtain ⟨p, hp, rfl⟩ := (mem_rowsL hw hk).mp h
  have := (mem_partFrom hw hk hp).mpr (.refl (p := p))
  rw [e] at this
  cases this
/-- they are the parts -/
theorem mem_rows_parts {n : Nat} {gs : G} (hw : Web n gs) {heap : List Nat} (hk : ∀ k ∈ heap, k < gs.length) {part : List Nat} (h : part ∈ parts n gs heap) : part ∈ rowsL n gs heap := (mem_rowsL hw hk).mpr ((parts_is hw hk).1 part h)
end Gq
set_option maxHeartbeats 4000000
/-! Defs: what each one hands back, 0: numbers, tuples, webs, lots. -/
namespace Zf
open PySem PySem.Spec PyProof.Rows L2 Zb Zt Gr

/-- where a def stands -/
structure Df (K : PySem.W.Frag) (mg : Str → Option Value) (n : Str) (st : Stmt) (ps : List Str) : Prop where
  ex : ∃ f fd, Fun K n n st f fd ∧ Binds K fd ps [] ∧ mg n = some (.ref f)
/-- the built-ins are what they are -/
structure Bl (mg : Str → Option Value) : Prop where
  isinstance : mg "isinstance" = none
  int : mg "int" = none
  bool : mg "bool" = none
  str : mg "str" = none
  len : mg "len" = none
  tuple : mg "tuple" = none
  list : mg "list" = none
  all : mg "all" = none
  any : mg "any" = none
  range : mg "range" = none
  sorted : mg "sorted" = none
  set : mg "set" = none
  dict : mg "dict" = none
  enumerate : mg "enumerate" = none
  zip : mg "zip" = none
  abs : mg "abs" = none
  min : mg "min" = none
  max : mg "max" = none
  valueError : mg "ValueError" = none

/-! ### data -/
def tD (l : List Nat) : D := .tup (l.map natD)
def lD (l : List Nat) : D := .lst (l.map natD)
def gD (g : Nat × Nat) : D := .tup [natD g.1, natD g.2]
def webD (n : Nat) (gs : G) : D := .tup [natD n, .tup (gs.map gD)]
theorem flats_map {α : Type} (f : α → D) (h : ∀ x, (f x).flat = true) : ∀ l : List α, D.flats (l.map f) = true
  | [] => rfl
  | x :: l => by simp only [List.map_cons, D.flats, h x, flats_map f h l, Bool.and_self]
theorem flat_nat (n : Nat) : (natD n).flat = true := rfl
theorem flat_tD (l : List Nat) : (tD l).flat = true := flats_map _ flat_nat l
theorem flat_gD (g : Nat × Nat) : (gD g).flat = true := rfl
theorem flat_webD (n : Nat) (gs : G) : (webD n gs).flat = true := by
  show (true && (D.flats (gs.map gD) && true)) = true
  rw [flats_map _ flat_gD]
  rfl
theorem gs_get {gs : G} {k : Nat} (h : k < gs.length) : (gs.map gD)[k]? = some (gD (gAt gs k)) := by
  rw [List.getElem?_map, List.getElem?_eq_getElem h]
  unfold gAt
  rw [List.getD_eq_getElem?_getD, List.getElem?_eq_getElem h]
  rfl
theorem nat_get {l : List Nat} {k x : Nat} (h : l[k]? = some x) : (l.map natD)[k]? = some (natD x) := by
  rw [List.getElem?_map, h]
  rfl
theorem nats_sc (l : List Nat) : (l.map natD).all D.sc = true := by
  rw [List.all_eq_true]
  intro d hd
  obtain ⟨n, _, rfl⟩ := List.mem_map.mp hd
  rfl
theorem inD_nat (k : Nat) (l : List Nat) : inD (natD k) (l.map natD) = decide (k ∈ l) := by
  unfold inD inV
  rw [List.map_map, List.any_map]
  induction l with
  | nil => simp
  | cons x l ih =>
    rw [List.any_cons, ih]
    show (((x : Int) == (k : Int)) || _) = _
    by_cases e : k = x
    · subst e
      simp
    · have : ((x : Int) == (k : Int)) = false := beq_eq_false_iff_ne.mpr (by omega)
      rw [this]
      simp [e]

section
variable {P : Program} {w : World} {K : PySem.W.Frag} {mg : Str → Option Value} {base : Heap}

/-! ### plain -/
def isNum : D → Bool
  | .int _ => true
  | _ => false
theorem isNum_eq (x : D) : (isT "int" x && !isT "bool" x) = isNum x := by
  rw [isT_int, isT_bool]
  cases x <;> rfl
def F_is_number (ds : List D) (d : D) : Prop := ∃ x, ds = [x] ∧ d = .bl (isNum x)
theorem ct_is_number (B : Bl mg) (d : Df K mg "is_number" s_is_number ["thing"]) : Ct P w K mg base 1 "is_number" ["thing"] F_is_number := by
  obtain ⟨f, fd, Fn, hb, hm⟩ := d.ex
  refine ct_any Fn sc_is_number hb hm (fun ds d h => ?_) (by decide) (fun cdv A outer s H E hr ds d h => ?_)
  · obtain ⟨x, rfl, rfl⟩ := h
    rfl
  · obtain ⟨x, rfl, rfl⟩ := h
    refine .inl ⟨rfl, _, xs_one (x_retD (EX.to (ex_and (ex_isi kit_int B.isinstance B.int (ex_var 0 rfl)) fun _ => ex_one (ex_not (ex_isi kit_bool B.isinstance B.bool (ex_var 0 rfl)))) ?_))⟩
    exact congrArg (fun z => Res.d (.bl z)) (isNum_eq x)
def geD (l : Int) : D → Bool
  | .int i => decide (l ≤ i)
  | _ => false
def F_is_from (ds : List D) (d : D) : Prop := ∃ x l, ds = [x, .int l] ∧ d = .bl (geD l x)
theorem ct_is_from (d : Df K mg "is_from" s_is_from ["thing", "least"]) (c1 : Ct P w K mg base 1 "is_number" ["thing"] F_is_number) : Ct P w K mg base 2 "is_from" ["thing", "least"] F_is_from := by
  obtain ⟨f, fd, Fn, hb, hm⟩ := d.ex
  refine ct_any Fn sc_is_from hb hm (fun ds d h => ?_) (by decide) (fun cdv A outer s H E hr ds d h => ?_)
  · obtain ⟨x, l, rfl, rfl⟩ := h
    rfl
  · obtain ⟨x, l, rfl, rfl⟩ := h
    refine .inl ⟨rfl, _, xs_one (x_retD (EX.to (ex_and (y := geD l x) (ex_call c1 hr (ea_cons (ex_var 0 rfl) ea_nil) ⟨x, rfl, rfl⟩) fun hx => ?_) ?_))⟩
    · cases x with
      | int i => exact ex_one (ex_ge (ex_var 0 rfl) (ex_var 1 rfl))
      | _ => cases hx
    · cases x <;> rfl
def inR (lo hi : Int) : D → Bool
  | .int i => decide (lo ≤ i) && decide (i ≤ hi)
  | _ => false
def F_is_within (ds : List D) (d : D) : Prop := ∃ x lo hi, ds = [x, .int lo, .int hi] ∧ d = .bl (inR lo hi x)
theorem ct_is_within (d : Df K mg "is_within" s_is_within ["thing", "least", "most"]) (c1 : Ct P w K mg base 1 "is_number" ["thing"] F_is_number) : Ct P w K mg base 2 "is_within" ["thing", "least", "most"] F_is_within := by
  obtain ⟨f, fd, Fn, hb, hm⟩ := d.ex
  refine ct_any Fn sc_is_within hb hm (fun ds d h => ?_) (by decide) (fun cdv A outer s H E hr ds d h => ?_)
  · obtain ⟨x, lo, hi, rfl, rfl⟩ := h
    rfl
  · obtain ⟨x, lo, hi, rfl, rfl⟩ := h
    refine .inl ⟨rfl, _, xs_one (x_retD (EX.to (ex_and (y := inR lo hi x) (ex_call c1 hr (ea_cons (ex_var 0 rfl) ea_nil) ⟨x, rfl, rfl⟩) fun hx => ?_) ?_))⟩
    · cases x with
      | int i => exact ex_one (ex_chain (g := fun i j => decide (i ≤ j)) (g' := fun i j => decide (i ≤ j)) op_le op_le (ex_var 1 rfl) (ex_var 0 rfl) fun _ => ex_var 2 rfl)
      | _ => cases hx
    · cases x <;> rfl
def isLong (l : Int) : D → Bool
  | .tup xs => decide ((xs.length : Int) = l)
  | _ => false
def F_is_long (ds : List D) (d : D) : Prop := ∃ x l, ds = [x, .int l] ∧ d = .bl (isLong l x)
theorem ct_is_long (B : Bl mg) (d : Df K mg "is_long" s_is_long ["thing", "length"]) : Ct P w K mg base 1 "is_long" ["thing", "length"] F_is_long := by
  obtain ⟨f, fd, Fn, hb, hm⟩ := d.ex
  refine ct_any Fn sc_is_long hb hm (fun ds d h => ?_) (by decide) (fun cdv A outer s H E hr ds d h => ?_)
  · obtain ⟨x, l, rfl, rfl⟩ := h
    rfl
  · obtain ⟨x, l, rfl, rfl⟩ := h
    refine .inl ⟨rfl, _, xs_one (x_retD (EX.to (ex_and (y := isLong l x) (ex_isi kit_tuple B.isinstance B.tuple (ex_var 0 rfl)) fun hx => ?_) ?_))⟩
    · rw [isT_tuple] at hx
      cases x with
      | tup xs => exact ex_one (ex_eqI (ex_len B.len (ex_var 0 rfl) (.inr rfl)) (ex_var 1 rfl))
      | _ => cases hx
    · rw [isT_tuple]
      cases x <;> rfl
mutual
def tupd : D → D
  | .tup ds => .tup (tupds ds)
  | .lst ds => .tup (tupds ds)
  | d => d
def tupds : List D → List D
  | [] => []
  | d :: ds => tupd d :: tupds ds
end
theorem tupds_map : ∀ ds : List D, tupds ds = ds.map tupd
  | [] => by simp [tupds]
  | d :: ds => by rw [tupds, tupds_map ds]; rfl
/-- nested so deep at the most -/
def Dep : Nat → D → Prop
  | _, .non => True
  | _, .bl _ => True
  | _, .int _ => True
  | _, .str _ => True
  | 0, .tup _ => False
  | 0, .lst _ => False
  | k + 1, .tup ds => ds.length ≤ 1000 ∧ ∀ d ∈ ds, Dep k d
  | k + 1, .lst ds => ds.length ≤ 1000 ∧ ∀ d ∈ ds, Dep k d
  | _, .dic _ _ => False
theorem flats_all : ∀ {ds : List D}, (∀ d ∈ ds, d.flat = true) → D.flats ds = true
  | [], _ => rfl
  | d :: ds, h => by
    simp only [D.flats, h d (List.mem_cons_self ..), flats_all fun x hx => h x (List.mem_cons_of_mem _ hx), Bool.and_self]
theorem tupd_flat : ∀ {k : Nat} {d : D}, Dep k d → (tupd d).flat = true
  | k, .non, _ => by simp [tupd, D.flat]
  | k, .bl _, _ => by simp [tupd, D.flat]
  | k, .int _, _ => by simp [tupd, D.flat]
  | k, .str _, _ => by simp [tupd, D.flat]
  | 0, .tup _, h => h.elim
  | 0, .lst _, h => h.elim
  | k + 1, .tup ds, h => by
    simp only [tupd, tupds_map, D.flat]
    exact flats_all fun x hx => by
      obtain ⟨y, hy, rfl⟩ := List.mem_map.mp hx
      exact tupd_flat (h.2 y hy)
  | k + 1, .lst ds, h => by
    simp only [tupd, tupds_map, D.flat]
    exact flats_all fun x hx => by
      obtain ⟨y, hy, rfl⟩ := List.mem_map.mp hx
      exact tupd_flat (h.2 y hy)
  | 0, .dic _ _, h => h.elim
  | k + 1, .dic _ _, h => h.elim
def F_tupled (k : Nat) (ds : List D) (d : D) : Prop := ∃ x, ds = [x] ∧ Dep k x ∧ d = tupd x
theorem ct_tupled (B : Bl mg) (d : Df K mg "tupled" s_tupled ["value"]) : ∀ k : Nat, Ct P w K mg base (k + 1) "tupled" ["value"] (F_tupled k) := by
  obtain ⟨f, fd, Fn, hb, hm⟩ := d.ex
  intro k
  induction k with
  | zero =>
    refine ct_any Fn sc_tupled hb hm (fun ds d h => ?_) (by decide) (fun cdv A outer s H E hr ds d h => ?_)
    · obtain ⟨x, rfl, _⟩ := h
      rfl
    · obtain ⟨x, rfl, hx, rfl⟩ := h
      refine .inl ⟨tupd_flat hx, _, xs_one (x_retD (ex_ifE (et_val (ex_isi2 kit_list kit_tuple B.isinstance B.list B.tuple (ex_var 0 rfl))) (fun h => ?_) fun h => ?_))⟩
      · rw [isT_list, isT_tuple] at h
        cases x <;> first | exact hx.elim | cases h
      · cases x <;> first | exact hx.elim | exact ex_var 0 rfl
  | succ k ih =>
    refine ct_any Fn sc_tupled hb hm (fun ds d h => ?_) (by decide) (fun cdv A outer s H E hr ds d h => ?_)
    · obtain ⟨x, rfl, _⟩ := h
      rfl
    · obtain ⟨x, rfl, hx, rfl⟩ := h
      refine .inl ⟨tupd_flat hx, _, xs_one (x_retD (ex_ifE (et_val (ex_isi2 kit_list kit_tuple B.isinstance B.list B.tuple (ex_var 0 rfl))) (fun h => ?_) fun h => ?_))⟩
      · rw [isT_list, isT_tuple] at h
        cases x with
        | tup ds =>
          exact EX.to (ex_tupleOf B.tuple (ex_lc [("own", 1)] rfl sc_tupled.nd (it_tup (ex_var 0 rfl) rfl) (by have := hx.1; omega)
            (cp_allD (f := tupd) (fun d => _) [1] (fun _ h => h) (fun d hd Y ⟨s', H', C, cl, fp, hY⟩ => by subst hY; exact ag_name 1 sc_tupled.nd) (fun d hd Y ⟨s', H', C, cl, fp, hY⟩ => by subst hY; exact ex_call ih hr (ea_cons (ex_var 1 rfl) ea_nil) ⟨d, rfl, hx.2 d hd, rfl⟩))) (.inl rfl)) (by rw [tupd, tupds_map])
        | lst ds =>
          exact EX.to (ex_tupleOf B.tuple (ex_lc [("own", 1)] rfl sc_tupled.nd (it_list (ex_var 0 rfl) rfl) (by have := hx.1; omega)
            (cp_allD (f := tupd) (fun d => _) [1] (fun _ h => h) (fun d hd Y ⟨s', H', C, cl, fp, hY⟩ => by subst hY; exact ag_name 1 sc_tupled.nd) (fun d hd Y ⟨s', H', C, cl, fp, hY⟩ => by subst hY; exact ex_call ih hr (ea_cons (ex_var 1 rfl) ea_nil) ⟨d, rfl, hx.2 d hd, rfl⟩))) (.inl rfl)) (by rw [tupd, tupds_map])
        | _ => cases h
      · rw [isT_list, isT_tuple] at h
        cases x <;> first | exact hx.elim | exact ex_var 0 rfl | cases h
end
end Zf
/-! Defs, 1: webs, lots, orders: what is fit. -/
namespace Zf
open PySem PySem.Spec PyProof.Rows L2 Zb Zt Gr
theorem range_len (n : Nat) : ((List.range n).map natD).length = n := by simp
theorem all_true {α : Type} : ∀ (l : List α), (l.map fun _ => true).all id = true
  | [] => rfl
  | _ :: l => by rw [List.map_cons, List.all_cons, all_true l]; rfl
section
variable {P : Program} {w : World} {K : PySem.W.Frag} {mg : Str → Option Value} {base : Heap}
def F_ascends (ds : List D) (d : D) : Prop := ∃ l : List Nat, ds = [tD l] ∧ l.Pairwise (· < ·) ∧ l.length ≤ 1000 ∧ d = .bl true
theorem ct_ascends (B : Bl mg) (d : Df K mg "ascends" s_ascends ["row"]) : Ct P w K mg base 1 "ascends" ["row"] F_ascends := by
  obtain ⟨f, fd, Fn, hb, hm⟩ := d.ex
  refine ct_any Fn sc_ascends hb hm (fun ds d h => ?_) (by decide) (fun cdv A outer s H E hr ds d h => ?_)
  · obtain ⟨l, rfl, _⟩ := h
    rfl
  · obtain ⟨l, rfl, hp, hl, rfl⟩ := h
    refine .inl ⟨rfl, _, xs_one (x_retD (EX.to (ex_all rfl B.all (ex_lcA (fun _ => D.bl true) 1 rfl sc_ascends.nd (it_rangeI B.range (ex_sub (ex_len B.len (ex_var 0 rfl) (.inr rfl)) ex_int) ?_ ?_) ?_ (fun k hk s' H' C cl fp => ?_))
      (bs := (List.range (((l.map natD).length : Int) - 1).toNat).map fun _ => true) (by rw [List.map_map]; rfl)) (by rw [all_true])))⟩
    · rw [List.length_map]; omega
    · rw [List.length_map]; omega
    · rw [List.length_range, List.length_map]; omega
    · rw [List.length_map, List.mem_range] at hk
      have h1 : k < l.length := by omega
      have h2 : k + 1 < l.length := by omega
      have g1 := nat_get (List.getElem?_eq_getElem h1)
      have g2 := nat_get (List.getElem?_eq_getElem h2)
      refine EX.to (ex_lt (ex_item (j := k) (ex_var 0 rfl) (ex_var 1 rfl) (.inr rfl) rfl g1) (ex_item (j := k + 1) (ex_var 0 rfl) (ex_add (ex_var 1 rfl) ex_int) (.inr rfl) (by rfl) g2)) ?_
      have := List.pairwise_iff_getElem.mp hp k (k + 1) h1 h2 (Nat.lt_succ_self _)
      rw [decide_eq_true (by omega)]
def F_is_guest_of (ds : List D) (d : D) : Prop := ∃ (n : Nat) (g : Nat × Nat), ds = [natD n, gD g] ∧ (g.1 < n ∧ g.2 < n ∧ g.1 ≠ g.2) ∧ d = .bl true
theorem ct_is_guest_of (B : Bl mg) (d : Df K mg "is_guest_of" s_is_guest_of ["many", "thing"]) (c1 : Ct P w K mg base 1 "is_long" ["thing", "length"] F_is_long) (c2 : Ct P w K mg base 2 "is_within" ["thing", "least", "most"] F_is_within) : Ct P w K mg base 3 "is_guest_of" ["many", "thing"] F_is_guest_of := by
  obtain ⟨f, fd, Fn, hb, hm⟩ := d.ex
  refine ct_any Fn sc_is_guest_of hb hm (fun ds d h => ?_) (by decide) (fun cdv A outer s H E hr ds d h => ?_)
  · obtain ⟨n, g, rfl, _⟩ := h
    rfl
  · obtain ⟨n, g, rfl, ⟨h1, h2, h3⟩, rfl⟩ := h
    refine .inl ⟨rfl, _, xs_one (x_retD (EX.to (ex_and (ex_call c1 (hr.mono (by decide)) (ea_cons (ex_var 1 rfl) (ea_cons ex_int ea_nil)) ⟨_, _, rfl, rfl⟩) fun _ => ex_and (ex_all rfl B.all (ex_lcA (xs := [g.1, g.2]) (enc := natD) (fun _ => D.bl true) 2 rfl sc_is_guest_of.nd (it_tup (ex_var 1 rfl) rfl) (show 2 ≤ 100000 by decide) (fun k hk s' H' C cl fp => ?_))
      (bs := [true, true]) rfl) fun _ => ex_one (ex_neI (i := g.1) (j := g.2) (ex_item (j := 0) (ex_var 1 rfl) ex_int (.inr rfl) rfl rfl) (ex_item (j := 1) (ex_var 1 rfl) ex_int (.inr rfl) rfl rfl))) ?_))⟩
    · refine EX.to (ex_call c2 hr (ea_cons (ex_var 2 rfl) (ea_cons ex_int (ea_cons (ex_sub (ex_var 0 rfl) ex_int) ea_nil))) ⟨_, _, _, rfl, rfl⟩) ?_
      have hk' : k < n := by
        simp only [List.mem_cons, List.not_mem_nil, or_false] at hk
        rcases hk with rfl | rfl
        · exact h1
        · exact h2
      show Res.d (.bl (decide ((0 : Int) ≤ (k : Int)) && decide ((k : Int) ≤ (n : Int) - 1))) = _
      rw [decide_eq_true (by omega), decide_eq_true (by omega)]
      rfl
    · show Res.d (.bl (decide ((2 : Int) = 2) && (true && !decide ((g.1 : Int) = (g.2 : Int))))) = _
      rw [decide_eq_true rfl, decide_eq_false (by omega)]
      rfl
def F_is_web (ds : List D) (d : D) : Prop := ∃ (n : Nat) (gs : G), ds = [webD n gs] ∧ Web n gs ∧ d = .bl true
theorem ct_is_web (B : Bl mg) (d : Df K mg "is_web" s_is_web ["thing"]) (c1 : Ct P w K mg base 1 "is_long" ["thing", "length"] F_is_long) (c2 : Ct P w K mg base 2 "is_from" ["thing", "least"] F_is_from) (c3 : Ct P w K mg base 3 "is_guest_of" ["many", "thing"] F_is_guest_of) : Ct P w K mg base 4 "is_web" ["thing"] F_is_web := by
  obtain ⟨f, fd, Fn, hb, hm⟩ := d.ex
  refine ct_any Fn sc_is_web hb hm (fun ds d h => ?_) (by decide) (fun cdv A outer s H E hr ds d h => ?_)
  · obtain ⟨n, gs, rfl, _⟩ := h
    rfl
  · obtain ⟨n, gs, rfl, hw, rfl⟩ := h
    refine .inl ⟨rfl, _, xs_cons (x_ifF (ET.to (et_w (ew_or (et_not (et_val (ex_call c1 (hr.mono (by decide)) (ea_cons (ex_var 0 rfl) (ea_cons ex_int ea_nil)) ⟨_, _, rfl, rfl⟩))) fun _ => ew_or (et_not (et_val (ex_call c2 (hr.mono (by decide)) (ea_cons (ex_item (j := 0) (ex_var 0 rfl) ex_int (.inr rfl) rfl rfl) (ea_cons ex_int ea_nil)) ⟨_, _, rfl, rfl⟩))) fun _ => ew_or1 (et_not (et_val (ex_isi kit_tuple B.isinstance B.tuple (ex_item (j := 1) (ex_var 0 rfl) ex_int (.inr rfl) rfl rfl)))))) ?_) xs_nil)
      (xs_one (x_retD (EX.to (ex_all rfl B.all (ex_lcA (fun _ => D.bl true) 1 rfl sc_is_web.nd (it_tup (ex_item (j := 1) (ex_var 0 rfl) ex_int (.inr rfl) rfl rfl) rfl) ?_ (fun g hg s' H' C cl fp => ?_))
      (bs := gs.map fun _ => true) (by rw [List.map_map]; rfl)) (by rw [all_true]))))⟩
    · rw [isT_tuple]
      show (!decide ((2 : Int) = 2) || (!decide ((1 : Int) ≤ (n : Int)) || !true)) = false
      rw [decide_eq_true rfl, decide_eq_true (by have := hw.pos; omega)]
      rfl
    · have := hw.fewG
      omega
    · exact ex_call c3 hr (ea_cons (ex_item (j := 0) (ex_var 0 rfl) ex_int (.inr rfl) rfl rfl) (ea_cons (ex_var 1 rfl) ea_nil)) ⟨n, g, rfl, hw.ok g hg, rfl⟩
def F_sure_web (ds : List D) (d : D) : Prop := ∃ (x : D) (n : Nat) (gs : G), ds = [x] ∧ Dep 4 x ∧ tupd x = webD n gs ∧ Web n gs ∧ d = webD n gs
theorem ct_sure_web (d : Df K mg "sure_web" s_sure_web ["web"]) (c1 : Ct P w K mg base 5 "tupled" ["value"] (F_tupled 4)) (c2 : Ct P w K mg base 4 "is_web" ["thing"] F_is_web) : Ct P w K mg base 6 "sure_web" ["web"] F_sure_web := by
  obtain ⟨f, fd, Fn, hb, hm⟩ := d.ex
  refine ct_any Fn sc_sure_web hb hm (fun ds d h => ?_) (by decide) (fun cdv A outer s H E hr ds d h => ?_)
  · obtain ⟨x, n, gs, rfl, _⟩ := h
    rfl
  · obtain ⟨x, n, gs, rfl, hd, ht, hw, rfl⟩ := h
    refine .inl ⟨flat_webD n gs, _, xs_cons (x_set 1 sc_sure_web.nd (ex_call c1 hr (ea_cons (ex_var 0 rfl) ea_nil) ⟨x, rfl, hd, ht.symm⟩)) (xs_cons (x_ifF (ET.to (et_not (et_val (ex_call c2 (hr.mono (by decide)) (ea_cons (ex_var 1 rfl) ea_nil) ⟨n, gs, rfl, hw, rfl⟩))) rfl) xs_nil) (xs_one (x_retD (ex_var 1 rfl))))⟩
def F_is_lot_in (ds : List D) (d : D) : Prop := ∃ (n : Nat) (gs : G) (lot : List Nat), ds = [webD n gs, tD lot] ∧ Web n gs ∧ Lot gs lot ∧ d = .bl true
theorem lot_len {gs : G} {lot : List Nat} (h : Lot gs lot) : lot.length ≤ gs.length := by
  have : ∀ (m : Nat) (l : List Nat), l.Pairwise (· < ·) → (∀ k ∈ l, k < m) → l.length ≤ m := by
    intro m
    induction m with
    | zero =>
      intro l _ h2
      cases l with
      | nil => exact Nat.le_refl _
      | cons x l => exact absurd (h2 x (List.mem_cons_self ..)) (Nat.not_lt_zero _)
    | succ m ih =>
      intro l h1 h2
      rcases List.eq_nil_or_concat l with rfl | ⟨l', x, rfl⟩
      · exact Nat.zero_le _
      · rw [List.concat_eq_append] at h1 h2 ⊢
        have h3 := List.pairwise_append.mp h1
        rw [List.length_append, List.length_singleton]
        refine Nat.succ_le_succ (ih l' h3.1 fun k hk => ?_)
        have := h3.2.2 k hk x (List.mem_singleton_self _)
        have := h2 x (by simp)
        omega
  exact this _ _ h.asc h.ok
theorem ct_is_lot_in (B : Bl mg) (d : Df K mg "is_lot_in" s_is_lot_in ["web", "thing"]) (c1 : Ct P w K mg base 2 "is_within" ["thing", "least", "most"] F_is_within) (c2 : Ct P w K mg base 1 "ascends" ["row"] F_ascends) : Ct P w K mg base 3 "is_lot_in" ["web", "thing"] F_is_lot_in := by
  obtain ⟨f, fd, Fn, hb, hm⟩ := d.ex
  refine ct_any Fn sc_is_lot_in hb hm (fun ds d h => ?_) (by decide) (fun cdv A outer s H E hr ds d h => ?_)
  · obtain ⟨n, gs, lot, rfl, _⟩ := h
    rfl
  · obtain ⟨n, gs, lot, rfl, hw, hl, rfl⟩ := h
    have hll := lot_len hl
    have hg := hw.fewG
    refine .inl ⟨rfl, _, xs_cons (x_set 2 sc_is_lot_in.nd (ex_sub (ex_len B.len (ex_item (j := 1) (ex_var 0 rfl) ex_int (.inr rfl) rfl rfl) (.inr rfl)) ex_int)) (xs_one (x_retD (EX.to (ex_and (ex_isi kit_tuple B.isinstance B.tuple (ex_var 1 rfl)) fun _ => ex_and (ex_all rfl B.all (ex_lcA (fun _ => D.bl true) 3 rfl sc_is_lot_in.nd (it_tup (ex_var 1 rfl) rfl) ?_ (fun k hk s' H' C cl fp => ?_))
      (bs := lot.map fun _ => true) (by rw [List.map_map]; rfl)) fun _ => ex_one (ex_call c2 (hr.mono (by decide)) (ea_cons (ex_var 1 rfl) ea_nil) ⟨lot, rfl, hl.asc, by omega, rfl⟩)) ?_)))⟩
    · omega
    · refine EX.to (ex_call c1 hr (ea_cons (ex_var 3 rfl) (ea_cons ex_int (ea_cons (ex_var 2 rfl) ea_nil))) ⟨_, _, _, rfl, rfl⟩) ?_
      have := hl.ok k hk
      show Res.d (.bl (decide ((0 : Int) ≤ (k : Int)) && decide ((k : Int) ≤ ((gs.map gD).length : Int) - 1))) = _
      rw [List.length_map, decide_eq_true (by omega), decide_eq_true (by omega)]
      rfl
    · rw [isT_tuple, all_true]
      rfl
def F_sure_lot (ds : List D) (d : D) : Prop := ∃ (n : Nat) (gs : G) (x : D) (lot : List Nat), ds = [webD n gs, x] ∧ Web n gs ∧ Dep 4 x ∧ tupd x = tD lot ∧ Lot gs lot ∧ d = tD lot
theorem ct_sure_lot (d : Df K mg "sure_lot" s_sure_lot ["web", "lot"]) (c1 : Ct P w K mg base 5 "tupled" ["value"] (F_tupled 4)) (c2 : Ct P w K mg base 3 "is_lot_in" ["web", "thing"] F_is_lot_in) : Ct P w K mg base 6 "sure_lot" ["web", "lot"] F_sure_lot := by
  obtain ⟨f, fd, Fn, hb, hm⟩ := d.ex
  refine ct_any Fn sc_sure_lot hb hm (fun ds d h => ?_) (by decide) (fun cdv A outer s H E hr ds d h => ?_)
  · obtain ⟨n, gs, x, lot, rfl, _⟩ := h
    rfl
  · obtain ⟨n, gs, x, lot, rfl, hw, hd, ht, hl, rfl⟩ := h
    refine .inl ⟨flat_tD lot, _, xs_cons (x_set 2 sc_sure_lot.nd (ex_call c1 hr (ea_cons (ex_var 1 rfl) ea_nil) ⟨x, rfl, hd, ht.symm⟩)) (xs_cons (x_ifF (ET.to (et_not (et_val (ex_call c2 (hr.mono (by decide)) (ea_cons (ex_var 0 rfl) (ea_cons (ex_var 2 rfl) ea_nil)) ⟨n, gs, lot, rfl, hw, hl, rfl⟩))) rfl) xs_nil) (xs_one (x_retD (ex_var 2 rfl))))⟩
def F_sure_guest (ds : List D) (d : D) : Prop := ∃ (n : Nat) (gs : G) (k : Nat), ds = [webD n gs, natD k] ∧ k < gs.length ∧ d = natD k
theorem ct_sure_guest (B : Bl mg) (d : Df K mg "sure_guest" s_sure_guest ["web", "guest"]) (c1 : Ct P w K mg base 1 "is_number" ["thing"] F_is_number) (c2 : Ct P w K mg base 2 "is_within" ["thing", "least", "most"] F_is_within) : Ct P w K mg base 3 "sure_guest" ["web", "guest"] F_sure_guest := by
  obtain ⟨f, fd, Fn, hb, hm⟩ := d.ex
  refine ct_any Fn sc_sure_guest hb hm (fun ds d h => ?_) (by decide) (fun cdv A outer s H E hr ds d h => ?_)
  · obtain ⟨n, gs, k, rfl, _⟩ := h
    rfl
  · obtain ⟨n, gs, k, rfl, hk, rfl⟩ := h
    refine .inl ⟨rfl, _, xs_cons (x_ifF (ET.to (et_not (et_val (ex_call c1 (hr.mono (by decide)) (ea_cons (ex_var 1 rfl) ea_nil) ⟨_, rfl, rfl⟩))) rfl) xs_nil)
      (xs_cons (x_ifF (ET.to (et_not (et_val (ex_call c2 hr (ea_cons (ex_var 1 rfl) (ea_cons ex_int (ea_cons (ex_sub (ex_len B.len (ex_item (j := 1) (ex_var 0 rfl) ex_int (.inr rfl) rfl rfl) (.inr rfl)) ex_int) ea_nil))) ⟨_, _, _, rfl, rfl⟩))) ?_) xs_nil) (xs_one (x_retD (ex_var 1 rfl))))⟩
    show (!(decide ((0 : Int) ≤ (k : Int)) && decide ((k : Int) ≤ ((gs.map gD).length : Int) - 1))) = false
    rw [List.length_map, decide_eq_true (by omega), decide_eq_true (by omega)]
    rfl
def F_both_sure (ds : List D) (d : D) : Prop := ∃ (x : D) (n : Nat) (gs : G) (y : D) (lot : List Nat), ds = [x, y] ∧ Dep 4 x ∧ tupd x = webD n gs ∧ Web n gs ∧ Dep 4 y ∧ tupd y = tD lot ∧ Lot gs lot ∧ d = .tup [webD n gs, tD lot]
theorem ct_both_sure (d : Df K mg "both_sure" s_both_sure ["web", "lot"]) (c1 : Ct P w K mg base 6 "sure_web" ["web"] F_sure_web) (c2 : Ct P w K mg base 6 "sure_lot" ["web", "lot"] F_sure_lot) : Ct P w K mg base 7 "both_sure" ["web", "lot"] F_both_sure := by
  obtain ⟨f, fd, Fn, hb, hm⟩ := d.ex
  refine ct_any Fn sc_both_sure hb hm (fun ds d h => ?_) (by decide) (fun cdv A outer s H E hr ds d h => ?_)
  · obtain ⟨x, n, gs, y, lot, rfl, _⟩ := h
    rfl
  · obtain ⟨x, n, gs, y, lot, rfl, h1, h2, h3, h4, h5, h6, rfl⟩ := h
    refine .inl ⟨?_, _, xs_cons (x_set 2 sc_both_sure.nd (ex_call c1 hr (ea_cons (ex_var 0 rfl) ea_nil) ⟨x, n, gs, rfl, h1, h2, h3, rfl⟩)) (xs_one (x_retD (ex_tup (ea_cons (ex_var 2 rfl) (ea_cons (ex_call c2 hr (ea_cons (ex_var 2 rfl) (ea_cons (ex_var 1 rfl) ea_nil)) ⟨n, gs, y, lot, rfl, h3, h4, h5, h6, rfl⟩) ea_nil)))))⟩
    show (D.flats [webD n gs, tD lot]) = true
    simp only [D.flats, flat_webD, flat_tD, Bool.and_self]
end
end Zf
/-! Defs, 2: sets, unwanted places, guests of a part, who meets what. -/
namespace Zf
open PySem PySem.Spec PyProof.Rows L2 Zb Zt Gr
theorem hu_of {k : Nat} {A : Around} (hr : Room k A) {j : Nat} (h : j ≤ 200 := by decide) : A.units + j < cLine := Nat.lt_of_le_of_lt (by omega) hr.un
theorem nats_int (l : List Nat) : l.map natD = (l.map fun n : Nat => (n : Int)).map D.int := by
  rw [List.map_map]
  rfl
theorem uniq_asc : ∀ {l m : List Int}, l.Pairwise (· < ·) → m.Pairwise (· < ·) → (∀ k, k ∈ l ↔ k ∈ m) → l = m
  | [], [], _, _, _ => rfl
  | [], b :: m, _, _, h => by have := (h b).mpr (List.mem_cons_self ..); cases this
  | a :: l, [], _, _, h => by have := (h a).mp (List.mem_cons_self ..); cases this
  | a :: l, b :: m, h1, h2, h => by
    obtain ⟨p1, p2⟩ := List.pairwise_cons.mp h1
    obtain ⟨q1, q2⟩ := List.pairwise_cons.mp h2
    have e : a = b := by
      have m1 := (h a).mp (List.mem_cons_self ..)
      have m2 := (h b).mpr (List.mem_cons_self ..)
      rcases List.mem_cons.mp m1 with z | z
      · exact z
      · rcases List.mem_cons.mp m2 with y | y
        · exact y.symm
        · have := q1 a z
          have := p1 b y
          omega
    subst e
    congr 1
    refine uniq_asc p2 q2 fun k => ⟨fun hk => ?_, fun hk => ?_⟩
    · have := p1 k hk
      rcases List.mem_cons.mp ((h k).mp (List.mem_cons_of_mem _ hk)) with z | z
      · omega
      · exact z
    · have := q1 k hk
      rcases List.mem_cons.mp ((h k).mpr (List.mem_cons_of_mem _ hk)) with z | z
      · omega
      · exact z
theorem asc_int {l : List Nat} (h : l.Pairwise (· < ·)) : (l.map fun n : Nat => (n : Int)).Pairwise (· < ·) := List.pairwise_map.mpr (h.imp fun {a b} z => by omega)
theorem mem_int {l : List Nat} {k : Int} : k ∈ (l.map fun n : Nat => (n : Int)) ↔ ∃ n ∈ l, (n : Int) = k := List.mem_map
theorem mem_ints {l m : List Nat} (h : ∀ k, k ∈ l ↔ k ∈ m) (k : Int) : k ∈ (l.map fun n : Nat => (n : Int)) ↔ k ∈ (m.map fun n : Nat => (n : Int)) := by
  rw [mem_int, mem_int]
  exact ⟨fun ⟨n, a, b⟩ => ⟨n, (h n).mp a, b⟩, fun ⟨n, a, b⟩ => ⟨n, (h n).mpr a, b⟩⟩
theorem le_lt_nodup : ∀ {l : List Int}, l.Pairwise (· ≤ ·) → l.Nodup → l.Pairwise (· < ·)
  | [], _, _ => .nil
  | a :: l, h, n => by
    obtain ⟨p1, p2⟩ := List.pairwise_cons.mp h
    obtain ⟨q1, q2⟩ := List.nodup_cons.mp n
    refine List.pairwise_cons.mpr ⟨fun b hb => ?_, le_lt_nodup p2 q2⟩
    have := p1 b hb
    have : a ≠ b := fun z => q1 (z ▸ hb)
    omega
theorem nodup_int {l : List Nat} (h : l.Nodup) : (l.map fun n : Nat => (n : Int)).Nodup := by
  refine List.pairwise_map.mpr (h.imp fun {a b} z y => z (by omega))
theorem asc_pair (n : Nat) (p : Nat → Bool) : ((List.range n).filter p).Pairwise (· < ·) := List.Pairwise.filter _ List.pairwise_lt_range
theorem uniq_ascN {l m : List Nat} (h1 : l.Pairwise (· < ·)) (h2 : m.Pairwise (· < ·)) (h : ∀ k, k ∈ l ↔ k ∈ m) : l = m := by
  have := uniq_asc (asc_int h1) (asc_int h2) (mem_ints h)
  exact List.map_inj_right (fun a b z => by omega) |>.mp this
theorem mem_asc {n : Nat} {row : List Nat} {p : Nat} : p ∈ asc n row ↔ p < n ∧ p ∈ row := by
  unfold asc
  rw [List.mem_filter, List.mem_range, decide_eq_true_eq]
theorem asc_asc (n : Nat) (row : List Nat) : (asc n row).Pairwise (· < ·) := asc_pair n _
section
variable {X : Cx} {H0 : Hp} {M : Addr → Prop} {env env1 env2 : Ev} {a b c e tg : Expr} {pos : Pos} {n k : Nat} {gs : G} {p : Nat}
/-- web[1] -/
theorem ex_gsts {j : Nat} {p1 p2 : Pos} (ha : EX X H0 M a env (.d (webD n gs))) : EX X H0 M (.Subscript a (.Constant (.int 1) j p1) p2) env (.d (.tup (gs.map gD))) := ex_item (j := 1) ha ex_int (.inr rfl) rfl rfl
/-- web[0] -/
theorem ex_many {j : Nat} {p1 p2 : Pos} (ha : EX X H0 M a env (.d (webD n gs))) : EX X H0 M (.Subscript a (.Constant (.int 0) j p1) p2) env (.d (natD n)) := ex_item (j := 0) ha ex_int (.inr rfl) rfl rfl
/-- web[1][guest] -/
theorem ex_gst {j : Nat} {p1 p2 : Pos} (ha : EX X H0 M a env (.d (webD n gs))) (hb : EX X H0 M b env (.d (natD k))) (hk : k < gs.length) (hs : PlainIx b := by first | exact fun _ _ => rfl) : EX X H0 M (.Subscript (.Subscript a (.Constant (.int 1) j p1) p2) b pos) env (.d (gD (gAt gs k))) :=
  ex_item (j := k) (ex_gsts ha) hb (.inr rfl) rfl (gs_get hk) hs
/-- web[1][guest][0], [1] -/
theorem ex_near {j i : Nat} {p1 p2 p3 p4 : Pos} (ha : EX X H0 M a env (.d (webD n gs))) (hb : EX X H0 M b env (.d (natD k))) (hk : k < gs.length) (hs : PlainIx b := by first | exact fun _ _ => rfl) : EX X H0 M (.Subscript (.Subscript (.Subscript a (.Constant (.int 1) j p1) p2) b p3) (.Constant (.int 0) i p4) pos) env (.d (natD (gAt gs k).1)) :=
  ex_item (j := 0) (ex_gst ha hb hk hs) ex_int (.inr rfl) rfl rfl
theorem ex_far {j i : Nat} {p1 p2 p3 p4 : Pos} (ha : EX X H0 M a env (.d (webD n gs))) (hb : EX X H0 M b env (.d (natD k))) (hk : k < gs.length) (hs : PlainIx b := by first | exact fun _ _ => rfl) : EX X H0 M (.Subscript (.Subscript (.Subscript a (.Constant (.int 1) j p1) p2) b p3) (.Constant (.int 1) i p4) pos) env (.d (natD (gAt gs k).2)) :=
  ex_item (j := 1) (ex_gst ha hb hk hs) ex_int (.inr rfl) rfl rfl
/-- a number in a tuple | list of numbers -/
theorem et_inN {ra : Res} {l : List Nat} (ha : EX X H0 M a env (.d (natD k))) (hb : EX X H0 M b env ra) (hr : ra.v = tD l ∨ ra.v = lD l) (hm : behindInMarks .In b = false := by rfl) : ET X H0 M (.Compare a [.In] [b] pos) env (decide (k ∈ l)) :=
  (et_in ha hb rfl (nats_sc l) hr hm).to (inD_nat k l)
theorem ex_inN {ra : Res} {l : List Nat} (ha : EX X H0 M a env (.d (natD k))) (hb : EX X H0 M b env ra) (hr : ra.v = tD l ∨ ra.v = lD l) (hm : behindInMarks .In b = false := by rfl) : EX X H0 M (.Compare a [.In] [b] pos) env (.d (.bl (decide (k ∈ l)))) :=
  (ex_in ha hb rfl (nats_sc l) hr hm).to (by rw [inD_nat])
theorem et_notInN {ra : Res} {l : List Nat} (ha : EX X H0 M a env (.d (natD k))) (hb : EX X H0 M b env ra) (hr : ra.v = tD l ∨ ra.v = lD l) (hm : behindInMarks .NotIn b = false := by rfl) : ET X H0 M (.Compare a [.NotIn] [b] pos) env (!decide (k ∈ l)) :=
  (et_notIn ha hb rfl (nats_sc l) hr hm).to (by rw [inD_nat])
theorem et_neN {i j : Nat} (ha : EX X H0 M a env (.d (natD i))) (hb : EX X H0 M b env (.d (natD j))) : ET X H0 M (.Compare a [.NotEq] [b] pos) env (!decide (i = j)) :=
  (et_neI ha hb).to (by
    by_cases h : i = j
    · subst h; rw [decide_eq_true rfl, decide_eq_true rfl]
    · rw [decide_eq_false h, decide_eq_false (by omega)])
theorem et_eqN {i j : Nat} (ha : EX X H0 M a env (.d (natD i))) (hb : EX X H0 M b env (.d (natD j))) : ET X H0 M (.Compare a [.Eq] [b] pos) env (decide (i = j)) :=
  (et_eqI ha hb).to (by
    by_cases h : i = j
    · subst h; rw [decide_eq_true rfl, decide_eq_true rfl]
    · rw [decide_eq_false h, decide_eq_false (by omega)])
/-- a loop told by a fold -/
theorem lp_fold {α β : Type} {body : List Stmt} {enc : α → D} (e : β → Ev) (f : β → α → β) (Pr : β → List α → Prop) (h : ∀ (b : β) (x : α) (rest : List α), Pr b (x :: rest) → ∃ env1 js, AG X H0 M tg (e b) (enc x) env1 js ∧ XS X H0 M body env1 (.nx (e (f b x))) ∧ Pr (f b x) rest) :
    ∀ {xs : List α} {b : β}, Pr b xs → Lp X H0 M tg body (e b) (xs.map enc) (.nx (e (xs.foldl f b)))
  | [], b, _ => .nil
  | x :: xs, b, hp => by
    obtain ⟨env1, js, h1, h2, h3⟩ := h b x xs hp
    exact .nx h1 h2 (lp_fold e f Pr h h3)
end
section
variable {P : Program} {w : World} {K : PySem.W.Frag} {mg : Str → Option Value} {base : Heap}
def F_set_of (ds : List D) (d : D) : Prop := ∃ l out : List Nat, (ds = [tD l] ∨ ds = [lD l]) ∧ l.length < 64 ∧ out.Pairwise (· < ·) ∧ (∀ k, k ∈ out ↔ k ∈ l) ∧ d = tD out
theorem ct_set_of (B : Bl mg) (d : Df K mg "set_of" s_set_of ["row"]) : Ct P w K mg base 1 "set_of" ["row"] F_set_of := by
  obtain ⟨f, fd, Fn, hb, hm⟩ := d.ex
  refine ct_any Fn sc_set_of hb hm (fun ds d h => ?_) (by decide) (fun cdv A outer s H E hr ds d h => ?_)
  · obtain ⟨l, out, h | h, _⟩ := h <;> (subst h; rfl)
  · obtain ⟨l, out, h, hl, ho, hm', rfl⟩ := h
    have key : ∀ ns' : List Int, ns'.Pairwise (· < ·) → (∀ k, k ∈ ns' ↔ k ∈ l.map fun n : Nat => (n : Int)) → ns' = out.map fun n : Nat => (n : Int) := fun ns' h1 h2 => uniq_asc h1 (asc_int ho) fun k => (h2 k).trans (mem_ints hm' k).symm
    rcases h with rfl | rfl
    · exact .inl ⟨flat_tD _, _, xs_one (x_retD (EX.to (ex_tupleOf B.tuple (ex_sortSet (ns := l.map fun n : Nat => (n : Int)) rfl B.sorted B.set (ex_var 0 rfl) (.inr (congrArg D.tup (nats_int l))) (by rw [List.length_map]; exact hl) key) (.inl rfl)) (by unfold tD; rw [nats_int])))⟩
    · exact .inl ⟨flat_tD _, _, xs_one (x_retD (EX.to (ex_tupleOf B.tuple (ex_sortSet (ns := l.map fun n : Nat => (n : Int)) rfl B.sorted B.set (ex_var 0 rfl) (.inl (congrArg D.lst (nats_int l))) (by rw [List.length_map]; exact hl) key) (.inl rfl)) (by unfold tD; rw [nats_int])))⟩
theorem has_put {k : Int} {d : D} : ∀ {ks : List Int} {ds : List D} {j : Int}, ks.length = ds.length → hasD j (putD k d ks ds).1 = (decide (j = k) || hasD j ks)
  | [], _, j, _ => by simp [putD, hasD]
  | a :: ks, x :: ds, j, h => by
    unfold putD
    by_cases e : a = k
    · subst e
      rw [if_pos rfl]
      unfold hasD
      by_cases e2 : j = a
      · subst e2; simp
      · simp [e2]
    · rw [if_neg e]
      have ih := has_put (k := k) (d := d) (ks := ks) (ds := ds) (j := j) (by simpa using h)
      unfold hasD at ih ⊢
      by_cases e2 : j = a
      · subst e2; simp
      · simp only [List.mem_cons, e2, false_or] at ih ⊢
        exact ih
  | a :: ks, [], j, h => by cases h
theorem put_len {k : Int} {d : D} : ∀ {ks : List Int} {ds : List D}, ks.length = ds.length → (putD k d ks ds).1.length = (putD k d ks ds).2.length ∧ (putD k d ks ds).1.length ≤ ks.length + 1
  | [], [], _ => by simp [putD]
  | a :: ks, x :: ds, h => by
    unfold putD
    split
    · exact ⟨by simpa using h, Nat.le_succ _⟩
    · obtain ⟨h1, h2⟩ := put_len (k := k) (d := d) (ks := ks) (ds := ds) (by simpa using h)
      exact ⟨by simp only [List.length_cons, h1], by simp only [List.length_cons]; omega⟩
  | [], _ :: _, h => by cases h
  | _ :: _, [], h => by cases h
theorem has_fold : ∀ {ps : List (Int × D)} {acc : List Int × List D} {j : Int}, acc.1.length = acc.2.length → hasD j (foldP ps acc).1 = (decide (j ∈ ps.map (·.1)) || hasD j acc.1)
  | [], acc, j, _ => by simp [foldP]
  | p :: ps, acc, j, h => by
    show hasD j (foldP ps (putD p.1 p.2 acc.1 acc.2)).1 = _
    rw [has_fold (put_len h).1, has_put h, List.map_cons]
    by_cases e : j = p.1
    · simp [e]
    · have : (j == p.1) = false := beq_eq_false_iff_ne.mpr e
      simp [e, this]
def F_unwanted_in (ds : List D) (d : D) : Prop := ∃ (n : Nat) (gs : G), ds = [webD n gs] ∧ Web n gs ∧ d = lD (unwanted n gs)
theorem ct_unwanted_in (B : Bl mg) (d : Df K mg "unwanted_in" s_unwanted_in ["web"]) : Ct P w K mg base 1 "unwanted_in" ["web"] F_unwanted_in := by
  obtain ⟨f, fd, Fn, hb, hm⟩ := d.ex
  refine ct_any Fn sc_unwanted_in hb hm (fun ds d h => ?_) (by decide) (fun cdv A outer s H E hr ds d h => ?_)
  · obtain ⟨n, gs, rfl, _⟩ := h
    rfl
  · obtain ⟨n, gs, rfl, hw, rfl⟩ := h
    have h1 := hw.few
    have h2 := hw.fewG
    refine .inr (.inl ⟨⟨_, rfl, flats_map _ flat_nat _⟩, xs_cons (x_set 1 sc_unwanted_in.nd (ex_dc (fun g : Nat × Nat => ((g.1 : Int), D.bl true)) 2 rfl sc_unwanted_in.nd (it_tup (ex_gsts (ex_var 0 rfl)) rfl) (by omega) (fun g _ _ _ _ _ _ => ex_item (j := 0) (ex_var 2 rfl) ex_int (.inr rfl) rfl rfl) (fun g _ _ _ _ _ _ => ex_bl)))
      (xs_one (x_retW (ex_lcF natD (fun p => !decide (p ∈ gs.map (·.1))) 3 rfl sc_unwanted_in.nd (it_range B.range (ex_many (ex_var 0 rfl)) (by omega)) (by rw [List.length_range]; omega) (fun p hp _ _ _ _ _ => ?_) (fun p hp _ _ _ _ _ _ => ex_var 3 rfl))))⟩)
    refine ET.to (et_dNotIn (hu_of hr) (ex_var 3 rfl) (ex_var 1 rfl) rfl) ?_
    rw [has_fold rfl, List.map_map]
    have : decide ((p : Int) ∈ List.map ((fun x => x.1) ∘ fun g : Nat × Nat => ((g.1 : Int), D.bl true)) gs) = decide (p ∈ gs.map (·.1)) := by
      refine decide_eq_decide.mpr ?_
      rw [List.mem_map, List.mem_map]
      exact ⟨fun ⟨g, a, b⟩ => ⟨g, a, Int.ofNat.inj b⟩, fun ⟨g, a, b⟩ => ⟨g, a, by rw [← b]; rfl⟩⟩
    rw [this]
    show (!(_ || hasD (p : Int) [])) = _
    unfold hasD
    simp
def F_others_in (ds : List D) (d : D) : Prop := ∃ (n : Nat) (gs : G) (lot : List Nat), ds = [webD n gs, tD lot] ∧ Web n gs ∧ d = tD (others gs.length lot)
theorem ct_others_in (B : Bl mg) (d : Df K mg "others_in" s_others_in ["web", "lot"]) : Ct P w K mg base 1 "others_in" ["web", "lot"] F_others_in := by
  obtain ⟨f, fd, Fn, hb, hm⟩ := d.ex
  refine ct_any Fn sc_others_in hb hm (fun ds d h => ?_) (by decide) (fun cdv A outer s H E hr ds d h => ?_)
  · obtain ⟨n, gs, lot, rfl, _⟩ := h
    rfl
  · obtain ⟨n, gs, lot, rfl, hw, rfl⟩ := h
    have h2 := hw.fewG
    refine .inl ⟨flat_tD _, _, xs_one (x_retD (EX.to (ex_tupleOf B.tuple (ex_lcF natD (fun k => !decide (k ∈ lot)) 2 rfl sc_others_in.nd (it_range (n := gs.length) B.range (EX.to (ex_len B.len (ex_gsts (ex_var 0 rfl)) (.inr rfl)) (by rw [List.length_map])) (by omega)) (by rw [List.length_range]; omega) (fun p hp _ _ _ _ _ => et_notInN (ex_var 2 rfl) (ex_var 1 rfl) (.inl rfl)) (fun p hp _ _ _ _ _ _ => ex_var 2 rfl)) (.inl rfl)) rfl))⟩
def F_guests_in (ds : List D) (d : D) : Prop := ∃ (n : Nat) (gs : G) (lot part : List Nat), ds = [webD n gs, tD lot, tD part] ∧ Web n gs ∧ Lot gs lot ∧ d = tD (guestsIn gs lot part)
theorem ct_guests_in (B : Bl mg) (d : Df K mg "guests_in" s_guests_in ["web", "lot", "part"]) : Ct P w K mg base 1 "guests_in" ["web", "lot", "part"] F_guests_in := by
  obtain ⟨f, fd, Fn, hb, hm⟩ := d.ex
  refine ct_any Fn sc_guests_in hb hm (fun ds d h => ?_) (by decide) (fun cdv A outer s H E hr ds d h => ?_)
  · obtain ⟨n, gs, lot, part, rfl, _⟩ := h
    rfl
  · obtain ⟨n, gs, lot, part, rfl, hw, hl, rfl⟩ := h
    have h2 := hw.fewG
    have h3 := lot_len hl
    exact .inl ⟨flat_tD _, _, xs_one (x_retD (ex_tupleOf B.tuple (ex_lcF natD (fun k => decide ((gAt gs k).1 ∈ part)) 3 rfl sc_guests_in.nd (it_tup (ex_var 1 rfl) rfl) (by omega) (fun k hk _ _ _ _ _ => et_inN (ex_near (ex_var 0 rfl) (ex_var 3 rfl) (hl.ok k hk)) (ex_var 2 rfl) (.inl rfl)) (fun k hk _ _ _ _ _ _ => ex_var 3 rfl)) (.inl rfl)))⟩
end
end Zf
/-! Defs, 3: who meets what, trees, orders, seats. -/
namespace Zf
open PySem PySem.Spec PyProof.Rows L2 Zb Zt Gr
def optD : Option Nat → D
  | none => .non
  | some p => natD p
def knD (l : List Nat) : D := .dic (l.map fun n : Nat => (n : Int)) (l.map fun _ => .bl true)
theorem has_nat (k : Nat) (l : List Nat) : hasD (k : Int) (l.map fun n : Nat => (n : Int)) = decide (k ∈ l) := by
  unfold hasD
  refine decide_eq_decide.mpr ?_
  rw [mem_int]
  exact ⟨fun ⟨n, a, b⟩ => by rw [← Int.ofNat.inj b]; exact a, fun h => ⟨k, h, rfl⟩⟩
theorem put_new {k : Int} {d : D} : ∀ {ks : List Int} {ds : List D}, ks.length = ds.length → k ∉ ks → putD k d ks ds = (ks ++ [k], ds ++ [d])
  | [], [], _, _ => rfl
  | a :: ks, x :: ds, h, n => by
    unfold putD
    rw [if_neg (show ¬ a = k from fun e => n (by rw [e]; exact List.mem_cons_self ..)), put_new (by simpa using h) fun m => n (List.mem_cons_of_mem _ m)]
    rfl
  | [], _ :: _, h, _ => by cases h
  | _ :: _, [], h, _ => by cases h
theorem put_old {k : Int} {d : D} : ∀ {ks : List Int} {ds : List D}, ks.length = ds.length → k ∈ ks → (∀ x ∈ ds, x = d) → putD k d ks ds = (ks, ds)
  | [], _, _, h, _ => by cases h
  | a :: ks, x :: ds, h, n, e => by
    unfold putD
    by_cases z : a = k
    · rw [if_pos z, ← z, ← e x (List.mem_cons_self ..)]
    · rw [if_neg z]
      have m : k ∈ ks := (List.mem_cons.mp n).resolve_left fun y => z y.symm
      rw [put_old (by simpa using h) m fun y hy => e y (List.mem_cons_of_mem _ hy)]
  | _ :: _, [], h, _, _ => by cases h
theorem nat_notin {p : Nat} {l : List Nat} (h : p ∉ l) : (p : Int) ∉ l.map fun n : Nat => (n : Int) := fun m => by
  obtain ⟨n, a, b⟩ := mem_int.mp m
  exact h (by rw [← Int.ofNat.inj b]; exact a)
theorem put_kn (p : Nat) (l : List Nat) : putD (p : Int) (.bl true) (l.map fun n : Nat => (n : Int)) (l.map fun _ => .bl true) = ((addOne l p).map fun n : Nat => (n : Int), (addOne l p).map fun _ => .bl true) := by
  unfold addOne
  by_cases h : p ∈ l
  · rw [if_pos h, put_old (by simp) (mem_int.mpr ⟨p, h, rfl⟩) fun x hx => by
      obtain ⟨y, _, rfl⟩ := List.mem_map.mp hx
      rfl]
  · rw [if_neg h, put_new (by simp) (nat_notin h), List.map_append, List.map_append]
    rfl
theorem mem_addOne {l : List Nat} {p q : Nat} : q ∈ addOne l p ↔ q ∈ l ∨ q = p := by
  unfold addOne
  by_cases h : p ∈ l
  · rw [if_pos h]
    exact ⟨.inl, fun z => z.elim id fun e => e ▸ h⟩
  · rw [if_neg h]
    simp
theorem nodup_addOne {l : List Nat} {p : Nat} (h : l.Nodup) : (addOne l p).Nodup := by
  unfold addOne
  by_cases m : p ∈ l
  · rw [if_pos m]
    exact h
  · rw [if_neg m]
    refine List.nodup_append.mpr ⟨h, by simp, fun a ha b hb => ?_⟩
    rw [List.mem_singleton] at hb
    rintro rfl
    exact m (hb ▸ ha)
theorem fold_kn : ∀ (ps l : List Nat), foldP (ps.map fun p : Nat => ((p : Int), D.bl true)) (l.map fun n : Nat => (n : Int), l.map fun _ => .bl true) = ((ps.foldl addOne l).map fun n : Nat => (n : Int), (ps.foldl addOne l).map fun _ => .bl true)
  | [], l => rfl
  | p :: ps, l => by
    show foldP (ps.map _) (putD (p : Int) (.bl true) _ _) = _
    rw [put_kn, fold_kn ps]
    rfl
section
variable {X : Cx} {H0 : Hp} {M : Addr → Prop} {env env1 env2 : Ev} {a b c e tg : Expr} {pos : Pos}
def run {β : Type} (st : β → Option β) : Nat → β → β
  | 0, b => b
  | n + 1, b => match st b with
    | none => b
    | some b' => run st n b'
theorem wl_go {β : Type} {body : List Stmt} (e : β → Ev) (st : β → Option β) (Pr : β → Prop) (m : β → Nat) (h0 : ∀ b, Pr b → st b = none → ET X H0 M c (e b) false)
    (h1 : ∀ b b', Pr b → st b = some b' → ET X H0 M c (e b) true ∧ XS X H0 M body (e b) (.nx (e b')) ∧ Pr b' ∧ m b' < m b) : ∀ (n : Nat) (b : β), Pr b → m b ≤ n → Wl X H0 M c body n (e b) (.nx (e (run st n b))) := by
  intro n
  induction n with
  | zero =>
    intro b hb hm
    cases hs : st b with
    | none => exact .stop (h0 b hb hs)
    | some b' => exact absurd (h1 b b' hb hs).2.2.2 (by omega)
  | succ n ih =>
    intro b hb hm
    cases hs : st b with
    | none =>
      have : run st (n + 1) b = b := by
        show (match st b with | none => b | some b' => run st n b') = b
        rw [hs]
      rw [this]
      exact .stop (h0 b hb hs)
    | some b' =>
      have : run st (n + 1) b = run st n b' := by
        show (match st b with | none => b | some b' => run st n b') = _
        rw [hs]
      rw [this]
      obtain ⟨g1, g2, g3, g4⟩ := h1 b b' hb hs
      exact .turn g1 g2 (ih b' g3 (by omega))
theorem ex_callD {k : Nat} {n : Str} {ps : List Str} {F : List D → D → Prop} {rs : List Res} {ks : List Int} {d : List D} {p : Pos} {es : List Expr} (C : Ct X.prog X.w X.K X.mg X.base k n ps F) (hr : Room k X.A) (ha : EA X H0 M (e :: es) env rs) (h : F (rs.map Res.v) (.dic ks d)) (hf : D.flats d = true) (hg : Gl X n := by rfl) (hdb : (n == ("__debug__" : Str)) = false := by decide)
    (he : starEach (e :: es) X.env = (false, eval e X.env) :: starEach es X.env := by rfl) (hpl : (backTo pos (starEach es X.env)).any (·.1) = false := by rfl) : EX X H0 M (.Call (.Name n p) (e :: es) [] pos) env (.d (.dic ks d)) := ex_call C hr ha h hg hdb he hpl
end
section
variable {P : Program} {w : World} {K : PySem.W.Frag} {mg : Str → Option Value} {base : Heap}
def F_met_by (ds : List D) (d : D) : Prop := ∃ (n : Nat) (gs : G) (lot : List Nat), ds = [webD n gs, tD lot] ∧ Web n gs ∧ Lot gs lot ∧ d = lD (met gs lot)
theorem ct_met_by (d : Df K mg "met_by" s_met_by ["web", "lot"]) : Ct P w K mg base 1 "met_by" ["web", "lot"] F_met_by := by
  obtain ⟨f, fd, Fn, hb, hm⟩ := d.ex
  refine ct_any Fn sc_met_by hb hm (fun ds d h => ?_) (by decide) (fun cdv A outer s H E hr ds d h => ?_)
  · obtain ⟨n, gs, lot, rfl, _⟩ := h
    rfl
  · obtain ⟨n, gs, lot, rfl, hw, hl, rfl⟩ := h
    have h2 := hw.fewG
    have h3 := lot_len hl
    have fold : ∀ (lot acc : List Nat) (s : Sl), (lot.foldl (fun (b : List Nat × Sl) k => (b.1 ++ [(gAt gs k).1, (gAt gs k).2], Sl.d (natD k))) (acc, s)).1 = acc ++ met gs lot := by
      intro lot
      induction lot with
      | nil => intro acc s; simp [met]
      | cons k lot ih => intro acc s; rw [List.foldl_cons, ih]; simp [met, List.append_assoc]
    refine .inr (.inl ⟨⟨_, rfl, flats_map _ flat_nat _⟩, xs_cons (x_setO 2 sc_met_by.nd (ex_lst ea_nil)) (xs_cons (x_for rfl (it_tup (ex_var 1 rfl) rfl)
      (lp_fold (b := ([], .no)) (xs := lot) (enc := natD) (fun b : List Nat × Sl => [.d (webD n gs), .d (tD lot), .o (lD b.1), b.2]) (fun b k => (b.1 ++ [(gAt gs k).1, (gAt gs k).2], .d (natD k))) (fun b rest => b.1.length + 2 * rest.length ≤ 1000 ∧ ∀ k ∈ rest, k < gs.length) (fun b k rest hp => ?_) ?_))
      (xs_one ?_))⟩)
    · refine ⟨_, _, ag_name 3 sc_met_by.nd, XS.to (xs_one (x_extendT 2 rfl (ex_gst (ex_var 0 rfl) (ex_var 3 rfl) (hp.2 k (List.mem_cons_self ..))) rfl ?_)) ?_, ?_, fun j hj => hp.2 j (List.mem_cons_of_mem _ hj)⟩
      · have := hp.1
        simp only [List.length_cons] at this
        rw [List.length_map]
        show _ + 2 ≤ _
        omega
      · show Out.nx [_, _, _, _] = Out.nx [_, _, _, _]
        congr 4
        unfold lD
        rw [List.map_append]
        rfl
      · have := hp.1
        simp only [List.length_cons] at this
        rw [List.length_append]
        show _ + 2 + _ ≤ _
        omega
    · refine ⟨?_, hl.ok⟩
      show 0 + _ ≤ _
      omega
    · have := fold lot [] .no
      rw [List.nil_append] at this
      rw [← this]
      exact x_retO (ex_own 2 rfl)
def F_spare_in (ds : List D) (d : D) : Prop := ∃ (n : Nat) (gs : G) (lot : List Nat), ds = [webD n gs, tD lot] ∧ Web n gs ∧ Lot gs lot ∧ d = lD (spare n gs lot)
theorem ct_spare_in (d : Df K mg "spare_in" s_spare_in ["web", "lot"]) (c1 : Ct P w K mg base 1 "met_by" ["web", "lot"] F_met_by) (c2 : Ct P w K mg base 1 "unwanted_in" ["web"] F_unwanted_in) : Ct P w K mg base 2 "spare_in" ["web", "lot"] F_spare_in := by
  obtain ⟨f, fd, Fn, hb, hm⟩ := d.ex
  refine ct_any Fn sc_spare_in hb hm (fun ds d h => ?_) (by decide) (fun cdv A outer s H E hr ds d h => ?_)
  · obtain ⟨n, gs, lot, rfl, _⟩ := h
    rfl
  · obtain ⟨n, gs, lot, rfl, hw, hl, rfl⟩ := h
    have h1 := hw.few
    have h2 : (unwanted n gs).length ≤ n := by
      have := List.length_filter_le (fun p => !decide (p ∈ gs.map (·.1))) (List.range n)
      rwa [List.length_range] at this
    exact .inr (.inl ⟨⟨_, rfl, flats_map _ flat_nat _⟩, xs_cons (x_set 2 sc_spare_in.nd (ex_call c1 hr (ea_cons (ex_var 0 rfl) (ea_cons (ex_var 1 rfl) ea_nil)) ⟨n, gs, lot, rfl, hw, hl, rfl⟩))
      (xs_one (x_retW (ex_lcF natD (fun p => !decide (p ∈ met gs lot)) 3 rfl sc_spare_in.nd (it_list (ex_call c2 hr (ea_cons (ex_var 0 rfl) ea_nil) ⟨n, gs, rfl, hw, rfl⟩) rfl) (by omega) (fun p hp _ _ _ _ _ => et_notInN (ex_var 3 rfl) (ex_var 2 rfl) (.inr rfl)) (fun p hp _ _ _ _ _ _ => ex_var 3 rfl))))⟩)
def F_is_tree_in (ds : List D) (d : D) : Prop := ∃ (n : Nat) (gs : G) (oth part : List Nat), ds = [webD n gs, tD oth, tD part] ∧ Web n gs ∧ Lot gs oth ∧ d = .bl (isTree gs oth part)
theorem ct_is_tree_in (B : Bl mg) (d : Df K mg "is_tree_in" s_is_tree_in ["web", "others", "part"]) (c1 : Ct P w K mg base 1 "guests_in" ["web", "lot", "part"] F_guests_in) : Ct P w K mg base 2 "is_tree_in" ["web", "others", "part"] F_is_tree_in := by
  obtain ⟨f, fd, Fn, hb, hm⟩ := d.ex
  refine ct_any Fn sc_is_tree_in hb hm (fun ds d h => ?_) (by decide) (fun cdv A outer s H E hr ds d h => ?_)
  · obtain ⟨n, gs, oth, part, rfl, _⟩ := h
    rfl
  · obtain ⟨n, gs, oth, part, rfl, hw, hl, rfl⟩ := h
    refine .inl ⟨rfl, _, xs_one (x_retD (EX.to (ex_eqI (ex_len B.len (ex_call c1 hr (ea_cons (ex_var 0 rfl) (ea_cons (ex_var 1 rfl) (ea_cons (ex_var 2 rfl) ea_nil))) ⟨n, gs, oth, part, rfl, hw, hl, rfl⟩) (.inr rfl)) (ex_sub (ex_len B.len (ex_var 2 rfl) (.inr rfl)) ex_int)) ?_))⟩
    rw [List.length_map, List.length_map]
    unfold isTree
    refine congrArg (fun z => Res.d (.bl z)) (decide_eq_decide.mpr ?_)
    omega
def F_is_row_in (ds : List D) (d : D) : Prop := ∃ (n : Nat) (gs : G) (x : D), ds = [webD n gs, x] ∧ Web n gs ∧ ((isTu x = false ∧ d = .bl false) ∨ ∃ row : List Nat, x = tD row ∧ (∀ k ∈ row, k < gs.length) ∧ row.Nodup ∧ row.length ≤ 1000 ∧ d = .bl true)
theorem ct_is_row_in (B : Bl mg) (d : Df K mg "is_row_in" s_is_row_in ["web", "thing"]) (c1 : Ct P w K mg base 2 "is_within" ["thing", "least", "most"] F_is_within) : Ct P w K mg base 3 "is_row_in" ["web", "thing"] F_is_row_in := by
  obtain ⟨f, fd, Fn, hb, hm⟩ := d.ex
  refine ct_any Fn sc_is_row_in hb hm (fun ds d h => ?_) (by decide) (fun cdv A outer s H E hr ds d h => ?_)
  · obtain ⟨n, gs, x, rfl, _⟩ := h
    rfl
  · obtain ⟨n, gs, x, rfl, hw, ⟨hx, rfl⟩ | ⟨row, rfl, h1, h2, h3, rfl⟩⟩ := h
    · refine .inl ⟨rfl, _, xs_stop (x_ifT (ET.to (et_w (ew_or (y := true) (et_not (et_val (ex_isi kit_tuple B.isinstance B.tuple (ex_var 1 rfl)))) fun z => ?_)) ?_) (xs_one (x_retD ex_bl)))⟩
      · rw [isT_tuple] at z
        have z : (!isTu x) = false := z
        rw [hx] at z
        cases z
      · rw [isT_tuple]
        show ((!isTu x) || true) = true
        rw [hx]
        rfl
    · refine .inl ⟨rfl, _, xs_cons (x_ifF (ET.to (et_w (ew_or (et_not (et_val (ex_isi kit_tuple B.isinstance B.tuple (ex_var 1 rfl)))) fun _ => ew_or1 (et_not (et_val (ex_all rfl B.all (ex_lcA (fun _ => D.bl true) 2 rfl sc_is_row_in.nd (it_tup (ex_var 1 rfl) rfl) (by omega) (fun k hk s' H' C cl fp => ?_)) (bs := row.map fun _ => true) (by rw [List.map_map]; rfl)))))) ?_) xs_nil)
        (xs_one (x_retD (EX.to (ex_eqI (ex_lenSet (ns := row.map fun n : Nat => (n : Int)) rfl B.len B.set (ex_var 1 rfl) (.inr (congrArg D.tup (nats_int row))) (by rw [List.length_map]; exact h3) (nodup_int h2)) (ex_len B.len (ex_var 1 rfl) (.inr rfl))) ?_)))⟩
      · refine EX.to (ex_call c1 hr (ea_cons (ex_var 2 rfl) (ea_cons ex_int (ea_cons (ex_sub (ex_len B.len (ex_gsts (ex_var 0 rfl)) (.inr rfl)) ex_int) ea_nil))) ⟨_, _, _, rfl, rfl⟩) ?_
        have := h1 k hk
        show Res.d (.bl (decide ((0 : Int) ≤ (k : Int)) && decide ((k : Int) ≤ ((gs.map gD).length : Int) - 1))) = _
        rw [List.length_map, decide_eq_true (by omega), decide_eq_true (by omega)]
        rfl
      · rw [isT_tuple, all_true]
        rfl
      · refine congrArg (fun z => Res.d (.bl z)) (decide_eq_true ?_)
        rw [List.length_map, List.length_map]
def F_is_order_in (ds : List D) (d : D) : Prop := ∃ (n : Nat) (gs : G) (x : D), ds = [webD n gs, x] ∧ Web n gs ∧ ((isTu x = false ∧ d = .bl false) ∨ ∃ row : List Nat, x = tD row ∧ IsOrder gs row ∧ d = .bl true)
theorem ct_is_order_in (B : Bl mg) (d : Df K mg "is_order_in" s_is_order_in ["web", "thing"]) (c1 : Ct P w K mg base 3 "is_row_in" ["web", "thing"] F_is_row_in) : Ct P w K mg base 4 "is_order_in" ["web", "thing"] F_is_order_in := by
  obtain ⟨f, fd, Fn, hb, hm⟩ := d.ex
  refine ct_any Fn sc_is_order_in hb hm (fun ds d h => ?_) (by decide) (fun cdv A outer s H E hr ds d h => ?_)
  · obtain ⟨n, gs, x, rfl, _⟩ := h
    rfl
  · obtain ⟨n, gs, x, rfl, hw, ⟨hx, rfl⟩ | ⟨row, rfl, ho, rfl⟩⟩ := h
    · refine .inl ⟨rfl, _, xs_one (x_retD (EX.to (ex_and (y := true) (ex_call c1 hr (ea_cons (ex_var 0 rfl) (ea_cons (ex_var 1 rfl) ea_nil)) ⟨n, gs, x, rfl, hw, .inl ⟨hx, rfl⟩⟩) fun z => ?_) rfl))⟩
      cases z
    · have hlen : row.length = gs.length := by
        have := ho.length_eq
        rwa [List.length_range] at this
      have := hw.fewG
      refine .inl ⟨rfl, _, xs_one (x_retD (EX.to (ex_and (ex_call c1 hr (ea_cons (ex_var 0 rfl) (ea_cons (ex_var 1 rfl) ea_nil)) ⟨n, gs, _, rfl, hw, .inr ⟨row, rfl, fun k hk => List.mem_range.mp (ho.mem_iff.mp hk), ho.nodup_iff.mpr List.nodup_range, by omega, rfl⟩⟩) fun _ => ex_one (ex_eqI (ex_len B.len (ex_var 1 rfl) (.inr rfl)) (ex_len B.len (ex_gsts (ex_var 0 rfl)) (.inr rfl)))) ?_))⟩
      rw [List.length_map, List.length_map, hlen, decide_eq_true rfl]
      rfl
end
end Zf
/-! Defs, 4: seats, who is without, what grows. -/
namespace Zf
open PySem PySem.Spec PyProof.Rows L2 Zb Zt Gr
def seatsD (q : Nat × Option Nat) : D := optD q.2
theorem seats_fst (gs : G) : ∀ (row taken : List Nat), (seats gs taken row).map (·.1) = row
  | [], _ => rfl
  | k :: row, t => by
    show k :: (seats gs _ row).map (·.1) = _
    rw [seats_fst gs row]
theorem flat_optD : ∀ o, (optD o).flat = true
  | none => rfl
  | some _ => rfl
theorem optD_isN : ∀ o, (optD o).isN = o.isNone
  | none => rfl
  | some _ => rfl
/-- what a run has come to: the places taken, the guests done with their seats -/
def runSt (gs : G) (st : List Nat × List (Nat × Option Nat)) (k : Nat) : List Nat × List (Nat × Option Nat) := (push st.1 (seat gs st.1 k), st.2 ++ [(k, seat gs st.1 k)])
theorem runSt_fold (gs : G) : ∀ (row : List Nat) (st : List Nat × List (Nat × Option Nat)), (row.foldl (runSt gs) st).2 = st.2 ++ seats gs st.1 row
  | [], st => by simp [seats]
  | k :: row, st => by
    rw [List.foldl_cons, runSt_fold gs row]
    show (st.2 ++ [_]) ++ seats gs (push st.1 _) row = _
    rw [List.append_assoc]
    rfl
section
variable {P : Program} {w : World} {K : PySem.W.Frag} {mg : Str → Option Value} {base : Heap}
def F_seat_in (ds : List D) (d : D) : Prop := ∃ (n : Nat) (gs : G) (taken : List Nat) (k : Nat), ds = [webD n gs, knD taken, natD k] ∧ k < gs.length ∧ d = optD (seat gs taken k)
theorem ct_seat_in (d : Df K mg "seat_in" s_seat_in ["web", "taken", "guest"]) : Ct P w K mg base 1 "seat_in" ["web", "taken", "guest"] F_seat_in := by
  obtain ⟨f, fd, Fn, hb, hm⟩ := d.ex
  refine ct_any Fn sc_seat_in hb hm (fun ds d h => ?_) (by decide) (fun cdv A outer s H E hr ds d h => ?_)
  · obtain ⟨n, gs, taken, k, rfl, _⟩ := h
    rfl
  · obtain ⟨n, gs, taken, k, rfl, hk, rfl⟩ := h
    refine .inl ⟨flat_optD _, false, xs_cons (x_asg (ex_gst (ex_var 0 rfl) (ex_var 2 rfl) hk) (ag_tup rfl (ags_cons (ag_name 3 sc_seat_in.nd) (ags_cons (ag_name 4 sc_seat_in.nd) ags_nil)))) ?_⟩
    by_cases h1 : (gAt gs k).1 ∈ taken
    · refine xs_cons (x_ifF (ET.to (et_dNotIn (hu_of hr) (ex_var 3 rfl) (ex_var 1 rfl) rfl) (by rw [has_nat, decide_eq_true h1]; rfl)) xs_nil) (xs_one (x_retD (ex_ifE (et_dIn (hu_of hr) (ex_var 4 rfl) (ex_var 1 rfl) rfl) (fun h => ?_) fun h => ?_)))
      · rw [has_nat, decide_eq_true_eq] at h
        unfold seat
        rw [if_neg (fun z => z h1), if_pos h]
        exact ex_non
      · rw [has_nat, decide_eq_false_iff_not] at h
        unfold seat
        rw [if_neg (fun z => z h1), if_neg h]
        exact ex_var 4 rfl
    · refine xs_stop (x_ifT (ET.to (et_dNotIn (hu_of hr) (ex_var 3 rfl) (ex_var 1 rfl) rfl) (by rw [has_nat, decide_eq_false h1]; rfl)) (xs_one (x_retD ?_)))
      unfold seat
      rw [if_pos h1]
      exact ex_var 3 rfl
def F_seats_in (ds : List D) (d : D) : Prop := ∃ (n : Nat) (gs : G) (row : List Nat), ds = [webD n gs, tD row] ∧ (∀ k ∈ row, k < gs.length) ∧ row.Nodup ∧ row.length ≤ 1000 ∧ d = .dic (row.map fun k : Nat => (k : Int)) ((seats gs [] row).map seatsD)
theorem ct_seats_in (d : Df K mg "seats_in" s_seats_in ["web", "row"]) (c1 : Ct P w K mg base 1 "seat_in" ["web", "taken", "guest"] F_seat_in) : CtO P w K mg base 2 "seats_in" ["web", "row"] F_seats_in := by
  obtain ⟨f, fd, Fn, hb, hm⟩ := d.ex
  refine ct_own Fn sc_seats_in hb hm (fun ds d h => ?_) (by decide) (fun cdv A outer s H E hr ds d h => ?_)
  · obtain ⟨n, gs, row, rfl, _⟩ := h
    rfl
  · obtain ⟨n, gs, row, rfl, h1, h2, h3, rfl⟩ := h
    refine ⟨flats_map seatsD (fun q => flat_optD q.2) (seats gs [] row), xs_cons (x_par2 2 3 rfl sc_seats_in.nd (ep_o ex_dict0 (ep_o ex_dict0 ep_nil))) (xs_cons (x_for rfl (it_tup (ex_var 1 rfl) rfl)
      (lp_fold (b := (([], []), .no, .no)) (xs := row) (enc := natD) (fun b : (List Nat × List (Nat × Option Nat)) × Sl × Sl => [.d (webD n gs), .d (tD row), .o (knD b.1.1), .o (.dic ((b.1.2.map (·.1)).map fun k : Nat => (k : Int)) (b.1.2.map seatsD)), b.2.1, b.2.2])
        (fun b k => (runSt gs b.1 k, .d (natD k), .d (optD (seat gs b.1.1 k)))) (fun b rest => (∀ k ∈ rest, k < gs.length) ∧ (b.1.2.map (·.1) ++ rest).Nodup ∧ b.1.1.Nodup ∧ b.1.1.length ≤ b.1.2.length ∧ b.1.2.length + rest.length ≤ 1000) (fun b k rest hp => ?_) ?_)) (xs_one ?_))⟩
    · obtain ⟨p1, p2, p3, p4, p5⟩ := hp
      have hk := p1 k (List.mem_cons_self ..)
      obtain ⟨q1, q2, q3⟩ := List.nodup_append.mp p2
      obtain ⟨q4, q5⟩ := List.nodup_cons.mp q2
      have knew : k ∉ b.1.2.map (·.1) := fun m => q3 k m k (List.mem_cons_self ..) rfl
      have few : b.1.2.length < 1000 := by
        simp only [List.length_cons] at p5
        omega
      have hfound : putD (k : Int) (optD (seat gs b.1.1 k)) ((b.1.2.map (·.1)).map fun k : Nat => (k : Int)) (b.1.2.map seatsD) = (((b.1.2 ++ [(k, seat gs b.1.1 k)]).map (·.1)).map fun k : Nat => (k : Int), (b.1.2 ++ [(k, seat gs b.1.1 k)]).map seatsD) := by
        rw [put_new (by simp) (nat_notin knew)]
        simp [seatsD]
      have nxt : (∀ j ∈ rest, j < gs.length) ∧ ((runSt gs b.1 k).2.map (fun q : Nat × Option Nat => q.1) ++ rest).Nodup ∧ (runSt gs b.1 k).1.Nodup ∧ (runSt gs b.1 k).1.length ≤ (runSt gs b.1 k).2.length ∧ (runSt gs b.1 k).2.length + rest.length ≤ 1000 := by
        refine ⟨fun j hj => p1 j (List.mem_cons_of_mem _ hj), ?_, ?_, ?_, ?_⟩
        · show ((b.1.2 ++ [(k, seat gs b.1.1 k)]).map (fun q : Nat × Option Nat => q.1) ++ rest).Nodup
          rw [List.map_append, List.append_assoc]
          exact p2
        · unfold runSt push
          cases seat gs b.1.1 k with
          | none => exact p3
          | some p => exact nodup_addOne p3
        · unfold runSt push
          simp only [List.length_append, List.length_singleton]
          cases seat gs b.1.1 k with
          | none => exact Nat.le_succ_of_le p4
          | some p =>
            show (addOne b.1.1 p).length ≤ _
            unfold addOne
            split
            · exact Nat.le_succ_of_le p4
            · rw [List.length_append]
              exact Nat.succ_le_succ p4
        · show (b.1.2 ++ [(k, seat gs b.1.1 k)]).length + _ ≤ _
          simp only [List.length_cons] at p5
          rw [List.length_append, List.length_singleton]
          omega
      refine ⟨_, _, ag_name 4 sc_seats_in.nd, xs_cons (x_set 5 sc_seats_in.nd (ex_call c1 hr (ea_cons (ex_var 0 rfl) (ea_cons (ex_own 2 rfl) (ea_cons (ex_var 4 rfl) ea_nil))) ⟨n, gs, b.1.1, k, rfl, hk, rfl⟩))
        (xs_cons (x_dput 3 (hu_of hr) rfl (ex_var 5 rfl) (ex_var 4 rfl) ?_ ?_) ?_), nxt⟩
      · exact nodup_int q1
      · rw [List.length_map, List.length_map]
        omega
      · cases hs : seat gs b.1.1 k with
        | none =>
          refine XS.to (xs_one (x_ifF (ET.to (et_notN (ex_var 5 rfl) ex_non) rfl) xs_nil)) ?_
          show Out.nx [_, _, _, _, _, _] = Out.nx [_, _, _, _, _, _]
          rw [hs] at hfound
          show Out.nx [_, _, _, Sl.o (.dic (putD _ (optD none) _ _).1 (putD _ (optD none) _ _).2), _, _] = _
          rw [hfound]
          unfold runSt push
          rw [hs]
          rfl
        | some p =>
          refine XS.to (xs_one (x_ifT (ET.to (et_notN (ex_var 5 rfl) ex_non) rfl) (xs_one (x_dput 2 (hu_of hr) rfl ex_bl (ex_var 5 rfl) (nodup_int p3) (by rw [List.length_map]; omega))))) ?_
          rw [hs] at hfound
          show Out.nx [_, _, Sl.o (.dic (putD (p : Int) (.bl true) (b.1.1.map fun n : Nat => (n : Int)) (b.1.1.map fun _ => .bl true)).1 (putD (p : Int) (.bl true) (b.1.1.map fun n : Nat => (n : Int)) (b.1.1.map fun _ => .bl true)).2), Sl.o (.dic (putD _ (optD (some p)) _ _).1 (putD _ (optD (some p)) _ _).2), _, _] = _
          rw [hfound, put_kn]
          unfold runSt push
          rw [hs]
          rfl
    · exact ⟨h1, by simpa using h2, by simp, by simp, by simpa using h3⟩
    · have fo : ∀ (row : List Nat) (st : List Nat × List (Nat × Option Nat)) (s1 s2 : Sl), (row.foldl (fun (b : (List Nat × List (Nat × Option Nat)) × Sl × Sl) k => (runSt gs b.1 k, Sl.d (natD k), Sl.d (optD (seat gs b.1.1 k)))) (st, s1, s2)).1 = row.foldl (runSt gs) st := by
        intro row
        induction row with
        | nil => intro st s1 s2; rfl
        | cons k row ih => intro st s1 s2; rw [List.foldl_cons, ih]; rfl
      have e1 := fo row ([], []) .no .no
      have e2 := runSt_fold gs row ([], [])
      rw [← e1] at e2
      rw [List.nil_append] at e2
      refine x_retO (i := 3) (EX.to (ex_own 3 rfl) ?_)
      rw [e2, seats_fst]
def F_without_in (ds : List D) (d : D) : Prop := ∃ (n : Nat) (gs : G) (row : List Nat), ds = [webD n gs, tD row] ∧ (∀ k ∈ row, k < gs.length) ∧ row.Nodup ∧ row.length ≤ 1000 ∧ d = tD (without gs row)
theorem ct_without_in (B : Bl mg) (d : Df K mg "without_in" s_without_in ["web", "row"]) (c1 : CtO P w K mg base 2 "seats_in" ["web", "row"] F_seats_in) : Ct P w K mg base 3 "without_in" ["web", "row"] F_without_in := by
  obtain ⟨f, fd, Fn, hb, hm⟩ := d.ex
  refine ct_any Fn sc_without_in hb hm (fun ds d h => ?_) (by decide) (fun cdv A outer s H E hr ds d h => ?_)
  · obtain ⟨n, gs, row, rfl, _⟩ := h
    rfl
  · obtain ⟨n, gs, row, rfl, h1, h2, h3, rfl⟩ := h
    have hlen : (seats gs [] row).length = row.length := by
      have := congrArg List.length (seats_fst gs row [])
      simpa using this
    have lnd : (lacks gs row).Nodup := by
      have q : ((seats gs [] row).map (·.1)).Nodup := by rw [seats_fst]; exact h2
      exact q.sublist (List.filter_sublist.map _)
    have lin : ∀ k ∈ lacks gs row, k < gs.length := fun k hk => by
      obtain ⟨q, hq, rfl⟩ := List.mem_map.mp hk
      refine h1 _ ?_
      rw [← seats_fst gs row []]
      exact List.mem_map_of_mem (List.mem_filter.mp hq).1
    refine .inl ⟨flat_tD _, _, xs_cons (x_setO 2 sc_without_in.nd (ex_callO c1 hr (ea_cons (ex_var 0 rfl) (ea_cons (ex_var 1 rfl) ea_nil)) ⟨n, gs, row, rfl, h1, h2, h3, rfl⟩))
      (xs_one (x_retD (EX.to (ex_tupleOf B.tuple (ex_sortI (ns := (lacks gs row).map fun k : Nat => (k : Int)) (res := (without gs row).map fun k : Nat => (k : Int)) B.sorted (ex_lcKF (xs := seats gs [] row) (fun q => natD q.1) (fun q => natD q.1) (fun q => q.2.isNone) 2 3 (fun _ => trivial) rfl sc_without_in.nd rfl ?g1 ?g2 ?g3 (fun q hq s' H' C cl fp => ?g4) (fun q hq _ s' H' C cl fp => ex_var 3 rfl)) ?g5 ?g6) (.inl rfl)) (by unfold tD; rw [nats_int]))))⟩
    case g1 =>
      rw [List.length_map]
      omega
    case g2 =>
      rw [← nats_int]
      conv => lhs; rw [← seats_fst gs row []]
      rw [List.map_map]
      rfl
    case g3 => exact flats_map (fun q : Nat × Option Nat => natD q.1) (fun q => rfl) _
    case g4 =>
      obtain ⟨j, hj⟩ := List.mem_iff_getElem?.mp hq
      refine ET.to (et_isN (ex_dget (j := j) (hu_of hr) (ex_var 2 rfl) (ex_var 3 rfl) rfl (nodup_int h2) ?_ (d := optD q.2) ?_) ex_non) (optD_isN _)
      · have : row[j]? = some q.1 := by
          conv => lhs; rw [← seats_fst gs row []]
          rw [List.getElem?_map, hj]
          rfl
        rw [List.getElem?_map, this]
        rfl
      · rw [List.getElem?_map, hj]
        rfl
    case g5 =>
      show D.lst _ = D.lst _
      rw [← nats_int]
      unfold lacks
      rw [List.map_map]
      rfl
    case g6 =>
      intro ns' hp ho
      refine uniq_asc (le_lt_nodup ho (hp.nodup_iff.mpr (nodup_int lnd))) (asc_int (asc_asc _ _)) fun k => ?_
      rw [hp.mem_iff]
      refine mem_ints (fun j => ?_) k
      unfold Gr.without
      rw [mem_asc]
      exact ⟨fun h => ⟨lin j h, h⟩, fun h => h.2⟩
end
end Zf
/-! Defs, 5: what grows from places, a round seated. -/
namespace Zf
open PySem PySem.Spec PyProof.Rows L2 Zb Zt Gr
def lgD (l : List (Nat × Nat)) : D := .lst (l.map gD)
def tgD (l : List (Nat × Nat)) : D := .tup (l.map gD)
theorem eqv_nil (l : List Nat) : D.eqv (lD l) (.lst []) = l.isEmpty := by cases l <;> rfl
theorem nextTo_sub {gs : G} {l kn : List Nat} {k : Nat} (h : k ∈ nextTo gs l kn) : k ∈ l := (List.mem_filter.mp h).1
theorem nextTo_len (gs : G) (l kn : List Nat) : (nextTo gs l kn).length ≤ l.length := List.length_filter_le _ _
section
variable {P : Program} {w : World} {K : PySem.W.Frag} {mg : Str → Option Value} {base : Heap}
def F_next_to (ds : List D) (d : D) : Prop := ∃ (n : Nat) (gs : G) (l kn : List Nat), ds = [webD n gs, lD l, knD kn] ∧ (∀ k ∈ l, k < gs.length) ∧ l.length ≤ 1000 ∧ d = lD (nextTo gs l kn)
theorem ct_next_to (d : Df K mg "next_to" s_next_to ["web", "guests", "known"]) : Ct P w K mg base 1 "next_to" ["web", "guests", "known"] F_next_to := by
  obtain ⟨f, fd, Fn, hb, hm⟩ := d.ex
  refine ct_any Fn sc_next_to hb hm (fun ds d h => ?_) (by decide) (fun cdv A outer s H E hr ds d h => ?_)
  · obtain ⟨n, gs, l, kn, rfl, _⟩ := h
    rfl
  · obtain ⟨n, gs, l, kn, rfl, h1, h2, rfl⟩ := h
    refine .inr (.inl ⟨⟨_, rfl, flats_map _ flat_nat _⟩, xs_one (x_retW (ex_lcF natD (fun k => decide ((gAt gs k).1 ∈ kn) != decide ((gAt gs k).2 ∈ kn)) 3 rfl sc_next_to.nd (it_list (ex_var 1 rfl) rfl) (by omega) (fun k hk _ _ _ _ _ => ?_) (fun k hk _ _ _ _ _ _ => ex_var 3 rfl)))⟩)
    refine ET.to (et_neB (ex_dIn (hu_of hr) (ex_near (ex_var 0 rfl) (ex_var 3 rfl) (h1 k hk)) (ex_var 2 rfl) rfl) (ex_dIn (hu_of hr) (ex_far (ex_var 0 rfl) (ex_var 3 rfl) (h1 k hk)) (ex_var 2 rfl) rfl)) ?_
    rw [has_nat, has_nat]
    rfl
/-- known, found, left -/
abbrev GSt := (List Nat × List Nat × List Nat) × Sl × Sl
def gStep (gs : G) (b : GSt) : Option GSt := match nextTo gs b.1.2.2 b.1.1 with
  | [] => none
  | g :: _ => some ((addOne (addOne b.1.1 (gAt gs g).1) (gAt gs g).2, b.1.2.1 ++ [g], b.1.2.2.filter fun k => !decide (k = g)), .d (natD (gAt gs g).2), .d (natD g))
theorem gRun (gs : G) : ∀ (f : Nat) (kn fo le : List Nat) (s1 s2 : Sl), (Zf.run (gStep gs) f ((kn, fo, le), s1, s2)).1.2.1 = fo ++ grownGo gs f kn le
  | 0, kn, fo, le, s1, s2 => by simp [Zf.run, grownGo]
  | f + 1, kn, fo, le, s1, s2 => by
    cases hn : nextTo gs le kn with
    | nil => simp [Zf.run, gStep, grownGo, hn]
    | cons g rest =>
      have e1 : gStep gs ((kn, fo, le), s1, s2) = some ((addOne (addOne kn (gAt gs g).1) (gAt gs g).2, fo ++ [g], le.filter fun k => !decide (k = g)), .d (natD (gAt gs g).2), .d (natD g)) := by
        unfold gStep
        simp only [hn]
      have e2 : grownGo gs (f + 1) kn le = g :: grownGo gs f (addOne (addOne kn (gAt gs g).1) (gAt gs g).2) (le.filter fun k => !decide (k = g)) := by
        rw [grownGo, hn]
      rw [e2]
      simp only [Zf.run, e1]
      rw [gRun gs f, List.append_assoc]
      rfl
def F_grown_from (ds : List D) (d : D) : Prop := ∃ (n : Nat) (gs : G) (guests first : List Nat), ds = [webD n gs, tD guests, lD first] ∧ (∀ k ∈ guests, k < gs.length) ∧ guests.length ≤ 100 ∧ first.length ≤ 100 ∧ d = lD (grown gs guests first)
theorem fold_len : ∀ (ps l : List Nat), (ps.foldl addOne l).length ≤ l.length + ps.length
  | [], l => Nat.le_refl _
  | p :: ps, l => by
    have h1 := fold_len ps (addOne l p)
    have h2 : (addOne l p).length ≤ l.length + 1 := by
      unfold addOne
      split
      · exact Nat.le_succ _
      · rw [List.length_append]; exact Nat.le_refl _
    rw [List.foldl_cons, List.length_cons]
    omega
theorem fold_nodup : ∀ (ps l : List Nat), l.Nodup → (ps.foldl addOne l).Nodup
  | [], l, h => h
  | p :: ps, l, h => fold_nodup ps _ (nodup_addOne h)
theorem addOne_len (l : List Nat) (p : Nat) : (addOne l p).length ≤ l.length + 1 := fold_len [p] l
theorem ct_grown_from (B : Bl mg) (d : Df K mg "grown_from" s_grown_from ["web", "guests", "first"]) (c1 : Ct P w K mg base 1 "next_to" ["web", "guests", "known"] F_next_to) : Ct P w K mg base 2 "grown_from" ["web", "guests", "first"] F_grown_from := by
  obtain ⟨f, fd, Fn, hb, hm⟩ := d.ex
  refine ct_any Fn sc_grown_from hb hm (fun ds d h => ?_) (by decide) (fun cdv A outer s H E hr ds d h => ?_)
  · obtain ⟨n, gs, guests, first, rfl, _⟩ := h
    rfl
  · obtain ⟨n, gs, guests, first, rfl, h1, h2, h3, rfl⟩ := h
    refine .inr (.inl ⟨⟨_, rfl, flats_map _ flat_nat _⟩, xs_cons (x_par3 4 5 6 rfl sc_grown_from.nd (ep_o (EX.to (r' := .new (knD (first.foldl addOne []))) (ex_dictP (ps := first.map fun p : Nat => ((p : Int), D.bl true)) rfl B.dict (ex_lcA (fun p => .tup [natD p, .bl true]) 3 rfl sc_grown_from.nd (it_list (ex_var 2 rfl) rfl) (by omega) (fun p _ _ _ _ _ _ => ex_tup (ea_cons (ex_var 3 rfl) (ea_cons ex_bl ea_nil)))) ?g1) ?g2) (ep_o (ex_lst ea_nil) (ep_d (ex_listOf B.list (ex_var 1 rfl) (.inr rfl)) ep_nil))))
      (xs_cons (x_set 7 sc_grown_from.nd (ex_call c1 hr (ea_cons (ex_var 0 rfl) (ea_cons (ex_var 6 rfl) (ea_cons (ex_own 4 rfl) ea_nil))) ⟨n, gs, guests, first.foldl addOne [], rfl, h1, by omega, rfl⟩))
      (xs_cons (x_while (n := guests.length + 1) (wl_go (fun b : GSt => [.d (webD n gs), .d (tD guests), .d (lD first), b.2.1, .o (knD b.1.1), .o (lD b.1.2.1), .d (lD b.1.2.2), .d (lD (nextTo gs b.1.2.2 b.1.1)), b.2.2, .no]) (gStep gs)
        (fun b => (∀ k ∈ b.1.2.2, k < gs.length) ∧ b.1.2.2.length ≤ 100 ∧ b.1.1.Nodup ∧ b.1.1.length + 2 * b.1.2.2.length ≤ 1000 ∧ b.1.2.1.length + b.1.2.2.length ≤ 1000) (fun b => b.1.2.2.length) (fun b hp hs => ?g3) (fun b b' hp hs => ?g4) _ ((first.foldl addOne [], [], guests), .no, .no) ?g5 ?g6))
      (xs_one ?g7)))⟩)
    case g1 =>
      show D.lst _ = D.lst _
      rw [List.map_map]
      rfl
    case g2 =>
      show Res.new (D.dic (foldP (first.map fun p : Nat => ((p : Int), D.bl true)) ([], [])).1 (foldP (first.map fun p : Nat => ((p : Int), D.bl true)) ([], [])).2) = _
      have := fold_kn first []
      rw [show (([] : List Nat).map fun n : Nat => (n : Int)) = [] from rfl, show (([] : List Nat).map fun _ => D.bl true) = [] from rfl] at this
      rw [this]
      rfl
    case g3 =>
      have hn : nextTo gs b.1.2.2 b.1.1 = [] := by
        unfold gStep at hs
        cases hn : nextTo gs b.1.2.2 b.1.1 with
        | nil => rfl
        | cons g rest => rw [hn] at hs; cases hs
      refine ET.to (et_neD (i := 1) (j := 1) (hu_of hr) (ex_var 7 rfl) (ex_lst ea_nil) ?_ ?_) ?_
      · intro d hd
        obtain ⟨k, _, rfl⟩ := List.mem_map.mp hd
        trivial
      · intro d hd
        cases hd
      · show (!D.eqv (lD (nextTo gs b.1.2.2 b.1.1)) (.lst [])) = false
        rw [eqv_nil, hn]
        rfl
    case g4 =>
      obtain ⟨p1, p2, p3, p4, p5⟩ := hp
      cases hn : nextTo gs b.1.2.2 b.1.1 with
      | nil => unfold gStep at hs; rw [hn] at hs; cases hs
      | cons g rest =>
        have gin : g ∈ b.1.2.2 := nextTo_sub (by rw [hn]; exact List.mem_cons_self ..)
        have gk := p1 g gin
        have e1 : gStep gs b = some ((addOne (addOne b.1.1 (gAt gs g).1) (gAt gs g).2, b.1.2.1 ++ [g], b.1.2.2.filter fun k => !decide (k = g)), .d (natD (gAt gs g).2), .d (natD g)) := by
          unfold gStep
          simp only [hn]
        rw [e1] at hs
        cases hs
        have shorter : (b.1.2.2.filter fun k => !decide (k = g)).length < b.1.2.2.length := by
          refine Nat.lt_of_le_of_ne (List.length_filter_le _ _) fun e => ?_
          have := List.length_filter_eq_length_iff.mp e g gin
          simp at this
        have twice : D.dic (putD ((gAt gs g).2 : Int) (.bl true) (putD ((gAt gs g).1 : Int) (.bl true) (b.1.1.map fun n : Nat => (n : Int)) (b.1.1.map fun _ => .bl true)).1 (putD ((gAt gs g).1 : Int) (.bl true) (b.1.1.map fun n : Nat => (n : Int)) (b.1.1.map fun _ => .bl true)).2).1
            (putD ((gAt gs g).2 : Int) (.bl true) (putD ((gAt gs g).1 : Int) (.bl true) (b.1.1.map fun n : Nat => (n : Int)) (b.1.1.map fun _ => .bl true)).1 (putD ((gAt gs g).1 : Int) (.bl true) (b.1.1.map fun n : Nat => (n : Int)) (b.1.1.map fun _ => .bl true)).2).2 = knD (addOne (addOne b.1.1 (gAt gs g).1) (gAt gs g).2) := by
          rw [put_kn, put_kn]
          rfl
        refine ⟨ET.to (et_neD (i := 1) (j := 1) (hu_of hr) (ex_var 7 rfl) (ex_lst ea_nil) ?_ ?_) ?_, ?_, ⟨fun k hk => p1 k (List.mem_filter.mp hk).1, ?_, ?_, ?_, ?_⟩, shorter⟩
        · intro d hd
          obtain ⟨k, _, rfl⟩ := List.mem_map.mp hd
          trivial
        · intro d hd
          cases hd
        · show (!D.eqv (lD (g :: rest)) (.lst [])) = true
          rw [eqv_nil]
          rfl
        · refine xs_cons (x_set 8 sc_grown_from.nd (ex_item (j := 0) (d := natD g) (ex_var 7 rfl) ex_int (.inl rfl) rfl ?_)) (xs_cons (x_append 5 rfl (ex_var 8 rfl) ?_) (xs_cons (x_for rfl (it_tup (ex_gst (ex_var 0 rfl) (ex_var 8 rfl) gk) rfl)
            (.nx (ag_name 3 sc_grown_from.nd) (xs_one (x_dput 4 (hu_of hr) rfl ex_bl (ex_var 3 rfl) (nodup_int p3) ?_)) (.nx (ag_name 3 sc_grown_from.nd) (xs_one (x_dput 4 (hu_of hr) rfl ex_bl (ex_var 3 rfl) ?_ ?_)) .nil)))
            (xs_cons (x_lcF natD (fun k => !decide (k = g)) 6 9 rfl sc_grown_from.nd (it_list (ex_var 6 rfl) rfl) (by omega) (fun k hk _ _ _ _ _ => et_neN (ex_var 9 rfl) (ex_var 8 rfl)) (fun k hk _ _ _ _ _ _ => ex_var 9 rfl))
            (XS.to (xs_one (x_set 7 sc_grown_from.nd (ex_call c1 hr (ea_cons (ex_var 0 rfl) (ea_cons (ex_var 6 rfl) (ea_cons (ex_own 4 rfl) ea_nil))) ⟨n, gs, b.1.2.2.filter fun k => !decide (k = g), addOne (addOne b.1.1 (gAt gs g).1) (gAt gs g).2, ?_, fun k hk => p1 k (List.mem_filter.mp hk).1, ?_, rfl⟩))) ?_))))
          · rfl
          · rw [List.length_map]
            omega
          · rw [List.length_map]
            omega
          · exact (putD_nodup (nodup_int p3)).1
          · refine Nat.lt_of_le_of_lt (put_len (by simp)).2 ?_
            rw [List.length_map]
            omega
          · rw [← twice]
            rfl
          · omega
          · show Out.nx [_, _, _, _, Sl.o (.dic (putD ((gAt gs g).2 : Int) (.bl true) (putD ((gAt gs g).1 : Int) (.bl true) (b.1.1.map fun n : Nat => (n : Int)) (b.1.1.map fun _ => .bl true)).1 (putD ((gAt gs g).1 : Int) (.bl true) (b.1.1.map fun n : Nat => (n : Int)) (b.1.1.map fun _ => .bl true)).2).1 (putD ((gAt gs g).2 : Int) (.bl true) (putD ((gAt gs g).1 : Int) (.bl true) (b.1.1.map fun n : Nat => (n : Int)) (b.1.1.map fun _ => .bl true)).1 (putD ((gAt gs g).1 : Int) (.bl true) (b.1.1.map fun n : Nat => (n : Int)) (b.1.1.map fun _ => .bl true)).2).2), Sl.o (.lst (b.1.2.1.map natD ++ [natD g])), _, _, _, _] = _
            have q : (b.1.2.1 ++ [g]).map natD = b.1.2.1.map natD ++ [natD g] := by rw [List.map_append]; rfl
            rw [← q]
            have t := twice
            unfold knD at t
            injection t with t1 t2
            rw [t1, t2]
            rfl
        · show (b.1.2.2.filter fun k => !decide (k = g)).length ≤ 100
          omega
        · exact nodup_addOne (nodup_addOne p3)
        · show (addOne (addOne b.1.1 (gAt gs g).1) (gAt gs g).2).length + 2 * (b.1.2.2.filter fun k => !decide (k = g)).length ≤ 1000
          have := addOne_len (addOne b.1.1 (gAt gs g).1) (gAt gs g).2
          have := addOne_len b.1.1 (gAt gs g).1
          omega
        · show (b.1.2.1 ++ [g]).length + (b.1.2.2.filter fun k => !decide (k = g)).length ≤ 1000
          rw [List.length_append, List.length_singleton]
          omega
    case g5 =>
      have := fold_len first []
      refine ⟨h1, h2, fold_nodup first [] (by simp), ?_, ?_⟩
      · show (first.foldl addOne []).length + 2 * guests.length ≤ 1000
        rw [List.length_nil] at this
        omega
      · show 0 + guests.length ≤ 1000
        omega
    case g6 => exact Nat.le_succ _
    case g7 =>
      have := gRun gs (guests.length + 1) (first.foldl addOne []) [] guests .no .no
      rw [List.nil_append] at this
      refine x_retO (i := 5) (EX.to (ex_own 5 rfl) ?_)
      rw [this]
      rfl
end
end Zf
/-! Defs, 6: a round seated, one of some rows. -/
namespace Zf
open PySem PySem.Spec PyProof.Rows L2 Zb Zt Gr
theorem toP_tup (ds : List D) : (D.tup ds).toP = .tuple (D.toPs ds) := by rw [D.toP]
theorem eqv_tup (as bs : List D) : D.eqv (.tup as) (.tup bs) = PyData.eqvAll (D.toPs as) (D.toPs bs) := by
  unfold D.eqv
  rw [toP_tup, toP_tup]
  simp only [PyData.eqv]
theorem eqv_natD (a b : Nat) : PyData.eqv (natD a).toP (natD b).toP = decide (a = b) := by
  show PyData.eqv (.int (a : Int)) (.int (b : Int)) = _
  simp only [PyData.eqv]
  by_cases e : a = b
  · subst e; simp
  · rw [decide_eq_false e]
    exact beq_eq_false_iff_ne.mpr (by omega)
theorem eqvAll_nat : ∀ l m : List Nat, PyData.eqvAll (D.toPs (l.map natD)) (D.toPs (m.map natD)) = decide (l = m)
  | [], [] => by simp [D.toPs, PyData.eqvAll]
  | [], b :: m => by simp [D.toPs, PyData.eqvAll]
  | a :: l, [] => by simp [D.toPs, PyData.eqvAll]
  | a :: l, b :: m => by
    simp only [List.map_cons, D.toPs, PyData.eqvAll]
    rw [eqv_natD, eqvAll_nat l m]
    by_cases e : a = b
    · subst e; simp
    · simp [e]
theorem eqv_tD (l m : List Nat) : D.eqv (tD l) (tD m) = decide (l = m) := by
  unfold tD
  rw [eqv_tup, eqvAll_nat]
theorem shp_tD (l : List Nat) : Shp 1 (tD l) := fun d hd => by
  obtain ⟨k, _, rfl⟩ := List.mem_map.mp hd
  trivial
section
variable {P : Program} {w : World} {K : PySem.W.Frag} {mg : Str → Option Value} {base : Heap}
theorem sr_cons (gs : G) (f p : Nat) (t : List (Nat × Nat)) : seatedRound gs ((f, p) :: t) = if (gAt gs f).1 = p then f :: t.reverse.map (·.1) else f :: t.map (·.1) := rfl
def F_seated_round (ds : List D) (d : D) : Prop := ∃ (n : Nat) (gs : G) (way : List (Nat × Nat)), ds = [webD n gs, tgD way] ∧ way ≠ [] ∧ (∀ q ∈ way, q.1 < gs.length) ∧ way.length ≤ 1000 ∧ d = lD (seatedRound gs way)
theorem ct_seated_round (d : Df K mg "seated_round" s_seated_round ["web", "way"]) : Ct P w K mg base 1 "seated_round" ["web", "way"] F_seated_round := by
  obtain ⟨f, fd, Fn, hb, hm⟩ := d.ex
  refine ct_any Fn sc_seated_round hb hm (fun ds d h => ?_) (by decide) (fun cdv A outer s H E hr ds d h => ?_)
  · obtain ⟨n, gs, way, rfl, _⟩ := h
    rfl
  · obtain ⟨n, gs, way, rfl, h1, h2, h3, rfl⟩ := h
    match way, h1, h2, h3 with
    | (f0, p0) :: t, _, h2, h3 =>
      have hk := h2 (f0, p0) (List.mem_cons_self ..)
      refine .inr (.inl ⟨⟨_, rfl, flats_map _ flat_nat _⟩, xs_cons (x_asg (ex_item (j := 0) (d := gD (f0, p0)) (ex_var 1 rfl) ex_int (.inr rfl) rfl rfl) (ag_tup rfl (ags_cons (ag_name 2 sc_seated_round.nd) (ags_cons (ag_name 3 sc_seated_round.nd) ags_nil)))) ?_⟩)
      by_cases hc : (gAt gs f0).1 = p0
      · refine xs_stop (x_ifT (ET.to (et_eqN (ex_near (ex_var 0 rfl) (ex_var 2 rfl) hk) (ex_var 3 rfl)) (decide_eq_true hc)) (xs_one (x_retW (EX.to (ex_cat (ex_lst (ea_cons (ex_var 2 rfl) ea_nil)) (ex_lcT2 (xs := t.reverse) (fun q => natD q.1) (fun q => natD q.2) (fun q => natD q.1) 4 5 rfl sc_seated_round.nd (it_tup (ds := t.reverse.map fun q => .tup [natD q.1, natD q.2]) (r := .d (.tup (t.reverse.map fun q => .tup [natD q.1, natD q.2]))) (EX.to (ex_backT (ds := ((f0, p0) :: t).map gD) (ex_var 1 rfl) rfl (Nat.succ_le_succ (Nat.zero_le _))) ?g1) rfl) ?g2 (fun q _ _ _ _ _ _ => ex_var 4 rfl)) rfl rfl ?g3) ?g4))))
        case g1 =>
          show Res.d (.tup ((t.map gD).reverse)) = Res.d (.tup (t.reverse.map fun q => .tup [natD q.1, natD q.2]))
          rw [← List.map_reverse]
          rfl
        case g2 =>
          rw [List.length_reverse]
          rw [List.length_cons] at h3
          omega
        case g3 =>
          have e : (t.reverse.map fun q : Nat × Nat => natD q.1).length = t.length := by simp
          rw [List.length_cons] at h3
          show 1 + (t.reverse.map fun q : Nat × Nat => natD q.1).length ≤ _
          rw [e]
          omega
        case g4 =>
          show Res.new (.lst ([natD f0] ++ t.reverse.map fun q => natD q.1)) = Res.new (lD (seatedRound gs ((f0, p0) :: t)))
          rw [sr_cons]
          unfold lD
          rw [if_pos hc, List.map_cons, List.map_map]
          rfl
      · refine xs_cons (x_ifF (ET.to (et_eqN (ex_near (ex_var 0 rfl) (ex_var 2 rfl) hk) (ex_var 3 rfl)) (decide_eq_false hc)) xs_nil) (xs_one (x_retW (EX.to (ex_lcT2 (xs := (f0, p0) :: t) (fun q => natD q.1) (fun q => natD q.2) (fun q => natD q.1) 4 5 rfl sc_seated_round.nd (it_tup (ex_var 1 rfl) rfl) (by omega) (fun q _ _ _ _ _ _ => ex_var 4 rfl)) ?_)))
        show Res.new (.lst (((f0, p0) :: t).map fun q => natD q.1)) = Res.new (lD (seatedRound gs ((f0, p0) :: t)))
        rw [sr_cons]
        unfold lD
        rw [if_neg hc, List.map_cons, List.map_cons, List.map_map]
        rfl
def F_is_one_of (ds : List D) (d : D) : Prop := ∃ (x : D) (rows : List (List Nat)), ds = [x, .lst (rows.map tD)] ∧ ((isTu x = false ∧ d = .bl false) ∨ ∃ es : List D, x = .tup es ∧ (∀ e ∈ es, Shp 0 e) ∧ es.length ≤ 1000 ∧ d = .bl (es.all (geD 0) && rows.any fun z => D.eqv (tD z) (.tup es)))
theorem ct_is_one_of (B : Bl mg) (d : Df K mg "is_one_of" s_is_one_of ["thing", "parts"]) (c1 : Ct P w K mg base 2 "is_from" ["thing", "least"] F_is_from) : Ct P w K mg base 3 "is_one_of" ["thing", "parts"] F_is_one_of := by
  obtain ⟨f, fd, Fn, hb, hm⟩ := d.ex
  refine ct_any Fn sc_is_one_of hb hm (fun ds d h => ?_) (by decide) (fun cdv A outer s H E hr ds d h => ?_)
  · obtain ⟨x, rows, rfl, _⟩ := h
    rfl
  · obtain ⟨x, rows, rfl, ⟨hx, rfl⟩ | ⟨es, rfl, h1, h2, rfl⟩⟩ := h
    · refine .inl ⟨rfl, _, xs_one (x_retD (EX.to (ex_and (y := true) (ex_isi kit_tuple B.isinstance B.tuple (ex_var 0 rfl)) fun z => ?_) ?_))⟩
      · rw [isT_tuple] at z
        have z : isTu x = true := z
        rw [hx] at z
        cases z
      · rw [isT_tuple]
        show Res.d (.bl (isTu x && true)) = _
        rw [hx]
        rfl
    · refine .inl ⟨rfl, _, xs_one (x_retD (EX.to (ex_and (ex_isi kit_tuple B.isinstance B.tuple (ex_var 0 rfl)) fun _ => ex_and (ex_all rfl B.all (ex_lcA (xs := es) (enc := id) (fun e => .bl (geD 0 e)) 2 rfl sc_is_one_of.nd (it_tup (ex_var 0 rfl) ?_) (by omega) (fun e he _ _ _ _ _ => ex_call c1 hr (ea_cons (ex_var 2 rfl) (ea_cons ex_int ea_nil)) ⟨e, 0, rfl, rfl⟩)) (bs := es.map (geD 0)) ?_) fun _ => ex_one (ex_inD (i := 1) (j := 2) (hu_of hr) (ex_var 0 rfl) (ex_var 1 rfl) rfl ?_ ?_)) ?_))⟩
      · show D.tup es = D.tup (es.map id)
        rw [List.map_id]
      · rw [List.map_map]
        rfl
      · exact h1
      · intro z hz
        obtain ⟨y, _, rfl⟩ := List.mem_map.mp hz
        exact shp_tD y
      · rw [isT_tuple, List.any_map, List.all_map]
        rfl
end
end Zf
set_option maxHeartbeats 2000000
/-! Defs, 7: where guests lead (a dict of lists that are changed in place). -/
namespace Zf
open PySem PySem.Spec PyProof.Rows L2 Zb Zt Gr
/-- the dict's entries: place i's list is the i-th -/
def kvsOf (as : List Addr) : List (Key × V) := as.zipIdx.map fun p => (Sum.inl (p.2 : Int), V.ref p.1)
theorem kvs_keys (as : List Addr) : (kvsOf as).map (·.1) = ((List.range as.length).map fun i : Nat => (i : Int)).map Sum.inl := by
  unfold kvsOf
  refine List.ext_getElem? fun i => ?_
  rw [List.map_map, List.map_map, List.getElem?_map, List.getElem?_map, List.getElem?_zipIdx]
  by_cases h : i < as.length
  · rw [List.getElem?_eq_getElem h, List.getElem?_range h]
    show some (Sum.inl ((0 + i : Nat) : Int)) = _
    rw [Nat.zero_add]
    rfl
  · rw [List.getElem?_eq_none (by omega), List.getElem?_eq_none (by rw [List.length_range]; omega)]
    rfl
theorem kvs_snd (as : List Addr) : (kvsOf as).map (·.2) = as.map V.ref := by
  unfold kvsOf
  refine List.ext_getElem? fun i => ?_
  rw [List.map_map, List.getElem?_map, List.getElem?_map, List.getElem?_zipIdx]
  cases as[i]? <;> rfl
theorem kvs_push (as : List Addr) (a : Addr) : putK (kvsOf as) (Sum.inl (as.length : Int)) (V.ref a) = kvsOf (as ++ [a]) := by
  have no : ((kvsOf as).any fun kv => decide (kv.1 = (Sum.inl (as.length : Int) : Key))) = false := by
    rw [List.any_eq_false]
    intro kv hkv
    rw [decide_eq_true_eq]
    intro e
    have : kv.1 ∈ (kvsOf as).map (·.1) := List.mem_map_of_mem hkv
    rw [kvs_keys, e] at this
    obtain ⟨i, hi, ei⟩ := List.mem_map.mp this
    obtain ⟨j, hj, rfl⟩ := List.mem_map.mp hi
    have := Sum.inl.inj ei
    rw [List.mem_range] at hj
    omega
  unfold putK
  rw [if_neg (by rw [no]; exact Bool.false_ne_true)]
  unfold kvsOf
  rw [List.zipIdx_append, List.map_append]
  simp
theorem kvs_len (as : List Addr) : (kvsOf as).length = as.length := by simp [kvsOf]
theorem kvs_get {as : List Addr} {j : Nat} {a : Addr} (h : as[j]? = some a) : valV (kvsOf as) (Sum.inl (j : Int)) = some (V.ref a) := by
  have : ∀ (as : List Addr) (i j : Nat) (a : Addr), as[j]? = some a → valV ((as.zipIdx i).map fun p => ((Sum.inl (p.2 : Int) : Key), V.ref p.1)) (Sum.inl ((i + j : Nat) : Int)) = some (V.ref a) := by
    intro as
    induction as with
    | nil => intro i j a h; simp at h
    | cons x as ih =>
      intro i j a h
      unfold valV
      rw [List.zipIdx_cons, List.map_cons, List.find?_cons]
      cases j with
      | zero =>
        simp only [List.getElem?_cons_zero, Option.some.injEq] at h
        subst h
        simp
      | succ j =>
        have ne : ¬ ((Sum.inl (i : Int) : Key) = Sum.inl ((i + (j + 1) : Nat) : Int)) := fun e => by
          have := Sum.inl.inj e
          omega
        simp only [decide_eq_false ne]
        have := ih (i + 1) j a (by simpa using h)
        unfold valV at this
        rw [show i + 1 + j = i + (j + 1) by omega] at this
        exact this
  have := this as 0 j a h
  rwa [Nat.zero_add] at this
/-- the dict at p, its lists at as, the lists told by L -/
structure Bst (K : PySem.W.Frag) (H0 : Hp) (p : Addr) (as : List Addr) (L : List (List (Nat × Nat))) (H : Hp) : Prop where
  hp : H p = some (.dK (kvsOf as))
  p0 : H0 p = none
  ext : Same H0 H
  nd : as.Nodup
  pa : p ∉ as
  a0 : ∀ a ∈ as, H0 a = none
  len : as.length = L.length
  lst : ∀ (j : Nat) (a : Addr), as[j]? = some a → ∃ vs l, L[j]? = some l ∧ H a = some (.lst vs) ∧ RA K H (fun _ => False) vs (l.map gD)
/-- flat data in the slots; p in the third -/
structure Slt (K : PySem.W.Frag) (p : Addr) (σ : L2.St) (H : Hp) (env : Ev) : Prop where
  len : env.length = σ.length
  d : ∀ (i : Nat) (x : D), env[i]? = some (.d x) → x.flat = true ∧ ∃ v, σ[i]? = some (some v) ∧ R K H (fun _ => False) v x
  o : ∀ (i : Nat) (x : D), env[i]? ≠ some (.o x)
  p : σ[2]? = some (some (.ref p))
section
variable {K : PySem.W.Frag} {H0 H H' H1 : Hp} {p : Addr} {as : List Addr} {L : List (List (Nat × Nat))} {σ : L2.St} {env : Ev}
abbrev Tr : Addr → Prop := fun _ => True
abbrev Fa : Addr → Prop := fun _ => False
theorem Slt.ok (s : Slt K p σ H env) (e : Same H0 H) : Ok K H0 Tr (fun a => H a = none) σ H env (List.replicate σ.length none) where
  ext := e
  nm := fun _ _ => trivial
  nf := fun _ h => h
  len := s.len
  olen := by simp
  d := fun i x h => by
    obtain ⟨_, v, h1, h2⟩ := s.d i x h
    exact ⟨v, h1, h2.mono (Same.refl _) fun _ z => z.elim⟩
  o := fun i x h => absurd h (s.o i x)
  own := fun i q h => by
    rw [List.getElem?_replicate] at h
    split at h <;> cases h
  inj := fun i j q h => by
    rw [List.getElem?_replicate] at h
    split at h <;> cases h
theorem Slt.same (s : Slt K p σ H env) (e : Same H H') : Slt K p σ H' env where
  len := s.len
  d := fun i x h => by
    obtain ⟨f, v, h1, h2⟩ := s.d i x h
    exact ⟨f, v, h1, h2.same e⟩
  o := s.o
  p := s.p
theorem Slt.upd {q : Addr} {o : HO} (w : Wr H q) (s : Slt K p σ H env) : Slt K p σ (L2.upd H q o) env where
  len := s.len
  d := fun i x h => by
    obtain ⟨f, v, h1, h2⟩ := s.d i x h
    exact ⟨f, v, h1, h2.upd w fun z => z⟩
  o := s.o
  p := s.p
theorem Slt.of_ok {N : Addr → Prop} {O : List (Option Addr)} (ok : Ok K H0 Tr N σ H env O) (hf : ∀ (i : Nat) (x : D), env[i]? = some (.d x) → x.flat = true) (ho : ∀ (i : Nat) (x : D), env[i]? ≠ some (.o x)) (hp : σ[2]? = some (some (.ref p))) : Slt K p σ H env where
  len := ok.len
  d := fun i x h => by
    obtain ⟨v, h1, h2⟩ := ok.d i x h
    exact ⟨hf i x h, v, h1, h2.flat (hf i x h)⟩
  o := ho
  p := hp
theorem Bst.same (s : Bst K H0 p as L H) (e : Same H H') : Bst K H0 p as L H' where
  hp := e _ _ s.hp
  p0 := s.p0
  ext := s.ext.trans e
  nd := s.nd
  pa := s.pa
  a0 := s.a0
  len := s.len
  lst := fun j a h => by
    obtain ⟨vs, l, h1, h2, h3⟩ := s.lst j a h
    exact ⟨vs, l, h1, e _ _ h2, h3.same e⟩
/-- a new list -/
theorem Bst.push {a : Addr} (s : Bst K H0 p as L H) (ha : H1 a = none) (e1 : Same H1 H) (b : Bst K H0 p as L H1) (hl : H a = some (.lst [])) : Bst K H0 p (as ++ [a]) (L ++ [[]]) (upd H p (.dK (kvsOf (as ++ [a])))) := by
  have ap : a ≠ p := fun z => by rw [z, b.hp] at ha; cases ha
  have an : a ∉ as := fun z => by
    obtain ⟨j, hj⟩ := List.mem_iff_getElem?.mp z
    obtain ⟨vs, l, _, h2, _⟩ := b.lst j a hj
    rw [ha] at h2
    cases h2
  have w : Wr H p := .inr ⟨_, s.hp⟩
  exact {
    hp := upd_same
    p0 := s.p0
    ext := same_mut s.ext s.p0
    nd := List.nodup_append.mpr ⟨s.nd, by simp, fun x hx y hy => by rw [List.mem_singleton] at hy; rintro rfl; exact an (hy ▸ hx)⟩
    pa := fun z => by
      rcases List.mem_append.mp z with z | z
      · exact s.pa z
      · exact ap (List.mem_singleton.mp z).symm
    a0 := fun x hx => by
      rcases List.mem_append.mp hx with z | z
      · exact s.a0 x z
      · rw [List.mem_singleton.mp z]
        exact b.ext.free ha
    len := by rw [List.length_append, List.length_append, s.len]; rfl
    lst := fun j x hx => by
      rw [List.getElem?_append] at hx
      by_cases hj : j < as.length
      · rw [if_pos hj] at hx
        obtain ⟨vs, l, h1, h2, h3⟩ := s.lst j x hx
        have xp : x ≠ p := fun z => s.pa (z ▸ List.mem_of_getElem? hx)
        refine ⟨vs, l, ?_, by rw [upd_ne xp]; exact h2, h3.upd w fun z => z⟩
        rw [List.getElem?_append_left (by rw [← s.len]; exact hj)]
        exact h1
      · rw [if_neg hj] at hx
        have j0 : j - as.length = 0 := by
          have := (List.getElem?_eq_some_iff.mp hx).1
          simp at this
          omega
        rw [j0] at hx
        have hx : a = x := by simpa using hx
        subst hx
        refine ⟨[], [], ?_, by rw [upd_ne ap]; exact hl, .nil⟩
        rw [List.getElem?_append_right (by have := s.len; omega), ← s.len, j0]
        rfl }
/-- a list longer by one -/
theorem Bst.app {j : Nat} {a : Addr} {vs : List V} {l : List (Nat × Nat)} {v : V} {g : Nat × Nat} (s : Bst K H0 p as L H) (ha : as[j]? = some a) (hl : L[j]? = some l) (hv : H a = some (.lst vs)) (hr : RA K H Fa vs (l.map gD)) (rv : R K H Fa v (gD g)) :
    Bst K H0 p as (L.set j (l ++ [g])) (upd H a (.lst (vs ++ [v]))) := by
  have ap : p ≠ a := fun z => s.pa (by rw [z]; exact List.mem_of_getElem? ha)
  have a0 := s.a0 a (List.mem_of_getElem? ha)
  have w : Wr H a := .inl ⟨_, hv⟩
  have jl : j < L.length := (List.getElem?_eq_some_iff.mp hl).1
  exact {
    hp := by rw [upd_ne ap]; exact s.hp
    p0 := s.p0
    ext := same_mut s.ext a0
    nd := s.nd
    pa := s.pa
    a0 := s.a0
    len := by rw [List.length_set]; exact s.len
    lst := fun i x hx => by
      by_cases e : j = i
      · subst e
        rw [ha] at hx
        cases hx
        refine ⟨vs ++ [v], l ++ [g], by rw [List.getElem?_set_self jl], upd_same, ?_⟩
        rw [List.map_append]
        exact (hr.append (.cons rv .nil)).upd w fun z => z
      · obtain ⟨us, m, h1, h2, h3⟩ := s.lst i x hx
        have xa : x ≠ a := fun z => by
          subst z
          have l1 := (List.getElem?_eq_some_iff.mp hx).1
          have l2 := (List.getElem?_eq_some_iff.mp ha).1
          have e1 := (List.getElem?_eq_some_iff.mp hx).2
          have e2 := (List.getElem?_eq_some_iff.mp ha).2
          rcases Nat.lt_or_gt_of_ne e with h | h
          · exact List.pairwise_iff_getElem.mp s.nd j i l2 l1 h (e2.trans e1.symm)
          · exact List.pairwise_iff_getElem.mp s.nd i j l1 l2 h (e1.trans e2.symm)
        refine ⟨us, m, by rw [List.getElem?_set_ne e]; exact h1, by rw [upd_ne xa]; exact h2, h3.upd w fun z => z⟩ }
/-- what must stay -/
def Kp (p : Addr) (as : List Addr) (H1 H : Hp) : Prop := ∀ b o, H1 b = some o → b ≠ p → b ∉ as → H b = some o
end
end Zf
/-! Defs, 8: beside_by. -/
namespace Zf
open PySem PySem.Spec PyProof.Rows L2 Zb Zt Gr
def tI (I J : L2.St → Hp → Prop) : TS := fun E σ H => I σ H ∧ ∀ σ' H', J σ' H' → E.nx σ' H'
def flatE (env : Ev) : Bool := env.all fun s => match s with
  | .no => true
  | .d x => x.flat
  | .o _ => false
theorem flatE_d {env : Ev} (h : flatE env = true) {i : Nat} {x : D} (hi : env[i]? = some (.d x)) : x.flat = true := List.all_eq_true.mp h _ (List.mem_of_getElem? hi)
theorem flatE_o {env : Ev} (h : flatE env = true) (i : Nat) (x : D) : env[i]? ≠ some (.o x) := fun hi => by
  have := List.all_eq_true.mp h _ (List.mem_of_getElem? hi)
  cases this
theorem Slt.weak {K : PySem.W.Frag} {p : Addr} {σ : L2.St} {H : Hp} {env env' : Ev} (s : Slt K p σ H env) (hl : env'.length = env.length) (h : ∀ (i : Nat) (x : Sl), env'[i]? = some x → x = .no ∨ env[i]? = some x) : Slt K p σ H env' where
  len := hl.trans s.len
  d := fun i x hi => by
    rcases h i _ hi with z | z
    · cases z
    · exact s.d i x z
  o := fun i x hi => by
    rcases h i _ hi with z | z
    · cases z
    · exact s.o i x z
  p := s.p
theorem weak_set (env : Ev) (i : Nat) (s : Sl) (h : env[i]? = some .no ∨ env[i]? = none) (j : Nat) (x : Sl) (hj : env[j]? = some x) : x = .no ∨ (env.set i s)[j]? = some x := by
  by_cases e : i = j
  · subst e
    rcases h with h | h
    · rw [h] at hj
      cases hj
      exact .inl rfl
    · rw [h] at hj
      cases hj
  · rw [List.getElem?_set_ne e]
    exact .inr hj
section
variable {K : PySem.W.Frag} {X : Cx} {H0 : Hp} {p : Addr} {n : Nat} {gs : G} {lot : List Nat}
def env1 (n : Nat) (gs : G) (lot : List Nat) : Ev := [.d (webD n gs), .d (tD lot), .no, .no, .no, .no, .no]
theorem flat1 : flatE (env1 n gs lot) = true := by simp [flatE, env1, flat_webD, flat_tD]
theorem flat1s (k i : Nat) : flatE ((env1 n gs lot).set i (.d (natD k))) = true := by
  refine List.all_eq_true.mpr fun s hs => ?_
  rcases List.mem_or_eq_of_mem_set hs with z | z
  · exact List.all_eq_true.mp flat1 s z
  · subst z
    rfl
/-- between the turns of the first loop -/
def I1 (K : PySem.W.Frag) (H0 : Hp) (n : Nat) (gs : G) (lot : List Nat) (p : Addr) (H1 : Hp) (i : Nat) (σ : L2.St) (H : Hp) : Prop := ∃ as, Slt K p σ H (env1 n gs lot) ∧ Bst K H0 p as (List.replicate i []) H ∧ Kp p [] H1 H
/-- within a turn -/
def B1 (K : PySem.W.Frag) (H0 : Hp) (n : Nat) (gs : G) (lot : List Nat) (p : Addr) (H1 : Hp) (i : Nat) (σ : L2.St) (H : Hp) : Prop := ∃ as, Slt K p σ H ((env1 n gs lot).set 3 (.d (natD i))) ∧ Bst K H0 p as (List.replicate i []) H ∧ Kp p [] H1 H
theorem Kp.same {as : List Addr} {H1 H H' : Hp} (k : Kp p as H1 H) (e : Same H H') : Kp p as H1 H' := fun b o h n1 n2 => e _ _ (k b o h n1 n2)
theorem Kp.upd {as : List Addr} {H1 H : Hp} (k : Kp p as H1 H) {q : Addr} {o : HO} (h : q = p ∨ q ∈ as) : Kp p as H1 (L2.upd H q o) := fun b u hb n1 n2 => by
  have : b ≠ q := fun z => h.elim (fun y => n1 (z.trans y)) fun y => n2 (z ▸ y)
  rw [upd_ne this]
  exact k b u hb n1 n2
theorem put1 {nm pl : Str} {p1 p2 p3 pos' pos : Pos} {i : Nat} {H1 : Hp} (hu : X.A.units + 1 < cLine) (hi : i < 100000) (h2 : X.N[2]? = some nm) (h3 : X.N[3]? = some pl) (hv2 : Vis X.env.scope nm) (hv3 : Vis X.env.scope pl) (d2 : (nm == ("__debug__" : Str)) = false) (c2 : (nm == ("__classdict__" : Str)) = false) (d3 : (pl == ("__debug__" : Str)) = false) (c3 : (pl == ("__classdict__" : Str)) = false)
    (hs : swapsWith (.List [] p3) (some (.Subscript (.Name nm p1) (.Name pl p2) pos')) pos.line X.env = pure false) :
    PSs X [.Assign [.Subscript (.Name nm p1) (.Name pl p2) pos'] (.List [] p3) pos] (tI (B1 X.K H0 n gs lot p H1 i) (I1 X.K H0 n gs lot p H1 (i + 1))) := by
  have hx : EX X H0 Tr (.List [] p3) ((env1 n gs lot).set 3 (.d (natD i))) (.new (.lst [])) := ex_lst ea_nil
  have hy : EX X H0 Tr (.Name pl p2) ((env1 n gs lot).set 3 (.d (natD i))) (.d (natD i)) := ex_var 3 rfl h3 hv3 d3 c3
  refine pss_one (ps_weak (ps_dput hu (pe_var (i := 2) h2 hv2 d2 c2) hy hx hs) fun E σ H ⟨⟨as, slt, bst, kp⟩, q⟩ => ⟨_, _, slt.ok bst.ext, fun v Ha e1 r1 => ?_⟩)
  obtain ⟨a, rfl, g1, g2, vs, g3, g4⟩ := r1
  cases g4
  refine ⟨.ref p, slt.p, _, _, (slt.same e1).ok (bst.ext.trans e1), fun w Hb e2 r2 => ?_⟩
  cases r2.isI
  have e3 := e1.trans e2
  have hl : as.length = i := by rw [bst.len, List.length_replicate]
  refine ⟨p, _, rfl, DPut.k (k := Sum.inl (i : Int)) (e3 _ _ bst.hp) ?_, q _ _ ⟨as ++ [a], ?_, ?_, ?_⟩⟩
  · rw [kvs_len, hl]
    exact Nat.lt_of_lt_of_le hi (by decide : 100000 ≤ sizeLine)
  · exact ((slt.same e3).upd (.inr ⟨_, e3 _ _ bst.hp⟩)).weak (by simp) (weak_set _ _ _ (.inl rfl))
  · have := (bst.same e3).push (H1 := H) g1 e3 bst (e2 _ _ g3)
    rw [← hl, kvs_push]
    rw [List.replicate_succ']
    rw [hl]
    exact this
  · exact (kp.same e3).upd (.inl rfl)
theorem Kp.fr {as : List Addr} {H H1 H' : Hp} (k : Kp p as H1 H') (e : Same H H1) (hp : Wr H p) (ha : ∀ a ∈ as, Wr H a) : Fr (fun a => H a = none) H1 Tr H' := fun b o hb => by
  have wr : ∀ q, Wr H q → b = q → (H b = none → False) ∧ (Mu o = false → False) := fun q w z => by
    subst z
    rcases w with ⟨xs, w⟩ | ⟨kv, w⟩
    · have := e _ _ w
      rw [hb] at this
      cases this
      exact ⟨fun y => (by rw [w] at y; cases y), fun y => (by cases y)⟩
    · have := e _ _ w
      rw [hb] at this
      cases this
      exact ⟨fun y => (by rw [w] at y; cases y), fun y => (by cases y)⟩
  by_cases z : b = p
  · exact ⟨fun y => ((wr p hp z).1 y).elim, fun y => ((wr p hp z).2 y).elim⟩
  · by_cases z2 : b ∈ as
    · exact ⟨fun y => ((wr b (ha b z2) rfl).1 y).elim, fun y => ((wr b (ha b z2) rfl).2 y).elim⟩
    · exact ⟨fun _ => ⟨k b o hb z z2, trivial⟩, fun _ => k b o hb z z2⟩
theorem Bst.wr {as : List Addr} {L : List (List (Nat × Nat))} {H : Hp} (b : Bst K H0 p as L H) : ∀ a ∈ as, Wr H a := fun a ha => by
  obtain ⟨j, hj⟩ := List.mem_iff_getElem?.mp ha
  obtain ⟨vs, l, _, h2, _⟩ := b.lst j a hj
  exact .inl ⟨vs, h2⟩
/-- the first loop -/
theorem loop1 {tg iter : Expr} {body : List Stmt} {pos : Pos} (hc : X.calm = true) (hp : PassesOwn (model X.prog X.w) X.A X.env X.xe) (hit : IT X H0 Tr tg iter (env1 n gs lot) ((List.range n).map natD)) (hag : ∀ k, AG X H0 Tr tg (env1 n gs lot) (natD k) ((env1 n gs lot).set 3 (.d (natD k))) [3])
    (hb : ∀ p H1 i, i < n → PSs X body (tI (B1 X.K H0 n gs lot p H1 i) (I1 X.K H0 n gs lot p H1 (i + 1)))) (hs : ∀ x, foldedSetIterable iter X.env x = pure x) :
    PS X (.For tg iter body [] pos) (tI (fun σ H => ∃ p, Slt X.K p σ H (env1 n gs lot) ∧ Bst X.K H0 p [] [] H) (fun σ H => ∃ p as, Slt X.K p σ H (env1 n gs lot) ∧ Bst X.K H0 p as (List.replicate n []) H)) := by
  let tb : TS := fun E σ H => ∃ q : Addr × Hp × Nat, q.2.2 < n ∧ tI (B1 X.K H0 n gs lot q.1 q.2.1 q.2.2) (I1 X.K H0 n gs lot q.1 q.2.1 (q.2.2 + 1)) E σ H
  have htb : PSs X body tb := pss_any (ι := Addr × Hp × Nat) (c := fun q => q.2.2 < n) (t := fun q => tI (B1 X.K H0 n gs lot q.1 q.2.1 q.2.2) (I1 X.K H0 n gs lot q.1 q.2.1 (q.2.2 + 1))) fun q hq => hb q.1 q.2.1 q.2.2 hq
  refine ps_weak (ps_for hp hc hit (gL_ok (H0 := H0) (M := Tr)) htb hs) fun E σ H ⟨⟨p, slt, bst⟩, q⟩ => ⟨_, _, slt.ok bst.ext, fun J Ha e1 ⟨G, Y, w, hG, hY⟩ => ?_⟩
  have fr : ∀ {i σ' H'}, I1 X.K H0 n gs lot p Ha i σ' H' → Fr (fun a => H a = none) Ha Tr H' := fun ⟨as, _, _, kp⟩ => kp.fr e1 (.inr ⟨_, bst.hp⟩) (fun a ha => by cases ha)
  refine for_it (D := E) (g := gL X H0 Tr tg) (tb := tb) w (fun i σ' H' => I1 X.K H0 n gs lot p Ha i σ' H') ⟨[], slt.same e1, bst.same e1, fun b o h _ _ => h⟩ (fun i σ' H' _ h => hG Tr H' (fr h)) (fun i x σ' H' H2 hi h y => ?_) fun σ' H' h => ?_
  · have hi : i < n := by simpa using hi
    obtain ⟨s2, r2⟩ := hY i H' x H2 Tr (natD i) (fr h) (by rw [List.getElem?_map, List.getElem?_range hi]; rfl) y
    obtain ⟨as, slt', bst', kp'⟩ := h
    refine ⟨(_, _, _, _), hag i, _, _, (slt'.same s2).ok (bst'.ext.trans s2), r2.flat rfl, fun σ3 O3 ok3 l3 f3 => ?_⟩
    refine ⟨(p, Ha, i), hi, ⟨as, Slt.of_ok ok3 (fun j x hj => flatE_d (flat1s i 3) hj) (fun j x => flatE_o (flat1s i 3) j x) ((f3 2 (show 2 ∉ [3] by decide)).trans slt'.p), bst'.same s2, kp'.same s2⟩, fun σ4 H4 h4 => h4⟩
  · have e : ((List.range n).map natD).length = n := by simp
    rw [e] at h
    obtain ⟨as, h1, h2, _⟩ := h
    exact q σ' H' ⟨p, as, h1, h2⟩

/-! ### the second loop -/
/-- the lists with one guest more -/
def stepL (gs : G) (L : List (List (Nat × Nat))) (g : Nat) : List (List (Nat × Nat)) := (L.set (gAt gs g).1 (L.getD (gAt gs g).1 [] ++ [(g, (gAt gs g).2)])).set (gAt gs g).2 (L.getD (gAt gs g).2 [] ++ [(g, (gAt gs g).1)])
def I2 (K : PySem.W.Frag) (H0 : Hp) (n : Nat) (gs : G) (lot : List Nat) (p : Addr) (as : List Addr) (H1 : Hp) (L : List (List (Nat × Nat))) (σ : L2.St) (H : Hp) : Prop := Slt K p σ H (env1 n gs lot) ∧ Bst K H0 p as L H ∧ Kp p as H1 H
def e4 (n : Nat) (gs : G) (lot : List Nat) (g : Nat) : Ev := (env1 n gs lot).set 4 (.d (natD g))
def e6 (n : Nat) (gs : G) (lot : List Nat) (g : Nat) : Ev := ((e4 n gs lot g).set 5 (.d (natD (gAt gs g).1))).set 6 (.d (natD (gAt gs g).2))
theorem flat6 (g : Nat) : flatE (e6 n gs lot g) = true := by
  refine List.all_eq_true.mpr fun s hs => ?_
  rcases List.mem_or_eq_of_mem_set hs with z | z
  · rcases List.mem_or_eq_of_mem_set z with z | z
    · exact List.all_eq_true.mp (flat1s g 4) s z
    · subst z; rfl
  · subst z; rfl
def B2 (K : PySem.W.Frag) (H0 : Hp) (n : Nat) (gs : G) (lot : List Nat) (p : Addr) (as : List Addr) (H1 : Hp) (L : List (List (Nat × Nat))) (env : Ev) (σ : L2.St) (H : Hp) : Prop := Slt K p σ H env ∧ Bst K H0 p as L H ∧ Kp p as H1 H
theorem yss_cons {st : Stmt} {sts : List Stmt} {I J L : L2.St → Hp → Prop} (h1 : PS X st (tI I J)) (h2 : PSs X sts (tI J L)) : PSs X (st :: sts) (tI I L) :=
  pss_weak (pss_cons h1 h2) fun E σ H ⟨i, q⟩ => ⟨i, fun σ' H' j => ⟨j, q⟩⟩
theorem app1 {nm nr ot : Str} {pa pb pc pd pe p1 apos cpos pos : Pos} {kk : Nat} {L : List (List (Nat × Nat))} {l : List (Nat × Nat)} {as : List Addr} {H1 : Hp} {g a b : Nat} {gn : Str} (hu : X.A.units + 1 < cLine) (hl : L[a]? = some l) (hll : l.length < 1000)
    (h2 : X.N[2]? = some nm) (hv2 : Vis X.env.scope nm) (d2 : (nm == ("__debug__" : Str)) = false) (c2 : (nm == ("__classdict__" : Str)) = false)
    (hA : EX X H0 Tr (.Name nr pb) (e6 n gs lot g) (.d (natD a))) (hG : EX X H0 Tr (.Name gn pd) (e6 n gs lot g) (.d (natD g))) (hB : EX X H0 Tr (.Name ot pe) (e6 n gs lot g) (.d (natD b)))
    (hT : starEach [.Name gn pd, .Name ot pe] X.env = (false, eval (.Name gn pd) X.env) :: starEach [.Name ot pe] X.env) (hT2 : starEach [.Name ot pe] X.env = (false, eval (.Name ot pe) X.env) :: starEach [] X.env)
    (hE : starEach [.Tuple [.Name gn pd, .Name ot pe] kk pc] X.env = (false, eval (.Tuple [.Name gn pd, .Name ot pe] kk pc) X.env) :: starEach [] X.env)
    (hbase : attributeBase (.Subscript (.Name nm pa) (.Name nr pb) p1) "append" X.env (eval (.Subscript (.Name nm pa) (.Name nr pb) p1) X.env) = eval (.Subscript (.Name nm pa) (.Name nr pb) p1) X.env)
    (hline : (apos.endLine == cpos.line) = true) (hs : swapsWith (.Call (.Attribute (.Subscript (.Name nm pa) (.Name nr pb) p1) "append" apos) [.Tuple [.Name gn pd, .Name ot pe] kk pc] [] cpos) none pos.line X.env = pure false) :
    PS X (.Expr (.Call (.Attribute (.Subscript (.Name nm pa) (.Name nr pb) p1) "append" apos) [.Tuple [.Name gn pd, .Name ot pe] kk pc] [] cpos) pos) (tI (B2 X.K H0 n gs lot p as H1 L (e6 n gs lot g)) (B2 X.K H0 n gs lot p as H1 (L.set a (l ++ [(g, b)])) (e6 n gs lot g))) := by
  have hx : EX X H0 Tr (.Tuple [.Name gn pd, .Name ot pe] kk pc) (e6 n gs lot g) (.d (.tup [natD g, natD b])) := ex_tup (ea_cons hG (ea_cons hB ea_nil hT2) hT)
  refine ps_weak (ps_expr (pe_bm PySem.F.plainAttrs_list PySem.F.slot_list_append PySem.F.type_list_append mt_append (pe_dget hu (pe_var (i := 2) h2 hv2 d2 c2) hA (fun _ _ => rfl)) (pa_cons hx pa_nil hE) (hbase := hbase) (hfew := by rw [hE]; rfl) (hline := hline) (hs := hE)) hs) fun E σ H ⟨⟨slt, bst, kp⟩, q⟩ => ?_
  refine ⟨.ref p, slt.p, _, _, slt.ok bst.ext, fun w Ha e1 r1 => ?_⟩
  cases r1.isI
  have al : a < as.length := by
    rw [bst.len]
    exact (List.getElem?_eq_some_iff.mp hl).1
  have ha : as[a]? = some as[a] := List.getElem?_eq_getElem al
  obtain ⟨vs, l', g1, g2, g3⟩ := bst.lst a as[a] ha
  rw [hl] at g1
  cases g1
  refine ⟨p, V.ref as[a], rfl, .inl ⟨_, Sum.inl (a : Int), .inl (e1 _ _ bst.hp), rfl, (kvs_get ha).symm⟩, .inl ⟨rfl, _, SqL.of (e1 _ _ g2)⟩, _, _, (slt.same e1).ok (bst.ext.trans e1), fun v Hb e2 r2 => ?_⟩
  have e3 := e1.trans e2
  have r2 : R X.K Hb (fun a => Ha a = none) v (gD (g, b)) := r2
  refine ⟨as[a], vs, v, rfl, rfl, e3 _ _ g2, ?_, q _ _ ⟨(slt.same e3).upd (.inl ⟨_, e3 _ _ g2⟩), (bst.same e3).app ha hl (e3 _ _ g2) (g3.same e3) (r2.flat rfl), (kp.same e3).upd (.inr (List.mem_of_getElem? ha))⟩⟩
  rw [g3.length, List.length_map]
  exact Nat.lt_of_lt_of_le hll (by decide : 1000 ≤ sizeLine)
theorem stepL_len (L : List (List (Nat × Nat))) (g : Nat) : (stepL gs L g).length = L.length := by simp [stepL]
/-- what a guest adds at a place -/
def addB (gs : G) (g j : Nat) : List (Nat × Nat) := if (gAt gs g).1 = j then [(g, (gAt gs g).2)] else if (gAt gs g).2 = j then [(g, (gAt gs g).1)] else []
theorem stepL_get {L : List (List (Nat × Nat))} {g j : Nat} (h1 : (gAt gs g).1 < L.length) (h2 : (gAt gs g).2 < L.length) (h3 : (gAt gs g).1 ≠ (gAt gs g).2) : (stepL gs L g)[j]? = L[j]?.map (· ++ addB gs g j) := by
  unfold stepL addB
  rw [List.getElem?_set, List.getElem?_set, List.length_set]
  by_cases ej : (gAt gs g).2 = j
  · subst ej
    rw [if_pos rfl, if_pos h2, if_neg h3, if_pos rfl, List.getElem?_eq_getElem h2, List.getD_eq_getElem?_getD, List.getElem?_eq_getElem h2]
    rfl
  · rw [if_neg ej]
    by_cases ei : (gAt gs g).1 = j
    · subst ei
      rw [if_pos rfl, if_pos h1, if_pos rfl, List.getElem?_eq_getElem h1, List.getD_eq_getElem?_getD, List.getElem?_eq_getElem h1]
      rfl
    · rw [if_neg ei, if_neg ei, if_neg ej]
      cases L[j]? <;> simp
theorem bes_snoc (lot : List Nat) (g j : Nat) : bes gs (lot ++ [g]) j = bes gs lot j ++ addB gs g j := by
  unfold bes
  rw [List.filterMap_append]
  congr 1
  unfold addB
  rw [List.filterMap_cons, List.filterMap_nil]
  split <;> split <;> simp_all
theorem foldL (hw : Web n gs) : ∀ (lot : List Nat), (∀ k ∈ lot, k < gs.length) → ∀ (m : Nat), m ≤ lot.length → ((lot.take m).foldl (stepL gs) (List.replicate n [])).length = n ∧ ∀ j, j < n → ((lot.take m).foldl (stepL gs) (List.replicate n []))[j]? = some (bes gs (lot.take m) j) := by
  intro lot hl m
  induction m with
  | zero =>
    intro _
    refine ⟨by simp, fun j hj => ?_⟩
    show (List.replicate n [])[j]? = _
    rw [List.getElem?_replicate, if_pos hj]
    rfl
  | succ m ih =>
    intro hm
    obtain ⟨i1, i2⟩ := ih (by omega)
    have hk : lot[m]? = some lot[m] := List.getElem?_eq_getElem (by omega)
    have hg := hw.ok (gAt gs lot[m]) (by
      have := hl lot[m] (List.getElem_mem _)
      unfold gAt
      rw [List.getD_eq_getElem?_getD, List.getElem?_eq_getElem this]
      exact List.getElem_mem _)
    rw [List.take_add_one, hk, List.foldl_append]
    refine ⟨by show (stepL gs _ _).length = n; rw [stepL_len, i1], fun j hj => ?_⟩
    show (stepL gs _ lot[m])[j]? = some (bes gs (lot.take m ++ [lot[m]]) j)
    rw [stepL_get (by rw [i1]; exact hg.1) (by rw [i1]; exact hg.2.1) hg.2.2, i2 j hj, bes_snoc]
    rfl
theorem bes_len (lot : List Nat) (j : Nat) : (bes gs lot j).length ≤ lot.length := List.length_filterMap_le _ _
theorem loop2 {tg iter : Expr} {body : List Stmt} {pos : Pos} (hc : X.calm = true) (hp : PassesOwn (model X.prog X.w) X.A X.env X.xe) (hw : Web n gs) (hl : ∀ k ∈ lot, k < gs.length) (hit : IT X H0 Tr tg iter (env1 n gs lot) (lot.map natD)) (hag : ∀ k, AG X H0 Tr tg (env1 n gs lot) (natD k) (e4 n gs lot k) [4])
    (hb : ∀ p as H1 (L : List (List (Nat × Nat))) g, g < gs.length → L.length = n → (∀ l ∈ L, l.length < 1000) → PSs X body (tI (B2 X.K H0 n gs lot p as H1 L (e4 n gs lot g)) (B2 X.K H0 n gs lot p as H1 (stepL gs L g) (e6 n gs lot g)))) (hlen : lot.length ≤ 900) (hs : ∀ x, foldedSetIterable iter X.env x = pure x) :
    PS X (.For tg iter body [] pos) (tI (fun σ H => ∃ p as, Slt X.K p σ H (env1 n gs lot) ∧ Bst X.K H0 p as (List.replicate n []) H) (fun σ H => ∃ p as, Slt X.K p σ H (env1 n gs lot) ∧ Bst X.K H0 p as (lot.foldl (stepL gs) (List.replicate n [])) H)) := by
  let C := Addr × List Addr × Hp × List (List (Nat × Nat)) × Nat
  let tb : TS := fun E σ H => ∃ q : C, (q.2.2.2.2 < gs.length ∧ q.2.2.2.1.length = n ∧ ∀ l ∈ q.2.2.2.1, l.length < 1000) ∧ tI (B2 X.K H0 n gs lot q.1 q.2.1 q.2.2.1 q.2.2.2.1 (e4 n gs lot q.2.2.2.2)) (B2 X.K H0 n gs lot q.1 q.2.1 q.2.2.1 (stepL gs q.2.2.2.1 q.2.2.2.2) (e6 n gs lot q.2.2.2.2)) E σ H
  have htb : PSs X body tb := pss_any (ι := C) (c := fun q => q.2.2.2.2 < gs.length ∧ q.2.2.2.1.length = n ∧ ∀ l ∈ q.2.2.2.1, l.length < 1000) (t := fun q => tI (B2 X.K H0 n gs lot q.1 q.2.1 q.2.2.1 q.2.2.2.1 (e4 n gs lot q.2.2.2.2)) (B2 X.K H0 n gs lot q.1 q.2.1 q.2.2.1 (stepL gs q.2.2.2.1 q.2.2.2.2) (e6 n gs lot q.2.2.2.2))) fun q hq => hb _ _ _ _ _ hq.1 hq.2.1 hq.2.2
  refine ps_weak (ps_for hp hc hit (gL_ok (H0 := H0) (M := Tr)) htb hs) fun E σ H ⟨⟨p, as, slt, bst⟩, q⟩ => ⟨_, _, slt.ok bst.ext, fun J Ha e1 ⟨G, Y, w, hG, hY⟩ => ?_⟩
  let Inv : Nat → L2.St → Hp → Prop := fun i σ' H' => I2 X.K H0 n gs lot p as Ha ((lot.take i).foldl (stepL gs) (List.replicate n [])) σ' H'
  have fr : ∀ {i σ' H'}, Inv i σ' H' → Fr (fun a => H a = none) Ha Tr H' := fun ⟨_, _, kp⟩ => kp.fr e1 (.inr ⟨_, bst.hp⟩) bst.wr
  refine for_it (D := E) (g := gL X H0 Tr tg) (tb := tb) w Inv ⟨slt.same e1, bst.same e1, fun b o h _ _ => h⟩ (fun i σ' H' _ h => hG Tr H' (fr h)) (fun i x σ' H' H2 hi h y => ?_) fun σ' H' h => ?_
  · have hi : i < lot.length := by simpa using hi
    obtain ⟨s2, r2⟩ := hY i H' x H2 Tr (natD lot[i]) (fr h) (by rw [List.getElem?_map, List.getElem?_eq_getElem hi]; rfl) y
    obtain ⟨slt', bst', kp'⟩ := h
    obtain ⟨i1, i2⟩ := foldL hw lot hl i (by omega)
    refine ⟨(_, _, _, _), hag lot[i], _, _, (slt'.same s2).ok (bst'.ext.trans s2), r2.flat rfl, fun σ3 O3 ok3 l3 f3 => ?_⟩
    refine ⟨(p, as, Ha, (lot.take i).foldl (stepL gs) (List.replicate n []), lot[i]), ⟨hl _ (List.getElem_mem _), i1, fun l hl' => ?_⟩, ⟨Slt.of_ok ok3 (fun j x hj => flatE_d (flat1s lot[i] 4) hj) (fun j x => flatE_o (flat1s lot[i] 4) j x) ((f3 2 (show 2 ∉ [4] by decide)).trans slt'.p), bst'.same s2, kp'.same s2⟩, fun σ4 H4 h4 => ?_⟩
    · obtain ⟨j, hj⟩ := List.mem_iff_getElem?.mp hl'
      have jl : j < n := by
        rw [← i1]
        exact (List.getElem?_eq_some_iff.mp hj).1
      rw [i2 j jl] at hj
      cases hj
      have := bes_len (gs := gs) (lot.take i) j
      rw [List.length_take] at this
      omega
    · obtain ⟨k1, k2, k3⟩ := h4
      refine ⟨k1.weak (by simp [e6, e4]) fun j x hj => ?_, ?_, k3⟩
      · rcases weak_set (env1 n gs lot) 4 (.d (natD lot[i])) (.inl rfl) j x hj with z | z
        · exact .inl z
        · rcases weak_set (e4 n gs lot lot[i]) 5 (.d (natD (gAt gs lot[i]).1)) (.inl rfl) j x z with z | z
          · exact .inl z
          · exact weak_set _ 6 _ (.inl rfl) j x z
      · have e : (lot.take (i + 1)).foldl (stepL gs) (List.replicate n []) = stepL gs ((lot.take i).foldl (stepL gs) (List.replicate n [])) lot[i] := by
          rw [List.take_add_one, List.getElem?_eq_getElem hi, List.foldl_append]
          rfl
        show Bst _ _ _ _ ((lot.take (i + 1)).foldl (stepL gs) (List.replicate n [])) _
        rw [e]
        exact k2
  · have e : (lot.map natD).length = lot.length := by simp
    rw [e] at h
    obtain ⟨h1, h2, _⟩ := h
    rw [List.take_length] at h2
    exact q σ' H' ⟨p, as, h1, h2⟩
end
end Zf
/-! Defs, 9: beside_by, joined. -/
namespace Zf
open PySem PySem.Spec PyProof.Rows L2 Zb Zt Gr
/-- a dict of lists of pairs, by place -/
def KD (n : Nat) (kn : Nat → List (Nat × Nat)) : D := .dic ((List.range n).map fun i : Nat => (i : Int)) ((List.range n).map fun p => lgD (kn p))
section
variable {P : Program} {w : World} {K : PySem.W.Frag} {mg : Str → Option Value} {base : Heap}
def F_beside_by (ds : List D) (d : D) : Prop := ∃ (n : Nat) (gs : G) (lot : List Nat), ds = [webD n gs, tD lot] ∧ Web n gs ∧ Lot gs lot ∧ d = KD n (bes gs lot)
theorem ct_beside_by (B : Bl mg) (d : Df K mg "beside_by" s_beside_by ["web", "lot"]) : Ct P w K mg base 1 "beside_by" ["web", "lot"] F_beside_by := by
  obtain ⟨f, fd, Fn, hb, hm⟩ := d.ex
  refine ⟨f, fd, Fn.ok sc_beside_by (fun vs H Q E h => ?_) (fun cdv A outer s H vs Q E hr h => ?_), hm, Fn.kp, hb, fun_at Fn⟩
  · obtain ⟨ds, d, ⟨n, gs, lot, rfl, _⟩, h2, _⟩ := h
    rw [h2.length]
    rfl
  · obtain ⟨ds, d, ⟨n, gs, lot, rfl, hw, hl, rfl⟩, h2, q⟩ := h
    have few := hw.few
    have fewG := hw.fewG
    have ll := lot_len hl
    have ok := ok_start (M := Tr) (N := ["web", "lot", "found", "place", "guest", "near", "far"]) (fun _ _ => trivial) h2 (by decide : 2 ≤ 7)
    let X := cx0 P w K mg base ["web", "lot", "found", "place", "guest", "near", "far"] "beside_by" s_beside_by f cdv A outer s H E
    have hu : X.A.units + 1 < cLine := hu_of hr
    have nd : X.N.Nodup := sc_beside_by.nd
    refine ⟨_, pss_cons (x_setO (X := X) (H0 := H) (M := Tr) (env := Zb.envOf ["web", "lot", "found", "place", "guest", "near", "far"] [webD n gs, tD lot]) 2 nd ex_dict0) (pss_cons
      (loop1 (X := X) (H0 := H) (n := n) (gs := gs) (lot := lot) rfl PassesOwn.never (it_range B.range (ex_many (ex_var 0 rfl)) (by omega)) (fun k => ag_name 3 nd) (fun p H1 i hi => put1 hu (by omega) rfl rfl (by first | exact Or.inl rfl | exact Or.inr (Or.inl rfl) | exact Or.inr (Or.inr rfl)) (by first | exact Or.inl rfl | exact Or.inr (Or.inl rfl) | exact Or.inr (Or.inr rfl)) (by decide) (by decide) (by decide) (by decide) rfl) (fun _ => rfl))
      (pss_cons (loop2 (X := X) (H0 := H) (n := n) (gs := gs) (lot := lot) rfl PassesOwn.never hw hl.ok (it_tup (ex_var 1 rfl) rfl) (fun k => ag_name 4 nd) (fun p as H1 L g hg hL hl' => ?b2) (by omega) (fun _ => rfl))
      (pss_one (ps_ret (pe_var (i := 2) rfl (by first | exact Or.inl rfl | exact Or.inr (Or.inl rfl) | exact Or.inr (Or.inr rfl))))))), _, _, ok, fun σ1 H1 N1 O1 ok1 _ => ⟨?_, fun σ2 H2 h2 => ⟨h2, fun σ3 H3 ⟨p, as, slt, bst⟩ => ⟨.ref p, slt.p, ?_⟩⟩⟩⟩
    case b2 =>
      have ok := hw.ok (gAt gs g) (by
        unfold gAt
        rw [List.getD_eq_getElem?_getD, List.getElem?_eq_getElem hg]
        exact List.getElem_mem _)
      have l1 : (gAt gs g).1 < L.length := by rw [hL]; exact ok.1
      have l2 : (gAt gs g).2 < L.length := by rw [hL]; exact ok.2.1
      have n1 : L[(gAt gs g).1]? = some L[(gAt gs g).1] := List.getElem?_eq_getElem l1
      have n2 : (L.set (gAt gs g).1 (L[(gAt gs g).1] ++ [(g, (gAt gs g).2)]))[(gAt gs g).2]? = some L[(gAt gs g).2] := by
        rw [List.getElem?_set_ne ok.2.2, List.getElem?_eq_getElem l2]
      have st : stepL gs L g = (L.set (gAt gs g).1 (L[(gAt gs g).1] ++ [(g, (gAt gs g).2)])).set (gAt gs g).2 (L[(gAt gs g).2] ++ [(g, (gAt gs g).1)]) := by
        unfold stepL
        rw [List.getD_eq_getElem?_getD, List.getD_eq_getElem?_getD, List.getElem?_eq_getElem l1, List.getElem?_eq_getElem l2]
        rfl
      rw [st]
      refine yss_cons (J := B2 X.K H n gs lot p as H1 L (e6 n gs lot g)) (ps_weak (ps_asg (ex_gst (ex_var 0 rfl : EX X H Tr _ (e4 n gs lot g) (.d (webD n gs))) (ex_var 4 rfl) hg) (ag_tup rfl (ags_cons (ag_name 5 nd) (ags_cons (ag_name 6 nd) ags_nil)))) fun E σ Hs ⟨⟨slt, bst, kp⟩, q⟩ => ⟨_, _, slt.ok bst.ext, fun v H' e1 r1 => ⟨_, _, (slt.same e1).ok (bst.ext.trans e1), (show R X.K H' _ v (gD (gAt gs g)) from r1).flat rfl, fun σ' O' ok' _ f' => q _ _ ⟨Slt.of_ok ok' (fun j x hj => flatE_d (flat6 g) hj) (fun j x => flatE_o (flat6 g) j x) ((f' 2 (show 2 ∉ [5, 6] by decide)).trans slt.p), bst.same e1, kp.same e1⟩⟩⟩)
        (yss_cons (app1 hu n1 (hl' _ (List.getElem_mem _)) rfl (by first | exact Or.inl rfl | exact Or.inr (Or.inl rfl) | exact Or.inr (Or.inr rfl)) (by decide) (by decide) (ex_var 5 rfl) (ex_var 4 rfl) (ex_var 6 rfl) rfl rfl rfl rfl rfl rfl)
        (pss_one (app1 hu n2 (hl' _ (List.getElem_mem _)) rfl (by first | exact Or.inl rfl | exact Or.inr (Or.inl rfl) | exact Or.inr (Or.inr rfl)) (by decide) (by decide) (ex_var 6 rfl) (ex_var 4 rfl) (ex_var 5 rfl) rfl rfl rfl rfl rfl rfl)))
    · obtain ⟨p, g1, g2, kvs, g3, g4, g5⟩ := ok1.o 2 (.dic [] []) rfl
      have hk : kvs = [] := by simpa using g4
      subst hk
      obtain ⟨w1, w2, w3⟩ := ok1.own 2 p g1
      refine ⟨p, ⟨ok1.len, fun i x hi => ?_, fun i x => flatE_o flat1 i x, g2⟩, ⟨g3, w2, ok1.ext, .nil, by simp, by simp, rfl, by simp⟩⟩
      have fl := flatE_d flat1 hi
      refine ⟨fl, ?_⟩
      have hi' : ([.d (webD n gs), .d (tD lot), .o (.dic [] []), .no, .no, .no, .no] : Ev)[i]? = some (.d x) := by
        match i, hi with
        | 0, hi => exact hi
        | 1, hi => exact hi
        | 2, hi => cases hi
        | 3, hi => cases hi
        | 4, hi => cases hi
        | 5, hi => cases hi
        | 6, hi => cases hi
        | i + 7, hi => simp [env1] at hi
      obtain ⟨v, k1, k2⟩ := ok1.d i x hi'
      exact ⟨v, k1, k2.flat fl⟩
    · refine q _ H3 bst.ext (.dic (.inl bst.hp) bst.p0 ?_ ?_)
      · rw [kvs_keys, bst.len]
        obtain ⟨i1, _⟩ := foldL hw lot hl.ok lot.length (Nat.le_refl _)
        rw [List.take_length] at i1
        rw [i1]
      · obtain ⟨i1, i2⟩ := foldL hw lot hl.ok lot.length (Nat.le_refl _)
        rw [List.take_length] at i1 i2
        rw [kvs_snd]
        have all : ∀ (as : List Addr) (ds : List D), as.length = ds.length → (∀ (j : Nat) a d, as[j]? = some a → ds[j]? = some d → R K H3 (fun a => H a = none) (.ref a) d) → RA K H3 (fun a => H a = none) (as.map V.ref) ds := by
          intro as
          induction as with
          | nil =>
            intro ds hl _
            cases ds with
            | nil => exact .nil
            | cons d ds => cases hl
          | cons a as ih =>
            intro ds hl h
            cases ds with
            | nil => cases hl
            | cons d ds => exact .cons (h 0 a d rfl rfl) (ih ds (by simpa using hl) fun j a' d' h1 h2 => h (j + 1) a' d' h1 h2)
        refine all as _ ?_ fun j a d ha hd => ?_
        · rw [bst.len, i1]
          simp
        · obtain ⟨us, l, h1, h2, h3⟩ := bst.lst j a ha
          have jn : j < n := by
            have := (List.getElem?_eq_some_iff.mp ha).1
            rw [bst.len, i1] at this
            exact this
          rw [i2 j jn] at h1
          cases h1
          rw [List.getElem?_map, List.getElem?_range jn] at hd
          cases hd
          exact .lst h2 (bst.a0 a (List.mem_of_getElem? ha)) (h3.mono (Same.refl _) fun _ z => z.elim)
end
end Zf
set_option maxHeartbeats 4000000
/-! Defs, 10: parts. -/
namespace Zf
open PySem PySem.Spec PyProof.Rows L2 Zb Zt Gr
theorem nodup_asc {n : Nat} {l : List Nat} (h : l.Nodup) (hn : ∀ p ∈ l, p < n) : l.Perm (asc n l) :=
  (List.perm_ext_iff_of_nodup h ((asc_asc n l).imp fun z => Nat.ne_of_lt z)).mpr fun p => by
    rw [mem_asc]
    exact ⟨fun z => ⟨hn p z, z⟩, fun z => z.2⟩
theorem nodup_le {n : Nat} {l : List Nat} (h : l.Nodup) (hn : ∀ p ∈ l, p < n) : l.length ≤ n := by
  rw [(nodup_asc h hn).length_eq]
  have := List.length_filter_le (fun p => decide (p ∈ l)) (List.range n)
  rwa [List.length_range] at this
theorem nodup_range_int (n : Nat) : ((List.range n).map fun i : Nat => (i : Int)).Nodup := nodup_int List.nodup_range
/-- what a dict of ways on is like -/
structure Kn (n : Nat) (kn : Nat → List (Nat × Nat)) : Prop where
  ok : ∀ p, p < n → ∀ q ∈ kn p, q.2 < n
  few : ∀ p, p < n → (kn p).length ≤ 1000
theorem addFar_cons (row : List Nat) (q : Nat × Nat) (ps : List (Nat × Nat)) : addFar row (q :: ps) = addFar (addOne row q.2) ps := rfl
theorem addFar_nodup : ∀ (ps : List (Nat × Nat)) (row : List Nat), row.Nodup → (addFar row ps).Nodup
  | [], row, h => h
  | q :: ps, row, h => addFar_nodup ps _ (nodup_addOne h)
theorem addFar_ok {n : Nat} : ∀ (ps : List (Nat × Nat)) (row : List Nat), (∀ p ∈ row, p < n) → (∀ q ∈ ps, q.2 < n) → ∀ p ∈ addFar row ps, p < n
  | [], row, h, _ => h
  | q :: ps, row, h, g => addFar_ok ps _ (fun p hp => by
      rcases mem_addOne.mp hp with z | z
      · exact h p z
      · exact z ▸ g q (List.mem_cons_self ..)) fun r hr => g r (List.mem_cons_of_mem _ hr)
theorem addFar_le : ∀ (ps : List (Nat × Nat)) (row : List Nat), row.length ≤ (addFar row ps).length
  | [], row => Nat.le_refl _
  | q :: ps, row => Nat.le_trans (by
      unfold addOne
      split
      · exact Nat.le_refl _
      · rw [List.length_append]; exact Nat.le_add_right _ _) (addFar_le ps (addOne row q.2))
section
variable {X : Cx} {H0 : Hp} {M : Addr → Prop} {env : Ev} {a b e : Expr} {pos : Pos} {n : Nat} {kn : Nat → List (Nat × Nat)}
/-- known[place] -/
theorem ex_known {p : Nat} (hu : X.A.units + 1 < cLine) (ha : EX X H0 M a env (.d (KD n kn))) (hb : EX X H0 M b env (.d (natD p))) (hp : p < n) (hs : NoSl b := by exact fun _ _ => rfl) : EX X H0 M (.Subscript a b pos) env (.d (lgD (kn p))) :=
  ex_dget (j := p) hu ha hb rfl (nodup_range_int n) (by rw [List.getElem?_map, List.getElem?_range hp]; rfl) (by rw [List.getElem?_map, List.getElem?_range hp]; rfl) hs
end
section
variable {P : Program} {w : World} {K : PySem.W.Frag} {mg : Str → Option Value} {base : Heap}
def F_part_from (ds : List D) (d : D) : Prop := ∃ (n : Nat) (kn : Nat → List (Nat × Nat)) (p : Nat), ds = [KD n kn, natD p] ∧ Kn n kn ∧ p < n ∧ n ≤ 7 ∧ d = tD (partFrom n kn p)
abbrev PSt := List Nat × Nat × Sl
def pStep (kn : Nat → List (Nat × Nat)) (b : PSt) : Option PSt := match b.1[b.2.1]? with
  | none => none
  | some p => some (addFar b.1 (kn p), b.2.1 + 1, ((kn p).foldl (fun (z : List Nat × Sl) q => (addOne z.1 q.2, .d (natD q.2))) (b.1, b.2.2)).2)
theorem pRun (kn : Nat → List (Nat × Nat)) : ∀ (f : Nat) (row : List Nat) (spot : Nat) (s : Sl), (Zf.run (pStep kn) f (row, spot, s)).1 = bfs kn f row spot
  | 0, row, spot, s => rfl
  | f + 1, row, spot, s => by
    cases hn : row[spot]? with
    | none =>
      have e1 : pStep kn (row, spot, s) = none := by
        unfold pStep
        simp only [hn]
      simp only [Zf.run, e1, bfs, hn]
    | some p =>
      have e1 : pStep kn (row, spot, s) = some (addFar row (kn p), spot + 1, ((kn p).foldl (fun (z : List Nat × Sl) q => (addOne z.1 q.2, .d (natD q.2))) (row, s)).2) := by
        unfold pStep
        simp only [hn]
      simp only [Zf.run, e1, bfs, hn]
      exact pRun kn f _ _ _
theorem far_fold (ps : List (Nat × Nat)) : ∀ (row : List Nat) (s : Sl), (ps.foldl (fun (z : List Nat × Sl) q => (addOne z.1 q.2, Sl.d (natD q.2))) (row, s)).1 = addFar row ps := by
  induction ps with
  | nil => intro row s; rfl
  | cons q ps ih => intro row s; rw [List.foldl_cons, ih]; rfl
theorem bfs_ok {n : Nat} {kn : Nat → List (Nat × Nat)} (hk : Kn n kn) : ∀ (f : Nat) (row : List Nat) (spot : Nat), row.Nodup → (∀ p ∈ row, p < n) → (bfs kn f row spot).Nodup ∧ ∀ p ∈ bfs kn f row spot, p < n
  | 0, row, spot, h1, h2 => ⟨h1, h2⟩
  | f + 1, row, spot, h1, h2 => by
    rw [bfs]
    cases hn : row[spot]? with
    | none => exact ⟨h1, h2⟩
    | some p => exact bfs_ok hk f _ _ (addFar_nodup _ _ h1) (addFar_ok _ _ h2 (hk.ok p (h2 p (List.mem_of_getElem? hn))))
theorem ct_part_from (B : Bl mg) (d : Df K mg "part_from" s_part_from ["known", "place"]) : Ct P w K mg base 1 "part_from" ["known", "place"] F_part_from := by
  obtain ⟨f, fd, Fn, hb, hm⟩ := d.ex
  refine ct_any Fn sc_part_from hb hm (fun ds d h => ?_) (by decide) (fun cdv A outer s H E hr ds d h => ?_)
  · obtain ⟨n, kn, p, rfl, _⟩ := h
    rfl
  · obtain ⟨n, kn, p, rfl, hk, hp, hn, rfl⟩ := h
    have ok0 := bfs_ok hk (n + 1) [p] 0 (by simp) (by simpa using hp)
    refine .inl ⟨flat_tD _, _, xs_cons (x_par2 2 3 rfl sc_part_from.nd (ep_o (ex_lst (ea_cons (ex_var 1 rfl) ea_nil)) (ep_d ex_int ep_nil)))
      (xs_cons (x_while (n := n + 1) (wl_go (b := ([p], 0, .no)) (fun b : PSt => [.d (KD n kn), .d (natD p), .o (lD b.1), .d (natD b.2.1), .no, b.2.2]) (pStep kn)
        (fun b => b.1.Nodup ∧ (∀ q ∈ b.1, q < n) ∧ b.2.1 ≤ b.1.length) (fun b => n + 1 - b.2.1) (fun b hp hs => ?g1) (fun b b' hp hs => ?g2) _ ?g3 ?g4))
      (xs_one (x_retD (EX.to (ex_tupleOf B.tuple (ex_sortI (ns := (bfs kn (n + 1) [p] 0).map fun k : Nat => (k : Int)) (res := (partFrom n kn p).map fun k : Nat => (k : Int)) B.sorted (ex_own 2 rfl) ?g5 ?g6) (.inl rfl)) (by unfold tD; rw [nats_int])))))⟩
    case g1 =>
      have : b.1[b.2.1]? = none := by
        unfold pStep at hs
        cases hn : b.1[b.2.1]? with
        | none => rfl
        | some q => rw [hn] at hs; cases hs
      have := List.getElem?_eq_none_iff.mp this
      refine ET.to (et_lt (ex_var 3 rfl) (ex_len B.len (ex_own 2 rfl) (.inl rfl))) (decide_eq_false ?_)
      rw [List.length_map]
      omega
    case g2 =>
      obtain ⟨p1, p2, p3⟩ := hp
      have len := nodup_le p1 p2
      cases hq : b.1[b.2.1]? with
      | none => unfold pStep at hs; rw [hq] at hs; cases hs
      | some q =>
        have lt : b.2.1 < b.1.length := (List.getElem?_eq_some_iff.mp hq).1
        have qn := p2 q (List.mem_of_getElem? hq)
        have e1 : pStep kn b = some (addFar b.1 (kn q), b.2.1 + 1, ((kn q).foldl (fun (z : List Nat × Sl) r => (addOne z.1 r.2, .d (natD r.2))) (b.1, b.2.2)).2) := by
          unfold pStep
          simp only [hq]
        rw [e1] at hs
        cases hs
        have l2 := addFar_le (kn q) b.1
        refine ⟨ET.to (et_lt (ex_var 3 rfl) (ex_len B.len (ex_own 2 rfl) (.inl rfl))) (decide_eq_true ?_), xs_cons (x_for rfl (it_list (ex_known (hu_of hr) (ex_var 0 rfl) (ex_item (j := b.2.1) (ex_own 2 rfl) (ex_var 3 rfl) (.inl rfl) rfl (nat_get hq)) qn) rfl)
          (lp_fold (b := (b.1, b.2.2)) (xs := kn q) (enc := gD) (fun z : List Nat × Sl => [.d (KD n kn), .d (natD p), .o (lD z.1), .d (natD b.2.1), .no, z.2]) (fun z r => (addOne z.1 r.2, .d (natD r.2))) (fun z rest => z.1.Nodup ∧ (∀ r ∈ z.1, r < n) ∧ ∀ r ∈ rest, r.2 < n) (fun z r rest hz => ?_) ⟨p1, p2, hk.ok q qn⟩))
          (XS.to (xs_one (x_set 3 sc_part_from.nd (ex_add (ex_var 3 rfl) ex_int))) ?_), ⟨addFar_nodup _ _ p1, addFar_ok _ _ p2 (hk.ok q qn), ?_⟩, ?_⟩
        · rw [List.length_map]
          omega
        · obtain ⟨z1, z2, z3⟩ := hz
          refine ⟨_, _, ag_tup rfl (ags_cons (ag_drop 4 sc_part_from.nd) (ags_cons (ag_name 5 sc_part_from.nd) ags_nil)), ?_, nodup_addOne z1, fun y hy => ?_, fun y hy => z3 y (List.mem_cons_of_mem _ hy)⟩
          · by_cases hin : r.2 ∈ z.1
            · refine XS.to (xs_one (x_ifF (ET.to (et_notInN (ex_var 5 rfl) (ex_own 2 rfl) (.inr rfl)) (by rw [decide_eq_true hin]; rfl)) xs_nil)) ?_
              unfold addOne
              rw [if_pos hin]
              rfl
            · refine XS.to (xs_one (x_ifT (ET.to (et_notInN (ex_var 5 rfl) (ex_own 2 rfl) (.inr rfl)) (by rw [decide_eq_false hin]; rfl)) (xs_one (x_append 2 rfl (ex_var 5 rfl) ?_)))) ?_
              · have := nodup_le z1 z2
                rw [List.length_map]
                omega
              · unfold addOne
                rw [if_neg hin]
                show Out.nx [_, _, Sl.o (.lst (z.1.map natD ++ [natD r.2])), _, _, _] = Out.nx [_, _, Sl.o (.lst ((z.1 ++ [r.2]).map natD)), _, _, _]
                rw [List.map_append]
                rfl
          · rcases mem_addOne.mp hy with y1 | y1
            · exact z2 y y1
            · exact y1 ▸ z3 r (List.mem_cons_self ..)
        · rw [far_fold]
          rfl
        · show b.2.1 + 1 ≤ (addFar b.1 (kn q)).length
          omega
        · show n + 1 - (b.2.1 + 1) < n + 1 - b.2.1
          omega
    case g3 => exact ⟨by simp, by simpa using hp, Nat.zero_le _⟩
    case g4 => exact Nat.le_refl _
    case g5 =>
      rw [pRun]
      exact congrArg D.lst (nats_int _)
    case g6 =>
      intro ns' h1 h2
      refine uniq_asc (le_lt_nodup h2 (h1.nodup_iff.mpr (nodup_int ok0.1))) (asc_int (asc_asc _ _)) fun k => ?_
      rw [h1.mem_iff]
      refine mem_ints (fun j => ?_) k
      unfold partFrom
      rw [mem_asc]
      exact ⟨fun h => ⟨ok0.2 j h, h⟩, fun h => h.2⟩
end
end Zf
/-! Defs, 11: all parts. -/
namespace Zf
open PySem PySem.Spec PyProof.Rows L2 Zb Zt Gr
theorem gAt_ok {n : Nat} {gs : G} (hw : Web n gs) {k : Nat} (h : k < gs.length) : (gAt gs k).1 < n ∧ (gAt gs k).2 < n ∧ (gAt gs k).1 ≠ (gAt gs k).2 := hw.ok _ (by
  unfold gAt
  rw [List.getD_eq_getElem?_getD, List.getElem?_eq_getElem h]
  exact List.getElem_mem _)
theorem mem_bes {gs : G} {lot : List Nat} {p : Nat} {q : Nat × Nat} (h : q ∈ bes gs lot p) : q.1 ∈ lot ∧ (((gAt gs q.1).1 = p ∧ (gAt gs q.1).2 = q.2) ∨ ((gAt gs q.1).2 = p ∧ (gAt gs q.1).1 = q.2)) := by
  unfold bes at h
  obtain ⟨k, hk, e⟩ := List.mem_filterMap.mp h
  by_cases c1 : (gAt gs k).1 = p
  · rw [if_pos c1] at e
    cases e
    exact ⟨hk, .inl ⟨c1, rfl⟩⟩
  · rw [if_neg c1] at e
    by_cases c2 : (gAt gs k).2 = p
    · rw [if_pos c2] at e
      cases e
      exact ⟨hk, .inr ⟨c2, rfl⟩⟩
    · rw [if_neg c2] at e
      cases e
theorem kn_bes {n : Nat} {gs : G} (hw : Web n gs) {lot : List Nat} (hl : Lot gs lot) : Kn n (bes gs lot) where
  ok := fun p _ q hq => by
    obtain ⟨h1, h2⟩ := mem_bes hq
    have h3 := gAt_ok hw (hl.ok _ h1)
    rcases h2 with ⟨_, h⟩ | ⟨_, h⟩ <;> (rw [← h]; first | exact h3.2.1 | exact h3.1)
  few := fun p _ => Nat.le_trans (bes_len lot p) (by have := lot_len hl; have := hw.fewG; omega)
theorem lot_others {gs : G} {lot : List Nat} : Lot gs (others gs.length lot) where
  asc := asc_pair _ _
  ok := fun k hk => List.mem_range.mp (List.mem_filter.mp hk).1
theorem partFrom_sub {n : Nat} {kn : Nat → List (Nat × Nat)} {p q : Nat} (h : q ∈ partFrom n kn p) : q < n := (mem_asc.mp h).1
theorem partFrom_len (n : Nat) (kn : Nat → List (Nat × Nat)) (p : Nat) : (partFrom n kn p).length ≤ n := by
  have := List.length_filter_le (fun q => decide (q ∈ bfs kn (n + 1) [p] 0)) (List.range n)
  rwa [List.length_range] at this
section
variable {P : Program} {w : World} {K : PySem.W.Frag} {mg : Str → Option Value} {base : Heap}
def F_parts_in (ds : List D) (d : D) : Prop := ∃ (n : Nat) (gs : G) (lot : List Nat), ds = [webD n gs, tD lot] ∧ Web n gs ∧ Lot gs lot ∧ d = .lst ((parts n gs lot).map tD)
abbrev QSt := (List Nat × List (List Nat)) × Sl × Sl × Sl
def qStep (n : Nat) (kn : Nat → List (Nat × Nat)) (b : QSt) (p : Nat) : QSt := if p ∈ b.1.1 then (b.1, .d (natD p), b.2.2.1, b.2.2.2)
  else (partsStep n kn b.1 p, .d (natD p), .d (tD (partFrom n kn p)), ((partFrom n kn p).foldl (fun (z : List Nat × Sl) q => (addOne z.1 q, .d (natD q))) (b.1.1, b.2.2.2)).2)
theorem qFold (n : Nat) (kn : Nat → List (Nat × Nat)) : ∀ (ps : List Nat) (b : QSt), (ps.foldl (qStep n kn) b).1 = ps.foldl (partsStep n kn) b.1
  | [], b => rfl
  | p :: ps, b => by
    rw [List.foldl_cons, List.foldl_cons, qFold n kn ps]
    congr 1
    unfold qStep
    by_cases h : p ∈ b.1.1
    · rw [if_pos h]
      unfold partsStep
      rw [if_pos h]
    · rw [if_neg h]
theorem seen_fold (ps : List Nat) : ∀ (l : List Nat) (s : Sl), (ps.foldl (fun (z : List Nat × Sl) q => (addOne z.1 q, Sl.d (natD q))) (l, s)).1 = ps.foldl addOne l := by
  induction ps with
  | nil => intro l s; rfl
  | cons q ps ih => intro l s; rw [List.foldl_cons, ih]; rfl
theorem fold_in {n : Nat} : ∀ (ps l : List Nat), (∀ p ∈ l, p < n) → (∀ p ∈ ps, p < n) → ∀ p ∈ ps.foldl addOne l, p < n
  | [], l, h, _ => h
  | q :: ps, l, h, g => fold_in ps _ (fun p hp => by
      rcases mem_addOne.mp hp with z | z
      · exact h p z
      · exact z ▸ g q (List.mem_cons_self ..)) fun r hr => g r (List.mem_cons_of_mem _ hr)
theorem ct_parts_in (B : Bl mg) (d : Df K mg "parts_in" s_parts_in ["web", "lot"]) (c1 : Ct P w K mg base 1 "beside_by" ["web", "lot"] F_beside_by) (c2 : Ct P w K mg base 1 "part_from" ["known", "place"] F_part_from) : Ct P w K mg base 2 "parts_in" ["web", "lot"] F_parts_in := by
  obtain ⟨f, fd, Fn, hb, hm⟩ := d.ex
  refine ct_any Fn sc_parts_in hb hm (fun ds d h => ?_) (by decide) (fun cdv A outer s H E hr ds d h => ?_)
  · obtain ⟨n, gs, lot, rfl, _⟩ := h
    rfl
  · obtain ⟨n, gs, lot, rfl, hw, hl, rfl⟩ := h
    have few := hw.few
    have hk := kn_bes hw hl
    refine .inr (.inl ⟨⟨_, rfl, flats_map _ flat_tD _⟩, xs_cons (x_par3 2 3 4 rfl sc_parts_in.nd (ep_d (ex_call c1 hr (ea_cons (ex_var 0 rfl) (ea_cons (ex_var 1 rfl) ea_nil)) ⟨n, gs, lot, rfl, hw, hl, rfl⟩) (ep_o ex_dict0 (ep_o (ex_lst ea_nil) ep_nil))))
      (xs_cons (x_for rfl (it_range B.range (ex_many (ex_var 0 rfl)) (by omega)) (lp_fold (b := (([], []), .no, .no, .no)) (xs := List.range n) (enc := natD)
        (fun b : QSt => [.d (webD n gs), .d (tD lot), .d (KD n (bes gs lot)), .o (knD b.1.1), .o (.lst (b.1.2.map tD)), b.2.1, b.2.2.1, b.2.2.2]) (qStep n (bes gs lot))
        (fun b rest => b.1.1.Nodup ∧ (∀ p ∈ b.1.1, p < n) ∧ (∀ p ∈ rest, p < n) ∧ b.1.2.length + rest.length ≤ 1000) (fun b p rest hp => ?g1) ?g2))
      (xs_one ?g3))⟩)
    case g1 =>
      obtain ⟨p1, p2, p3, p4⟩ := hp
      have pn := p3 p (List.mem_cons_self ..)
      rw [List.length_cons] at p4
      by_cases hin : p ∈ b.1.1
      · refine ⟨_, _, ag_name 5 sc_parts_in.nd, XS.to (xs_one (x_ifF (ET.to (et_dNotIn (hu_of hr) (ex_var 5 rfl) (ex_own 3 rfl) rfl) (by rw [has_nat, decide_eq_true hin]; rfl)) xs_nil)) ?_, ?_⟩
        · unfold qStep
          rw [if_pos hin]
          rfl
        · unfold qStep
          rw [if_pos hin]
          exact ⟨p1, p2, fun q hq => p3 q (List.mem_cons_of_mem _ hq), by show b.1.2.length + rest.length ≤ 1000; omega⟩
      · have e0 : qStep n (bes gs lot) b p = (((partFrom n (bes gs lot) p).foldl addOne b.1.1, b.1.2 ++ [partFrom n (bes gs lot) p]), .d (natD p), .d (tD (partFrom n (bes gs lot) p)), ((partFrom n (bes gs lot) p).foldl (fun (z : List Nat × Sl) q => (addOne z.1 q, .d (natD q))) (b.1.1, b.2.2.2)).2) := by
          unfold qStep partsStep
          rw [if_neg hin, if_neg hin]
        rw [e0]
        refine ⟨_, _, ag_name 5 sc_parts_in.nd, xs_one (x_ifT (ET.to (et_dNotIn (hu_of hr) (ex_var 5 rfl) (ex_own 3 rfl) rfl) (by rw [has_nat, decide_eq_false hin]; rfl))
          (xs_cons (x_set 6 sc_parts_in.nd (ex_call c2 hr (ea_cons (ex_var 2 rfl) (ea_cons (ex_var 5 rfl) ea_nil)) ⟨n, bes gs lot, p, rfl, hk, pn, few, rfl⟩))
          (xs_cons (x_append 4 rfl (ex_var 6 rfl) ?_) (XS.to (xs_one (x_for rfl (it_tup (ex_var 6 rfl) rfl)
            (lp_fold (b := (b.1.1, b.2.2.2)) (xs := partFrom n (bes gs lot) p) (enc := natD) (fun z : List Nat × Sl => [.d (webD n gs), .d (tD lot), .d (KD n (bes gs lot)), .o (knD z.1), .o (.lst (b.1.2.map tD ++ [tD (partFrom n (bes gs lot) p)])), .d (natD p), .d (tD (partFrom n (bes gs lot) p)), z.2]) (fun z q => (addOne z.1 q, .d (natD q)))
              (fun z rest => z.1.Nodup ∧ (∀ q ∈ z.1, q < n) ∧ ∀ q ∈ rest, q < n) (fun z q rest hz => ?_) ⟨p1, p2, fun q hq => partFrom_sub hq⟩))) ?_)))), ?_, ?_, fun q hq => p3 q (List.mem_cons_of_mem _ hq), ?_⟩
        · rw [List.length_map]
          omega
        · obtain ⟨z1, z2, z3⟩ := hz
          refine ⟨_, _, ag_name 7 sc_parts_in.nd, XS.to (xs_one (x_dput 3 (hu_of hr) rfl ex_bl (ex_var 7 rfl) (nodup_int z1) ?_)) ?_, nodup_addOne z1, fun y hy => ?_, fun y hy => z3 y (List.mem_cons_of_mem _ hy)⟩
          · have := nodup_le z1 z2
            rw [List.length_map]
            omega
          · show Out.nx [_, _, _, Sl.o (.dic (putD (q : Int) (.bl true) (z.1.map fun n : Nat => (n : Int)) (z.1.map fun _ => .bl true)).1 (putD (q : Int) (.bl true) (z.1.map fun n : Nat => (n : Int)) (z.1.map fun _ => .bl true)).2), _, _, _, _] = _
            rw [put_kn]
            rfl
          · rcases mem_addOne.mp hy with y1 | y1
            · exact z2 y y1
            · exact y1 ▸ z3 q (List.mem_cons_self ..)
        · have q1 : (b.1.2 ++ [partFrom n (bes gs lot) p]).map tD = b.1.2.map tD ++ [tD (partFrom n (bes gs lot) p)] := by rw [List.map_append]; rfl
          rw [seen_fold]
          show _ = Out.nx [_, _, _, _, Sl.o (.lst ((b.1.2 ++ [partFrom n (bes gs lot) p]).map tD)), _, _, _]
          rw [q1]
        · exact fold_nodup _ _ p1
        · exact fold_in _ _ p2 fun q hq => partFrom_sub hq
        · show (b.1.2 ++ [partFrom n (bes gs lot) p]).length + rest.length ≤ 1000
          rw [List.length_append, List.length_singleton]
          omega
    case g2 =>
      refine ⟨by simp, by simp, fun p hp => List.mem_range.mp hp, ?_⟩
      rw [List.length_range]
      show 0 + n ≤ 1000
      omega
    case g3 =>
      refine x_retO (i := 4) (EX.to (ex_own 4 rfl) ?_)
      rw [qFold]
      rfl
end
end Zf
/-! Defs, 12: ways, rounds. -/
namespace Zf
open PySem PySem.Spec PyProof.Rows L2 Zb Zt Gr
section
variable {X : Cx} {H0 : Hp} {M : Addr → Prop} {env env1 env2 : Ev} {a b c e tg : Expr} {pos : Pos}
def runR {β : Type} (st : β → Option (Sum β D)) : Nat → β → Sum β D
  | 0, b => .inl b
  | n + 1, b => match st b with
    | none => .inl b
    | some (.inr d) => .inr d
    | some (.inl b') => runR st n b'
theorem wl_ret {β : Type} {body : List Stmt} (e : β → Ev) (st : β → Option (Sum β D)) (Pr : β → Prop) (m : β → Nat) (h0 : ∀ b, Pr b → st b = none → ET X H0 M c (e b) false)
    (h1 : ∀ b b', Pr b → st b = some (.inl b') → ET X H0 M c (e b) true ∧ XS X H0 M body (e b) (.nx (e b')) ∧ Pr b' ∧ m b' < m b) (h2 : ∀ b d, Pr b → st b = some (.inr d) → ET X H0 M c (e b) true ∧ XS X H0 M body (e b) (.rt false d) ∧ 0 < m b) :
    ∀ (n : Nat) (b : β), Pr b → m b ≤ n → Wl X H0 M c body n (e b) (match runR st n b with | .inl b' => .nx (e b') | .inr d => .rt false d) := by
  intro n
  induction n with
  | zero =>
    intro b hb hm
    cases hs : st b with
    | none => exact .stop (h0 b hb hs)
    | some z =>
      cases z with
      | inl b' => exact absurd (h1 b b' hb hs).2.2.2 (by omega)
      | inr d => exact absurd (h2 b d hb hs).2.2 (by omega)
  | succ n ih =>
    intro b hb hm
    cases hs : st b with
    | none =>
      have : runR st (n + 1) b = .inl b := by simp only [runR, hs]
      rw [this]
      exact .stop (h0 b hb hs)
    | some z =>
      cases z with
      | inl b' =>
        have : runR st (n + 1) b = runR st n b' := by simp only [runR, hs]
        rw [this]
        obtain ⟨g1, g2, g3, g4⟩ := h1 b b' hb hs
        exact .turn g1 g2 (ih b' g3 (by omega))
      | inr d =>
        have : runR st (n + 1) b = .inr d := by simp only [runR, hs]
        rw [this]
        obtain ⟨g1, g2, _⟩ := h2 b d hb hs
        exact .ret g1 g2
theorem xs_wr {β : Type} {R : Sum β D} {e : β → Ev} {st : Stmt} {rest : List Stmt} {d0 : D} (h1 : X1 X H0 M st env (match R with | .inl b' => .nx (e b') | .inr d => .rt false d)) (h2 : ∀ b', R = .inl b' → XS X H0 M rest (e b') (.rt false d0)) (h3 : ∀ d, R = .inr d → d = d0) : XS X H0 M (st :: rest) env (.rt false d0) := by
  cases R with
  | inl b' => exact xs_cons h1 (h2 b' rfl)
  | inr d =>
    cases h3 d rfl
    exact xs_stop h1
/-- a loop that may hand something back -/
def foldR {α β : Type} (f : β → α → Sum β D) : β → List α → Sum β D
  | b, [] => .inl b
  | b, x :: xs => match f b x with
    | .inl b' => foldR f b' xs
    | .inr d => .inr d
theorem lp_ret {α β : Type} {body : List Stmt} {enc : α → D} (e : β → Ev) (f : β → α → Sum β D) (Pr : β → List α → Prop) (h : ∀ (b : β) (x : α) (rest : List α), Pr b (x :: rest) → ∃ env1 js, AG X H0 M tg (e b) (enc x) env1 js ∧ (∀ b', f b x = .inl b' → XS X H0 M body env1 (.nx (e b')) ∧ Pr b' rest) ∧ ∀ d, f b x = .inr d → XS X H0 M body env1 (.rt false d)) :
    ∀ {xs : List α} {b : β}, Pr b xs → Lp X H0 M tg body (e b) (xs.map enc) (match foldR f b xs with | .inl b' => .nx (e b') | .inr d => .rt false d)
  | [], b, _ => .nil
  | x :: xs, b, hp => by
    obtain ⟨env1, js, g1, g2, g3⟩ := h b x xs hp
    cases hf : f b x with
    | inl b' =>
      have : foldR f b (x :: xs) = foldR f b' xs := by simp only [foldR, hf]
      rw [this]
      obtain ⟨k1, k2⟩ := g2 b' hf
      exact .nx g1 k1 (lp_ret e f Pr h k2)
    | inr d =>
      have : foldR f b (x :: xs) = .inr d := by simp only [foldR, hf]
      rw [this]
      exact .rt g1 (g3 d hf)
end
/-- a way and where it stands -/
def wD (q : List (Nat × Nat) × Nat) : D := .tup [tgD q.1, natD q.2]
theorem shp_gD (g : Nat × Nat) : Shp 1 (gD g) := fun d hd => by
  have hd : d ∈ [natD g.1, natD g.2] := hd
  simp only [List.mem_cons, List.not_mem_nil, or_false] at hd
  rcases hd with rfl | rfl <;> trivial
theorem shp_tgD (l : List (Nat × Nat)) : Shp 2 (tgD l) := fun d hd => by
  obtain ⟨g, _, rfl⟩ := List.mem_map.mp hd
  exact shp_gD g
theorem shp_wD (q : List (Nat × Nat) × Nat) : Shp 3 (wD q) := fun d hd => by
  have hd : d ∈ [tgD q.1, natD q.2] := hd
  simp only [List.mem_cons, List.not_mem_nil, or_false] at hd
  rcases hd with rfl | rfl
  · exact shp_tgD q.1
  · trivial
theorem eqv_nilL (ds : List D) : D.eqv (.lst ds) (.lst []) = ds.isEmpty := by cases ds <;> rfl
theorem flat_tgD (l : List (Nat × Nat)) : (tgD l).flat = true := flats_map _ flat_gD l
section
variable {P : Program} {w : World} {K : PySem.W.Frag} {mg : Str → Option Value} {base : Heap}
def F_way_from (ds : List D) (d : D) : Prop := ∃ (n : Nat) (kn : Nat → List (Nat × Nat)) (p goal barred : Nat), ds = [KD n kn, natD p, natD goal, natD barred] ∧ Kn n kn ∧ p < n ∧ n ≤ 7 ∧ d = tgD (wayFrom n kn p goal barred)
abbrev WSt := (List (List (Nat × Nat) × Nat) × List Nat) × Sl × Sl × Sl × Sl
abbrev VSt := (List (List (Nat × Nat) × Nat) × List Nat) × Sl × Sl
def vStep (barred : Nat) (row : List (Nat × Nat)) (here : Nat) (z : VSt) (q : Nat × Nat) : VSt := (wayPush barred row here z.1 q, .d (natD q.1), .d (natD q.2))
theorem vFold (barred : Nat) (row : List (Nat × Nat)) (here : Nat) : ∀ (ps : List (Nat × Nat)) (z : VSt), (ps.foldl (vStep barred row here) z).1 = ps.foldl (wayPush barred row here) z.1
  | [], z => rfl
  | q :: ps, z => by rw [List.foldl_cons, List.foldl_cons, vFold barred row here ps]; rfl
def wStep (kn : Nat → List (Nat × Nat)) (goal barred : Nat) (b : WSt) : Option (Sum WSt D) := match b.1.1 with
  | [] => none
  | (row, here) :: rest => if here = goal then some (.inr (tgD row)) else
    some (.inl (((kn here).foldl (vStep barred row here) ((rest, b.1.2), b.2.2.2.1, b.2.2.2.2)).1, .d (tgD row), .d (natD here), ((kn here).foldl (vStep barred row here) ((rest, b.1.2), b.2.2.2.1, b.2.2.2.2)).2))
theorem wRun (kn : Nat → List (Nat × Nat)) (goal barred : Nat) : ∀ (f : Nat) (stk : List (List (Nat × Nat) × Nat)) (seen : List Nat) (s : Sl × Sl × Sl × Sl), match runR (wStep kn goal barred) f ((stk, seen), s) with | .inl _ => wayGo kn goal barred f stk seen = [] | .inr d => d = tgD (wayGo kn goal barred f stk seen) := by
  intro f
  induction f with
  | zero =>
    intro stk seen s
    rfl
  | succ f ih =>
    intro stk seen s
    match stk with
    | [] => rfl
    | (row, here) :: rest =>
      by_cases hg : here = goal
      · have e1 : wStep kn goal barred (((row, here) :: rest, seen), s) = some (.inr (tgD row)) := by
          unfold wStep
          simp only [hg, if_true]
        have e2 : wayGo kn goal barred (f + 1) ((row, here) :: rest) seen = row := by
          rw [wayGo, if_pos hg]
        simp only [runR, e1]
        rw [e2]
      · have e1 : wStep kn goal barred (((row, here) :: rest, seen), s) = some (.inl (((kn here).foldl (vStep barred row here) ((rest, seen), s.2.2.1, s.2.2.2)).1, .d (tgD row), .d (natD here), ((kn here).foldl (vStep barred row here) ((rest, seen), s.2.2.1, s.2.2.2)).2)) := by
          unfold wStep
          simp only [hg, if_false]
        have e2 : wayGo kn goal barred (f + 1) ((row, here) :: rest) seen = wayGo kn goal barred f ((kn here).foldl (wayPush barred row here) (rest, seen)).1 ((kn here).foldl (wayPush barred row here) (rest, seen)).2 := by
          rw [wayGo, if_neg hg]
        simp only [runR, e1]
        rw [e2]
        have := ih ((kn here).foldl (wayPush barred row here) (rest, seen)).1 ((kn here).foldl (wayPush barred row here) (rest, seen)).2 (.d (tgD row), .d (natD here), ((kn here).foldl (vStep barred row here) ((rest, seen), s.2.2.1, s.2.2.2)).2)
        rw [vFold]
        exact this
theorem wp_len (barred : Nat) (row : List (Nat × Nat)) (here : Nat) : ∀ (ps : List (Nat × Nat)) (st : List (List (Nat × Nat) × Nat) × List Nat), (ps.foldl (wayPush barred row here) st).1.length + st.2.length = st.1.length + (ps.foldl (wayPush barred row here) st).2.length
  | [], st => rfl
  | q :: ps, st => by
    have := wp_len barred row here ps (wayPush barred row here st q)
    rw [List.foldl_cons]
    have h2 : (wayPush barred row here st q).1.length + st.2.length = st.1.length + (wayPush barred row here st q).2.length := by
      unfold wayPush
      split
      · simp only [List.length_cons, List.length_append, List.length_nil]
        omega
      · rfl
    omega
/-- what holds of the stack and the places seen -/
def Ws (n : Nat) (st : List (List (Nat × Nat) × Nat) × List Nat) : Prop := (∀ x ∈ st.1, x.1.length + 1 ≤ st.2.length ∧ x.2 < n) ∧ st.2.Nodup ∧ (∀ p ∈ st.2, p < n) ∧ st.1.length ≤ st.2.length
theorem ws_push {n barred : Nat} {row : List (Nat × Nat)} {here : Nat} {st : List (List (Nat × Nat) × Nat) × List Nat} {q : Nat × Nat} (h : Ws n st) (hr : row.length + 1 ≤ st.2.length) (hq : q.2 < n) : Ws n (wayPush barred row here st q) ∧ row.length + 1 ≤ (wayPush barred row here st q).2.length := by
  obtain ⟨h1, h2, h3, h4⟩ := h
  unfold wayPush
  split
  · rename_i c
    refine ⟨⟨fun x hx => ?_, ?_, fun p hp => ?_, ?_⟩, ?_⟩
    · rcases List.mem_cons.mp hx with rfl | hx
      · refine ⟨?_, hq⟩
        simp only [List.length_append, List.length_cons, List.length_nil]
        omega
      · have := h1 x hx
        simp only [List.length_append, List.length_cons, List.length_nil]
        exact ⟨by omega, this.2⟩
    · refine List.nodup_append.mpr ⟨h2, by simp, fun a ha b hb => ?_⟩
      rw [List.mem_singleton] at hb
      rintro rfl
      exact c.2 (hb ▸ ha)
    · rcases List.mem_append.mp hp with z | z
      · exact h3 p z
      · exact (List.mem_singleton.mp z) ▸ hq
    · simp only [List.length_append, List.length_cons, List.length_nil]
      omega
    · simp only [List.length_append, List.length_cons, List.length_nil]
      omega
  · exact ⟨⟨h1, h2, h3, h4⟩, hr⟩
theorem ws_fold {n barred : Nat} {row : List (Nat × Nat)} {here : Nat} : ∀ (ps : List (Nat × Nat)) {st : List (List (Nat × Nat) × Nat) × List Nat}, Ws n st → row.length + 1 ≤ st.2.length → (∀ q ∈ ps, q.2 < n) → Ws n (ps.foldl (wayPush barred row here) st)
  | [], st, h, _, _ => h
  | q :: ps, st, h, hr, hq => by
    obtain ⟨g1, g2⟩ := ws_push (barred := barred) (here := here) h hr (hq q (List.mem_cons_self ..))
    exact ws_fold ps g1 g2 fun r hr => hq r (List.mem_cons_of_mem _ hr)
theorem stk_top (x : List (Nat × Nat) × Nat) (rest : List (List (Nat × Nat) × Nat)) : (x :: rest).reverse.map wD = rest.reverse.map wD ++ [wD x] := by
  rw [List.reverse_cons, List.map_append]
  rfl
theorem ct_way_from (B : Bl mg) (d : Df K mg "way_from" s_way_from ["known", "place", "goal", "barred"]) : Ct P w K mg base 1 "way_from" ["known", "place", "goal", "barred"] F_way_from := by
  obtain ⟨f, fd, Fn, hb, hm⟩ := d.ex
  refine ct_any Fn sc_way_from hb hm (fun ds d h => ?_) (by decide) (fun cdv A outer s H E hr ds d h => ?_)
  · obtain ⟨n, kn, p, goal, barred, rfl, _⟩ := h
    rfl
  · obtain ⟨n, kn, p, goal, barred, rfl, hk, hp, hn, rfl⟩ := h
    have run := wRun kn goal barred (n + 1) [([], p)] [p] (.no, .no, .no, .no)
    have hst : Ws n ([([], p)], [p]) := ⟨by simp [hp], by simp, by simpa using hp, Nat.le_refl _⟩
    refine .inl ⟨flat_tgD _, false, xs_cons (x_par2 4 5 rfl sc_way_from.nd (ep_o (ex_lst (ea_cons (ex_tup (ea_cons (ex_tup ea_nil) (ea_cons (ex_var 1 rfl) ea_nil))) ea_nil)) (ep_o (ex_dict1 (ex_var 1 rfl) ex_bl) ep_nil)))
      (xs_wr (x_while (n := n + 1) (wl_ret (fun b : WSt => [.d (KD n kn), .d (natD p), .d (natD goal), .d (natD barred), .o (.lst (b.1.1.reverse.map wD)), .o (knD b.1.2), b.2.1, b.2.2.1, b.2.2.2.1, b.2.2.2.2]) (wStep kn goal barred)
        (fun b => Ws n b.1) (fun b => b.1.1.length + (n - b.1.2.length)) (fun b hp hs => ?g1) (fun b b' hp hs => ?g2) (fun b d hp hs => ?g3) _ ((([([], p)], [p]), .no, .no, .no, .no) : WSt) ?g4 ?g5))
      (fun b' hb' => xs_one (x_retD ?g6)) fun d hd => ?g7)⟩
    case g1 =>
      have hn : b.1.1 = [] := by
        unfold wStep at hs
        match hb : b.1.1 with
        | [] => rfl
        | (row, here) :: rest =>
          rw [hb] at hs
          simp only at hs
          split at hs <;> cases hs
      refine ET.to (et_neD (i := 4) (j := 1) (hu_of hr) (ex_own 4 rfl) (ex_lst ea_nil) ?_ ?_) ?_
      · intro d hd
        obtain ⟨q, _, rfl⟩ := List.mem_map.mp hd
        exact shp_wD q
      · intro d hd
        cases hd
      · show (!D.eqv (.lst (b.1.1.reverse.map wD)) (.lst [])) = false
        rw [eqv_nilL, hn]
        rfl
    case g2 =>
      obtain ⟨⟨stk, seen⟩, s6, s7, s8, s9⟩ := b
      match stk, hp, hs with
      | [], hp, hs => cases hs
      | (row, here) :: rest, hp, hs =>
        by_cases hg : here = goal
        · unfold wStep at hs
          simp only [hg, if_true] at hs
          cases hs
        · have e1 : wStep kn goal barred (((row, here) :: rest, seen), s6, s7, s8, s9) = some (.inl (((kn here).foldl (vStep barred row here) ((rest, seen), s8, s9)).1, .d (tgD row), .d (natD here), ((kn here).foldl (vStep barred row here) ((rest, seen), s8, s9)).2)) := by
            unfold wStep
            simp only [hg, if_false]
          rw [e1] at hs
          cases hs
          obtain ⟨w1, w2, w3, w4⟩ := hp
          have top := w1 (row, here) (List.mem_cons_self ..)
          have w0 : Ws n (rest, seen) := ⟨fun x hx => w1 x (List.mem_cons_of_mem _ hx), w2, w3, by
            have : rest.length + 1 ≤ seen.length := w4
            show rest.length ≤ seen.length
            omega⟩
          have wf := ws_fold (barred := barred) (here := here) (kn here) w0 top.1 (hk.ok here top.2)
          refine ⟨ET.to (et_neD (i := 4) (j := 1) (hu_of hr) (ex_own 4 rfl) (ex_lst ea_nil) ?_ ?_) ?_, xs_cons (x_pop 4 (congrArg (fun z => some (Sl.o (D.lst z))) (stk_top (row, here) rest)) (ag_tup rfl (ags_cons (ag_name 6 sc_way_from.nd) (ags_cons (ag_name 7 sc_way_from.nd) ags_nil))))
            (xs_cons (x_ifF (ET.to (et_eqN (ex_var 7 rfl) (ex_var 2 rfl)) (decide_eq_false hg)) xs_nil)
            (xs_one (x_for rfl (it_list (ex_known (hu_of hr) (ex_var 0 rfl) (ex_var 7 rfl) top.2) rfl) (lp_fold (b := ((rest, seen), s8, s9)) (xs := kn here) (enc := gD)
              (fun z : VSt => [.d (KD n kn), .d (natD p), .d (natD goal), .d (natD barred), .o (.lst (z.1.1.reverse.map wD)), .o (knD z.1.2), .d (tgD row), .d (natD here), z.2.1, z.2.2]) (vStep barred row here) (fun z rest => Ws n z.1 ∧ row.length + 1 ≤ z.1.2.length ∧ ∀ q ∈ rest, q.2 < n) (fun z q qs hz => ?_) ⟨w0, top.1, hk.ok here top.2⟩)))), ?_, ?_⟩
          · intro d hd
            obtain ⟨q, _, rfl⟩ := List.mem_map.mp hd
            exact shp_wD q
          · intro d hd
            cases hd
          · show (!D.eqv (.lst (((row, here) :: rest).reverse.map wD)) (.lst [])) = true
            rw [eqv_nilL, stk_top]
            simp
          · obtain ⟨z1, z2, z3⟩ := hz
            have qn := z3 q (List.mem_cons_self ..)
            obtain ⟨y1, y2, y3, y4⟩ := z1
            have few := nodup_le y2 y3
            obtain ⟨g1, g2⟩ := ws_push (barred := barred) (here := here) ⟨y1, y2, y3, y4⟩ z2 qn
            refine ⟨_, _, ag_tup rfl (ags_cons (ag_name 8 sc_way_from.nd) (ags_cons (ag_name 9 sc_way_from.nd) ags_nil)), ?_, g1, g2, fun r hr => z3 r (List.mem_cons_of_mem _ hr)⟩
            by_cases c1 : q.1 = barred
            · refine XS.to (xs_one (x_ifF (ET.to (et_w (ew_and (y := true) (et_neN (ex_var 8 rfl) (ex_var 3 rfl)) fun z => ?_)) ?_) xs_nil)) ?_
              · rw [decide_eq_true c1] at z
                cases z
              · rw [decide_eq_true c1]
                rfl
              · unfold vStep wayPush
                rw [if_neg (fun h => h.1 c1)]
                rfl
            · by_cases c2 : q.2 ∈ z.1.2
              · refine XS.to (xs_one (x_ifF (ET.to (et_w (ew_and (et_neN (ex_var 8 rfl) (ex_var 3 rfl)) fun _ => ew_and1 (et_dNotIn (hu_of hr) (ex_var 9 rfl) (ex_own 5 rfl) rfl))) ?_) xs_nil)) ?_
                · rw [decide_eq_false c1, has_nat, decide_eq_true c2]
                  rfl
                · unfold vStep wayPush
                  rw [if_neg (fun h => h.2 c2)]
                  rfl
              · refine XS.to (xs_one (x_ifT (ET.to (et_w (ew_and (et_neN (ex_var 8 rfl) (ex_var 3 rfl)) fun _ => ew_and1 (et_dNotIn (hu_of hr) (ex_var 9 rfl) (ex_own 5 rfl) rfl))) ?_)
                  (xs_cons (x_dput 5 (hu_of hr) rfl ex_bl (ex_var 9 rfl) (nodup_int y2) ?_) (xs_one (x_append 4 rfl (ex_tup (ea_cons (ex_catT (es' := [.tup [natD q.1, natD here]]) (ex_var 6 rfl) (ex_tup (ea_cons (ex_tup (ea_cons (ex_var 8 rfl) (ea_cons (ex_var 7 rfl) ea_nil))) ea_nil)) rfl rfl ?_) (ea_cons (ex_var 9 rfl) ea_nil))) ?_))))) ?_
                · rw [decide_eq_false c1, has_nat, decide_eq_false c2]
                  rfl
                · rw [List.length_map]
                  omega
                · rw [List.length_map]
                  show _ + 1 ≤ _
                  omega
                · rw [List.length_map, List.length_reverse]
                  omega
                · have e2 : wayPush barred row here z.1 q = ((row ++ [(q.1, here)], q.2) :: z.1.1, z.1.2 ++ [q.2]) := by
                    unfold wayPush
                    rw [if_pos ⟨c1, c2⟩]
                  have e3 : addOne z.1.2 q.2 = z.1.2 ++ [q.2] := by
                    unfold addOne
                    rw [if_neg c2]
                  unfold vStep
                  rw [e2]
                  show Out.nx [_, _, _, _, Sl.o (.lst (z.1.1.reverse.map wD ++ [.tup [.tup (row.map gD ++ [.tup [natD q.1, natD here]]), natD q.2]])), Sl.o (.dic (putD (q.2 : Int) (.bl true) (z.1.2.map fun n : Nat => (n : Int)) (z.1.2.map fun _ => .bl true)).1 (putD (q.2 : Int) (.bl true) (z.1.2.map fun n : Nat => (n : Int)) (z.1.2.map fun _ => .bl true)).2), _, _, _, _] = _
                  rw [put_kn, e3]
                  show _ = Out.nx [_, _, _, _, Sl.o (.lst (((row ++ [(q.1, here)], q.2) :: z.1.1).reverse.map wD)), _, _, _, _, _]
                  have e4 : wD (row ++ [(q.1, here)], q.2) = .tup [.tup (row.map gD ++ [.tup [natD q.1, natD here]]), natD q.2] := by
                    unfold wD tgD
                    rw [List.map_append]
                    rfl
                  rw [stk_top, e4]
                  rfl
          · rw [vFold]
            exact wf
          · rw [vFold]
            have l1 := wp_len barred row here (kn here) (rest, seen)
            have l2 : ((kn here).foldl (wayPush barred row here) (rest, seen)).2.length ≤ n := nodup_le wf.2.1 wf.2.2.1
            have l3 := nodup_le w2 w3
            show ((kn here).foldl (wayPush barred row here) (rest, seen)).1.length + (n - ((kn here).foldl (wayPush barred row here) (rest, seen)).2.length) < (rest.length + 1) + (n - seen.length)
            have l1 : ((kn here).foldl (wayPush barred row here) (rest, seen)).1.length + seen.length = rest.length + ((kn here).foldl (wayPush barred row here) (rest, seen)).2.length := l1
            have l3 : seen.length ≤ n := l3
            omega
    case g3 =>
      obtain ⟨⟨stk, seen⟩, s6, s7, s8, s9⟩ := b
      match stk, hp, hs with
      | [], hp, hs => cases hs
      | (row, here) :: rest, hp, hs =>
        by_cases hg : here = goal
        · have e1 : wStep kn goal barred (((row, here) :: rest, seen), s6, s7, s8, s9) = some (.inr (tgD row)) := by
            unfold wStep
            simp only [hg, if_true]
          rw [e1] at hs
          cases hs
          refine ⟨ET.to (et_neD (i := 4) (j := 1) (hu_of hr) (ex_own 4 rfl) (ex_lst ea_nil) ?_ ?_) ?_, xs_cons (x_pop 4 (congrArg (fun z => some (Sl.o (D.lst z))) (stk_top (row, here) rest)) (ag_tup rfl (ags_cons (ag_name 6 sc_way_from.nd) (ags_cons (ag_name 7 sc_way_from.nd) ags_nil))))
            (xs_stop (x_ifT (ET.to (et_eqN (ex_var 7 rfl) (ex_var 2 rfl)) (decide_eq_true hg)) (xs_one (x_retD (ex_var 6 rfl))))), ?_⟩
          · intro d hd
            obtain ⟨q, _, rfl⟩ := List.mem_map.mp hd
            exact shp_wD q
          · intro d hd
            cases hd
          · show (!D.eqv (.lst (((row, here) :: rest).reverse.map wD)) (.lst [])) = true
            rw [eqv_nilL, stk_top]
            simp
          · show 0 < (rest.length + 1) + (n - seen.length)
            omega
        · unfold wStep at hs
          simp only [hg, if_false] at hs
          cases hs
    case g4 => exact hst
    case g5 =>
      show 1 + (n - 1) ≤ n + 1
      omega
    case g6 =>
      rw [hb'] at run
      have run : wayGo kn goal barred (n + 1) [([], p)] [p] = [] := run
      unfold wayFrom
      rw [run]
      exact ex_tup ea_nil
    case g7 =>
      rw [hd] at run
      exact run
end
end Zf
/-! Defs, 13: rounds. -/
namespace Zf
open PySem PySem.Spec PyProof.Rows L2 Zb Zt Gr
theorem push_len {barred : Nat} {row : List (Nat × Nat)} {here m : Nat} (hr : row.length ≤ m) : ∀ (ps : List (Nat × Nat)) (st : List (List (Nat × Nat) × Nat) × List Nat), (∀ x ∈ st.1, x.1.length ≤ m + 1) → ∀ x ∈ (ps.foldl (wayPush barred row here) st).1, x.1.length ≤ m + 1
  | [], st, h => h
  | q :: ps, st, h => push_len hr ps _ fun x hx => by
    unfold wayPush at hx
    split at hx
    · rcases List.mem_cons.mp hx with rfl | hx
      · simp only [List.length_append, List.length_cons, List.length_nil]
        omega
      · exact h x hx
    · exact h x hx
theorem wayGo_len (kn : Nat → List (Nat × Nat)) (goal barred : Nat) : ∀ (f : Nat) (stk : List (List (Nat × Nat) × Nat)) (seen : List Nat) (m : Nat), (∀ x ∈ stk, x.1.length ≤ m) → (wayGo kn goal barred f stk seen).length ≤ m + f
  | 0, stk, seen, m, _ => Nat.zero_le _
  | f + 1, [], seen, m, _ => Nat.zero_le _
  | f + 1, (row, here) :: rest, seen, m, h => by
    have hr := h (row, here) (List.mem_cons_self ..)
    rw [wayGo]
    split
    · exact Nat.le_trans hr (Nat.le_add_right _ _)
    · refine Nat.le_trans (wayGo_len kn goal barred f _ _ (m + 1) (push_len hr _ _ fun x hx => Nat.le_succ_of_le (h x (List.mem_cons_of_mem _ hx)))) ?_
      omega
theorem wayFrom_len (n : Nat) (kn : Nat → List (Nat × Nat)) (p goal barred : Nat) : (wayFrom n kn p goal barred).length ≤ n + 1 := by
  have := wayGo_len kn goal barred (n + 1) [([], p)] [p] 0 (by simp)
  rw [Nat.zero_add] at this
  exact this
theorem guestsIn_lot {gs : G} {lot part : List Nat} (h : Lot gs lot) : Lot gs (guestsIn gs lot part) where
  asc := h.asc.filter _
  ok := fun k hk => h.ok k (List.mem_filter.mp hk).1
theorem lot_take {gs : G} {lot : List Nat} (h : Lot gs lot) (i : Nat) : Lot gs (lot.take i) where
  asc := h.asc.take
  ok := fun k hk => h.ok k (List.mem_of_mem_take hk)
theorem zip_nat (l : List Nat) : ((l.map natD).zipIdx.map fun z => D.tup [natD z.2, z.1]) = l.zipIdx.map fun z => D.tup [natD z.2, natD z.1] := by
  refine List.ext_getElem? fun i => ?_
  rw [List.getElem?_map, List.getElem?_map, List.getElem?_zipIdx, List.getElem?_zipIdx, List.getElem?_map]
  cases l[i]? <;> rfl
def rdD : Option (List (Nat × Nat)) → D
  | none => .non
  | some w => tgD w
section
variable {X : Cx} {H0 : Hp} {M : Addr → Prop} {env : Ev} {tg iter : Expr}
theorem IT.to {ds ds' : List D} (h : IT X H0 M tg iter env ds) (q : ds = ds') : IT X H0 M tg iter env ds' := q ▸ h
end
section
variable {P : Program} {w : World} {K : PySem.W.Frag} {mg : Str → Option Value} {base : Heap}
def F_round_of (ds : List D) (d : D) : Prop := ∃ (n : Nat) (gs : G) (lot part : List Nat), ds = [webD n gs, tD lot, tD part] ∧ Web n gs ∧ Lot gs lot ∧ d = rdD (roundOf n gs lot part)
abbrev RSt := List Nat × Sl × Sl × Sl × Sl × Sl × Sl
def rStep (n : Nat) (gs : G) (b : RSt) (z : Nat × Nat) : Sum RSt D := match roundAt n gs b.1 z.1 with
  | some w => .inr (tgD w)
  | none => .inl (b.1 ++ [z.1], .d (natD z.2), .d (natD z.1), .d (tD b.1), .d (natD (gAt gs z.1).1), .d (natD (gAt gs z.1).2), .d (KD n (bes gs b.1)))
theorem rRun (n : Nat) (gs : G) : ∀ (zs : List (Nat × Nat)) (b : RSt), match foldR (rStep n gs) b zs with | .inl _ => roundGo n gs b.1 (zs.map (·.1)) = none | .inr d => d = rdD (roundGo n gs b.1 (zs.map (·.1)))
  | [], b => rfl
  | z :: zs, b => by
    cases hr : roundAt n gs b.1 z.1 with
    | some w =>
      have e1 : rStep n gs b z = .inr (tgD w) := by
        unfold rStep
        simp only [hr]
      simp only [foldR, e1, List.map_cons, roundGo, hr]
      rfl
    | none =>
      have e1 : rStep n gs b z = .inl (b.1 ++ [z.1], .d (natD z.2), .d (natD z.1), .d (tD b.1), .d (natD (gAt gs z.1).1), .d (natD (gAt gs z.1).2), .d (KD n (bes gs b.1))) := by
        unfold rStep
        simp only [hr]
      simp only [foldR, e1, List.map_cons, roundGo, hr]
      exact rRun n gs zs _
theorem ct_round_of (B : Bl mg) (d : Df K mg "round_of" s_round_of ["web", "lot", "part"]) (c0 : Ct P w K mg base 1 "guests_in" ["web", "lot", "part"] F_guests_in) (c1 : Ct P w K mg base 1 "beside_by" ["web", "lot"] F_beside_by) (c2 : Ct P w K mg base 1 "part_from" ["known", "place"] F_part_from) (c3 : Ct P w K mg base 1 "way_from" ["known", "place", "goal", "barred"] F_way_from) :
    Ct P w K mg base 2 "round_of" ["web", "lot", "part"] F_round_of := by
  obtain ⟨f, fd, Fn, hb, hm⟩ := d.ex
  refine ct_any Fn sc_round_of hb hm (fun ds d h => ?_) (by decide) (fun cdv A outer s H E hr ds d h => ?_)
  · obtain ⟨n, gs, lot, part, rfl, _⟩ := h
    rfl
  · obtain ⟨n, gs, lot, part, rfl, hw, hl, rfl⟩ := h
    have few := hw.few
    have fewG := hw.fewG
    have ho : Lot gs (guestsIn gs lot part) := guestsIn_lot hl
    have lo := lot_len ho
    have run := rRun n gs (guestsIn gs lot part).zipIdx (([], .no, .no, .no, .no, .no, .no) : RSt)
    have e1 : (guestsIn gs lot part).zipIdx.map (·.1) = guestsIn gs lot part := by
      refine List.ext_getElem? fun i => ?_
      rw [List.getElem?_map, List.getElem?_zipIdx]
      cases (guestsIn gs lot part)[i]? <;> rfl
    rw [e1] at run
    have flat : (rdD (roundOf n gs lot part)).flat = true := by
      cases roundOf n gs lot part with
      | none => rfl
      | some w => exact flat_tgD w
    refine .inl ⟨flat, false, xs_cons (x_set 3 sc_round_of.nd (ex_call c0 hr (ea_cons (ex_var 0 rfl) (ea_cons (ex_var 1 rfl) (ea_cons (ex_var 2 rfl) ea_nil))) ⟨n, gs, lot, part, rfl, hw, hl, rfl⟩))
      (xs_wr (x_for rfl (IT.to (it_enumT B.enumerate (ex_var 3 rfl) rfl) (zip_nat _)) (lp_ret (b := (([], .no, .no, .no, .no, .no, .no) : RSt)) (xs := (guestsIn gs lot part).zipIdx) (enc := fun z => .tup [natD z.2, natD z.1])
        (fun b : RSt => [.d (webD n gs), .d (tD lot), .d (tD part), .d (tD (guestsIn gs lot part)), b.2.1, b.2.2.1, b.2.2.2.1, b.2.2.2.2.1, b.2.2.2.2.2.1, b.2.2.2.2.2.2]) (rStep n gs)
        (fun b rest => rest = ((guestsIn gs lot part).drop b.1.length).zipIdx b.1.length ∧ b.1 = (guestsIn gs lot part).take b.1.length) (fun b z rest hp => ?g1) ?g2))
      (fun b' hb' => xs_one (x_retD ?g3)) fun d hd => ?g4)⟩
    case g1 =>
      obtain ⟨p1, p2⟩ := hp
      have lt : b.1.length < (guestsIn gs lot part).length := by
        have := congrArg List.length p1
        rw [List.length_cons, List.length_zipIdx, List.length_drop] at this
        omega
      rw [drop_cons lt, List.zipIdx_cons] at p1
      obtain ⟨p3, p4⟩ := List.cons.inj p1
      have z1 : z.1 = (guestsIn gs lot part)[b.1.length] := congrArg Prod.fst p3
      have z2 : z.2 = b.1.length := congrArg Prod.snd p3
      have hk : z.1 < gs.length := ho.ok _ (by rw [z1]; exact List.getElem_mem _)
      have gk := gAt_ok hw hk
      have la : Lot gs b.1 := by
        rw [p2]
        exact lot_take ho _
      have kb := kn_bes hw la
      have call2 := fun (X : Cx) (H0 : Hp) => (⟨n, bes gs b.1, (gAt gs z.1).1, rfl, kb, gk.1, few, rfl⟩ : F_part_from [KD n (bes gs b.1), natD (gAt gs z.1).1] (tD (partFrom n (bes gs b.1) (gAt gs z.1).1)))
      refine ⟨_, _, ag_tup rfl (ags_cons (ag_name 4 sc_round_of.nd) (ags_cons (ag_name 5 sc_round_of.nd) ags_nil)), fun b' hb' => ⟨?_, ?_⟩, fun d hd => ?_⟩
      · have hn : roundAt n gs b.1 z.1 = none := by
          unfold rStep at hb'
          cases hr : roundAt n gs b.1 z.1 with
          | none => rfl
          | some w => rw [hr] at hb'; cases hb'
        have out : (gAt gs z.1).2 ∉ partFrom n (bes gs b.1) (gAt gs z.1).1 := fun h => by
          unfold roundAt at hn
          rw [if_pos h] at hn
          cases hn
        unfold rStep at hb'
        rw [hn] at hb'
        cases hb'
        refine xs_cons (x_set 6 sc_round_of.nd (EX.to (r' := .d (tD b.1)) (ex_takeT (n := z.2) (ex_var 3 rfl) (ex_var 4 rfl) rfl ?_) ?_)) (xs_cons (x_asg (ex_gst (ex_var 0 rfl) (ex_var 5 rfl) hk) (ag_tup rfl (ags_cons (ag_name 7 sc_round_of.nd) (ags_cons (ag_name 8 sc_round_of.nd) ags_nil))))
          (xs_cons (x_set 9 sc_round_of.nd (ex_call c1 hr (ea_cons (ex_var 0 rfl) (ea_cons (ex_var 6 rfl) ea_nil)) ⟨n, gs, b.1, rfl, hw, la, rfl⟩))
          (xs_one (x_ifF (ET.to (et_inN (ex_var 8 rfl) (ex_call c2 hr (ea_cons (ex_var 9 rfl) (ea_cons (ex_var 7 rfl) ea_nil)) ⟨n, bes gs b.1, (gAt gs z.1).1, rfl, kb, gk.1, few, rfl⟩) (.inl rfl)) (decide_eq_false out)) xs_nil))))
        · rw [List.length_map]
          omega
        · unfold tD
          rw [← List.map_take, z2]
          exact congrArg (fun l => Res.d (D.tup (List.map natD l))) p2.symm
      · have hn : roundAt n gs b.1 z.1 = none := by
          unfold rStep at hb'
          cases hr : roundAt n gs b.1 z.1 with
          | none => rfl
          | some w => rw [hr] at hb'; cases hb'
        unfold rStep at hb'
        rw [hn] at hb'
        cases hb'
        have e2 : (b.1 ++ [z.1]).length = b.1.length + 1 := by rw [List.length_append]; rfl
        refine ⟨?_, ?_⟩
        · show rest = ((guestsIn gs lot part).drop (b.1 ++ [z.1]).length).zipIdx (b.1 ++ [z.1]).length
          rw [e2]
          exact p4
        · show b.1 ++ [z.1] = (guestsIn gs lot part).take (b.1 ++ [z.1]).length
          rw [e2, List.take_add_one, List.getElem?_eq_getElem lt, ← p2, z1]
          rfl
      · have hin : (gAt gs z.1).2 ∈ partFrom n (bes gs b.1) (gAt gs z.1).1 ∧ d = tgD (wayFrom n (bes gs b.1) (gAt gs z.1).1 (gAt gs z.1).2 z.1 ++ [(z.1, (gAt gs z.1).2)]) := by
          unfold rStep roundAt at hd
          by_cases h : (gAt gs z.1).2 ∈ partFrom n (bes gs b.1) (gAt gs z.1).1
          · rw [if_pos h] at hd
            cases hd
            exact ⟨h, rfl⟩
          · rw [if_neg h] at hd
            cases hd
        obtain ⟨hin, rfl⟩ := hin
        refine xs_cons (x_set 6 sc_round_of.nd (EX.to (r' := .d (tD b.1)) (ex_takeT (n := z.2) (ex_var 3 rfl) (ex_var 4 rfl) rfl ?_) ?_)) (xs_cons (x_asg (ex_gst (ex_var 0 rfl) (ex_var 5 rfl) hk) (ag_tup rfl (ags_cons (ag_name 7 sc_round_of.nd) (ags_cons (ag_name 8 sc_round_of.nd) ags_nil))))
          (xs_cons (x_set 9 sc_round_of.nd (ex_call c1 hr (ea_cons (ex_var 0 rfl) (ea_cons (ex_var 6 rfl) ea_nil)) ⟨n, gs, b.1, rfl, hw, la, rfl⟩))
          (xs_one (x_ifT (ET.to (et_inN (ex_var 8 rfl) (ex_call c2 hr (ea_cons (ex_var 9 rfl) (ea_cons (ex_var 7 rfl) ea_nil)) ⟨n, bes gs b.1, (gAt gs z.1).1, rfl, kb, gk.1, few, rfl⟩) (.inl rfl)) (decide_eq_true hin))
            (xs_one (x_retD (EX.to (ex_catT (es' := [gD (z.1, (gAt gs z.1).2)]) (ex_call c3 hr (ea_cons (ex_var 9 rfl) (ea_cons (ex_var 7 rfl) (ea_cons (ex_var 8 rfl) (ea_cons (ex_var 5 rfl) ea_nil)))) ⟨n, bes gs b.1, (gAt gs z.1).1, (gAt gs z.1).2, z.1, rfl, kb, gk.1, few, rfl⟩) (ex_tup (ea_cons (ex_tup (ea_cons (ex_var 5 rfl) (ea_cons (ex_var 8 rfl) ea_nil))) ea_nil)) rfl rfl ?_) ?_)))))))
        · rw [List.length_map]
          omega
        · unfold tD
          rw [← List.map_take, z2]
          exact congrArg (fun l => Res.d (D.tup (List.map natD l))) p2.symm
        · have := wayFrom_len n (bes gs b.1) (gAt gs z.1).1 (gAt gs z.1).2 z.1
          rw [List.length_map]
          show _ + 1 ≤ _
          omega
        · unfold tgD
          rw [List.map_append]
          rfl
    case g2 => exact ⟨rfl, rfl⟩
    case g3 =>
      rw [hb'] at run
      have run : roundOf n gs lot part = none := run
      rw [run]
      exact ex_non
    case g4 =>
      rw [hd] at run
      exact run
end
end Zf
/-! Defs, 14: who is kept, orders. -/
namespace Zf
open PySem PySem.Spec PyProof.Rows L2 Zb Zt Gr
theorem push_mem {S : List Nat} {barred : Nat} {row : List (Nat × Nat)} {here : Nat} (hr : ∀ q ∈ row, q.1 ∈ S) : ∀ (ps : List (Nat × Nat)) (st : List (List (Nat × Nat) × Nat) × List Nat), (∀ q ∈ ps, q.1 ∈ S) → (∀ x ∈ st.1, ∀ q ∈ x.1, q.1 ∈ S) → ∀ x ∈ (ps.foldl (wayPush barred row here) st).1, ∀ q ∈ x.1, q.1 ∈ S
  | [], st, _, h => h
  | r :: ps, st, g, h => push_mem hr ps _ (fun q hq => g q (List.mem_cons_of_mem _ hq)) fun x hx => by
    unfold wayPush at hx
    split at hx
    · rcases List.mem_cons.mp hx with rfl | hx
      · intro q hq
        rcases List.mem_append.mp hq with z | z
        · exact hr q z
        · rw [List.mem_singleton.mp z]
          exact g r (List.mem_cons_self ..)
      · exact h x hx
    · exact h x hx
theorem wayGo_mem {S : List Nat} {kn : Nat → List (Nat × Nat)} (hk : ∀ p, ∀ q ∈ kn p, q.1 ∈ S) (goal barred : Nat) : ∀ (f : Nat) (stk : List (List (Nat × Nat) × Nat)) (seen : List Nat), (∀ x ∈ stk, ∀ q ∈ x.1, q.1 ∈ S) → ∀ q ∈ wayGo kn goal barred f stk seen, q.1 ∈ S
  | 0, stk, seen, _ => fun q hq => by cases hq
  | f + 1, [], seen, _ => fun q hq => by cases hq
  | f + 1, (row, here) :: rest, seen, h => by
    have hr := h (row, here) (List.mem_cons_self ..)
    rw [wayGo]
    split
    · exact hr
    · exact wayGo_mem hk goal barred f _ _ (push_mem hr _ _ (hk here) fun x hx => h x (List.mem_cons_of_mem _ hx))
theorem roundGo_ok {n : Nat} {gs : G} : ∀ (rest done : List Nat) (w : List (Nat × Nat)), roundGo n gs done rest = some w → w ≠ [] ∧ (∀ q ∈ w, q.1 ∈ done ++ rest) ∧ w.length ≤ n + 2
  | [], done, w, h => by cases h
  | g :: rest, done, w, h => by
    rw [roundGo] at h
    cases hr : roundAt n gs done g with
    | some v =>
      rw [hr] at h
      cases h
      unfold roundAt at hr
      split at hr
      · cases hr
        refine ⟨by simp, fun q hq => ?_, ?_⟩
        · rcases List.mem_append.mp hq with z | z
          · have := wayGo_mem (S := done) (kn := bes gs done) (fun p q hq => (mem_bes hq).1) (gAt gs g).2 g (n + 1) [([], (gAt gs g).1)] [(gAt gs g).1] (by simp) q z
            exact List.mem_append_left _ this
          · rw [List.mem_singleton.mp z]
            exact List.mem_append_right _ (List.mem_cons_self ..)
        · have := wayFrom_len n (bes gs done) (gAt gs g).1 (gAt gs g).2 g
          rw [List.length_append, List.length_singleton]
          omega
      · cases hr
    | none =>
      rw [hr] at h
      have := roundGo_ok rest (done ++ [g]) w h
      rw [List.append_assoc] at this
      exact this
theorem round_ok {n : Nat} {gs : G} {lot part : List Nat} {w : List (Nat × Nat)} (hl : Lot gs lot) (h : roundOf n gs lot part = some w) : w ≠ [] ∧ (∀ q ∈ w, q.1 ∈ guestsIn gs lot part) ∧ (∀ q ∈ w, q.1 < gs.length) ∧ w.length ≤ n + 2 := by
  obtain ⟨h1, h2, h3⟩ := roundGo_ok _ _ _ h
  rw [List.nil_append] at h2
  exact ⟨h1, h2, fun q hq => (guestsIn_lot hl).ok _ (h2 q hq), h3⟩
theorem grownGo_len (gs : G) : ∀ (f : Nat) (kn le : List Nat), (grownGo gs f kn le).length ≤ f
  | 0, _, _ => Nat.le_refl _
  | f + 1, kn, le => by
    rw [grownGo]
    cases nextTo gs le kn with
    | nil => exact Nat.zero_le _
    | cons g rest => exact Nat.succ_le_succ (grownGo_len gs f _ _)
theorem seatedRound_len (gs : G) (w : List (Nat × Nat)) : (seatedRound gs w).length = w.length := by
  match w with
  | [] => rfl
  | (f, p) :: t =>
    rw [sr_cons]
    split <;> simp
/-- parts that are no trees have rounds -/
def HasRd (n : Nat) (gs : G) (oth part : List Nat) : Prop := isTree gs oth part = false → ∃ w, roundOf n gs oth part = some w
theorem keptIn_len {n : Nat} {gs : G} {oth part frees : List Nat} (hw : Web n gs) (hl : Lot gs oth) : (keptIn n gs oth part frees).length ≤ 200 := by
  have l1 := lot_len (guestsIn_lot (part := part) hl)
  have l2 := hw.fewG
  have l3 := hw.few
  unfold keptIn
  split
  · have := grownGo_len gs ((guestsIn gs oth part).length + 1) ((part.filter fun p => decide (p ∈ frees)).foldl addOne []) (guestsIn gs oth part)
    unfold grown
    omega
  · show (seatedRound gs ((roundOf n gs oth part).getD []) ++ grown gs _ _).length ≤ 200
    rw [List.length_append, seatedRound_len]
    have h1 : ((roundOf n gs oth part).getD []).length ≤ n + 2 := by
      cases hr : roundOf n gs oth part with
      | none => exact Nat.zero_le _
      | some w => exact (round_ok hl hr).2.2.2
    have h2 := grownGo_len gs (((guestsIn gs oth part).filter fun k => !decide (k ∈ seatedRound gs ((roundOf n gs oth part).getD []))).length + 1) ((((roundOf n gs oth part).getD []).map (·.2)).foldl addOne []) ((guestsIn gs oth part).filter fun k => !decide (k ∈ seatedRound gs ((roundOf n gs oth part).getD [])))
    have h3 := List.length_filter_le (fun k => !decide (k ∈ seatedRound gs ((roundOf n gs oth part).getD []))) (guestsIn gs oth part)
    unfold grown
    omega
theorem parts_len (n : Nat) (gs : G) (lot : List Nat) : (parts n gs lot).length ≤ n := by
  have : ∀ (ps : List Nat) (st : List Nat × List (List Nat)), (ps.foldl (partsStep n (bes gs lot)) st).2.length ≤ st.2.length + ps.length := by
    intro ps
    induction ps with
    | nil => intro st; exact Nat.le_refl _
    | cons p ps ih =>
      intro st
      rw [List.foldl_cons, List.length_cons]
      have := ih (partsStep n (bes gs lot) st p)
      have h2 : (partsStep n (bes gs lot) st p).2.length ≤ st.2.length + 1 := by
        unfold partsStep
        split
        · exact Nat.le_succ _
        · rw [List.length_append]; exact Nat.le_refl _
      omega
  have := this (List.range n) ([], [])
  rw [List.length_range] at this
  show (parts n gs lot).length ≤ n
  have h0 : (([] : List Nat), ([] : List (List Nat))).2.length = 0 := rfl
  rw [h0, Nat.zero_add] at this
  exact this
theorem parts_sub {n : Nat} {gs : G} {lot : List Nat} : ∀ part ∈ parts n gs lot, part.length ≤ n ∧ ∀ p ∈ part, p < n := by
  have : ∀ (ps : List Nat) (st : List Nat × List (List Nat)), (∀ part ∈ st.2, part.length ≤ n ∧ ∀ p ∈ part, p < n) → ∀ part ∈ (ps.foldl (partsStep n (bes gs lot)) st).2, part.length ≤ n ∧ ∀ p ∈ part, p < n := by
    intro ps
    induction ps with
    | nil => intro st h; exact h
    | cons p ps ih =>
      intro st h
      rw [List.foldl_cons]
      refine ih _ fun part hp => ?_
      unfold partsStep at hp
      split at hp
      · exact h part hp
      · rcases List.mem_append.mp hp with z | z
        · exact h part z
        · rw [List.mem_singleton.mp z]
          exact ⟨partFrom_len _ _ _, fun q hq => partFrom_sub hq⟩
  exact this _ _ (by simp)
section
variable {P : Program} {w : World} {K : PySem.W.Frag} {mg : Str → Option Value} {base : Heap}
def F_kept_in (ds : List D) (d : D) : Prop := ∃ (n : Nat) (gs : G) (oth part frees : List Nat), ds = [webD n gs, tD oth, tD part, lD frees] ∧ Web n gs ∧ Lot gs oth ∧ part.length ≤ n ∧ HasRd n gs oth part ∧ d = lD (keptIn n gs oth part frees)
theorem ct_kept_in (B : Bl mg) (d : Df K mg "kept_in" s_kept_in ["web", "others", "part", "frees"]) (c0 : Ct P w K mg base 1 "guests_in" ["web", "lot", "part"] F_guests_in) (c1 : Ct P w K mg base 2 "is_tree_in" ["web", "others", "part"] F_is_tree_in) (c2 : Ct P w K mg base 2 "grown_from" ["web", "guests", "first"] F_grown_from)
    (c3 : Ct P w K mg base 2 "round_of" ["web", "lot", "part"] F_round_of) (c4 : Ct P w K mg base 1 "seated_round" ["web", "way"] F_seated_round) : Ct P w K mg base 3 "kept_in" ["web", "others", "part", "frees"] F_kept_in := by
  obtain ⟨f, fd, Fn, hb, hm⟩ := d.ex
  refine ct_any Fn sc_kept_in hb hm (fun ds d h => ?_) (by decide) (fun cdv A outer s H E hr ds d h => ?_)
  · obtain ⟨n, gs, oth, part, frees, rfl, _⟩ := h
    rfl
  · obtain ⟨n, gs, oth, part, frees, rfl, hw, hl, hpl, hrd, rfl⟩ := h
    have few := hw.few
    have fewG := hw.fewG
    have hg : Lot gs (guestsIn gs oth part) := guestsIn_lot hl
    have lg := lot_len hg
    have h1 : Room 1 _ := hr.mono (by decide)
    refine .inr (.inl ⟨⟨_, rfl, flats_map _ flat_nat _⟩, xs_cons (x_set 4 sc_kept_in.nd (ex_call c0 h1 (ea_cons (ex_var 0 rfl) (ea_cons (ex_var 1 rfl) (ea_cons (ex_var 2 rfl) ea_nil))) ⟨n, gs, oth, part, rfl, hw, hl, rfl⟩)) ?_⟩)
    cases ht : isTree gs oth part with
    | true =>
      have e : keptIn n gs oth part frees = grown gs (guestsIn gs oth part) (part.filter fun p => decide (p ∈ frees)) := by
        unfold keptIn
        rw [if_pos ht]
      rw [e]
      have lf := List.length_filter_le (fun p => decide (p ∈ frees)) part
      exact xs_stop (x_ifT (ET.to (et_val (ex_call c1 hr (ea_cons (ex_var 0 rfl) (ea_cons (ex_var 1 rfl) (ea_cons (ex_var 2 rfl) ea_nil))) ⟨n, gs, oth, part, rfl, hw, hl, rfl⟩)) ht) (xs_one (x_retW (ex_callN c2 hr (ea_cons (ex_var 0 rfl) (ea_cons (ex_var 4 rfl) (ea_cons (ex_lcF natD (fun p => decide (p ∈ frees)) 8 rfl sc_kept_in.nd (it_tup (ex_var 2 rfl) rfl) (by omega) (fun p _ _ _ _ _ _ => et_inN (ex_var 8 rfl) (ex_var 3 rfl) (.inr rfl)) (fun p _ _ _ _ _ _ _ => ex_var 8 rfl)) ea_nil)))
        ⟨n, gs, guestsIn gs oth part, part.filter fun p => decide (p ∈ frees), rfl, hg.ok, by omega, by omega, rfl⟩ (flats_map _ flat_nat _)))))
    | false =>
      obtain ⟨w', hw'⟩ := hrd ht
      obtain ⟨r1, r2, r3, r4⟩ := round_ok hl hw'
      have e : keptIn n gs oth part frees = seatedRound gs w' ++ grown gs ((guestsIn gs oth part).filter fun k => !decide (k ∈ seatedRound gs w')) (w'.map (·.2)) := by
        unfold keptIn
        rw [if_neg (by rw [ht]; exact Bool.false_ne_true), hw']
        rfl
      have lf := List.length_filter_le (fun k => !decide (k ∈ seatedRound gs w')) (guestsIn gs oth part)
      have ls := seatedRound_len gs w'
      rw [e]
      refine xs_cons (x_ifF (ET.to (et_val (ex_call c1 hr (ea_cons (ex_var 0 rfl) (ea_cons (ex_var 1 rfl) (ea_cons (ex_var 2 rfl) ea_nil))) ⟨n, gs, oth, part, rfl, hw, hl, rfl⟩)) ht) xs_nil)
        (xs_cons (x_set 5 sc_kept_in.nd (EX.to (r' := .d (tgD w')) (ex_call c3 hr (ea_cons (ex_var 0 rfl) (ea_cons (ex_var 1 rfl) (ea_cons (ex_var 2 rfl) ea_nil))) ⟨n, gs, oth, part, rfl, hw, hl, rfl⟩) (by rw [hw']; rfl)))
        (xs_cons (x_set 6 sc_kept_in.nd (ex_call c4 h1 (ea_cons (ex_var 0 rfl) (ea_cons (ex_var 5 rfl) ea_nil)) ⟨n, gs, w', rfl, r1, r3, by omega, rfl⟩))
        (xs_cons (x_set 7 sc_kept_in.nd (EX.to (r' := .d (tD ((guestsIn gs oth part).filter fun k => !decide (k ∈ seatedRound gs w')))) (ex_tupleOf B.tuple (ex_lcF natD (fun k => !decide (k ∈ seatedRound gs w')) 9 rfl sc_kept_in.nd (it_tup (ex_var 4 rfl) rfl) (by omega) (fun k _ _ _ _ _ _ => et_notInN (ex_var 9 rfl) (ex_var 6 rfl) (.inr rfl)) (fun k _ _ _ _ _ _ _ => ex_var 9 rfl)) (.inl rfl)) rfl))
        (xs_one (x_retW (EX.to (ex_cat (ex_var 6 rfl) (ex_callN c2 hr (ea_cons (ex_var 0 rfl) (ea_cons (ex_var 7 rfl) (ea_cons (ex_lcT2 (xs := w') (fun q => natD q.1) (fun q => natD q.2) (fun q => natD q.2) 10 8 rfl sc_kept_in.nd (it_tup (ex_var 5 rfl) rfl) (by omega) (fun q _ _ _ _ _ _ => ex_var 8 rfl)) ea_nil)))
          ⟨n, gs, (guestsIn gs oth part).filter fun k => !decide (k ∈ seatedRound gs w'), w'.map (·.2), ?k1, fun k hk => hg.ok k (List.mem_filter.mp hk).1, by omega, ?k2, rfl⟩ (flats_map _ flat_nat _)) rfl rfl ?k3) ?k4))))))
      case k1 =>
        show [webD n gs, _, D.lst (w'.map fun q => natD q.2)] = [_, _, D.lst ((w'.map (·.2)).map natD)]
        rw [List.map_map]
        rfl
      case k2 =>
        rw [List.length_map]
        omega
      case k3 =>
        have := grownGo_len gs (((guestsIn gs oth part).filter fun k => !decide (k ∈ seatedRound gs w')).length + 1) ((w'.map (·.2)).foldl addOne []) ((guestsIn gs oth part).filter fun k => !decide (k ∈ seatedRound gs w'))
        rw [List.length_map, List.length_map, ls]
        unfold grown
        omega
      case k4 =>
        unfold lD
        rw [List.map_append]
def F_order_by (ds : List D) (d : D) : Prop := ∃ (n : Nat) (gs : G) (lot frees : List Nat), ds = [webD n gs, tD lot, lD frees] ∧ Web n gs ∧ Lot gs lot ∧ (∀ part ∈ parts n gs (others gs.length lot), HasRd n gs (others gs.length lot) part) ∧ d = tD (orderBy n gs lot frees)
theorem ct_order_by (B : Bl mg) (d : Df K mg "order_by" s_order_by ["web", "lot", "frees"]) (c0 : Ct P w K mg base 1 "others_in" ["web", "lot"] F_others_in) (c1 : Ct P w K mg base 2 "parts_in" ["web", "lot"] F_parts_in) (c2 : Ct P w K mg base 3 "kept_in" ["web", "others", "part", "frees"] F_kept_in) : Ct P w K mg base 4 "order_by" ["web", "lot", "frees"] F_order_by := by
  obtain ⟨f, fd, Fn, hb, hm⟩ := d.ex
  refine ct_any Fn sc_order_by hb hm (fun ds d h => ?_) (by decide) (fun cdv A outer s H E hr ds d h => ?_)
  · obtain ⟨n, gs, lot, frees, rfl, _⟩ := h
    rfl
  · obtain ⟨n, gs, lot, frees, rfl, hw, hl, hrd, rfl⟩ := h
    have few := hw.few
    have fewG := hw.fewG
    have lo : Lot gs (others gs.length lot) := lot_others
    have pl := parts_len n gs (others gs.length lot)
    have ll := lot_len hl
    have fold : ∀ (ps : List (List Nat)) (acc : List Nat) (s : Sl), (ps.foldl (fun (b : List Nat × Sl) part => (b.1 ++ keptIn n gs (others gs.length lot) part frees, Sl.d (tD part))) (acc, s)).1 = acc ++ ps.flatMap fun part => keptIn n gs (others gs.length lot) part frees := by
      intro ps
      induction ps with
      | nil => intro acc s; simp
      | cons k ps ih => intro acc s; rw [List.foldl_cons, ih]; simp [List.append_assoc]
    have fl : ∀ ps : List (List Nat), (ps.flatMap fun part => keptIn n gs (others gs.length lot) part frees).length ≤ 200 * ps.length := by
      intro ps
      induction ps with
      | nil => exact Nat.le_refl _
      | cons k ps ih =>
        have := keptIn_len (part := k) (frees := frees) hw lo
        rw [List.flatMap_cons, List.length_append, List.length_cons]
        omega
    refine .inl ⟨flat_tD _, _, xs_cons (x_par2 3 4 rfl sc_order_by.nd (ep_d (ex_call c0 (hr.mono (by decide)) (ea_cons (ex_var 0 rfl) (ea_cons (ex_var 1 rfl) ea_nil)) ⟨n, gs, lot, rfl, hw, rfl⟩) (ep_o (ex_lst ea_nil) ep_nil)))
      (xs_cons (x_for rfl (it_list (ex_call c1 (hr.mono (by decide)) (ea_cons (ex_var 0 rfl) (ea_cons (ex_var 3 rfl) ea_nil)) ⟨n, gs, others gs.length lot, rfl, hw, lo, rfl⟩) rfl)
        (lp_fold (b := ([], .no)) (xs := parts n gs (others gs.length lot)) (enc := tD) (fun b : List Nat × Sl => [.d (webD n gs), .d (tD lot), .d (lD frees), .d (tD (others gs.length lot)), .o (lD b.1), b.2]) (fun b part => (b.1 ++ keptIn n gs (others gs.length lot) part frees, .d (tD part)))
          (fun b rest => (∀ part ∈ rest, part ∈ parts n gs (others gs.length lot)) ∧ b.1.length + 200 * rest.length ≤ 10000) (fun b part rest hp => ?g1) ?g2))
      (xs_one (x_retD (EX.to (ex_catT (ex_tupleOf B.tuple (ex_own 4 rfl) (.inl rfl)) (ex_var 1 rfl) rfl rfl ?g3) ?g4))))⟩
    case g1 =>
      obtain ⟨p1, p2⟩ := hp
      have hin := p1 part (List.mem_cons_self ..)
      have kl := keptIn_len (part := part) (frees := frees) hw lo
      rw [List.length_cons] at p2
      refine ⟨_, _, ag_name 5 sc_order_by.nd, XS.to (xs_one (x_extend 4 rfl (ex_call c2 hr (ea_cons (ex_var 0 rfl) (ea_cons (ex_var 3 rfl) (ea_cons (ex_var 5 rfl) (ea_cons (ex_var 2 rfl) ea_nil)))) ⟨n, gs, others gs.length lot, part, frees, rfl, hw, lo, (parts_sub part hin).1, hrd part hin, rfl⟩) rfl ?_)) ?_, fun q hq => p1 q (List.mem_cons_of_mem _ hq), ?_⟩
      · rw [List.length_map, List.length_map]
        omega
      · show Out.nx [_, _, _, _, Sl.o (.lst (b.1.map natD ++ (keptIn n gs (others gs.length lot) part frees).map natD)), _] = Out.nx [_, _, _, _, Sl.o (.lst ((b.1 ++ keptIn n gs (others gs.length lot) part frees).map natD)), _]
        rw [List.map_append]
      · show (b.1 ++ keptIn n gs (others gs.length lot) part frees).length + 200 * rest.length ≤ 10000
        rw [List.length_append]
        omega
    case g2 =>
      refine ⟨fun _ h => h, ?_⟩
      show 0 + 200 * (parts n gs (others gs.length lot)).length ≤ 10000
      omega
    case g3 =>
      rw [List.length_map, List.length_map, fold, List.nil_append]
      have := fl (parts n gs (others gs.length lot))
      omega
    case g4 =>
      rw [fold, List.nil_append]
      unfold orderBy tD
      rw [List.map_append]
end
end Zf
/-! Defs, 15: orders of lots, what bars. -/
namespace Zf
open PySem PySem.Spec PyProof.Rows L2 Zb Zt Gr
theorem any_map {α : Type} (l : List α) (p : α → Bool) : (l.map p).any id = l.any p := by
  rw [List.any_map]
  rfl
theorem any_mem (l m : List Nat) : (l.map fun p => decide (p ∈ m)).any id = l.any fun p => decide (p ∈ m) := any_map _ _
theorem barring_len (n : Nat) (gs : G) (lot : List Nat) : (barring n gs lot).length ≤ n := Nat.le_trans (List.length_filter_le _ _) (parts_len _ _ _)
theorem shp_rows (l : List (List Nat)) : Shp 2 (.lst (l.map tD)) := fun d hd => by
  obtain ⟨x, _, rfl⟩ := List.mem_map.mp hd
  exact shp_tD x
theorem shp_nil : Shp 1 (.lst []) := fun d hd => by cases hd
theorem eqv_rows (l : List (List Nat)) : D.eqv (.lst (l.map tD)) (.lst []) = l.isEmpty := by
  rw [eqv_nilL]
  cases l <;> rfl
section
variable {P : Program} {w : World} {K : PySem.W.Frag} {mg : Str → Option Value} {base : Heap}
def F_trees_of (ds : List D) (d : D) : Prop := ∃ (n : Nat) (gs : G) (oth : List Nat), ds = [webD n gs, tD oth] ∧ Web n gs ∧ Lot gs oth ∧ d = .lst ((treesOf n gs oth).map tD)
theorem ct_trees_of (d : Df K mg "trees_of" s_trees_of ["web", "others"]) (c0 : Ct P w K mg base 2 "parts_in" ["web", "lot"] F_parts_in) (c1 : Ct P w K mg base 2 "is_tree_in" ["web", "others", "part"] F_is_tree_in) : Ct P w K mg base 3 "trees_of" ["web", "others"] F_trees_of := by
  obtain ⟨f, fd, Fn, hb, hm⟩ := d.ex
  refine ct_any Fn sc_trees_of hb hm (fun ds d h => ?_) (by decide) (fun cdv A outer s H E hr ds d h => ?_)
  · obtain ⟨n, gs, oth, rfl, _⟩ := h
    rfl
  · obtain ⟨n, gs, oth, rfl, hw, hl, rfl⟩ := h
    have few := hw.few
    have pl := parts_len n gs oth
    exact .inr (.inl ⟨⟨_, rfl, flats_map _ flat_tD _⟩, xs_one (x_retW (ex_lcF (xs := parts n gs oth) tD (fun part => isTree gs oth part) 2 rfl sc_trees_of.nd (it_list (ex_call c0 hr (ea_cons (ex_var 0 rfl) (ea_cons (ex_var 1 rfl) ea_nil)) ⟨n, gs, oth, rfl, hw, hl, rfl⟩) rfl) (by omega)
      (fun part _ _ _ _ _ _ => et_val (ex_call c1 hr (ea_cons (ex_var 0 rfl) (ea_cons (ex_var 1 rfl) (ea_cons (ex_var 2 rfl) ea_nil))) ⟨n, gs, oth, part, rfl, hw, hl, rfl⟩)) (fun part _ _ _ _ _ _ _ => ex_var 2 rfl)))⟩)
def F_order_in_lot (ds : List D) (d : D) : Prop := ∃ (n : Nat) (gs : G) (lot : List Nat), ds = [webD n gs, tD lot] ∧ Web n gs ∧ Lot gs lot ∧ (∀ part ∈ parts n gs (others gs.length lot), HasRd n gs (others gs.length lot) part) ∧ (∀ part ∈ treesOf n gs (others gs.length lot), ∃ p ∈ part, p ∈ spare n gs lot) ∧ d = tD (orderInLot n gs lot)
theorem ct_order_in_lot (d : Df K mg "order_in_lot" s_order_in_lot ["web", "lot"]) (c0 : Ct P w K mg base 2 "spare_in" ["web", "lot"] F_spare_in) (c1 : Ct P w K mg base 1 "others_in" ["web", "lot"] F_others_in) (c2 : Ct P w K mg base 3 "trees_of" ["web", "others"] F_trees_of) (c3 : Ct P w K mg base 4 "order_by" ["web", "lot", "frees"] F_order_by) : Ct P w K mg base 5 "order_in_lot" ["web", "lot"] F_order_in_lot := by
  obtain ⟨f, fd, Fn, hb, hm⟩ := d.ex
  refine ct_any Fn sc_order_in_lot hb hm (fun ds d h => ?_) (by decide) (fun cdv A outer s H E hr ds d h => ?_)
  · obtain ⟨n, gs, lot, rfl, _⟩ := h
    rfl
  · obtain ⟨n, gs, lot, rfl, hw, hl, hrd, hsp, rfl⟩ := h
    have few := hw.few
    have lo : Lot gs (others gs.length lot) := lot_others
    have tl : (treesOf n gs (others gs.length lot)).length ≤ n := Nat.le_trans (List.length_filter_le _ _) (parts_len _ _ _)
    have hv : Res.d (D.lst ((treesOf n gs (others gs.length lot)).map fun part => natD ((part.filter fun p => decide (p ∈ spare n gs lot)).headD 0))) = Res.d (lD (freesOf n gs lot)) := by
      unfold freesOf lD
      rw [List.map_map]
      rfl
    refine .inl ⟨flat_tD _, _, xs_cons (x_set 2 sc_order_in_lot.nd (ex_call c0 (hr.mono (by decide)) (ea_cons (ex_var 0 rfl) (ea_cons (ex_var 1 rfl) ea_nil)) ⟨n, gs, lot, rfl, hw, hl, rfl⟩))
      (xs_cons (x_lcA (xs := treesOf n gs (others gs.length lot)) (enc := tD) (fun part => natD ((part.filter fun p => decide (p ∈ spare n gs lot)).headD 0)) 3 5 rfl sc_order_in_lot.nd (it_list (ex_call c2 (hr.mono (by decide)) (ea_cons (ex_var 0 rfl) (ea_cons (ex_call c1 (hr.mono (by decide)) (ea_cons (ex_var 0 rfl) (ea_cons (ex_var 1 rfl) ea_nil)) ⟨n, gs, lot, rfl, hw, rfl⟩) ea_nil)) ⟨n, gs, others gs.length lot, rfl, hw, lo, rfl⟩) rfl) (by omega)
        (fun part hp s' H' C cl fp => ?g1))
      (xs_one (x_retD (ex_call c3 hr (ea_cons (ex_var 0 rfl) (ea_cons (ex_var 1 rfl) (ea_cons (ex_var 3 rfl) ea_nil))) ⟨n, gs, lot, freesOf n gs lot, ?g2, hw, hl, hrd, rfl⟩))))⟩
    case g1 =>
      obtain ⟨p, h1, h2⟩ := hsp part hp
      have pin := (parts_sub part (List.mem_filter.mp hp).1).1
      have hne : ∃ q rest, (part.filter fun p => decide (p ∈ spare n gs lot)) = q :: rest := by
        cases hq : part.filter fun p => decide (p ∈ spare n gs lot) with
        | nil =>
          have : p ∈ part.filter fun p => decide (p ∈ spare n gs lot) := List.mem_filter.mpr ⟨h1, decide_eq_true h2⟩
          rw [hq] at this
          cases this
        | cons q rest => exact ⟨q, rest, rfl⟩
      obtain ⟨q, rest, hq⟩ := hne
      refine ex_item (j := 0) (ex_lcF natD (fun p => decide (p ∈ spare n gs lot)) 4 rfl sc_order_in_lot.nd (it_tup (ex_var 5 rfl) rfl) (by omega) (fun p _ _ _ _ _ _ => et_inN (ex_var 4 rfl) (ex_var 2 rfl) (.inr rfl)) (fun p _ _ _ _ _ _ _ => ex_var 4 rfl)) ex_int (.inl rfl) rfl ?_
      rw [hq]
      rfl
    case g2 =>
      show [webD n gs, tD lot, (Res.d (D.lst ((treesOf n gs (others gs.length lot)).map fun part => natD ((part.filter fun p => decide (p ∈ spare n gs lot)).headD 0)))).v] = _
      rw [hv]
      rfl
def F_barring_in (ds : List D) (d : D) : Prop := ∃ (n : Nat) (gs : G) (lot : List Nat), ds = [webD n gs, tD lot] ∧ Web n gs ∧ Lot gs lot ∧ d = .lst ((barring n gs lot).map tD)
theorem bars_filter (n : Nat) (gs : G) (lot : List Nat) : ∀ (ps acc : List (List Nat)) (s : Sl), (ps.foldl (fun (b : List (List Nat) × Sl) part => (if bars n gs lot part = true then b.1 ++ [part] else b.1, Sl.d (tD part))) (acc, s)).1 = acc ++ ps.filter (bars n gs lot)
  | [], acc, s => by simp
  | p :: ps, acc, s => by
    rw [List.foldl_cons, bars_filter n gs lot ps]
    by_cases h : bars n gs lot p = true
    · rw [if_pos h, List.filter_cons_of_pos h]
      simp
    · rw [if_neg h, List.filter_cons_of_neg h]
theorem ct_barring_in (B : Bl mg) (d : Df K mg "barring_in" s_barring_in ["web", "lot"]) (c0 : Ct P w K mg base 1 "others_in" ["web", "lot"] F_others_in) (c1 : Ct P w K mg base 2 "spare_in" ["web", "lot"] F_spare_in) (c2 : Ct P w K mg base 1 "met_by" ["web", "lot"] F_met_by) (c3 : Ct P w K mg base 2 "parts_in" ["web", "lot"] F_parts_in) (c4 : Ct P w K mg base 2 "is_tree_in" ["web", "others", "part"] F_is_tree_in) :
    Ct P w K mg base 3 "barring_in" ["web", "lot"] F_barring_in := by
  obtain ⟨f, fd, Fn, hb, hm⟩ := d.ex
  refine ct_any Fn sc_barring_in hb hm (fun ds d h => ?_) (by decide) (fun cdv A outer s H E hr ds d h => ?_)
  · obtain ⟨n, gs, lot, rfl, _⟩ := h
    rfl
  · obtain ⟨n, gs, lot, rfl, hw, hl, rfl⟩ := h
    have few := hw.few
    have lo : Lot gs (others gs.length lot) := lot_others
    have pl := parts_len n gs (others gs.length lot)
    refine .inr (.inl ⟨⟨_, rfl, flats_map _ flat_tD _⟩, xs_cons (x_asg (ex_tup (ea_cons (ex_call c0 (hr.mono (by decide)) (ea_cons (ex_var 0 rfl) (ea_cons (ex_var 1 rfl) ea_nil)) ⟨n, gs, lot, rfl, hw, rfl⟩) (ea_cons (ex_call c1 hr (ea_cons (ex_var 0 rfl) (ea_cons (ex_var 1 rfl) ea_nil)) ⟨n, gs, lot, rfl, hw, hl, rfl⟩) (ea_cons (ex_call c2 (hr.mono (by decide)) (ea_cons (ex_var 0 rfl) (ea_cons (ex_var 1 rfl) ea_nil)) ⟨n, gs, lot, rfl, hw, hl, rfl⟩) ea_nil)))) (ag_tup rfl (ags_cons (ag_name 2 sc_barring_in.nd) (ags_cons (ag_name 3 sc_barring_in.nd) (ags_cons (ag_name 4 sc_barring_in.nd) ags_nil)))))
      (xs_cons (x_setO 5 sc_barring_in.nd (ex_lst ea_nil))
      (xs_cons (x_for rfl (it_list (ex_call c3 hr (ea_cons (ex_var 0 rfl) (ea_cons (ex_var 2 rfl) ea_nil)) ⟨n, gs, others gs.length lot, rfl, hw, lo, rfl⟩) rfl)
        (lp_fold (b := ([], .no)) (xs := parts n gs (others gs.length lot)) (enc := tD) (fun b : List (List Nat) × Sl => [.d (webD n gs), .d (tD lot), .d (tD (others gs.length lot)), .d (lD (spare n gs lot)), .d (lD (met gs lot)), .o (.lst (b.1.map tD)), b.2, .no])
          (fun b part => (if bars n gs lot part = true then b.1 ++ [part] else b.1, .d (tD part))) (fun b rest => (∀ part ∈ rest, part.length ≤ n) ∧ b.1.length + rest.length ≤ 1000) (fun b part rest hp => ?g1) ?g2))
      (xs_one ?g3)))⟩)
    case g1 =>
      obtain ⟨p1, p2⟩ := hp
      have pn := p1 part (List.mem_cons_self ..)
      rw [List.length_cons] at p2
      refine ⟨_, _, ag_name 6 sc_barring_in.nd, ?_, fun q hq => p1 q (List.mem_cons_of_mem _ hq), ?_⟩
      · by_cases h1 : (isTree gs (others gs.length lot) part && part.any fun p => decide (p ∈ met gs lot)) = true
        · by_cases h2 : (part.any fun p => decide (p ∈ spare n gs lot)) = true
          · have hn : ¬ bars n gs lot part = true := by
              unfold bars
              rw [h1, h2]
              decide
            refine XS.to (xs_one (x_ifT (ET.to (et_w (ew_and (et_val (ex_call c4 hr (ea_cons (ex_var 0 rfl) (ea_cons (ex_var 2 rfl) (ea_cons (ex_var 6 rfl) ea_nil))) ⟨n, gs, others gs.length lot, part, rfl, hw, lo, rfl⟩)) fun _ => ew_and1 (et_val (ex_any rfl B.any (ex_lcA (xs := part) (enc := natD) (fun p => .bl (decide (p ∈ met gs lot))) 7 rfl sc_barring_in.nd (it_tup (ex_var 6 rfl) rfl) (by omega) (fun p _ _ _ _ _ _ => ex_inN (ex_var 7 rfl) (ex_var 4 rfl) (.inr rfl))) (bs := part.map fun p => decide (p ∈ met gs lot)) (by rw [List.map_map]; rfl))))) (by rw [any_mem]; exact h1))
              (xs_one (x_ifF (ET.to (et_not (et_val (ex_any rfl B.any (ex_lcA (xs := part) (enc := natD) (fun p => .bl (decide (p ∈ spare n gs lot))) 7 rfl sc_barring_in.nd (it_tup (ex_var 6 rfl) rfl) (by omega) (fun p _ _ _ _ _ _ => ex_inN (ex_var 7 rfl) (ex_var 3 rfl) (.inr rfl))) (bs := part.map fun p => decide (p ∈ spare n gs lot)) (by rw [List.map_map]; rfl)))) (by rw [any_mem, h2]; rfl)) xs_nil)))) ?_
            rw [if_neg hn]
            rfl
          · have hn : bars n gs lot part = true := by
              unfold bars
              rw [h1, Bool.eq_false_iff.mpr h2]
              rfl
            refine XS.to (xs_one (x_ifT (ET.to (et_w (ew_and (et_val (ex_call c4 hr (ea_cons (ex_var 0 rfl) (ea_cons (ex_var 2 rfl) (ea_cons (ex_var 6 rfl) ea_nil))) ⟨n, gs, others gs.length lot, part, rfl, hw, lo, rfl⟩)) fun _ => ew_and1 (et_val (ex_any rfl B.any (ex_lcA (xs := part) (enc := natD) (fun p => .bl (decide (p ∈ met gs lot))) 7 rfl sc_barring_in.nd (it_tup (ex_var 6 rfl) rfl) (by omega) (fun p _ _ _ _ _ _ => ex_inN (ex_var 7 rfl) (ex_var 4 rfl) (.inr rfl))) (bs := part.map fun p => decide (p ∈ met gs lot)) (by rw [List.map_map]; rfl))))) (by rw [any_mem]; exact h1))
              (xs_one (x_ifT (ET.to (et_not (et_val (ex_any rfl B.any (ex_lcA (xs := part) (enc := natD) (fun p => .bl (decide (p ∈ spare n gs lot))) 7 rfl sc_barring_in.nd (it_tup (ex_var 6 rfl) rfl) (by omega) (fun p _ _ _ _ _ _ => ex_inN (ex_var 7 rfl) (ex_var 3 rfl) (.inr rfl))) (bs := part.map fun p => decide (p ∈ spare n gs lot)) (by rw [List.map_map]; rfl)))) (by rw [any_mem, Bool.eq_false_iff.mpr h2]; rfl)) (xs_one (x_append 5 rfl (ex_var 6 rfl) (by rw [List.length_map]; omega))))))) ?_
            rw [if_pos hn]
            show Out.nx [_, _, _, _, _, Sl.o (.lst (b.1.map tD ++ [tD part])), _, _] = Out.nx [_, _, _, _, _, Sl.o (.lst ((b.1 ++ [part]).map tD)), _, _]
            rw [List.map_append]
            rfl
        · have hn : ¬ bars n gs lot part = true := by
            unfold bars
            rw [Bool.eq_false_iff.mpr h1]
            exact Bool.false_ne_true
          refine XS.to (xs_one (x_ifF (ET.to (et_w (ew_and (et_val (ex_call c4 hr (ea_cons (ex_var 0 rfl) (ea_cons (ex_var 2 rfl) (ea_cons (ex_var 6 rfl) ea_nil))) ⟨n, gs, others gs.length lot, part, rfl, hw, lo, rfl⟩)) fun _ => ew_and1 (et_val (ex_any rfl B.any (ex_lcA (xs := part) (enc := natD) (fun p => .bl (decide (p ∈ met gs lot))) 7 rfl sc_barring_in.nd (it_tup (ex_var 6 rfl) rfl) (by omega) (fun p _ _ _ _ _ _ => ex_inN (ex_var 7 rfl) (ex_var 4 rfl) (.inr rfl))) (bs := part.map fun p => decide (p ∈ met gs lot)) (by rw [List.map_map]; rfl))))) (by rw [any_mem]; exact Bool.eq_false_iff.mpr h1)) xs_nil)) ?_
          rw [if_neg hn]
          rfl
      · show (if bars n gs lot part = true then b.1 ++ [part] else b.1).length + rest.length ≤ 1000
        split
        · rw [List.length_append, List.length_singleton]
          omega
        · omega
    case g2 =>
      refine ⟨fun part hp => (parts_sub part hp).1, ?_⟩
      show 0 + (parts n gs (others gs.length lot)).length ≤ 1000
      omega
    case g3 =>
      refine x_retO (i := 5) (EX.to (ex_own 5 rfl) ?_)
      rw [bars_filter, List.nil_append]
      rfl
end
end Zf
/-! Defs, 16: together, never, rivals, lots grown. -/
namespace Zf
open PySem PySem.Spec PyProof.Rows L2 Zb Zt Gr
theorem sub_lot {gs : G} {k : Nat} (h : k < gs.length) : Lot gs [k] := ⟨by simp, by simpa using h⟩
theorem pair_lot {gs : G} {l : List Nat} : Lot gs (asc gs.length l) := ⟨asc_asc _ _, fun k hk => (mem_asc.mp hk).1⟩
section
variable {P : Program} {w : World} {K : PySem.W.Frag} {mg : Str → Option Value} {base : Heap}
/-- web and lot, as lists or tuples -/
def WL (x y : D) (n : Nat) (gs : G) (lot : List Nat) : Prop := Dep 4 x ∧ tupd x = webD n gs ∧ Web n gs ∧ Dep 4 y ∧ tupd y = tD lot ∧ Lot gs lot
def F_can_together (ds : List D) (d : D) : Prop := ∃ (x y : D) (n : Nat) (gs : G) (lot : List Nat), ds = [x, y] ∧ WL x y n gs lot ∧ d = .bl (barring n gs lot).isEmpty
theorem ct_can_together (d : Df K mg "can_together" s_can_together ["web", "lot"]) (c0 : Ct P w K mg base 7 "both_sure" ["web", "lot"] F_both_sure) (c1 : Ct P w K mg base 3 "barring_in" ["web", "lot"] F_barring_in) : Ct P w K mg base 8 "can_together" ["web", "lot"] F_can_together := by
  obtain ⟨f, fd, Fn, hb, hm⟩ := d.ex
  refine ct_any Fn sc_can_together hb hm (fun ds d h => ?_) (by decide) (fun cdv A outer s H E hr ds d h => ?_)
  · obtain ⟨x, y, n, gs, lot, rfl, _⟩ := h
    rfl
  · obtain ⟨x, y, n, gs, lot, rfl, ⟨h1, h2, h3, h4, h5, h6⟩, rfl⟩ := h
    refine .inl ⟨rfl, _, xs_cons (x_asg (ex_call c0 hr (ea_cons (ex_var 0 rfl) (ea_cons (ex_var 1 rfl) ea_nil)) ⟨x, n, gs, y, lot, rfl, h1, h2, h3, h4, h5, h6, rfl⟩) (ag_tup rfl (ags_cons (ag_name 2 sc_can_together.nd) (ags_cons (ag_name 3 sc_can_together.nd) ags_nil))))
      (xs_one (x_retD (EX.to (ex_eqD (i := 2) (j := 1) (hu_of hr) (ex_call c1 (hr.mono (by decide)) (ea_cons (ex_var 2 rfl) (ea_cons (ex_var 3 rfl) ea_nil)) ⟨n, gs, lot, rfl, h3, h6, rfl⟩) (ex_lst ea_nil) (shp_rows _) shp_nil) ?_)))⟩
    exact congrArg (fun z => Res.d (.bl z)) (eqv_rows _)
def F_is_never (ds : List D) (d : D) : Prop := ∃ (n : Nat) (gs : G) (k : Nat), ds = [webD n gs, natD k] ∧ Web n gs ∧ k < gs.length ∧ d = .bl (isNever n gs k)
theorem ct_is_never (d : Df K mg "is_never" s_is_never ["web", "guest"]) (c1 : Ct P w K mg base 3 "barring_in" ["web", "lot"] F_barring_in) : Ct P w K mg base 4 "is_never" ["web", "guest"] F_is_never := by
  obtain ⟨f, fd, Fn, hb, hm⟩ := d.ex
  refine ct_any Fn sc_is_never hb hm (fun ds d h => ?_) (by decide) (fun cdv A outer s H E hr ds d h => ?_)
  · obtain ⟨n, gs, k, rfl, _⟩ := h
    rfl
  · obtain ⟨n, gs, k, rfl, hw, hk, rfl⟩ := h
    refine .inl ⟨rfl, _, xs_one (x_retD (EX.to (ex_neD (i := 2) (j := 1) (hu_of hr) (ex_call c1 hr (ea_cons (ex_var 0 rfl) (ea_cons (ex_tup (ea_cons (ex_var 1 rfl) ea_nil)) ea_nil)) ⟨n, gs, [k], rfl, hw, sub_lot hk, rfl⟩) (ex_lst ea_nil) (shp_rows _) shp_nil) ?_))⟩
    exact congrArg (fun z => Res.d (.bl !z)) (eqv_rows _)
def F_never_without (ds : List D) (d : D) : Prop := ∃ (x : D) (n : Nat) (gs : G), ds = [x] ∧ Dep 4 x ∧ tupd x = webD n gs ∧ Web n gs ∧ d = tD (neverWithout n gs)
theorem ct_never_without (B : Bl mg) (d : Df K mg "never_without" s_never_without ["web"]) (c0 : Ct P w K mg base 6 "sure_web" ["web"] F_sure_web) (c1 : Ct P w K mg base 4 "is_never" ["web", "guest"] F_is_never) : Ct P w K mg base 7 "never_without" ["web"] F_never_without := by
  obtain ⟨f, fd, Fn, hb, hm⟩ := d.ex
  refine ct_any Fn sc_never_without hb hm (fun ds d h => ?_) (by decide) (fun cdv A outer s H E hr ds d h => ?_)
  · obtain ⟨x, n, gs, rfl, _⟩ := h
    rfl
  · obtain ⟨x, n, gs, rfl, h1, h2, h3, rfl⟩ := h
    have fewG := h3.fewG
    exact .inl ⟨flat_tD _, _, xs_cons (x_set 1 sc_never_without.nd (ex_call c0 hr (ea_cons (ex_var 0 rfl) ea_nil) ⟨x, n, gs, rfl, h1, h2, h3, rfl⟩))
      (xs_one (x_retD (EX.to (ex_tupleOf B.tuple (ex_lcF natD (fun k => isNever n gs k) 2 rfl sc_never_without.nd (it_range (n := gs.length) B.range (EX.to (ex_len B.len (ex_gsts (ex_var 1 rfl)) (.inr rfl)) (by rw [List.length_map])) (by omega)) (by rw [List.length_range]; omega) (fun k hk _ _ _ _ _ => et_val (ex_call c1 (hr.mono (by decide)) (ea_cons (ex_var 1 rfl) (ea_cons (ex_var 2 rfl) ea_nil)) ⟨n, gs, k, rfl, h3, List.mem_range.mp hk, rfl⟩)) (fun k hk _ _ _ _ _ _ => ex_var 2 rfl)) (.inl rfl)) rfl)))⟩
def F_rivals (ds : List D) (d : D) : Prop := ∃ (n : Nat) (gs : G) (k : Nat), ds = [webD n gs, natD k] ∧ Web n gs ∧ k < gs.length ∧ d = tD (rivals n gs k)
theorem dep_webD {n : Nat} {gs : G} (hw : Web n gs) : Dep 4 (webD n gs) := by
  refine ⟨by show 2 ≤ 1000; decide, fun d hd => ?_⟩
  have hd : d ∈ [natD n, .tup (gs.map gD)] := hd
  simp only [List.mem_cons, List.not_mem_nil, or_false] at hd
  rcases hd with rfl | rfl
  · trivial
  · refine ⟨by rw [List.length_map]; have := hw.fewG; omega, fun d hd => ?_⟩
    obtain ⟨g, _, rfl⟩ := List.mem_map.mp hd
    refine ⟨by show 2 ≤ 1000; decide, fun d hd => ?_⟩
    have hd : d ∈ [natD g.1, natD g.2] := hd
    simp only [List.mem_cons, List.not_mem_nil, or_false] at hd
    rcases hd with rfl | rfl <;> trivial
theorem tupd_flatN : ∀ l : List Nat, tupds (l.map natD) = l.map natD
  | [] => by simp [tupds]
  | a :: l => by rw [List.map_cons, tupds, tupd_flatN l]; simp [tupd, natD]
theorem tupd_tD (l : List Nat) : tupd (tD l) = tD l := by
  unfold tD
  rw [tupd, tupd_flatN]
theorem tupd_gD (g : Nat × Nat) : tupd (gD g) = gD g := by
  have := tupd_tD [g.1, g.2]
  exact this
theorem tupd_gs : ∀ gs : G, tupds (gs.map gD) = gs.map gD
  | [] => by simp [tupds]
  | g :: gs => by rw [List.map_cons, tupds, tupd_gs gs, tupd_gD]
theorem tupd_webD (n : Nat) (gs : G) : tupd (webD n gs) = webD n gs := by
  unfold webD
  rw [tupd, tupds, tupds, tupds, tupd, tupd_gs]
  simp [tupd, natD]
theorem dep_tD {l : List Nat} (h : l.length ≤ 1000) : Dep 4 (tD l) := ⟨by rw [List.length_map]; exact h, fun d hd => by
  obtain ⟨k, _, rfl⟩ := List.mem_map.mp hd
  trivial⟩
theorem ct_rivals (B : Bl mg) (d : Df K mg "rivals" s_rivals ["web", "guest"]) (c0 : Ct P w K mg base 6 "sure_web" ["web"] F_sure_web) (c1 : Ct P w K mg base 3 "sure_guest" ["web", "guest"] F_sure_guest) (c2 : Ct P w K mg base 4 "is_never" ["web", "guest"] F_is_never) (c3 : Ct P w K mg base 3 "barring_in" ["web", "lot"] F_barring_in) (c4 : Ct P w K mg base 1 "set_of" ["row"] F_set_of) :
    Ct P w K mg base 7 "rivals" ["web", "guest"] F_rivals := by
  obtain ⟨f, fd, Fn, hb, hm⟩ := d.ex
  refine ct_any Fn sc_rivals hb hm (fun ds d h => ?_) (by decide) (fun cdv A outer s H E hr ds d h => ?_)
  · obtain ⟨n, gs, k, rfl, _⟩ := h
    rfl
  · obtain ⟨n, gs, k, rfl, hw, hk, rfl⟩ := h
    have fewG := hw.fewG
    refine .inl ⟨flat_tD _, false, xs_cons (x_set 2 sc_rivals.nd (ex_call c0 hr (ea_cons (ex_var 0 rfl) ea_nil) ⟨webD n gs, n, gs, rfl, dep_webD hw, tupd_webD n gs, hw, rfl⟩))
      (xs_cons (x_set 3 sc_rivals.nd (ex_call c1 (hr.mono (by decide)) (ea_cons (ex_var 2 rfl) (ea_cons (ex_var 1 rfl) ea_nil)) ⟨n, gs, k, rfl, hk, rfl⟩)) ?_)⟩
    have h4 : Room 4 _ := hr.mono (by decide)
    cases hv : isNever n gs k with
    | true =>
      have e : rivals n gs k = [] := by
        unfold rivals
        rw [if_pos hv]
      rw [e]
      exact xs_stop (x_ifT (ET.to (et_val (ex_call c2 h4 (ea_cons (ex_var 2 rfl) (ea_cons (ex_var 3 rfl) ea_nil)) ⟨n, gs, k, rfl, hw, hk, rfl⟩)) hv) (xs_one (x_retD (ex_tup ea_nil))))
    | false =>
      let q : Nat → Bool := fun j => (!decide (j = k) && !isNever n gs j) && !(barring n gs (asc gs.length [k, j])).isEmpty
      have e : rivals n gs k = (List.range gs.length).filter q := by
        unfold rivals
        rw [if_neg (by rw [hv]; exact Bool.false_ne_true)]
      have fold : ∀ (js acc : List Nat) (s : Sl), (js.foldl (fun (b : List Nat × Sl) j => (if q j = true then b.1 ++ [j] else b.1, Sl.d (natD j))) (acc, s)).1 = acc ++ js.filter q := by
        intro js
        induction js with
        | nil => intro acc s; simp
        | cons j js ih =>
          intro acc s
          rw [List.foldl_cons, ih]
          by_cases h : q j = true
          · rw [if_pos h, List.filter_cons_of_pos h]
            simp
          · rw [if_neg h, List.filter_cons_of_neg h]
      rw [e]
      refine xs_cons (x_ifF (ET.to (et_val (ex_call c2 h4 (ea_cons (ex_var 2 rfl) (ea_cons (ex_var 3 rfl) ea_nil)) ⟨n, gs, k, rfl, hw, hk, rfl⟩)) hv) xs_nil) (xs_cons (x_setO 4 sc_rivals.nd (ex_lst ea_nil))
        (xs_cons (x_for rfl (it_range (n := gs.length) B.range (EX.to (ex_len B.len (ex_gsts (ex_var 2 rfl)) (.inr rfl)) (by rw [List.length_map])) (by omega))
          (lp_fold (b := ([], .no)) (xs := List.range gs.length) (enc := natD) (fun b : List Nat × Sl => [.d (webD n gs), .d (natD k), .d (webD n gs), .d (natD k), .o (lD b.1), b.2]) (fun b j => (if q j = true then b.1 ++ [j] else b.1, .d (natD j))) (fun b rest => (∀ j ∈ rest, j < gs.length) ∧ b.1.length + rest.length ≤ 1000) (fun b j rest hp => ?_) ?_))
        (xs_one (x_retD (EX.to (ex_tupleOf B.tuple (ex_own 4 rfl) (.inl rfl)) ?_)))))
      · obtain ⟨p1, p2⟩ := hp
        have hj := p1 j (List.mem_cons_self ..)
        rw [List.length_cons] at p2
        have pl : Lot gs (asc gs.length [k, j]) := pair_lot
        have hso : F_set_of [tD [k, j]] (tD (asc gs.length [k, j])) := ⟨[k, j], asc gs.length [k, j], .inl rfl, by show 2 < 64; decide, asc_asc _ _, fun x => by
          rw [mem_asc]
          constructor
          · exact fun h => h.2
          · intro h
            refine ⟨?_, h⟩
            simp only [List.mem_cons, List.not_mem_nil, or_false] at h
            rcases h with rfl | rfl
            · exact hk
            · exact hj, rfl⟩
        refine ⟨_, _, ag_name 5 sc_rivals.nd, ?_, fun x hx => p1 x (List.mem_cons_of_mem _ hx), ?_⟩
        · refine xs_one (x_if (x := q j) (ET.to (et_w (ew_and (et_neN (ex_var 5 rfl) (ex_var 3 rfl)) fun _ => ew_and (et_not (et_val (ex_call c2 h4 (ea_cons (ex_var 2 rfl) (ea_cons (ex_var 5 rfl) ea_nil)) ⟨n, gs, j, rfl, hw, hj, rfl⟩))) fun _ => ew_and1 (ET.to (et_neD (i := 2) (j := 1) (hu_of hr) (ex_call c3 (hr.mono (by decide)) (ea_cons (ex_var 2 rfl) (ea_cons (ex_call c4 (hr.mono (by decide)) (ea_cons (ex_tup (ea_cons (ex_var 3 rfl) (ea_cons (ex_var 5 rfl) ea_nil))) ea_nil) hso) ea_nil)) ⟨n, gs, asc gs.length [k, j], rfl, hw, pl, rfl⟩) (ex_lst ea_nil) (shp_rows _) shp_nil) (congrArg (fun z => !z) (eqv_rows _))))) (Bool.and_assoc ..).symm) (fun h => ?_) fun h => ?_)
          · refine XS.to (xs_one (x_append 4 rfl (ex_var 5 rfl) (by rw [List.length_map]; omega))) ?_
            rw [if_pos h]
            show Out.nx [_, _, _, _, Sl.o (.lst (b.1.map natD ++ [natD j])), _] = Out.nx [_, _, _, _, Sl.o (.lst ((b.1 ++ [j]).map natD)), _]
            rw [List.map_append]
            rfl
          · refine XS.to xs_nil ?_
            rw [if_neg (by rw [h]; exact Bool.false_ne_true)]
            rfl
        · show (if q j = true then b.1 ++ [j] else b.1).length + rest.length ≤ 1000
          split
          · rw [List.length_append, List.length_singleton]
            omega
          · omega
      · refine ⟨fun j hj => List.mem_range.mp hj, ?_⟩
        rw [List.length_range]
        show 0 + _ ≤ 1000
        omega
      · rw [fold, List.nil_append]
        rfl
end
end Zf
/-! Defs, 17: lots grown, tests of orders and parts told. -/
namespace Zf
open PySem PySem.Spec PyProof.Rows L2 Zb Zt Gr
theorem moreOf_len {n : Nat} {gs : G} {oth part : List Nat} (hl : Lot gs oth) : (moreOf n gs oth part).length ≤ gs.length := by
  unfold moreOf
  split
  · exact Nat.le_trans (List.length_filter_le _ _) (lot_len (guestsIn_lot hl))
  · exact Nat.zero_le _
section
variable {P : Program} {w : World} {K : PySem.W.Frag} {mg : Str → Option Value} {base : Heap}
def F_lot_grown (ds : List D) (d : D) : Prop := ∃ (n : Nat) (gs : G) (lot : List Nat), ds = [webD n gs, tD lot] ∧ Web n gs ∧ Lot gs lot ∧ (∀ part ∈ parts n gs (others gs.length lot), HasRd n gs (others gs.length lot) part) ∧ d = tD (lotGrown n gs lot)
theorem ct_lot_grown (B : Bl mg) (d : Df K mg "lot_grown" s_lot_grown ["web", "lot"]) (c0 : Ct P w K mg base 1 "others_in" ["web", "lot"] F_others_in) (c1 : Ct P w K mg base 2 "parts_in" ["web", "lot"] F_parts_in) (c2 : Ct P w K mg base 1 "guests_in" ["web", "lot", "part"] F_guests_in) (c3 : Ct P w K mg base 3 "kept_in" ["web", "others", "part", "frees"] F_kept_in) (c4 : Ct P w K mg base 1 "set_of" ["row"] F_set_of) :
    Ct P w K mg base 4 "lot_grown" ["web", "lot"] F_lot_grown := by
  obtain ⟨f, fd, Fn, hb, hm⟩ := d.ex
  refine ct_any Fn sc_lot_grown hb hm (fun ds d h => ?_) (by decide) (fun cdv A outer s H E hr ds d h => ?_)
  · obtain ⟨n, gs, lot, rfl, _⟩ := h
    rfl
  · obtain ⟨n, gs, lot, rfl, hw, hl, hrd, rfl⟩ := h
    have few := hw.few
    have fewG := hw.fewG
    have lo : Lot gs (others gs.length lot) := lot_others
    have pl := parts_len n gs (others gs.length lot)
    have ll := lot_len hl
    have h1 : Room 1 _ := hr.mono (by decide)
    let R := parts n gs (others gs.length lot)
    have fold : ∀ (ps : List (List Nat)) (b : List Nat × Sl × Sl × Sl), (ps.foldl (fun (b : List Nat × Sl × Sl × Sl) part => (b.1 ++ moreOf n gs (others gs.length lot) part, Sl.d (tD part), Sl.d (tD (guestsIn gs (others gs.length lot) part)), if part.length < (guestsIn gs (others gs.length lot) part).length then Sl.d (lD (keptIn n gs (others gs.length lot) part [])) else b.2.2.2)) b).1 = b.1 ++ ps.flatMap fun part => moreOf n gs (others gs.length lot) part := by
      intro ps
      induction ps with
      | nil => intro b; simp
      | cons k ps ih => intro b; rw [List.foldl_cons, ih]; simp [List.append_assoc]
    have fl : ∀ ps : List (List Nat), (ps.flatMap fun part => moreOf n gs (others gs.length lot) part).length ≤ 7 * ps.length := by
      intro ps
      induction ps with
      | nil => exact Nat.le_refl _
      | cons k ps ih =>
        have : (moreOf n gs (others gs.length lot) k).length ≤ gs.length := moreOf_len lo
        rw [List.flatMap_cons, List.length_append, List.length_cons]
        omega
    refine .inl ⟨flat_tD _, _, xs_cons (x_par2 2 3 rfl sc_lot_grown.nd (ep_d (ex_call c0 h1 (ea_cons (ex_var 0 rfl) (ea_cons (ex_var 1 rfl) ea_nil)) ⟨n, gs, lot, rfl, hw, rfl⟩) (ep_o (ex_listOf B.list (ex_var 1 rfl) (.inr rfl)) ep_nil)))
      (xs_cons (x_for rfl (it_list (ex_call c1 (hr.mono (by decide)) (ea_cons (ex_var 0 rfl) (ea_cons (ex_var 2 rfl) ea_nil)) ⟨n, gs, others gs.length lot, rfl, hw, lo, rfl⟩) rfl)
        (lp_fold (b := (lot, .no, .no, .no)) (xs := parts n gs (others gs.length lot)) (enc := tD) (fun b : List Nat × Sl × Sl × Sl => [.d (webD n gs), .d (tD lot), .d (tD (others gs.length lot)), .o (lD b.1), b.2.1, b.2.2.1, b.2.2.2, .no])
          (fun b part => (b.1 ++ moreOf n gs (others gs.length lot) part, .d (tD part), .d (tD (guestsIn gs (others gs.length lot) part)), if part.length < (guestsIn gs (others gs.length lot) part).length then .d (lD (keptIn n gs (others gs.length lot) part [])) else b.2.2.2))
          (fun b rest => (∀ part ∈ rest, part ∈ parts n gs (others gs.length lot)) ∧ b.1.length + 7 * rest.length ≤ 1000) (fun b part rest hp => ?g1) ?g2))
      (xs_one (x_retD (ex_call c4 h1 (ea_cons (ex_own 3 rfl) ea_nil) ⟨lot ++ (parts n gs (others gs.length lot)).flatMap fun part => moreOf n gs (others gs.length lot) part, lotGrown n gs lot, .inr ?g3, ?g4, asc_asc _ _, fun k => ?g5, rfl⟩))))⟩
    case g1 =>
      obtain ⟨p1, p2⟩ := hp
      have hin := p1 part (List.mem_cons_self ..)
      have gl := lot_len (guestsIn_lot (part := part) lo)
      have ml : (moreOf n gs (others gs.length lot) part).length ≤ gs.length := moreOf_len lo
      rw [List.length_cons] at p2
      refine ⟨_, _, ag_name 4 sc_lot_grown.nd, xs_cons (x_set 5 sc_lot_grown.nd (ex_call c2 h1 (ea_cons (ex_var 0 rfl) (ea_cons (ex_var 2 rfl) (ea_cons (ex_var 4 rfl) ea_nil))) ⟨n, gs, others gs.length lot, part, rfl, hw, lo, rfl⟩)) ?_, fun x hx => p1 x (List.mem_cons_of_mem _ hx), ?_⟩
      · by_cases hc : part.length < (guestsIn gs (others gs.length lot) part).length
        · have em : moreOf n gs (others gs.length lot) part = (guestsIn gs (others gs.length lot) part).filter fun k => !decide (k ∈ keptIn n gs (others gs.length lot) part []) := by
            unfold moreOf
            rw [if_pos hc]
          refine XS.to (xs_one (x_ifT (ET.to (et_gt (ex_len B.len (ex_var 5 rfl) (.inr rfl)) (ex_len B.len (ex_var 4 rfl) (.inr rfl))) (decide_eq_true ?_))
            (xs_cons (x_set 6 sc_lot_grown.nd (ex_call c3 hr (ea_cons (ex_var 0 rfl) (ea_cons (ex_var 2 rfl) (ea_cons (ex_var 4 rfl) (ea_cons (ex_lst ea_nil) ea_nil)))) ⟨n, gs, others gs.length lot, part, [], rfl, hw, lo, (parts_sub part hin).1, hrd part hin, rfl⟩))
            (xs_one (x_extend 3 rfl (ex_lcF natD (fun k => !decide (k ∈ keptIn n gs (others gs.length lot) part [])) 7 rfl sc_lot_grown.nd (it_tup (ex_var 5 rfl) rfl) (by omega) (fun k _ _ _ _ _ _ => et_notInN (ex_var 7 rfl) (ex_var 6 rfl) (.inr rfl)) (fun k _ _ _ _ _ _ _ => ex_var 7 rfl)) rfl ?_))))) ?_
          · rw [List.length_map, List.length_map]
            omega
          · rw [← em, List.length_map, List.length_map]
            omega
          · rw [if_pos hc]
            rw [em]
            show Out.nx [_, _, _, Sl.o (.lst (b.1.map natD ++ ((guestsIn gs (others gs.length lot) part).filter fun k => !decide (k ∈ keptIn n gs (others gs.length lot) part [])).map natD)), _, _, _, _] = Out.nx [_, _, _, Sl.o (.lst ((b.1 ++ (guestsIn gs (others gs.length lot) part).filter fun k => !decide (k ∈ keptIn n gs (others gs.length lot) part [])).map natD)), _, _, _, _]
            rw [List.map_append]
            rfl
        · have em : moreOf n gs (others gs.length lot) part = [] := by
            unfold moreOf
            rw [if_neg hc]
          refine XS.to (xs_one (x_ifF (ET.to (et_gt (ex_len B.len (ex_var 5 rfl) (.inr rfl)) (ex_len B.len (ex_var 4 rfl) (.inr rfl))) (decide_eq_false ?_)) xs_nil)) ?_
          · rw [List.length_map, List.length_map]
            omega
          · rw [if_neg hc, em, List.append_nil]
            rfl
      · show (b.1 ++ moreOf n gs (others gs.length lot) part).length + 7 * rest.length ≤ 1000
        rw [List.length_append]
        omega
    case g2 =>
      refine ⟨fun _ h => h, ?_⟩
      show lot.length + 7 * (parts n gs (others gs.length lot)).length ≤ 1000
      omega
    case g3 =>
      rw [fold]
      rfl
    case g4 =>
      have := fl (parts n gs (others gs.length lot))
      rw [List.length_append]
      omega
    case g5 =>
      unfold lotGrown
      rw [mem_asc]
      constructor
      · exact fun h => h.2
      · intro h
        refine ⟨?_, h⟩
        rcases List.mem_append.mp h with z | z
        · exact hl.ok k z
        · obtain ⟨part, _, hk⟩ := List.mem_flatMap.mp z
          unfold moreOf at hk
          split at hk
          · exact (guestsIn_lot lo).ok k (List.mem_filter.mp hk).1
          · cases hk
def F_is_order_with (ds : List D) (d : D) : Prop := ∃ (x y t : D) (n : Nat) (gs : G) (lot : List Nat), ds = [x, y, t] ∧ WL x y n gs lot ∧ ((isTu t = false ∧ d = .bl false) ∨ ∃ row : List Nat, t = tD row ∧ IsOrder gs row ∧ d = .bl (lot.all fun k => decide (k ∈ Gr.without gs row)))
theorem ct_is_order_with (B : Bl mg) (d : Df K mg "is_order_with" s_is_order_with ["web", "lot", "thing"]) (c0 : Ct P w K mg base 7 "both_sure" ["web", "lot"] F_both_sure) (c1 : Ct P w K mg base 4 "is_order_in" ["web", "thing"] F_is_order_in) (c2 : Ct P w K mg base 3 "without_in" ["web", "row"] F_without_in) : Ct P w K mg base 8 "is_order_with" ["web", "lot", "thing"] F_is_order_with := by
  obtain ⟨f, fd, Fn, hb, hm⟩ := d.ex
  refine ct_any Fn sc_is_order_with hb hm (fun ds d h => ?_) (by decide) (fun cdv A outer s H E hr ds d h => ?_)
  · obtain ⟨x, y, t, n, gs, lot, rfl, _⟩ := h
    rfl
  · obtain ⟨x, y, t, n, gs, lot, rfl, ⟨h1, h2, h3, h4, h5, h6⟩, ⟨ht, rfl⟩ | ⟨row, rfl, ho, rfl⟩⟩ := h
    · exact .inl ⟨rfl, _, xs_cons (x_asg (ex_call c0 hr (ea_cons (ex_var 0 rfl) (ea_cons (ex_var 1 rfl) ea_nil)) ⟨x, n, gs, y, lot, rfl, h1, h2, h3, h4, h5, h6, rfl⟩) (ag_tup rfl (ags_cons (ag_name 3 sc_is_order_with.nd) (ags_cons (ag_name 4 sc_is_order_with.nd) ags_nil))))
        (xs_stop (x_ifT (ET.to (et_not (et_val (ex_call c1 (hr.mono (by decide)) (ea_cons (ex_var 3 rfl) (ea_cons (ex_var 2 rfl) ea_nil)) ⟨n, gs, t, rfl, h3, .inl ⟨ht, rfl⟩⟩))) rfl) (xs_one (x_retD ex_bl))))⟩
    · have ll := lot_len h6
      have fewG := h3.fewG
      have hlen : row.length = gs.length := by
        have := ho.length_eq
        rwa [List.length_range] at this
      refine .inl ⟨rfl, _, xs_cons (x_asg (ex_call c0 hr (ea_cons (ex_var 0 rfl) (ea_cons (ex_var 1 rfl) ea_nil)) ⟨x, n, gs, y, lot, rfl, h1, h2, h3, h4, h5, h6, rfl⟩) (ag_tup rfl (ags_cons (ag_name 3 sc_is_order_with.nd) (ags_cons (ag_name 4 sc_is_order_with.nd) ags_nil))))
        (xs_cons (x_ifF (ET.to (et_not (et_val (ex_call c1 (hr.mono (by decide)) (ea_cons (ex_var 3 rfl) (ea_cons (ex_var 2 rfl) ea_nil)) ⟨n, gs, _, rfl, h3, .inr ⟨row, rfl, ho, rfl⟩⟩))) rfl) xs_nil)
        (xs_cons (x_set 5 sc_is_order_with.nd (ex_call c2 (hr.mono (by decide)) (ea_cons (ex_var 3 rfl) (ea_cons (ex_var 2 rfl) ea_nil)) ⟨n, gs, row, rfl, fun k hk => List.mem_range.mp (ho.mem_iff.mp hk), ho.nodup_iff.mpr List.nodup_range, by omega, rfl⟩))
        (xs_one (x_retD (EX.to (ex_all rfl B.all (ex_lcA (xs := lot) (enc := natD) (fun k => .bl (decide (k ∈ Gr.without gs row))) 6 rfl sc_is_order_with.nd (it_tup (ex_var 4 rfl) rfl) (by omega) (fun k _ _ _ _ _ _ => ex_inN (ex_var 6 rfl) (ex_var 5 rfl) (.inl rfl))) (bs := lot.map fun k => decide (k ∈ Gr.without gs row)) ?_) ?_)))))⟩
      · rw [List.map_map]
        rfl
      · rw [List.all_map]
        rfl
def F_is_why_never (ds : List D) (d : D) : Prop := ∃ (x y t : D) (n : Nat) (gs : G) (lot : List Nat), ds = [x, y, t] ∧ WL x y n gs lot ∧ ((isTu t = false ∧ d = .bl false) ∨ ∃ es : List D, t = .tup es ∧ (∀ e ∈ es, Shp 0 e) ∧ es.length ≤ 1000 ∧ d = .bl (es.all (geD 0) && (barring n gs lot).any fun z => D.eqv (tD z) (.tup es)))
theorem ct_is_why_never (d : Df K mg "is_why_never" s_is_why_never ["web", "lot", "thing"]) (c0 : Ct P w K mg base 7 "both_sure" ["web", "lot"] F_both_sure) (c1 : Ct P w K mg base 3 "barring_in" ["web", "lot"] F_barring_in) (c2 : Ct P w K mg base 3 "is_one_of" ["thing", "parts"] F_is_one_of) : Ct P w K mg base 8 "is_why_never" ["web", "lot", "thing"] F_is_why_never := by
  obtain ⟨f, fd, Fn, hb, hm⟩ := d.ex
  refine ct_any Fn sc_is_why_never hb hm (fun ds d h => ?_) (by decide) (fun cdv A outer s H E hr ds d h => ?_)
  · obtain ⟨x, y, t, n, gs, lot, rfl, _⟩ := h
    rfl
  · obtain ⟨x, y, t, n, gs, lot, rfl, ⟨h1, h2, h3, h4, h5, h6⟩, hc⟩ := h
    have hf : d.flat = true := by
      rcases hc with ⟨_, rfl⟩ | ⟨es, _, _, _, rfl⟩ <;> rfl
    exact .inl ⟨hf, _, xs_cons (x_asg (ex_call c0 hr (ea_cons (ex_var 0 rfl) (ea_cons (ex_var 1 rfl) ea_nil)) ⟨x, n, gs, y, lot, rfl, h1, h2, h3, h4, h5, h6, rfl⟩) (ag_tup rfl (ags_cons (ag_name 3 sc_is_why_never.nd) (ags_cons (ag_name 4 sc_is_why_never.nd) ags_nil))))
      (xs_one (x_retD (ex_call c2 (hr.mono (by decide)) (ea_cons (ex_var 2 rfl) (ea_cons (ex_call c1 (hr.mono (by decide)) (ea_cons (ex_var 3 rfl) (ea_cons (ex_var 4 rfl) ea_nil)) ⟨n, gs, lot, rfl, h3, h6, rfl⟩) ea_nil)) ⟨t, barring n gs lot, rfl, hc⟩)))⟩
end
end Zf
/-! Defs, 18: what may raise. -/
namespace Zf
open PySem PySem.Spec PyProof.Rows L2 Zb Zt Gr
section
variable {P : Program} {w : World} {K : PySem.W.Frag} {mg : Str → Option Value} {base : Heap} {C : Addr}
def Rnd (n : Nat) (gs : G) (lot : List Nat) : Prop := ∀ part ∈ parts n gs (others gs.length lot), HasRd n gs (others gs.length lot) part
def X_lot (ds : List D) : Prop := ∃ (x y : D) (n : Nat) (gs : G) (lot : List Nat), ds = [x, y] ∧ WL x y n gs lot ∧ barring n gs lot ≠ []
def F_lot_sure (ds : List D) (d : D) : Prop := ∃ (x y : D) (n : Nat) (gs : G) (lot : List Nat), ds = [x, y] ∧ WL x y n gs lot ∧ barring n gs lot = [] ∧ Rnd n gs lot ∧ d = .tup [webD n gs, tD (lotGrown n gs lot)]
theorem neR {n : Nat} {gs : G} {lot : List Nat} (h : barring n gs lot ≠ []) : (barring n gs lot).isEmpty = false := by
  cases hb : barring n gs lot with
  | nil => exact absurd hb h
  | cons a b => rfl
theorem ct_lot_sure (T : Cn K mg "CanNot" C) (d : Df K mg "lot_sure" s_lot_sure ["web", "lot"]) (c0 : Ct P w K mg base 7 "both_sure" ["web", "lot"] F_both_sure) (c1 : Ct P w K mg base 3 "barring_in" ["web", "lot"] F_barring_in) (c2 : Ct P w K mg base 4 "lot_grown" ["web", "lot"] F_lot_grown) : CtX P w K mg base 8 "lot_sure" ["web", "lot"] C F_lot_sure X_lot := by
  obtain ⟨f, fd, Fn, hb, hm⟩ := d.ex
  refine ct_x Fn sc_lot_sure hb hm (fun ds h => ?_) (by decide) (fun cdv A outer s H E hr ds d h => ?_) (fun cdv A outer s H E hr ds h => ?_)
  · rcases h with ⟨x, y, n, gs, lot, rfl, _⟩ | ⟨d, x, y, n, gs, lot, rfl, _⟩ <;> rfl
  · obtain ⟨x, y, n, gs, lot, rfl, ⟨h1, h2, h3, h4, h5, h6⟩, hbr, hrd, rfl⟩ := h
    refine ⟨?_, xs_cons (x_asg (ex_call c0 hr (ea_cons (ex_var 0 rfl) (ea_cons (ex_var 1 rfl) ea_nil)) ⟨x, n, gs, y, lot, rfl, h1, h2, h3, h4, h5, h6, rfl⟩) (ag_tup rfl (ags_cons (ag_name 2 sc_lot_sure.nd) (ags_cons (ag_name 3 sc_lot_sure.nd) ags_nil))))
      (xs_cons (x_ifF (ET.to (et_neD (i := 2) (j := 1) (hu_of hr) (ex_call c1 (hr.mono (by decide)) (ea_cons (ex_var 2 rfl) (ea_cons (ex_var 3 rfl) ea_nil)) ⟨n, gs, lot, rfl, h3, h6, rfl⟩) (ex_lst ea_nil) (shp_rows _) shp_nil) ?_) xs_nil)
      (xs_one (x_retD (ex_tup (ea_cons (ex_var 2 rfl) (ea_cons (ex_call c2 (hr.mono (by decide)) (ea_cons (ex_var 2 rfl) (ea_cons (ex_var 3 rfl) ea_nil)) ⟨n, gs, lot, rfl, h3, h6, hrd, rfl⟩) ea_nil))))))⟩
    · show (D.flats [webD n gs, tD (lotGrown n gs lot)]) = true
      simp only [D.flats, flat_webD, flat_tD, Bool.and_self]
    · refine (congrArg (fun z => !z) (eqv_rows _)).trans ?_
      rw [hbr]
      rfl
  · obtain ⟨x, y, n, gs, lot, rfl, ⟨h1, h2, h3, h4, h5, h6⟩, hbr⟩ := h
    refine xr_cons (x_asg (ex_call c0 hr (ea_cons (ex_var 0 rfl) (ea_cons (ex_var 1 rfl) ea_nil)) ⟨x, n, gs, y, lot, rfl, h1, h2, h3, h4, h5, h6, rfl⟩) (ag_tup rfl (ags_cons (ag_name 2 sc_lot_sure.nd) (ags_cons (ag_name 3 sc_lot_sure.nd) ags_nil))))
      (xr_ifT (ET.to (et_neD (i := 2) (j := 1) (hu_of hr) (ex_call c1 (hr.mono (by decide)) (ea_cons (ex_var 2 rfl) (ea_cons (ex_var 3 rfl) ea_nil)) ⟨n, gs, lot, rfl, h3, h6, rfl⟩) (ex_lst ea_nil) (shp_rows _) shp_nil) ?_) (xr_raise rfl (takes_of rfl rfl rfl rfl) T fun _ z => z))
    refine (congrArg (fun z => !z) (eqv_rows _)).trans ?_
    rw [neR hbr]
    rfl
def F_lot_with (ds : List D) (d : D) : Prop := ∃ (x y : D) (n : Nat) (gs : G) (lot : List Nat), ds = [x, y] ∧ WL x y n gs lot ∧ barring n gs lot = [] ∧ Rnd n gs lot ∧ d = tD (lotGrown n gs lot)
theorem ct_lot_with (d : Df K mg "lot_with" s_lot_with ["web", "lot"]) (c0 : CtX P w K mg base 8 "lot_sure" ["web", "lot"] C F_lot_sure X_lot) : CtX P w K mg base 9 "lot_with" ["web", "lot"] C F_lot_with X_lot := by
  obtain ⟨f, fd, Fn, hb, hm⟩ := d.ex
  refine ct_x Fn sc_lot_with hb hm (fun ds h => ?_) (by decide) (fun cdv A outer s H E hr ds d h => ?_) (fun cdv A outer s H E hr ds h => ?_)
  · rcases h with ⟨x, y, n, gs, lot, rfl, _⟩ | ⟨d, x, y, n, gs, lot, rfl, _⟩ <;> rfl
  · obtain ⟨x, y, n, gs, lot, rfl, h1, h2, h3, rfl⟩ := h
    exact ⟨flat_tD _, xs_one (x_retD (ex_item (j := 1) (ex_callX c0 (takes_of rfl rfl rfl rfl) hr (ea_cons (ex_var 0 rfl) (ea_cons (ex_var 1 rfl) ea_nil)) ⟨x, y, n, gs, lot, rfl, h1, h2, h3, rfl⟩) ex_int (.inr rfl) rfl rfl))⟩
  · obtain ⟨x, y, n, gs, lot, rfl, h1, h2⟩ := h
    exact xr_ret (er_item (er_call c0 (takes_of rfl rfl rfl rfl) hr (ea_cons (ex_var 0 rfl) (ea_cons (ex_var 1 rfl) ea_nil)) ⟨x, y, n, gs, lot, rfl, h1, h2⟩ fun _ _ z => z) ex_int)
/-- what an order is made for -/
def Ogr (n : Nat) (gs : G) (lot : List Nat) : Prop := Rnd n gs (lotGrown n gs lot) ∧ ∀ part ∈ treesOf n gs (others gs.length (lotGrown n gs lot)), ∃ p ∈ part, p ∈ spare n gs (lotGrown n gs lot)
def F_order_with (ds : List D) (d : D) : Prop := ∃ (x y : D) (n : Nat) (gs : G) (lot : List Nat), ds = [x, y] ∧ WL x y n gs lot ∧ barring n gs lot = [] ∧ Rnd n gs lot ∧ Ogr n gs lot ∧ d = tD (orderInLot n gs (lotGrown n gs lot))
theorem grown_lot {n : Nat} {gs : G} {lot : List Nat} : Lot gs (lotGrown n gs lot) := pair_lot
theorem ct_order_with (d : Df K mg "order_with" s_order_with ["web", "lot"]) (c0 : CtX P w K mg base 8 "lot_sure" ["web", "lot"] C F_lot_sure X_lot) (c1 : Ct P w K mg base 5 "order_in_lot" ["web", "lot"] F_order_in_lot) : CtX P w K mg base 9 "order_with" ["web", "lot"] C F_order_with X_lot := by
  obtain ⟨f, fd, Fn, hb, hm⟩ := d.ex
  refine ct_x Fn sc_order_with hb hm (fun ds h => ?_) (by decide) (fun cdv A outer s H E hr ds d h => ?_) (fun cdv A outer s H E hr ds h => ?_)
  · rcases h with ⟨x, y, n, gs, lot, rfl, _⟩ | ⟨d, x, y, n, gs, lot, rfl, _⟩ <;> rfl
  · obtain ⟨x, y, n, gs, lot, rfl, h1, h2, h3, h4, rfl⟩ := h
    exact ⟨flat_tD _, xs_cons (x_asg (ex_callX c0 (takes_of rfl rfl rfl rfl) hr (ea_cons (ex_var 0 rfl) (ea_cons (ex_var 1 rfl) ea_nil)) ⟨x, y, n, gs, lot, rfl, h1, h2, h3, rfl⟩) (ag_tup rfl (ags_cons (ag_name 2 sc_order_with.nd) (ags_cons (ag_name 3 sc_order_with.nd) ags_nil))))
      (xs_one (x_retD (ex_call c1 (hr.mono (by decide)) (ea_cons (ex_var 2 rfl) (ea_cons (ex_var 3 rfl) ea_nil)) ⟨n, gs, lotGrown n gs lot, rfl, h1.2.2.1, grown_lot, h4.1, h4.2, rfl⟩)))⟩
  · obtain ⟨x, y, n, gs, lot, rfl, h1, h2⟩ := h
    exact xr_asg (er_call c0 (takes_of rfl rfl rfl rfl) hr (ea_cons (ex_var 0 rfl) (ea_cons (ex_var 1 rfl) ea_nil)) ⟨x, y, n, gs, lot, rfl, h1, h2⟩ fun _ _ z => z) (pg_tup rfl (pgs_cons (pg_name (i := 2) sc_order_with.nd rfl (.inl rfl)) (pgs_cons (pg_name (i := 3) sc_order_with.nd rfl (.inl rfl)) pgs_nil)))
def F_why_never (ds : List D) (d : D) : Prop := ∃ (x y : D) (n : Nat) (gs : G) (lot part : List Nat) (rest : List (List Nat)), ds = [x, y] ∧ WL x y n gs lot ∧ barring n gs lot = part :: rest ∧ d = tD part
def X_why (ds : List D) : Prop := ∃ (x y : D) (n : Nat) (gs : G) (lot : List Nat), ds = [x, y] ∧ WL x y n gs lot ∧ barring n gs lot = []
theorem ct_why_never (T : Cn K mg "CanNot" C) (d : Df K mg "why_never" s_why_never ["web", "lot"]) (c0 : Ct P w K mg base 7 "both_sure" ["web", "lot"] F_both_sure) (c1 : Ct P w K mg base 3 "barring_in" ["web", "lot"] F_barring_in) : CtX P w K mg base 8 "why_never" ["web", "lot"] C F_why_never X_why := by
  obtain ⟨f, fd, Fn, hb, hm⟩ := d.ex
  refine ct_x Fn sc_why_never hb hm (fun ds h => ?_) (by decide) (fun cdv A outer s H E hr ds d h => ?_) (fun cdv A outer s H E hr ds h => ?_)
  · rcases h with ⟨x, y, n, gs, lot, rfl, _⟩ | ⟨d, x, y, n, gs, lot, part, rest, rfl, _⟩ <;> rfl
  · obtain ⟨x, y, n, gs, lot, part, rest, rfl, ⟨h1, h2, h3, h4, h5, h6⟩, hbr, rfl⟩ := h
    refine ⟨flat_tD _, xs_cons (x_asg (ex_call c0 hr (ea_cons (ex_var 0 rfl) (ea_cons (ex_var 1 rfl) ea_nil)) ⟨x, n, gs, y, lot, rfl, h1, h2, h3, h4, h5, h6, rfl⟩) (ag_tup rfl (ags_cons (ag_name 2 sc_why_never.nd) (ags_cons (ag_name 3 sc_why_never.nd) ags_nil))))
      (xs_cons (x_set 4 sc_why_never.nd (ex_call c1 (hr.mono (by decide)) (ea_cons (ex_var 2 rfl) (ea_cons (ex_var 3 rfl) ea_nil)) ⟨n, gs, lot, rfl, h3, h6, rfl⟩))
      (xs_cons (x_ifF (ET.to (et_eqD (i := 2) (j := 1) (hu_of hr) (ex_var 4 rfl) (ex_lst ea_nil) (shp_rows _) shp_nil) ?_) xs_nil)
      (xs_one (x_retD (ex_item (j := 0) (ex_var 4 rfl) ex_int (.inl rfl) rfl ?_)))))⟩
    · refine (eqv_rows _).trans ?_
      rw [hbr]
      rfl
    · rw [hbr]
      rfl
  · obtain ⟨x, y, n, gs, lot, rfl, ⟨h1, h2, h3, h4, h5, h6⟩, hbr⟩ := h
    refine xr_cons (x_asg (ex_call c0 hr (ea_cons (ex_var 0 rfl) (ea_cons (ex_var 1 rfl) ea_nil)) ⟨x, n, gs, y, lot, rfl, h1, h2, h3, h4, h5, h6, rfl⟩) (ag_tup rfl (ags_cons (ag_name 2 sc_why_never.nd) (ags_cons (ag_name 3 sc_why_never.nd) ags_nil))))
      (xr_cons (x_set 4 sc_why_never.nd (ex_call c1 (hr.mono (by decide)) (ea_cons (ex_var 2 rfl) (ea_cons (ex_var 3 rfl) ea_nil)) ⟨n, gs, lot, rfl, h3, h6, rfl⟩))
      (xr_ifT (ET.to (et_eqD (i := 2) (j := 1) (hu_of hr) (ex_var 4 rfl) (ex_lst ea_nil) (shp_rows _) shp_nil) ?_) (xr_raise rfl (takes_of rfl rfl rfl rfl) T fun _ z => z)))
    refine (eqv_rows _).trans ?_
    rw [hbr]
    rfl
end
end Zf
/-! The law's defs, 1: lists, sameness. -/
namespace Zf
open PySem PySem.Spec PyProof.Rows L2 Zb Zt Gr
mutual
def lstd : D → D
  | .tup ds => .lst (lstds ds)
  | .lst ds => .lst (lstds ds)
  | d => d
def lstds : List D → List D
  | [] => []
  | d :: ds => lstd d :: lstds ds
end
theorem lstds_map : ∀ ds : List D, lstds ds = ds.map lstd
  | [] => by simp [lstds]
  | d :: ds => by rw [lstds, lstds_map ds]; rfl
/-- the first bit is how the things are alike -/
def tyD : D → Nat
  | .non => 0
  | .bl _ => 1
  | .int _ => 2
  | .str _ => 3
  | .tup _ => 4
  | .lst _ => 5
  | .dic _ _ => 6
/-- nested so deep at the most; text fit to be laid -/
def Dsh (k : Nat) (d : D) : Prop := Dep k d ∧ Shp k d
mutual
def sameD : D → D → Bool
  | g, .tup es => isTu g && sameI g es
  | g, .lst es => isLi g && sameI g es
  | g, .int i => isI g && (!isB g && D.eqv g (.int i))
  | g, e => D.eqv g e && ((isB g == isB e) && (g.isN == e.isN))
def sameI : D → List D → Bool
  | .tup gs, es => sameL gs es
  | .lst gs, es => sameL gs es
  | _, _ => false
def sameL : List D → List D → Bool
  | [], [] => true
  | g :: gs, e :: es => sameD g e && sameL gs es
  | _, _ => false
end
theorem sameL_len : ∀ {gs es : List D}, sameL gs es = (decide (gs.length = es.length) && (gs.zip es).all fun z => sameD z.1 z.2)
  | [], [] => by simp [sameL]
  | g :: gs, e :: es => by
    rw [sameL, sameL_len (gs := gs) (es := es)]
    simp only [List.length_cons, List.zip_cons_cons, List.all_cons, Nat.add_right_cancel_iff]
    cases decide (gs.length = es.length) <;> simp
  | [], e :: es => by simp [sameL]
  | g :: gs, [] => by simp [sameL]
section
variable {P : Program} {w : World} {K : PySem.W.Frag} {mg : Str → Option Value} {base : Heap}
def F_lists (k : Nat) (ds : List D) (d : D) : Prop := ∃ x, ds = [x] ∧ Dep k x ∧ x.flat = true ∧ d = lstd x
theorem flats_mem : ∀ {ds : List D}, D.flats ds = true → ∀ d ∈ ds, d.flat = true
  | [], _, d, h => by cases h
  | x :: ds, h, d, hd => by
    simp only [D.flats, Bool.and_eq_true] at h
    rcases List.mem_cons.mp hd with rfl | hd
    · exact h.1
    · exact flats_mem h.2 d hd
theorem ct_lists (B : Bl mg) (d : Df K mg "_law_lists" s_law_lists ["_law_matter"]) : ∀ k : Nat, Ct P w K mg base (k + 1) "_law_lists" ["_law_matter"] (F_lists k) := by
  obtain ⟨f, fd, Fn, hb, hm⟩ := d.ex
  intro k
  induction k with
  | zero =>
    refine ct_flat Fn sc_law_lists hb hm (fun ds d h => ?_) (by decide) (fun cdv A outer s H E hr ds d h => ?_)
    · obtain ⟨x, rfl, _, hf, _⟩ := h
      exact ⟨rfl, by simp [D.flats, hf]⟩
    · obtain ⟨x, rfl, hx, hf, rfl⟩ := h
      refine .inl ⟨false, xs_one (x_retD (ex_ifE (et_val (ex_isi2 kit_list kit_tuple B.isinstance B.list B.tuple (ex_var 0 rfl))) (fun h => ?_) fun h => ?_))⟩
      · rw [isT_list, isT_tuple] at h
        cases x <;> first | exact hx.elim | cases h
      · cases x <;> first | exact hx.elim | exact ex_var 0 rfl
  | succ k ih =>
    refine ct_flat Fn sc_law_lists hb hm (fun ds d h => ?_) (by decide) (fun cdv A outer s H E hr ds d h => ?_)
    · obtain ⟨x, rfl, _, hf, _⟩ := h
      exact ⟨rfl, by simp [D.flats, hf]⟩
    · obtain ⟨x, rfl, hx, hf, rfl⟩ := h
      refine .inl ⟨false, xs_one (x_retD (ex_ifE (et_val (ex_isi2 kit_list kit_tuple B.isinstance B.list B.tuple (ex_var 0 rfl))) (fun h => ?_) fun h => ?_))⟩
      · rw [isT_list, isT_tuple] at h
        cases x with
        | tup ds =>
          have hfs : D.flats ds = true := by simpa [D.flat] using hf
          refine EX.to (EX.kept (ex_lcA (xs := ds) (enc := id) lstd 1 rfl sc_law_lists.nd (it_tup (ex_var 0 rfl) ?_) (by have := hx.1; omega) (fun d hd _ _ _ _ _ => ex_call ih hr (ea_cons (ex_var 1 rfl) ea_nil) ⟨d, rfl, hx.2 d hd, flats_mem hfs d hd, rfl⟩)) rfl) ?_
          · show D.tup ds = D.tup (ds.map id)
            rw [List.map_id]
          · rw [lstd, lstds_map]
            rfl
        | lst ds => simp [D.flat] at hf
        | _ => cases h
      · rw [isT_list, isT_tuple] at h
        cases x <;> first | exact hx.elim | exact ex_var 0 rfl | cases h
def F_same (k : Nat) (ds : List D) (d : D) : Prop := ∃ g e, ds = [g, e] ∧ k ≤ 20 ∧ Dsh k g ∧ Dsh k e ∧ d = .bl (sameD g e)
theorem dsh_mem {k : Nat} {ds : List D} (h : Dsh (k + 1) (.lst ds) ∨ Dsh (k + 1) (.tup ds)) : ds.length ≤ 1000 ∧ ∀ d ∈ ds, Dsh k d := by
  rcases h with h | h
  · exact ⟨h.1.1, fun d hd => ⟨h.1.2 d hd, h.2 d hd⟩⟩
  · exact ⟨h.1.1, fun d hd => ⟨h.1.2 d hd, h.2 d hd⟩⟩
theorem tys (g : D) : isLi g = true → isTu g = false := by cases g <;> simp [isLi, isTu]
theorem seq_of {g : D} (h : (isLi g || isTu g) = true) : (∃ gs, g = .lst gs) ∨ ∃ gs, g = .tup gs := by
  cases g with
  | lst gs => exact .inl ⟨gs, rfl⟩
  | tup gs => exact .inr ⟨gs, rfl⟩
  | _ => cases h
theorem ct_same (B : Bl mg) (d : Df K mg "_law_same" s_law_same ["_law_got", "_law_due"]) : ∀ k : Nat, Ct P w K mg base (k + 1) "_law_same" ["_law_got", "_law_due"] (F_same k) := by
  obtain ⟨f, fd, Fn, hb, hm⟩ := d.ex
  -- due no list and no tuple
  have flat : ∀ (k : Nat) (cdv : Value) (A : Around) (outer : List Env) (s : Shared) (H : Hp) (E : XK), Room k (A.deeper (envOfC "_law_same" (defScope s_law_same) s.heap.objs.size f cdv)) → ∀ g e, k ≤ 20 → Dsh k g → Dsh k e → isLi e = false → isTu e = false →
      XS (cx0 P w K mg base ["_law_got", "_law_due", "_law_mine", "_law_its"] "_law_same" s_law_same f cdv A outer s H E) H (fun _ => True) (defBody s_law_same) (Zb.envOf ["_law_got", "_law_due", "_law_mine", "_law_its"] [g, e]) (.rt false (.bl (sameD g e))) := by
    intro k cdv A outer s H E hr g e hk hg he hl ht
    refine xs_cons (x_ifF (ET.to (et_val (ex_isi2 kit_list kit_tuple B.isinstance B.list B.tuple (ex_var 1 rfl))) ?_) xs_nil) ?_
    · rw [isT_list, isT_tuple]
      show (isLi e || isTu e) = false
      rw [hl, ht]
      rfl
    · by_cases hi : ∃ i, e = .int i
      · obtain ⟨i, rfl⟩ := hi
        refine xs_cons (x_ifF (ET.to (et_w (ew_or (et_isN (ex_var 1 rfl) ex_non) fun _ => ew_or1 (et_val (ex_isi2 kit_bool kit_str B.isinstance B.bool B.str (ex_var 1 rfl))))) ?_) xs_nil) (xs_one (x_retD (EX.to (ex_and (ex_isi kit_int B.isinstance B.int (ex_var 0 rfl)) fun _ => ex_and (ex_not (ex_isi kit_bool B.isinstance B.bool (ex_var 0 rfl))) fun _ => ex_one (ex_eqD (i := k) (j := k) (hu_of hr) (ex_var 0 rfl) (ex_var 1 rfl) hg.2 he.2 (by omega) (by omega))) ?_)))
        · rw [isT_bool, isT_str]
          rfl
        · rw [isT_int, isT_bool, sameD]
          rfl
      · have hs : sameD g e = (D.eqv g e && ((isB g == isB e) && (g.isN == e.isN))) := by
          cases e with
          | int i => exact absurd ⟨i, rfl⟩ hi
          | lst es => cases hl
          | tup es => cases ht
          | _ => simp only [sameD]
        have hc : (e.isN || (isB e || isS e)) = true := by
          cases e with
          | int i => exact absurd ⟨i, rfl⟩ hi
          | lst es => cases hl
          | tup es => cases ht
          | dic a b =>
            have := he.1
            cases k <;> exact this.elim
          | _ => rfl
        rw [hs]
        refine xs_stop (x_ifT (ET.to (et_w (ew_or (et_isN (ex_var 1 rfl) ex_non) fun _ => ew_or1 (et_val (ex_isi2 kit_bool kit_str B.isinstance B.bool B.str (ex_var 1 rfl))))) ?_) (xs_one (x_retD (EX.to (ex_and (ex_eqD (i := k) (j := k) (hu_of hr) (ex_var 0 rfl) (ex_var 1 rfl) hg.2 he.2 (by omega) (by omega)) fun _ => ex_and (ex_eqB (ex_isi kit_bool B.isinstance B.bool (ex_var 0 rfl)) (ex_isi kit_bool B.isinstance B.bool (ex_var 1 rfl))) fun _ => ex_one (ex_eqB (ex_isN (ex_var 0 rfl) ex_non) (ex_isN (ex_var 1 rfl) ex_non))) ?_))))
        · rw [isT_bool, isT_str]
          exact hc
        · rw [isT_bool, isT_bool]
          rfl
  intro k
  induction k with
  | zero =>
    refine ct_any Fn sc_law_same hb hm (fun ds d h => ?_) (by decide) (fun cdv A outer s H E hr ds d h => ?_)
    · obtain ⟨g, e, rfl, _⟩ := h
      rfl
    · obtain ⟨g, e, rfl, hk, hg, he, rfl⟩ := h
      refine .inl ⟨rfl, _, flat 0 cdv A outer s H E hr g e hk hg he ?_ ?_⟩
      · cases e <;> first | exact he.1.elim | rfl
      · cases e <;> first | exact he.1.elim | rfl
  | succ k ih =>
    refine ct_any Fn sc_law_same hb hm (fun ds d h => ?_) (by decide) (fun cdv A outer s H E hr ds d h => ?_)
    · obtain ⟨g, e, rfl, _⟩ := h
      rfl
    · obtain ⟨g, e, rfl, hk, hg, he, rfl⟩ := h
      by_cases hse : (isLi e || isTu e) = true
      · by_cases hgood : (isLi g == isLi e && isTu g == isTu e) = true
        · have hgs : (isLi g || isTu g) = true := by
            rw [Bool.and_eq_true] at hgood
            rw [eq_of_beq hgood.1, eq_of_beq hgood.2]
            exact hse
          have hq : ∃ gs es, ((g = .lst gs ∧ e = .lst es) ∨ (g = .tup gs ∧ e = .tup es)) := by
            rw [Bool.and_eq_true] at hgood
            rcases seq_of hgs with ⟨gs, rfl⟩ | ⟨gs, rfl⟩
            · rcases seq_of hse with ⟨es, rfl⟩ | ⟨es, rfl⟩
              · exact ⟨gs, es, .inl ⟨rfl, rfl⟩⟩
              · exact absurd hgood.1 (by simp [isLi])
            · rcases seq_of hse with ⟨es, rfl⟩ | ⟨es, rfl⟩
              · exact absurd hgood.1 (by simp [isLi])
              · exact ⟨gs, es, .inr ⟨rfl, rfl⟩⟩
          obtain ⟨gs, es, hge⟩ := hq
          have hsg : D.seq g gs := hge.elim (fun z => .inl z.1) fun z => .inr z.1
          have hse' : D.seq e es := hge.elim (fun z => .inl z.2) fun z => .inr z.2
          have mg' : gs.length ≤ 1000 ∧ ∀ d ∈ gs, Dsh k d := dsh_mem (by rcases hsg with rfl | rfl; exact .inl hg; exact .inr hg)
          have me' : es.length ≤ 1000 ∧ ∀ d ∈ es, Dsh k d := dsh_mem (by rcases hse' with rfl | rfl; exact .inl he; exact .inr he)
          have hsame : sameD g e = (decide (gs.length = es.length) && (gs.zip es).all fun z => sameD z.1 z.2) := by
            rcases hge with ⟨rfl, rfl⟩ | ⟨rfl, rfl⟩
            · rw [sameD, sameI, sameL_len]
              rfl
            · rw [sameD, sameI, sameL_len]
              rfl
          rw [hsame]
          refine .inl ⟨rfl, _, xs_stop (x_ifT (ET.to (et_val (ex_isi2 kit_list kit_tuple B.isinstance B.list B.tuple (ex_var 1 rfl))) ?h1) (xs_cons (x_ifF (ET.to (et_w (ew_or (et_neB (ex_isi kit_list B.isinstance B.list (ex_var 0 rfl)) (ex_isi kit_list B.isinstance B.list (ex_var 1 rfl))) fun _ => ew_or1 (et_neB (ex_isi kit_tuple B.isinstance B.tuple (ex_var 0 rfl)) (ex_isi kit_tuple B.isinstance B.tuple (ex_var 1 rfl))))) ?h2) xs_nil)
            (xs_one (x_retD (EX.to (ex_and (ex_eqI (ex_len B.len (ex_var 0 rfl) hsg) (ex_len B.len (ex_var 1 rfl) hse')) fun _ => ex_one (ex_all rfl B.all (ex_lcT2 (xs := gs.zip es) (fun z => z.1) (fun z => z.2) (fun z => .bl (sameD z.1 z.2)) 2 3 rfl sc_law_same.nd (it_zip B.zip (ex_var 0 rfl) (ex_var 1 rfl) ?h3) ?h4 (fun z hz _ _ _ _ _ => ex_call ih hr (ea_cons (ex_var 2 rfl) (ea_cons (ex_var 3 rfl) ea_nil)) ⟨z.1, z.2, rfl, by omega, ?h5, ?h6, rfl⟩)) (bs := (gs.zip es).map fun z => sameD z.1 z.2) ?h7)) ?h8)))))⟩
          case h1 =>
            rw [isT_list, isT_tuple]
            exact hse
          case h2 =>
            rw [isT_list, isT_list, isT_tuple, isT_tuple]
            show ((!(isLi g == isLi e)) || (!(isTu g == isTu e))) = false
            rw [Bool.and_eq_true] at hgood
            rw [hgood.1, hgood.2]
            rfl
          case h3 =>
            rcases hge with ⟨rfl, rfl⟩ | ⟨rfl, rfl⟩
            · exact .inr ⟨rfl, rfl⟩
            · exact .inl ⟨rfl, rfl⟩
          case h4 =>
            rw [List.length_zip]
            omega
          case h5 => exact mg'.2 _ (List.of_mem_zip hz).1
          case h6 => exact me'.2 _ (List.of_mem_zip hz).2
          case h7 =>
            rw [List.map_map]
            rfl
          case h8 =>
            rw [List.all_map]
            refine congrArg (fun z => Res.d (.bl z)) ?_
            have : decide ((gs.length : Int) = (es.length : Int)) = decide (gs.length = es.length) := decide_eq_decide.mpr (by omega)
            rw [this]
            rfl
        · have hbad : ((!(isLi g == isLi e)) || (!(isTu g == isTu e))) = true := by
            cases h1 : (isLi g == isLi e) <;> cases h2 : (isTu g == isTu e) <;> simp_all
          have hsame : sameD g e = false := by
            rcases seq_of hse with ⟨es, rfl⟩ | ⟨es, rfl⟩
            · rw [sameD]
              have : isLi g = false := by
                cases hl : isLi g with
                | false => rfl
                | true =>
                  have := tys g hl
                  rw [hl, this] at hbad
                  cases hbad
              rw [this]
              rfl
            · rw [sameD]
              have : isTu g = false := by
                cases ht : isTu g with
                | false => rfl
                | true =>
                  have : isLi g = false := by
                    cases g <;> simp [isTu] at ht <;> rfl
                  rw [ht, this] at hbad
                  cases hbad
              rw [this]
              rfl
          rw [hsame]
          refine .inl ⟨rfl, _, xs_stop (x_ifT (ET.to (et_val (ex_isi2 kit_list kit_tuple B.isinstance B.list B.tuple (ex_var 1 rfl))) ?_) (xs_stop (x_ifT (ET.to (et_w (ew_or (et_neB (ex_isi kit_list B.isinstance B.list (ex_var 0 rfl)) (ex_isi kit_list B.isinstance B.list (ex_var 1 rfl))) fun _ => ew_or1 (et_neB (ex_isi kit_tuple B.isinstance B.tuple (ex_var 0 rfl)) (ex_isi kit_tuple B.isinstance B.tuple (ex_var 1 rfl))))) ?_) (xs_one (x_retD ex_bl)))))⟩
          · rw [isT_list, isT_tuple]
            exact hse
          · rw [isT_list, isT_list, isT_tuple, isT_tuple]
            exact hbad
      · have h1 : isLi e = false := by cases h : isLi e <;> simp_all
        have h2 : isTu e = false := by cases h : isTu e <;> simp_all
        exact .inl ⟨rfl, _, flat (k + 1) cdv A outer s H E hr g e hk hg he h1 h2⟩
end
end Zf
/-! The law's defs, 2: seats, runs, parts. -/
namespace Zf
open PySem PySem.Spec PyProof.Rows L2 Zb Zt Gr
theorem opts_sc (ts : List (Option Nat)) : (ts.map optD).all D.sc = true := by
  rw [List.all_eq_true]
  intro d hd
  obtain ⟨o, _, rfl⟩ := List.mem_map.mp hd
  cases o <;> rfl
theorem inD_opt (p : Nat) : ∀ ts : List (Option Nat), inD (natD p) (ts.map optD) = decide (p ∈ ts.filterMap id)
  | [] => rfl
  | o :: ts => by
    have ih := inD_opt p ts
    unfold inD inV at ih ⊢
    rw [List.map_cons, List.map_cons, List.any_cons, ih]
    cases o with
    | none =>
      have : (D.toV (optD none) == D.toV (natD p)) = false := rfl
      first
        | rw [this, Bool.false_or]; rfl
        | rfl
    | some q =>
      show (((q : Int) == (p : Int)) || _) = _
      by_cases e : p = q
      · subst e
        simp
      · have : ((q : Int) == (p : Int)) = false := beq_eq_false_iff_ne.mpr (by omega)
        rw [this]
        simp [e]
theorem somes_id (l : List Nat) : (l.map some).filterMap id = l := by
  induction l with
  | nil => rfl
  | cons a l ih => rw [List.map_cons, List.filterMap_cons]; simp [ih]
/-- a run, guest by guest: the seats by guest, the places taken -/
def runStep (gs : G) (st : List (Option Nat) × List Nat) (k : Nat) : List (Option Nat) × List Nat := (st.1.set k (seat gs st.2 k), push st.2 (seat gs st.2 k))
def runL (gs : G) (row : List Nat) : List (Option Nat) := (row.foldl (runStep gs) (List.replicate gs.length none, [])).1
def lackL (ts : List (Option Nat)) : List Nat := (ts.zipIdx.filter fun z => z.1.isNone).map (·.2)
theorem seat_new {gs : G} {taken : List Nat} {k p : Nat} (h : seat gs taken k = some p) : p ∉ taken := by
  unfold seat at h
  split at h
  · cases h; assumption
  · split at h
    · cases h
    · cases h; assumption
theorem push_some {gs : G} {taken : List Nat} {k p : Nat} (h : seat gs taken k = some p) : push taken (some p) = taken ++ [p] := by
  show addOne taken p = _
  unfold addOne
  rw [if_neg (seat_new h)]
section
variable {P : Program} {w : World} {K : PySem.W.Frag} {mg : Str → Option Value} {base : Heap}
theorem ct_l_unwanted (B : Bl mg) (d : Df K mg "_law_unwanted" s_law_unwanted ["_law_net_here"]) : Ct P w K mg base 1 "_law_unwanted" ["_law_net_here"] F_unwanted_in := by
  obtain ⟨f, fd, Fn, hb, hm⟩ := d.ex
  refine ct_any Fn sc_law_unwanted hb hm (fun ds d h => ?_) (by decide) (fun cdv A outer s H E hr ds d h => ?_)
  · obtain ⟨n, gs, rfl, _⟩ := h
    rfl
  · obtain ⟨n, gs, rfl, hw, rfl⟩ := h
    have few := hw.few
    have fewG := hw.fewG
    refine .inr (.inl ⟨⟨_, rfl, flats_map _ flat_nat _⟩, xs_cons (x_set 1 sc_law_unwanted.nd (ex_lcA (xs := gs) (enc := gD) (fun g => natD g.1) 2 rfl sc_law_unwanted.nd (it_tup (ex_gsts (ex_var 0 rfl)) rfl) (by omega) (fun g _ _ _ _ _ _ => ex_item (j := 0) (ex_var 2 rfl) ex_int (.inr rfl) rfl rfl)))
      (xs_one (x_retW (ex_lcF natD (fun p => !decide (p ∈ gs.map (·.1))) 2 rfl sc_law_unwanted.nd (it_range B.range (ex_many (ex_var 0 rfl)) (by omega)) (by rw [List.length_range]; omega) (fun p _ _ _ _ _ _ => et_notInN (ex_var 2 rfl) (ex_var 1 rfl) (.inr ?_)) (fun p _ _ _ _ _ _ _ => ex_var 2 rfl))))⟩)
    show D.lst (gs.map fun g => natD g.1) = lD (gs.map (·.1))
    unfold lD
    rw [List.map_map]
    rfl
def F_l_seat (ds : List D) (d : D) : Prop := ∃ (n : Nat) (gs : G) (T : D) (ts : List (Option Nat)) (k : Nat), ds = [webD n gs, T, natD k] ∧ (T = .tup (ts.map optD) ∨ T = .lst (ts.map optD)) ∧ k < gs.length ∧ d = optD (seat gs (ts.filterMap id) k)
theorem ct_l_seat (d : Df K mg "_law_seat" s_law_seat ["_law_net_here", "_law_taken_so", "_law_k"]) : Ct P w K mg base 1 "_law_seat" ["_law_net_here", "_law_taken_so", "_law_k"] F_l_seat := by
  obtain ⟨f, fd, Fn, hb, hm⟩ := d.ex
  refine ct_any Fn sc_law_seat hb hm (fun ds d h => ?_) (by decide) (fun cdv A outer s H E hr ds d h => ?_)
  · obtain ⟨n, gs, T, ts, k, rfl, _⟩ := h
    rfl
  · obtain ⟨n, gs, T, ts, k, rfl, hT, hk, rfl⟩ := h
    refine .inl ⟨flat_optD _, false, xs_cons (x_asg (ex_gst (ex_var 0 rfl) (ex_var 2 rfl) hk) (ag_tup rfl (ags_cons (ag_name 3 sc_law_seat.nd) (ags_cons (ag_name 4 sc_law_seat.nd) ags_nil)))) ?_⟩
    by_cases h1 : (gAt gs k).1 ∈ ts.filterMap id
    · refine xs_cons (x_ifF (ET.to (et_notIn (ex_var 3 rfl) (ex_var 1 rfl) rfl (opts_sc ts) hT) (by rw [inD_opt, decide_eq_true h1]; rfl)) xs_nil) (xs_one (x_retD (ex_ifE (et_notIn (ex_var 4 rfl) (ex_var 1 rfl) rfl (opts_sc ts) hT) (fun h => ?_) fun h => ?_)))
      · rw [inD_opt] at h
        have h : (gAt gs k).2 ∉ ts.filterMap id := fun z => by rw [decide_eq_true z] at h; cases h
        unfold seat
        rw [if_neg (fun z => z h1), if_neg h]
        exact ex_var 4 rfl
      · rw [inD_opt] at h
        have h : (gAt gs k).2 ∈ ts.filterMap id := by
          by_cases z : (gAt gs k).2 ∈ ts.filterMap id
          · exact z
          · rw [decide_eq_false z] at h
            cases h
        unfold seat
        rw [if_neg (fun z => z h1), if_pos h]
        exact ex_non
    · refine xs_stop (x_ifT (ET.to (et_notIn (ex_var 3 rfl) (ex_var 1 rfl) rfl (opts_sc ts) hT) (by rw [inD_opt, decide_eq_false h1]; rfl)) (xs_one (x_retD ?_)))
      unfold seat
      rw [if_pos h1]
      exact ex_var 3 rfl
def F_l_run (ds : List D) (d : D) : Prop := ∃ (n : Nat) (gs : G) (row : List Nat), ds = [webD n gs, tD row] ∧ Web n gs ∧ (∀ k ∈ row, k < gs.length) ∧ row.length ≤ 1000 ∧ d = .tup ((runL gs row).map optD)
theorem flats_opt (ts : List (Option Nat)) : D.flats (ts.map optD) = true := flats_map _ flat_optD _
theorem ct_l_run (B : Bl mg) (d : Df K mg "_law_run" s_law_run ["_law_net_here", "_law_walk"]) (c1 : Ct P w K mg base 1 "_law_seat" ["_law_net_here", "_law_taken_so", "_law_k"] F_l_seat) : Ct P w K mg base 2 "_law_run" ["_law_net_here", "_law_walk"] F_l_run := by
  obtain ⟨f, fd, Fn, hb, hm⟩ := d.ex
  refine ct_any Fn sc_law_run hb hm (fun ds d h => ?_) (by decide) (fun cdv A outer s H E hr ds d h => ?_)
  · obtain ⟨n, gs, row, rfl, _⟩ := h
    rfl
  · obtain ⟨n, gs, row, rfl, hw, h1, h2, rfl⟩ := h
    have fewG := hw.fewG
    have fold : ∀ (row : List Nat) (st : List (Option Nat) × List Nat) (s1 s2 : Sl), (row.foldl (fun (b : (List (Option Nat) × List Nat) × Sl × Sl) k => (runStep gs b.1 k, Sl.d (natD k), Sl.d (optD (seat gs b.1.2 k)))) (st, s1, s2)).1 = row.foldl (runStep gs) st := by
      intro row
      induction row with
      | nil => intro st s1 s2; rfl
      | cons k row ih => intro st s1 s2; rw [List.foldl_cons, ih]; rfl
    refine .inl ⟨flats_opt _, _, xs_cons (x_par2 2 3 rfl sc_law_run.nd (ep_o (EX.to (r' := .new (.lst ((List.replicate gs.length none).map optD))) (ex_rep (i := (gs.length : Int)) (ex_lst (ea_cons ex_non ea_nil)) (EX.to (ex_len B.len (ex_gsts (ex_var 0 rfl)) (.inr rfl)) (by rw [List.length_map])) rfl (by omega) (by omega) ?g0) ?g1) (ep_o (ex_lst ea_nil) ep_nil)))
      (xs_cons (x_for rfl (it_tup (ex_var 1 rfl) rfl) (lp_fold (b := ((List.replicate gs.length none, []), .no, .no)) (xs := row) (enc := natD)
        (fun b : (List (Option Nat) × List Nat) × Sl × Sl => [.d (webD n gs), .d (tD row), .o (.lst (b.1.1.map optD)), .o (lD b.1.2), b.2.1, b.2.2]) (fun b k => (runStep gs b.1 k, .d (natD k), .d (optD (seat gs b.1.2 k))))
        (fun b rest => (∀ k ∈ rest, k < gs.length) ∧ b.1.1.length = gs.length ∧ b.1.2.length + rest.length ≤ 1000) (fun b k rest hp => ?g2) ?g3))
      (xs_one (x_retD (EX.to (ex_tupleOf B.tuple (ex_own 2 rfl) (.inl rfl)) ?g4))))⟩
    case g0 =>
      show 1 * (gs.length : Int).toNat ≤ 100000
      omega
    case g1 =>
      rw [List.map_replicate]
      show Res.new (.lst (List.replicate (gs.length : Int).toNat [D.non]).flatten) = _
      rw [Int.toNat_natCast]
      congr 2
      induction gs.length with
      | zero => rfl
      | succ m ih => rw [List.replicate_succ, List.flatten_cons, ih]; rfl
    case g2 =>
      obtain ⟨p1, p2, p3⟩ := hp
      have hk := p1 k (List.mem_cons_self ..)
      rw [List.length_cons] at p3
      refine ⟨_, _, ag_name 4 sc_law_run.nd, xs_cons (x_set 5 sc_law_run.nd (ex_call c1 hr (ea_cons (ex_var 0 rfl) (ea_cons (ex_own 3 rfl) (ea_cons (ex_var 4 rfl) ea_nil))) ⟨n, gs, lD b.1.2, b.1.2.map some, k, rfl, .inr ?_, hk, rfl⟩))
        (xs_cons (x_lput (j := k) 2 rfl (ex_var 5 rfl) (ex_var 4 rfl) ?_) ?_), fun j hj => p1 j (List.mem_cons_of_mem _ hj), ?_, ?_⟩
      · unfold lD
        rw [List.map_map]
        rfl
      · rw [List.length_map, p2]
        exact hk
      · cases hs : seat gs b.1.2 k with
        | none =>
          have hs' : seat gs ((b.1.2.map some).filterMap id) k = none := by rw [somes_id]; exact hs
          rw [hs']
          refine XS.to (xs_one (x_ifF (ET.to (et_notN (ex_var 5 rfl) ex_non) rfl) xs_nil)) ?_
          unfold runStep
          rw [hs]
          show Out.nx [_, _, Sl.o (.lst ((b.1.1.map optD).set k (optD none))), _, _, _] = Out.nx [_, _, Sl.o (.lst ((b.1.1.set k none).map optD)), _, _, _]
          rw [List.map_set]
          rfl
        | some p =>
          have hs' : seat gs ((b.1.2.map some).filterMap id) k = some p := by rw [somes_id]; exact hs
          rw [hs']
          refine XS.to (xs_one (x_ifT (ET.to (et_notN (ex_var 5 rfl) ex_non) rfl) (xs_one (x_append 3 rfl (ex_var 5 rfl) ?_)))) ?_
          · rw [List.length_map]
            omega
          · unfold runStep
            rw [hs, push_some hs]
            show Out.nx [_, _, Sl.o (.lst ((b.1.1.map optD).set k (optD (some p)))), Sl.o (.lst (b.1.2.map natD ++ [natD p])), _, _] = Out.nx [_, _, Sl.o (.lst ((b.1.1.set k (some p)).map optD)), Sl.o (.lst ((b.1.2 ++ [p]).map natD)), _, _]
            rw [List.map_set, List.map_append]
            rfl
      · show (b.1.1.set k _).length = _
        rw [List.length_set]
        exact p2
      · show (push b.1.2 (seat gs b.1.2 k)).length + rest.length ≤ 1000
        cases hs : seat gs b.1.2 k with
        | none =>
          show b.1.2.length + rest.length ≤ 1000
          omega
        | some p =>
          rw [push_some hs, List.length_append, List.length_singleton]
          omega
    case g3 =>
      refine ⟨h1, by simp, ?_⟩
      show 0 + row.length ≤ 1000
      omega
    case g4 =>
      rw [fold]
      rfl
def F_l_lacking (ds : List D) (d : D) : Prop := ∃ ts : List (Option Nat), ds = [.tup (ts.map optD)] ∧ ts.length ≤ 1000 ∧ d = tD (lackL ts)
theorem zip_opt (l : List (Option Nat)) : ((l.map optD).zipIdx.map fun z => D.tup [natD z.2, z.1]) = l.zipIdx.map fun z => D.tup [natD z.2, optD z.1] := by
  refine List.ext_getElem? fun i => ?_
  rw [List.getElem?_map, List.getElem?_map, List.getElem?_zipIdx, List.getElem?_zipIdx, List.getElem?_map]
  cases l[i]? <;> rfl
theorem ct_l_lacking (B : Bl mg) (d : Df K mg "_law_lacking" s_law_lacking ["_law_seats"]) : Ct P w K mg base 1 "_law_lacking" ["_law_seats"] F_l_lacking := by
  obtain ⟨f, fd, Fn, hb, hm⟩ := d.ex
  refine ct_any Fn sc_law_lacking hb hm (fun ds d h => ?_) (by decide) (fun cdv A outer s H E hr ds d h => ?_)
  · obtain ⟨ts, rfl, _⟩ := h
    rfl
  · obtain ⟨ts, rfl, h1, rfl⟩ := h
    refine .inl ⟨flat_tD _, _, xs_one (x_retD (EX.to (ex_tupleOf B.tuple (ex_lcT2F (xs := ts.zipIdx) (fun z => natD z.2) (fun z => optD z.1) (fun z => natD z.2) (fun z => z.1.isNone) 1 2 rfl sc_law_lacking.nd (IT.to (it_enumT B.enumerate (ex_var 0 rfl) rfl) (zip_opt ts)) (by rw [List.length_zipIdx]; omega) (fun z _ _ _ _ _ _ => ET.to (et_isN (ex_var 2 rfl) ex_non) (optD_isN z.1)) (fun z _ _ _ _ _ _ _ => ex_var 1 rfl)) (.inl rfl)) ?_))⟩
    unfold tD lackL
    rw [List.map_map]
    rfl
theorem ct_l_others (B : Bl mg) (d : Df K mg "_law_others" s_law_others ["_law_net_here", "_law_heap"]) : Ct P w K mg base 1 "_law_others" ["_law_net_here", "_law_heap"] F_others_in := by
  obtain ⟨f, fd, Fn, hb, hm⟩ := d.ex
  refine ct_any Fn sc_law_others hb hm (fun ds d h => ?_) (by decide) (fun cdv A outer s H E hr ds d h => ?_)
  · obtain ⟨n, gs, lot, rfl, _⟩ := h
    rfl
  · obtain ⟨n, gs, lot, rfl, hw, rfl⟩ := h
    have h2 := hw.fewG
    exact .inl ⟨flat_tD _, _, xs_one (x_retD (EX.to (ex_tupleOf B.tuple (ex_lcF natD (fun k => !decide (k ∈ lot)) 2 rfl sc_law_others.nd (it_range (n := gs.length) B.range (EX.to (ex_len B.len (ex_gsts (ex_var 0 rfl)) (.inr rfl)) (by rw [List.length_map])) (by omega)) (by rw [List.length_range]; omega) (fun p hp _ _ _ _ _ => et_notInN (ex_var 2 rfl) (ex_var 1 rfl) (.inl rfl)) (fun p hp _ _ _ _ _ _ => ex_var 2 rfl)) (.inl rfl)) rfl))⟩
theorem ct_l_in_part (B : Bl mg) (d : Df K mg "_law_in_part" s_law_in_part ["_law_net_here", "_law_heap", "_law_part_so"]) : Ct P w K mg base 1 "_law_in_part" ["_law_net_here", "_law_heap", "_law_part_so"] F_guests_in := by
  obtain ⟨f, fd, Fn, hb, hm⟩ := d.ex
  refine ct_any Fn sc_law_in_part hb hm (fun ds d h => ?_) (by decide) (fun cdv A outer s H E hr ds d h => ?_)
  · obtain ⟨n, gs, lot, part, rfl, _⟩ := h
    rfl
  · obtain ⟨n, gs, lot, part, rfl, hw, hl, rfl⟩ := h
    have h2 := hw.fewG
    have h3 := lot_len hl
    exact .inl ⟨flat_tD _, _, xs_one (x_retD (ex_tupleOf B.tuple (ex_lcF natD (fun k => decide ((gAt gs k).1 ∈ part)) 3 rfl sc_law_in_part.nd (it_tup (ex_var 1 rfl) rfl) (by omega) (fun k hk _ _ _ _ _ => et_inN (ex_near (ex_var 0 rfl) (ex_var 3 rfl) (hl.ok k hk)) (ex_var 2 rfl) (.inl rfl)) (fun k hk _ _ _ _ _ _ => ex_var 3 rfl)) (.inl rfl)))⟩
def kindS (gs : G) (rest part : List Nat) : Str := if (guestsIn gs rest part).length < part.length then "tree" else if (guestsIn gs rest part).length = part.length then "full" else "crowded"
def F_l_kind (ds : List D) (d : D) : Prop := ∃ (n : Nat) (gs : G) (rest part : List Nat), ds = [webD n gs, tD rest, tD part] ∧ Web n gs ∧ Lot gs rest ∧ d = .str (kindS gs rest part)
theorem ct_l_kind (B : Bl mg) (d : Df K mg "_law_part_kind" s_law_part_kind ["_law_net_here", "_law_heap", "_law_part_so"]) (c1 : Ct P w K mg base 1 "_law_in_part" ["_law_net_here", "_law_heap", "_law_part_so"] F_guests_in) : Ct P w K mg base 2 "_law_part_kind" ["_law_net_here", "_law_heap", "_law_part_so"] F_l_kind := by
  obtain ⟨f, fd, Fn, hb, hm⟩ := d.ex
  refine ct_any Fn sc_law_part_kind hb hm (fun ds d h => ?_) (by decide) (fun cdv A outer s H E hr ds d h => ?_)
  · obtain ⟨n, gs, rest, part, rfl, _⟩ := h
    rfl
  · obtain ⟨n, gs, rest, part, rfl, hw, hl, rfl⟩ := h
    refine .inl ⟨rfl, _, xs_cons (x_set 3 sc_law_part_kind.nd (ex_sub (ex_len B.len (ex_call c1 hr (ea_cons (ex_var 0 rfl) (ea_cons (ex_var 1 rfl) (ea_cons (ex_var 2 rfl) ea_nil))) ⟨n, gs, rest, part, rfl, hw, hl, rfl⟩) (.inr rfl)) (ex_len B.len (ex_var 2 rfl) (.inr rfl))))
      (xs_one (x_retD (ex_ifE (et_lt (ex_var 3 rfl) ex_int) (fun h => ?_) fun h => ex_ifE (et_eqI (ex_var 3 rfl) ex_int) (fun h' => ?_) fun h' => ?_)))⟩
    · rw [List.length_map, List.length_map, decide_eq_true_eq] at h
      unfold kindS
      rw [if_pos (by omega)]
      exact ex_str
    · rw [List.length_map, List.length_map, decide_eq_false_iff_not] at h
      rw [List.length_map, List.length_map, decide_eq_true_eq] at h'
      unfold kindS
      rw [if_neg (by omega), if_pos (by omega)]
      exact ex_str
    · rw [List.length_map, List.length_map, decide_eq_false_iff_not] at h h'
      unfold kindS
      rw [if_neg (by omega), if_neg (by omega)]
      exact ex_str
/-- the free places of a part: nobody wants them, no guest of the lot ends there -/
def freeIn (n : Nat) (gs : G) (lot part : List Nat) : List Nat := part.filter fun p => decide (p ∈ unwanted n gs) && (lot.filter fun k => decide (p ∈ [(gAt gs k).1, (gAt gs k).2])).isEmpty
def F_l_free (ds : List D) (d : D) : Prop := ∃ (n : Nat) (gs : G) (lot part : List Nat), ds = [webD n gs, tD lot, tD part] ∧ Web n gs ∧ Lot gs lot ∧ part.length ≤ 1000 ∧ d = lD (freeIn n gs lot part)
theorem ct_l_free (d : Df K mg "_law_free_in" s_law_free_in ["_law_net_here", "_law_heap", "_law_part_so"]) (c1 : Ct P w K mg base 1 "_law_unwanted" ["_law_net_here"] F_unwanted_in) : Ct P w K mg base 2 "_law_free_in" ["_law_net_here", "_law_heap", "_law_part_so"] F_l_free := by
  obtain ⟨f, fd, Fn, hb, hm⟩ := d.ex
  refine ct_any Fn sc_law_free_in hb hm (fun ds d h => ?_) (by decide) (fun cdv A outer s H E hr ds d h => ?_)
  · obtain ⟨n, gs, lot, part, rfl, _⟩ := h
    rfl
  · obtain ⟨n, gs, lot, part, rfl, hw, hl, hp, rfl⟩ := h
    have fewG := hw.fewG
    have ll := lot_len hl
    let q : Nat → Bool := fun p => decide (p ∈ unwanted n gs) && (lot.filter fun k => decide (p ∈ [(gAt gs k).1, (gAt gs k).2])).isEmpty
    have fold : ∀ (js acc : List Nat) (s : Sl), (js.foldl (fun (b : List Nat × Sl) j => (if q j = true then b.1 ++ [j] else b.1, Sl.d (natD j))) (acc, s)).1 = acc ++ js.filter q := by
      intro js
      induction js with
      | nil => intro acc s; simp
      | cons j js ih =>
        intro acc s
        rw [List.foldl_cons, ih]
        by_cases h : q j = true
        · rw [if_pos h, List.filter_cons_of_pos h]
          simp
        · rw [if_neg h, List.filter_cons_of_neg h]
    refine .inr (.inl ⟨⟨_, rfl, flats_map _ flat_nat _⟩, xs_cons (x_par2 3 4 rfl sc_law_free_in.nd (ep_o (ex_lst ea_nil) (ep_d (ex_call c1 hr (ea_cons (ex_var 0 rfl) ea_nil) ⟨n, gs, rfl, hw, rfl⟩) ep_nil)))
      (xs_cons (x_for rfl (it_tup (ex_var 2 rfl) rfl) (lp_fold (b := ([], .no)) (xs := part) (enc := natD) (fun b : List Nat × Sl => [.d (webD n gs), .d (tD lot), .d (tD part), .o (lD b.1), .d (lD (unwanted n gs)), b.2, .no])
        (fun b j => (if q j = true then b.1 ++ [j] else b.1, .d (natD j))) (fun b rest => b.1.length + rest.length ≤ 1000) (fun b p rest hb => ?g1) ?g2))
      (xs_one ?g3))⟩)
    case g1 =>
      rw [List.length_cons] at hb
      refine ⟨_, _, ag_name 5 sc_law_free_in.nd, xs_one (x_if (x := q p) (ET.to (et_w (ew_and (et_inN (ex_var 5 rfl) (ex_var 4 rfl) (.inr rfl)) fun _ => ew_and1 (ET.to (et_eqD (i := 1) (j := 1) (hu_of hr) (ex_lcF (xs := lot) (enc := natD) natD (fun k => decide (p ∈ [(gAt gs k).1, (gAt gs k).2])) 6 rfl sc_law_free_in.nd (it_tup (ex_var 1 rfl) rfl) (by omega) (fun k hk _ _ _ _ _ => et_inN (ex_var 5 rfl) (ex_gst (ex_var 0 rfl) (ex_var 6 rfl) (hl.ok k hk)) (.inl rfl)) (fun k _ _ _ _ _ _ _ => ex_var 6 rfl)) (ex_lst ea_nil) ?_ shp_nil) (eqv_nil _)))) rfl) (fun h => ?_) fun h => ?_), ?_⟩
      · intro d hd
        obtain ⟨k, _, rfl⟩ := List.mem_map.mp hd
        trivial
      · refine XS.to (xs_one (x_append 3 rfl (ex_var 5 rfl) (by rw [List.length_map]; omega))) ?_
        rw [if_pos h]
        show Out.nx [_, _, _, Sl.o (.lst (b.1.map natD ++ [natD p])), _, _, _] = Out.nx [_, _, _, Sl.o (.lst ((b.1 ++ [p]).map natD)), _, _, _]
        rw [List.map_append]
        rfl
      · refine XS.to xs_nil ?_
        rw [if_neg (by rw [h]; exact Bool.false_ne_true)]
        rfl
      · show (if q p = true then b.1 ++ [p] else b.1).length + rest.length ≤ 1000
        split
        · rw [List.length_append, List.length_singleton]
          omega
        · omega
    case g2 =>
      show 0 + part.length ≤ 1000
      omega
    case g3 =>
      refine x_retO (i := 3) (EX.to (ex_own 3 rfl) ?_)
      rw [fold, List.nil_append]
      rfl
def F_l_within (ds : List D) (d : D) : Prop := ∃ heap wide : List Nat, ds = [tD heap, tD wide] ∧ heap.length ≤ 1000 ∧ d = .bl (heap.all fun k => decide (k ∈ wide))
theorem ct_l_within (d : Df K mg "_law_are_within" s_law_are_within ["_law_heap", "_law_wide_so"]) : Ct P w K mg base 1 "_law_are_within" ["_law_heap", "_law_wide_so"] F_l_within := by
  obtain ⟨f, fd, Fn, hb, hm⟩ := d.ex
  refine ct_any Fn sc_law_are_within hb hm (fun ds d h => ?_) (by decide) (fun cdv A outer s H E hr ds d h => ?_)
  · obtain ⟨heap, wide, rfl, _⟩ := h
    rfl
  · obtain ⟨heap, wide, rfl, h1, rfl⟩ := h
    refine .inl ⟨rfl, _, xs_one (x_retD (EX.to (ex_eqD (i := 1) (j := 1) (hu_of hr) (ex_lcF natD (fun k => !decide (k ∈ wide)) 2 rfl sc_law_are_within.nd (it_tup (ex_var 0 rfl) rfl) (by omega) (fun k _ _ _ _ _ _ => et_notInN (ex_var 2 rfl) (ex_var 1 rfl) (.inl rfl)) (fun k _ _ _ _ _ _ _ => ex_var 2 rfl)) (ex_lst ea_nil) ?_ shp_nil) ?_))⟩
    · intro d hd
      obtain ⟨k, _, rfl⟩ := List.mem_map.mp hd
      trivial
    · refine congrArg (fun z => Res.d (.bl z)) ((eqv_nil _).trans ?_)
      induction heap with
      | nil => rfl
      | cons k heap ih =>
        rw [List.filter_cons, List.all_cons]
        by_cases h : k ∈ wide
        · rw [decide_eq_true h]
          simp only [Bool.not_true, Bool.false_eq_true, if_false, Bool.true_and]
          exact ih (by rw [List.length_cons] at h1; omega)
        · rw [decide_eq_false h]
          rfl
end
end Zf
/-! The law's defs, 3: all orders with their takings. -/
namespace Zf
open PySem PySem.Spec PyProof.Rows L2 Zb Zt Gr
/-- the seats of a row, as they come -/
def takenL (gs : G) (w : List Nat) : List (Option Nat) := (seats gs [] w).map (·.2)
def pD (gs : G) (w : List Nat) : D := .tup [tD w, .tup ((takenL gs w).map optD)]
theorem seats_snoc (gs : G) (k : Nat) : ∀ (w taken : List Nat), seats gs taken (w ++ [k]) = seats gs taken w ++ [(k, seat gs (taken ++ ((seats gs taken w).map (·.2)).filterMap id) k)]
  | [], taken => by simp [seats]
  | j :: w, taken => by
    rw [List.cons_append, seats, seats, seats_snoc gs k w]
    cases hs : seat gs taken j with
    | none => rfl
    | some p =>
      rw [push_some hs]
      simp [List.append_assoc]
theorem taken_snoc (gs : G) (w : List Nat) (k : Nat) : takenL gs (w ++ [k]) = takenL gs w ++ [seat gs ((takenL gs w).filterMap id) k] := by
  unfold takenL
  rw [seats_snoc, List.map_append, List.nil_append]
  rfl
theorem taken_len (gs : G) : ∀ (w taken : List Nat), (seats gs taken w).length = w.length
  | [], _ => rfl
  | k :: w, taken => by rw [seats, List.length_cons, taken_len gs w, List.length_cons]
theorem takenL_len (gs : G) (w : List Nat) : (takenL gs w).length = w.length := by
  unfold takenL
  rw [List.length_map, taken_len]
def moreW (m : Nat) (w : List Nat) : List (List Nat) := ((List.range m).filter fun k => !decide (k ∈ w)).map fun k => w ++ [k]
def walksN (m : Nat) : Nat → List (List Nat)
  | 0 => [[]]
  | i + 1 => (walksN m i).flatMap (moreW m)
def walks (m : Nat) : List (List Nat) := walksN m m
theorem moreW_len (m : Nat) (w : List Nat) : (moreW m w).length ≤ m := by
  unfold moreW
  rw [List.length_map]
  have := List.length_filter_le (fun k => !decide (k ∈ w)) (List.range m)
  rwa [List.length_range] at this
theorem flat_len (m : Nat) : ∀ ws : List (List Nat), (ws.flatMap (moreW m)).length ≤ m * ws.length
  | [] => Nat.zero_le _
  | w :: ws => by
    have h1 := flat_len m ws
    have h2 := moreW_len m w
    rw [List.flatMap_cons, List.length_append, List.length_cons, Nat.mul_add]
    omega
theorem walksN_len {m : Nat} (hm : m ≤ 5) : ∀ i, i ≤ 5 → (walksN m i).length ≤ 5 ^ i
  | 0, _ => Nat.le_refl _
  | i + 1, hi => by
    have h1 := walksN_len hm i (by omega)
    have h2 := flat_len m (walksN m i)
    have h3 : m * (walksN m i).length ≤ 5 * 5 ^ i := Nat.mul_le_mul hm h1
    show ((walksN m i).flatMap (moreW m)).length ≤ 5 ^ (i + 1)
    rw [Nat.pow_succ]
    omega
theorem walksN_ok {m : Nat} : ∀ i, ∀ w ∈ walksN m i, w.length = i ∧ w.Nodup ∧ ∀ k ∈ w, k < m
  | 0, w, h => by
    have : w = [] := List.mem_singleton.mp h
    subst this
    simp
  | i + 1, w, h => by
    obtain ⟨v, hv, hw⟩ := List.mem_flatMap.mp h
    obtain ⟨h1, h2, h3⟩ := walksN_ok i v hv
    obtain ⟨k, hk, rfl⟩ := List.mem_map.mp hw
    obtain ⟨hk, hn⟩ := List.mem_filter.mp hk
    have hn : k ∉ v := by simpa using hn
    refine ⟨by rw [List.length_append, h1]; rfl, List.nodup_append.mpr ⟨h2, by simp, fun a ha b hb => ?_⟩, fun j hj => ?_⟩
    · rw [List.mem_singleton] at hb
      rintro rfl
      exact hn (hb ▸ ha)
    · rcases List.mem_append.mp hj with z | z
      · exact h3 j z
      · rw [List.mem_singleton.mp z]
        exact List.mem_range.mp hk
/-- all orders are there -/
theorem walksN_all {m : Nat} : ∀ (i : Nat) (w : List Nat), w.length = i → w.Nodup → (∀ k ∈ w, k < m) → w ∈ walksN m i
  | 0, w, h, _, _ => by
    rw [List.length_eq_zero_iff] at h
    subst h
    exact List.mem_singleton.mpr rfl
  | i + 1, w, h, nd, lt => by
    have ne : w ≠ [] := fun e => by rw [e] at h; cases h
    have e := List.dropLast_concat_getLast ne
    rw [← e] at nd
    obtain ⟨n1, _, n2⟩ := List.nodup_append.mp nd
    refine List.mem_flatMap.mpr ⟨w.dropLast, walksN_all i _ (by rw [List.length_dropLast, h]; rfl) n1 (fun k hk => lt k ((List.dropLast_sublist _).subset hk)), ?_⟩
    unfold moreW
    refine List.mem_map.mpr ⟨w.getLast ne, List.mem_filter.mpr ⟨List.mem_range.mpr (lt _ (List.getLast_mem ne)), ?_⟩, e⟩
    have : w.getLast ne ∉ w.dropLast := fun z => n2 _ z _ (List.mem_singleton.mpr rfl) rfl
    rw [decide_eq_false this]
    rfl
theorem mem_walks {gs : G} {w : List Nat} : w ∈ walks gs.length ↔ IsOrder gs w := by
  constructor
  · intro h
    obtain ⟨h1, h2, h3⟩ := walksN_ok _ w h
    refine (List.perm_ext_iff_of_nodup h2 List.nodup_range).mpr fun k => ⟨fun hk => List.mem_range.mpr (h3 k hk), fun hk => ?_⟩
    refine Gq.nodup_full h2 (m := List.range gs.length) (fun x hx => List.mem_range.mpr (h3 x hx)) (by rw [List.length_range]; omega) k hk
  · intro h
    have := h.length_eq
    rw [List.length_range] at this
    exact walksN_all _ w this (h.nodup_iff.mpr List.nodup_range) fun k hk => List.mem_range.mp (h.mem_iff.mp hk)
/-- the seats put down guest by guest -/
def arrSt (ts : List (Option Nat)) (zs : List (Nat × Option Nat)) : List (Option Nat) := zs.foldl (fun t z => t.set z.1 z.2) ts
theorem run_arr (gs : G) : ∀ (w : List Nat) (ts : List (Option Nat)) (taken : List Nat), (w.foldl (runStep gs) (ts, taken)).1 = arrSt ts (seats gs taken w)
  | [], ts, taken => rfl
  | k :: w, ts, taken => by
    rw [List.foldl_cons, seats]
    exact run_arr gs w _ _
theorem zip_seats (gs : G) : ∀ (w taken : List Nat), w.zip ((seats gs taken w).map (·.2)) = seats gs taken w
  | [], _ => rfl
  | k :: w, taken => by
    rw [seats, List.map_cons, List.zip_cons_cons, zip_seats gs w]
theorem runL_arr (gs : G) (w : List Nat) : runL gs w = arrSt (List.replicate gs.length none) (w.zip (takenL gs w)) := by
  unfold runL takenL
  rw [run_arr, zip_seats]
theorem arr_len (zs : List (Nat × Option Nat)) : ∀ ts, (arrSt ts zs).length = ts.length := by
  induction zs with
  | nil => intro ts; rfl
  | cons z zs ih => intro ts; exact (ih _).trans (List.length_set ..)
def rD (gs : G) (w : List Nat) : D := .tup [tD w, .tup ((runL gs w).map optD)]
theorem flat_pD (gs : G) (w : List Nat) : (pD gs w).flat = true := by
  show D.flats [tD w, .tup ((takenL gs w).map optD)] = true
  simp only [D.flats, flat_tD, D.flat, flats_opt, Bool.and_self]
theorem flat_rD (gs : G) (w : List Nat) : (rD gs w).flat = true := by
  show D.flats [tD w, .tup ((runL gs w).map optD)] = true
  simp only [D.flats, flat_tD, D.flat, flats_opt, Bool.and_self]
section
variable {P : Program} {w : World} {K : PySem.W.Frag} {mg : Str → Option Value} {base : Heap}
def F_l_runs (ds : List D) (d : D) : Prop := ∃ (n : Nat) (gs : G), ds = [webD n gs] ∧ Web n gs ∧ gs.length ≤ 5 ∧ d = .lst ((walks gs.length).map (rD gs))
theorem ct_l_runs (B : Bl mg) (d : Df K mg "_law_all_runs" s_law_all_runs ["_law_net_here"]) (c1 : Ct P w K mg base 1 "_law_seat" ["_law_net_here", "_law_taken_so", "_law_k"] F_l_seat) : Ct P w K mg base 2 "_law_all_runs" ["_law_net_here"] F_l_runs := by
  obtain ⟨f, fd, Fn, hb, hm⟩ := d.ex
  refine ct_any Fn sc_law_all_runs hb hm (fun ds d h => ?_) (by decide) (fun cdv A outer s H E hr ds d h => ?_)
  · obtain ⟨n, gs, rfl, _⟩ := h
    rfl
  · obtain ⟨n, gs, rfl, hw, fewG, rfl⟩ := h
    have p5 : (5 : Nat) ^ 5 = 3125 := rfl
    -- the inner loop over the guests
    let inner := fun (wk : List Nat) (b : List (List Nat) × Sl) (k : Nat) => ((if k ∈ wk then b.1 else b.1 ++ [wk ++ [k]], Sl.d (natD k)) : List (List Nat) × Sl)
    have fold1 : ∀ (wk : List Nat) (ks : List Nat) (b : List (List Nat) × Sl), (ks.foldl (inner wk) b).1 = b.1 ++ (ks.filter fun k => !decide (k ∈ wk)).map fun k => wk ++ [k] := by
      intro wk ks
      induction ks with
      | nil => intro b; simp
      | cons k ks ih =>
        intro b
        rw [List.foldl_cons, ih]
        show (if k ∈ wk then b.1 else b.1 ++ [wk ++ [k]]) ++ _ = _
        by_cases hk : k ∈ wk
        · rw [if_pos hk, List.filter_cons_of_neg (by simp [hk])]
        · rw [if_neg hk, List.filter_cons_of_pos (by simp [hk])]
          simp [List.append_assoc]
    -- one lap
    let lapS := fun (b : List (List Nat) × Sl × Sl × Sl) (wk : List Nat) => ((b.1 ++ moreW gs.length wk, Sl.d (tD wk), Sl.d (.tup ((takenL gs wk).map optD)), ((List.range gs.length).foldl (inner wk) (b.1, b.2.2.2)).2) : List (List Nat) × Sl × Sl × Sl)
    have fold2 : ∀ (ws : List (List Nat)) (b : List (List Nat) × Sl × Sl × Sl), (ws.foldl lapS b).1 = b.1 ++ ws.flatMap (moreW gs.length) := by
      intro ws
      induction ws with
      | nil => intro b; simp
      | cons w ws ih => intro b; rw [List.foldl_cons, ih, List.flatMap_cons]; exact List.append_assoc ..
    let many : List Nat := List.range gs.length
    let E0 : List (List Nat) → Sl → Sl → Sl → Sl → Sl → Ev := fun ws s3 s4 s5 s6 s7 => [.d (webD n gs), .d (natD gs.length), .d (.lst (ws.map (pD gs))), s3, s4, s5, s6, s7, .no, .no, .no]
    let lap := fun (b : List (List Nat) × Sl × Sl × Sl × Sl × Sl) (i : Nat) => ((b.1.flatMap (moreW gs.length), Sl.d (natD i), Sl.d (.lst ((b.1.flatMap (moreW gs.length)).map (pD gs))), (b.1.foldl lapS ([], b.2.2.2.1, b.2.2.2.2.1, b.2.2.2.2.2)).2.1, (b.1.foldl lapS ([], b.2.2.2.1, b.2.2.2.2.1, b.2.2.2.2.2)).2.2.1, (b.1.foldl lapS ([], b.2.2.2.1, b.2.2.2.2.1, b.2.2.2.2.2)).2.2.2) : List (List Nat) × Sl × Sl × Sl × Sl × Sl)
    have fold3 : ∀ (i : Nat) (b : List (List Nat) × Sl × Sl × Sl × Sl × Sl) (j : Nat), b.1 = walksN gs.length j → ∀ l : List Nat, l.length = i → (l.foldl lap b).1 = walksN gs.length (j + i) := by
      intro i
      induction i with
      | zero => intro b j hb l hl; rw [List.length_eq_zero_iff] at hl; subst hl; exact hb
      | succ i ih =>
        intro b j hb l hl
        cases l with
        | nil => cases hl
        | cons x l =>
          rw [List.foldl_cons, ih (lap b x) (j + 1) (by show b.1.flatMap (moreW gs.length) = _; rw [hb]; rfl) l (by rw [List.length_cons] at hl; omega)]
          congr 1
          omega
    let toldS := fun (b : List (List Nat) × Sl × Sl × Sl × Sl × Sl) (wk : List Nat) => ((b.1 ++ [wk], Sl.d (tD wk), Sl.d (.tup ((takenL gs wk).map optD)), ((wk.zip (takenL gs wk)).foldl (fun (c : List (Option Nat) × Sl × Sl) z => (c.1.set z.1 z.2, Sl.d (natD z.1), Sl.d (optD z.2))) (List.replicate gs.length none, b.2.2.2.1, b.2.2.2.2.2)).2.1, Sl.o (.lst ((runL gs wk).map optD)), ((wk.zip (takenL gs wk)).foldl (fun (c : List (Option Nat) × Sl × Sl) z => (c.1.set z.1 z.2, Sl.d (natD z.1), Sl.d (optD z.2))) (List.replicate gs.length none, b.2.2.2.1, b.2.2.2.2.2)).2.2) : List (List Nat) × Sl × Sl × Sl × Sl × Sl)
    have foldA : ∀ (zs : List (Nat × Option Nat)) (c : List (Option Nat) × Sl × Sl), (zs.foldl (fun (c : List (Option Nat) × Sl × Sl) z => (c.1.set z.1 z.2, Sl.d (natD z.1), Sl.d (optD z.2))) c).1 = arrSt c.1 zs := by
      intro zs
      induction zs with
      | nil => intro c; rfl
      | cons z zs ih => intro c; rw [List.foldl_cons, ih]; rfl
    have foldT : ∀ (ws : List (List Nat)) (b : List (List Nat) × Sl × Sl × Sl × Sl × Sl), (ws.foldl toldS b).1 = b.1 ++ ws := by
      intro ws
      induction ws with
      | nil => intro b; simp
      | cons w ws ih => intro b; rw [List.foldl_cons, ih]; show (b.1 ++ [w]) ++ ws = _; simp
    let lst := ((List.range gs.length).foldl lap ([[]], .no, .no, .no, .no, .no))
    have wl : lst.1 = walks gs.length := (fold3 gs.length ([[]], .no, .no, .no, .no, .no) 0 rfl (List.range gs.length) List.length_range).trans (by rw [Nat.zero_add]; rfl)
    refine .inr (.inl ⟨⟨_, rfl, flats_map _ (flat_rD gs) _⟩, xs_cons (x_par2 1 2 rfl sc_law_all_runs.nd (ep_d (EX.to (ex_len B.len (ex_gsts (ex_var 0 rfl)) (.inr rfl)) (r' := .d (natD gs.length)) (by rw [List.length_map]; rfl)) (ep_d (ex_lst (ea_cons (ex_tup (ea_cons (ex_tup ea_nil) (ea_cons (ex_tup ea_nil) ea_nil))) ea_nil)) ep_nil)))
      (xs_cons (env1 := E0 lst.1 lst.2.1 lst.2.2.1 lst.2.2.2.1 lst.2.2.2.2.1 lst.2.2.2.2.2) (x_for rfl (it_range B.range (ex_var 1 rfl) (by omega)) (lp_fold (b := ([[]], .no, .no, .no, .no, .no)) (xs := List.range gs.length) (enc := natD) (fun b : List (List Nat) × Sl × Sl × Sl × Sl × Sl => E0 b.1 b.2.1 b.2.2.1 b.2.2.2.1 b.2.2.2.2.1 b.2.2.2.2.2) lap
        (fun b rest => ∃ j, b.1 = walksN gs.length j ∧ j + rest.length = gs.length) (fun b i rest hp => ?g1) ⟨0, rfl, by rw [List.length_range]; omega⟩))
      (xs_cons (x_setO 8 sc_law_all_runs.nd (ex_lst ea_nil)) (xs_cons (x_for rfl (it_list (ex_var 2 rfl) rfl) (lp_fold (b := ([], lst.2.2.2.1, lst.2.2.2.2.1, lst.2.2.2.2.2, .no, .no)) (xs := lst.1) (enc := pD gs)
        (fun b : List (List Nat) × Sl × Sl × Sl × Sl × Sl => [.d (webD n gs), .d (natD gs.length), .d (.lst (lst.1.map (pD gs))), lst.2.1, lst.2.2.1, b.2.1, b.2.2.1, b.2.2.2.1, .o (.lst (b.1.map (rD gs))), b.2.2.2.2.1, b.2.2.2.2.2]) toldS
        (fun b rest => (∀ w ∈ rest, w.length = gs.length ∧ ∀ k ∈ w, k < gs.length) ∧ b.1.length + rest.length ≤ 3125) (fun b wk rest hp => ?g2) ?g3)) (xs_one (x_retO (i := 8) (EX.to (ex_own 8 rfl) ?g4))))))⟩)
    case g4 =>
      rw [foldT, List.nil_append, wl]
    case g3 =>
      rw [wl]
      refine ⟨fun w hw => ?_, ?_⟩
      · obtain ⟨h1, _, h3⟩ := walksN_ok _ w hw
        exact ⟨h1, h3⟩
      · have := walksN_len fewG gs.length fewG
        have h5 : 5 ^ gs.length ≤ 5 ^ 5 := Nat.pow_le_pow_right (by omega) fewG
        show 0 + (walksN gs.length gs.length).length ≤ 3125
        omega
    case g2 =>
      obtain ⟨p1, p2⟩ := hp
      obtain ⟨q1, q2⟩ := p1 wk (List.mem_cons_self ..)
      rw [List.length_cons] at p2
      have zl : (wk.zip (takenL gs wk)).length = gs.length := by
        rw [List.length_zip, takenL_len, q1, Nat.min_self]
      refine ⟨_, _, ag_tup rfl (ags_cons (ag_name 5 sc_law_all_runs.nd) (ags_cons (ag_name 6 sc_law_all_runs.nd) ags_nil)), xs_cons (x_setO 9 sc_law_all_runs.nd (EX.to (r' := .new (.lst ((List.replicate gs.length none).map optD))) (ex_rep (i := (gs.length : Int)) (ex_lst (ea_cons ex_non ea_nil)) (ex_var 1 rfl) rfl (by omega) (by omega) ?g5) ?g6))
        (xs_cons (x_for rfl (IT.to (it_zip B.zip (ex_var 5 rfl) (ex_var 6 rfl) (.inl ⟨rfl, rfl⟩)) (ds' := (wk.zip (takenL gs wk)).map fun z => .tup [natD z.1, optD z.2]) ?g7) (lp_fold (b := (List.replicate gs.length none, b.2.2.2.1, b.2.2.2.2.2)) (xs := wk.zip (takenL gs wk)) (enc := fun z => .tup [natD z.1, optD z.2])
          (fun c : List (Option Nat) × Sl × Sl => [.d (webD n gs), .d (natD gs.length), .d (.lst (lst.1.map (pD gs))), lst.2.1, lst.2.2.1, .d (tD wk), .d (.tup ((takenL gs wk).map optD)), c.2.1, .o (.lst (b.1.map (rD gs))), .o (.lst (c.1.map optD)), c.2.2])
          (fun c z => (c.1.set z.1 z.2, .d (natD z.1), .d (optD z.2))) (fun c rest => c.1.length = gs.length ∧ ∀ z ∈ rest, z.1 < gs.length) (fun c z rest hc => ?g8) ?g9))
        (xs_one ?g10)), fun w hw => p1 w (List.mem_cons_of_mem _ hw), ?g11⟩
      case g5 =>
        show 1 * (gs.length : Int).toNat ≤ 100000
        omega
      case g6 =>
        rw [List.map_replicate]
        show Res.new (.lst (List.replicate (gs.length : Int).toNat [D.non]).flatten) = _
        rw [Int.toNat_natCast]
        congr 2
        induction gs.length with
        | zero => rfl
        | succ m ih => rw [List.replicate_succ, List.flatten_cons, ih]; rfl
      case g7 =>
        rw [List.zip_map, List.map_map]
        rfl
      case g8 =>
        obtain ⟨c1', c2⟩ := hc
        refine ⟨_, _, ag_tup rfl (ags_cons (ag_name 7 sc_law_all_runs.nd) (ags_cons (ag_name 10 sc_law_all_runs.nd) ags_nil)), XS.to (xs_one (x_lput (j := z.1) 9 rfl (ex_var 10 rfl) (ex_var 7 rfl) ?_)) ?_, ?_, fun y hy => c2 y (List.mem_cons_of_mem _ hy)⟩
        · rw [List.length_map, c1']
          exact c2 z (List.mem_cons_self ..)
        · show Out.nx [_, _, _, _, _, _, _, _, _, Sl.o (.lst ((c.1.map optD).set z.1 (optD z.2))), _] = Out.nx [_, _, _, _, _, _, _, _, _, Sl.o (.lst ((c.1.set z.1 z.2).map optD)), _]
          rw [List.map_set]
        · show (c.1.set z.1 z.2).length = _
          rw [List.length_set]
          exact c1'
      case g9 =>
        exact ⟨by simp, fun z hz => q2 z.1 (List.of_mem_zip hz).1⟩
      case g10 =>
        refine X1.to (x_append 8 rfl (ex_tup (ea_cons (ex_var 5 rfl) (ea_cons (ex_tupleOf B.tuple (ex_own 9 rfl) (.inl rfl)) ea_nil))) (by rw [List.length_map]; omega)) ?_
        rw [foldA]
        show Out.nx [_, _, _, _, _, _, _, _, Sl.o (.lst (b.1.map (rD gs) ++ [.tup [tD wk, .tup ((arrSt (List.replicate gs.length none) (wk.zip (takenL gs wk))).map optD)]])), Sl.o (.lst ((arrSt (List.replicate gs.length none) (wk.zip (takenL gs wk))).map optD)), _] = Out.nx [_, _, _, _, _, _, _, _, Sl.o (.lst ((b.1 ++ [wk]).map (rD gs))), Sl.o (.lst ((runL gs wk).map optD)), _]
        rw [List.map_append, runL_arr]
        show _ = Out.nx [_, _, _, _, _, _, _, _, Sl.o (.lst (_ ++ [rD gs wk])), _, _]
        unfold rD
        rw [runL_arr]
      case g11 =>
        show (b.1 ++ [wk]).length + rest.length ≤ 3125
        rw [List.length_append, List.length_singleton]
        omega
    case g1 =>
      obtain ⟨j, hj, hjl⟩ := hp
      rw [List.length_cons] at hjl
      have bl : b.1.length ≤ 5 ^ j := by rw [hj]; exact walksN_len fewG j (by omega)
      have h5 : 5 ^ j ≤ 5 ^ 5 := Nat.pow_le_pow_right (by omega) (by omega)
      refine ⟨_, _, ag_name 3 sc_law_all_runs.nd, xs_cons (x_setO 4 sc_law_all_runs.nd (ex_lst ea_nil)) (xs_cons (x_for rfl (it_list (ex_var 2 rfl) rfl) (lp_fold (b := ([], b.2.2.2.1, b.2.2.2.2.1, b.2.2.2.2.2)) (xs := b.1) (enc := pD gs)
        (fun c : List (List Nat) × Sl × Sl × Sl => [.d (webD n gs), .d (natD gs.length), .d (.lst (b.1.map (pD gs))), .d (natD i), .o (.lst (c.1.map (pD gs))), c.2.1, c.2.2.1, c.2.2.2, .no, .no, .no]) lapS
        (fun c rest => (∀ w ∈ rest, w.length = j) ∧ c.1.length + 5 * rest.length ≤ 20000) (fun c wk rest hc => ?g5) ?g6))
        (XS.to (xs_one (x_give 4 2 ?g7 sc_law_all_runs.nd rfl (ex_own 4 rfl))) ?g8)), j + 1, ?g9, by omega⟩
      case g6 =>
        refine ⟨fun w hw => (walksN_ok j w (hj ▸ hw)).1, ?_⟩
        show 0 + 5 * b.1.length ≤ 20000
        omega
      case g7 => first | exact fun _ _ => trivial | exact fun _ h => h
      case g8 =>
        rw [fold2, List.nil_append]
        rfl
      case g9 =>
        show b.1.flatMap (moreW gs.length) = _
        rw [hj]
        rfl
      case g5 =>
        obtain ⟨c1', c2⟩ := hc
        have q1 := c1' wk (List.mem_cons_self ..)
        rw [List.length_cons] at c2
        refine ⟨_, _, ag_tup rfl (ags_cons (ag_name 5 sc_law_all_runs.nd) (ags_cons (ag_name 6 sc_law_all_runs.nd) ags_nil)), XS.to (xs_one (x_for rfl (it_range B.range (ex_var 1 rfl) (by omega)) (lp_fold (b := (c.1, c.2.2.2)) (xs := List.range gs.length) (enc := natD)
          (fun a : List (List Nat) × Sl => [.d (webD n gs), .d (natD gs.length), .d (.lst (b.1.map (pD gs))), .d (natD i), .o (.lst (a.1.map (pD gs))), .d (tD wk), .d (.tup ((takenL gs wk).map optD)), a.2, .no, .no, .no]) (inner wk)
          (fun a rest => (∀ k ∈ rest, k < gs.length) ∧ a.1.length + rest.length ≤ 30000) (fun a k rest ha => ?g10) ?g11))) ?g12, fun w hw => c1' w (List.mem_cons_of_mem _ hw), ?g13⟩
        case g11 =>
          refine ⟨fun k hk => List.mem_range.mp hk, ?_⟩
          rw [List.length_range]
          show c.1.length + gs.length ≤ 30000
          omega
        case g12 =>
          rw [fold1]
          rfl
        case g13 =>
          have := moreW_len gs.length wk
          show (c.1 ++ moreW gs.length wk).length + 5 * rest.length ≤ 20000
          rw [List.length_append]
          omega
        case g10 =>
          obtain ⟨a1, a2⟩ := ha
          have hk := a1 k (List.mem_cons_self ..)
          rw [List.length_cons] at a2
          refine ⟨_, _, ag_name 7 sc_law_all_runs.nd, xs_one (x_if (x := !decide (k ∈ wk)) (et_notInN (ex_var 7 rfl) (ex_var 5 rfl) (.inl rfl)) (fun h => ?_) fun h => ?_), fun y hy => a1 y (List.mem_cons_of_mem _ hy), ?_⟩
          · have hn : k ∉ wk := by simpa using h
            refine XS.to (xs_one (x_append 4 rfl (ex_tup (ea_cons (ex_catT (ex_var 5 rfl) (ex_tup (ea_cons (ex_var 7 rfl) ea_nil)) rfl rfl ?_) (ea_cons (ex_catT (ex_var 6 rfl) (ex_tup (ea_cons (ex_call c1 hr (ea_cons (ex_var 0 rfl) (ea_cons (ex_var 6 rfl) (ea_cons (ex_var 7 rfl) ea_nil))) ⟨n, gs, _, takenL gs wk, k, rfl, .inl rfl, hk, rfl⟩) ea_nil)) rfl rfl ?_) ea_nil))) ?_)) ?_
            · rw [List.length_map]
              show wk.length + 1 ≤ 100000
              omega
            · rw [List.length_map, takenL_len]
              show wk.length + 1 ≤ 100000
              omega
            · rw [List.length_map]
              omega
            · show Out.nx [_, _, _, _, Sl.o (.lst (a.1.map (pD gs) ++ [.tup [.tup (wk.map natD ++ [natD k]), .tup ((takenL gs wk).map optD ++ [optD (seat gs ((takenL gs wk).filterMap id) k)])]])), _, _, _, _, _, _] = Out.nx [_, _, _, _, Sl.o (.lst ((if k ∈ wk then a.1 else a.1 ++ [wk ++ [k]]).map (pD gs))), _, _, _, _, _, _]
              rw [if_neg hn, List.map_append]
              show _ = Out.nx [_, _, _, _, Sl.o (.lst (_ ++ [pD gs (wk ++ [k])])), _, _, _, _, _, _]
              unfold pD tD
              rw [taken_snoc, List.map_append, List.map_append]
              rfl
          · have hn : k ∈ wk := by simpa using h
            refine XS.to xs_nil ?_
            show Out.nx [_, _, _, _, Sl.o (.lst (a.1.map (pD gs))), _, _, _, _, _, _] = Out.nx [_, _, _, _, Sl.o (.lst ((if k ∈ wk then a.1 else a.1 ++ [wk ++ [k]]).map (pD gs))), _, _, _, _, _, _]
            rw [if_pos hn]
          · show (if k ∈ wk then a.1 else a.1 ++ [wk ++ [k]]).length + rest.length ≤ 30000
            split
            · omega
            · rw [List.length_append, List.length_singleton]
              omega
end
end Zf
/-! What the hand layer lacks, 4: sorted of a list of tuples of ints, of any lengths. -/
namespace Zk
open PySem PySem.W PySem.Calls PyProof.Rows
/-- v is a tuple of these ints -/
def IsTI (h : Heap) (v : Value) (ns : List Int) : Prop := ∃ (a : Addr) (o : Obj) (items : List Value) (n : Nat), v = .ref a ∧ h.get? a = some o ∧ o.cls = .type "tuple" ∧ o.data = .seq items.toArray n ∧ IntsAre items ns
theorem IsTI.keeps {h h' : Heap} {v : Value} {ns : List Int} (x : IsTI h v ns) (k : ∀ b o, h.get? b = some o → o.cls = .type "tuple" → h'.get? b = some o) : IsTI h' v ns := by
  obtain ⟨a, o, items, n, e, g, c, d, i⟩ := x
  exact ⟨a, o, items, n, e, k a o g c, c, d, i⟩
section
variable {prog : Program} {w : World} {A : Around} {E : Value → Shared → Prop} {s : Shared}
/-- compared as tuples -/
theorem lex_kat {b fin : Bool} {Q : Bool → Shared → Prop} : ∀ {vs ws : List Value} {ns ms : List Int} (i : Nat), IntsAre vs ns → IntsAre ws ms → fin = decide (ns.length < ms.length) → Q (HT.lexLt ns ms) s → KatLex prog w A b fin Q (vs.zip ws) i s
  | _, _, _, _, i, .nil, .nil, hf, q => by
    subst hf
    exact kat_nil q
  | _, _, _, _, i, .nil, .cons c u hw, hf, q => by
    subst hf
    exact kat_nil (by simpa [HT.lexLt_nil_cons] using q)
  | _, _, _, _, i, .cons a t hv, .nil, hf, q => by
    subst hf
    exact kat_nil (by simpa [HT.lexLt_cons_nil] using q)
  | _, _, _, _, i, .cons a t hv, .cons c u hw, hf, q => by
    rw [HT.lexLt_cons] at q
    rw [List.zip_cons_cons]
    refine kat_cons (SeqAt.EqAt.int_int a t c u prog w _ _ ?_)
    refine kat_go (fun e => ?_) fun e => ?_
    · have e' : a = c := by simpa using e
      rw [if_pos e'] at q
      exact kat_yes (lex_kat (i + 1) hv hw (by rw [hf]; simp) q)
    · have e' : ¬ a = c := by simpa using e
      rw [if_neg e'] at q
      exact kat_no (oneLt_any_int q)
theorem lt_tups {v u : Value} {ns ms : List Int} {b : Bool} {Q : Bool → Shared → Prop} (hv : IsTI s.heap v ns) (hw : IsTI s.heap u ms) (h : Q (HT.lexLt ns ms) s) : wpAny (model prog w) A (keyLt' (tuples' b) v u) Q E s := by
  obtain ⟨a, o, items, n, rfl, g, c, d, i⟩ := hv
  obtain ⟨a', o', items', n', rfl, g', c', d', i'⟩ := hw
  refine kat_lt g d g' d' ?_
  have e1 := i.length
  have e2 := i'.length
  exact lex_kat 0 i i' (by rw [List.size_toArray, List.size_toArray, e1, e2]) h
theorem lt_one {v u : Value} {ns ms : List Int} {Q : Bool → Shared → Prop} (hu : A.units < cLine) (hv : IsTI s.heap v ns) (hw : IsTI s.heap u ms) (h : Q (HT.lexLt ns ms) s) : wpAny (model prog w) A (keyLt' oneType' v u) Q E s := by
  obtain ⟨a, ⟨oc, od, oda, osl⟩, items, n, rfl, g, c, d, i⟩ := hv
  obtain ⟨a', ⟨oc', od', oda', osl'⟩, items', n', rfl, g', c', d', i'⟩ := hw
  simp only at c d c' d'
  subst c d c' d'
  rw [keyLt'_oneType, oneLt'_eq]
  simp only [if_true]
  refine wpAny_bind (wpAny_cRoomFor hu ?_)
  refine wpAny_bind (wpAny_callSpecialIfBound?_slot (T := "tuple") ⟨_, g, rfl⟩ PySem.F.slot_tuple_lt ?_)
  refine call_meets PySem.F.slot_tuple_lt ⟨_, g, rfl⟩ PySem.F.entry_tuple_lt (PySem.F.args_tuple_lt_2 _ _) (HT.tuple_lt_ints a a' items.toArray items'.toArray n n' od od' osl osl' ns ms (by simpa using i) (by simpa using i')) ⟨g, g', ?_⟩
  exact wpAny_truthy_bool h
/-! ### the kinds -/
theorem kat_of : ∀ {vs : List Value}, (∀ v ∈ vs, ∃ ns, IsTI s.heap v ns ∧ ns ≠ []) → ∃ fs, KatTups s.heap vs fs ∧ fs.length = vs.length ∧ ∀ f ∈ fs, ∃ i t, f = Value.int i t
  | [], _ => ⟨[], KatTups.nil, rfl, fun f hf => by cases hf⟩
  | v :: vs, h => by
    obtain ⟨fs, h1, h2, h3⟩ := kat_of fun u hu => h u (List.mem_cons_of_mem _ hu)
    obtain ⟨ns, ⟨a, o, items, n, rfl, g, c, d, i⟩, ne⟩ := h v (List.mem_cons_self ..)
    cases i with
    | nil => exact absurd rfl ne
    | cons x t hv =>
      refine ⟨.int x t :: fs, KatTups.cons g c d (by simp) h1, by simp [h2], fun f hf => ?_⟩
      rcases List.mem_cons.mp hf with rfl | hf
      · exact ⟨x, t, rfl⟩
      · exact h3 f hf
theorem firsts_any {M : Model} : ∀ {vs : List Value}, (∀ v ∈ vs, ∃ ns, IsTI s.heap v ns) → ∃ fs : List (Option Value), ∀ Q : List (Option Value) → Shared → Prop, Q fs s → wpAny M A (vs.mapM firstOfTuple') Q E s
  | [], _ => ⟨[], fun Q q => by rw [List.mapM_nil]; exact wpAny_pure q⟩
  | v :: vs, h => by
    obtain ⟨fs, hf⟩ := firsts_any (M := M) fun u hu => h u (List.mem_cons_of_mem _ hu)
    obtain ⟨ns, ⟨a, o, items, n, rfl, g, c, d, i⟩⟩ := h v (List.mem_cons_self ..)
    refine ⟨items.toArray[0]? :: fs, fun Q q => ?_⟩
    rw [List.mapM_cons]
    refine wpAny_bind ?_
    rw [kas_first_eq]
    refine wpAny_bind (Looks.here (show Looks M s.heap (typeOf (.ref a)) o.cls from (Looks.ld g).andThen .now) ?_)
    rw [c, if_neg (by first | decide | simp)]
    refine wpAny_bind (listItems_at g d (wpAny_pure ?_))
    exact wpAny_bind (hf (fun bs s' => wpAny M A (pure (items.toArray[0]? :: bs)) Q E s') (wpAny_pure q))
theorem kind_empty {v : Value} {vs : List Value} {Q : SortKind → Shared → Prop} (hv : IsTI s.heap v []) (h : ∀ u ∈ vs, ∃ ns, IsTI s.heap u ns) (q : Q oneType' s) : wpAny (model prog w) A (keyKind' (v :: vs).toArray) Q E s := by
  obtain ⟨fs, hf⟩ := firsts_any (M := model prog w) (A := A) (E := E) h
  have hall : ∀ u ∈ v :: vs, Looks (model prog w) s.heap (typeOf u) (.type "tuple") := fun u hu => by
    have : ∃ ns, IsTI s.heap u ns := (List.mem_cons.mp hu).elim (fun e => ⟨[], e ▸ hv⟩) (h u)
    obtain ⟨ns, a, o, items, n, rfl, g, c, d, i⟩ := this
    rw [← c]
    exact (Looks.ld g).andThen .now
  rw [keyKind'_eq, List.mapM_toArray, map_eq_pure_bind]
  obtain ⟨a, o, items, n, rfl, g, c, d, i⟩ := hv
  cases i
  refine wpAny_bind (wpAny_bind ?_)
  rw [List.mapM_cons]
  refine wpAny_bind ?_
  rw [kas_first_eq]
  refine wpAny_bind (Looks.here (show Looks (model prog w) s.heap (typeOf (.ref a)) o.cls from (Looks.ld g).andThen .now) ?_)
  rw [c, if_neg (by first | decide | simp)]
  refine wpAny_bind (listItems_at g d (wpAny_pure ?_))
  refine wpAny_bind (hf _ (wpAny_pure (wpAny_pure ?_)))
  rw [if_neg (by simp), if_neg (by simp)]
  rw [oneTypeOnly'_eq, List.mapM_toArray, map_eq_pure_bind]
  refine wpAny_bind (wpAny_bind (wpAny_bind (kas_mapM (r := Value.type "tuple") _ (fun u hu Q' hq => (hall u hu).here hq) (wpAny_pure ?_))))
  have hall2 : ((List.map (fun _ => Value.type "tuple") (Value.ref a :: vs)).toArray.all fun x => x == Value.type "tuple") = true := by
    simp only [List.all_toArray, List.all_map, List.all_eq_true]
    intro _ _
    rfl
  have h0 : (List.map (fun _ => Value.type "tuple") (Value.ref a :: vs)).toArray[0]? = some (Value.type "tuple") := by simp
  rw [h0]
  simp only [hall2, if_true]
  exact wpAny_pure (wpAny_pure q)
/-- they can be sorted -/
theorem ti_sortable {a : Addr} {vs : List Value} {k : Value → List Int} (h2 : 2 ≤ vs.length) (hu : A.units < cLine) (hv : ∀ v ∈ vs, IsTI s.heap v (k v)) (hk : (∀ v ∈ vs, k v ≠ []) ∨ ∃ v vs', vs = v :: vs' ∧ k v = []) (ha : ∀ o, s.heap.get? a = some o → o.cls ≠ .type "tuple") :
    SrtO.SortableO prog w A s a vs fun v u => HT.lexLt (k v) (k u) := by
  intro h' keep
  have hv' : ∀ v ∈ vs, IsTI h' v (k v) := fun v hm => (hv v hm).keeps fun b o e c => keep b o (fun z => ha o (z ▸ e) c) e
  rcases hk with hk | ⟨v, vs', rfl, hk⟩
  · obtain ⟨fs, f1, f2, f3⟩ := kat_of (s := { s with heap := h' }) fun v hm => ⟨k v, hv' v hm, hk v hm⟩
    refine ⟨tuples' true, fun Q E hq => ?_, fun p q hp hq => ?_⟩
    · refine kat_kind (T := .type "int") f1 (by omega) (fun f hm => ?_) (by rfl) ?_
      · obtain ⟨x, t, rfl⟩ := f3 f hm
        exact Looks.now
      · have e : (Value.type "int" != Value.type "tuple") = true := by first | decide +kernel | rfl | decide
        rw [e]
        exact hq
    · exact lt_tups (s := { s with heap := h' }) (Q := fun r s' => s' = { s with heap := h' } ∧ r = HT.lexLt (k p.1) (k q.1)) (E := fun _ _ => False) (hv' p.1 hp) (hv' q.1 hq) ⟨rfl, rfl⟩
  · refine ⟨oneType', fun Q E hq => ?_, fun p q hp hq => ?_⟩
    · exact kind_empty (s := { s with heap := h' }) (hk ▸ hv' v (List.mem_cons_self ..)) (fun u hu => ⟨k u, hv' u (List.mem_cons_of_mem _ hu)⟩) hq
    · exact lt_one (s := { s with heap := h' }) (Q := fun r s' => s' = { s with heap := h' } ∧ r = HT.lexLt (k p.1) (k q.1)) (E := fun _ _ => False) hu (hv' p.1 hp) (hv' q.1 hq) ⟨rfl, rfl⟩
end
theorem ints_one : ∀ {vs : List Value} {ns ms : List Int}, IntsAre vs ns → IntsAre vs ms → ns = ms
  | _, _, _, .nil, .nil => rfl
  | _, _, _, .cons n t r, .cons _ _ r' => by rw [ints_one r r']
theorem IsTI.one {h : Heap} {v : Value} {ns ms : List Int} (x : IsTI h v ns) (y : IsTI h v ms) : ns = ms := by
  obtain ⟨a, o, items, n, rfl, g, c, d, i⟩ := x
  obtain ⟨a', o', items', n', e, g', c', d', i'⟩ := y
  cases e
  rw [g] at g'
  cases g'
  rw [d] at d'
  have e : items = items' := by
    have : items.toArray = items'.toArray := by injection d'
    simpa using this
  subst e
  exact ints_one i i'
open Classical in
noncomputable def intsAt (h : Heap) (v : Value) : List Int := if q : ∃ ns, IsTI h v ns then q.choose else []
theorem intsAt_eq {h : Heap} {v : Value} {ns : List Int} (x : IsTI h v ns) : intsAt h v = ns := by
  unfold intsAt
  rw [dif_pos ⟨ns, x⟩]
  exact (Exists.choose_spec (⟨ns, x⟩ : ∃ ns, IsTI h v ns)).one x
end Zk
namespace Zb
open PySem PySem.Spec PyProof.Rows L2 RZ
def TupN (K : PySem.W.Frag) (H : Hp) (x : V) (ns : List Int) : Prop := ∃ t, x = .ref t ∧ SqT K H t (ns.map V.int)
/-- sorted(xs), xs a list of tuples of ints: all not empty, or the first is empty -/
def rSortLT (K : PySem.W.Frag) : List V → Hp → VK → Prop := fun vs H Q => ∃ (a : Addr) (xs : List V), vs = [V.ref a] ∧ SqL K H a xs ∧ (∀ x ∈ xs, ∃ ns, TupN K H x ns) ∧ ((∀ x ∈ xs, ∃ ns, TupN K H x ns ∧ ns ≠ []) ∨ ∃ x xs', xs = x :: xs' ∧ TupN K H x []) ∧
  ∀ (ys : List V) (p : Addr), ys.Perm xs → ys.Pairwise (fun x y => ∀ n m, TupN K H x n → TupN K H y m → HT.lexLt m n = false) → H p = none → Q (.ref p) (upd H p (.lst ys))
section
variable {X : Cx}
theorem tupN_raw {pins : List (Addr × Obj)} {σ : L2.St} {H : Hp} {s : Shared} (I : L2.Inv X pins σ H s) {t : Addr} {ns : List Int} (h : SqT X.K H t (ns.map V.int)) : Zk.IsTI s.heap (.ref t) ns := by
  obtain ⟨its, rv, hT, _⟩ := I.tuple h
  obtain ⟨ob, hob, hcb, nb, hdb⟩ := id hT
  exact ⟨t, ob, its, nb, rfl, hob, hcb, hdb, by simpa using rv.ints⟩
theorem cr_sortLT (hu : X.A.units + 64 < cLine) : CallR X (.builtin "sorted") (rSortLT X.K) := by
  intro pins s σ H vs us Q I r h
  obtain ⟨a, xs, rfl, hs, hx, hk, q⟩ := h
  obtain ⟨its, rv, hl, hz⟩ := I.list hs
  rw [Vals.ref1 r]
  obtain ⟨e1, e2⟩ := refs_back rv fun x m => by
    obtain ⟨ns, t, e, _⟩ := hx x m
    exact ⟨t, e⟩
  have raw : ∀ v ∈ its, ∃ ns, Zk.IsTI s.heap v ns ∧ TupN X.K H (backV v) ns := fun v hv => by
    obtain ⟨t, rfl⟩ := e2 v hv
    have hm : V.ref t ∈ xs := by rw [e1]; exact List.mem_map.mpr ⟨_, hv, rfl⟩
    obtain ⟨ns, t', e, ht⟩ := hx _ hm
    cases e
    exact ⟨ns, tupN_raw I ht, _, rfl, ht⟩
  have rawN : ∀ v ∈ its, ∀ ns, TupN X.K H (backV v) ns → Zk.intsAt s.heap v = ns := fun v hv ns hn => by
    obtain ⟨t, rfl⟩ := e2 v hv
    obtain ⟨t', e, ht⟩ := hn
    cases e
    exact Zk.intsAt_eq (tupN_raw I ht)
  have hv : ∀ v ∈ its, Zk.IsTI s.heap v (Zk.intsAt s.heap v) := fun v hm => by
    obtain ⟨ns, h1, _⟩ := raw v hm
    rw [Zk.intsAt_eq h1]
    exact h1
  refine SrtO.sorted_ord (NtL.swo_lexL (Zk.intsAt s.heap)) hl.isList (by rw [← rv.length]; exact hz) (fun h2 h₁ a' ha' kk => ?_) fun out hs' hb => ?_
  · refine Zk.ti_sortable (s := { s with heap := h₁ }) h2 (by show X.A.units + 1 + 1 < cLine; omega) (fun v hm => (hv v hm).keeps fun b o e _ => (kk b o e).2) ?_ fun o e c => ?_
    · rcases hk with hk | ⟨x, xs', rfl, hk⟩
      · refine .inl fun v hm => ?_
        obtain ⟨ns, hn, ne⟩ := hk (backV v) (by rw [e1]; exact List.mem_map.mpr ⟨v, hm, rfl⟩)
        rw [rawN v hm ns hn]
        exact ne
      · cases its with
        | nil => cases e1
        | cons v its =>
          rw [List.map_cons] at e1
          refine .inr ⟨v, its, rfl, rawN v (List.mem_cons_self ..) [] ?_⟩
          rw [← (List.cons.inj e1).1]
          exact hk
    · have e' : some o = some (seqObj "list" its.toArray 0) := e.symm.trans ha'
      cases e'
      exact absurd (Value.type.inj c) (by decide)
  · obtain ⟨ep, he'⟩ := PyProof.Rows.sortedAll_at s.heap its out.toArray
    have h3 : ∀ u ∈ out, ∃ a, u = Value.ref a := fun u hu => e2 u (hb.perm.mem_iff.mp hu)
    have hp : (out.map backV).Perm xs := by
      rw [e1]
      exact hb.perm.map backV
    have hlen : (out.map backV).length ≤ sizeLine := by
      rw [hp.length_eq]
      exact hz
    refine ⟨.ref _, upd H (s.heap.objs.size + 1) (.lst (out.map backV)), I.laid (t' := s.toks) (fun _ _ => PyProof.Rows.sortedAll_old) (Nat.le_succ _) ⟨hlen, out, ep, vals_back h3, he'⟩, rfl, q _ _ hp ?_ (I.hok.fresh (Nat.le_succ _))⟩
    rw [List.pairwise_map]
    refine List.Pairwise.imp_of_mem (fun {u v} hu' hv' huv n m hn hm => ?_) hs'
    rw [← rawN u (hb.perm.mem_iff.mp hu') n hn, ← rawN v (hb.perm.mem_iff.mp hv') m hm]
    exact huv
end
end Zb
/-! The data layer, 14: sorted of a list of tuples of numbers. -/
namespace Zb
open PySem PySem.Spec PyProof.Rows L2 RZ Zf
theorem RA.perm {K : PySem.W.Frag} {H : Hp} {N : Addr → Prop} {vs ws : List V} (p : vs.Perm ws) : ∀ {ds : List D}, RA K H N vs ds → ∃ es, RA K H N ws es ∧ ds.Perm es := by
  induction p with
  | nil => intro ds r; cases r; exact ⟨[], .nil, .refl _⟩
  | cons x p ih =>
    intro ds r
    cases r with
    | cons a b =>
      obtain ⟨es, h1, h2⟩ := ih b
      exact ⟨_, .cons a h1, h2.cons _⟩
  | swap x y l =>
    intro ds r
    cases r with
    | cons a b =>
      cases b with
      | cons b c => exact ⟨_, .cons b (.cons a c), .swap _ _ _⟩
  | trans p q ih1 ih2 =>
    intro ds r
    obtain ⟨es, h1, h2⟩ := ih1 r
    obtain ⟨fs, h3, h4⟩ := ih2 h1
    exact ⟨fs, h3, h2.trans h4⟩
theorem perm_map {α β : Type} {f : α → β} {ds : List α} {es : List β} (p : (ds.map f).Perm es) : ∃ ds', es = ds'.map f ∧ ds.Perm ds' := by
  have key : ∀ {xs es : List β}, xs.Perm es → ∀ ds : List α, xs = ds.map f → ∃ ds', es = ds'.map f ∧ ds.Perm ds' := by
    intro xs es p
    induction p with
    | nil => intro ds e; exact ⟨[], rfl, by rw [List.map_eq_nil_iff.mp e.symm]⟩
    | cons x p ih =>
      intro ds e
      cases ds with
      | nil => cases e
      | cons d ds =>
        obtain ⟨e1, e2⟩ := List.cons.inj (e.trans (List.map_cons ..))
        obtain ⟨ds', h1, h2⟩ := ih ds e2
        exact ⟨d :: ds', by rw [e1, h1, List.map_cons], h2.cons d⟩
    | swap x y l =>
      intro ds e
      match ds, e with
      | d1 :: d2 :: ds, e =>
        obtain ⟨e1, e2⟩ := List.cons.inj (e.trans (List.map_cons ..))
        obtain ⟨e2, e3⟩ := List.cons.inj (e2.trans (List.map_cons ..))
        exact ⟨d2 :: d1 :: ds, by rw [e1, e2, e3]; rfl, .swap _ _ _⟩
    | trans p q ih1 ih2 =>
      intro ds e
      obtain ⟨ds1, h1, h2⟩ := ih1 ds e
      obtain ⟨ds2, h3, h4⟩ := ih2 ds1 h1
      exact ⟨ds2, h3, h2.trans h4⟩
  exact key p ds rfl
def toI (l : List Nat) : List Int := l.map fun (n : Nat) => (n : Int)
theorem tD_toI (l : List Nat) : tD l = .tup ((toI l).map D.int) := by
  unfold tD toI
  rw [List.map_map]
  rfl
theorem R.tupN {K : PySem.W.Frag} {H : Hp} {N : Addr → Prop} {v : V} {l : List Nat} (r : R K H N v (tD l)) : TupN K H v (toI l) := by
  rw [tD_toI] at r
  cases r with
  | tup s r =>
    rw [r.ints] at s
    exact ⟨_, rfl, s⟩
section
variable {X : Cx} {H0 : Hp} {M : Addr → Prop} {env : Ev} {ra : Res} {a : Expr} {pos : Pos}
theorem ra_pair {K : PySem.W.Frag} {H : Hp} {N : Addr → Prop} : ∀ {ys : List V} {ls : List (List Nat)}, RA K H N ys (ls.map tD) → ys.Pairwise (fun x y => ∀ n m, TupN K H x n → TupN K H y m → HT.lexLt m n = false) → ls.Pairwise fun x y => HT.lexLt (toI y) (toI x) = false
  | _, [], _, _ => .nil
  | _, l :: ls, .cons a b, h => by
    rw [List.pairwise_cons] at h ⊢
    refine ⟨fun m hm => ?_, ra_pair b h.2⟩
    obtain ⟨i, hi, e⟩ := List.mem_iff_getElem.mp hm
    obtain ⟨v, hv, r⟩ := b.get (i := i) (d := tD m) (by rw [List.getElem?_map, List.getElem?_eq_getElem hi, e]; rfl)
    exact h.1 v (List.mem_of_getElem? hv) _ _ a.tupN r.tupN
/-- sorted(list of tuples of numbers): all not empty, or the first empty -/
theorem ex_sortT {p : Pos} {ls res : List (List Nat)} (hu : X.A.units + 64 < cLine) (hm : X.mg "sorted" = none) (ha : EX X H0 M a env ra) (hr : ra.v = .lst (ls.map tD)) (hk : (∀ l ∈ ls, l ≠ []) ∨ ∃ ls', ls = [] :: ls') (h : ∀ ls' : List (List Nat), ls'.Perm ls → ls'.Pairwise (fun x y => HT.lexLt (toI y) (toI x) = false) → ls' = res)
    (hg : Gl X "sorted" := by rfl) (hs : starEach [a] X.env = (false, eval a X.env) :: starEach [] X.env := by rfl) : EX X H0 M (.Call (.Name "sorted" p) [a] [] pos) env (.new (.lst (res.map tD))) :=
  ex_callB (cr_sortLT hu) hm (ea_cons ha ea_nil hs) (fun N O σ H H2 vs Q ok e r k => by
    obtain ⟨v, rfl, r1⟩ := rrs1 r
    obtain ⟨q, ws, rfl, h1, h2⟩ := r1.items hr
    have each : ∀ x ∈ ws, ∃ l ∈ ls, R X.K H2 N x (tD l) := fun x hx => by
      obtain ⟨i, hi, e⟩ := List.mem_iff_getElem.mp hx
      obtain ⟨d, hd, rd⟩ := h2.getV (i := i) (v := x) (by rw [List.getElem?_eq_getElem hi, e])
      rw [List.getElem?_map] at hd
      cases hl : ls[i]? with
      | none => rw [hl] at hd; cases hd
      | some l =>
        rw [hl] at hd
        cases hd
        exact ⟨l, List.mem_of_getElem? hl, rd⟩
    refine ⟨q, ws, rfl, SqL.of h1, fun x hx => ?_, ?_, fun ys p' hp hpw hl => ?_⟩
    · obtain ⟨l, _, rd⟩ := each x hx
      exact ⟨_, rd.tupN⟩
    · rcases hk with hk | ⟨ls', rfl⟩
      · refine .inl fun x hx => ?_
        obtain ⟨l, hl, rd⟩ := each x hx
        refine ⟨_, rd.tupN, fun e => hk l hl ?_⟩
        unfold toI at e
        exact List.map_eq_nil_iff.mp e
      · cases h2 with
        | cons a b => exact .inr ⟨_, _, rfl, (a.tupN : TupN X.K H2 _ [])⟩
    · obtain ⟨es, g1, g2⟩ := h2.perm hp.symm
      obtain ⟨ls', rfl, g3⟩ := perm_map g2
      rw [h ls' g3.symm (ra_pair g1 hpw)] at g1
      exact k _ _ (same_new hl) ((new_lst ok (Same.refl _) hl g1).back e)) hg (he := hs)
end
end Zb
/-! What the hand layer lacks, 5: sorted of a tuple of ints. -/
namespace Zk
open PySem PySem.W PySem.Calls PyProof.Rows
section
variable {pg : Program} {wo : World} {Ar : Around} {Ex : Value → Shared → Prop} {sh : Shared}
/-- the heap after a tuple's items were put into a new list -/
def collH (h : Heap) (ws : List Value) : Heap := (h.push (seqObj "list" #[] 0)).update h.objs.size (Obj.mapSeq (· ++ ws.toArray))
theorem collTup {t : Addr} {ob : Obj} {ws : List Value} {n : Nat} {R : List Value → Shared → Prop} (g : sh.heap.get? t = some ob) (c : ob.cls = .type "tuple") (d : ob.data = .seq ws.toArray n) (few : ws.length ≤ sizeLine) (hR : R ws { sh with heap := collH sh.heap ws }) :
    wpAny (model pg wo) Ar (collect (.ref t)) R Ex sh := by
  unfold collect
  refine wpAny_bind (wpAny_runValue (codeAny_builtin entry_proto_collect' (?_ : wpAny _ _ (do again (.builtin "list.__iadd__" ⟨[← newList [], .ref t], []⟩)) _ _ sh)))
  refine wpAny_bind (wpAny_newList (wpAny_pure ⟨Code.quiet_builtin _ (by decide +kernel), codeAny_builtin entry_list_iadd' (?_ : wpAny _ _ (Builtin.List.listExtendWith (.ref sh.heap.objs.size) (.ref t) (.ref sh.heap.objs.size)) _ _ { sh with heap := sh.heap.push (seqObj "list" #[] 0) })⟩))
  unfold Builtin.List.listExtendWith
  have g' : (sh.heap.push (seqObj "list" #[] 0)).get? t = some ob := Heap.get?_push_of_some _ g
  have g0 : (sh.heap.push (seqObj "list" #[] 0)).get? sh.heap.objs.size = some (seqObj "list" #[] 0) := Heap.get?_push_size _ rfl
  refine wpAny_bind (wpAny_typeOf (T := "tuple") ⟨ob, g', c⟩ ?_)
  have tt : (Value.type "tuple" == Value.type "tuple") = true := by rfl
  rw [if_pos (by rw [tt]; simp)]
  refine wpAny_bind (listItems_at g' d (wpAny_bind (listItems_at (xs := #[]) (n := 0) g0 rfl ?_)))
  rw [if_neg (by simp)]
  refine wpAny_bind (listUpdate_at (xs := #[]) (n := 0) g0 rfl (wpAny_pure ?_) (Nat.zero_le _) (by show (#[] ++ ws.toArray).size ≤ sizeLine + 1; simp only [Array.size_append, List.size_toArray, List.length_nil]; omega))
  show wpAny (model pg wo) Ar (do
      let o' ← load sh.heap.objs.size
      match o'.data with
      | .seq items _ => pure items.toList
      | _ => unsupported "internal:collect") R Ex { sh with heap := collH sh.heap ws }
  refine wpAny_bind (wpAny_load (get?_update_seq g0 _) ?_)
  have e : ((#[] : Array Value) ++ ws.toArray).toList = ws := by simp
  show wpAny _ _ (pure ((#[] : Array Value) ++ ws.toArray).toList) R Ex _
  rw [e]
  exact wpAny_pure hR
theorem sortedTup {t : Addr} {ob : Obj} {ws : List Value} {ns : List Int} {n : Nat} {R : Value → Shared → Prop} (g : sh.heap.get? t = some ob) (c : ob.cls = .type "tuple") (d : ob.data = .seq ws.toArray n) (few : ws.length ≤ sizeLine) (hI : IntsAre ws ns)
    (hR : ∀ (out : List Value) (ns' : List Int) (h' : Heap) (ep : Nat), IntsAre out ns' → ns'.Perm ns → ns'.Pairwise (· ≤ ·) → (∀ b o, sh.heap.get? b = some o → h'.get? b = some o) → h'.get? (sh.heap.objs.size + 1) = some (seqObj "list" out.toArray ep) → R (.ref (sh.heap.objs.size + 1)) { sh with heap := h' }) :
    wpAny (model pg wo) Ar (call (.builtin "sorted") [.ref t]) R Ex sh := by
  refine Calls.call_function_entry kind_sorted plain_sorted entry_sorted (args_sorted1 _) ?_
  unfold Builtin.«sorted»
  refine wpAny_bind (m := checkCount "sorted" 1 1 _) (wpAny_pure (wpAny_bind (collTup g c d few (wpAny_bind (wpAny_newList ?_ few)))))
  have sz : (collH sh.heap ws).objs.size = sh.heap.objs.size + 1 := by
    unfold collH
    rw [Heap.size_update, size_push']
  have hoN : ((collH sh.heap ws).push (seqObj "list" ws.toArray 0)).get? (sh.heap.objs.size + 1) = some (seqObj "list" ws.toArray 0) := by
    rw [← sz]
    exact Heap.get?_push_size _ rfl
  have kp : ∀ b o, sh.heap.get? b = some o → b ≠ sh.heap.objs.size + 1 ∧ ((collH sh.heap ws).push (seqObj "list" ws.toArray 0)).get? b = some o := fun b o q => by
    have lt : b < sh.heap.objs.size := Heap.lt_size q
    refine ⟨Nat.ne_of_lt (Nat.lt_succ_of_lt lt), Heap.get?_push_of_some _ ?_⟩
    unfold collH
    rw [Heap.get?_update_ne _ _ _ _ (Nat.ne_of_lt lt)]
    exact Heap.get?_push_of_some _ q
  show wpAny _ _ _ _ _ { sh with heap := (collH sh.heap ws).push (seqObj "list" ws.toArray 0) }
  rw [sz]
  refine wpAny_bind (wpAny_holding (wpAny_call_entry slot_list_sort ⟨_, hoN, rfl⟩ entry_list_sort (SrtO.list_sort_ord SrtO.swo_int hoN few (fun h2 => SrtO.ints_sortable hI h2) fun out o1 o2 => ⟨_, rfl, ?_⟩) (args_list_sort _)))
  obtain ⟨k1, k2, k3⟩ := SrtO.ints_out hI o1 o2
  obtain ⟨ep, he⟩ := sortedHeap_at (vs := ws) (out := out.toArray) hoN
  refine wpAny_pure ⟨_, rfl, hR out _ _ ep k1 k2 k3 (fun b o q => ?_) he⟩
  obtain ⟨k4, k5⟩ := kp b o q
  rw [sortedHeap_old k4 (Heap.lt_size k5)]
  exact k5
end
end Zk
namespace Zb
open PySem PySem.Spec PyProof.Rows L2 RZ
/-- sorted(t), t a tuple of ints -/
def rSortTI (K : PySem.W.Frag) : List V → Hp → VK → Prop := fun vs H Q => ∃ (t : Addr) (ns : List Int), vs = [V.ref t] ∧ SqT K H t (ns.map V.int) ∧
  ∀ (ns' : List Int) (p : Addr), ns'.Perm ns → ns'.Pairwise (· ≤ ·) → H p = none → Q (.ref p) (upd H p (.lst (ns'.map V.int)))
section
variable {X : Cx}
theorem cr_sortTI : CallR X (.builtin "sorted") (rSortTI X.K) := by
  intro pins s σ H vs us Q I r h
  obtain ⟨t, ns, rfl, hs, q⟩ := h
  obtain ⟨its, rv, hT, hz⟩ := I.tuple hs
  rw [Vals.ref1 r]
  obtain ⟨ob, hob, hcb, nb, hdb⟩ := id hT
  have lz : its.length ≤ sizeLine := by
    rw [← rv.length]
    exact hz
  refine Zk.sortedTup hob hcb hdb lz (by simpa using rv.ints) fun out ns' h' ep k1 k2 k3 k4 k5 => ?_
  have hlen : (ns'.map V.int).length ≤ sizeLine := by
    rw [List.length_map, k2.length_eq]
    rw [List.length_map] at hz
    exact hz
  exact ⟨.ref _, upd H (s.heap.objs.size + 1) (.lst (ns'.map V.int)), I.laid (t' := s.toks) k4 (Nat.le_succ _) ⟨hlen, out, ep, vals_of_ints k1, k5⟩, rfl, q ns' _ k2 k3 (I.hok.fresh (Nat.le_succ _))⟩
end
section
variable {X : Cx} {H0 : Hp} {M : Addr → Prop} {env : Ev} {ra : Res} {a : Expr} {pos : Pos}
/-- sorted(tuple of ints) -/
theorem ex_sortTI {p : Pos} {ns res : List Int} (hm : X.mg "sorted" = none) (ha : EX X H0 M a env ra) (hr : ra.v = .tup (ns.map D.int)) (h : ∀ ns' : List Int, ns'.Perm ns → ns'.Pairwise (· ≤ ·) → ns' = res)
    (hg : Gl X "sorted" := by rfl) (hs : starEach [a] X.env = (false, eval a X.env) :: starEach [] X.env := by rfl) : EX X H0 M (.Call (.Name "sorted" p) [a] [] pos) env (.new (.lst (res.map D.int))) :=
  ex_callB cr_sortTI hm (ea_cons ha ea_nil hs) (fun N O σ H H2 vs Q ok e r k => by
    obtain ⟨v, rfl, r1⟩ := rrs1 r
    obtain ⟨q, ws, rfl, h1, h2⟩ := r1.titems hr
    cases h2.ints
    refine ⟨q, ns, rfl, h1, fun ns' l hp hw hl => ?_⟩
    rw [h ns' hp hw]
    exact k _ _ (same_new hl) ((new_lst ok (Same.refl _) hl (ra_ints res)).back e)) hg (he := hs)
end
end Zb
set_option maxHeartbeats 1600000
/-! The data layer, 15: comprehensions whose own name is looked at by one within. -/
namespace Zb
open PySem PySem.Spec PyProof.Rows L2 RZ
section
variable {X : Cx} {H0 : Hp} {M : Addr → Prop} {env env1 env2 : Ev} {a b c e tg iter elt : Expr} {pos : Pos}
theorem cp_Ac {scope : Scope} {α : Type} {xs : List α} {enc f : α → D} {n : Str} {tp : Pos} (i : Nat) (hN : X.N.Nodup) (he : ∀ x ∈ xs, ∀ s H C cl fp, EX (blkX X scope s H C cl fp) H0 M elt (env.set i (.d (enc x))) (.d (f x)))
    (hi : X.N[i]? = some n) (hx : Loc (relabel scope X.env) n) (hf : (scope.names.lookup n == some .cell) = true) : Cp (Bk X scope) H0 M (.Name n tp) [] elt [i] (wipeE env [i]) (xs.map enc) (xs.map f) :=
  cp_all (fun z => env.set i (.d (enc z))) [i] (fun _ h => h) (fun z hz Y ⟨s', H', C, cl, fp, hY⟩ => by
    subst hY
    have t := ag_name (X := blkX X scope s' H' C cl fp) (H0 := H0) (M := M) (env := wipeE env [i]) (d := enc z) (pos := tp) i hN hi hx (.inl hf)
    rw [wipeE, wipeE, List.set_set] at t
    exact t) (fun z hz Y ⟨s', H', C, cl, fp, hY⟩ => by subst hY; exact he z hz s' H' C cl fp)
theorem cp_Fc {scope : Scope} {α : Type} {xs : List α} {enc f : α → D} {n : Str} {tp : Pos} (p : α → Bool) (i : Nat) (hN : X.N.Nodup) (ht : ∀ x ∈ xs, ∀ s H C cl fp, ET (blkX X scope s H C cl fp) H0 M c (env.set i (.d (enc x))) (p x))
    (he : ∀ x ∈ xs, p x = true → ∀ s H C cl fp, EX (blkX X scope s H C cl fp) H0 M elt (env.set i (.d (enc x))) (.d (f x)))
    (hi : X.N[i]? = some n) (hx : Loc (relabel scope X.env) n) (hf : (scope.names.lookup n == some .cell) = true) : Cp (Bk X scope) H0 M (.Name n tp) [c] elt [i] (wipeE env [i]) (xs.map enc) ((xs.filter p).map f) :=
  cp_filt p (fun z => env.set i (.d (enc z))) [i] (fun _ h => h) (fun z hz Y ⟨s', H', C, cl, fp, hY⟩ => by
    subst hY
    have t := ag_name (X := blkX X scope s' H' C cl fp) (H0 := H0) (M := M) (env := wipeE env [i]) (d := enc z) (pos := tp) i hN hi hx (.inl hf)
    rw [wipeE, wipeE, List.set_set] at t
    exact t) (fun z hz Y ⟨s', H', C, cl, fp, hY⟩ => by subst hY; exact ht z hz s' H' C cl fp) (fun z hz hp Y ⟨s', H', C, cl, fp, hY⟩ => by subst hY; exact he z hz hp s' H' C cl fp)
theorem ex_lcAc {scope : Scope} {α : Type} {xs : List α} {enc : α → D} (f : α → D) {n : Str} {tp : Pos} (i : Nat) (hc : X.calm = true) (hN : X.N.Nodup) (hit : IT X H0 M (.Name n tp) iter env (xs.map enc)) (hz : xs.length ≤ 100000)
    (he : ∀ x ∈ xs, ∀ s H C cl fp, EX (blkX X scope s H C cl fp) H0 M elt (env.set i (.d (enc x))) (.d (f x)))
    (hi : X.N[i]? = some n := by rfl) (hx : Loc (relabel scope X.env) n := by first | exact Or.inl rfl | exact Or.inr rfl) (hf : (scope.names.lookup n == some .cell) = true := by rfl)
    (ok : blkC X.N X.env.scope scope [(n, i)] = true := by kernel_rfl) (hs : ∀ x, foldedSetIterable iter X.env x = pure x := by intro _; rfl) : EX X H0 M (.ListComp elt [⟨.Name n tp, iter, [], 0⟩] scope pos) env (.new (.lst (xs.map f))) :=
  ex_lc [(n, i)] hc hN hit (by rw [List.length_map]; exact hz) (cp_Ac i hN he hi hx hf) ok hs
theorem ex_lcFc {scope : Scope} {α : Type} {xs : List α} {enc : α → D} (f : α → D) {n : Str} {tp : Pos} (p : α → Bool) (i : Nat) (hc : X.calm = true) (hN : X.N.Nodup) (hit : IT X H0 M (.Name n tp) iter env (xs.map enc)) (hz : xs.length ≤ 100000)
    (ht : ∀ x ∈ xs, ∀ s H C cl fp, ET (blkX X scope s H C cl fp) H0 M c (env.set i (.d (enc x))) (p x))
    (he : ∀ x ∈ xs, p x = true → ∀ s H C cl fp, EX (blkX X scope s H C cl fp) H0 M elt (env.set i (.d (enc x))) (.d (f x)))
    (hi : X.N[i]? = some n := by rfl) (hx : Loc (relabel scope X.env) n := by first | exact Or.inl rfl | exact Or.inr rfl) (hf : (scope.names.lookup n == some .cell) = true := by rfl)
    (ok : blkC X.N X.env.scope scope [(n, i)] = true := by kernel_rfl) (hs : ∀ x, foldedSetIterable iter X.env x = pure x := by intro _; rfl) : EX X H0 M (.ListComp elt [⟨.Name n tp, iter, [c], 0⟩] scope pos) env (.new (.lst ((xs.filter p).map f))) :=
  ex_lc [(n, i)] hc hN hit (by rw [List.length_map]; exact hz) (cp_Fc p i hN ht he hi hx hf) ok hs
theorem x_lcFc {scope : Scope} {α : Type} {xs : List α} {enc : α → D} (f : α → D) {m n : Str} {tp py spos : Pos} (p : α → Bool) (j i : Nat) (hc : X.calm = true) (hN : X.N.Nodup) (hit : IT X H0 M (.Name n tp) iter env (xs.map enc)) (hz : xs.length ≤ 100000)
    (ht : ∀ x ∈ xs, ∀ s H C cl fp, ET (blkX X scope s H C cl fp) H0 M c (env.set i (.d (enc x))) (p x))
    (he : ∀ x ∈ xs, p x = true → ∀ s H C cl fp, EX (blkX X scope s H C cl fp) H0 M elt (env.set i (.d (enc x))) (.d (f x)))
    (hy : X.N[j]? = some m := by rfl) (hyl : X.env.scope.names.lookup m = some .local := by rfl) (hk : X.env.scope.kind = .function := by rfl) (hl : (py.line == pos.line) = true := by rfl) (ha : (scope.names.any fun (z, k) => z == m && (k == .local || k == .cell)) = false := by decide +kernel)
    (hi : X.N[i]? = some n := by rfl) (hx : Loc (relabel scope X.env) n := by first | exact Or.inl rfl | exact Or.inr rfl) (hf : (scope.names.lookup n == some .cell) = true := by rfl)
    (ok : blkC X.N X.env.scope scope [(n, i)] = true := by kernel_rfl) (hs : ∀ x, foldedSetIterable iter X.env x = pure x := by intro _; rfl) : X1 X H0 M (.Assign [.Name m py] (.ListComp elt [⟨.Name n tp, iter, [c], 0⟩] scope pos) spos) env (.nx (env.set j (.d (.lst ((xs.filter p).map f))))) :=
  x_lc j [(n, i)] hc hN hit (by rw [List.length_map]; exact hz) (cp_Fc p i hN ht he hi hx hf) hy hyl hk hl ha ok hs
/-- an own list or dict is data from here on -/
theorem xs_give {x : D} {sts : List Stmt} {out : Out} (i : Nat) (hM : ∀ a, H0 a = none → M a) (he : env[i]? = some (.o x)) (h : XS X H0 M sts (env.set i (.d x)) out) : XS X H0 M sts env out :=
  pss_weak h fun E σ H ⟨N, O, ok, q⟩ => by
    obtain ⟨p, h1, h2, h3⟩ := ok.o i x he
    exact ⟨_, _, ok.give hM he h1, Post.fr (fun b o hb => ⟨fun hn => ⟨hb, .inl hn⟩, fun _ => hb⟩) q⟩
end
end Zb
set_option maxHeartbeats 4000000
/-! The law's defs, 4: all lots, the parts. -/
namespace Zf
open PySem PySem.Spec PyProof.Rows L2 Zb Zt Gr
def lexLe (a b : List Nat) : Bool := !HT.lexLt (toI b) (toI a)
def lexSort (ls : List (List Nat)) : List (List Nat) := ls.mergeSort lexLe
theorem lex_anti : ∀ a b : List Nat, HT.lexLt (toI b) (toI a) = false → HT.lexLt (toI a) (toI b) = false → a = b
  | [], [], _, _ => rfl
  | [], b :: bs, _, h => by cases h
  | a :: as, [], h, _ => by cases h
  | a :: as, b :: bs, h1, h2 => by
    have h1 : HT.lexLt ((b : Int) :: toI bs) ((a : Int) :: toI as) = false := h1
    have h2 : HT.lexLt ((a : Int) :: toI as) ((b : Int) :: toI bs) = false := h2
    rw [HT.lexLt_cons] at h1 h2
    by_cases e : a = b
    · subst e
      rw [if_pos rfl] at h1 h2
      rw [lex_anti as bs h1 h2]
    · rw [if_neg (by omega)] at h1 h2
      have := of_decide_eq_false h1
      have := of_decide_eq_false h2
      omega
theorem lexSort_uniq {ls ls' : List (List Nat)} (p : ls'.Perm ls) (s : ls'.Pairwise fun x y => HT.lexLt (toI y) (toI x) = false) : ls' = lexSort ls := by
  have s2 : (lexSort ls).Pairwise fun x y => HT.lexLt (toI y) (toI x) = false := by
    refine (List.pairwise_mergeSort (le := lexLe) (fun a b c h1 h2 => ?_) (fun a b => ?_) ls).imp fun {a b} h => ?_
    · unfold lexLe at h1 h2 ⊢
      rw [Bool.not_eq_true'] at h1 h2 ⊢
      exact NtL.lex_tr _ _ _ h1 h2
    · unfold lexLe
      cases h : HT.lexLt (toI b) (toI a) with
      | false => rfl
      | true => rw [NtL.lex_asym _ _ h]; rfl
    · unfold lexLe at h
      rwa [Bool.not_eq_true'] at h
  exact (p.trans (List.mergeSort_perm ls lexLe).symm).eq_of_pairwise (fun a b _ _ h1 h2 => lex_anti a b h1 h2) s s2
theorem mem_lexSort {ls : List (List Nat)} {l : List Nat} : l ∈ lexSort ls ↔ l ∈ ls := List.mem_mergeSort
/-- all sets of numbers below one -/
def subsN : Nat → List (List Nat)
  | 0 => [[]]
  | m + 1 => subsN m ++ (subsN m).map fun l => l ++ [m]
def lotsL (m : Nat) : List (List Nat) := lexSort (subsN m)
theorem subsN_len : ∀ m, (subsN m).length = 2 ^ m
  | 0 => rfl
  | m + 1 => by rw [subsN, List.length_append, List.length_map, subsN_len m, Nat.pow_succ]; omega
theorem subsN_head : ∀ m, ∃ t, subsN m = [] :: t
  | 0 => ⟨[], rfl⟩
  | m + 1 => by
    obtain ⟨t, e⟩ := subsN_head m
    refine ⟨t ++ (subsN m).map fun l => l ++ [m], ?_⟩
    show subsN m ++ (subsN m).map (fun l => l ++ [m]) = _
    generalize (subsN m).map (fun l => l ++ [m]) = r
    rw [e]
    rfl
theorem subsN_ok : ∀ m, ∀ l ∈ subsN m, l.Pairwise (· < ·) ∧ ∀ k ∈ l, k < m
  | 0, l, h => by
    have : l = [] := List.mem_singleton.mp h
    subst this
    simp
  | m + 1, l, h => by
    rcases List.mem_append.mp h with h | h
    · obtain ⟨h1, h2⟩ := subsN_ok m l h
      exact ⟨h1, fun k hk => by have := h2 k hk; omega⟩
    · obtain ⟨v, hv, rfl⟩ := List.mem_map.mp h
      obtain ⟨h1, h2⟩ := subsN_ok m v hv
      refine ⟨List.pairwise_append.mpr ⟨h1, by simp, fun a ha b hb => ?_⟩, fun k hk => ?_⟩
      · rw [List.mem_singleton.mp hb]
        exact h2 a ha
      · rcases List.mem_append.mp hk with z | z
        · have := h2 k z
          omega
        · rw [List.mem_singleton.mp z]
          omega
theorem flat_rows (ls : List (List Nat)) : D.flats (ls.map tD) = true := flats_map _ flat_tD _
section
variable {P : Program} {w : World} {K : PySem.W.Frag} {mg : Str → Option Value} {base : Heap}
def F_l_lots (ds : List D) (d : D) : Prop := ∃ m : Nat, ds = [natD m] ∧ m ≤ 5 ∧ d = .lst ((lotsL m).map tD)
theorem ct_l_lots (B : Bl mg) (d : Df K mg "_law_lots" s_law_lots ["_law_many_so"]) : Ct P w K mg base 1 "_law_lots" ["_law_many_so"] F_l_lots := by
  obtain ⟨f, fd, Fn, hb, hm⟩ := d.ex
  refine ct_any Fn sc_law_lots hb hm (fun ds d h => ?_) (by decide) (fun cdv A outer s H E hr ds d h => ?_)
  · obtain ⟨m, rfl, _⟩ := h
    rfl
  · obtain ⟨m, rfl, hm5, rfl⟩ := h
    let st := fun (b : List (List Nat) × Sl × Sl) (i : Nat) => ((b.1 ++ b.1.map fun l => l ++ [i], Sl.d (natD i), .no) : List (List Nat) × Sl × Sl)
    have fold : ∀ (i : Nat) (b : List (List Nat) × Sl × Sl), b.1 = subsN 0 → ((List.range i).foldl st b).1 = subsN i := by
      intro i
      induction i with
      | zero => intro b hb; exact hb
      | succ i ih =>
        intro b hb
        rw [List.range_succ, List.foldl_append]
        show (st _ i).1 = _
        show ((List.range i).foldl st b).1 ++ ((List.range i).foldl st b).1.map _ = _
        rw [ih b hb]
        rfl
    refine .inr (.inl ⟨⟨_, rfl, flat_rows _⟩, xs_cons (x_set 1 sc_law_lots.nd (ex_lst (ea_cons (ex_tup ea_nil) ea_nil)))
      (xs_cons (x_for rfl (it_range B.range (ex_var 0 rfl) (by omega)) (lp_fold (b := ([[]], .no, .no)) (xs := List.range m) (enc := natD) (fun b : List (List Nat) × Sl × Sl => [.d (natD m), .d (.lst (b.1.map tD)), b.2.1, b.2.2]) st
        (fun b rest => b.1.length * 2 ^ rest.length ≤ 32 ∧ b.2.2 = .no ∧ ∀ l ∈ b.1, l.length ≤ 32 - 2 ^ 0 * rest.length) (fun b i rest hp => ?g1) ?g2))
      (xs_one (x_retW (ex_sortT (ls := subsN m) (hu_of hr) B.sorted (ex_var 1 rfl) ?g3 (.inr (subsN_head m)) fun ls' h1 h2 => lexSort_uniq h1 h2))))⟩)
    case g3 =>
      show D.lst (((List.range m).foldl st ([[]], .no, .no)).1.map tD) = _
      rw [fold m _ rfl]
    case g1 =>
      obtain ⟨p1, p2, p3⟩ := hp
      rw [List.length_cons] at p1 p3
      have hb1 : b.1.length ≤ 32 := Nat.le_trans (Nat.le_mul_of_pos_right _ (Nat.pow_pos (by omega))) p1
      refine ⟨_, _, ag_name 2 sc_law_lots.nd, xs_one (X1.to (x_set 1 sc_law_lots.nd (ex_cat (ex_var 1 rfl) (ex_lcA (xs := b.1) (enc := tD) (fun l => tD (l ++ [i])) 3 rfl sc_law_lots.nd (it_list (ex_var 1 rfl) rfl) (by omega) (fun l hl _ _ _ _ _ => EX.to (ex_catT (ex_var 3 rfl) (ex_tup (ea_cons (ex_var 2 rfl) ea_nil)) rfl rfl ?_) ?_)) rfl rfl ?_)) ?_), ?_, ?_, ?_⟩
      · have := p3 l hl
        rw [List.length_map]
        show l.length + 1 ≤ 100000
        omega
      · unfold tD
        rw [List.map_append]
        rfl
      · rw [List.length_map, List.length_map]
        omega
      · show Out.nx [_, Sl.d (.lst (b.1.map tD ++ b.1.map fun l => tD (l ++ [i]))), _, _] = Out.nx [_, Sl.d (.lst ((b.1 ++ b.1.map fun l => l ++ [i]).map tD)), _, _]
        rw [List.map_append, List.map_map, p2]
        rfl
      · show (b.1 ++ b.1.map fun l => l ++ [i]).length * 2 ^ rest.length ≤ 32
        rw [List.length_append, List.length_map]
        rw [Nat.pow_succ] at p1
        have e : (b.1.length + b.1.length) * 2 ^ rest.length = b.1.length * (2 ^ rest.length * 2) := by
          rw [← Nat.two_mul, Nat.mul_comm 2, Nat.mul_assoc, Nat.mul_comm 2]
        omega
      · rfl
      · intro l hl
        have hr31 : rest.length < 31 := by
          have : 2 ^ (rest.length + 1) ≤ 32 ∨ b.1.length = 0 := by
            rcases Nat.eq_zero_or_pos b.1.length with z | z
            · exact .inr z
            · exact .inl (Nat.le_trans (Nat.le_mul_of_pos_left _ z) p1)
          rcases this with z | z
          · have : rest.length < 2 ^ rest.length := Nat.lt_two_pow_self
            rw [Nat.pow_succ] at z
            omega
          · rw [List.length_eq_zero_iff] at z
            exfalso
            have hl' : l ∈ b.1 ++ b.1.map fun l => l ++ [i] := hl
            rw [z] at hl'
            cases hl'
        rcases List.mem_append.mp hl with z | z
        · have := p3 l z
          omega
        · obtain ⟨v, hv, rfl⟩ := List.mem_map.mp z
          have := p3 v hv
          rw [List.length_append, List.length_singleton]
          omega
    case g2 =>
      rw [List.length_range]
      refine ⟨?_, rfl, fun l hl => ?_⟩
      · show 1 * 2 ^ m ≤ 32
        have : 2 ^ m ≤ 2 ^ 5 := Nat.pow_le_pow_right (by omega) hm5
        omega
      · rw [List.mem_singleton.mp hl]
        exact Nat.zero_le _
theorem lotsL_lot {gs : G} : ∀ l ∈ lotsL gs.length, Lot gs l := fun l h => by
  obtain ⟨h1, h2⟩ := subsN_ok _ l (mem_lexSort.mp h)
  exact ⟨h1, h2⟩
theorem marks_lt {n : Nat} {gs : G} (hw : Web n gs) : ∀ (heap m : List Nat), m.length = n → (∀ k ∈ heap, k < gs.length) → (heap.foldl (Gq.marksStep gs) m).length = n
  | [], m, h, _ => h
  | k :: heap, m, h, hk => marks_lt hw heap _ ((Gq.marksStep_len gs m k).trans h) fun j hj => hk j (List.mem_cons_of_mem _ hj)
theorem kinds_len (m : List Nat) : (Gq.kindsL m).length ≤ m.length := by
  refine Gq.nodup_sub (Gq.nodup_addAll (by simp)) fun x hx => Gq.mem_kindsL.mp hx
def partsL (n : Nat) (gs : G) (heap : List Nat) : List (List Nat) := lexSort (Gq.rowsL n gs heap)
def F_l_parts (ds : List D) (d : D) : Prop := ∃ (n : Nat) (gs : G) (heap : List Nat), ds = [webD n gs, tD heap] ∧ Web n gs ∧ Lot gs heap ∧ d = .lst ((partsL n gs heap).map tD)
theorem ct_l_parts (B : Bl mg) (d : Df K mg "_law_parts" s_law_parts ["_law_net_here", "_law_heap"]) : Ct P w K mg base 1 "_law_parts" ["_law_net_here", "_law_heap"] F_l_parts := by
  obtain ⟨f, fd, Fn, hb, hm⟩ := d.ex
  refine ct_any Fn sc_law_parts hb hm (fun ds d h => ?_) (by decide) (fun cdv A outer s H E hr ds d h => ?_)
  · obtain ⟨n, gs, heap, rfl, _⟩ := h
    rfl
  · obtain ⟨n, gs, heap, rfl, hw, hl, rfl⟩ := h
    have few := hw.few
    let ms := Gq.marksL n gs heap
    have msl : ms.length = n := (Gq.marksL_ok hw hl.ok).1
    have kl : (Gq.kindsL ms).length ≤ 7 := by
      have := kinds_len ms
      omega
    let st := fun (b : List Nat × Sl × Sl × Sl × Sl) (k : Nat) => ((Gq.marksStep gs b.1 k, Sl.d (natD k), Sl.d (natD (Gq.mAt b.1 (gAt gs k).1)), Sl.d (natD (Gq.mAt b.1 (gAt gs k).2)), .no) : List Nat × Sl × Sl × Sl × Sl)
    have fold : ∀ (ks : List Nat) (b : List Nat × Sl × Sl × Sl × Sl), (ks.foldl st b).1 = ks.foldl (Gq.marksStep gs) b.1 := by
      intro ks
      induction ks with
      | nil => intro b; rfl
      | cons k ks ih => intro b; rw [List.foldl_cons, ih]; rfl
    have fold5 : ∀ (ks : List Nat) (b : List Nat × Sl × Sl × Sl × Sl), b.2.2.2.2 = .no → (ks.foldl st b).2.2.2.2 = .no := by
      intro ks
      induction ks with
      | nil => intro b hb; exact hb
      | cons k ks ih => intro b hb; rw [List.foldl_cons]; exact ih _ rfl
    let last := heap.foldl st (List.range n, .no, .no, .no, .no)
    have l1 : last.1 = ms := fold heap _
    have l5 : last.2.2.2.2 = .no := fold5 heap _ rfl
    have foldK : ∀ (xs : List Nat) (b : List Nat × Sl), (xs.foldl (fun (b : List Nat × Sl) w => (addOne b.1 w, Sl.d (natD w))) b).1 = xs.foldl addOne b.1 := by
      intro xs
      induction xs with
      | nil => intro b; rfl
      | cons k xs ih => intro b; rw [List.foldl_cons, ih]; rfl
    refine .inr (.inl ⟨⟨_, rfl, flat_rows _⟩, xs_cons (x_set 2 sc_law_parts.nd (ex_listRg rfl B.list B.range (ex_many (ex_var 0 rfl)) (by omega)))
      (xs_cons (x_for rfl (it_tup (ex_var 1 rfl) rfl) (lp_fold (b := (List.range n, .no, .no, .no, .no)) (xs := heap) (enc := natD) (fun b : List Nat × Sl × Sl × Sl × Sl => [.d (webD n gs), .d (tD heap), .d (lD b.1), b.2.1, b.2.2.1, b.2.2.2.1, b.2.2.2.2, .no, .no]) st
        (fun b rest => b.1.length = n ∧ (∀ k ∈ rest, k < gs.length) ∧ b.2.2.2.2 = .no) (fun b k rest hp => ?g1) ⟨List.length_range, hl.ok, rfl⟩))
      (xs_cons (x_setO 7 sc_law_parts.nd (ex_lst ea_nil)) (xs_cons (x_for rfl (it_list (ex_var 2 rfl) rfl) (lp_fold (b := ([], last.2.2.2.2)) (xs := last.1) (enc := natD) (fun b : List Nat × Sl => [.d (webD n gs), .d (tD heap), .d (lD last.1), last.2.1, last.2.2.1, last.2.2.2.1, b.2, .o (lD b.1), .no]) (fun b w => (addOne b.1 w, .d (natD w)))
        (fun b rest => b.1.length + rest.length ≤ 100) (fun b w rest hp => ?g2) ?g3))
      (xs_give (x := lD (Gq.kindsL ms)) 7 (fun _ _ => trivial) ?g6 (xs_one (x_retW (ex_sortT (ls := Gq.rowsL n gs heap) (hu_of hr) B.sorted (ex_lcAc (xs := Gq.kindsL ms) (enc := natD) (fun w => tD (Gq.partOf n ms w)) 6 rfl sc_law_parts.nd ?g4 (by omega) (fun w hw' _ _ _ _ _ => ?g5)) ?g8 (.inl (Gq.rowsL_ne hw hl.ok)) fun ls' h1 h2 => lexSort_uniq h1 h2)))))))⟩)
    case g1 =>
      obtain ⟨p1, p2, p3⟩ := hp
      have hk := p2 k (List.mem_cons_self ..)
      obtain ⟨ha, hb', _⟩ := Gq.gAt_ok hw hk
      refine ⟨_, _, ag_name 3 sc_law_parts.nd, xs_cons (x_asg (ex_tup (ea_cons (ex_item (j := (gAt gs k).1) (ex_var 2 rfl) (ex_near (ex_var 0 rfl) (ex_var 3 rfl) hk) (.inl rfl) rfl (nat_get (Gq.mAt_get (by omega)))) (ea_cons (ex_item (j := (gAt gs k).2) (ex_var 2 rfl) (ex_far (ex_var 0 rfl) (ex_var 3 rfl) hk) (.inl rfl) rfl (nat_get (Gq.mAt_get (by omega)))) ea_nil))) (ag_tup rfl (ags_cons (ag_name 4 sc_law_parts.nd) (ags_cons (ag_name 5 sc_law_parts.nd) ags_nil))))
        (xs_one (X1.to (x_set 2 sc_law_parts.nd (ex_lcA (xs := b.1) (enc := natD) (fun x => natD (if x = Gq.mAt b.1 (gAt gs k).2 then Gq.mAt b.1 (gAt gs k).1 else x)) 6 rfl sc_law_parts.nd (it_list (ex_var 2 rfl) rfl) (by omega) (fun x hx _ _ _ _ _ => ex_ifE (et_eqN (ex_var 6 rfl) (ex_var 5 rfl)) (fun h => ?_) fun h => ?_))) ?_)), (Gq.marksStep_len gs b.1 k).trans p1, fun j hj => p2 j (List.mem_cons_of_mem _ hj), rfl⟩
      · rw [decide_eq_true_eq] at h
        rw [if_pos h]
        exact ex_var 4 rfl
      · rw [decide_eq_false_iff_not] at h
        rw [if_neg h]
        exact ex_var 6 rfl
      · show Out.nx [_, _, Sl.d (.lst (b.1.map fun x => natD (if x = Gq.mAt b.1 (gAt gs k).2 then Gq.mAt b.1 (gAt gs k).1 else x))), _, _, _, _, _, _] = Out.nx [_, _, Sl.d (.lst ((Gq.marksStep gs b.1 k).map natD)), _, _, _, _, _, _]
        unfold Gq.marksStep
        rw [List.map_map, p3]
        rfl
    case g2 =>
      rw [List.length_cons] at hp
      refine ⟨_, _, ag_name 6 sc_law_parts.nd, xs_one (x_if (x := !decide (w ∈ b.1)) (et_notInN (ex_var 6 rfl) (ex_own 7 rfl) (.inr rfl)) (fun h => ?_) fun h => ?_), ?_⟩
      · have hn : w ∉ b.1 := by simpa using h
        refine XS.to (xs_one (x_append 7 rfl (ex_var 6 rfl) (by rw [List.length_map]; omega))) ?_
        unfold addOne
        rw [if_neg hn]
        show Out.nx [_, _, _, _, _, _, _, Sl.o (.lst (b.1.map natD ++ [natD w])), _] = Out.nx [_, _, _, _, _, _, _, Sl.o (.lst ((b.1 ++ [w]).map natD)), _]
        rw [List.map_append]
        rfl
      · have hn : w ∈ b.1 := by simpa using h
        refine XS.to xs_nil ?_
        unfold addOne
        rw [if_pos hn]
        rfl
      · show (addOne b.1 w).length + rest.length ≤ 100
        unfold addOne
        split
        · omega
        · rw [List.length_append, List.length_singleton]
          omega
    case g3 =>
      show 0 + last.1.length ≤ 100
      rw [l1]
      omega
    case g4 =>
      exact it_list (ex_var 7 rfl) rfl
    case g5 =>
      refine EX.to (ex_tupleOf B.tuple (ex_lcF (xs := List.range n) (enc := natD) natD (fun p => decide (Gq.mAt ms p = w)) 8 rfl sc_law_parts.nd (it_range B.range (ex_many (ex_var 0 rfl)) (by omega)) (by rw [List.length_range]; omega) (fun p hp _ _ _ _ _ => et_eqN (ex_item (j := p) (ex_var 2 rfl) (ex_var 8 rfl) (.inl rfl) rfl ?_) (ex_var 6 rfl)) (fun p _ _ _ _ _ _ _ => ex_var 8 rfl)) (.inl rfl)) rfl
      rw [← l1]
      exact nat_get (Gq.mAt_get (by rw [l1, msl]; exact List.mem_range.mp hp))
    case g6 =>
      show some (Sl.o (lD _)) = _
      rw [foldK, l1]
      rfl
    case g8 =>
      unfold Gq.rowsL
      rw [List.map_map]
      rfl
end
end Zf
/-! The law's defs, 5: tests of orders, parts that bar. -/
namespace Zf
open PySem PySem.Spec PyProof.Rows L2 Zb Zt Gr
/-! ### who goes without by a run -/
theorem seatsK_fst (gs : G) : ∀ (row taken : List Nat), (seats gs taken row).map (·.1) = row
  | [], _ => rfl
  | k :: row, taken => by rw [seats, List.map_cons, seatsK_fst gs row]
theorem arr_keep {k : Nat} : ∀ (zs : List (Nat × Option Nat)) (ts : List (Option Nat)), k ∉ zs.map (·.1) → (arrSt ts zs)[k]? = ts[k]?
  | [], ts, _ => rfl
  | z :: zs, ts, h => by
    rw [List.map_cons, List.mem_cons, not_or] at h
    have e : arrSt ts (z :: zs) = arrSt (ts.set z.1 z.2) zs := rfl
    rw [e, arr_keep zs _ h.2, List.getElem?_set_ne (Ne.symm h.1)]
theorem arr_get {k : Nat} {o : Option Nat} : ∀ (zs : List (Nat × Option Nat)) (ts : List (Option Nat)), (zs.map (·.1)).Nodup → (k, o) ∈ zs → k < ts.length → (arrSt ts zs)[k]? = some o
  | z :: zs, ts, nd, h, hk => by
    have e : arrSt ts (z :: zs) = arrSt (ts.set z.1 z.2) zs := rfl
    rw [List.map_cons, List.nodup_cons] at nd
    rw [e]
    rcases List.mem_cons.mp h with rfl | h
    · rw [arr_keep zs _ nd.1, List.getElem?_set_self hk]
    · exact arr_get zs _ nd.2 h (by rw [List.length_set]; exact hk)
theorem runL_seats (gs : G) (row : List Nat) : runL gs row = arrSt (List.replicate gs.length none) (seats gs [] row) := by
  unfold runL
  rw [run_arr]
theorem mem_lackL {ts : List (Option Nat)} {k : Nat} : k ∈ lackL ts ↔ ts[k]? = some none := by
  unfold lackL
  constructor
  · intro h
    obtain ⟨z, hz, rfl⟩ := List.mem_map.mp h
    obtain ⟨h1, h2⟩ := List.mem_filter.mp hz
    obtain ⟨o, i⟩ := z
    rw [List.mem_zipIdx_iff_getElem?] at h1
    cases o with
    | none => exact h1
    | some p => cases h2
  · intro h
    exact List.mem_map.mpr ⟨(none, k), List.mem_filter.mpr ⟨List.mem_zipIdx_iff_getElem?.mpr h, rfl⟩, rfl⟩
theorem lackL_sorted (ts : List (Option Nat)) : (lackL ts).Pairwise (· < ·) := by
  unfold lackL
  have h : (ts.zipIdx.map (·.2)).Pairwise (· < ·) := by
    have e : ts.zipIdx.map (·.2) = List.range' 0 ts.length := List.zipIdx_map_snd 0 ts
    rw [e]
    exact List.pairwise_lt_range'
  exact h.sublist (List.filter_sublist.map _)
theorem lackL_run {gs : G} {row : List Nat} (ho : IsOrder gs row) : lackL (runL gs row) = Gr.without gs row := by
  have nd : row.Nodup := ho.nodup_iff.mpr List.nodup_range
  have inrow : ∀ k, k ∈ row ↔ k < gs.length := fun k => ho.mem_iff.trans List.mem_range
  refine Gq.sorted_uniq (lackL_sorted _) (Gq.asc_sorted _ _) fun k => ?_
  unfold Gr.without
  rw [mem_lackL, Gq.mem_asc, runL_seats]
  have nd' : ((seats gs [] row).map (·.1)).Nodup := by rw [seatsK_fst]; exact nd
  have at' : k < gs.length → ∃ o, (k, o) ∈ seats gs [] row := fun hk => by
    have : k ∈ (seats gs [] row).map (·.1) := by rw [seatsK_fst]; exact (inrow k).mpr hk
    obtain ⟨z, hz, rfl⟩ := List.mem_map.mp this
    exact ⟨z.2, hz⟩
  constructor
  · intro h
    have hk : k < gs.length := by
      obtain ⟨hl, _⟩ := List.getElem?_eq_some_iff.mp h
      rw [arr_len, List.length_replicate] at hl
      exact hl
    obtain ⟨o, ho'⟩ := at' hk
    rw [arr_get _ _ nd' ho' (by rw [List.length_replicate]; exact hk)] at h
    cases h
    refine ⟨hk, ?_⟩
    unfold lacks
    exact List.mem_map.mpr ⟨(k, none), List.mem_filter.mpr ⟨ho', rfl⟩, rfl⟩
  · rintro ⟨hk, h⟩
    unfold lacks at h
    obtain ⟨z, hz, rfl⟩ := List.mem_map.mp h
    obtain ⟨h1, h2⟩ := List.mem_filter.mp hz
    obtain ⟨j, o⟩ := z
    cases o with
    | some p => cases h2
    | none => exact arr_get _ _ nd' h1 (by rw [List.length_replicate]; exact hk)
theorem eqvAll_refl : ∀ l : List Nat, PyData.eqvAll (D.toPs (l.map natD)) (D.toPs (l.map natD)) = true
  | [] => rfl
  | n :: l => by
    rw [List.map_cons, D.toPs, PyData.eqvAll, eqvAll_refl l, eqv_natD]
    simp
theorem eqv_lD_self (l : List Nat) : D.eqv (lD l) (lD l) = true := by
  unfold D.eqv lD D.toP
  rw [PyData.eqv]
  exact eqvAll_refl l
theorem shp_lD (l : List Nat) : Shp 1 (lD l) := fun d hd => by
  obtain ⟨n, _, rfl⟩ := List.mem_map.mp hd
  trivial
section
variable {P : Program} {w : World} {K : PySem.W.Frag} {mg : Str → Option Value} {base : Heap}
def F_l_is_walk (ds : List D) (d : D) : Prop := ∃ (n : Nat) (gs : G) (row : List Nat), ds = [webD n gs, tD row] ∧ Web n gs ∧ IsOrder gs row ∧ d = .bl true
theorem ct_l_is_walk (B : Bl mg) (d : Df K mg "_law_is_walk" s_law_is_walk ["_law_net_here", "_law_matter"]) : Ct P w K mg base 1 "_law_is_walk" ["_law_net_here", "_law_matter"] F_l_is_walk := by
  obtain ⟨f, fd, Fn, hb, hm⟩ := d.ex
  refine ct_any Fn sc_law_is_walk hb hm (fun ds d h => ?_) (by decide) (fun cdv A outer s H E hr ds d h => ?_)
  · obtain ⟨n, gs, row, rfl, _⟩ := h
    rfl
  · obtain ⟨n, gs, row, rfl, hw, ho, rfl⟩ := h
    have fewG := hw.fewG
    have hl : row.length = gs.length := by
      have := ho.length_eq
      rwa [List.length_range] at this
    refine .inl ⟨rfl, false, xs_cons (x_ifF (ET.to (et_w (ew_or (et_not (et_val (ex_isi kit_tuple B.isinstance B.tuple (ex_var 1 rfl)))) fun _ => ew_or1 (et_neD (i := 1) (j := 1) (hu_of hr) (ex_lcF (xs := row) (enc := natD) (fun _ => natD 1) (fun _ => false) 2 rfl sc_law_is_walk.nd (it_tup (ex_var 1 rfl) rfl) (by omega)
      (fun k _ _ _ _ _ _ => ET.to (et_w (ew_or (et_not (et_val (ex_isi kit_int B.isinstance B.int (ex_var 2 rfl)))) fun _ => ew_or1 (et_val (ex_isi kit_bool B.isinstance B.bool (ex_var 2 rfl))))) ?g1) (fun k _ _ _ _ _ _ _ => ex_int)) (ex_lst ea_nil) ?g2 shp_nil))) ?g3) xs_nil)
      (xs_one (x_retD (EX.to (ex_eqD (i := 1) (j := 1) (hu_of hr) (ex_sortTI (ns := toI row) (res := (List.range gs.length).map fun i : Nat => (i : Int)) B.sorted (ex_var 1 rfl) ?g4 fun ns' h1 h2 => ?g5) (ex_listRg rfl B.list B.range (EX.to (ex_len B.len (ex_gsts (ex_var 0 rfl)) (.inr rfl)) (by rw [List.length_map])) (by omega)) ?g6 (shp_lD _)) ?g7)))⟩
    case g1 =>
      rw [isT_int, isT_bool]
      rfl
    case g2 =>
      intro d hd
      obtain ⟨k, _, rfl⟩ := List.mem_map.mp hd
      trivial
    case g3 =>
      rw [isT_tuple]
      have : row.filter (fun _ => false) = [] := List.filter_eq_nil_iff.mpr fun _ _ h => by cases h
      rw [this]
      rfl
    case g4 => exact tD_toI row
    case g5 =>
      refine (h1.trans ?_).eq_of_pairwise (le := (· ≤ ·)) (fun a b _ _ p q => Int.le_antisymm p q) h2 ?_
      · exact ho.map _
      · rw [List.pairwise_map]
        exact List.pairwise_lt_range.imp fun {a b} h => by omega
    case g6 =>
      intro d hd
      obtain ⟨k, _, rfl⟩ := List.mem_map.mp hd
      trivial
    case g7 =>
      have e : D.lst (((List.range gs.length).map fun i : Nat => (i : Int)).map D.int) = lD (List.range gs.length) := by
        unfold lD
        rw [List.map_map]
        rfl
      show Res.d (.bl (D.eqv (D.lst _) (lD (List.range gs.length)))) = _
      rw [e, eqv_lD_self]
def F_l_all_of (ds : List D) (d : D) : Prop := ∃ (n : Nat) (gs : G) (heap row : List Nat), ds = [webD n gs, tD heap, tD row] ∧ Web n gs ∧ heap.length ≤ 1000 ∧ IsOrder gs row ∧ d = .bl (heap.all fun k => decide (k ∈ Gr.without gs row))
theorem ct_l_all_of (d : Df K mg "_law_all_of" s_law_all_of ["_law_net_here", "_law_heap", "_law_matter"]) (c1 : Ct P w K mg base 1 "_law_is_walk" ["_law_net_here", "_law_matter"] F_l_is_walk) (c2 : Ct P w K mg base 1 "_law_are_within" ["_law_heap", "_law_wide_so"] F_l_within) (c3 : Ct P w K mg base 1 "_law_lacking" ["_law_seats"] F_l_lacking) (c4 : Ct P w K mg base 2 "_law_run" ["_law_net_here", "_law_walk"] F_l_run) :
    Ct P w K mg base 3 "_law_all_of" ["_law_net_here", "_law_heap", "_law_matter"] F_l_all_of := by
  obtain ⟨f, fd, Fn, hb, hm⟩ := d.ex
  refine ct_any Fn sc_law_all_of hb hm (fun ds d h => ?_) (by decide) (fun cdv A outer s H E hr ds d h => ?_)
  · obtain ⟨n, gs, heap, row, rfl, _⟩ := h
    rfl
  · obtain ⟨n, gs, heap, row, rfl, hw, hh, ho, rfl⟩ := h
    have fewG := hw.fewG
    have hl : row.length = gs.length := by
      have := ho.length_eq
      rwa [List.length_range] at this
    have h1 : Room 1 _ := hr.mono (by decide)
    exact .inl ⟨rfl, false, xs_one (x_retD (EX.to (ex_and (ex_call c1 h1 (ea_cons (ex_var 0 rfl) (ea_cons (ex_var 2 rfl) ea_nil)) ⟨n, gs, row, rfl, hw, ho, rfl⟩) fun _ => ex_one (ex_call c2 h1 (ea_cons (ex_var 1 rfl) (ea_cons (ex_call c3 h1 (ea_cons (ex_call c4 (hr.mono (by decide)) (ea_cons (ex_var 0 rfl) (ea_cons (ex_var 2 rfl) ea_nil)) ⟨n, gs, row, rfl, hw, fun k hk => List.mem_range.mp (ho.mem_iff.mp hk), by omega, rfl⟩) ea_nil) ⟨runL gs row, rfl, by rw [runL_arr, arr_len, List.length_replicate]; omega, rfl⟩) ea_nil)) ⟨heap, lackL (runL gs row), rfl, hh, rfl⟩)) (by rw [lackL_run ho, Bool.true_and])))⟩
/-- the parts that bar a lot, as the law reckons them -/
def barsL (n : Nat) (gs : G) (heap part : List Nat) : Bool := (heap.any fun k => decide ((gAt gs k).1 ∈ part) || decide ((gAt gs k).2 ∈ part)) && (decide ((guestsIn gs (others gs.length heap) part).length < part.length) && (freeIn n gs heap part).isEmpty)
def barredL (n : Nat) (gs : G) (heap : List Nat) : List (List Nat) := (partsL n gs (others gs.length heap)).filter (barsL n gs heap)
def F_l_barred (ds : List D) (d : D) : Prop := ∃ (n : Nat) (gs : G) (heap : List Nat), ds = [webD n gs, tD heap] ∧ Web n gs ∧ Lot gs heap ∧ d = .lst ((barredL n gs heap).map tD)
theorem any_nil {α : Type} (l : List α) (p : α → Bool) : (l.filter p).isEmpty = !l.any p := by
  induction l with
  | nil => rfl
  | cons x l ih =>
    rw [List.filter_cons, List.any_cons]
    cases p x with
    | true => rfl
    | false => simpa using ih
theorem kind_tree (gs : G) (rest part : List Nat) : D.eqv (.str (kindS gs rest part)) (.str "tree") = decide ((guestsIn gs rest part).length < part.length) := by
  unfold kindS
  by_cases h : (guestsIn gs rest part).length < part.length
  · rw [if_pos h, decide_eq_true h]
    decide +kernel
  · rw [if_neg h, decide_eq_false h]
    split <;> decide +kernel
theorem kind_shp (gs : G) (rest part : List Nat) : Shp 1 (.str (kindS gs rest part)) := by
  unfold kindS
  show PyData.canLay0 (.str _) = true
  split
  · decide +kernel
  · split <;> decide +kernel
theorem partsL_len {n : Nat} {gs : G} (hw : Web n gs) {heap : List Nat} (hk : ∀ k ∈ heap, k < gs.length) : (partsL n gs heap).length ≤ n := by
  unfold partsL lexSort
  rw [List.length_mergeSort]
  unfold Gq.rowsL
  rw [List.length_map]
  have := kinds_len (Gq.marksL n gs heap)
  rw [(Gq.marksL_ok hw hk).1] at this
  exact this
theorem partsL_part {n : Nat} {gs : G} (hw : Web n gs) {heap : List Nat} (hk : ∀ k ∈ heap, k < gs.length) : ∀ part ∈ partsL n gs heap, part.length ≤ n := fun part h => by
  obtain ⟨p, hp, rfl⟩ := (Gq.mem_rowsL hw hk).mp (mem_lexSort.mp h)
  exact Gq.nodup_le (Gq.partFrom_nodup _ _ _) fun x hx => (Gq.mem_asc.mp hx).1
theorem ct_l_barred (B : Bl mg) (d : Df K mg "_law_barred_by" s_law_barred_by ["_law_net_here", "_law_heap"]) (c1 : Ct P w K mg base 1 "_law_others" ["_law_net_here", "_law_heap"] F_others_in) (c2 : Ct P w K mg base 1 "_law_parts" ["_law_net_here", "_law_heap"] F_l_parts) (c3 : Ct P w K mg base 2 "_law_part_kind" ["_law_net_here", "_law_heap", "_law_part_so"] F_l_kind) (c4 : Ct P w K mg base 2 "_law_free_in" ["_law_net_here", "_law_heap", "_law_part_so"] F_l_free) :
    Ct P w K mg base 3 "_law_barred_by" ["_law_net_here", "_law_heap"] F_l_barred := by
  obtain ⟨f, fd, Fn, hb, hm⟩ := d.ex
  refine ct_any Fn sc_law_barred_by hb hm (fun ds d h => ?_) (by decide) (fun cdv A outer s H E hr ds d h => ?_)
  · obtain ⟨n, gs, heap, rfl, _⟩ := h
    rfl
  · obtain ⟨n, gs, heap, rfl, hw, hl, rfl⟩ := h
    have few := hw.few
    have fewG := hw.fewG
    have ll := lot_len hl
    have lo : Lot gs (others gs.length heap) := lot_others
    have h1 : Room 1 _ := hr.mono (by decide)
    have h2 : Room 2 _ := hr.mono (by decide)
    let q := barsL n gs heap
    let ends := fun part : List Nat => heap.filter fun k => decide ((gAt gs k).1 ∈ part) || decide ((gAt gs k).2 ∈ part)
    have fold : ∀ (ps acc : List (List Nat)) (s1 s2 : Sl), (ps.foldl (fun (b : List (List Nat) × Sl × Sl) part => (if q part = true then b.1 ++ [part] else b.1, Sl.d (tD part), Sl.d (.lst ((ends part).map fun _ => natD 1)))) (acc, s1, s2)).1 = acc ++ ps.filter q := by
      intro ps
      induction ps with
      | nil => intro acc s1 s2; simp
      | cons p ps ih =>
        intro acc s1 s2
        rw [List.foldl_cons, ih]
        by_cases h : q p = true
        · rw [if_pos h, List.filter_cons_of_pos h]
          simp
        · rw [if_neg h, List.filter_cons_of_neg h]
    refine .inr (.inl ⟨⟨_, rfl, flat_rows _⟩, xs_cons (x_par2 2 3 rfl sc_law_barred_by.nd (ep_d (ex_call c1 h1 (ea_cons (ex_var 0 rfl) (ea_cons (ex_var 1 rfl) ea_nil)) ⟨n, gs, heap, rfl, hw, rfl⟩) (ep_o (ex_lst ea_nil) ep_nil)))
      (xs_cons (x_for rfl (it_list (ex_call c2 h1 (ea_cons (ex_var 0 rfl) (ea_cons (ex_var 2 rfl) ea_nil)) ⟨n, gs, others gs.length heap, rfl, hw, lo, rfl⟩) rfl) (lp_fold (b := ([], .no, .no)) (xs := partsL n gs (others gs.length heap)) (enc := tD)
        (fun b : List (List Nat) × Sl × Sl => [.d (webD n gs), .d (tD heap), .d (tD (others gs.length heap)), .o (.lst (b.1.map tD)), b.2.1, b.2.2, .no]) (fun b part => (if q part = true then b.1 ++ [part] else b.1, .d (tD part), .d (.lst ((ends part).map fun _ => natD 1))))
        (fun b rest => (∀ part ∈ rest, part.length ≤ n) ∧ b.1.length + rest.length ≤ 1000) (fun b part rest hp => ?g1) ⟨partsL_part hw lo.ok, ?g2⟩))
      (xs_one (x_retO (i := 3) (EX.to (ex_own 3 rfl) ?g3))))⟩)
    case g3 =>
      rw [fold, List.nil_append]
      rfl
    case g2 =>
      have := partsL_len hw lo.ok
      show 0 + _ ≤ 1000
      omega
    case g1 =>
      obtain ⟨p1, p2⟩ := hp
      have pl := p1 part (List.mem_cons_self ..)
      rw [List.length_cons] at p2
      refine ⟨_, _, ag_name 4 sc_law_barred_by.nd, xs_cons (x_lcF (xs := heap) (enc := natD) (fun _ => natD 1) (fun k => decide ((gAt gs k).1 ∈ part) || decide ((gAt gs k).2 ∈ part)) 5 6 rfl sc_law_barred_by.nd (it_tup (ex_var 1 rfl) rfl) (by omega)
          (fun k hk _ _ _ _ _ => et_w (ew_or (et_inN (ex_near (ex_var 0 rfl) (ex_var 6 rfl) (hl.ok k hk)) (ex_var 4 rfl) (.inl rfl)) fun _ => ew_or1 (et_inN (ex_far (ex_var 0 rfl) (ex_var 6 rfl) (hl.ok k hk)) (ex_var 4 rfl) (.inl rfl)))) (fun k _ _ _ _ _ _ _ => ex_int))
        (xs_one (x_if (x := q part) (ET.to (et_w (ew_and (et_neD (i := 1) (j := 1) (hu_of hr) (ex_var 5 rfl) (ex_lst ea_nil) ?_ shp_nil) fun _ => ew_and (et_eqD (i := 1) (j := 1) (hu_of hr) (ex_call c3 h2 (ea_cons (ex_var 0 rfl) (ea_cons (ex_var 2 rfl) (ea_cons (ex_var 4 rfl) ea_nil))) ⟨n, gs, others gs.length heap, part, rfl, hw, lo, rfl⟩) ex_str (kind_shp _ _ _) ?_) fun _ =>
          ew_and1 (et_eqD (i := 1) (j := 1) (hu_of hr) (ex_callN c4 h2 (ea_cons (ex_var 0 rfl) (ea_cons (ex_var 1 rfl) (ea_cons (ex_var 4 rfl) ea_nil))) ⟨n, gs, heap, part, rfl, hw, hl, by omega, rfl⟩ (flats_map _ flat_nat _)) (ex_lst ea_nil) (shp_lD _) shp_nil))) ?_) (fun h => ?_) fun h => ?_)), fun x hx => p1 x (List.mem_cons_of_mem _ hx), ?_⟩
      · intro d hd
        obtain ⟨k, _, rfl⟩ := List.mem_map.mp hd
        trivial
      · show PyData.canLay0 (.str _) = true
        decide +kernel
      · show ((!D.eqv (.lst ((ends part).map fun _ => natD 1)) (.lst [])) && (D.eqv (.str (kindS gs (others gs.length heap) part)) (.str "tree") && D.eqv (lD (freeIn n gs heap part)) (.lst []))) = barsL n gs heap part
        rw [kind_tree, eqv_nil, eqv_nilL]
        unfold barsL
        congr 1
        have e : ((ends part).map fun _ => natD 1).isEmpty = (ends part).isEmpty := by cases ends part <;> rfl
        rw [e, any_nil, Bool.not_not]
      · refine XS.to (xs_one (x_append 3 rfl (ex_var 4 rfl) (by rw [List.length_map]; omega))) ?_
        rw [if_pos h]
        show Out.nx [_, _, _, Sl.o (.lst (b.1.map tD ++ [tD part])), _, _, _] = Out.nx [_, _, _, Sl.o (.lst ((b.1 ++ [part]).map tD)), _, _, _]
        rw [List.map_append]
        rfl
      · refine XS.to xs_nil ?_
        rw [if_neg (by rw [h]; exact Bool.false_ne_true)]
        rfl
      · show (if q part = true then b.1 ++ [part] else b.1).length + rest.length ≤ 1000
        split
        · rw [List.length_append, List.length_singleton]
          omega
        · omega
def F_l_one_of (ds : List D) (d : D) : Prop := ∃ (x : D) (es : List D), ds = [x, .lst es] ∧ Dsh 1 x ∧ (∀ e ∈ es, Dsh 1 e) ∧ es.length ≤ 100000 ∧ d = .bl (es.any fun e => sameD x e)
theorem ct_l_one_of (d : Df K mg "_law_one_of" s_law_one_of ["_law_matter", "_law_rows_so"]) (c1 : Ct P w K mg base 2 "_law_same" ["_law_got", "_law_due"] (F_same 1)) : Ct P w K mg base 3 "_law_one_of" ["_law_matter", "_law_rows_so"] F_l_one_of := by
  obtain ⟨f, fd, Fn, hb, hm⟩ := d.ex
  refine ct_any Fn sc_law_one_of hb hm (fun ds d h => ?_) (by decide) (fun cdv A outer s H E hr ds d h => ?_)
  · obtain ⟨x, es, rfl, _⟩ := h
    rfl
  · obtain ⟨x, es, rfl, hx, he, hl, rfl⟩ := h
    refine .inl ⟨rfl, false, xs_one (x_retD (EX.to (ex_neD (i := 1) (j := 1) (hu_of hr) (ex_lcF (xs := es) (enc := id) (fun _ => natD 1) (fun e => sameD x e) 2 rfl sc_law_one_of.nd (IT.to (it_list (ex_var 1 rfl) rfl) (List.map_id _).symm) (by omega) (fun e hel _ _ _ _ _ => et_val (ex_call c1 (hr.mono (by decide)) (ea_cons (ex_var 0 rfl) (ea_cons (ex_var 2 rfl) ea_nil)) ⟨x, e, rfl, by decide, hx, he e hel, rfl⟩)) (fun e _ _ _ _ _ _ _ => ex_int)) (ex_lst ea_nil) ?_ shp_nil) ?_))⟩
    · intro d hd
      obtain ⟨k, _, rfl⟩ := List.mem_map.mp hd
      trivial
    · refine congrArg (fun z => Res.d (.bl z)) ?_
      show (!D.eqv (.lst ((es.filter fun e => sameD x e).map fun _ => natD 1)) (.lst [])) = _
      rw [eqv_nilL]
      have e : ((es.filter fun e => sameD x e).map fun _ => natD 1).isEmpty = (es.filter fun e => sameD x e).isEmpty := by cases es.filter fun e => sameD x e <;> rfl
      rw [e, any_nil, Bool.not_not]
end
end Zf
set_option maxHeartbeats 1600000
/-! The data layer, 16: dicts whose keys are tuples; defs that hand back a new tuple, such a dict. -/
namespace Zb
open PySem PySem.Spec PyProof.Rows L2 RZ Zf
abbrev KT := List (List L2.Key × V)
def keyL (l : List Nat) : List L2.Key := l.map fun n : Nat => Sum.inl (n : Int)
theorem keyL_kV (l : List Nat) : (keyL l).map kV = (toI l).map V.int := by
  unfold keyL toI
  rw [List.map_map, List.map_map]
  rfl
theorem keyL_inj : ∀ {l m : List Nat}, keyL l = keyL m → l = m
  | [], [], _ => rfl
  | [], b :: m, h => by cases h
  | a :: l, [], h => by cases h
  | a :: l, b :: m, h => by
    have h : (Sum.inl (a : Int) : L2.Key) :: keyL l = Sum.inl (b : Int) :: keyL m := h
    obtain ⟨h1, h2⟩ := List.cons.inj h
    have : (a : Int) = b := by injection h1
    rw [keyL_inj h2, Int.ofNat.inj this]
section
variable {K : PySem.W.Frag} {H0 H H1 : Hp} {M N : Addr → Prop} {σ : L2.St} {env : Ev} {O : List (Option Addr)} {p : Addr} {kvs : KT} {o : HO}
theorem rd_ne {a : Addr} {u : HO} (hp : H p = some (.dT kvs)) (h : Rd H a u) (hu : ∀ z, u ≠ .dT z) : a ≠ p := fun e => by
  subst e
  rcases h with h | ⟨z, h⟩
  · rw [hp] at h
    exact hu kvs (Option.some.inj h).symm
  · rw [hp] at h
    cases h
theorem rd_updT {a : Addr} {u : HO} (hp : H p = some (.dT kvs)) (h : Rd H a u) (hu : ∀ z, u ≠ .dT z) : Rd (L2.upd H p o) a u := rd_upd h (rd_ne hp h hu)
mutual
theorem R.updT (hp : H p = some (.dT kvs)) : ∀ {v : V} {d : D}, R K H N v d → R K (L2.upd H p o) N v d
  | _, _, .non => .non
  | _, _, .bl b => .bl b
  | _, _, .int i => .int i
  | _, _, .str s => .str s
  | _, _, .tup (.inl s) r => .tup (.inl (rd_updT hp s fun _ z => by cases z)) (RA.updT hp r)
  | _, _, .tup (.inr s) r => .tup (.inr s) (RA.updT hp r)
  | _, _, .lst s h r => .lst (by rw [upd_ne (fun e => by rw [e, hp] at s; cases s)]; exact s) h (RA.updT hp r)
  | _, _, .dic s h k r => .dic (rd_updT hp s fun _ z => by cases z) h k (RA.updT hp r)
theorem RA.updT (hp : H p = some (.dT kvs)) : ∀ {vs : List V} {ds : List D}, RA K H N vs ds → RA K (L2.upd H p o) N vs ds
  | _, _, .nil => .nil
  | _, _, .cons a b => .cons (R.updT hp a) (RA.updT hp b)
end
theorem OwnR.neT {q : Addr} {x : D} (hp : H p = some (.dT kvs)) (h : OwnR K H N q x) : q ≠ p := fun e => by
  subst e
  cases x with
  | lst ds => obtain ⟨vs, h1, _⟩ := h; rw [hp] at h1; cases h1
  | dic ks ds => obtain ⟨vs, h1, _⟩ := h; rw [hp] at h1; cases h1
  | _ => exact h.elim
theorem OwnR.updT {q : Addr} {x : D} (hp : H p = some (.dT kvs)) (h : OwnR K H N q x) : OwnR K (L2.upd H p o) N q x := by
  have ne := h.neT hp
  cases x with
  | lst ds => obtain ⟨vs, h1, h2⟩ := h; exact ⟨vs, by rw [upd_ne ne]; exact h1, h2.updT hp⟩
  | dic ks ds => obtain ⟨vs, h1, k, h2⟩ := h; exact ⟨vs, by rw [upd_ne ne]; exact h1, k, h2.updT hp⟩
  | _ => exact h.elim
theorem Ok.updT (ok : Ok K H0 M N σ H env O) (hp : H p = some (.dT kvs)) (h0 : H0 p = none) : Ok K H0 M N σ (L2.upd H p o) env O where
  ext := same_mut ok.ext h0
  nm := ok.nm
  nf := fun a h => ok.nf a (by
    by_cases e : a = p
    · subst e
      rw [upd_same] at h
      cases h
    · rwa [upd_ne e] at h)
  len := ok.len
  olen := ok.olen
  d := fun i x h => by
    obtain ⟨v, g1, g2⟩ := ok.d i x h
    exact ⟨v, g1, g2.updT hp⟩
  o := fun i x h => by
    obtain ⟨q, g1, g2, g3⟩ := ok.o i x h
    exact ⟨q, g1, g2, g3.updT hp⟩
  own := fun i q h => by
    obtain ⟨g1, g2, g3⟩ := ok.own i q h
    refine ⟨g1, g2, ?_⟩
    have ne : q ≠ p := fun e => by
      subst e
      rcases g3 with ⟨z, g3⟩ | ⟨z, g3⟩ <;> rw [hp] at g3 <;> cases g3
    unfold Wr
    rw [upd_ne ne]
    exact g3
  inj := ok.inj
theorem putK_keys {ls : List (List Nat)} {l : List Nat} {v : V} (h : kvs.map (·.1) = ls.map keyL) : (putK kvs (keyL l) v).map (·.1) = (if l ∈ ls then ls else ls ++ [l]).map keyL := by
  have e : (kvs.any fun kv => decide (kv.1 = keyL l)) = decide (l ∈ ls) := by
    rw [Bool.eq_iff_iff, List.any_eq_true, decide_eq_true_eq]
    constructor
    · rintro ⟨kv, hk, e⟩
      have : kv.1 ∈ kvs.map (·.1) := List.mem_map.mpr ⟨kv, hk, rfl⟩
      rw [h, of_decide_eq_true e] at this
      obtain ⟨m, hm, e'⟩ := List.mem_map.mp this
      rw [← keyL_inj e']
      exact hm
    · intro hl
      have : keyL l ∈ kvs.map (·.1) := by rw [h]; exact List.mem_map.mpr ⟨l, hl, rfl⟩
      obtain ⟨kv, hk, e'⟩ := List.mem_map.mp this
      exact ⟨kv, hk, decide_eq_true e'⟩
  unfold putK
  rw [e]
  by_cases hl : l ∈ ls
  · rw [decide_eq_true hl, if_pos rfl, if_pos hl, ← h, List.map_map]
    refine List.map_congr_left fun kv _ => ?_
    show (if kv.1 = keyL l then (kv.1, v) else kv).1 = kv.1
    split <;> rfl
  · rw [decide_eq_false hl, if_neg Bool.false_ne_true, if_neg hl, List.map_append, List.map_append, h]
    rfl
theorem valV_mem {ls : List (List Nat)} {l : List Nat} (h : kvs.map (·.1) = ls.map keyL) : (valV kvs (keyL l)).isSome = decide (l ∈ ls) := by
  rw [← valV_any, Bool.eq_iff_iff, List.any_eq_true, decide_eq_true_eq]
  constructor
  · rintro ⟨kv, hk, e⟩
    have : kv.1 ∈ kvs.map (·.1) := List.mem_map.mpr ⟨kv, hk, rfl⟩
    rw [h, of_decide_eq_true e] at this
    obtain ⟨m, hm, e'⟩ := List.mem_map.mp this
    rw [← keyL_inj e']
    exact hm
  · intro hl
    have : keyL l ∈ kvs.map (·.1) := by rw [h]; exact List.mem_map.mpr ⟨l, hl, rfl⟩
    obtain ⟨kv, hk, e'⟩ := List.mem_map.mp this
    exact ⟨kv, hk, decide_eq_true e'⟩
end
/-! ### what hands back a new tuple of ints, a dict by such tuples -/
def spT (K : PySem.W.Frag) (F : List D → List Nat → Prop) : Sp := fun vs H Q _ => ∃ ds ns, F ds ns ∧ RA K H (fun _ => True) vs ds ∧ ∀ q H', Same H H' → H' q = some (.tup ((toI ns).map V.int)) → Q (.ref q) H'
structure CtT (P : Program) (w : World) (K : PySem.W.Frag) (mg : Str → Option Value) (base : Heap) (k : Nat) (n : Str) (ps : List Str) (F : List D → List Nat → Prop) : Prop where
  ex : ∃ f fd, FnOk P w K mg base CX0 k f fd ps (spT K F) ∧ mg n = some (.ref f) ∧ PySem.W.keepIn K (.ref f) = true ∧ Binds K fd ps []
def spM (K : PySem.W.Frag) (F : List D → List (List Nat) → Prop) : Sp := fun vs H Q _ => ∃ ds ls, F ds ls ∧ RA K H (fun _ => True) vs ds ∧ ∀ q (kvs : KT) H', Same H H' → H' q = some (.dT kvs) → kvs.map (·.1) = ls.map keyL → Q (.ref q) H'
structure CtM (P : Program) (w : World) (K : PySem.W.Frag) (mg : Str → Option Value) (base : Heap) (k : Nat) (n : Str) (ps : List Str) (F : List D → List (List Nat) → Prop) : Prop where
  ex : ∃ f fd, FnOk P w K mg base CX0 k f fd ps (spM K F) ∧ mg n = some (.ref f) ∧ PySem.W.keepIn K (.ref f) = true ∧ Binds K fd ps []
section
variable {P : Program} {w : World} {K : PySem.W.Frag} {mg : Str → Option Value} {base : Heap} {n : Str} {st : Stmt} {f : Addr} {fd : FuncData} {N ps : List Str} {k : Nat}
def tFT (K : PySem.W.Frag) (H0 : Hp) (M : Addr → Prop) (env : Ev) (ns : List Nat) : TE := fun σ H Q => ∃ N O, Ok K H0 M N σ H env O ∧ ∀ q H', Same H H' → H' q = some (.tup ((toI ns).map V.int)) → Q (.ref q) H'
theorem ct_t {F : List D → List Nat → Prop} (Fn : Fun K n n st f fd) (S : FnScope N ps (defScope st)) (hb : Binds K fd ps []) (hm : mg n = some (.ref f)) (hlen : ∀ ds d, F ds d → ds.length = ps.length) (hN : ps.length ≤ N.length) {e : Expr} {pos : Pos} (hd : defBody st = [.Return (some e) pos])
    (body : ∀ (cdv : Value) (A : Around) (outer : List Env) (s : Shared) (H : Hp) (E : XK), Room k (A.deeper (envOfC n (defScope st) s.heap.objs.size f cdv)) → ∀ ds ns, F ds ns → PE (cx0 P w K mg base N n st f cdv A outer s H E) e (tFT K H (fun _ => True) (Zb.envOf N ds) ns)) : CtT P w K mg base (k + 1) n ps F := by
  refine ⟨f, fd, Fn.ok S (fun vs H Q E h => ?_) (fun cdv A outer s H vs Q E hr h => ?_), hm, Fn.kp, hb⟩
  · obtain ⟨ds, ns, h1, h2, _⟩ := h
    rw [h2.length]
    exact hlen ds ns h1
  · obtain ⟨ds, ns, h1, h2, q⟩ := h
    have ok := ok_start (M := fun _ => True) (N := N) (fun _ _ => trivial) h2 (by rw [hlen ds ns h1]; exact hN)
    have hx := body cdv A outer s H E hr ds ns h1
    rw [hd]
    exact ⟨_, pss_one (ps_ret hx), _, _, ok, fun a H' e z => q a H' e z⟩
end
section
variable {X : Cx} {H0 : Hp} {M : Addr → Prop} {env : Ev} {ra : Res} {a e : Expr} {es : List Expr} {pos : Pos}
theorem toI_ints (l : List Nat) : l.map natD = (toI l).map D.int := by
  unfold toI
  rw [List.map_map]
  rfl
theorem ext_tupleOf {p : Pos} {ns : List Nat} (hm : X.mg "tuple" = none) (ha : EX X H0 M a env ra) (hr : ra.v = lD ns) (hg : Gl X "tuple" := by rfl) (hs : starEach [a] X.env = (false, eval a X.env) :: starEach [] X.env := by rfl) : PE X (.Call (.Name "tuple" p) [a] [] pos) (tFT X.K H0 M env ns) :=
  pe_weak (pe_callTy call_tuple_of hg hm (by decide +kernel) (pa_cons ha pa_nil hs) (he := hs)) fun σ H Q ⟨N, O, ok, k⟩ => ⟨N, O, ok, fun v H1 e1 r1 => by
    have hr' : ra.v = .lst ((toI ns).map D.int) := by rw [hr, ← toI_ints]; rfl
    obtain ⟨q, ws, rfl, h1, h2⟩ := r1.items hr'
    cases h2.ints
    exact ⟨q, _, rfl, .inl ⟨SqL.of h1, fun l hl => k l _ (e1.trans (same_new hl)) upd_same⟩⟩⟩
theorem ex_callT {k : Nat} {n : Str} {ps : List Str} {F : List D → List Nat → Prop} {rs : List Res} {ns : List Nat} {p : Pos} (C : CtT X.prog X.w X.K X.mg X.base k n ps F) (hr : Room k X.A) (ha : EA X H0 M (e :: es) env rs) (h : F (rs.map Res.v) ns) (hg : Gl X n := by rfl) (hdb : (n == ("__debug__" : Str)) = false := by decide)
    (he : starEach (e :: es) X.env = (false, eval e X.env) :: starEach es X.env := by rfl) (hpl : (backTo pos (starEach es X.env)).any (·.1) = false := by rfl) : PE X (.Call (.Name n p) (e :: es) [] pos) (tFT X.K H0 M env ns) := by
  obtain ⟨f, fd, h1, h2, h3, h4⟩ := C.ex
  exact pe_weak (pe_call h1 hr hg h2 h3 h4 .nil pass0 ha hdb he hpl) fun σ H Q ⟨N, O, ok, q⟩ => ⟨N, O, ok, fun vs H1 e1 r1 => ⟨_, ns, h, by rw [List.append_nil]; exact rrs_any r1, fun a H2 e2 z => q a H2 (e1.trans e2) z⟩⟩
theorem isKeys_ra {K : PySem.W.Frag} {H : Hp} {N : Addr → Prop} : ∀ {kvs : KT} {bs : List Addr} {ls : List (List Nat)}, IsKeys H kvs bs → kvs.map (·.1) = ls.map keyL → RA K H N (bs.map V.ref) (ls.map tD)
  | _, _, [], .nil, _ => .nil
  | _, _, l :: ls, .cons h t, e => by
    rw [List.map_cons, List.map_cons] at e
    obtain ⟨e1, e2⟩ := List.cons.inj e
    refine .cons ?_ (isKeys_ra t e2)
    rw [e1, keyL_kV] at h
    rw [tD_toI]
    exact .tup (SqT.of h) (ra_ints _)
  | _, _, [], .cons h t, e => by cases e
  | _, _, l :: ls, .nil, e => by cases e
/-- list(d), d a dict by tuples that a def hands back -/
theorem ex_listM {k : Nat} {n : Str} {ps : List Str} {F : List D → List (List Nat) → Prop} {rs : List Res} {ls : List (List Nat)} {p p1 p2 : Pos} (hc : X.calm = true) (hml : X.mg "list" = none) (C : CtM X.prog X.w X.K X.mg X.base k n ps F) (hr : Room k X.A) (ha : EA X H0 M (e :: es) env rs) (h : F (rs.map Res.v) ls) (hg : Gl X n := by rfl) (hgl : Gl X "list" := by rfl) (hdb : (n == ("__debug__" : Str)) = false := by decide)
    (he : starEach (e :: es) X.env = (false, eval e X.env) :: starEach es X.env := by rfl) (hpl : (backTo p1 (starEach es X.env)).any (·.1) = false := by rfl)
    (he2 : starEach [.Call (.Name n p) (e :: es) [] p1] X.env = (false, eval (.Call (.Name n p) (e :: es) [] p1) X.env) :: starEach [] X.env := by rfl) : EX X H0 M (.Call (.Name "list" p2) [.Call (.Name n p) (e :: es) [] p1] [] pos) env (.new (.lst (ls.map tD))) := by
  obtain ⟨f, fd, h1, h2, h3, h4⟩ := C.ex
  refine pe_weak (pe_callTy (call_list_dT hc) hgl hml (by decide +kernel) (pa_cons (pe_call h1 hr hg h2 h3 h4 .nil pass0 ha hdb he hpl) pa_nil he2) (he := he2)) fun σ H Q ⟨N, O, ok, q⟩ => ⟨N, O, ok, fun vs H1 e1 r1 => ⟨_, ls, h, by rw [List.append_nil]; exact rrs_any r1, fun a kvs H2 e2 z hk => ⟨a, kvs, rfl, .inl z, fun l bs hl hb => ?_⟩⟩⟩
  have e3 := e1.trans e2
  exact q _ _ (e3.trans (same_new hl)) ((new_lst (ok.mono e3) (Same.refl _) hl (isKeys_ra hb hk)).back e3)
/-- name = [f for n in iter if c]: what it does, told of the frame itself -/
theorem s_lcF {scope : Scope} {α : Type} {xs : List α} {enc : α → D} (f : α → D) {m n : Str} {tp py spos : Pos} {iter elt c : Expr} (p : α → Bool) (j i : Nat) (hc : X.calm = true) (hN : X.N.Nodup) (hit : IT X H0 M (.Name n tp) iter env (xs.map enc)) (hz : xs.length ≤ 100000)
    (ht : ∀ x ∈ xs, ∀ s H C cl fp, ET (blkX X scope s H C cl fp) H0 M c (env.set i (.d (enc x))) (p x))
    (he : ∀ x ∈ xs, p x = true → ∀ s H C cl fp, EX (blkX X scope s H C cl fp) H0 M elt (env.set i (.d (enc x))) (.d (f x)))
    (hy : X.N[j]? = some m := by rfl) (hyl : X.env.scope.names.lookup m = some .local := by rfl) (hk : X.env.scope.kind = .function := by rfl) (hl : (py.line == pos.line) = true := by rfl) (ha : (scope.names.any fun (z, k) => z == m && (k == .local || k == .cell)) = false := by decide +kernel)
    (hi : X.N[i]? = some n := by rfl) (hx : Loc (relabel scope X.env) n := by first | exact Or.inl rfl | exact Or.inr rfl) (hf : (relabel scope X.env).names.lookup n = some .local := by rfl)
    (ok : blkC X.N X.env.scope scope [(n, i)] = true := by kernel_rfl) (hs : ∀ x, foldedSetIterable iter X.env x = pure x := by intro _; rfl) :
    PS X (.Assign [.Name m py] (.ListComp elt [⟨.Name n tp, iter, [c], 0⟩] scope pos) spos) (fun E σ H => tEX X.K H0 M env (.new (.lst ((xs.filter p).map f))) σ H fun v H' => E.nx (σ.set j (some v)) H') :=
  ps_weak (ps_setLc (i := j) (own := [(n, i)]) hc hN hy hyl (sw_true hk hyl hl ha) hit (blkOk_by ok) (fun s H C cl fp => pg_any (ι := Ev × D × Ev × List Nat) (c := fun q => ∀ Y, Bk X scope Y → AG Y H0 M (.Name n tp) q.1 q.2.1 q.2.2.1 q.2.2.2) (t := fun q => tAG X.K H0 M q.1 q.2.1 q.2.2.1 q.2.2.2) fun _ z => z _ ⟨s, H, C, cl, fp, rfl⟩)
    (fun s H C cl fp => pts_any (ι := Ev × Bool) (c := fun q => ∀ Y, Bk X scope Y → ETs Y H0 M [c] q.1 q.2) (t := fun q => tET X.K H0 M q.1 q.2) fun _ z => z _ ⟨s, H, C, cl, fp, rfl⟩)
    (fun s H C cl fp => pe_any (ι := Ev × Res) (c := fun q => ∀ Y, Bk X scope Y → EX Y H0 M elt q.1 q.2) (t := fun q => tEX X.K H0 M q.1 q.2) fun _ z => z _ ⟨s, H, C, cl, fp, rfl⟩) hs) fun E σ H t =>
    lc_read (ds := xs.map enc) (by rw [List.length_map]; exact hz) (cp_F p i hN ht he hi hx hf) t
end
end Zb
set_option maxHeartbeats 4000000
/-! The law's defs, 6: the dict of the lots met. -/
namespace Zf
open PySem PySem.Spec PyProof.Rows L2 Zb Zt Gr
def metAdd (acc : List (List Nat)) (l : List Nat) : List (List Nat) := if l ∈ acc then acc else acc ++ [l]
def metL (gs : G) : List (List Nat) := ((walks gs.length).map (Gr.without gs)).foldl metAdd []
theorem mem_metAdd {l : List Nat} : ∀ {ls acc : List (List Nat)}, l ∈ ls.foldl metAdd acc ↔ l ∈ acc ∨ l ∈ ls
  | [], acc => by simp
  | m :: ls, acc => by
    rw [List.foldl_cons, mem_metAdd]
    have : l ∈ metAdd acc m ↔ l ∈ acc ∨ l = m := by
      unfold metAdd
      split
      · rename_i h
        exact ⟨.inl, fun z => z.elim id fun e => e ▸ h⟩
      · rw [List.mem_append, List.mem_singleton]
    rw [this, List.mem_cons, or_assoc]
theorem mem_metL {gs : G} {l : List Nat} : l ∈ metL gs ↔ ∃ row, IsOrder gs row ∧ l = Gr.without gs row := by
  unfold metL
  rw [mem_metAdd]
  constructor
  · rintro (h | h)
    · cases h
    · obtain ⟨w, hw, rfl⟩ := List.mem_map.mp h
      exact ⟨w, mem_walks.mp hw, rfl⟩
  · rintro ⟨w, hw, rfl⟩
    exact .inr (List.mem_map.mpr ⟨w, mem_walks.mpr hw, rfl⟩)
theorem metAdd_len : ∀ (ls acc : List (List Nat)), (ls.foldl metAdd acc).length ≤ acc.length + ls.length
  | [], acc => Nat.le_refl _
  | m :: ls, acc => by
    rw [List.foldl_cons]
    have h1 := metAdd_len ls (metAdd acc m)
    have h2 : (metAdd acc m).length ≤ acc.length + 1 := by
      unfold metAdd
      split
      · omega
      · rw [List.length_append, List.length_singleton]
        omega
    rw [List.length_cons]
    omega
section
variable {P : Program} {w : World} {K : PySem.W.Frag} {mg : Str → Option Value} {base : Heap}
def F_l_lackT (ds : List D) (ns : List Nat) : Prop := ∃ ts : List (Option Nat), ds = [.tup (ts.map optD)] ∧ ts.length ≤ 1000 ∧ ns = lackL ts
theorem ct_l_lackT (B : Bl mg) (d : Df K mg "_law_lacking" s_law_lacking ["_law_seats"]) : CtT P w K mg base 1 "_law_lacking" ["_law_seats"] F_l_lackT := by
  obtain ⟨f, fd, Fn, hb, hm⟩ := d.ex
  refine ct_t Fn sc_law_lacking hb hm (fun ds d h => ?_) (by decide) rfl (fun cdv A outer s H E hr ds ns h => ?_)
  · obtain ⟨ts, rfl, _⟩ := h
    rfl
  · obtain ⟨ts, rfl, h1, rfl⟩ := h
    refine ext_tupleOf B.tuple (ex_lcT2F (xs := ts.zipIdx) (fun z => natD z.2) (fun z => optD z.1) (fun z => natD z.2) (fun z => z.1.isNone) 1 2 rfl sc_law_lacking.nd (IT.to (it_enumT B.enumerate (ex_var 0 rfl) rfl) (zip_opt ts)) (by rw [List.length_zipIdx]; omega) (fun z _ _ _ _ _ _ => ET.to (et_isN (ex_var 2 rfl) ex_non) (optD_isN z.1)) (fun z _ _ _ _ _ _ _ => ex_var 1 rfl)) ?_
    unfold lD lackL
    rw [List.map_map]
    rfl
theorem ok_weak {H0 : Hp} {M N : Addr → Prop} {σ : L2.St} {H : Hp} {env env' : Ev} {O : List (Option Addr)} (ok : Zb.Ok K H0 M N σ H env O) (hl : env'.length = env.length) (hd : ∀ (i : Nat) (s : Sl), env'[i]? = some s → s ≠ Sl.no → env[i]? = some s) : Zb.Ok K H0 M N σ H env' O where
  ext := ok.ext
  nm := ok.nm
  nf := ok.nf
  len := hl.trans ok.len
  olen := ok.olen
  d := fun i x h => ok.d i x (hd i _ h (fun e => by cases e))
  o := fun i x h => ok.o i x (hd i _ h (fun e => by cases e))
  own := ok.own
  inj := ok.inj
/-- what holds of the dict while it grows -/
structure Met (K : PySem.W.Frag) (n : Nat) (N : Addr → Prop) (H : Hp) (p : Addr) (kvs : KT) (ls : List (List Nat)) : Prop where
  at_ : H p = some (.dT kvs)
  keys : kvs.map (·.1) = ls.map keyL
  vals : ∀ k v, valV kvs k = some v → ∃ l : List Int, R K H N v (.lst (l.map D.int)) ∧ (∀ x ∈ l, x ∈ toI (List.range n)) ∧ l.Nodup
theorem Met.same {n : Nat} {N : Addr → Prop} {H H' : Hp} {p : Addr} {kvs : KT} {ls : List (List Nat)} (m : Met K n N H p kvs ls) (e : Same H H') : Met K n N H' p kvs ls :=
  ⟨e _ _ m.at_, m.keys, fun k v h => by
    obtain ⟨l, h1, h2⟩ := m.vals k v h
    exact ⟨l, h1.same e, h2⟩⟩
def E1 (n : Nat) (gs : G) : Ev := [.d (webD n gs), .no, .no, .no, .no, .no, .no]
def EW (n : Nat) (gs : G) (w : List Nat) : Ev := [.d (webD n gs), .no, .d (tD w), .d (.tup ((runL gs w).map optD)), .no, .no, .no]
/-- a turn's body -/
def tMetW (K : PySem.W.Frag) (H0 : Hp) (n : Nat) (gs : G) (w : List Nat) : TS := fun E σ H => ∃ N O p kvs ls, Zb.Ok K H0 (fun _ => True) N σ H (EW n gs w) O ∧ σ[1]? = some (some (.ref p)) ∧ H0 p = none ∧ Met K n N H p kvs ls ∧ ls.length ≤ 4000 ∧
  ∀ σ' H' O' kvs', Zb.Ok K H0 (fun _ => True) N σ' H' (E1 n gs) O' → σ'[1]? = some (some (.ref p)) → (∀ vs ds, RA K H N vs ds → RA K H' N vs ds) → (∀ a xs, H a = some (.lst xs) → H' a = some (.lst xs)) → Met K n N H' p kvs' (metAdd ls (Gr.without gs w)) → E.nx σ' H'
def tMet (K : PySem.W.Frag) (H0 : Hp) (n : Nat) (gs : G) : TS := fun E σ H => ∃ w, IsOrder gs w ∧ tMetW K H0 n gs w E σ H
def freeL (n : Nat) (gs : G) (w : List Nat) : List Nat := (List.range n).filter fun p => !decide (p ∈ (runL gs w).filterMap id)
def F_l_met (ds : List D) (ls : List (List Nat)) : Prop := ∃ (n : Nat) (gs : G), ds = [webD n gs] ∧ Web n gs ∧ gs.length ≤ 5 ∧ ls = metL gs
theorem ct_l_met (B : Bl mg) (d : Df K mg "_law_lots_met" s_law_lots_met ["_law_net_here"]) (c1 : Ct P w K mg base 2 "_law_all_runs" ["_law_net_here"] F_l_runs) (c2 : CtT P w K mg base 1 "_law_lacking" ["_law_seats"] F_l_lackT) : CtM P w K mg base 3 "_law_lots_met" ["_law_net_here"] F_l_met := by
  obtain ⟨f, fd, Fn, hb, hm⟩ := d.ex
  refine ⟨f, fd, Fn.ok sc_law_lots_met (fun vs H Q E h => ?_) (fun cdv A outer s H vs Q E hr h => ?_), hm, Fn.kp, hb⟩
  · obtain ⟨ds, ls, ⟨n, gs, rfl, _⟩, h2, _⟩ := h
    rw [h2.length]
    rfl
  · obtain ⟨ds, ls, ⟨n, gs, rfl, hw, fewG, rfl⟩, h2, q⟩ := h
    have few := hw.few
    have ok := ok_start (M := fun _ => True) (N := ["_law_net_here", "_law_found", "_law_walk", "_law_seats", "_law_heap", "_law_free_so", "_law_spot"]) (fun _ _ => trivial) h2 (Nat.le_of_ble_eq_true rfl)
    refine ⟨_, pss_cons (ps_set (i := 1) sc_law_lots_met.nd rfl (.inl rfl) pe_dnewT) (pss_cons (ps_for PassesOwn.never rfl (pi_list (ex_call (H0 := H) (M := fun _ => True) (env := E1 n gs) c1 (hr.mono (by decide)) (ea_cons (ex_var 0 rfl) ea_nil) ⟨n, gs, rfl, hw, fewG, rfl⟩)) (gL_ok (H0 := H) (M := fun _ => True)) (tb := tMet K H n gs) ?body) (pss_one (ps_ret (pe_var (i := 1) rfl (.inl rfl))))), ?all⟩
    case body =>
      refine pss_any fun wk ho => ?_
      have h1r : Room 1 _ := hr.mono (by decide)
      have hu1 := hu_of hr (j := 1)
      have rl : (runL gs wk).length ≤ 1000 := by
        rw [runL_arr, arr_len, List.length_replicate]
        omega
      refine pss_weak (pss_cons (ps_set (i := 4) sc_law_lots_met.nd rfl (.inl rfl) (ex_callT (H0 := H) (M := fun _ => True) (env := EW n gs wk) c2 h1r (ea_cons (ex_var 3 rfl) ea_nil) ⟨runL gs wk, rfl, rl, rfl⟩))
        (pss_cons (s_lcF (H0 := H) (M := fun _ => True) (env := (EW n gs wk).set 4 (.d (tD (lackL (runL gs wk))))) (xs := List.range n) (enc := natD) natD (fun p => !decide (p ∈ (runL gs wk).filterMap id)) 5 6 rfl sc_law_lots_met.nd (it_range B.range (ex_many (ex_var 0 rfl)) (by omega)) (by rw [List.length_range]; omega) (fun p hp _ _ _ _ _ => ET.to (et_notIn (ex_var 6 rfl) (ex_var 3 rfl) rfl (opts_sc _) (.inl rfl)) (by rw [inD_opt])) (fun p _ _ _ _ _ _ _ => ex_var 6 rfl))
        (pss_one (ps_dput hu1 (pe_var (i := 1) rfl (.inl rfl)) (pe_var (i := 4) rfl (.inl rfl)) (pe_ifExp (pt_cmp (pc_din hu1 (pe_var (i := 4) rfl (.inl rfl)) (pe_var (i := 1) rfl (.inl rfl)))) (pe_callB (cr_sortedSet rfl) rfl B.sorted (by decide +kernel) (pa_cons (pe_callTy (cr_setI rfl) rfl B.set (by decide +kernel) (pa_cons (pe_op op_cat (pe_dget hu1 (pe_var (i := 1) rfl (.inl rfl)) (pe_var (i := 4) rfl (.inl rfl)) (fun _ _ => rfl)) (pe_var (i := 5) rfl (.inl rfl))) pa_nil rfl) (he := rfl)) pa_nil rfl) (he := rfl)) (pe_var (i := 5) rfl (.inl rfl))) rfl)))) fun E' σ H1 hst => ?_
      obtain ⟨N, O, p, kvs, ls, ok1, s1, hp0, met, few4, nxt⟩ := hst
      rw [← lackL_run ho] at nxt
      have sl : σ.length = 7 := ok1.len.symm
      generalize hl : lackL (runL gs wk) = l at nxt ⊢
      refine ⟨N, O, ok1, fun q H2 e2 hq => ?_⟩
      have ok2 := (Zb.Ok.mono ok1 e2).set_d (i := 4) (x := tD l) (v := .ref q) (by rw [tD_toI]; exact .tup (SqT.of hq) (ra_ints _))
      refine ⟨N, _, ok2, fun v H3 e3 r3 => ?_⟩
      have r3' : R K H3 N v (.lst ((toI (freeL n gs wk)).map D.int)) := by
        rw [← toI_ints]
        exact r3.keep rfl
      have ok3 := (Zb.Ok.mono ok2 e3).set_d (i := 5) r3'
      have met3 := (met.same e2).same e3
      have hq3 := e3 _ _ hq
      have s31 : ((σ.set 4 (some (.ref q))).set 5 (some v))[1]? = some (some (.ref p)) := by
        rw [List.getElem?_set_ne (by decide), List.getElem?_set_ne (by decide)]
        exact s1
      have s34 : ((σ.set 4 (some (.ref q))).set 5 (some v))[4]? = some (some (.ref q)) := by
        rw [List.getElem?_set_ne (by decide), List.getElem?_set_self (by omega)]
      have s35 : ((σ.set 4 (some (.ref q))).set 5 (some v))[5]? = some (some v) := List.getElem?_set_self (by rw [List.length_set]; omega)
      have dg : DGet H3 p (.ref q) (valV kvs (keyL l)) := DGet.t met3.at_ (by rw [keyL_kV]; exact hq3)
      have fin : ∀ (v' : V) (H4 : Hp), Same H3 H4 → (∃ m : List Int, R K H4 N v' (.lst (m.map D.int)) ∧ (∀ x ∈ m, x ∈ toI (List.range n)) ∧ m.Nodup) → DPut H4 p (.ref q) v' (L2.upd H4 p (.dT (putK kvs (keyL l) v'))) ∧ E'.nx ((σ.set 4 (some (.ref q))).set 5 (some v)) (L2.upd H4 p (.dT (putK kvs (keyL l) v'))) := by
        intro v' H4 e4 hm
        have met4 := met3.same e4
        have kl : kvs.length = ls.length := by
          have := congrArg List.length met4.keys
          rwa [List.length_map, List.length_map] at this
        refine ⟨DPut.t met4.at_ (by rw [keyL_kV]; exact e4 _ _ hq3) (Nat.lt_of_le_of_lt (by omega : kvs.length ≤ 4000) (by decide)), nxt _ _ _ _ (ok_weak ((Zb.Ok.mono ok3 e4).updT met4.at_ hp0) rfl ?_) s31 (fun vs ds r => (((r.same e2).same e3).same e4).updT met4.at_) (fun a xs ha => ?_) ⟨upd_same, ?_, fun k x hx => ?_⟩⟩
        · intro i z hz hn
          rcases i with _ | i
          · exact hz
          · exfalso
            have hz' : ([.no, .no, .no, .no, .no, .no] : Ev)[i]? = some z := hz
            have := List.mem_of_getElem? hz'
            simp at this
            exact hn this
        · have h4 := e4 _ _ (e3 _ _ (e2 _ _ ha))
          rw [upd_ne (fun z => by rw [z, met4.at_] at h4; cases h4)]
          exact h4
        · rw [putK_keys met4.keys]
          rfl
        · rw [valV_put] at hx
          split at hx
          · cases hx
            obtain ⟨m, h1, h2⟩ := hm
            exact ⟨m, h1.updT met4.at_, h2⟩
          · obtain ⟨m, h1, h2⟩ := met4.vals k x hx
            exact ⟨m, h1.updT met4.at_, h2⟩
      have fok : (∀ x ∈ toI (freeL n gs wk), x ∈ toI (List.range n)) ∧ (toI (freeL n gs wk)).Nodup := by
        unfold toI freeL
        refine ⟨fun x hx => ?_, ?_⟩
        · obtain ⟨y, hy, rfl⟩ := List.mem_map.mp hx
          exact List.mem_map.mpr ⟨y, (List.mem_filter.mp hy).1, rfl⟩
        · refine List.Pairwise.map _ (fun a b h => ?_) ((List.nodup_range.sublist List.filter_sublist) : ((List.range n).filter fun p => !decide (p ∈ (runL gs wk).filterMap id)).Nodup)
          exact fun z => h (Int.ofNat.inj z)
      refine ⟨.ref q, s34, .ref p, s31, p, _, rfl, dg, _, rfl, ?_⟩
      cases hv : valV kvs (keyL l) with
      | none =>
        rw [if_neg (by simp)]
        obtain ⟨f1, f2⟩ := fin v H3 (Same.refl _) ⟨_, r3', fok⟩
        exact ⟨v, s35, .ref p, s31, .ref q, s34, p, _, rfl, f1, f2⟩
      | some u =>
        rw [if_pos (show (some u).isSome = true from rfl)]
        obtain ⟨lu, ru, hlu, ndu⟩ := met3.vals _ _ hv
        have rng : (toI (List.range n)).length = n := by
          unfold toI
          rw [List.length_map, List.length_range]
        have b1 : lu.length ≤ n := by
          have := List.Nodup.length_le_of_subset ndu hlu
          omega
        have b2 : (toI (freeL n gs wk)).length ≤ n := by
          have := List.Nodup.length_le_of_subset fok.2 fok.1
          omega
        cases ru with
        | @lst a1 xs1 _ h11 h12 h13 =>
          cases h13.ints
          cases r3' with
          | @lst a2 xs2 _ h21 h22 h23 =>
            cases h23.ints
            refine ⟨.ref p, s31, .ref q, s34, p, _, rfl, hv ▸ dg, .ref a2, s35, a1, a2, _, _, rfl, rfl, h11, h21, ?_, fun c hc => ?_⟩
            · rw [List.length_map, List.length_map]
              exact small (by omega)
            · refine ⟨c, lu ++ toI (freeL n gs wk), rfl, .inl (SqL.of (by rw [List.map_append]; exact upd_same)), by rw [List.length_append]; omega, fun sa k hs hk _ => ?_⟩
              rw [List.length_append] at hk
              refine ⟨sa, _, k, rfl, upd_same, by omega, fun ns r hp hw' _ hr' => ?_⟩
              have e5 := (same_new (o := .lst (lu.map V.int ++ (toI (freeL n gs wk)).map V.int)) hc).trans (same_new (o := SetO w sa (fun j => decide (j ∈ lu ++ toI (freeL n gs wk))) k) hs)
              have e4 := e5.trans (same_new (o := .lst (ns.map V.int)) hr')
              have hmem : ∀ x ∈ ns, x ∈ toI (List.range n) := fun x hx => by
                have := (hw' x).mp hx
                rw [decide_eq_true_eq, List.mem_append] at this
                exact this.elim (hlu x) (fok.1 x)
              obtain ⟨f1, f2⟩ := fin (.ref r) _ e4 ⟨ns, .lst upd_same (ok3.nf r (e5.free hr')) (ra_ints ns), hmem, hp.imp fun z => Int.ne_of_lt z⟩
              exact ⟨.ref p, s31, .ref q, s34, p, _, rfl, f1, f2⟩
    case all =>
      have wlen : (walks gs.length).length ≤ 3125 := by
        have h1 := walksN_len fewG gs.length fewG
        have h5 : 5 ^ gs.length ≤ 5 ^ 5 := Nat.pow_le_pow_right (by omega) fewG
        have p5 : (5 : Nat) ^ 5 = 3125 := rfl
        show (walksN gs.length gs.length).length ≤ 3125
        omega
      intro p hp
      have ok1 := (Zb.Ok.mono ok (same_new (o := .dT []) hp)).set_no (i := 1) (z := some (.ref p))
      have s1 : (L2.start ["_law_net_here", "_law_found", "_law_walk", "_law_seats", "_law_heap", "_law_free_so", "_law_spot"] vs).length = 7 := ok.len.symm
      refine ⟨fun _ => True, _, ok1, fun v H' e1 r1 => ?_⟩
      cases (show R K H' (fun _ => True) v (.lst ((walks gs.length).map (rD gs))) from r1) with
      | @lst a xs _ h1 hn h3 =>
        refine ⟨a, rfl, ⟨xs, SqL.of h1⟩, ?_⟩
        have xl : xs.length = (walks gs.length).length := by rw [h3.length, List.length_map]
        refine for_it (walk_list (xs := xs)) (fun i σ' H2 => ∃ O' kvs, H2 a = some (.lst xs) ∧ RA K H2 (fun _ => True) xs ((walks gs.length).map (rD gs)) ∧ Zb.Ok K H (fun _ => True) (fun _ => True) σ' H2 (E1 n gs) O' ∧ σ'[1]? = some (some (.ref p)) ∧ Met K n (fun _ => True) H2 p kvs ((((walks gs.length).take i).map (Gr.without gs)).foldl metAdd []))
          ⟨_, [], h1, h3, Zb.Ok.mono ok1 e1, ?_, ⟨e1 _ _ upd_same, rfl, fun k v hk => by cases hk⟩⟩ (fun i σ' H2 _ ⟨O', kvs, g1, _⟩ => SqL.of g1) (fun i x σ' H2 H3 hi ⟨O', kvs, g1, g2, g3, g4, g5⟩ y => ?_) fun σ' H2 ⟨O', kvs, g1, g2, g3, g4, g5⟩ => ?_
        · exact List.getElem?_set_self (by rw [s1]; decide)
        · obtain ⟨rfl, y⟩ := y
          have hw' : i < (walks gs.length).length := by omega
          obtain ⟨z, k1, k2⟩ := g2.get (i := i) (d := rD gs (walks gs.length)[i]) (by rw [List.getElem?_map, List.getElem?_eq_getElem hw']; rfl)
          rw [k1] at y
          cases y
          have ho : IsOrder gs (walks gs.length)[i] := mem_walks.mp (List.getElem_mem hw')
          have tk : ((walks gs.length).take (i + 1)).map (Gr.without gs) = ((walks gs.length).take i).map (Gr.without gs) ++ [Gr.without gs (walks gs.length)[i]] := by
            rw [List.take_succ_eq_append_getElem hw', List.map_append]
            rfl
          refine ⟨(E1 n gs, rD gs (walks gs.length)[i], EW n gs (walks gs.length)[i], [2] ++ [3]), ag_tup rfl (ags_cons (ag_name 2 sc_law_lots_met.nd) (ags_cons (ag_name 3 sc_law_lots_met.nd) ags_nil)), _, _, g3, k2, fun σ3 O3 ok3 hl3 hj3 => ?_⟩
          refine ⟨(walks gs.length)[i], ho, _, O3, p, kvs, _, ok3, (hj3 1 (show 1 ∉ [2] ++ [3] by decide)).trans g4, hp, g5, ?_, fun σ4 H4 O4 kvs4 ok4 h41 hra hls met4 => ?_⟩
          · have := metAdd_len (((walks gs.length).take i).map (Gr.without gs)) []
            have h7 : (((walks gs.length).take i).map (Gr.without gs)).length ≤ (walks gs.length).length := by
              rw [List.length_map, List.length_take]
              omega
            rw [List.length_nil] at this
            omega
          · refine ⟨O4, kvs4, hls _ _ g1, hra _ _ g2, ok4, h41, ?_⟩
            rw [tk, List.foldl_append]
            exact met4
        · refine ⟨.ref p, g4, ?_⟩
          have : ((walks gs.length).take xs.length).map (Gr.without gs) = (walks gs.length).map (Gr.without gs) := by
            rw [List.take_of_length_le (by omega)]
          rw [this] at g5
          exact q p kvs H2 g3.ext g5.at_ g5.keys
end
end Zf
set_option maxHeartbeats 1600000
/-! The data layer, 17: calls by keywords alone; try .. except C as n. -/
namespace Zb
open PySem PySem.Spec PyProof.Rows L2 RZ
/-- the keywords' values put into the parameters' order -/
def kw1 {α : Type} : List α → List α → List α
  | [], [a] => [a]
  | _, _ => []
def kwS {α : Type} : List α → List α → List α
  | [], [a, b] => [b, a]
  | _, _ => []
def kwT {α : Type} : List α → List α → List α
  | [], [a, b, c] => [b, c, a]
  | _, _ => []
/-- of the law: f(k = .., ..), f a def with plain parameters -/
structure KwA (K : PySem.W.Frag) (mg : Str → Option Value) (n : Str) (ps ks : List Str) (g : {α : Type} → List α → List α → List α) : Prop where
  ex : ∃ f fd, mg n = some (.ref f) ∧ (∃ oc od osl, K.lookup f = some ⟨oc, od, .func fd, osl⟩) ∧ KBinds K fd ps ks g g
theorem kw1_rel {vs zs : List V} {us ws : List Value} (h : Vals vs us) (h' : Vals zs ws) : Vals (kw1 vs zs) (kw1 us ws) := by
  cases h with
  | cons _ _ => exact .nil
  | nil =>
    cases h' with
    | nil => exact .nil
    | cons a h' =>
      cases h' with
      | nil => exact .cons a .nil
      | cons _ _ => exact .nil
theorem kwS_rel {vs zs : List V} {us ws : List Value} (h : Vals vs us) (h' : Vals zs ws) : Vals (kwS vs zs) (kwS us ws) := by
  cases h with
  | cons _ _ => exact .nil
  | nil =>
    cases h' with
    | nil => exact .nil
    | cons a h' =>
      cases h' with
      | nil => exact .nil
      | cons b h' =>
        cases h' with
        | nil => exact .cons b (.cons a .nil)
        | cons _ _ => exact .nil
theorem kwT_rel {vs zs : List V} {us ws : List Value} (h : Vals vs us) (h' : Vals zs ws) : Vals (kwT vs zs) (kwT us ws) := by
  cases h with
  | cons _ _ => exact .nil
  | nil =>
    cases h' with
    | nil => exact .nil
    | cons a h' =>
      cases h' with
      | nil => exact .nil
      | cons b h' =>
        cases h' with
        | nil => exact .nil
        | cons c h' =>
          cases h' with
          | nil => exact .cons b (.cons c (.cons a .nil))
          | cons _ _ => exact .nil
section
variable {X : Cx} {CX : CXT} {k : Nat} {f : Addr} {fd : FuncData} {ps ks : List Str} {sp : Sp} {x : Str} {p pos kpos : Pos} {kws : List Keyword} {tk : TA} {g : List Value → List Value → List Value} {gV : List V → List V → List V}
theorem kwRun {pins : List (Addr × Obj)} {σ : L2.St} {H : Hp} {s : Shared} {Q : VK} {ws : List Value} {zs : List V} {E : XK} (F : FnOk X.prog X.w X.K X.mg X.base CX k f fd ps sp) (hr : Room k X.A) (hb : KBinds X.K fd ps ks g gV) (hx : PassesAt CX X σ E) (I : L2.Inv X pins σ H s) (rz : Vals zs ws) (h : sp (gV [] zs) H Q E) :
    wpAny (model X.prog X.w) X.A (call (.ref f) [] (ks.zip ws)) (L2.EP X pins σ Q) X.xe s := by
  have r2 : Vals (gV [] zs) (g [] ws) := hb.rel .nil rz
  have len : (g [] ws).length = ps.length := (r2.length).symm.trans (F.len _ _ _ _ h)
  refine wpAny_call (codeAny_mono (F.run X.A X.stack s H ⟨[], ks.zip ws⟩ (g [] ws) (gV [] zs) Q E hr I.env0 (hb.to s [] ws I.kIn len) r2 h) fun r s' hq => ?_)
  cases r with
  | error u => exact hx pins H s u s' I hq
  | ok fl =>
    cases fl with
    | ret u => exact I.after hq
    | next => exact hq.elim
    | brk => exact hq.elim
    | cont => exact hq.elim
/-- f(k = v, ..), nothing by position -/
theorem pe_callKW {E : L2.St → XK} (F : FnOk X.prog X.w X.K X.mg X.base CX k f fd ps sp) (hr : Room k X.A) (hg : Gl X x) (hm : X.mg x = some (.ref f)) (hk : PySem.W.keepIn X.K (.ref f) = true) (hb : KBinds X.K fd ps ks g gV) (hx : ∀ σ, PassesAt CX X σ (E σ)) (hkw : PK X kws tk)
    (hall : (backToKw pos (keywordEach kws X.env)).all (·.1.isSome) = true) (hks : (backToKw pos (keywordEach kws X.env)).filterMap (·.1) = ks) (hdb : (x == ("__debug__" : Str)) = false) (hpl : ((backTo pos (starEach [] X.env)).any (·.1) || (backToKw pos (keywordEach kws X.env)).any (·.1.isNone)) = false) :
    PE X (.Call (.Name x p) [] kws pos) (fun σ H Q => tk σ H fun zs H1 => sp (gV [] zs) H1 Q (E σ)) :=
  ⟨fun pins s σ H Q I h => wpAny_Call_Name_kw (ld_glob I hg hm (PySem.W.callWith_KW0 (h₀ := X.base) I.ok.mod.kin hk hall (thn (hkw.run pos pins s σ H _ I h) fun ws s2 ⟨zs, H2, I2, rz, q2⟩ => ⟨I2.kIn, by
    rw [hks]
    exact kwRun F hr hb (hx σ) I2 rz q2⟩) hpl) hdb)⟩
end
section
variable {X : Cx} {H0 : Hp} {M : Addr → Prop} {env : Ev} {r : Res} {e : Expr} {kws : List Keyword} {pos p kpos : Pos} {nm : Option Str}
abbrev EK (X : Cx) (H0 : Hp) (M : Addr → Prop) (kws : List Keyword) (env : Ev) (rs : List Res) : Prop := PK X kws (tEA X.K H0 M env rs)
theorem pk_weak {t t' : TA} (h : PK X kws t) (w : ∀ σ H Q, t' σ H Q → t σ H Q) : PK X kws t' := ⟨fun pos pins s σ H Q I q => h.run pos pins s σ H Q I (w _ _ _ q)⟩
theorem ek_nil : EK X H0 M [] env [] := pk_weak pk_nil fun σ H Q ⟨N, O, ok, k⟩ => k _ H (Same.refl _) .nil
theorem ek_cons {rs : List Res} (h : EX X H0 M e env r) (ht : EK X H0 M kws env rs) : EK X H0 M (⟨nm, e, kpos⟩ :: kws) env (r :: rs) :=
  pk_weak (pk_cons h ht) fun σ H Q ⟨N, O, ok, k⟩ => ⟨N, O, ok, fun v H1 e1 r1 => ⟨N, O, ok.mono e1, fun vs H2 e2 r2 => k _ H2 (e1.trans e2) (.cons (r1.same e2) (rrs_back e1 r2))⟩⟩
theorem lk_one {K : PySem.W.Frag} {f : Addr} {fd fd' : FuncData} (h : ∃ oc od osl, K.lookup f = some ⟨oc, od, .func fd, osl⟩) (h' : ∃ oc od osl, K.lookup f = some ⟨oc, od, .func fd', osl⟩) : fd = fd' := by
  obtain ⟨_, _, _, a⟩ := h
  obtain ⟨_, _, _, b⟩ := h'
  rw [a] at b
  injection b with b
  injection b with _ _ b
  injection b
/-- how the keywords' values and the parameters' stand to each other -/
structure GRel (g : {α : Type} → List α → List α → List α) : Prop where
  rel : ∀ {K : PySem.W.Frag} {N : Addr → Prop} {O : List (Option Addr)} {H H' : Hp} {vs : List V} {rs : List Res}, RRs K N O H H' vs rs → RRs K N O H H' (g [] vs) (g [] rs)
theorem g_kw1 : GRel kw1 := ⟨fun h => by
  cases h with
  | nil => exact .nil
  | cons a h =>
    cases h with
    | nil => exact .cons a .nil
    | cons _ _ => exact .nil⟩
theorem g_kwS : GRel kwS := ⟨fun h => by
  cases h with
  | nil => exact .nil
  | cons a h =>
    cases h with
    | nil => exact .nil
    | cons b h =>
      cases h with
      | nil => exact .cons b (.cons a .nil)
      | cons _ _ => exact .nil⟩
theorem g_kwT : GRel kwT := ⟨fun h => by
  cases h with
  | nil => exact .nil
  | cons a h =>
    cases h with
    | nil => exact .nil
    | cons b h =>
      cases h with
      | nil => exact .nil
      | cons c h =>
        cases h with
        | nil => exact .cons b (.cons c (.cons a .nil))
        | cons _ _ => exact .nil⟩
theorem ex_callK {k : Nat} {n : Str} {ps ks : List Str} {F : List D → D → Prop} {rs : List Res} {d : D} {g : {α : Type} → List α → List α → List α} (G : GRel g) (C : Ct X.prog X.w X.K X.mg X.base k n ps F) (W : KwA X.K X.mg n ps ks g) (hr : Room k X.A) (ha : EK X H0 M kws env rs) (h : F ((g [] rs).map Res.v) d)
    (hall : (backToKw pos (keywordEach kws X.env)).all (·.1.isSome) = true := by rfl) (hks : (backToKw pos (keywordEach kws X.env)).filterMap (·.1) = ks := by rfl) (hg : Gl X n := by rfl) (hdb : (n == ("__debug__" : Str)) = false := by decide)
    (hpl : ((backTo pos (starEach [] X.env)).any (·.1) || (backToKw pos (keywordEach kws X.env)).any (·.1.isNone)) = false := by rfl) : EX X H0 M (.Call (.Name n p) [] kws pos) env (.d d) := by
  obtain ⟨f, fd, h1, h2, h3, h4⟩ := C.ex
  obtain ⟨f', fd', w1, w2, w3⟩ := W.ex
  have e : f = f' := by
    rw [h2] at w1
    injection w1 with w1
    injection w1
  subst e
  have e := lk_one h4.2 w2
  subst e
  exact pe_weak (pe_callKW (E := fun _ => E0) h1 hr hg h2 h3 w3 (fun σ pins H s e s' I c => pass0 pins σ H s e s' I c) ha hall hks hdb hpl) fun σ H Q ⟨N, O, ok, q⟩ => ⟨N, O, ok, fun vs H1 e1 r1 => ⟨_, d, h, rrs_any (G.rel r1), fun v H2 e2 r2 => q v H2 (e1.trans e2) (rest_fresh (ok.mono e1) r2)⟩⟩
/-! ### what may raise, in a try -/
/-- it raises C, at the slots as they stand -/
def tRz (K : PySem.W.Frag) (H0 : Hp) (M : Addr → Prop) (env : Ev) (C : Addr) (W : WX) : TE := fun σ H _ => ∃ N O, Ok K H0 M N σ H env O ∧ ∀ H', Same H H' → W (.ref C) none σ H'
def tRzS (K : PySem.W.Frag) (H0 : Hp) (M : Addr → Prop) (env : Ev) (C : Addr) (W : WX) : TS := fun _ σ H => ∃ N O, Ok K H0 M N σ H env O ∧ ∀ H', Same H H' → W (.ref C) none σ H'
theorem ex_callKX {k : Nat} {n : Str} {ps ks : List Str} {C : Addr} {F : List D → D → Prop} {Fx : List D → Prop} {rs : List Res} {d : D} {W : WX} {g : {α : Type} → List α → List α → List α} (G : GRel g) (T : CtX X.prog X.w X.K X.mg X.base k n ps C F Fx) (KW : KwA X.K X.mg n ps ks g) (tk : Takes X W) (hr : Room k X.A) (ha : EK X H0 M kws env rs) (h : F ((g [] rs).map Res.v) d)
    (hall : (backToKw pos (keywordEach kws X.env)).all (·.1.isSome) = true := by rfl) (hks : (backToKw pos (keywordEach kws X.env)).filterMap (·.1) = ks := by rfl) (hg : Gl X n := by rfl) (hdb : (n == ("__debug__" : Str)) = false := by decide)
    (hpl : ((backTo pos (starEach [] X.env)).any (·.1) || (backToKw pos (keywordEach kws X.env)).any (·.1.isNone)) = false := by rfl) : EX X H0 M (.Call (.Name n p) [] kws pos) env (.d d) := by
  obtain ⟨f, fd, h1, h2, h3, h4⟩ := T.ex
  obtain ⟨f', fd', w1, w2, w3⟩ := KW.ex
  have e : f = f' := by
    rw [h2] at w1
    injection w1 with w1
    injection w1
  subst e
  have e := lk_one h4.2 w2
  subst e
  exact pe_weak (pe_callKW h1 hr hg h2 h3 w3 (fun σ => passAt tk σ) ha hall hks hdb hpl) fun σ H Q ⟨N, O, ok, q⟩ => ⟨N, O, ok, fun vs H1 e1 r1 => ⟨_, rrs_any (G.rel r1), .inl ⟨d, h, fun v H2 e2 r2 => q v H2 (e1.trans e2) (rest_fresh (ok.mono e1) r2)⟩⟩⟩
theorem rz_callK {k : Nat} {n : Str} {ps ks : List Str} {C : Addr} {F : List D → D → Prop} {Fx : List D → Prop} {rs : List Res} {W : WX} {g : {α : Type} → List α → List α → List α} (G : GRel g) (T : CtX X.prog X.w X.K X.mg X.base k n ps C F Fx) (KW : KwA X.K X.mg n ps ks g) (tk : Takes X W) (hr : Room k X.A) (ha : EK X H0 M kws env rs) (h : Fx ((g [] rs).map Res.v))
    (hall : (backToKw pos (keywordEach kws X.env)).all (·.1.isSome) = true := by rfl) (hks : (backToKw pos (keywordEach kws X.env)).filterMap (·.1) = ks := by rfl) (hg : Gl X n := by rfl) (hdb : (n == ("__debug__" : Str)) = false := by decide)
    (hpl : ((backTo pos (starEach [] X.env)).any (·.1) || (backToKw pos (keywordEach kws X.env)).any (·.1.isNone)) = false := by rfl) : PE X (.Call (.Name n p) [] kws pos) (tRz X.K H0 M env C W) := by
  obtain ⟨f, fd, h1, h2, h3, h4⟩ := T.ex
  obtain ⟨f', fd', w1, w2, w3⟩ := KW.ex
  have e : f = f' := by
    rw [h2] at w1
    injection w1 with w1
    injection w1
  subst e
  have e := lk_one h4.2 w2
  subst e
  exact pe_weak (pe_callKW h1 hr hg h2 h3 w3 (fun σ => passAt tk σ) ha hall hks hdb hpl) fun σ H Q ⟨N, O, ok, q⟩ => ⟨N, O, ok, fun vs H1 e1 r1 => ⟨_, rrs_any (G.rel r1), .inr ⟨h, fun H2 e2 => q H2 (e1.trans e2)⟩⟩⟩
variable {c a b : Expr} {C : Addr} {W : WX} {body els : List Stmt} {x : Bool}
theorem rz_ifE (h : ET X H0 M c env x) (h1 : x = true → PE X a (tRz X.K H0 M env C W)) (h2 : x = false → PE X b (tRz X.K H0 M env C W)) : PE X (.IfExp c a b pos) (tRz X.K H0 M env C W) :=
  pe_weak (pe_ifExp h (pe_if h1) (pe_if h2)) fun σ H Q ⟨N, O, ok, q⟩ => ⟨N, O, ok, fun H' e => by
    cases x with
    | true =>
      rw [if_pos rfl]
      exact ⟨rfl, N, O, ok.mono e, fun H2 e2 => q H2 (e.trans e2)⟩
    | false =>
      rw [if_neg Bool.false_ne_true]
      exact ⟨rfl, N, O, ok.mono e, fun H2 e2 => q H2 (e.trans e2)⟩⟩
theorem rz_if (h : ET X H0 M c env x) (h1 : x = true → PSs X body (tRzS X.K H0 M env C W)) (h2 : x = false → PSs X els (tRzS X.K H0 M env C W)) : PSs X [.If c body els pos] (tRzS X.K H0 M env C W) :=
  pss_weak (pss_one (ps_if h (pss_if h1) (pss_if h2))) fun E σ H ⟨N, O, ok, q⟩ => ⟨N, O, ok, fun H' e => by
    cases x with
    | true =>
      rw [if_pos rfl]
      exact ⟨rfl, N, O, ok.mono e, fun H2 e2 => q H2 (e.trans e2)⟩
    | false =>
      rw [if_neg Bool.false_ne_true]
      exact ⟨rfl, N, O, ok.mono e, fun H2 e2 => q H2 (e.trans e2)⟩⟩
theorem rz_set {n : Str} {p' : Pos} (i : Nat) (hN : X.N.Nodup) (h : PE X e (tRz X.K H0 M env C W)) (hi : X.N[i]? = some n := by rfl) (hx : Loc X.env.scope n := by first | exact Or.inl rfl | exact Or.inr rfl) (hs : swapsWith e (some (.Name n p')) pos.line X.env = pure false := by rfl)
    (hf : X.fn n = true ∨ X.env.scope.names.lookup n = some .local := by first | exact .inl rfl | exact .inr rfl) : PSs X [.Assign [.Name n p'] e pos] (tRzS X.K H0 M env C W) :=
  pss_weak (pss_one (ps_set (i := i) hN hi hx h hs hf)) fun E σ H q => q
end
end Zb
/-! The data layer, 18: try .. except C as n. -/
namespace Zb
open PySem PySem.Spec PyProof.Rows L2 RZ
section
variable {X : Cx} {H0 : Hp} {M : Addr → Prop} {env env1 : Ev} {out : Out} {x n : Str} {c : Value} {i : Nat} {body suite : List Stmt} {b₀ : Stmt} {np pos pos' : Pos} {C : Addr}
/-- the body raises nothing -/
theorem x_tryR (hs : X.stack = X.env :: X.outer) (hf : X.env.frame = some X.env.locals) (hN : X.N.Nodup) (hi : X.N[i]? = some n) (hln : X.env.kindOf n = some .local) (hc : Names X x c)
    (hb : ∀ (W : WX) (pn : List (Addr × Obj)) (xe : Value → Shared → Prop), Takes (X.tr pn xe) W → XS (X.tr pn xe) H0 M body env out) : X1 X H0 M (.Try body [.ExceptHandler (some (.Name x np)) (some n) (b₀ :: suite) pos'] [] [] pos) env out :=
  ps_weak (ps_try_as (i := i) (tb := fun _ => tXS X.K H0 M env out) (ts := fun _ _ _ => fun _ _ _ => False) (Wout := fun _ _ _ _ => False) hs hf hN hi hln hc takes0 (fun W pn xe tk _ => hb W pn xe tk) (fun _ _ _ _ _ _ _ => pss_never)) fun D σ H q => q
/-- the body raises C, which the clause takes -/
theorem x_tryX (hs : X.stack = X.env :: X.outer) (hf : X.env.frame = some X.env.locals) (hN : X.N.Nodup) (hi : X.N[i]? = some n) (hln : X.env.kindOf n = some .local) (hc : Names X x c) (hm : PySem.W.exmOne X.K (.ref C) c = some true) (hl : i < env.length)
    (hb : ∀ (W : WX) (pn : List (Addr × Obj)) (xe : Value → Shared → Prop), Takes (X.tr pn xe) W → PSs (X.tr pn xe) body (tRzS X.K H0 M env C W))
    (hsu : ∀ (a : Addr) (oe : Obj) (pn : List (Addr × Obj)), Zc (.ref C) none oe → (∃ vs, oe.data = .fields vs) → PSs (X.suite a ((a, oe) :: pn)) (b₀ :: suite) (fun D σ H => ∃ N O, Ok X.K H0 M N σ H (env.set i .no) O ∧ σ[i]? = some (some (.ref a)) ∧ ∀ σ' H' N' O', Ok X.K H0 M N' σ' H' env1 O' → Fr N H N' H' → D.nx σ' H')) :
    X1 X H0 M (.Try body [.ExceptHandler (some (.Name x np)) (some n) (b₀ :: suite) pos'] [] [] pos) env (.nx (env1.set i .no)) :=
  ps_weak (ps_try_as (i := i) (tb := tRzS X.K H0 M env C) (ts := fun a cls d => fun D σ H => (cls = .ref C ∧ d = none) ∧ ∃ N O, Ok X.K H0 M N σ H (env.set i .no) O ∧ σ[i]? = some (some (.ref a)) ∧ ∀ σ' H' N' O', Ok X.K H0 M N' σ' H' env1 O' → Fr N H N' H' → D.nx σ' H') (Wout := fun _ _ _ _ => False) hs hf hN hi hln hc takes0 (fun W pn xe tk _ => hb W pn xe tk) (fun a oe cls d pn hz hd => pss_if fun h => by
    obtain ⟨rfl, rfl⟩ := h
    exact hsu a oe pn hz hd)) fun D σ H ⟨N, O, ok, q⟩ => ⟨N, O, ok, fun H' e => ⟨true, hm, fun _ a ha => ⟨⟨rfl, rfl⟩, N, _, (ok.mono e).set_no, List.getElem?_set_self (by rw [← ok.len]; exact hl), fun σ' H2 N' O' ok' f => q _ H2 _ _ ok'.set_no ((Fr.of_same e).trans f)⟩, fun z => nomatch z⟩⟩
end
end Zb
set_option maxHeartbeats 4000000
/-! The law's defs, 7: what a door says, or that it can not. -/
namespace Zf
open PySem PySem.Spec PyProof.Rows L2 Zb Zt Gr
/-- of the class CanNot, what the except clause and isinstance ask -/
structure CnI (K : PySem.W.Frag) (mg : Str → Option Value) (C : Addr) : Prop where
  own : Cn K mg "CanNot" C
  takes : PySem.W.exmOne K (.ref C) (.ref C) = some true
  cls : ExcC K C
  isV : PySem.W.kitOne K (.ref C) (.type "ValueError") = some true
def errD : D := .lst [.str "can not", .bl true]
section
variable {P : Program} {w : World} {K : PySem.W.Frag} {mg : Str → Option Value} {base : Heap} {C : Addr}
def F_l_heard (ds : List D) (d : D) : Prop := ∃ (k : Nat) (x y : D), ds = [natD k, x, y] ∧ ((k = 0 ∧ F_lot_with [x, y] d) ∨ (k = 1 ∧ F_order_with [x, y] d) ∨ (k = 2 ∧ F_why_never [x, y] d) ∨ (((k = 0 ∧ X_lot [x, y]) ∨ (k = 1 ∧ X_lot [x, y]) ∨ (k = 2 ∧ X_why [x, y])) ∧ d = errD))
theorem ct_l_heard (B : Bl mg) (T : CnI K mg C) (d : Df K mg "_law_heard" s_law_heard ["_law_door", "_law_net_here", "_law_heap"]) (c0 : CtX P w K mg base 9 "lot_with" ["web", "lot"] C F_lot_with X_lot) (c1 : CtX P w K mg base 9 "order_with" ["web", "lot"] C F_order_with X_lot) (c2 : CtX P w K mg base 8 "why_never" ["web", "lot"] C F_why_never X_why)
    (k0 : KwA K mg "lot_with" ["web", "lot"] ["lot", "web"] kwS) (k1 : KwA K mg "order_with" ["web", "lot"] ["lot", "web"] kwS) (k2 : KwA K mg "why_never" ["web", "lot"] ["lot", "web"] kwS) : Ct P w K mg base 10 "_law_heard" ["_law_door", "_law_net_here", "_law_heap"] F_l_heard := by
  obtain ⟨f, fd, Fn, hb, hm⟩ := d.ex
  refine ct_any Fn sc_law_heard hb hm (fun ds d h => ?_) (by decide) (fun cdv A outer s H E hr ds d h => ?_)
  · obtain ⟨k, x, y, rfl, _⟩ := h
    rfl
  · obtain ⟨k, x, y, rfl, h⟩ := h
    rcases h with ⟨rfl, h⟩ | ⟨rfl, h⟩ | ⟨rfl, h⟩ | ⟨h, rfl⟩
    · refine .inl ⟨?_, false, xs_cons (x_set 3 sc_law_heard.nd ex_non) (xs_cons (x_tryR (i := 4) rfl rfl sc_law_heard.nd rfl rfl ⟨rfl, by decide, Or.inl T.own.gC⟩ (fun W pn xe tk => xs_one (x_ifT (ET.to (et_eqN (j := 0) (ex_var 0 rfl) ex_int) rfl) (xs_one (x_set 3 sc_law_heard.nd (ex_callKX g_kwS c0 k0 tk hr (ek_cons (ex_var 2 rfl) (ek_cons (ex_var 1 rfl) ek_nil)) h)))))) (xs_one (x_retD (ex_var 3 rfl))))⟩
      obtain ⟨_, _, _, _, _, _, _, _, _, rfl⟩ := h
      exact flat_tD _
    · refine .inl ⟨?_, false, xs_cons (x_set 3 sc_law_heard.nd ex_non) (xs_cons (x_tryR (i := 4) rfl rfl sc_law_heard.nd rfl rfl ⟨rfl, by decide, Or.inl T.own.gC⟩ (fun W pn xe tk => xs_one (x_ifF (ET.to (et_eqN (j := 0) (ex_var 0 rfl) ex_int) rfl) (xs_one (x_set 3 sc_law_heard.nd (ex_ifE (x := true) (ET.to (et_eqN (j := 1) (ex_var 0 rfl) ex_int) rfl) (fun _ => ex_callKX g_kwS c1 k1 tk hr (ek_cons (ex_var 2 rfl) (ek_cons (ex_var 1 rfl) ek_nil)) h) fun z => nomatch z)))))) (xs_one (x_retD (ex_var 3 rfl))))⟩
      obtain ⟨_, _, _, _, _, _, _, _, _, _, rfl⟩ := h
      exact flat_tD _
    · refine .inl ⟨?_, false, xs_cons (x_set 3 sc_law_heard.nd ex_non) (xs_cons (x_tryR (i := 4) rfl rfl sc_law_heard.nd rfl rfl ⟨rfl, by decide, Or.inl T.own.gC⟩ (fun W pn xe tk => xs_one (x_ifF (ET.to (et_eqN (j := 0) (ex_var 0 rfl) ex_int) rfl) (xs_one (x_set 3 sc_law_heard.nd (ex_ifE (x := false) (ET.to (et_eqN (j := 1) (ex_var 0 rfl) ex_int) rfl) (fun z => nomatch z) (fun _ => ex_callKX g_kwS c2 k2 tk (hr.mono (by decide)) (ek_cons (ex_var 2 rfl) (ek_cons (ex_var 1 rfl) ek_nil)) h))))))) (xs_one (x_retD (ex_var 3 rfl))))⟩
      obtain ⟨_, _, _, _, _, _, _, _, _, _, rfl⟩ := h
      exact flat_tD _
    · refine .inr (.inl ⟨⟨_, rfl, rfl⟩, xs_cons (x_set 3 sc_law_heard.nd ex_non) (xs_cons (x_tryX (i := 4) (env1 := [.d (natD k), .d x, .d y, .o errD, .no]) rfl rfl sc_law_heard.nd rfl rfl ⟨rfl, by decide, Or.inl T.own.gC⟩ T.takes (Nat.le_of_ble_eq_true rfl) (fun W pn xe tk => ?g1) fun a oe pn hz hd => ?g2) (xs_one (x_retO (i := 3) (ex_own 3 rfl))))⟩)
      case g1 =>
        rcases h with ⟨rfl, h⟩ | ⟨rfl, h⟩ | ⟨rfl, h⟩
        · exact rz_if (x := true) (ET.to (et_eqN (j := 0) (ex_var 0 rfl) ex_int) rfl) (fun _ => rz_set 3 sc_law_heard.nd (rz_callK g_kwS c0 k0 tk hr (ek_cons (ex_var 2 rfl) (ek_cons (ex_var 1 rfl) ek_nil)) h)) fun z => nomatch z
        · exact rz_if (x := false) (ET.to (et_eqN (j := 0) (ex_var 0 rfl) ex_int) rfl) (fun z => nomatch z) fun _ => rz_set 3 sc_law_heard.nd (rz_ifE (x := true) (ET.to (et_eqN (j := 1) (ex_var 0 rfl) ex_int) rfl) (fun _ => rz_callK g_kwS c1 k1 tk hr (ek_cons (ex_var 2 rfl) (ek_cons (ex_var 1 rfl) ek_nil)) h) fun z => nomatch z)
        · exact rz_if (x := false) (ET.to (et_eqN (j := 0) (ex_var 0 rfl) ex_int) rfl) (fun z => nomatch z) fun _ => rz_set 3 sc_law_heard.nd (rz_ifE (x := false) (ET.to (et_eqN (j := 1) (ex_var 0 rfl) ex_int) rfl) (fun z => nomatch z) fun _ => rz_callK g_kwS c2 k2 tk (hr.mono (by decide)) (ek_cons (ex_var 2 rfl) (ek_cons (ex_var 1 rfl) ek_nil)) h)
      case g2 =>
        refine pss_weak (pss_one (ps_set (i := 3) sc_law_heard.nd rfl (.inl rfl) (pe_lst (pa_cons pe_str (pa_cons (pe_callB (call_isE T.cls hz hd) rfl B.isinstance (by decide +kernel) (pa_cons (pe_var (i := 4) rfl (.inl rfl)) (pa_cons (pe_bltn (v := .ty "ValueError") rfl B.valueError (by decide +kernel) rfl (by decide) (by decide)) pa_nil) rfl) (he := rfl)) pa_nil))))) fun D σ H1 ⟨N, O, ok, s4, q⟩ => ?_
        refine ⟨.ref a, s4, .ty "ValueError", .type "ValueError", true, rfl, fun u hu => hu, T.isV, ⟨by show 2 ≤ sizeLine; decide, fun p hp => ?_⟩⟩
        have ow : OwnR K (L2.upd H1 p (.lst [.str "can not", .bl true])) (fun z => N z ∧ z ≠ p) p errD := ⟨_, upd_same, .cons (.str _) (.cons (.bl _) .nil)⟩
        exact q _ _ _ _ (Zb.Ok.set_o (i := 3) (x := errD) (by rw [← ok.len]; exact Nat.le_of_ble_eq_true rfl) ok (same_new hp) hp ow) (Fr.own (same_new hp) hp)
end
end Zf
/-! What the program tells is what the law reckons. -/
namespace Zf
open PySem PySem.Spec PyProof.Rows L2 Zb Zt Gr
def dueL (gs : G) (lot : List Nat) : Bool := (metL gs).any fun own => lot.all fun k => decide (k ∈ own)
theorem due_is {n : Nat} {gs : G} {lot : List Nat} (hw : Web n gs) (hl : Lot gs lot) : dueL gs lot = (barring n gs lot).isEmpty := by
  unfold dueL
  rw [Bool.eq_iff_iff, List.any_eq_true, List.isEmpty_iff, Gq.together_iff hw hl]
  constructor
  · rintro ⟨own, h1, h2⟩
    obtain ⟨row, h3, rfl⟩ := mem_metL.mp h1
    exact ⟨row, h3, fun k hk => of_decide_eq_true (List.all_eq_true.mp h2 k hk)⟩
  · rintro ⟨row, h1, h2⟩
    exact ⟨_, mem_metL.mpr ⟨row, h1, rfl⟩, List.all_eq_true.mpr fun k hk => decide_eq_true (h2 k hk)⟩
def aloneL (gs : G) : List Nat := (List.range gs.length).filter fun k => (metL gs).any fun own => decide (k ∈ own)
theorem one_lot {gs : G} {k : Nat} (hk : k < gs.length) : Lot gs [k] := ⟨by simp, fun j hj => by rw [List.mem_singleton.mp hj]; exact hk⟩
theorem never_is1 {n : Nat} {gs : G} {k : Nat} (hw : Web n gs) (hk : k < gs.length) : isNever n gs k = !((metL gs).any fun own => decide (k ∈ own)) := by
  unfold isNever
  rw [← due_is hw (one_lot hk)]
  unfold dueL
  simp
theorem mem_alone {gs : G} {k : Nat} : k ∈ aloneL gs ↔ k < gs.length ∧ ((metL gs).any fun own => decide (k ∈ own)) = true := by
  unfold aloneL
  rw [List.mem_filter, List.mem_range]
theorem never_is {n : Nat} {gs : G} (hw : Web n gs) : neverWithout n gs = (List.range gs.length).filter fun k => !decide (k ∈ aloneL gs) := by
  unfold neverWithout
  refine List.filter_congr fun k hk => ?_
  have hk := List.mem_range.mp hk
  rw [never_is1 hw hk]
  congr 1
  rw [Bool.eq_iff_iff, decide_eq_true_eq, mem_alone]
  exact ⟨fun h => ⟨hk, h⟩, fun h => h.2⟩
def matesL (gs : G) (k : Nat) : List Nat := (aloneL gs).filter fun j => !decide (j = k) && !((metL gs).any fun h => decide (k ∈ h) && decide (j ∈ h))
theorem rivals_is {n : Nat} {gs : G} {k : Nat} (hw : Web n gs) (hk : k < gs.length) : rivals n gs k = if k ∈ aloneL gs then matesL gs k else [] := by
  unfold rivals
  by_cases ha : k ∈ aloneL gs
  · have hn : isNever n gs k = false := by rw [never_is1 hw hk, (mem_alone.mp ha).2]; rfl
    rw [if_pos ha, hn, if_neg Bool.false_ne_true]
    unfold matesL aloneL
    rw [List.filter_filter]
    refine List.filter_congr fun j hj => ?_
    have hj := List.mem_range.mp hj
    rw [never_is1 hw hj, Bool.not_not, ← due_is hw (show Lot gs (asc gs.length [k, j]) from ⟨Gq.asc_sorted _ _, fun i hi => (Gq.mem_asc.mp hi).1⟩)]
    have e : dueL gs (asc gs.length [k, j]) = (metL gs).any fun h => decide (k ∈ h) && decide (j ∈ h) := by
      unfold dueL
      refine List.any_congr rfl ?_
      intro own
      rw [Bool.eq_iff_iff, List.all_eq_true, Bool.and_eq_true, decide_eq_true_eq, decide_eq_true_eq]
      constructor
      · intro h
        exact ⟨of_decide_eq_true (h k (Gq.mem_asc.mpr ⟨hk, by simp⟩)), of_decide_eq_true (h j (Gq.mem_asc.mpr ⟨hj, by simp⟩))⟩
      · rintro ⟨h1, h2⟩ i hi
        have := (Gq.mem_asc.mp hi).2
        rw [List.mem_cons, List.mem_singleton] at this
        rcases this with rfl | rfl
        · exact decide_eq_true h1
        · exact decide_eq_true h2
    rw [e]
    cases (metL gs).any fun own => decide (j ∈ own) <;> cases decide (j = k) <;> cases (metL gs).any fun h => decide (k ∈ h) && decide (j ∈ h) <;> rfl
  · have hn : isNever n gs k = true := by
      rw [never_is1 hw hk]
      cases h : (metL gs).any fun own => decide (k ∈ own) with
      | true => exact absurd (mem_alone.mpr ⟨hk, h⟩) ha
      | false => rfl
    rw [if_neg ha, if_pos hn]
theorem rounds_all {n : Nat} {gs : G} (hw : Web n gs) (lot : List Nat) : Rnd n gs lot := fun P hP ht => Gq.rounds hw P hP ht
/-- a lot that is not barred -/
theorem lot_good {n : Nat} {gs : G} {lot : List Nat} (hw : Web n gs) (hl : Lot gs lot) (hb : barring n gs lot = []) : Ogr n gs lot ∧ IsOrder gs (orderInLot n gs (lotGrown n gs lot)) ∧ Gr.without gs (orderInLot n gs (lotGrown n gs lot)) = lotGrown n gs lot ∧ lotGrown n gs lot ∈ metL gs ∧ ∀ k ∈ lot, k ∈ lotGrown n gs lot := by
  have good := Gq.good_grown hw hb
  obtain ⟨h1, h2⟩ := Gq.order_ok hw Gq.lotGrown_lot good
  refine ⟨⟨rounds_all hw _, fun P hP => ?_⟩, h1, h2, mem_metL.mpr ⟨_, h1, h2.symm⟩, Gq.lotGrown_sub hl⟩
  unfold treesOf at hP
  obtain ⟨h3, h4⟩ := List.mem_filter.mp hP
  exact good.tree P h3 h4
theorem mem_unw {n : Nat} {gs : G} {p : Nat} : p ∈ unwanted n gs → p < n := fun h => (Gq.mem_unwanted.mp h).1
/-- the part told is one of those that the law finds -/
theorem barred_mem {n : Nat} {gs : G} {lot part : List Nat} (hw : Web n gs) (hl : Lot gs lot) (h : part ∈ barring n gs lot) : part ∈ barredL n gs lot := by
  unfold barring at h
  obtain ⟨h1, h2⟩ := List.mem_filter.mp h
  unfold bars at h2
  simp only [Bool.and_eq_true, Bool.not_eq_true'] at h2
  obtain ⟨⟨ht, hm⟩, hno⟩ := h2
  unfold barredL
  refine List.mem_filter.mpr ⟨mem_lexSort.mpr (Gq.mem_rows_parts hw Gq.others_lt h1), ?_⟩
  unfold barsL
  have t := Gq.isTree_iff.mp ht
  rw [Bool.and_eq_true, Bool.and_eq_true]
  refine ⟨?_, decide_eq_true (by omega), ?_⟩
  · obtain ⟨p, hp, hpm⟩ := List.any_eq_true.mp hm
    obtain ⟨k, hk, he⟩ := Gq.mem_met.mp (of_decide_eq_true hpm)
    refine List.any_eq_true.mpr ⟨k, hk, ?_⟩
    rw [Bool.or_eq_true, decide_eq_true_eq, decide_eq_true_eq]
    rcases he with rfl | rfl
    · exact .inl hp
    · exact .inr hp
  · unfold freeIn
    rw [List.isEmpty_iff]
    refine List.filter_eq_nil_iff.mpr fun p hp hc => ?_
    rw [Bool.and_eq_true, decide_eq_true_eq, List.isEmpty_iff] at hc
    have := List.any_eq_false.mp hno p hp
    refine this (decide_eq_true (Gq.mem_spare.mpr ⟨hc.1, fun z => ?_⟩))
    obtain ⟨k, hk, he⟩ := Gq.mem_met.mp z
    have := List.filter_eq_nil_iff.mp hc.2 k hk
    exact this (decide_eq_true (by rcases he with rfl | rfl <;> simp))
end Zf
/-! The law's defs, 8: the law over a drawn web. -/
namespace Zf
open PySem PySem.Spec PyProof.Rows L2 Zb Zt Gr
/-- the source of draws: three numbers, the second and the third not great -/
def Tin (H : Hp) (p : Addr) (m : Nat) : Prop := ∃ x y z : Int, H p = some (.lst [.int x, .int y, .int z]) ∧ 0 ≤ y ∧ y < 2 ^ 62 ∧ 0 ≤ z ∧ z ≤ (m : Int)
def spFuller (K : PySem.W.Frag) : Sp := fun vs H Q _ => ∃ p m, vs = [.ref p, .int 5, .int 5] ∧ Tin H p m ∧ m ≤ 500 ∧ ∀ n gs v H', Web n gs → gs.length ≤ 5 → (∀ N, R K H' N v (webD n gs)) → Q v H'
def spRight : Sp := fun vs H Q _ => ∃ p m, vs = [.ref p] ∧ Tin H p m ∧ m ≤ 500 ∧ ∀ H', Q (.bl true) H'
structure CtS (P : Program) (w : World) (K : PySem.W.Frag) (mg : Str → Option Value) (base : Heap) (k : Nat) (n : Str) (ps : List Str) (sp : Sp) : Prop where
  ex : ∃ f fd, FnOk P w K mg base CX0 k f fd ps sp ∧ mg n = some (.ref f) ∧ PySem.W.keepIn K (.ref f) = true ∧ Binds K fd ps []
theorem ok_none {K : PySem.W.Frag} {H : Hp} (σ : L2.St) : Zb.Ok K H (fun _ => True) (fun _ => True) σ H (List.replicate σ.length .no) (List.replicate σ.length none) where
  ext := Same.refl _
  nm := fun _ _ => trivial
  nf := fun _ _ => trivial
  len := List.length_replicate
  olen := List.length_replicate
  d := fun i x h => by
    rw [List.getElem?_replicate] at h
    split at h <;> cases h
  o := fun i x h => by
    rw [List.getElem?_replicate] at h
    split at h <;> cases h
  own := fun i p h => by
    rw [List.getElem?_replicate] at h
    split at h <;> cases h
  inj := fun i j p h => by
    rw [List.getElem?_replicate] at h
    split at h <;> cases h
/-- the web as lists -/
def softD (n : Nat) (gs : G) : D := lstd (webD n gs)
theorem lstd_nat (l : List Nat) : lstds (l.map natD) = l.map natD := by
  rw [lstds_map, List.map_map]
  rfl
theorem lstd_tD (l : List Nat) : lstd (tD l) = lD l := by
  show D.lst (lstds (l.map natD)) = _
  rw [lstd_nat]
  rfl
theorem soft_is (n : Nat) (gs : G) : softD n gs = .lst [natD n, .lst (gs.map fun g => .lst [natD g.1, natD g.2])] := by
  show D.lst [natD n, D.lst (lstds (gs.map gD))] = _
  rw [lstds_map, List.map_map]
  rfl
theorem dep_soft {n : Nat} {gs : G} (hw : Web n gs) : Dep 4 (softD n gs) := by
  rw [soft_is]
  have := hw.fewG
  refine ⟨Nat.le_of_ble_eq_true rfl, fun d hd => ?_⟩
  rcases List.mem_cons.mp hd with rfl | hd
  · trivial
  · rw [List.mem_singleton.mp hd]
    refine ⟨by rw [List.length_map]; omega, fun e he => ?_⟩
    obtain ⟨g, _, rfl⟩ := List.mem_map.mp he
    refine ⟨Nat.le_of_ble_eq_true rfl, fun z hz => ?_⟩
    rcases List.mem_cons.mp hz with rfl | hz
    · trivial
    · rw [List.mem_singleton.mp hz]
      trivial
theorem tupd_soft (n : Nat) (gs : G) : tupd (softD n gs) = webD n gs := by
  rw [soft_is]
  show D.tup [natD n, D.tup (tupds (gs.map fun g => D.lst [natD g.1, natD g.2]))] = _
  rw [tupds_map, List.map_map]
  rfl
theorem dep_lD {l : List Nat} (h : l.length ≤ 1000) : Dep 4 (lD l) := ⟨by rw [List.length_map]; exact h, fun d hd => by
  obtain ⟨k, _, rfl⟩ := List.mem_map.mp hd
  trivial⟩
theorem tupd_lD (l : List Nat) : tupd (lD l) = tD l := by
  show D.tup (tupds (l.map natD)) = _
  rw [tupd_flatN]
  rfl
theorem wl_any {n : Nat} {gs : G} {lot : List Nat} (hw : Web n gs) (hl : Lot gs lot) {x y : D} (hx : x = webD n gs ∨ x = softD n gs) (hy : y = tD lot ∨ y = lD lot) : WL x y n gs lot := by
  have ll := lot_len hl
  have fewG := hw.fewG
  refine ⟨?_, ?_, hw, ?_, ?_, hl⟩
  · rcases hx with rfl | rfl
    · exact dep_webD hw
    · exact dep_soft hw
  · rcases hx with rfl | rfl
    · exact tupd_webD n gs
    · exact tupd_soft n gs
  · rcases hy with rfl | rfl
    · exact dep_tD (by omega)
    · exact dep_lD (by omega)
  · rcases hy with rfl | rfl
    · exact tupd_tD lot
    · exact tupd_lD lot
theorem dsh_nats {l : List Nat} (h : l.length ≤ 1000) : Dsh 1 (tD l) ∧ Dsh 1 (lD l) := by
  refine ⟨⟨⟨by rw [List.length_map]; exact h, fun d hd => ?_⟩, shp_tD l⟩, ⟨by rw [List.length_map]; exact h, fun d hd => ?_⟩, shp_lD l⟩
  · obtain ⟨k, _, rfl⟩ := List.mem_map.mp hd
    trivial
  · obtain ⟨k, _, rfl⟩ := List.mem_map.mp hd
    trivial
theorem dsh_err : Dsh 1 errD := by
  refine ⟨⟨by decide, fun d hd => ?_⟩, fun d hd => ?_⟩
  · rcases List.mem_cons.mp hd with rfl | hd
    · trivial
    · rw [List.mem_singleton.mp hd]
      trivial
  · rcases List.mem_cons.mp hd with rfl | hd
    · show PyData.canLay0 (.str _) = true
      decide +kernel
    · rw [List.mem_singleton.mp hd]
      trivial
theorem same_nat (a b : Nat) : sameD (natD a) (natD b) = decide (a = b) := by
  show sameD (natD a) (.int (b : Int)) = _
  rw [sameD]
  exact eqv_natD a b
theorem same_nats (l m : List Nat) : sameL (l.map natD) (m.map natD) = decide (l = m) := by
  induction l generalizing m with
  | nil =>
    cases m with
    | nil => rw [List.map_nil, sameL]; rfl
    | cons b m => simp [sameL]
  | cons a l ih =>
    cases m with
    | nil => simp [sameL]
    | cons b m =>
      rw [List.map_cons, List.map_cons, sameL, ih, same_nat, Bool.eq_iff_iff, Bool.and_eq_true, decide_eq_true_eq, decide_eq_true_eq, decide_eq_true_eq, List.cons.injEq]
theorem same_tD (l m : List Nat) : sameD (tD l) (tD m) = decide (l = m) := by
  unfold tD
  rw [sameD, sameI, same_nats]
  rfl
theorem same_bl (a b : Bool) : sameD (.bl a) (.bl b) = (a == b) := by
  simp only [sameD]
  cases a <;> cases b <;> decide +kernel
theorem same_str : sameD (.str "can not") (.str "can not") = true := by
  simp only [sameD]
  decide +kernel
theorem same_err : sameD errD errD = true := by
  unfold errD
  rw [sameD, sameI, sameL, sameL, sameL, same_str, same_bl]
  rfl
theorem dsh_bls (a b c : Bool) : Dsh 1 (.lst [.bl a, .bl b, .bl c]) := by
  have h : ∀ d ∈ [D.bl a, D.bl b, D.bl c], ∃ x, d = .bl x := fun d hd => by
    simp only [List.mem_cons, List.not_mem_nil, or_false] at hd
    rcases hd with rfl | rfl | rfl
    · exact ⟨a, rfl⟩
    · exact ⟨b, rfl⟩
    · exact ⟨c, rfl⟩
  exact ⟨⟨Nat.le_of_ble_eq_true rfl, fun d hd => by
    obtain ⟨x, rfl⟩ := h d hd
    trivial⟩, fun d hd => by
    obtain ⟨x, rfl⟩ := h d hd
    trivial⟩
theorem same_bls (a b c : Bool) : sameD (.lst [.bl a, .bl b, .bl c]) (.lst [.bl a, .bl b, .bl c]) = true := by
  rw [sameD, sameI, sameL, sameL, sameL, sameL, same_bl, same_bl, same_bl]
  simp [isLi]
theorem dsh_two {x y : D} (hx : Dsh 1 x) (hy : Dsh 1 y) : Dsh 2 (.lst [x, y]) := by
  have h : ∀ d ∈ [x, y], Dsh 1 d := fun d hd => by
    simp only [List.mem_cons, List.not_mem_nil, or_false] at hd
    rcases hd with rfl | rfl
    · exact hx
    · exact hy
  exact ⟨⟨Nat.le_of_ble_eq_true rfl, fun d hd => (h d hd).1⟩, fun d hd => (h d hd).2⟩
theorem same_two : sameD (.lst [errD, errD]) (.lst [errD, errD]) = true := by
  rw [sameD, sameI, sameL, sameL, sameL, same_err]
  rfl
theorem dsh_rows {ls : List (List Nat)} (h : ∀ l ∈ ls, l.length ≤ 1000) : ∀ e ∈ ls.map tD, Dsh 1 e := fun e he => by
  obtain ⟨l, hl, rfl⟩ := List.mem_map.mp he
  exact (dsh_nats (h l hl)).1
theorem any_same {ls : List (List Nat)} {l : List Nat} (h : l ∈ ls) : ((ls.map tD).any fun e => sameD (tD l) e) = true := List.any_eq_true.mpr ⟨tD l, List.mem_map.mpr ⟨l, h, rfl⟩, by rw [same_tD]; simp⟩
theorem barredL_len {n : Nat} {gs : G} {lot : List Nat} (hw : Web n gs) : (barredL n gs lot).length ≤ n ∧ ∀ p ∈ barredL n gs lot, p.length ≤ n := ⟨Nat.le_trans (List.length_filter_le _ _) (partsL_len hw Gq.others_lt), fun p hp => partsL_part hw Gq.others_lt p (List.mem_filter.mp hp).1⟩
theorem eqv_err : D.eqv errD errD = true := by decide +kernel
theorem metL_len {gs : G} (h5 : gs.length ≤ 5) : (metL gs).length ≤ 3125 := by
  unfold metL
  have h := metAdd_len ((walks gs.length).map (Gr.without gs)) []
  have h1 := walksN_len h5 gs.length h5
  have h2 : 5 ^ gs.length ≤ 5 ^ 5 := Nat.pow_le_pow_right (by omega) h5
  have p5 : (5 : Nat) ^ 5 = 3125 := rfl
  have h3 : (walks gs.length).length ≤ 3125 := by
    show (walksN gs.length gs.length).length ≤ 3125
    omega
  rw [List.length_map, List.length_nil] at h
  omega
theorem met_lot {gs : G} {l : List Nat} (h : l ∈ metL gs) : Lot gs l := by
  obtain ⟨row, _, rfl⟩ := mem_metL.mp h
  exact ⟨Gq.asc_sorted _ _, fun k hk => (Gq.mem_asc.mp hk).1⟩
theorem ne_rows {α : Type} (l : List α) (f : α → List Nat) (p : α → Bool) : (!D.eqv (.lst ((l.filter p).map fun x => tD (f x))) (.lst [])) = l.any p := by
  have e : (l.filter p).map (fun x => tD (f x)) = ((l.filter p).map f).map tD := by rw [List.map_map]; rfl
  rw [e, eqv_rows]
  have : ((l.filter p).map f).isEmpty = (l.filter p).isEmpty := by cases l.filter p <;> rfl
  rw [this, any_nil, Bool.not_not]
theorem shp_rows' {α : Type} (l : List α) (f : α → List Nat) : Shp 2 (.lst (l.map fun x => tD (f x))) := by
  have e : l.map (fun x => tD (f x)) = (l.map f).map tD := by rw [List.map_map]; rfl
  rw [e]
  exact shp_rows _
section
variable {P : Program} {w : World} {K : PySem.W.Frag} {mg : Str → Option Value} {base : Heap} {C : Addr}
/-- the contracts that the law rests on -/
structure Doors (P : Program) (w : World) (K : PySem.W.Frag) (mg : Str → Option Value) (base : Heap) : Prop where
  fuller : CtS P w K mg base 6 "_law_fuller" ["_law_tin", "_law_places_so", "_law_guests_so"] (spFuller K)
  met : CtM P w K mg base 3 "_law_lots_met" ["_law_net_here"] F_l_met
  lists : Ct P w K mg base 5 "_law_lists" ["_law_matter"] (F_lists 4)
  same : ∀ k, Ct P w K mg base (k + 1) "_law_same" ["_law_got", "_law_due"] (F_same k)
  never : Ct P w K mg base 7 "never_without" ["web"] F_never_without
  neverK : KwA K mg "never_without" ["web"] ["web"] kw1
  lots : Ct P w K mg base 1 "_law_lots" ["_law_many_so"] F_l_lots
  within : Ct P w K mg base 1 "_law_are_within" ["_law_heap", "_law_wide_so"] F_l_within
  heard : Ct P w K mg base 10 "_law_heard" ["_law_door", "_law_net_here", "_law_heap"] F_l_heard
  can : Ct P w K mg base 8 "can_together" ["web", "lot"] F_can_together
  canK : KwA K mg "can_together" ["web", "lot"] ["lot", "web"] kwS
  order : Ct P w K mg base 8 "is_order_with" ["web", "lot", "thing"] F_is_order_with
  orderK : KwA K mg "is_order_with" ["web", "lot", "thing"] ["thing", "web", "lot"] kwT
  why : Ct P w K mg base 8 "is_why_never" ["web", "lot", "thing"] F_is_why_never
  whyK : KwA K mg "is_why_never" ["web", "lot", "thing"] ["thing", "web", "lot"] kwT
  oneOf : Ct P w K mg base 3 "_law_one_of" ["_law_matter", "_law_rows_so"] F_l_one_of
  allOf : Ct P w K mg base 3 "_law_all_of" ["_law_net_here", "_law_heap", "_law_matter"] F_l_all_of
  barred : Ct P w K mg base 3 "_law_barred_by" ["_law_net_here", "_law_heap"] F_l_barred
  rivals : Ct P w K mg base 7 "rivals" ["web", "guest"] F_rivals
  rivalsK : KwA K mg "rivals" ["web", "guest"] ["guest", "web"] kwS
def envR (n : Nat) (gs : G) (s5 s7 s8 s9 s10 s11 s12 s13 : Sl) : Ev := [.no, .d (webD n gs), .d (.lst ((metL gs).map tD)), .d (natD gs.length), .d (softD n gs), s5, .d (lD (aloneL gs)), s7, s8, s9, s10, s11, s12, s13, .no]
theorem ct_l_right (B : Bl mg) (d : Df K mg "_law_right" s_law_right ["_law_tin"]) (c : Doors P w K mg base) : CtS P w K mg base 11 "_law_right" ["_law_tin"] spRight := by
  obtain ⟨f, fd, Fn, hb, hm⟩ := d.ex
  obtain ⟨fF, fdF, f1, f2, f3, f4⟩ := c.fuller.ex
  refine ⟨f, fd, Fn.ok sc_law_right (fun vs H Q E h => ?_) (fun cdv A outer s H vs Q E hr h => ?_), hm, Fn.kp, hb⟩
  · obtain ⟨p, m, rfl, _⟩ := h
    rfl
  · obtain ⟨p, m, rfl, ht, hm5, q⟩ := h
    refine ⟨_, pss_cons (ps_set (i := 1) sc_law_right.nd rfl (.inl rfl) (pe_call f1 (hr.mono (by decide)) rfl f2 f3 f4 .nil pass0 (pa_cons (pe_var (i := 0) rfl (.inl rfl)) (pa_cons pe_int (pa_cons pe_int pa_nil)))))
      (pss_any (ι := Nat × G × Hp) (c := fun i => Web i.1 i.2.1 ∧ i.2.1.length ≤ 5) (t := fun i => tXS K i.2.2 (fun _ => True) [.no, .d (webD i.1 i.2.1), .no, .no, .no, .no, .no, .no, .no, .no, .no, .no, .no, .no, .no] (.rt false (.bl true))) fun ⟨n, gs, H0⟩ ⟨hw, h5⟩ => ?body), ?all⟩
    case all =>
      refine ⟨.ref p, rfl, p, m, rfl, ht, hm5, fun n gs v H' hw h5 hv => ⟨(n, gs, H'), ⟨hw, h5⟩, fun _ => True, _, (ok_none _).set_d (i := 1) (hv _), fun v' H2 _ r => ?_⟩⟩
      cases (show R K H2 (fun _ => True) v' (.bl true) from r)
      exact q H2
    case body =>
      have h5 : gs.length ≤ 5 := h5
      have hw : Web n gs := hw
      have few := hw.few
      have fewG := hw.fewG
      have ml := metL_len h5
      have lm : ∀ own ∈ metL gs, own.length ≤ 7 := fun own ho => by
        have := lot_len (met_lot ho)
        omega
      have h1 : Room 1 _ := hr.mono (j := 1) (by decide)
      have h3 : Room 3 _ := hr.mono (j := 3) (by decide)
      have h5r : Room 5 _ := hr.mono (j := 5) (by decide)
      have h7 : Room 7 _ := hr.mono (j := 7) (by decide)
      have h8 : Room 8 _ := hr.mono (j := 8) (by decide)
      have al : (aloneL gs).length ≤ 7 := by
        have := List.length_filter_le (fun k => (metL gs).any fun own => decide (k ∈ own)) (List.range gs.length)
        rw [List.length_range] at this
        unfold aloneL
        omega
      -- one lot
      let wideD := fun lot : List Nat => if (barring n gs lot).isEmpty = true then tD (lotGrown n gs lot) else errD
      let walkD := fun lot : List Nat => if (barring n gs lot).isEmpty = true then tD (orderInLot n gs (lotGrown n gs lot)) else errD
      let partD := fun lot : List Nat => match barring n gs lot with | [] => errD | p :: _ => tD p
      let stL := fun (b : Sl × Sl × Sl × Sl × Sl × Sl) (lot : List Nat) => ((Sl.d (tD lot), Sl.d (.bl (barring n gs lot).isEmpty), Sl.d (wideD lot), Sl.d (walkD lot), Sl.d (partD lot), Sl.d (.lst [.bl (barring n gs lot).isEmpty, .bl (barring n gs lot).isEmpty, .bl (!(barring n gs lot).isEmpty)])) : Sl × Sl × Sl × Sl × Sl × Sl)
      let last := (lotsL gs.length).foldl stL (.no, .no, .no, .no, .no, .no)
      refine xs_cons (env1 := envR n gs .no .no .no .no .no .no .no .no |>.set 6 .no) (x_asg (ex_tup (ea_cons (ex_listM rfl B.list c.met h3 (ea_cons (ex_var 1 rfl) ea_nil) ⟨n, gs, rfl, hw, h5, rfl⟩) (ea_cons (EX.to (r' := .d (natD gs.length)) (ex_len B.len (ex_gsts (ex_var 1 rfl)) (.inr rfl)) (by rw [List.length_map]; rfl)) (ea_cons (ex_call c.lists h5r (ea_cons (ex_var 1 rfl) ea_nil) ⟨webD n gs, rfl, dep_webD hw, flat_webD n gs, rfl⟩) ea_nil))))
          (ag_tup rfl (ags_cons (ag_name 2 sc_law_right.nd) (ags_cons (ag_name 3 sc_law_right.nd) (ags_cons (ag_name 4 sc_law_right.nd) ags_nil)))))
        (xs_cons (env1 := envR n gs .no .no .no .no .no .no .no .no) (X1.to (x_set 6 sc_law_right.nd (ex_lcFc (xs := List.range gs.length) (enc := natD) natD (fun k => (metL gs).any fun own => decide (k ∈ own)) 5 rfl sc_law_right.nd (it_range B.range (ex_var 3 rfl) (by omega)) (by rw [List.length_range]; omega)
          (fun k hk _ _ _ _ _ => ET.to (et_neD (i := 2) (j := 1) (hu_of hr) (ex_lcF (xs := metL gs) (enc := tD) tD (fun own => decide (k ∈ own)) 14 rfl sc_law_right.nd (it_list (ex_var 2 rfl) rfl) (by omega) (fun own ho _ _ _ _ _ => et_inN (ex_var 5 rfl) (ex_var 14 rfl) (.inl rfl)) (fun own ho _ _ _ _ _ _ => ex_var 14 rfl)) (ex_lst ea_nil) (shp_rows' _ id) shp_nil) (ne_rows (metL gs) id _)) (fun k _ _ _ _ _ _ _ => ex_var 5 rfl))) rfl)
        (xs_cons (x_ifF (ET.to (et_not (et_val (ex_call (c.same 1) (hr.mono (by decide)) (ea_cons (ex_callK g_kw1 c.never c.neverK h7 (ek_cons (ex_var 4 rfl) ek_nil) ⟨softD n gs, n, gs, rfl, dep_soft hw, tupd_soft n gs, hw, rfl⟩)
          (ea_cons (ex_tupleOf B.tuple (ex_lcF (xs := List.range gs.length) (enc := natD) natD (fun k => !decide (k ∈ aloneL gs)) 5 rfl sc_law_right.nd (it_range B.range (ex_var 3 rfl) (by omega)) (by rw [List.length_range]; omega) (fun k hk _ _ _ _ _ => et_notInN (ex_var 5 rfl) (ex_var 6 rfl) (.inr rfl)) (fun k _ _ _ _ _ _ _ => ex_var 5 rfl)) (.inl rfl)) ea_nil)) ⟨tD (neverWithout n gs), tD ((List.range gs.length).filter fun k => !decide (k ∈ aloneL gs)), rfl, by decide, (dsh_nats ?g1).1, (dsh_nats ?g2).1, rfl⟩))) ?g3) xs_nil)
        (xs_cons (x_for rfl (it_list (ex_call c.lots h1 (ea_cons (ex_var 3 rfl) ea_nil) ⟨gs.length, rfl, h5, rfl⟩) rfl) (lp_fold (b := (.no, .no, .no, .no, .no, .no)) (xs := lotsL gs.length) (enc := tD) (fun b : Sl × Sl × Sl × Sl × Sl × Sl => envR n gs .no b.1 b.2.1 b.2.2.1 b.2.2.2.1 b.2.2.2.2.1 b.2.2.2.2.2 .no) stL
          (fun b rest => ∀ lot ∈ rest, Lot gs lot) (fun b lot rest hp => ?g4) lotsL_lot))
        (xs_cons (x_for rfl (it_range B.range (ex_var 3 rfl) (by omega)) (lp_fold (b := (.no, .no)) (xs := List.range gs.length) (enc := natD) (fun b : Sl × Sl => envR n gs b.1 last.1 last.2.1 last.2.2.1 last.2.2.2.1 last.2.2.2.2.1 last.2.2.2.2.2 b.2) (fun b k => (.d (natD k), .d (lD (matesL gs k))))
          (fun b rest => ∀ k ∈ rest, k < gs.length) (fun b k rest hp => ?g5) fun k hk => List.mem_range.mp hk))
        (xs_one (x_retD ex_bl))))))
      case g1 =>
        unfold neverWithout
        have := List.length_filter_le (fun k => isNever n gs k) (List.range gs.length)
        rw [List.length_range] at this
        omega
      case g2 =>
        have := List.length_filter_le (fun k => !decide (k ∈ aloneL gs)) (List.range gs.length)
        rw [List.length_range] at this
        omega
      case g3 =>
        rw [same_tD, never_is hw]
        simp
      case g5 =>
        have hk := hp k (List.mem_cons_self ..)
        refine ⟨_, _, ag_name 5 sc_law_right.nd, xs_cons (x_lcFc (xs := aloneL gs) (enc := natD) natD (fun j => !decide (j = k) && !((metL gs).any fun h => decide (k ∈ h) && decide (j ∈ h))) 13 14 rfl sc_law_right.nd (it_list (ex_var 6 rfl) rfl) (by omega)
            (fun j hj _ _ _ _ _ => et_w (ew_and (et_neN (ex_var 14 rfl) (ex_var 5 rfl)) fun _ => ew_and1 (ET.to (et_eqD (i := 2) (j := 1) (hu_of hr) (ex_lcF (xs := metL gs) (enc := tD) tD (fun h => decide (k ∈ h) && decide (j ∈ h)) 7 rfl sc_law_right.nd (it_list (ex_var 2 rfl) rfl) (by omega) (fun h hh _ _ _ _ _ => et_w (ew_and (et_inN (ex_var 5 rfl) (ex_var 7 rfl) (.inl rfl)) fun _ => ew_and1 (et_inN (ex_var 14 rfl) (ex_var 7 rfl) (.inl rfl)))) (fun h hh _ _ _ _ _ _ => ex_var 7 rfl)) (ex_lst ea_nil) (shp_rows' _ id) shp_nil) ?_))) (fun j _ _ _ _ _ _ _ => ex_var 14 rfl))
          (xs_one (x_ifF (ET.to (et_not (et_val (ex_call (c.same 1) (hr.mono (by decide)) (ea_cons (ex_callK g_kwS c.rivals c.rivalsK h7 (ek_cons (ex_var 5 rfl) (ek_cons (ex_var 1 rfl) ek_nil)) ⟨n, gs, k, rfl, hw, hk, rfl⟩)
            (ea_cons (ex_ifE (r := .d (tD (rivals n gs k))) (et_inN (ex_var 5 rfl) (ex_var 6 rfl) (.inr rfl)) (fun h => EX.to (ex_tupleOf B.tuple (ex_var 13 rfl) (.inl rfl)) ?_) fun h => EX.to (ex_tup ea_nil) ?_) ea_nil)) ⟨tD (rivals n gs k), tD (rivals n gs k), rfl, by decide, (dsh_nats ?_).1, (dsh_nats ?_).1, rfl⟩))) ?_) xs_nil)), fun j hj => hp j (List.mem_cons_of_mem _ hj)⟩
        · have := ne_rows (metL gs) id fun h => decide (k ∈ h) && decide (j ∈ h)
          rw [← this, Bool.not_not]
          rfl
        · rw [decide_eq_true_eq] at h
          rw [rivals_is hw hk, if_pos h]
          rfl
        · rw [decide_eq_false_iff_not] at h
          rw [rivals_is hw hk, if_neg h]
          rfl
        · rw [same_tD]
          simp
        · have : (rivals n gs k).length ≤ 7 := by
            rw [rivals_is hw hk]
            split
            · unfold matesL
              exact Nat.le_trans (List.length_filter_le _ _) al
            · exact Nat.zero_le _
          omega
        · have : (rivals n gs k).length ≤ 7 := by
            rw [rivals_is hw hk]
            split
            · unfold matesL
              exact Nat.le_trans (List.length_filter_le _ _) al
            · exact Nat.zero_le _
          omega
      case g4 =>
        have hl := hp lot (List.mem_cons_self ..)
        have ll := lot_len hl
        have hdue : ((metL gs).any fun own => lot.all fun k => decide (k ∈ own)) = (barring n gs lot).isEmpty := due_is hw hl
        have wl1 : ∀ x y, (x = webD n gs ∨ x = softD n gs) → (y = tD lot ∨ y = lD lot) → WL x y n gs lot := fun x y hx hy => wl_any hw hl hx hy
        have dw : Dsh 1 (wideD lot) ∧ Dsh 1 (walkD lot) ∧ Dsh 1 (partD lot) := ?g6
        have c0 : F_l_heard [natD 0, webD n gs, lD lot] (wideD lot) := ?g7
        have c1 : F_l_heard [natD 1, softD n gs, tD lot] (walkD lot) := ?g8
        have c2 : F_l_heard [natD 2, webD n gs, tD lot] (partD lot) := ?g9
        have o1 : F_is_order_with [webD n gs, tD lot, walkD lot] (.bl (barring n gs lot).isEmpty) := ?g10
        have o2 : F_is_why_never [webD n gs, tD lot, partD lot] (.bl (!(barring n gs lot).isEmpty)) := ?g11
        refine ⟨_, _, ag_name 7 sc_law_right.nd, xs_cons (x_set 8 sc_law_right.nd (EX.to (ex_neD (i := 2) (j := 1) (hu_of hr) (ex_lcF (xs := metL gs) (enc := tD) tD (fun own => lot.all fun k => decide (k ∈ own)) 14 rfl sc_law_right.nd (it_list (ex_var 2 rfl) rfl) (by omega) (fun own ho _ _ _ _ _ => et_val (ex_call c.within (hr.mono (by decide)) (ea_cons (ex_var 7 rfl) (ea_cons (ex_var 14 rfl) ea_nil)) ⟨lot, own, rfl, by omega, rfl⟩)) (fun own ho _ _ _ _ _ _ => ex_var 14 rfl)) (ex_lst ea_nil) (shp_rows' _ id) shp_nil) (r' := .d (.bl (barring n gs lot).isEmpty)) ?g12))
          (xs_cons (x_par3 9 10 11 rfl sc_law_right.nd (ep_d (ex_call c.heard hr (ea_cons ex_int (ea_cons (ex_var 1 rfl) (ea_cons (EX.to (r' := .d (lD lot)) (ex_call c.lists h5r (ea_cons (ex_var 7 rfl) ea_nil) ⟨tD lot, rfl, dep_tD (by omega), flat_tD _, rfl⟩) (by rw [lstd_tD])) ea_nil))) c0) (ep_d (ex_call c.heard hr (ea_cons ex_int (ea_cons (ex_var 4 rfl) (ea_cons (ex_var 7 rfl) ea_nil))) c1) (ep_d (ex_call c.heard hr (ea_cons ex_int (ea_cons (ex_var 1 rfl) (ea_cons (ex_var 7 rfl) ea_nil))) c2) ep_nil))))
          (xs_cons (x_set 12 sc_law_right.nd (ex_lst (ea_cons (ex_callK g_kwS c.can c.canK h8 (ek_cons (EX.to (r' := .d (lD lot)) (ex_call c.lists h5r (ea_cons (ex_var 7 rfl) ea_nil) ⟨tD lot, rfl, dep_tD (by omega), flat_tD _, rfl⟩) (by rw [lstd_tD])) (ek_cons (ex_var 4 rfl) ek_nil)) ⟨softD n gs, lD lot, n, gs, lot, rfl, wl1 _ _ (.inr rfl) (.inr rfl), rfl⟩)
            (ea_cons (ex_callK g_kwT c.order c.orderK h8 (ek_cons (ex_var 10 rfl) (ek_cons (ex_var 1 rfl) (ek_cons (ex_var 7 rfl) ek_nil))) o1) (ea_cons (ex_callK g_kwT c.why c.whyK h8 (ek_cons (ex_var 11 rfl) (ek_cons (ex_var 1 rfl) (ek_cons (ex_var 7 rfl) ek_nil))) o2) ea_nil)))))
          (xs_cons (x_ifF (ET.to (et_not (et_val (ex_call (c.same 1) (hr.mono (by decide)) (ea_cons (ex_var 12 rfl) (ea_cons (ex_lst (ea_cons (ex_var 8 rfl) (ea_cons (ex_var 8 rfl) (ea_cons (ex_not (ex_var 8 rfl)) ea_nil)))) ea_nil)) ⟨_, _, rfl, by decide, ?g13, ?g14, rfl⟩))) ?g15) xs_nil)
          (xs_cons (x_ifF (ET.to (et_w (ew_and (et_val (ex_var 8 rfl)) fun hx => ew_and1 (et_w (ew_or (et_not (et_val (ex_call c.oneOf h3 (ea_cons (ex_var 9 rfl) (ea_cons (ex_var 2 rfl) ea_nil)) ⟨wideD lot, (metL gs).map tD, rfl, dw.1, ?g16, ?g17, rfl⟩))) fun _ => ew_or1 (et_not (et_val (ex_call c.within h1 (ea_cons (ex_var 7 rfl) (ea_cons (ex_var 9 rfl) ea_nil)) ⟨lot, lotGrown n gs lot, ?g18, by omega, rfl⟩))))))) ?g19) xs_nil)
          (xs_cons (x_ifF (ET.to (et_w (ew_and (et_val (ex_var 8 rfl)) fun hx => ew_and1 (et_w (ew_or (et_not (et_val (ex_call c.allOf h3 (ea_cons (ex_var 1 rfl) (ea_cons (ex_var 7 rfl) (ea_cons (ex_var 10 rfl) ea_nil))) ⟨n, gs, lot, orderInLot n gs (lotGrown n gs lot), ?g20, hw, by omega, ?g21, rfl⟩))) fun _ => ew_or1 (et_neD (i := 1) (j := 1) (hu_of hr) (ex_var 11 rfl) (ex_lst (ea_cons ex_str (ea_cons ex_bl ea_nil))) dw.2.2.2 dsh_err.2))))) ?g22) xs_nil)
          (xs_one (x_ifF (ET.to (et_w (ew_and (et_not (et_val (ex_var 8 rfl))) fun hx => ew_and1 (et_w (ew_or (et_not (et_val (ex_call (c.same 2) (hr.mono (by decide)) (ea_cons (ex_lst (ea_cons (ex_var 9 rfl) (ea_cons (ex_var 10 rfl) ea_nil))) (ea_cons (ex_rep (i := 2) (ex_lst (ea_cons (ex_lst (ea_cons ex_str (ea_cons ex_bl ea_nil))) ea_nil)) ex_int rfl (by decide) (by decide) (Nat.le_of_ble_eq_true rfl)) ea_nil)) ⟨_, _, rfl, by decide, ?g23, ?g24, rfl⟩))) fun _ => ew_or1 (et_not (et_val (ex_call c.oneOf h3 (ea_cons (ex_var 11 rfl) (ea_cons (ex_call c.barred h3 (ea_cons (ex_var 1 rfl) (ea_cons (ex_var 7 rfl) ea_nil)) ⟨n, gs, lot, rfl, hw, hl, rfl⟩) ea_nil)) ⟨partD lot, (barredL n gs lot).map tD, rfl, dw.2.2, ?g25, ?g26, rfl⟩))))))) ?g27) xs_nil))))))), fun x hx => hp x (List.mem_cons_of_mem _ hx)⟩
        case g6 =>
          show Dsh 1 (if (barring n gs lot).isEmpty = true then tD (lotGrown n gs lot) else errD) ∧ Dsh 1 (if (barring n gs lot).isEmpty = true then tD (orderInLot n gs (lotGrown n gs lot)) else errD) ∧ Dsh 1 (match barring n gs lot with | [] => errD | p :: _ => tD p)
          cases hb : barring n gs lot with
          | nil =>
            obtain ⟨_, g1, _⟩ := lot_good hw hl hb
            have l1 := lot_len (Gq.lotGrown_lot (n := n) (gs := gs) (lot := lot))
            have l2 := g1.length_eq
            rw [List.length_range] at l2
            exact ⟨(dsh_nats (by omega)).1, (dsh_nats (by omega)).1, dsh_err⟩
          | cons p rest =>
            have hp' : p ∈ parts n gs (others gs.length lot) := (List.mem_filter.mp (show p ∈ barring n gs lot by rw [hb]; exact List.mem_cons_self ..)).1
            have := (parts_sub p hp').1
            exact ⟨dsh_err, dsh_err, (dsh_nats (by omega)).1⟩
        case g7 =>
          show F_l_heard _ (if (barring n gs lot).isEmpty = true then tD (lotGrown n gs lot) else errD)
          refine ⟨0, _, _, rfl, ?_⟩
          cases hb : barring n gs lot with
          | nil => exact .inl ⟨rfl, _, _, n, gs, lot, rfl, wl1 _ _ (.inl rfl) (.inr rfl), hb, rounds_all hw lot, rfl⟩
          | cons p rest => exact .inr (.inr (.inr ⟨.inl ⟨rfl, _, _, n, gs, lot, rfl, wl1 _ _ (.inl rfl) (.inr rfl), by rw [hb]; exact fun z => nomatch z⟩, rfl⟩))
        case g8 =>
          show F_l_heard _ (if (barring n gs lot).isEmpty = true then tD (orderInLot n gs (lotGrown n gs lot)) else errD)
          refine ⟨1, _, _, rfl, ?_⟩
          cases hb : barring n gs lot with
          | nil => exact .inr (.inl ⟨rfl, _, _, n, gs, lot, rfl, wl1 _ _ (.inr rfl) (.inl rfl), hb, rounds_all hw lot, (lot_good hw hl hb).1, rfl⟩)
          | cons p rest => exact .inr (.inr (.inr ⟨.inr (.inl ⟨rfl, _, _, n, gs, lot, rfl, wl1 _ _ (.inr rfl) (.inl rfl), by rw [hb]; exact fun z => nomatch z⟩), rfl⟩))
        case g9 =>
          show F_l_heard _ (match barring n gs lot with | [] => errD | p :: _ => tD p)
          refine ⟨2, _, _, rfl, ?_⟩
          cases hb : barring n gs lot with
          | nil => exact .inr (.inr (.inr ⟨.inr (.inr ⟨rfl, _, _, n, gs, lot, rfl, wl1 _ _ (.inl rfl) (.inl rfl), hb⟩), rfl⟩))
          | cons p rest => exact .inr (.inr (.inl ⟨rfl, _, _, n, gs, lot, p, rest, rfl, wl1 _ _ (.inl rfl) (.inl rfl), hb, rfl⟩))
        case g10 =>
          show F_is_order_with [webD n gs, tD lot, if (barring n gs lot).isEmpty = true then tD (orderInLot n gs (lotGrown n gs lot)) else errD] _
          refine ⟨_, _, _, n, gs, lot, rfl, wl1 _ _ (.inl rfl) (.inl rfl), ?_⟩
          cases hb : barring n gs lot with
          | nil =>
            obtain ⟨_, g1, g2, _, g3⟩ := lot_good hw hl hb
            refine .inr ⟨_, rfl, g1, ?_⟩
            rw [g2]
            have : (lot.all fun k => decide (k ∈ lotGrown n gs lot)) = true := List.all_eq_true.mpr fun k hk => decide_eq_true (g3 k hk)
            rw [this]
            rfl
          | cons p rest => exact .inl ⟨rfl, rfl⟩
        case g11 =>
          show F_is_why_never [webD n gs, tD lot, match barring n gs lot with | [] => errD | p :: _ => tD p] _
          refine ⟨_, _, _, n, gs, lot, rfl, wl1 _ _ (.inl rfl) (.inl rfl), ?_⟩
          cases hb : barring n gs lot with
          | nil => exact .inl ⟨rfl, rfl⟩
          | cons p rest =>
            have hp' : p ∈ parts n gs (others gs.length lot) := (List.mem_filter.mp (show p ∈ barring n gs lot by rw [hb]; exact List.mem_cons_self ..)).1
            have := (parts_sub p hp').1
            refine .inr ⟨p.map natD, rfl, fun e he => ?_, by rw [List.length_map]; omega, ?_⟩
            · obtain ⟨z, _, rfl⟩ := List.mem_map.mp he
              trivial
            · have e1 : (p.map natD).all (geD 0) = true := by
                rw [List.all_eq_true]
                intro e he
                obtain ⟨z, _, rfl⟩ := List.mem_map.mp he
                exact decide_eq_true (by omega : (0 : Int) ≤ (z : Int))
              have e2 : D.eqv (tD p) (.tup (p.map natD)) = true := (eqv_tD p p).trans (by simp)
              rw [List.any_cons, e1, e2]
              rfl
        case g12 =>
          refine congrArg (fun z => Res.d (.bl z)) ((ne_rows (metL gs) id _).trans hdue)
        case g13 => exact dsh_bls _ _ _
        case g14 => exact dsh_bls _ _ _
        case g15 => exact congrArg (fun z => !z) (same_bls _ _ _)
        case g16 => exact dsh_rows fun l hl' => by have := lm l hl'; omega
        case g17 =>
          rw [List.length_map]
          omega
        case g18 =>
          show [tD lot, if (barring n gs lot).isEmpty = true then tD (lotGrown n gs lot) else errD] = _
          rw [if_pos hx]
        case g19 =>
          show ((barring n gs lot).isEmpty && (!((metL gs).map tD).any (fun e => sameD (if (barring n gs lot).isEmpty = true then tD (lotGrown n gs lot) else errD) e) || !lot.all fun k => decide (k ∈ lotGrown n gs lot))) = false
          cases hb : barring n gs lot with
          | nil =>
            obtain ⟨_, g1, g2, g4, g3⟩ := lot_good hw hl hb
            have : (lot.all fun k => decide (k ∈ lotGrown n gs lot)) = true := List.all_eq_true.mpr fun k hk => decide_eq_true (g3 k hk)
            rw [this]
            show (true && ((!((metL gs).map tD).any fun e => sameD (tD (lotGrown n gs lot)) e) || !true)) = false
            rw [any_same g4]
            rfl
          | cons p rest => rfl
        case g20 =>
          show [webD n gs, tD lot, if (barring n gs lot).isEmpty = true then tD (orderInLot n gs (lotGrown n gs lot)) else errD] = _
          rw [if_pos hx]
        case g21 => exact (lot_good hw hl (List.isEmpty_iff.mp hx)).2.1
        case g22 =>
          show ((barring n gs lot).isEmpty && (!(lot.all fun k => decide (k ∈ Gr.without gs (orderInLot n gs (lotGrown n gs lot)))) || !D.eqv (match barring n gs lot with | [] => errD | p :: _ => tD p) errD)) = false
          cases hb : barring n gs lot with
          | nil =>
            obtain ⟨_, g1, g2, g4, g3⟩ := lot_good hw hl hb
            rw [g2]
            have : (lot.all fun k => decide (k ∈ lotGrown n gs lot)) = true := List.all_eq_true.mpr fun k hk => decide_eq_true (g3 k hk)
            rw [this]
            show (true && (false || !D.eqv errD errD)) = false
            rw [eqv_err]
            rfl
          | cons p rest => rfl
        case g23 => exact dsh_two dw.1 dw.2.1
        case g24 => exact dsh_two dsh_err dsh_err
        case g25 => exact dsh_rows fun l hl' => by have := (barredL_len hw).2 l hl'; omega
        case g26 =>
          rw [List.length_map]
          have := (barredL_len (lot := lot) hw).1
          omega
        case g27 =>
          show ((!(barring n gs lot).isEmpty) && (!sameD (.lst [if (barring n gs lot).isEmpty = true then tD (lotGrown n gs lot) else errD, if (barring n gs lot).isEmpty = true then tD (orderInLot n gs (lotGrown n gs lot)) else errD]) (.lst [errD, errD]) || !((barredL n gs lot).map tD).any fun e => sameD (match barring n gs lot with | [] => errD | p :: _ => tD p) e)) = false
          cases hb : barring n gs lot with
          | nil => rfl
          | cons p rest =>
            have hp' : p ∈ barredL n gs lot := barred_mem hw hl (by rw [hb]; exact List.mem_cons_self ..)
            show (true && (!sameD (.lst [errD, errD]) (.lst [errD, errD]) || !((barredL n gs lot).map tD).any fun e => sameD (tD p) e)) = false
            rw [same_two, any_same hp']
            rfl
end
end Zf
/-! The law's defs, 9: the webs by hand (printed by gen_hand.py). -/
namespace Zf
open PySem PySem.Spec PyProof.Rows L2 Zb Zt Gr
def streetG : G := [(1, 0), (1, 2), (2, 3)]
def benchG : G := [(1, 0), (1, 2), (1, 0)]
def crowdG : G := [(0, 1), (1, 0), (1, 2), (2, 1)]
def tripleG : G := [(0, 1), (0, 1), (1, 0), (1, 0)]
theorem web_street : Web 4 streetG := ⟨by decide, by decide, by decide, by decide⟩
theorem web_bench : Web 3 benchG := ⟨by decide, by decide, by decide, by decide⟩
theorem web_crowd : Web 3 crowdG := ⟨by decide, by decide, by decide, by decide⟩
theorem web_triple : Web 2 tripleG := ⟨by decide, by decide, by decide, by decide⟩
theorem web_none : Web 2 [] := ⟨by decide, by decide, by decide, by decide⟩
theorem head_of {α : Type} {l : List α} {a : α} (h : l.head? = some a) : l = a :: l.tail := by
  cases l with
  | nil => cases h
  | cons b t => cases h; rfl
def lotB (gs : G) (l : List Nat) : Bool := decide (l.Pairwise (· < ·)) && decide (∀ k ∈ l, k < gs.length)
theorem lots_by {gs : G} {ls : List (List Nat)} (h : ls.all (lotB gs) = true) : ∀ l ∈ ls, Lot gs l := fun l hl => by
  have := List.all_eq_true.mp h l hl
  unfold lotB at this
  rw [Bool.and_eq_true, decide_eq_true_eq, decide_eq_true_eq] at this
  exact ⟨this.1, this.2⟩
theorem nats_shp (l : List Nat) : ∀ e ∈ l.map natD, Shp 0 e := fun e he => by
  obtain ⟨z, _, rfl⟩ := List.mem_map.mp he
  trivial
def dshB : Nat → D → Bool
  | _, .non => true
  | _, .bl _ => true
  | _, .int _ => true
  | _, .str s => PyData.canLay0 (.str s)
  | 0, .tup _ => false
  | 0, .lst _ => false
  | k + 1, .tup ds => decide (ds.length ≤ 1000) && ds.all (dshB k)
  | k + 1, .lst ds => decide (ds.length ≤ 1000) && ds.all (dshB k)
  | _, .dic _ _ => false
theorem dsh_of : ∀ {k : Nat} {d : D}, dshB k d = true → Dsh k d
  | 0, .non, _ => ⟨trivial, trivial⟩
  | 0, .bl _, _ => ⟨trivial, trivial⟩
  | 0, .int _, _ => ⟨trivial, trivial⟩
  | 0, .str s, h => ⟨trivial, h⟩
  | k + 1, .non, _ => ⟨trivial, trivial⟩
  | k + 1, .bl _, _ => ⟨trivial, trivial⟩
  | k + 1, .int _, _ => ⟨trivial, trivial⟩
  | k + 1, .str s, h => ⟨trivial, h⟩
  | 0, .tup ds, h => by cases h
  | 0, .lst ds, h => by cases h
  | 0, .dic _ _, h => by cases h
  | k + 1, .dic _ _, h => by cases h
  | k + 1, .tup ds, h => by
    unfold dshB at h
    rw [Bool.and_eq_true, decide_eq_true_eq, List.all_eq_true] at h
    exact ⟨⟨h.1, fun d hd => (dsh_of (h.2 d hd)).1⟩, fun d hd => (dsh_of (h.2 d hd)).2⟩
  | k + 1, .lst ds, h => by
    unfold dshB at h
    rw [Bool.and_eq_true, decide_eq_true_eq, List.all_eq_true] at h
    exact ⟨⟨h.1, fun d hd => (dsh_of (h.2 d hd)).1⟩, fun d hd => (dsh_of (h.2 d hd)).2⟩
/-- a part told, whatever it is -/
def whyB (n : Nat) (gs : G) (lot : List Nat) : D → Bool
  | .tup es => es.all (geD 0) && (barring n gs lot).any fun z => D.eqv (tD z) (.tup es)
  | _ => false
section
variable {P : Program} {w : World} {K : PySem.W.Frag} {mg : Str → Option Value} {base : Heap}
def F_l_hand (ds : List D) (d : D) : Prop := ds = [] ∧ d = .bl true

def handA : List D := [.lst [.bl true, .bl true, .bl false], .lst [.bl true, .bl true, .bl false], .bl true]
def handB : List D := [tD [0, 2], tD [1], tD [], tD [2], tD [], tD [1, 2, 3], tD []]
def handC : List D := [tD [0], tD [0, 1], tD [0], tD [0], errD, errD]
def handE : List D := [.bl true, .bl false, .bl true, .bl false]
def handW : List D := [.bl true, .bl true, .bl true, .bl false, .bl false, .bl false]
def handX : List D := [.bl false, .bl true]
def whyX : List D := [.tup [.int 3], .tup [.int 0], .tup [.int 1, .int 2], .lst [.int 3], .tup [.bl true], .non]
theorem whyX_ok : ∀ t ∈ whyX, (isTu t = false ∧ whyB 4 streetG [0, 2] t = false) ∨ ∃ es : List D, t = .tup es ∧ (∀ e ∈ es, Shp 0 e) ∧ es.length ≤ 1000 := by
  intro t ht
  simp only [whyX, List.mem_cons, List.not_mem_nil, or_false] at ht
  rcases ht with rfl | rfl | rfl | rfl | rfl | rfl
  · exact .inr ⟨_, rfl, nats_shp [3], Nat.le_of_ble_eq_true rfl⟩
  · exact .inr ⟨_, rfl, nats_shp [0], Nat.le_of_ble_eq_true rfl⟩
  · exact .inr ⟨_, rfl, nats_shp [1, 2], Nat.le_of_ble_eq_true rfl⟩
  · exact .inl ⟨rfl, rfl⟩
  · exact .inr ⟨_, rfl, fun e he => by rw [List.mem_singleton.mp he]; trivial, Nat.le_of_ble_eq_true rfl⟩
  · exact .inl ⟨rfl, rfl⟩
theorem why_at {t : D} (ht : t ∈ whyX) : F_is_why_never [webD 4 streetG, tD [0, 2], t] (.bl (whyB 4 streetG [0, 2] t)) := by
  refine ⟨_, _, t, 4, streetG, [0, 2], rfl, wl_any web_street ⟨by decide, by decide⟩ (.inl rfl) (.inl rfl), ?_⟩
  rcases whyX_ok t ht with ⟨h1, h2⟩ | ⟨es, rfl, h1, h2⟩
  · exact .inl ⟨h1, by rw [h2]⟩
  · exact .inr ⟨es, rfl, h1, h2, rfl⟩
theorem whyX_is : whyX.map (fun t => D.bl (whyB 4 streetG [0, 2] t)) = handW := by
  show [D.bl (whyB 4 streetG [0, 2] (tD [3])), D.bl (whyB 4 streetG [0, 2] (tD [0])), D.bl (whyB 4 streetG [0, 2] (tD [1, 2])), D.bl false, D.bl (whyB 4 streetG [0, 2] (.tup [.bl true])), D.bl false] = _
  have e : [whyB 4 streetG [0, 2] (tD [3]), whyB 4 streetG [0, 2] (tD [0]), whyB 4 streetG [0, 2] (tD [1, 2]), whyB 4 streetG [0, 2] (.tup [.bl true])] = [true, true, true, false] := by decide +kernel
  injection e with e1 e
  injection e with e2 e
  injection e with e3 e
  injection e with e4 e
  rw [e1, e2, e3, e4]
  rfl
theorem street_is : [[], [1], [0, 1]].map (fun l => D.bl (barring 4 streetG l).isEmpty) = [.bl true, .bl true, .bl false] := by
  have e : [[], [1], [0, 1]].map (fun l => (barring 4 streetG l).isEmpty) = [true, true, false] := by decide +kernel
  have := congrArg (List.map D.bl) e
  rw [List.map_map] at this
  exact this
theorem bench_is : [[0], [2], [0, 2]].map (fun l => D.bl (barring 3 benchG l).isEmpty) = [.bl true, .bl true, .bl false] := by
  have e : [[0], [2], [0, 2]].map (fun l => (barring 3 benchG l).isEmpty) = [true, true, false] := by decide +kernel
  have := congrArg (List.map D.bl) e
  rw [List.map_map] at this
  exact this
theorem hand_same : sameD (.lst (handA ++ handB ++ handC ++ handE ++ (handW ++ handX))) (.lst (handA ++ handB ++ handC ++ handE ++ ([.bl true, .bl true, .bl true] ++ [.bl false, .bl false, .bl false, .bl false] ++ [.bl true]))) = true := by
  show sameD (.lst [.lst [.bl true, .bl true, .bl false], .lst [.bl true, .bl true, .bl false], .bl true, tD [0, 2], tD [1], tD [], tD [2], tD [], tD [1, 2, 3], tD [], tD [0], tD [0, 1], tD [0], tD [0], errD, errD, .bl true, .bl false, .bl true, .bl false, .bl true, .bl true, .bl true, .bl false, .bl false, .bl false, .bl false, .bl true]) (.lst [.lst [.bl true, .bl true, .bl false], .lst [.bl true, .bl true, .bl false], .bl true, tD [0, 2], tD [1], tD [], tD [2], tD [], tD [1, 2, 3], tD [], tD [0], tD [0, 1], tD [0], tD [0], errD, errD, .bl true, .bl false, .bl true, .bl false, .bl true, .bl true, .bl true, .bl false, .bl false, .bl false, .bl false, .bl true]) = true
  rw [sameD, sameI]
  simp only [sameL, same_tD, same_bl, same_err, same_bls, isLi]
  decide

theorem ct_l_hand (B : Bl mg) (d : Df K mg "_law_by_hand_right" s_law_by_hand_right []) (c : Doors P w K mg base) : Ct P w K mg base 11 "_law_by_hand_right" [] F_l_hand := by
  obtain ⟨f, fd, Fn, hb, hm⟩ := d.ex
  refine ct_any Fn sc_law_by_hand_right hb hm (fun ds d h => ?_) (by decide) (fun cdv A outer s H E hr ds d h => ?_)
  · obtain ⟨rfl, _⟩ := h
    rfl
  · obtain ⟨rfl, rfl⟩ := h
    have h7 : Room 7 _ := hr.mono (j := 7) (by decide)
    have h8 : Room 8 _ := hr.mono (j := 8) (by decide)
    let ev := fun (g u : List D) => ([.d (webD 4 streetG), .d (webD 3 benchG), .d (webD 3 crowdG), .d (webD 2 tripleG), .d (.lst g), .d (.lst u), .no] : Ev)
    refine .inl ⟨rfl, false, xs_cons (x_asg (ex_tup (ea_cons (ex_tup (ea_cons ex_int (ea_cons (ex_tup (ea_cons (ex_tup (ea_cons ex_int (ea_cons ex_int ea_nil))) (ea_cons (ex_tup (ea_cons ex_int (ea_cons ex_int ea_nil))) (ea_cons (ex_tup (ea_cons ex_int (ea_cons ex_int ea_nil))) ea_nil)))) ea_nil))) (ea_cons (ex_tup (ea_cons ex_int (ea_cons (ex_tup (ea_cons (ex_tup (ea_cons ex_int (ea_cons ex_int ea_nil))) (ea_cons (ex_tup (ea_cons ex_int (ea_cons ex_int ea_nil))) (ea_cons (ex_tup (ea_cons ex_int (ea_cons ex_int ea_nil))) ea_nil)))) ea_nil))) (ea_cons (ex_tup (ea_cons ex_int (ea_cons (ex_tup (ea_cons (ex_tup (ea_cons ex_int (ea_cons ex_int ea_nil))) (ea_cons (ex_tup (ea_cons ex_int (ea_cons ex_int ea_nil))) (ea_cons (ex_tup (ea_cons ex_int (ea_cons ex_int ea_nil))) (ea_cons (ex_tup (ea_cons ex_int (ea_cons ex_int ea_nil))) ea_nil))))) ea_nil))) ea_nil)))) (ag_tup rfl (ags_cons (ag_name 0 sc_law_by_hand_right.nd) (ags_cons (ag_name 1 sc_law_by_hand_right.nd) (ags_cons (ag_name 2 sc_law_by_hand_right.nd) ags_nil)))))
      (xs_cons (x_set 3 sc_law_by_hand_right.nd (ex_tup (ea_cons ex_int (ea_cons (ex_tup (ea_cons (ex_tup (ea_cons ex_int (ea_cons ex_int ea_nil))) (ea_cons (ex_tup (ea_cons ex_int (ea_cons ex_int ea_nil))) (ea_cons (ex_tup (ea_cons ex_int (ea_cons ex_int ea_nil))) (ea_cons (ex_tup (ea_cons ex_int (ea_cons ex_int ea_nil))) ea_nil))))) ea_nil)))) ?g1)⟩
    refine xs_cons (env1 := [.d (webD 4 streetG), .d (webD 3 benchG), .d (webD 3 crowdG), .d (webD 2 tripleG), .d (.lst handA), .no, .no]) (X1.to (x_set 4 sc_law_by_hand_right.nd (ex_lst (ea_cons (EX.to (ex_lcA (xs := [[], [1], [0, 1]]) (enc := tD) (fun l => .bl (barring 4 streetG l).isEmpty) 6 rfl sc_law_by_hand_right.nd (IT.to (it_tup (ex_tup (ea_cons (ex_tup ea_nil) (ea_cons (ex_tup (ea_cons ex_int ea_nil)) (ea_cons (ex_tup (ea_cons ex_int (ea_cons ex_int ea_nil))) ea_nil)))) rfl) rfl) (Nat.le_of_ble_eq_true rfl) (fun l hl _ _ _ _ _ => ex_call c.can h8 (ea_cons (ex_var 0 rfl) (ea_cons (ex_var 6 rfl) ea_nil)) ⟨webD 4 streetG, tD l, 4, streetG, l, rfl, wl_any web_street (lots_by (gs := streetG) (ls := [[], [1], [0, 1]]) (by decide) l hl) (.inl rfl) (.inl rfl), rfl⟩)) (r' := .new (.lst [.bl true, .bl true, .bl false])) (congrArg (fun z => Res.new (.lst z)) street_is)) (ea_cons (EX.to (ex_lcA (xs := [[0], [2], [0, 2]]) (enc := tD) (fun l => .bl (barring 3 benchG l).isEmpty) 6 rfl sc_law_by_hand_right.nd (IT.to (it_tup (ex_tup (ea_cons (ex_tup (ea_cons ex_int ea_nil)) (ea_cons (ex_tup (ea_cons ex_int ea_nil)) (ea_cons (ex_tup (ea_cons ex_int (ea_cons ex_int ea_nil))) ea_nil)))) rfl) rfl) (Nat.le_of_ble_eq_true rfl) (fun l hl _ _ _ _ _ => ex_call c.can h8 (ea_cons (ex_var 1 rfl) (ea_cons (ex_var 6 rfl) ea_nil)) ⟨webD 3 benchG, tD l, 3, benchG, l, rfl, wl_any web_bench (lots_by (gs := benchG) (ls := [[0], [2], [0, 2]]) (by decide) l hl) (.inl rfl) (.inl rfl), rfl⟩)) (r' := .new (.lst [.bl true, .bl true, .bl false])) (congrArg (fun z => Res.new (.lst z)) bench_is)) (ea_cons (EX.to (ex_call c.can h8 (ea_cons (ex_var 2 rfl) (ea_cons (ex_tup ea_nil) ea_nil)) ⟨webD 3 crowdG, tD [], 3, crowdG, [], rfl, wl_any web_crowd ⟨by decide, by decide⟩ (.inl rfl) (.inl rfl), rfl⟩) (r' := .d (.bl true)) (congrArg (fun z => Res.d (.bl z)) (by decide +kernel))) ea_nil))))) rfl) ?g2
    refine xs_cons (env1 := ev handA handA) (X1.to (x_set 5 sc_law_by_hand_right.nd (ex_lst (ea_cons (ex_lst (ea_cons ex_bl (ea_cons ex_bl (ea_cons ex_bl ea_nil)))) (ea_cons (ex_lst (ea_cons ex_bl (ea_cons ex_bl (ea_cons ex_bl ea_nil)))) (ea_cons ex_bl ea_nil))))) rfl) ?g3
    refine xs_cons (env1 := ev (handA ++ handB) handA) (X1.to (x_set 4 sc_law_by_hand_right.nd (ex_cat (ex_var 4 rfl) (ex_lst (ea_cons (EX.to (ex_call c.never h7 (ea_cons (ex_var 0 rfl) ea_nil) ⟨webD 4 streetG, 4, streetG, rfl, dep_webD web_street, tupd_webD _ _, web_street, rfl⟩) (r' := .d (tD [0, 2])) (congrArg (fun z => Res.d (tD z)) (by decide +kernel))) (ea_cons (EX.to (ex_call c.never h7 (ea_cons (ex_var 1 rfl) ea_nil) ⟨webD 3 benchG, 3, benchG, rfl, dep_webD web_bench, tupd_webD _ _, web_bench, rfl⟩) (r' := .d (tD [1])) (congrArg (fun z => Res.d (tD z)) (by decide +kernel))) (ea_cons (EX.to (ex_call c.never h7 (ea_cons (ex_var 2 rfl) ea_nil) ⟨webD 3 crowdG, 3, crowdG, rfl, dep_webD web_crowd, tupd_webD _ _, web_crowd, rfl⟩) (r' := .d (tD [])) (congrArg (fun z => Res.d (tD z)) (by decide +kernel))) (ea_cons (EX.to (ex_call c.rivals h7 (ea_cons (ex_var 1 rfl) (ea_cons ex_int ea_nil)) ⟨3, benchG, 0, rfl, web_bench, by decide, rfl⟩) (r' := .d (tD [2])) (congrArg (fun z => Res.d (tD z)) (by decide +kernel))) (ea_cons (EX.to (ex_call c.rivals h7 (ea_cons (ex_var 1 rfl) (ea_cons ex_int ea_nil)) ⟨3, benchG, 1, rfl, web_bench, by decide, rfl⟩) (r' := .d (tD [])) (congrArg (fun z => Res.d (tD z)) (by decide +kernel))) (ea_cons (EX.to (ex_call c.rivals h7 (ea_cons (ex_var 2 rfl) (ea_cons ex_int ea_nil)) ⟨3, crowdG, 0, rfl, web_crowd, by decide, rfl⟩) (r' := .d (tD [1, 2, 3])) (congrArg (fun z => Res.d (tD z)) (by decide +kernel))) (ea_cons (EX.to (ex_call c.never h7 (ea_cons (ex_tup (ea_cons ex_int (ea_cons (ex_tup ea_nil) ea_nil))) ea_nil) ⟨webD 2 [], 2, [], rfl, dep_webD web_none, tupd_webD _ _, web_none, rfl⟩) (r' := .d (tD [])) (congrArg (fun z => Res.d (tD z)) (by decide +kernel))) ea_nil)))))))) rfl rfl (Nat.le_of_ble_eq_true rfl))) rfl) ?g4
    refine xs_cons (env1 := ev (handA ++ handB) (handA ++ handB)) (X1.to (x_set 5 sc_law_by_hand_right.nd (ex_cat (ex_var 5 rfl) (ex_lst (ea_cons (ex_tup (ea_cons ex_int (ea_cons ex_int ea_nil))) (ea_cons (ex_tup (ea_cons ex_int ea_nil)) (ea_cons (ex_tup ea_nil) (ea_cons (ex_tup (ea_cons ex_int ea_nil)) (ea_cons (ex_tup ea_nil) (ea_cons (ex_tup (ea_cons ex_int (ea_cons ex_int (ea_cons ex_int ea_nil)))) (ea_cons (ex_tup ea_nil) ea_nil)))))))) rfl rfl (Nat.le_of_ble_eq_true rfl))) rfl) ?g5
    refine xs_cons (env1 := ev (handA ++ handB ++ handC) (handA ++ handB)) (X1.to (x_set 4 sc_law_by_hand_right.nd (ex_cat (ex_var 4 rfl) (ex_lst (ea_cons (ex_call (d := tD [0]) c.heard hr (ea_cons ex_int (ea_cons (ex_var 1 rfl) (ea_cons (ex_tup (ea_cons ex_int ea_nil)) ea_nil))) ⟨0, webD 3 benchG, tD [0], rfl, .inl ⟨rfl, _, _, 3, benchG, [0], rfl, wl_any web_bench ⟨by decide, by decide⟩ (.inl rfl) (.inl rfl), by decide +kernel, rounds_all web_bench _, congrArg tD (by decide +kernel)⟩⟩) (ea_cons (ex_call (d := tD [0, 1]) c.heard hr (ea_cons ex_int (ea_cons (ex_var 3 rfl) (ea_cons (ex_tup (ea_cons ex_int (ea_cons ex_int ea_nil))) ea_nil))) ⟨0, webD 2 tripleG, tD [0, 1], rfl, .inl ⟨rfl, _, _, 2, tripleG, [0, 1], rfl, wl_any web_triple ⟨by decide, by decide⟩ (.inl rfl) (.inl rfl), by decide +kernel, rounds_all web_triple _, congrArg tD (by decide +kernel)⟩⟩) (ea_cons (ex_call (d := tD [0]) c.heard hr (ea_cons ex_int (ea_cons (ex_var 0 rfl) (ea_cons (ex_tup (ea_cons ex_int ea_nil)) ea_nil))) ⟨2, webD 4 streetG, tD [0], rfl, .inr (.inr (.inl ⟨rfl, _, _, 4, streetG, [0], [0], _, rfl, wl_any web_street ⟨by decide, by decide⟩ (.inl rfl) (.inl rfl), head_of (by decide +kernel), rfl⟩))⟩) (ea_cons (ex_call (d := tD [0]) c.heard hr (ea_cons ex_int (ea_cons (ex_var 1 rfl) (ea_cons (ex_tup (ea_cons ex_int (ea_cons ex_int ea_nil))) ea_nil))) ⟨2, webD 3 benchG, tD [0, 2], rfl, .inr (.inr (.inl ⟨rfl, _, _, 3, benchG, [0, 2], [0], _, rfl, wl_any web_bench ⟨by decide, by decide⟩ (.inl rfl) (.inl rfl), head_of (by decide +kernel), rfl⟩))⟩) (ea_cons (ex_call (d := errD) c.heard hr (ea_cons ex_int (ea_cons (ex_var 0 rfl) (ea_cons (ex_tup (ea_cons ex_int (ea_cons ex_int ea_nil))) ea_nil))) ⟨1, webD 4 streetG, tD [0, 1], rfl, .inr (.inr (.inr ⟨.inr (.inl ⟨rfl, _, _, 4, streetG, [0, 1], rfl, wl_any web_street ⟨by decide, by decide⟩ (.inl rfl) (.inl rfl), by decide +kernel⟩), rfl⟩))⟩) (ea_cons (ex_call (d := errD) c.heard hr (ea_cons ex_int (ea_cons (ex_var 1 rfl) (ea_cons (ex_tup (ea_cons ex_int ea_nil)) ea_nil))) ⟨2, webD 3 benchG, tD [2], rfl, .inr (.inr (.inr ⟨.inr (.inr ⟨rfl, _, _, 3, benchG, [2], rfl, wl_any web_bench ⟨by decide, by decide⟩ (.inl rfl) (.inl rfl), by decide +kernel⟩), rfl⟩))⟩) ea_nil))))))) rfl rfl (Nat.le_of_ble_eq_true rfl))) rfl) ?g6
    refine xs_cons (env1 := ev (handA ++ handB ++ handC) (handA ++ handB ++ handC)) (X1.to (x_set 5 sc_law_by_hand_right.nd (ex_cat (ex_var 5 rfl) (ex_lst (ea_cons (ex_tup (ea_cons ex_int ea_nil)) (ea_cons (ex_tup (ea_cons ex_int (ea_cons ex_int ea_nil))) (ea_cons (ex_tup (ea_cons ex_int ea_nil)) (ea_cons (ex_tup (ea_cons ex_int ea_nil)) (ea_cons (ex_lst (ea_cons ex_str (ea_cons ex_bl ea_nil))) (ea_cons (ex_lst (ea_cons ex_str (ea_cons ex_bl ea_nil))) ea_nil))))))) rfl rfl (Nat.le_of_ble_eq_true rfl))) rfl) ?g7
    refine xs_cons (env1 := ev (handA ++ handB ++ handC ++ handE) (handA ++ handB ++ handC)) (X1.to (x_set 4 sc_law_by_hand_right.nd (ex_cat (ex_var 4 rfl) (ex_lst (ea_cons (ex_call (d := .bl true) c.order h8 (ea_cons (ex_var 2 rfl) (ea_cons (ex_tup ea_nil) (ea_cons (ex_tup (ea_cons ex_int (ea_cons ex_int (ea_cons ex_int (ea_cons ex_int ea_nil))))) ea_nil))) ⟨_, _, tD [3, 2, 1, 0], 3, crowdG, [], rfl, wl_any web_crowd ⟨by decide, by decide⟩ (.inl rfl) (.inl rfl), .inr ⟨[3, 2, 1, 0], rfl, by unfold IsOrder; decide +kernel, congrArg D.bl (by decide +kernel)⟩⟩) (ea_cons (ex_call (d := .bl false) c.order h8 (ea_cons (ex_var 0 rfl) (ea_cons (ex_tup (ea_cons ex_int ea_nil)) (ea_cons (ex_tup (ea_cons ex_int (ea_cons ex_int (ea_cons ex_int ea_nil)))) ea_nil))) ⟨_, _, tD [0, 1, 2], 4, streetG, [0], rfl, wl_any web_street ⟨by decide, by decide⟩ (.inl rfl) (.inl rfl), .inr ⟨[0, 1, 2], rfl, by unfold IsOrder; decide +kernel, congrArg D.bl (by decide +kernel)⟩⟩) (ea_cons (ex_call (d := .bl true) c.order h8 (ea_cons (ex_var 3 rfl) (ea_cons (ex_tup (ea_cons ex_int ea_nil)) (ea_cons (ex_tup (ea_cons ex_int (ea_cons ex_int (ea_cons ex_int (ea_cons ex_int ea_nil))))) ea_nil))) ⟨_, _, tD [0, 1, 2, 3], 2, tripleG, [2], rfl, wl_any web_triple ⟨by decide, by decide⟩ (.inl rfl) (.inl rfl), .inr ⟨[0, 1, 2, 3], rfl, by unfold IsOrder; decide +kernel, congrArg D.bl (by decide +kernel)⟩⟩) (ea_cons (ex_call (d := .bl false) c.order h8 (ea_cons (ex_var 3 rfl) (ea_cons (ex_tup (ea_cons ex_int ea_nil)) (ea_cons (ex_lst (ea_cons ex_int (ea_cons ex_int (ea_cons ex_int (ea_cons ex_int ea_nil))))) ea_nil))) ⟨_, _, _, 2, tripleG, [2], rfl, wl_any web_triple ⟨by decide, by decide⟩ (.inl rfl) (.inl rfl), .inl ⟨rfl, rfl⟩⟩) ea_nil))))) rfl rfl (Nat.le_of_ble_eq_true rfl))) rfl) ?g8
    refine xs_cons (env1 := ev (handA ++ handB ++ handC ++ handE) (handA ++ handB ++ handC ++ handE)) (X1.to (x_set 5 sc_law_by_hand_right.nd (ex_cat (ex_var 5 rfl) (ex_lst (ea_cons ex_bl (ea_cons ex_bl (ea_cons ex_bl (ea_cons ex_bl ea_nil))))) rfl rfl (Nat.le_of_ble_eq_true rfl))) rfl) ?g9
    refine xs_cons (env1 := ev (handA ++ handB ++ handC ++ handE ++ handW ++ handX) (handA ++ handB ++ handC ++ handE)) (X1.to (x_set 4 sc_law_by_hand_right.nd (ex_cat (ex_cat (ex_var 4 rfl) (EX.to (ex_lcA (xs := whyX) (enc := id) (fun t => .bl (whyB 4 streetG [0, 2] t)) 6 rfl sc_law_by_hand_right.nd (IT.to (it_tup (ex_tup (ea_cons (ex_tup (ea_cons ex_int ea_nil)) (ea_cons (ex_tup (ea_cons ex_int ea_nil)) (ea_cons (ex_tup (ea_cons ex_int (ea_cons ex_int ea_nil))) (ea_cons (ex_lst (ea_cons ex_int ea_nil)) (ea_cons (ex_tup (ea_cons ex_bl ea_nil)) (ea_cons ex_non ea_nil))))))) rfl) rfl) (Nat.le_of_ble_eq_true rfl) (fun t ht _ _ _ _ _ => ex_call c.why h8 (ea_cons (ex_var 0 rfl) (ea_cons (ex_tup (ea_cons ex_int (ea_cons ex_int ea_nil))) (ea_cons (ex_var 6 rfl) ea_nil))) (why_at ht))) (r' := .new (.lst handW)) (congrArg (fun z => Res.new (.lst z)) whyX_is)) rfl rfl (Nat.le_of_ble_eq_true rfl)) (ex_lst (ea_cons (ex_call (d := .bl false) c.why h8 (ea_cons (ex_var 1 rfl) (ea_cons (ex_tup (ea_cons ex_int ea_nil)) (ea_cons (ex_tup (ea_cons ex_int (ea_cons ex_int ea_nil))) ea_nil))) ⟨_, _, tD [1, 2], 3, benchG, [0], rfl, wl_any web_bench ⟨by decide, by decide⟩ (.inl rfl) (.inl rfl), .inr ⟨[1, 2].map natD, rfl, nats_shp _, Nat.le_of_ble_eq_true rfl, congrArg D.bl (by decide +kernel)⟩⟩) (ea_cons (ex_call (d := .bl true) c.why h8 (ea_cons (ex_var 3 rfl) (ea_cons (ex_tup (ea_cons ex_int (ea_cons ex_int (ea_cons ex_int ea_nil)))) (ea_cons (ex_tup (ea_cons ex_int (ea_cons ex_int ea_nil))) ea_nil))) ⟨_, _, tD [0, 1], 2, tripleG, [0, 1, 2], rfl, wl_any web_triple ⟨by decide, by decide⟩ (.inl rfl) (.inl rfl), .inr ⟨[0, 1].map natD, rfl, nats_shp _, Nat.le_of_ble_eq_true rfl, congrArg D.bl (by decide +kernel)⟩⟩) ea_nil))) rfl rfl (Nat.le_of_ble_eq_true rfl))) rfl) ?g10
    refine xs_cons (env1 := ev (handA ++ handB ++ handC ++ handE ++ handW ++ handX) (handA ++ handB ++ handC ++ handE ++ [.bl true, .bl true, .bl true] ++ [.bl false, .bl false, .bl false, .bl false] ++ [.bl true])) (X1.to (x_set 5 sc_law_by_hand_right.nd (ex_cat (ex_cat (ex_cat (ex_var 5 rfl) (ex_lst (ea_cons ex_bl (ea_cons ex_bl (ea_cons ex_bl ea_nil)))) rfl rfl (Nat.le_of_ble_eq_true rfl)) (ex_rep (i := 4) (ex_lst (ea_cons ex_bl ea_nil)) ex_int rfl (by decide) (by decide) (Nat.le_of_ble_eq_true rfl)) rfl rfl (Nat.le_of_ble_eq_true rfl)) (ex_lst (ea_cons ex_bl ea_nil)) rfl rfl (Nat.le_of_ble_eq_true rfl))) rfl) ?g11
    exact xs_one (x_retD (EX.to (ex_call (c.same 2) (hr.mono (by decide)) (ea_cons (ex_var 4 rfl) (ea_cons (ex_var 5 rfl) ea_nil)) ⟨_, _, rfl, by decide, dsh_of (by decide +kernel), dsh_of (by decide +kernel), rfl⟩) (congrArg (fun z => Res.d (.bl z)) hand_same)))
end
end Zf
/-! Draws, 1: one draw. -/
namespace Zf
open PySem PySem.Spec PyProof.Rows L2 Zb Zt Gr
/-- what a draw may change: the source alone; new things may stand -/
def Still (p : Addr) (H H' : Hp) : Prop := ∀ q o, q ≠ p → H q = some o → H' q = some o
theorem Still.refl (p : Addr) (H : Hp) : Still p H H := fun _ _ _ h => h
theorem Still.trans {p : Addr} {H H1 H2 : Hp} (a : Still p H H1) (b : Still p H1 H2) : Still p H H2 := fun q o n h => b q o n (a q o n h)
theorem Still.upd {p : Addr} {H H1 : Hp} (a : Still p H H1) (o : HO) : Still p H (L2.upd H1 p o) := fun q u n h => by
  rw [upd_ne n]
  exact a q u n h
def spTake : Sp := fun vs H Q _ => ∃ p m b, vs = [.ref p, .int b] ∧ 0 < b ∧ b < 1000 ∧ Tin H p m ∧ m ≤ 1000 ∧ ∀ i H', 0 ≤ i → i < b → Tin H' p (m + 1) → Still p H H' → Q (.int i) H'
section
variable {P : Program} {w : World} {K : PySem.W.Frag} {mg : Str → Option Value} {base : Heap}
theorem at3 {x y z : V} : atI [x, y, z] 0 = some x ∧ atI [x, y, z] 1 = some y ∧ atI [x, y, z] 2 = some z := ⟨atI_nat (j := 0) rfl, atI_nat (j := 1) rfl, atI_nat (j := 2) rfl⟩
theorem ct_take (B : Bl mg) (d : Df K mg "_law_take" s_law_take ["_law_tin", "_law_below_so"]) : CtS P w K mg base 1 "_law_take" ["_law_tin", "_law_below_so"] spTake := by
  obtain ⟨f, fd, Fn, hb, hm⟩ := d.ex
  refine ⟨f, fd, Fn.ok sc_law_take (fun vs H Q E h => ?_) (fun cdv A outer s H vs Q E hr h => ?_), hm, Fn.kp, hb⟩
  · obtain ⟨p, m, b, rfl, _⟩ := h
    rfl
  · obtain ⟨p, m, b, rfl, hb0, hb1, ⟨x, y, z, hp, y0, y1, z0, z1⟩, hm1, q⟩ := h
    have pv0 : ∀ {pos}, PE (cx0 P w K mg base ["_law_tin", "_law_below_so", "_law_drawn", "_law_once_so", "_law_wide_so", "_law_twice_so"] "_law_take" s_law_take f cdv A outer s H E) (.Name "_law_tin" pos) (tVar 0) := pe_var (i := 0) rfl (.inl rfl)
    have pv1 : ∀ {pos}, PE (cx0 P w K mg base ["_law_tin", "_law_below_so", "_law_drawn", "_law_once_so", "_law_wide_so", "_law_twice_so"] "_law_take" s_law_take f cdv A outer s H E) (.Name "_law_below_so" pos) (tVar 1) := pe_var (i := 1) rfl (.inl rfl)
    refine ⟨_, pss_cons (ps_if (pt_cmpR op_gt (pe_ix ix_list pv0 pe_int (fun _ _ => rfl)) pe_int rfl) (pss_cons (ps_set (i := 2) sc_law_take.nd rfl (.inl rfl) (pe_op op_mod (pe_callTy call_int1 rfl B.int (by decide +kernel) (pa_cons (pe_ix ix_list pv0 pe_int (fun _ _ => rfl)) pa_nil)) pv1))
        (pss_cons (ps_asg (pe_op op_fdiv (pe_ix ix_list pv0 pe_int (fun _ _ => rfl)) pv1) (pg_sub pv0 pe_int set_list (by intro _; rfl))) (pss_one (ps_ret (pe_var (i := 2) rfl (.inl rfl)))))) pss_nil)
      (pss_cons (ps_asg (pe_op op_add (pe_ix ix_list pv0 pe_int (fun _ _ => rfl)) pe_int) (pg_sub pv0 pe_int set_list (by intro _; rfl)))
      (pss_cons (ps_set (i := 3) sc_law_take.nd rfl (.inl rfl) (pe_op op_mod (pe_callTy call_int1 rfl B.int (by decide +kernel) (pa_cons (pe_op op_mul (pe_op op_add (pe_ix ix_list pv0 pe_int (fun _ _ => rfl)) (pe_op op_mul pe_int (pe_ix ix_list pv0 pe_int (fun _ _ => rfl)))) (pe_op op_add pe_int (pe_ix ix_list pv0 pe_int (fun _ _ => rfl)))) pa_nil)) pe_int))
      (pss_cons (ps_set (i := 4) sc_law_take.nd rfl (.inl rfl) (pe_op op_add (pe_op op_mod (pe_callTy call_int1 rfl B.int (by decide +kernel) (pa_cons (pe_var (i := 3) rfl (.inl rfl)) pa_nil)) pe_int) pe_int))
      (pss_cons (ps_set (i := 5) sc_law_take.nd rfl (.inl rfl) (pe_op op_mod (pe_callTy call_int1 rfl B.int (by decide +kernel) (pa_cons (pe_op op_mul (pe_op op_add (pe_op op_add (pe_var (i := 3) rfl (.inl rfl)) (pe_ix ix_list pv0 pe_int (fun _ _ => rfl))) (pe_op op_fdiv (pe_ix ix_list pv0 pe_int (fun _ _ => rfl)) pe_int)) (pe_var (i := 4) rfl (.inl rfl))) pa_nil)) pe_int))
      (pss_one (ps_ret (pe_op op_mod (pe_callTy call_int1 rfl B.int (by decide +kernel) (pa_cons (pe_op op_fdiv (pe_op op_mod (pe_callTy call_int1 rfl B.int (by decide +kernel) (pa_cons (pe_op op_add (pe_op op_mul (pe_var (i := 5) rfl (.inl rfl)) pe_int) (pe_var (i := 3) rfl (.inl rfl))) pa_nil)) pe_int) pe_int) pa_nil)) pv1))))))), ?_⟩
    refine ⟨.ref p, rfl, p, _, _, _, rfl, rfl, SqL.of hp, at3.1, _, _, rfl, rfl, _, rfl, ?_⟩
    by_cases hx : 0 < x
    · show (if decide (0 < x) = true then _ else _)
      rw [if_pos (decide_eq_true hx)]
      refine ⟨.ref p, rfl, p, _, _, _, rfl, rfl, SqL.of hp, at3.1, .inl ⟨_, rfl, .int b, rfl, _, _, rfl, rfl, hb0, ?_⟩⟩
      refine ⟨.ref p, rfl, p, _, _, _, rfl, rfl, SqL.of hp, at3.1, .int b, rfl, _, _, rfl, rfl, ⟨hb0, by omega⟩, .ref p, rfl, p, _, _, 0, rfl, rfl, hp, rfl, ?_⟩
      refine ⟨.int (x % b), rfl, q _ _ (Int.emod_nonneg _ (by omega)) (Int.emod_lt_of_pos _ hb0) ⟨x / b, y, z, upd_same, y0, y1, z0, by omega⟩ ((Still.refl p H).upd _)⟩
    · show (if decide (0 < x) = true then _ else _)
      rw [if_neg (by simpa using hx)]
      have h1 : L2.upd H p (.lst [.int x, .int y, .int (z + 1)]) p = some (.lst [.int x, .int y, .int (z + 1)]) := upd_same
      refine ⟨.ref p, rfl, p, _, _, _, rfl, rfl, SqL.of hp, at3.2.2, _, _, rfl, rfl, .ref p, rfl, p, _, _, 2, rfl, rfl, hp, rfl, ?_⟩
      refine ⟨.ref p, rfl, p, _, _, _, rfl, rfl, SqL.of h1, at3.2.1, .ref p, rfl, p, _, _, _, rfl, rfl, SqL.of h1, at3.2.2, _, _, rfl, rfl, .inl ⟨by omega, by omega⟩, _, _, rfl, rfl, .ref p, rfl, p, _, _, _, rfl, rfl, SqL.of h1, at3.2.2, _, _, rfl, rfl, _, _, rfl, rfl, .inr ⟨by omega, by omega⟩, .inl ⟨_, rfl, _, _, rfl, rfl, by omega, ?_⟩⟩
      dsimp only
      generalize hu : (y + 48271 * (z + 1)) * (39373 + (z + 1)) % 2147483647 = u
      have u0 : 0 ≤ u := hu ▸ Int.emod_nonneg _ (by omega)
      have u1 : u < 2147483647 := hu ▸ Int.emod_lt_of_pos _ (by omega)
      refine ⟨.int u, rfl, .inl ⟨_, rfl, _, _, rfl, rfl, by omega, _, _, rfl, rfl, ?_⟩⟩
      refine ⟨.int u, rfl, .ref p, rfl, p, _, _, _, rfl, rfl, SqL.of h1, at3.2.2, _, _, rfl, rfl, .ref p, rfl, p, _, _, _, rfl, rfl, SqL.of h1, at3.2.1, _, _, rfl, rfl, ⟨by omega, by omega⟩, _, _, rfl, rfl, .int (u % 40009 + 7), rfl, _, _, rfl, rfl, .inr ⟨by omega, by omega⟩, .inl ⟨_, rfl, _, _, rfl, rfl, by omega, ?_⟩⟩
      dsimp only
      generalize ht : (u + (z + 1) + y / 1000003) * (u % 40009 + 7) % 2147483629 = t
      have t0 : 0 ≤ t := ht ▸ Int.emod_nonneg _ (by omega)
      have t1 : t < 2147483629 := ht ▸ Int.emod_lt_of_pos _ (by omega)
      refine ⟨.int t, rfl, _, _, rfl, rfl, .inr ⟨by omega, by omega⟩, .int u, rfl, _, _, rfl, rfl, .inl ⟨_, rfl, _, _, rfl, rfl, by omega, _, _, rfl, rfl, ⟨by omega, by omega⟩, .inl ⟨_, rfl, .int b, rfl, _, _, rfl, rfl, hb0, ?_⟩⟩⟩
      exact q _ _ (Int.emod_nonneg _ (by omega)) (Int.emod_lt_of_pos _ hb0) ⟨x, y, z + 1, h1, y0, y1, by omega, by omega⟩ ((Still.refl p H).upd _)
end
end Zf
/-! Draws, 2: two numbers drawn. -/
namespace Zf
open PySem PySem.Spec PyProof.Rows L2 Zb Zt Gr
theorem Tin.same {H H' : Hp} {p : Addr} {m : Nat} (e : Same H H') : Tin H p m → Tin H' p m := fun ⟨x, y, z, h, r⟩ => ⟨x, y, z, e _ _ h, r⟩
theorem Tin.upd {H : Hp} {p q : Addr} {m : Nat} {o : HO} (n : p ≠ q) : Tin H p m → Tin (L2.upd H q o) p m := fun ⟨x, y, z, h, r⟩ => ⟨x, y, z, (upd_ne n).trans h, r⟩
theorem Tin.some {H : Hp} {p : Addr} {m : Nat} : Tin H p m → H p ≠ none := fun ⟨x, y, z, h, r⟩ e => by
  rw [h] at e
  cases e
theorem Still.same {p : Addr} {H H1 H2 : Hp} (a : Still p H H1) (e : Same H1 H2) : Still p H H2 := fun q o n h => e _ _ (a q o n h)
theorem Still.new {p q : Addr} {H H1 : Hp} (a : Still p H H1) (n : H q = none) (o : HO) : Still p H (L2.upd H1 q o) := fun b u nb h => by
  have : b ≠ q := fun e => by rw [e, n] at h; cases h
  rw [upd_ne this]
  exact a b u nb h
def nI (l : List Nat) : List V := l.map fun i : Nat => V.int (i : Int)
theorem nI_len (l : List Nat) : (nI l).length = l.length := List.length_map ..
theorem nI_at {l : List Nat} {k : Nat} (h : k < l.length) : (nI l)[k]? = some (V.int ((l[k] : Nat) : Int)) := by
  unfold nI
  rw [List.getElem?_map, List.getElem?_eq_getElem h]
  rfl
theorem nI_erase (l : List Nat) (k : Nat) : (nI l).eraseIdx k = nI (l.eraseIdx k) := by
  unfold nI
  induction l generalizing k with
  | nil => rfl
  | cons a l ih =>
    cases k with
    | zero => rfl
    | succ k => simp [ih]
theorem nI_app (l : List Nat) (x : Nat) : nI l ++ [V.int (x : Int)] = nI (l ++ [x]) := by
  unfold nI
  rw [List.map_append]
  rfl
theorem erase_perm {l : List Nat} {k : Nat} (h : k < l.length) : (l[k] :: l.eraseIdx k).Perm l := by
  induction l generalizing k with
  | nil => exact absurd h (Nat.not_lt_zero _)
  | cons a l ih =>
    cases k with
    | zero => exact List.Perm.refl _
    | succ k =>
      have h' : k < l.length := by simpa using h
      exact (List.Perm.swap _ _ _).trans ((ih h').cons a)
theorem pick_perm {xs fs l : List Nat} {k : Nat} (h : k < xs.length) (p : (xs ++ fs).Perm l) : (xs.eraseIdx k ++ (fs ++ [xs[k]])).Perm l := by
  refine List.Perm.trans ?_ p
  rw [← List.append_assoc]
  refine (List.perm_append_singleton _ _).trans ?_
  exact (List.Perm.append_right fs (erase_perm h))
theorem seqI {k : Int} {n : Nat} (h0 : 0 ≤ k) (hn : k < n) : seqIndex? k n = some k.toNat := by
  unfold seqIndex?
  dsimp only
  have e : (if k < 0 then k + (n : Int) else k) = k := if_neg (by omega)
  rw [e, if_pos (by simp [h0, hn])]
def spPick : Sp := fun vs H Q _ => ∃ p g m n, vs = [.ref p, .ref g, .int 2] ∧ H g = some (.lst (nI (List.range n))) ∧ 2 ≤ n ∧ n ≤ 7 ∧ Tin H p m ∧ m ≤ 900 ∧
  ∀ (a b : Nat) q H', a < n → b < n → a ≠ b → Tin H' p (m + 2) → Still p H H' → H q = none → H' q = some (.lst [.int (a : Int), .int (b : Int)]) → Q (.ref q) H'
section
variable {P : Program} {w : World} {K : PySem.W.Frag} {mg : Str → Option Value} {base : Heap}
/-- the loop's state -/
def PickP (p g : Addr) (m n : Nat) (H0 : Hp) (l f : Addr) (i : Nat) (σ : L2.St) (H : Hp) : Prop := ∃ xs fs o, σ = [some (.ref p), some (.ref g), some (.int 2), some (.ref l), some (.ref f), o] ∧ H l = some (.lst (nI xs)) ∧ H f = some (.lst (nI fs)) ∧ Tin H p (m + i) ∧ Still p H0 H ∧ fs.length = i ∧ xs.length + i = n ∧ (xs ++ fs).Perm (List.range n)
theorem ct_pick (B : Bl mg) (d : Df K mg "_law_pick" s_law_pick ["_law_tin", "_law_goods_so", "_law_count_so"]) (c : CtS P w K mg base 1 "_law_take" ["_law_tin", "_law_below_so"] spTake) : CtS P w K mg base 2 "_law_pick" ["_law_tin", "_law_goods_so", "_law_count_so"] spPick := by
  obtain ⟨f, fd, Fn, hb, hm⟩ := d.ex
  obtain ⟨fT, fdT, t1, t2, t3, t4⟩ := c.ex
  refine ⟨f, fd, Fn.ok sc_law_pick (fun vs H Q E h => ?_) (fun cdv A outer s H vs Q E hr h => ?_), hm, Fn.kp, hb⟩
  · obtain ⟨p, g, m, n, rfl, _⟩ := h
    rfl
  · obtain ⟨p, g, m, n, rfl, hg, n2, n7, ht, hm9, q⟩ := h
    have h1 : Room 1 _ := hr.mono (j := 1) (by decide)
    refine ⟨_, pss_cons (ps_par (i := 3) (j := 4) (by rfl) sc_law_pick.nd rfl rfl (by decide) rfl rfl (pa_cons (pe_callTy call_list_of rfl B.list (by decide +kernel) (pa_cons (pe_var (i := 1) rfl (.inl rfl)) pa_nil)) (pa_cons (pe_lst pa_nil) pa_nil)) (by rfl))
      (pss_cons (ps_for PassesOwn.never rfl (pi_range1 (by rfl) B.range (pa_cons (pe_callB (call_min2 rfl) (by rfl) B.min (by decide +kernel) (pa_cons (pe_callTy call_int1 rfl B.int (by decide +kernel) (pa_cons (pe_var (i := 2) rfl (.inl rfl)) pa_nil)) (pa_cons (pe_callB call_len_seq (by rfl) B.len PySem.boot_len (pa_cons (pe_var (i := 3) rfl (.inl rfl)) pa_nil)) pa_nil))) pa_nil)) (pg_name (i := 5) sc_law_pick.nd rfl (.inl rfl))
        (pss_one (ps_expr (pe_bm PySem.F.plainAttrs_list PySem.F.slot_list_append PySem.F.type_list_append mt_append (pe_var (i := 4) rfl (.inl rfl)) (pa_cons (pe_bm PySem.F.plainAttrs_list PySem.F.slot_list_pop PySem.F.type_list_pop mt_popAt (pe_var (i := 3) rfl (.inl rfl)) (pa_cons (pe_call t1 h1 rfl t2 t3 t4 .nil pass0 (pa_cons (pe_var (i := 0) rfl (.inl rfl)) (pa_cons (pe_callB call_len_seq (by rfl) B.len PySem.boot_len (pa_cons (pe_var (i := 3) rfl (.inl rfl)) pa_nil)) pa_nil))) pa_nil)) pa_nil)))))
      (pss_one (ps_ret (pe_var (i := 4) rfl (.inl rfl))))), ?_⟩
    refine ⟨.ref g, rfl, g, _, rfl, .inl (SqL.of hg), fun l hl => ⟨Nat.zero_le _, fun ff hf => ⟨_, _, rfl, ?_⟩⟩⟩
    have hlf : l ≠ ff := fun e => by
      rw [← e, upd_same] at hf
      cases hf
    have hlp : p ≠ l := fun e => ht.some (e ▸ hl)
    have hf0 : H ff = none := by rw [← hf, upd_ne (Ne.symm hlf)]
    have hfp : p ≠ ff := fun e => ht.some (e ▸ hf0)
    have hl2 : L2.upd (L2.upd H l (.lst (nI (List.range n)))) ff (.lst []) l = some (.lst (nI (List.range n))) := by rw [upd_ne hlf, upd_same]
    have hlen : (nI (List.range n)).length = n := by rw [nI_len, List.length_range]
    refine ⟨.int 2, rfl, .inl ⟨_, rfl, .ref l, rfl, l, _, rfl, .inl (SqL.of hl2), _, _, rfl, 2, ?_, by decide, by decide, for_range (n := 2) (PickP p g m n H l ff) ?_ ?_ ?_⟩⟩
    · rw [hlen, if_neg (by omega)]
    · exact ⟨List.range n, [], _, rfl, hl2, upd_same, (ht.upd hlp).upd hfp, ((Still.refl p H).new hl _).new hf0 _, rfl, by rw [List.length_range]; exact Nat.add_zero n, by rw [List.append_nil]⟩
    · rintro i σ H1 hi ⟨xs, fs, o, rfl, e1, e2, ht1, st1, l1, l2, pm⟩
      refine ⟨.ref ff, rfl, .inl ⟨rfl, _, SqL.of e2⟩, .ref l, rfl, .inl ⟨rfl, _, SqL.of e1⟩, .ref p, rfl, .ref l, rfl, l, _, rfl, .inl (SqL.of e1), p, m + i, ((nI xs).length : Int), rfl, ?_, ?_, ht1, by omega, fun j H2 j0 j1 ht2 st2 => ?_⟩
      · rw [nI_len]; omega
      · rw [nI_len]; omega
      · rw [nI_len] at j1
        have e1' := st2 l _ (Ne.symm hlp) e1
        have e2' := st2 ff _ (Ne.symm hfp) e2
        have jl : j.toNat < xs.length := by omega
        refine ⟨l, _, j, j.toNat, _, rfl, rfl, e1', by omega, by omega, seqI j0 (by rw [nI_len]; exact j1), nI_at jl, ?_⟩
        refine ⟨ff, nI fs, _, rfl, rfl, (upd_ne (Ne.symm hlf)).trans e2', small (by rw [nI_len]; omega), ?_⟩
        refine ⟨xs.eraseIdx j.toNat, fs ++ [xs[j.toNat]], _, rfl, ?_, ?_, ?_, ?_, ?_, ?_, pick_perm jl pm⟩
        · rw [upd_ne hlf, upd_same, nI_erase]
        · rw [upd_same, nI_app]
        · exact (ht2.upd hlp).upd hfp
        · exact ((st1.trans st2).new hl _).new hf0 _
        · rw [List.length_append, l1]; rfl
        · rw [List.length_eraseIdx, if_pos jl]; omega
    · rintro σ H1 ⟨xs, fs, o, rfl, e1, e2, ht1, st1, l1, l2, pm⟩
      match fs, l1 with
      | [a, b], _ =>
        have nd := pm.nodup_iff.mpr List.nodup_range
        have hab : a ≠ b := fun e => by
          have := (List.nodup_append.mp nd).2.1
          rw [e] at this
          simp at this
        have ha : a < n := List.mem_range.mp (pm.mem_iff.mp (by simp))
        have hb : b < n := List.mem_range.mp (pm.mem_iff.mp (by simp))
        exact ⟨.ref ff, rfl, q a b ff H1 ha hb hab ht1 st1 hf0 e2⟩
end
end Zf
/-! Draws, 3: a drawn web. -/
namespace Zf
open PySem PySem.Spec PyProof.Rows L2 Zb Zt Gr
/-- tuples stay -/
def TK (H H' : Hp) : Prop := ∀ a xs, Rd H a (.tup xs) → Rd H' a (.tup xs)
theorem TK.refl (H : Hp) : TK H H := fun _ _ h => h
theorem TK.trans {H H1 H2 : Hp} (a : TK H H1) (b : TK H1 H2) : TK H H2 := fun q o h => b q o (a q o h)
theorem TK.same {H H1 : Hp} (e : Same H H1) : TK H H1 := fun q o h => rd_same e h
theorem TK.upd {H : Hp} {p : Addr} (h : Wr H p) (o : HO) : TK H (L2.upd H p o) := fun q x hx => rd_upd hx (wr_rd h hx)
theorem TK.still {p : Addr} {H H' : Hp} {m : Nat} (t : Tin H p m) (st : Still p H H') : TK H H' := fun a xs h => by
  obtain ⟨x, y, z, hp, _⟩ := t
  rcases h with h | ⟨o, h⟩
  · refine .inl (st a _ (fun e => ?_) h)
    rw [e, hp] at h
    cases h
  · refine .inr ⟨o, st a _ (fun e => ?_) h⟩
    rw [e, hp] at h
    cases h
mutual
theorem r_tk {K : PySem.W.Frag} {H H' : Hp} {N N' : Addr → Prop} (t : TK H H') : ∀ {v : V} {d : D}, R K H N v d → d.flat = true → R K H' N' v d
  | _, _, .non, _ => .non
  | _, _, .bl b, _ => .bl b
  | _, _, .int i, _ => .int i
  | _, _, .str s, _ => .str s
  | _, _, .tup s r, f => .tup (s.elim (fun z => .inl (t _ _ z)) .inr) (ra_tk t r (by simpa [D.flat] using f))
  | _, _, .lst s h r, f => by simp [D.flat] at f
  | _, _, .dic s h k r, f => by simp [D.flat] at f
theorem ra_tk {K : PySem.W.Frag} {H H' : Hp} {N N' : Addr → Prop} (t : TK H H') : ∀ {vs : List V} {ds : List D}, RA K H N vs ds → D.flats ds = true → RA K H' N' vs ds
  | _, _, .nil, _ => .nil
  | _, _, .cons a b, f => by
    simp only [D.flats, Bool.and_eq_true] at f
    exact .cons (r_tk t a f.1) (ra_tk t b f.2)
end
theorem rgV_nat (n : Nat) : rgV 0 (n : Int) = nI (List.range n) := by
  unfold rgV nI
  rw [Int.sub_zero, Int.toNat_natCast]
  refine List.map_congr_left fun i _ => ?_
  show V.int (0 + (i : Int)) = V.int (i : Int)
  rw [Int.zero_add]
def spNet (K : PySem.W.Frag) : Sp := fun vs H Q _ => ∃ p m, vs = [.ref p, .int 5, .int 5] ∧ Tin H p m ∧ m ≤ 800 ∧
  ∀ (n : Nat) (gs : G) v H', Web n gs → gs.length ≤ 5 → Tin H' p (m + 13) → TK H H' → (∀ N, R K H' N v (webD n gs)) → Q v H'
section
variable {P : Program} {w : World} {K : PySem.W.Frag} {mg : Str → Option Value} {base : Heap}
/-- the loop's state -/
def NetP (K : PySem.W.Frag) (p : Addr) (m n k : Nat) (H0 : Hp) (F : Addr) (i : Nat) (σ : L2.St) (H : Hp) : Prop := ∃ (xs : List V) (gs : G) (o : Option V), σ = [some (.ref p), some (.int 5), some (.int 5), some (.int (n : Int)), some (.int (k : Int)), some (.ref F), o] ∧ H F = some (.lst xs) ∧ RA K H (fun _ => False) xs (gs.map gD) ∧ (∀ g ∈ gs, g.1 < n ∧ g.2 < n ∧ g.1 ≠ g.2) ∧ gs.length ≤ i ∧ Tin H p (m + 2 * i) ∧ TK H0 H ∧ p ≠ F
theorem Tin.mono {H : Hp} {p : Addr} {m m' : Nat} (h : m ≤ m') : Tin H p m → Tin H p m' := fun ⟨x, y, z, e, a, b, c, d⟩ => ⟨x, y, z, e, a, b, c, by omega⟩
theorem ct_net (B : Bl mg) (d : Df K mg "_law_net" s_law_net ["_law_tin", "_law_places_so", "_law_guests_so"]) (c : CtS P w K mg base 1 "_law_take" ["_law_tin", "_law_below_so"] spTake) (c2 : CtS P w K mg base 2 "_law_pick" ["_law_tin", "_law_goods_so", "_law_count_so"] spPick) :
    CtS P w K mg base 3 "_law_net" ["_law_tin", "_law_places_so", "_law_guests_so"] (spNet K) := by
  obtain ⟨f, fd, Fn, hb, hm⟩ := d.ex
  obtain ⟨fT, fdT, t1, t2, t3, t4⟩ := c.ex
  obtain ⟨fP, fdP, p1, p2, p3, p4⟩ := c2.ex
  refine ⟨f, fd, Fn.ok sc_law_net (fun vs H Q E h => ?_) (fun cdv A outer s H vs Q E hr h => ?_), hm, Fn.kp, hb⟩
  · obtain ⟨p, m, rfl, _⟩ := h
    rfl
  · obtain ⟨p, m, rfl, ht, hm8, q⟩ := h
    have h1 : Room 1 _ := hr.mono (j := 1) (by decide)
    refine ⟨_, pss_cons (ps_par3 (i := 3) (j := 4) (l := 5) (by rfl) sc_law_net.nd rfl rfl rfl (by decide) (by decide) (by decide) rfl rfl rfl (pa_cons (pe_op op_add pe_int (pe_call t1 h1 rfl t2 t3 t4 .nil pass0 (pa_cons (pe_var (i := 0) rfl (.inl rfl)) (pa_cons (pe_var (i := 1) rfl (.inl rfl)) pa_nil))))
        (pa_cons (pe_call t1 h1 rfl t2 t3 t4 .nil pass0 (pa_cons (pe_var (i := 0) rfl (.inl rfl)) (pa_cons (pe_op op_add (pe_var (i := 2) rfl (.inl rfl)) pe_int) pa_nil))) (pa_cons (pe_lst pa_nil) pa_nil))) (by rfl))
      (pss_cons (ps_if (pt_cmpR op_gt (pe_call t1 h1 rfl t2 t3 t4 .nil pass0 (pa_cons (pe_var (i := 0) rfl (.inl rfl)) (pa_cons pe_int pa_nil))) pe_int rfl)
        (pss_one (ps_par (i := 3) (j := 4) (by rfl) sc_law_net.nd rfl rfl (by decide) rfl rfl (pa_cons (pe_op op_add pe_int (pe_op op_mod (pe_callTy call_int1 rfl B.int (by decide +kernel) (pa_cons (pe_var (i := 3) rfl (.inl rfl)) pa_nil)) (pe_callB (call_max2 rfl) (by rfl) B.max (by decide +kernel) (pa_cons pe_int (pa_cons (pe_op op_sub (pe_var (i := 1) rfl (.inl rfl)) pe_int) pa_nil)))))
          (pa_cons (pe_op op_add pe_int (pe_op op_mod (pe_callTy call_int1 rfl B.int (by decide +kernel) (pa_cons (pe_var (i := 4) rfl (.inl rfl)) pa_nil)) (pe_callB (call_max2 rfl) (by rfl) B.max (by decide +kernel) (pa_cons pe_int (pa_cons (pe_op op_sub (pe_var (i := 2) rfl (.inl rfl)) pe_int) pa_nil))))) pa_nil)) (by rfl))) pss_nil)
      (pss_weak (t' := fun D σ H3 => ∃ (n k : Nat) (F : Addr), σ = [some (.ref p), some (.int 5), some (.int 5), some (.int (n : Int)), some (.int (k : Int)), some (.ref F), none] ∧ 1 ≤ n ∧ n ≤ 5 ∧ k ≤ 5 ∧ H3 F = some (.lst []) ∧ Tin H3 p (m + 3) ∧ TK H H3 ∧ p ≠ F ∧ ∀ v H', Q v H' → D.rt v H')
        (pss_cons (ps_for PassesOwn.never rfl (pi_range1 (by rfl) B.range (pa_cons (pe_var (i := 4) rfl (.inl rfl)) pa_nil)) (pg_name (i := 6) sc_law_net.nd rfl (.inl rfl))
            (pss_one (ps_if (pt_cmpR op_gt (pe_var (i := 3) rfl (.inl rfl)) pe_int rfl) (pss_one (ps_expr (pe_bm PySem.F.plainAttrs_list PySem.F.slot_list_append PySem.F.type_list_append mt_append (pe_var (i := 5) rfl (.inl rfl)) (pa_cons
              (pe_callTy call_tuple_of rfl B.tuple (by decide +kernel) (pa_cons (pe_call p1 (hr.mono (by decide)) rfl p2 p3 p4 .nil pass0 (pa_cons (pe_var (i := 0) rfl (.inl rfl)) (pa_cons (pe_listRg rfl rfl B.list (prg_1 rfl B.range (pe_var (i := 3) rfl (.inl rfl)))) (pa_cons pe_int pa_nil)))) pa_nil)) pa_nil)))) pss_nil)))
          (pss_one (ps_ret (pe_tup (pa_cons (pe_var (i := 3) rfl (.inl rfl)) (pa_cons (pe_callTy call_tuple_of rfl B.tuple (by decide +kernel) (pa_cons (pe_var (i := 5) rfl (.inl rfl)) pa_nil)) pa_nil))))))
        fun D σ H3 h => ?g1)), ?_⟩
    case g1 =>
      obtain ⟨n, k, F, rfl, n1, n5, k5, hF, ht3, tk3, hpF, hq⟩ := h
      refine ⟨.int (k : Int), rfl, (k : Int), rfl, by omega, by omega, for_range (n := ((k : Int)).toNat) (NetP K p (m + 3) n k H F) ?_ ?_ ?_⟩
      · exact ⟨[], [], _, rfl, hF, .nil, fun g hg => absurd hg (List.not_mem_nil), Nat.zero_le _, ht3, tk3, hpF⟩
      · rintro i σ H4 hi ⟨xs, gs, o, rfl, e1, e2, e4, e5, ht4, tk4, _⟩
        refine ⟨.int (n : Int), rfl, _, _, rfl, rfl, _, rfl, ?_⟩
        show (if decide ((n : Int) > 1) = true then _ else _)
        by_cases hn : (n : Int) > 1
        · rw [if_pos (decide_eq_true hn)]
          refine ⟨.ref F, rfl, .inl ⟨rfl, _, SqL.of e1⟩, .ref p, rfl, .int (n : Int), rfl, (n : Int), rfl, RgOk.of_le (Int.le_refl 0) (by omega) (by omega) (by omega), fun g hg => ⟨p, g, m + 3 + 2 * i, n, rfl, by rw [upd_same, rgV_nat], by omega, by omega, ht4.same (same_new hg), by omega, fun a b t H5 ha hb hab ht5 st5 ht0 ht => ⟨t, _, rfl, .inl ⟨SqL.of ht, fun u hu => ?_⟩⟩⟩⟩
          have e1' : H5 F = some (.lst xs) := st5 F _ (Ne.symm hpF) (same_new hg _ _ e1)
          have tk5 : TK H4 H5 := (TK.same (same_new hg)).trans (TK.still (ht4.same (same_new hg)) st5)
          have huF : u ≠ F := fun e => by rw [e, e1'] at hu; cases hu
          have e1u : L2.upd H5 u (.tup [.int (a : Int), .int (b : Int)]) F = some (.lst xs) := (upd_ne (Ne.symm huF)).trans e1'
          have tk6 := (tk5.trans (TK.same (same_new (o := .tup [.int (a : Int), .int (b : Int)]) hu))).trans (TK.upd (o := .lst (xs ++ [.ref u])) (.inl ⟨_, e1u⟩))
          refine ⟨F, xs, _, rfl, rfl, e1u, small (by rw [e2.length, List.length_map]; omega), ?_⟩
          refine ⟨xs ++ [.ref u], gs ++ [(a, b)], _, rfl, upd_same, ?_, ?_, ?_, ?_, tk4.trans tk6, hpF⟩
          · rw [List.map_append]
            exact (ra_tk tk6 e2 (flats_map _ (fun _ => rfl) gs)).append (.cons (.tup (SqT.of ((upd_ne huF).trans upd_same)) (.cons (.int _) (.cons (.int _) .nil))) .nil)
          · intro z hz
            rcases List.mem_append.mp hz with hz | hz
            · exact e4 z hz
            · rw [List.mem_singleton.mp hz]
              exact ⟨ha, hb, hab⟩
          · rw [List.length_append]
            exact Nat.succ_le_succ e5
          · exact ((ht5.same (same_new hu)).upd hpF).mono (by omega)
        · rw [if_neg (by simpa using hn)]
          exact ⟨xs, gs, _, rfl, e1, e2, e4, by omega, ht4.mono (by omega), tk4, hpF⟩
      · rintro σ H4 ⟨xs, gs, o, rfl, e1, e2, e4, e5, ht4, tk4, _⟩
        refine ⟨.int (n : Int), rfl, .ref F, rfl, F, _, rfl, .inl ⟨SqL.of e1, fun u hu => ⟨by show 2 ≤ sizeLine; decide, fun t ht' => hq _ _ (q n gs _ _ ⟨n1, by omega, by omega, e4⟩ (by omega) ?_ ?_ fun N => ?_)⟩⟩⟩
        · exact ((ht4.same (same_new hu)).same (same_new ht')).mono (by omega)
        · exact (tk4.trans (TK.same (same_new hu))).trans (TK.same (same_new ht'))
        · refine .tup (SqT.of upd_same) (.cons (.int _) (.cons (.tup (SqT.of (same_new ht' _ _ upd_same)) ?_) .nil))
          exact (ra_tk ((TK.same (same_new hu)).trans (TK.same (same_new ht'))) e2 (flats_map _ (fun _ => rfl) gs))
    · refine ⟨.ref p, rfl, .int 5, rfl, p, m, 5, rfl, by decide, by decide, ht, by omega, fun i H1 i0 i1 ht1 st1 => ⟨_, _, rfl, rfl, ?_⟩⟩
      refine ⟨.ref p, rfl, .int 5, rfl, _, _, rfl, rfl, p, m + 1, 6, rfl, by decide, by decide, ht1, by omega, fun j H2 j0 j1 ht2 st2 => ⟨Nat.zero_le _, fun F hF => ⟨_, _, _, rfl, ?_⟩⟩⟩
      have hpF : p ≠ F := fun e => ht2.some (e ▸ hF)
      have ht2' := ht2.same (same_new (o := .lst []) hF)
      refine ⟨.ref p, rfl, p, m + 2, 10, rfl, by decide, by decide, ht2', by omega, fun z H3 z0 z1 ht3 st3 => ⟨_, _, rfl, rfl, _, rfl, ?_⟩⟩
      have hF3 : H3 F = some (.lst []) := st3 F _ (Ne.symm hpF) upd_same
      have tk3 : TK H H3 := (((TK.still ht st1).trans (TK.still ht1 st2)).trans (TK.same (same_new hF))).trans (TK.still ht2' st3)
      show (if decide (z > 0) = true then _ else _)
      by_cases hz : z > 0
      · rw [if_pos (decide_eq_true hz)]
        refine ⟨.int (1 + i), rfl, .inl ⟨_, rfl, .int 5, rfl, _, _, rfl, rfl, _, _, rfl, _, _, rfl, rfl, (show (0 : Int) < if (5 - 1 : Int) > 1 then 5 - 1 else 1 by decide), _, _, rfl, rfl, ?_⟩⟩
        refine ⟨.int j, rfl, .inl ⟨_, rfl, .int 5, rfl, _, _, rfl, rfl, _, _, rfl, _, _, rfl, rfl, (show (0 : Int) < if (5 - 1 : Int) > 1 then 5 - 1 else 1 by decide), _, _, rfl, rfl, _, _, rfl, ?_⟩⟩
        have a1 := Int.emod_nonneg (1 + i) (show (4 : Int) ≠ 0 by decide)
        have a2 := Int.emod_lt_of_pos (1 + i) (show (0 : Int) < 4 by decide)
        have b1 := Int.emod_nonneg j (show (4 : Int) ≠ 0 by decide)
        have b2 := Int.emod_lt_of_pos j (show (0 : Int) < 4 by decide)
        refine ⟨(2 + (1 + i) % 4).toNat, (2 + j % 4).toNat, F, ?_, by omega, by omega, by omega, hF3, ht3, tk3, hpF, fun v H' h => h⟩
        rw [Int.toNat_of_nonneg (by omega), Int.toNat_of_nonneg (by omega)]
        rfl
      · rw [if_neg (by simpa using hz)]
        refine ⟨(1 + i).toNat, j.toNat, F, ?_, by omega, by omega, by omega, hF3, ht3, tk3, hpF, fun v H' h => h⟩
        rw [Int.toNat_of_nonneg (by omega), Int.toNat_of_nonneg (by omega)]
        rfl
end
end Zf
/-! Draws, 4: of three webs the fullest. -/
namespace Zf
open PySem PySem.Spec PyProof.Rows L2 Zb Zt Gr
theorem r_tup {K : PySem.W.Frag} {H : Hp} {N : Addr → Prop} {v : V} {ds : List D} (h : R K H N v (.tup ds)) : ∃ a vs, v = .ref a ∧ SqT K H a vs ∧ RA K H N vs ds := by
  cases h with
  | tup h1 h2 => exact ⟨_, _, rfl, h1, h2⟩
theorem web_flat (n : Nat) (gs : G) : (webD n gs).flat = true := by
  have : D.flats (gs.map gD) = true := flats_map _ (fun _ => rfl) gs
  simp [webD, D.flat, D.flats, natD, this]
theorem web_parts {K : PySem.W.Frag} {H : Hp} {N : Addr → Prop} {v : V} {n : Nat} {gs : G} (h : R K H N v (webD n gs)) : ∃ a x b ys, v = .ref a ∧ SqT K H a [x, .ref b] ∧ SqT K H b ys ∧ ys.length = gs.length := by
  obtain ⟨a, ws, rfl, g1, g2⟩ := r_tup h
  cases g2 with
  | cons h1 h2 =>
    cases h2 with
    | cons h3 h4 =>
      cases h4
      obtain ⟨b, ys, rfl, k1, k2⟩ := r_tup h3
      exact ⟨a, _, b, ys, rfl, g1, k1, by rw [k2.length, List.length_map]⟩
section
variable {P : Program} {w : World} {K : PySem.W.Frag} {mg : Str → Option Value} {base : Heap}
/-- the loop's state -/
def FulP (K : PySem.W.Frag) (p : Addr) (m : Nat) (i : Nat) (σ : L2.St) (H : Hp) : Prop := ∃ (v : V) (n : Nat) (gs : G) (o o' : Option V), σ = [some (.ref p), some (.int 5), some (.int 5), some v, o, o'] ∧ Web n gs ∧ gs.length ≤ 5 ∧ (∀ N, R K H N v (webD n gs)) ∧ Tin H p (m + 13 * i)
theorem ct_fuller (B : Bl mg) (d : Df K mg "_law_fuller" s_law_fuller ["_law_tin", "_law_places_so", "_law_guests_so"]) (c : CtS P w K mg base 1 "_law_take" ["_law_tin", "_law_below_so"] spTake) (c2 : CtS P w K mg base 3 "_law_net" ["_law_tin", "_law_places_so", "_law_guests_so"] (spNet K)) :
    CtS P w K mg base 6 "_law_fuller" ["_law_tin", "_law_places_so", "_law_guests_so"] (spFuller K) := by
  obtain ⟨f, fd, Fn, hb, hm⟩ := d.ex
  obtain ⟨fT, fdT, t1, t2, t3, t4⟩ := c.ex
  obtain ⟨fP, fdP, p1, p2, p3, p4⟩ := c2.ex
  refine ⟨f, fd, Fn.ok sc_law_fuller (fun vs H Q E h => ?_) (fun cdv A outer s H vs Q E hr h => ?_), hm, Fn.kp, hb⟩
  · obtain ⟨p, m, rfl, _⟩ := h
    rfl
  · obtain ⟨p, m, rfl, ht, hm8, q⟩ := h
    have h1 : Room 1 _ := hr.mono (j := 1) (by decide)
    have h3 : Room 3 _ := hr.mono (j := 3) (by decide)
    refine ⟨_, pss_cons (ps_set (i := 3) sc_law_fuller.nd rfl (.inl rfl) (pe_call p1 h3 rfl p2 p3 p4 .nil pass0 (pa_cons (pe_var (i := 0) rfl (.inl rfl)) (pa_cons (pe_var (i := 1) rfl (.inl rfl)) (pa_cons (pe_var (i := 2) rfl (.inl rfl)) pa_nil)))))
      (pss_cons (ps_for PassesOwn.never rfl (pi_range1 (by rfl) B.range (pa_cons (pe_ifExp (pt_cmpR op_gt (pe_call t1 h1 rfl t2 t3 t4 .nil pass0 (pa_cons (pe_var (i := 0) rfl (.inl rfl)) (pa_cons pe_int pa_nil))) pe_int rfl) pe_int pe_int) pa_nil)) (pg_name (i := 4) sc_law_fuller.nd rfl (.inl rfl))
        (pss_cons (ps_set (i := 5) sc_law_fuller.nd rfl (.inl rfl) (pe_call p1 h3 rfl p2 p3 p4 .nil pass0 (pa_cons (pe_var (i := 0) rfl (.inl rfl)) (pa_cons (pe_var (i := 1) rfl (.inl rfl)) (pa_cons (pe_var (i := 2) rfl (.inl rfl)) pa_nil)))))
          (pss_one (ps_set (i := 3) sc_law_fuller.nd rfl (.inl rfl) (pe_ifExp (pt_cmpR op_gt (pe_callB call_len_seq (by rfl) B.len PySem.boot_len (pa_cons (pe_ix ix_tup (pe_var (i := 5) rfl (.inl rfl)) pe_int (fun _ _ => rfl)) pa_nil)) (pe_callB call_len_seq (by rfl) B.len PySem.boot_len (pa_cons (pe_ix ix_tup (pe_var (i := 3) rfl (.inl rfl)) pe_int (fun _ _ => rfl)) pa_nil)) rfl) (pe_var (i := 5) rfl (.inl rfl)) (pe_var (i := 3) rfl (.inl rfl)))))))
      (pss_one (ps_ret (pe_var (i := 3) rfl (.inl rfl))))), ?_⟩
    refine ⟨.ref p, rfl, .int 5, rfl, .int 5, rfl, p, m, rfl, ht, by omega, fun n gs v H1 hw g5 ht1 tk1 hv => ?_⟩
    refine ⟨.ref p, rfl, p, m + 13, 8, rfl, by decide, by decide, ht1, by omega, fun z H2 z0 z1 ht2 st2 => ⟨_, _, rfl, rfl, _, rfl, ?_⟩⟩
    have hv2 : ∀ N, R K H2 N v (webD n gs) := fun N => r_tk (TK.still ht1 st2) (hv N) (web_flat _ _)
    have turn : ∀ (i : Nat) (σ : L2.St) (H : Hp), i < 2 → FulP K p (m + 14) i σ H → True := fun _ _ _ _ _ => trivial
    show (if decide (z > 0) = true then _ else _)
    by_cases hz : z > 0
    · rw [if_pos (decide_eq_true hz)]
      refine ⟨2, rfl, by decide, by decide, for_range (n := 2) (FulP K p (m + 14)) ?_ ?_ ?_⟩
      · exact ⟨v, n, gs, _, _, rfl, hw, g5, hv2, ht2⟩
      · rintro i σ H4 hi ⟨v, n, gs, o, o', rfl, hw, g5, hv, ht4⟩
        refine ⟨.ref p, rfl, .int 5, rfl, .int 5, rfl, p, m + 14 + 13 * i, rfl, ht4, by omega, fun n' gs' v' H5 hw' g5' ht5 tk5 hv' => ?_⟩
        have hv5 : ∀ N, R K H5 N v (webD n gs) := fun N => r_tk tk5 (hv N) (web_flat _ _)
        obtain ⟨a, x, b, ys, rfl, u1, u2, u3⟩ := web_parts (hv5 fun _ => True)
        obtain ⟨a', x', b', ys', rfl, w1, w2, w3⟩ := web_parts (hv' fun _ => True)
        refine ⟨.ref a', rfl, a', _, 1, .ref b', rfl, rfl, w1, atI_nat (j := 1) rfl, b', ys', rfl, .inr w2, .ref a, rfl, a, _, 1, .ref b, rfl, rfl, u1, atI_nat (j := 1) rfl, b, ys, rfl, .inr u2, _, _, rfl, rfl, _, rfl, ?_⟩
        show (if decide ((ys'.length : Int) > ys.length) = true then _ else _)
        by_cases hc : (ys'.length : Int) > ys.length
        · rw [if_pos (decide_eq_true hc)]
          exact ⟨_, rfl, _, n', gs', _, _, rfl, hw', g5', hv', ht5⟩
        · rw [if_neg (by simpa using hc)]
          exact ⟨_, rfl, _, n, gs, _, _, rfl, hw, g5, hv5, ht5⟩
      · rintro σ H4 ⟨v, n, gs, o, o', rfl, hw, g5, hv, ht4⟩
        exact ⟨v, rfl, q n gs v H4 hw g5 hv⟩
    · rw [if_neg (by simpa using hz)]
      refine ⟨0, rfl, by decide, by decide, for_range (n := 0) (FulP K p (m + 14)) ?_ ?_ ?_⟩
      · exact ⟨v, n, gs, _, _, rfl, hw, g5, hv2, ht2⟩
      · intro i σ H hi
        exact absurd hi (Nat.not_lt_zero _)
      · rintro σ H4 ⟨v, n, gs, o, o', rfl, hw, g5, hv, ht4⟩
        exact ⟨v, rfl, q n gs v H4 hw g5 hv⟩
end
end Zf
/-! Draws, 5: the source, the law. -/
namespace Zf
open PySem PySem.Spec PyProof.Rows L2 Zb Zt Gr
theorem cut_mem {xs : List V} {lo hi : Option Int} {v : V} (h : v ∈ cutV xs lo hi) : v ∈ xs := by
  unfold cutV at h
  exact List.mem_of_mem_drop (List.mem_of_mem_take h)
theorem cut_one {xs : List V} : cutV xs none (some 1) = xs.take 1 := by
  unfold cutV
  cases xs with
  | nil => rfl
  | cons x xs =>
    have h1 : HT.sIx (x :: xs).length 0 none = 0 := rfl
    have h2 : HT.sIx (x :: xs).length (x :: xs).length (some 1) = 1 := by
      unfold HT.sIx
      simp
      try omega
    rw [h1, h2]
    rfl
def spCells (K : PySem.W.Frag) : Sp := fun vs H Q _ => ∃ (a : Addr) (ns : List Int), vs = [.ref a, .int 1] ∧ SqL K H a (ns.map V.int) ∧ ns.length ≤ 63 ∧ ∀ (z : Int) q H', H' q = some (.lst [.int z]) → Q (.ref q) H'
def spBox : Sp := fun vs H Q _ => ∃ (a : Addr) (z : Int), vs = [.ref a, .int 0] ∧ H a = some (.lst [.int z]) ∧ ∀ p H', Tin H' p 0 → Q (.ref p) H'
def spLaw (K : PySem.W.Frag) : Sp := fun vs H Q _ => ∃ (a : Addr) (ns : List Int), vs = [.ref a] ∧ SqL K H a (ns.map V.int) ∧ ns.length ≤ 63 ∧ ∀ H', Q (.bl true) H'
section
variable {P : Program} {w : World} {K : PySem.W.Frag} {mg : Str → Option Value} {base : Heap}
theorem ct_cells (B : Bl mg) (d : Df K mg "_law_cells" s_law_cells ["_law_script", "_law_most_so"]) : CtS P w K mg base 1 "_law_cells" ["_law_script", "_law_most_so"] (spCells K) := by
  obtain ⟨f, fd, Fn, hb, hm⟩ := d.ex
  refine ⟨f, fd, Fn.ok sc_law_cells (fun vs H Q E h => ?_) (fun cdv A outer s H vs Q E hr h => ?_), hm, Fn.kp, hb⟩
  · obtain ⟨a, ns, rfl, _⟩ := h
    rfl
  · obtain ⟨a, ns, rfl, hS, hlen, q⟩ := h
    have hints : ∀ v ∈ ns.map V.int, ∃ i, v = .int i := fun v hv => by
      obtain ⟨i, _, rfl⟩ := List.mem_map.mp hv
      exact ⟨i, rfl⟩
    refine ⟨_, pss_cons (ps_set (i := 2) sc_law_cells.nd rfl (.inl rfl) (pe_orT (pe_callTy call_list_of rfl B.list (by decide +kernel) (pa_cons (pe_slice sl_list (pe_var (i := 0) rfl (.inl rfl)) po_none (po_some (pe_var (i := 1) rfl (.inl rfl)))) pa_nil)) (pe_one (pe_lst (pa_cons pe_int pa_nil)))))
      (pss_weak (t' := fun D σ H3 => ∃ (c : Addr) (z : Int), σ = [some (.ref a), some (.int 1), some (.ref c), none, none, none] ∧ SqL K H3 a (ns.map V.int) ∧ H3 c = some (.lst [.int z]) ∧ ∀ z' H', H' c = some (.lst [.int z']) → D.rt (.ref c) H')
        (pss_cons (ps_for PassesOwn.never rfl (pi_enum (by rfl) B.enumerate (pa_cons (pe_slice sl_list (pe_var (i := 0) rfl (.inl rfl)) (po_some (pe_var (i := 1) rfl (.inl rfl))) (po_some pe_int)) pa_nil)) (pg_tup rfl (pgs_cons (pg_name (i := 3) sc_law_cells.nd rfl (.inl rfl)) (pgs_cons (pg_name (i := 4) sc_law_cells.nd rfl (.inl rfl)) pgs_nil)))
          (pss_cons (ps_set (i := 5) sc_law_cells.nd rfl (.inl rfl) (pe_op op_mod (pe_callTy call_int1 rfl B.int (by decide +kernel) (pa_cons (pe_var (i := 3) rfl (.inl rfl)) pa_nil)) (pe_var (i := 1) rfl (.inl rfl))))
          (pss_one (ps_asg (pe_op op_add (pe_ix ix_list (pe_var (i := 2) rfl (.inl rfl)) (pe_var (i := 5) rfl (.inl rfl)) (fun _ _ => rfl)) (pe_op op_mul (pe_var (i := 4) rfl (.inl rfl)) (pe_op op_add (pe_var (i := 3) rfl (.inl rfl)) pe_int))) (pg_sub (pe_var (i := 2) rfl (.inl rfl)) (pe_var (i := 5) rfl (.inl rfl)) set_list (by intro _; rfl))))))
        (pss_one (ps_ret (pe_var (i := 2) rfl (.inl rfl))))) fun D σ H3 h => ?g1), ?_⟩
    case g1 =>
      obtain ⟨c, z, rfl, hS3, hc, hq⟩ := h
      refine ⟨.ref a, rfl, .int 1, rfl, 1, rfl, 63, rfl, a, _, rfl, hS3, fun e he => ⟨e, _, rfl, SqL.of upd_same, ?_⟩⟩
      have nce : c ≠ e := fun x => by rw [← x, hc] at he; cases he
      generalize hus : cutV (ns.map V.int) (some 1) (some 63) = us
      have hus' : ∀ v ∈ us, ∃ i, v = .int i := fun v hv => hints v (cut_mem (hus ▸ hv))
      have hul : us.length ≤ 63 := by
        rw [← hus]
        exact Nat.le_trans (cutV_length _ _ _) (by rw [List.length_map]; exact hlen)
      refine ⟨fun i m σ H4 => ∃ z o3 o4 o5, σ = [some (.ref a), some (.int 1), some (.ref c), o3, o4, o5] ∧ i + m = us.length ∧ H4 c = some (.lst [.int z]) ∧ H4 e = some (.lst us), ⟨us.length, z, none, none, none, rfl, Nat.zero_add _, (upd_ne nce).trans hc, upd_same⟩, fun i m σ H4 hW => ?_⟩
      obtain ⟨z, o3, o4, o5, rfl, em, ec, ee⟩ := hW
      by_cases hi : i < us.length
      · obtain ⟨b, hb'⟩ := hus' us[i] (List.getElem_mem hi)
        have g : us[i]? = some (.int b) := by rw [List.getElem?_eq_getElem hi, hb']
        refine .inr ⟨⟨_, _, SqL.of ee, g⟩, fun σ' H' => ∃ z o3 o4 o5, σ' = [some (.ref a), some (.int 1), some (.ref c), o3, o4, o5] ∧ H' c = some (.lst [.int z]) ∧ H' e = some (.lst us), fun σ' H' hN => ?_, fun x H' hy => ?_⟩
        · obtain ⟨z, o3, o4, o5, e1, e2, e3⟩ := hN
          exact ⟨m - 1, by omega, z, o3, o4, o5, e1, by omega, e2, e3⟩
        · obtain ⟨T, x, rfl, nT, rfl, fx⟩ := hy
          have ex : x = .int b := Option.some.inj ((fx _ (SqL.of ee)).symm.trans g)
          subst ex
          have cT : c ≠ T := fun x => by rw [← x, ec] at nT; cases nT
          have eT : e ≠ T := fun x => by rw [← x, ee] at nT; cases nT
          have ec' := (upd_ne (o := .tup [.int ((i : Nat) : Int), .int b]) cT).trans ec
          refine ⟨T, _, rfl, SqT.of upd_same, rfl, _, _, rfl, _, _, rfl, rfl, ?_⟩
          refine ⟨.int (i : Int), rfl, .inl ⟨_, rfl, .int 1, rfl, _, _, rfl, rfl, Int.one_pos, ?_⟩⟩
          have e0 : ((i : Int) % 1) = 0 := Int.emod_one _
          refine ⟨.ref c, rfl, .int ((i : Int) % 1), rfl, c, _, 0, .int z, rfl, by rw [e0], SqL.of ec', atI_nat (j := 0) rfl, .int b, rfl, .int (i : Int), rfl, _, _, rfl, rfl, _, _, rfl, rfl, .inr ⟨?_, ?_⟩, _, _, rfl, rfl, ?_⟩
          · show -(2 ^ 64) < (i : Int) + 2
            omega
          · show (i : Int) + 2 < 2 ^ 64
            omega
          · refine ⟨.ref c, rfl, .int ((i : Int) % 1), rfl, c, _, 0, 0, rfl, by rw [e0], ec', rfl, ?_⟩
            exact ⟨_, _, _, _, rfl, upd_same, (upd_ne (Ne.symm nce)).trans ((upd_ne eT).trans ee)⟩
      · exact .inl ⟨⟨_, SqL.of ee, by omega⟩, .ref c, rfl, hq z H4 ec⟩
    · refine ⟨.ref a, rfl, .int 1, rfl, 1, rfl, a, _, rfl, hS, fun e he => ⟨e, _, rfl, .inl (SqL.of upd_same), fun c hc => ?_⟩⟩
      rw [cut_one]
      have S1 : Same H (L2.upd H e (.lst ((ns.map V.int).take 1))) := same_new he
      cases ns with
      | nil =>
        refine ⟨false, .inl ⟨_, SqL.of upd_same, rfl⟩, ?_⟩
        refine ⟨by decide, fun d hd => ⟨d, 0, rfl, ?_, upd_same, fun z' H' h => q z' d H' h⟩⟩
        exact ((S1.trans (same_new hc)).trans (same_new hd)).seq hS
      | cons n ns =>
        refine ⟨true, .inl ⟨_, SqL.of upd_same, rfl⟩, ?_⟩
        refine ⟨c, n, rfl, ?_, upd_same, fun z' H' h => q z' c H' h⟩
        exact (S1.trans (same_new hc)).seq hS
theorem ct_box (B : Bl mg) (d : Df K mg "_law_box" s_law_box ["_law_script", "_law_k"]) : CtS P w K mg base 1 "_law_box" ["_law_script", "_law_k"] spBox := by
  obtain ⟨f, fd, Fn, hb, hm⟩ := d.ex
  refine ⟨f, fd, Fn.ok sc_law_box (fun vs H Q E h => ?_) (fun cdv A outer s H vs Q E hr h => ?_), hm, Fn.kp, hb⟩
  · obtain ⟨a, z, rfl, _⟩ := h
    rfl
  · obtain ⟨a, z, rfl, ha, q⟩ := h
    refine ⟨_, pss_cons (ps_set (i := 2) sc_law_box.nd rfl (.inl rfl) (pe_ifExp (pt_cmpR op_lt (pe_var (i := 1) rfl (.inl rfl)) (pe_callB call_len_seq (by rfl) B.len PySem.boot_len (pa_cons (pe_var (i := 0) rfl (.inl rfl)) pa_nil)) rfl) (pe_ix ix_list (pe_var (i := 0) rfl (.inl rfl)) (pe_var (i := 1) rfl (.inl rfl)) (fun _ _ => rfl)) pe_int))
      (pss_one (ps_ret (pe_lst (pa_cons (pe_op op_mul (pe_callB call_abs (by rfl) B.abs (by decide +kernel) (pa_cons (pe_var (i := 2) rfl (.inl rfl)) pa_nil)) (pe_callTy call_int1 rfl B.int (by decide +kernel) (pa_cons (pe_cmpR op_ge (pe_callB call_abs (by rfl) B.abs (by decide +kernel) (pa_cons (pe_var (i := 2) rfl (.inl rfl)) pa_nil)) (pe_op op_pow pe_int pe_int) rfl) pa_nil)))
        (pa_cons (pe_op op_add (pe_op op_add (pe_op op_mod (pe_callTy call_int1 rfl B.int (by decide +kernel) (pa_cons (pe_var (i := 2) rfl (.inl rfl)) pa_nil)) pe_int) (pe_op op_mul pe_int (pe_var (i := 1) rfl (.inl rfl)))) pe_int) (pa_cons pe_int pa_nil)))))), ?_⟩
    refine ⟨.int 0, rfl, .ref a, rfl, a, _, rfl, .inl (SqL.of ha), _, _, rfl, rfl, _, rfl, ?_⟩
    refine iteT ?_
    refine ⟨.ref a, rfl, .int 0, rfl, a, _, 0, .int z, rfl, rfl, SqL.of ha, atI_nat (j := 0) rfl, ?_⟩
    refine ⟨.int z, rfl, z, rfl, .int z, rfl, z, rfl, _, _, rfl, rfl, ⟨by decide, by decide, by decide⟩, _, _, rfl, rfl, .inr ⟨_, rfl, _, _, rfl, rfl, ?_, ?_⟩⟩
    · have hb01 : ∀ b : Bool, -(2 ^ 64 : Int) < (if b = true then 1 else 0) ∧ (if b = true then 1 else 0) < (2 ^ 64 : Int) := by decide
      exact .inr (hb01 _)
    · refine ⟨.int z, rfl, .inl ⟨_, rfl, _, _, rfl, rfl, (show (0 : Int) < 2305843009213693951 by decide), .int 0, rfl, _, _, rfl, rfl, .inr ⟨by decide, by decide⟩, _, _, rfl, rfl, _, _, rfl, rfl, (show 3 ≤ sizeLine by decide), fun l hl => ?_⟩⟩
      have e1 := Int.emod_nonneg z (show (2305843009213693951 : Int) ≠ 0 by decide)
      have e2 := Int.emod_lt_of_pos z (show (0 : Int) < 2305843009213693951 by decide)
      refine q l _ ⟨_, _, _, upd_same, ?_, ?_, by decide, by decide⟩
      · show 0 ≤ z % 2305843009213693951 + 39373 * 0 + 3196015
        omega
      · show z % 2305843009213693951 + 39373 * 0 + 3196015 < 2 ^ 62
        omega
theorem ok_law {f : Addr} {fd : FuncData} (Fn : Fun K "law" "law" s_law f fd) (c1 : Ct P w K mg base 11 "_law_by_hand_right" [] F_l_hand) (c2 : CtS P w K mg base 11 "_law_right" ["_law_tin"] spRight) (c3 : CtS P w K mg base 1 "_law_box" ["_law_script", "_law_k"] spBox) (c4 : CtS P w K mg base 1 "_law_cells" ["_law_script", "_law_most_so"] (spCells K)) :
    FnOk P w K mg base CX0 12 f fd ["_law_script"] (spLaw K) := by
  obtain ⟨g1, gd1, a1, a2, a3, a4⟩ := c1.ex
  obtain ⟨g2, gd2, b1, b2, b3, b4⟩ := c2.ex
  obtain ⟨g3, gd3, e1, e2, e3, e4⟩ := c3.ex
  obtain ⟨g4, gd4, i1, i2, i3, i4⟩ := c4.ex
  refine Fn.ok sc_law (fun vs H Q E h => ?_) (fun cdv A outer s H vs Q E hr h => ?_)
  · obtain ⟨a, ns, rfl, _⟩ := h
    rfl
  · obtain ⟨a, ns, rfl, hS, hlen, q⟩ := h
    have h1 : Room 1 _ := hr.mono (j := 1) (by decide)
    refine ⟨_, pss_one (ps_ret (pe_and (pe_call0 a1 hr rfl a2 a3 a4.1 .nil pass0) (pe_one (pe_call b1 hr rfl b2 b3 b4 .nil pass0 (pa_cons (pe_call e1 h1 rfl e2 e3 e4 .nil pass0 (pa_cons (pe_call i1 h1 rfl i2 i3 i4 .nil pass0 (pa_cons (pe_var (i := 0) rfl (.inl rfl)) (pa_cons pe_int pa_nil))) (pa_cons pe_int pa_nil))) pa_nil))))), ?_⟩
    refine ⟨[], .bl true, ⟨rfl, rfl⟩, .nil, fun v H1 sm r => ?_⟩
    cases r
    refine ⟨true, rfl, ?_⟩
    refine iteT ?_
    exact ⟨.ref a, rfl, a, ns, rfl, sm.seq hS, hlen, fun z c H2 hc => ⟨c, z, rfl, hc, fun p H3 ht => ⟨p, 0, rfl, ht, by decide, fun H4 => q H4⟩⟩⟩
end
end Zf
/-! The head, 1: calls with keywords; all defs together (printed by gen_head.py). -/
namespace Zf
open PySem PySem.Spec PyProof.Rows L2 Zb Zt Gr
section
variable {P : Program} {w : World} {K : PySem.W.Frag} {mg : Str → Option Value} {base : Heap} {C : Addr}
theorem kwa_lot_with (d : Df K mg "lot_with" s_lot_with ["web", "lot"]) : KwA K mg "lot_with" ["web", "lot"] ["lot", "web"] kwS := by
  obtain ⟨f, fd, Fn, hb, hm⟩ := d.ex
  obtain ⟨oc, od, kV, doc, pm, an, cdv, ct, osl, rfl, lk, hcd⟩ := Fn.ex
  refine ⟨f, _, hm, ⟨oc, od, osl, lk⟩, fun s us ws hK hl => ?_, fun a b => kwS_rel a b⟩
  match us, ws, hl with
  | [], [x, y], _ => exact .of_eq rfl
theorem kwa_order_with (d : Df K mg "order_with" s_order_with ["web", "lot"]) : KwA K mg "order_with" ["web", "lot"] ["lot", "web"] kwS := by
  obtain ⟨f, fd, Fn, hb, hm⟩ := d.ex
  obtain ⟨oc, od, kV, doc, pm, an, cdv, ct, osl, rfl, lk, hcd⟩ := Fn.ex
  refine ⟨f, _, hm, ⟨oc, od, osl, lk⟩, fun s us ws hK hl => ?_, fun a b => kwS_rel a b⟩
  match us, ws, hl with
  | [], [x, y], _ => exact .of_eq rfl
theorem kwa_why_never (d : Df K mg "why_never" s_why_never ["web", "lot"]) : KwA K mg "why_never" ["web", "lot"] ["lot", "web"] kwS := by
  obtain ⟨f, fd, Fn, hb, hm⟩ := d.ex
  obtain ⟨oc, od, kV, doc, pm, an, cdv, ct, osl, rfl, lk, hcd⟩ := Fn.ex
  refine ⟨f, _, hm, ⟨oc, od, osl, lk⟩, fun s us ws hK hl => ?_, fun a b => kwS_rel a b⟩
  match us, ws, hl with
  | [], [x, y], _ => exact .of_eq rfl
theorem kwa_never_without (d : Df K mg "never_without" s_never_without ["web"]) : KwA K mg "never_without" ["web"] ["web"] kw1 := by
  obtain ⟨f, fd, Fn, hb, hm⟩ := d.ex
  obtain ⟨oc, od, kV, doc, pm, an, cdv, ct, osl, rfl, lk, hcd⟩ := Fn.ex
  refine ⟨f, _, hm, ⟨oc, od, osl, lk⟩, fun s us ws hK hl => ?_, fun a b => kw1_rel a b⟩
  match us, ws, hl with
  | [], [x], _ => exact .of_eq rfl
theorem kwa_can_together (d : Df K mg "can_together" s_can_together ["web", "lot"]) : KwA K mg "can_together" ["web", "lot"] ["lot", "web"] kwS := by
  obtain ⟨f, fd, Fn, hb, hm⟩ := d.ex
  obtain ⟨oc, od, kV, doc, pm, an, cdv, ct, osl, rfl, lk, hcd⟩ := Fn.ex
  refine ⟨f, _, hm, ⟨oc, od, osl, lk⟩, fun s us ws hK hl => ?_, fun a b => kwS_rel a b⟩
  match us, ws, hl with
  | [], [x, y], _ => exact .of_eq rfl
theorem kwa_is_order_with (d : Df K mg "is_order_with" s_is_order_with ["web", "lot", "thing"]) : KwA K mg "is_order_with" ["web", "lot", "thing"] ["thing", "web", "lot"] kwT := by
  obtain ⟨f, fd, Fn, hb, hm⟩ := d.ex
  obtain ⟨oc, od, kV, doc, pm, an, cdv, ct, osl, rfl, lk, hcd⟩ := Fn.ex
  refine ⟨f, _, hm, ⟨oc, od, osl, lk⟩, fun s us ws hK hl => ?_, fun a b => kwT_rel a b⟩
  match us, ws, hl with
  | [], [x, y, z], _ => exact .of_eq rfl
theorem kwa_is_why_never (d : Df K mg "is_why_never" s_is_why_never ["web", "lot", "thing"]) : KwA K mg "is_why_never" ["web", "lot", "thing"] ["thing", "web", "lot"] kwT := by
  obtain ⟨f, fd, Fn, hb, hm⟩ := d.ex
  obtain ⟨oc, od, kV, doc, pm, an, cdv, ct, osl, rfl, lk, hcd⟩ := Fn.ex
  refine ⟨f, _, hm, ⟨oc, od, osl, lk⟩, fun s us ws hK hl => ?_, fun a b => kwT_rel a b⟩
  match us, ws, hl with
  | [], [x, y, z], _ => exact .of_eq rfl
theorem kwa_rivals (d : Df K mg "rivals" s_rivals ["web", "guest"]) : KwA K mg "rivals" ["web", "guest"] ["guest", "web"] kwS := by
  obtain ⟨f, fd, Fn, hb, hm⟩ := d.ex
  obtain ⟨oc, od, kV, doc, pm, an, cdv, ct, osl, rfl, lk, hcd⟩ := Fn.ex
  refine ⟨f, _, hm, ⟨oc, od, osl, lk⟩, fun s us ws hK hl => ?_, fun a b => kwS_rel a b⟩
  match us, ws, hl with
  | [], [x, y], _ => exact .of_eq rfl
theorem use {p q : Prop} (h : p) (f : p → q) : q := f h
theorem df_mk {n : Str} {st : Stmt} {ps : List Str} {h : Heap} {f : Addr} {oc : Value} {od an : Option Addr} {osl : Array (Option Value)} {kV doc pm cdv ct : Value} (X : K.In h) (G : h.Ns mainGlobals mg) (a : PySem.W.nsIn K mainGlobals n = some (some (.ref f)))
    (l : K.lookup f = some ⟨oc, od, .func (PySem.W.fnOf n n (defArgs st) (defBody st) (defScope st) .none kV doc pm an cdv ct), osl⟩) (c : PySem.W.codeIn K cdv n = true) (k : PySem.W.keepIn K (.ref f) = true)
    (hb : ∀ (kV doc pm : Value) (an : Option Addr) (cdv ct : Value) (us : List Value), us.length = ps.length → bindArgs (PySem.W.fnOf n n (defArgs st) (defBody st) (defScope st) .none kV doc pm an cdv ct) ⟨us, []⟩ = pure (ps.zip us)) : Df K mg n st ps :=
  ⟨f, _, fun_mk (st := st) l c k, (fun_mk (st := st) l c k).binds hb, PySem.W.mg_of X G a⟩
theorem top_all {fa : Addr} (hfa : mg "law" = some (.ref fa)) (B : Bl mg) (T : CnI K mg C)
    (d_is_number : Df K mg "is_number" s_is_number ["thing"])
    (d_is_from : Df K mg "is_from" s_is_from ["thing", "least"])
    (d_is_within : Df K mg "is_within" s_is_within ["thing", "least", "most"])
    (d_is_long : Df K mg "is_long" s_is_long ["thing", "length"])
    (d_tupled : Df K mg "tupled" s_tupled ["value"])
    (d_ascends : Df K mg "ascends" s_ascends ["row"])
    (d_is_guest_of : Df K mg "is_guest_of" s_is_guest_of ["many", "thing"])
    (d_is_web : Df K mg "is_web" s_is_web ["thing"])
    (d_sure_web : Df K mg "sure_web" s_sure_web ["web"])
    (d_is_lot_in : Df K mg "is_lot_in" s_is_lot_in ["web", "thing"])
    (d_sure_lot : Df K mg "sure_lot" s_sure_lot ["web", "lot"])
    (d_sure_guest : Df K mg "sure_guest" s_sure_guest ["web", "guest"])
    (d_both_sure : Df K mg "both_sure" s_both_sure ["web", "lot"])
    (d_set_of : Df K mg "set_of" s_set_of ["row"])
    (d_unwanted_in : Df K mg "unwanted_in" s_unwanted_in ["web"])
    (d_others_in : Df K mg "others_in" s_others_in ["web", "lot"])
    (d_guests_in : Df K mg "guests_in" s_guests_in ["web", "lot", "part"])
    (d_met_by : Df K mg "met_by" s_met_by ["web", "lot"])
    (d_spare_in : Df K mg "spare_in" s_spare_in ["web", "lot"])
    (d_is_tree_in : Df K mg "is_tree_in" s_is_tree_in ["web", "others", "part"])
    (d_is_row_in : Df K mg "is_row_in" s_is_row_in ["web", "thing"])
    (d_is_order_in : Df K mg "is_order_in" s_is_order_in ["web", "thing"])
    (d_seat_in : Df K mg "seat_in" s_seat_in ["web", "taken", "guest"])
    (d_seats_in : Df K mg "seats_in" s_seats_in ["web", "row"])
    (d_without_in : Df K mg "without_in" s_without_in ["web", "row"])
    (d_next_to : Df K mg "next_to" s_next_to ["web", "guests", "known"])
    (d_grown_from : Df K mg "grown_from" s_grown_from ["web", "guests", "first"])
    (d_seated_round : Df K mg "seated_round" s_seated_round ["web", "way"])
    (d_is_one_of : Df K mg "is_one_of" s_is_one_of ["thing", "parts"])
    (d_beside_by : Df K mg "beside_by" s_beside_by ["web", "lot"])
    (d_part_from : Df K mg "part_from" s_part_from ["known", "place"])
    (d_parts_in : Df K mg "parts_in" s_parts_in ["web", "lot"])
    (d_way_from : Df K mg "way_from" s_way_from ["known", "place", "goal", "barred"])
    (d_round_of : Df K mg "round_of" s_round_of ["web", "lot", "part"])
    (d_kept_in : Df K mg "kept_in" s_kept_in ["web", "others", "part", "frees"])
    (d_order_by : Df K mg "order_by" s_order_by ["web", "lot", "frees"])
    (d_trees_of : Df K mg "trees_of" s_trees_of ["web", "others"])
    (d_order_in_lot : Df K mg "order_in_lot" s_order_in_lot ["web", "lot"])
    (d_barring_in : Df K mg "barring_in" s_barring_in ["web", "lot"])
    (d_can_together : Df K mg "can_together" s_can_together ["web", "lot"])
    (d_is_never : Df K mg "is_never" s_is_never ["web", "guest"])
    (d_never_without : Df K mg "never_without" s_never_without ["web"])
    (d_rivals : Df K mg "rivals" s_rivals ["web", "guest"])
    (d_lot_grown : Df K mg "lot_grown" s_lot_grown ["web", "lot"])
    (d_is_order_with : Df K mg "is_order_with" s_is_order_with ["web", "lot", "thing"])
    (d_is_why_never : Df K mg "is_why_never" s_is_why_never ["web", "lot", "thing"])
    (d_lot_sure : Df K mg "lot_sure" s_lot_sure ["web", "lot"])
    (d_lot_with : Df K mg "lot_with" s_lot_with ["web", "lot"])
    (d_order_with : Df K mg "order_with" s_order_with ["web", "lot"])
    (d_why_never : Df K mg "why_never" s_why_never ["web", "lot"])
    (d__law_lists : Df K mg "_law_lists" s_law_lists ["_law_matter"])
    (d__law_same : Df K mg "_law_same" s_law_same ["_law_got", "_law_due"])
    (d__law_unwanted : Df K mg "_law_unwanted" s_law_unwanted ["_law_net_here"])
    (d__law_seat : Df K mg "_law_seat" s_law_seat ["_law_net_here", "_law_taken_so", "_law_k"])
    (d__law_run : Df K mg "_law_run" s_law_run ["_law_net_here", "_law_walk"])
    (d__law_lacking : Df K mg "_law_lacking" s_law_lacking ["_law_seats"])
    (d__law_others : Df K mg "_law_others" s_law_others ["_law_net_here", "_law_heap"])
    (d__law_in_part : Df K mg "_law_in_part" s_law_in_part ["_law_net_here", "_law_heap", "_law_part_so"])
    (d__law_part_kind : Df K mg "_law_part_kind" s_law_part_kind ["_law_net_here", "_law_heap", "_law_part_so"])
    (d__law_free_in : Df K mg "_law_free_in" s_law_free_in ["_law_net_here", "_law_heap", "_law_part_so"])
    (d__law_are_within : Df K mg "_law_are_within" s_law_are_within ["_law_heap", "_law_wide_so"])
    (d__law_all_runs : Df K mg "_law_all_runs" s_law_all_runs ["_law_net_here"])
    (d__law_lots : Df K mg "_law_lots" s_law_lots ["_law_many_so"])
    (d__law_parts : Df K mg "_law_parts" s_law_parts ["_law_net_here", "_law_heap"])
    (d__law_is_walk : Df K mg "_law_is_walk" s_law_is_walk ["_law_net_here", "_law_matter"])
    (d__law_all_of : Df K mg "_law_all_of" s_law_all_of ["_law_net_here", "_law_heap", "_law_matter"])
    (d__law_barred_by : Df K mg "_law_barred_by" s_law_barred_by ["_law_net_here", "_law_heap"])
    (d__law_one_of : Df K mg "_law_one_of" s_law_one_of ["_law_matter", "_law_rows_so"])
    (d__law_lots_met : Df K mg "_law_lots_met" s_law_lots_met ["_law_net_here"])
    (d__law_heard : Df K mg "_law_heard" s_law_heard ["_law_door", "_law_net_here", "_law_heap"])
    (d__law_take : Df K mg "_law_take" s_law_take ["_law_tin", "_law_below_so"])
    (d__law_pick : Df K mg "_law_pick" s_law_pick ["_law_tin", "_law_goods_so", "_law_count_so"])
    (d__law_net : Df K mg "_law_net" s_law_net ["_law_tin", "_law_places_so", "_law_guests_so"])
    (d__law_fuller : Df K mg "_law_fuller" s_law_fuller ["_law_tin", "_law_places_so", "_law_guests_so"])
    (d__law_cells : Df K mg "_law_cells" s_law_cells ["_law_script", "_law_most_so"])
    (d__law_box : Df K mg "_law_box" s_law_box ["_law_script", "_law_k"])
    (d__law_right : Df K mg "_law_right" s_law_right ["_law_tin"])
    (d__law_by_hand_right : Df K mg "_law_by_hand_right" s_law_by_hand_right [])
    (d_law : Df K mg "law" s_law ["_law_script"]) :
    ∃ fd : FuncData, (∀ (s : Shared) (v : Value), BindsTo s fd ⟨[v], []⟩ [("_law_script", v)]) ∧ ∀ base : Heap, K.In base → base.Ns mainGlobals mg → FnOk P w K mg base CX0 12 fa fd ["_law_script"] (spLaw K) := by
  have q_lot_with := kwa_lot_with d_lot_with
  have q_order_with := kwa_order_with d_order_with
  have q_why_never := kwa_why_never d_why_never
  have q_never_without := kwa_never_without d_never_without
  have q_can_together := kwa_can_together d_can_together
  have q_is_order_with := kwa_is_order_with d_is_order_with
  have q_is_why_never := kwa_is_why_never d_is_why_never
  have q_rivals := kwa_rivals d_rivals
  obtain ⟨f, fd, Fn, hb, hm⟩ := d_law.ex
  have e := hfa.symm.trans hm
  cases e
  refine ⟨fd, ?_, fun base _ _ => ?_⟩
  · obtain ⟨oc, od, kV, doc, pm, an, cdv, ct, osl, rfl, lk, hcd⟩ := Fn.ex
    exact fun s v => .of_eq rfl
  · skip
    have k_is_number : Ct P w K mg base 1 "is_number" ["thing"] F_is_number := ct_is_number B d_is_number
    have k_is_from : Ct P w K mg base 2 "is_from" ["thing", "least"] F_is_from := ct_is_from d_is_from k_is_number
    have k_is_within : Ct P w K mg base 2 "is_within" ["thing", "least", "most"] F_is_within := ct_is_within d_is_within k_is_number
    have k_is_long : Ct P w K mg base 1 "is_long" ["thing", "length"] F_is_long := ct_is_long B d_is_long
    have k_tupled : ∀ k : Nat, Ct P w K mg base (k + 1) "tupled" ["value"] (F_tupled k) := ct_tupled B d_tupled
    have k_ascends : Ct P w K mg base 1 "ascends" ["row"] F_ascends := ct_ascends B d_ascends
    have k_is_guest_of : Ct P w K mg base 3 "is_guest_of" ["many", "thing"] F_is_guest_of := ct_is_guest_of B d_is_guest_of k_is_long k_is_within
    have k_is_web : Ct P w K mg base 4 "is_web" ["thing"] F_is_web := ct_is_web B d_is_web k_is_long k_is_from k_is_guest_of
    have k_sure_web : Ct P w K mg base 6 "sure_web" ["web"] F_sure_web := ct_sure_web d_sure_web (k_tupled 4) k_is_web
    have k_is_lot_in : Ct P w K mg base 3 "is_lot_in" ["web", "thing"] F_is_lot_in := ct_is_lot_in B d_is_lot_in k_is_within k_ascends
    have k_sure_lot : Ct P w K mg base 6 "sure_lot" ["web", "lot"] F_sure_lot := ct_sure_lot d_sure_lot (k_tupled 4) k_is_lot_in
    have k_sure_guest : Ct P w K mg base 3 "sure_guest" ["web", "guest"] F_sure_guest := ct_sure_guest B d_sure_guest k_is_number k_is_within
    have k_both_sure : Ct P w K mg base 7 "both_sure" ["web", "lot"] F_both_sure := ct_both_sure d_both_sure k_sure_web k_sure_lot
    have k_set_of : Ct P w K mg base 1 "set_of" ["row"] F_set_of := ct_set_of B d_set_of
    have k_unwanted_in : Ct P w K mg base 1 "unwanted_in" ["web"] F_unwanted_in := ct_unwanted_in B d_unwanted_in
    have k_others_in : Ct P w K mg base 1 "others_in" ["web", "lot"] F_others_in := ct_others_in B d_others_in
    have k_guests_in : Ct P w K mg base 1 "guests_in" ["web", "lot", "part"] F_guests_in := ct_guests_in B d_guests_in
    have k_met_by : Ct P w K mg base 1 "met_by" ["web", "lot"] F_met_by := ct_met_by d_met_by
    have k_spare_in : Ct P w K mg base 2 "spare_in" ["web", "lot"] F_spare_in := ct_spare_in d_spare_in k_met_by k_unwanted_in
    have k_is_tree_in : Ct P w K mg base 2 "is_tree_in" ["web", "others", "part"] F_is_tree_in := ct_is_tree_in B d_is_tree_in k_guests_in
    have k_is_row_in : Ct P w K mg base 3 "is_row_in" ["web", "thing"] F_is_row_in := ct_is_row_in B d_is_row_in k_is_within
    have k_is_order_in : Ct P w K mg base 4 "is_order_in" ["web", "thing"] F_is_order_in := ct_is_order_in B d_is_order_in k_is_row_in
    have k_seat_in : Ct P w K mg base 1 "seat_in" ["web", "taken", "guest"] F_seat_in := ct_seat_in d_seat_in
    have k_seats_in : CtO P w K mg base 2 "seats_in" ["web", "row"] F_seats_in := ct_seats_in d_seats_in k_seat_in
    have k_without_in : Ct P w K mg base 3 "without_in" ["web", "row"] F_without_in := ct_without_in B d_without_in k_seats_in
    have k_next_to : Ct P w K mg base 1 "next_to" ["web", "guests", "known"] F_next_to := ct_next_to d_next_to
    have k_grown_from : Ct P w K mg base 2 "grown_from" ["web", "guests", "first"] F_grown_from := ct_grown_from B d_grown_from k_next_to
    have k_seated_round : Ct P w K mg base 1 "seated_round" ["web", "way"] F_seated_round := ct_seated_round d_seated_round
    have k_is_one_of : Ct P w K mg base 3 "is_one_of" ["thing", "parts"] F_is_one_of := ct_is_one_of B d_is_one_of k_is_from
    have k_beside_by : Ct P w K mg base 1 "beside_by" ["web", "lot"] F_beside_by := ct_beside_by B d_beside_by
    have k_part_from : Ct P w K mg base 1 "part_from" ["known", "place"] F_part_from := ct_part_from B d_part_from
    have k_parts_in : Ct P w K mg base 2 "parts_in" ["web", "lot"] F_parts_in := ct_parts_in B d_parts_in k_beside_by k_part_from
    have k_way_from : Ct P w K mg base 1 "way_from" ["known", "place", "goal", "barred"] F_way_from := ct_way_from B d_way_from
    have k_round_of : Ct P w K mg base 2 "round_of" ["web", "lot", "part"] F_round_of := ct_round_of B d_round_of k_guests_in k_beside_by k_part_from k_way_from
    have k_kept_in : Ct P w K mg base 3 "kept_in" ["web", "others", "part", "frees"] F_kept_in := ct_kept_in B d_kept_in k_guests_in k_is_tree_in k_grown_from k_round_of k_seated_round
    have k_order_by : Ct P w K mg base 4 "order_by" ["web", "lot", "frees"] F_order_by := ct_order_by B d_order_by k_others_in k_parts_in k_kept_in
    have k_trees_of : Ct P w K mg base 3 "trees_of" ["web", "others"] F_trees_of := ct_trees_of d_trees_of k_parts_in k_is_tree_in
    have k_order_in_lot : Ct P w K mg base 5 "order_in_lot" ["web", "lot"] F_order_in_lot := ct_order_in_lot d_order_in_lot k_spare_in k_others_in k_trees_of k_order_by
    have k_barring_in : Ct P w K mg base 3 "barring_in" ["web", "lot"] F_barring_in := ct_barring_in B d_barring_in k_others_in k_spare_in k_met_by k_parts_in k_is_tree_in
    have k_can_together : Ct P w K mg base 8 "can_together" ["web", "lot"] F_can_together := ct_can_together d_can_together k_both_sure k_barring_in
    have k_is_never : Ct P w K mg base 4 "is_never" ["web", "guest"] F_is_never := ct_is_never d_is_never k_barring_in
    have k_never_without : Ct P w K mg base 7 "never_without" ["web"] F_never_without := ct_never_without B d_never_without k_sure_web k_is_never
    have k_rivals : Ct P w K mg base 7 "rivals" ["web", "guest"] F_rivals := ct_rivals B d_rivals k_sure_web k_sure_guest k_is_never k_barring_in k_set_of
    have k_lot_grown : Ct P w K mg base 4 "lot_grown" ["web", "lot"] F_lot_grown := ct_lot_grown B d_lot_grown k_others_in k_parts_in k_guests_in k_kept_in k_set_of
    have k_is_order_with : Ct P w K mg base 8 "is_order_with" ["web", "lot", "thing"] F_is_order_with := ct_is_order_with B d_is_order_with k_both_sure k_is_order_in k_without_in
    have k_is_why_never : Ct P w K mg base 8 "is_why_never" ["web", "lot", "thing"] F_is_why_never := ct_is_why_never d_is_why_never k_both_sure k_barring_in k_is_one_of
    have k_lot_sure : CtX P w K mg base 8 "lot_sure" ["web", "lot"] C F_lot_sure X_lot := ct_lot_sure T.own d_lot_sure k_both_sure k_barring_in k_lot_grown
    have k_lot_with : CtX P w K mg base 9 "lot_with" ["web", "lot"] C F_lot_with X_lot := ct_lot_with d_lot_with k_lot_sure
    have k_order_with : CtX P w K mg base 9 "order_with" ["web", "lot"] C F_order_with X_lot := ct_order_with d_order_with k_lot_sure k_order_in_lot
    have k_why_never : CtX P w K mg base 8 "why_never" ["web", "lot"] C F_why_never X_why := ct_why_never T.own d_why_never k_both_sure k_barring_in
    have k_lists : ∀ k : Nat, Ct P w K mg base (k + 1) "_law_lists" ["_law_matter"] (F_lists k) := ct_lists B d__law_lists
    have k_same : ∀ k : Nat, Ct P w K mg base (k + 1) "_law_same" ["_law_got", "_law_due"] (F_same k) := ct_same B d__law_same
    have k_l_unwanted : Ct P w K mg base 1 "_law_unwanted" ["_law_net_here"] F_unwanted_in := ct_l_unwanted B d__law_unwanted
    have k_l_seat : Ct P w K mg base 1 "_law_seat" ["_law_net_here", "_law_taken_so", "_law_k"] F_l_seat := ct_l_seat d__law_seat
    have k_l_run : Ct P w K mg base 2 "_law_run" ["_law_net_here", "_law_walk"] F_l_run := ct_l_run B d__law_run k_l_seat
    have k_l_lacking : Ct P w K mg base 1 "_law_lacking" ["_law_seats"] F_l_lacking := ct_l_lacking B d__law_lacking
    have k_l_others : Ct P w K mg base 1 "_law_others" ["_law_net_here", "_law_heap"] F_others_in := ct_l_others B d__law_others
    have k_l_in_part : Ct P w K mg base 1 "_law_in_part" ["_law_net_here", "_law_heap", "_law_part_so"] F_guests_in := ct_l_in_part B d__law_in_part
    have k_l_kind : Ct P w K mg base 2 "_law_part_kind" ["_law_net_here", "_law_heap", "_law_part_so"] F_l_kind := ct_l_kind B d__law_part_kind k_l_in_part
    have k_l_free : Ct P w K mg base 2 "_law_free_in" ["_law_net_here", "_law_heap", "_law_part_so"] F_l_free := ct_l_free d__law_free_in k_l_unwanted
    have k_l_within : Ct P w K mg base 1 "_law_are_within" ["_law_heap", "_law_wide_so"] F_l_within := ct_l_within d__law_are_within
    have k_l_runs : Ct P w K mg base 2 "_law_all_runs" ["_law_net_here"] F_l_runs := ct_l_runs B d__law_all_runs k_l_seat
    have k_l_lots : Ct P w K mg base 1 "_law_lots" ["_law_many_so"] F_l_lots := ct_l_lots B d__law_lots
    have k_l_parts : Ct P w K mg base 1 "_law_parts" ["_law_net_here", "_law_heap"] F_l_parts := ct_l_parts B d__law_parts
    have k_l_is_walk : Ct P w K mg base 1 "_law_is_walk" ["_law_net_here", "_law_matter"] F_l_is_walk := ct_l_is_walk B d__law_is_walk
    have k_l_all_of : Ct P w K mg base 3 "_law_all_of" ["_law_net_here", "_law_heap", "_law_matter"] F_l_all_of := ct_l_all_of d__law_all_of k_l_is_walk k_l_within k_l_lacking k_l_run
    have k_l_barred : Ct P w K mg base 3 "_law_barred_by" ["_law_net_here", "_law_heap"] F_l_barred := ct_l_barred B d__law_barred_by k_l_others k_l_parts k_l_kind k_l_free
    have k_l_one_of : Ct P w K mg base 3 "_law_one_of" ["_law_matter", "_law_rows_so"] F_l_one_of := ct_l_one_of d__law_one_of (k_same 1)
    have k_l_lackT : CtT P w K mg base 1 "_law_lacking" ["_law_seats"] F_l_lackT := ct_l_lackT B d__law_lacking
    have k_l_met : CtM P w K mg base 3 "_law_lots_met" ["_law_net_here"] F_l_met := ct_l_met B d__law_lots_met k_l_runs k_l_lackT
    have k_l_heard : Ct P w K mg base 10 "_law_heard" ["_law_door", "_law_net_here", "_law_heap"] F_l_heard := ct_l_heard B T d__law_heard k_lot_with k_order_with k_why_never q_lot_with q_order_with q_why_never
    have k_take : CtS P w K mg base 1 "_law_take" ["_law_tin", "_law_below_so"] spTake := ct_take B d__law_take
    have k_pick : CtS P w K mg base 2 "_law_pick" ["_law_tin", "_law_goods_so", "_law_count_so"] spPick := ct_pick B d__law_pick k_take
    have k_net : CtS P w K mg base 3 "_law_net" ["_law_tin", "_law_places_so", "_law_guests_so"] (spNet K) := ct_net B d__law_net k_take k_pick
    have k_fuller : CtS P w K mg base 6 "_law_fuller" ["_law_tin", "_law_places_so", "_law_guests_so"] (spFuller K) := ct_fuller B d__law_fuller k_take k_net
    have k_cells : CtS P w K mg base 1 "_law_cells" ["_law_script", "_law_most_so"] (spCells K) := ct_cells B d__law_cells
    have k_box : CtS P w K mg base 1 "_law_box" ["_law_script", "_law_k"] spBox := ct_box B d__law_box
    have doors : Doors P w K mg base := ⟨k_fuller, k_l_met, k_lists 4, k_same, k_never_without, q_never_without, k_l_lots, k_l_within, k_l_heard, k_can_together, q_can_together, k_is_order_with, q_is_order_with, k_is_why_never, q_is_why_never, k_l_one_of, k_l_all_of, k_l_barred, k_rivals, q_rivals⟩
    exact ok_law Fn (ct_l_hand B d__law_by_hand_right doors) (ct_l_right B d__law_right doors) k_box k_cells
end
end Zf
/-! The head, 2: the class, the built-ins. -/
namespace Zf
open PySem PySem.Spec PyProof.Rows L2 Zb Zt Gr
section
variable {K : PySem.W.Frag} {mg : Str → Option Value} {C : Addr} {h : Heap}
theorem cni_mk (X : K.In h) (G : h.Ns mainGlobals mg) (a : PySem.W.nsIn K mainGlobals "CanNot" = some (some (.ref C))) (x : PySem.W.excIn K C [.type "ValueError", .type "Exception", .type "BaseException", .type "object"] "ValueError.__new__" = true) (k : PySem.W.keepIn K (.ref C) = true)
    (b : PySem.W.subIn K (.ref C) (.type "BaseException") = some true) (t : PySem.W.typeIn K (.ref C) = some (.type "type")) (hd : PySem.W.hasDictIn K C = true) (s : PySem.W.subIn K (.ref C) (.ref C) = some true) (v : PySem.W.subIn K (.ref C) (.type "ValueError") = some true)
    (g1 : PySem.W.findIn K (.ref C) "__getattribute__" = some (some (.builtin "BaseException.__getattribute__"))) (g2 : PySem.W.findIn K (.ref C) "__getattr__" = some none) (g3 : PySem.W.findIn K (.ref C) "__class__" = some (some (.builtin "object.__class__")))
    (g4 : PySem.W.specialIn K (.builtin "object.__class__") "__get__" = some (some (.builtin "getset_descriptor.__get__"))) (g5 : PySem.W.takesIn K (.builtin "object.__class__") = some true) (g6 : PySem.W.mroIn K C (.type "object") = some true) : CnI K mg C where
  own := ⟨PySem.W.mg_of X G a, ⟨_, _, _, _, PySem.F.excBase_ValueError, x⟩, k, b, t⟩
  takes := PySem.W.exm_ref b hd t s
  cls := ⟨g1, g2, b, hd, g3, g4, g5, g6⟩
  isV := by
    show (if (Value.ref C == Value.type "ValueError") = true then some true else PySem.W.kitCls K (.ref C) (.type "ValueError")) = some true
    have e : (Value.ref C == Value.type "ValueError") = false := rfl
    rw [e]
    show (if PySem.W.kitMeta "ValueError" = true then PySem.W.subIn K (.ref C) (.type "ValueError") else none) = some true
    rw [if_pos (by decide +kernel), v]
theorem bl_mk (X : K.In h) (G : h.Ns mainGlobals mg) (z1 : PySem.W.nsIn K mainGlobals "isinstance" = some none) (z2 : PySem.W.nsIn K mainGlobals "int" = some none) (z3 : PySem.W.nsIn K mainGlobals "bool" = some none) (z4 : PySem.W.nsIn K mainGlobals "str" = some none)
    (z5 : PySem.W.nsIn K mainGlobals "len" = some none) (z6 : PySem.W.nsIn K mainGlobals "tuple" = some none) (z7 : PySem.W.nsIn K mainGlobals "list" = some none) (z8 : PySem.W.nsIn K mainGlobals "all" = some none) (z9 : PySem.W.nsIn K mainGlobals "any" = some none)
    (z10 : PySem.W.nsIn K mainGlobals "range" = some none) (z11 : PySem.W.nsIn K mainGlobals "sorted" = some none) (z12 : PySem.W.nsIn K mainGlobals "set" = some none) (z13 : PySem.W.nsIn K mainGlobals "dict" = some none) (z14 : PySem.W.nsIn K mainGlobals "enumerate" = some none)
    (z15 : PySem.W.nsIn K mainGlobals "zip" = some none) (z16 : PySem.W.nsIn K mainGlobals "abs" = some none) (z17 : PySem.W.nsIn K mainGlobals "min" = some none) (z18 : PySem.W.nsIn K mainGlobals "max" = some none) (z19 : PySem.W.nsIn K mainGlobals "ValueError" = some none) : Bl mg :=
  have m : ∀ {n : Str}, PySem.W.nsIn K mainGlobals n = some none → mg n = none := fun z => PySem.W.mg_none_of X G z
  ⟨m z1, m z2, m z3, m z4, m z5, m z6, m z7, m z8, m z9, m z10, m z11, m z12, m z13, m z14, m z15, m z16, m z17, m z18, m z19⟩
end
end Zf
set_option maxHeartbeats 0
open PySem PySem.W PyProof.Rows
theorem PySem.Challenge.cw_leftwithout_k15_whole_together_and_never_holds : PySem.Challenge.rw_leftwithout_k15_whole_together_and_never.Holds := by
  w_on; o_law; k_head; (case hw => w_witness2)
  k_fill
  refine L2.walk_of (l := PySem.Challenge.rw_leftwithout_k15_whole_together_and_never) (n := 63) (k := 12) (x := "_law_script") (CX := fun _ => L2.CX0) (sp := fun w => Zf.spLaw _) rfl (by decide) rfl ⟨rfl, by decide, by decide⟩ (fun w h Y => PySem.W.kIn_of Y) ?F (fun _ _ a ns hl _ hS => ⟨a, ns, rfl, hS, hl, fun _ => rfl⟩) (fun _ _ _ _ _ h => h)
  case F =>
    intro w mg fa h KX G hmg
    have B : Zf.Bl mg := by
      refine' Zf.bl_mk KX G ?z1 ?z2 ?z3 ?z4 ?z5 ?z6 ?z7 ?z8 ?z9 ?z10 ?z11 ?z12 ?z13 ?z14 ?z15 ?z16 ?z17 ?z18 ?z19
      all_goals k_is
    refine' Zf.use (Zf.cni_mk KX G ?a ?x ?k ?b ?t ?hd ?s ?v ?g1 ?g2 ?g3 ?g4 ?g5 ?g6) (fun T => ?_)
    (case a => k_is); (case x => k_exc); (case k => k_is); (case b => k_is); (case t => k_is); (case hd => k_is); (case s => first | rfl | k_is); (case v => k_is)
    (case g1 => k_is); (case g2 => k_is); (case g3 => k_is); (case g4 => k_is); (case g5 => k_is); (case g6 => k_is)
    refine' Zf.use (Zf.df_mk (n := "is_number") (st := Zt.s_is_number) (ps := ["thing"]) KX G ?a ?l ?c ?k (fun _ _ _ _ _ _ us hl => match us, hl with | [_], _ => rfl)) (fun d_is_number => ?_)
    (case a => k_is); (case l => k_is); (case c => k_is); (case k => k_is)
    refine' Zf.use (Zf.df_mk (n := "is_from") (st := Zt.s_is_from) (ps := ["thing", "least"]) KX G ?a ?l ?c ?k (fun _ _ _ _ _ _ us hl => match us, hl with | [_, _], _ => rfl)) (fun d_is_from => ?_)
    (case a => k_is); (case l => k_is); (case c => k_is); (case k => k_is)
    refine' Zf.use (Zf.df_mk (n := "is_within") (st := Zt.s_is_within) (ps := ["thing", "least", "most"]) KX G ?a ?l ?c ?k (fun _ _ _ _ _ _ us hl => match us, hl with | [_, _, _], _ => rfl)) (fun d_is_within => ?_)
    (case a => k_is); (case l => k_is); (case c => k_is); (case k => k_is)
    refine' Zf.use (Zf.df_mk (n := "is_long") (st := Zt.s_is_long) (ps := ["thing", "length"]) KX G ?a ?l ?c ?k (fun _ _ _ _ _ _ us hl => match us, hl with | [_, _], _ => rfl)) (fun d_is_long => ?_)
    (case a => k_is); (case l => k_is); (case c => k_is); (case k => k_is)
    refine' Zf.use (Zf.df_mk (n := "tupled") (st := Zt.s_tupled) (ps := ["value"]) KX G ?a ?l ?c ?k (fun _ _ _ _ _ _ us hl => match us, hl with | [_], _ => rfl)) (fun d_tupled => ?_)
    (case a => k_is); (case l => k_is); (case c => k_is); (case k => k_is)
    refine' Zf.use (Zf.df_mk (n := "ascends") (st := Zt.s_ascends) (ps := ["row"]) KX G ?a ?l ?c ?k (fun _ _ _ _ _ _ us hl => match us, hl with | [_], _ => rfl)) (fun d_ascends => ?_)
    (case a => k_is); (case l => k_is); (case c => k_is); (case k => k_is)
    refine' Zf.use (Zf.df_mk (n := "is_guest_of") (st := Zt.s_is_guest_of) (ps := ["many", "thing"]) KX G ?a ?l ?c ?k (fun _ _ _ _ _ _ us hl => match us, hl with | [_, _], _ => rfl)) (fun d_is_guest_of => ?_)
    (case a => k_is); (case l => k_is); (case c => k_is); (case k => k_is)
    refine' Zf.use (Zf.df_mk (n := "is_web") (st := Zt.s_is_web) (ps := ["thing"]) KX G ?a ?l ?c ?k (fun _ _ _ _ _ _ us hl => match us, hl with | [_], _ => rfl)) (fun d_is_web => ?_)
    (case a => k_is); (case l => k_is); (case c => k_is); (case k => k_is)
    refine' Zf.use (Zf.df_mk (n := "sure_web") (st := Zt.s_sure_web) (ps := ["web"]) KX G ?a ?l ?c ?k (fun _ _ _ _ _ _ us hl => match us, hl with | [_], _ => rfl)) (fun d_sure_web => ?_)
    (case a => k_is); (case l => k_is); (case c => k_is); (case k => k_is)
    refine' Zf.use (Zf.df_mk (n := "is_lot_in") (st := Zt.s_is_lot_in) (ps := ["web", "thing"]) KX G ?a ?l ?c ?k (fun _ _ _ _ _ _ us hl => match us, hl with | [_, _], _ => rfl)) (fun d_is_lot_in => ?_)
    (case a => k_is); (case l => k_is); (case c => k_is); (case k => k_is)
    refine' Zf.use (Zf.df_mk (n := "sure_lot") (st := Zt.s_sure_lot) (ps := ["web", "lot"]) KX G ?a ?l ?c ?k (fun _ _ _ _ _ _ us hl => match us, hl with | [_, _], _ => rfl)) (fun d_sure_lot => ?_)
    (case a => k_is); (case l => k_is); (case c => k_is); (case k => k_is)
    refine' Zf.use (Zf.df_mk (n := "sure_guest") (st := Zt.s_sure_guest) (ps := ["web", "guest"]) KX G ?a ?l ?c ?k (fun _ _ _ _ _ _ us hl => match us, hl with | [_, _], _ => rfl)) (fun d_sure_guest => ?_)
    (case a => k_is); (case l => k_is); (case c => k_is); (case k => k_is)
    refine' Zf.use (Zf.df_mk (n := "both_sure") (st := Zt.s_both_sure) (ps := ["web", "lot"]) KX G ?a ?l ?c ?k (fun _ _ _ _ _ _ us hl => match us, hl with | [_, _], _ => rfl)) (fun d_both_sure => ?_)
    (case a => k_is); (case l => k_is); (case c => k_is); (case k => k_is)
    refine' Zf.use (Zf.df_mk (n := "set_of") (st := Zt.s_set_of) (ps := ["row"]) KX G ?a ?l ?c ?k (fun _ _ _ _ _ _ us hl => match us, hl with | [_], _ => rfl)) (fun d_set_of => ?_)
    (case a => k_is); (case l => k_is); (case c => k_is); (case k => k_is)
    refine' Zf.use (Zf.df_mk (n := "unwanted_in") (st := Zt.s_unwanted_in) (ps := ["web"]) KX G ?a ?l ?c ?k (fun _ _ _ _ _ _ us hl => match us, hl with | [_], _ => rfl)) (fun d_unwanted_in => ?_)
    (case a => k_is); (case l => k_is); (case c => k_is); (case k => k_is)
    refine' Zf.use (Zf.df_mk (n := "others_in") (st := Zt.s_others_in) (ps := ["web", "lot"]) KX G ?a ?l ?c ?k (fun _ _ _ _ _ _ us hl => match us, hl with | [_, _], _ => rfl)) (fun d_others_in => ?_)
    (case a => k_is); (case l => k_is); (case c => k_is); (case k => k_is)
    refine' Zf.use (Zf.df_mk (n := "guests_in") (st := Zt.s_guests_in) (ps := ["web", "lot", "part"]) KX G ?a ?l ?c ?k (fun _ _ _ _ _ _ us hl => match us, hl with | [_, _, _], _ => rfl)) (fun d_guests_in => ?_)
    (case a => k_is); (case l => k_is); (case c => k_is); (case k => k_is)
    refine' Zf.use (Zf.df_mk (n := "met_by") (st := Zt.s_met_by) (ps := ["web", "lot"]) KX G ?a ?l ?c ?k (fun _ _ _ _ _ _ us hl => match us, hl with | [_, _], _ => rfl)) (fun d_met_by => ?_)
    (case a => k_is); (case l => k_is); (case c => k_is); (case k => k_is)
    refine' Zf.use (Zf.df_mk (n := "spare_in") (st := Zt.s_spare_in) (ps := ["web", "lot"]) KX G ?a ?l ?c ?k (fun _ _ _ _ _ _ us hl => match us, hl with | [_, _], _ => rfl)) (fun d_spare_in => ?_)
    (case a => k_is); (case l => k_is); (case c => k_is); (case k => k_is)
    refine' Zf.use (Zf.df_mk (n := "is_tree_in") (st := Zt.s_is_tree_in) (ps := ["web", "others", "part"]) KX G ?a ?l ?c ?k (fun _ _ _ _ _ _ us hl => match us, hl with | [_, _, _], _ => rfl)) (fun d_is_tree_in => ?_)
    (case a => k_is); (case l => k_is); (case c => k_is); (case k => k_is)
    refine' Zf.use (Zf.df_mk (n := "is_row_in") (st := Zt.s_is_row_in) (ps := ["web", "thing"]) KX G ?a ?l ?c ?k (fun _ _ _ _ _ _ us hl => match us, hl with | [_, _], _ => rfl)) (fun d_is_row_in => ?_)
    (case a => k_is); (case l => k_is); (case c => k_is); (case k => k_is)
    refine' Zf.use (Zf.df_mk (n := "is_order_in") (st := Zt.s_is_order_in) (ps := ["web", "thing"]) KX G ?a ?l ?c ?k (fun _ _ _ _ _ _ us hl => match us, hl with | [_, _], _ => rfl)) (fun d_is_order_in => ?_)
    (case a => k_is); (case l => k_is); (case c => k_is); (case k => k_is)
    refine' Zf.use (Zf.df_mk (n := "seat_in") (st := Zt.s_seat_in) (ps := ["web", "taken", "guest"]) KX G ?a ?l ?c ?k (fun _ _ _ _ _ _ us hl => match us, hl with | [_, _, _], _ => rfl)) (fun d_seat_in => ?_)
    (case a => k_is); (case l => k_is); (case c => k_is); (case k => k_is)
    refine' Zf.use (Zf.df_mk (n := "seats_in") (st := Zt.s_seats_in) (ps := ["web", "row"]) KX G ?a ?l ?c ?k (fun _ _ _ _ _ _ us hl => match us, hl with | [_, _], _ => rfl)) (fun d_seats_in => ?_)
    (case a => k_is); (case l => k_is); (case c => k_is); (case k => k_is)
    refine' Zf.use (Zf.df_mk (n := "without_in") (st := Zt.s_without_in) (ps := ["web", "row"]) KX G ?a ?l ?c ?k (fun _ _ _ _ _ _ us hl => match us, hl with | [_, _], _ => rfl)) (fun d_without_in => ?_)
    (case a => k_is); (case l => k_is); (case c => k_is); (case k => k_is)
    refine' Zf.use (Zf.df_mk (n := "next_to") (st := Zt.s_next_to) (ps := ["web", "guests", "known"]) KX G ?a ?l ?c ?k (fun _ _ _ _ _ _ us hl => match us, hl with | [_, _, _], _ => rfl)) (fun d_next_to => ?_)
    (case a => k_is); (case l => k_is); (case c => k_is); (case k => k_is)
    refine' Zf.use (Zf.df_mk (n := "grown_from") (st := Zt.s_grown_from) (ps := ["web", "guests", "first"]) KX G ?a ?l ?c ?k (fun _ _ _ _ _ _ us hl => match us, hl with | [_, _, _], _ => rfl)) (fun d_grown_from => ?_)
    (case a => k_is); (case l => k_is); (case c => k_is); (case k => k_is)
    refine' Zf.use (Zf.df_mk (n := "seated_round") (st := Zt.s_seated_round) (ps := ["web", "way"]) KX G ?a ?l ?c ?k (fun _ _ _ _ _ _ us hl => match us, hl with | [_, _], _ => rfl)) (fun d_seated_round => ?_)
    (case a => k_is); (case l => k_is); (case c => k_is); (case k => k_is)
    refine' Zf.use (Zf.df_mk (n := "is_one_of") (st := Zt.s_is_one_of) (ps := ["thing", "parts"]) KX G ?a ?l ?c ?k (fun _ _ _ _ _ _ us hl => match us, hl with | [_, _], _ => rfl)) (fun d_is_one_of => ?_)
    (case a => k_is); (case l => k_is); (case c => k_is); (case k => k_is)
    refine' Zf.use (Zf.df_mk (n := "beside_by") (st := Zt.s_beside_by) (ps := ["web", "lot"]) KX G ?a ?l ?c ?k (fun _ _ _ _ _ _ us hl => match us, hl with | [_, _], _ => rfl)) (fun d_beside_by => ?_)
    (case a => k_is); (case l => k_is); (case c => k_is); (case k => k_is)
    refine' Zf.use (Zf.df_mk (n := "part_from") (st := Zt.s_part_from) (ps := ["known", "place"]) KX G ?a ?l ?c ?k (fun _ _ _ _ _ _ us hl => match us, hl with | [_, _], _ => rfl)) (fun d_part_from => ?_)
    (case a => k_is); (case l => k_is); (case c => k_is); (case k => k_is)
    refine' Zf.use (Zf.df_mk (n := "parts_in") (st := Zt.s_parts_in) (ps := ["web", "lot"]) KX G ?a ?l ?c ?k (fun _ _ _ _ _ _ us hl => match us, hl with | [_, _], _ => rfl)) (fun d_parts_in => ?_)
    (case a => k_is); (case l => k_is); (case c => k_is); (case k => k_is)
    refine' Zf.use (Zf.df_mk (n := "way_from") (st := Zt.s_way_from) (ps := ["known", "place", "goal", "barred"]) KX G ?a ?l ?c ?k (fun _ _ _ _ _ _ us hl => match us, hl with | [_, _, _, _], _ => rfl)) (fun d_way_from => ?_)
    (case a => k_is); (case l => k_is); (case c => k_is); (case k => k_is)
    refine' Zf.use (Zf.df_mk (n := "round_of") (st := Zt.s_round_of) (ps := ["web", "lot", "part"]) KX G ?a ?l ?c ?k (fun _ _ _ _ _ _ us hl => match us, hl with | [_, _, _], _ => rfl)) (fun d_round_of => ?_)
    (case a => k_is); (case l => k_is); (case c => k_is); (case k => k_is)
    refine' Zf.use (Zf.df_mk (n := "kept_in") (st := Zt.s_kept_in) (ps := ["web", "others", "part", "frees"]) KX G ?a ?l ?c ?k (fun _ _ _ _ _ _ us hl => match us, hl with | [_, _, _, _], _ => rfl)) (fun d_kept_in => ?_)
    (case a => k_is); (case l => k_is); (case c => k_is); (case k => k_is)
    refine' Zf.use (Zf.df_mk (n := "order_by") (st := Zt.s_order_by) (ps := ["web", "lot", "frees"]) KX G ?a ?l ?c ?k (fun _ _ _ _ _ _ us hl => match us, hl with | [_, _, _], _ => rfl)) (fun d_order_by => ?_)
    (case a => k_is); (case l => k_is); (case c => k_is); (case k => k_is)
    refine' Zf.use (Zf.df_mk (n := "trees_of") (st := Zt.s_trees_of) (ps := ["web", "others"]) KX G ?a ?l ?c ?k (fun _ _ _ _ _ _ us hl => match us, hl with | [_, _], _ => rfl)) (fun d_trees_of => ?_)
    (case a => k_is); (case l => k_is); (case c => k_is); (case k => k_is)
    refine' Zf.use (Zf.df_mk (n := "order_in_lot") (st := Zt.s_order_in_lot) (ps := ["web", "lot"]) KX G ?a ?l ?c ?k (fun _ _ _ _ _ _ us hl => match us, hl with | [_, _], _ => rfl)) (fun d_order_in_lot => ?_)
    (case a => k_is); (case l => k_is); (case c => k_is); (case k => k_is)
    refine' Zf.use (Zf.df_mk (n := "barring_in") (st := Zt.s_barring_in) (ps := ["web", "lot"]) KX G ?a ?l ?c ?k (fun _ _ _ _ _ _ us hl => match us, hl with | [_, _], _ => rfl)) (fun d_barring_in => ?_)
    (case a => k_is); (case l => k_is); (case c => k_is); (case k => k_is)
    refine' Zf.use (Zf.df_mk (n := "can_together") (st := Zt.s_can_together) (ps := ["web", "lot"]) KX G ?a ?l ?c ?k (fun _ _ _ _ _ _ us hl => match us, hl with | [_, _], _ => rfl)) (fun d_can_together => ?_)
    (case a => k_is); (case l => k_is); (case c => k_is); (case k => k_is)
    refine' Zf.use (Zf.df_mk (n := "is_never") (st := Zt.s_is_never) (ps := ["web", "guest"]) KX G ?a ?l ?c ?k (fun _ _ _ _ _ _ us hl => match us, hl with | [_, _], _ => rfl)) (fun d_is_never => ?_)
    (case a => k_is); (case l => k_is); (case c => k_is); (case k => k_is)
    refine' Zf.use (Zf.df_mk (n := "never_without") (st := Zt.s_never_without) (ps := ["web"]) KX G ?a ?l ?c ?k (fun _ _ _ _ _ _ us hl => match us, hl with | [_], _ => rfl)) (fun d_never_without => ?_)
    (case a => k_is); (case l => k_is); (case c => k_is); (case k => k_is)
    refine' Zf.use (Zf.df_mk (n := "rivals") (st := Zt.s_rivals) (ps := ["web", "guest"]) KX G ?a ?l ?c ?k (fun _ _ _ _ _ _ us hl => match us, hl with | [_, _], _ => rfl)) (fun d_rivals => ?_)
    (case a => k_is); (case l => k_is); (case c => k_is); (case k => k_is)
    refine' Zf.use (Zf.df_mk (n := "lot_grown") (st := Zt.s_lot_grown) (ps := ["web", "lot"]) KX G ?a ?l ?c ?k (fun _ _ _ _ _ _ us hl => match us, hl with | [_, _], _ => rfl)) (fun d_lot_grown => ?_)
    (case a => k_is); (case l => k_is); (case c => k_is); (case k => k_is)
    refine' Zf.use (Zf.df_mk (n := "is_order_with") (st := Zt.s_is_order_with) (ps := ["web", "lot", "thing"]) KX G ?a ?l ?c ?k (fun _ _ _ _ _ _ us hl => match us, hl with | [_, _, _], _ => rfl)) (fun d_is_order_with => ?_)
    (case a => k_is); (case l => k_is); (case c => k_is); (case k => k_is)
    refine' Zf.use (Zf.df_mk (n := "is_why_never") (st := Zt.s_is_why_never) (ps := ["web", "lot", "thing"]) KX G ?a ?l ?c ?k (fun _ _ _ _ _ _ us hl => match us, hl with | [_, _, _], _ => rfl)) (fun d_is_why_never => ?_)
    (case a => k_is); (case l => k_is); (case c => k_is); (case k => k_is)
    refine' Zf.use (Zf.df_mk (n := "lot_sure") (st := Zt.s_lot_sure) (ps := ["web", "lot"]) KX G ?a ?l ?c ?k (fun _ _ _ _ _ _ us hl => match us, hl with | [_, _], _ => rfl)) (fun d_lot_sure => ?_)
    (case a => k_is); (case l => k_is); (case c => k_is); (case k => k_is)
    refine' Zf.use (Zf.df_mk (n := "lot_with") (st := Zt.s_lot_with) (ps := ["web", "lot"]) KX G ?a ?l ?c ?k (fun _ _ _ _ _ _ us hl => match us, hl with | [_, _], _ => rfl)) (fun d_lot_with => ?_)
    (case a => k_is); (case l => k_is); (case c => k_is); (case k => k_is)
    refine' Zf.use (Zf.df_mk (n := "order_with") (st := Zt.s_order_with) (ps := ["web", "lot"]) KX G ?a ?l ?c ?k (fun _ _ _ _ _ _ us hl => match us, hl with | [_, _], _ => rfl)) (fun d_order_with => ?_)
    (case a => k_is); (case l => k_is); (case c => k_is); (case k => k_is)
    refine' Zf.use (Zf.df_mk (n := "why_never") (st := Zt.s_why_never) (ps := ["web", "lot"]) KX G ?a ?l ?c ?k (fun _ _ _ _ _ _ us hl => match us, hl with | [_, _], _ => rfl)) (fun d_why_never => ?_)
    (case a => k_is); (case l => k_is); (case c => k_is); (case k => k_is)
    refine' Zf.use (Zf.df_mk (n := "_law_lists") (st := Zt.s_law_lists) (ps := ["_law_matter"]) KX G ?a ?l ?c ?k (fun _ _ _ _ _ _ us hl => match us, hl with | [_], _ => rfl)) (fun d__law_lists => ?_)
    (case a => k_is); (case l => k_is); (case c => k_is); (case k => k_is)
    refine' Zf.use (Zf.df_mk (n := "_law_same") (st := Zt.s_law_same) (ps := ["_law_got", "_law_due"]) KX G ?a ?l ?c ?k (fun _ _ _ _ _ _ us hl => match us, hl with | [_, _], _ => rfl)) (fun d__law_same => ?_)
    (case a => k_is); (case l => k_is); (case c => k_is); (case k => k_is)
    refine' Zf.use (Zf.df_mk (n := "_law_unwanted") (st := Zt.s_law_unwanted) (ps := ["_law_net_here"]) KX G ?a ?l ?c ?k (fun _ _ _ _ _ _ us hl => match us, hl with | [_], _ => rfl)) (fun d__law_unwanted => ?_)
    (case a => k_is); (case l => k_is); (case c => k_is); (case k => k_is)
    refine' Zf.use (Zf.df_mk (n := "_law_seat") (st := Zt.s_law_seat) (ps := ["_law_net_here", "_law_taken_so", "_law_k"]) KX G ?a ?l ?c ?k (fun _ _ _ _ _ _ us hl => match us, hl with | [_, _, _], _ => rfl)) (fun d__law_seat => ?_)
    (case a => k_is); (case l => k_is); (case c => k_is); (case k => k_is)
    refine' Zf.use (Zf.df_mk (n := "_law_run") (st := Zt.s_law_run) (ps := ["_law_net_here", "_law_walk"]) KX G ?a ?l ?c ?k (fun _ _ _ _ _ _ us hl => match us, hl with | [_, _], _ => rfl)) (fun d__law_run => ?_)
    (case a => k_is); (case l => k_is); (case c => k_is); (case k => k_is)
    refine' Zf.use (Zf.df_mk (n := "_law_lacking") (st := Zt.s_law_lacking) (ps := ["_law_seats"]) KX G ?a ?l ?c ?k (fun _ _ _ _ _ _ us hl => match us, hl with | [_], _ => rfl)) (fun d__law_lacking => ?_)
    (case a => k_is); (case l => k_is); (case c => k_is); (case k => k_is)
    refine' Zf.use (Zf.df_mk (n := "_law_others") (st := Zt.s_law_others) (ps := ["_law_net_here", "_law_heap"]) KX G ?a ?l ?c ?k (fun _ _ _ _ _ _ us hl => match us, hl with | [_, _], _ => rfl)) (fun d__law_others => ?_)
    (case a => k_is); (case l => k_is); (case c => k_is); (case k => k_is)
    refine' Zf.use (Zf.df_mk (n := "_law_in_part") (st := Zt.s_law_in_part) (ps := ["_law_net_here", "_law_heap", "_law_part_so"]) KX G ?a ?l ?c ?k (fun _ _ _ _ _ _ us hl => match us, hl with | [_, _, _], _ => rfl)) (fun d__law_in_part => ?_)
    (case a => k_is); (case l => k_is); (case c => k_is); (case k => k_is)
    refine' Zf.use (Zf.df_mk (n := "_law_part_kind") (st := Zt.s_law_part_kind) (ps := ["_law_net_here", "_law_heap", "_law_part_so"]) KX G ?a ?l ?c ?k (fun _ _ _ _ _ _ us hl => match us, hl with | [_, _, _], _ => rfl)) (fun d__law_part_kind => ?_)
    (case a => k_is); (case l => k_is); (case c => k_is); (case k => k_is)
    refine' Zf.use (Zf.df_mk (n := "_law_free_in") (st := Zt.s_law_free_in) (ps := ["_law_net_here", "_law_heap", "_law_part_so"]) KX G ?a ?l ?c ?k (fun _ _ _ _ _ _ us hl => match us, hl with | [_, _, _], _ => rfl)) (fun d__law_free_in => ?_)
    (case a => k_is); (case l => k_is); (case c => k_is); (case k => k_is)
    refine' Zf.use (Zf.df_mk (n := "_law_are_within") (st := Zt.s_law_are_within) (ps := ["_law_heap", "_law_wide_so"]) KX G ?a ?l ?c ?k (fun _ _ _ _ _ _ us hl => match us, hl with | [_, _], _ => rfl)) (fun d__law_are_within => ?_)
    (case a => k_is); (case l => k_is); (case c => k_is); (case k => k_is)
    refine' Zf.use (Zf.df_mk (n := "_law_all_runs") (st := Zt.s_law_all_runs) (ps := ["_law_net_here"]) KX G ?a ?l ?c ?k (fun _ _ _ _ _ _ us hl => match us, hl with | [_], _ => rfl)) (fun d__law_all_runs => ?_)
    (case a => k_is); (case l => k_is); (case c => k_is); (case k => k_is)
    refine' Zf.use (Zf.df_mk (n := "_law_lots") (st := Zt.s_law_lots) (ps := ["_law_many_so"]) KX G ?a ?l ?c ?k (fun _ _ _ _ _ _ us hl => match us, hl with | [_], _ => rfl)) (fun d__law_lots => ?_)
    (case a => k_is); (case l => k_is); (case c => k_is); (case k => k_is)
    refine' Zf.use (Zf.df_mk (n := "_law_parts") (st := Zt.s_law_parts) (ps := ["_law_net_here", "_law_heap"]) KX G ?a ?l ?c ?k (fun _ _ _ _ _ _ us hl => match us, hl with | [_, _], _ => rfl)) (fun d__law_parts => ?_)
    (case a => k_is); (case l => k_is); (case c => k_is); (case k => k_is)
    refine' Zf.use (Zf.df_mk (n := "_law_is_walk") (st := Zt.s_law_is_walk) (ps := ["_law_net_here", "_law_matter"]) KX G ?a ?l ?c ?k (fun _ _ _ _ _ _ us hl => match us, hl with | [_, _], _ => rfl)) (fun d__law_is_walk => ?_)
    (case a => k_is); (case l => k_is); (case c => k_is); (case k => k_is)
    refine' Zf.use (Zf.df_mk (n := "_law_all_of") (st := Zt.s_law_all_of) (ps := ["_law_net_here", "_law_heap", "_law_matter"]) KX G ?a ?l ?c ?k (fun _ _ _ _ _ _ us hl => match us, hl with | [_, _, _], _ => rfl)) (fun d__law_all_of => ?_)
    (case a => k_is); (case l => k_is); (case c => k_is); (case k => k_is)
    refine' Zf.use (Zf.df_mk (n := "_law_barred_by") (st := Zt.s_law_barred_by) (ps := ["_law_net_here", "_law_heap"]) KX G ?a ?l ?c ?k (fun _ _ _ _ _ _ us hl => match us, hl with | [_, _], _ => rfl)) (fun d__law_barred_by => ?_)
    (case a => k_is); (case l => k_is); (case c => k_is); (case k => k_is)
    refine' Zf.use (Zf.df_mk (n := "_law_one_of") (st := Zt.s_law_one_of) (ps := ["_law_matter", "_law_rows_so"]) KX G ?a ?l ?c ?k (fun _ _ _ _ _ _ us hl => match us, hl with | [_, _], _ => rfl)) (fun d__law_one_of => ?_)
    (case a => k_is); (case l => k_is); (case c => k_is); (case k => k_is)
    refine' Zf.use (Zf.df_mk (n := "_law_lots_met") (st := Zt.s_law_lots_met) (ps := ["_law_net_here"]) KX G ?a ?l ?c ?k (fun _ _ _ _ _ _ us hl => match us, hl with | [_], _ => rfl)) (fun d__law_lots_met => ?_)
    (case a => k_is); (case l => k_is); (case c => k_is); (case k => k_is)
    refine' Zf.use (Zf.df_mk (n := "_law_heard") (st := Zt.s_law_heard) (ps := ["_law_door", "_law_net_here", "_law_heap"]) KX G ?a ?l ?c ?k (fun _ _ _ _ _ _ us hl => match us, hl with | [_, _, _], _ => rfl)) (fun d__law_heard => ?_)
    (case a => k_is); (case l => k_is); (case c => k_is); (case k => k_is)
    refine' Zf.use (Zf.df_mk (n := "_law_take") (st := Zt.s_law_take) (ps := ["_law_tin", "_law_below_so"]) KX G ?a ?l ?c ?k (fun _ _ _ _ _ _ us hl => match us, hl with | [_, _], _ => rfl)) (fun d__law_take => ?_)
    (case a => k_is); (case l => k_is); (case c => k_is); (case k => k_is)
    refine' Zf.use (Zf.df_mk (n := "_law_pick") (st := Zt.s_law_pick) (ps := ["_law_tin", "_law_goods_so", "_law_count_so"]) KX G ?a ?l ?c ?k (fun _ _ _ _ _ _ us hl => match us, hl with | [_, _, _], _ => rfl)) (fun d__law_pick => ?_)
    (case a => k_is); (case l => k_is); (case c => k_is); (case k => k_is)
    refine' Zf.use (Zf.df_mk (n := "_law_net") (st := Zt.s_law_net) (ps := ["_law_tin", "_law_places_so", "_law_guests_so"]) KX G ?a ?l ?c ?k (fun _ _ _ _ _ _ us hl => match us, hl with | [_, _, _], _ => rfl)) (fun d__law_net => ?_)
    (case a => k_is); (case l => k_is); (case c => k_is); (case k => k_is)
    refine' Zf.use (Zf.df_mk (n := "_law_fuller") (st := Zt.s_law_fuller) (ps := ["_law_tin", "_law_places_so", "_law_guests_so"]) KX G ?a ?l ?c ?k (fun _ _ _ _ _ _ us hl => match us, hl with | [_, _, _], _ => rfl)) (fun d__law_fuller => ?_)
    (case a => k_is); (case l => k_is); (case c => k_is); (case k => k_is)
    refine' Zf.use (Zf.df_mk (n := "_law_cells") (st := Zt.s_law_cells) (ps := ["_law_script", "_law_most_so"]) KX G ?a ?l ?c ?k (fun _ _ _ _ _ _ us hl => match us, hl with | [_, _], _ => rfl)) (fun d__law_cells => ?_)
    (case a => k_is); (case l => k_is); (case c => k_is); (case k => k_is)
    refine' Zf.use (Zf.df_mk (n := "_law_box") (st := Zt.s_law_box) (ps := ["_law_script", "_law_k"]) KX G ?a ?l ?c ?k (fun _ _ _ _ _ _ us hl => match us, hl with | [_, _], _ => rfl)) (fun d__law_box => ?_)
    (case a => k_is); (case l => k_is); (case c => k_is); (case k => k_is)
    refine' Zf.use (Zf.df_mk (n := "_law_right") (st := Zt.s_law_right) (ps := ["_law_tin"]) KX G ?a ?l ?c ?k (fun _ _ _ _ _ _ us hl => match us, hl with | [_], _ => rfl)) (fun d__law_right => ?_)
    (case a => k_is); (case l => k_is); (case c => k_is); (case k => k_is)
    refine' Zf.use (Zf.df_mk (n := "_law_by_hand_right") (st := Zt.s_law_by_hand_right) (ps := []) KX G ?a ?l ?c ?k (fun _ _ _ _ _ _ us hl => match us, hl with | [], _ => rfl)) (fun d__law_by_hand_right => ?_)
    (case a => k_is); (case l => k_is); (case c => k_is); (case k => k_is)
    refine' Zf.use (Zf.df_mk (n := "law") (st := Zt.s_law) (ps := ["_law_script"]) KX G ?a ?l ?c ?k (fun _ _ _ _ _ _ us hl => match us, hl with | [_], _ => rfl)) (fun d_law => ?_)
    (case a => k_is); (case l => k_is); (case c => k_is); (case k => k_is)
    exact Zf.top_all hmg B T d_is_number d_is_from d_is_within d_is_long d_tupled d_ascends d_is_guest_of d_is_web d_sure_web d_is_lot_in d_sure_lot d_sure_guest d_both_sure d_set_of d_unwanted_in d_others_in d_guests_in d_met_by d_spare_in d_is_tree_in d_is_row_in d_is_order_in d_seat_in d_seats_in d_without_in d_next_to d_grown_from d_seated_round d_is_one_of d_beside_by d_part_from d_parts_in d_way_from d_round_of d_kept_in d_order_by d_trees_of d_order_in_lot d_barring_in d_can_together d_is_never d_never_without d_rivals d_lot_grown d_is_order_with d_is_why_never d_lot_sure d_lot_with d_order_with d_why_never d__law_lists d__law_same d__law_unwanted d__law_seat d__law_run d__law_lacking d__law_others d__law_in_part d__law_part_kind d__law_free_in d__law_are_within d__law_all_runs d__law_lots d__law_parts d__law_is_walk d__law_all_of d__law_barred_by d__law_one_of d__law_lots_met d__law_heard d__law_take d__law_pick d__law_net d__law_fuller d__law_cells d__law_box d__law_right d__law_by_hand_right d_law
