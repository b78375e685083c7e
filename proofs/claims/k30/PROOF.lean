import PyProof.Rows.All
import Wide.All
import OpenK.AllK
import Wide.FinOn
import HandS.ForMost
import HandS.Exc
import HandS.SortInts
import HandS.SetFor
import HandS.Strs
import HandS.Zip
import HandS.TupAny
import HandS.TupLe
import HandS.Conv
import HandS.Defaults
import HandS.Deep
import KE.GoesEnum
import HandS.IsInst
import HandS.Style
import HandS.Words
import HandS.Ends
import PySem.Challenge.RW_fingerposts_k30_whole_plans_ahead_beside
set_option Elab.async false
set_option linter.all false
set_option maxRecDepth 100000
/-! PV, part E: subscripts, slices, built-in functions, isinstance. -/
namespace PVS
open PySem PySem.Spec PyProof.Rows L2
/-- an empty set as the model lays it -/
abbrev eset (w : World) : Obj := { cls := .type "set", dict := none, data := .set #[] 0 (.fresh 0 0 (!w.params.followText "set-order")) }
section
variable {P : Program} {w : World} {A : Around} {E : Value → Shared → Prop} {s : Shared}
set_option maxHeartbeats 3200000 in
/-- set(l), l a list of ints -/
theorem set_of_list {l : Addr} {items : Array Value} (ns : List Int) {Q : Value → Shared → Prop} (hh : A.handled = none) (hl : s.heap.IsList l items) (hit : IntsAre items.toList ns) (hb : ns.length + 1 < scanBound)
    (h : ∀ (h' : Heap) (tk c : Nat), SetR w h' s.heap.objs.size (fun j => decide (j ∈ ns)) c → (∀ b o, s.heap.get? b = some o → h'.get? b = some o) → Q (.ref s.heap.objs.size) { s with heap := h', toks := tk }) :
    wpAny (model P w) A (call (.type "set") [.ref l]) Q E s := by
  have hisz : items.size = ns.length := by
    have q := hit.length
    rwa [Array.length_toList] at q
  obtain ⟨c, tl, hmro⟩ := F.called_set.mro
  have made := F.called_set.made
  have sub := F.called_set.sub
  refine wpAny_call (codeAny_of_tree ?_)
  show wpAny _ _ (callAny (.type "set") _) _ _ _
  refine wpAny_pure ⟨Code.quiet_builtin _ (by decide +kernel), codeAny_builtin F.entry_type_call ?_⟩
  rw [Around.under_plain (weight_type_call_type "set" [.ref l] []) rfl]
  have f1 := F.called_set.notType
  have f2 := F.called_set.canCreate
  have f3 := F.typeCall_set_1 (.ref l)
  repeat (any_goals (first | assumption | wp_step))

  refine codeAny_mono (code_set_led1 (.ref l) (E := E) (Q₁ := fun ob s1 => ob = .ref s.heap.objs.size ∧ s1 = { s with heap := s.heap.push (eset w) }) ⟨rfl, rfl⟩) fun r s1 hr => ?_
  cases r with
  | error e => exact hr
  | ok fl =>
    cases fl with
    | ret ob =>
      obtain ⟨rfl, rfl⟩ := hr
      have hS : (s.heap.push (eset w)).get? s.heap.objs.size = some (eset w) := Heap.get?_push_size _ rfl
      have hT : Shared.TypeIs { s with heap := s.heap.push (eset w) } (.ref s.heap.objs.size) "set" := ⟨_, hS, rfl⟩
      have g1 := F.called_set.init.lookup
      have g2 := F.called_set.init.bind (.ref s.heap.objs.size)
      repeat (any_goals (first | assumption | wp_step))

      refine codeAny_mono (codeAny_call_builtin (R := wants (fun r s2 => r = .none ∧ ∃ h' tk c, s2 = { s with heap := h', toks := tk } ∧ SetR w h' s.heap.objs.size (fun j => decide (j ∈ ns)) c ∧
          (∀ b o, s.heap.get? b = some o → h'.get? b = some o)) E) F.called_set.init.plain F.entry_set_init (check_set_init_1 hT ?_)) fun r2 s2 hr2 => ?_
      · obtain ⟨⟨cl, dd, dt, sl⟩, hol, hcl, nl, hdl⟩ := hl
        simp only at hcl hdl
        subst hcl; subst hdl
        have hol2 : (s.heap.push (eset w)).get? l = some { cls := .type "list", dict := dd, data := .seq items nl, slots := sl } := Heap.get?_push_of_some _ hol
        have k1 := F.sub_list_set
        have k2 := F.sub_list_frozenset
        have k3 : (Value.type "list" == Value.type "dict") = false := by decide
        have hl1 : (s.heap.push (eset w)).IsList l items := ⟨_, hol2, rfl, nl, rfl⟩
        unfold Builtin.«set.__init__» noKeywords Builtin.Frozenset.updateFrom
        generalize hPI : pyIter = PI
        wp_walk
        subst hPI

        refine wpAny_pyIter_list hl1 ?_
        refine wpAny_bind (wpAny_runValue ?_)
        have hlS : l < s.heap.objs.size := Heap.lt_size hol
        have hh3 : A.in1.in1.in1.handled = none := by simp [hh]
        have hz1 : (s.heap.push (eset w)).objs.size = s.heap.objs.size + 1 := Heap.size_push ..
        have hneI : l ≠ (s.heap.push (eset w)).objs.size := by
          rw [hz1]; exact Nat.ne_of_lt (Nat.lt_succ_of_lt hlS)
        have hSf : s.heap.objs.size ∉ [(s.heap.push (eset w)).objs.size, l] := by
          rw [hz1]; simp only [List.mem_cons, List.not_mem_nil, or_false, not_or]
          exact ⟨Nat.ne_of_lt (Nat.lt_succ_self _), Nat.ne_of_gt hlS⟩
        have hval : ∀ (i : Nat) (v : Value), items[i]? = some v → ∃ k t, ns[i]? = some k ∧ v = .int k t := fun i v hv => by
          have hi : i < ns.length := by rw [← hisz]; exact (Array.getElem?_eq_some_iff.mp hv).1
          obtain ⟨t, e⟩ := PyProof.Rows.IntsAre.int_at hit i v (by rw [Array.getElem?_toList]; exact hv)
          refine ⟨ns[i], t, List.getElem?_eq_getElem hi, ?_⟩
          rw [e, List.getD_eq_getElem?_getD, List.getElem?_eq_getElem hi] <;> rfl
        refine set_update_ints ((Walks.list hh3 _ l hneI items).toS) s.heap.objs.size hSf ns hisz hb hval (items.size - 0) 0 _ (by omega) (Nat.zero_le _)
          ⟨⟨_, Heap.get?_push_size _ rfl, rfl, rfl⟩, (hl1.push _)⟩ ?hS0 ?hR
        case hS0 => exact ⟨0, Nat.le_refl 0, setR_new_at (Heap.get?_push_of_some _ hS)⟩
        case hR =>
          intro s' c' hm hc' hS'
          obtain ⟨h', g', d', tk', os'⟩ := s'
          obtain rfl : g' = s.gens := hm.gens
          obtain rfl : d' = s.drawn := hm.drawn
          obtain rfl : os' = s.os := hm.os
          show wpAny _ _ _ _ _ _
          refine wpAny_pure ?_
          show wpAny _ _ (ret Value.none) _ _ _
          refine wpAny_pure ⟨rfl, h', tk', c', rfl, hS', fun b o e => ?_⟩
          have hb0 : b < s.heap.objs.size := Heap.lt_size e
          refine hm.heap b o ?_ (Heap.get?_push_of_some _ (Heap.get?_push_of_some _ e))
          rw [hz1]
          simp only [List.mem_cons, List.not_mem_nil, or_false, not_or]
          exact ⟨Nat.ne_of_lt hb0, Nat.ne_of_lt (Nat.lt_succ_of_lt hb0)⟩
      · cases r2 with
        | error e => exact hr2
        | ok f2 =>
          cases f2 with
          | ret r =>
            obtain ⟨rfl, h', tk, c, rfl, hS', hk'⟩ := hr2
            repeat (any_goals (first | assumption | wp_step))
            exact h _ _ _ hS' hk'
          | next => exact hr2
          | brk => exact hr2
          | cont => exact hr2
    | next => exact hr
    | brk => exact hr
    | cont => exact hr
end
end PVS

/-! PV, part G: enumerate of a tuple; isinstance; what is walked. -/
namespace PVE
open PySem PySem.Spec PyProof.Rows L2
set_option maxHeartbeats 1000000 in
theorem new_enum {v : Value} {o : Obj} {T : Heap → Prop} (B : Begins v o T) :
    Meets (Builtin.«enumerate.__new__» ⟨[.type "enumerate", v], []⟩) (fun _ R s => T s.heap ∧
      R (.ok (.ret (.ref (s.heap.push o).objs.size))) { s with heap := (s.heap.push o).push { cls := .type "enumerate", data := .fields #[.none, .bool false, .ref s.heap.objs.size, rawInt 0, .none, .none] } }) :=
  .of_wp fun prog w A R s h => by
    obtain ⟨hp, g, d, tk, os⟩ := s
    obtain ⟨h1, h⟩ := h
    have sub := sub_enumerate
    have it1 : ∀ {A' : Around} {E : Value → Shared → Prop} {Q : Value → Shared → Prop}, Q (.ref hp.objs.size) ⟨hp.push o, g, d, tk, os⟩ → wpAny (model prog w) A' (pyIter v) Q E ⟨hp, g, d, tk, os⟩ :=
      fun q => B.iter prog w _ _ ⟨hp, g, d, tk, os⟩ _ h1 q
    wp_walk using it1
    refine wpAny_stack_any fun st => wpAny_pure ?_
    split
    · rename_i c _ _ _ _ _
      cases (c == Value.type "enumerate") <;> (wp_walk using it1; exact ⟨_, rfl, h⟩)
    · wp_walk using it1
      exact ⟨_, rfl, h⟩
section
variable {prog : Program} {w : World} {A : Around} {E : Value → Shared → Prop} {s : Shared}
theorem call_enum {v : Value} {o : Obj} {T : Heap → Prop} {Q : Value → Shared → Prop} (B : Begins v o T) (h1 : T s.heap)
    (h : ∀ h', IsEnum h' (s.heap.objs.size + 1) s.heap.objs.size 0 .none → h'.get? s.heap.objs.size = some o →
      (∀ b o, s.heap.get? b = some o → h'.get? b = some o) → Q (.ref (s.heap.objs.size + 1)) { s with heap := h' }) :
    wpAny (model prog w) A (call (.type "enumerate") [v]) Q E s := by
  refine callType_new F.called_enumerate (by decide) (F.typeCall_enumerate_1 _) (F.newCall_enumerate_1 _) (fun obj => F.args_object_init_2 obj _) F.entry_enumerate_new (new_enum B) ⟨h1, ?_⟩
  have hz : (s.heap.push o).objs.size = s.heap.objs.size + 1 := Heap.size_push ..
  have he : IsEnum ((s.heap.push o).push { cls := .type "enumerate", data := .fields #[.none, .bool false, .ref s.heap.objs.size, rawInt 0, .none, .none] }) (s.heap.objs.size + 1) s.heap.objs.size 0 .none := by
    have q := Heap.get?_push_size (s.heap.push o) (o := { cls := .type "enumerate", data := .fields #[.none, .bool false, .ref s.heap.objs.size, rawInt 0, .none, .none] }) rfl
    rw [hz] at q; exact q
  show _ ∧ _
  rw [hz]
  exact ⟨⟨_, he, rfl⟩, h _ he (Heap.get?_push_of_some _ (Heap.get?_push_size _ B.free)) fun b o x => Heap.get?_push_of_some _ (Heap.get?_push_of_some _ x)⟩
end
/-- the tuple at a, each item in a new pair with its place -/
def IteT (K : PySem.W.Frag) (a : Addr) : It :=
  ⟨fun i H => ∃ (xs : List V) (x : V), SqT K H a xs ∧ xs[i]? = some x, fun i H v H' => ∃ T x, v = .ref T ∧ H T = none ∧ H' = upd H T (.tup [.int (i : Nat), x]) ∧ ∀ xs, SqT K H a xs → xs[i]? = some x, fun i H => ∃ xs : List V, SqT K H a xs ∧ xs.length ≤ i⟩
theorem apart {h : Heap} {e it a : Addr} {i : Int} {old : Value} {its : Array Value} (he : IsEnum h e it i old) (t : IsTup h a its) : e ≠ a := fun z => by
  subst z
  obtain ⟨o, ho, hc, _⟩ := t
  rw [show h.get? e = some _ from he] at ho
  cases ho
  exact absurd (show Value.type "enumerate" = Value.type "tuple" from hc) (by decide +kernel)
theorem apart2 {h : Heap} {it a : Addr} {i : Nat} {its : Array Value} (he : h.IsTupleIter it a i) (t : IsTup h a its) : a ≠ it := fun z => by
  subst z
  obtain ⟨o, ho, hc, _⟩ := t
  obtain ⟨o', ho', hc', _⟩ := he
  rw [ho'] at ho
  cases ho
  rw [hc] at hc'
  exact absurd hc' (by decide +kernel)
theorem turn_enumT {P : Program} {w : World} {K : PySem.W.Frag} {elts : List Expr} {kk : Nat} {tpos : Pos} (a e it : Addr) :
    Turn P w K (.Tuple elts kk tpos) (IteT K a) [e, it] e (fun i h => (∃ old, IsEnum h e it ((i : Nat) : Int) old) ∧ h.IsTupleIter it a i ∧ e ≠ it) where
  mem := List.mem_cons_self
  obj := fun i h st b hb => by
    obtain ⟨⟨old, he⟩, ⟨o, ho, hc, hd⟩, _⟩ := st
    rcases List.mem_cons.mp hb with z | z
    · rw [z]; exact ⟨_, he, fun v q => nomatch q⟩
    · rw [List.mem_singleton.mp z]; exact ⟨o, ho, fun v q => by rw [hd] at q; cases q⟩
  keep := fun i h h' st k => let ⟨⟨old, he⟩, hi, hne⟩ := st; ⟨⟨old, k e (by simp) _ he⟩, hi.at fun o q => k it (by simp) o q, hne⟩
  item := by
    intro X hP hw hK hc i pins s σ H E I hf st hg
    subst hP hw hK
    obtain ⟨⟨old, he⟩, hit, hne⟩ := st
    obtain ⟨xs, x, hq, hx⟩ := hg
    obtain ⟨its, rv, p, hz⟩ := I.tuple hq
    obtain ⟨u, hu, ru⟩ := rv.get hx
    have hel : e < s.heap.objs.size := Heap.lt_size he
    have hil : it < s.heap.objs.size := by obtain ⟨_, q, _⟩ := hit; exact Heap.lt_size q
    have hh : X.A.in1.handled = none := I.ok.hd hc
    have hi : i < its.toArray.size := (Array.getElem?_eq_some_iff.mp (show its.toArray[i]? = some u by simpa using hu)).1
    have hea := apart he p
    refine wpAny_pyNext_enum_itemD (Draws.tuple hh it a (apart2 hit p) its.toArray) he ⟨hit, p⟩ hi hne (by simp [hne, hea]) fun y h' tk hy ho st' hT hsz hk => ?_
    have ey : y = u := Option.some.inj (hy.symm.trans (by simpa using hu))
    subst ey
    refine ⟨_, rfl, wpAny_letOwnedTupleGo_enum (s := { s with heap := h', toks := tk + 1 }) ho fun h'' he' sb => ?_⟩
    have hT2 : h''.get? s.heap.objs.size = some { cls := .type "tuple", data := .seq #[.int i tk, y] } := (sb.2 _ (Nat.ne_of_gt hel)).trans hT
    have new : ObjOk X.prog X.w (upd H s.heap.objs.size (.tup [.int (i : Nat), x])) h'' s.heap.objs.size (.tup [.int (i : Nat), x]) :=
      ⟨by show 2 ≤ sizeLine; decide, [.int i tk, y], .cons ⟨_, rfl⟩ (.cons ru .nil), ⟨_, hT2, rfl, _, rfl⟩⟩
    have I1 : Inv X pins σ (upd H s.heap.objs.size (.tup [.int (i : Nat), x])) { s with heap := h'', toks := tk + 1 } :=
      I.turnedNew (ch := [e, it]) (fun b ob hb q => (sb.2 b (fun z => hb (by simp [z]))).trans (hk b ob (fun z => hb (by simp [z])) (fun z => hb (by simp [z])) q)) hf (Nat.le_refl _) new
    refine ⟨.ref s.heap.objs.size, _, I1, rfl, ⟨_, x, rfl, I.hok.fresh (Nat.le_refl _), rfl, fun ys hy => by rw [I.tuple_inj hy hq]; exact hx⟩, ⟨⟨y, ?_⟩, st'.1.at fun o q => (sb.2 it (Ne.symm hne)).trans q, hne⟩, fun b hb => ?_⟩
    · rw [show ((i + 1 : Nat) : Int) = (i : Int) + 1 by omega]; exact he'
    · have hb' : b < s.heap.objs.size := by
        rcases List.mem_cons.mp hb with z | z
        · rw [z]; exact hel
        · rw [List.mem_singleton.mp z]; exact hil
      rw [upd_ne (Nat.ne_of_lt hb')]
      exact (hf b hb).1
  done := by
    intro X hP hw hK hc i pins s σ H E I hf st hg
    subst hP hw hK
    obtain ⟨⟨old, he⟩, hit, hne⟩ := st
    obtain ⟨xs, hq, hx⟩ := hg
    obtain ⟨its, rv, p, hz⟩ := I.tuple hq
    obtain ⟨f0, f1, f2, f3, f4, f5⟩ := hf it (by simp)
    have hl := rv.length
    have hh : X.A.in1.handled = none := I.ok.hd hc
    have D : Draws X.prog X.w X.A.in1 it [it, a] 0 (fun _ _ => True) (fun _ h => h.IsTupleIter it a i ∧ h.IsTuple a its.toArray) :=
      ⟨fun _ _ st => let ⟨o, ho, _⟩ := st.1; ⟨o, ho⟩, fun _ _ _ st k => ⟨st.1.at fun o e => k it (by simp) o e, st.2.at fun o e => k a (by simp) o e⟩, fun j _ _ _ z => absurd z (Nat.not_lt_zero j),
        fun s Q E st hE => wpAny_nextOf_tuple_end hh st.1 st.2 (by simp; omega) hE⟩
    exact wpAny_pyNext_enum_endD D he ⟨hit, p⟩ fun h' eb => ⟨rfl, I.turned (t' := s.toks) (fun b o hb q => eb b o hb q) f0 f1 f3 f4 f5⟩
  self := fun A i s Q E st h => let ⟨⟨_, he⟩, _⟩ := st; wpAny_pyIter_enum he h
end PVE

/-! PV, part U: tuples whose very object is known (so that methods are found on them). -/
namespace PVU
open PySem PySem.Spec PyProof.Rows L2
/-- what is wanted of a new tuple -/
def NewT (xs : List V) (H : Hp) (Q : VK) : Prop := ∀ (p : Addr) (o : Obj), H p = none → o.dict = none → Q (.ref p) (upd H p (.frz o (.tup xs)))
section
variable {X : Cx} {pins : List (Addr × Obj)} {s : Shared} {σ : L2.St} {H : Hp} {Q : VK} {xs ys : List V} {its : List Value} {h' : Heap} {t' : Nat}
theorem laid (I : L2.Inv X pins σ H s) (r : Vals xs its) (z : xs.length ≤ sizeLine) (k : ∀ b u, s.heap.get? b = some u → h'.get? b = some u) {p : Addr} (hp : s.heap.objs.size ≤ p)
    (e : h'.get? p = some { cls := .type "tuple", data := .seq its.toArray }) (q : NewT xs H Q) : EP X pins σ Q (.ref p) { s with heap := h', toks := t' } :=
  ⟨.ref p, _, I.laid k hp (o := .frz { cls := .type "tuple", data := .seq its.toArray } (.tup xs)) ⟨e, z, its, r, ⟨_, e, rfl, _, rfl⟩⟩, rfl, q p _ (I.hok.fresh hp) rfl⟩
theorem pe_tupF {es : List Expr} {t : TA} {k : Nat} {pos : Pos} (h : PA X es t) : PE X (.Tuple es k pos) (fun σ H Q => t σ H fun xs H1 => xs.length ≤ sizeLine ∧ NewT xs H1 Q) := by
  refine ⟨fun pins s σ H Q I hq => wpAny_Tuple_spliced (thn (h.run pos pins s σ H _ I hq) fun us s1 ⟨xs, H1, I1, r, z, q⟩ => ⟨by rw [← r.length]; exact z, ?_⟩)⟩
  exact laid (t' := s1.toks) I1 r z (fun b u e => Heap.get?_push_of_some _ e) (Nat.le_refl _) (Heap.get?_push_size _ rfl) q
theorem call_tupF : CallR X (.type "tuple") (fun xs H Q => ∃ p ys, xs = [.ref p] ∧ ((SqL X.K H p ys ∧ NewT ys H Q) ∨ (SqT X.K H p ys ∧ Q (.ref p) H))) := by
  intro pins s σ H xs us Q I r h
  obtain ⟨p, ys, rfl, h⟩ := h
  obtain ⟨u, rfl, rx⟩ := vals1 r
  cases rx
  rcases h with ⟨hq, q⟩ | ⟨hq, q⟩
  · obtain ⟨its, r', pl, hz⟩ := I.list hq
    refine call_tuple_list pl.isList (fun h' kp => ?_) (by rw [List.size_toArray, ← r'.length]; exact hz)
    have I1 : L2.Inv X pins σ H { s with heap := h' } := I.kept (t' := s.toks) kp
    exact laid (s := { s with heap := h' }) (t' := s.toks) I1 r' hz (fun b o e => Heap.get?_push_of_some _ e) (Nat.le_refl _) (Heap.get?_push_size _ rfl) q
  · obtain ⟨its, r', pl, hz⟩ := I.tuple hq
    exact call_tuple_same pl ⟨.ref p, H, I, rfl, q⟩
theorem op_catF : OpR X (binaryOp .Add) (fun x y H Q => ∃ a b xs ys, x = .ref a ∧ y = .ref b ∧ SqT X.K H a xs ∧ SqT X.K H b ys ∧ xs.length + ys.length ≤ sizeLine ∧
    (xs = [] → Q (.ref b) H) ∧ (ys = [] → Q (.ref a) H) ∧ NewT (xs ++ ys) H Q) := by
  intro pins s σ H x y v u Q I rx ry h
  obtain ⟨a, b, xs, ys, rfl, rfl, ha, hb, hz, q1, q2, q3⟩ := h
  cases rx
  cases ry
  obtain ⟨its, r1, p1, _⟩ := I.tuple ha
  obtain ⟨its2, r2, p2, _⟩ := I.tuple hb
  by_cases hx : its = []
  · subst hx
    cases r1
    exact L2.cat_tup0 p1 p2 ⟨.ref b, H, I, rfl, q1 rfl⟩
  · refine HT.cat_tup p1 p2 hx (fun z => ?_) (fun z => ?_) (by rw [← r1.length, ← r2.length]; exact hz)
    · subst z
      cases r2
      exact ⟨.ref a, H, I, rfl, q2 rfl⟩
    · exact laid (t' := s.toks) I (r1.append r2) (by rw [List.length_append]; exact hz) (fun b o e => Heap.get?_push_of_some _ e) (Nat.le_refl _) (Heap.get?_push_size _ rfl) q3
theorem sl_tupF : SlR X (fun x lo hi H Q => ∃ a xs, x = .ref a ∧ SqT X.K H a xs ∧ (cutV xs lo hi = xs → Q (.ref a) H) ∧ NewT (cutV xs lo hi) H Q) := by
  intro pins s σ H x v vl vu lo hi sl Q I rx hs pl pu h
  obtain ⟨a, xs, rfl, hx, q1, q2⟩ := h
  cases rx
  obtain ⟨its, r, ht, hz⟩ := I.tuple hx
  have hlen : its.toArray.size = xs.length := by rw [List.size_toArray]; exact r.length.symm
  refine ⟨"tuple", _, PyProof.Rows.slot_tuple_getitem.lookup, ht.typeIs, ?_⟩
  by_cases hw : HT.sIx xs.length 0 lo = 0 ∧ HT.sIx xs.length xs.length hi = xs.length
  · refine L2.getItem_tuple_whole ht hs pl pu (by rw [hlen]; exact hw) ⟨.ref a, H, I, rfl, q1 ?_⟩
    unfold cutV
    rw [hw.1, hw.2]
    simp
  · refine HT.getItem_tuple_cut ht hs pl pu (by rw [hlen]; exact hw) ?_ (by rw [hlen]; exact hz)
    rw [hlen]
    refine laid (t' := s.toks) I (its := (its.drop (HT.sIx xs.length 0 lo)).take (HT.sIx xs.length xs.length hi - HT.sIx xs.length 0 lo)) ?_ (Nat.le_trans (cutV_length xs lo hi) hz) (fun b o e => Heap.get?_push_of_some _ e) (Nat.le_refl _) ?_ q2
    · exact (r.drop _).take _
    · exact Heap.get?_push_size _ rfl
theorem pe_tupRgF {e : Expr} {te : L2.St → Hp → (Int → Int → Hp → Prop) → Prop} {p pos : Pos} (hc : X.calm = true) (hg : Gl X "tuple") (hm : X.mg "tuple" = none) (he : PRg X e te) (na : starEach [e] X.env = (false, eval e X.env) :: starEach [] X.env) :
    PE X (.Call (.Name "tuple" p) [e] [] pos) (fun σ H Q => te σ H fun a b H1 => RgOk a b ∧ NewT (rgV a b) H1 Q) := by
  refine ⟨fun pins s σ H Q I h => ?_⟩
  refine Call_ (ld_blt I hg hm boot_tuple (PyProof.Rows.callWith_type1 (args_cons (thn (he pins s σ H _ I h) fun x s1 ⟨r, a, b, t, u, v, H1, ex, hr, I1, ok, q⟩ => args_nil ?_) na) na))
  subst ex
  obtain ⟨b1, b2, b3, b4, b5⟩ := ok
  refine call_tuple_range (n := (b - a).toNat) (I1.ok.hd hc) hr (small_one b1 b2 b3 b4) (rangeSize_nat a b) b5 fun h' tk acc hk hi => ?_
  have I2 : L2.Inv X pins σ H1 { s1 with heap := h', toks := tk } := I1.kept hk
  refine laid (s := { s1 with heap := h', toks := tk }) (t' := tk) I2 (its := acc.toList) (vals_rg hi) (by rw [rgV_length, sizeLine_eq]; omega) (fun c o e => Heap.get?_push_of_some _ e) (Nat.le_refl _) ?_ q
  rw [Array.toArray_toList]
  exact Heap.get?_push_size _ rfl
end
end PVU

/-! PV, part A: pure values, how they lie in the abstract heap, slots, steps. -/
namespace PV
open PySem PySem.Spec PyProof.Rows L2
abbrev St := L2.St

/-- a pure value -/
inductive D where
  | non | bl (b : Bool) | int (i : Int) | str (s : Str)
  | tup (xs : List D) | lst (xs : List D) | dct (ks vs : List D) | set (ns : List Int)
  /-- the script: a list of ints that is read alone -/
  | scr (ns : List Int)
  /-- a pair as a walk hands it out: it is unpacked at once -/
  | rtp (xs : List D)
  deriving Inhabited

/-- a key of a dict, as a pure value -/
def kD : Key → D
  | .inl i => .int i
  | .inr s => .str s
def SetIs (S : Int → Bool) (n : Nat) (ns : List Int) : Prop := ns.Nodup ∧ n = ns.length ∧ ∀ k, S k = true ↔ k ∈ ns

/-- a list that is read alone -/
def SqF (K : PySem.W.Frag) (H : Hp) (a : Addr) (xs : List V) : Prop :=
  (∃ o, H a = some (.frz o (.lst xs))) ∨
    ∃ (o : Obj) (its : Array Value) (n : Nat), K.lookup a = some o ∧ o.cls = .type "list" ∧ o.dict = none ∧ o.data = .seq its n ∧ its.size ≤ sizeLine ∧ Vals xs its.toList
theorem SqF.sq {K : PySem.W.Frag} {H : Hp} {a : Addr} {xs : List V} (h : SqF K H a xs) : SqL K H a xs := h.elim (fun h => .inl (.inr h)) .inr
/-- a tuple that methods are found on -/
def TupOk (K : PySem.W.Frag) (H : Hp) (a : Addr) (xs : List V) : Prop :=
  (∃ o, o.dict = none ∧ H a = some (.frz o (.tup xs))) ∨
    ∃ (o : Obj) (its : Array Value) (n : Nat), K.lookup a = some o ∧ o.cls = .type "tuple" ∧ o.dict = none ∧ o.data = .seq its n ∧ its.size ≤ sizeLine ∧ Vals xs its.toList
theorem TupOk.sq {K : PySem.W.Frag} {H : Hp} {a : Addr} {xs : List V} (h : TupOk K H a xs) : SqT K H a xs :=
  h.elim (fun ⟨o, _, h⟩ => .inl (.inr ⟨o, h⟩)) fun ⟨o, its, n, h1, h2, _, h3, h4, h5⟩ => .inr ⟨o, its, n, h1, h2, h3, h4, h5⟩
/-- objects that nothing changes -/
def Fz (o : HO) : Prop := (∃ xs, o = .tup xs) ∨ ∃ ob u, o = .frz ob u
section
variable (K : PySem.W.Frag) (w : World) (R : Addr → Prop) (H : Hp)
mutual
/-- v is the value d; R: the objects that nobody changes any more -/
def Rep : D → V → Prop
  | .non, v => v = .non
  | .bl b, v => v = .bl b
  | .int i, v => v = .int i
  | .str s, v => v = .str s
  | .tup ds, v => ∃ a xs, v = .ref a ∧ TupOk K H a xs ∧ Reps ds xs
  | .rtp ds, v => ∃ a xs, v = .ref a ∧ SqT K H a xs ∧ Reps ds xs
  | .lst ds, v => ∃ a xs, v = .ref a ∧ R a ∧ H a = some (.lst xs) ∧ Reps ds xs
  | .scr ns, v => ∃ a, v = .ref a ∧ SqF K H a (ns.map V.int)
  | .dct ks vs, v => ∃ a xs, v = .ref a ∧ R a ∧ Reps vs xs ∧
      ((∃ kvs, H a = some (.dK kvs) ∧ ks = kvs.map (fun p => kD p.1) ∧ xs = kvs.map (·.2)) ∨
        ∃ kvs, H a = some (.dT kvs) ∧ ks = kvs.map (fun p => .tup (p.1.map kD)) ∧ xs = kvs.map (·.2))
  | .set ns, v => ∃ a S n, v = .ref a ∧ R a ∧ H a = some (SetO w a S n) ∧ SetIs S n ns
def Reps : List D → List V → Prop
  | [], [] => True
  | d :: ds, x :: xs => Rep d x ∧ Reps ds xs
  | _, _ => False
end
/-- the object at a, that may be changed, is d -/
def Top (a : Addr) : D → Prop
  | .lst ds => ∃ xs, H a = some (.lst xs) ∧ Reps K w R H ds xs
  | .dct ks vs => ∃ xs, Reps K w R H vs xs ∧
      ((∃ kvs, H a = some (.dK kvs) ∧ ks = kvs.map (fun p => kD p.1) ∧ xs = kvs.map (·.2)) ∨
        ∃ kvs, H a = some (.dT kvs) ∧ ks = kvs.map (fun p => .tup (p.1.map kD)) ∧ xs = kvs.map (·.2))
  | .set ns => ∃ S n, H a = some (SetO w a S n) ∧ SetIs S n ns
  | _ => False
/-- for reading: whether it may be changed or not -/
def RepT (d : D) (v : V) : Prop := Rep K w R H d v ∨ ∃ a, v = .ref a ∧ Top K w R H a d
end

section
variable {K : PySem.W.Frag} {w : World} {R R' : Addr → Prop} {H H' : Hp}
theorem Reps.length : ∀ {ds : List D} {xs : List V}, Reps K w R H ds xs → ds.length = xs.length
  | [], [], _ => rfl
  | d :: ds, x :: xs, h => by
    have := Reps.length (ds := ds) (xs := xs) h.2
    simp [this]
  | [], _ :: _, h => h.elim
  | _ :: _, [], h => h.elim
theorem Reps.get : ∀ {ds : List D} {xs : List V} {i : Nat} {d : D}, Reps K w R H ds xs → ds[i]? = some d → ∃ x, xs[i]? = some x ∧ Rep K w R H d x
  | [], [], _, _, _, e => by simp at e
  | d :: ds, x :: xs, 0, d', h, e => by
    simp at e
    subst e
    exact ⟨x, rfl, h.1⟩
  | d :: ds, x :: xs, i + 1, d', h, e => Reps.get (ds := ds) (xs := xs) (i := i) h.2 (by simpa using e)
  | [], _ :: _, _, _, h, _ => h.elim
  | _ :: _, [], _, _, h, _ => h.elim
theorem Reps.get' : ∀ {ds : List D} {xs : List V} {i : Nat} {x : V}, Reps K w R H ds xs → xs[i]? = some x → ∃ d, ds[i]? = some d ∧ Rep K w R H d x
  | [], [], _, _, _, e => by simp at e
  | d :: ds, x :: xs, 0, x', h, e => by
    simp at e
    subst e
    exact ⟨d, rfl, h.1⟩
  | d :: ds, x :: xs, i + 1, x', h, e => Reps.get' (ds := ds) (xs := xs) (i := i) h.2 (by simpa using e)
  | [], _ :: _, _, _, h, _ => h.elim
  | _ :: _, [], _, _, h, _ => h.elim
theorem Reps.append : ∀ {ds es : List D} {xs ys : List V}, Reps K w R H ds xs → Reps K w R H es ys → Reps K w R H (ds ++ es) (xs ++ ys)
  | [], _, [], _, _, h => h
  | d :: ds, es, x :: xs, ys, h, h' => ⟨h.1, Reps.append (ds := ds) (xs := xs) h.2 h'⟩
  | [], _, _ :: _, _, h, _ => h.elim
  | _ :: _, _, [], _, h, _ => h.elim
theorem Reps.set {d : D} {x : V} (r : Rep K w R H d x) : ∀ {ds : List D} {xs : List V} (i : Nat), Reps K w R H ds xs → Reps K w R H (ds.set i d) (xs.set i x)
  | [], [], _, h => h
  | _ :: _, _ :: _, 0, h => ⟨r, h.2⟩
  | e :: ds, y :: xs, i + 1, h => ⟨h.1, Reps.set r (ds := ds) (xs := xs) i h.2⟩
  | [], _ :: _, _, h => h.elim
  | _ :: _, [], _, h => h.elim
theorem Reps.take : ∀ {ds : List D} {xs : List V} (i : Nat), Reps K w R H ds xs → Reps K w R H (ds.take i) (xs.take i)
  | [], [], i, h => by simpa using h
  | _ :: _, _ :: _, 0, h => trivial
  | e :: ds, y :: xs, i + 1, h => ⟨h.1, Reps.take (ds := ds) (xs := xs) i h.2⟩
  | [], _ :: _, _, h => h.elim
  | _ :: _, [], _, h => h.elim
theorem Reps.drop : ∀ {ds : List D} {xs : List V} (i : Nat), Reps K w R H ds xs → Reps K w R H (ds.drop i) (xs.drop i)
  | [], [], i, h => by simpa using h
  | _ :: _, _ :: _, 0, h => h
  | e :: ds, y :: xs, i + 1, h => Reps.drop (ds := ds) (xs := xs) i h.2
  | [], _ :: _, _, h => h.elim
  | _ :: _, [], _, h => h.elim
theorem Reps.eraseIdx : ∀ {ds : List D} {xs : List V} (i : Nat), Reps K w R H ds xs → Reps K w R H (ds.eraseIdx i) (xs.eraseIdx i)
  | [], [], i, h => by simpa using h
  | _ :: _, _ :: _, 0, h => h.2
  | e :: ds, y :: xs, i + 1, h => ⟨h.1, Reps.eraseIdx (ds := ds) (xs := xs) i h.2⟩
  | [], _ :: _, _, h => h.elim
  | _ :: _, [], _, h => h.elim
theorem Reps.ints : ∀ {ns : List Int} {xs : List V}, Reps K w R H (ns.map D.int) xs → xs = ns.map V.int
  | [], [], _ => rfl
  | n :: ns, x :: xs, h => by
    have e := Reps.ints (ns := ns) (xs := xs) h.2
    have e1 : x = V.int n := h.1
    rw [e, e1]; rfl
  | [], _ :: _, h => h.elim
  | _ :: _, [], h => h.elim
theorem reps_ints : ∀ (ns : List Int), Reps K w R H (ns.map D.int) (ns.map V.int)
  | [] => trivial
  | n :: ns => ⟨rfl, reps_ints ns⟩
theorem Reps.bls : ∀ {ns : List Bool} {xs : List V}, Reps K w R H (ns.map D.bl) xs → xs = ns.map V.bl
  | [], [], _ => rfl
  | n :: ns, x :: xs, h => by
    have e := Reps.bls (ns := ns) (xs := xs) h.2
    have e1 : x = V.bl n := h.1
    rw [e, e1]; rfl
  | [], _ :: _, h => h.elim
  | _ :: _, [], h => h.elim

theorem sqT_keep {a : Addr} {xs : List V} (hT : ∀ a o, Fz o → H a = some o → H' a = some o) (h : SqT K H a xs) : SqT K H' a xs := by
  rcases h with (h | ⟨o, h⟩) | h
  · exact .inl (.inl (hT _ _ (.inl ⟨_, rfl⟩) h))
  · exact .inl (.inr ⟨o, hT _ _ (.inr ⟨_, _, rfl⟩) h⟩)
  · exact .inr h
theorem tupOk_keep {a : Addr} {xs : List V} (hT : ∀ a o, Fz o → H a = some o → H' a = some o) (h : TupOk K H a xs) : TupOk K H' a xs := by
  rcases h with ⟨o, n, h⟩ | h
  · exact .inl ⟨o, n, hT _ _ (.inr ⟨_, _, rfl⟩) h⟩
  · exact .inr h
theorem sqF_keep {a : Addr} {xs : List V} (hT : ∀ a o, Fz o → H a = some o → H' a = some o) (h : SqF K H a xs) : SqF K H' a xs := by
  rcases h with ⟨o, h⟩ | h
  · exact .inl ⟨o, hT _ _ (.inr ⟨_, _, rfl⟩) h⟩
  · exact .inr h

mutual
theorem Rep.keep (hR : ∀ a, R a → R' a) (hT : ∀ a o, Fz o → H a = some o → H' a = some o) (hK : ∀ a o, R a → H a = some o → H' a = some o) : ∀ (d : D) (v : V), Rep K w R H d v → Rep K w R' H' d v
  | .non, _, h => h
  | .bl _, _, h => h
  | .int _, _, h => h
  | .str _, _, h => h
  | .tup ds, _, h => by
    obtain ⟨a, xs, e, h1, h2⟩ := h
    exact ⟨a, xs, e, tupOk_keep hT h1, Reps.keep hR hT hK ds xs h2⟩
  | .rtp ds, _, h => by
    obtain ⟨a, xs, e, h1, h2⟩ := h
    exact ⟨a, xs, e, sqT_keep hT h1, Reps.keep hR hT hK ds xs h2⟩
  | .lst ds, _, h => by
    obtain ⟨a, xs, e, r, h1, h2⟩ := h
    exact ⟨a, xs, e, hR a r, hK a _ r h1, Reps.keep hR hT hK ds xs h2⟩
  | .scr ns, _, h => by
    obtain ⟨a, e, h1⟩ := h
    exact ⟨a, e, sqF_keep hT h1⟩
  | .dct ks vs, _, h => by
    obtain ⟨a, xs, e, r, h2, h3⟩ := h
    refine ⟨a, xs, e, hR a r, Reps.keep hR hT hK vs xs h2, ?_⟩
    rcases h3 with ⟨kvs, h3, h4⟩ | ⟨kvs, h3, h4⟩
    · exact .inl ⟨kvs, hK a _ r h3, h4⟩
    · exact .inr ⟨kvs, hK a _ r h3, h4⟩
  | .set ns, _, h => by
    obtain ⟨a, S, n, e, r, h1, h2⟩ := h
    exact ⟨a, S, n, e, hR a r, hK a _ r h1, h2⟩
theorem Reps.keep (hR : ∀ a, R a → R' a) (hT : ∀ a o, Fz o → H a = some o → H' a = some o) (hK : ∀ a o, R a → H a = some o → H' a = some o) : ∀ (ds : List D) (xs : List V), Reps K w R H ds xs → Reps K w R' H' ds xs
  | [], [], _ => trivial
  | d :: ds, x :: xs, h => ⟨Rep.keep hR hT hK d x h.1, Reps.keep hR hT hK ds xs h.2⟩
  | [], _ :: _, h => h.elim
  | _ :: _, [], h => h.elim
end
theorem Top.keep {a : Addr} {d : D} (hR : ∀ a, R a → R' a) (hT : ∀ a o, Fz o → H a = some o → H' a = some o) (hK : ∀ a o, R a → H a = some o → H' a = some o) (ha : ∀ o, H a = some o → H' a = some o) (h : Top K w R H a d) : Top K w R' H' a d := by
  cases d with
  | lst ds =>
    obtain ⟨xs, h1, h2⟩ := h
    exact ⟨xs, ha _ h1, h2.keep hR hT hK⟩
  | dct ks vs =>
    obtain ⟨xs, h2, h3⟩ := h
    refine ⟨xs, h2.keep hR hT hK, ?_⟩
    rcases h3 with ⟨kvs, h3, h4⟩ | ⟨kvs, h3, h4⟩
    · exact .inl ⟨kvs, ha _ h3, h4⟩
    · exact .inr ⟨kvs, ha _ h3, h4⟩
  | set ns =>
    obtain ⟨S, n, h1, h2⟩ := h
    exact ⟨S, n, ha _ h1, h2⟩
  | _ => exact h.elim
/-- an object that may be changed is no longer -/
theorem Top.freeze {a : Addr} {d : D} (r : R a) (h : Top K w R H a d) : Rep K w R H d (.ref a) := by
  cases d with
  | lst ds =>
    obtain ⟨xs, h1, h2⟩ := h
    exact ⟨a, xs, rfl, r, h1, h2⟩
  | dct ks vs =>
    obtain ⟨xs, h2, h3⟩ := h
    exact ⟨a, xs, rfl, r, h2, h3⟩
  | set ns =>
    obtain ⟨S, n, h1, h2⟩ := h
    exact ⟨a, S, n, rfl, r, h1, h2⟩
  | _ => exact h.elim
theorem Top.there {a : Addr} {d : D} (h : Top K w R H a d) : ∃ o, H a = some o ∧ ∀ xs, o ≠ .tup xs := by
  cases d with
  | lst ds =>
    obtain ⟨xs, h1, h2⟩ := h
    exact ⟨_, h1, fun xs z => by cases z⟩
  | dct ks vs =>
    obtain ⟨xs, h2, h3⟩ := h
    rcases h3 with ⟨kvs, h3, h4⟩ | ⟨kvs, h3, h4⟩
    · exact ⟨_, h3, fun xs z => by cases z⟩
    · exact ⟨_, h3, fun xs z => by cases z⟩
  | set ns =>
    obtain ⟨S, n, h1, h2⟩ := h
    exact ⟨_, h1, fun xs z => by cases z⟩
  | _ => exact h.elim
theorem Top.nofrz {a : Addr} {d : D} {ob : Obj} {u : HO} (h : Top K w R H a d) (e : H a = some (.frz ob u)) : False := by
  cases d with
  | lst ds =>
    obtain ⟨xs, h1, h2⟩ := h
    rw [e] at h1; cases h1
  | dct ks vs =>
    obtain ⟨xs, h2, h3⟩ := h
    rcases h3 with ⟨kvs, h3, h4⟩ | ⟨kvs, h3, h4⟩
    · rw [e] at h3; cases h3
    · rw [e] at h3; cases h3
  | set ns =>
    obtain ⟨S, n, h1, h2⟩ := h
    rw [e] at h1; cases h1
  | _ => exact h.elim
end

/-! ### slots -/
inductive Sl where
  | un | ro (d : D) | own (d : D)
  deriving Inhabited
abbrev Rho := List Sl
/-- an expression's value: a value; a fresh object; what the slot holds -/
inductive Rs where
  | val (d : D) | fr (d : D) | al (i : Nat)
  deriving Inhabited

section
/-- b is the object of an own slot -/
def Own (ρ : Rho) (σ : St) (b : Addr) : Prop := ∃ (i : Nat) (d : D), ρ[i]? = some (Sl.own d) ∧ σ[i]? = some (some (V.ref b))

structure Mt (K : PySem.W.Frag) (w : World) (R : Addr → Prop) (ρ : Rho) (σ : St) (H : Hp) : Prop where
  len : ρ.length = σ.length
  trk : ∀ b, R b → H b ≠ none
  ro : ∀ (i : Nat) (d : D), ρ[i]? = some (Sl.ro d) → ∃ v, σ[i]? = some (some v) ∧ Rep K w R H d v
  own : ∀ (i : Nat) (d : D), ρ[i]? = some (Sl.own d) → ∃ a, σ[i]? = some (some (V.ref a)) ∧ ¬ R a ∧ Top K w R H a d
  inj : ∀ (i j : Nat) (d e : D) (a : Addr), ρ[i]? = some (Sl.own d) → ρ[j]? = some (Sl.own e) → σ[i]? = some (some (V.ref a)) → σ[j]? = some (some (V.ref a)) → i = j

/-- from an entry on: nothing but own objects changed, what is read alone was so, or was not there, or was own; the parameters stand -/
structure SS (K : PySem.W.Frag) (w : World) (np : Nat) (σ : St) (R : Addr → Prop) (ρ : Rho) (H : Hp) (σ' : St) (R' : Addr → Prop) (ρ' : Rho) (H' : Hp) : Prop where
  up : ∀ a, R a → R' a
  mt : Mt K w R' ρ' σ' H'
  fr : ∀ b o, H b = some o → ¬ Own ρ σ b → H' b = some o
  bd : ∀ b, R' b → R b ∨ H b = none ∨ Own ρ σ b
  mo : ∀ b, Own ρ' σ' b → Own ρ σ b ∨ H b = none
  nw : ∀ b, H b ≠ none → H' b ≠ none
  pm : ∀ (i : Nat), i < np → σ'[i]? = σ[i]?
/-- .. where the names stand -/
abbrev Step (K : PySem.W.Frag) (w : World) (σ : St) (R : Addr → Prop) (ρ : Rho) (H : Hp) (R' : Addr → Prop) (ρ' : Rho) (H' : Hp) : Prop := SS K w 0 σ R ρ H σ R' ρ' H'

def RR (K : PySem.W.Frag) (w : World) (R : Addr → Prop) (ρ : Rho) (σ : St) (H : Hp) (v : V) : Rs → Prop
  | .val d => Rep K w R H d v
  | .fr d => ∃ a, v = .ref a ∧ ¬ R a ∧ ¬ Own ρ σ a ∧ Top K w R H a d
  | .al i => σ[i]? = some (some v)
/-- a fresh object was not there -/
def FrN (H : Hp) (v : V) : Rs → Prop
  | .fr _ => ∀ a, v = .ref a → H a = none
  | _ => True
end

section
variable {K : PySem.W.Frag} {w : World} {R R' R1 R2 : Addr → Prop} {ρ ρ' ρ1 ρ2 : Rho} {σ : St} {H H' H1 H2 : Hp}

theorem Mt.ownTop (m : Mt K w R ρ σ H) {b : Addr} (h : Own ρ σ b) : ∃ d, ¬ R b ∧ Top K w R H b d := by
  obtain ⟨i, d, h1, h2⟩ := h
  obtain ⟨a, h3, h4, h5⟩ := m.own i d h1
  rw [h2] at h3
  cases h3
  exact ⟨d, h4, h5⟩
theorem Mt.keepT (m : Mt K w R ρ σ H) (fr : ∀ b o, H b = some o → ¬ Own ρ σ b → H' b = some o) : ∀ a o, Fz o → H a = some o → H' a = some o := by
  intro a o z h
  refine fr _ _ h fun q => ?_
  obtain ⟨d, _, t⟩ := m.ownTop q
  obtain ⟨o', e, n⟩ := t.there
  rw [h] at e
  cases e
  rcases z with ⟨xs, rfl⟩ | ⟨ob, u, rfl⟩
  · exact n xs rfl
  · exact t.nofrz h
theorem Mt.keepK (m : Mt K w R ρ σ H) (fr : ∀ b o, H b = some o → ¬ Own ρ σ b → H' b = some o) : ∀ a o, R a → H a = some o → H' a = some o := by
  intro a o r h
  refine fr a o h fun z => ?_
  obtain ⟨d, n, _⟩ := m.ownTop z
  exact n r
theorem SS.rep {np : Nat} {σ' : St} (m : Mt K w R ρ σ H) (s : SS K w np σ R ρ H σ' R' ρ' H') {d : D} {v : V} (h : Rep K w R H d v) : Rep K w R' H' d v :=
  Rep.keep s.up (m.keepT s.fr) (m.keepK s.fr) d v h
theorem SS.reps {np : Nat} {σ' : St} (m : Mt K w R ρ σ H) (s : SS K w np σ R ρ H σ' R' ρ' H') {ds : List D} {xs : List V} (h : Reps K w R H ds xs) : Reps K w R' H' ds xs :=
  Reps.keep s.up (m.keepT s.fr) (m.keepK s.fr) ds xs h
theorem SS.top {np : Nat} {σ' : St} (m : Mt K w R ρ σ H) (s : SS K w np σ R ρ H σ' R' ρ' H') {d : D} {a : Addr} (h : Top K w R H a d) (n : ¬ Own ρ σ a) : Top K w R' H' a d :=
  Top.keep s.up (m.keepT s.fr) (m.keepK s.fr) (fun o e => s.fr a o e n) h
theorem SS.refl {np : Nat} (m : Mt K w R ρ σ H) : SS K w np σ R ρ H σ R ρ H :=
  ⟨fun _ h => h, m, fun _ _ h _ => h, fun _ h => .inl h, fun _ h => .inl h, fun _ h => h, fun _ _ => rfl⟩
theorem Step.refl (m : Mt K w R ρ σ H) : Step K w σ R ρ H R ρ H := SS.refl m
theorem SS.trans {np : Nat} {σ1 σ2 : St} (s : SS K w np σ R ρ H σ1 R1 ρ1 H1) (t : SS K w np σ1 R1 ρ1 H1 σ2 R2 ρ2 H2) : SS K w np σ R ρ H σ2 R2 ρ2 H2 where
  up := fun a h => t.up a (s.up a h)
  mt := t.mt
  fr := fun b o h n => t.fr b o (s.fr b o h n) fun z => by
    rcases s.mo b z with q | q
    · exact n q
    · rw [h] at q; cases q
  bd := fun b h => by
    rcases t.bd b h with h | h | h
    · exact s.bd b h
    · refine .inr (.inl ?_)
      cases e : H b with
      | none => rfl
      | some o => exact absurd h (s.nw b (by rw [e]; simp))
    · rcases s.mo b h with q | q
      · exact .inr (.inr q)
      · exact .inr (.inl q)
  mo := fun b h => by
    rcases t.mo b h with q | q
    · exact s.mo b q
    · refine .inr ?_
      cases e : H b with
      | none => rfl
      | some o => exact absurd q (s.nw b (by rw [e]; simp))
  nw := fun b h => t.nw b (s.nw b h)
  pm := fun i h => (t.pm i h).trans (s.pm i h)
theorem SS.np {np mp : Nat} (s : SS K w np σ R ρ H σ R' ρ' H') : SS K w mp σ R ρ H σ R' ρ' H' := ⟨s.up, s.mt, s.fr, s.bd, s.mo, s.nw, fun _ _ => rfl⟩
theorem RR.step (m : Mt K w R ρ σ H) (s : Step K w σ R ρ H R' ρ' H') {v : V} {r : Rs} (h : RR K w R ρ σ H v r) : RR K w R' ρ' σ H' v r := by
  cases r with
  | val d => exact s.rep m h
  | al i => exact h
  | fr d =>
    obtain ⟨a, e, n1, n2, t⟩ := h
    refine ⟨a, e, fun z => ?_, fun z => ?_, s.top m t n2⟩
    rotate_left
    · rcases s.mo a z with z | z
      · exact n2 z
      · obtain ⟨o, e, _⟩ := t.there
        rw [z] at e; cases e
    rcases s.bd a z with z | z | z
    · exact n1 z
    · obtain ⟨o, e, _⟩ := t.there
      rw [z] at e; cases e
    · exact n2 z
/-- a new object is laid (and nothing else happens) -/
theorem Step.lay (m : Mt K w R ρ σ H) {p : Addr} {o : HO} (n : H p = none) : Step K w σ R ρ H R ρ (upd H p o) := by
  have fr : ∀ b u, H b = some u → ¬ Own ρ σ b → (upd H p o) b = some u := fun b u h _ => by
    rw [upd_ne (ne_of_none h n)]; exact h
  have nw : ∀ b, H b ≠ none → (upd H p o) b ≠ none := fun b h => by
    by_cases e : b = p
    · rw [e, upd_same]; simp
    · rw [upd_ne e]; exact h
  refine ⟨fun _ h => h, ⟨m.len, fun b h => nw b (m.trk b h), fun i d h => ?_, fun i d h => ?_, m.inj⟩, fr, fun _ h => .inl h, fun _ h => .inl h, nw, fun _ _ => rfl⟩
  · obtain ⟨v, h1, h2⟩ := m.ro i d h
    exact ⟨v, h1, Rep.keep (fun _ z => z) (m.keepT fr) (m.keepK fr) d v h2⟩
  · obtain ⟨a, h1, h2, h3⟩ := m.own i d h
    refine ⟨a, h1, h2, Top.keep (fun _ z => z) (m.keepT fr) (m.keepK fr) (fun u e => ?_) h3⟩
    rw [upd_ne (ne_of_none e n)]; exact e
/-- nothing changes but that R grows by an object that is no own slot's and was made by us, or is not there at all -/
theorem Mt.grow (m : Mt K w R ρ σ H) {p : Addr} (n : ¬ Own ρ σ p) (hp : H p ≠ none) : Mt K w (fun b => R b ∨ b = p) ρ σ H := by
  refine ⟨m.len, fun b h => h.elim (m.trk b) (fun e => e ▸ hp), fun i d h => ?_, fun i d h => ?_, m.inj⟩
  · obtain ⟨v, h1, h2⟩ := m.ro i d h
    exact ⟨v, h1, Rep.keep (fun _ z => .inl z) (fun _ _ _ z => z) (fun _ _ _ z => z) d v h2⟩
  · obtain ⟨a, h1, h2, h3⟩ := m.own i d h
    refine ⟨a, h1, fun z => ?_, Top.keep (fun _ z => .inl z) (fun _ _ _ z => z) (fun _ _ _ z => z) (fun _ z => z) h3⟩
    rcases z with z | z
    · exact h2 z
    · exact n ⟨i, d, h, z ▸ h1⟩
end
end PV

/-! PV, part B: the pure interpreter. -/
namespace PV
open PySem PySem.Spec PyProof.Rows L2

/-! ### data -/
mutual
def D.py : D → PyData
  | .non => .none
  | .bl b => .bool b
  | .int i => .int i
  | .str s => .str s
  | .tup xs => .tuple (pyAll xs)
  | .lst xs => .list (pyAll xs)
  | .dct _ _ => .none
  | .set _ => .none
  | .rtp _ => .none
  | .scr ns => .list (ns.map .int)
def pyAll : List D → List PyData
  | [] => []
  | d :: ds => d.py :: pyAll ds
end
mutual
/-- neither dicts nor sets within -/
def D.eqOk : D → Bool
  | .tup xs => eqOkAll xs
  | .lst xs => eqOkAll xs
  | .dct _ _ => false
  | .set _ => false
  | .rtp _ => false
  | _ => true
def eqOkAll : List D → Bool
  | [] => true
  | d :: ds => d.eqOk && eqOkAll ds
end
def D.cmpOk (d : D) : Bool := d.eqOk && SeqAt.shaped d.py
def D.eqv (d e : D) : Bool := PyData.eqv d.py e.py
def most : Nat := 16000000
def intsOf : List D → Option (List Int)
  | [] => some []
  | .int i :: r => (intsOf r).map (i :: ·)
  | _ :: _ => none
def blsOf : List D → Option (List Bool)
  | [] => some []
  | .bl i :: r => (blsOf r).map (i :: ·)
  | _ :: _ => none
def items : D → Option (List D)
  | .tup xs => some xs
  | .lst xs => some xs
  | .scr ns => some (ns.map .int)
  | _ => none
def truth : D → Option Bool
  | .str s => if s.length ≤ most then some ((s.length : Int) != 0) else none
  | .non => some false
  | .bl b => some b
  | .int i => some (i != 0)
  | .tup xs => some (!xs.isEmpty)
  | .lst xs => some (!xs.isEmpty)
  | .scr xs => some (!xs.isEmpty)
  | _ => none
def insI (x : Int) : List Int → List Int
  | [] => [x]
  | y :: r => if x ≤ y then x :: y :: r else y :: insI x r
def isort : List Int → List Int
  | [] => []
  | x :: r => insI x (isort r)
def dedup : List Int → List Int
  | [] => []
  | x :: r => if x ∈ r then dedup r else x :: dedup r

/-! ### operators -/
def binD (o : Operator) (a b : D) : Option Rs :=
  match o, a, b with
  | .Add, .int i, .int j => some (.val (.int (i + j)))
  | .Sub, .int i, .int j => some (.val (.int (i - j)))
  | .Mult, .int i, .int j => if (-(2 ^ 64) < i ∧ i < 2 ^ 64) ∨ (-(2 ^ 64) < j ∧ j < 2 ^ 64) then some (.val (.int (i * j))) else none
  | .FloorDiv, .int i, .int j => if 0 < j ∧ j < 1073741824 then some (.val (.int (i / j))) else none
  | .Mod, .int i, .int j => if 0 < j then some (.val (.int (i % j))) else none
  | .Pow, .int i, .int j => if 0 ≤ j ∧ j ≤ 1000000 ∧ i.natAbs < 2 ^ 64 then some (.val (.int (i ^ j.toNat))) else none
  | .Add, .lst xs, .lst ys => if xs.length + ys.length ≤ most then some (.fr (.lst (xs ++ ys))) else none
  | .Add, .tup xs, .tup ys => if xs.length + ys.length ≤ most then some (.val (.tup (xs ++ ys))) else none
  | .Add, .str x, .str y => if x.length + y.length ≤ most then some (.val (.str (x ++ y))) else none
  | .Mult, .lst xs, .int k => if -(2 ^ 63) ≤ k ∧ k < 2 ^ 63 ∧ xs.length * k.toNat ≤ most then some (.fr (.lst (List.replicate k.toNat xs).flatten)) else none
  | _, _, _ => none
def isNon : D → Bool
  | .non => true
  | _ => false
def inD (d : D) : D → Option Bool
  | .lst xs => if d.cmpOk && (D.lst xs).cmpOk then some (xs.any fun z => z.eqv d) else none
  | .tup xs => match d, intsOf xs with
    | .int i, some ns => some (decide (i ∈ ns))
    | _, _ => none
  | _ => none
def cmpD (o : CmpOp) (a b : D) : Option Bool :=
  match o, a, b with
  | .Lt, .int i, .int j => some (decide (i < j))
  | .LtE, .int i, .int j => some (decide (i ≤ j))
  | .Gt, .int i, .int j => some (decide (j < i))
  | .GtE, .int i, .int j => some (decide (j ≤ i))
  | .Eq, a, b => if a.cmpOk && b.cmpOk then some (a.eqv b) else none
  | .NotEq, a, b => if a.cmpOk && b.cmpOk then some (!a.eqv b) else none
  | .Is, a, .non => some (isNon a)
  | .IsNot, a, .non => some (!isNon a)
  | .Is, .bl x, .bl y => some (decide (x = y))
  | .IsNot, .bl x, .bl y => some (!decide (x = y))
  | .In, a, b => inD a b
  | .NotIn, a, b => (inD a b).map (!·)
  | _, _, _ => none
def ixD (a i : D) : Option D :=
  match a, i with
  | .lst xs, .int k => atI xs k
  | .tup xs, .int k => atI xs k
  | .scr xs, .int k => (atI xs k).map .int
  | _, _ => none
def cutD (xs : List D) (lo hi : Option Int) : List D := (xs.drop (HT.sIx xs.length 0 lo)).take (HT.sIx xs.length xs.length hi - HT.sIx xs.length 0 lo)
def slcD (a : D) (lo hi : Option Int) : Option Rs :=
  match a with
  | .lst xs => some (.fr (.lst (cutD xs lo hi)))
  | .scr xs => some (.fr (.lst (cutD (xs.map .int) lo hi)))
  | .tup xs => some (.val (.tup (cutD xs lo hi)))
  | _ => none
/-- the built-in class of a value -/
def kindD : D → Option String
  | .non => some "NoneType"
  | .bl _ => some "bool"
  | .int _ => some "int"
  | .str _ => some "str"
  | .tup _ => some "tuple"
  | .lst _ => some "list"
  | .scr _ => some "list"
  | .dct _ _ => some "dict"
  | .set _ => none
  | .rtp _ => none
/-- isinstance(d, T) for a built-in class -/
def isiD (t : String) (d : D) : Option Bool :=
  if t ∈ ["int", "bool", "str", "tuple", "list", "dict"] then (kindD d).map fun k => k == t || (k == "bool" && t == "int") else none

inductive Bt where
  | len | tuple | list | sorted | sum | min | max | abs | int | divmod | all | any | set
  deriving DecidableEq
def minL : Int → List Int → Int
  | m, [] => m
  | m, x :: r => minL (if x < m then x else m) r
def maxL : Int → List Int → Int
  | m, [] => m
  | m, x :: r => maxL (if m < x then x else m) r
/-- built-in functions, by values -/
def bltD (f : Bt) (xs : List D) : Option Rs :=
  match f, xs with
  | .len, [.lst xs] => some (.val (.int xs.length))
  | .len, [.tup xs] => some (.val (.int xs.length))
  | .len, [.scr xs] => some (.val (.int xs.length))
  | .tuple, [.lst xs] => some (.val (.tup xs))
  | .tuple, [.tup xs] => some (.val (.tup xs))
  | .list, [.lst xs] => some (.fr (.lst xs))
  | .list, [.tup xs] => some (.fr (.lst xs))
  | .list, [.scr xs] => some (.fr (.lst (xs.map .int)))
  | .sorted, [.lst xs] => (intsOf xs).map fun ns => .fr (.lst ((isort ns).map .int))
  | .sorted, [.set ns] => if ns.length < 64 then some (.fr (.lst ((isort ns).map .int))) else none
  | .sum, [.lst xs] => (intsOf xs).map fun ns => .val (.int ns.sum)
  | .sum, [.scr ns] => some (.val (.int ns.sum))
  | .min, [.int i, .int j] => some (.val (.int (if j < i then j else i)))
  | .max, [.int i, .int j] => some (.val (.int (if j > i then j else i)))
  | .min, [.lst (.int x :: xs)] => (intsOf xs).map fun ns => .val (.int (minL x ns))
  | .max, [.lst (.int x :: xs)] => (intsOf xs).map fun ns => .val (.int (maxL x ns))
  | .abs, [.int i] => some (.val (.int (if i < 0 then -i else i)))
  | .int, [.int i] => some (.val (.int i))
  | .divmod, [.int i, .int j] => if 0 < j ∧ j < 1073741824 then some (.val (.rtp [.int (i / j), .int (i % j)])) else none
  | .all, [.lst xs] => (blsOf xs).map fun bs => .val (.bl (bs.all id))
  | .any, [.lst xs] => (blsOf xs).map fun bs => .val (.bl (bs.any id))
  | .set, [.lst xs] => (intsOf xs).bind fun ns => if ns.length ≤ 1000 then some (.fr (.set (dedup ns))) else none
  | .set, [.tup xs] => (intsOf xs).bind fun ns => if ns.length ≤ 1000 then some (.fr (.set (dedup ns))) else none
  | _, _ => none

/-! ### the language -/
inductive Tg where
  | nm (i : Nat) | tp (is : List Nat)
def Tg.slots : Tg → List Nat
  | .nm i => [i]
  | .tp is => is
inductive E where
  | var (i : Nat)
  | con (d : D)
  | glb (x : Str)
  | bin (o : Operator) (a b : E)
  | neg (a : E)
  | not (a : E)
  | bop (and : Bool) (a b : E)
  | ife (c a b : E)
  | cmp (o : CmpOp) (a b : E)
  | chn (o p : CmpOp) (a b c : E)
  | tup (es : List E)
  | lst (es : List E)
  | ix (a i : E)
  | slc (a : E) (lo hi : Option E)
  /-- perm: which written argument each parameter gets -/
  | call (f : Str) (es ks : List E) (perm : List Nat)
  | blt (f : Bt) (es : List E)
  | isi (a : E) (t : String)
  /-- methods of the list that a name holds: append, extend, pop -/
  | app (i : Nat) (e : E)
  | ext (i : Nat) (e : E)
  | pop (i : Nat)
  | popi (i : Nat) (e : E)
  /-- list(range(..)), tuple(range(..)) -/
  | ofr (tuple : Bool) (es : List E)
  /-- what is walked: a range, enumerate, zip -/
  | rng (es : List E)
  /-- a value as a test -/
  | tru (a : E)
  | ovr (a : E)
  | enm (a : E)
  | zip (a b : E)
  /-- [elt for t in it if c]: the slots that it binds; no test is none -/
  | lc (elt : E) (t : Tg) (it : E) (c : Option E)
  | lc2 (elt : E) (t : Tg) (it : E) (c : Option E) (t2 : Tg) (it2 : E) (c2 : Option E)

structure Cfg where
  call : Str → List Sl → Option (Rs × List Sl)
  glb : Str → Option D
  fuel : Nat

def look (ρ : Rho) : Rs → Option D
  | .val d => some d
  | .fr d => some d
  | .al i => match ρ[i]? with
    | some (.ro d) => some d
    | some (.own d) => some d
    | _ => none
/-- the list of an own slot -/
def ownL (ρ : Rho) (i : Nat) : Option (List D) := match ρ[i]? with
  | some (.own (.lst xs)) => some xs
  | _ => none
def lstOf : D → Option (List D)
  | .lst xs => some xs
  | _ => none
def intOf : D → Option Int
  | .int i => some i
  | _ => none
/-- as a value that nobody changes any more -/
def fix (ρ : Rho) : Rs → Option (D × Rho)
  | .val d => some (d, ρ)
  | .fr d => some (d, ρ)
  | .al i => match ρ[i]? with
    | some (.ro d) => some (d, ρ)
    | some (.own d) => some (d, ρ.set i (.ro d))
    | _ => none
def looks (ρ : Rho) : List Rs → Option (List D)
  | [] => some []
  | r :: rs => (look ρ r).bind fun d => (looks ρ rs).map (d :: ·)
/-- as an argument -/
def argOf (ρ : Rho) : Rs → Option Sl
  | .val d => some (.ro d)
  | .fr d => some (.own d)
  | .al i => match ρ[i]? with
    | some (.ro d) => some (.ro d)
    | some (.own d) => some (.own d)
    | _ => none
def argsOf (ρ : Rho) : List Rs → Option (List Sl)
  | [] => some []
  | r :: rs => (argOf ρ r).bind fun d => (argsOf ρ rs).map (d :: ·)
/-- the own slots that are handed to a callee -/
def ownIx (ρ : Rho) : List Rs → List Nat
  | [] => []
  | .al i :: rs => match ρ[i]? with
    | some (.own _) => i :: ownIx ρ rs
    | _ => ownIx ρ rs
  | _ :: rs => ownIx ρ rs
/-- behind a call: what became of the objects that were handed over -/
def giveBack (ρ : Rho) : List Rs → List Sl → Rho
  | .al i :: rs, f :: fs => match ρ[i]? with
    | some (.own _) => (giveBack ρ rs fs).set i f
    | _ => giveBack ρ rs fs
  | _ :: rs, _ :: fs => giveBack ρ rs fs
  | _, _ => ρ
def isAl : Rs → Bool
  | .al _ => true
  | _ => false
def unset (ρ : Rho) : List Nat → Rho
  | [] => ρ
  | i :: is => (unset ρ is).set i .un
def restore (ρ ρ0 : Rho) : List Nat → Rho
  | [] => ρ
  | i :: is => (restore ρ ρ0 is).set i (ρ0[i]?.getD .un)
def setAll (np : Nat) (ρ : Rho) : List Nat → List D → Option Rho
  | [], [] => some ρ
  | i :: is, d :: ds => if np ≤ i ∧ i < ρ.length then setAll np (ρ.set i (.ro d)) is ds else none
  | _, _ => none
def bindT (np : Nat) (ρ : Rho) : Tg → D → Option Rho
  | .nm i, d => if np ≤ i ∧ i < ρ.length then some (ρ.set i (.ro d)) else none
  | .tp is, .tup ds => setAll np ρ is ds
  | .tp is, .rtp ds => setAll np ρ is ds
  | .tp _, _ => none
def rngD : List D → Option (List D)
  | [.int j] => if -(2 ^ 62) ≤ j ∧ j < 2 ^ 62 then some ((List.range j.toNat).map fun (k : Nat) => D.int k) else none
  | [.int i, .int j] => if (-(2 ^ 62) ≤ i ∧ i < 2 ^ 62) ∧ -(2 ^ 62) ≤ j ∧ j < 2 ^ 62 then some ((List.range (j - i).toNat).map fun (k : Nat) => D.int (i + k)) else none
  | _ => none
def enumD (n : Nat) : List D → List D
  | [] => []
  | d :: ds => .rtp [.int n, d] :: enumD (n + 1) ds
def zipD : List D → List D → List D
  | d :: ds, e :: es => .rtp [d, e] :: zipD ds es
  | _, _ => []

def zipItems : D → D → Option (List D)
  | .tup xs, .tup ys => some (zipD xs ys)
  | .lst xs, .lst ys => some (zipD xs ys)
  | .lst xs, .scr ys => some (zipD xs (ys.map .int))
  | .scr xs, .lst ys => some (zipD (xs.map .int) ys)
  | _, _ => none

/-- xs in the order of perm -/
def permV {α : Type} (xs : List α) (perm : List Nat) : List α := perm.filterMap fun i => xs[i]?
/-- .. if perm is an order of their places -/
def permute (rs : List Rs) (perm : List Nat) : Option (List Rs) :=
  if perm.Nodup ∧ perm.length = rs.length ∧ (∀ i ∈ perm, i < rs.length) then some (permV rs perm) else none

/-- the turns of a list comprehension -/
def lcLoop (f : D → Rho → Option (List D × Rho)) : List D → Rho → Option (List D × Rho)
  | [], ρ => some ([], ρ)
  | x :: xs, ρ => (f x ρ).bind fun (ds, ρ1) => (lcLoop f xs ρ1).map fun (es, ρ2) => (ds ++ es, ρ2)

mutual
def ev (C : Cfg) : E → Rho → Option (Rs × Rho)
  | .var i, ρ => match ρ[i]? with
    | some (.ro _) => some (.al i, ρ)
    | some (.own _) => some (.al i, ρ)
    | _ => none
  | .con d, ρ => some (.val d, ρ)
  | .glb x, ρ => (C.glb x).map fun d => (.val d, ρ)
  | .bin o a b, ρ => (ev C a ρ).bind fun (ra, ρ1) => (ev C b ρ1).bind fun (rb, ρ2) =>
      (look ρ2 ra).bind fun x => (look ρ2 rb).bind fun y => (binD o x y).map fun r => (r, ρ2)
  | .neg a, ρ => (ev C a ρ).bind fun (ra, ρ1) => (look ρ1 ra).bind fun x => (intOf x).map fun i => (.val (.int (-i)), ρ1)
  | .not a, ρ => (ev C a ρ).bind fun (ra, ρ1) => match look ρ1 ra with
    | some (.bl b) => some (.val (.bl (!b)), ρ1)
    | _ => none
  | .bop true a b, ρ => (ev C a ρ).bind fun (ra, ρ1) => match look ρ1 ra with
    | some (.bl true) => ev C b ρ1
    | some (.bl false) => some (.val (.bl false), ρ1)
    | _ => none
  | .bop false a b, ρ => (ev C a ρ).bind fun (ra, ρ1) => match look ρ1 ra with
    | some (.bl true) => some (.val (.bl true), ρ1)
    | some (.bl false) => ev C b ρ1
    | _ => none
  | .ife c a b, ρ => (tst C c ρ).bind fun (t, ρ1) => if t then ev C a ρ1 else ev C b ρ1
  | .cmp o a b, ρ => (ev C a ρ).bind fun (ra, ρ1) => (ev C b ρ1).bind fun (rb, ρ2) =>
      (look ρ2 ra).bind fun x => (look ρ2 rb).bind fun y => (cmpD o x y).map fun r => (.val (.bl r), ρ2)
  | .chn o p a b c, ρ => (ev C a ρ).bind fun (ra, ρ1) => (ev C b ρ1).bind fun (rb, ρ2) =>
      (look ρ2 ra).bind fun x => (look ρ2 rb).bind fun y => (cmpD o x y).bind fun r =>
        if r then (ev C c ρ2).bind fun (rc, ρ3) => (look ρ3 rb).bind fun y => (look ρ3 rc).bind fun z => (cmpD p y z).map fun r => (.val (.bl r), ρ3)
        else some (.val (.bl false), ρ2)
  | .tup es, ρ => (evf C es ρ).bind fun (ds, ρ1) => if ds.length ≤ most then some (.val (.tup ds), ρ1) else none
  | .lst es, ρ => (evf C es ρ).bind fun (ds, ρ1) => if ds.length ≤ most then some (.fr (.lst ds), ρ1) else none
  | .ix a i, ρ => (ev C a ρ).bind fun (ra, ρ1) => (ev C i ρ1).bind fun (rb, ρ2) =>
      (look ρ2 ra).bind fun x => (look ρ2 rb).bind fun y => (ixD x y).map fun r => (.val r, ρ2)
  | .slc a lo hi, ρ => (ev C a ρ).bind fun (ra, ρ1) => (evo C lo ρ1).bind fun (l, ρ2) => (evo C hi ρ2).bind fun (h, ρ3) =>
      (look ρ3 ra).bind fun x => (slcD x l h).map fun r => (r, ρ3)
  | .call f es ks perm, ρ => (evs C es ρ).bind fun (ra, ρ0) => (evs C ks ρ0).bind fun (rb, ρ1) => (permute (ra ++ rb) perm).bind fun rs => (argsOf ρ1 rs).bind fun as =>
      if (ownIx ρ1 rs).Nodup then (C.call f as).bind fun (r, fs) => if isAl r then none else some (r, giveBack ρ1 rs fs) else none
  | .blt f es, ρ => (evs C es ρ).bind fun (rs, ρ1) => (looks ρ1 rs).bind fun ds => (bltD f ds).map fun r => (r, ρ1)
  | .isi a t, ρ => (ev C a ρ).bind fun (ra, ρ1) => (look ρ1 ra).bind fun x => (isiD t x).map fun b => (.val (.bl b), ρ1)
  | .ofr t es, ρ => (evs C es ρ).bind fun (rs, ρ1) => (looks ρ1 rs).bind fun ds => (rngD ds).bind fun xs =>
      if xs.length ≤ most then some (if t then .val (.tup xs) else .fr (.lst xs), ρ1) else none
  | .app i e, ρ => (ownL ρ i).bind fun _ => (ev C e ρ).bind fun (r, ρ1) => (fix ρ1 r).bind fun (d, ρ2) => (ownL ρ2 i).bind fun xs =>
      if xs.length < most then some (.val .non, ρ2.set i (.own (.lst (xs ++ [d])))) else none
  | .ext i e, ρ => (ownL ρ i).bind fun _ => (ev C e ρ).bind fun (r, ρ1) => (look ρ1 r).bind fun d => (lstOf d).bind fun ys => (ownL ρ1 i).bind fun xs =>
      if xs.length + ys.length ≤ most then some (.val .non, ρ1.set i (.own (.lst (xs ++ ys)))) else none
  | .pop i, ρ => (ownL ρ i).bind fun xs => (xs[xs.length - 1]?).map fun d => (.val d, ρ.set i (.own (.lst xs.dropLast)))
  | .popi i e, ρ => (ownL ρ i).bind fun _ => (ev C e ρ).bind fun (r, ρ1) => (look ρ1 r).bind fun d => (intOf d).bind fun k => (ownL ρ1 i).bind fun xs =>
      if 0 ≤ k ∧ k < 2 ^ 63 then (xs[k.toNat]?).map fun d => (.val d, ρ1.set i (.own (.lst (xs.eraseIdx k.toNat)))) else none
  | .lc elt t it c, ρ => (evi C it ρ).bind fun (xs, ρ1) =>
      if xs.length ≤ most then
        (lcLoop (fun x ρ => (bindT 0 ρ t x).bind fun ρ2 => (tso C c ρ2).bind fun (b, ρ3) =>
            if b then (ev C elt ρ3).bind fun (r, ρ4) => (fix ρ4 r).map fun (d, ρ5) => ([d], unset ρ5 t.slots) else some ([], unset ρ3 t.slots)) xs (unset ρ1 t.slots)).map
          fun (ds, ρ6) => (.fr (.lst ds), restore ρ6 ρ1 t.slots)
      else none
  | _, _ => none
def tst (C : Cfg) : E → Rho → Option (Bool × Rho)
  | .not a, ρ => (tst C a ρ).map fun (b, ρ1) => (!b, ρ1)
  | .bop true a b, ρ => (tst C a ρ).bind fun (t, ρ1) => if t then tst C b ρ1 else some (false, ρ1)
  | .bop false a b, ρ => (tst C a ρ).bind fun (t, ρ1) => if t then some (true, ρ1) else tst C b ρ1
  | .cmp o a b, ρ => (ev C a ρ).bind fun (ra, ρ1) => (ev C b ρ1).bind fun (rb, ρ2) =>
      (look ρ2 ra).bind fun x => (look ρ2 rb).bind fun y => (cmpD o x y).map fun r => (r, ρ2)
  | .chn o p a b c, ρ => (ev C a ρ).bind fun (ra, ρ1) => (ev C b ρ1).bind fun (rb, ρ2) =>
      (look ρ2 ra).bind fun x => (look ρ2 rb).bind fun y => (cmpD o x y).bind fun r =>
        if r then (ev C c ρ2).bind fun (rc, ρ3) => (look ρ3 rb).bind fun y => (look ρ3 rc).bind fun z => (cmpD p y z).map fun r => (r, ρ3)
        else some (false, ρ2)
  | .tru e, ρ => (ev C e ρ).bind fun (r, ρ1) => (look ρ1 r).bind fun d => (truth d).map fun b => (b, ρ1)
  | _, _ => none
def tso (C : Cfg) : Option E → Rho → Option (Bool × Rho)
  | none, ρ => some (true, ρ)
  | some e, ρ => tst C e ρ
def evo (C : Cfg) : Option E → Rho → Option (Option Int × Rho)
  | none, ρ => some (none, ρ)
  | some e, ρ => (ev C e ρ).bind fun (r, ρ1) => (look ρ1 r).bind fun d => (intOf d).map fun i => (some i, ρ1)
def evs (C : Cfg) : List E → Rho → Option (List Rs × Rho)
  | [], ρ => some ([], ρ)
  | e :: es, ρ => (ev C e ρ).bind fun (r, ρ1) => (evs C es ρ1).map fun (rs, ρ2) => (r :: rs, ρ2)
/-- all made values -/
def evf (C : Cfg) : List E → Rho → Option (List D × Rho)
  | [], ρ => some ([], ρ)
  | e :: es, ρ => (ev C e ρ).bind fun (r, ρ1) => (fix ρ1 r).bind fun (d, ρ2) => (evf C es ρ2).map fun (rs, ρ3) => (d :: rs, ρ3)
/-- what is walked -/
def evi (C : Cfg) : E → Rho → Option (List D × Rho)
  | .rng es, ρ => (evs C es ρ).bind fun (rs, ρ1) => (looks ρ1 rs).bind fun ds => (rngD ds).map fun xs => (xs, ρ1)
  | .enm a, ρ => (ev C a ρ).bind fun (r, ρ1) => (fix ρ1 r).bind fun (d, ρ2) => (items d).map fun xs => (enumD 0 xs, ρ2)
  | .ovr e, ρ => (ev C e ρ).bind fun (r, ρ1) => (fix ρ1 r).bind fun (d, ρ2) => (items d).map fun xs => (xs, ρ2)
  | .zip a b, ρ => (ev C a ρ).bind fun (r, ρ1) => (fix ρ1 r).bind fun (d, ρ2) => (ev C b ρ2).bind fun (r2, ρ3) => (fix ρ3 r2).bind fun (e, ρ4) =>
      (zipItems d e).map fun xs => (xs, ρ4)
  | _, _ => none
end

/-! ### statements -/
inductive T1 where
  | nm (i : Nat) | sub (i : Nat) (ix : E)
inductive S where
  | ex (e : E)
  | asg (i : Nat) (e : E)
  /-- o[ix] = e, o a name -/
  | put (i : Nat) (ix : E) (e : E)
  /-- targets = e -/
  | unp (ts : List T1) (e : E)
  /-- names = es, a pair or a triple of plain names -/
  | par (is : List Nat) (es : List E)
  | ite (c : E) (a b : List S)
  | lop (t : Tg) (it : E) (b : List S)
  | whl (c : E) (b : List S)
  | ret (e : E)
  | retN
  | pas
  | brk
  | cnt
inductive O where
  | nx | ret (r : Rs) | brk | cnt

/-- a name gets a result -/
def store (np : Nat) (ρ : Rho) (i : Nat) (r : Rs) : Option Rho :=
  if np ≤ i ∧ i < ρ.length then
    match r with
    | .fr d => some (ρ.set i (.own d))
    | r => (fix ρ r).map fun (d, ρ1) => ρ1.set i (.ro d)
  else none
/-- o[k] = d -/
def putAt (ρ : Rho) (i : Nat) (k d : D) : Option Rho :=
  (intOf k).bind fun k => (ownL ρ i).bind fun xs => (ixN xs.length k).map fun j => ρ.set i (.own (.lst (xs.set j d)))
def unpAll (C : Cfg) (np : Nat) : List T1 → List D → Rho → Option Rho
  | [], [], ρ => some ρ
  | .nm i :: ts, d :: ds, ρ => (store np ρ i (.val d)).bind fun ρ1 => unpAll C np ts ds ρ1
  | .sub i ix :: ts, d :: ds, ρ => (ownL ρ i).bind fun _ => (ev C ix ρ).bind fun (r, ρ1) => (fix ρ1 r).bind fun (k, ρ2) => (putAt ρ2 i k d).bind fun ρ3 => unpAll C np ts ds ρ3
  | _, _, _ => none
def storeAll (np : Nat) (ρ : Rho) : List Nat → List Rs → Option Rho
  | [], [] => some ρ
  | i :: is, r :: rs => (store np ρ i r).bind fun ρ1 => storeAll np ρ1 is rs
  | _, _ => none
/-- names that are stored in parallel must not stand behind an alias: aliases are made values first -/
def fixAll (ρ : Rho) : List Rs → Option (List Rs × Rho)
  | [] => some ([], ρ)
  | .al i :: rs => (fix ρ (.al i)).bind fun (d, ρ1) => (fixAll ρ1 rs).map fun (ts, ρ2) => (.val d :: ts, ρ2)
  | r :: rs => (fixAll ρ rs).map fun (ts, ρ2) => (r :: ts, ρ2)
def forLoop (f : D → Rho → Option (O × Rho)) : List D → Rho → Option (O × Rho)
  | [], ρ => some (.nx, ρ)
  | x :: xs, ρ => (f x ρ).bind fun (o, ρ1) => match o with
    | .nx => forLoop f xs ρ1
    | .cnt => forLoop f xs ρ1
    | .brk => some (.nx, ρ1)
    | .ret r => some (.ret r, ρ1)
def whileLoop (c : Rho → Option (Bool × Rho)) (f : Rho → Option (O × Rho)) : Nat → Rho → Option (O × Rho)
  | 0, _ => none
  | n + 1, ρ => (c ρ).bind fun (b, ρ1) => if b then (f ρ1).bind fun (o, ρ2) => match o with
    | .nx => whileLoop c f n ρ2
    | .cnt => whileLoop c f n ρ2
    | .brk => some (.nx, ρ2)
    | .ret r => some (.ret r, ρ2)
    else some (.nx, ρ1)
mutual
def exec (C : Cfg) (np : Nat) : S → Rho → Option (O × Rho)
  | .ex e, ρ => (ev C e ρ).map fun (_, ρ1) => (.nx, ρ1)
  | .asg i e, ρ => (ev C e ρ).bind fun (r, ρ1) => (store np ρ1 i r).map fun ρ2 => (.nx, ρ2)
  | .put i ix e, ρ => (ev C e ρ).bind fun (r, ρ1) => (fix ρ1 r).bind fun (d, ρ2) => (ownL ρ2 i).bind fun _ => (ev C ix ρ2).bind fun (rk, ρ3) =>
      (fix ρ3 rk).bind fun (k, ρ4) => (putAt ρ4 i k d).map fun ρ5 => (.nx, ρ5)
  | .unp ts e, ρ => (ev C e ρ).bind fun (r, ρ1) => (fix ρ1 r).bind fun (d, ρ2) => match d with
    | .tup ds => (unpAll C np ts ds ρ2).map fun ρ3 => (.nx, ρ3)
    | .rtp ds => (unpAll C np ts ds ρ2).map fun ρ3 => (.nx, ρ3)
    | _ => none
  | .par is es, ρ => (evs C es ρ).bind fun (rs, ρ1) => (fixAll ρ1 rs).bind fun (ts, ρ2) => (storeAll np ρ2 is ts).map fun ρ3 => (.nx, ρ3)
  | .ite c a b, ρ => (tst C c ρ).bind fun (t, ρ1) => if t then execs C np a ρ1 else execs C np b ρ1
  | .lop t it b, ρ => (evi C it ρ).bind fun (xs, ρ1) => forLoop (fun x ρ => (bindT np ρ t x).bind fun ρ2 => execs C np b ρ2) xs ρ1
  | .whl c b, ρ => whileLoop (tst C c) (execs C np b) C.fuel ρ
  | .ret e, ρ => (ev C e ρ).map fun (r, ρ1) => (.ret r, ρ1)
  | .retN, ρ => some (.ret (.val .non), ρ)
  | .pas, ρ => some (.nx, ρ)
  | .brk, ρ => some (.brk, ρ)
  | .cnt, ρ => some (.cnt, ρ)
def execs (C : Cfg) (np : Nat) : List S → Rho → Option (O × Rho)
  | [], ρ => some (.nx, ρ)
  | s :: ss, ρ => (exec C np s ρ).bind fun (o, ρ1) => match o with
    | .nx => execs C np ss ρ1
    | o => some (o, ρ1)
end
/-- a def: its parameters, how many names, its body -/
structure Fd where
  ps : List Str
  n : Nat
  body : List S
/-- what is handed back -/
def retOf (np : Nat) (ρ : Rho) : Rs → Option (Rs × Rho)
  | .val d => some (.val d, ρ)
  | .fr d => some (.fr d, ρ)
  | .al i => match ρ[i]? with
    | some (.own d) => if np ≤ i then some (.fr d, ρ) else some (.val d, ρ.set i (.ro d))
    | some (.ro d) => some (.val d, ρ)
    | _ => none
/-- an object that was handed over is still there -/
def fin1 : Sl → Sl → Bool
  | .own _, .own _ => true
  | .own _, .ro (.lst _) => true
  | .own _, .ro (.dct _ _) => true
  | .own _, .ro (.set _) => true
  | .own _, _ => false
  | _, _ => true
def finOk (as fs : List Sl) : Bool := (as.zip fs).all fun p => fin1 p.1 p.2
def run (C : Cfg) (f : Fd) (as : List Sl) : Option (Rs × List Sl) :=
  if as.length = f.ps.length then
    (execs C as.length f.body (as ++ List.replicate (f.n - as.length) .un)).bind fun (o, ρ) => match o with
      | .nx => some (.val .non, ρ.take as.length)
      | .ret r => (retOf as.length ρ r).bind fun (r, ρ1) => if finOk as (ρ1.take as.length) then some (r, ρ1.take as.length) else none
      | _ => none
  else none
/-- the program: its defs by names, its constants -/
structure Pg where
  fn : Str → Option Fd
  glb : Str → Option D
def cfg (p : Pg) (fuel : Nat) : Nat → Cfg
  | 0 => ⟨fun _ _ => none, p.glb, fuel⟩
  | k + 1 => ⟨fun f as => (p.fn f).bind fun fd => run (cfg p fuel k) fd as, p.glb, fuel⟩
def tC0 : Cfg := ⟨fun _ _ => none, fun _ => none, 10⟩
example : run tC0 ⟨["plan", "other"], 4, [.ret (.blt .tuple [.lc (.ix (.var 1) (.var 2)) (.nm 2) (.ovr (.var 0)) none])]⟩ [.ro (.tup [.int 1, .int 0]), .ro (.tup [.int 5, .int 7])] =
  some (.val (.tup [.int 7, .int 5]), [.ro (.tup [.int 1, .int 0]), .ro (.tup [.int 5, .int 7])]) := rfl
end PV

/-! PV, part C: the operations by values are those of the model. -/
namespace PV
open PySem PySem.Spec PyProof.Rows L2

/-- what an operation gives: nothing new, or one new object -/
def PR (K : PySem.W.Frag) (w : World) (R : Addr → Prop) (H : Hp) (v : V) (H' : Hp) : Rs → Prop
  | .val d => Rep K w R H' d v ∧ (H' = H ∨ ∃ p o, H p = none ∧ H' = upd H p o)
  | .fr d => ∃ p o, v = .ref p ∧ H p = none ∧ H' = upd H p o ∧ Top K w R H' p d
  | .al _ => False

section
variable {K : PySem.W.Frag} {w : World} {R R' : Addr → Prop} {ρ : Rho} {σ : St} {H H' : Hp}
theorem most_line {n : Nat} (h : n ≤ most) : n ≤ sizeLine := by
  rw [sizeLine_eq]; unfold most at h; omega
theorem upd_keepT {p : Addr} {o : HO} (n : H p = none) : ∀ a u, Fz u → H a = some u → (upd H p o) a = some u := fun a u _ e => by
  rw [upd_ne (ne_of_none e n)]; exact e
theorem upd_keepK {p : Addr} {o : HO} (n : H p = none) : ∀ a u, R a → H a = some u → (upd H p o) a = some u := fun a u _ e => by
  rw [upd_ne (ne_of_none e n)]; exact e
theorem rep_upd {p : Addr} {o : HO} {d : D} {v : V} (n : H p = none) (h : Rep K w R H d v) : Rep K w R (upd H p o) d v :=
  Rep.keep (fun _ z => z) (upd_keepT n) (upd_keepK n) d v h
theorem reps_upd {p : Addr} {o : HO} {d : List D} {v : List V} (n : H p = none) (h : Reps K w R H d v) : Reps K w R (upd H p o) d v :=
  Reps.keep (fun _ z => z) (upd_keepT n) (upd_keepK n) d v h
theorem top_upd {p a : Addr} {o : HO} {d : D} (n : H p = none) (h : Top K w R H a d) : Top K w R (upd H p o) a d :=
  Top.keep (fun _ z => z) (upd_keepT n) (upd_keepK n) (fun u e => by rw [upd_ne (ne_of_none e n)]; exact e) h
/-- a scalar -/
theorem PR.sc {d : D} {v : V} (h : Rep K w R H d v) : PR K w R H v H (.val d) := ⟨h, .inl rfl⟩
theorem PR.lst {p : Addr} {ds : List D} {xs : List V} (n : H p = none) (h : Reps K w R H ds xs) : PR K w R H (.ref p) (upd H p (.lst xs)) (.fr (.lst ds)) :=
  ⟨p, _, rfl, n, rfl, xs, upd_same, reps_upd n h⟩
theorem PR.tup {p : Addr} {o : Obj} {ds : List D} {xs : List V} (n : H p = none) (no : o.dict = none) (h : Reps K w R H ds xs) : PR K w R H (.ref p) (upd H p (.frz o (.tup xs))) (.val (.tup ds)) :=
  ⟨⟨p, xs, rfl, .inl ⟨o, no, upd_same⟩, reps_upd n h⟩, .inr ⟨p, _, n, rfl⟩⟩
theorem PR.rtp {p : Addr} {ds : List D} {xs : List V} (n : H p = none) (h : Reps K w R H ds xs) : PR K w R H (.ref p) (upd H p (.tup xs)) (.val (.rtp ds)) :=
  ⟨⟨p, xs, rfl, SqT.of upd_same, reps_upd n h⟩, .inr ⟨p, _, n, rfl⟩⟩
theorem PR.step {v : V} {r : Rs} (m : Mt K w R ρ σ H) (h : PR K w R H v H' r) : Step K w σ R ρ H R ρ H' ∧ RR K w R ρ σ H' v r ∧ FrN H v r := by
  cases r with
  | val d =>
    obtain ⟨h1, h2⟩ := h
    rcases h2 with rfl | ⟨p, o, n, rfl⟩
    · exact ⟨Step.refl m, h1, trivial⟩
    · exact ⟨Step.lay m n, h1, trivial⟩
  | fr d =>
    obtain ⟨p, o, rfl, n, rfl, t⟩ := h
    refine ⟨Step.lay m n, ⟨p, rfl, fun z => m.trk p z n, fun z => ?_, t⟩, fun a e => by cases e; exact n⟩
    obtain ⟨d', _, t'⟩ := m.ownTop z
    obtain ⟨o', e, _⟩ := t'.there
    rw [n] at e; cases e
  | al i => exact h.elim

/-! ### what RepT says of a kind -/
theorem RepT.sc {d : D} {v : V} (h : RepT K w R H d v) (n : ∀ a, ¬ Top K w R H a d) : Rep K w R H d v := by
  rcases h with h | ⟨a, _, t⟩
  · exact h
  · exact (n a t).elim
theorem RepT.int {i : Int} {v : V} (h : RepT K w R H (.int i) v) : v = .int i := h.sc fun _ z => z
theorem RepT.bl {i : Bool} {v : V} (h : RepT K w R H (.bl i) v) : v = .bl i := h.sc fun _ z => z
theorem RepT.str {i : Str} {v : V} (h : RepT K w R H (.str i) v) : v = .str i := h.sc fun _ z => z
theorem RepT.non {v : V} (h : RepT K w R H .non v) : v = .non := h.sc fun _ z => z
theorem RepT.tup {ds : List D} {v : V} (h : RepT K w R H (.tup ds) v) : ∃ a xs, v = .ref a ∧ TupOk K H a xs ∧ Reps K w R H ds xs := h.sc fun _ z => z
theorem RepT.scr {ns : List Int} {v : V} (h : RepT K w R H (.scr ns) v) : ∃ a, v = .ref a ∧ SqL K H a (ns.map V.int) := by
  obtain ⟨a, e, q⟩ : Rep K w R H (.scr ns) v := h.sc fun _ z => z
  exact ⟨a, e, q.sq⟩
theorem RepT.lst {ds : List D} {v : V} (h : RepT K w R H (.lst ds) v) : ∃ a xs, v = .ref a ∧ H a = some (.lst xs) ∧ Reps K w R H ds xs := by
  rcases h with ⟨a, xs, e, _, h1, h2⟩ | ⟨a, e, xs, h1, h2⟩
  · exact ⟨a, xs, e, h1, h2⟩
  · exact ⟨a, xs, e, h1, h2⟩
theorem RepT.set {ns : List Int} {v : V} (h : RepT K w R H (.set ns) v) : ∃ a S n, v = .ref a ∧ H a = some (SetO w a S n) ∧ SetIs S n ns := by
  rcases h with ⟨a, S, n, e, _, h1, h2⟩ | ⟨a, e, S, n, h1, h2⟩
  · exact ⟨a, S, n, e, h1, h2⟩
  · exact ⟨a, S, n, e, h1, h2⟩
/-- what is looked at -/
theorem look_rep (m : Mt K w R ρ σ H) {v : V} {r : Rs} {d : D} (h : RR K w R ρ σ H v r) (e : look ρ r = some d) : RepT K w R H d v := by
  cases r with
  | val d' =>
    have e' : some d' = some d := e
    cases e'
    exact .inl h
  | fr d' =>
    have e' : some d' = some d := e
    cases e'
    obtain ⟨a, ea, _, _, t⟩ := h
    exact .inr ⟨a, ea, t⟩
  | al i =>
    have h : σ[i]? = some (some v) := h
    unfold look at e
    dsimp only at e
    split at e
    · rename_i d' q
      cases e
      obtain ⟨v', h1, h2⟩ := m.ro i _ q
      rw [h] at h1
      cases h1
      exact .inl h2
    · rename_i d' q
      cases e
      obtain ⟨a, h1, h2, h3⟩ := m.own i _ q
      rw [h] at h1
      cases h1
      exact .inr ⟨a, rfl, h3⟩
    · cases e

/-! ### lists of ints, of bools -/
theorem intsOf_eq : ∀ {ds : List D} {ns : List Int}, intsOf ds = some ns → ds = ns.map D.int
  | [], _, e => by
    cases e
    rfl
  | .int i :: r, ns, e => by
    unfold intsOf at e
    cases q : intsOf r with
    | none => rw [q] at e; cases e
    | some ms =>
      rw [q] at e
      cases e
      rw [intsOf_eq q]
      rfl
  | .non :: _, _, e => by cases e
  | .bl _ :: _, _, e => by cases e
  | .str _ :: _, _, e => by cases e
  | .tup _ :: _, _, e => by cases e
  | .lst _ :: _, _, e => by cases e
  | .dct _ _ :: _, _, e => by cases e
  | .set _ :: _, _, e => by cases e
  | .scr _ :: _, _, e => by cases e
  | .rtp _ :: _, _, e => by cases e
theorem intsOf_map : ∀ (ns : List Int), intsOf (ns.map D.int) = some ns
  | [] => rfl
  | i :: r => by
    show (intsOf (r.map D.int)).map (i :: ·) = _
    rw [intsOf_map r]
    rfl
theorem blsOf_eq : ∀ {ds : List D} {ns : List Bool}, blsOf ds = some ns → ds = ns.map D.bl
  | [], _, e => by
    cases e
    rfl
  | .bl i :: r, ns, e => by
    unfold blsOf at e
    cases q : blsOf r with
    | none => rw [q] at e; cases e
    | some ms =>
      rw [q] at e
      cases e
      rw [blsOf_eq q]
      rfl
  | .non :: _, _, e => by cases e
  | .int _ :: _, _, e => by cases e
  | .str _ :: _, _, e => by cases e
  | .tup _ :: _, _, e => by cases e
  | .lst _ :: _, _, e => by cases e
  | .dct _ _ :: _, _, e => by cases e
  | .set _ :: _, _, e => by cases e
  | .scr _ :: _, _, e => by cases e
  | .rtp _ :: _, _, e => by cases e
theorem blsOf_map : ∀ (ns : List Bool), blsOf (ns.map D.bl) = some ns
  | [] => rfl
  | i :: r => by
    show (blsOf (r.map D.bl)).map (i :: ·) = _
    rw [blsOf_map r]
    rfl

/-! ### sorting ints -/
theorem insI_perm (x : Int) : ∀ l : List Int, (insI x l).Perm (x :: l)
  | [] => .refl _
  | y :: r => by
    unfold insI
    split
    · exact .refl _
    · exact ((insI_perm x r).cons y).trans (.swap x y r)
theorem isort_perm : ∀ l : List Int, (isort l).Perm l
  | [] => .refl _
  | x :: r => (insI_perm x _).trans ((isort_perm r).cons x)
theorem insI_sorted (x : Int) : ∀ l : List Int, l.Pairwise (· ≤ ·) → (insI x l).Pairwise (· ≤ ·)
  | [], _ => List.pairwise_singleton _ _
  | y :: r, h => by
    unfold insI
    have h' := List.pairwise_cons.mp h
    split
    · rename_i hx
      refine List.pairwise_cons.mpr ⟨fun z hz => ?_, h⟩
      rcases List.mem_cons.mp hz with e | hz
      · rw [e]; exact hx
      · exact Int.le_trans hx (h'.1 z hz)
    · rename_i hx
      refine List.pairwise_cons.mpr ⟨fun z hz => ?_, insI_sorted x r h'.2⟩
      have := (insI_perm x r).mem_iff.mp hz
      rcases List.mem_cons.mp this with e | hz
      · rw [e]; omega
      · exact h'.1 z hz
theorem isort_sorted : ∀ l : List Int, (isort l).Pairwise (· ≤ ·)
  | [] => .nil
  | x :: r => insI_sorted x _ (isort_sorted r)
/-- two ascending lists of the same ints are one -/
theorem sorted_uniq : ∀ {l m : List Int}, l.Pairwise (· ≤ ·) → m.Pairwise (· ≤ ·) → l.Perm m → l = m
  | [], m, _, _, p => (p.symm.eq_nil).symm
  | x :: l, [], _, _, p => absurd p.length_eq (by simp)
  | x :: l, y :: m, hl, hm, p => by
    have h1 := List.pairwise_cons.mp hl
    have h2 := List.pairwise_cons.mp hm
    have e : x = y := by
      have a : x ∈ y :: m := p.mem_iff.mp List.mem_cons_self
      have b : y ∈ x :: l := p.mem_iff.mpr List.mem_cons_self
      rcases List.mem_cons.mp a with a | a
      · exact a
      · rcases List.mem_cons.mp b with b | b
        · exact b.symm
        · have := h1.1 y b
          have := h2.1 x a
          omega
    subst e
    rw [sorted_uniq h1.2 h2.2 (List.perm_cons x |>.mp p)]
theorem dedup_mem {k : Int} : ∀ l : List Int, k ∈ dedup l ↔ k ∈ l
  | [] => Iff.rfl
  | x :: r => by
    unfold dedup
    split
    · rename_i h
      rw [dedup_mem r, List.mem_cons]
      exact ⟨.inr, fun z => z.elim (fun e => e ▸ h) id⟩
    · rw [List.mem_cons, List.mem_cons, dedup_mem r]
theorem dedup_nodup : ∀ l : List Int, (dedup l).Nodup
  | [] => .nil
  | x :: r => by
    unfold dedup
    split
    · exact dedup_nodup r
    · rename_i h
      exact List.nodup_cons.mpr ⟨fun z => h ((dedup_mem r).mp z), dedup_nodup r⟩
theorem nodup_len {l m : List Int} (h1 : l.Nodup) (h2 : m.Nodup) (h : ∀ k, k ∈ l ↔ k ∈ m) : l.length = m.length :=
  ((List.perm_ext_iff_of_nodup h1 h2).mpr h).length_eq
end
end PV

/-! PV, part D: operators, comparisons, subscripts, built-in functions. -/
namespace PV
open PySem PySem.Spec PyProof.Rows L2

theorem Reps.nil {K : PySem.W.Frag} {w : World} {R : Addr → Prop} {H : Hp} {ds : List D} {xs : List V} (h : Reps K w R H ds xs) (e : xs = []) : ds = [] := by
  have := h.length
  rw [e] at this
  exact List.length_eq_zero_iff.mp this
theorem cat_nil1 {K : PySem.W.Frag} {w : World} {R : Addr → Prop} {H : Hp} {ds es : List D} {xs : List V} {v : V} (e : xs = []) (h : Reps K w R H ds xs) (r : Rep K w R H (.tup es) v) : PR K w R H v H (.val (.tup (ds ++ es))) := by
  rw [h.nil e]
  exact PR.sc r
theorem cat_nil2 {K : PySem.W.Frag} {w : World} {R : Addr → Prop} {H : Hp} {ds es : List D} {xs : List V} {v : V} (e : xs = []) (h : Reps K w R H es xs) (r : Rep K w R H (.tup ds) v) : PR K w R H v H (.val (.tup (ds ++ es))) := by
  rw [h.nil e, List.append_nil]
  exact PR.sc r
section
variable {X : Cx}
def rB (K : PySem.W.Frag) (w : World) (o : Operator) : R2 := fun x y H Q => ∃ R a b r, RepT K w R H a x ∧ RepT K w R H b y ∧ binD o a b = some r ∧ ∀ v H', PR K w R H v H' r → Q v H'
theorem or_bin (o : Operator) : OpR X (binaryOp o) (rB X.K X.w o) := by
  intro pins s σ H x y v u Q I rx ry h
  obtain ⟨R, a, b, r, ha, hb, e, q⟩ := h
  unfold binD at e
  split at e
  · cases e
    exact op_add pins s σ H x y v u Q I rx ry ⟨_, _, ha.int, hb.int, q _ _ (PR.sc rfl)⟩
  · cases e
    exact op_sub pins s σ H x y v u Q I rx ry ⟨_, _, ha.int, hb.int, q _ _ (PR.sc rfl)⟩
  · split at e
    · rename_i hc
      cases e
      exact op_mul pins s σ H x y v u Q I rx ry ⟨_, _, ha.int, hb.int, hc, q _ _ (PR.sc rfl)⟩
    · cases e
  · split at e
    · rename_i hc
      cases e
      exact op_fdiv pins s σ H x y v u Q I rx ry ⟨_, _, ha.int, hb.int, hc, q _ _ (PR.sc rfl)⟩
    · cases e
  · split at e
    · rename_i hc
      cases e
      exact op_mod pins s σ H x y v u Q I rx ry ⟨_, _, ha.int, hb.int, hc, q _ _ (PR.sc rfl)⟩
    · cases e
  · split at e
    · rename_i hc
      cases e
      exact op_pow pins s σ H x y v u Q I rx ry ⟨_, _, ha.int, hb.int, hc, q _ _ (PR.sc rfl)⟩
    · cases e
  · split at e
    · rename_i hc
      cases e
      obtain ⟨a1, xs1, e1, h1, r1⟩ := ha.lst
      obtain ⟨a2, xs2, e2, h2, r2⟩ := hb.lst
      refine op_cat pins s σ H x y v u Q I rx ry ⟨a1, a2, xs1, xs2, e1, e2, h1, h2, ?_, fun p n => q _ _ (PR.lst n (r1.append r2))⟩
      rw [← r1.length, ← r2.length]
      exact most_line hc
    · cases e
  · split at e
    · rename_i hc
      cases e
      obtain ⟨a1, xs1, e1, h1, r1⟩ := ha.tup
      obtain ⟨a2, xs2, e2, h2, r2⟩ := hb.tup
      have hz : xs1.length + xs2.length ≤ sizeLine := by
        rw [← r1.length, ← r2.length]
        exact most_line hc
      refine PVU.op_catF pins s σ H x y v u Q I rx ry ⟨a1, a2, xs1, xs2, e1, e2, h1.sq, h2.sq, hz, fun z => ?_, fun z => ?_, fun p o n no => q _ _ (PR.tup n no (r1.append r2))⟩
      · exact q _ _ (cat_nil1 z r1 ⟨a2, xs2, rfl, h2, r2⟩)
      · exact q _ _ (cat_nil2 z r2 ⟨a1, xs1, rfl, h1, r1⟩)
    · cases e
  · split at e
    · rename_i hc
      cases e
      exact op_add_str pins s σ H x y v u Q I rx ry ⟨_, _, ha.str, hb.str, most_line hc, q _ _ (PR.sc rfl)⟩
    · cases e
  · split at e
    · rename_i hc
      cases e
      obtain ⟨a1, xs1, e1, h1, r1⟩ := ha.lst
      refine op_rep pins s σ H x y v u Q I rx ry ⟨a1, _, xs1, e1, hb.int, h1, hc.1, hc.2.1, ?_, fun p n => q _ _ (PR.lst n ?_)⟩
      · rw [← r1.length]
        exact most_line hc.2.2
      · have go : ∀ k : Nat, Reps X.K X.w R H (List.replicate k _).flatten (List.replicate k xs1).flatten := fun k => by
          induction k with
          | zero => exact trivial
          | succ k ih =>
            rw [List.replicate_succ, List.replicate_succ, List.flatten_cons, List.flatten_cons]
            exact r1.append ih
        exact go _
    · cases e
  · cases e

/-! ### comparisons -/
mutual
theorem rep_dp {K : PySem.W.Frag} {w : World} {R : Addr → Prop} {H : Hp} : ∀ (d : D) (v : V), Rep K w R H d v → d.eqOk = true → Dp K H v d.py
  | .non, _, h, _ => by
    have h : _ = V.non := h
    subst h
    exact .non
  | .bl b, _, h, _ => by
    have h : _ = V.bl b := h
    subst h
    exact .bl b
  | .int i, _, h, _ => by
    have h : _ = V.int i := h
    subst h
    exact .int i
  | .str x, _, h, _ => by
    have h : _ = V.str x := h
    subst h
    exact .str x
  | .tup ds, _, h, o => by
    obtain ⟨a, xs, e, h1, h2⟩ := h
    subst e
    exact .tup h1.sq (reps_dp ds xs h2 o)
  | .rtp _, _, _, o => by cases o
  | .lst ds, _, h, o => by
    obtain ⟨a, xs, e, _, h1, h2⟩ := h
    subst e
    exact .lst (SqL.of h1) (reps_dp ds xs h2 o)
  | .scr ns, _, h, _ => by
    obtain ⟨a, e, h1⟩ := h
    subst e
    refine .lst h1.sq ?_
    have go : ∀ l : List Int, DpAll K H (l.map V.int) (l.map PyData.int) := fun l => by
      induction l with
      | nil => exact .nil
      | cons n l ih => exact .cons (.int n) ih
    exact go ns
theorem reps_dp {K : PySem.W.Frag} {w : World} {R : Addr → Prop} {H : Hp} : ∀ (ds : List D) (xs : List V), Reps K w R H ds xs → eqOkAll ds = true → DpAll K H xs (pyAll ds)
  | [], [], _, _ => .nil
  | d :: ds, x :: xs, h, o => by
    have o : (d.eqOk && eqOkAll ds) = true := o
    rw [Bool.and_eq_true] at o
    exact .cons (rep_dp d x h.1 o.1) (reps_dp ds xs h.2 o.2)
  | [], _ :: _, h, _ => h.elim
  | _ :: _, [], h, _ => h.elim
end
theorem RepT.dp {K : PySem.W.Frag} {w : World} {R : Addr → Prop} {H : Hp} {d : D} {v : V} (h : RepT K w R H d v) (o : d.eqOk = true) : Dp K H v d.py := by
  rcases h with h | ⟨a, e, h⟩
  · exact rep_dp d v h o
  · cases d with
    | lst ds =>
      obtain ⟨xs, h1, h2⟩ := h
      rw [e]
      exact .lst (SqL.of h1) (reps_dp ds xs h2 o)
    | dct ks vs => cases o
    | set ns => cases o
    | _ => exact h.elim
theorem cmpOk_of {d : D} (h : d.cmpOk = true) : d.eqOk = true ∧ SeqAt.shaped d.py = true := by
  unfold D.cmpOk at h
  rw [Bool.and_eq_true] at h
  exact h
theorem pyAll_any (p : PyData → Bool) : ∀ ds : List D, (pyAll ds).any p = ds.any fun d => p d.py
  | [] => rfl
  | d :: ds => by
    show (p d.py || (pyAll ds).any p) = (p d.py || ds.any _)
    rw [pyAll_any p ds]
theorem inV_ints (i : Int) : ∀ ns : List Int, inV (.int i) (ns.map V.int) = decide (i ∈ ns)
  | [] => rfl
  | n :: ns => by
    have ih := inV_ints i ns
    unfold inV at ih ⊢
    rw [List.map_cons, List.any_cons, ih]
    have e : eqV (.int n) (.int i) = decide (n = i) := by
      show (n == i) = decide (n = i)
      rw [Bool.beq_eq_decide_eq]
    rw [e]
    by_cases h : n = i
    · subst h
      simp
    · have h2 : ¬ i = n := fun z => h z.symm
      simp [h, h2]
theorem flat_ints : ∀ ns : List Int, (ns.map V.int).all flatV = true
  | [] => rfl
  | n :: ns => by
    rw [List.map_cons, List.all_cons, flat_ints ns]
    rfl
theorem RepT.isNon {K : PySem.W.Frag} {w : World} {R : Addr → Prop} {H : Hp} {d : D} {v : V} (h : RepT K w R H d v) : decide (v = .non) = PV.isNon d := by
  rcases h with h | ⟨a, e, h⟩
  · cases d with
    | non =>
      have h : v = V.non := h
      rw [h]; rfl
    | bl b =>
      have h : v = V.bl b := h
      rw [h]; rfl
    | int i =>
      have h : v = V.int i := h
      rw [h]; rfl
    | str x =>
      have h : v = V.str x := h
      rw [h]; rfl
    | tup ds =>
      obtain ⟨a, xs, e, _⟩ := h
      rw [e]; rfl
    | lst ds =>
      obtain ⟨a, xs, e, _⟩ := h
      rw [e]; rfl
    | dct ks vs =>
      obtain ⟨a, xs, e, _⟩ := h
      rw [e]; rfl
    | set ns =>
      obtain ⟨a, S, n, e, _⟩ := h
      rw [e]; rfl
    | scr ns =>
      obtain ⟨a, e, _⟩ := h
      rw [e]; rfl
    | rtp ns =>
      obtain ⟨a, xs, e, _⟩ := h
      rw [e]; rfl
  · rw [e]
    cases d with
    | non => exact h.elim
    | _ => rfl

def rIn (K : PySem.W.Frag) (w : World) (neg : Bool) : R2 := fun x y H Q => ∃ R a b r, RepT K w R H a x ∧ RepT K w R H b y ∧ inD a b = some r ∧ Q (.bl (if neg then !r else r)) H
theorem or_in (hu : X.A.units + 65 < cLine) : OpR X (compareOp .In) (rIn X.K X.w false) := by
  intro pins s σ H x y v u Q I rx ry h
  obtain ⟨R, a, b, r, ha, hb, e, q⟩ := h
  unfold inD at e
  split at e
  · split at e
    · rename_i xs hc
      cases e
      rw [Bool.and_eq_true] at hc
      obtain ⟨c1, c2⟩ := hc
      obtain ⟨o1, s1⟩ := cmpOk_of c1
      obtain ⟨o2, s2⟩ := cmpOk_of c2
      refine op_inD hu pins s σ H x y v u Q I rx ry ⟨_, _, ha.dp o1, hb.dp o2, s1, s2, ?_⟩
      rw [pyAll_any]
      exact q
    · cases e
  · split at e
    · rename_i i ns hi
      cases e
      obtain ⟨p, ys, ep, h1, h2⟩ := hb.tup
      rw [intsOf_eq hi] at h2
      refine op_in_seq pins s σ H x y v u Q I rx ry ⟨p, ys, ep, .inr h1.sq, ?_, ?_, ?_⟩
      · rw [ha.int]; rfl
      · rw [h2.ints]; exact flat_ints ns
      · rw [ha.int, h2.ints, inV_ints]
        exact q
    · cases e
  · cases e
theorem or_notin (hu : X.A.units + 65 < cLine) : OpR X (compareOp .NotIn) (rIn X.K X.w true) := by
  intro pins s σ H x y v u Q I rx ry h
  obtain ⟨R, a, b, r, ha, hb, e, q⟩ := h
  unfold inD at e
  split at e
  · split at e
    · rename_i xs hc
      cases e
      rw [Bool.and_eq_true] at hc
      obtain ⟨c1, c2⟩ := hc
      obtain ⟨o1, s1⟩ := cmpOk_of c1
      obtain ⟨o2, s2⟩ := cmpOk_of c2
      refine op_notInD hu pins s σ H x y v u Q I rx ry ⟨_, _, ha.dp o1, hb.dp o2, s1, s2, ?_⟩
      rw [pyAll_any]
      exact q
    · cases e
  · split at e
    · rename_i i ns hi
      cases e
      obtain ⟨p, ys, ep, h1, h2⟩ := hb.tup
      rw [intsOf_eq hi] at h2
      refine op_notIn_seq pins s σ H x y v u Q I rx ry ⟨p, ys, ep, .inr h1.sq, ?_, ?_, ?_⟩
      · rw [ha.int]; rfl
      · rw [h2.ints]; exact flat_ints ns
      · rw [ha.int, h2.ints, inV_ints]
        exact q
    · cases e
  · cases e
def rC (K : PySem.W.Frag) (w : World) (o : CmpOp) : R2 := fun x y H Q => ∃ R a b r, RepT K w R H a x ∧ RepT K w R H b y ∧ cmpD o a b = some r ∧ Q (.bl r) H
theorem or_cmp (hu : X.A.units + 65 < cLine) (o : CmpOp) : OpR X (compareOp o) (rC X.K X.w o) := by
  intro pins s σ H x y v u Q I rx ry h
  obtain ⟨R, a, b, r, ha, hb, e, q⟩ := h
  have hu' : X.A.units + 64 < cLine := by omega
  unfold cmpD at e
  split at e
  · cases e
    exact op_lt pins s σ H x y v u Q I rx ry ⟨_, _, ha.int, hb.int, q⟩
  · cases e
    exact op_le pins s σ H x y v u Q I rx ry ⟨_, _, ha.int, hb.int, q⟩
  · cases e
    exact op_gt pins s σ H x y v u Q I rx ry ⟨_, _, ha.int, hb.int, q⟩
  · cases e
    exact op_ge pins s σ H x y v u Q I rx ry ⟨_, _, ha.int, hb.int, q⟩
  · split at e
    · rename_i hc
      cases e
      rw [Bool.and_eq_true] at hc
      obtain ⟨o1, s1⟩ := cmpOk_of hc.1
      obtain ⟨o2, s2⟩ := cmpOk_of hc.2
      exact op_eqD hu' pins s σ H x y v u Q I rx ry ⟨_, _, ha.dp o1, hb.dp o2, s1, s2, q⟩
    · cases e
  · split at e
    · rename_i hc
      cases e
      rw [Bool.and_eq_true] at hc
      obtain ⟨o1, s1⟩ := cmpOk_of hc.1
      obtain ⟨o2, s2⟩ := cmpOk_of hc.2
      exact op_neD hu' pins s σ H x y v u Q I rx ry ⟨_, _, ha.dp o1, hb.dp o2, s1, s2, q⟩
    · cases e
  · cases e
    refine op_isN pins s σ H x y v u Q I rx ry ⟨hb.non, ?_⟩
    rw [ha.isNon]
    exact q
  · cases e
    refine op_notN pins s σ H x y v u Q I rx ry ⟨hb.non, ?_⟩
    rw [ha.isNon]
    exact q
  · cases e
    exact op_is_bl pins s σ H x y v u Q I rx ry ⟨_, _, ha.bl, hb.bl, q⟩
  · cases e
    exact op_isnot_bl pins s σ H x y v u Q I rx ry ⟨_, _, ha.bl, hb.bl, q⟩
  · exact or_in hu pins s σ H x y v u Q I rx ry ⟨R, _, _, _, ha, hb, e, q⟩
  · cases e' : inD a b with
    | none => rw [e'] at e; cases e
    | some c =>
      rw [e'] at e
      cases e
      exact or_notin hu pins s σ H x y v u Q I rx ry ⟨R, _, _, _, ha, hb, e', q⟩
  · cases e
end
end PV

/-! PV, part F: subscripts, slices, built-in functions, isinstance, by values. -/
namespace PV
open PySem PySem.Spec PyProof.Rows L2

section
variable {K : PySem.W.Frag} {w : World} {R R' : Addr → Prop} {H H' : Hp}
theorem Reps.at {ds : List D} {xs : List V} {k : Int} {d : D} (h : Reps K w R H ds xs) (e : atI ds k = some d) : ∃ x, atI xs k = some x ∧ Rep K w R H d x := by
  unfold atI at e ⊢
  rw [← h.length]
  cases q : ixN ds.length k with
  | none => rw [q] at e; cases e
  | some j =>
    rw [q] at e
    exact h.get e
theorem Reps.cut {ds : List D} {xs : List V} (lo hi : Option Int) (h : Reps K w R H ds xs) : Reps K w R H (cutD ds lo hi) (cutV xs lo hi) := by
  unfold cutD cutV
  rw [h.length]
  exact (h.drop _).take _
theorem minL_mem : ∀ (l : List Int) (m : Int), minL m l ∈ m :: l
  | [], m => List.mem_cons_self
  | x :: r, m => by
    unfold minL
    have := minL_mem r (if x < m then x else m)
    rcases List.mem_cons.mp this with e | e
    · rw [e]
      split
      · exact List.mem_cons_of_mem _ List.mem_cons_self
      · exact List.mem_cons_self
    · exact List.mem_cons_of_mem _ (List.mem_cons_of_mem _ e)
theorem minL_le : ∀ (l : List Int) (m : Int), ∀ y ∈ m :: l, minL m l ≤ y
  | [], m, y, h => by
    have : y = m := by simpa using h
    rw [this]; exact Int.le_refl _
  | x :: r, m, y, h => by
    unfold minL
    have ih := minL_le r (if x < m then x else m)
    have h0 : minL (if x < m then x else m) r ≤ (if x < m then x else m) := ih _ List.mem_cons_self
    have h1 : (if x < m then x else m) ≤ m ∧ (if x < m then x else m) ≤ x := by split <;> omega
    rcases List.mem_cons.mp h with e | h
    · rw [e]; omega
    · rcases List.mem_cons.mp h with e | h
      · rw [e]; omega
      · exact ih y (List.mem_cons_of_mem _ h)
theorem maxL_mem : ∀ (l : List Int) (m : Int), maxL m l ∈ m :: l
  | [], m => List.mem_cons_self
  | x :: r, m => by
    unfold maxL
    have := maxL_mem r (if m < x then x else m)
    rcases List.mem_cons.mp this with e | e
    · rw [e]
      split
      · exact List.mem_cons_of_mem _ List.mem_cons_self
      · exact List.mem_cons_self
    · exact List.mem_cons_of_mem _ (List.mem_cons_of_mem _ e)
theorem maxL_ge : ∀ (l : List Int) (m : Int), ∀ y ∈ m :: l, y ≤ maxL m l
  | [], m, y, h => by
    have : y = m := by simpa using h
    rw [this]; exact Int.le_refl _
  | x :: r, m, y, h => by
    unfold maxL
    have ih := maxL_ge r (if m < x then x else m)
    have h0 : (if m < x then x else m) ≤ maxL (if m < x then x else m) r := ih _ List.mem_cons_self
    have h1 : m ≤ (if m < x then x else m) ∧ x ≤ (if m < x then x else m) := by split <;> omega
    rcases List.mem_cons.mp h with e | h
    · rw [e]; omega
    · rcases List.mem_cons.mp h with e | h
      · rw [e]; omega
      · exact ih y (List.mem_cons_of_mem _ h)
end

section
variable {X : Cx}
/-! ### subscripts -/
def rI (K : PySem.W.Frag) (w : World) : R2 := fun x y H Q => ∃ R a i d, RepT K w R H a x ∧ RepT K w R H i y ∧ ixD a i = some d ∧ ∀ v, Rep K w R H d v → Q v H
theorem or_ix : IxR X (rI X.K X.w) := by
  intro value slice pins s σ H x y v u Q I rx ry h hs
  obtain ⟨R, a, i, d, ha, hi, e, q⟩ := h
  unfold ixD at e
  split at e
  · obtain ⟨p, xs, ep, h1, h2⟩ := ha.lst
    obtain ⟨z, hz, rz⟩ := h2.at e
    exact ix_list value slice pins s σ H x y v u Q I rx ry ⟨p, xs, _, z, ep, hi.int, SqL.of h1, hz, q z rz⟩ hs
  · obtain ⟨p, xs, ep, h1, h2⟩ := ha.tup
    obtain ⟨z, hz, rz⟩ := h2.at e
    exact ix_tup value slice pins s σ H x y v u Q I rx ry ⟨p, xs, _, z, ep, hi.int, h1.sq, hz, q z rz⟩ hs
  · obtain ⟨p, ep, h1⟩ := ha.scr
    rename_i ns k
    have r : Reps X.K X.w R H (ns.map D.int) (ns.map V.int) := reps_ints ns
    have e' : atI (ns.map D.int) k = some d := by
      unfold atI at e ⊢
      rw [List.length_map]
      cases q : ixN ns.length k with
      | none => rw [q] at e; cases e
      | some j =>
        rw [q] at e
        show (ns.map D.int)[j]? = some d
        rw [List.getElem?_map]
        exact e
    obtain ⟨z, hz, rz⟩ := r.at e'
    exact ix_list value slice pins s σ H x y v u Q I rx ry ⟨p, _, _, z, ep, hi.int, h1, hz, q z rz⟩ hs
  · cases e
def rS (K : PySem.W.Frag) (w : World) : V → Option Int → Option Int → Hp → VK → Prop := fun x lo hi H Q => ∃ R a r, RepT K w R H a x ∧ slcD a lo hi = some r ∧ ∀ v H', PR K w R H v H' r → Q v H'
theorem or_slc : SlR X (rS X.K X.w) := by
  intro pins s σ H x v vl vu lo hi sl Q I rx hs pl pu h
  obtain ⟨R, a, r, ha, e, q⟩ := h
  unfold slcD at e
  split at e
  · cases e
    obtain ⟨p, xs, ep, h1, h2⟩ := ha.lst
    exact sl_list pins s σ H x v vl vu lo hi sl Q I rx hs pl pu ⟨p, xs, ep, SqL.of h1, fun b n => q _ _ (PR.lst n (h2.cut lo hi))⟩
  · cases e
    obtain ⟨p, ep, h1⟩ := ha.scr
    exact sl_list pins s σ H x v vl vu lo hi sl Q I rx hs pl pu ⟨p, _, ep, h1, fun b n => q _ _ (PR.lst n ((reps_ints _).cut lo hi))⟩
  · cases e
    obtain ⟨p, xs, ep, h1, h2⟩ := ha.tup
    refine PVU.sl_tupF pins s σ H x v vl vu lo hi sl Q I rx hs pl pu ⟨p, xs, ep, h1.sq, fun z => ?_, fun b o n no => q _ _ (PR.tup n no (h2.cut lo hi))⟩
    refine q _ _ (PR.sc ⟨p, xs, rfl, h1, ?_⟩)
    have h3 := h2.cut lo hi
    rwa [z] at h3
  · cases e

/-! ### built-in functions -/
def btV : Bt → Value
  | .len => .builtin "len"
  | .tuple => .type "tuple"
  | .list => .type "list"
  | .sorted => .builtin "sorted"
  | .sum => .builtin "sum"
  | .min => .builtin "min"
  | .max => .builtin "max"
  | .abs => .builtin "abs"
  | .int => .type "int"
  | .divmod => .builtin "divmod"
  | .all => .builtin "all"
  | .any => .builtin "any"
  | .set => .type "set"
def RepTs (K : PySem.W.Frag) (w : World) (R : Addr → Prop) (H : Hp) : List D → List V → Prop
  | [], [] => True
  | d :: ds, v :: vs => RepT K w R H d v ∧ RepTs K w R H ds vs
  | _, _ => False
section
variable {K : PySem.W.Frag} {w : World} {R : Addr → Prop} {H : Hp}
theorem RepTs.one {d : D} {vs : List V} (h : RepTs K w R H [d] vs) : ∃ v, vs = [v] ∧ RepT K w R H d v := by
  match vs, h with
  | [v], h => exact ⟨v, rfl, h.1⟩
theorem RepTs.two {d e : D} {vs : List V} (h : RepTs K w R H [d, e] vs) : ∃ v u, vs = [v, u] ∧ RepT K w R H d v ∧ RepT K w R H e u := by
  match vs, h with
  | [v, u], h => exact ⟨v, u, rfl, h.1, h.2.1⟩
theorem setIs_dedup {w : World} {h : Heap} {a : Addr} {ns : List Int} {c : Nat} (S : SetR w h a (fun j => decide (j ∈ ns)) c) : SetIs (fun j => decide (j ∈ ns)) c (dedup ns) := by
  obtain ⟨o, es, ep, t, _, _, _, _, nd, hm, _, _, hn, _⟩ := S
  refine ⟨dedup_nodup ns, ?_, fun k => by rw [decide_eq_true_iff, dedup_mem]⟩
  have e1 : (es.toList.map keyOf).length = (dedup ns).length := nodup_len nd (dedup_nodup ns) fun k => by
    rw [← hm k, decide_eq_true_iff, dedup_mem]
  rw [List.length_map, Array.length_toList] at e1
  omega
end
def rF (K : PySem.W.Frag) (w : World) (f : Bt) : List V → Hp → VK → Prop := fun vs H Q => ∃ R ds r, RepTs K w R H ds vs ∧ bltD f ds = some r ∧ ∀ v H', PR K w R H v H' r → Q v H'
theorem set_laid {pins : List (Addr × Obj)} {s : Shared} {σ : St} {H : Hp} {R : Addr → Prop} {Q : VK} {ns : List Int} (I : Inv X pins σ H s) (q : ∀ v H', PR X.K X.w R H v H' (.fr (.set (dedup ns))) → Q v H') {h' : Heap} {tk c : Nat}
    (S : SetR X.w h' s.heap.objs.size (fun j => decide (j ∈ ns)) c) (k : ∀ b o, s.heap.get? b = some o → h'.get? b = some o) : EP X pins σ Q (.ref s.heap.objs.size) { s with heap := h', toks := tk } := by
  have n : H s.heap.objs.size = none := I.hok.fresh (Nat.le_refl _)
  exact ⟨.ref s.heap.objs.size, upd H s.heap.objs.size (SetO X.w s.heap.objs.size (fun j => decide (j ∈ ns)) c), I.laid (t' := tk) k (Nat.le_refl _) (setO_new S), rfl,
    q _ _ ⟨_, _, rfl, n, rfl, _, _, upd_same, setIs_dedup S⟩⟩
theorem cr_blt (hc : X.calm = true) (f : Bt) : CallR X (btV f) (rF X.K X.w f) := by
  intro pins s σ H vs us Q I r h
  obtain ⟨R, ds, rr, hd, e, q⟩ := h
  unfold bltD at e
  split at e
  · cases e
    obtain ⟨v, rfl, h1⟩ := hd.one
    obtain ⟨p, xs, ep, h2, h3⟩ := h1.lst
    exact call_len_seq pins s σ H _ us Q I r ⟨p, xs, by rw [ep], .inl (SqL.of h2), by rw [← h3.length]; exact q _ _ (PR.sc rfl)⟩
  · cases e
    obtain ⟨v, rfl, h1⟩ := hd.one
    obtain ⟨p, xs, ep, h2, h3⟩ := h1.tup
    exact call_len_seq pins s σ H _ us Q I r ⟨p, xs, by rw [ep], .inr h2.sq, by rw [← h3.length]; exact q _ _ (PR.sc rfl)⟩
  · cases e
    obtain ⟨v, rfl, h1⟩ := hd.one
    obtain ⟨p, ep, h2⟩ := h1.scr
    refine call_len_seq pins s σ H _ us Q I r ⟨p, _, by rw [ep], .inl h2, ?_⟩
    rw [List.length_map]
    exact q _ _ (PR.sc rfl)
  · cases e
    obtain ⟨v, rfl, h1⟩ := hd.one
    obtain ⟨p, xs, ep, h2, h3⟩ := h1.lst
    exact PVU.call_tupF pins s σ H _ us Q I r ⟨p, xs, by rw [ep], .inl ⟨SqL.of h2, fun b o n no => q _ _ (PR.tup n no h3)⟩⟩
  · cases e
    obtain ⟨v, rfl, h1⟩ := hd.one
    obtain ⟨p, xs, ep, h2, h3⟩ := h1.tup
    exact PVU.call_tupF pins s σ H _ us Q I r ⟨p, xs, by rw [ep], .inr ⟨h2.sq, q _ _ (PR.sc ⟨p, xs, rfl, h2, h3⟩)⟩⟩
  · cases e
    obtain ⟨v, rfl, h1⟩ := hd.one
    obtain ⟨p, xs, ep, h2, h3⟩ := h1.lst
    exact call_list_of pins s σ H _ us Q I r ⟨p, xs, by rw [ep], .inl (SqL.of h2), fun b n => q _ _ (PR.lst n h3)⟩
  · cases e
    obtain ⟨v, rfl, h1⟩ := hd.one
    obtain ⟨p, xs, ep, h2, h3⟩ := h1.tup
    exact call_list_of pins s σ H _ us Q I r ⟨p, xs, by rw [ep], .inr h2.sq, fun b n => q _ _ (PR.lst n h3)⟩
  · cases e
    obtain ⟨v, rfl, h1⟩ := hd.one
    obtain ⟨p, ep, h2⟩ := h1.scr
    exact call_list_of pins s σ H _ us Q I r ⟨p, _, by rw [ep], .inl h2, fun b n => q _ _ (PR.lst n (reps_ints _))⟩
  · obtain ⟨ns, hn, e'⟩ := Option.map_eq_some_iff.mp e
    subst e'
    obtain ⟨v, rfl, h1⟩ := hd.one
    obtain ⟨p, xs, ep, h2, h3⟩ := h1.lst
    rw [intsOf_eq hn] at h3
    rw [h3.ints] at h2
    refine cr_sortedI pins s σ H _ us Q I r ⟨p, ns, by rw [ep], SqL.of h2, fun ns' b pm ps n => ?_⟩
    have e2 : ns' = isort ns := sorted_uniq ps (isort_sorted ns) (pm.trans (isort_perm ns).symm)
    subst e2
    exact q _ _ (PR.lst n (reps_ints _))
  · split at e
    · rename_i ns hz
      cases e
      obtain ⟨v, rfl, h1⟩ := hd.one
      obtain ⟨p, S, n, ep, h2, h3, h4, h5⟩ := h1.set
      refine cr_sortedSet hc pins s σ H _ us Q I r ⟨p, S, n, by rw [ep], h2, by omega, fun ns' b ps hm hl nb => ?_⟩
      have nd' : ns'.Nodup := ps.imp fun h => Int.ne_of_lt h
      have e2 : ns' = isort ns := by
        refine sorted_uniq (ps.imp fun h => Int.le_of_lt h) (isort_sorted ns) ?_
        exact ((List.perm_ext_iff_of_nodup nd' h3).mpr fun k => by rw [hm k, h5 k]).trans (isort_perm ns).symm
      subst e2
      exact q _ _ (PR.lst nb (reps_ints _))
    · cases e
  · obtain ⟨ns, hn, e'⟩ := Option.map_eq_some_iff.mp e
    subst e'
    obtain ⟨v, rfl, h1⟩ := hd.one
    obtain ⟨p, xs, ep, h2, h3⟩ := h1.lst
    rw [intsOf_eq hn] at h3
    rw [h3.ints] at h2
    exact cr_sum hc pins s σ H _ us Q I r ⟨p, ns, by rw [ep], SqL.of h2, q _ _ (PR.sc rfl)⟩
  · cases e
    obtain ⟨v, rfl, h1⟩ := hd.one
    obtain ⟨p, ep, h2⟩ := h1.scr
    exact cr_sum hc pins s σ H _ us Q I r ⟨p, _, by rw [ep], h2, q _ _ (PR.sc rfl)⟩
  · cases e
    obtain ⟨v, u, rfl, h1, h2⟩ := hd.two
    exact call_min2 hc pins s σ H _ us Q I r ⟨_, _, by rw [h1.int, h2.int], q _ _ (PR.sc rfl)⟩
  · cases e
    obtain ⟨v, u, rfl, h1, h2⟩ := hd.two
    exact call_max2 hc pins s σ H _ us Q I r ⟨_, _, by rw [h1.int, h2.int], q _ _ (PR.sc rfl)⟩
  · rename_i x xs0
    obtain ⟨ns, hn, e'⟩ := Option.map_eq_some_iff.mp e
    subst e'
    obtain ⟨v, rfl, h1⟩ := hd.one
    obtain ⟨p, xs, ep, h2, h3⟩ := h1.lst
    rw [intsOf_eq hn] at h3
    have h3' : Reps X.K X.w R H ((x :: ns).map D.int) xs := h3
    rw [h3'.ints] at h2
    refine cr_min hc pins s σ H _ us Q I r ⟨p, x :: ns, by rw [ep], SqL.of h2, by simp, fun m hm hl => ?_⟩
    have e2 : m = minL x ns := by
      have a1 := hl _ (minL_mem ns x)
      have a2 := minL_le ns x m hm
      omega
    subst e2
    exact q _ _ (PR.sc rfl)
  · rename_i x xs0
    obtain ⟨ns, hn, e'⟩ := Option.map_eq_some_iff.mp e
    subst e'
    obtain ⟨v, rfl, h1⟩ := hd.one
    obtain ⟨p, xs, ep, h2, h3⟩ := h1.lst
    rw [intsOf_eq hn] at h3
    have h3' : Reps X.K X.w R H ((x :: ns).map D.int) xs := h3
    rw [h3'.ints] at h2
    refine cr_max hc pins s σ H _ us Q I r ⟨p, x :: ns, by rw [ep], SqL.of h2, by simp, fun m hm hl => ?_⟩
    have e2 : m = maxL x ns := by
      have a1 := hl _ (maxL_mem ns x)
      have a2 := maxL_ge ns x m hm
      omega
    subst e2
    exact q _ _ (PR.sc rfl)
  · cases e
    obtain ⟨v, rfl, h1⟩ := hd.one
    exact call_abs pins s σ H _ us Q I r ⟨_, by rw [h1.int], q _ _ (PR.sc rfl)⟩
  · cases e
    obtain ⟨v, rfl, h1⟩ := hd.one
    exact call_int1 pins s σ H _ us Q I r (.inl ⟨_, by rw [h1.int], q _ _ (PR.sc rfl)⟩)
  · split at e
    · rename_i hz
      cases e
      obtain ⟨v, u, rfl, h1, h2⟩ := hd.two
      exact call_divmod pins s σ H _ us Q I r ⟨_, _, by rw [h1.int, h2.int], hz, fun b n => q _ _ (PR.rtp (ds := [.int _, .int _]) n ⟨rfl, rfl, trivial⟩)⟩
    · cases e
  · obtain ⟨ns, hn, e'⟩ := Option.map_eq_some_iff.mp e
    subst e'
    obtain ⟨v, rfl, h1⟩ := hd.one
    obtain ⟨p, xs, ep, h2, h3⟩ := h1.lst
    rw [blsOf_eq hn] at h3
    rw [h3.bls] at h2
    exact cr_all hc pins s σ H _ us Q I r ⟨p, ns, by rw [ep], SqL.of h2, q _ _ (PR.sc rfl)⟩
  · obtain ⟨ns, hn, e'⟩ := Option.map_eq_some_iff.mp e
    subst e'
    obtain ⟨v, rfl, h1⟩ := hd.one
    obtain ⟨p, xs, ep, h2, h3⟩ := h1.lst
    rw [blsOf_eq hn] at h3
    rw [h3.bls] at h2
    exact cr_any hc pins s σ H _ us Q I r ⟨p, ns, by rw [ep], SqL.of h2, q _ _ (PR.sc rfl)⟩
  · obtain ⟨ns, hn, e'⟩ := Option.bind_eq_some_iff.mp e
    split at e'
    · rename_i hz
      cases e'
      obtain ⟨v, rfl, h1⟩ := hd.one
      obtain ⟨p, xs, ep, h2, h3⟩ := h1.lst
      rw [intsOf_eq hn] at h3
      rw [h3.ints] at h2
      rw [ep] at r
      rw [Vals.ref1 r]
      obtain ⟨its, rv, pl, hl⟩ := I.list (SqL.of h2)
      exact PVS.set_of_list ns (I.ok.hd hc) pl.isList (by simpa using rv.ints) (by unfold scanBound; omega) fun h' tk c S k => set_laid I q S k
    · cases e'
  · obtain ⟨ns, hn, e'⟩ := Option.bind_eq_some_iff.mp e
    split at e'
    · rename_i hz
      cases e'
      obtain ⟨v, rfl, h1⟩ := hd.one
      obtain ⟨p, xs, ep, h2, h3⟩ := h1.tup
      rw [intsOf_eq hn] at h3
      rw [h3.ints] at h2
      rw [ep] at r
      rw [Vals.ref1 r]
      obtain ⟨its, rv, pl, hl⟩ := I.tuple h2.sq
      exact call_set_tupI ns (I.ok.hd hc) pl (by simpa using rv.ints) (by unfold scanBound; omega) fun h' tk c S _ k => set_laid I q S k
    · cases e'
  · cases e
end
end PV

/-! PV, part H: the readings of expressions by the interpreter. -/
namespace PV
open PySem PySem.Spec PyProof.Rows L2

section
variable {K : PySem.W.Frag} {w : World} {R R' R1 R2 : Addr → Prop} {ρ ρ' ρ1 ρ2 : Rho} {σ : St} {H H' H1 H2 : Hp}

/-! ### making a value of a result -/
theorem own_set {i : Nat} {s : Sl} {b : Addr} (n : ∀ d, s ≠ .own d) (h : Own (ρ.set i s) σ b) : Own ρ σ b ∧ ∀ a, σ[i]? = some (some (.ref a)) → i < ρ.length → True := by
  obtain ⟨j, d, h1, h2⟩ := h
  refine ⟨?_, fun _ _ _ => trivial⟩
  by_cases e : i = j
  · subst e
    by_cases hl : i < ρ.length
    · rw [List.getElem?_set_self hl] at h1
      exact absurd (Option.some.inj h1) (n d)
    · rw [List.getElem?_eq_none (by simpa using hl)] at h1
      cases h1
  · rw [List.getElem?_set_ne e] at h1
    exact ⟨j, d, h1, h2⟩
/-- an own slot is only read from now on -/
theorem Mt.freeze (m : Mt K w R ρ σ H) {i : Nat} {d : D} {a : Addr} (h : ρ[i]? = some (.own d)) (ha : σ[i]? = some (some (.ref a))) :
    Mt K w (fun b => R b ∨ b = a) (ρ.set i (.ro d)) σ H := by
  obtain ⟨a', h1, h2, h3⟩ := m.own i d h
  rw [ha] at h1
  cases h1
  have hi : i < ρ.length := (List.getElem?_eq_some_iff.mp h).1
  obtain ⟨o, ho, _⟩ := h3.there
  refine ⟨by simpa using m.len, fun b hb => hb.elim (m.trk b) fun e => by rw [e, ho]; simp, fun j e hj => ?_, fun j e hj => ?_, fun j k e f b h1 h2 h3 h4 => ?_⟩
  · by_cases q : i = j
    · subst q
      rw [List.getElem?_set_self hi] at hj
      cases hj
      exact ⟨_, ha, (Top.keep (fun _ z => .inl z) (fun _ _ _ z => z) (fun _ _ _ z => z) (fun _ z => z) h3).freeze (.inr rfl)⟩
    · rw [List.getElem?_set_ne q] at hj
      obtain ⟨v, e1, e2⟩ := m.ro j e hj
      exact ⟨v, e1, Rep.keep (fun _ z => .inl z) (fun _ _ _ z => z) (fun _ _ _ z => z) e v e2⟩
  · by_cases q : i = j
    · subst q
      rw [List.getElem?_set_self hi] at hj
      cases hj
    · rw [List.getElem?_set_ne q] at hj
      obtain ⟨b, e1, e2, e3⟩ := m.own j e hj
      refine ⟨b, e1, fun z => ?_, Top.keep (fun _ z => .inl z) (fun _ _ _ z => z) (fun _ _ _ z => z) (fun _ z => z) e3⟩
      rcases z with z | z
      · exact e2 z
      · exact q (m.inj i j d e a h hj ha (z ▸ e1))
  · have f1 : ∀ {j : Nat} {e : D}, (ρ.set i (.ro d))[j]? = some (.own e) → ρ[j]? = some (.own e) := fun {j e} hj => by
      by_cases q : i = j
      · subst q
        rw [List.getElem?_set_self hi] at hj
        cases hj
      · rwa [List.getElem?_set_ne q] at hj
    exact m.inj j k e f b (f1 h1) (f1 h2) h3 h4
theorem SS.fix {np : Nat} {σ1 : St} {v : V} {r : Rs} {d : D} (s : SS K w np σ R ρ H σ1 R1 ρ1 H1) (rr : RR K w R1 ρ1 σ1 H1 v r) (fn : FrN H v r) (e : fix ρ1 r = some (d, ρ2)) :
    ∃ R2, (∀ b, R1 b → R2 b) ∧ SS K w np σ R ρ H σ1 R2 ρ2 H1 ∧ Rep K w R2 H1 d v := by
  cases r with
  | val d' =>
    have e' : some (d', ρ1) = some (d, ρ2) := e
    cases e'
    exact ⟨R1, fun _ z => z, s, rr⟩
  | fr d' =>
    have e' : some (d', ρ1) = some (d, ρ2) := e
    cases e'
    obtain ⟨a, ea, n1, n2, t⟩ := rr
    obtain ⟨o, ho, _⟩ := t.there
    refine ⟨fun b => R1 b ∨ b = a, fun _ z => .inl z, ⟨fun b h => .inl (s.up b h), s.mt.grow n2 (by rw [ho]; simp), s.fr, fun b h => ?_, s.mo, s.nw, s.pm⟩, ?_⟩
    · rcases h with h | h
      · exact s.bd b h
      · exact .inr (.inl (h ▸ fn a ea))
    · rw [ea]
      exact (Top.keep (fun _ z => .inl z) (fun _ _ _ z => z) (fun _ _ _ z => z) (fun _ z => z) t).freeze (.inr rfl)
  | al i =>
    have rr : σ1[i]? = some (some v) := rr
    unfold PV.fix at e
    dsimp only at e
    split at e
    · rename_i d' q
      cases e
      obtain ⟨v', h1, h2⟩ := s.mt.ro i _ q
      rw [rr] at h1
      cases h1
      exact ⟨R1, fun _ z => z, s, h2⟩
    · rename_i d' q
      cases e
      obtain ⟨a, h1, h2, h3⟩ := s.mt.own i _ q
      rw [rr] at h1
      cases h1
      have m2 := s.mt.freeze q rr
      have hO : Own ρ1 σ1 a := ⟨i, _, q, rr⟩
      refine ⟨fun b => R1 b ∨ b = a, fun _ z => .inl z, ⟨fun b h => .inl (s.up b h), m2, s.fr, fun b h => ?_, fun b h => s.mo b (own_set (fun _ z => by cases z) h).1, s.nw, s.pm⟩, ?_⟩
      · rcases h with h | h
        · exact s.bd b h
        · rcases s.mo a hO with q | q
          · exact .inr (.inr (h ▸ q))
          · exact .inr (.inl (h ▸ q))
      · exact (Top.keep (fun _ z => .inl z) (fun _ _ _ z => z) (fun _ _ _ z => z) (fun _ z => z) h3).freeze (.inr rfl)
    · cases e
theorem fix_step {v : V} {r : Rs} {d : D} (s : Step K w σ R ρ H R1 ρ1 H1) (rr : RR K w R1 ρ1 σ H1 v r) (fn : FrN H v r) (e : fix ρ1 r = some (d, ρ2)) :
    ∃ R2, (∀ b, R1 b → R2 b) ∧ Step K w σ R ρ H R2 ρ2 H1 ∧ Rep K w R2 H1 d v := SS.fix s rr fn e
theorem rep_mono {d : D} {v : V} (h : ∀ b, R1 b → R2 b) (r : Rep K w R1 H d v) : Rep K w R2 H d v := Rep.keep h (fun _ _ _ z => z) (fun _ _ _ z => z) d v r

/-! ### several results -/
def RRs (K : PySem.W.Frag) (w : World) (R : Addr → Prop) (ρ : Rho) (σ : St) (H : Hp) : List V → List Rs → Prop
  | [], [] => True
  | v :: vs, r :: rs => RR K w R ρ σ H v r ∧ RRs K w R ρ σ H vs rs
  | _, _ => False
/-- fresh objects: none was there, no two are one -/
def FrNs (H : Hp) : List V → List Rs → Prop
  | v :: vs, r :: rs => FrN H v r ∧ FrNs H vs rs ∧ (∀ d, r = .fr d → ∀ (i : Nat) (d' : D), rs[i]? = some (Rs.fr d') → vs[i]? ≠ some v)
  | _, _ => True
theorem RRs.length : ∀ {vs : List V} {rs : List Rs}, RRs K w R ρ σ H vs rs → vs.length = rs.length
  | [], [], _ => rfl
  | v :: vs, r :: rs, h => by
    have := RRs.length (vs := vs) (rs := rs) h.2
    simp [this]
  | [], _ :: _, h => h.elim
  | _ :: _, [], h => h.elim
theorem RRs.get : ∀ {vs : List V} {rs : List Rs} {i : Nat} {r : Rs}, RRs K w R ρ σ H vs rs → rs[i]? = some r → ∃ v, vs[i]? = some v ∧ RR K w R ρ σ H v r
  | [], [], _, _, _, e => by simp at e
  | v :: vs, r :: rs, 0, r', h, e => by
    simp at e
    subst e
    exact ⟨v, rfl, h.1⟩
  | v :: vs, r :: rs, i + 1, r', h, e => RRs.get (vs := vs) (rs := rs) (i := i) h.2 (by simpa using e)
  | [], _ :: _, _, _, h, _ => h.elim
  | _ :: _, [], _, _, h, _ => h.elim
theorem RRs.step (m : Mt K w R ρ σ H) (s : Step K w σ R ρ H R' ρ' H') : ∀ {vs : List V} {rs : List Rs}, RRs K w R ρ σ H vs rs → RRs K w R' ρ' σ H' vs rs
  | [], [], h => h
  | v :: vs, r :: rs, h => ⟨RR.step m s h.1, RRs.step m s (vs := vs) (rs := rs) h.2⟩
  | [], _ :: _, h => h.elim
  | _ :: _, [], h => h.elim
theorem RRs.append : ∀ {vs us : List V} {rs ts : List Rs}, RRs K w R ρ σ H vs rs → RRs K w R ρ σ H us ts → RRs K w R ρ σ H (vs ++ us) (rs ++ ts)
  | [], _, [], _, _, h => h
  | v :: vs, us, r :: rs, ts, h, h' => ⟨h.1, RRs.append (vs := vs) (rs := rs) h.2 h'⟩
  | [], _, _ :: _, _, h, _ => h.elim
  | _ :: _, _, [], _, h, _ => h.elim
theorem FrNs.get : ∀ {vs : List V} {rs : List Rs} {i : Nat} {r : Rs} {v : V}, FrNs H vs rs → rs[i]? = some r → vs[i]? = some v → FrN H v r
  | v :: vs, r :: rs, 0, r', v', h, e, e' => by
    simp at e e'
    subst e
    subst e'
    exact h.1
  | v :: vs, r :: rs, i + 1, r', v', h, e, e' => FrNs.get (vs := vs) (rs := rs) (i := i) h.2.1 (by simpa using e) (by simpa using e')
  | [], _, _, _, _, _, _, e' => by simp at e'
  | _ :: _, [], _, _, _, _, e, _ => by simp at e
/-- a fresh object made later is another one -/
theorem fr_new {vs : List V} {rs : List Rs} {v : V} {d : D} (t : RR K w R1 ρ1 σ H1 v (.fr d)) (f : FrNs H1 vs rs) (i : Nat) (d' : D) (h : rs[i]? = some (Rs.fr d')) : vs[i]? ≠ some v := fun z => by
  obtain ⟨a, ea, _, _, t⟩ := t
  obtain ⟨o, ho, _⟩ := t.there
  have q : FrN H1 v (.fr d') := f.get h z
  rw [q a ea] at ho
  cases ho
theorem FrN.back {v : V} {r : Rs} (nw : ∀ b, H b ≠ none → H1 b ≠ none) (h : FrN H1 v r) : FrN H v r := by
  cases r with
  | fr d =>
    intro a e
    cases q : H a with
    | none => rfl
    | some o => exact absurd (h a e) (nw a (by rw [q]; simp))
  | _ => trivial
theorem FrNs.back (nw : ∀ b, H b ≠ none → H1 b ≠ none) : ∀ {vs : List V} {rs : List Rs}, FrNs H1 vs rs → FrNs H vs rs
  | v :: vs, r :: rs, h => ⟨FrN.back nw h.1, FrNs.back nw h.2.1, h.2.2⟩
  | [], _, _ => trivial
  | _ :: _, [], _ => trivial
theorem FrNs.cons {v : V} {r : Rs} {vs : List V} {rs : List Rs} (s : Step K w σ R ρ H R1 ρ1 H1) (rr : RR K w R1 ρ1 σ H1 v r) (f : FrN H v r) (fs : FrNs H1 vs rs) : FrNs H (v :: vs) (r :: rs) :=
  ⟨f, fs.back s.nw, fun d e i d' h => by subst e; exact fr_new rr fs i d' h⟩
theorem FrNs.append : ∀ {vs us : List V} {rs ts : List Rs} (s : Step K w σ R ρ H R1 ρ1 H1), RRs K w R1 ρ1 σ H1 vs rs → FrNs H vs rs → FrNs H1 us ts → FrNs H (vs ++ us) (rs ++ ts)
  | [], us, [], ts, s, _, _, h => h.back s.nw
  | v :: vs, us, r :: rs, ts, s, rr, h, h' => by
    refine ⟨h.1, FrNs.append (vs := vs) (rs := rs) s rr.2 h.2.1 h', fun d e i d' q => ?_⟩
    subst e
    replace q : (rs ++ ts)[i]? = some (Rs.fr d') := q
    show (vs ++ us)[i]? ≠ some v
    have hl := RRs.length rr.2
    by_cases hi : i < rs.length
    · rw [List.getElem?_append_left hi] at q
      rw [List.getElem?_append_left (by omega)]
      exact h.2.2 d rfl i d' q
    · rw [List.getElem?_append_right (by omega)] at q
      rw [List.getElem?_append_right (by omega), hl]
      exact fr_new rr.1 h' _ d' q
  | [], _, _ :: _, _, _, h, _, _ => h.elim
  | _ :: _, _, [], _, _, h, _, _ => h.elim
theorem looks_rep (m : Mt K w R ρ σ H) : ∀ {vs : List V} {rs : List Rs} {ds : List D}, RRs K w R ρ σ H vs rs → looks ρ rs = some ds → RepTs K w R H ds vs
  | [], [], _, _, e => by
    cases e
    trivial
  | v :: vs, r :: rs, ds, h, e => by
    unfold looks at e
    obtain ⟨d, e1, e2⟩ := Option.bind_eq_some_iff.mp e
    obtain ⟨es, e3, e4⟩ := Option.map_eq_some_iff.mp e2
    subst e4
    exact ⟨look_rep m h.1 e1, looks_rep m (vs := vs) (rs := rs) h.2 e3⟩
  | [], _ :: _, _, h, _ => h.elim
  | _ :: _, [], _, h, _ => h.elim
end

/-! ### the readings -/
section
variable (K : PySem.W.Frag) (w : World) (C : Cfg)
def tD (e : E) : TE := fun σ H Q => ∃ R ρ r ρ', Mt K w R ρ σ H ∧ ev C e ρ = some (r, ρ') ∧ ∀ v H' R', Step K w σ R ρ H R' ρ' H' → RR K w R' ρ' σ H' v r → FrN H v r → Q v H'
def tT (e : E) : TT := fun σ H Q => ∃ R ρ b ρ', Mt K w R ρ σ H ∧ tst C e ρ = some (b, ρ') ∧ ∀ H' R', Step K w σ R ρ H R' ρ' H' → Q b H'
def tTo (e : Option E) : TT := fun σ H Q => ∃ R ρ b ρ', Mt K w R ρ σ H ∧ tso C e ρ = some (b, ρ') ∧ ∀ H' R', Step K w σ R ρ H R' ρ' H' → Q b H'
def tA (es : List E) : TA := fun σ H Q => ∃ R ρ rs ρ', Mt K w R ρ σ H ∧ evs C es ρ = some (rs, ρ') ∧ ∀ vs H' R', Step K w σ R ρ H R' ρ' H' → RRs K w R' ρ' σ H' vs rs → FrNs H vs rs → Q vs H'
def tAf (es : List E) : TA := fun σ H Q => ∃ R ρ ds ρ', Mt K w R ρ σ H ∧ evf C es ρ = some (ds, ρ') ∧ ∀ vs H' R', Step K w σ R ρ H R' ρ' H' → Reps K w R' H' ds vs → Q vs H'
def tOp (e : Option E) : TO := fun σ H Q => ∃ R ρ o ρ', Mt K w R ρ σ H ∧ evo C e ρ = some (o, ρ') ∧ ∀ H' R', Step K w σ R ρ H R' ρ' H' → Q o H'
end
theorem PE.imp {X : Cx} {e : Expr} {t t' : TE} (h : PE X e t) (i : ∀ σ H Q, t' σ H Q → t σ H Q) : PE X e t' := ⟨fun pins s σ H Q I q => h.run pins s σ H Q I (i σ H Q q)⟩
theorem PT.imp {X : Cx} {e : Expr} {t t' : TT} (h : PT X e t) (i : ∀ σ H Q, t' σ H Q → t σ H Q) : PT X e t' := ⟨fun pins s σ H Q I q => h.run pins s σ H Q I (i σ H Q q)⟩
theorem PA.imp {X : Cx} {es : List Expr} {t t' : TA} (h : PA X es t) (i : ∀ σ H Q, t' σ H Q → t σ H Q) : PA X es t' := ⟨fun pos pins s σ H Q I q => h.run pos pins s σ H Q I (i σ H Q q)⟩
theorem PK.imp {X : Cx} {es : List Keyword} {t t' : TA} (h : PK X es t) (i : ∀ σ H Q, t' σ H Q → t σ H Q) : PK X es t' := ⟨fun pos pins s σ H Q I q => h.run pos pins s σ H Q I (i σ H Q q)⟩
theorem PS.imp {X : Cx} {st : Stmt} {t t' : TS} (h : PS X st t) (i : ∀ D σ H, t' D σ H → t D σ H) : PS X st t' := ⟨fun pins s σ H D I q => h.run pins s σ H D I (i D σ H q)⟩
theorem PSs.imp {X : Cx} {st : List Stmt} {t t' : TS} (h : PSs X st t) (i : ∀ D σ H, t' D σ H → t D σ H) : PSs X st t' := ⟨fun pins s σ H D I q => h.run pins s σ H D I (i D σ H q)⟩
theorem PI.imp {X : Cx} {tg e : Expr} {t t' : TI} (h : PI X tg e t) (i : ∀ σ H R, t' σ H R → t σ H R) : PI X tg e t' := ⟨fun pins s σ H R I q => h.run pins s σ H R I (i σ H R q)⟩
end PV

/-! PV, part I: the rules for expressions. -/
namespace PV
open PySem PySem.Spec PyProof.Rows L2

/-! ### the model's side conditions, by the kind of a piece -/
def isStar : Expr → Bool
  | .Starred .. => true
  | _ => false
theorem star_cons {e : Expr} {es : List Expr} {env : Env} (h : isStar e = false) : starEach (e :: es) env = (false, eval e env) :: starEach es env := by
  cases e <;> first | rfl | cases h
theorem star_plain {pos : Pos} {env : Env} : ∀ {es : List Expr}, es.all (fun e => !isStar e) = true → (backTo pos (starEach es env)).any (·.1) = false
  | [], _ => rfl
  | e :: es, h => by
    rw [List.all_cons, Bool.and_eq_true] at h
    rw [star_cons (by simpa using h.1)]
    show (false || (backTo pos (starEach es env)).any (·.1)) = false
    rw [star_plain h.2]
    rfl
def isSlice : Expr → Bool
  | .Slice .. => true
  | _ => false
theorem plain_ix {e : Expr} (h : isSlice e = false) : PlainIx e := by
  intro o i
  cases e <;> first | rfl | cases h
/-- an expression whose test is the truth of its value -/
def isPlainTest : Expr → Bool
  | .UnaryOp .Not _ _ => false
  | .BoolOp .. => false
  | .IfExp .. => false
  | .Compare .. => false
  | _ => true
theorem plain_test {e : Expr} {env : Env} (h : isPlainTest e = true) (whole : Sem Value) : isTrue e env whole = (do let v ← whole; standAt e.pos; holding [v] (truthy v)) := by
  cases e <;> first | rfl | cases h | (rename_i op _ _; cases op <;> first | rfl | cases h)

section
variable {X : Cx} {C : Cfg} {a b c e : Expr} {ma mb mc : E} {pos : Pos}

theorem px_var {i : Nat} {x : Str} (hN : X.N[i]? = some x) (hv : Vis X.env.scope x) (hd : (x == ("__debug__" : Str)) = false) (hcd : (x == ("__classdict__" : Str)) = false) : PE X (.Name x pos) (tD X.K X.w C (.var i)) := by
  refine PE.imp (pe_var hN hv hd hcd) fun σ H Q h => ?_
  obtain ⟨R, ρ, r, ρ', m, e, q⟩ := h
  unfold ev at e
  split at e
  · rename_i d h1
    cases e
    obtain ⟨v, h2, _⟩ := m.ro i _ h1
    exact ⟨v, h2, q v H R (Step.refl m) h2 trivial⟩
  · rename_i d h1
    cases e
    obtain ⟨v, h2, _⟩ := m.own i _ h1
    exact ⟨_, h2, q _ H R (Step.refl m) h2 trivial⟩
  · cases e
theorem px_con {e : Expr} {d : D} {v : V} (h : PE X e (tC v)) (r : ∀ R H, Rep X.K X.w R H d v) : PE X e (tD X.K X.w C (.con d)) := by
  refine PE.imp h fun σ H Q h => ?_
  obtain ⟨R, ρ, r', ρ', m, e, q⟩ := h
  cases e
  exact q v H R (Step.refl m) (r R H) trivial
theorem px_glb {x : Str} (hg : Gl X x) (hd : (x == ("__debug__" : Str)) = false) (h : ∀ d, C.glb x = some d → ∃ v u, X.mg x = some u ∧ RelV v u ∧ ∀ R H, Rep X.K X.w R H d v) : PE X (.Name x pos) (tD X.K X.w C (.glb x)) := by
  refine ⟨fun pins s σ H Q I q => ?_⟩
  obtain ⟨R, ρ, r', ρ', m, e, q⟩ := q
  obtain ⟨d, e1, e2⟩ := Option.map_eq_some_iff.mp (show (C.glb x).map _ = some (r', ρ') from e)
  cases e2
  obtain ⟨v, u, h1, h2, h3⟩ := h d e1
  exact (pe_glob (v := v) hg h1 h2 hd).run pins s σ H Q I (q v H R (Step.refl m) (h3 R H) trivial)
theorem px_bin {op : Operator} (ha : PE X a (tD X.K X.w C ma)) (hb : PE X b (tD X.K X.w C mb)) : PE X (.BinOp a op b pos) (tD X.K X.w C (.bin op ma mb)) := by
  refine PE.imp (pe_op (or_bin op) ha hb) fun σ H Q h => ?_
  obtain ⟨R, ρ, r, ρ', m, e, q⟩ := h
  obtain ⟨⟨ra, ρ1⟩, e1, e⟩ := Option.bind_eq_some_iff.mp (show (ev C ma ρ).bind _ = some (r, ρ') from e)
  obtain ⟨⟨rb, ρ2⟩, e2, e⟩ := Option.bind_eq_some_iff.mp e
  obtain ⟨x, e3, e⟩ := Option.bind_eq_some_iff.mp e
  obtain ⟨y, e4, e⟩ := Option.bind_eq_some_iff.mp e
  obtain ⟨r', e5, e⟩ := Option.map_eq_some_iff.mp e
  cases e
  refine ⟨R, ρ, ra, ρ1, m, e1, fun v1 H1 R1 s1 rr1 f1 => ⟨R1, ρ1, rb, ρ', s1.mt, e2, fun v2 H2 R2 s2 rr2 f2 => ?_⟩⟩
  refine ⟨R2, x, y, r, look_rep s2.mt (rr1.step s1.mt s2) e3, look_rep s2.mt rr2 e4, e5, fun v H' p => ?_⟩
  obtain ⟨s3, rr3, f3⟩ := p.step s2.mt
  exact q v H' R2 ((s1.trans s2).trans s3) rr3 (f3.back (s1.trans s2).nw)
theorem px_neg (ha : PE X a (tD X.K X.w C ma)) : PE X (.UnaryOp .USub a pos) (tD X.K X.w C (.neg ma)) := by
  refine PE.imp (pe_un un_neg ha) fun σ H Q h => ?_
  obtain ⟨R, ρ, r, ρ', m, e, q⟩ := h
  obtain ⟨⟨ra, ρ1⟩, e1, e⟩ := Option.bind_eq_some_iff.mp (show (ev C ma ρ).bind _ = some (r, ρ') from e)
  obtain ⟨x, e3, e⟩ := Option.bind_eq_some_iff.mp e
  obtain ⟨i, e5, e⟩ := Option.map_eq_some_iff.mp e
  cases e
  refine ⟨R, ρ, ra, ρ', m, e1, fun v1 H1 R1 s1 rr1 f1 => ?_⟩
  have t := look_rep s1.mt rr1 e3
  have ex : x = .int i := by
    unfold intOf at e5
    split at e5
    · cases e5; rfl
    · cases e5
  subst ex
  exact ⟨i, t.int, q _ H1 R1 s1 rfl trivial⟩
theorem px_not (ha : PE X a (tD X.K X.w C ma)) : PE X (.UnaryOp .Not a pos) (tD X.K X.w C (.not ma)) := by
  refine PE.imp (pe_not ha) fun σ H Q h => ?_
  obtain ⟨R, ρ, r, ρ', m, e, q⟩ := h
  obtain ⟨⟨ra, ρ1⟩, e1, e⟩ := Option.bind_eq_some_iff.mp (show (ev C ma ρ).bind _ = some (r, ρ') from e)
  refine ⟨R, ρ, ra, ρ1, m, e1, fun v1 H1 R1 s1 rr1 f1 => ?_⟩
  dsimp only at e
  split at e
  · rename_i b e3
    cases e
    exact ⟨b, (look_rep s1.mt rr1 e3).bl, q _ H1 R1 s1 rfl trivial⟩
  · cases e
theorem px_one {op : BoolOp} (ha : PE X a (tD X.K X.w C ma)) : PE X (.BoolOp op [a] pos) (tD X.K X.w C ma) := pe_one ha
theorem px_and {rest : List Expr} (ha : PE X a (tD X.K X.w C ma)) (hb : PE X (.BoolOp .And (b :: rest) pos) (tD X.K X.w C mb)) : PE X (.BoolOp .And (a :: b :: rest) pos) (tD X.K X.w C (.bop true ma mb)) := by
  refine PE.imp (pe_and ha hb) fun σ H Q h => ?_
  obtain ⟨R, ρ, r, ρ', m, e, q⟩ := h
  obtain ⟨⟨ra, ρ1⟩, e1, e⟩ := Option.bind_eq_some_iff.mp (show (ev C ma ρ).bind _ = some (r, ρ') from e)
  refine ⟨R, ρ, ra, ρ1, m, e1, fun v1 H1 R1 s1 rr1 f1 => ?_⟩
  dsimp only at e
  split at e
  · rename_i e3
    refine ⟨true, (look_rep s1.mt rr1 e3).bl, ?_⟩
    rw [if_pos rfl]
    exact ⟨R1, ρ1, r, ρ', s1.mt, e, fun v H' R' s rr f => q v H' R' (s1.trans s) rr (f.back s1.nw)⟩
  · rename_i e3
    cases e
    refine ⟨false, (look_rep s1.mt rr1 e3).bl, ?_⟩
    rw [if_neg Bool.false_ne_true]
    exact q _ H1 R1 s1 rfl trivial
  · cases e
theorem px_or {rest : List Expr} (ha : PE X a (tD X.K X.w C ma)) (hb : PE X (.BoolOp .Or (b :: rest) pos) (tD X.K X.w C mb)) : PE X (.BoolOp .Or (a :: b :: rest) pos) (tD X.K X.w C (.bop false ma mb)) := by
  refine PE.imp (pe_or ha hb) fun σ H Q h => ?_
  obtain ⟨R, ρ, r, ρ', m, e, q⟩ := h
  obtain ⟨⟨ra, ρ1⟩, e1, e⟩ := Option.bind_eq_some_iff.mp (show (ev C ma ρ).bind _ = some (r, ρ') from e)
  refine ⟨R, ρ, ra, ρ1, m, e1, fun v1 H1 R1 s1 rr1 f1 => ?_⟩
  dsimp only at e
  split at e
  · rename_i e3
    cases e
    refine ⟨true, (look_rep s1.mt rr1 e3).bl, ?_⟩
    rw [if_pos rfl]
    exact q _ H1 R1 s1 rfl trivial
  · rename_i e3
    refine ⟨false, (look_rep s1.mt rr1 e3).bl, ?_⟩
    rw [if_neg Bool.false_ne_true]
    exact ⟨R1, ρ1, r, ρ', s1.mt, e, fun v H' R' s rr f => q v H' R' (s1.trans s) rr (f.back s1.nw)⟩
  · cases e
theorem px_ife (hc : PT X c (tT X.K X.w C mc)) (ha : PE X a (tD X.K X.w C ma)) (hb : PE X b (tD X.K X.w C mb)) : PE X (.IfExp c a b pos) (tD X.K X.w C (.ife mc ma mb)) := by
  refine PE.imp (pe_ifExp hc ha hb) fun σ H Q h => ?_
  obtain ⟨R, ρ, r, ρ', m, e, q⟩ := h
  obtain ⟨⟨t, ρ1⟩, e1, e⟩ := Option.bind_eq_some_iff.mp (show (tst C mc ρ).bind _ = some (r, ρ') from e)
  refine ⟨R, ρ, t, ρ1, m, e1, fun H1 R1 s1 => ?_⟩
  cases t with
  | true =>
    rw [if_pos rfl]
    exact ⟨R1, ρ1, r, ρ', s1.mt, e, fun v H' R' s rr f => q v H' R' (s1.trans s) rr (f.back s1.nw)⟩
  | false =>
    rw [if_neg Bool.false_ne_true]
    exact ⟨R1, ρ1, r, ρ', s1.mt, e, fun v H' R' s rr f => q v H' R' (s1.trans s) rr (f.back s1.nw)⟩
theorem px_cmp {op : CmpOp} (hu : X.A.units + 65 < cLine) (ha : PE X a (tD X.K X.w C ma)) (hb : PE X b (tD X.K X.w C mb)) (hm : behindInMarks op b = false) : PE X (.Compare a [op] [b] pos) (tD X.K X.w C (.cmp op ma mb)) := by
  refine PE.imp (pe_cmpR (or_cmp hu op) ha hb hm) fun σ H Q h => ?_
  obtain ⟨R, ρ, r, ρ', m, e, q⟩ := h
  obtain ⟨⟨ra, ρ1⟩, e1, e⟩ := Option.bind_eq_some_iff.mp (show (ev C ma ρ).bind _ = some (r, ρ') from e)
  obtain ⟨⟨rb, ρ2⟩, e2, e⟩ := Option.bind_eq_some_iff.mp e
  obtain ⟨x, e3, e⟩ := Option.bind_eq_some_iff.mp e
  obtain ⟨y, e4, e⟩ := Option.bind_eq_some_iff.mp e
  obtain ⟨r', e5, e⟩ := Option.map_eq_some_iff.mp e
  cases e
  refine ⟨R, ρ, ra, ρ1, m, e1, fun v1 H1 R1 s1 rr1 f1 => ⟨R1, ρ1, rb, ρ', s1.mt, e2, fun v2 H2 R2 s2 rr2 f2 => ?_⟩⟩
  exact ⟨R2, x, y, r', look_rep s2.mt (rr1.step s1.mt s2) e3, look_rep s2.mt rr2 e4, e5, q _ H2 R2 (s1.trans s2) rfl trivial⟩
theorem px_chn {op op' : CmpOp} (hu : X.A.units + 65 < cLine) (ha : PE X a (tD X.K X.w C ma)) (hb : PE X b (tD X.K X.w C mb)) (hc : PE X c (tD X.K X.w C mc)) (hm : lastMarks [op, op'] [b, c] = false) :
    PE X (.Compare a [op, op'] [b, c] pos) (tD X.K X.w C (.chn op op' ma mb mc)) := by
  refine PE.imp (pe_chain (or_cmp hu op) (or_cmp hu op') ha hb hc hm) fun σ H Q h => ?_
  obtain ⟨R, ρ, r, ρ', m, e, q⟩ := h
  obtain ⟨⟨ra, ρ1⟩, e1, e⟩ := Option.bind_eq_some_iff.mp (show (ev C ma ρ).bind _ = some (r, ρ') from e)
  obtain ⟨⟨rb, ρ2⟩, e2, e⟩ := Option.bind_eq_some_iff.mp e
  obtain ⟨x, e3, e⟩ := Option.bind_eq_some_iff.mp e
  obtain ⟨y, e4, e⟩ := Option.bind_eq_some_iff.mp e
  obtain ⟨r', e5, e⟩ := Option.bind_eq_some_iff.mp e
  refine ⟨R, ρ, ra, ρ1, m, e1, fun v1 H1 R1 s1 rr1 f1 => ⟨R1, ρ1, rb, ρ2, s1.mt, e2, fun v2 H2 R2 s2 rr2 f2 => ?_⟩⟩
  refine ⟨R2, x, y, r', look_rep s2.mt (rr1.step s1.mt s2) e3, look_rep s2.mt rr2 e4, e5, r', rfl, ?_⟩
  cases r' with
  | false =>
    cases e
    rw [if_neg Bool.false_ne_true]
    exact q _ H2 R2 (s1.trans s2) rfl trivial
  | true =>
    rw [if_pos rfl]
    obtain ⟨⟨rc, ρ3⟩, e6, e⟩ := Option.bind_eq_some_iff.mp e
    obtain ⟨y2, e7, e⟩ := Option.bind_eq_some_iff.mp e
    obtain ⟨z, e8, e⟩ := Option.bind_eq_some_iff.mp e
    obtain ⟨r2, e9, e⟩ := Option.map_eq_some_iff.mp e
    cases e
    refine ⟨R2, ρ2, rc, ρ', s2.mt, e6, fun v3 H3 R3 s3 rr3 f3 => ?_⟩
    exact ⟨R3, y2, z, r2, look_rep s3.mt (rr2.step s2.mt s3) e7, look_rep s3.mt rr3 e8, e9, q _ H3 R3 ((s1.trans s2).trans s3) rfl trivial⟩
theorem px_ix (ha : PE X a (tD X.K X.w C ma)) (hb : PE X b (tD X.K X.w C mb)) (hs : isSlice b = false) : PE X (.Subscript a b pos) (tD X.K X.w C (.ix ma mb)) := by
  refine PE.imp (pe_ix or_ix ha hb (plain_ix hs)) fun σ H Q h => ?_
  obtain ⟨R, ρ, r, ρ', m, e, q⟩ := h
  obtain ⟨⟨ra, ρ1⟩, e1, e⟩ := Option.bind_eq_some_iff.mp (show (ev C ma ρ).bind _ = some (r, ρ') from e)
  obtain ⟨⟨rb, ρ2⟩, e2, e⟩ := Option.bind_eq_some_iff.mp e
  obtain ⟨x, e3, e⟩ := Option.bind_eq_some_iff.mp e
  obtain ⟨y, e4, e⟩ := Option.bind_eq_some_iff.mp e
  obtain ⟨r', e5, e⟩ := Option.map_eq_some_iff.mp e
  cases e
  refine ⟨R, ρ, ra, ρ1, m, e1, fun v1 H1 R1 s1 rr1 f1 => ⟨R1, ρ1, rb, ρ', s1.mt, e2, fun v2 H2 R2 s2 rr2 f2 => ?_⟩⟩
  exact ⟨R2, x, y, r', look_rep s2.mt (rr1.step s1.mt s2) e3, look_rep s2.mt rr2 e4, e5, fun v rv => q v H2 R2 (s1.trans s2) rv trivial⟩
theorem px_part {o : Option Expr} {mo : Option E} (h : match o, mo with | none, none => True | some e, some me => PE X e (tD X.K X.w C me) | _, _ => False) : PO X o (PV.tOp X.K X.w C mo) := by
  cases o with
  | none =>
    cases mo with
    | some _ => exact h.elim
    | none =>
      refine ⟨fun pins s σ H Q I q => po_none.run pins s σ H Q I ?_⟩
      obtain ⟨R, ρ, o, ρ', m, e, q⟩ := q
      cases e
      exact q H R (Step.refl m)
  | some e =>
    cases mo with
    | none => exact h.elim
    | some me =>
      refine ⟨fun pins s σ H Q I q => (po_some h).run pins s σ H Q I ?_⟩
      obtain ⟨R, ρ, o, ρ', m, e, q⟩ := q
      obtain ⟨⟨ra, ρ1⟩, e1, e⟩ := Option.bind_eq_some_iff.mp (show (ev C me ρ).bind _ = some (o, ρ') from e)
      obtain ⟨x, e3, e⟩ := Option.bind_eq_some_iff.mp e
      obtain ⟨i, e5, e⟩ := Option.map_eq_some_iff.mp e
      cases e
      refine ⟨R, ρ, ra, ρ', m, e1, fun v1 H1 R1 s1 rr1 f1 => ?_⟩
      have t := look_rep s1.mt rr1 e3
      have ex : x = .int i := by
        unfold intOf at e5
        split at e5
        · cases e5; rfl
        · cases e5
      subst ex
      exact ⟨i, t.int, q H1 R1 s1⟩
theorem px_slc {lo hi : Option Expr} {ml mh : Option E} {p2 : Pos} (ha : PE X a (tD X.K X.w C ma)) (hl : PO X lo (PV.tOp X.K X.w C ml)) (hh : PO X hi (PV.tOp X.K X.w C mh)) : PE X (.Subscript a (.Slice lo hi none p2) pos) (tD X.K X.w C (.slc ma ml mh)) := by
  refine PE.imp (pe_slice or_slc ha hl hh) fun σ H Q h => ?_
  obtain ⟨R, ρ, r, ρ', m, e, q⟩ := h
  obtain ⟨⟨ra, ρ1⟩, e1, e⟩ := Option.bind_eq_some_iff.mp (show (ev C ma ρ).bind _ = some (r, ρ') from e)
  obtain ⟨⟨l, ρ2⟩, e2, e⟩ := Option.bind_eq_some_iff.mp e
  obtain ⟨⟨hv, ρ3⟩, e3, e⟩ := Option.bind_eq_some_iff.mp e
  obtain ⟨x, e4, e⟩ := Option.bind_eq_some_iff.mp e
  obtain ⟨r', e5, e⟩ := Option.map_eq_some_iff.mp e
  cases e
  refine ⟨R, ρ, ra, ρ1, m, e1, fun v1 H1 R1 s1 rr1 f1 => ⟨R1, ρ1, l, ρ2, s1.mt, e2, fun H2 R2 s2 => ⟨R2, ρ2, hv, ρ', s2.mt, e3, fun H3 R3 s3 => ?_⟩⟩⟩
  refine ⟨R3, x, r, look_rep s3.mt ((rr1.step s1.mt s2).step s2.mt s3) e4, e5, fun v H' p => ?_⟩
  obtain ⟨s4, rr4, f4⟩ := p.step s3.mt
  exact q v H' R3 (((s1.trans s2).trans s3).trans s4) rr4 (f4.back ((s1.trans s2).trans s3).nw)

/-! ### argument lists -/
theorem px_nil : PA X [] (tA X.K X.w C []) := PA.imp pa_nil fun σ H Q h => by
  obtain ⟨R, ρ, rs, ρ', m, e, q⟩ := h
  cases e
  exact q [] H R (Step.refl m) trivial trivial
theorem cons_tA {σ : St} {H : Hp} {es : List E} {Q : List V → Hp → Prop} (h : tA X.K X.w C (ma :: es) σ H Q) : tCons (tD X.K X.w C ma) (tA X.K X.w C es) σ H Q := by
  obtain ⟨R, ρ, rs, ρ', m, e, q⟩ := h
  obtain ⟨⟨r, ρ1⟩, e1, e⟩ := Option.bind_eq_some_iff.mp (show (ev C ma ρ).bind _ = some (rs, ρ') from e)
  obtain ⟨⟨rs', ρ2⟩, e2, e⟩ := Option.map_eq_some_iff.mp e
  cases e
  refine ⟨R, ρ, r, ρ1, m, e1, fun v H1 R1 s1 rr1 f1 => ⟨R1, ρ1, rs', ρ', s1.mt, e2, fun vs H2 R2 s2 rr2 f2 => ?_⟩⟩
  exact q (v :: vs) H2 R2 (s1.trans s2) ⟨rr1.step s1.mt s2, rr2⟩ (FrNs.cons s1 rr1 f1 f2)
theorem px_cons {es : List Expr} {mes : List E} (ha : PE X a (tD X.K X.w C ma)) (hr : PA X es (tA X.K X.w C mes)) (hs : isStar a = false) : PA X (a :: es) (tA X.K X.w C (ma :: mes)) :=
  PA.imp (pa_cons ha hr (star_cons hs)) fun σ H Q h => cons_tA h
theorem px_knil : PK X [] (tA X.K X.w C []) := PK.imp pk_nil fun σ H Q h => by
  obtain ⟨R, ρ, rs, ρ', m, e, q⟩ := h
  cases e
  exact q [] H R (Step.refl m) trivial trivial
theorem px_kcons {nm : Option Str} {kpos : Pos} {kws : List Keyword} {mes : List E} (ha : PE X a (tD X.K X.w C ma)) (hr : PK X kws (tA X.K X.w C mes)) : PK X (⟨nm, a, kpos⟩ :: kws) (tA X.K X.w C (ma :: mes)) :=
  PK.imp (pk_cons ha hr) fun σ H Q h => cons_tA h
/-- all as values -/
theorem px_fnil : PA X [] (tAf X.K X.w C []) := PA.imp pa_nil fun σ H Q h => by
  obtain ⟨R, ρ, rs, ρ', m, e, q⟩ := h
  cases e
  exact q [] H R (Step.refl m) trivial
theorem px_fcons {es : List Expr} {mes : List E} (ha : PE X a (tD X.K X.w C ma)) (hr : PA X es (tAf X.K X.w C mes)) (hs : isStar a = false) : PA X (a :: es) (tAf X.K X.w C (ma :: mes)) := by
  refine PA.imp (pa_cons ha hr (star_cons hs)) fun σ H Q h => ?_
  obtain ⟨R, ρ, rs, ρ', m, e, q⟩ := h
  obtain ⟨⟨r, ρ1⟩, e1, e⟩ := Option.bind_eq_some_iff.mp (show (ev C ma ρ).bind _ = some (rs, ρ') from e)
  obtain ⟨⟨d, ρ2⟩, e2, e⟩ := Option.bind_eq_some_iff.mp e
  obtain ⟨⟨ds, ρ3⟩, e3, e⟩ := Option.map_eq_some_iff.mp e
  cases e
  refine ⟨R, ρ, r, ρ1, m, e1, fun v H1 R1 s1 rr1 f1 => ?_⟩
  obtain ⟨R2, up, s2, rp⟩ := fix_step s1 rr1 f1 e2
  exact ⟨R2, ρ2, ds, ρ', s2.mt, e3, fun vs H3 R3 s3 rps => q (v :: vs) H3 R3 (s2.trans s3) ⟨s3.rep s2.mt rp, rps⟩⟩
theorem px_tup {es : List Expr} {mes : List E} {k : Nat} (h : PA X es (tAf X.K X.w C mes)) : PE X (.Tuple es k pos) (tD X.K X.w C (.tup mes)) := by
  refine PE.imp (PVU.pe_tupF h) fun σ H Q h => ?_
  obtain ⟨R, ρ, rs, ρ', m, e, q⟩ := h
  obtain ⟨⟨ds, ρ1⟩, e1, e⟩ := Option.bind_eq_some_iff.mp (show (evf C mes ρ).bind _ = some (rs, ρ') from e)
  dsimp only at e
  split at e
  · rename_i hl
    cases e
    refine ⟨R, ρ, ds, ρ', m, e1, fun vs H1 R1 s1 rps => ⟨by rw [← rps.length]; exact most_line hl, fun p o n no => ?_⟩⟩
    obtain ⟨s2, rr, f⟩ := (PR.tup n no rps).step s1.mt
    exact q _ _ R1 (s1.trans s2) rr (f.back s1.nw)
  · cases e
theorem px_lst {es : List Expr} {mes : List E} (h : PA X es (tAf X.K X.w C mes)) : PE X (.List es pos) (tD X.K X.w C (.lst mes)) := by
  refine PE.imp (pe_lst h) fun σ H Q h => ?_
  obtain ⟨R, ρ, rs, ρ', m, e, q⟩ := h
  obtain ⟨⟨ds, ρ1⟩, e1, e⟩ := Option.bind_eq_some_iff.mp (show (evf C mes ρ).bind _ = some (rs, ρ') from e)
  dsimp only at e
  split at e
  · rename_i hl
    cases e
    refine ⟨R, ρ, ds, ρ', m, e1, fun vs H1 R1 s1 rps => ⟨by rw [← rps.length]; exact most_line hl, fun p n => ?_⟩⟩
    obtain ⟨s2, rr, f⟩ := (PR.lst n rps).step s1.mt
    exact q _ _ R1 (s1.trans s2) rr (f.back s1.nw)
  · cases e
/-- a built-in function, called with one argument or more -/
theorem px_blt {f : Bt} {x : Str} {p : Pos} {es : List Expr} {mes : List E} (hc : X.calm = true) (hg : Gl X x) (hm : X.mg x = none) (hv : bootBuiltins x = some (btV f)) (hn : x ≠ "__name__") (hdb : (x == ("__debug__" : Str)) = false)
    (ha : PA X (a :: es) (tA X.K X.w C mes)) (hs : isStar a = false) (hp : es.all (fun e => !isStar e) = true) : PE X (.Call (.Name x p) (a :: es) [] pos) (tD X.K X.w C (.blt f mes)) := by
  have key : PE X (.Call (.Name x p) (a :: es) [] pos) (tCB (rF X.K X.w f) (tA X.K X.w C mes)) := by
    cases f <;> first
      | exact pe_callB (cr_blt hc _) hg hm hv ha hn hdb (star_cons hs) (star_plain hp)
      | exact pe_callTy (cr_blt hc _) hg hm hv ha hn hdb (star_cons hs) (star_plain hp)
  refine PE.imp key fun σ H Q h => ?_
  obtain ⟨R, ρ, r, ρ', m, e, q⟩ := h
  obtain ⟨⟨rs, ρ1⟩, e1, e⟩ := Option.bind_eq_some_iff.mp (show (evs C mes ρ).bind _ = some (r, ρ') from e)
  obtain ⟨ds, e2, e⟩ := Option.bind_eq_some_iff.mp e
  obtain ⟨r', e3, e⟩ := Option.map_eq_some_iff.mp e
  cases e
  refine ⟨R, ρ, rs, ρ', m, e1, fun vs H1 R1 s1 rr1 f1 => ⟨R1, ds, r, looks_rep s1.mt rr1 e2, e3, fun v H' p => ?_⟩⟩
  obtain ⟨s2, rr, f2⟩ := p.step s1.mt
  exact q v H' R1 (s1.trans s2) rr (f2.back s1.nw)
end
end PV

/-! PV, part J: tests, isinstance, ranges, methods of lists. -/
namespace PV
open PySem PySem.Spec PyProof.Rows L2

section
variable {X : Cx} {C : Cfg} {a b c e : Expr} {ma mb mc : E} {pos : Pos}
/-! ### tests -/
theorem px_tnot (ha : PT X a (tT X.K X.w C ma)) : PT X (.UnaryOp .Not a pos) (tT X.K X.w C (.not ma)) := by
  refine PT.imp (pt_not ha) fun σ H Q h => ?_
  obtain ⟨R, ρ, t, ρ', m, e, q⟩ := h
  obtain ⟨⟨b, ρ1⟩, e1, e⟩ := Option.map_eq_some_iff.mp (show (tst C ma ρ).map _ = some (t, ρ') from e)
  cases e
  exact ⟨R, ρ, b, ρ', m, e1, fun H1 R1 s1 => q H1 R1 s1⟩
theorem px_tcmp {op : CmpOp} (hu : X.A.units + 65 < cLine) (ha : PE X a (tD X.K X.w C ma)) (hb : PE X b (tD X.K X.w C mb)) (hm : behindInMarks op b = false) : PT X (.Compare a [op] [b] pos) (tT X.K X.w C (.cmp op ma mb)) := by
  refine PT.imp (pt_cmpR (or_cmp hu op) ha hb hm) fun σ H Q h => ?_
  obtain ⟨R, ρ, t, ρ', m, e, q⟩ := h
  obtain ⟨⟨ra, ρ1⟩, e1, e⟩ := Option.bind_eq_some_iff.mp (show (ev C ma ρ).bind _ = some (t, ρ') from e)
  obtain ⟨⟨rb, ρ2⟩, e2, e⟩ := Option.bind_eq_some_iff.mp e
  obtain ⟨x, e3, e⟩ := Option.bind_eq_some_iff.mp e
  obtain ⟨y, e4, e⟩ := Option.bind_eq_some_iff.mp e
  obtain ⟨r', e5, e⟩ := Option.map_eq_some_iff.mp e
  cases e
  refine ⟨R, ρ, ra, ρ1, m, e1, fun v1 H1 R1 s1 rr1 f1 => ⟨R1, ρ1, rb, ρ', s1.mt, e2, fun v2 H2 R2 s2 rr2 f2 => ?_⟩⟩
  exact ⟨R2, x, y, t, look_rep s2.mt (rr1.step s1.mt s2) e3, look_rep s2.mt rr2 e4, e5, t, rfl, q H2 R2 (s1.trans s2)⟩
theorem px_tchn {op op' : CmpOp} (hu : X.A.units + 65 < cLine) (ha : PE X a (tD X.K X.w C ma)) (hb : PE X b (tD X.K X.w C mb)) (hc : PE X c (tD X.K X.w C mc)) (hm : lastMarks [op, op'] [b, c] = false) :
    PT X (.Compare a [op, op'] [b, c] pos) (tT X.K X.w C (.chn op op' ma mb mc)) := by
  refine PT.imp (pt_chain (or_cmp hu op) (or_cmp hu op') ha hb hc hm) fun σ H Q h => ?_
  obtain ⟨R, ρ, t, ρ', m, e, q⟩ := h
  obtain ⟨⟨ra, ρ1⟩, e1, e⟩ := Option.bind_eq_some_iff.mp (show (ev C ma ρ).bind _ = some (t, ρ') from e)
  obtain ⟨⟨rb, ρ2⟩, e2, e⟩ := Option.bind_eq_some_iff.mp e
  obtain ⟨x, e3, e⟩ := Option.bind_eq_some_iff.mp e
  obtain ⟨y, e4, e⟩ := Option.bind_eq_some_iff.mp e
  obtain ⟨r', e5, e⟩ := Option.bind_eq_some_iff.mp e
  refine ⟨R, ρ, ra, ρ1, m, e1, fun v1 H1 R1 s1 rr1 f1 => ⟨R1, ρ1, rb, ρ2, s1.mt, e2, fun v2 H2 R2 s2 rr2 f2 => ?_⟩⟩
  refine ⟨R2, x, y, r', look_rep s2.mt (rr1.step s1.mt s2) e3, look_rep s2.mt rr2 e4, e5, r', rfl, ?_⟩
  cases r' with
  | false =>
    cases e
    rw [if_neg Bool.false_ne_true]
    exact ⟨false, rfl, q H2 R2 (s1.trans s2)⟩
  | true =>
    rw [if_pos rfl]
    obtain ⟨⟨rc, ρ3⟩, e6, e⟩ := Option.bind_eq_some_iff.mp e
    obtain ⟨y2, e7, e⟩ := Option.bind_eq_some_iff.mp e
    obtain ⟨z, e8, e⟩ := Option.bind_eq_some_iff.mp e
    obtain ⟨r2, e9, e⟩ := Option.map_eq_some_iff.mp e
    cases e
    refine ⟨R2, ρ2, rc, ρ', s2.mt, e6, fun v3 H3 R3 s3 rr3 f3 => ?_⟩
    exact ⟨R3, y2, z, t, look_rep s3.mt (rr2.step s2.mt s3) e7, look_rep s3.mt rr3 e8, e9, t, rfl, q H3 R3 ((s1.trans s2).trans s3)⟩
theorem px_wand1 (ha : PT X a (tT X.K X.w C ma)) : PW X (.BoolOp .And [a] pos) (tT X.K X.w C ma) := pw_and1 ha
theorem px_wor1 (ha : PT X a (tT X.K X.w C ma)) : PW X (.BoolOp .Or [a] pos) (tT X.K X.w C ma) := pw_or1 ha
theorem PW.imp {X : Cx} {e : Expr} {t t' : TT} (h : PW X e t) (i : ∀ σ H Q, t' σ H Q → t σ H Q) : PW X e t' := ⟨fun wh pins s σ H Q I q => h.run wh pins s σ H Q I (i σ H Q q)⟩
theorem px_wand {rest : List Expr} (ha : PT X a (tT X.K X.w C ma)) (hb : PW X (.BoolOp .And (b :: rest) pos) (tT X.K X.w C mb)) : PW X (.BoolOp .And (a :: b :: rest) pos) (tT X.K X.w C (.bop true ma mb)) := by
  refine PW.imp (pw_and ha hb) fun σ H Q h => ?_
  obtain ⟨R, ρ, t, ρ', m, e, q⟩ := h
  obtain ⟨⟨b1, ρ1⟩, e1, e⟩ := Option.bind_eq_some_iff.mp (show (tst C ma ρ).bind _ = some (t, ρ') from e)
  refine ⟨R, ρ, b1, ρ1, m, e1, fun H1 R1 s1 => ?_⟩
  cases b1 with
  | true =>
    rw [if_pos rfl]
    exact ⟨R1, ρ1, t, ρ', s1.mt, e, fun H' R' s => q H' R' (s1.trans s)⟩
  | false =>
    rw [if_neg Bool.false_ne_true]
    cases e
    exact q H1 R1 s1
theorem px_wor {rest : List Expr} (ha : PT X a (tT X.K X.w C ma)) (hb : PW X (.BoolOp .Or (b :: rest) pos) (tT X.K X.w C mb)) : PW X (.BoolOp .Or (a :: b :: rest) pos) (tT X.K X.w C (.bop false ma mb)) := by
  refine PW.imp (pw_or ha hb) fun σ H Q h => ?_
  obtain ⟨R, ρ, t, ρ', m, e, q⟩ := h
  obtain ⟨⟨b1, ρ1⟩, e1, e⟩ := Option.bind_eq_some_iff.mp (show (tst C ma ρ).bind _ = some (t, ρ') from e)
  refine ⟨R, ρ, b1, ρ1, m, e1, fun H1 R1 s1 => ?_⟩
  cases b1 with
  | false =>
    rw [if_neg Bool.false_ne_true]
    exact ⟨R1, ρ1, t, ρ', s1.mt, e, fun H' R' s => q H' R' (s1.trans s)⟩
  | true =>
    rw [if_pos rfl]
    cases e
    exact q H1 R1 s1
theorem isEmpty_reps {K : PySem.W.Frag} {w : World} {R : Addr → Prop} {H : Hp} {ds : List D} {xs : List V} (h : Reps K w R H ds xs) : (!ds.isEmpty) = !xs.isEmpty := by
  have := h.length
  cases ds <;> cases xs <;> first | rfl | simp at this
theorem truth_tru {K : PySem.W.Frag} {w : World} {R : Addr → Prop} {H : Hp} {d : D} {x : V} {k : Bool} (h : RepT K w R H d x) (e : truth d = some k) : TruV K x H k := by
  unfold truth at e
  split at e
  · split at e
    · rename_i hz
      cases e
      rw [h.str]
      exact ⟨most_line hz, rfl⟩
    · cases e
  · cases e
    rw [h.non]; exact rfl
  · cases e
    rw [h.bl]; exact rfl
  · cases e
    rw [h.int]; exact rfl
  · cases e
    obtain ⟨p, xs, rfl, h1, h2⟩ := h.tup
    exact .inr (.inl ⟨xs, h1.sq, isEmpty_reps h2⟩)
  · cases e
    obtain ⟨p, xs, rfl, h1, h2⟩ := h.lst
    exact .inl ⟨xs, SqL.of h1, isEmpty_reps h2⟩
  · rename_i ns
    cases e
    obtain ⟨p, rfl, h1⟩ := h.scr
    exact .inl ⟨_, h1, by cases ns <;> rfl⟩
  · cases e
theorem px_tru (ha : PE X a (tD X.K X.w C ma)) (hp : isPlainTest a = true) : PT X a (tT X.K X.w C (.tru ma)) := by
  refine PT.imp (pt_truth ha (plain_test hp)) fun σ H Q h => ?_
  obtain ⟨R, ρ, t, ρ', m, e, q⟩ := h
  obtain ⟨⟨ra, ρ1⟩, e1, e⟩ := Option.bind_eq_some_iff.mp (show (ev C ma ρ).bind _ = some (t, ρ') from e)
  obtain ⟨d, e2, e⟩ := Option.bind_eq_some_iff.mp e
  obtain ⟨k, e3, e⟩ := Option.map_eq_some_iff.mp e
  cases e
  refine ⟨R, ρ, ra, ρ', m, e1, fun v1 H1 R1 s1 rr1 f1 => ⟨t, truth_tru (look_rep s1.mt rr1 e2) e3, q H1 R1 s1⟩⟩
/-- a comprehension's test -/
theorem px_tso_none : PTs X [] (tTo X.K X.w C none) := ⟨fun pins s σ H Q I h => by
  obtain ⟨R, ρ, t, ρ', m, e, q⟩ := h
  cases e
  exact pts_nil.run pins s σ H Q I (q H R (Step.refl m))⟩
theorem px_tso_some (h : PT X c (tT X.K X.w C mc)) : PTs X [c] (tTo X.K X.w C (some mc)) := ⟨fun pins s σ H Q I q => (pts_one h).run pins s σ H Q I q⟩

/-! ### isinstance -/
theorem kitTab : (["NoneType", "bool", "int", "str", "tuple", "list", "dict"].all fun k => ["int", "bool", "str", "tuple", "list", "dict"].all fun t => kitB k t == some (k == t || (k == "bool" && t == "int"))) = true := by decide +kernel
theorem kit_of {K : PySem.W.Frag} {d : D} {k t : String} {b : Bool} (hk : kindD d = some k) (ht : t ∈ ["int", "bool", "str", "tuple", "list", "dict"]) (hb : b = (k == t || (k == "bool" && t == "int"))) : PySem.W.kitOne K (.type k) (.type t) = some b := by
  have h := kitTab
  rw [List.all_eq_true] at h
  have hk' : k ∈ ["NoneType", "bool", "int", "str", "tuple", "list", "dict"] := by
    cases d <;> cases hk <;> simp
  have h2 := h k hk'
  rw [List.all_eq_true] at h2
  rw [hb]
  exact kit_ty (beq_iff_eq.mp (h2 t ht))
def rIsi (K : PySem.W.Frag) (w : World) (t : String) : List V → Hp → VK → Prop := fun vs H Q => ∃ R d v b, vs = [v, .ty t] ∧ RepT K w R H d v ∧ isiD t d = some b ∧ Q (.bl b) H
theorem cr_isi (t : String) : CallR X (.builtin "isinstance") (rIsi X.K X.w t) := by
  intro pins s σ H vs us Q I r h
  obtain ⟨R, d, v, b, rfl, hd, e, q⟩ := h
  unfold isiD at e
  split at e
  · rename_i ht
    obtain ⟨k, hk, hb⟩ := Option.map_eq_some_iff.mp e
    have kk : PySem.W.kitOne X.K (.type k) (.type t) = some b := kit_of hk ht hb.symm
    obtain ⟨u, u2, rfl, rv, rt⟩ := vals2 r
    cases rt
    have fin : ∀ tk, EP X pins σ Q (.bool b) { s with toks := tk } := fun tk => ⟨.bl b, H, I.tok tk, rfl, q⟩
    cases d with
    | non =>
      rw [hd.non] at rv
      cases hk
      exact isinst_ok I rv .non kk fin
    | bl x =>
      rw [hd.bl] at rv
      cases hk
      exact isinst_ok I rv (.bl x) kk fin
    | int x =>
      rw [hd.int] at rv
      cases hk
      exact isinst_ok I rv (.int x) kk fin
    | str x =>
      rw [hd.str] at rv
      cases hk
      exact isinst_ok I rv (.str x) kk fin
    | tup ds =>
      obtain ⟨p, xs, rfl, h1, _⟩ := hd.tup
      cases hk
      obtain rfl : u = Value.ref p := rv
      obtain ⟨its, _, ⟨o, ho, hc, _⟩, _⟩ := I.tuple h1.sq
      exact PySem.W.kia_one PySem.W.kitx_tuple I.kIn ⟨o, ho, hc⟩ kk (fun z => nomatch z) fin
    | lst ds =>
      obtain ⟨p, xs, rfl, h1, _⟩ := hd.lst
      cases hk
      exact isinst_ok I rv (.lst h1) kk fin
    | scr ns =>
      obtain ⟨p, rfl, h1⟩ := hd.scr
      cases hk
      obtain rfl : u = Value.ref p := rv
      obtain ⟨its, _, pl, _⟩ := I.list h1
      obtain ⟨o, ho, hc, _⟩ := pl.isList
      exact PySem.W.kia_one PySem.W.kitx_list I.kIn ⟨o, ho, hc⟩ kk (fun z => nomatch z) fin
    | dct ks ws =>
      cases hk
      rcases hd with ⟨p, xs, rfl, _, _, ⟨kvs, h3, _⟩ | ⟨kvs, h3, _⟩⟩ | ⟨p, rfl, xs, _, ⟨kvs, h3, _⟩ | ⟨kvs, h3, _⟩⟩
      · exact isinst_ok I rv (.dK h3) kk fin
      · exact isinst_ok I rv (.dT h3) kk fin
      · exact isinst_ok I rv (.dK h3) kk fin
      · exact isinst_ok I rv (.dT h3) kk fin
    | set ns => cases hk
    | rtp ns => cases hk
  · cases e
theorem px_isi {t : String} {p pt : Pos} (hg : Gl X "isinstance") (hm : X.mg "isinstance" = none) (hgt : Gl X (Str.ofString t)) (hmt : X.mg (Str.ofString t) = none) (hvt : bootBuiltins (Str.ofString t) = some (.type t))
    (hnt : Str.ofString t ≠ "__name__") (hdt : (Str.ofString t == ("__debug__" : Str)) = false) (ha : PE X a (tD X.K X.w C ma)) (hs : isStar a = false) :
    PE X (.Call (.Name "isinstance" p) [a, .Name (Str.ofString t) pt] [] pos) (tD X.K X.w C (.isi ma t)) := by
  have hb : PE X (.Name (Str.ofString t) pt) (tC (.ty t)) := pe_bltn hgt hmt hvt rfl hnt hdt
  refine PE.imp (pe_callB (cr_isi t) hg hm (by decide +kernel) (pa_cons ha (pa_cons hb pa_nil) (star_cons hs)) (by decide) (by decide) (star_cons hs)) fun σ H Q h => ?_
  obtain ⟨R, ρ, r, ρ', m, e, q⟩ := h
  obtain ⟨⟨ra, ρ1⟩, e1, e⟩ := Option.bind_eq_some_iff.mp (show (ev C ma ρ).bind _ = some (r, ρ') from e)
  obtain ⟨d, e2, e⟩ := Option.bind_eq_some_iff.mp e
  obtain ⟨k, e3, e⟩ := Option.map_eq_some_iff.mp e
  cases e
  refine ⟨R, ρ, ra, ρ', m, e1, fun v1 H1 R1 s1 rr1 f1 => ?_⟩
  exact ⟨R1, d, v1, k, rfl, look_rep s1.mt rr1 e2, e3, q _ H1 R1 s1 rfl trivial⟩
end
end PV

/-! PV, part K: list(range(..)), methods of lists, what is walked. -/
namespace PV
open PySem PySem.Spec PyProof.Rows L2

section
variable {X : Cx} {C : Cfg} {a b c e : Expr} {ma mb mc : E} {pos : Pos}
theorem nil_tA {σ : St} {H : Hp} {Q : List V → Hp → Prop} (h : tA X.K X.w C [] σ H Q) : Q [] H := by
  obtain ⟨R, ρ, rs, ρ', m, e, q⟩ := h
  cases e
  exact q [] H R (Step.refl m) trivial trivial
theorem tD_mono {σ : St} {H : Hp} {Q Q' : VK} (h : tD X.K X.w C ma σ H Q) (i : ∀ v H', Q v H' → Q' v H') : tD X.K X.w C ma σ H Q' := by
  obtain ⟨R, ρ, r, ρ', m, e, q⟩ := h
  exact ⟨R, ρ, r, ρ', m, e, fun v H' R' s rr f => i _ _ (q v H' R' s rr f)⟩
theorem one_tA {σ : St} {H : Hp} {Q : List V → Hp → Prop} (h : tA X.K X.w C [ma] σ H Q) : tD X.K X.w C ma σ H fun x H1 => Q [x] H1 := tD_mono (cons_tA h) fun _ _ q => nil_tA q
theorem two_tA {σ : St} {H : Hp} {Q : List V → Hp → Prop} (h : tA X.K X.w C [ma, mb] σ H Q) : tD X.K X.w C ma σ H fun x H1 => tD X.K X.w C mb σ H1 fun y H2 => Q [x, y] H2 :=
  tD_mono (cons_tA h) fun _ _ q => tD_mono (cons_tA q) fun _ _ q => nil_tA q

/-! ### ranges -/
/-- what a range's bounds are -/
theorem rngD_one {K : PySem.W.Frag} {w : World} {R : Addr → Prop} {H : Hp} {d : D} {v : V} {xs : List D} (h : RepT K w R H d v) (e : rngD [d] = some xs) : ∃ j, v = .int j ∧ -(2 ^ 62) ≤ j ∧ j < 2 ^ 62 ∧ xs = (List.range j.toNat).map fun (k : Nat) => D.int k := by
  unfold rngD at e
  split at e
  · rename_i j q
    cases q
    split at e
    · rename_i hz
      cases e
      exact ⟨j, h.int, hz.1, hz.2, rfl⟩
    · cases e
  · rename_i q
    cases q
  · cases e
theorem rngD_two {K : PySem.W.Frag} {w : World} {R : Addr → Prop} {H : Hp} {d d2 : D} {v u : V} {xs : List D} (h : RepT K w R H d v) (h2 : RepT K w R H d2 u) (e : rngD [d, d2] = some xs) :
    ∃ i j, v = .int i ∧ u = .int j ∧ (-(2 ^ 62) ≤ i ∧ i < 2 ^ 62) ∧ (-(2 ^ 62) ≤ j ∧ j < 2 ^ 62) ∧ xs = (List.range (j - i).toNat).map fun (k : Nat) => D.int (i + k) := by
  unfold rngD at e
  split at e
  · rename_i j q
    cases q
  · rename_i i j q
    cases q
    split at e
    · rename_i hz
      cases e
      exact ⟨i, j, h.int, h2.int, hz.1, hz.2, rfl⟩
    · cases e
  · cases e
theorem reps_fn {K : PySem.W.Frag} {w : World} {R : Addr → Prop} {H : Hp} {f : Nat → D} {g : Nat → V} (h : ∀ k, Rep K w R H (f k) (g k)) : ∀ l : List Nat, Reps K w R H (l.map f) (l.map g)
  | [] => trivial
  | k :: l => ⟨h k, reps_fn h l⟩
theorem reps_rg {K : PySem.W.Frag} {w : World} {R : Addr → Prop} {H : Hp} (i j : Int) : Reps K w R H ((List.range (j - i).toNat).map fun (k : Nat) => D.int (i + k)) (rgV i j) := reps_fn (f := fun (k : Nat) => D.int (i + k)) (g := fun (k : Nat) => V.int (i + k)) (fun k => show V.int _ = V.int _ from rfl) _
theorem reps_rg0 {K : PySem.W.Frag} {w : World} {R : Addr → Prop} {H : Hp} (j : Int) : Reps K w R H ((List.range j.toNat).map fun (k : Nat) => D.int k) (rgV 0 j) := by
  have h : Reps K w R H ((List.range (j - 0).toNat).map fun (k : Nat) => D.int (0 + k)) (rgV 0 j) := reps_rg 0 j
  rw [Int.sub_zero] at h
  simpa only [Int.zero_add] using h
/-- the end of list(range(..)), tuple(range(..)) -/
theorem px_ofr_end {t : Bool} {es : List E} {σ : St} {H : Hp} {Q : VK} (h : tD X.K X.w C (.ofr t es) σ H Q) :
    tA X.K X.w C es σ H fun vs H1 => ∃ R1 ds xs, RepTs X.K X.w R1 H1 ds vs ∧ rngD ds = some xs ∧ xs.length ≤ most ∧
      ∀ ys, (Reps X.K X.w R1 H1 xs ys) → if t = true then PVU.NewT ys H1 Q else ∀ p, H1 p = none → Q (.ref p) (upd H1 p (.lst ys)) := by
  obtain ⟨R, ρ, r, ρ', m, e, q⟩ := h
  obtain ⟨⟨rs, ρ1⟩, e1, e⟩ := Option.bind_eq_some_iff.mp (show (evs C es ρ).bind _ = some (r, ρ') from e)
  obtain ⟨ds, e2, e⟩ := Option.bind_eq_some_iff.mp e
  obtain ⟨xs, e3, e⟩ := Option.bind_eq_some_iff.mp e
  split at e
  · rename_i hz
    cases t with
    | true =>
      cases e
      refine ⟨R, ρ, rs, ρ', m, e1, fun vs H1 R1 s1 rr1 f1 => ⟨R1, ds, xs, looks_rep s1.mt rr1 e2, e3, hz, fun ys ry => ?_⟩⟩
      rw [if_pos rfl]
      intro p o n no
      obtain ⟨s2, rr, f⟩ := (PR.tup n no ry).step s1.mt
      exact q _ _ R1 (s1.trans s2) rr (f.back s1.nw)
    | false =>
      cases e
      refine ⟨R, ρ, rs, ρ', m, e1, fun vs H1 R1 s1 rr1 f1 => ⟨R1, ds, xs, looks_rep s1.mt rr1 e2, e3, hz, fun ys ry => ?_⟩⟩
      rw [if_neg Bool.false_ne_true]
      intro p n
      obtain ⟨s2, rr, f⟩ := (PR.lst n ry).step s1.mt
      exact q _ _ R1 (s1.trans s2) rr (f.back s1.nw)
  · cases e
theorem rgOk0 {j : Int} {xs : List D} (h0 : -(2 ^ 62) ≤ j) (h1 : j < 2 ^ 62) (e : xs = (List.range j.toNat).map fun (k : Nat) => D.int k) (hz : xs.length ≤ most) : RgOk 0 j := by
  subst e
  rw [List.length_map, List.length_range] at hz
  unfold most at hz
  exact ⟨by decide, by decide, h0, h1, by rw [Int.sub_zero]; omega⟩
theorem rgOk2 {i j : Int} {xs : List D} (h0 : -(2 ^ 62) ≤ i ∧ i < 2 ^ 62) (h1 : -(2 ^ 62) ≤ j ∧ j < 2 ^ 62) (e : xs = (List.range (j - i).toNat).map fun (k : Nat) => D.int (i + k)) (hz : xs.length ≤ most) : RgOk i j := by
  subst e
  rw [List.length_map, List.length_range] at hz
  unfold most at hz
  exact ⟨h0.1, h0.2, h1.1, h1.2, by omega⟩
theorem px_ofr1 {t : Bool} {p p2 pos2 : Pos} (hc : X.calm = true) (hgl : Gl X "list") (hml : X.mg "list" = none) (hgt : Gl X "tuple" ) (hmt : X.mg "tuple" = none) (hg : Gl X "range") (hm : X.mg "range" = none)
    (ha : PE X a (tD X.K X.w C ma)) (hs : isStar a = false) : PE X (.Call (.Name (if t then "tuple" else "list") p) [.Call (.Name "range" p2) [a] [] pos2] [] pos) (tD X.K X.w C (.ofr t [ma])) := by
  cases t with
  | true =>
    refine PE.imp (PVU.pe_tupRgF hc hgt hmt (prg_1 hg hm ha (star_cons hs)) rfl) fun σ H Q h => tD_mono (one_tA (px_ofr_end h)) fun v H1 h => ?_
    obtain ⟨R1, ds, xs, hd, e, hz, k⟩ := h
    match ds, hd with
    | [d], hd =>
      obtain ⟨j, rfl, h0, h1, e2⟩ := rngD_one hd.1 e
      refine ⟨j, rfl, rgOk0 h0 h1 e2 hz, ?_⟩
      have := k (rgV 0 j) (by rw [e2]; exact reps_rg0 j)
      rwa [if_pos rfl] at this
  | false =>
    refine PE.imp (pe_listRg hc hgl hml (prg_1 hg hm ha (star_cons hs)) rfl) fun σ H Q h => tD_mono (one_tA (px_ofr_end h)) fun v H1 h => ?_
    obtain ⟨R1, ds, xs, hd, e, hz, k⟩ := h
    match ds, hd with
    | [d], hd =>
      obtain ⟨j, rfl, h0, h1, e2⟩ := rngD_one hd.1 e
      refine ⟨j, rfl, rgOk0 h0 h1 e2 hz, ?_⟩
      have := k (rgV 0 j) (by rw [e2]; exact reps_rg0 j)
      rwa [if_neg Bool.false_ne_true] at this
theorem px_ofr2 {t : Bool} {p p2 pos2 : Pos} (hc : X.calm = true) (hgl : Gl X "list") (hml : X.mg "list" = none) (hgt : Gl X "tuple" ) (hmt : X.mg "tuple" = none) (hg : Gl X "range") (hm : X.mg "range" = none)
    (ha : PE X a (tD X.K X.w C ma)) (hs : isStar a = false) (hb : PE X b (tD X.K X.w C mb)) (hs2 : isStar b = false) : PE X (.Call (.Name (if t then "tuple" else "list") p) [.Call (.Name "range" p2) [a, b] [] pos2] [] pos) (tD X.K X.w C (.ofr t [ma, mb])) := by
  have hp : PRg X (.Call (.Name "range" p2) [a, b] [] pos2) (tRg2 (tD X.K X.w C ma) (tD X.K X.w C mb)) := prg_2 hg hm ha hb (star_cons hs) (star_cons hs2) (star_plain (by simp [hs2]))
  cases t with
  | true =>
    refine PE.imp (PVU.pe_tupRgF hc hgt hmt hp rfl) fun σ H Q h => tD_mono (two_tA (px_ofr_end h)) fun v H1 h => tD_mono h fun u H2 h => ?_
    obtain ⟨R1, ds, xs, hd, e, hz, k⟩ := h
    match ds, hd with
    | [d, d2], hd =>
      obtain ⟨i, j, rfl, rfl, h0, h1, e2⟩ := rngD_two hd.1 hd.2.1 e
      refine ⟨i, j, rfl, rfl, rgOk2 h0 h1 e2 hz, ?_⟩
      have := k (rgV i j) (by rw [e2]; exact reps_rg i j)
      rwa [if_pos rfl] at this
  | false =>
    refine PE.imp (pe_listRg hc hgl hml hp rfl) fun σ H Q h => tD_mono (two_tA (px_ofr_end h)) fun v H1 h => tD_mono h fun u H2 h => ?_
    obtain ⟨R1, ds, xs, hd, e, hz, k⟩ := h
    match ds, hd with
    | [d, d2], hd =>
      obtain ⟨i, j, rfl, rfl, h0, h1, e2⟩ := rngD_two hd.1 hd.2.1 e
      refine ⟨i, j, rfl, rfl, rgOk2 h0 h1 e2 hz, ?_⟩
      have := k (rgV i j) (by rw [e2]; exact reps_rg i j)
      rwa [if_neg Bool.false_ne_true] at this
end

/-! ### an own slot's object is written -/
section
variable {K : PySem.W.Frag} {w : World} {R R' R1 R2 : Addr → Prop} {ρ ρ' ρ1 ρ2 : Rho} {σ : St} {H H' H1 H2 : Hp}
theorem write_keepT {a : Addr} {d : D} {o : HO} (t : Top K w R H a d) : ∀ b u, Fz u → H b = some u → (upd H a o) b = some u := fun b u z e => by
  refine (upd_ne fun q => ?_).trans e
  subst q
  obtain ⟨o', e', n⟩ := t.there
  rw [e] at e'
  cases e'
  rcases z with ⟨xs, rfl⟩ | ⟨ob, u', rfl⟩
  · exact n xs rfl
  · exact t.nofrz e
theorem write_keepK {a : Addr} {o : HO} (n : ¬ R a) : ∀ b u, R b → H b = some u → (upd H a o) b = some u := fun b u z e =>
  (upd_ne fun q => n (by rw [← q]; exact z)).trans e
theorem Step.write (m : Mt K w R ρ σ H) {i : Nat} {d d' : D} {a : Addr} {o : HO} (h : ρ[i]? = some (.own d)) (ha : σ[i]? = some (some (.ref a)))
    (t : Top K w R (upd H a o) a d') : Step K w σ R ρ H R (ρ.set i (.own d')) (upd H a o) := by
  obtain ⟨a', h1, h2, h3⟩ := m.own i d h
  rw [ha] at h1
  cases h1
  have hi : i < ρ.length := (List.getElem?_eq_some_iff.mp h).1
  have nw : ∀ b, H b ≠ none → (upd H a o) b ≠ none := fun b hb => by
    by_cases q : b = a
    · rw [q, upd_same]; simp
    · rw [upd_ne q]; exact hb
  have mo : ∀ b, Own (ρ.set i (.own d')) σ b → Own ρ σ b := fun b hb => by
    obtain ⟨j, e, e1, e2⟩ := hb
    by_cases q : i = j
    · subst q
      exact ⟨i, d, h, e2⟩
    · rw [List.getElem?_set_ne q] at e1
      exact ⟨j, e, e1, e2⟩
  have mode : ∀ {j : Nat} {e : D}, (ρ.set i (.own d'))[j]? = some (.own e) → ∃ e', ρ[j]? = some (.own e') := fun {j e} hj => by
    by_cases q : i = j
    · subst q
      exact ⟨d, h⟩
    · rw [List.getElem?_set_ne q] at hj
      exact ⟨e, hj⟩
  refine ⟨fun _ z => z, ⟨by simpa using m.len, fun b hb => nw b (m.trk b hb), fun j e hj => ?_, fun j e hj => ?_, fun j k e f b e1 e2 e3 e4 => ?_⟩, fun b u e n => ?_, fun b z => .inl z, fun b z => .inl (mo b z), nw, fun _ _ => rfl⟩
  · by_cases q : i = j
    · subst q
      rw [List.getElem?_set_self hi] at hj
      cases hj
    · rw [List.getElem?_set_ne q] at hj
      obtain ⟨v, e1, e2⟩ := m.ro j e hj
      exact ⟨v, e1, Rep.keep (fun _ z => z) (write_keepT h3) (write_keepK h2) e v e2⟩
  · by_cases q : i = j
    · subst q
      rw [List.getElem?_set_self hi] at hj
      cases hj
      exact ⟨a, ha, h2, t⟩
    · rw [List.getElem?_set_ne q] at hj
      obtain ⟨b, e1, e2, e3⟩ := m.own j e hj
      refine ⟨b, e1, e2, Top.keep (fun _ z => z) (write_keepT h3) (write_keepK h2) (fun u e4 => ?_) e3⟩
      exact (upd_ne fun z => q (m.inj i j d e b h hj (by rw [z]; exact ha) e1)).trans e4
  · obtain ⟨e', q1⟩ := mode e1
    obtain ⟨f', q2⟩ := mode e2
    exact m.inj j k e' f' b q1 q2 e3 e4
  · refine (upd_ne fun q => n ?_).trans e
    subst q
    exact ⟨i, d, h, ha⟩
theorem reps_write {a : Addr} {d : D} {o : HO} {ds : List D} {xs : List V} (n : ¬ R a) (t : Top K w R H a d) (h : Reps K w R H ds xs) : Reps K w R (upd H a o) ds xs :=
  Reps.keep (fun _ z => z) (write_keepT t) (write_keepK n) ds xs h
theorem rep_write {a : Addr} {d e : D} {o : HO} {v : V} (n : ¬ R a) (t : Top K w R H a d) (h : Rep K w R H e v) : Rep K w R (upd H a o) e v :=
  Rep.keep (fun _ z => z) (write_keepT t) (write_keepK n) e v h
theorem Reps.dropLast {ds : List D} {xs : List V} (h : Reps K w R H ds xs) : Reps K w R H ds.dropLast xs.dropLast := by
  rw [List.dropLast_eq_take, List.dropLast_eq_take, h.length]
  exact h.take _
end

/-! ### methods of lists -/
section
variable {X : Cx} {C : Cfg} {a b c e : Expr} {ma mb mc : E} {pos apos : Pos}
theorem ownL_of {ρ : Rho} {i : Nat} {xs : List D} (h : ownL ρ i = some xs) : ρ[i]? = some (.own (.lst xs)) := by
  unfold ownL at h
  split at h
  · rename_i q
    cases h
    exact q
  · cases h
theorem few {cpos : Pos} {env : Env} (hs : isStar a = false) : ((backTo cpos (starEach [a] env)).all (fun x => !x.1) && (backToKw cpos (keywordEach [] env)).all (fun x => x.1.isSome)
      && decide ([a].length + ([] : List Keyword).length + (if ([] : List Keyword).isEmpty then 0 else 1) < 30)) = true := by
  rw [star_cons hs]
  rfl
theorem base_name {x m : Str} {p : Pos} {env : Env} : attributeBase (.Name x p) m env (eval (.Name x p) env) = eval (.Name x p) env := rfl
/-- the receiver -/
theorem recv_own {K : PySem.W.Frag} {w : World} {R : Addr → Prop} {ρ : Rho} {σ : St} {H : Hp} (m : Mt K w R ρ σ H) {i : Nat} {xs : List D} (h : ownL ρ i = some xs) :
    ∃ p vs, σ[i]? = some (some (.ref p)) ∧ ¬ R p ∧ H p = some (.lst vs) ∧ Reps K w R H xs vs := by
  obtain ⟨a, h1, h2, vs, h3, h4⟩ := m.own i _ (ownL_of h)
  exact ⟨a, vs, h1, h2, h3, h4⟩
theorem tyV_lst {K : PySem.W.Frag} {p : Addr} {xs : List V} {H : Hp} (h : H p = some (.lst xs)) : tyV K "list" (.ref p) H := .inl ⟨rfl, xs, SqL.of h⟩
variable {x : Str} {i : Nat} {p : Pos}
theorem px_app (hN : X.N[i]? = some x) (hv : Vis X.env.scope x) (hd : (x == ("__debug__" : Str)) = false) (hcd : (x == ("__classdict__" : Str)) = false)
    (ha : PE X a (tD X.K X.w C ma)) (hs : isStar a = false) (hl : (apos.endLine == pos.line) = true) :
    PE X (.Call (.Attribute (.Name x p) "append" apos) [a] [] pos) (tD X.K X.w C (.app i ma)) := by
  refine PE.imp (pe_bm PySem.F.plainAttrs_list PySem.F.slot_list_append PySem.F.type_list_append mt_append (pe_var hN hv hd hcd) (pa_cons ha pa_nil (star_cons hs)) base_name (few hs) hl (star_cons hs)) fun σ H Q h => ?_
  obtain ⟨R, ρ, r, ρ', m, e, q⟩ := h
  obtain ⟨us, e0, e⟩ := Option.bind_eq_some_iff.mp (show (ownL ρ i).bind _ = some (r, ρ') from e)
  obtain ⟨⟨ra, ρ1⟩, e1, e⟩ := Option.bind_eq_some_iff.mp e
  obtain ⟨⟨d, ρ2⟩, e2, e⟩ := Option.bind_eq_some_iff.mp e
  obtain ⟨xs, e3, e⟩ := Option.bind_eq_some_iff.mp e
  split at e
  · rename_i hz
    cases e
    obtain ⟨l, vs0, h1, h2, h3, _⟩ := recv_own m e0
    refine ⟨_, h1, tyV_lst h3, R, ρ, ra, ρ1, m, e1, fun u H1 R1 s1 rr1 f1 => ?_⟩
    obtain ⟨R2, up, s2, rp⟩ := fix_step s1 rr1 f1 e2
    obtain ⟨l', ys, q1, q2, q3, q4⟩ := recv_own s2.mt e3
    rw [h1] at q1
    cases q1
    refine ⟨l, ys, u, rfl, rfl, q3, by rw [← q4.length]; exact Nat.lt_of_lt_of_le hz (most_line (Nat.le_refl _)), ?_⟩
    have t : Top X.K X.w R2 H1 l (.lst xs) := ⟨ys, q3, q4⟩
    have tw : Top X.K X.w R2 (upd H1 l (.lst (ys ++ [u]))) l (.lst (xs ++ [d])) :=
      ⟨ys ++ [u], upd_same, Reps.append (reps_write q2 t q4) ⟨rep_write q2 t rp, trivial⟩⟩
    exact q _ _ R2 (s2.trans (Step.write s2.mt (ownL_of e3) h1 tw)) rfl trivial
  · cases e
theorem px_ext (hN : X.N[i]? = some x) (hv : Vis X.env.scope x) (hd : (x == ("__debug__" : Str)) = false) (hcd : (x == ("__classdict__" : Str)) = false)
    (ha : PE X a (tD X.K X.w C ma)) (hs : isStar a = false) (hl : (apos.endLine == pos.line) = true) :
    PE X (.Call (.Attribute (.Name x p) "extend" apos) [a] [] pos) (tD X.K X.w C (.ext i ma)) := by
  refine PE.imp (pe_bm PySem.F.plainAttrs_list PySem.F.slot_list_extend PySem.F.type_list_extend mt_extend (pe_var hN hv hd hcd) (pa_cons ha pa_nil (star_cons hs)) base_name (few hs) hl (star_cons hs)) fun σ H Q h => ?_
  obtain ⟨R, ρ, r, ρ', m, e, q⟩ := h
  obtain ⟨us, e0, e⟩ := Option.bind_eq_some_iff.mp (show (ownL ρ i).bind _ = some (r, ρ') from e)
  obtain ⟨⟨ra, ρ1⟩, e1, e⟩ := Option.bind_eq_some_iff.mp e
  obtain ⟨d, e2, e⟩ := Option.bind_eq_some_iff.mp e
  obtain ⟨zs, e4, e⟩ := Option.bind_eq_some_iff.mp e
  obtain ⟨xs, e3, e⟩ := Option.bind_eq_some_iff.mp e
  split at e
  · rename_i hz
    cases e
    obtain ⟨l, vs0, h1, h2, h3, _⟩ := recv_own m e0
    refine ⟨_, h1, tyV_lst h3, R, ρ, ra, ρ1, m, e1, fun u H1 R1 s1 rr1 f1 => ?_⟩
    obtain ⟨l', ys, q1, q2, q3, q4⟩ := recv_own s1.mt e3
    rw [h1] at q1
    cases q1
    have t := look_rep s1.mt rr1 e2
    have ed : d = .lst zs := by
      unfold lstOf at e4
      split at e4
      · cases e4; rfl
      · cases e4
    subst ed
    obtain ⟨b, ws, rfl, t1, t2⟩ := t.lst
    refine ⟨l, b, ys, ws, rfl, rfl, q3, t1, by rw [← q4.length, ← t2.length]; exact most_line hz, ?_⟩
    have t : Top X.K X.w R1 H1 l (.lst xs) := ⟨ys, q3, q4⟩
    have tw : Top X.K X.w R1 (upd H1 l (.lst (ys ++ ws))) l (.lst (xs ++ zs)) :=
      ⟨ys ++ ws, upd_same, Reps.append (reps_write q2 t q4) (reps_write q2 t t2)⟩
    exact q _ _ R1 (s1.trans (Step.write s1.mt (ownL_of e3) h1 tw)) rfl trivial
  · cases e
theorem px_pop (hN : X.N[i]? = some x) (hv : Vis X.env.scope x) (hd : (x == ("__debug__" : Str)) = false) (hcd : (x == ("__classdict__" : Str)) = false)
    (hl : (apos.endLine == pos.line) = true) : PE X (.Call (.Attribute (.Name x p) "pop" apos) [] [] pos) (tD X.K X.w C (.pop i)) := by
  refine PE.imp (pe_bm0 PySem.F.plainAttrs_list PySem.F.slot_list_pop PySem.F.type_list_pop mt_pop (pe_var hN hv hd hcd) base_name hl) fun σ H Q h => ?_
  obtain ⟨R, ρ, r, ρ', m, e, q⟩ := h
  obtain ⟨xs, e0, e⟩ := Option.bind_eq_some_iff.mp (show (ownL ρ i).bind _ = some (r, ρ') from e)
  obtain ⟨d, e1, e⟩ := Option.map_eq_some_iff.mp e
  cases e
  obtain ⟨l, ys, h1, h2, h3, h4⟩ := recv_own m e0
  obtain ⟨y, hy, ry⟩ := h4.get e1
  rw [h4.length] at hy
  refine ⟨_, h1, tyV_lst h3, l, ys, y, rfl, rfl, h3, hy, ?_⟩
  have t : Top X.K X.w R H l (.lst xs) := ⟨ys, h3, h4⟩
  have tw : Top X.K X.w R (upd H l (.lst ys.dropLast)) l (.lst xs.dropLast) := ⟨ys.dropLast, upd_same, (reps_write h2 t h4).dropLast⟩
  exact q _ _ R (Step.write m (ownL_of e0) h1 tw) (rep_write h2 t ry) trivial
theorem px_popi (hN : X.N[i]? = some x) (hv : Vis X.env.scope x) (hd : (x == ("__debug__" : Str)) = false) (hcd : (x == ("__classdict__" : Str)) = false)
    (ha : PE X a (tD X.K X.w C ma)) (hs : isStar a = false) (hl : (apos.endLine == pos.line) = true) :
    PE X (.Call (.Attribute (.Name x p) "pop" apos) [a] [] pos) (tD X.K X.w C (.popi i ma)) := by
  refine PE.imp (pe_bm PySem.F.plainAttrs_list PySem.F.slot_list_pop PySem.F.type_list_pop mt_popAt (pe_var hN hv hd hcd) (pa_cons ha pa_nil (star_cons hs)) base_name (few hs) hl (star_cons hs)) fun σ H Q h => ?_
  obtain ⟨R, ρ, r, ρ', m, e, q⟩ := h
  obtain ⟨us, e0, e⟩ := Option.bind_eq_some_iff.mp (show (ownL ρ i).bind _ = some (r, ρ') from e)
  obtain ⟨⟨ra, ρ1⟩, e1, e⟩ := Option.bind_eq_some_iff.mp e
  obtain ⟨d, e2, e⟩ := Option.bind_eq_some_iff.mp e
  obtain ⟨k, e4, e⟩ := Option.bind_eq_some_iff.mp e
  obtain ⟨xs, e3, e⟩ := Option.bind_eq_some_iff.mp e
  split at e
  · rename_i hz
    obtain ⟨d2, e5, e⟩ := Option.map_eq_some_iff.mp e
    cases e
    obtain ⟨l, vs0, h1, h2, h3, _⟩ := recv_own m e0
    refine ⟨_, h1, tyV_lst h3, R, ρ, ra, ρ1, m, e1, fun u H1 R1 s1 rr1 f1 => ?_⟩
    obtain ⟨l', ys, q1, q2, q3, q4⟩ := recv_own s1.mt e3
    rw [h1] at q1
    cases q1
    have t := look_rep s1.mt rr1 e2
    have ed : d = .int k := by
      unfold intOf at e4
      split at e4
      · cases e4; rfl
      · cases e4
    subst ed
    obtain rfl := t.int
    obtain ⟨y, hy, ry⟩ := q4.get e5
    have hk : k < (ys.length : Int) := by
      have := (List.getElem?_eq_some_iff.mp hy).1
      omega
    refine ⟨l, ys, k, k.toNat, y, rfl, rfl, q3, by omega, hz.2, seqIndex_of hz.1 hk, hy, ?_⟩
    have t : Top X.K X.w R1 H1 l (.lst xs) := ⟨ys, q3, q4⟩
    have tw : Top X.K X.w R1 (upd H1 l (.lst (ys.eraseIdx k.toNat))) l (.lst (xs.eraseIdx k.toNat)) := ⟨_, upd_same, (reps_write q2 t q4).eraseIdx _⟩
    exact q _ _ R1 (s1.trans (Step.write s1.mt (ownL_of e3) h1 tw)) (rep_write q2 t ry) trivial
  · cases e
end
end PV

/-! PV, part L: names stored, what is walked. -/
namespace PV
open PySem PySem.Spec PyProof.Rows L2

section
variable {K : PySem.W.Frag} {w : World} {np : Nat} {R R' R1 R2 : Addr → Prop} {ρ ρ' ρ1 ρ2 : Rho} {σ σ' σ1 σ2 : St} {H H' H1 H2 : Hp}
theorem set_own {i j : Nat} {d e : D} (h : (ρ.set i (.ro d))[j]? = some (.own e)) : i ≠ j ∧ ρ[j]? = some (.own e) := by
  by_cases q : i = j
  · subst q
    by_cases hi : i < ρ.length
    · rw [List.getElem?_set_self hi] at h; cases h
    · rw [List.getElem?_eq_none (by simpa using hi)] at h; cases h
  · rw [List.getElem?_set_ne q] at h
    exact ⟨q, h⟩
/-- a name is stored: a value -/
theorem SS.put_ro (s : SS K w np σ R ρ H σ1 R1 ρ1 H1) {i : Nat} {d : D} {v : V} (hi : i < ρ1.length) (hn : np ≤ i) (r : Rep K w R1 H1 d v) :
    SS K w np σ R ρ H (σ1.set i (some v)) R1 (ρ1.set i (.ro d)) H1 := by
  have hs : i < σ1.length := by rw [← s.mt.len]; exact hi
  refine ⟨s.up, ⟨by simpa using s.mt.len, s.mt.trk, fun j e hj => ?_, fun j e hj => ?_, fun j k e f b e1 e2 e3 e4 => ?_⟩, s.fr, s.bd, fun b hb => ?_, s.nw, fun j hj => ?_⟩
  · by_cases q : i = j
    · subst q
      rw [List.getElem?_set_self hi] at hj
      cases hj
      exact ⟨v, List.getElem?_set_self hs, r⟩
    · rw [List.getElem?_set_ne q] at hj ⊢
      exact s.mt.ro j e hj
  · obtain ⟨q, hj⟩ := set_own hj
    rw [List.getElem?_set_ne q]
    exact s.mt.own j e hj
  · obtain ⟨q1, e1⟩ := set_own e1
    obtain ⟨q2, e2⟩ := set_own e2
    rw [List.getElem?_set_ne q1] at e3
    rw [List.getElem?_set_ne q2] at e4
    exact s.mt.inj j k e f b e1 e2 e3 e4
  · obtain ⟨j, e, e1, e2⟩ := hb
    obtain ⟨q, e1⟩ := set_own e1
    rw [List.getElem?_set_ne q] at e2
    exact s.mo b ⟨j, e, e1, e2⟩
  · rw [List.getElem?_set_ne (by omega)]
    exact s.pm j hj
/-- a name is stored: a fresh object -/
theorem SS.put_own (s : SS K w np σ R ρ H σ1 R1 ρ1 H1) {i : Nat} {d : D} {a : Addr} (hi : i < ρ1.length) (hn : np ≤ i) (n1 : ¬ R1 a) (n2 : ¬ Own ρ1 σ1 a) (t : Top K w R1 H1 a d) (f : H a = none) :
    SS K w np σ R ρ H (σ1.set i (some (.ref a))) R1 (ρ1.set i (.own d)) H1 := by
  have hs : i < σ1.length := by rw [← s.mt.len]; exact hi
  refine ⟨s.up, ⟨by simpa using s.mt.len, s.mt.trk, fun j e hj => ?_, fun j e hj => ?_, fun j k e f b e1 e2 e3 e4 => ?_⟩, s.fr, s.bd, fun b hb => ?_, s.nw, fun j hj => ?_⟩
  · by_cases q : i = j
    · subst q
      rw [List.getElem?_set_self hi] at hj
      cases hj
    · rw [List.getElem?_set_ne q] at hj ⊢
      exact s.mt.ro j e hj
  · by_cases q : i = j
    · subst q
      rw [List.getElem?_set_self hi] at hj
      cases hj
      exact ⟨a, List.getElem?_set_self hs, n1, t⟩
    · rw [List.getElem?_set_ne q] at hj ⊢
      exact s.mt.own j e hj
  · by_cases q1 : i = j
    · subst q1
      by_cases q2 : i = k
      · exact q2
      · rw [List.getElem?_set_ne q2] at e2 e4
        rw [List.getElem?_set_self hs] at e3
        cases e3
        exact absurd ⟨k, f, e2, e4⟩ n2
    · rw [List.getElem?_set_ne q1] at e1 e3
      by_cases q2 : i = k
      · subst q2
        rw [List.getElem?_set_self hs] at e4
        cases e4
        exact absurd ⟨j, e, e1, e3⟩ n2
      · rw [List.getElem?_set_ne q2] at e2 e4
        exact s.mt.inj j k e f b e1 e2 e3 e4
  · obtain ⟨j, e, e1, e2⟩ := hb
    by_cases q : i = j
    · subst q
      rw [List.getElem?_set_self hs] at e2
      cases e2
      exact .inr f
    · rw [List.getElem?_set_ne q] at e1 e2
      exact s.mo b ⟨j, e, e1, e2⟩
  · rw [List.getElem?_set_ne (by omega)]
    exact s.pm j hj
/-- an object that no slot has is laid, or written -/
theorem SS.poke (s : SS K w np σ R ρ H σ1 R1 ρ1 H1) {p : Addr} {o : HO} (f : H p = none) (z : ∀ u, H1 p = some u → ¬ Fz u) (n1 : ¬ R1 p) (n2 : ¬ Own ρ1 σ1 p) : SS K w np σ R ρ H σ1 R1 ρ1 (upd H1 p o) := by
  have hT : ∀ b u, Fz u → H1 b = some u → (upd H1 p o) b = some u := fun b u q e => (upd_ne fun e' => z u (by rw [← e']; exact e) q).trans e
  have hK : ∀ b u, R1 b → H1 b = some u → (upd H1 p o) b = some u := fun b u q e => (upd_ne fun e' => n1 (by rw [← e']; exact q)).trans e
  have nw : ∀ b, H1 b ≠ none → (upd H1 p o) b ≠ none := fun b h => by
    by_cases e : b = p
    · rw [e, upd_same]; simp
    · rw [upd_ne e]; exact h
  refine ⟨s.up, ⟨s.mt.len, fun b h => nw b (s.mt.trk b h), fun i d h => ?_, fun i d h => ?_, s.mt.inj⟩, fun b u h n => ?_, s.bd, s.mo, fun b h => nw b (s.nw b h), s.pm⟩
  · obtain ⟨v, h1, h2⟩ := s.mt.ro i d h
    exact ⟨v, h1, Rep.keep (fun _ z => z) hT hK d v h2⟩
  · obtain ⟨a, h1, h2, h3⟩ := s.mt.own i d h
    exact ⟨a, h1, h2, Top.keep (fun _ z => z) hT hK (fun u e => (upd_ne fun e' => n2 ⟨i, d, h, by rw [← e']; exact h1⟩).trans e) h3⟩
  · exact (upd_ne (ne_of_none h f)).trans (s.fr b u h n)

/-! ### slots forgotten, restored -/
theorem unset_length {ρ : Rho} : ∀ {vs : List Nat}, (unset ρ vs).length = ρ.length
  | [] => rfl
  | v :: vs => by unfold unset; rw [List.length_set, unset_length (vs := vs)]
theorem unset_get {ρ : Rho} : ∀ {vs : List Nat} {i : Nat}, (unset ρ vs)[i]? = if i ∈ vs then (if i < ρ.length then some .un else none) else ρ[i]?
  | [], i => by rw [if_neg (by simp)]; rfl
  | v :: vs, i => by
    unfold unset
    by_cases e : v = i
    · subst e
      rw [if_pos List.mem_cons_self]
      by_cases h : v < ρ.length
      · rw [List.getElem?_set_self (by rw [unset_length]; exact h), if_pos h]
      · rw [List.getElem?_eq_none (by simp [unset_length]; omega), if_neg h]
    · rw [List.getElem?_set_ne e, unset_get (vs := vs)]
      simp only [List.mem_cons, show ¬ i = v from fun z => e z.symm, false_or]
theorem wipe_get {σ : St} : ∀ {vs : List Nat} {i : Nat}, (wipe σ vs)[i]? = if i ∈ vs then (if i < σ.length then some none else none) else σ[i]?
  | [], i => by rw [if_neg (by simp)]; rfl
  | v :: vs, i => by
    unfold wipe
    by_cases e : v = i
    · subst e
      rw [if_pos List.mem_cons_self]
      by_cases h : v < σ.length
      · rw [List.getElem?_set_self (by rw [wipe_length]; exact h), if_pos h]
      · rw [List.getElem?_eq_none (by simp [wipe_length]; omega), if_neg h]
    · rw [List.getElem?_set_ne e, wipe_get (vs := vs)]
      simp only [List.mem_cons, show ¬ i = v from fun z => e z.symm, false_or]
theorem wipe_eq {vs : List Nat} (hl : σ'.length = σ.length) (h : ∀ i, i ∉ vs → σ'[i]? = σ[i]?) : wipe σ' vs = wipe σ vs := by
  refine List.ext_getElem? fun i => ?_
  rw [wipe_get, wipe_get, hl]
  split
  · rfl
  · exact h i (by assumption)
theorem unset_own {vs : List Nat} {i : Nat} {s : Sl} (h : (unset ρ vs)[i]? = some s) (n : s ≠ .un) : i ∉ vs ∧ ρ[i]? = some s := by
  rw [unset_get] at h
  split at h
  · split at h
    · cases h; exact absurd rfl n
    · cases h
  · exact ⟨by assumption, h⟩
/-- names are forgotten -/
theorem SS.wipe (s : SS K w 0 σ R ρ H σ1 R1 ρ1 H1) (vs : List Nat) : SS K w 0 σ R ρ H (L2.wipe σ1 vs) R1 (unset ρ1 vs) H1 := by
  refine ⟨s.up, ⟨by rw [unset_length, wipe_length]; exact s.mt.len, s.mt.trk, fun j e hj => ?_, fun j e hj => ?_, fun j k e f b e1 e2 e3 e4 => ?_⟩, s.fr, s.bd, fun b hb => ?_, s.nw, fun j hj => absurd hj (Nat.not_lt_zero j)⟩
  · obtain ⟨q, hj⟩ := unset_own hj (fun z => by cases z)
    rw [wipe_out q]
    exact s.mt.ro j e hj
  · obtain ⟨q, hj⟩ := unset_own hj (fun z => by cases z)
    rw [wipe_out q]
    exact s.mt.own j e hj
  · obtain ⟨q1, e1⟩ := unset_own e1 (fun z => by cases z)
    obtain ⟨q2, e2⟩ := unset_own e2 (fun z => by cases z)
    rw [wipe_out q1] at e3
    rw [wipe_out q2] at e4
    exact s.mt.inj j k e f b e1 e2 e3 e4
  · obtain ⟨j, e, e1, e2⟩ := hb
    obtain ⟨q1, e1⟩ := unset_own e1 (fun z => by cases z)
    rw [wipe_out q1] at e2
    exact s.mo b ⟨j, e, e1, e2⟩
theorem restore_get {ρ0 : Rho} (hl : ρ.length = ρ0.length) : ∀ {vs : List Nat} {i : Nat}, (restore ρ ρ0 vs).length = ρ.length ∧ (restore ρ ρ0 vs)[i]? = if i ∈ vs then ρ0[i]? else ρ[i]?
  | [], i => ⟨rfl, by rw [if_neg (by simp)]; rfl⟩
  | v :: vs, i => by
    have ih := fun i => restore_get (ρ0 := ρ0) hl (vs := vs) (i := i)
    unfold restore
    refine ⟨by rw [List.length_set]; exact (ih 0).1, ?_⟩
    by_cases e : v = i
    · subst e
      rw [if_pos List.mem_cons_self]
      by_cases h : v < ρ.length
      · rw [List.getElem?_set_self (by rw [(ih 0).1]; exact h), List.getElem?_eq_getElem (by omega)]
        rfl
      · rw [List.getElem?_eq_none (by rw [List.length_set, (ih 0).1]; omega), List.getElem?_eq_none (by omega)]
    · rw [List.getElem?_set_ne e, (ih i).2]
      simp only [List.mem_cons, show ¬ i = v from fun z => e z.symm, false_or]
theorem unset_Own {vs : List Nat} {b : Addr} (h : Own (unset ρ vs) (L2.wipe σ vs) b) : ∃ (i : Nat) (d : D), i ∉ vs ∧ ρ[i]? = some (.own d) ∧ σ[i]? = some (some (.ref b)) := by
  obtain ⟨j, e, e1, e2⟩ := h
  obtain ⟨q1, e1⟩ := unset_own e1 (fun z => by cases z)
  rw [wipe_out q1] at e2
  exact ⟨j, e, q1, e1, e2⟩
/-- behind a block: its names are again what they were -/
theorem SS.back {vs : List Nat} (m : Mt K w R ρ σ H) (s : SS K w 0 (L2.wipe σ vs) R (unset ρ vs) H (L2.wipe σ vs) R1 ρ1 H1) (str : ∀ b, Own ρ1 (L2.wipe σ vs) b → Own ρ σ b ∨ H b = none) : Step K w σ R ρ H R1 (restore ρ1 ρ vs) H1 := by
  have hl : ρ1.length = ρ.length := by rw [s.mt.len, wipe_length, m.len]
  have rg := fun i => restore_get hl (vs := vs) (i := i)
  have fr : ∀ b o, H b = some o → ¬ Own ρ σ b → H1 b = some o := fun b o e n => s.fr b o e fun z => by
    obtain ⟨i, d, _, h1, h2⟩ := unset_Own z
    exact n ⟨i, d, h1, h2⟩
  have inn : ∀ {i : Nat} {d : D} {a : Addr}, i ∈ vs → ρ[i]? = some (.own d) → σ[i]? = some (some (.ref a)) → ¬ Own (unset ρ vs) (L2.wipe σ vs) a := fun {i d a} hi h1 h2 z => by
    obtain ⟨j, e, nj, h3, h4⟩ := unset_Own z
    exact nj (m.inj i j d e a h1 h3 h2 h4 ▸ hi)
  -- an object of a name of the block's
  have kp : ∀ {i : Nat} {d : D} {a : Addr}, i ∈ vs → ρ[i]? = some (.own d) → σ[i]? = some (some (.ref a)) → ¬ R1 a ∧ Top K w R1 H1 a d := fun {i d a} hi h1 h2 => by
    obtain ⟨a', h3, h4, h5⟩ := m.own i d h1
    rw [h2] at h3
    cases h3
    have n := inn hi h1 h2
    obtain ⟨o, ho, _⟩ := h5.there
    refine ⟨fun z => ?_, ?_⟩
    · rcases s.bd a z with z | z | z
      · exact h4 z
      · rw [ho] at z; cases z
      · exact n z
    · exact Top.keep s.up (m.keepT fr) (m.keepK fr) (fun u e => s.fr a u e n) h5
  refine ⟨s.up, ⟨by rw [(rg 0).1, hl]; exact m.len, s.mt.trk, fun j e hj => ?_, fun j e hj => ?_, fun j k e f b e1 e2 e3 e4 => ?_⟩, fr, fun b h => ?_, fun b hb => ?_, s.nw, fun _ _ => rfl⟩
  · rw [(rg j).2] at hj
    split at hj
    · obtain ⟨v, h1, h2⟩ := m.ro j e hj
      exact ⟨v, h1, Rep.keep s.up (m.keepT fr) (m.keepK fr) e v h2⟩
    · rename_i nj
      have := s.mt.ro j e hj
      rwa [wipe_out nj] at this
  · rw [(rg j).2] at hj
    split at hj
    · rename_i ij
      obtain ⟨a, h1, _⟩ := m.own j e hj
      exact ⟨a, h1, kp ij hj h1⟩
    · rename_i nj
      have := s.mt.own j e hj
      rwa [wipe_out nj] at this
  · have key : ∀ {j k : Nat} {e f : D}, j ∈ vs → k ∉ vs → ρ[j]? = some (.own e) → ρ1[k]? = some (.own f) → σ[j]? = some (some (.ref b)) → σ[k]? = some (some (.ref b)) → False := fun {j k e f} ij nk h1 h2 h3 h4 => by
      have hO : Own ρ1 (L2.wipe σ vs) b := ⟨k, f, h2, by rw [wipe_out nk]; exact h4⟩
      rcases s.mo b hO with z | z
      · exact inn ij h1 h3 z
      · obtain ⟨a', q1, _, q2⟩ := m.own j e h1
        rw [h3] at q1
        cases q1
        obtain ⟨o, ho, _⟩ := q2.there
        rw [ho] at z; cases z
    rw [(rg j).2] at e1
    rw [(rg k).2] at e2
    split at e1 <;> split at e2
    · exact m.inj j k e f b e1 e2 e3 e4
    · rename_i ij nk
      exact (key ij nk e1 e2 e3 e4).elim
    · rename_i nj ik
      exact (key ik nj e2 e1 e4 e3).elim
    · rename_i nj nk
      exact s.mt.inj j k e f b e1 e2 (by rw [wipe_out nj]; exact e3) (by rw [wipe_out nk]; exact e4)
  · rcases s.bd b h with h | h | h
    · exact .inl h
    · exact .inr (.inl h)
    · obtain ⟨i, d, _, h1, h2⟩ := unset_Own h
      exact .inr (.inr ⟨i, d, h1, h2⟩)
  · obtain ⟨j, e, e1, e2⟩ := hb
    rw [(rg j).2] at e1
    split at e1
    · exact .inl ⟨j, e, e1, e2⟩
    · rename_i nj
      exact str b ⟨j, e, e1, by rw [wipe_out nj]; exact e2⟩
end

/-! ### targets -/
def tG (K : PySem.W.Frag) (w : World) (np : Nat) (t : Tg) : TG := fun x σ H Q => ∃ R ρ d ρ', Mt K w R ρ σ H ∧ Rep K w R H d x ∧ bindT np ρ t d = some ρ' ∧
  ∀ σ', SS K w np σ R ρ H σ' R ρ' H → (∀ i, i ∉ t.slots → σ'[i]? = σ[i]?) → σ'.length = σ.length → (∀ b, Own ρ' σ' b → Own ρ σ b) → Q σ' H
def tGs (K : PySem.W.Frag) (w : World) (np : Nat) (is : List Nat) : TGs := fun xs σ H Q => ∃ R ρ ds ρ', Mt K w R ρ σ H ∧ Reps K w R H ds xs ∧ setAll np ρ is ds = some ρ' ∧
  ∀ σ', SS K w np σ R ρ H σ' R ρ' H → (∀ i, i ∉ is → σ'[i]? = σ[i]?) → σ'.length = σ.length → (∀ b, Own ρ' σ' b → Own ρ σ b) → Q σ' H
theorem PG.imp {X : Cx} {e : Expr} {t t' : TG} (h : PG X e t) (i : ∀ v σ H Q, t' v σ H Q → t v σ H Q) : PG X e t' := ⟨fun pins s σ H v u Q I r q => h.run pins s σ H v u Q I r (i v σ H Q q)⟩
theorem PGs.imp {X : Cx} {e : List Expr} {t t' : TGs} (h : PGs X e t) (i : ∀ v σ H Q, t' v σ H Q → t v σ H Q) : PGs X e t' := ⟨fun pins s σ H v u Q I r q => h.run pins s σ H v u Q I r (i v σ H Q q)⟩
section
variable {X : Cx} {C : Cfg} {np : Nat} {a b c e : Expr} {ma mb mc : E} {pos p : Pos} {x : Str} {i : Nat}
theorem ro_Own {ρ : Rho} {σ : St} {i : Nat} {d : D} {v : V} {b : Addr} (h : Own (ρ.set i (.ro d)) (σ.set i (some v)) b) : Own ρ σ b := by
  obtain ⟨j, e, e1, e2⟩ := h
  obtain ⟨q, e1⟩ := set_own e1
  rw [List.getElem?_set_ne q] at e2
  exact ⟨j, e, e1, e2⟩
theorem px_gnm (hN : X.N.Nodup) (hi : X.N[i]? = some x) (hx : Loc X.env.scope x) (hf : X.fn x = true ∨ X.env.scope.names.lookup x = some .local) : PG X (.Name x p) (tG X.K X.w np (.nm i)) := by
  refine PG.imp (pg_name hN hi hx hf) fun v σ H Q h => ?_
  obtain ⟨R, ρ, d, ρ', m, r, e, q⟩ := h
  unfold bindT at e
  split at e
  · rename_i i' hz q1
    cases q1
    split at e
    · rename_i hz
      cases e
      exact q _ ((SS.refl m).put_ro hz.2 hz.1 r) (fun j hj => List.getElem?_set_ne (fun z => hj (by simp [Tg.slots, z]))) (List.length_set ..) (fun b hb => ro_Own hb)
    · cases e
  · rename_i q1; cases q1
  · rename_i q1; cases q1
  · cases e
theorem px_gsnil : PGs X [] (tGs X.K X.w np []) := by
  refine PGs.imp pgs_nil fun v σ H Q h => ?_
  obtain ⟨R, ρ, ds, ρ', m, r, e, q⟩ := h
  cases ds with
  | cons d ds => cases e
  | nil =>
    cases v with
    | cons _ _ => exact r.elim
    | nil =>
      cases e
      exact ⟨rfl, q σ (SS.refl m) (fun _ _ => rfl) rfl (fun _ h => h)⟩
def isNameE : Expr → Bool
  | .Name .. => true
  | _ => false
theorem asgEach_cons {es : List Expr} {env : Env} (h : isNameE e = true) : (assignEach (e :: es) env).map (·.2) = assign e env :: (assignEach es env).map (·.2) := by
  cases e <;> first | rfl | cases h
theorem px_gscons {es : List Expr} {is : List Nat} (hN : X.N.Nodup) (hi : X.N[i]? = some x) (hx : Loc X.env.scope x) (hf : X.fn x = true ∨ X.env.scope.names.lookup x = some .local) (h : PGs X es (tGs X.K X.w np is)) :
    PGs X (.Name x p :: es) (tGs X.K X.w np (i :: is)) := by
  refine PGs.imp (pgs_cons (pg_name hN hi hx hf) h (asgEach_cons rfl)) fun v σ H Q h => ?_
  obtain ⟨R, ρ, ds, ρ', m, r, e, q⟩ := h
  cases ds with
  | nil => cases e
  | cons d ds =>
    cases v with
    | nil => exact r.elim
    | cons v vs =>
      unfold setAll at e
      split at e
      · rename_i hz
        have s := (SS.refl (np := np) m).put_ro hz.2 hz.1 r.1
        refine ⟨v, vs, rfl, R, _, ds, ρ', s.mt, r.2, e, fun σ' s2 o2 l2 w2 => ?_⟩
        refine q σ' (s.trans s2) (fun j hj => ?_) (l2.trans (List.length_set ..)) (fun b hb => ro_Own (w2 b hb))
        rw [o2 j fun z => hj (List.mem_cons_of_mem _ z)]
        exact List.getElem?_set_ne (fun z => hj (by simp [z]))
      · cases e
theorem asg_len {env : Env} : ∀ {es : List Expr}, es.all isNameE = true → (assignEach es env).length = es.length ∧ (assignEach es env).findIdx? (·.1) = none
  | [], _ => ⟨rfl, rfl⟩
  | e :: es, h => by
    rw [List.all_cons, Bool.and_eq_true] at h
    obtain ⟨h1, h2⟩ := asg_len (env := env) h.2
    have key : assignEach (e :: es) env = (false, assign e env) :: assignEach es env := by
      cases e <;> first | rfl | cases h.1
    rw [key]
    refine ⟨by rw [List.length_cons, List.length_cons, h1], ?_⟩
    rw [List.findIdx?_cons, h2]
    rfl
theorem setAll_len {np : Nat} : ∀ {is : List Nat} {ds : List D} {ρ ρ' : Rho}, setAll np ρ is ds = some ρ' → is.length = ds.length
  | [], [], _, _, _ => rfl
  | i :: is, d :: ds, ρ, ρ', e => by
    unfold setAll at e
    split at e
    · rw [List.length_cons, List.length_cons, setAll_len e]
    · cases e
  | [], _ :: _, _, _, e => by cases e
  | _ :: _, [], _, _, e => by cases e
theorem px_gtp {es : List Expr} {k : Nat} {is : List Nat} (hc : X.calm = true) (h : PGs X es (tGs X.K X.w np is)) (hn : es.all isNameE = true) (hl : es.length = is.length) : PG X (.Tuple es k p) (tG X.K X.w np (.tp is)) := by
  refine PG.imp (pg_tup hc h rfl (asg_len hn).2) fun v σ H Q h => ?_
  obtain ⟨R, ρ, d, ρ', m, r, e, q⟩ := h
  have key : ∃ a xs ds, v = .ref a ∧ SqT X.K H a xs ∧ Reps X.K X.w R H ds xs ∧ setAll np ρ is ds = some ρ' := by
    unfold bindT at e
    split at e
    · rename_i q1; cases q1
    · rename_i is' ds q1
      cases q1
      obtain ⟨a, xs, ea, h1, h2⟩ := r
      exact ⟨a, xs, ds, ea, h1.sq, h2, e⟩
    · rename_i is' ds q1
      cases q1
      obtain ⟨a, xs, ea, h1, h2⟩ := r
      exact ⟨a, xs, ds, ea, h1, h2, e⟩
    · cases e
  obtain ⟨a, xs, ds, ea, h1, h2, e⟩ := key
  exact ⟨a, xs, ea, h1, by rw [(asg_len hn).1, hl, ← h2.length, setAll_len e], R, ρ, ds, ρ', m, h2, e, q⟩
end
end PV

/-! PV, part M: what is walked; list comprehensions. -/
namespace PV
open PySem PySem.Spec PyProof.Rows L2

/-- at every heap from here on the walk J goes over xs -/
def ItOk (K : PySem.W.Frag) (w : World) (J : It) (R : Addr → Prop) (H : Hp) (xs : List D) : Prop :=
  ∀ (R' : Addr → Prop) (H' : Hp), (∀ b, R b → R' b) → (∀ a o, Fz o → H a = some o → H' a = some o) → (∀ a o, R a → H a = some o → H' a = some o) →
    (∀ i, i < xs.length → J.go i H') ∧ (∀ i, xs.length ≤ i → J.stop i H') ∧
      ∀ (i : Nat) (x : V) (H'' : Hp) (d : D), xs[i]? = some d → J.yld i H' x H'' → (H'' = H' ∨ ∃ p o, H' p = none ∧ H'' = upd H' p o) ∧ Rep K w R' H'' d x
def tI (K : PySem.W.Frag) (w : World) (C : Cfg) (it : E) : TI := fun σ H Rr => ∃ R ρ xs ρ', Mt K w R ρ σ H ∧ evi C it ρ = some (xs, ρ') ∧ ∀ J H' R', Step K w σ R ρ H R' ρ' H' → ItOk K w J R' H' xs → Rr J H'

section
variable {K : PySem.W.Frag} {w : World} {R : Addr → Prop} {H : Hp}
theorem itOk_rng {lo : Int} {n : Nat} {xs : List D} (e : xs = (List.range n).map fun (k : Nat) => D.int (lo + k)) : ItOk K w (Itr lo n) R H xs := by
  subst e
  intro R' H' hR hT hK
  refine ⟨fun i h => show i < n by simpa using h, fun i h => show n ≤ i by simpa using h, fun i x H'' d e y => ?_⟩
  obtain ⟨rfl, rfl⟩ := y
  refine ⟨.inl rfl, ?_⟩
  rw [List.getElem?_map] at e
  obtain ⟨k, e1, e2⟩ := Option.map_eq_some_iff.mp e
  obtain ⟨h1, h2⟩ := List.getElem?_eq_some_iff.mp e1
  rw [List.getElem_range] at h2
  subst h2
  subst e2
  exact rfl
/-- an object read alone that is walked: what kind it is -/
theorem sqL_keep {R' : Addr → Prop} {H' : Hp} {a : Addr} {xs : List V} (hT : ∀ a o, Fz o → H a = some o → H' a = some o) (hK : ∀ a o, R a → H a = some o → H' a = some o) (h : (R a ∧ H a = some (.lst xs)) ∨ SqF K H a xs) : SqL K H' a xs := by
  rcases h with ⟨r, h⟩ | h
  · exact SqL.of (hK a _ r h)
  · exact (sqF_keep hT h).sq
theorem itOk_lst {a : Addr} {xs : List D} {vs : List V} (h : (R a ∧ H a = some (.lst vs)) ∨ SqF K H a vs) (r : Reps K w R H xs vs) : ItOk K w (Itl K a) R H xs := by
  intro R' H' hR hT hK
  have hq := sqL_keep (R' := R') hT hK h
  have hl := r.length
  refine ⟨fun i z => ⟨vs, vs[i]'(by omega), hq, List.getElem?_eq_getElem _⟩, fun i z => ⟨vs, hq, by omega⟩, fun i x H'' d e y => ?_⟩
  obtain ⟨rfl, y⟩ := y
  obtain ⟨v, e1, e2⟩ := r.get e
  have := y vs hq
  rw [e1] at this
  cases this
  exact ⟨.inl rfl, Rep.keep hR hT hK d x e2⟩
theorem itOk_tup {a : Addr} {xs : List D} {vs : List V} (h : TupOk K H a vs) (r : Reps K w R H xs vs) : ItOk K w (Itt K a) R H xs := by
  intro R' H' hR hT hK
  have hq := (tupOk_keep hT h).sq
  have hl := r.length
  refine ⟨fun i z => ⟨vs, vs[i]'(by omega), hq, List.getElem?_eq_getElem _⟩, fun i z => ⟨vs, hq, by omega⟩, fun i x H'' d e y => ?_⟩
  obtain ⟨rfl, y⟩ := y
  obtain ⟨v, e1, e2⟩ := r.get e
  have := y vs hq
  rw [e1] at this
  cases this
  exact ⟨.inl rfl, Rep.keep hR hT hK d x e2⟩
theorem enumD_get : ∀ {xs : List D} {n i : Nat} {d : D}, (enumD n xs)[i]? = some d → ∃ e, xs[i]? = some e ∧ d = .rtp [.int ((n + i : Nat) : Int), e]
  | [], _, _, _, e => by simp [enumD] at e
  | x :: xs, n, 0, d, e => by
    have e : some (D.rtp [.int n, x]) = some d := e
    cases e
    exact ⟨x, rfl, rfl⟩
  | x :: xs, n, i + 1, d, e => by
    obtain ⟨y, h1, h2⟩ := enumD_get (xs := xs) (n := n + 1) (i := i) e
    exact ⟨y, h1, by rw [h2]; congr 4; omega⟩
theorem enumD_len : ∀ {xs : List D} {n : Nat}, (enumD n xs).length = xs.length
  | [], _ => rfl
  | x :: xs, n => by show (enumD (n + 1) xs).length + 1 = _; rw [enumD_len]; rfl
theorem zipD_get : ∀ {xs ys : List D} {i : Nat} {d : D}, (zipD xs ys)[i]? = some d → ∃ e f, xs[i]? = some e ∧ ys[i]? = some f ∧ d = .rtp [e, f]
  | [], _, _, _, e => by simp [zipD] at e
  | _ :: _, [], _, _, e => by simp [zipD] at e
  | x :: xs, y :: ys, 0, d, e => by
    have e : some (D.rtp [x, y]) = some d := e
    cases e
    exact ⟨x, y, rfl, rfl, rfl⟩
  | x :: xs, y :: ys, i + 1, d, e => by
    obtain ⟨z, u, h1, h2, h3⟩ := zipD_get (xs := xs) (ys := ys) (i := i) e
    exact ⟨z, u, h1, h2, h3⟩
theorem zipD_len : ∀ {xs ys : List D}, (zipD xs ys).length = min xs.length ys.length
  | [], ys => by simp [zipD]
  | _ :: _, [] => by simp [zipD]
  | x :: xs, y :: ys => by show (zipD xs ys).length + 1 = _; rw [zipD_len]; simp only [List.length_cons]; omega
/-- a pair that is laid -/
theorem pair_rep {R' : Addr → Prop} {H' : Hp} {T : Addr} {x y : V} {d e : D} (n : H' T = none) (h1 : Rep K w R' H' d x) (h2 : Rep K w R' H' e y) : Rep K w R' (upd H' T (.tup [x, y])) (.rtp [d, e]) (.ref T) := by
  have kp : ∀ {a : Addr} {o : HO}, H' a = some o → (upd H' T (.tup [x, y])) a = some o := fun {a o} q => (upd_ne (ne_of_none q n)).trans q
  exact ⟨T, [x, y], rfl, .inl (.inl upd_same), Rep.keep (fun _ z => z) (fun _ _ _ q => kp q) (fun _ _ _ q => kp q) d x h1, Rep.keep (fun _ z => z) (fun _ _ _ q => kp q) (fun _ _ _ q => kp q) e y h2, trivial⟩
theorem itOk_enl {a : Addr} {xs : List D} {vs : List V} (h : (R a ∧ H a = some (.lst vs)) ∨ SqF K H a vs) (r : Reps K w R H xs vs) : ItOk K w (Ite K a) R H (enumD 0 xs) := by
  intro R' H' hR hT hK
  have hq := sqL_keep (R' := R') hT hK h
  have hl := r.length
  have hl2 : (enumD 0 xs).length = xs.length := enumD_len
  refine ⟨fun i z => ⟨vs, vs[i]'(by omega), hq, List.getElem?_eq_getElem _⟩, fun i z => ⟨vs, hq, by omega⟩, fun i x H'' d e y => ?_⟩
  obtain ⟨T, u, rfl, n, rfl, y⟩ := y
  obtain ⟨d2, e2, rfl⟩ := enumD_get e
  obtain ⟨v, e1, e3⟩ := r.get e2
  have := y vs hq
  rw [e1] at this
  cases this
  refine ⟨.inr ⟨T, _, n, rfl⟩, ?_⟩
  rw [Nat.zero_add]
  exact pair_rep n rfl (Rep.keep hR hT hK d2 u e3)
theorem itOk_ent {a : Addr} {xs : List D} {vs : List V} (h : TupOk K H a vs) (r : Reps K w R H xs vs) : ItOk K w (PVE.IteT K a) R H (enumD 0 xs) := by
  intro R' H' hR hT hK
  have hq := (tupOk_keep hT h).sq
  have hl := r.length
  have hl2 : (enumD 0 xs).length = xs.length := enumD_len
  refine ⟨fun i z => ⟨vs, vs[i]'(by omega), hq, List.getElem?_eq_getElem _⟩, fun i z => ⟨vs, hq, by omega⟩, fun i x H'' d e y => ?_⟩
  obtain ⟨T, u, rfl, n, rfl, y⟩ := y
  obtain ⟨d2, e2, rfl⟩ := enumD_get e
  obtain ⟨v, e1, e3⟩ := r.get e2
  have := y vs hq
  rw [e1] at this
  cases this
  refine ⟨.inr ⟨T, _, n, rfl⟩, ?_⟩
  rw [Nat.zero_add]
  exact pair_rep n rfl (Rep.keep hR hT hK d2 u e3)
theorem itOk_zl {a b : Addr} {xs ys : List D} {vs us : List V} (h : (R a ∧ H a = some (.lst vs)) ∨ SqF K H a vs) (h' : (R b ∧ H b = some (.lst us)) ∨ SqF K H b us) (r : Reps K w R H xs vs) (r' : Reps K w R H ys us) : ItOk K w (Itz K a b) R H (zipD xs ys) := by
  intro R' H' hR hT hK
  have hq := sqL_keep (R' := R') hT hK h
  have hq' := sqL_keep (R' := R') hT hK h'
  have hl := r.length
  have hl' := r'.length
  have hl2 : (zipD xs ys).length = min xs.length ys.length := zipD_len
  refine ⟨fun i z => ⟨vs, us, vs[i]'(by omega), us[i]'(by omega), hq, hq', List.getElem?_eq_getElem _, List.getElem?_eq_getElem _⟩, fun i z => ⟨vs, us, hq, hq', by omega⟩, fun i x H'' d e y => ?_⟩
  obtain ⟨T, u, u', rfl, n, rfl, y, y'⟩ := y
  obtain ⟨d2, d3, e2, e3, rfl⟩ := zipD_get e
  obtain ⟨v, q1, q2⟩ := r.get e2
  obtain ⟨v', q3, q4⟩ := r'.get e3
  have z := y vs hq
  rw [q1] at z
  cases z
  have z := y' us hq'
  rw [q3] at z
  cases z
  exact ⟨.inr ⟨T, _, n, rfl⟩, pair_rep n (Rep.keep hR hT hK d2 u q2) (Rep.keep hR hT hK d3 u' q4)⟩
theorem itOk_zt {a b : Addr} {xs ys : List D} {vs us : List V} (h : TupOk K H a vs) (h' : TupOk K H b us) (r : Reps K w R H xs vs) (r' : Reps K w R H ys us) : ItOk K w (RZ.ItzT K a b) R H (zipD xs ys) := by
  intro R' H' hR hT hK
  have hq := (tupOk_keep hT h).sq
  have hq' := (tupOk_keep hT h').sq
  have hl := r.length
  have hl' := r'.length
  have hl2 : (zipD xs ys).length = min xs.length ys.length := zipD_len
  refine ⟨fun i z => ⟨vs, us, vs[i]'(by omega), us[i]'(by omega), hq, hq', List.getElem?_eq_getElem _, List.getElem?_eq_getElem _⟩, fun i z => ⟨vs, us, hq, hq', by omega⟩, fun i x H'' d e y => ?_⟩
  obtain ⟨T, u, u', rfl, n, rfl, y, y'⟩ := y
  obtain ⟨d2, d3, e2, e3, rfl⟩ := zipD_get e
  obtain ⟨v, q1, q2⟩ := r.get e2
  obtain ⟨v', q3, q4⟩ := r'.get e3
  have z := y vs hq
  rw [q1] at z
  cases z
  have z := y' us hq'
  rw [q3] at z
  cases z
  exact ⟨.inr ⟨T, _, n, rfl⟩, pair_rep n (Rep.keep hR hT hK d2 u q2) (Rep.keep hR hT hK d3 u' q4)⟩
/-- a value that is walked as a list -/
theorem rep_lstF {d : D} {v : V} {xs : List D} (h : Rep K w R H d v) (e : items d = some xs) (n : ∀ ys, d ≠ .tup ys) : ∃ a vs, v = .ref a ∧ ((R a ∧ H a = some (.lst vs)) ∨ SqF K H a vs) ∧ Reps K w R H xs vs := by
  unfold items at e
  split at e
  · exact absurd rfl (n _)
  · cases e
    obtain ⟨a, vs, rfl, r, h1, h2⟩ := h
    exact ⟨a, vs, rfl, .inl ⟨r, h1⟩, h2⟩
  · rename_i ns
    cases e
    obtain ⟨a, rfl, h1⟩ := h
    exact ⟨a, _, rfl, .inr h1, reps_ints ns⟩
  · cases e
theorem sqL_of {a : Addr} {vs : List V} (h : (R a ∧ H a = some (.lst vs)) ∨ SqF K H a vs) : SqL K H a vs := h.elim (fun h => SqL.of h.2) (·.sq)
theorem zipItems_cases {d e : D} {xs : List D} (h : zipItems d e = some xs) : (∃ ys zs, d = .tup ys ∧ e = .tup zs ∧ xs = zipD ys zs) ∨ ((∀ ys, d ≠ .tup ys) ∧ (∀ ys, e ≠ .tup ys) ∧ ∃ ys zs, items d = some ys ∧ items e = some zs ∧ xs = zipD ys zs) := by
  unfold zipItems at h
  split at h
  · cases h; exact .inl ⟨_, _, rfl, rfl, rfl⟩
  · cases h; exact .inr ⟨(fun _ z => by cases z), (fun _ z => by cases z), _, _, rfl, rfl, rfl⟩
  · cases h; exact .inr ⟨(fun _ z => by cases z), (fun _ z => by cases z), _, _, rfl, rfl, rfl⟩
  · cases h; exact .inr ⟨(fun _ z => by cases z), (fun _ z => by cases z), _, _, rfl, rfl, rfl⟩
  · cases h
end

section
variable {X : Cx} {C : Cfg} {a b c e tg : Expr} {ma mb mc : E} {pos p : Pos}
theorem rng_end {es : List E} {σ : St} {H : Hp} {Rr : It → Hp → Prop} (h : tI X.K X.w C (.rng es) σ H Rr) :
    tA X.K X.w C es σ H fun vs H1 => ∃ R1 ds xs, RepTs X.K X.w R1 H1 ds vs ∧ rngD ds = some xs ∧ ∀ J, ItOk X.K X.w J R1 H1 xs → Rr J H1 := by
  obtain ⟨R, ρ, xs, ρ', m, e, q⟩ := h
  obtain ⟨⟨rs, ρ1⟩, e1, e⟩ := Option.bind_eq_some_iff.mp (show (evs C es ρ).bind _ = some (xs, ρ') from e)
  obtain ⟨ds, e2, e⟩ := Option.bind_eq_some_iff.mp e
  obtain ⟨xs', e3, e⟩ := Option.map_eq_some_iff.mp e
  cases e
  exact ⟨R, ρ, rs, ρ', m, e1, fun vs H1 R1 s1 rr1 f1 => ⟨R1, ds, xs, looks_rep s1.mt rr1 e2, e3, fun J it => q J H1 R1 s1 it⟩⟩
theorem px_rng1 (hg : Gl X "range") (hm : X.mg "range" = none) (ha : PE X a (tD X.K X.w C ma)) (hs : isStar a = false) : PI X tg (.Call (.Name "range" p) [a] [] pos) (tI X.K X.w C (.rng [ma])) := by
  refine PI.imp (pi_range1 hg hm (pa_cons ha pa_nil (star_cons hs)) (star_cons hs)) fun σ H Rr h => tD_mono (one_tA (rng_end h)) fun v H1 h => ?_
  obtain ⟨R1, ds, xs, hd, e, q⟩ := h
  match ds, hd with
  | [d], hd =>
    obtain ⟨j, rfl, h0, h1, e2⟩ := rngD_one hd.1 e
    exact ⟨j, rfl, h0, h1, q _ (itOk_rng (by rw [e2]; simp only [Int.zero_add]))⟩
theorem px_rng2 (hg : Gl X "range") (hm : X.mg "range" = none) (ha : PE X a (tD X.K X.w C ma)) (hs : isStar a = false) (hb : PE X b (tD X.K X.w C mb)) (hs2 : isStar b = false) : PI X tg (.Call (.Name "range" p) [a, b] [] pos) (tI X.K X.w C (.rng [ma, mb])) := by
  refine PI.imp (pi_range2 hg hm (pa_cons ha (pa_cons hb pa_nil (star_cons hs2)) (star_cons hs)) (by rw [star_cons hs, star_cons hs2]; rfl) (star_cons hs2)) fun σ H Rr h => tD_mono (two_tA (rng_end h)) fun v H1 h => tD_mono h fun u H2 h => ?_
  obtain ⟨R1, ds, xs, hd, e, q⟩ := h
  match ds, hd with
  | [d, d2], hd =>
    obtain ⟨i, j, rfl, rfl, h0, h1, e2⟩ := rngD_two hd.1 hd.2.1 e
    exact ⟨i, j, rfl, ⟨h0.1, h0.2, h1.1, h1.2⟩, q _ (itOk_rng e2)⟩
theorem px_ovr (ha : PE X a (tD X.K X.w C ma)) : PI X tg a (tI X.K X.w C (.ovr ma)) := by
  refine ⟨fun pins s σ H Rr I h => ?_⟩
  obtain ⟨R, ρ, xs, ρ', m, e, q⟩ := h
  obtain ⟨⟨r, ρ1⟩, e1, e⟩ := Option.bind_eq_some_iff.mp (show (ev C ma ρ).bind _ = some (xs, ρ') from e)
  obtain ⟨⟨d, ρ2⟩, e2, e⟩ := Option.bind_eq_some_iff.mp e
  obtain ⟨xs', e3, e⟩ := Option.map_eq_some_iff.mp e
  cases e
  by_cases hd : ∃ ys, d = .tup ys
  · obtain ⟨ys, rfl⟩ := hd
    cases e3
    refine (pi_tup ha).run pins s σ H Rr I ⟨R, ρ, r, ρ1, m, e1, fun v H1 R1 s1 rr1 f1 => ?_⟩
    obtain ⟨R2, up, s2, rp⟩ := fix_step s1 rr1 f1 e2
    obtain ⟨p, vs, rfl, h1, h2⟩ := rp
    exact ⟨p, rfl, ⟨vs, h1.sq⟩, q _ H1 R2 s2 (itOk_tup h1 h2)⟩
  · refine (pi_list ha).run pins s σ H Rr I ⟨R, ρ, r, ρ1, m, e1, fun v H1 R1 s1 rr1 f1 => ?_⟩
    obtain ⟨R2, up, s2, rp⟩ := fix_step s1 rr1 f1 e2
    obtain ⟨p, vs, rfl, h1, h2⟩ := rep_lstF rp e3 fun ys z => hd ⟨ys, z⟩
    exact ⟨p, rfl, ⟨vs, sqL_of h1⟩, q _ H1 R2 s2 (itOk_lst h1 h2)⟩
theorem px_enm {elts : List Expr} {kk : Nat} {tpos : Pos} (hg : Gl X "enumerate") (hm : X.mg "enumerate" = none) (ha : PE X a (tD X.K X.w C ma)) (hs : isStar a = false) :
    PI X (.Tuple elts kk tpos) (.Call (.Name "enumerate" p) [a] [] pos) (tI X.K X.w C (.enm ma)) := by
  refine ⟨fun pins s σ H Rr I h => ?_⟩
  obtain ⟨R, ρ, xs, ρ', m, e, q⟩ := h
  obtain ⟨⟨r, ρ1⟩, e1, e⟩ := Option.bind_eq_some_iff.mp (show (ev C ma ρ).bind _ = some (xs, ρ') from e)
  obtain ⟨⟨d, ρ2⟩, e2, e⟩ := Option.bind_eq_some_iff.mp e
  obtain ⟨ys, e3, e⟩ := Option.map_eq_some_iff.mp e
  cases e
  by_cases hd : ∃ ys, d = .tup ys
  · obtain ⟨zs, rfl⟩ := hd
    cases e3
    refine Call_ (ld_blt I hg hm boot_enumerate (PyProof.Rows.callWith_type1 (thn ((pa_cons ha pa_nil (star_cons hs)).run pos pins s σ H (fun vs H1 => ∃ a us, vs = [.ref a] ∧ TupOk X.K H1 a us ∧ Rr (PVE.IteT X.K a) H1) I ?_) fun us s1 ⟨vs, H1, I1, r1, q1⟩ => ?_) (star_cons hs) rfl))
    · refine ⟨R, ρ, r, ρ1, m, e1, fun v H1 R1 s1 rr1 f1 => ?_⟩
      obtain ⟨R2, up, s2, rp⟩ := fix_step s1 rr1 f1 e2
      obtain ⟨p, vs, rfl, h1, h2⟩ := rp
      exact ⟨p, vs, rfl, h1, q _ H1 R2 s2 (itOk_ent h1 h2)⟩
    · obtain ⟨a, xs, ex, hq, q⟩ := q1
      subst ex
      cases r1 with
      | cons r rr =>
        cases rr
        cases r
        obtain ⟨its, rv, p', hz⟩ := I1.tuple hq.sq
        refine PVE.call_enum (begins_tuple a its.toArray) p' fun h' he hit hk => wpAny_pyIter_enum he ?_
        have I2 : Inv X pins σ H1 { s1 with heap := h' } := I1.kept (t' := s1.toks) hk
        refine ⟨s1.heap.objs.size + 1, [s1.heap.objs.size + 1, s1.heap.objs.size], _, _, H1, rfl, I2, PVE.turn_enumT a (s1.heap.objs.size + 1) s1.heap.objs.size, ⟨⟨.none, he⟩, ⟨_, hit, rfl, rfl⟩, Nat.succ_ne_self _⟩, fun b hb => ?_, q⟩
        have hle : s1.heap.objs.size ≤ b := by
          rcases List.mem_cons.mp hb with z | z
          · rw [z]; exact Nat.le_add_right _ _
          · rw [List.mem_singleton.mp z]; exact Nat.le_refl _
        exact I1.fpOk hle (I1.hok.fresh hle)
  · refine (pi_enum hg hm (pa_cons ha pa_nil (star_cons hs)) (star_cons hs)).run pins s σ H Rr I ⟨R, ρ, r, ρ1, m, e1, fun v H1 R1 s1 rr1 f1 => ?_⟩
    obtain ⟨R2, up, s2, rp⟩ := fix_step s1 rr1 f1 e2
    obtain ⟨p, vs, rfl, h1, h2⟩ := rep_lstF rp e3 fun ys z => hd ⟨ys, z⟩
    exact ⟨p, vs, rfl, sqL_of h1, q _ H1 R2 s2 (itOk_enl h1 h2)⟩
theorem px_zip {elts : List Expr} {kk : Nat} {tpos : Pos} (hg : Gl X "zip") (hm : X.mg "zip" = none) (ha : PE X a (tD X.K X.w C ma)) (hs : isStar a = false) (hb : PE X b (tD X.K X.w C mb)) (hs2 : isStar b = false) :
    PI X (.Tuple elts kk tpos) (.Call (.Name "zip" p) [a, b] [] pos) (tI X.K X.w C (.zip ma mb)) := by
  refine PI.imp (RZ.pi_zipA hg hm (pa_cons ha (pa_cons hb pa_nil (star_cons hs2)) (star_cons hs)) (star_cons hs) (star_plain (by simp [hs2]))) fun σ H Rr h => ?_
  obtain ⟨R, ρ, xs, ρ', m, e, q⟩ := h
  obtain ⟨⟨r, ρ1⟩, e1, e⟩ := Option.bind_eq_some_iff.mp (show (ev C ma ρ).bind _ = some (xs, ρ') from e)
  obtain ⟨⟨d, ρ2⟩, e2, e⟩ := Option.bind_eq_some_iff.mp e
  obtain ⟨⟨r2, ρ3⟩, e3, e⟩ := Option.bind_eq_some_iff.mp e
  obtain ⟨⟨d2, ρ4⟩, e4, e⟩ := Option.bind_eq_some_iff.mp e
  obtain ⟨ys, e5, e⟩ := Option.map_eq_some_iff.mp e
  cases e
  refine ⟨R, ρ, r, ρ1, m, e1, fun v H1 R1 s1 rr1 f1 => ?_⟩
  obtain ⟨R2, up, s2, rp⟩ := fix_step s1 rr1 f1 e2
  refine ⟨R2, ρ2, r2, ρ3, s2.mt, e3, fun v2 H3 R3 s3 rr3 f3 => ?_⟩
  obtain ⟨R4, up4, s4, rp4⟩ := fix_step s3 rr3 f3 e4
  have rp2 := s4.rep s2.mt rp
  rcases zipItems_cases e5 with ⟨ys, zs, rfl, rfl, rfl⟩ | ⟨n1, n2, ys, zs, i1, i2, rfl⟩
  · obtain ⟨p, vs, rfl, h1, h2⟩ := rp2
    obtain ⟨p', us, rfl, h1', h2'⟩ := rp4
    exact ⟨p, p', vs, us, rfl, .inr ⟨h1.sq, h1'.sq, q _ H3 R4 (s2.trans s4) (itOk_zt h1 h1' h2 h2')⟩⟩
  · obtain ⟨p, vs, rfl, h1, h2⟩ := rep_lstF rp2 i1 n1
    obtain ⟨p', us, rfl, h1', h2'⟩ := rep_lstF rp4 i2 n2
    exact ⟨p, p', vs, us, rfl, .inl ⟨sqL_of h1, sqL_of h1', q _ H3 R4 (s2.trans s4) (itOk_zl h1 h1' h2 h2')⟩⟩
end
end PV

/-! PV, part N: list comprehensions. -/
namespace PV
open PySem PySem.Spec PyProof.Rows L2

section
variable {K : PySem.W.Frag} {w : World} {C : Cfg} {np : Nat} {R R' R0 R1 R2 : Addr → Prop} {ρ ρ' ρ0 ρ1 ρ2 ρ3 : Rho} {σ σ' σ0 σ1 σ2 : St} {H H' H0 H1 H2 : Hp}
/-- the list that grows, at D: nobody's own -/
structure Gr (K : PySem.W.Frag) (w : World) (R : Addr → Prop) (ρ : Rho) (σ : St) (H : Hp) (D : Addr) (acc : List PV.D) : Prop where
  nR : ¬ R D
  nO : ¬ Own ρ σ D
  it : ∃ vs, H D = some (.lst vs) ∧ Reps K w R H acc vs
theorem Gr.step {np : Nat} {D : Addr} {acc : List PV.D} (m : Mt K w R ρ σ H) (g : Gr K w R ρ σ H D acc) (s : SS K w np σ R ρ H σ' R' ρ' H') : Gr K w R' ρ' σ' H' D acc := by
  obtain ⟨n1, n2, vs, h, r⟩ := g
  refine ⟨fun z => ?_, fun z => ?_, vs, s.fr D _ h n2, s.reps m r⟩
  · rcases s.bd D z with z | z | z
    · exact n1 z
    · rw [h] at z; cases z
    · exact n2 z
  · rcases s.mo D z with z | z
    · exact n2 z
    · rw [h] at z; cases z
theorem SS.lay (s : SS K w np σ R ρ H σ1 R1 ρ1 H1) {p : Addr} {o : HO} (n : H1 p = none) : SS K w np σ R ρ H σ1 R1 ρ1 (upd H1 p o) := by
  refine s.poke ?_ (fun u e => by rw [n] at e; cases e) (fun z => s.mt.trk p z n) fun z => ?_
  · cases e : H p with
    | none => rfl
    | some o => exact absurd n (s.nw p (by rw [e]; simp))
  · obtain ⟨d, _, t⟩ := s.mt.ownTop z
    obtain ⟨o, e, _⟩ := t.there
    rw [n] at e; cases e
theorem SS.yld (m : Mt K w R ρ σ H) (h : H' = H ∨ ∃ p o, H p = none ∧ H' = upd H p o) : SS K w np σ R ρ H σ R ρ H' := by
  rcases h with rfl | ⟨p, o, n, rfl⟩
  · exact SS.refl m
  · exact (SS.refl m).lay n
/-- one turn's way -/
def lcF (C : Cfg) (elt : E) (t : Tg) (c : Option E) : D → Rho → Option (List D × Rho) := fun x ρ => (bindT 0 ρ t x).bind fun ρ2 => (tso C c ρ2).bind fun (b, ρ3) =>
  if b then (ev C elt ρ3).bind fun (r, ρ4) => (fix ρ4 r).map fun (d, ρ5) => ([d], unset ρ5 t.slots) else some ([], unset ρ3 t.slots)
theorem lc_turn {elt : E} {t : Tg} {c : Option E} {D : Addr} {acc ds : List PV.D} {d : PV.D} {x : V} {Nx : Hp → Prop} (s : SS K w 0 σ0 R0 ρ0 H0 (wipe σ t.slots) R ρ H) (g : Gr K w R ρ (wipe σ t.slots) H D acc) (hD : H0 D = none) (hl : acc.length < most)
    (r : Rep K w R H d x) (e : lcF C elt t c d ρ = some (ds, ρ'))
    (q : ∀ R' H', SS K w 0 σ0 R0 ρ0 H0 (wipe σ t.slots) R' ρ' H' → Gr K w R' ρ' (wipe σ t.slots) H' D (acc ++ ds) → ds.length ≤ 1 → Nx H') :
    tG K w 0 t x (wipe σ t.slots) H fun σ2 H2 => wipe σ2 t.slots = wipe σ t.slots ∧ tTo K w C c σ2 H2 fun b H3 => if b = true then tD K w C elt σ2 H3 fun y H4 => ∃ acc, H4 D = some (.lst acc) ∧ acc.length < sizeLine ∧ Nx (upd H4 D (.lst (acc ++ [y]))) else Nx H3 := by
  obtain ⟨ρ2, e1, e⟩ := Option.bind_eq_some_iff.mp e
  obtain ⟨⟨b, ρ3⟩, e2, e⟩ := Option.bind_eq_some_iff.mp e
  refine ⟨R, ρ, d, ρ2, s.mt, r, e1, fun σ2 s2 o2 l2 w2 => ?_⟩
  have hw : wipe σ2 t.slots = wipe σ t.slots := (wipe_eq l2 o2).trans (wipe_eq (wipe_length ..) fun i hi => wipe_out hi)
  refine ⟨hw, R, ρ2, b, ρ3, s2.mt, e2, fun H3 R3 s3 => ?_⟩
  have s03 := (s.trans s2).trans s3
  have g3 := (g.step s.mt s2).step s2.mt s3
  -- the end of a turn
  have fin : ∀ {R4 : Addr → Prop} {ρ4 : Rho} {H4 : Hp} {dd : List PV.D}, SS K w 0 σ0 R0 ρ0 H0 σ2 R4 ρ4 H4 → Gr K w R4 ρ4 σ2 H4 D (acc ++ dd) → some (dd, unset ρ4 t.slots) = some (ds, ρ') → dd.length ≤ 1 → Nx H4 := fun {R4 ρ4 H4 dd} s4 g4 z zl => by
    cases z
    have s5 := s4.wipe t.slots
    rw [hw] at s5
    refine q R4 H4 s5 ⟨g4.nR, fun z => g4.nO ?_, g4.it⟩ zl
    rw [← hw] at z
    obtain ⟨i, d', _, h1, h2⟩ := unset_Own z
    exact ⟨i, d', h1, h2⟩
  cases b with
  | false =>
    show Nx H3
    refine fin s03 (dd := []) ?_ e (Nat.zero_le _)
    rw [List.append_nil]
    exact g3
  | true =>
    show tD K w C elt σ2 H3 _
    obtain ⟨⟨r4, ρ4⟩, e4, e⟩ := Option.bind_eq_some_iff.mp e
    obtain ⟨⟨d5, ρ5⟩, e5, e⟩ := Option.map_eq_some_iff.mp e
    refine ⟨R3, ρ3, r4, ρ4, s3.mt, e4, fun y H4 R4 s4 rr4 f4 => ?_⟩
    obtain ⟨R5, up5, s5, rp5⟩ := fix_step s4 rr4 f4 e5
    have g5 := g3.step s3.mt s5
    obtain ⟨vs, hv, rv⟩ := g5.it
    refine ⟨vs, hv, by rw [← rv.length]; exact Nat.lt_of_lt_of_le hl (most_line (Nat.le_refl _)), ?_⟩
    have hT : ∀ b u, Fz u → H4 b = some u → (upd H4 D (.lst (vs ++ [y]))) b = some u := fun b u z e => (upd_ne fun e' => by
      rw [e', hv] at e
      cases e
      rcases z with ⟨xs, z⟩ | ⟨ob, u', z⟩ <;> cases z).trans e
    have s6 := (s03.trans s5).poke (p := D) (o := .lst (vs ++ [y])) hD (fun u e z => by
      rw [hv] at e
      cases e
      rcases z with ⟨xs, z⟩ | ⟨ob, u', z⟩ <;> cases z) g5.nR g5.nO
    have hK : ∀ b u, R5 b → H4 b = some u → (upd H4 D (.lst (vs ++ [y]))) b = some u := fun b u z e => (upd_ne fun e' => g5.nR (by rw [← e']; exact z)).trans e
    exact fin (dd := [d5]) s6 ⟨g5.nR, g5.nO, vs ++ [y], upd_same, (Reps.keep (fun _ z => z) hT hK _ _ rv).append ⟨Rep.keep (fun _ z => z) hT hK _ _ rp5, trivial⟩⟩ (congrArg some e) (Nat.le_refl _)
theorem drop_get {α : Type} {xs : List α} {i : Nat} (h : i < xs.length) : xs.drop i = xs[i] :: xs.drop (i + 1) := by rw [List.drop_eq_getElem_cons h]
end

section
variable {X : Cx} {C : Cfg} {a b c e tg iter elt : Expr} {ma mb mc mit melt : E} {pos p : Pos}
/-- the reading of a comprehension -/
theorem lc_end {t : Tg} {mc : Option E} {σ : St} {H : Hp} {Q : VK} (h : tD X.K X.w C (.lc melt t mit mc) σ H Q) :
    tLc (tI X.K X.w C mit) (tG X.K X.w 0 t) (tTo X.K X.w C mc) (tD X.K X.w C melt) t.slots σ H Q := by
  obtain ⟨R, ρ, r, ρ', m, e, q⟩ := h
  obtain ⟨⟨xs, ρ1⟩, e1, e⟩ := Option.bind_eq_some_iff.mp (show (evi C mit ρ).bind _ = some (r, ρ') from e)
  dsimp only at e
  split at e
  · rename_i hz
    obtain ⟨⟨ds, ρ6⟩, e2, e⟩ := Option.map_eq_some_iff.mp e
    cases e
    have e2 : lcLoop (lcF C melt t mc) xs (unset ρ1 t.slots) = some (ds, ρ6) := e2
    refine ⟨R, ρ, xs, ρ1, m, e1, fun J H1 R1 s1 it D hD => ?_⟩
    have b0 : SS X.K X.w 0 (wipe σ t.slots) R1 (unset ρ1 t.slots) H1 (wipe σ t.slots) R1 (unset ρ1 t.slots) H1 := SS.refl ((SS.refl s1.mt).wipe t.slots).mt
    refine ⟨fun i k H2 => k = xs.length - i ∧ i ≤ xs.length ∧ ∃ R2 ρ2 acc es, SS X.K X.w 0 (wipe σ t.slots) R1 (unset ρ1 t.slots) H1 (wipe σ t.slots) R2 ρ2 H2 ∧ Gr X.K X.w R2 ρ2 (wipe σ t.slots) H2 D acc ∧ acc.length ≤ i ∧
      lcLoop (lcF C melt t mc) (xs.drop i) ρ2 = some (es, ρ6) ∧ ds = acc ++ es, ⟨xs.length, rfl, Nat.zero_le _, R1, unset ρ1 t.slots, [], ds, b0.lay hD, ?_, Nat.le_refl _, e2, rfl⟩, fun i k H2 hW => ?_⟩
    · refine ⟨fun z => s1.mt.trk D z hD, fun z => ?_, [], upd_same, trivial⟩
      obtain ⟨d, _, tp⟩ := b0.mt.ownTop z
      obtain ⟨o, eo, _⟩ := tp.there
      rw [hD] at eo; cases eo
    · obtain ⟨hk, hi, R2, ρ2, acc, es, s2, g2, hl, el, ed⟩ := hW
      obtain ⟨go, stop, yl⟩ := it R2 H2 s2.up (b0.mt.keepT s2.fr) (b0.mt.keepK s2.fr)
      by_cases hi2 : i < xs.length
      · refine .inr ⟨go i hi2, fun H' => (xs.length - (i + 1)) = xs.length - (i + 1) ∧ i + 1 ≤ xs.length ∧ ∃ R2 ρ2 acc es, SS X.K X.w 0 (wipe σ t.slots) R1 (unset ρ1 t.slots) H1 (wipe σ t.slots) R2 ρ2 H' ∧ Gr X.K X.w R2 ρ2 (wipe σ t.slots) H' D acc ∧ acc.length ≤ i + 1 ∧
          lcLoop (lcF C melt t mc) (xs.drop (i + 1)) ρ2 = some (es, ρ6) ∧ ds = acc ++ es, fun H' h => ⟨xs.length - (i + 1), by omega, h⟩, fun x H' y => ?_⟩
        obtain ⟨hy, rx⟩ := yl i x H' _ (List.getElem?_eq_getElem hi2) y
        rw [drop_get hi2] at el
        obtain ⟨⟨d1, ρ3⟩, e3, el⟩ := Option.bind_eq_some_iff.mp (show (lcF C melt t mc xs[i] ρ2).bind _ = some (es, ρ6) from el)
        obtain ⟨⟨es2, ρ7⟩, e4, el⟩ := Option.map_eq_some_iff.mp el
        cases el
        have s3 : SS X.K X.w 0 (wipe σ t.slots) R2 ρ2 H2 (wipe σ t.slots) R2 ρ2 H' := SS.yld s2.mt hy
        refine lc_turn (s2.trans s3) (g2.step s2.mt s3) hD (by omega) rx e3 fun R4 H4 s4 g4 z => ⟨rfl, hi2, R4, ρ3, acc ++ d1, es2, s4, g4, by rw [List.length_append]; omega, e4, by rw [ed, List.append_assoc]⟩
      · refine .inl ⟨stop i (by omega), ?_⟩
        rw [List.drop_eq_nil_of_le (by omega)] at el
        cases el
        rw [List.append_nil] at ed
        subst ed
        have str : ∀ b, Own ρ6 (wipe σ t.slots) b → Own ρ1 σ b ∨ H1 b = none := fun b hb => by
          rcases s2.mo b hb with z | z
          · obtain ⟨j, d, _, h1, h2⟩ := unset_Own z
            exact .inl ⟨j, d, h1, h2⟩
          · exact .inr z
        have s5 := SS.back s1.mt s2 str
        have nH : H D = none := by
          cases q : H D with
          | none => rfl
          | some o => exact absurd hD (s1.nw D (by rw [q]; simp))
        obtain ⟨vs, hv, rv⟩ := g2.it
        refine q (.ref D) H2 R2 (s1.trans s5) ⟨D, rfl, g2.nR, fun z => ?_, vs, hv, rv⟩ (fun a ea => by cases ea; exact nH)
        obtain ⟨j, d, h1, h2⟩ := z
        have hl6 : ρ6.length = ρ1.length := by rw [s2.mt.len, wipe_length, s1.mt.len]
        rw [(restore_get hl6 (vs := t.slots) (i := j)).2] at h1
        split at h1
        · obtain ⟨d', _, tp⟩ := s1.mt.ownTop ⟨j, d, h1, h2⟩
          obtain ⟨o, eo, _⟩ := tp.there
          rw [hD] at eo; cases eo
        · rename_i nj
          exact g2.nO ⟨j, d, h1, by rw [wipe_out nj]; exact h2⟩
  · cases e
theorem px_lc {t : Tg} {mc : Option E} {ifs : List Expr} {scope : Scope} {own : List (Str × Nat)} (hc : X.calm = true) (hN : X.N.Nodup) (hi : PI X tg iter (tI X.K X.w C mit)) (ok : BlkOk X.N X.env.scope scope own) (ho : own.map (·.2) = t.slots)
    (hg : ∀ (s : Shared) (H : Hp) (C : Addr) (cl : List (Str × Addr)) (fp : List Addr), PG (X.blk s H scope (compEnvC scope cl C X.env) fp) tg (tG X.K X.w 0 t))
    (ht : ∀ (s : Shared) (H : Hp) (C' : Addr) (cl : List (Str × Addr)) (fp : List Addr), PTs (X.blk s H scope (compEnvC scope cl C' X.env) fp) ifs (tTo X.K X.w C mc))
    (he : ∀ (s : Shared) (H : Hp) (C' : Addr) (cl : List (Str × Addr)) (fp : List Addr), PE (X.blk s H scope (compEnvC scope cl C' X.env) fp) elt (tD X.K X.w C melt)) (hs : ∀ x, foldedSetIterable iter X.env x = pure x) :
    PE X (.ListComp elt [⟨tg, iter, ifs, 0⟩] scope pos) (tD X.K X.w C (.lc melt t mit mc)) := by
  refine PE.imp (pe_lc hc hN hi ok hg ht he hs) fun σ H Q h => ?_
  rw [ho]
  exact lc_end h
end
end PV

/-! PV, part O: statements. -/
namespace PV
open PySem PySem.Spec PyProof.Rows L2

/-- what is reached -/
def out (K : PySem.W.Frag) (w : World) (D : Ends) (H0 : Hp) (R : Addr → Prop) (ρ : Rho) (σ : St) (H : Hp) : O → Prop
  | .nx => D.nx σ H
  | .brk => D.bk σ H
  | .cnt => D.ct σ H
  | .ret r => ∀ v, RR K w R ρ σ H v r → FrN H0 v r → D.rt v H
def tS (K : PySem.W.Frag) (w : World) (C : Cfg) (np : Nat) (s : S) : TS := fun D σ H => ∃ R ρ o ρ', Mt K w R ρ σ H ∧ exec C np s ρ = some (o, ρ') ∧ ∀ σ' H' R', SS K w np σ R ρ H σ' R' ρ' H' → out K w D H R' ρ' σ' H' o
def tSs (K : PySem.W.Frag) (w : World) (C : Cfg) (np : Nat) (ss : List S) : TS := fun D σ H => ∃ R ρ o ρ', Mt K w R ρ σ H ∧ PV.execs C np ss ρ = some (o, ρ') ∧ ∀ σ' H' R', SS K w np σ R ρ H σ' R' ρ' H' → out K w D H R' ρ' σ' H' o

section
variable {K : PySem.W.Frag} {w : World} {C : Cfg} {np : Nat} {R R' R0 R1 R2 : Addr → Prop} {ρ ρ' ρ0 ρ1 ρ2 ρ3 : Rho} {σ σ' σ0 σ1 σ2 : St} {H H' H0 H1 H2 : Hp}
theorem out_back {D : Ends} {o : O} (nw : ∀ b, H b ≠ none → H0 b ≠ none) (h : out K w D H R ρ σ H' o) : out K w D H0 R ρ σ H' o := by
  cases o with
  | ret r => exact fun v rr f => h v rr (FrN.back nw f)
  | _ => exact h
theorem SS.store (s : SS K w np σ R ρ H σ1 R1 ρ1 H1) {i : Nat} {r : Rs} {v : V} (rr : RR K w R1 ρ1 σ1 H1 v r) (f : FrN H v r) (e : store np ρ1 i r = some ρ2) : ∃ R2, SS K w np σ R ρ H (σ1.set i (some v)) R2 ρ2 H1 := by
  unfold PV.store at e
  split at e
  · rename_i hz
    cases r with
    | fr d =>
      cases e
      obtain ⟨a, rfl, n1, n2, t⟩ := rr
      exact ⟨R1, s.put_own hz.2 hz.1 n1 n2 t (f a rfl)⟩
    | val d =>
      cases e
      exact ⟨R1, s.put_ro hz.2 hz.1 rr⟩
    | al j =>
      obtain ⟨⟨d, ρ3⟩, e1, e2⟩ := Option.map_eq_some_iff.mp (show (PV.fix ρ1 (.al j)).map _ = some ρ2 from e)
      cases e2
      obtain ⟨R2, up, s2, rp⟩ := SS.fix s rr f e1
      have hl : ρ3.length = ρ1.length := by rw [s2.mt.len, s.mt.len]
      exact ⟨R2, s2.put_ro (by rw [hl]; exact hz.2) hz.1 rp⟩
  · cases e

/-! ### several names at once -/
def setV (σ : St) : List Nat → List V → St
  | i :: is, v :: vs => setV (σ.set i (some v)) is vs
  | _, _ => σ
def noAl : List Rs → Prop
  | [] => True
  | .al _ :: _ => False
  | _ :: rs => noAl rs
theorem SS.storeAll : ∀ {is : List Nat} {vs : List V} {rs : List Rs} {σ1 : St} {ρ1 : Rho}, SS K w np σ R ρ H σ1 R1 ρ1 H1 → RRs K w R1 ρ1 σ1 H1 vs rs → FrNs H vs rs → noAl rs → PV.storeAll np ρ1 is rs = some ρ2 →
    SS K w np σ R ρ H (setV σ1 is vs) R1 ρ2 H1
  | [], [], [], σ1, ρ1, s, rr, f, n, e => by
    cases e
    exact s
  | i :: is, v :: vs, r :: rs, σ1, ρ1, s, rr, f, n, e => by
    obtain ⟨ρ3, e1, e2⟩ := Option.bind_eq_some_iff.mp (show (PV.store np ρ1 i r).bind _ = some ρ2 from e)
    cases r with
    | al j => exact n.elim
    | val d =>
      unfold PV.store at e1
      split at e1
      · rename_i hz
        cases e1
        have s2 := s.put_ro hz.2 hz.1 rr.1
        refine SS.storeAll (is := is) (vs := vs) (rs := rs) s2 ?_ f.2.1 n e2
        exact rrs_set rr.2 (fun a q z => q (ro_Own z)) n
      · cases e1
    | fr d =>
      unfold PV.store at e1
      split at e1
      · rename_i hz
        cases e1
        obtain ⟨a, rfl, n1, n2, t⟩ := rr.1
        have s2 := s.put_own hz.2 hz.1 n1 n2 t (f.1 a rfl)
        refine SS.storeAll (is := is) (vs := vs) (rs := rs) s2 ?_ f.2.1 n e2
        refine rrs_own rr.2 (fun k d' h h' => f.2.2 d rfl k d' h h') (by have := s.mt.len; omega) n
      · cases e1
  | [], _ :: _, [], _, _, _, rr, _, _, _ => rr.elim
  | [], _, _ :: _, _, _, _, _, _, _, e => by cases e
  | _ :: _, [], _ :: _, _, _, _, rr, _, _, _ => rr.elim
  | _ :: _, _, [], _, _, _, _, _, _, e => by cases e
where
  rrs_set {R1 : Addr → Prop} {ρ1 ρ3 : Rho} {σ1 σ3 : St} {H1 : Hp} : ∀ {vs : List V} {rs : List Rs}, RRs K w R1 ρ1 σ1 H1 vs rs → (∀ a, ¬ Own ρ1 σ1 a → ¬ Own ρ3 σ3 a) → noAl rs → RRs K w R1 ρ3 σ3 H1 vs rs
    | [], [], _, _, _ => trivial
    | v :: vs, .val d :: rs, h, k, n => ⟨h.1, rrs_set (vs := vs) (rs := rs) h.2 k n⟩
    | v :: vs, .fr d :: rs, h, k, n => ⟨let ⟨a, e, n1, n2, t⟩ := h.1; ⟨a, e, n1, k a n2, t⟩, rrs_set (vs := vs) (rs := rs) h.2 k n⟩
    | v :: vs, .al _ :: rs, _, _, n => n.elim
    | [], _ :: _, h, _, _ => h.elim
    | _ :: _, [], h, _, _ => h.elim
  rrs_own {R1 : Addr → Prop} {ρ1 : Rho} {σ1 : St} {H1 : Hp} {i : Nat} {a : Addr} {d : D} : ∀ {vs : List V} {rs : List Rs}, RRs K w R1 ρ1 σ1 H1 vs rs → (∀ (k : Nat) (d' : D), rs[k]? = some (Rs.fr d') → vs[k]? ≠ some (V.ref a)) → i < σ1.length → noAl rs →
      RRs K w R1 (ρ1.set i (.own d)) (σ1.set i (some (.ref a))) H1 vs rs
    | [], [], _, _, _, _ => trivial
    | v :: vs, .val d :: rs, h, k, l, n => ⟨h.1, rrs_own (vs := vs) (rs := rs) h.2 (fun j d' q => k (j + 1) d' q) l n⟩
    | v :: vs, .fr e :: rs, h, k, l, n => by
      refine ⟨?_, rrs_own (vs := vs) (rs := rs) h.2 (fun j d' q => k (j + 1) d' q) l n⟩
      obtain ⟨b, rfl, n1, n2, t⟩ := h.1
      refine ⟨b, rfl, n1, fun z => ?_, t⟩
      obtain ⟨j, f, e1, e2⟩ := z
      by_cases q : i = j
      · subst q
        rw [List.getElem?_set_self l] at e2
        cases e2
        exact k 0 e rfl rfl
      · rw [List.getElem?_set_ne q] at e1 e2
        exact n2 ⟨j, f, e1, e2⟩
    | v :: vs, .al _ :: rs, _, _, _, n => n.elim
    | [], _ :: _, h, _, _, _ => h.elim
    | _ :: _, [], h, _, _, _ => h.elim
theorem fixAll_get : ∀ {rs ts : List Rs} {ρ ρ2 : Rho}, fixAll ρ rs = some (ts, ρ2) → noAl ts ∧ ∀ (i : Nat) (d : D), ts[i]? = some (.fr d) → rs[i]? = some (.fr d)
  | [], ts, ρ, ρ2, e => by
    cases e
    exact ⟨trivial, fun i d h => h⟩
  | .al j :: rs, ts, ρ, ρ2, e => by
    obtain ⟨⟨d, ρ1⟩, e1, e⟩ := Option.bind_eq_some_iff.mp (show (PV.fix ρ (.al j)).bind _ = some (ts, ρ2) from e)
    obtain ⟨⟨us, ρ3⟩, e2, e⟩ := Option.map_eq_some_iff.mp e
    cases e
    obtain ⟨h1, h2⟩ := fixAll_get e2
    refine ⟨h1, fun i d' h => ?_⟩
    cases i with
    | zero => cases h
    | succ i => exact h2 i d' h
  | .val d :: rs, ts, ρ, ρ2, e => by
    obtain ⟨⟨us, ρ3⟩, e2, e⟩ := Option.map_eq_some_iff.mp (show (fixAll ρ rs).map _ = some (ts, ρ2) from e)
    cases e
    obtain ⟨h1, h2⟩ := fixAll_get e2
    refine ⟨h1, fun i d' h => ?_⟩
    cases i with
    | zero => exact h
    | succ i => exact h2 i d' h
  | .fr d :: rs, ts, ρ, ρ2, e => by
    obtain ⟨⟨us, ρ3⟩, e2, e⟩ := Option.map_eq_some_iff.mp (show (fixAll ρ rs).map _ = some (ts, ρ2) from e)
    cases e
    obtain ⟨h1, h2⟩ := fixAll_get e2
    refine ⟨h1, fun i d' h => ?_⟩
    cases i with
    | zero => exact h
    | succ i => exact h2 i d' h
theorem SS.fixAll : ∀ {vs : List V} {rs ts : List Rs} {ρ1 : Rho} {R1 : Addr → Prop}, SS K w np σ R ρ H σ1 R1 ρ1 H1 → RRs K w R1 ρ1 σ1 H1 vs rs → FrNs H vs rs → PV.fixAll ρ1 rs = some (ts, ρ2) →
    ∃ R2, SS K w np σ R ρ H σ1 R2 ρ2 H1 ∧ Step K w σ1 R1 ρ1 H1 R2 ρ2 H1 ∧ RRs K w R2 ρ2 σ1 H1 vs ts ∧ FrNs H vs ts
  | [], [], ts, ρ1, R1, s, rr, f, e => by
    cases e
    exact ⟨R1, s, Step.refl s.mt, trivial, trivial⟩
  | v :: vs, .al j :: rs, ts, ρ1, R1, s, rr, f, e => by
    obtain ⟨⟨d, ρ3⟩, e1, e⟩ := Option.bind_eq_some_iff.mp (show (PV.fix ρ1 (.al j)).bind _ = some (ts, ρ2) from e)
    obtain ⟨⟨us, ρ4⟩, e2, e⟩ := Option.map_eq_some_iff.mp e
    cases e
    obtain ⟨R3, up, s3, rp⟩ := SS.fix (Step.refl s.mt) rr.1 trivial e1
    have s4 : SS K w np σ R ρ H σ1 R3 ρ3 H1 := s.trans s3.np
    obtain ⟨R5, s5, t5, r5, f5⟩ := SS.fixAll (vs := vs) (rs := rs) s4 (RRs.step s.mt s3 rr.2) f.2.1 e2
    exact ⟨R5, s5, s3.trans t5, ⟨t5.rep s4.mt rp, r5⟩, trivial, f5, fun d z => by cases z⟩
  | v :: vs, .val d :: rs, ts, ρ1, R1, s, rr, f, e => by
    obtain ⟨⟨us, ρ4⟩, e2, e⟩ := Option.map_eq_some_iff.mp (show (PV.fixAll ρ1 rs).map _ = some (ts, ρ2) from e)
    cases e
    obtain ⟨R5, s5, t5, r5, f5⟩ := SS.fixAll (vs := vs) (rs := rs) s rr.2 f.2.1 e2
    exact ⟨R5, s5, t5, ⟨RR.step s.mt t5 rr.1, r5⟩, f.1, f5, fun d z => by cases z⟩
  | v :: vs, .fr d :: rs, ts, ρ1, R1, s, rr, f, e => by
    obtain ⟨⟨us, ρ4⟩, e2, e⟩ := Option.map_eq_some_iff.mp (show (PV.fixAll ρ1 rs).map _ = some (ts, ρ2) from e)
    cases e
    obtain ⟨R5, s5, t5, r5, f5⟩ := SS.fixAll (vs := vs) (rs := rs) s rr.2 f.2.1 e2
    exact ⟨R5, s5, t5, ⟨RR.step s.mt t5 rr.1, r5⟩, f.1, f5, fun d' z i e h => f.2.2 d' z i e ((fixAll_get e2).2 i e h)⟩
  | [], _ :: _, _, _, _, _, rr, _, _ => rr.elim
  | _ :: _, [], _, _, _, _, rr, _, _ => rr.elim
end

section
variable {X : Cx} {C : Cfg} {np : Nat} {a b c e tg iter elt : Expr} {ma mb mc me mit melt : E} {pos p : Pos} {st : Stmt} {x y z : Str} {i j k : Nat}
/-! ### blocks -/
theorem px_snil : PSs X [] (tSs X.K X.w C np []) := PSs.imp pss_nil fun D σ H h => by
  obtain ⟨R, ρ, o, ρ', m, e, q⟩ := h
  cases e
  exact q σ H R (SS.refl m)
theorem px_scons {ms : S} {mss : List S} {rest : List Stmt} (h1 : PS X st (tS X.K X.w C np ms)) (h2 : PSs X rest (tSs X.K X.w C np mss)) : PSs X (st :: rest) (tSs X.K X.w C np (ms :: mss)) := by
  refine PSs.imp (pss_cons h1 h2) fun D σ H h => ?_
  obtain ⟨R, ρ, o, ρ', m, e, q⟩ := h
  obtain ⟨⟨o1, ρ1⟩, e1, e⟩ := Option.bind_eq_some_iff.mp (show (PV.exec C np ms ρ).bind _ = some (o, ρ') from e)
  refine ⟨R, ρ, o1, ρ1, m, e1, fun σ1 H1 R1 s1 => ?_⟩
  cases o1 with
  | nx => exact ⟨R1, ρ1, o, ρ', s1.mt, e, fun σ2 H2 R2 s2 => out_back s1.nw (q σ2 H2 R2 (s1.trans s2))⟩
  | brk => cases e; exact q σ1 H1 R1 s1
  | cnt => cases e; exact q σ1 H1 R1 s1
  | ret r => cases e; exact q σ1 H1 R1 s1
theorem out_back' {K : PySem.W.Frag} {w : World} {D : Ends} {H H0 H' : Hp} {R : Addr → Prop} {ρ : Rho} {σ : St} {o : O} (nw : ∀ b, H0 b ≠ none → H b ≠ none) (h : out K w D H0 R ρ σ H' o) : out K w D H R ρ σ H' o := by
  cases o with
  | ret r => exact fun v rr f => h v rr (FrN.back nw f)
  | _ => exact h
theorem px_spas : PS X st tNext → PS X st (tS X.K X.w C np .pas) := fun h => PS.imp h fun D σ H h => by
  obtain ⟨R, ρ, o, ρ', m, e, q⟩ := h
  cases e
  exact q σ H R (SS.refl m)
theorem px_sbrk : PS X (.Break pos) (tS X.K X.w C np .brk) := PS.imp ps_break fun D σ H h => by
  obtain ⟨R, ρ, o, ρ', m, e, q⟩ := h
  cases e
  exact q σ H R (SS.refl m)
theorem px_scnt : PS X (.Continue pos) (tS X.K X.w C np .cnt) := PS.imp ps_continue fun D σ H h => by
  obtain ⟨R, ρ, o, ρ', m, e, q⟩ := h
  cases e
  exact q σ H R (SS.refl m)
theorem px_sex (he : PE X e (tD X.K X.w C me)) (hs : swapsWith e none pos.line X.env = pure false) : PS X (.Expr e pos) (tS X.K X.w C np (.ex me)) := PS.imp (ps_expr he hs) fun D σ H h => by
  obtain ⟨R, ρ, o, ρ', m, e, q⟩ := h
  obtain ⟨⟨r, ρ1⟩, e1, e⟩ := Option.map_eq_some_iff.mp (show (ev C me ρ).map _ = some (o, ρ') from e)
  cases e
  exact ⟨R, ρ, r, ρ', m, e1, fun v H' R' s rr f => q σ H' R' s.np⟩
theorem px_sret (he : PE X e (tD X.K X.w C me)) : PS X (.Return (some e) pos) (tS X.K X.w C np (.ret me)) := PS.imp (ps_ret he) fun D σ H h => by
  obtain ⟨R, ρ, o, ρ', m, e, q⟩ := h
  obtain ⟨⟨r, ρ1⟩, e1, e⟩ := Option.map_eq_some_iff.mp (show (ev C me ρ).map _ = some (o, ρ') from e)
  cases e
  exact ⟨R, ρ, r, ρ', m, e1, fun v H' R' s rr f => q σ H' R' s.np v rr f⟩
theorem px_sretN : PS X (.Return none pos) (tS X.K X.w C np .retN) := PS.imp ps_retN fun D σ H h => by
  obtain ⟨R, ρ, o, ρ', m, e, q⟩ := h
  cases e
  exact q σ H R (SS.refl m) .non rfl trivial
theorem px_site {as bs : List Stmt} {mas mbs : List S} (hc : PT X c (tT X.K X.w C mc)) (ha : PSs X as (tSs X.K X.w C np mas)) (hb : PSs X bs (tSs X.K X.w C np mbs)) : PS X (.If c as bs pos) (tS X.K X.w C np (.ite mc mas mbs)) := by
  refine PS.imp (ps_if hc ha hb) fun D σ H h => ?_
  obtain ⟨R, ρ, o, ρ', m, e, q⟩ := h
  obtain ⟨⟨t, ρ1⟩, e1, e⟩ := Option.bind_eq_some_iff.mp (show (tst C mc ρ).bind _ = some (o, ρ') from e)
  refine ⟨R, ρ, t, ρ1, m, e1, fun H1 R1 s1 => ?_⟩
  cases t with
  | true => exact ⟨R1, ρ1, o, ρ', s1.mt, e, fun σ2 H2 R2 s2 => out_back s1.nw (q σ2 H2 R2 (s1.np.trans s2))⟩
  | false => exact ⟨R1, ρ1, o, ρ', s1.mt, e, fun σ2 H2 R2 s2 => out_back s1.nw (q σ2 H2 R2 (s1.np.trans s2))⟩
/-! ### stores -/
theorem px_sasg (hN : X.N.Nodup) (hi : X.N[i]? = some x) (hx : Loc X.env.scope x) (he : PE X e (tD X.K X.w C me)) (hs : swapsWith e (some (.Name x p)) pos.line X.env = pure false) (hf : X.fn x = true ∨ X.env.scope.names.lookup x = some .local) :
    PS X (.Assign [.Name x p] e pos) (tS X.K X.w C np (.asg i me)) := by
  refine PS.imp (ps_set hN hi hx he hs hf) fun D σ H h => ?_
  obtain ⟨R, ρ, o, ρ', m, e, q⟩ := h
  obtain ⟨⟨r, ρ1⟩, e1, e⟩ := Option.bind_eq_some_iff.mp (show (ev C me ρ).bind _ = some (o, ρ') from e)
  obtain ⟨ρ2, e2, e⟩ := Option.map_eq_some_iff.mp e
  cases e
  refine ⟨R, ρ, r, ρ1, m, e1, fun v H1 R1 s1 rr f => ?_⟩
  obtain ⟨R2, s2⟩ := SS.store (np := np) s1.np rr f e2
  exact q _ H1 R2 s2
theorem px_spar2 {px py pt : Pos} {kt k2 : Nat} {pt2 : Pos} (hc : X.calm = true) (hN : X.N.Nodup) (hi : X.N[i]? = some x) (hj : X.N[j]? = some y) (hij : i ≠ j)
    (hx : X.env.scope.names.lookup x = some .local) (hy : X.env.scope.names.lookup y = some .local) (ha : PE X a (tD X.K X.w C ma)) (hb : PE X b (tD X.K X.w C mb)) (sa : isStar a = false) (sb : isStar b = false)
    (hw : swappedStores [.Tuple [.Name x px, .Name y py] kt pt] (.Tuple [a, b] k2 pt2) X.env = pure (some [x, y]))
    (hs : swapsWithSole [.Tuple [.Name x px, .Name y py] kt pt] (.Tuple [a, b] k2 pt2) pos.line X.env = pure false) :
    PS X (.Assign [.Tuple [.Name x px, .Name y py] kt pt] (.Tuple [a, b] k2 pt2) pos) (tS X.K X.w C np (.par [i, j] [ma, mb])) := by
  refine PS.imp (ps_par hc hN hi hj hij hx hy (px_cons ha (px_cons hb px_nil sb) sa) hw hs) fun D σ H h => ?_
  obtain ⟨R, ρ, o, ρ', m, e, q⟩ := h
  obtain ⟨⟨rs, ρ1⟩, e1, e⟩ := Option.bind_eq_some_iff.mp (show (evs C [ma, mb] ρ).bind _ = some (o, ρ') from e)
  obtain ⟨⟨ts, ρ2⟩, e2, e⟩ := Option.bind_eq_some_iff.mp e
  obtain ⟨ρ3, e3, e⟩ := Option.map_eq_some_iff.mp e
  cases e
  refine ⟨R, ρ, rs, ρ1, m, e1, fun vs H1 R1 s1 rr f => ?_⟩
  obtain ⟨R2, s2, _, r2, f2⟩ := SS.fixAll (np := np) s1.np rr f e2
  have s3 := SS.storeAll s2 r2 f2 (fixAll_get e2).1 e3
  have hl : vs.length = ts.length := r2.length
  have hl2 : ts.length = 2 := storeAll_len e3
  match vs, hl.trans hl2 with
  | [v, u], _ => exact ⟨v, u, rfl, q _ H1 R2 s3⟩
where
  storeAll_len {np : Nat} : ∀ {is : List Nat} {ts : List Rs} {ρ ρ' : Rho}, PV.storeAll np ρ is ts = some ρ' → ts.length = is.length
    | [], [], _, _, _ => rfl
    | i :: is, t :: ts, ρ, ρ', e => by
      obtain ⟨ρ3, e1, e2⟩ := Option.bind_eq_some_iff.mp (show (PV.store np ρ i t).bind _ = some ρ' from e)
      rw [List.length_cons, List.length_cons, storeAll_len e2]
    | [], _ :: _, _, _, e => by cases e
    | _ :: _, [], _, _, e => by cases e
theorem px_spar3 {px py pz pt : Pos} {kt k2 : Nat} {pt2 : Pos} (hc : X.calm = true) (hN : X.N.Nodup) (hi : X.N[i]? = some x) (hj : X.N[j]? = some y) (hk : X.N[k]? = some z) (hij : i ≠ j) (hik : i ≠ k) (hjk : j ≠ k)
    (hx : X.env.scope.names.lookup x = some .local) (hy : X.env.scope.names.lookup y = some .local) (hz : X.env.scope.names.lookup z = some .local) (ha : PE X a (tD X.K X.w C ma)) (hb : PE X b (tD X.K X.w C mb)) (hcc : PE X c (tD X.K X.w C mc)) (sa : isStar a = false) (sb : isStar b = false) (sc : isStar c = false)
    (hw : swappedStores [.Tuple [.Name x px, .Name y py, .Name z pz] kt pt] (.Tuple [a, b, c] k2 pt2) X.env = pure (some [x, y, z]))
    (hs : swapsWithSole [.Tuple [.Name x px, .Name y py, .Name z pz] kt pt] (.Tuple [a, b, c] k2 pt2) pos.line X.env = pure false) :
    PS X (.Assign [.Tuple [.Name x px, .Name y py, .Name z pz] kt pt] (.Tuple [a, b, c] k2 pt2) pos) (tS X.K X.w C np (.par [i, j, k] [ma, mb, mc])) := by
  refine PS.imp (ps_par3 hc hN hi hj hk hij hik hjk hx hy hz (px_cons ha (px_cons hb (px_cons hcc px_nil sc) sb) sa) hw hs) fun D σ H h => ?_
  obtain ⟨R, ρ, o, ρ', m, e, q⟩ := h
  obtain ⟨⟨rs, ρ1⟩, e1, e⟩ := Option.bind_eq_some_iff.mp (show (evs C [ma, mb, mc] ρ).bind _ = some (o, ρ') from e)
  obtain ⟨⟨ts, ρ2⟩, e2, e⟩ := Option.bind_eq_some_iff.mp e
  obtain ⟨ρ3, e3, e⟩ := Option.map_eq_some_iff.mp e
  cases e
  refine ⟨R, ρ, rs, ρ1, m, e1, fun vs H1 R1 s1 rr f => ?_⟩
  obtain ⟨R2, s2, _, r2, f2⟩ := SS.fixAll (np := np) s1.np rr f e2
  have s3 := SS.storeAll s2 r2 f2 (fixAll_get e2).1 e3
  have hl : vs.length = ts.length := r2.length
  have hl2 : ts.length = 3 := px_spar2.storeAll_len e3
  match vs, hl.trans hl2 with
  | [v, u, w'], _ => exact ⟨v, u, w', rfl, q _ H1 R2 s3⟩
end
end PV

/-! PV, part P: stores into lists, unpacking, loops. -/
namespace PV
open PySem PySem.Spec PyProof.Rows L2

section
variable {K : PySem.W.Frag} {w : World} {C : Cfg} {np : Nat} {R R' R0 R1 R2 : Addr → Prop} {ρ ρ' ρ0 ρ1 ρ2 ρ3 : Rho} {σ σ' σ0 σ1 σ2 : St} {H H' H0 H1 H2 : Hp}
/-- o[k] = v at the end -/
theorem put_end {i : Nat} {k d : D} {p : Addr} {v kv : V} {Q : Hp → Prop} (s : SS K w np σ R ρ H σ1 R1 ρ1 H1) (hp : σ1[i]? = some (some (.ref p))) (rd : Rep K w R1 H1 d v) (rk : Rep K w R1 H1 k kv) (e : putAt ρ1 i k d = some ρ2)
    (q : ∀ H' R', SS K w np σ R ρ H σ1 R' ρ2 H' → Q H') : rSetL (.ref p) kv v H1 Q := by
  obtain ⟨n, e1, e⟩ := Option.bind_eq_some_iff.mp (show (intOf k).bind _ = some ρ2 from e)
  obtain ⟨xs, e2, e⟩ := Option.bind_eq_some_iff.mp e
  obtain ⟨j, e3, e⟩ := Option.map_eq_some_iff.mp e
  subst e
  have ek : k = .int n := by
    unfold intOf at e1
    split at e1
    · cases e1; rfl
    · cases e1
  subst ek
  obtain rfl : kv = .int n := rk
  obtain ⟨p', vs, q1, q2, q3, q4⟩ := recv_own s.mt e2
  rw [hp] at q1
  cases q1
  refine ⟨p, vs, n, j, rfl, rfl, q3, by rw [← q4.length]; exact e3, ?_⟩
  have t : Top K w R1 H1 p (.lst xs) := ⟨vs, q3, q4⟩
  have tw : Top K w R1 (upd H1 p (.lst (vs.set j v))) p (.lst (xs.set j d)) := ⟨_, upd_same, Reps.set (rep_write q2 t rd) j (reps_write q2 t q4)⟩
  exact q _ R1 (s.trans (Step.write s.mt (ownL_of e2) hp tw).np)
end

section
variable {X : Cx} {C : Cfg} {np : Nat} {a b c e tg iter elt ix : Expr} {ma mb mc me mit melt mix : E} {pos p spos : Pos} {st : Stmt} {x y z : Str} {i j k : Nat}
theorem asg_sub {o ix : Expr} {env : Env} (h : isSlice ix = false) : ∀ v, assign (.Subscript o ix pos) env v = (do
      let ov ← holding [v] (eval o env)
      let iv ← holding [v, ov] (eval ix env)
      standAt pos
      holding [v, ov, iv] (setItem ov iv v)
      release [v, ov, iv] []) := by
  intro v
  cases ix <;> first | rfl | cases h
theorem px_sput (hsl : isSlice ix = false) (hN : X.N[i]? = some x) (hv : Vis X.env.scope x) (hd : (x == ("__debug__" : Str)) = false) (hcd : (x == ("__classdict__" : Str)) = false) (he : PE X e (tD X.K X.w C me)) (hi : PE X ix (tD X.K X.w C mix))
    (hs : swapsWithSole [.Subscript (.Name x p) ix spos] e pos.line X.env = pure false) (hw : swappedStores [.Subscript (.Name x p) ix spos] e X.env = pure none) :
    PS X (.Assign [.Subscript (.Name x p) ix spos] e pos) (tS X.K X.w C np (.put i mix me)) := by
  refine PS.imp (ps_asg he (pg_sub (pe_var hN hv hd hcd) hi set_list (asg_sub hsl)) hs hw) fun D σ H h => ?_
  obtain ⟨R, ρ, o, ρ', m, e, q⟩ := h
  obtain ⟨⟨r, ρ1⟩, e1, e⟩ := Option.bind_eq_some_iff.mp (show (ev C me ρ).bind _ = some (o, ρ') from e)
  obtain ⟨⟨d, ρ2⟩, e2, e⟩ := Option.bind_eq_some_iff.mp e
  obtain ⟨us, e0, e⟩ := Option.bind_eq_some_iff.mp e
  obtain ⟨⟨rk, ρ3⟩, e3, e⟩ := Option.bind_eq_some_iff.mp e
  obtain ⟨⟨k, ρ4⟩, e4, e⟩ := Option.bind_eq_some_iff.mp e
  obtain ⟨ρ5, e5, e⟩ := Option.map_eq_some_iff.mp e
  cases e
  refine ⟨R, ρ, r, ρ1, m, e1, fun v H1 R1 s1 rr f => ?_⟩
  obtain ⟨R2, up, s2, rp⟩ := fix_step s1 rr f e2
  obtain ⟨l, ys, q1, q2, q3, q4⟩ := recv_own s2.mt e0
  refine ⟨_, q1, R2, ρ2, rk, ρ3, s2.mt, e3, fun kv H3 R3 s3 rr3 f3 => ?_⟩
  obtain ⟨R4, up4, s4, rk4⟩ := fix_step s3 rr3 f3 e4
  exact put_end (np := np) (s2.trans s4).np q1 (s4.rep s2.mt rp) rk4 e5 fun H' R' s' => q σ H' R' s'

/-! ### unpacking -/
def tGu (K : PySem.W.Frag) (w : World) (C : Cfg) (np : Nat) (ts : List T1) : TGs := fun xs σ H Q => ∃ R ρ ds ρ', Mt K w R ρ σ H ∧ Reps K w R H ds xs ∧ unpAll C np ts ds ρ = some ρ' ∧
  ∀ σ' H' R', SS K w np σ R ρ H σ' R' ρ' H' → Q σ' H'
theorem px_unil : PGs X [] (tGu X.K X.w C np []) := by
  refine PGs.imp pgs_nil fun v σ H Q h => ?_
  obtain ⟨R, ρ, ds, ρ', m, r, e, q⟩ := h
  cases ds with
  | cons d ds => cases e
  | nil =>
    cases v with
    | cons _ _ => exact r.elim
    | nil =>
      cases e
      exact ⟨rfl, q σ H R (SS.refl m)⟩
theorem px_unm {es : List Expr} {ts : List T1} (hN : X.N.Nodup) (hi : X.N[i]? = some x) (hx : Loc X.env.scope x) (hf : X.fn x = true ∨ X.env.scope.names.lookup x = some .local) (h : PGs X es (tGu X.K X.w C np ts)) :
    PGs X (.Name x p :: es) (tGu X.K X.w C np (.nm i :: ts)) := by
  refine PGs.imp (pgs_cons (pg_name hN hi hx hf) h (asgEach_cons rfl)) fun v σ H Q h => ?_
  obtain ⟨R, ρ, ds, ρ', m, r, e, q⟩ := h
  cases ds with
  | nil => cases e
  | cons d ds =>
    cases v with
    | nil => exact r.elim
    | cons v vs =>
      obtain ⟨ρ1, e1, e⟩ := Option.bind_eq_some_iff.mp (show (store np ρ i (.val d)).bind _ = some ρ' from e)
      have key : np ≤ i ∧ i < ρ.length ∧ ρ1 = ρ.set i (.ro d) := by
        unfold PV.store at e1
        split at e1
        · rename_i hz
          cases e1
          exact ⟨hz.1, hz.2, rfl⟩
        · cases e1
      obtain ⟨h1, h2, rfl⟩ := key
      have s2 := (SS.refl (np := np) m).put_ro h2 h1 r.1
      exact ⟨v, vs, rfl, R, _, ds, ρ', s2.mt, r.2, e, fun σ' H' R' s' => q σ' H' R' (s2.trans s')⟩
theorem px_usub {es : List Expr} {ts : List T1} (hsl : isSlice ix = false) (hN : X.N[i]? = some x) (hv : Vis X.env.scope x) (hd : (x == ("__debug__" : Str)) = false) (hcd : (x == ("__classdict__" : Str)) = false) (hi : PE X ix (tD X.K X.w C mix)) (h : PGs X es (tGu X.K X.w C np ts)) :
    PGs X (.Subscript (.Name x p) ix spos :: es) (tGu X.K X.w C np (.sub i mix :: ts)) := by
  refine PGs.imp (pgs_cons (pg_sub (pe_var hN hv hd hcd) hi set_list (asg_sub hsl)) h rfl) fun v σ H Q h => ?_
  obtain ⟨R, ρ, ds, ρ', m, r, e, q⟩ := h
  cases ds with
  | nil => cases e
  | cons d ds =>
    cases v with
    | nil => exact r.elim
    | cons v vs =>
      obtain ⟨us, e0, e⟩ := Option.bind_eq_some_iff.mp (show (ownL ρ i).bind _ = some ρ' from e)
      obtain ⟨⟨rk, ρ3⟩, e3, e⟩ := Option.bind_eq_some_iff.mp e
      obtain ⟨⟨k, ρ4⟩, e4, e⟩ := Option.bind_eq_some_iff.mp e
      obtain ⟨ρ5, e5, e⟩ := Option.bind_eq_some_iff.mp e
      obtain ⟨l, ys, q1, q2, q3, q4⟩ := recv_own m e0
      refine ⟨v, vs, rfl, _, q1, R, ρ, rk, ρ3, m, e3, fun kv H3 R3 s3 rr3 f3 => ?_⟩
      obtain ⟨R4, up4, s4, rk4⟩ := fix_step s3 rr3 f3 e4
      refine put_end (np := np) s4.np q1 (s4.rep m r.1) rk4 e5 fun H' R' s' => ?_
      exact ⟨R', ρ5, ds, ρ', s'.mt, s'.reps m r.2, e, fun σ2 H2 R2 s2 => q σ2 H2 R2 (s'.trans s2)⟩
theorem unpAll_len : ∀ {ts : List T1} {ds : List D} {ρ ρ' : Rho}, unpAll C np ts ds ρ = some ρ' → ts.length = ds.length
  | [], [], _, _, _ => rfl
  | .nm i :: ts, d :: ds, ρ, ρ', e => by
    obtain ⟨ρ1, e1, e⟩ := Option.bind_eq_some_iff.mp (show (store np ρ i (.val d)).bind _ = some ρ' from e)
    rw [List.length_cons, List.length_cons, unpAll_len e]
  | .sub i ix :: ts, d :: ds, ρ, ρ', e => by
    obtain ⟨us, e0, e⟩ := Option.bind_eq_some_iff.mp (show (ownL ρ i).bind _ = some ρ' from e)
    obtain ⟨⟨rk, ρ3⟩, e3, e⟩ := Option.bind_eq_some_iff.mp e
    obtain ⟨⟨k, ρ4⟩, e4, e⟩ := Option.bind_eq_some_iff.mp e
    obtain ⟨ρ5, e5, e⟩ := Option.bind_eq_some_iff.mp e
    rw [List.length_cons, List.length_cons, unpAll_len e]
  | [], _ :: _, _, _, e => by cases e
  | .nm _ :: _, [], _, _, e => by cases e
  | .sub _ _ :: _, [], _, _, e => by cases e
def isTgt : Expr → Bool
  | .Name .. => true
  | .Subscript .. => true
  | _ => false
theorem tgt_len {env : Env} : ∀ {es : List Expr}, es.all isTgt = true → (assignEach es env).length = es.length ∧ (assignEach es env).findIdx? (·.1) = none
  | [], _ => ⟨rfl, rfl⟩
  | e :: es, h => by
    rw [List.all_cons, Bool.and_eq_true] at h
    obtain ⟨h1, h2⟩ := tgt_len (env := env) h.2
    have key : assignEach (e :: es) env = (false, assign e env) :: assignEach es env := by
      cases e <;> first | rfl | cases h.1
    rw [key]
    refine ⟨by rw [List.length_cons, List.length_cons, h1], ?_⟩
    rw [List.findIdx?_cons, h2]
    rfl
theorem px_sunp {es : List Expr} {k : Nat} {tpos : Pos} {ts : List T1} (hc : X.calm = true) (he : PE X e (tD X.K X.w C me)) (h : PGs X es (tGu X.K X.w C np ts)) (hn : es.all isTgt = true) (hl : es.length = ts.length)
    (hs : swapsWithSole [.Tuple es k tpos] e pos.line X.env = pure false) (hw : swappedStores [.Tuple es k tpos] e X.env = pure none) :
    PS X (.Assign [.Tuple es k tpos] e pos) (tS X.K X.w C np (.unp ts me)) := by
  refine PS.imp (ps_asg he (pg_tup hc h rfl (tgt_len hn).2) hs hw) fun D σ H h => ?_
  obtain ⟨R, ρ, o, ρ', m, e, q⟩ := h
  obtain ⟨⟨r, ρ1⟩, e1, e⟩ := Option.bind_eq_some_iff.mp (show (ev C me ρ).bind _ = some (o, ρ') from e)
  obtain ⟨⟨d, ρ2⟩, e2, e⟩ := Option.bind_eq_some_iff.mp e
  refine ⟨R, ρ, r, ρ1, m, e1, fun v H1 R1 s1 rr f => ?_⟩
  obtain ⟨R2, up, s2, rp⟩ := fix_step s1 rr f e2
  have key : ∃ a xs ds ρ3, v = .ref a ∧ SqT X.K H1 a xs ∧ Reps X.K X.w R2 H1 ds xs ∧ unpAll C np ts ds ρ2 = some ρ3 ∧ o = .nx ∧ ρ' = ρ3 := by
    dsimp only at e
    split at e
    · obtain ⟨ρ3, e3, e⟩ := Option.map_eq_some_iff.mp e
      cases e
      obtain ⟨a, xs, ea, h1, h2⟩ := rp
      exact ⟨a, xs, _, _, ea, h1.sq, h2, e3, rfl, rfl⟩
    · obtain ⟨ρ3, e3, e⟩ := Option.map_eq_some_iff.mp e
      cases e
      obtain ⟨a, xs, ea, h1, h2⟩ := rp
      exact ⟨a, xs, _, _, ea, h1, h2, e3, rfl, rfl⟩
    · cases e
  obtain ⟨a, xs, ds, ρ3, rfl, h1, h2, e3, rfl, rfl⟩ := key
  exact ⟨a, xs, rfl, h1, by rw [(tgt_len hn).1, hl, ← h2.length, unpAll_len e3], R2, ρ2, ds, ρ', s2.mt, h2, e3, fun σ' H' R' s' => q σ' H' R' ((s2.np (mp := np)).trans s')⟩

/-! ### a comprehension that is stored on its own line -/
theorem asg_end {D : Ends} {σ : St} {H : Hp} (h : tS X.K X.w C np (.asg i me) D σ H) : tD X.K X.w C me σ H fun v H1 => D.nx (σ.set i (some v)) H1 := by
  obtain ⟨R, ρ, o, ρ', m, e, q⟩ := h
  obtain ⟨⟨r, ρ1⟩, e1, e⟩ := Option.bind_eq_some_iff.mp (show (ev C me ρ).bind _ = some (o, ρ') from e)
  obtain ⟨ρ2, e2, e⟩ := Option.map_eq_some_iff.mp e
  cases e
  refine ⟨R, ρ, r, ρ1, m, e1, fun v H1 R1 s1 rr f => ?_⟩
  obtain ⟨R2, s2⟩ := SS.store (np := np) s1.np rr f e2
  exact q _ H1 R2 s2
theorem px_slc1 {py : Pos} {t : Tg} {mc : Option E} {ifs : List Expr} {scope : Scope} {own : List (Str × Nat)} (hc : X.calm = true) (hN : X.N.Nodup) (hy : X.N[i]? = some y) (hyl : X.env.scope.names.lookup y = some .local)
    (hsw : swapsWith (.ListComp elt [⟨tg, iter, ifs, 0⟩] scope pos) (some (.Name y py)) spos.line X.env = pure true) (hi : PI X tg iter (tI X.K X.w C mit)) (ok : BlkOk X.N X.env.scope scope own) (ho : own.map (·.2) = t.slots)
    (hg : ∀ (s : Shared) (H : Hp) (C : Addr) (cl : List (Str × Addr)) (fp : List Addr), PG (X.blk s H scope (compEnvC scope cl C X.env) fp) tg (tG X.K X.w 0 t))
    (ht : ∀ (s : Shared) (H : Hp) (C' : Addr) (cl : List (Str × Addr)) (fp : List Addr), PTs (X.blk s H scope (compEnvC scope cl C' X.env) fp) ifs (tTo X.K X.w C mc))
    (he : ∀ (s : Shared) (H : Hp) (C' : Addr) (cl : List (Str × Addr)) (fp : List Addr), PE (X.blk s H scope (compEnvC scope cl C' X.env) fp) elt (tD X.K X.w C melt)) (hs : ∀ x, foldedSetIterable iter X.env x = pure x) :
    PS X (.Assign [.Name y py] (.ListComp elt [⟨tg, iter, ifs, 0⟩] scope pos) spos) (tS X.K X.w C np (.asg i (.lc melt t mit mc))) := by
  refine PS.imp (ps_setLc hc hN hy hyl hsw hi ok hg ht he hs) fun D σ H h => ?_
  rw [ho]
  exact lc_end (asg_end h)

/-! ### loops -/
theorem px_slop {t : Tg} {body : List Stmt} {mb : List S} (hp : PassesOwn (model X.prog X.w) X.A X.env X.xe) (hc : X.calm = true) (hi : PI X tg iter (tI X.K X.w C mit)) (hg : PG X tg (tG X.K X.w np t)) (hb : PSs X body (tSs X.K X.w C np mb))
    (hs : ∀ x, foldedSetIterable iter X.env x = pure x) : PS X (.For tg iter body [] pos) (tS X.K X.w C np (.lop t mit mb)) := by
  refine PS.imp (ps_for hp hc hi hg hb hs) fun D σ H h => ?_
  obtain ⟨R, ρ, o, ρ', m, e, q⟩ := h
  obtain ⟨⟨xs, ρ1⟩, e1, e⟩ := Option.bind_eq_some_iff.mp (show (evi C mit ρ).bind _ = some (o, ρ') from e)
  refine ⟨R, ρ, xs, ρ1, m, e1, fun J H1 R1 s1 it => ?_⟩
  refine ⟨fun i k σ2 H2 => k = xs.length - i ∧ i ≤ xs.length ∧ ∃ R2 ρ2, SS X.K X.w np σ R1 ρ1 H1 σ2 R2 ρ2 H2 ∧ forLoop (fun x ρ => (bindT np ρ t x).bind fun ρ2 => PV.execs C np mb ρ2) (xs.drop i) ρ2 = some (o, ρ'),
    ⟨xs.length, rfl, Nat.zero_le _, R1, ρ1, SS.refl s1.mt, e⟩, fun i k σ2 H2 hW => ?_⟩
  obtain ⟨hk, hi, R2, ρ2, s2, el⟩ := hW
  obtain ⟨go, stop, yl⟩ := it R2 H2 s2.up (s1.mt.keepT s2.fr) (s1.mt.keepK s2.fr)
  have s12 : SS X.K X.w np σ R ρ H σ2 R2 ρ2 H2 := s1.np.trans s2
  by_cases hi2 : i < xs.length
  · refine .inr ⟨go i hi2, fun σ' H' => i + 1 ≤ xs.length ∧ ∃ R2 ρ2, SS X.K X.w np σ R1 ρ1 H1 σ' R2 ρ2 H' ∧ forLoop (fun x ρ => (bindT np ρ t x).bind fun ρ2 => PV.execs C np mb ρ2) (xs.drop (i + 1)) ρ2 = some (o, ρ'),
      fun σ' H' h => ⟨xs.length - (i + 1), by omega, rfl, h⟩, fun x H' y => ?_⟩
    obtain ⟨hy, rx⟩ := yl i x H' _ (List.getElem?_eq_getElem hi2) y
    rw [drop_get hi2] at el
    obtain ⟨⟨o1, ρ4⟩, e3, el⟩ := Option.bind_eq_some_iff.mp (show ((bindT np ρ2 t xs[i]).bind fun ρ2 => PV.execs C np mb ρ2).bind _ = some (o, ρ') from el)
    obtain ⟨ρ3, e4, e3⟩ := Option.bind_eq_some_iff.mp e3
    have s3 : SS X.K X.w np σ2 R2 ρ2 H2 σ2 R2 ρ2 H' := SS.yld s2.mt hy
    refine ⟨R2, ρ2, xs[i], ρ3, s3.mt, rx, e4, fun σ4 s4 _ _ _ => ⟨R2, ρ3, o1, ρ4, s4.mt, e3, fun σ5 H5 R5 s5 => ?_⟩⟩
    have s25 := (s2.trans s3).trans (s4.trans s5)
    cases o1 with
    | nx => exact ⟨hi2, R5, ρ4, s25, el⟩
    | cnt => exact ⟨hi2, R5, ρ4, s25, el⟩
    | brk =>
      cases el
      exact q σ5 H5 R5 ((s1.np).trans s25)
    | ret r =>
      cases el
      exact fun v rr f => q σ5 H5 R5 ((s1.np).trans s25) v rr (f.back fun b h => s3.nw b (s12.nw b h))
  · refine .inl ⟨stop i (by omega), ?_⟩
    rw [List.drop_eq_nil_of_le (by omega)] at el
    cases el
    exact q σ2 H2 R2 s12
theorem px_swhl {body : List Stmt} {mb : List S} (hp : PassesOwn (model X.prog X.w) X.A X.env X.xe) (hc : PT X c (tT X.K X.w C mc)) (hb : PSs X body (tSs X.K X.w C np mb)) : PS X (.While c body [] pos) (tS X.K X.w C np (.whl mc mb)) := by
  refine PS.imp (ps_while hp hc hb) fun D σ H h => ?_
  obtain ⟨R, ρ, o, ρ', m, e, q⟩ := h
  refine ⟨fun n σ2 H2 => ∃ R2 ρ2, SS X.K X.w np σ R ρ H σ2 R2 ρ2 H2 ∧ whileLoop (tst C mc) (PV.execs C np mb) n ρ2 = some (o, ρ'), ⟨C.fuel, R, ρ, SS.refl m, e⟩, fun n σ2 H2 hW => ?_⟩
  obtain ⟨R2, ρ2, s2, el⟩ := hW
  cases n with
  | zero => cases el
  | succ n =>
    obtain ⟨⟨b, ρ3⟩, e1, el⟩ := Option.bind_eq_some_iff.mp (show (tst C mc ρ2).bind _ = some (o, ρ') from el)
    refine ⟨R2, ρ2, b, ρ3, s2.mt, e1, fun H3 R3 s3 => ?_⟩
    have s23 : SS X.K X.w np σ R ρ H σ2 R3 ρ3 H3 := s2.trans s3.np
    cases b with
    | false =>
      cases el
      exact q σ2 H3 R3 s23
    | true =>
      obtain ⟨⟨o1, ρ4⟩, e3, el⟩ := Option.bind_eq_some_iff.mp (show (PV.execs C np mb ρ3).bind _ = some (o, ρ') from el)
      refine ⟨fun σ' H' => ∃ R2 ρ2, SS X.K X.w np σ R ρ H σ' R2 ρ2 H' ∧ whileLoop (tst C mc) (PV.execs C np mb) n ρ2 = some (o, ρ'), fun σ' H' h => ⟨n, Nat.lt_succ_self n, h⟩, R3, ρ3, o1, ρ4, s3.mt, e3, fun σ5 H5 R5 s5 => ?_⟩
      have s25 := s23.trans s5
      cases o1 with
      | nx => exact ⟨R5, ρ4, s25, el⟩
      | cnt => exact ⟨R5, ρ4, s25, el⟩
      | brk =>
        cases el
        exact q σ5 H5 R5 s25
      | ret r =>
        cases el
        exact fun v rr f => q σ5 H5 R5 s25 v rr (f.back s23.nw)
end
end PV

/-! PV, part Q: calls of the program's own functions. -/
namespace PV
open PySem PySem.Spec PyProof.Rows L2

section
variable {K : PySem.W.Frag} {w : World} {C : Cfg} {np : Nat} {R R' R0 R1 R2 : Addr → Prop} {ρ ρ' ρ0 ρ1 ρ2 ρ3 : Rho} {σ σ' σ0 σ1 σ2 : St} {H H' H0 H1 H2 : Hp}
/-- what a function of the program promises: what the interpreter computes -/
def spF (K : PySem.W.Frag) (w : World) (p : Pg) (fuel k : Nat) (x : Str) : Sp := fun vs H Q E => ∃ R as r fs, Mt K w R as (vs.map some) H ∧ (cfg p fuel k).call x as = some (r, fs) ∧ isAl r = false ∧
  ∀ v H' R', Step K w (vs.map some) R as H R' fs H' → RR K w R' fs (vs.map some) H' v r → FrN H v r → Q v H'

/-! ### the callee's side -/
theorem un_get {m : Nat} {i : Nat} {s : Sl} (h : (ρ ++ List.replicate m Sl.un)[i]? = some s) (n : s ≠ .un) : ρ[i]? = some s := by
  by_cases hi : i < ρ.length
  · rwa [List.getElem?_append_left hi] at h
  · rw [List.getElem?_append_right (by omega)] at h
    rw [List.getElem?_replicate] at h
    split at h
    · cases h; exact absurd rfl n
    · cases h
theorem st_get {m i : Nat} {v : V} (h : σ[i]? = some (some v)) : (σ ++ List.replicate m none)[i]? = some (some v) := by
  rw [List.getElem?_append_left (List.getElem?_eq_some_iff.mp h).1]
  exact h
theorem st_back {m i : Nat} {v : V} (h : (σ ++ List.replicate m none)[i]? = some (some v)) : σ[i]? = some (some v) := by
  by_cases hi : i < σ.length
  · rwa [List.getElem?_append_left hi] at h
  · rw [List.getElem?_append_right (by omega), List.getElem?_replicate] at h
    split at h <;> cases h
theorem Mt.ext (m : Mt K w R ρ σ H) (n : Nat) : Mt K w R (ρ ++ List.replicate n .un) (σ ++ List.replicate n none) H := by
  refine ⟨by simp [m.len], m.trk, fun i d h => ?_, fun i d h => ?_, fun i j d e a h1 h2 h3 h4 => ?_⟩
  · obtain ⟨v, q1, q2⟩ := m.ro i d (un_get h (fun z => by cases z))
    exact ⟨v, st_get q1, q2⟩
  · obtain ⟨v, q1, q2⟩ := m.own i d (un_get h (fun z => by cases z))
    exact ⟨v, st_get q1, q2⟩
  · exact m.inj i j d e a (un_get h1 (fun z => by cases z)) (un_get h2 (fun z => by cases z)) (st_back h3) (st_back h4)
theorem ext_Own {n : Nat} {b : Addr} (h : Own (ρ ++ List.replicate n .un) (σ ++ List.replicate n none) b) : Own ρ σ b := by
  obtain ⟨i, d, h1, h2⟩ := h
  exact ⟨i, d, un_get h1 (fun z => by cases z), st_back h2⟩
theorem take_get {α : Type} {l : List α} {n i : Nat} {x : α} (h : (l.take n)[i]? = some x) : i < n ∧ l[i]? = some x := by
  rw [List.getElem?_take] at h
  split at h
  · exact ⟨by assumption, h⟩
  · cases h
/-- what the caller sees of a callee's names -/
theorem SS.trunc {n : Nat} (m : Mt K w R ρ σ H) (s : SS K w ρ.length (σ ++ List.replicate n none) R (ρ ++ List.replicate n .un) H σ' R' ρ' H') : Step K w σ R ρ H R' (ρ'.take ρ.length) H' := by
  have sg : ∀ {i : Nat}, i < ρ.length → σ'[i]? = σ[i]? := fun {i} hi => by
    rw [s.pm i hi, List.getElem?_append_left (by rw [← m.len]; exact hi)]
  have ow : ∀ {b : Addr}, Own (ρ'.take ρ.length) σ b → Own ρ' σ' b := fun {b} ⟨i, d, h1, h2⟩ => by
    obtain ⟨hi, h1⟩ := take_get h1
    exact ⟨i, d, h1, by rw [sg hi]; exact h2⟩
  have hl : ρ.length ≤ ρ'.length := by
    rw [s.mt.len]
    have h1 := s.mt.len
    by_cases z : ρ.length ≤ σ'.length
    · exact z
    · have q := sg (i := σ'.length) (by omega)
      rw [List.getElem?_eq_none (Nat.le_refl _)] at q
      have := List.getElem?_eq_none_iff.mp q.symm
      have := m.len
      omega
  refine ⟨s.up, ⟨by rw [List.length_take, ← m.len]; omega, s.mt.trk, fun i d h => ?_, fun i d h => ?_, fun i j d e a h1 h2 h3 h4 => ?_⟩, fun b o h n => s.fr b o h fun z => n (ext_Own z), fun b h => ?_, fun b h => ?_, s.nw, fun _ _ => rfl⟩
  · obtain ⟨hi, h⟩ := take_get h
    obtain ⟨v, q1, q2⟩ := s.mt.ro i d h
    exact ⟨v, by rw [← sg hi]; exact q1, q2⟩
  · obtain ⟨hi, h⟩ := take_get h
    obtain ⟨v, q1, q2⟩ := s.mt.own i d h
    exact ⟨v, by rw [← sg hi]; exact q1, q2⟩
  · obtain ⟨hi, h1⟩ := take_get h1
    obtain ⟨hj, h2⟩ := take_get h2
    exact s.mt.inj i j d e a h1 h2 (by rw [sg hi]; exact h3) (by rw [sg hj]; exact h4)
  · rcases s.bd b h with z | z | z
    · exact .inl z
    · exact .inr (.inl z)
    · exact .inr (.inr (ext_Own z))
  · rcases s.mo b (ow h) with z | z
    · exact .inl (ext_Own z)
    · exact .inr z
theorem finOk_get {as fs : List Sl} {i : Nat} {d : D} {f : Sl} (h : finOk as fs = true) (e : as[i]? = some (.own d)) (e2 : fs[i]? = some f) : (∃ e, f = .own e) ∨ (∃ xs, f = .ro (.lst xs)) ∨ (∃ xs ys, f = .ro (.dct xs ys)) ∨ ∃ xs, f = .ro (.set xs) := by
  unfold finOk at h
  rw [List.all_eq_true] at h
  have hz : (as.zip fs)[i]? = some (.own d, f) := by rw [List.getElem?_zip_eq_some]; exact ⟨e, e2⟩
  have q := h _ (List.mem_of_getElem? hz)
  cases f with
  | un => cases q
  | own e => exact .inl ⟨e, rfl⟩
  | ro x =>
    cases x with
    | lst xs => exact .inr (.inl ⟨xs, rfl⟩)
    | dct xs ys => exact .inr (.inr (.inl ⟨xs, ys, rfl⟩))
    | set xs => exact .inr (.inr (.inr ⟨xs, rfl⟩))
    | _ => cases q
/-- an object of a name of the callee's own that is handed back is new -/
theorem ret_new {n : Nat} (m : Mt K w R ρ σ H) (s : SS K w ρ.length (σ ++ List.replicate n none) R (ρ ++ List.replicate n .un) H σ' R' ρ' H') (hf : finOk ρ (ρ'.take ρ.length) = true) {i : Nat} {d : D} {a : Addr}
    (hi : ρ.length ≤ i) (h : ρ'[i]? = some (.own d)) (ha : σ'[i]? = some (some (.ref a))) : H a = none := by
  have t := SS.trunc m s
  rcases s.mo a ⟨i, d, h, ha⟩ with z | z
  · obtain ⟨j, e, h1, h2⟩ := ext_Own z
    have hj : j < ρ.length := (List.getElem?_eq_some_iff.mp h1).1
    have hs : σ'[j]? = some (some (.ref a)) := by rw [s.pm j hj]; exact st_get h2
    obtain ⟨a', q1, q2, q3⟩ := s.mt.own i d h
    rw [ha] at q1
    cases q1
    have hl : j < (ρ'.take ρ.length).length := by rw [t.mt.len, ← m.len]; exact hj
    obtain ⟨f, hf2⟩ : ∃ f, (ρ'.take ρ.length)[j]? = some f := ⟨_, List.getElem?_eq_getElem hl⟩
    obtain ⟨_, hf3⟩ := take_get hf2
    have rd : ∀ {x : D}, f = .ro x → Rep K w R' H' x (.ref a) := fun {x} e => by
      subst e
      obtain ⟨v, e1, e2⟩ := s.mt.ro j x hf3
      rw [hs] at e1
      cases e1
      exact e2
    rcases finOk_get hf h1 hf2 with ⟨x, rfl⟩ | ⟨xs, e⟩ | ⟨xs, ys, e⟩ | ⟨xs, e⟩
    · have := s.mt.inj i j d x a h hf3 ha hs
      omega
    · obtain ⟨b, vs, e1, e2, _⟩ := rd e
      cases e1
      exact absurd e2 q2
    · obtain ⟨b, vs, e1, e2, _⟩ := rd e
      cases e1
      exact absurd e2 q2
    · obtain ⟨b, S, k, e1, e2, _⟩ := rd e
      cases e1
      exact absurd e2 q2
  · exact z
theorem body_end {p : Pg} {fuel k : Nat} {x : Str} {f : Fd} {vs : List V} {Q : VK} {E : XK} {N : List Str} {n : Nat} (hf : p.fn x = some f) (hN : f.n = N.length) (h : spF K w p fuel (k + 1) x vs H Q E) (hn : n = f.ps.length) :
    tSs K w (cfg p fuel k) n f.body { nx := fun _ H' => Q .non H', rt := Q } (L2.start N vs) H := by
  obtain ⟨R, as, r, fs, m, e, na, q⟩ := h
  have e : ((p.fn x).bind fun fd => run (cfg p fuel k) fd as) = some (r, fs) := e
  rw [hf] at e
  have e : run (cfg p fuel k) f as = some (r, fs) := e
  unfold run at e
  split at e
  · rename_i hl
    obtain ⟨⟨o, ρ⟩, e1, e⟩ := Option.bind_eq_some_iff.mp e
    have hv : vs.length = as.length := by have := m.len; simpa using this.symm
    have hn' : n = as.length := by rw [hn, hl]
    subst hn'
    have es : L2.start N vs = vs.map some ++ List.replicate (f.n - as.length) none := by unfold L2.start; rw [hN, hv]
    rw [es]
    refine ⟨R, _, o, ρ, m.ext _, e1, fun σ' H' R' s => ?_⟩
    have t := SS.trunc m s
    cases o with
    | nx =>
      cases e
      exact q .non H' R' t rfl trivial
    | brk => cases e
    | cnt => cases e
    | ret r1 =>
      obtain ⟨⟨r2, ρ1⟩, e2, e⟩ := Option.bind_eq_some_iff.mp (show (retOf as.length ρ r1).bind _ = some (r, fs) from e)
      dsimp only at e
      split at e
      · rename_i hfin
        cases e
        intro v rr fr
        cases r1 with
        | val d =>
          cases e2
          exact q v H' R' t rr trivial
        | fr d =>
          cases e2
          obtain ⟨a, ea, n1, n2, tp⟩ := rr
          refine q v H' R' t ⟨a, ea, n1, fun z => n2 ?_, tp⟩ fr
          obtain ⟨j, e', h1, h2⟩ := z
          obtain ⟨hj, h1⟩ := take_get h1
          exact ⟨j, e', h1, by rw [s.pm j hj]; exact st_get h2⟩
        | al i =>
          have rr : σ'[i]? = some (some v) := rr
          unfold retOf at e2
          dsimp only at e2
          split at e2
          · rename_i d hd
            split at e2
            · rename_i hi
              cases e2
              obtain ⟨a, q1, q2, q3⟩ := s.mt.own i d hd
              rw [rr] at q1
              cases q1
              have na := ret_new m s hfin hi hd rr
              refine q _ H' R' t ⟨a, rfl, q2, fun z => ?_, q3⟩ (fun b eb => by cases eb; exact na)
              obtain ⟨j, e', h1, h2⟩ := z
              obtain ⟨hj, h1⟩ := take_get h1
              have := s.mt.inj i j d e' a hd h1 rr (by rw [s.pm j hj]; exact st_get h2)
              omega
            · cases e2
              have e3 : PV.fix ρ (.al i) = some (d, ρ.set i (.ro d)) := by
                unfold PV.fix
                dsimp only
                rw [hd]
              obtain ⟨R2, up, s2, rp⟩ := SS.fix (v := v) (r := .al i) s rr trivial e3
              exact q v H' R2 (SS.trunc m s2) rp trivial
          · rename_i d hd
            cases e2
            have e3 : PV.fix ρ (.al i) = some (d, ρ) := by
              unfold PV.fix
              dsimp only
              rw [hd]
            obtain ⟨R2, up, s2, rp⟩ := SS.fix (v := v) (r := .al i) s rr trivial e3
            exact q v H' R2 (SS.trunc m s2) rp trivial
          · cases e2
      · cases e
  · cases e
end
end PV

/-! PV, part R: calls of the program's own functions, the caller's side. -/
namespace PV
open PySem PySem.Spec PyProof.Rows L2

section
variable {K : PySem.W.Frag} {w : World} {C : Cfg} {np : Nat} {R R' R0 R1 R2 : Addr → Prop} {ρ ρ' ρ0 ρ1 ρ2 ρ3 : Rho} {σ σ' σ0 σ1 σ2 : St} {H H' H0 H1 H2 : Hp}
theorem permV_get {α : Type} {xs : List α} : ∀ {perm : List Nat} {k : Nat}, (∀ i ∈ perm, i < xs.length) → (permV xs perm)[k]? = perm[k]?.bind fun i => xs[i]?
  | [], k, _ => by simp [permV]
  | i :: perm, k, h => by
    have hi := h i List.mem_cons_self
    have e : permV xs (i :: perm) = xs[i] :: permV xs perm := by
      unfold permV
      rw [List.filterMap_cons, List.getElem?_eq_getElem hi]
    rw [e]
    cases k with
    | zero => simp [List.getElem?_eq_getElem hi]
    | succ k => simpa using permV_get (k := k) fun j hj => h j (List.mem_cons_of_mem _ hj)
theorem permV_len {α : Type} {xs : List α} : ∀ {perm : List Nat}, (∀ i ∈ perm, i < xs.length) → (permV xs perm).length = perm.length
  | [], _ => rfl
  | i :: perm, h => by
    have hi := h i List.mem_cons_self
    have e : permV xs (i :: perm) = xs[i] :: permV xs perm := by
      unfold permV
      rw [List.filterMap_cons, List.getElem?_eq_getElem hi]
    rw [e, List.length_cons, List.length_cons, permV_len fun j hj => h j (List.mem_cons_of_mem _ hj)]
/-- results by places -/
structure RRq (K : PySem.W.Frag) (w : World) (R : Addr → Prop) (ρ : Rho) (σ : St) (H0 H : Hp) (vs : List V) (rs : List Rs) : Prop where
  len : vs.length = rs.length
  rr : ∀ (i : Nat) (r : Rs) (v : V), rs[i]? = some r → vs[i]? = some v → RR K w R ρ σ H v r
  fn : ∀ (i : Nat) (r : Rs) (v : V), rs[i]? = some r → vs[i]? = some v → FrN H0 v r
  ne : ∀ (i j : Nat) (d d' : D) (v : V), rs[i]? = some (.fr d) → rs[j]? = some (.fr d') → vs[i]? = some v → vs[j]? = some v → i = j
theorem frNs_ne : ∀ {vs : List V} {rs : List Rs}, FrNs H vs rs → ∀ (i j : Nat) (d d' : D) (v : V), rs[i]? = some (.fr d) → rs[j]? = some (.fr d') → vs[i]? = some v → vs[j]? = some v → i = j
  | v :: vs, r :: rs, h, 0, 0, _, _, _, _, _, _, _ => rfl
  | v :: vs, r :: rs, h, 0, j + 1, d, d', u, h1, h2, h3, h4 => by
    simp at h1 h3
    subst h3
    exact absurd (by simpa using h4) (h.2.2 d h1 j d' (by simpa using h2))
  | v :: vs, r :: rs, h, i + 1, 0, d, d', u, h1, h2, h3, h4 => by
    simp at h2 h4
    subst h4
    exact absurd (by simpa using h3) (h.2.2 d' h2 i d (by simpa using h1))
  | v :: vs, r :: rs, h, i + 1, j + 1, d, d', u, h1, h2, h3, h4 => by
    rw [frNs_ne (vs := vs) (rs := rs) h.2.1 i j d d' u (by simpa using h1) (by simpa using h2) (by simpa using h3) (by simpa using h4)]
  | [], _, _, _, _, _, _, _, _, _, h3, _ => by simp at h3
  | _ :: _, [], _, _, _, _, _, _, h1, _, _, _ => by simp at h1
theorem RRq.of {vs : List V} {rs : List Rs} (h : RRs K w R ρ σ H vs rs) (f : FrNs H0 vs rs) : RRq K w R ρ σ H0 H vs rs where
  len := h.length
  rr := fun i r v h1 h2 => by
    obtain ⟨v', e1, e2⟩ := h.get h1
    rw [h2] at e1
    cases e1
    exact e2
  fn := fun i r v h1 h2 => f.get h1 h2
  ne := frNs_ne f
theorem RRq.perm {vs : List V} {rs rs' : List Rs} {perm : List Nat} (h : RRq K w R ρ σ H0 H vs rs) (e : permute rs perm = some rs') : RRq K w R ρ σ H0 H (permV vs perm) rs' := by
  unfold permute at e
  split at e
  · rename_i hp
    obtain ⟨nd, hl, hb⟩ := hp
    cases e
    have hb' : ∀ i ∈ perm, i < vs.length := fun i hi => by rw [h.len]; exact hb i hi
    have sp : ∀ {α : Type} {xs : List α} {k : Nat} {x : α}, (∀ i ∈ perm, i < xs.length) → (permV xs perm)[k]? = some x → ∃ i, perm[k]? = some i ∧ xs[i]? = some x := fun {α xs k x} hx e => by
      rw [permV_get hx] at e
      exact Option.bind_eq_some_iff.mp e
    refine ⟨by rw [permV_len hb', permV_len hb], fun i r v h1 h2 => ?_, fun i r v h1 h2 => ?_, fun i j d d' v h1 h2 h3 h4 => ?_⟩
    · obtain ⟨a, a1, a2⟩ := sp hb h1
      obtain ⟨b, b1, b2⟩ := sp hb' h2
      rw [a1] at b1
      cases b1
      exact h.rr a r v a2 b2
    · obtain ⟨a, a1, a2⟩ := sp hb h1
      obtain ⟨b, b1, b2⟩ := sp hb' h2
      rw [a1] at b1
      cases b1
      exact h.fn a r v a2 b2
    · obtain ⟨a, a1, a2⟩ := sp hb h1
      obtain ⟨b, b1, b2⟩ := sp hb h2
      obtain ⟨a', a3, a4⟩ := sp hb' h3
      obtain ⟨b', b3, b4⟩ := sp hb' h4
      rw [a1] at a3
      cases a3
      rw [b1] at b3
      cases b3
      have := h.ne a b d d' v a2 b2 a4 b4
      subst this
      obtain ⟨i1, i2⟩ := List.getElem?_eq_some_iff.mp a1
      obtain ⟨j1, j2⟩ := List.getElem?_eq_some_iff.mp b1
      exact (List.getElem_inj nd).mp (i2.trans j2.symm)
  · cases e

/-! ### as arguments -/
theorem argsOf_get : ∀ {rs : List Rs} {as : List Sl}, argsOf ρ rs = some as → as.length = rs.length ∧ ∀ (k : Nat) (s : Sl), as[k]? = some s → ∃ r, rs[k]? = some r ∧ argOf ρ r = some s
  | [], as, e => by
    cases e
    exact ⟨rfl, fun k s h => by simp at h⟩
  | r :: rs, as, e => by
    obtain ⟨a, e1, e⟩ := Option.bind_eq_some_iff.mp (show (argOf ρ r).bind _ = some as from e)
    obtain ⟨as', e2, e⟩ := Option.map_eq_some_iff.mp e
    subst e
    obtain ⟨h1, h2⟩ := argsOf_get e2
    refine ⟨by rw [List.length_cons, List.length_cons, h1], fun k s h => ?_⟩
    cases k with
    | zero =>
      simp at h
      subst h
      exact ⟨r, rfl, e1⟩
    | succ k => exact h2 k s (by simpa using h)
theorem mem_ownIx {l : Nat} {d : D} (hd : ρ[l]? = some (.own d)) : ∀ {rs : List Rs} {k : Nat}, rs[k]? = some (.al l) → l ∈ ownIx ρ rs
  | [], _, h => by simp at h
  | r :: rs, 0, h => by
    simp at h
    subst h
    unfold ownIx
    rw [hd]
    exact List.mem_cons_self
  | r :: rs, k + 1, h => by
    have ih := mem_ownIx hd (rs := rs) (k := k) (by simpa using h)
    unfold ownIx
    split
    · rename_i q; cases q
    · rename_i q
      cases q
      split
      · exact List.mem_cons_of_mem _ ih
      · exact ih
    · rename_i q
      cases q
      exact ih
theorem ownIx_inj {l : Nat} {d : D} (hd : ρ[l]? = some (.own d)) : ∀ {rs : List Rs} {i j : Nat}, (ownIx ρ rs).Nodup → rs[i]? = some (.al l) → rs[j]? = some (.al l) → i = j
  | [], _, _, _, h, _ => by simp at h
  | r :: rs, 0, 0, _, _, _ => rfl
  | r :: rs, 0, j + 1, n, h, h' => by
    simp at h
    subst h
    unfold ownIx at n
    rw [hd] at n
    exact absurd (mem_ownIx hd (by simpa using h')) (List.nodup_cons.mp n).1
  | r :: rs, i + 1, 0, n, h, h' => by
    simp at h'
    subst h'
    unfold ownIx at n
    rw [hd] at n
    exact absurd (mem_ownIx hd (by simpa using h)) (List.nodup_cons.mp n).1
  | r :: rs, i + 1, j + 1, n, h, h' => by
    have n' : (ownIx ρ rs).Nodup := by
      unfold ownIx at n
      split at n
      · rename_i q; cases q
      · rename_i q
        cases q
        split at n
        · exact (List.nodup_cons.mp n).2
        · exact n
      · rename_i q
        cases q
        exact n
    exact congrArg (· + 1) (ownIx_inj (rs := rs) (i := i) (j := j) hd n' (by simpa using h) (by simpa using h'))
theorem gb_len : ∀ {rs : List Rs} {fs : List Sl}, (giveBack ρ rs fs).length = ρ.length
  | [], fs => rfl
  | .al i :: rs, f :: fs => by
    unfold giveBack
    split
    · rw [List.length_set]; exact gb_len (rs := rs)
    · exact gb_len (rs := rs)
  | .val _ :: rs, f :: fs => gb_len (rs := rs)
  | .fr _ :: rs, f :: fs => gb_len (rs := rs)
  | .al i :: rs, [] => rfl
  | .val _ :: rs, [] => rfl
  | .fr _ :: rs, [] => rfl
theorem gb_out {l : Nat} : ∀ {rs : List Rs} {fs : List Sl}, (∀ (k : Nat) (d : D), rs[k]? = some (.al l) → ρ[l]? = some (.own d) → False) → (giveBack ρ rs fs)[l]? = ρ[l]?
  | [], fs, _ => rfl
  | .al i :: rs, f :: fs, h => by
    have ih := gb_out (rs := rs) (fs := fs) fun k d q => h (k + 1) d (by simpa using q)
    unfold giveBack
    split
    · rename_i d q
      exact (List.getElem?_set_ne (show i ≠ l from fun e => h 0 d (by rw [e]; rfl) (by rw [← e]; exact q))).trans ih
    · exact ih
  | .val _ :: rs, f :: fs, h => gb_out (rs := rs) (fs := fs) fun k d q => h (k + 1) d (by simpa using q)
  | .fr _ :: rs, f :: fs, h => gb_out (rs := rs) (fs := fs) fun k d q => h (k + 1) d (by simpa using q)
  | .al i :: rs, [], _ => rfl
  | .val _ :: rs, [], _ => rfl
  | .fr _ :: rs, [], _ => rfl
theorem gb_in {l : Nat} {d : D} {f : Sl} (hd : ρ[l]? = some (.own d)) : ∀ {rs : List Rs} {fs : List Sl} {k : Nat}, (ownIx ρ rs).Nodup → rs[k]? = some (.al l) → fs[k]? = some f → (giveBack ρ rs fs)[l]? = some f
  | [], _, _, _, h, _ => by simp at h
  | r :: rs, [], _, _, _, h => by simp at h
  | r :: rs, g :: fs, 0, n, h, h' => by
    simp at h h'
    subst h
    subst h'
    unfold giveBack
    rw [hd]
    have hl : l < (giveBack ρ rs fs).length := by rw [gb_len (rs := rs)]; exact (List.getElem?_eq_some_iff.mp hd).1
    exact List.getElem?_set_self hl
  | r :: rs, g :: fs, k + 1, n, h, h' => by
    have n2 := n
    unfold ownIx at n2
    split at n2
    · rename_i q; cases q
    · rename_i i rs' q
      cases q
      unfold giveBack
      split at n2
      · rename_i d' q2
        obtain ⟨n3, n4⟩ := List.nodup_cons.mp n2
        rw [List.getElem?_set_ne fun e => n3 (by rw [e]; exact mem_ownIx hd (by simpa using h))]
        exact gb_in hd n4 (by simpa using h) (by simpa using h')
      · rename_i q2
        have ih := gb_in hd (fs := fs) n2 (by simpa using h) (by simpa using h')
        exact ih
    · rename_i r' rs' q1 q
      cases q
      have ih := gb_in hd (fs := fs) n2 (by simpa using h) (by simpa using h')
      cases r with
      | al i => exact absurd rfl (q1 i)
      | val d => exact ih
      | fr d => exact ih
theorem args_mt {vs : List V} {rs : List Rs} {as : List Sl} (m : Mt K w R ρ σ H) (h : RRq K w R ρ σ H0 H vs rs) (e : argsOf ρ rs = some as) (nd : (ownIx ρ rs).Nodup) : Mt K w R as (vs.map some) H := by
  obtain ⟨hl, hg⟩ := argsOf_get e
  have vg : ∀ {i : Nat} {r : Rs}, rs[i]? = some r → ∃ v, vs[i]? = some v := fun {i r} hi => ⟨_, List.getElem?_eq_getElem (by rw [h.len]; exact (List.getElem?_eq_some_iff.mp hi).1)⟩
  have vm : ∀ {i : Nat} {v : V}, vs[i]? = some v → (vs.map some)[i]? = some (some v) := fun {i v} hi => by rw [List.getElem?_map, hi]; rfl
  have vb : ∀ {i : Nat} {v : V}, (vs.map some)[i]? = some (some v) → vs[i]? = some v := fun {i v} hi => by
    rw [List.getElem?_map] at hi
    obtain ⟨x, e1, e2⟩ := Option.map_eq_some_iff.mp hi
    cases e2
    exact e1
  -- an own argument: a fresh object, or an own name's
  have own : ∀ {i : Nat} {d : D}, as[i]? = some (.own d) → ∃ a, vs[i]? = some (.ref a) ∧ ¬ R a ∧ Top K w R H a d ∧ ((rs[i]? = some (.fr d) ∧ ¬ Own ρ σ a) ∨ ∃ l, rs[i]? = some (.al l) ∧ ρ[l]? = some (.own d) ∧ σ[l]? = some (some (.ref a))) := fun {i d} hi => by
    obtain ⟨r, h1, h2⟩ := hg i _ hi
    obtain ⟨v, h3⟩ := vg h1
    have rr := h.rr i r v h1 h3
    cases r with
    | val d' => cases h2
    | fr d' =>
      cases h2
      obtain ⟨a, rfl, n1, n2, t⟩ := rr
      exact ⟨a, h3, n1, t, .inl ⟨h1, n2⟩⟩
    | al l =>
      have rr : σ[l]? = some (some v) := rr
      unfold argOf at h2
      dsimp only at h2
      split at h2
      · cases h2
      · rename_i d2 q
        cases h2
        obtain ⟨a, q1, q2, q3⟩ := m.own l _ q
        rw [rr] at q1
        cases q1
        exact ⟨a, h3, q2, q3, .inr ⟨l, h1, q, rr⟩⟩
      · cases h2
  refine ⟨by rw [List.length_map, hl, h.len], m.trk, fun i d hi => ?_, fun i d hi => ?_, fun i j d d' a h1 h2 h3 h4 => ?_⟩
  · obtain ⟨r, h1, h2⟩ := hg i _ hi
    obtain ⟨v, h3⟩ := vg h1
    have rr := h.rr i r v h1 h3
    refine ⟨v, vm h3, ?_⟩
    cases r with
    | val d' => cases h2; exact rr
    | fr d' => cases h2
    | al l =>
      have rr : σ[l]? = some (some v) := rr
      unfold argOf at h2
      dsimp only at h2
      split at h2
      · rename_i d2 q
        cases h2
        obtain ⟨v', q1, q2⟩ := m.ro l _ q
        rw [rr] at q1
        cases q1
        exact q2
      · cases h2
      · cases h2
  · obtain ⟨a, q1, q2, q3, _⟩ := own hi
    exact ⟨a, vm q1, q2, q3⟩
  · obtain ⟨b, b1, b2, b3, b4⟩ := own h1
    obtain ⟨c, c1, c2, c3, c4⟩ := own h2
    have e1 := vb h3
    have e2 := vb h4
    rw [b1] at e1
    cases e1
    rw [c1] at e2
    cases e2
    rcases b4 with ⟨b4, b5⟩ | ⟨l, b4, b5, b6⟩ <;> rcases c4 with ⟨c4, c5⟩ | ⟨l', c4, c5, c6⟩
    · exact h.ne i j _ _ _ b4 c4 b1 c1
    · exact absurd ⟨l', _, c5, c6⟩ b5
    · exact absurd ⟨l, _, b5, b6⟩ c5
    · have := m.inj l l' _ _ a b5 c5 b6 c6
      subst this
      exact ownIx_inj b5 nd b4 c4
/-- behind a call -/
theorem call_step {vs : List V} {rs : List Rs} {as fs : List Sl} (m : Mt K w R ρ σ H) (s : Step K w σ R ρ H R1 ρ1 H1) (h : RRq K w R1 ρ1 σ H H1 vs rs) (e : argsOf ρ1 rs = some as) (nd : (ownIx ρ1 rs).Nodup)
    (t : Step K w (vs.map some) R1 as H1 R2 fs H2) : Step K w σ R ρ H R2 (giveBack ρ1 rs fs) H2 ∧ ∀ b, Own (giveBack ρ1 rs fs) σ b → Own ρ1 σ b := by
  obtain ⟨hl, hg⟩ := argsOf_get e
  have ma := args_mt s.mt h e nd
  have hfs : fs.length = rs.length := by rw [t.mt.len, List.length_map, h.len]
  have vb : ∀ {i : Nat} {v : V}, (vs.map some)[i]? = some (some v) → vs[i]? = some v := fun {i v} hi => by
    rw [List.getElem?_map] at hi
    obtain ⟨x, e1, e2⟩ := Option.map_eq_some_iff.mp hi
    cases e2
    exact e1
  -- an own argument's object
  have oa : ∀ {b : Addr}, Own as (vs.map some) b → H b = none ∨ Own ρ1 σ b := fun {b} ⟨i, d, h1, h2⟩ => by
    obtain ⟨r, q1, q2⟩ := hg i _ h1
    have q3 := vb h2
    have rr := h.rr i r _ q1 q3
    cases r with
    | val d' => cases q2
    | fr d' => exact .inl (h.fn i _ _ q1 q3 b rfl)
    | al l =>
      have rr : σ[l]? = some (some (.ref b)) := rr
      unfold argOf at q2
      dsimp only at q2
      split at q2
      · cases q2
      · rename_i d2 q
        exact .inr ⟨l, _, q, rr⟩
      · cases q2
  have oa2 : ∀ {b : Addr}, Own as (vs.map some) b → H b = none ∨ Own ρ σ b := fun {b} z => by
    rcases oa z with z | z
    · exact .inl z
    · exact (s.mo b z).symm
  -- each name: handed over, or as it was
  have cas : ∀ (l : Nat), (∃ (k : Nat) (d : D) (f : Sl) (v : V), rs[k]? = some (.al l) ∧ ρ1[l]? = some (.own d) ∧ fs[k]? = some f ∧ vs[k]? = some v ∧ σ[l]? = some (some v) ∧ (giveBack ρ1 rs fs)[l]? = some f) ∨
      ((giveBack ρ1 rs fs)[l]? = ρ1[l]? ∧ ∀ (k : Nat) (d : D), rs[k]? = some (.al l) → ρ1[l]? = some (.own d) → False) := fun l => by
    by_cases z : ∃ (k : Nat) (d : D), rs[k]? = some (.al l) ∧ ρ1[l]? = some (.own d)
    · obtain ⟨k, d, h1, h2⟩ := z
      have hk := (List.getElem?_eq_some_iff.mp h1).1
      have hv : vs[k]? = some (vs[k]'(by rw [h.len]; exact hk)) := List.getElem?_eq_getElem _
      have hf : fs[k]? = some (fs[k]'(by rw [hfs]; exact hk)) := List.getElem?_eq_getElem _
      exact .inl ⟨k, d, _, _, h1, h2, hf, hv, h.rr k _ _ h1 hv, gb_in h2 nd h1 hf⟩
    · have z' : ∀ (k : Nat) (d : D), rs[k]? = some (.al l) → ρ1[l]? = some (.own d) → False := fun k d h1 h2 => z ⟨k, d, h1, h2⟩
      exact .inr ⟨gb_out z', z'⟩
  have own1 : ∀ {l : Nat} {d : D}, (giveBack ρ1 rs fs)[l]? = some (.own d) → ∃ d', ρ1[l]? = some (.own d') := fun {l d} hl => by
    rcases cas l with ⟨k, d', f, v, _, h2, _⟩ | ⟨h1, _⟩
    · exact ⟨d', h2⟩
    · exact ⟨d, by rw [← h1]; exact hl⟩
  have vm : ∀ {i : Nat} {v : V}, vs[i]? = some v → (vs.map some)[i]? = some (some v) := fun {i v} hi => by rw [List.getElem?_map, hi]; rfl
  have oo : ∀ b, Own (giveBack ρ1 rs fs) σ b → Own ρ1 σ b := fun b ⟨l, d, h1, h2⟩ => by
    obtain ⟨d', h3⟩ := own1 h1
    exact ⟨l, d', h3, h2⟩
  refine ⟨⟨fun b z => t.up b (s.up b z), ⟨by rw [gb_len]; exact s.mt.len, t.mt.trk, fun l d hl => ?_, fun l d hl => ?_, fun i j d d' a h1 h2 h3 h4 => ?_⟩, fun b o hb n => ?_, fun b hb => ?_, fun b hb => s.mo b (oo b hb), fun b z => t.nw b (s.nw b z), fun _ _ => rfl⟩, oo⟩
  · rcases cas l with ⟨k, d', f, v, h1, h2, h3, h4, h5, h6⟩ | ⟨h1, _⟩
    · rw [hl] at h6
      cases h6
      obtain ⟨v', q1, q2⟩ := t.mt.ro k d h3
      rw [vm h4] at q1
      cases q1
      exact ⟨v, h5, q2⟩
    · rw [h1] at hl
      obtain ⟨v, q1, q2⟩ := s.mt.ro l d hl
      exact ⟨v, q1, SS.rep ma t q2⟩
  · rcases cas l with ⟨k, d', f, v, h1, h2, h3, h4, h5, h6⟩ | ⟨h1, hn⟩
    · rw [hl] at h6
      cases h6
      obtain ⟨a, q1, q2, q3⟩ := t.mt.own k d h3
      rw [vm h4] at q1
      cases q1
      exact ⟨a, h5, q2, q3⟩
    · rw [h1] at hl
      obtain ⟨a, q1, q2, q3⟩ := s.mt.own l d hl
      have na : ¬ Own as (vs.map some) a := fun ⟨i, e', e1, e2⟩ => by
        obtain ⟨r, x1, x2⟩ := hg i _ e1
        have x3 := vb e2
        have rr := h.rr i r _ x1 x3
        cases r with
        | val d' => cases x2
        | fr d' =>
          obtain ⟨b, eb, n1, n2, _⟩ := rr
          cases eb
          exact n2 ⟨l, d, hl, q1⟩
        | al l' =>
          have rr : σ[l']? = some (some (.ref a)) := rr
          unfold argOf at x2
          dsimp only at x2
          split at x2
          · cases x2
          · rename_i d2 q
            have := s.mt.inj l l' _ _ a hl q q1 rr
            subst this
            exact hn i _ x1 q
          · cases x2
      refine ⟨a, q1, fun z => ?_, SS.top ma t q3 na⟩
      obtain ⟨o, ho, _⟩ := q3.there
      rcases t.bd a z with z | z | z
      · exact q2 z
      · rw [ho] at z; cases z
      · exact na z
  · obtain ⟨e1, h1⟩ := own1 h1
    obtain ⟨e2, h2⟩ := own1 h2
    exact s.mt.inj i j e1 e2 a h1 h2 h3 h4
  · refine t.fr b o (s.fr b o hb n) fun z => ?_
    rcases oa2 z with z | z
    · rw [hb] at z; cases z
    · exact n z
  · rcases t.bd b hb with z | z | z
    · exact s.bd b z
    · refine .inr (.inl ?_)
      cases q : H b with
      | none => rfl
      | some o => exact absurd z (s.nw b (by rw [q]; simp))
    · rcases oa2 z with z | z
      · exact .inr (.inl z)
      · exact .inr (.inr z)
end
end PV

namespace PV
open PySem PySem.Spec PyProof.Rows L2
structure PlainFd (fd : FuncData) (names : List Str) : Prop where
  po : fd.params.posonlyargs = []
  ar : fd.params.args.map (·.arg) = names
  va : fd.params.vararg = none
  ko : fd.params.kwonlyargs = []
  kw : fd.params.kwarg = none
  df : fd.defaults = .none
theorem bind_loop {f : Str × Value → (List (Str × Value)) × (List (Str × Value)) → Sem (ForInStep ((List (Str × Value)) × (List (Str × Value))))} {normal : List Str}
    (hf : ∀ k v s, k ∈ normal → s.1.lookup k = none → f (k, v) s = pure (.yield ⟨s.1 ++ [(k, v)], s.2⟩)) :
    ∀ (kw slots extra : List (Str × Value)), (∀ p ∈ kw, p.1 ∈ normal) → (kw.map (·.1)).Nodup → (∀ p ∈ kw, slots.lookup p.1 = none) → forIn kw (slots, extra) f = pure (slots ++ kw, extra)
  | [], slots, extra, _, _, _ => by rw [List.forIn_nil, List.append_nil]
  | (k, v) :: kw, slots, extra, h1, h2, h3 => by
    rw [List.forIn_cons, hf k v _ (h1 _ List.mem_cons_self) (h3 _ List.mem_cons_self)]
    have ih := bind_loop hf kw (slots ++ [(k, v)]) extra (fun p hp => h1 p (List.mem_cons_of_mem _ hp)) (List.nodup_cons.mp h2).2 fun p hp => by
      rw [List.lookup_append, h3 p (List.mem_cons_of_mem _ hp)]
      have ne : p.1 ≠ k := fun e => (List.nodup_cons.mp h2).1 (List.mem_map.mpr ⟨p, hp, e⟩)
      have : (p.1 == k) = false := by simpa using ne
      simp [List.lookup_cons, this]
    show (forIn kw (slots ++ [(k, v)], extra) f) = _
    rw [ih, List.append_assoc]
    rfl
theorem lookup_zip {x : Str} : ∀ {L : List Str} {vals : List Value}, L.length = vals.length → x ∈ L → (L.zip vals).lookup x = vals[L.idxOf x]? ∧ L.idxOf x < vals.length
  | [], _, _, h => by simp at h
  | y :: L, [], e, _ => by simp at e
  | y :: L, v :: vals, e, h => by
    rw [List.zip_cons_cons, List.lookup_cons, List.idxOf_cons]
    by_cases q : x = y
    · subst q
      simp
    · have q1 : (x == y) = false := by simpa using q
      have q2 : (y == x) = false := by simpa using fun z => q z.symm
      have hx : x ∈ L := (List.mem_cons.mp h).resolve_left q
      obtain ⟨h1, h2⟩ := lookup_zip (L := L) (vals := vals) (by simpa using e) hx
      rw [q1, q2]
      simp only [cond_false, List.getElem?_cons_succ, List.length_cons]
      exact ⟨h1, by omega⟩
theorem fm_congr {α β : Type} {f g : α → Option β} : ∀ (l : List α), (∀ n ∈ l, f n = g n) → l.filterMap f = l.filterMap g
  | [], _ => rfl
  | n :: l, h => by rw [List.filterMap_cons, List.filterMap_cons, h n List.mem_cons_self, fm_congr l fun m hm => h m (List.mem_cons_of_mem _ hm)]
theorem zip_binds {vals : List Value} {idx : Str → Nat} : ∀ (l : List Str), (∀ n ∈ l, idx n < vals.length) → l.filterMap (fun n => (vals[idx n]?).map (n, ·)) = l.zip ((l.map idx).filterMap fun i => vals[i]?)
  | [], _ => rfl
  | n :: l, h => by
    have hn := h n List.mem_cons_self
    rw [List.filterMap_cons, List.map_cons, List.filterMap_cons, List.getElem?_eq_getElem hn]
    simp only [Option.map_some, List.zip_cons_cons]
    rw [zip_binds l fun m hm => h m (List.mem_cons_of_mem _ hm)]
/-- how a call binds: n arguments by position, ks by name -/
def bindC (names : List Str) (n : Nat) (ks : List Str) (perm : List Nat) : Bool :=
  decide names.Nodup && decide ks.Nodup && decide (n + ks.length = names.length) && ks.all (fun k => decide (k ∈ names.drop n)) && names.all (fun x => decide (x ∈ names.take n ++ ks)) && decide (perm = names.map fun x => (names.take n ++ ks).idxOf x)
theorem bindArgs_plain {fd : FuncData} {names ks : List Str} {us ws : List Value} {perm : List Nat} (h : PlainFd fd names) (hw : ws.length = ks.length) (hc : bindC names us.length ks perm = true) :
    bindArgs fd ⟨us, ks.zip ws⟩ = pure (names.zip (permV (us ++ ws) perm)) := by
  unfold bindC at hc
  simp only [Bool.and_eq_true, decide_eq_true_eq, List.all_eq_true] at hc
  obtain ⟨⟨⟨⟨⟨nn, nk⟩, hl⟩, hk⟩, hm⟩, hp⟩ := hc
  have hz : names.zip us ++ ks.zip ws = (names.take us.length ++ ks).zip (us ++ ws) := by
    rw [List.zip_append (by rw [List.length_take]; omega)]
    congr 1
    rw [List.zip_eq_zip_take_min]
    have : min names.length us.length = us.length := by omega
    rw [this, List.take_length]
  have hlen : (names.take us.length ++ ks).length = (us ++ ws).length := by rw [List.length_append, List.length_append, List.length_take]; omega
  have lk : ∀ n ∈ names, (names.zip us ++ ks.zip ws).lookup n = (us ++ ws)[(names.take us.length ++ ks).idxOf n]? ∧ (names.take us.length ++ ks).idxOf n < (us ++ ws).length := fun n hn => by
    rw [hz]
    exact lookup_zip hlen (hm n hn)
  unfold bindArgs
  simp only [h.po, h.ar, h.va, h.ko, h.kw, h.df, List.map_nil, List.nil_append, List.append_nil]
  rw [bind_loop (normal := names) (fun k v s h1 h2 => by
    have e1 : (names.contains k || ([] : List Str).contains k) = true := by simp [h1]
    rw [if_pos e1, if_neg (by rw [h2]; simp)]) (ks.zip ws) (names.zip us) [] ?b ?c ?d]
  · have e0 : seqItems? Value.none = pure none := rfl
    rw [pure_bind, e0, pure_bind]
    have e1 : ¬ (decide (us.length > names.length) && (none : Option Arg).isNone) = true := by simp; omega
    rw [if_neg e1]
    have e2 : ∀ l : List Str, (∀ n ∈ l, n ∈ names) → l.filter (fun n => (List.lookup n (names.zip us ++ ks.zip ws)).isNone) = [] := fun l hl => List.filter_eq_nil_iff.mpr fun n hn => by
      obtain ⟨q1, q2⟩ := lk n (hl n hn)
      rw [q1, List.getElem?_eq_getElem q2]
      simp
    have e3 := e2 (List.take (names.length - (List.drop (((none : Option (Array Value)).getD #[]).toList.length - names.length) ((none : Option (Array Value)).getD #[]).toList).length) names) fun n hn => List.mem_of_mem_take hn
    rw [if_neg (by rw [e3]; simp)]
    simp only [Option.getD_none, List.drop_nil, List.zip_nil_right, List.forIn_nil, pure_bind, List.isEmpty_nil, Bool.not_true, Bool.false_eq_true, if_false]
    congr 1
    rw [hp]
    have e5 : names.filterMap (fun n => ((names.zip us ++ ks.zip ws).lookup n).map (n, ·)) = names.filterMap (fun n => ((us ++ ws)[(names.take us.length ++ ks).idxOf n]?).map (n, ·)) := by
      exact fm_congr names fun n hn => by rw [(lk n hn).1]
    rw [e5]
    exact zip_binds names fun n hn => (lk n hn).2
  · intro p hp'
    have := hk p.1 (List.of_mem_zip hp').1
    exact List.mem_of_mem_drop this
  · rw [List.map_fst_zip (by omega)]
    exact nk
  · intro p hp'
    have hp1 := hk p.1 (List.of_mem_zip hp').1
    refine List.lookup_eq_none_iff.mpr fun q hq => ?_
    have hq1 : q.1 ∈ names.take us.length := by
      rw [List.zip_eq_zip_take_min] at hq
      have := (List.of_mem_zip hq).1
      have e : min names.length us.length = us.length := by omega
      rwa [e] at this
    have : p.1 ≠ q.1 := fun e => by
      have nn' := nn
      rw [← List.take_append_drop us.length names] at nn'
      exact (List.nodup_append.mp nn').2.2 _ hq1 _ hp1 e.symm
    simpa using this

theorem Vals.permV {vs : List V} {us : List Value} (r : Vals vs us) : ∀ (perm : List Nat), Vals (PV.permV vs perm) (PV.permV us perm)
  | [] => .nil
  | i :: perm => by
    have ih := Vals.permV r perm
    have hl := r.length
    unfold PV.permV at ih ⊢
    rw [List.filterMap_cons, List.filterMap_cons]
    by_cases hi : i < vs.length
    · obtain ⟨u, hu, ru⟩ := r.get (List.getElem?_eq_getElem hi)
      rw [List.getElem?_eq_getElem hi, hu]
      exact .cons ru ih
    · rw [List.getElem?_eq_none (by omega), List.getElem?_eq_none (by omega)]
      exact ih
theorem kbn_plain {K : PySem.W.Frag} {fd : FuncData} {names ks : List Str} {n : Nat} {perm : List Nat} (h : PlainFd fd names) (hc : bindC names n ks perm = true) : KBn K fd names n ks (fun us ws => permV (us ++ ws) perm) (fun vs zs => permV (vs ++ zs) perm) :=
  ⟨fun s us ws _ l1 l2 => .of_eq (bindArgs_plain h l2 (by rw [l1]; exact hc)), fun r1 r2 => Vals.permV (r1.append r2) perm⟩
theorem kw_facts {pos : Pos} {env : Env} : ∀ {kws : List Keyword}, kws.all (fun k => k.arg.isSome) = true →
    (backToKw pos (keywordEach kws env)).all (·.1.isSome) = true ∧ (backToKw pos (keywordEach kws env)).filterMap (·.1) = kws.filterMap (·.arg) ∧ (backToKw pos (keywordEach kws env)).any (·.1.isNone) = false
  | [], _ => ⟨rfl, rfl, rfl⟩
  | ⟨nm, v, p⟩ :: kws, h => by
    rw [List.all_cons, Bool.and_eq_true] at h
    obtain ⟨h1, h2, h3⟩ := kw_facts (pos := pos) (env := env) h.2
    cases nm with
    | none => cases h.1
    | some nm =>
      refine ⟨?_, ?_, ?_⟩
      · show (true && (backToKw pos (keywordEach kws env)).all (·.1.isSome)) = true
        rw [h1]; rfl
      · show nm :: (backToKw pos (keywordEach kws env)).filterMap (·.1) = nm :: kws.filterMap (·.arg)
        rw [h2]
      · show (false || (backToKw pos (keywordEach kws env)).any (·.1.isNone)) = false
        rw [h3]; rfl
theorem evs_len {C : Cfg} : ∀ {es : List E} {ρ ρ' : Rho} {rs : List Rs}, evs C es ρ = some (rs, ρ') → rs.length = es.length
  | [], _, _, _, e => by cases e; rfl
  | a :: es, ρ, ρ', rs, e => by
    obtain ⟨⟨r, ρ1⟩, e1, e⟩ := Option.bind_eq_some_iff.mp (show (ev C a ρ).bind _ = some (rs, ρ') from e)
    obtain ⟨⟨rs', ρ2⟩, e2, e⟩ := Option.map_eq_some_iff.mp e
    cases e
    rw [List.length_cons, List.length_cons, evs_len e2]
section
variable {X : Cx} {p : Pg} {fuel k : Nat} {fa : Addr} {e : Expr} {fd : FuncData} {ps ks : List Str} {x : Str} {pp pos : Pos} {es : List Expr} {kws : List Keyword} {mes mks : List E} {perm : List Nat}
/-- the reading of a call -/
theorem call_end {σ : St} {H : Hp} {Q : VK} (hks : mks.length = ks.length) (h : tD X.K X.w (cfg p fuel k) (.call x mes mks perm) σ H Q) :
    tA X.K X.w (cfg p fuel k) mes σ H fun vs H1 => tA X.K X.w (cfg p fuel k) mks σ H1 fun zs H2 => vs.length = mes.length ∧ zs.length = ks.length ∧ spF X.K X.w p fuel k x (permV (vs ++ zs) perm) H2 Q E0 := by
  obtain ⟨R, ρ, r, ρ', m, e, q⟩ := h
  obtain ⟨⟨ra, ρ0⟩, e1, e⟩ := Option.bind_eq_some_iff.mp (show (evs (cfg p fuel k) mes ρ).bind _ = some (r, ρ') from e)
  obtain ⟨⟨rb, ρ1⟩, e2, e⟩ := Option.bind_eq_some_iff.mp e
  obtain ⟨rs, e3, e⟩ := Option.bind_eq_some_iff.mp e
  obtain ⟨as, e4, e⟩ := Option.bind_eq_some_iff.mp e
  dsimp only at e
  split at e
  · rename_i nd
    obtain ⟨⟨r2, fs⟩, e5, e⟩ := Option.bind_eq_some_iff.mp e
    dsimp only at e
    split at e
    · cases e
    · rename_i na
      cases e
      refine ⟨R, ρ, ra, ρ0, m, e1, fun vs H1 R1 s1 rr1 f1 => ⟨R1, ρ0, rb, ρ1, s1.mt, e2, fun zs H2 R2 s2 rr2 f2 => ?_⟩⟩
      refine ⟨by rw [rr1.length, evs_len e1], by rw [rr2.length, evs_len e2, hks], ?_⟩
      have s12 := s1.trans s2
      have rq := (RRq.of ((rr1.step s1.mt s2).append rr2) (FrNs.append s1 rr1 f1 f2)).perm e3
      have ma := args_mt s12.mt rq e4 nd
      refine ⟨R2, as, r, fs, ma, e5, by simpa using na, fun v H' R' t rr f => ?_⟩
      obtain ⟨s3, so⟩ := call_step m s12 rq e4 nd t
      cases r with
      | al i => exact absurd rfl na
      | val d => exact q v H' R' s3 rr trivial
      | fr d =>
        obtain ⟨a, rfl, n1, n2, tp⟩ := rr
        refine q _ H' R' s3 ⟨a, rfl, n1, fun z => ?_, tp⟩ (FrN.back s12.nw f)
        obtain ⟨d', _, tp'⟩ := s12.mt.ownTop (so a z)
        obtain ⟨o, ho, _⟩ := tp'.there
        rw [f a rfl] at ho
        cases ho
  · cases e
theorem px_call (F : FnOk X.prog X.w X.K X.mg X.base CX0 k fa fd ps (spF X.K X.w p fuel k x)) (hr : Room k X.A) (hg : Gl X x) (hm : X.mg x = some (.ref fa)) (hk : PySem.W.keepIn X.K (.ref fa) = true) (hp : PlainFd fd ps) (hc : bindC ps mes.length ks perm = true)
    (hdb : (x == ("__debug__" : Str)) = false) (ha : PA X (e :: es) (tA X.K X.w (cfg p fuel k) mes)) (hkw : PK X kws (tA X.K X.w (cfg p fuel k) mks)) (hs : (e :: es).all (fun e => !isStar e) = true) (hkn : kws.all (fun k => k.arg.isSome) = true) (hks : kws.filterMap (·.arg) = ks) (hml : mks.length = ks.length) :
    PE X (.Call (.Name x pp) (e :: es) kws pos) (tD X.K X.w (cfg p fuel k) (.call x mes mks perm)) := by
  refine ⟨fun pins s σ H Q I h => ?_⟩
  have h := call_end (ks := ks) hml h
  obtain ⟨k1, k2, k3⟩ := kw_facts (pos := pos) (env := X.env) hkn
  refine wpAny_Call_Name_kw (ld_glob I hg hm ?_ hdb)
  rw [List.all_cons, Bool.and_eq_true] at hs
  have he : isStar e = false := by simpa using hs.1
  refine PySem.W.callWith_KW (h₀ := X.base) I.ok.mod.kin hk k1 (thn (ha.run pos pins s σ H _ I h) fun us s1 ⟨vs, H1, I1, r, q⟩ => ?_) ?_ (star_cons he)
  · refine thn (hkw.run pos pins s1 σ H1 _ I1 q) fun ws s2 ⟨zs, H2, I2, rz, l1, l2, q2⟩ => ⟨I2.kIn, ?_⟩
    rw [k2, hks]
    exact run_fnN F hr (kbn_plain hp hc) pass0 I2 r rz l1 l2 q2
  · rw [star_plain (es := e :: es) (by rw [List.all_cons, he, hs.2]; rfl), k3]
    rfl
theorem px_call0 (F : FnOk X.prog X.w X.K X.mg X.base CX0 k fa fd ps (spF X.K X.w p fuel k x)) (hr : Room k X.A) (hg : Gl X x) (hm : X.mg x = some (.ref fa)) (hk : PySem.W.keepIn X.K (.ref fa) = true) (hp : PlainFd fd ps) (hc : bindC ps 0 ks perm = true)
    (hdb : (x == ("__debug__" : Str)) = false) (hkw : PK X kws (tA X.K X.w (cfg p fuel k) mks)) (hkn : kws.all (fun k => k.arg.isSome) = true) (hks : kws.filterMap (·.arg) = ks) (hml : mks.length = ks.length) :
    PE X (.Call (.Name x pp) [] kws pos) (tD X.K X.w (cfg p fuel k) (.call x [] mks perm)) := by
  refine ⟨fun pins s σ H Q I h => ?_⟩
  have h := nil_tA (call_end (ks := ks) hml h)
  obtain ⟨k1, k2, k3⟩ := kw_facts (pos := pos) (env := X.env) hkn
  refine wpAny_Call_Name_kw (ld_glob I hg hm ?_ hdb)
  refine PySem.W.callWith_KW0 (h₀ := X.base) I.ok.mod.kin hk k1 (thn (hkw.run pos pins s σ H _ I h) fun ws s2 ⟨zs, H2, I2, rz, l1, l2, q2⟩ => ⟨I2.kIn, ?_⟩) k3
  rw [k2, hks]
  exact run_fnN F hr (kbn_plain hp hc) pass0 I2 (us := []) (vs := []) .nil rz l1 l2 q2
end
end PV

/-! PV, part W: the program's text as the interpreter's. -/
namespace PV
open PySem PySem.Spec PyProof.Rows L2

/-- the slots' names; the program's own functions with their parameters; the built-in names that it does not shadow -/
structure Tab where
  N : List Str
  fns : List (Str × List Str)
  bl : List Str

/-! ### names -/
def visB (sc : Scope) (x : Str) : Bool := match sc.names.lookup x with
  | some .local => true
  | some .cell => true
  | some .free => true
  | _ => false
def locB (sc : Scope) (fn : Str → Bool) (x : Str) : Bool := match sc.names.lookup x with
  | some .local => true
  | some .cell => fn x
  | _ => false
def glB (sc : Scope) (x : Str) : Bool := match sc.names.lookup x with
  | some .globalImplicit => true
  | _ => false
def nmOk (x : Str) : Bool := !(x == ("__debug__" : Str)) && !(x == ("__classdict__" : Str))
def badE : E := .rng []
def trC : Const → Option D
  | .none => some .non
  | .bool b => some (.bl b)
  | .int i => some (.int i)
  | .str s => some (.str s)
  | _ => none
def btTab : List (Str × Bt) := [("len", .len), ("tuple", .tuple), ("list", .list), ("sorted", .sorted), ("sum", .sum), ("min", .min), ("max", .max), ("abs", .abs), ("int", .int), ("divmod", .divmod), ("all", .all), ("any", .any), ("set", .set)]
def btOf (x : Str) : Option Bt := btTab.lookup x
def tyTab : List (Str × String) := [("int", "int"), ("bool", "bool"), ("str", "str"), ("tuple", "tuple"), ("list", "list"), ("dict", "dict")]
def tyOf (x : Str) : Option String := tyTab.lookup x
theorem btTab_facts : ∀ p ∈ btTab, bootBuiltins p.1 = some (btV p.2) ∧ p.1 ≠ "__name__" ∧ (p.1 == ("__debug__" : Str)) = false := by decide +kernel
theorem tyTab_facts : ∀ p ∈ tyTab, Str.ofString p.2 = p.1 ∧ bootBuiltins p.1 = some (.type p.2) ∧ p.1 ≠ "__name__" ∧ (p.1 == ("__debug__" : Str)) = false := by decide +kernel
theorem btOf_facts {x : Str} {f : Bt} (h : btOf x = some f) : bootBuiltins x = some (btV f) ∧ x ≠ "__name__" ∧ (x == ("__debug__" : Str)) = false := btTab_facts _ (PySem.mem_of_lookup h)
theorem tyOf_facts {x : Str} {t : String} (h : tyOf x = some t) : Str.ofString t = x ∧ bootBuiltins x = some (.type t) ∧ x ≠ "__name__" ∧ (x == ("__debug__" : Str)) = false := tyTab_facts _ (PySem.mem_of_lookup h)

/-! ### targets -/
def tgName (T : Tab) (sc : Scope) (fn : Str → Bool) : Expr → Option Nat
  | .Name x _ => if locB sc fn x && decide (x ∈ T.N) then some (T.N.idxOf x) else none
  | _ => none
def tgNames (T : Tab) (sc : Scope) (fn : Str → Bool) : List Expr → Option (List Nat)
  | [] => some []
  | e :: es => (tgName T sc fn e).bind fun i => (tgNames T sc fn es).map (i :: ·)
def trG (T : Tab) (sc : Scope) (fn : Str → Bool) : Expr → Option Tg
  | .Tuple es _ _ => (tgNames T sc fn es).map .tp
  | e => (tgName T sc fn e).map .nm
/-- the names of a target, with their slots -/
def tgOwn (T : Tab) : Expr → List (Str × Nat)
  | .Name x _ => [(x, T.N.idxOf x)]
  | .Tuple es _ _ => es.filterMap fun e => match e with
    | .Name x _ => some (x, T.N.idxOf x)
    | _ => none
  | _ => []
def isSetE : Expr → Bool
  | .Set .. => true
  | _ => false
def isComp : Expr → Bool
  | .ListComp .. => true
  | .SetComp .. => true
  | .DictComp .. => true
  | _ => false
def blkFn (scope : Scope) : Str → Bool := fun x => scope.names.lookup x == some .cell
def isTupT : Expr → Bool
  | .Tuple .. => true
  | _ => false

/-! ### expressions -/
mutual
def trE (T : Tab) : Nat → Scope → (Str → Bool) → Expr → E
  | 0, _, _, _ => badE
  | n + 1, sc, fn, e => match e with
    | .Name x _ => if visB sc x && nmOk x && decide (x ∈ T.N) then .var (T.N.idxOf x) else if glB sc x && nmOk x then .glb x else badE
    | .Constant c _ _ => match trC c with
      | some d => .con d
      | none => badE
    | .BinOp a op b _ => .bin op (trE T n sc fn a) (trE T n sc fn b)
    | .UnaryOp .USub a _ => .neg (trE T n sc fn a)
    | .UnaryOp .Not a _ => .not (trE T n sc fn a)
    | .BoolOp _ [a] _ => trE T n sc fn a
    | .BoolOp .And (a :: b :: r) pos => .bop true (trE T n sc fn a) (trE T n sc fn (.BoolOp .And (b :: r) pos))
    | .BoolOp .Or (a :: b :: r) pos => .bop false (trE T n sc fn a) (trE T n sc fn (.BoolOp .Or (b :: r) pos))
    | .IfExp c a b _ => .ife (trT T n sc fn c) (trE T n sc fn a) (trE T n sc fn b)
    | .Compare a [op] [b] _ => if behindInMarks op b then badE else .cmp op (trE T n sc fn a) (trE T n sc fn b)
    | .Compare a [op, op'] [b, c] _ => if lastMarks [op, op'] [b, c] then badE else .chn op op' (trE T n sc fn a) (trE T n sc fn b) (trE T n sc fn c)
    | .Tuple es _ _ => if es.all (fun e => !isStar e) then .tup (es.map (trE T n sc fn)) else badE
    | .List es _ => if es.all (fun e => !isStar e) then .lst (es.map (trE T n sc fn)) else badE
    | .Subscript a i _ => match i with
      | .Slice lo hi none _ => .slc (trE T n sc fn a) (lo.map (trE T n sc fn)) (hi.map (trE T n sc fn))
      | i => if isSlice i then badE else .ix (trE T n sc fn a) (trE T n sc fn i)
    | .ListComp elt [⟨tg, it, ifs, 0⟩] scope _ =>
      match trG T (relS scope sc) (blkFn scope) tg with
      | some t => if blkC T.N sc scope (tgOwn T tg) && decide ((tgOwn T tg).map (·.2) = t.slots) && !isSetE it then
          match ifs with
          | [] => .lc (trE T n (relS scope sc) (blkFn scope) elt) t (trI T n sc fn tg it) none
          | [c] => .lc (trE T n (relS scope sc) (blkFn scope) elt) t (trI T n sc fn tg it) (some (trT T n (relS scope sc) (blkFn scope) c))
          | _ => badE
        else badE
      | none => badE
    | .Call f args kws pos => match f with
      | .Name x _ =>
        if glB sc x && !(x == ("__debug__" : Str)) && args.all (fun e => !isStar e) && kws.all (fun k => k.arg.isSome) then
          match T.fns.lookup x with
          | some ps => if bindC ps args.length (kws.filterMap (·.arg)) (ps.map fun y => (ps.take args.length ++ kws.filterMap (·.arg)).idxOf y) then
              .call x (args.map (trE T n sc fn)) (kws.map fun k => trE T n sc fn k.value) (ps.map fun y => (ps.take args.length ++ kws.filterMap (·.arg)).idxOf y) else badE
          | none =>
            if decide (x ∈ T.bl) && kws.isEmpty then
              match args with
              | [] => badE
              | a :: r =>
                match (if x = "isinstance" then (match r with
                    | [.Name t _] => if glB sc t && decide (t ∈ T.bl) then (tyOf t).map fun t => E.isi (trE T n sc fn a) t else none
                    | _ => none) else none) with
                | some m => m
                | none =>
                  match (if (x = "tuple" ∨ x = "list") ∧ r = [] then (match a with
                      | .Call (.Name g _) rs [] _ => if g = "range" ∧ glB sc g ∧ g ∈ T.bl ∧ glB sc "list" ∧ glB sc "tuple" ∧ ("list" : Str) ∈ T.bl ∧ ("tuple" : Str) ∈ T.bl then (match rs with
                          | [b] => if isStar b then none else some (E.ofr (decide (x = "tuple")) [trE T n sc fn b])
                          | [b, c] => if isStar b || isStar c then none else some (E.ofr (decide (x = "tuple")) [trE T n sc fn b, trE T n sc fn c])
                          | _ => none) else none
                      | _ => none) else none) with
                  | some m => m
                  | none => match btOf x with
                    | some f => .blt f ((a :: r).map (trE T n sc fn))
                    | none => badE
            else badE
        else badE
      | .Attribute (.Name x _) m apos =>
        if visB sc x && nmOk x && decide (x ∈ T.N) && (apos.endLine == pos.line) && kws.isEmpty then
          match args with
          | [] => if m = "pop" then .pop (T.N.idxOf x) else badE
          | [a] => if isStar a then badE else if m = "append" then .app (T.N.idxOf x) (trE T n sc fn a) else if m = "extend" then .ext (T.N.idxOf x) (trE T n sc fn a)
              else if m = "pop" then .popi (T.N.idxOf x) (trE T n sc fn a) else badE
          | _ => badE
        else badE
      | _ => badE
    | _ => badE
def trT (T : Tab) : Nat → Scope → (Str → Bool) → Expr → E
  | 0, _, _, _ => badE
  | n + 1, sc, fn, e => match e with
    | .UnaryOp .Not a _ => .not (trT T n sc fn a)
    | .BoolOp _ [a] _ => trT T n sc fn a
    | .BoolOp .And (a :: b :: r) pos => .bop true (trT T n sc fn a) (trT T n sc fn (.BoolOp .And (b :: r) pos))
    | .BoolOp .Or (a :: b :: r) pos => .bop false (trT T n sc fn a) (trT T n sc fn (.BoolOp .Or (b :: r) pos))
    | .Compare a [op] [b] _ => if behindInMarks op b then badE else .cmp op (trE T n sc fn a) (trE T n sc fn b)
    | .Compare a [op, op'] [b, c] _ => if lastMarks [op, op'] [b, c] then badE else .chn op op' (trE T n sc fn a) (trE T n sc fn b) (trE T n sc fn c)
    | e => if isPlainTest e then .tru (trE T n sc fn e) else badE
def trI (T : Tab) : Nat → Scope → (Str → Bool) → Expr → Expr → E
  | 0, _, _, _, _ => badE
  | n + 1, sc, fn, tg, e => match (match e with
      | .Call (.Name g _) args [] _ =>
        if glB sc g && decide (g ∈ T.bl) then
          (if g = "range" then (match args with
            | [a] => if isStar a then none else some (E.rng [trE T n sc fn a])
            | [a, b] => if isStar a || isStar b then none else some (E.rng [trE T n sc fn a, trE T n sc fn b])
            | _ => none)
          else if g = "enumerate" then (match args with
            | [a] => if isStar a || !isTupT tg then none else some (E.enm (trE T n sc fn a))
            | _ => none)
          else if g = "zip" then (match args with
            | [a, b] => if isStar a || isStar b || !isTupT tg then none else some (E.zip (trE T n sc fn a) (trE T n sc fn b))
            | _ => none)
          else none)
        else none
      | _ => none) with
    | some m => m
    | none => .ovr (trE T n sc fn e)
end
end PV

/-! PV, part X: what the translation of an expression says. -/
namespace PV
open PySem PySem.Spec PyProof.Rows L2

/-- a context that the translation fits -/
structure XOk (p : Pg) (fuel k : Nat) (T : Tab) (sc : Scope) (fn : Str → Bool) (X : Cx) : Prop where
  calm : X.calm = true
  hN : X.N = T.N
  nd : T.N.Nodup
  hsc : X.env.scope = sc
  kd : sc.kind = .function
  hfn : X.fn = fn
  room : Room k X.A
  nox : X.xe = fun _ _ => False
  bl : ∀ x ∈ T.bl, X.mg x = none
  gl : ∀ x d, p.glb x = some d → ∃ v u, X.mg x = some u ∧ RelV v u ∧ ∀ R H, Rep X.K X.w R H d v
  fns : ∀ x ps, T.fns.lookup x = some ps → ∃ fa fd, FnOk X.prog X.w X.K X.mg X.base CX0 k fa fd ps (spF X.K X.w p fuel k x) ∧ X.mg x = some (.ref fa) ∧ PySem.W.keepIn X.K (.ref fa) = true ∧ PlainFd fd ps

section
variable {p : Pg} {fuel k : Nat} {T : Tab} {sc : Scope} {fn : Str → Bool} {X : Cx}
theorem XOk.blk (h : XOk p fuel k T sc fn X) {scope : Scope} (hs : scope.kind = .function) (s : Shared) (H : Hp) (C : Addr) (cl : List (Str × Addr)) (fp : List Addr) :
    XOk p fuel k T (relS scope sc) (blkFn scope) (X.blk s H scope (compEnvC scope cl C X.env) fp) where
  calm := h.calm
  hN := h.hN
  nd := h.nd
  hsc := by rw [← h.hsc]; rfl
  kd := hs
  hfn := rfl
  room := h.room
  nox := rfl
  bl := h.bl
  gl := h.gl
  fns := h.fns
theorem XOk.units (h : XOk p fuel k T sc fn X) : X.A.units + 65 < cLine := by have := h.room.un; omega
theorem XOk.gl' (h : XOk p fuel k T sc fn X) {x : Str} (e : glB sc x = true) : Gl X x := by
  unfold glB at e
  split at e
  · rename_i q
    show X.env.scope.names.lookup x = _
    rw [h.hsc]
    exact q
  · cases e
theorem XOk.vis (h : XOk p fuel k T sc fn X) {x : Str} (e : visB sc x = true) : Vis X.env.scope x := by
  unfold visB at e
  rw [h.hsc]
  split at e
  · exact .inl (by assumption)
  · exact .inr (.inl (by assumption))
  · exact .inr (.inr (by assumption))
  · cases e
theorem XOk.loc (h : XOk p fuel k T sc fn X) {x : Str} (e : locB sc fn x = true) : Loc X.env.scope x ∧ (X.fn x = true ∨ X.env.scope.names.lookup x = some .local) := by
  unfold locB at e
  rw [h.hsc, h.hfn]
  split at e
  · exact ⟨.inl (by assumption), .inr (by assumption)⟩
  · exact ⟨.inr (by assumption), .inl e⟩
  · cases e
theorem idx_get {x : Str} {N : List Str} (h : x ∈ N) : N[N.idxOf x]? = some x := by
  have hl : N.idxOf x < N.length := List.idxOf_lt_length_iff.mpr h
  rw [List.getElem?_eq_getElem hl]
  exact congrArg some (List.getElem_idxOf hl)
theorem XOk.slot (h : XOk p fuel k T sc fn X) {x : Str} (e : x ∈ T.N) : X.N[T.N.idxOf x]? = some x := by rw [h.hN]; exact idx_get e
theorem nmOk_facts {x : Str} (h : nmOk x = true) : (x == ("__debug__" : Str)) = false ∧ (x == ("__classdict__" : Str)) = false := by
  unfold nmOk at h
  simpa using h
theorem and2 {a b : Bool} (h : (a && b) = true) : a = true ∧ b = true := by simpa using h
theorem and3 {a b c : Bool} (h : (a && b && c) = true) : a = true ∧ b = true ∧ c = true := by
  obtain ⟨h1, h2⟩ := and2 h
  exact ⟨(and2 h1).1, (and2 h1).2, h2⟩

/-! ### code that is never reached -/
theorem px_bad {C : Cfg} {e : Expr} : PE X e (tD X.K X.w C badE) := ⟨fun pins s σ H Q I h => by
  obtain ⟨R, ρ, r, ρ', m, e, q⟩ := h
  cases e⟩
theorem px_tbad {C : Cfg} {e : Expr} : PT X e (tT X.K X.w C badE) := ⟨fun pins s σ H Q I h => by
  obtain ⟨R, ρ, r, ρ', m, e, q⟩ := h
  cases e⟩
theorem px_wbad {C : Cfg} {e : Expr} : PW X e (tT X.K X.w C badE) := ⟨fun wh pins s σ H Q I h => by
  obtain ⟨R, ρ, r, ρ', m, e, q⟩ := h
  cases e⟩
theorem px_ibad {C : Cfg} {tg e : Expr} : PI X tg e (tI X.K X.w C badE) := ⟨fun pins s σ H Q I h => by
  obtain ⟨R, ρ, r, ρ', m, e, q⟩ := h
  cases e⟩

/-! ### targets -/
theorem tr_name {np : Nat} {e : Expr} {i : Nat} (h : XOk p fuel k T sc fn X) (e1 : tgName T sc fn e = some i) : ∃ x pos, e = .Name x pos ∧ X.N[i]? = some x ∧ Loc X.env.scope x ∧ (X.fn x = true ∨ X.env.scope.names.lookup x = some .local) := by
  unfold tgName at e1
  split at e1
  · rename_i x pos
    split at e1
    · rename_i hz
      cases e1
      obtain ⟨h1, h2⟩ := and2 hz
      exact ⟨x, pos, rfl, h.slot (of_decide_eq_true h2), h.loc h1⟩
    · cases e1
  · cases e1
theorem tr_names {np : Nat} (h : XOk p fuel k T sc fn X) : ∀ {es : List Expr} {is : List Nat}, tgNames T sc fn es = some is → PGs X es (tGs X.K X.w np is) ∧ es.all isNameE = true ∧ es.length = is.length
  | [], is, e => by
    cases e
    exact ⟨px_gsnil, rfl, rfl⟩
  | e :: es, is, e1 => by
    obtain ⟨i, e2, e1⟩ := Option.bind_eq_some_iff.mp (show (tgName T sc fn e).bind _ = some is from e1)
    obtain ⟨js, e3, e1⟩ := Option.map_eq_some_iff.mp e1
    subst e1
    obtain ⟨x, pos, rfl, h1, h2, h3⟩ := tr_name (np := np) h e2
    obtain ⟨h4, h5, h6⟩ := tr_names h e3
    exact ⟨px_gscons (by rw [h.hN]; exact h.nd) h1 h2 h3 h4, by rw [List.all_cons, h5]; rfl, by rw [List.length_cons, List.length_cons, h6]⟩
theorem tr_G {np : Nat} {e : Expr} {t : Tg} (h : XOk p fuel k T sc fn X) (e1 : trG T sc fn e = some t) : PG X e (tG X.K X.w np t) := by
  unfold trG at e1
  split at e1
  · obtain ⟨is, e2, e1⟩ := Option.map_eq_some_iff.mp e1
    subst e1
    obtain ⟨h1, h2, h3⟩ := tr_names (np := np) h e2
    exact px_gtp h.calm h1 h2 h3
  · obtain ⟨i, e2, e1⟩ := Option.map_eq_some_iff.mp e1
    subst e1
    obtain ⟨x, pos, rfl, h1, h2, h3⟩ := tr_name (np := np) h e2
    exact px_gnm (by rw [h.hN]; exact h.nd) h1 h2 h3

/-! ### expressions -/
theorem isSetE_fold {it : Expr} {env : Env} (h : isSetE it = false) : ∀ x, foldedSetIterable it env x = pure x := by
  intro x
  cases it <;> first | rfl | cases h
structure TrOk (p : Pg) (fuel k : Nat) (T : Tab) (n : Nat) : Prop where
  e : ∀ (X : Cx) (sc : Scope) (fn : Str → Bool), XOk p fuel k T sc fn X → ∀ e : Expr, PE X e (tD X.K X.w (cfg p fuel k) (trE T n sc fn e))
  t : ∀ (X : Cx) (sc : Scope) (fn : Str → Bool), XOk p fuel k T sc fn X → ∀ e : Expr, PT X e (tT X.K X.w (cfg p fuel k) (trT T n sc fn e))
  w : ∀ (X : Cx) (sc : Scope) (fn : Str → Bool), XOk p fuel k T sc fn X → ∀ (op : BoolOp) (a : Expr) (r : List Expr) (pos : Pos), PW X (.BoolOp op (a :: r) pos) (tT X.K X.w (cfg p fuel k) (trT T n sc fn (.BoolOp op (a :: r) pos)))
  i : ∀ (X : Cx) (sc : Scope) (fn : Str → Bool), XOk p fuel k T sc fn X → ∀ tg e : Expr, PI X tg e (tI X.K X.w (cfg p fuel k) (trI T n sc fn tg e))
section
variable {n : Nat}
theorem tr_args (ih : TrOk p fuel k T n) (h : XOk p fuel k T sc fn X) : ∀ {es : List Expr}, es.all (fun e => !isStar e) = true → PA X es (tA X.K X.w (cfg p fuel k) (es.map (trE T n sc fn)))
  | [], _ => px_nil
  | e :: es, hs => by
    rw [List.all_cons, Bool.and_eq_true] at hs
    exact px_cons (ih.e X sc fn h e) (tr_args ih h hs.2) (by simpa using hs.1)
theorem tr_argsf (ih : TrOk p fuel k T n) (h : XOk p fuel k T sc fn X) : ∀ {es : List Expr}, es.all (fun e => !isStar e) = true → PA X es (tAf X.K X.w (cfg p fuel k) (es.map (trE T n sc fn)))
  | [], _ => px_fnil
  | e :: es, hs => by
    rw [List.all_cons, Bool.and_eq_true] at hs
    exact px_fcons (ih.e X sc fn h e) (tr_argsf ih h hs.2) (by simpa using hs.1)
theorem tr_kws (ih : TrOk p fuel k T n) (h : XOk p fuel k T sc fn X) : ∀ {ks : List Keyword}, PK X ks (tA X.K X.w (cfg p fuel k) (ks.map fun k => trE T n sc fn k.value))
  | [] => px_knil
  | ⟨nm, v, q⟩ :: ks => px_kcons (ih.e X sc fn h v) (tr_kws ih h)
theorem tr_part (ih : TrOk p fuel k T n) (h : XOk p fuel k T sc fn X) : ∀ (o : Option Expr), PO X o (PV.tOp X.K X.w (cfg p fuel k) (o.map (trE T n sc fn)))
  | none => px_part trivial
  | some e => px_part (ih.e X sc fn h e)
theorem tr_t (ih : TrOk p fuel k T n) (h : XOk p fuel k T sc fn X) (e : Expr) : PT X e (tT X.K X.w (cfg p fuel k) (trT T (n + 1) sc fn e)) := by
  unfold trT
  split
  · exact px_tnot (ih.t X sc fn h _)
  · rename_i op a pos
    cases op with
    | And => exact (px_wand1 (ih.t X sc fn h a)).pt
    | Or => exact (px_wor1 (ih.t X sc fn h a)).pt
  · exact (px_wand (ih.t X sc fn h _) (ih.w X sc fn h _ _ _ _)).pt
  · exact (px_wor (ih.t X sc fn h _) (ih.w X sc fn h _ _ _ _)).pt
  · split
    · exact px_tbad
    · rename_i hm
      exact px_tcmp h.units (ih.e X sc fn h _) (ih.e X sc fn h _) (by simpa using hm)
  · split
    · exact px_tbad
    · rename_i hm
      exact px_tchn h.units (ih.e X sc fn h _) (ih.e X sc fn h _) (ih.e X sc fn h _) (by simpa using hm)
  · split
    · rename_i hp
      exact px_tru (ih.e X sc fn h _) hp
    · exact px_tbad
theorem tr_w (ih : TrOk p fuel k T n) (h : XOk p fuel k T sc fn X) (op : BoolOp) (a : Expr) (r : List Expr) (pos : Pos) : PW X (.BoolOp op (a :: r) pos) (tT X.K X.w (cfg p fuel k) (trT T (n + 1) sc fn (.BoolOp op (a :: r) pos))) := by
  cases r with
  | nil =>
    cases op with
    | And => exact px_wand1 (ih.t X sc fn h a)
    | Or => exact px_wor1 (ih.t X sc fn h a)
  | cons b r =>
    cases op with
    | And => exact px_wand (ih.t X sc fn h a) (ih.w X sc fn h _ _ _ _)
    | Or => exact px_wor (ih.t X sc fn h a) (ih.w X sc fn h _ _ _ _)
theorem nst {e : Expr} (h : ¬ isStar e = true) : isStar e = false := by simpa using h
theorem tr_i (ih : TrOk p fuel k T n) (h : XOk p fuel k T sc fn X) (tg e : Expr) : PI X tg e (tI X.K X.w (cfg p fuel k) (trI T (n + 1) sc fn tg e)) := by
  unfold trI
  split
  · rename_i m e1
    split at e1
    · rename_i g gp args pos
      split at e1
      · rename_i hg
        obtain ⟨g1, g2⟩ := and2 hg
        have hgl := h.gl' g1
        have hbl := h.bl g (of_decide_eq_true g2)
        split at e1
        · rename_i q
          subst q
          split at e1
          · split at e1
            · cases e1
            · rename_i hs
              cases e1
              exact px_rng1 hgl hbl (ih.e X sc fn h _) (nst hs)
          · split at e1
            · cases e1
            · rename_i hs
              cases e1
              simp only [Bool.or_eq_true, not_or] at hs
              exact px_rng2 hgl hbl (ih.e X sc fn h _) (nst hs.1) (ih.e X sc fn h _) (nst hs.2)
          · cases e1
        · split at e1
          · rename_i q
            subst q
            split at e1
            · split at e1
              · cases e1
              · rename_i hs
                cases e1
                simp only [Bool.or_eq_true, not_or] at hs
                cases tg with
                | Tuple es kk tp => exact px_enm hgl hbl (ih.e X sc fn h _) (nst hs.1)
                | _ => exact absurd rfl hs.2
            · cases e1
          · split at e1
            · rename_i q
              subst q
              split at e1
              · split at e1
                · cases e1
                · rename_i hs
                  cases e1
                  simp only [Bool.or_eq_true, not_or] at hs
                  cases tg with
                  | Tuple es kk tp => exact px_zip hgl hbl (ih.e X sc fn h _) (nst hs.1.1) (ih.e X sc fn h _) (nst hs.1.2)
                  | _ => exact absurd rfl hs.2
              · cases e1
            · cases e1
      · cases e1
    · cases e1
  · exact px_ovr (ih.e X sc fn h _)
end
end
end PV

/-! PV, part Y: what the translation of an expression says, joined. -/
namespace PV
open PySem PySem.Spec PyProof.Rows L2

section
variable {p : Pg} {fuel k : Nat} {T : Tab} {sc : Scope} {fn : Str → Bool} {X : Cx} {n : Nat}
theorem bnot {b : Bool} (h : (!b) = true) : b = false := by simpa using h
theorem tr_con (c : Const) (j : Nat) (pos : Pos) {d : D} (e : trC c = some d) {C : Cfg} : PE X (.Constant c j pos) (tD X.K X.w C (.con d)) := by
  unfold trC at e
  split at e
  · cases e; exact px_con pe_non fun R H => rfl
  · cases e; exact px_con pe_bl fun R H => rfl
  · cases e; exact px_con pe_int fun R H => rfl
  · cases e; exact px_con pe_str fun R H => rfl
  · cases e
theorem tr_lc (ih : TrOk p fuel k T n) (h : XOk p fuel k T sc fn X) (elt tg it : Expr) (ifs : List Expr) (scope : Scope) (pos : Pos) {t : Tg} (e1 : trG T (relS scope sc) (blkFn scope) tg = some t) (hb : blkC T.N sc scope (tgOwn T tg) = true)
    (ho : (tgOwn T tg).map (·.2) = t.slots) (hs : isSetE it = false) {mc : Option E} (hc : match ifs with | [] => mc = none | [c] => mc = some (trT T n (relS scope sc) (blkFn scope) c) | _ => False) :
    BlkOk X.N X.env.scope scope (tgOwn T tg) ∧ (∀ (s : Shared) (H : Hp) (C : Addr) (cl : List (Str × Addr)) (fp : List Addr), PG (X.blk s H scope (compEnvC scope cl C X.env) fp) tg (tG X.K X.w 0 t)) ∧
      (∀ (s : Shared) (H : Hp) (C' : Addr) (cl : List (Str × Addr)) (fp : List Addr), PTs (X.blk s H scope (compEnvC scope cl C' X.env) fp) ifs (tTo X.K X.w (cfg p fuel k) mc)) ∧
      ∀ (s : Shared) (H : Hp) (C' : Addr) (cl : List (Str × Addr)) (fp : List Addr), PE (X.blk s H scope (compEnvC scope cl C' X.env) fp) elt (tD X.K X.w (cfg p fuel k) (trE T n (relS scope sc) (blkFn scope) elt)) := by
  have ok : BlkOk X.N X.env.scope scope (tgOwn T tg) := by rw [h.hN, h.hsc]; exact blkOk_by hb
  refine ⟨ok, fun s H C cl fp => tr_G (h.blk ok.kind s H C cl fp) e1, fun s H C cl fp => ?_, fun s H C cl fp => ih.e _ _ _ (h.blk ok.kind s H C cl fp) elt⟩
  split at hc
  · subst hc; exact px_tso_none
  · subst hc; exact px_tso_some (ih.t _ _ _ (h.blk ok.kind s H C cl fp) _)
  · exact hc.elim
theorem tr_call (ih : TrOk p fuel k T n) (h : XOk p fuel k T sc fn X) {x : Str} {q pos : Pos} {args : List Expr} {kws : List Keyword} {ps : List Str} (hg : glB sc x = true) (hd : (x == ("__debug__" : Str)) = false) (hs : args.all (fun e => !isStar e) = true) (hk : kws.all (fun k => k.arg.isSome) = true)
    (hf : T.fns.lookup x = some ps) {perm : List Nat} (hb : bindC ps args.length (kws.filterMap (·.arg)) perm = true) : PE X (.Call (.Name x q) args kws pos) (tD X.K X.w (cfg p fuel k) (.call x (args.map (trE T n sc fn)) (kws.map fun k => trE T n sc fn k.value) perm)) := by
  obtain ⟨fa, fd, F, h1, h2, h3⟩ := h.fns x ps hf
  have hl : ∀ {kws : List Keyword}, kws.all (fun k => k.arg.isSome) = true → kws.length = (kws.filterMap (·.arg)).length := fun {kws} hk => by
    induction kws with
    | nil => rfl
    | cons a r ihh =>
      rw [List.all_cons, Bool.and_eq_true] at hk
      obtain ⟨v, hv⟩ := Option.isSome_iff_exists.mp hk.1
      rw [List.filterMap_cons, hv, List.length_cons, List.length_cons, ihh hk.2]
  cases args with
  | nil => exact px_call0 F h.room (h.gl' hg) h1 h2 h3 hb hd (tr_kws ih h) hk rfl (by rw [List.length_map]; exact hl hk)
  | cons a r => exact px_call F h.room (h.gl' hg) h1 h2 h3 (by rw [List.length_map]; exact hb) hd (tr_args ih h hs) (tr_kws ih h) hs hk rfl (by rw [List.length_map]; exact hl hk)
theorem tr_e (ih : TrOk p fuel k T n) (h : XOk p fuel k T sc fn X) (e : Expr) : PE X e (tD X.K X.w (cfg p fuel k) (trE T (n + 1) sc fn e)) := by
  unfold trE
  split
  · rename_i x pos
    split
    · rename_i hz
      obtain ⟨h1, h2, h3⟩ := and3 hz
      obtain ⟨d1, d2⟩ := nmOk_facts h2
      exact px_var (h.slot (of_decide_eq_true h3)) (h.vis h1) d1 d2
    · split
      · rename_i hz
        obtain ⟨h1, h2⟩ := and2 hz
        obtain ⟨d1, d2⟩ := nmOk_facts h2
        refine px_glb (h.gl' h1) d1 fun d e => ?_
        have e' : p.glb x = some d := by cases k <;> exact e
        exact h.gl x d e'
      · exact px_bad
  · split
    · rename_i d e1
      exact tr_con _ _ _ e1
    · exact px_bad
  · exact px_bin (ih.e X sc fn h _) (ih.e X sc fn h _)
  · exact px_neg (ih.e X sc fn h _)
  · exact px_not (ih.e X sc fn h _)
  · exact px_one (ih.e X sc fn h _)
  · exact px_and (ih.e X sc fn h _) (ih.e X sc fn h _)
  · exact px_or (ih.e X sc fn h _) (ih.e X sc fn h _)
  · exact px_ife (ih.t X sc fn h _) (ih.e X sc fn h _) (ih.e X sc fn h _)
  · split
    · exact px_bad
    · rename_i hm
      exact px_cmp h.units (ih.e X sc fn h _) (ih.e X sc fn h _) (by simpa using hm)
  · split
    · exact px_bad
    · rename_i hm
      exact px_chn h.units (ih.e X sc fn h _) (ih.e X sc fn h _) (ih.e X sc fn h _) (by simpa using hm)
  · split
    · rename_i hs
      exact px_tup (tr_argsf ih h hs)
    · exact px_bad
  · split
    · rename_i hs
      exact px_lst (tr_argsf ih h hs)
    · exact px_bad
  · split
    · exact px_slc (ih.e X sc fn h _) (tr_part ih h _) (tr_part ih h _)
    · split
      · exact px_bad
      · rename_i hs
        exact px_ix (ih.e X sc fn h _) (ih.e X sc fn h _) (by simpa using hs)
  · split
    · rename_i t e1
      split
      · rename_i hz
        obtain ⟨h1, h2, h3⟩ := and3 hz
        have h2 := of_decide_eq_true h2
        have h3 := bnot h3
        split
        · obtain ⟨q1, q2, q3, q4⟩ := tr_lc ih h _ _ _ [] _ ⟨0, 0, 0, 0⟩ e1 h1 h2 h3 (mc := none) rfl
          exact px_lc h.calm (by rw [h.hN]; exact h.nd) (ih.i X sc fn h _ _) q1 h2 q2 q3 q4 (isSetE_fold h3)
        · obtain ⟨q1, q2, q3, q4⟩ := tr_lc ih h _ _ _ [_] _ ⟨0, 0, 0, 0⟩ e1 h1 h2 h3 (mc := some _) rfl
          exact px_lc h.calm (by rw [h.hN]; exact h.nd) (ih.i X sc fn h _ _) q1 h2 q2 q3 q4 (isSetE_fold h3)
        · exact px_bad
      · exact px_bad
    · exact px_bad
  · split
    · rename_i x q
      split
      · rename_i hz
        obtain ⟨hz, hk⟩ := and2 hz
        obtain ⟨hg, hd, hs⟩ := and3 hz
        have hd : (x == ("__debug__" : Str)) = false := by simpa using hd
        split
        · rename_i ps hf
          split
          · rename_i hb
            exact tr_call ih h hg hd hs hk hf hb
          · exact px_bad
        · split
          · rename_i hz
            obtain ⟨hbl, hke⟩ := and2 hz
            have hbl := h.bl x (of_decide_eq_true hbl)
            have hke := List.isEmpty_iff.mp hke
            subst hke
            split
            · exact px_bad
            · rename_i a r hs
              have hsa := hs
              rw [List.all_cons, Bool.and_eq_true] at hsa
              have ha : isStar a = false := by simpa using hsa.1
              split
              · rename_i m em
                split at em
                · rename_i ex
                  subst ex
                  split at em
                  · rename_i t tp hs'
                    split at em
                    · rename_i ht
                      obtain ⟨t1, t2⟩ := and2 ht
                      obtain ⟨ty, e2, e3⟩ := Option.map_eq_some_iff.mp em
                      subst e3
                      obtain ⟨f1, f2, f3, f4⟩ := tyOf_facts e2
                      have tg := h.gl' t1
                      have tb := h.bl t (of_decide_eq_true t2)
                      subst f1
                      exact px_isi (h.gl' hg) hbl tg tb f2 f3 f4 (ih.e X sc fn h a) ha
                    · cases em
                  · cases em
                · cases em
              · split
                · rename_i m em
                  split at em
                  · rename_i hx
                    obtain ⟨hx, hr⟩ := hx
                    subst hr
                    split at em
                    · rename_i g gp rs rp
                      split at em
                      · rename_i hz
                        obtain ⟨z1, z2, z3, z4, z5, z6, z7⟩ := hz
                        subst z1
                        split at em
                        · split at em
                          · cases em
                          · rename_i hb
                            cases em
                            rcases hx with rfl | rfl
                            · rw [show decide (("tuple" : Str) = "tuple") = true from by decide]
                              exact px_ofr1 (t := true) h.calm (h.gl' z4) (h.bl _ z6) (h.gl' z5) (h.bl _ z7) (h.gl' z2) (h.bl _ z3) (ih.e X sc fn h _) (nst hb)
                            · rw [show decide (("list" : Str) = "tuple") = false from by decide]
                              exact px_ofr1 (t := false) h.calm (h.gl' z4) (h.bl _ z6) (h.gl' z5) (h.bl _ z7) (h.gl' z2) (h.bl _ z3) (ih.e X sc fn h _) (nst hb)
                        · split at em
                          · cases em
                          · rename_i hb
                            simp only [Bool.or_eq_true, not_or] at hb
                            cases em
                            rcases hx with rfl | rfl
                            · rw [show decide (("tuple" : Str) = "tuple") = true from by decide]
                              exact px_ofr2 (t := true) h.calm (h.gl' z4) (h.bl _ z6) (h.gl' z5) (h.bl _ z7) (h.gl' z2) (h.bl _ z3) (ih.e X sc fn h _) (nst hb.1) (ih.e X sc fn h _) (nst hb.2)
                            · rw [show decide (("list" : Str) = "tuple") = false from by decide]
                              exact px_ofr2 (t := false) h.calm (h.gl' z4) (h.bl _ z6) (h.gl' z5) (h.bl _ z7) (h.gl' z2) (h.bl _ z3) (ih.e X sc fn h _) (nst hb.1) (ih.e X sc fn h _) (nst hb.2)
                        · cases em
                      · cases em
                    · cases em
                  · cases em
                · split
                  · rename_i f ef
                    obtain ⟨f1, f2, f3⟩ := btOf_facts ef
                    exact px_blt h.calm (h.gl' hg) hbl f1 f2 f3 (tr_args ih h hs) ha hsa.2
                  · exact px_bad
          · exact px_bad
      · exact px_bad
    · rename_i x xp m apos
      split
      · rename_i hz
        obtain ⟨hz, hke⟩ := and2 hz
        obtain ⟨hz, hl⟩ := and2 hz
        obtain ⟨h1, h2, h3⟩ := and3 hz
        obtain ⟨d1, d2⟩ := nmOk_facts h2
        have hke := List.isEmpty_iff.mp hke
        subst hke
        have hi := h.slot (of_decide_eq_true h3)
        split
        · split
          · rename_i e1
            subst e1
            exact px_pop hi (h.vis h1) d1 d2 hl
          · exact px_bad
        · split
          · exact px_bad
          · rename_i ha
            split
            · rename_i e1
              subst e1
              exact px_app hi (h.vis h1) d1 d2 (ih.e X sc fn h _) (nst ha) hl
            · split
              · rename_i e1
                subst e1
                exact px_ext hi (h.vis h1) d1 d2 (ih.e X sc fn h _) (nst ha) hl
              · split
                · rename_i e1
                  subst e1
                  exact px_popi hi (h.vis h1) d1 d2 (ih.e X sc fn h _) (nst ha) hl
                · exact px_bad
        · exact px_bad
      · exact px_bad
    · exact px_bad
  · exact px_bad
theorem trOk : ∀ n, TrOk p fuel k T n
  | 0 => ⟨fun _ _ _ _ _ => px_bad, fun _ _ _ _ _ => px_tbad, fun _ _ _ _ _ _ _ _ => px_wbad, fun _ _ _ _ _ _ => px_ibad⟩
  | n + 1 =>
    have ih := trOk n
    ⟨fun X sc fn h e => tr_e ih h e, fun X sc fn h e => tr_t ih h e, fun X sc fn h op a r pos => tr_w ih h op a r pos, fun X sc fn h tg e => tr_i ih h tg e⟩
end
end PV

/-! PV, part Z: the translation of statements. -/
namespace PV
open PySem PySem.Spec PyProof.Rows L2

/-- which names a tuple of names is stored into from the right; none: the model stops -/
def swapD (sc : Scope) (ts vs : List Expr) : Option (Option (List Str)) :=
  if !(ts.length == 2 || ts.length == 3) || vs.length != ts.length then some none
  else if vs.any isStar then some none
  else
    let line := (ts.head?.map (·.pos.line)).getD 0
    let names := ts.filterMap fun
      | .Name id pos => if sc.names.lookup id == some .local && pos.line == line then some id else none
      | _ => none
    if names.length != ts.length || names.eraseDups.length != names.length then some none
    else if vs.all (foldedForSure 8) then some none
    else if vs.all (constantsAlone 8) then none
    else some (some names)
theorem swap_tt {ts vs : List Expr} {k k2 : Nat} {p p2 : Pos} {env : Env} {sc : Scope} {r : Option (List Str)} (h1 : env.scope = sc) (h2 : sc.kind = .function) (e : swapD sc ts vs = some r) : swappedStores [.Tuple ts k p] (.Tuple vs k2 p2) env = pure r := by
  have hb : env.blockKind = .function := by unfold Env.blockKind; rw [h1, h2]; rfl
  have hs : (fun e : Expr => match e with | .Starred .. => true | _ => false) = isStar := by
    funext e
    cases e <;> rfl
  have hk : ∀ id, env.kindOf id = sc.names.lookup id := fun id => by rw [← h1]; rfl
  unfold swapD at e
  unfold swappedStores
  simp only [hb, hk, show (ScopeKind.function != ScopeKind.function) = false from rfl, Bool.or_false]
  dsimp only at e
  rw [← hs] at e
  split at e
  · rename_i c
    cases e
    exact if_pos c
  rename_i c
  refine (if_neg c).trans ?_
  split at e
  · rename_i c
    cases e
    exact if_pos c
  rename_i c
  refine (if_neg c).trans ?_
  split at e
  · rename_i c
    cases e
    exact if_pos c
  rename_i c
  refine (if_neg c).trans ?_
  split at e
  · rename_i c
    cases e
    exact if_pos c
  rename_i c
  refine (if_neg c).trans ?_
  split at e
  · cases e
  rename_i c
  cases e
  exact if_neg c
theorem swap_tn {ts : List Expr} {k : Nat} {p : Pos} {e : Expr} {env : Env} (h : isTupT e = false) : swappedStores [.Tuple ts k p] e env = pure none := by
  cases e <;> first | rfl | cases h
theorem swap_sub {o i : Expr} {p : Pos} {e : Expr} {env : Env} : swappedStores [.Subscript o i p] e env = pure none := by
  cases e <;> rfl
theorem sw_plain {e : Expr} {t : Option Expr} {l : Nat} {env : Env} (h : isComp e = false) : swapsWith e t l env = pure false := by
  cases e <;> first | rfl | cases h
theorem sw_tup {e : Expr} {ts : List Expr} {k l : Nat} {p : Pos} {env : Env} : swapsWithSole [.Tuple ts k p] e l env = pure false := by
  cases e <;> rfl
theorem sw_sub {e o i : Expr} {l : Nat} {p : Pos} {env : Env} : swapsWithSole [.Subscript o i p] e l env = pure false := by
  cases e <;> rfl
/-- whether a comprehension is stored on its own line -/
def swB (sc : Scope) (y : Str) (py : Pos) (scope : Scope) (pos : Pos) : Bool := sc.names.lookup y == some .local && py.line == pos.line && !(scope.names.any fun (n, k) => n == y && (k == .local || k == .cell))
theorem sw_comp {elt : Expr} {gs : List Comprehension} {scope : Scope} {pos py : Pos} {y : Str} {l : Nat} {env : Env} {sc : Scope} (h1 : env.scope = sc) (h2 : sc.kind = .function) : swapsWith (.ListComp elt gs scope pos) (some (.Name y py)) l env = pure (swB sc y py scope pos) := by
  have hb : env.blockKind = .function := by unfold Env.blockKind; rw [h1, h2]; rfl
  have hk : env.kindOf y = sc.names.lookup y := by rw [← h1]; rfl
  unfold swapsWith swB
  simp only [hb, hk]
  rfl

/-! ### statements -/
def badS : S := .ex badE
/-- names and subscripts of names -/
def trU (T : Tab) (n : Nat) (sc : Scope) (fn : Str → Bool) : List Expr → Option (List T1)
  | [] => some []
  | e :: es => (match e with
      | .Name x _ => if locB sc fn x && decide (x ∈ T.N) then some (T1.nm (T.N.idxOf x)) else none
      | .Subscript (.Name x _) i _ => if visB sc x && nmOk x && decide (x ∈ T.N) && !isSlice i then some (T1.sub (T.N.idxOf x) (trE T n sc fn i)) else none
      | _ => none).bind fun t => (trU T n sc fn es).map (t :: ·)
def nm2 : List Expr → Option (Str × Str)
  | [.Name x _, .Name y _] => some (x, y)
  | _ => none
mutual
def trS (T : Tab) (n : Nat) : Nat → Scope → (Str → Bool) → Stmt → S
  | 0, _, _, _ => badS
  | m + 1, sc, fn, st => match st with
    | .Expr (.Constant (.str _) _ _) _ => .pas
    | .Expr e _ => if isComp e then badS else .ex (trE T (n + 1) sc fn e)
    | .Assign [.Name y py] e _ =>
      if locB sc fn y && decide (y ∈ T.N) then
        match e with
        | .ListComp elt gs scope pos => if swB sc y py scope pos then (match trE T (n + 1) sc fn (.ListComp elt gs scope pos) with
            | .lc a b c d => .asg (T.N.idxOf y) (.lc a b c d)
            | _ => badS) else .asg (T.N.idxOf y) (trE T (n + 1) sc fn (.ListComp elt gs scope pos))
        | e => if isComp e then badS else .asg (T.N.idxOf y) (trE T (n + 1) sc fn e)
      else badS
    | .Assign [.Subscript (.Name x _) i _] e _ => if visB sc x && nmOk x && decide (x ∈ T.N) && !isSlice i then .put (T.N.idxOf x) (trE T (n + 1) sc fn i) (trE T (n + 1) sc fn e) else badS
    | .Assign [.Tuple ts k tp] e _ =>
      match e with
      | .Tuple vs k2 p2 => match swapD sc ts vs with
        | some none => (match trU T (n + 1) sc fn ts with
          | some us => .unp us (trE T (n + 1) sc fn (.Tuple vs k2 p2))
          | none => badS)
        | some (some names) => (match ts, vs with
          | [.Name x _, .Name y _], [a, b] => if decide (names = [x, y]) && sc.names.lookup x == some .local && sc.names.lookup y == some .local && decide (x ∈ T.N) && decide (y ∈ T.N) && decide (x ≠ y) && !isStar a && !isStar b then
              .par [T.N.idxOf x, T.N.idxOf y] [trE T (n + 1) sc fn a, trE T (n + 1) sc fn b] else badS
          | [.Name x _, .Name y _, .Name z _], [a, b, c] => if decide (names = [x, y, z]) && sc.names.lookup x == some .local && sc.names.lookup y == some .local && sc.names.lookup z == some .local && decide (x ∈ T.N) && decide (y ∈ T.N) && decide (z ∈ T.N)
                && decide (x ≠ y) && decide (x ≠ z) && decide (y ≠ z) && !isStar a && !isStar b && !isStar c then
              .par [T.N.idxOf x, T.N.idxOf y, T.N.idxOf z] [trE T (n + 1) sc fn a, trE T (n + 1) sc fn b, trE T (n + 1) sc fn c] else badS
          | _, _ => badS)
        | none => badS
      | e => (match trU T (n + 1) sc fn ts with
          | some us => if isTupT e then badS else .unp us (trE T (n + 1) sc fn e)
          | none => badS)
    | .If c a b _ => .ite (trT T (n + 1) sc fn c) (trSs T n m sc fn a) (trSs T n m sc fn b)
    | .For tg it b [] _ => match trG T sc fn tg with
      | some t => if isSetE it then badS else .lop t (trI T (n + 1) sc fn tg it) (trSs T n m sc fn b)
      | none => badS
    | .While c b [] _ => .whl (trT T (n + 1) sc fn c) (trSs T n m sc fn b)
    | .Return (some e) _ => .ret (trE T (n + 1) sc fn e)
    | .Return none _ => .retN
    | .Pass _ => .pas
    | .Break _ => .brk
    | .Continue _ => .cnt
    | _ => badS
def trSs (T : Tab) (n : Nat) : Nat → Scope → (Str → Bool) → List Stmt → List S
  | 0, _, _, _ => [badS]
  | m + 1, sc, fn, ss => match ss with
    | [] => []
    | s :: ss => trS T n m sc fn s :: trSs T n m sc fn ss
end
end PV

/-! PV, part Za: the translation of statements is right. -/
namespace PV
open PySem PySem.Spec PyProof.Rows L2

section
variable {p : Pg} {fuel k : Nat} {T : Tab} {sc : Scope} {fn : Str → Bool} {X : Cx} {n : Nat} {np : Nat}
theorem lc_inv {elt : Expr} {gs : List Comprehension} {scope : Scope} {pos : Pos} {a it0 : E} {t : Tg} {d : Option E} (h : trE T (n + 1) sc fn (.ListComp elt gs scope pos) = .lc a t it0 d) :
    ∃ tg it ifs, gs = [⟨tg, it, ifs, 0⟩] ∧ trG T (relS scope sc) (blkFn scope) tg = some t ∧ blkC T.N sc scope (tgOwn T tg) = true ∧ (tgOwn T tg).map (·.2) = t.slots ∧ isSetE it = false ∧ a = trE T n (relS scope sc) (blkFn scope) elt ∧ it0 = trI T n sc fn tg it ∧
      match ifs with | [] => d = none | [c] => d = some (trT T n (relS scope sc) (blkFn scope) c) | _ => False := by
  unfold trE at h
  split at h
  all_goals first
    | (rename_i q; cases q; done)
    | (rename_i q _; cases q; done)
    | (rename_i q _ _; cases q; done)
    | (rename_i q _ _ _; cases q; done)
    | skip
  · rename_i q
    cases q
    split at h
    · rename_i t' e1
      split at h
      · rename_i hz
        obtain ⟨h1, h2, h3⟩ := and3 hz
        have h2 := of_decide_eq_true h2
        have h3 := bnot h3
        split at h
        · cases h
          exact ⟨_, _, _, rfl, e1, h1, h2, h3, rfl, rfl, rfl⟩
        · cases h
          exact ⟨_, _, _, rfl, e1, h1, h2, h3, rfl, rfl, rfl⟩
        · cases h
      · cases h
    · cases h
  · cases h
theorem px_sbad {st : Stmt} : PS X st (tS X.K X.w (cfg p fuel k) np badS) := ⟨fun pins s σ H Q I h => by
  obtain ⟨R, ρ, r, ρ', m, e, q⟩ := h
  cases e⟩
theorem px_ssbad {ss : List Stmt} : PSs X ss (tSs X.K X.w (cfg p fuel k) np [badS]) := ⟨fun pins s σ H Q I h => by
  obtain ⟨R, ρ, r, ρ', m, e, q⟩ := h
  cases e⟩
theorem tr_u (h : XOk p fuel k T sc fn X) : ∀ {es : List Expr} {us : List T1}, trU T n sc fn es = some us → PGs X es (tGu X.K X.w (cfg p fuel k) np us) ∧ es.all isTgt = true ∧ es.length = us.length
  | [], us, e => by
    cases e
    exact ⟨px_unil, rfl, rfl⟩
  | e :: es, us, e1 => by
    unfold trU at e1
    obtain ⟨t, e2, e1⟩ := Option.bind_eq_some_iff.mp e1
    obtain ⟨ts, e3, e1⟩ := Option.map_eq_some_iff.mp e1
    subst e1
    obtain ⟨h4, h5, h6⟩ := tr_u h e3
    split at e2
    · split at e2
      · rename_i hz
        cases e2
        obtain ⟨h1, h2⟩ := and2 hz
        exact ⟨px_unm (by rw [h.hN]; exact h.nd) (h.slot (of_decide_eq_true h2)) (h.loc h1).1 (h.loc h1).2 h4, by rw [List.all_cons, h5]; rfl, by rw [List.length_cons, List.length_cons, h6]⟩
      · cases e2
    · split at e2
      · rename_i hz
        cases e2
        obtain ⟨hz, hi⟩ := and2 hz
        obtain ⟨h1, h2, h3⟩ := and3 hz
        obtain ⟨d1, d2⟩ := nmOk_facts h2
        exact ⟨px_usub (bnot hi) (h.slot (of_decide_eq_true h3)) (h.vis h1) d1 d2 ((trOk n).e X sc fn h _) h4, by rw [List.all_cons, h5]; rfl, by rw [List.length_cons, List.length_cons, h6]⟩
      · cases e2
    · cases e2
structure TrS (p : Pg) (fuel k : Nat) (T : Tab) (n m : Nat) : Prop where
  s : ∀ (X : Cx) (sc : Scope) (fn : Str → Bool), XOk p fuel k T sc fn X → ∀ (np : Nat) (st : Stmt), PS X st (tS X.K X.w (cfg p fuel k) np (trS T n m sc fn st))
  ss : ∀ (X : Cx) (sc : Scope) (fn : Str → Bool), XOk p fuel k T sc fn X → ∀ (np : Nat) (st : List Stmt), PSs X st (tSs X.K X.w (cfg p fuel k) np (trSs T n m sc fn st))
theorem lookL {sc : Scope} {x : Str} (h : (sc.names.lookup x == some NameKind.local) = true) : sc.names.lookup x = some .local := by simpa using h
theorem idx_ne {x y : Str} {N : List Str} (hx : x ∈ N) (hy : y ∈ N) (n : x ≠ y) : N.idxOf x ≠ N.idxOf y := fun e => n (by
  have h1 := idx_get hx
  have h2 := idx_get hy
  rw [e, h2] at h1
  exact (Option.some.inj h1).symm)
theorem tr_s {m : Nat} (ih : TrS p fuel k T n m) (h : XOk p fuel k T sc fn X) (st : Stmt) : PS X st (tS X.K X.w (cfg p fuel k) np (trS T n (m + 1) sc fn st)) := by
  have he := (trOk (p := p) (fuel := fuel) (k := k) (T := T) (n + 1)).e X sc fn h
  have ht := (trOk (p := p) (fuel := fuel) (k := k) (T := T) (n + 1)).t X sc fn h
  have hi := (trOk (p := p) (fuel := fuel) (k := k) (T := T) (n + 1)).i X sc fn h
  have hN : X.N.Nodup := by rw [h.hN]; exact h.nd
  have hp : PassesOwn (model X.prog X.w) X.A X.env X.xe := by rw [h.nox]; exact PassesOwn.never
  have lk : ∀ {x : Str}, sc.names.lookup x = some .local → X.env.scope.names.lookup x = some .local := fun {x} e => by rw [h.hsc]; exact e
  unfold trS
  split
  · exact px_spas ps_doc
  · split
    · exact px_sbad
    · rename_i hc
      exact px_sex (he _) (sw_plain (by simpa using hc))
  · split
    · rename_i y py e pos hz
      obtain ⟨h1, h2⟩ := and2 hz
      have hs := h.slot (of_decide_eq_true h2)
      split
      · rename_i elt gs scope cpos
        split
        · rename_i hw
          split
          · rename_i a t it0 d el
            obtain ⟨tg, it, ifs, rfl, e1, e2, e3, e4, rfl, rfl, e5⟩ := lc_inv el
            obtain ⟨q1, q2, q3, q4⟩ := tr_lc (trOk n) h elt tg it ifs scope ⟨0, 0, 0, 0⟩ e1 e2 e3 e4 e5
            have hl : sc.names.lookup y = some .local := by
              unfold swB at hw
              exact lookL (and3 hw).1
            exact px_slc1 h.calm hN hs (lk hl) (by rw [sw_comp h.hsc h.kd, hw]) ((trOk n).i X sc fn h _ _) q1 e3 q2 q3 q4 (isSetE_fold e4)
          · exact px_sbad
        · rename_i hw
          exact px_sasg hN hs (h.loc h1).1 (he _) (by rw [sw_comp h.hsc h.kd, show swB sc y py scope cpos = false by simpa using hw]) (h.loc h1).2
      · split
        · exact px_sbad
        · rename_i hc
          exact px_sasg hN hs (h.loc h1).1 (he _) (sw_plain (by simpa using hc)) (h.loc h1).2
    · exact px_sbad
  · split
    · rename_i hz
      obtain ⟨hz, hi'⟩ := and2 hz
      obtain ⟨h1, h2, h3⟩ := and3 hz
      obtain ⟨d1, d2⟩ := nmOk_facts h2
      exact px_sput (bnot hi') (h.slot (of_decide_eq_true h3)) (h.vis h1) d1 d2 (he _) (he _) sw_sub swap_sub
    · exact px_sbad
  · split
    · split
      · rename_i es
        split
        · rename_i us eu
          obtain ⟨u1, u2, u3⟩ := tr_u (np := np) h eu
          exact px_sunp h.calm (he _) u1 u2 u3 sw_tup (swap_tt h.hsc h.kd es)
        · exact px_sbad
      · rename_i names es
        split
        · split
          · rename_i hz
            simp only [Bool.and_eq_true, decide_eq_true_eq, Bool.not_eq_true'] at hz
            obtain ⟨⟨⟨⟨⟨⟨⟨n1, l1⟩, l2⟩, m1⟩, m2⟩, ne⟩, s1⟩, s2⟩ := hz
            subst n1
            exact px_spar2 h.calm hN (h.slot m1) (h.slot m2) (idx_ne m1 m2 ne) (lk (lookL l1)) (lk (lookL l2)) (he _) (he _) s1 s2 (swap_tt h.hsc h.kd es) sw_tup
          · exact px_sbad
        · split
          · rename_i hz
            simp only [Bool.and_eq_true, decide_eq_true_eq, Bool.not_eq_true'] at hz
            obtain ⟨⟨⟨⟨⟨⟨⟨⟨⟨⟨⟨⟨n1, l1⟩, l2⟩, l3⟩, m1⟩, m2⟩, m3⟩, ne1⟩, ne2⟩, ne3⟩, s1⟩, s2⟩, s3⟩ := hz
            subst n1
            exact px_spar3 h.calm hN (h.slot m1) (h.slot m2) (h.slot m3) (idx_ne m1 m2 ne1) (idx_ne m1 m3 ne2) (idx_ne m2 m3 ne3) (lk (lookL l1)) (lk (lookL l2)) (lk (lookL l3)) (he _) (he _) (he _) s1 s2 s3 (swap_tt h.hsc h.kd es) sw_tup
          · exact px_sbad
        · exact px_sbad
      · exact px_sbad
    · split
      · rename_i us eu
        split
        · exact px_sbad
        · rename_i hc
          obtain ⟨u1, u2, u3⟩ := tr_u (np := np) h eu
          exact px_sunp h.calm (he _) u1 u2 u3 sw_tup (swap_tn (by simpa using hc))
      · exact px_sbad
  · exact px_site (ht _) (ih.ss X sc fn h np _) (ih.ss X sc fn h np _)
  · split
    · rename_i t e1
      split
      · exact px_sbad
      · rename_i hs
        exact px_slop hp h.calm (hi _ _) (tr_G h e1) (ih.ss X sc fn h np _) (isSetE_fold (by simpa using hs))
    · exact px_sbad
  · exact px_swhl hp (ht _) (ih.ss X sc fn h np _)
  · exact px_sret (he _)
  · exact px_sretN
  · exact px_spas ps_pass
  · exact px_sbrk
  · exact px_scnt
  · exact px_sbad
theorem trS_ok : ∀ m, TrS p fuel k T n m
  | 0 => ⟨fun _ _ _ _ _ _ => px_sbad, fun _ _ _ _ _ _ => px_ssbad⟩
  | m + 1 =>
    have ih := trS_ok m
    ⟨fun X sc fn h np st => tr_s ih h st, fun X sc fn h np st => by
      unfold trSs
      split
      · exact px_snil
      · exact px_scons (ih.s X sc fn h np _) (ih.ss X sc fn h np _)⟩
end
end PV

/-! PV, part Zb: the whole program, the law's end. -/
namespace PV
open PySem PySem.Spec PyProof.Rows L2

/-- a def of the text: its name, its parameters, its slots' names -/
structure Df where
  x : Str
  ps : List Str
  N : List Str
  st : Stmt
def tabOf (ds : List Df) (bl : List Str) (N : List Str) : Tab := ⟨N, ds.map fun d => (d.x, d.ps), bl⟩
def fdOf (ds : List Df) (bl : List Str) (n m : Nat) (d : Df) : Fd := ⟨d.ps, d.N.length, trSs (tabOf ds bl d.N) n m (defScope d.st) (fun _ => true) (defBody d.st)⟩
def pgOf (ds : List Df) (bl : List Str) (glb : Str → Option D) (n m : Nat) : Pg := ⟨fun x => (ds.find? fun d => x == d.x).map (fdOf ds bl n m), glb⟩
theorem fns_look {x : Str} : ∀ {ds : List Df} {ps : List Str}, (ds.map fun d => (d.x, d.ps)).lookup x = some ps → ∃ d, (ds.find? fun d => x == d.x) = some d ∧ d ∈ ds ∧ d.x = x ∧ d.ps = ps
  | [], _, h => by cases h
  | d :: ds, ps, h => by
    rw [List.map_cons, List.lookup_cons] at h
    rw [List.find?_cons]
    cases q : x == d.x with
    | true =>
      rw [q] at h
      cases h
      exact ⟨d, rfl, List.mem_cons_self, by simpa using (beq_iff_eq.mp q).symm, rfl⟩
    | false =>
      rw [q] at h
      obtain ⟨e, h1, h2, h3⟩ := fns_look (ds := ds) h
      exact ⟨e, h1, List.mem_cons_of_mem _ h2, h3⟩
/-- a look at a def: parameters alone, no defaults -/
def plainA (a : Arguments) (ps : List Str) : Bool := a.posonlyargs.isEmpty && decide (a.args.map (·.arg) = ps) && a.vararg.isNone && a.kwonlyargs.isEmpty && a.kwarg.isNone
def scB (N P : List Str) (sc : Scope) : Bool :=
  decide (sc.kind = .function) && !sc.isCoroutine && !sc.isGenerator && decide N.Nodup && decide (N.take P.length = P) && P.all (fun x => decide (sc.names.lookup x = some .local) || decide (sc.names.lookup x = some .cell)) && sc.names.all (fun y => !decide (y.2 = .free))
theorem fnScope_of {N P : List Str} {sc : Scope} (h : scB N P sc = true) : FnScope N P sc := by
  unfold scB at h
  simp only [Bool.and_eq_true, Bool.not_eq_true', decide_eq_true_eq, List.all_eq_true, Bool.or_eq_true, decide_eq_false_iff_not] at h
  obtain ⟨⟨⟨⟨⟨⟨h1, h2⟩, h3⟩, h4⟩, h5⟩, h6⟩, h7⟩ := h
  exact ⟨h1, h2, h3, h4, h5, h6, h7⟩
def dfB (d : Df) : Bool := plainA (defArgs d.st) d.ps && scB d.N d.ps (defScope d.st)
/-- what stands behind the top of a def -/
structure DfOk (K : PySem.W.Frag) (mg : Str → Option Value) (d : Df) : Prop where
  ex : ∃ f fd, Fun K d.x d.x d.st f fd ∧ mg d.x = some (.ref f)
theorem plain_of {K : PySem.W.Frag} {x qual : Str} {st : Stmt} {f : Addr} {fd : FuncData} {ps : List Str} (F : Fun K x qual st f fd) (h : plainA (defArgs st) ps = true) : PlainFd fd ps := by
  obtain ⟨oc, od, kV, doc, pm, an, cdv, ct, osl, rfl, lk, hcd⟩ := F.ex
  unfold plainA at h
  simp only [Bool.and_eq_true, List.isEmpty_iff, decide_eq_true_eq, Option.isNone_iff_eq_none] at h
  obtain ⟨⟨⟨⟨h1, h2⟩, h3⟩, h4⟩, h5⟩ := h
  exact ⟨h1, h2, h3, h4, h5, rfl⟩
theorem fun_look {K : PySem.W.Frag} {x qual : Str} {st : Stmt} {f : Addr} {fd : FuncData} (F : Fun K x qual st f fd) : ∃ oc od osl, K.lookup f = some ⟨oc, od, .func fd, osl⟩ := by
  obtain ⟨oc, od, kV, doc, pm, an, cdv, ct, osl, rfl, lk, hcd⟩ := F.ex
  exact ⟨oc, od, osl, lk⟩
section
variable {P : Program} {w : World} {K : PySem.W.Frag} {mg : Str → Option Value} {base : Heap} {ds : List Df} {bl : List Str} {glb : Str → Option D} {n m fuel : Nat}
theorem level (hD : ∀ d ∈ ds, DfOk K mg d) (hB : ds.all dfB = true) (hbl : ∀ x ∈ bl, mg x = none) (hgl : ∀ x d, glb x = some d → ∃ v u, mg x = some u ∧ RelV v u ∧ ∀ R H, Rep K w R H d v) : ∀ (k : Nat) (x : Str) (ps : List Str),
    (ds.map fun d => (d.x, d.ps)).lookup x = some ps → ∃ fa fd, FnOk P w K mg base CX0 k fa fd ps (spF K w (pgOf ds bl glb n m) fuel k x) ∧ mg x = some (.ref fa) ∧ PySem.W.keepIn K (.ref fa) = true ∧ PlainFd fd ps ∧ ∃ oc od osl, K.lookup fa = some ⟨oc, od, .func fd, osl⟩ := by
  intro k
  induction k with
  | zero =>
    intro x ps h
    obtain ⟨d, h1, h2, rfl, rfl⟩ := fns_look h
    obtain ⟨f, fd, F, hm⟩ := (hD d h2).ex
    have hb := List.all_eq_true.mp hB d h2
    have hp := plain_of F (and2 hb).1
    refine ⟨f, fd, ⟨fun vs H Q E z => ?_, fun A outer s H args us vs Q E _ _ _ _ z => ?_⟩, hm, F.kp, hp, fun_look F⟩
    · obtain ⟨R, as, r, fs, _, e, _⟩ := z
      cases e
    · obtain ⟨R, as, r, fs, _, e, _⟩ := z
      cases e
  | succ k ih =>
    intro x ps h
    obtain ⟨d, h1, h2, rfl, rfl⟩ := fns_look h
    obtain ⟨f, fd, F, hm⟩ := (hD d h2).ex
    have hb := List.all_eq_true.mp hB d h2
    have hp := plain_of F (and2 hb).1
    have S := fnScope_of (and2 hb).2
    have hf : (pgOf ds bl glb n m).fn d.x = some (fdOf ds bl n m d) := by
      show ((ds.find? fun e => d.x == e.x).map (fdOf ds bl n m)) = _
      rw [h1]; rfl
    refine ⟨f, fd, F.ok S (fun vs H Q E z => ?_) (fun cdv A outer s H vs Q E hr z => ?_), hm, F.kp, hp, fun_look F⟩
    · obtain ⟨R, as, r, fs, mt, e, _⟩ := z
      have e : (((pgOf ds bl glb n m).fn d.x).bind fun fd => run (cfg (pgOf ds bl glb n m) fuel k) fd as) = some (r, fs) := e
      rw [hf] at e
      have e : run (cfg (pgOf ds bl glb n m) fuel k) (fdOf ds bl n m d) as = some (r, fs) := e
      unfold run at e
      split at e
      · rename_i hl
        have := mt.len
        rw [List.length_map] at this
        exact this.symm.trans hl
      · cases e
    · have XO : XOk (pgOf ds bl glb n m) fuel k (tabOf ds bl d.N) (defScope d.st) (fun _ => true) (cxOf CX0 P w K mg base d.N d.x (defScope d.st) f cdv A outer s H E).nox :=
        { calm := rfl, hN := rfl, nd := S.nd, hsc := rfl, kd := S.kind, hfn := rfl, room := hr, nox := rfl, bl := hbl, gl := hgl, fns := fun y qs hy => by
            obtain ⟨fa, fd, h1, h2, h3, h4, _⟩ := ih y qs hy
            exact ⟨fa, fd, h1, h2, h3, h4⟩ }
      exact ⟨_, (trS_ok (p := pgOf ds bl glb n m) (fuel := fuel) (k := k) (T := tabOf ds bl d.N) (n := n) m).ss _ (defScope d.st) (fun _ => true) XO d.ps.length (defBody d.st), body_end (f := fdOf ds bl n m d) hf rfl z rfl⟩
/-- what the law's def promises, as the heads want it -/
theorem law_fn {law x : Str} {fa : Addr} {k : Nat} (hD : ∀ d ∈ ds, DfOk K mg d) (hB : ds.all dfB = true) (hbl : ∀ x ∈ bl, mg x = none) (hgl : ∀ x d, glb x = some d → ∃ v u, mg x = some u ∧ RelV v u ∧ ∀ R H, Rep K w R H d v)
    (hl : (ds.map fun d => (d.x, d.ps)).lookup law = some [x]) (hfa : mg law = some (.ref fa)) :
    ∃ fd : FuncData, (∀ (s : Shared) (u : Value), BindsTo s fd ⟨[u], []⟩ [(x, u)]) ∧ ∀ base : Heap, FnOk P w K mg base CX0 k fa fd [x] (spF K w (pgOf ds bl glb n m) fuel k law) := by
  obtain ⟨fa0, fd0, _, h2, _, h4, oc, od, osl, h5⟩ := level (P := P) (w := w) (base := default) (n := n) (m := m) (fuel := fuel) hD hB hbl hgl 0 law [x] hl
  rw [hfa] at h2
  cases h2
  refine ⟨fd0, fun s u => .of_eq ?_, fun base => ?_⟩
  · have := bindArgs_plain (us := [u]) (ws := []) (ks := []) (perm := [0]) h4 rfl (by
      unfold bindC
      simp)
    simpa [permV] using this
  · obtain ⟨fa1, fd1, g1, g2, _, _, oc1, od1, osl1, g5⟩ := level (P := P) (w := w) (base := base) (n := n) (m := m) (fuel := fuel) hD hB hbl hgl k law [x] hl
    rw [hfa] at g2
    cases g2
    rw [h5] at g5
    cases g5
    exact g1
theorem spF_start {p : Pg} {k : Nat} {law : Str} {H : Hp} {a : Addr} {ns : List Int} {E : XK} (hO : Only H) (hS : SqL K H a (ns.map V.int)) (h : ∃ fs, (cfg p fuel k).call law [.ro (.scr ns)] = some (.val (.bl true), fs)) :
    spF K w p fuel k law [.ref a] H (fun v _ => v = .bl true) E := by
  obtain ⟨fs, h⟩ := h
  have hF : SqF K H a (ns.map V.int) := by
    rcases hS with (hS | ⟨o, hS⟩) | hS
    · rcases hO a with z | ⟨o, xs, z⟩
      · rw [hS] at z; cases z
      · rw [hS] at z; cases z
    · exact .inl ⟨o, hS⟩
    · exact .inr hS
  refine ⟨fun _ => False, [.ro (.scr ns)], .val (.bl true), fs, ⟨rfl, fun b z => z.elim, fun i d hi => ?_, fun i d hi => ?_, fun i j d e b hi => ?_⟩, h, rfl, fun v H' R' s rr f => rr⟩
  · cases i with
    | zero => cases hi; exact ⟨_, rfl, a, rfl, hF⟩
    | succ i => cases hi
  · cases i with
    | zero => cases hi
    | succ i => cases hi
  · cases i with
    | zero => cases hi
    | succ i => cases hi
theorem dfOk_mk {h : Heap} (X : K.In h) (G : h.Ns mainGlobals mg) {x : Str} {ps N : List Str} {st : Stmt} {f : Addr} {oc : Value} {od an : Option Addr} {osl : Array (Option Value)} {kV doc pm cdv ct : Value}
    (a : PySem.W.nsIn K mainGlobals x = some (some (.ref f))) (l : K.lookup f = some ⟨oc, od, .func (PySem.W.fnOf x x (defArgs st) (defBody st) (defScope st) .none kV doc pm an cdv ct), osl⟩) (c : PySem.W.codeIn K cdv x = true) (k : PySem.W.keepIn K (.ref f) = true) :
    DfOk K mg ⟨x, ps, N, st⟩ := ⟨⟨f, _, fun_mk l c k, PySem.W.mg_of X G a⟩⟩
end
end PV

/-! PV, part Zc: the end of a law, its facts. -/
namespace PV
open PySem PySem.Spec PyProof.Rows L2
theorem cons_all {α : Type} {P : α → Prop} {a : α} {l : List α} (h : P a) (h2 : ∀ x ∈ l, P x) : ∀ x ∈ a :: l, P x := fun x hx => (List.mem_cons.mp hx).elim (fun e => e ▸ h) (h2 x)
theorem nil_all {α : Type} {P : α → Prop} : ∀ x ∈ ([] : List α), P x := fun x hx => absurd hx (by simp)
/-- a constant of the module -/
def GOk (K : PySem.W.Frag) (w : World) (mg : Str → Option Value) (x : Str) (d : D) : Prop := ∃ v u, mg x = some u ∧ RelV v u ∧ ∀ R H, Rep K w R H d v
theorem gl_int {K : PySem.W.Frag} {w : World} {mg : Str → Option Value} {x : Str} {i : Int} {t : Tok} (h : mg x = some (.int i t)) : GOk K w mg x (.int i) := ⟨.int i, _, h, ⟨t, rfl⟩, fun R H => rfl⟩
theorem gl_str {K : PySem.W.Frag} {w : World} {mg : Str → Option Value} {x : Str} {i : Str} {t : Tok} (h : mg x = some (.str i t)) : GOk K w mg x (.str i) := ⟨.str i, _, h, ⟨t, rfl⟩, fun R H => rfl⟩
theorem gl_bl {K : PySem.W.Frag} {w : World} {mg : Str → Option Value} {x : Str} {i : Bool} (h : mg x = some (.bool i)) : GOk K w mg x (.bl i) := ⟨.bl i, _, h, rfl, fun R H => rfl⟩
theorem gl_non {K : PySem.W.Frag} {w : World} {mg : Str → Option Value} {x : Str} (h : mg x = some .none) : GOk K w mg x .non := ⟨.non, _, h, rfl, fun R H => rfl⟩
theorem gl_nil {K : PySem.W.Frag} {w : World} {mg : Str → Option Value} : ∀ x d, ([] : List (Str × D)).lookup x = some d → GOk K w mg x d := fun x d h => by cases h
theorem gl_cons {K : PySem.W.Frag} {w : World} {mg : Str → Option Value} {y : Str} {e : D} {l : List (Str × D)} (h : GOk K w mg y e) (h2 : ∀ x d, l.lookup x = some d → GOk K w mg x d) : ∀ x d, ((y, e) :: l).lookup x = some d → GOk K w mg x d := fun x d q => by
  rw [List.lookup_cons] at q
  cases r : x == y with
  | true =>
    rw [r] at q
    cases q
    rw [beq_iff_eq.mp r]
    exact h
  | false =>
    rw [r] at q
    exact h2 x d q
theorem fin_mk {P : Program} {w : World} {K : PySem.W.Frag} {mg : Str → Option Value} {ds : List Df} {bl : List Str} {glb : Str → Option D} {n m fuel k : Nat} {law x : Str} {fa : Addr} (hD : ∀ d ∈ ds, DfOk K mg d) (hB : ds.all dfB = true) (hbl : ∀ x ∈ bl, mg x = none) (hgl : ∀ x d, glb x = some d → GOk K w mg x d)
    (hl : (ds.map fun d => (d.x, d.ps)).lookup law = some [x]) (hfa : mg law = some (.ref fa)) :
    ∃ fd : FuncData, (∀ (s : Shared) (u : Value), BindsTo s fd ⟨[u], []⟩ [(x, u)]) ∧ ∀ base : Heap, K.In base → base.Ns mainGlobals mg → FnOk P w K mg base CX0 k fa fd [x] (spF K w (pgOf ds bl glb n m) fuel k law) := by
  obtain ⟨fd, h1, h2⟩ := law_fn (P := P) (w := w) (n := n) (m := m) (fuel := fuel) (k := k) hD hB hbl hgl hl hfa
  exact ⟨fd, h1, fun base _ _ => h2 base⟩
end PV

/-! PW, part A: reckoning with the pure interpreter. -/
namespace PV
/-- one turn of a list comprehension -/
def lcB (C : Cfg) (elt : E) (t : Tg) (c : Option E) : D → Rho → Option (List D × Rho) := fun x ρ => (bindT 0 ρ t x).bind fun ρ2 => (tso C c ρ2).bind fun (b, ρ3) =>
  if b then (ev C elt ρ3).bind fun (r, ρ4) => (fix ρ4 r).map fun (d, ρ5) => ([d], unset ρ5 t.slots) else some ([], unset ρ3 t.slots)
def lcE (C : Cfg) (elt : E) (ρ : Rho) : Option (List D × Rho) := (ev C elt ρ).bind fun (r, ρ4) => (fix ρ4 r).bind fun (d, ρ5) => some ([d], ρ5)
/-- one turn of a loop -/
def lopB (C : Cfg) (np : Nat) (t : Tg) (b : List S) : D → Rho → Option (O × Rho) := fun x ρ => (bindT np ρ t x).bind fun ρ2 => execs C np b ρ2
@[simp] theorem exec_whl (C : Cfg) (np : Nat) (c : E) (b : List S) (ρ : Rho) : exec C np (.whl c b) ρ = whileLoop (tst C c) (execs C np b) C.fuel ρ := (rfl)
def blOf : Option D → Option Bool
  | some (.bl b) => some b
  | _ => none
@[simp] theorem blOf_bl (b : Bool) : blOf (some (.bl b)) = some b := (rfl)
def tupOf : D → Option (List D)
  | .tup ds => some ds
  | .rtp ds => some ds
  | _ => none
@[simp] theorem tupOf1 (ds : List D) : tupOf (.tup ds) = some ds := (rfl)
@[simp] theorem tupOf2 (ds : List D) : tupOf (.rtp ds) = some ds := (rfl)
/-- the second half of a chain of two comparisons -/
def chnC (C : Cfg) (c2 : PySem.CmpOp) (c : E) (r2 : Rs) (ρ : Rho) : Option (Bool × Rho) := (ev C c ρ).bind fun (r3, ρ1) => (look ρ1 r2).bind fun y => (look ρ1 r3).bind fun z => (cmpD c2 y z).map fun v => (v, ρ1)
def chnB (C : Cfg) (c1 c2 : PySem.CmpOp) (c : E) (r2 : Rs) (x y : D) (ρ : Rho) : Option (Bool × Rho) := (cmpD c1 x y).bind fun v => if v then chnC C c2 c r2 ρ else some (false, ρ)
theorem chn_t (C : Cfg) (c1 c2 : PySem.CmpOp) (c : E) (r2 : Rs) (x y : D) (ρ : Rho) : ((cmpD c1 x y).bind fun r => if r then (ev C c ρ).bind fun u => (look u.2 r2).bind fun y => (look u.2 u.1).bind fun z => (cmpD c2 y z).map fun r => (r, u.2) else some (false, ρ)) = chnB C c1 c2 c r2 x y ρ := rfl
theorem chn_e (C : Cfg) (c1 c2 : PySem.CmpOp) (c : E) (r2 : Rs) (x y : D) (ρ : Rho) : ((cmpD c1 x y).bind fun r => if r then (ev C c ρ).bind fun u => (look u.2 r2).bind fun y => (look u.2 u.1).bind fun z => (cmpD c2 y z).map fun r => (Rs.val (.bl r), u.2) else some (Rs.val (.bl false), ρ)) =
    (chnB C c1 c2 c r2 x y ρ).bind fun p => some (Rs.val (.bl p.1), p.2) := by
  unfold chnB
  cases cmpD c1 x y with
  | none => rfl
  | some v =>
    cases v with
    | false => rfl
    | true =>
      show (ev C c ρ).bind _ = ((ev C c ρ).bind _).bind _
      cases ev C c ρ with
      | none => rfl
      | some u =>
        show (look u.2 r2).bind _ = ((look u.2 r2).bind _).bind _
        cases look u.2 r2 with
        | none => rfl
        | some y =>
          show (look u.2 u.1).bind _ = ((look u.2 u.1).bind _).bind _
          cases look u.2 u.1 with
          | none => rfl
          | some z =>
            show (cmpD c2 y z).map _ = ((cmpD c2 y z).map _).bind _
            cases cmpD c2 y z <;> rfl
/-- behind a statement -/
def kS (C : Cfg) (np : Nat) (ss : List S) (q : Option (O × Rho)) : Option (O × Rho) := q.bind fun p => match p.1 with | .nx => execs C np ss p.2 | o => some (o, p.2)
@[simp] theorem kS_nx (C : Cfg) (np : Nat) (ss : List S) (ρ : Rho) : kS C np ss (some (.nx, ρ)) = execs C np ss ρ := (rfl)
@[simp] theorem kS_ret (C : Cfg) (np : Nat) (ss : List S) (r : Rs) (ρ : Rho) : kS C np ss (some (.ret r, ρ)) = some (.ret r, ρ) := (rfl)
@[simp] theorem kS_brk (C : Cfg) (np : Nat) (ss : List S) (ρ : Rho) : kS C np ss (some (.brk, ρ)) = some (.brk, ρ) := (rfl)
@[simp] theorem kS_cnt (C : Cfg) (np : Nat) (ss : List S) (ρ : Rho) : kS C np ss (some (.cnt, ρ)) = some (.cnt, ρ) := (rfl)
@[simp] theorem kS_none (C : Cfg) (np : Nat) (ss : List S) : kS C np ss none = none := (rfl)
@[simp] theorem w_ss1 (C : Cfg) (np : Nat) (s : S) (ss : List S) (ρ : Rho) : execs C np (s :: ss) ρ = kS C np ss (exec C np s ρ) := (rfl)
/-- a def's end -/
def kRt (as : List Sl) (q : Option (Rs × Rho)) : Option (Rs × List Sl) := q.bind fun q => if finOk as (q.2.take as.length) then some (q.1, q.2.take as.length) else none
@[simp] theorem kRt_some (as : List Sl) (r : Rs) (ρ : Rho) : kRt as (some (r, ρ)) = if finOk as (ρ.take as.length) then some (r, ρ.take as.length) else none := (rfl)
def kRn (as : List Sl) (q : Option (O × Rho)) : Option (Rs × List Sl) := q.bind fun p => match p.1 with | .nx => some (.val .non, p.2.take as.length) | .ret r => kRt as (retOf as.length p.2 r) | _ => none
@[simp] theorem kRn_nx (as : List Sl) (ρ : Rho) : kRn as (some (.nx, ρ)) = some (.val .non, ρ.take as.length) := (rfl)
@[simp] theorem kRn_ret (as : List Sl) (r : Rs) (ρ : Rho) : kRn as (some (.ret r, ρ)) = kRt as (retOf as.length ρ r) := (rfl)
@[simp] theorem w_run (C : Cfg) (f : Fd) (as : List Sl) : run C f as = if as.length = f.ps.length then kRn as (execs C as.length f.body (as ++ List.replicate (f.n - as.length) .un)) else none := (rfl)
@[simp high] theorem ob_some {α β : Type} (a : α) (f : α → Option β) : (some a).bind f = f a := (rfl)
@[simp high] theorem ob_none {α β : Type} (f : α → Option β) : (none : Option α).bind f = none := (rfl)
@[simp high] theorem om_some {α β : Type} (a : α) (f : α → β) : (some a).map f = some (f a) := (rfl)
@[simp high] theorem om_none {α β : Type} (f : α → β) : (none : Option α).map f = none := (rfl)
/-! bounds, by name: their figures are not reckoned with -/
def R62 (j : Int) : Prop := -(2 ^ 62) ≤ j ∧ j < 2 ^ 62
instance (j : Int) : Decidable (R62 j) := inferInstanceAs (Decidable (_ ∧ _))
def R63 (j : Int) : Prop := -(2 ^ 63) ≤ j ∧ j < 2 ^ 63
instance (j : Int) : Decidable (R63 j) := inferInstanceAs (Decidable (_ ∧ _))
def P63 (j : Int) : Prop := 0 ≤ j ∧ j < 2 ^ 63
instance (j : Int) : Decidable (P63 j) := inferInstanceAs (Decidable (_ ∧ _))
def R64 (j : Int) : Prop := -(2 ^ 64) < j ∧ j < 2 ^ 64
instance (j : Int) : Decidable (R64 j) := inferInstanceAs (Decidable (_ ∧ _))
theorem r62 {j : Int} (h : -4000000000000000000 ≤ j) (h' : j ≤ 4000000000000000000) : R62 j := by unfold R62; omega
theorem r63 {j : Int} (h : -4000000000000000000 ≤ j) (h' : j ≤ 4000000000000000000) : R63 j := by unfold R63; omega
theorem p63 {j : Int} (h : 0 ≤ j) (h' : j ≤ 4000000000000000000) : P63 j := by unfold P63; omega
theorem r64 {j : Int} (h : -4000000000000000000 ≤ j) (h' : j ≤ 4000000000000000000) : R64 j := by unfold R64; omega
def w_bin_5 (ρ2 : Rho) (q : Option (Rs)) : Option (Rs × Rho) := q.map fun r => (r, ρ2)
@[simp] theorem w_bin_5_some (ρ2 : Rho) (r : Rs) : w_bin_5 ρ2 (some r) = some (r, ρ2) := (rfl)
@[simp] theorem w_bin_5_none (ρ2 : Rho) : w_bin_5 ρ2 none = none := (rfl)
def w_bin_4 (o : PySem.Operator) (ρ2 : Rho) (x : D) (q : Option (D)) : Option (Rs × Rho) := q.bind fun y => w_bin_5 ρ2 (binD o x y)
@[simp] theorem w_bin_4_some (o : PySem.Operator) (ρ2 : Rho) (x : D) (y : D) : w_bin_4 o ρ2 x (some y) = w_bin_5 ρ2 (binD o x y) := (rfl)
@[simp] theorem w_bin_4_none (o : PySem.Operator) (ρ2 : Rho) (x : D) : w_bin_4 o ρ2 x none = none := (rfl)
def w_bin_3 (o : PySem.Operator) (r2 : Rs) (ρ2 : Rho) (q : Option (D)) : Option (Rs × Rho) := q.bind fun x => w_bin_4 o ρ2 x (look ρ2 r2)
@[simp] theorem w_bin_3_some (o : PySem.Operator) (r2 : Rs) (ρ2 : Rho) (x : D) : w_bin_3 o r2 ρ2 (some x) = w_bin_4 o ρ2 x (look ρ2 r2) := (rfl)
@[simp] theorem w_bin_3_none (o : PySem.Operator) (r2 : Rs) (ρ2 : Rho) : w_bin_3 o r2 ρ2 none = none := (rfl)
def w_bin_2 (o : PySem.Operator) (r1 : Rs) (q : Option (Rs × Rho)) : Option (Rs × Rho) := q.bind fun (r2, ρ2) => w_bin_3 o r2 ρ2 (look ρ2 r1)
@[simp] theorem w_bin_2_some (o : PySem.Operator) (r1 : Rs) (r2 : Rs) (ρ2 : Rho) : w_bin_2 o r1 (some (r2, ρ2)) = w_bin_3 o r2 ρ2 (look ρ2 r1) := (rfl)
@[simp] theorem w_bin_2_none (o : PySem.Operator) (r1 : Rs) : w_bin_2 o r1 none = none := (rfl)
def w_bin_1 (C : Cfg) (o : PySem.Operator) (b : E) (q : Option (Rs × Rho)) : Option (Rs × Rho) := q.bind fun (r1, ρ1) => w_bin_2 o r1 (ev C b ρ1)
@[simp] theorem w_bin_1_some (C : Cfg) (o : PySem.Operator) (b : E) (r1 : Rs) (ρ1 : Rho) : w_bin_1 C o b (some (r1, ρ1)) = w_bin_2 o r1 (ev C b ρ1) := (rfl)
@[simp] theorem w_bin_1_none (C : Cfg) (o : PySem.Operator) (b : E) : w_bin_1 C o b none = none := (rfl)
@[simp] theorem w_bin (C : Cfg) (o : PySem.Operator) (a : E) (b : E) (ρ : Rho) : ev C (.bin o a b) ρ = w_bin_1 C o b (ev C a ρ) := (rfl)
def w_neg_3 (ρ1 : Rho) (q : Option (Int)) : Option (Rs × Rho) := q.map fun k => (Rs.val (.int (-k)), ρ1)
@[simp] theorem w_neg_3_some (ρ1 : Rho) (k : Int) : w_neg_3 ρ1 (some k) = some (Rs.val (.int (-k)), ρ1) := (rfl)
@[simp] theorem w_neg_3_none (ρ1 : Rho) : w_neg_3 ρ1 none = none := (rfl)
def w_neg_2 (ρ1 : Rho) (q : Option (D)) : Option (Rs × Rho) := q.bind fun x => w_neg_3 ρ1 (intOf x)
@[simp] theorem w_neg_2_some (ρ1 : Rho) (x : D) : w_neg_2 ρ1 (some x) = w_neg_3 ρ1 (intOf x) := (rfl)
@[simp] theorem w_neg_2_none (ρ1 : Rho) : w_neg_2 ρ1 none = none := (rfl)
def w_neg_1 (q : Option (Rs × Rho)) : Option (Rs × Rho) := q.bind fun (r1, ρ1) => w_neg_2 ρ1 (look ρ1 r1)
@[simp] theorem w_neg_1_some (r1 : Rs) (ρ1 : Rho) : w_neg_1 (some (r1, ρ1)) = w_neg_2 ρ1 (look ρ1 r1) := (rfl)
@[simp] theorem w_neg_1_none : w_neg_1 none = none := (rfl)
@[simp] theorem w_neg (C : Cfg) (a : E) (ρ : Rho) : ev C (.neg a) ρ = w_neg_1 (ev C a ρ) := (rfl)
def w_not_2 (ρ1 : Rho) (q : Option (Bool)) : Option (Rs × Rho) := q.bind fun v => some (Rs.val (.bl (!v)), ρ1)
@[simp] theorem w_not_2_some (ρ1 : Rho) (v : Bool) : w_not_2 ρ1 (some v) = some (Rs.val (.bl (!v)), ρ1) := (rfl)
@[simp] theorem w_not_2_none (ρ1 : Rho) : w_not_2 ρ1 none = none := (rfl)
def w_not_1 (q : Option (Rs × Rho)) : Option (Rs × Rho) := q.bind fun (r1, ρ1) => w_not_2 ρ1 (blOf (look ρ1 r1))
@[simp] theorem w_not_1_some (r1 : Rs) (ρ1 : Rho) : w_not_1 (some (r1, ρ1)) = w_not_2 ρ1 (blOf (look ρ1 r1)) := (rfl)
@[simp] theorem w_not_1_none : w_not_1 none = none := (rfl)
@[simp] theorem w_not (C : Cfg) (a : E) (ρ : Rho) : ev C (.not a) ρ = w_not_1 (ev C a ρ) := by
  show (ev C a ρ).bind _ = (ev C a ρ).bind _
  congr 1
  funext p
  obtain ⟨r1, ρ1⟩ := p
  show _ = (blOf (look ρ1 r1)).bind _
  dsimp only
  generalize look ρ1 r1 = o
  cases o with
  | none => rfl
  | some d =>
    cases d with
    | bl v => cases v <;> rfl
    | _ => rfl
def w_and_2 (C : Cfg) (b : E) (ρ1 : Rho) (q : Option (Bool)) : Option (Rs × Rho) := q.bind fun v => if v then ev C b ρ1 else some (Rs.val (.bl false), ρ1)
@[simp] theorem w_and_2_some (C : Cfg) (b : E) (ρ1 : Rho) (v : Bool) : w_and_2 C b ρ1 (some v) = if v then ev C b ρ1 else some (Rs.val (.bl false), ρ1) := (rfl)
@[simp] theorem w_and_2_none (C : Cfg) (b : E) (ρ1 : Rho) : w_and_2 C b ρ1 none = none := (rfl)
def w_and_1 (C : Cfg) (b : E) (q : Option (Rs × Rho)) : Option (Rs × Rho) := q.bind fun (r1, ρ1) => w_and_2 C b ρ1 (blOf (look ρ1 r1))
@[simp] theorem w_and_1_some (C : Cfg) (b : E) (r1 : Rs) (ρ1 : Rho) : w_and_1 C b (some (r1, ρ1)) = w_and_2 C b ρ1 (blOf (look ρ1 r1)) := (rfl)
@[simp] theorem w_and_1_none (C : Cfg) (b : E) : w_and_1 C b none = none := (rfl)
@[simp] theorem w_and (C : Cfg) (a : E) (b : E) (ρ : Rho) : ev C (.bop true a b) ρ = w_and_1 C b (ev C a ρ) := by
  show (ev C a ρ).bind _ = (ev C a ρ).bind _
  congr 1
  funext p
  obtain ⟨r1, ρ1⟩ := p
  show _ = (blOf (look ρ1 r1)).bind _
  dsimp only
  generalize look ρ1 r1 = o
  cases o with
  | none => rfl
  | some d =>
    cases d with
    | bl v => cases v <;> rfl
    | _ => rfl
def w_or_2 (C : Cfg) (b : E) (ρ1 : Rho) (q : Option (Bool)) : Option (Rs × Rho) := q.bind fun v => if v then some (Rs.val (.bl true), ρ1) else ev C b ρ1
@[simp] theorem w_or_2_some (C : Cfg) (b : E) (ρ1 : Rho) (v : Bool) : w_or_2 C b ρ1 (some v) = if v then some (Rs.val (.bl true), ρ1) else ev C b ρ1 := (rfl)
@[simp] theorem w_or_2_none (C : Cfg) (b : E) (ρ1 : Rho) : w_or_2 C b ρ1 none = none := (rfl)
def w_or_1 (C : Cfg) (b : E) (q : Option (Rs × Rho)) : Option (Rs × Rho) := q.bind fun (r1, ρ1) => w_or_2 C b ρ1 (blOf (look ρ1 r1))
@[simp] theorem w_or_1_some (C : Cfg) (b : E) (r1 : Rs) (ρ1 : Rho) : w_or_1 C b (some (r1, ρ1)) = w_or_2 C b ρ1 (blOf (look ρ1 r1)) := (rfl)
@[simp] theorem w_or_1_none (C : Cfg) (b : E) : w_or_1 C b none = none := (rfl)
@[simp] theorem w_or (C : Cfg) (a : E) (b : E) (ρ : Rho) : ev C (.bop false a b) ρ = w_or_1 C b (ev C a ρ) := by
  show (ev C a ρ).bind _ = (ev C a ρ).bind _
  congr 1
  funext p
  obtain ⟨r1, ρ1⟩ := p
  show _ = (blOf (look ρ1 r1)).bind _
  dsimp only
  generalize look ρ1 r1 = o
  cases o with
  | none => rfl
  | some d =>
    cases d with
    | bl v => cases v <;> rfl
    | _ => rfl
def w_ife_1 (C : Cfg) (a : E) (b : E) (q : Option (Bool × Rho)) : Option (Rs × Rho) := q.bind fun (v, ρ1) => if v then ev C a ρ1 else ev C b ρ1
@[simp] theorem w_ife_1_some (C : Cfg) (a : E) (b : E) (v : Bool) (ρ1 : Rho) : w_ife_1 C a b (some (v, ρ1)) = if v then ev C a ρ1 else ev C b ρ1 := (rfl)
@[simp] theorem w_ife_1_none (C : Cfg) (a : E) (b : E) : w_ife_1 C a b none = none := (rfl)
@[simp] theorem w_ife (C : Cfg) (c : E) (a : E) (b : E) (ρ : Rho) : ev C (.ife c a b) ρ = w_ife_1 C a b (tst C c ρ) := (rfl)
def w_cmp_5 (ρ2 : Rho) (q : Option (Bool)) : Option (Rs × Rho) := q.map fun v => (Rs.val (.bl v), ρ2)
@[simp] theorem w_cmp_5_some (ρ2 : Rho) (v : Bool) : w_cmp_5 ρ2 (some v) = some (Rs.val (.bl v), ρ2) := (rfl)
@[simp] theorem w_cmp_5_none (ρ2 : Rho) : w_cmp_5 ρ2 none = none := (rfl)
def w_cmp_4 (c1 : PySem.CmpOp) (ρ2 : Rho) (x : D) (q : Option (D)) : Option (Rs × Rho) := q.bind fun y => w_cmp_5 ρ2 (cmpD c1 x y)
@[simp] theorem w_cmp_4_some (c1 : PySem.CmpOp) (ρ2 : Rho) (x : D) (y : D) : w_cmp_4 c1 ρ2 x (some y) = w_cmp_5 ρ2 (cmpD c1 x y) := (rfl)
@[simp] theorem w_cmp_4_none (c1 : PySem.CmpOp) (ρ2 : Rho) (x : D) : w_cmp_4 c1 ρ2 x none = none := (rfl)
def w_cmp_3 (c1 : PySem.CmpOp) (r2 : Rs) (ρ2 : Rho) (q : Option (D)) : Option (Rs × Rho) := q.bind fun x => w_cmp_4 c1 ρ2 x (look ρ2 r2)
@[simp] theorem w_cmp_3_some (c1 : PySem.CmpOp) (r2 : Rs) (ρ2 : Rho) (x : D) : w_cmp_3 c1 r2 ρ2 (some x) = w_cmp_4 c1 ρ2 x (look ρ2 r2) := (rfl)
@[simp] theorem w_cmp_3_none (c1 : PySem.CmpOp) (r2 : Rs) (ρ2 : Rho) : w_cmp_3 c1 r2 ρ2 none = none := (rfl)
def w_cmp_2 (c1 : PySem.CmpOp) (r1 : Rs) (q : Option (Rs × Rho)) : Option (Rs × Rho) := q.bind fun (r2, ρ2) => w_cmp_3 c1 r2 ρ2 (look ρ2 r1)
@[simp] theorem w_cmp_2_some (c1 : PySem.CmpOp) (r1 : Rs) (r2 : Rs) (ρ2 : Rho) : w_cmp_2 c1 r1 (some (r2, ρ2)) = w_cmp_3 c1 r2 ρ2 (look ρ2 r1) := (rfl)
@[simp] theorem w_cmp_2_none (c1 : PySem.CmpOp) (r1 : Rs) : w_cmp_2 c1 r1 none = none := (rfl)
def w_cmp_1 (C : Cfg) (c1 : PySem.CmpOp) (b : E) (q : Option (Rs × Rho)) : Option (Rs × Rho) := q.bind fun (r1, ρ1) => w_cmp_2 c1 r1 (ev C b ρ1)
@[simp] theorem w_cmp_1_some (C : Cfg) (c1 : PySem.CmpOp) (b : E) (r1 : Rs) (ρ1 : Rho) : w_cmp_1 C c1 b (some (r1, ρ1)) = w_cmp_2 c1 r1 (ev C b ρ1) := (rfl)
@[simp] theorem w_cmp_1_none (C : Cfg) (c1 : PySem.CmpOp) (b : E) : w_cmp_1 C c1 b none = none := (rfl)
@[simp] theorem w_cmp (C : Cfg) (c1 : PySem.CmpOp) (a : E) (b : E) (ρ : Rho) : ev C (.cmp c1 a b) ρ = w_cmp_1 C c1 b (ev C a ρ) := (rfl)
def w_chnb_1 (C : Cfg) (c2 : PySem.CmpOp) (c : E) (r2 : Rs) (ρ : Rho) (q : Option (Bool)) : Option (Bool × Rho) := q.bind fun v => if v then chnC C c2 c r2 ρ else some (false, ρ)
@[simp] theorem w_chnb_1_some (C : Cfg) (c2 : PySem.CmpOp) (c : E) (r2 : Rs) (ρ : Rho) (v : Bool) : w_chnb_1 C c2 c r2 ρ (some v) = if v then chnC C c2 c r2 ρ else some (false, ρ) := (rfl)
@[simp] theorem w_chnb_1_none (C : Cfg) (c2 : PySem.CmpOp) (c : E) (r2 : Rs) (ρ : Rho) : w_chnb_1 C c2 c r2 ρ none = none := (rfl)
@[simp] theorem w_chnb (C : Cfg) (c1 : PySem.CmpOp) (c2 : PySem.CmpOp) (c : E) (r2 : Rs) (x : D) (y : D) (ρ : Rho) : chnB C c1 c2 c r2 x y ρ = w_chnb_1 C c2 c r2 ρ (cmpD c1 x y) := (rfl)
def w_chnc_4 (ρ1 : Rho) (q : Option (Bool)) : Option (Bool × Rho) := q.map fun v => (v, ρ1)
@[simp] theorem w_chnc_4_some (ρ1 : Rho) (v : Bool) : w_chnc_4 ρ1 (some v) = some (v, ρ1) := (rfl)
@[simp] theorem w_chnc_4_none (ρ1 : Rho) : w_chnc_4 ρ1 none = none := (rfl)
def w_chnc_3 (c2 : PySem.CmpOp) (ρ1 : Rho) (y : D) (q : Option (D)) : Option (Bool × Rho) := q.bind fun z => w_chnc_4 ρ1 (cmpD c2 y z)
@[simp] theorem w_chnc_3_some (c2 : PySem.CmpOp) (ρ1 : Rho) (y : D) (z : D) : w_chnc_3 c2 ρ1 y (some z) = w_chnc_4 ρ1 (cmpD c2 y z) := (rfl)
@[simp] theorem w_chnc_3_none (c2 : PySem.CmpOp) (ρ1 : Rho) (y : D) : w_chnc_3 c2 ρ1 y none = none := (rfl)
def w_chnc_2 (c2 : PySem.CmpOp) (r3 : Rs) (ρ1 : Rho) (q : Option (D)) : Option (Bool × Rho) := q.bind fun y => w_chnc_3 c2 ρ1 y (look ρ1 r3)
@[simp] theorem w_chnc_2_some (c2 : PySem.CmpOp) (r3 : Rs) (ρ1 : Rho) (y : D) : w_chnc_2 c2 r3 ρ1 (some y) = w_chnc_3 c2 ρ1 y (look ρ1 r3) := (rfl)
@[simp] theorem w_chnc_2_none (c2 : PySem.CmpOp) (r3 : Rs) (ρ1 : Rho) : w_chnc_2 c2 r3 ρ1 none = none := (rfl)
def w_chnc_1 (c2 : PySem.CmpOp) (r2 : Rs) (q : Option (Rs × Rho)) : Option (Bool × Rho) := q.bind fun (r3, ρ1) => w_chnc_2 c2 r3 ρ1 (look ρ1 r2)
@[simp] theorem w_chnc_1_some (c2 : PySem.CmpOp) (r2 : Rs) (r3 : Rs) (ρ1 : Rho) : w_chnc_1 c2 r2 (some (r3, ρ1)) = w_chnc_2 c2 r3 ρ1 (look ρ1 r2) := (rfl)
@[simp] theorem w_chnc_1_none (c2 : PySem.CmpOp) (r2 : Rs) : w_chnc_1 c2 r2 none = none := (rfl)
@[simp] theorem w_chnc (C : Cfg) (c2 : PySem.CmpOp) (c : E) (r2 : Rs) (ρ : Rho) : chnC C c2 c r2 ρ = w_chnc_1 c2 r2 (ev C c ρ) := (rfl)
def w_chn_5 (q : Option (Bool × Rho)) : Option (Rs × Rho) := q.bind fun (v, ρ3) => some (Rs.val (.bl v), ρ3)
@[simp] theorem w_chn_5_some (v : Bool) (ρ3 : Rho) : w_chn_5 (some (v, ρ3)) = some (Rs.val (.bl v), ρ3) := (rfl)
@[simp] theorem w_chn_5_none : w_chn_5 none = none := (rfl)
def w_chn_4 (C : Cfg) (c1 : PySem.CmpOp) (c2 : PySem.CmpOp) (c : E) (r2 : Rs) (ρ2 : Rho) (x : D) (q : Option (D)) : Option (Rs × Rho) := q.bind fun y => w_chn_5 (chnB C c1 c2 c r2 x y ρ2)
@[simp] theorem w_chn_4_some (C : Cfg) (c1 : PySem.CmpOp) (c2 : PySem.CmpOp) (c : E) (r2 : Rs) (ρ2 : Rho) (x : D) (y : D) : w_chn_4 C c1 c2 c r2 ρ2 x (some y) = w_chn_5 (chnB C c1 c2 c r2 x y ρ2) := (rfl)
@[simp] theorem w_chn_4_none (C : Cfg) (c1 : PySem.CmpOp) (c2 : PySem.CmpOp) (c : E) (r2 : Rs) (ρ2 : Rho) (x : D) : w_chn_4 C c1 c2 c r2 ρ2 x none = none := (rfl)
def w_chn_3 (C : Cfg) (c1 : PySem.CmpOp) (c2 : PySem.CmpOp) (c : E) (r2 : Rs) (ρ2 : Rho) (q : Option (D)) : Option (Rs × Rho) := q.bind fun x => w_chn_4 C c1 c2 c r2 ρ2 x (look ρ2 r2)
@[simp] theorem w_chn_3_some (C : Cfg) (c1 : PySem.CmpOp) (c2 : PySem.CmpOp) (c : E) (r2 : Rs) (ρ2 : Rho) (x : D) : w_chn_3 C c1 c2 c r2 ρ2 (some x) = w_chn_4 C c1 c2 c r2 ρ2 x (look ρ2 r2) := (rfl)
@[simp] theorem w_chn_3_none (C : Cfg) (c1 : PySem.CmpOp) (c2 : PySem.CmpOp) (c : E) (r2 : Rs) (ρ2 : Rho) : w_chn_3 C c1 c2 c r2 ρ2 none = none := (rfl)
def w_chn_2 (C : Cfg) (c1 : PySem.CmpOp) (c2 : PySem.CmpOp) (c : E) (r1 : Rs) (q : Option (Rs × Rho)) : Option (Rs × Rho) := q.bind fun (r2, ρ2) => w_chn_3 C c1 c2 c r2 ρ2 (look ρ2 r1)
@[simp] theorem w_chn_2_some (C : Cfg) (c1 : PySem.CmpOp) (c2 : PySem.CmpOp) (c : E) (r1 : Rs) (r2 : Rs) (ρ2 : Rho) : w_chn_2 C c1 c2 c r1 (some (r2, ρ2)) = w_chn_3 C c1 c2 c r2 ρ2 (look ρ2 r1) := (rfl)
@[simp] theorem w_chn_2_none (C : Cfg) (c1 : PySem.CmpOp) (c2 : PySem.CmpOp) (c : E) (r1 : Rs) : w_chn_2 C c1 c2 c r1 none = none := (rfl)
def w_chn_1 (C : Cfg) (c1 : PySem.CmpOp) (c2 : PySem.CmpOp) (b : E) (c : E) (q : Option (Rs × Rho)) : Option (Rs × Rho) := q.bind fun (r1, ρ1) => w_chn_2 C c1 c2 c r1 (ev C b ρ1)
@[simp] theorem w_chn_1_some (C : Cfg) (c1 : PySem.CmpOp) (c2 : PySem.CmpOp) (b : E) (c : E) (r1 : Rs) (ρ1 : Rho) : w_chn_1 C c1 c2 b c (some (r1, ρ1)) = w_chn_2 C c1 c2 c r1 (ev C b ρ1) := (rfl)
@[simp] theorem w_chn_1_none (C : Cfg) (c1 : PySem.CmpOp) (c2 : PySem.CmpOp) (b : E) (c : E) : w_chn_1 C c1 c2 b c none = none := (rfl)
@[simp] theorem w_chn (C : Cfg) (c1 : PySem.CmpOp) (c2 : PySem.CmpOp) (a : E) (b : E) (c : E) (ρ : Rho) : ev C (.chn c1 c2 a b c) ρ = w_chn_1 C c1 c2 b c (ev C a ρ) := by
  show (ev C a ρ).bind _ = (ev C a ρ).bind _
  congr 1
  funext p
  show (ev C b p.2).bind _ = (ev C b p.2).bind _
  congr 1
  funext q
  show (look q.2 p.1).bind _ = (look q.2 p.1).bind _
  congr 1
  funext x
  show (look q.2 q.1).bind _ = (look q.2 q.1).bind _
  congr 1
  funext y
  exact chn_e C c1 c2 c q.1 x y q.2
def w_tup_1 (q : Option (List D × Rho)) : Option (Rs × Rho) := q.bind fun (ds, ρ1) => if ds.length ≤ most then some (Rs.val (.tup ds), ρ1) else none
@[simp] theorem w_tup_1_some (ds : List D) (ρ1 : Rho) : w_tup_1 (some (ds, ρ1)) = if ds.length ≤ most then some (Rs.val (.tup ds), ρ1) else none := (rfl)
@[simp] theorem w_tup_1_none : w_tup_1 none = none := (rfl)
@[simp] theorem w_tup (C : Cfg) (es : List E) (ρ : Rho) : ev C (.tup es) ρ = w_tup_1 (evf C es ρ) := (rfl)
def w_lst_1 (q : Option (List D × Rho)) : Option (Rs × Rho) := q.bind fun (ds, ρ1) => if ds.length ≤ most then some (Rs.fr (.lst ds), ρ1) else none
@[simp] theorem w_lst_1_some (ds : List D) (ρ1 : Rho) : w_lst_1 (some (ds, ρ1)) = if ds.length ≤ most then some (Rs.fr (.lst ds), ρ1) else none := (rfl)
@[simp] theorem w_lst_1_none : w_lst_1 none = none := (rfl)
@[simp] theorem w_lst (C : Cfg) (es : List E) (ρ : Rho) : ev C (.lst es) ρ = w_lst_1 (evf C es ρ) := (rfl)
def w_ix_5 (ρ2 : Rho) (q : Option (D)) : Option (Rs × Rho) := q.map fun z => (Rs.val z, ρ2)
@[simp] theorem w_ix_5_some (ρ2 : Rho) (z : D) : w_ix_5 ρ2 (some z) = some (Rs.val z, ρ2) := (rfl)
@[simp] theorem w_ix_5_none (ρ2 : Rho) : w_ix_5 ρ2 none = none := (rfl)
def w_ix_4 (ρ2 : Rho) (x : D) (q : Option (D)) : Option (Rs × Rho) := q.bind fun y => w_ix_5 ρ2 (ixD x y)
@[simp] theorem w_ix_4_some (ρ2 : Rho) (x : D) (y : D) : w_ix_4 ρ2 x (some y) = w_ix_5 ρ2 (ixD x y) := (rfl)
@[simp] theorem w_ix_4_none (ρ2 : Rho) (x : D) : w_ix_4 ρ2 x none = none := (rfl)
def w_ix_3 (r2 : Rs) (ρ2 : Rho) (q : Option (D)) : Option (Rs × Rho) := q.bind fun x => w_ix_4 ρ2 x (look ρ2 r2)
@[simp] theorem w_ix_3_some (r2 : Rs) (ρ2 : Rho) (x : D) : w_ix_3 r2 ρ2 (some x) = w_ix_4 ρ2 x (look ρ2 r2) := (rfl)
@[simp] theorem w_ix_3_none (r2 : Rs) (ρ2 : Rho) : w_ix_3 r2 ρ2 none = none := (rfl)
def w_ix_2 (r1 : Rs) (q : Option (Rs × Rho)) : Option (Rs × Rho) := q.bind fun (r2, ρ2) => w_ix_3 r2 ρ2 (look ρ2 r1)
@[simp] theorem w_ix_2_some (r1 : Rs) (r2 : Rs) (ρ2 : Rho) : w_ix_2 r1 (some (r2, ρ2)) = w_ix_3 r2 ρ2 (look ρ2 r1) := (rfl)
@[simp] theorem w_ix_2_none (r1 : Rs) : w_ix_2 r1 none = none := (rfl)
def w_ix_1 (C : Cfg) (b : E) (q : Option (Rs × Rho)) : Option (Rs × Rho) := q.bind fun (r1, ρ1) => w_ix_2 r1 (ev C b ρ1)
@[simp] theorem w_ix_1_some (C : Cfg) (b : E) (r1 : Rs) (ρ1 : Rho) : w_ix_1 C b (some (r1, ρ1)) = w_ix_2 r1 (ev C b ρ1) := (rfl)
@[simp] theorem w_ix_1_none (C : Cfg) (b : E) : w_ix_1 C b none = none := (rfl)
@[simp] theorem w_ix (C : Cfg) (a : E) (b : E) (ρ : Rho) : ev C (.ix a b) ρ = w_ix_1 C b (ev C a ρ) := (rfl)
def w_slc_5 (ρ3 : Rho) (q : Option (Rs)) : Option (Rs × Rho) := q.map fun r => (r, ρ3)
@[simp] theorem w_slc_5_some (ρ3 : Rho) (r : Rs) : w_slc_5 ρ3 (some r) = some (r, ρ3) := (rfl)
@[simp] theorem w_slc_5_none (ρ3 : Rho) : w_slc_5 ρ3 none = none := (rfl)
def w_slc_4 (l : Option Int) (h : Option Int) (ρ3 : Rho) (q : Option (D)) : Option (Rs × Rho) := q.bind fun x => w_slc_5 ρ3 (slcD x l h)
@[simp] theorem w_slc_4_some (l : Option Int) (h : Option Int) (ρ3 : Rho) (x : D) : w_slc_4 l h ρ3 (some x) = w_slc_5 ρ3 (slcD x l h) := (rfl)
@[simp] theorem w_slc_4_none (l : Option Int) (h : Option Int) (ρ3 : Rho) : w_slc_4 l h ρ3 none = none := (rfl)
def w_slc_3 (r1 : Rs) (l : Option Int) (q : Option (Option Int × Rho)) : Option (Rs × Rho) := q.bind fun (h, ρ3) => w_slc_4 l h ρ3 (look ρ3 r1)
@[simp] theorem w_slc_3_some (r1 : Rs) (l : Option Int) (h : Option Int) (ρ3 : Rho) : w_slc_3 r1 l (some (h, ρ3)) = w_slc_4 l h ρ3 (look ρ3 r1) := (rfl)
@[simp] theorem w_slc_3_none (r1 : Rs) (l : Option Int) : w_slc_3 r1 l none = none := (rfl)
def w_slc_2 (C : Cfg) (hi : Option E) (r1 : Rs) (q : Option (Option Int × Rho)) : Option (Rs × Rho) := q.bind fun (l, ρ2) => w_slc_3 r1 l (evo C hi ρ2)
@[simp] theorem w_slc_2_some (C : Cfg) (hi : Option E) (r1 : Rs) (l : Option Int) (ρ2 : Rho) : w_slc_2 C hi r1 (some (l, ρ2)) = w_slc_3 r1 l (evo C hi ρ2) := (rfl)
@[simp] theorem w_slc_2_none (C : Cfg) (hi : Option E) (r1 : Rs) : w_slc_2 C hi r1 none = none := (rfl)
def w_slc_1 (C : Cfg) (lo : Option E) (hi : Option E) (q : Option (Rs × Rho)) : Option (Rs × Rho) := q.bind fun (r1, ρ1) => w_slc_2 C hi r1 (evo C lo ρ1)
@[simp] theorem w_slc_1_some (C : Cfg) (lo : Option E) (hi : Option E) (r1 : Rs) (ρ1 : Rho) : w_slc_1 C lo hi (some (r1, ρ1)) = w_slc_2 C hi r1 (evo C lo ρ1) := (rfl)
@[simp] theorem w_slc_1_none (C : Cfg) (lo : Option E) (hi : Option E) : w_slc_1 C lo hi none = none := (rfl)
@[simp] theorem w_slc (C : Cfg) (a : E) (lo : Option E) (hi : Option E) (ρ : Rho) : ev C (.slc a lo hi) ρ = w_slc_1 C lo hi (ev C a ρ) := (rfl)
def w_call_5 (ρ2 : Rho) (us : List Rs) (q : Option (Rs × List Sl)) : Option (Rs × Rho) := q.bind fun (r, fs) => if isAl r then none else some (r, giveBack ρ2 us fs)
@[simp] theorem w_call_5_some (ρ2 : Rho) (us : List Rs) (r : Rs) (fs : List Sl) : w_call_5 ρ2 us (some (r, fs)) = if isAl r then none else some (r, giveBack ρ2 us fs) := (rfl)
@[simp] theorem w_call_5_none (ρ2 : Rho) (us : List Rs) : w_call_5 ρ2 us none = none := (rfl)
def w_call_4 (C : Cfg) (f : PySem.Str) (ρ2 : Rho) (us : List Rs) (q : Option (List Sl)) : Option (Rs × Rho) := q.bind fun as => w_call_5 ρ2 us (if (ownIx ρ2 us).Nodup then C.call f as else none)
@[simp] theorem w_call_4_some (C : Cfg) (f : PySem.Str) (ρ2 : Rho) (us : List Rs) (as : List Sl) : w_call_4 C f ρ2 us (some as) = w_call_5 ρ2 us (if (ownIx ρ2 us).Nodup then C.call f as else none) := (rfl)
@[simp] theorem w_call_4_none (C : Cfg) (f : PySem.Str) (ρ2 : Rho) (us : List Rs) : w_call_4 C f ρ2 us none = none := (rfl)
def w_call_3 (C : Cfg) (f : PySem.Str) (ρ2 : Rho) (q : Option (List Rs)) : Option (Rs × Rho) := q.bind fun us => w_call_4 C f ρ2 us (argsOf ρ2 us)
@[simp] theorem w_call_3_some (C : Cfg) (f : PySem.Str) (ρ2 : Rho) (us : List Rs) : w_call_3 C f ρ2 (some us) = w_call_4 C f ρ2 us (argsOf ρ2 us) := (rfl)
@[simp] theorem w_call_3_none (C : Cfg) (f : PySem.Str) (ρ2 : Rho) : w_call_3 C f ρ2 none = none := (rfl)
def w_call_2 (C : Cfg) (f : PySem.Str) (perm : List Nat) (rs : List Rs) (q : Option (List Rs × Rho)) : Option (Rs × Rho) := q.bind fun (qs, ρ2) => w_call_3 C f ρ2 (permute (rs ++ qs) perm)
@[simp] theorem w_call_2_some (C : Cfg) (f : PySem.Str) (perm : List Nat) (rs : List Rs) (qs : List Rs) (ρ2 : Rho) : w_call_2 C f perm rs (some (qs, ρ2)) = w_call_3 C f ρ2 (permute (rs ++ qs) perm) := (rfl)
@[simp] theorem w_call_2_none (C : Cfg) (f : PySem.Str) (perm : List Nat) (rs : List Rs) : w_call_2 C f perm rs none = none := (rfl)
def w_call_1 (C : Cfg) (f : PySem.Str) (ks : List E) (perm : List Nat) (q : Option (List Rs × Rho)) : Option (Rs × Rho) := q.bind fun (rs, ρ1) => w_call_2 C f perm rs (evs C ks ρ1)
@[simp] theorem w_call_1_some (C : Cfg) (f : PySem.Str) (ks : List E) (perm : List Nat) (rs : List Rs) (ρ1 : Rho) : w_call_1 C f ks perm (some (rs, ρ1)) = w_call_2 C f perm rs (evs C ks ρ1) := (rfl)
@[simp] theorem w_call_1_none (C : Cfg) (f : PySem.Str) (ks : List E) (perm : List Nat) : w_call_1 C f ks perm none = none := (rfl)
@[simp] theorem w_call (C : Cfg) (f : PySem.Str) (es : List E) (ks : List E) (perm : List Nat) (ρ : Rho) : ev C (.call f es ks perm) ρ = w_call_1 C f ks perm (evs C es ρ) := by
  show (evs C es ρ).bind _ = (evs C es ρ).bind _
  congr 1
  funext p
  show (evs C ks p.2).bind _ = (evs C ks p.2).bind _
  congr 1
  funext q
  show (permute (p.1 ++ q.1) perm).bind _ = (permute (p.1 ++ q.1) perm).bind _
  congr 1
  funext us
  show (argsOf q.2 us).bind _ = (argsOf q.2 us).bind _
  congr 1
  funext as
  show (if (ownIx q.2 us).Nodup then _ else none) = (if (ownIx q.2 us).Nodup then C.call f as else none).bind _
  split <;> rfl
def w_blt_3 (ρ1 : Rho) (q : Option (Rs)) : Option (Rs × Rho) := q.map fun r => (r, ρ1)
@[simp] theorem w_blt_3_some (ρ1 : Rho) (r : Rs) : w_blt_3 ρ1 (some r) = some (r, ρ1) := (rfl)
@[simp] theorem w_blt_3_none (ρ1 : Rho) : w_blt_3 ρ1 none = none := (rfl)
def w_blt_2 (bt : Bt) (ρ1 : Rho) (q : Option (List D)) : Option (Rs × Rho) := q.bind fun ds => w_blt_3 ρ1 (bltD bt ds)
@[simp] theorem w_blt_2_some (bt : Bt) (ρ1 : Rho) (ds : List D) : w_blt_2 bt ρ1 (some ds) = w_blt_3 ρ1 (bltD bt ds) := (rfl)
@[simp] theorem w_blt_2_none (bt : Bt) (ρ1 : Rho) : w_blt_2 bt ρ1 none = none := (rfl)
def w_blt_1 (bt : Bt) (q : Option (List Rs × Rho)) : Option (Rs × Rho) := q.bind fun (rs, ρ1) => w_blt_2 bt ρ1 (looks ρ1 rs)
@[simp] theorem w_blt_1_some (bt : Bt) (rs : List Rs) (ρ1 : Rho) : w_blt_1 bt (some (rs, ρ1)) = w_blt_2 bt ρ1 (looks ρ1 rs) := (rfl)
@[simp] theorem w_blt_1_none (bt : Bt) : w_blt_1 bt none = none := (rfl)
@[simp] theorem w_blt (C : Cfg) (bt : Bt) (es : List E) (ρ : Rho) : ev C (.blt bt es) ρ = w_blt_1 bt (evs C es ρ) := (rfl)
def w_isi_3 (ρ1 : Rho) (q : Option (Bool)) : Option (Rs × Rho) := q.map fun v => (Rs.val (.bl v), ρ1)
@[simp] theorem w_isi_3_some (ρ1 : Rho) (v : Bool) : w_isi_3 ρ1 (some v) = some (Rs.val (.bl v), ρ1) := (rfl)
@[simp] theorem w_isi_3_none (ρ1 : Rho) : w_isi_3 ρ1 none = none := (rfl)
def w_isi_2 (s : String) (ρ1 : Rho) (q : Option (D)) : Option (Rs × Rho) := q.bind fun x => w_isi_3 ρ1 (isiD s x)
@[simp] theorem w_isi_2_some (s : String) (ρ1 : Rho) (x : D) : w_isi_2 s ρ1 (some x) = w_isi_3 ρ1 (isiD s x) := (rfl)
@[simp] theorem w_isi_2_none (s : String) (ρ1 : Rho) : w_isi_2 s ρ1 none = none := (rfl)
def w_isi_1 (s : String) (q : Option (Rs × Rho)) : Option (Rs × Rho) := q.bind fun (r1, ρ1) => w_isi_2 s ρ1 (look ρ1 r1)
@[simp] theorem w_isi_1_some (s : String) (r1 : Rs) (ρ1 : Rho) : w_isi_1 s (some (r1, ρ1)) = w_isi_2 s ρ1 (look ρ1 r1) := (rfl)
@[simp] theorem w_isi_1_none (s : String) : w_isi_1 s none = none := (rfl)
@[simp] theorem w_isi (C : Cfg) (a : E) (s : String) (ρ : Rho) : ev C (.isi a s) ρ = w_isi_1 s (ev C a ρ) := (rfl)
def w_ofr_3 (u : Bool) (ρ1 : Rho) (q : Option (List D)) : Option (Rs × Rho) := q.bind fun xs => if xs.length ≤ most then some (if u then .val (.tup xs) else .fr (.lst xs), ρ1) else none
@[simp] theorem w_ofr_3_some (u : Bool) (ρ1 : Rho) (xs : List D) : w_ofr_3 u ρ1 (some xs) = if xs.length ≤ most then some (if u then .val (.tup xs) else .fr (.lst xs), ρ1) else none := (rfl)
@[simp] theorem w_ofr_3_none (u : Bool) (ρ1 : Rho) : w_ofr_3 u ρ1 none = none := (rfl)
def w_ofr_2 (u : Bool) (ρ1 : Rho) (q : Option (List D)) : Option (Rs × Rho) := q.bind fun ds => w_ofr_3 u ρ1 (rngD ds)
@[simp] theorem w_ofr_2_some (u : Bool) (ρ1 : Rho) (ds : List D) : w_ofr_2 u ρ1 (some ds) = w_ofr_3 u ρ1 (rngD ds) := (rfl)
@[simp] theorem w_ofr_2_none (u : Bool) (ρ1 : Rho) : w_ofr_2 u ρ1 none = none := (rfl)
def w_ofr_1 (u : Bool) (q : Option (List Rs × Rho)) : Option (Rs × Rho) := q.bind fun (rs, ρ1) => w_ofr_2 u ρ1 (looks ρ1 rs)
@[simp] theorem w_ofr_1_some (u : Bool) (rs : List Rs) (ρ1 : Rho) : w_ofr_1 u (some (rs, ρ1)) = w_ofr_2 u ρ1 (looks ρ1 rs) := (rfl)
@[simp] theorem w_ofr_1_none (u : Bool) : w_ofr_1 u none = none := (rfl)
@[simp] theorem w_ofr (C : Cfg) (u : Bool) (es : List E) (ρ : Rho) : ev C (.ofr u es) ρ = w_ofr_1 u (evs C es ρ) := (rfl)
def w_app_4 (i : Nat) (d : D) (ρ2 : Rho) (q : Option (List D)) : Option (Rs × Rho) := q.bind fun xs => if xs.length < most then some (Rs.val .non, ρ2.set i (.own (.lst (xs ++ [d])))) else none
@[simp] theorem w_app_4_some (i : Nat) (d : D) (ρ2 : Rho) (xs : List D) : w_app_4 i d ρ2 (some xs) = if xs.length < most then some (Rs.val .non, ρ2.set i (.own (.lst (xs ++ [d])))) else none := (rfl)
@[simp] theorem w_app_4_none (i : Nat) (d : D) (ρ2 : Rho) : w_app_4 i d ρ2 none = none := (rfl)
def w_app_3 (i : Nat) (q : Option (D × Rho)) : Option (Rs × Rho) := q.bind fun (d, ρ2) => w_app_4 i d ρ2 (ownL ρ2 i)
@[simp] theorem w_app_3_some (i : Nat) (d : D) (ρ2 : Rho) : w_app_3 i (some (d, ρ2)) = w_app_4 i d ρ2 (ownL ρ2 i) := (rfl)
@[simp] theorem w_app_3_none (i : Nat) : w_app_3 i none = none := (rfl)
def w_app_2 (i : Nat) (q : Option (Rs × Rho)) : Option (Rs × Rho) := q.bind fun (r1, ρ1) => w_app_3 i (fix ρ1 r1)
@[simp] theorem w_app_2_some (i : Nat) (r1 : Rs) (ρ1 : Rho) : w_app_2 i (some (r1, ρ1)) = w_app_3 i (fix ρ1 r1) := (rfl)
@[simp] theorem w_app_2_none (i : Nat) : w_app_2 i none = none := (rfl)
def w_app_1 (C : Cfg) (i : Nat) (a : E) (ρ : Rho) (q : Option (List D)) : Option (Rs × Rho) := q.bind fun _ => w_app_2 i (ev C a ρ)
@[simp] theorem w_app_1_some (C : Cfg) (i : Nat) (a : E) (ρ : Rho) (any : List D) : w_app_1 C i a ρ (some any) = w_app_2 i (ev C a ρ) := (rfl)
@[simp] theorem w_app_1_none (C : Cfg) (i : Nat) (a : E) (ρ : Rho) : w_app_1 C i a ρ none = none := (rfl)
@[simp] theorem w_app (C : Cfg) (i : Nat) (a : E) (ρ : Rho) : ev C (.app i a) ρ = w_app_1 C i a ρ (ownL ρ i) := (rfl)
def w_ext_5 (i : Nat) (ρ1 : Rho) (ys : List D) (q : Option (List D)) : Option (Rs × Rho) := q.bind fun xs => if xs.length + ys.length ≤ most then some (Rs.val .non, ρ1.set i (.own (.lst (xs ++ ys)))) else none
@[simp] theorem w_ext_5_some (i : Nat) (ρ1 : Rho) (ys : List D) (xs : List D) : w_ext_5 i ρ1 ys (some xs) = if xs.length + ys.length ≤ most then some (Rs.val .non, ρ1.set i (.own (.lst (xs ++ ys)))) else none := (rfl)
@[simp] theorem w_ext_5_none (i : Nat) (ρ1 : Rho) (ys : List D) : w_ext_5 i ρ1 ys none = none := (rfl)
def w_ext_4 (i : Nat) (ρ1 : Rho) (q : Option (List D)) : Option (Rs × Rho) := q.bind fun ys => w_ext_5 i ρ1 ys (ownL ρ1 i)
@[simp] theorem w_ext_4_some (i : Nat) (ρ1 : Rho) (ys : List D) : w_ext_4 i ρ1 (some ys) = w_ext_5 i ρ1 ys (ownL ρ1 i) := (rfl)
@[simp] theorem w_ext_4_none (i : Nat) (ρ1 : Rho) : w_ext_4 i ρ1 none = none := (rfl)
def w_ext_3 (i : Nat) (ρ1 : Rho) (q : Option (D)) : Option (Rs × Rho) := q.bind fun x => w_ext_4 i ρ1 (lstOf x)
@[simp] theorem w_ext_3_some (i : Nat) (ρ1 : Rho) (x : D) : w_ext_3 i ρ1 (some x) = w_ext_4 i ρ1 (lstOf x) := (rfl)
@[simp] theorem w_ext_3_none (i : Nat) (ρ1 : Rho) : w_ext_3 i ρ1 none = none := (rfl)
def w_ext_2 (i : Nat) (q : Option (Rs × Rho)) : Option (Rs × Rho) := q.bind fun (r1, ρ1) => w_ext_3 i ρ1 (look ρ1 r1)
@[simp] theorem w_ext_2_some (i : Nat) (r1 : Rs) (ρ1 : Rho) : w_ext_2 i (some (r1, ρ1)) = w_ext_3 i ρ1 (look ρ1 r1) := (rfl)
@[simp] theorem w_ext_2_none (i : Nat) : w_ext_2 i none = none := (rfl)
def w_ext_1 (C : Cfg) (i : Nat) (a : E) (ρ : Rho) (q : Option (List D)) : Option (Rs × Rho) := q.bind fun _ => w_ext_2 i (ev C a ρ)
@[simp] theorem w_ext_1_some (C : Cfg) (i : Nat) (a : E) (ρ : Rho) (any : List D) : w_ext_1 C i a ρ (some any) = w_ext_2 i (ev C a ρ) := (rfl)
@[simp] theorem w_ext_1_none (C : Cfg) (i : Nat) (a : E) (ρ : Rho) : w_ext_1 C i a ρ none = none := (rfl)
@[simp] theorem w_ext (C : Cfg) (i : Nat) (a : E) (ρ : Rho) : ev C (.ext i a) ρ = w_ext_1 C i a ρ (ownL ρ i) := (rfl)
def w_pop_2 (i : Nat) (ρ : Rho) (xs : List D) (q : Option (D)) : Option (Rs × Rho) := q.map fun d => (Rs.val d, ρ.set i (.own (.lst xs.dropLast)))
@[simp] theorem w_pop_2_some (i : Nat) (ρ : Rho) (xs : List D) (d : D) : w_pop_2 i ρ xs (some d) = some (Rs.val d, ρ.set i (.own (.lst xs.dropLast))) := (rfl)
@[simp] theorem w_pop_2_none (i : Nat) (ρ : Rho) (xs : List D) : w_pop_2 i ρ xs none = none := (rfl)
def w_pop_1 (i : Nat) (ρ : Rho) (q : Option (List D)) : Option (Rs × Rho) := q.bind fun xs => w_pop_2 i ρ xs (xs[xs.length - 1]?)
@[simp] theorem w_pop_1_some (i : Nat) (ρ : Rho) (xs : List D) : w_pop_1 i ρ (some xs) = w_pop_2 i ρ xs (xs[xs.length - 1]?) := (rfl)
@[simp] theorem w_pop_1_none (i : Nat) (ρ : Rho) : w_pop_1 i ρ none = none := (rfl)
@[simp] theorem w_pop (C : Cfg) (i : Nat) (ρ : Rho) : ev C (.pop i) ρ = w_pop_1 i ρ (ownL ρ i) := (rfl)
def w_popi_6 (i : Nat) (ρ1 : Rho) (k : Int) (xs : List D) (q : Option (D)) : Option (Rs × Rho) := q.bind fun d => some (Rs.val d, ρ1.set i (.own (.lst (xs.eraseIdx k.toNat))))
@[simp] theorem w_popi_6_some (i : Nat) (ρ1 : Rho) (k : Int) (xs : List D) (d : D) : w_popi_6 i ρ1 k xs (some d) = some (Rs.val d, ρ1.set i (.own (.lst (xs.eraseIdx k.toNat)))) := (rfl)
@[simp] theorem w_popi_6_none (i : Nat) (ρ1 : Rho) (k : Int) (xs : List D) : w_popi_6 i ρ1 k xs none = none := (rfl)
def w_popi_5 (i : Nat) (ρ1 : Rho) (k : Int) (q : Option (List D)) : Option (Rs × Rho) := q.bind fun xs => w_popi_6 i ρ1 k xs (if P63 k then xs[k.toNat]? else none)
@[simp] theorem w_popi_5_some (i : Nat) (ρ1 : Rho) (k : Int) (xs : List D) : w_popi_5 i ρ1 k (some xs) = w_popi_6 i ρ1 k xs (if P63 k then xs[k.toNat]? else none) := (rfl)
@[simp] theorem w_popi_5_none (i : Nat) (ρ1 : Rho) (k : Int) : w_popi_5 i ρ1 k none = none := (rfl)
def w_popi_4 (i : Nat) (ρ1 : Rho) (q : Option (Int)) : Option (Rs × Rho) := q.bind fun k => w_popi_5 i ρ1 k (ownL ρ1 i)
@[simp] theorem w_popi_4_some (i : Nat) (ρ1 : Rho) (k : Int) : w_popi_4 i ρ1 (some k) = w_popi_5 i ρ1 k (ownL ρ1 i) := (rfl)
@[simp] theorem w_popi_4_none (i : Nat) (ρ1 : Rho) : w_popi_4 i ρ1 none = none := (rfl)
def w_popi_3 (i : Nat) (ρ1 : Rho) (q : Option (D)) : Option (Rs × Rho) := q.bind fun x => w_popi_4 i ρ1 (intOf x)
@[simp] theorem w_popi_3_some (i : Nat) (ρ1 : Rho) (x : D) : w_popi_3 i ρ1 (some x) = w_popi_4 i ρ1 (intOf x) := (rfl)
@[simp] theorem w_popi_3_none (i : Nat) (ρ1 : Rho) : w_popi_3 i ρ1 none = none := (rfl)
def w_popi_2 (i : Nat) (q : Option (Rs × Rho)) : Option (Rs × Rho) := q.bind fun (r1, ρ1) => w_popi_3 i ρ1 (look ρ1 r1)
@[simp] theorem w_popi_2_some (i : Nat) (r1 : Rs) (ρ1 : Rho) : w_popi_2 i (some (r1, ρ1)) = w_popi_3 i ρ1 (look ρ1 r1) := (rfl)
@[simp] theorem w_popi_2_none (i : Nat) : w_popi_2 i none = none := (rfl)
def w_popi_1 (C : Cfg) (i : Nat) (a : E) (ρ : Rho) (q : Option (List D)) : Option (Rs × Rho) := q.bind fun _ => w_popi_2 i (ev C a ρ)
@[simp] theorem w_popi_1_some (C : Cfg) (i : Nat) (a : E) (ρ : Rho) (any : List D) : w_popi_1 C i a ρ (some any) = w_popi_2 i (ev C a ρ) := (rfl)
@[simp] theorem w_popi_1_none (C : Cfg) (i : Nat) (a : E) (ρ : Rho) : w_popi_1 C i a ρ none = none := (rfl)
@[simp] theorem w_popi (C : Cfg) (i : Nat) (a : E) (ρ : Rho) : ev C (.popi i a) ρ = w_popi_1 C i a ρ (ownL ρ i) := by
  show (ownL ρ i).bind _ = (ownL ρ i).bind _
  congr 1
  funext _
  show (ev C a ρ).bind _ = (ev C a ρ).bind _
  congr 1
  funext p
  show (look p.2 p.1).bind _ = (look p.2 p.1).bind _
  congr 1
  funext x
  show (intOf x).bind _ = (intOf x).bind _
  congr 1
  funext k
  show (ownL p.2 i).bind _ = (ownL p.2 i).bind _
  congr 1
  funext xs
  show (if P63 k then _ else none) = (if P63 k then xs[k.toNat]? else none).bind _
  split
  · cases xs[k.toNat]? <;> rfl
  · rfl
def w_lc_2 (t : Tg) (ρ1 : Rho) (q : Option (List D × Rho)) : Option (Rs × Rho) := q.bind fun (ds, ρ2) => some (Rs.fr (.lst ds), restore ρ2 ρ1 t.slots)
@[simp] theorem w_lc_2_some (t : Tg) (ρ1 : Rho) (ds : List D) (ρ2 : Rho) : w_lc_2 t ρ1 (some (ds, ρ2)) = some (Rs.fr (.lst ds), restore ρ2 ρ1 t.slots) := (rfl)
@[simp] theorem w_lc_2_none (t : Tg) (ρ1 : Rho) : w_lc_2 t ρ1 none = none := (rfl)
def w_lc_1 (C : Cfg) (elt : E) (t : Tg) (mc : Option E) (q : Option (List D × Rho)) : Option (Rs × Rho) := q.bind fun (xs, ρ1) => w_lc_2 t ρ1 (if xs.length ≤ most then lcLoop (lcB C elt t mc) xs (unset ρ1 t.slots) else none)
@[simp] theorem w_lc_1_some (C : Cfg) (elt : E) (t : Tg) (mc : Option E) (xs : List D) (ρ1 : Rho) : w_lc_1 C elt t mc (some (xs, ρ1)) = w_lc_2 t ρ1 (if xs.length ≤ most then lcLoop (lcB C elt t mc) xs (unset ρ1 t.slots) else none) := (rfl)
@[simp] theorem w_lc_1_none (C : Cfg) (elt : E) (t : Tg) (mc : Option E) : w_lc_1 C elt t mc none = none := (rfl)
@[simp] theorem w_lc (C : Cfg) (elt : E) (t : Tg) (it : E) (mc : Option E) (ρ : Rho) : ev C (.lc elt t it mc) ρ = w_lc_1 C elt t mc (evi C it ρ) := by
  show (evi C it ρ).bind _ = (evi C it ρ).bind _
  congr 1
  funext p
  show (if p.1.length ≤ most then _ else none) = (if p.1.length ≤ most then lcLoop (lcB C elt t mc) p.1 (unset p.2 t.slots) else none).bind _
  split
  · show (lcLoop (lcB C elt t mc) p.1 (unset p.2 t.slots)).map _ = _
    cases lcLoop (lcB C elt t mc) p.1 (unset p.2 t.slots) <;> rfl
  · rfl
def w_tnot_1 (q : Option (Bool × Rho)) : Option (Bool × Rho) := q.map fun (v, ρ1) => (!v, ρ1)
@[simp] theorem w_tnot_1_some (v : Bool) (ρ1 : Rho) : w_tnot_1 (some (v, ρ1)) = some (!v, ρ1) := (rfl)
@[simp] theorem w_tnot_1_none : w_tnot_1 none = none := (rfl)
@[simp] theorem w_tnot (C : Cfg) (a : E) (ρ : Rho) : tst C (.not a) ρ = w_tnot_1 (tst C a ρ) := (rfl)
def w_tand_1 (C : Cfg) (b : E) (q : Option (Bool × Rho)) : Option (Bool × Rho) := q.bind fun (v, ρ1) => if v then tst C b ρ1 else some (false, ρ1)
@[simp] theorem w_tand_1_some (C : Cfg) (b : E) (v : Bool) (ρ1 : Rho) : w_tand_1 C b (some (v, ρ1)) = if v then tst C b ρ1 else some (false, ρ1) := (rfl)
@[simp] theorem w_tand_1_none (C : Cfg) (b : E) : w_tand_1 C b none = none := (rfl)
@[simp] theorem w_tand (C : Cfg) (a : E) (b : E) (ρ : Rho) : tst C (.bop true a b) ρ = w_tand_1 C b (tst C a ρ) := (rfl)
def w_tor_1 (C : Cfg) (b : E) (q : Option (Bool × Rho)) : Option (Bool × Rho) := q.bind fun (v, ρ1) => if v then some (true, ρ1) else tst C b ρ1
@[simp] theorem w_tor_1_some (C : Cfg) (b : E) (v : Bool) (ρ1 : Rho) : w_tor_1 C b (some (v, ρ1)) = if v then some (true, ρ1) else tst C b ρ1 := (rfl)
@[simp] theorem w_tor_1_none (C : Cfg) (b : E) : w_tor_1 C b none = none := (rfl)
@[simp] theorem w_tor (C : Cfg) (a : E) (b : E) (ρ : Rho) : tst C (.bop false a b) ρ = w_tor_1 C b (tst C a ρ) := (rfl)
def w_tcmp_5 (ρ2 : Rho) (q : Option (Bool)) : Option (Bool × Rho) := q.map fun v => (v, ρ2)
@[simp] theorem w_tcmp_5_some (ρ2 : Rho) (v : Bool) : w_tcmp_5 ρ2 (some v) = some (v, ρ2) := (rfl)
@[simp] theorem w_tcmp_5_none (ρ2 : Rho) : w_tcmp_5 ρ2 none = none := (rfl)
def w_tcmp_4 (c1 : PySem.CmpOp) (ρ2 : Rho) (x : D) (q : Option (D)) : Option (Bool × Rho) := q.bind fun y => w_tcmp_5 ρ2 (cmpD c1 x y)
@[simp] theorem w_tcmp_4_some (c1 : PySem.CmpOp) (ρ2 : Rho) (x : D) (y : D) : w_tcmp_4 c1 ρ2 x (some y) = w_tcmp_5 ρ2 (cmpD c1 x y) := (rfl)
@[simp] theorem w_tcmp_4_none (c1 : PySem.CmpOp) (ρ2 : Rho) (x : D) : w_tcmp_4 c1 ρ2 x none = none := (rfl)
def w_tcmp_3 (c1 : PySem.CmpOp) (r2 : Rs) (ρ2 : Rho) (q : Option (D)) : Option (Bool × Rho) := q.bind fun x => w_tcmp_4 c1 ρ2 x (look ρ2 r2)
@[simp] theorem w_tcmp_3_some (c1 : PySem.CmpOp) (r2 : Rs) (ρ2 : Rho) (x : D) : w_tcmp_3 c1 r2 ρ2 (some x) = w_tcmp_4 c1 ρ2 x (look ρ2 r2) := (rfl)
@[simp] theorem w_tcmp_3_none (c1 : PySem.CmpOp) (r2 : Rs) (ρ2 : Rho) : w_tcmp_3 c1 r2 ρ2 none = none := (rfl)
def w_tcmp_2 (c1 : PySem.CmpOp) (r1 : Rs) (q : Option (Rs × Rho)) : Option (Bool × Rho) := q.bind fun (r2, ρ2) => w_tcmp_3 c1 r2 ρ2 (look ρ2 r1)
@[simp] theorem w_tcmp_2_some (c1 : PySem.CmpOp) (r1 : Rs) (r2 : Rs) (ρ2 : Rho) : w_tcmp_2 c1 r1 (some (r2, ρ2)) = w_tcmp_3 c1 r2 ρ2 (look ρ2 r1) := (rfl)
@[simp] theorem w_tcmp_2_none (c1 : PySem.CmpOp) (r1 : Rs) : w_tcmp_2 c1 r1 none = none := (rfl)
def w_tcmp_1 (C : Cfg) (c1 : PySem.CmpOp) (b : E) (q : Option (Rs × Rho)) : Option (Bool × Rho) := q.bind fun (r1, ρ1) => w_tcmp_2 c1 r1 (ev C b ρ1)
@[simp] theorem w_tcmp_1_some (C : Cfg) (c1 : PySem.CmpOp) (b : E) (r1 : Rs) (ρ1 : Rho) : w_tcmp_1 C c1 b (some (r1, ρ1)) = w_tcmp_2 c1 r1 (ev C b ρ1) := (rfl)
@[simp] theorem w_tcmp_1_none (C : Cfg) (c1 : PySem.CmpOp) (b : E) : w_tcmp_1 C c1 b none = none := (rfl)
@[simp] theorem w_tcmp (C : Cfg) (c1 : PySem.CmpOp) (a : E) (b : E) (ρ : Rho) : tst C (.cmp c1 a b) ρ = w_tcmp_1 C c1 b (ev C a ρ) := (rfl)
def w_tchn_4 (C : Cfg) (c1 : PySem.CmpOp) (c2 : PySem.CmpOp) (c : E) (r2 : Rs) (ρ2 : Rho) (x : D) (q : Option (D)) : Option (Bool × Rho) := q.bind fun y => chnB C c1 c2 c r2 x y ρ2
@[simp] theorem w_tchn_4_some (C : Cfg) (c1 : PySem.CmpOp) (c2 : PySem.CmpOp) (c : E) (r2 : Rs) (ρ2 : Rho) (x : D) (y : D) : w_tchn_4 C c1 c2 c r2 ρ2 x (some y) = chnB C c1 c2 c r2 x y ρ2 := (rfl)
@[simp] theorem w_tchn_4_none (C : Cfg) (c1 : PySem.CmpOp) (c2 : PySem.CmpOp) (c : E) (r2 : Rs) (ρ2 : Rho) (x : D) : w_tchn_4 C c1 c2 c r2 ρ2 x none = none := (rfl)
def w_tchn_3 (C : Cfg) (c1 : PySem.CmpOp) (c2 : PySem.CmpOp) (c : E) (r2 : Rs) (ρ2 : Rho) (q : Option (D)) : Option (Bool × Rho) := q.bind fun x => w_tchn_4 C c1 c2 c r2 ρ2 x (look ρ2 r2)
@[simp] theorem w_tchn_3_some (C : Cfg) (c1 : PySem.CmpOp) (c2 : PySem.CmpOp) (c : E) (r2 : Rs) (ρ2 : Rho) (x : D) : w_tchn_3 C c1 c2 c r2 ρ2 (some x) = w_tchn_4 C c1 c2 c r2 ρ2 x (look ρ2 r2) := (rfl)
@[simp] theorem w_tchn_3_none (C : Cfg) (c1 : PySem.CmpOp) (c2 : PySem.CmpOp) (c : E) (r2 : Rs) (ρ2 : Rho) : w_tchn_3 C c1 c2 c r2 ρ2 none = none := (rfl)
def w_tchn_2 (C : Cfg) (c1 : PySem.CmpOp) (c2 : PySem.CmpOp) (c : E) (r1 : Rs) (q : Option (Rs × Rho)) : Option (Bool × Rho) := q.bind fun (r2, ρ2) => w_tchn_3 C c1 c2 c r2 ρ2 (look ρ2 r1)
@[simp] theorem w_tchn_2_some (C : Cfg) (c1 : PySem.CmpOp) (c2 : PySem.CmpOp) (c : E) (r1 : Rs) (r2 : Rs) (ρ2 : Rho) : w_tchn_2 C c1 c2 c r1 (some (r2, ρ2)) = w_tchn_3 C c1 c2 c r2 ρ2 (look ρ2 r1) := (rfl)
@[simp] theorem w_tchn_2_none (C : Cfg) (c1 : PySem.CmpOp) (c2 : PySem.CmpOp) (c : E) (r1 : Rs) : w_tchn_2 C c1 c2 c r1 none = none := (rfl)
def w_tchn_1 (C : Cfg) (c1 : PySem.CmpOp) (c2 : PySem.CmpOp) (b : E) (c : E) (q : Option (Rs × Rho)) : Option (Bool × Rho) := q.bind fun (r1, ρ1) => w_tchn_2 C c1 c2 c r1 (ev C b ρ1)
@[simp] theorem w_tchn_1_some (C : Cfg) (c1 : PySem.CmpOp) (c2 : PySem.CmpOp) (b : E) (c : E) (r1 : Rs) (ρ1 : Rho) : w_tchn_1 C c1 c2 b c (some (r1, ρ1)) = w_tchn_2 C c1 c2 c r1 (ev C b ρ1) := (rfl)
@[simp] theorem w_tchn_1_none (C : Cfg) (c1 : PySem.CmpOp) (c2 : PySem.CmpOp) (b : E) (c : E) : w_tchn_1 C c1 c2 b c none = none := (rfl)
@[simp] theorem w_tchn (C : Cfg) (c1 : PySem.CmpOp) (c2 : PySem.CmpOp) (a : E) (b : E) (c : E) (ρ : Rho) : tst C (.chn c1 c2 a b c) ρ = w_tchn_1 C c1 c2 b c (ev C a ρ) := (rfl)
def w_tru_3 (ρ1 : Rho) (q : Option (Bool)) : Option (Bool × Rho) := q.map fun v => (v, ρ1)
@[simp] theorem w_tru_3_some (ρ1 : Rho) (v : Bool) : w_tru_3 ρ1 (some v) = some (v, ρ1) := (rfl)
@[simp] theorem w_tru_3_none (ρ1 : Rho) : w_tru_3 ρ1 none = none := (rfl)
def w_tru_2 (ρ1 : Rho) (q : Option (D)) : Option (Bool × Rho) := q.bind fun x => w_tru_3 ρ1 (truth x)
@[simp] theorem w_tru_2_some (ρ1 : Rho) (x : D) : w_tru_2 ρ1 (some x) = w_tru_3 ρ1 (truth x) := (rfl)
@[simp] theorem w_tru_2_none (ρ1 : Rho) : w_tru_2 ρ1 none = none := (rfl)
def w_tru_1 (q : Option (Rs × Rho)) : Option (Bool × Rho) := q.bind fun (r1, ρ1) => w_tru_2 ρ1 (look ρ1 r1)
@[simp] theorem w_tru_1_some (r1 : Rs) (ρ1 : Rho) : w_tru_1 (some (r1, ρ1)) = w_tru_2 ρ1 (look ρ1 r1) := (rfl)
@[simp] theorem w_tru_1_none : w_tru_1 none = none := (rfl)
@[simp] theorem w_tru (C : Cfg) (a : E) (ρ : Rho) : tst C (.tru a) ρ = w_tru_1 (ev C a ρ) := (rfl)
def w_evo1_3 (ρ1 : Rho) (q : Option (Int)) : Option (Option Int × Rho) := q.map fun k => (some k, ρ1)
@[simp] theorem w_evo1_3_some (ρ1 : Rho) (k : Int) : w_evo1_3 ρ1 (some k) = some (some k, ρ1) := (rfl)
@[simp] theorem w_evo1_3_none (ρ1 : Rho) : w_evo1_3 ρ1 none = none := (rfl)
def w_evo1_2 (ρ1 : Rho) (q : Option (D)) : Option (Option Int × Rho) := q.bind fun x => w_evo1_3 ρ1 (intOf x)
@[simp] theorem w_evo1_2_some (ρ1 : Rho) (x : D) : w_evo1_2 ρ1 (some x) = w_evo1_3 ρ1 (intOf x) := (rfl)
@[simp] theorem w_evo1_2_none (ρ1 : Rho) : w_evo1_2 ρ1 none = none := (rfl)
def w_evo1_1 (q : Option (Rs × Rho)) : Option (Option Int × Rho) := q.bind fun (r1, ρ1) => w_evo1_2 ρ1 (look ρ1 r1)
@[simp] theorem w_evo1_1_some (r1 : Rs) (ρ1 : Rho) : w_evo1_1 (some (r1, ρ1)) = w_evo1_2 ρ1 (look ρ1 r1) := (rfl)
@[simp] theorem w_evo1_1_none : w_evo1_1 none = none := (rfl)
@[simp] theorem w_evo1 (C : Cfg) (a : E) (ρ : Rho) : evo C (some a) ρ = w_evo1_1 (ev C a ρ) := (rfl)
def w_evs1_2 (r1 : Rs) (q : Option (List Rs × Rho)) : Option (List Rs × Rho) := q.map fun (rs, ρ2) => (r1 :: rs, ρ2)
@[simp] theorem w_evs1_2_some (r1 : Rs) (rs : List Rs) (ρ2 : Rho) : w_evs1_2 r1 (some (rs, ρ2)) = some (r1 :: rs, ρ2) := (rfl)
@[simp] theorem w_evs1_2_none (r1 : Rs) : w_evs1_2 r1 none = none := (rfl)
def w_evs1_1 (C : Cfg) (es : List E) (q : Option (Rs × Rho)) : Option (List Rs × Rho) := q.bind fun (r1, ρ1) => w_evs1_2 r1 (evs C es ρ1)
@[simp] theorem w_evs1_1_some (C : Cfg) (es : List E) (r1 : Rs) (ρ1 : Rho) : w_evs1_1 C es (some (r1, ρ1)) = w_evs1_2 r1 (evs C es ρ1) := (rfl)
@[simp] theorem w_evs1_1_none (C : Cfg) (es : List E) : w_evs1_1 C es none = none := (rfl)
@[simp] theorem w_evs1 (C : Cfg) (a : E) (es : List E) (ρ : Rho) : evs C (a :: es) ρ = w_evs1_1 C es (ev C a ρ) := (rfl)
def w_evf1_3 (d : D) (q : Option (List D × Rho)) : Option (List D × Rho) := q.map fun (ds, ρ3) => (d :: ds, ρ3)
@[simp] theorem w_evf1_3_some (d : D) (ds : List D) (ρ3 : Rho) : w_evf1_3 d (some (ds, ρ3)) = some (d :: ds, ρ3) := (rfl)
@[simp] theorem w_evf1_3_none (d : D) : w_evf1_3 d none = none := (rfl)
def w_evf1_2 (C : Cfg) (es : List E) (q : Option (D × Rho)) : Option (List D × Rho) := q.bind fun (d, ρ2) => w_evf1_3 d (evf C es ρ2)
@[simp] theorem w_evf1_2_some (C : Cfg) (es : List E) (d : D) (ρ2 : Rho) : w_evf1_2 C es (some (d, ρ2)) = w_evf1_3 d (evf C es ρ2) := (rfl)
@[simp] theorem w_evf1_2_none (C : Cfg) (es : List E) : w_evf1_2 C es none = none := (rfl)
def w_evf1_1 (C : Cfg) (es : List E) (q : Option (Rs × Rho)) : Option (List D × Rho) := q.bind fun (r1, ρ1) => w_evf1_2 C es (fix ρ1 r1)
@[simp] theorem w_evf1_1_some (C : Cfg) (es : List E) (r1 : Rs) (ρ1 : Rho) : w_evf1_1 C es (some (r1, ρ1)) = w_evf1_2 C es (fix ρ1 r1) := (rfl)
@[simp] theorem w_evf1_1_none (C : Cfg) (es : List E) : w_evf1_1 C es none = none := (rfl)
@[simp] theorem w_evf1 (C : Cfg) (a : E) (es : List E) (ρ : Rho) : evf C (a :: es) ρ = w_evf1_1 C es (ev C a ρ) := (rfl)
def w_rng_3 (ρ1 : Rho) (q : Option (List D)) : Option (List D × Rho) := q.map fun xs => (xs, ρ1)
@[simp] theorem w_rng_3_some (ρ1 : Rho) (xs : List D) : w_rng_3 ρ1 (some xs) = some (xs, ρ1) := (rfl)
@[simp] theorem w_rng_3_none (ρ1 : Rho) : w_rng_3 ρ1 none = none := (rfl)
def w_rng_2 (ρ1 : Rho) (q : Option (List D)) : Option (List D × Rho) := q.bind fun ds => w_rng_3 ρ1 (rngD ds)
@[simp] theorem w_rng_2_some (ρ1 : Rho) (ds : List D) : w_rng_2 ρ1 (some ds) = w_rng_3 ρ1 (rngD ds) := (rfl)
@[simp] theorem w_rng_2_none (ρ1 : Rho) : w_rng_2 ρ1 none = none := (rfl)
def w_rng_1 (q : Option (List Rs × Rho)) : Option (List D × Rho) := q.bind fun (rs, ρ1) => w_rng_2 ρ1 (looks ρ1 rs)
@[simp] theorem w_rng_1_some (rs : List Rs) (ρ1 : Rho) : w_rng_1 (some (rs, ρ1)) = w_rng_2 ρ1 (looks ρ1 rs) := (rfl)
@[simp] theorem w_rng_1_none : w_rng_1 none = none := (rfl)
@[simp] theorem w_rng (C : Cfg) (es : List E) (ρ : Rho) : evi C (.rng es) ρ = w_rng_1 (evs C es ρ) := (rfl)
def w_enm_3 (ρ2 : Rho) (q : Option (List D)) : Option (List D × Rho) := q.map fun xs => (enumD 0 xs, ρ2)
@[simp] theorem w_enm_3_some (ρ2 : Rho) (xs : List D) : w_enm_3 ρ2 (some xs) = some (enumD 0 xs, ρ2) := (rfl)
@[simp] theorem w_enm_3_none (ρ2 : Rho) : w_enm_3 ρ2 none = none := (rfl)
def w_enm_2 (q : Option (D × Rho)) : Option (List D × Rho) := q.bind fun (d, ρ2) => w_enm_3 ρ2 (items d)
@[simp] theorem w_enm_2_some (d : D) (ρ2 : Rho) : w_enm_2 (some (d, ρ2)) = w_enm_3 ρ2 (items d) := (rfl)
@[simp] theorem w_enm_2_none : w_enm_2 none = none := (rfl)
def w_enm_1 (q : Option (Rs × Rho)) : Option (List D × Rho) := q.bind fun (r1, ρ1) => w_enm_2 (fix ρ1 r1)
@[simp] theorem w_enm_1_some (r1 : Rs) (ρ1 : Rho) : w_enm_1 (some (r1, ρ1)) = w_enm_2 (fix ρ1 r1) := (rfl)
@[simp] theorem w_enm_1_none : w_enm_1 none = none := (rfl)
@[simp] theorem w_enm (C : Cfg) (a : E) (ρ : Rho) : evi C (.enm a) ρ = w_enm_1 (ev C a ρ) := (rfl)
def w_ovr_3 (ρ2 : Rho) (q : Option (List D)) : Option (List D × Rho) := q.map fun xs => (xs, ρ2)
@[simp] theorem w_ovr_3_some (ρ2 : Rho) (xs : List D) : w_ovr_3 ρ2 (some xs) = some (xs, ρ2) := (rfl)
@[simp] theorem w_ovr_3_none (ρ2 : Rho) : w_ovr_3 ρ2 none = none := (rfl)
def w_ovr_2 (q : Option (D × Rho)) : Option (List D × Rho) := q.bind fun (d, ρ2) => w_ovr_3 ρ2 (items d)
@[simp] theorem w_ovr_2_some (d : D) (ρ2 : Rho) : w_ovr_2 (some (d, ρ2)) = w_ovr_3 ρ2 (items d) := (rfl)
@[simp] theorem w_ovr_2_none : w_ovr_2 none = none := (rfl)
def w_ovr_1 (q : Option (Rs × Rho)) : Option (List D × Rho) := q.bind fun (r1, ρ1) => w_ovr_2 (fix ρ1 r1)
@[simp] theorem w_ovr_1_some (r1 : Rs) (ρ1 : Rho) : w_ovr_1 (some (r1, ρ1)) = w_ovr_2 (fix ρ1 r1) := (rfl)
@[simp] theorem w_ovr_1_none : w_ovr_1 none = none := (rfl)
@[simp] theorem w_ovr (C : Cfg) (a : E) (ρ : Rho) : evi C (.ovr a) ρ = w_ovr_1 (ev C a ρ) := (rfl)
def w_zip_5 (ρ4 : Rho) (q : Option (List D)) : Option (List D × Rho) := q.map fun xs => (xs, ρ4)
@[simp] theorem w_zip_5_some (ρ4 : Rho) (xs : List D) : w_zip_5 ρ4 (some xs) = some (xs, ρ4) := (rfl)
@[simp] theorem w_zip_5_none (ρ4 : Rho) : w_zip_5 ρ4 none = none := (rfl)
def w_zip_4 (d : D) (q : Option (D × Rho)) : Option (List D × Rho) := q.bind fun (x, ρ4) => w_zip_5 ρ4 (zipItems d x)
@[simp] theorem w_zip_4_some (d : D) (x : D) (ρ4 : Rho) : w_zip_4 d (some (x, ρ4)) = w_zip_5 ρ4 (zipItems d x) := (rfl)
@[simp] theorem w_zip_4_none (d : D) : w_zip_4 d none = none := (rfl)
def w_zip_3 (d : D) (q : Option (Rs × Rho)) : Option (List D × Rho) := q.bind fun (r2, ρ3) => w_zip_4 d (fix ρ3 r2)
@[simp] theorem w_zip_3_some (d : D) (r2 : Rs) (ρ3 : Rho) : w_zip_3 d (some (r2, ρ3)) = w_zip_4 d (fix ρ3 r2) := (rfl)
@[simp] theorem w_zip_3_none (d : D) : w_zip_3 d none = none := (rfl)
def w_zip_2 (C : Cfg) (b : E) (q : Option (D × Rho)) : Option (List D × Rho) := q.bind fun (d, ρ2) => w_zip_3 d (ev C b ρ2)
@[simp] theorem w_zip_2_some (C : Cfg) (b : E) (d : D) (ρ2 : Rho) : w_zip_2 C b (some (d, ρ2)) = w_zip_3 d (ev C b ρ2) := (rfl)
@[simp] theorem w_zip_2_none (C : Cfg) (b : E) : w_zip_2 C b none = none := (rfl)
def w_zip_1 (C : Cfg) (b : E) (q : Option (Rs × Rho)) : Option (List D × Rho) := q.bind fun (r1, ρ1) => w_zip_2 C b (fix ρ1 r1)
@[simp] theorem w_zip_1_some (C : Cfg) (b : E) (r1 : Rs) (ρ1 : Rho) : w_zip_1 C b (some (r1, ρ1)) = w_zip_2 C b (fix ρ1 r1) := (rfl)
@[simp] theorem w_zip_1_none (C : Cfg) (b : E) : w_zip_1 C b none = none := (rfl)
@[simp] theorem w_zip (C : Cfg) (a : E) (b : E) (ρ : Rho) : evi C (.zip a b) ρ = w_zip_1 C b (ev C a ρ) := (rfl)
def w_ex_1 (q : Option (Rs × Rho)) : Option (O × Rho) := q.map fun (r1, ρ1) => (O.nx, ρ1)
@[simp] theorem w_ex_1_some (r1 : Rs) (ρ1 : Rho) : w_ex_1 (some (r1, ρ1)) = some (O.nx, ρ1) := (rfl)
@[simp] theorem w_ex_1_none : w_ex_1 none = none := (rfl)
@[simp] theorem w_ex (C : Cfg) (np : Nat) (a : E) (ρ : Rho) : exec C np (.ex a) ρ = w_ex_1 (ev C a ρ) := (rfl)
def w_asg_2 (q : Option (Rho)) : Option (O × Rho) := q.map fun ρ2 => (O.nx, ρ2)
@[simp] theorem w_asg_2_some (ρ2 : Rho) : w_asg_2 (some ρ2) = some (O.nx, ρ2) := (rfl)
@[simp] theorem w_asg_2_none : w_asg_2 none = none := (rfl)
def w_asg_1 (np : Nat) (i : Nat) (q : Option (Rs × Rho)) : Option (O × Rho) := q.bind fun (r1, ρ1) => w_asg_2 (store np ρ1 i r1)
@[simp] theorem w_asg_1_some (np : Nat) (i : Nat) (r1 : Rs) (ρ1 : Rho) : w_asg_1 np i (some (r1, ρ1)) = w_asg_2 (store np ρ1 i r1) := (rfl)
@[simp] theorem w_asg_1_none (np : Nat) (i : Nat) : w_asg_1 np i none = none := (rfl)
@[simp] theorem w_asg (C : Cfg) (np : Nat) (i : Nat) (a : E) (ρ : Rho) : exec C np (.asg i a) ρ = w_asg_1 np i (ev C a ρ) := (rfl)
def w_put_6 (q : Option (Rho)) : Option (O × Rho) := q.map fun ρ5 => (O.nx, ρ5)
@[simp] theorem w_put_6_some (ρ5 : Rho) : w_put_6 (some ρ5) = some (O.nx, ρ5) := (rfl)
@[simp] theorem w_put_6_none : w_put_6 none = none := (rfl)
def w_put_5 (i : Nat) (d : D) (q : Option (D × Rho)) : Option (O × Rho) := q.bind fun (x, ρ4) => w_put_6 (putAt ρ4 i x d)
@[simp] theorem w_put_5_some (i : Nat) (d : D) (x : D) (ρ4 : Rho) : w_put_5 i d (some (x, ρ4)) = w_put_6 (putAt ρ4 i x d) := (rfl)
@[simp] theorem w_put_5_none (i : Nat) (d : D) : w_put_5 i d none = none := (rfl)
def w_put_4 (i : Nat) (d : D) (q : Option (Rs × Rho)) : Option (O × Rho) := q.bind fun (r2, ρ3) => w_put_5 i d (fix ρ3 r2)
@[simp] theorem w_put_4_some (i : Nat) (d : D) (r2 : Rs) (ρ3 : Rho) : w_put_4 i d (some (r2, ρ3)) = w_put_5 i d (fix ρ3 r2) := (rfl)
@[simp] theorem w_put_4_none (i : Nat) (d : D) : w_put_4 i d none = none := (rfl)
def w_put_3 (C : Cfg) (i : Nat) (b : E) (d : D) (ρ2 : Rho) (q : Option (List D)) : Option (O × Rho) := q.bind fun _ => w_put_4 i d (ev C b ρ2)
@[simp] theorem w_put_3_some (C : Cfg) (i : Nat) (b : E) (d : D) (ρ2 : Rho) (any : List D) : w_put_3 C i b d ρ2 (some any) = w_put_4 i d (ev C b ρ2) := (rfl)
@[simp] theorem w_put_3_none (C : Cfg) (i : Nat) (b : E) (d : D) (ρ2 : Rho) : w_put_3 C i b d ρ2 none = none := (rfl)
def w_put_2 (C : Cfg) (i : Nat) (b : E) (q : Option (D × Rho)) : Option (O × Rho) := q.bind fun (d, ρ2) => w_put_3 C i b d ρ2 (ownL ρ2 i)
@[simp] theorem w_put_2_some (C : Cfg) (i : Nat) (b : E) (d : D) (ρ2 : Rho) : w_put_2 C i b (some (d, ρ2)) = w_put_3 C i b d ρ2 (ownL ρ2 i) := (rfl)
@[simp] theorem w_put_2_none (C : Cfg) (i : Nat) (b : E) : w_put_2 C i b none = none := (rfl)
def w_put_1 (C : Cfg) (i : Nat) (b : E) (q : Option (Rs × Rho)) : Option (O × Rho) := q.bind fun (r1, ρ1) => w_put_2 C i b (fix ρ1 r1)
@[simp] theorem w_put_1_some (C : Cfg) (i : Nat) (b : E) (r1 : Rs) (ρ1 : Rho) : w_put_1 C i b (some (r1, ρ1)) = w_put_2 C i b (fix ρ1 r1) := (rfl)
@[simp] theorem w_put_1_none (C : Cfg) (i : Nat) (b : E) : w_put_1 C i b none = none := (rfl)
@[simp] theorem w_put (C : Cfg) (np : Nat) (i : Nat) (b : E) (a : E) (ρ : Rho) : exec C np (.put i b a) ρ = w_put_1 C i b (ev C a ρ) := (rfl)
def w_unp_4 (q : Option (Rho)) : Option (O × Rho) := q.bind fun ρ3 => some (O.nx, ρ3)
@[simp] theorem w_unp_4_some (ρ3 : Rho) : w_unp_4 (some ρ3) = some (O.nx, ρ3) := (rfl)
@[simp] theorem w_unp_4_none : w_unp_4 none = none := (rfl)
def w_unp_3 (C : Cfg) (np : Nat) (ts : List T1) (ρ2 : Rho) (q : Option (List D)) : Option (O × Rho) := q.bind fun ds => w_unp_4 (unpAll C np ts ds ρ2)
@[simp] theorem w_unp_3_some (C : Cfg) (np : Nat) (ts : List T1) (ρ2 : Rho) (ds : List D) : w_unp_3 C np ts ρ2 (some ds) = w_unp_4 (unpAll C np ts ds ρ2) := (rfl)
@[simp] theorem w_unp_3_none (C : Cfg) (np : Nat) (ts : List T1) (ρ2 : Rho) : w_unp_3 C np ts ρ2 none = none := (rfl)
def w_unp_2 (C : Cfg) (np : Nat) (ts : List T1) (q : Option (D × Rho)) : Option (O × Rho) := q.bind fun (d, ρ2) => w_unp_3 C np ts ρ2 (tupOf d)
@[simp] theorem w_unp_2_some (C : Cfg) (np : Nat) (ts : List T1) (d : D) (ρ2 : Rho) : w_unp_2 C np ts (some (d, ρ2)) = w_unp_3 C np ts ρ2 (tupOf d) := (rfl)
@[simp] theorem w_unp_2_none (C : Cfg) (np : Nat) (ts : List T1) : w_unp_2 C np ts none = none := (rfl)
def w_unp_1 (C : Cfg) (np : Nat) (ts : List T1) (q : Option (Rs × Rho)) : Option (O × Rho) := q.bind fun (r1, ρ1) => w_unp_2 C np ts (fix ρ1 r1)
@[simp] theorem w_unp_1_some (C : Cfg) (np : Nat) (ts : List T1) (r1 : Rs) (ρ1 : Rho) : w_unp_1 C np ts (some (r1, ρ1)) = w_unp_2 C np ts (fix ρ1 r1) := (rfl)
@[simp] theorem w_unp_1_none (C : Cfg) (np : Nat) (ts : List T1) : w_unp_1 C np ts none = none := (rfl)
@[simp] theorem w_unp (C : Cfg) (np : Nat) (ts : List T1) (a : E) (ρ : Rho) : exec C np (.unp ts a) ρ = w_unp_1 C np ts (ev C a ρ) := by
  show (ev C a ρ).bind _ = (ev C a ρ).bind _
  congr 1
  funext p
  show (fix p.2 p.1).bind _ = (fix p.2 p.1).bind _
  congr 1
  funext q
  show _ = (tupOf q.1).bind _
  obtain ⟨d, ρ2⟩ := q
  cases d <;> first | rfl | (rename_i ds; show (unpAll C np ts ds ρ2).map _ = (unpAll C np ts ds ρ2).bind _; cases unpAll C np ts ds ρ2 <;> rfl)
def w_par_3 (q : Option (Rho)) : Option (O × Rho) := q.map fun ρ3 => (O.nx, ρ3)
@[simp] theorem w_par_3_some (ρ3 : Rho) : w_par_3 (some ρ3) = some (O.nx, ρ3) := (rfl)
@[simp] theorem w_par_3_none : w_par_3 none = none := (rfl)
def w_par_2 (np : Nat) (is : List Nat) (q : Option (List Rs × Rho)) : Option (O × Rho) := q.bind fun (qs, ρ2) => w_par_3 (storeAll np ρ2 is qs)
@[simp] theorem w_par_2_some (np : Nat) (is : List Nat) (qs : List Rs) (ρ2 : Rho) : w_par_2 np is (some (qs, ρ2)) = w_par_3 (storeAll np ρ2 is qs) := (rfl)
@[simp] theorem w_par_2_none (np : Nat) (is : List Nat) : w_par_2 np is none = none := (rfl)
def w_par_1 (np : Nat) (is : List Nat) (q : Option (List Rs × Rho)) : Option (O × Rho) := q.bind fun (rs, ρ1) => w_par_2 np is (fixAll ρ1 rs)
@[simp] theorem w_par_1_some (np : Nat) (is : List Nat) (rs : List Rs) (ρ1 : Rho) : w_par_1 np is (some (rs, ρ1)) = w_par_2 np is (fixAll ρ1 rs) := (rfl)
@[simp] theorem w_par_1_none (np : Nat) (is : List Nat) : w_par_1 np is none = none := (rfl)
@[simp] theorem w_par (C : Cfg) (np : Nat) (is : List Nat) (es : List E) (ρ : Rho) : exec C np (.par is es) ρ = w_par_1 np is (evs C es ρ) := (rfl)
def w_ite_1 (C : Cfg) (np : Nat) (sa : List S) (sb : List S) (q : Option (Bool × Rho)) : Option (O × Rho) := q.bind fun (v, ρ1) => if v then execs C np sa ρ1 else execs C np sb ρ1
@[simp] theorem w_ite_1_some (C : Cfg) (np : Nat) (sa : List S) (sb : List S) (v : Bool) (ρ1 : Rho) : w_ite_1 C np sa sb (some (v, ρ1)) = if v then execs C np sa ρ1 else execs C np sb ρ1 := (rfl)
@[simp] theorem w_ite_1_none (C : Cfg) (np : Nat) (sa : List S) (sb : List S) : w_ite_1 C np sa sb none = none := (rfl)
@[simp] theorem w_ite (C : Cfg) (np : Nat) (c : E) (sa : List S) (sb : List S) (ρ : Rho) : exec C np (.ite c sa sb) ρ = w_ite_1 C np sa sb (tst C c ρ) := (rfl)
def w_ret_1 (q : Option (Rs × Rho)) : Option (O × Rho) := q.map fun (r1, ρ1) => (O.ret r1, ρ1)
@[simp] theorem w_ret_1_some (r1 : Rs) (ρ1 : Rho) : w_ret_1 (some (r1, ρ1)) = some (O.ret r1, ρ1) := (rfl)
@[simp] theorem w_ret_1_none : w_ret_1 none = none := (rfl)
@[simp] theorem w_ret (C : Cfg) (np : Nat) (a : E) (ρ : Rho) : exec C np (.ret a) ρ = w_ret_1 (ev C a ρ) := (rfl)
def w_lop_1 (C : Cfg) (np : Nat) (t : Tg) (ss : List S) (q : Option (List D × Rho)) : Option (O × Rho) := q.bind fun (xs, ρ1) => forLoop (lopB C np t ss) xs ρ1
@[simp] theorem w_lop_1_some (C : Cfg) (np : Nat) (t : Tg) (ss : List S) (xs : List D) (ρ1 : Rho) : w_lop_1 C np t ss (some (xs, ρ1)) = forLoop (lopB C np t ss) xs ρ1 := (rfl)
@[simp] theorem w_lop_1_none (C : Cfg) (np : Nat) (t : Tg) (ss : List S) : w_lop_1 C np t ss none = none := (rfl)
@[simp] theorem w_lop (C : Cfg) (np : Nat) (t : Tg) (it : E) (ss : List S) (ρ : Rho) : exec C np (.lop t it ss) ρ = w_lop_1 C np t ss (evi C it ρ) := (rfl)
def w_lcB_3 (t : Tg) (q : Option (List D × Rho)) : Option (List D × Rho) := q.bind fun (ds, ρ3) => some (ds, unset ρ3 t.slots)
@[simp] theorem w_lcB_3_some (t : Tg) (ds : List D) (ρ3 : Rho) : w_lcB_3 t (some (ds, ρ3)) = some (ds, unset ρ3 t.slots) := (rfl)
@[simp] theorem w_lcB_3_none (t : Tg) : w_lcB_3 t none = none := (rfl)
def w_lcB_2 (C : Cfg) (elt : E) (t : Tg) (q : Option (Bool × Rho)) : Option (List D × Rho) := q.bind fun (v, ρ2) => w_lcB_3 t (if v then lcE C elt ρ2 else some ([], ρ2))
@[simp] theorem w_lcB_2_some (C : Cfg) (elt : E) (t : Tg) (v : Bool) (ρ2 : Rho) : w_lcB_2 C elt t (some (v, ρ2)) = w_lcB_3 t (if v then lcE C elt ρ2 else some ([], ρ2)) := (rfl)
@[simp] theorem w_lcB_2_none (C : Cfg) (elt : E) (t : Tg) : w_lcB_2 C elt t none = none := (rfl)
def w_lcB_1 (C : Cfg) (elt : E) (t : Tg) (mc : Option E) (q : Option (Rho)) : Option (List D × Rho) := q.bind fun ρ1 => w_lcB_2 C elt t (tso C mc ρ1)
@[simp] theorem w_lcB_1_some (C : Cfg) (elt : E) (t : Tg) (mc : Option E) (ρ1 : Rho) : w_lcB_1 C elt t mc (some ρ1) = w_lcB_2 C elt t (tso C mc ρ1) := (rfl)
@[simp] theorem w_lcB_1_none (C : Cfg) (elt : E) (t : Tg) (mc : Option E) : w_lcB_1 C elt t mc none = none := (rfl)
@[simp] theorem w_lcB (C : Cfg) (elt : E) (t : Tg) (mc : Option E) (x : D) (ρ : Rho) : lcB C elt t mc x ρ = w_lcB_1 C elt t mc (bindT 0 ρ t x) := by
  show (bindT 0 ρ t x).bind _ = (bindT 0 ρ t x).bind _
  congr 1
  funext ρ1
  show (tso C mc ρ1).bind _ = (tso C mc ρ1).bind _
  congr 1
  funext p
  obtain ⟨v, ρ2⟩ := p
  cases v with
  | false => rfl
  | true =>
    show (ev C elt ρ2).bind _ = ((ev C elt ρ2).bind _).bind _
    cases ev C elt ρ2 with
    | none => rfl
    | some q =>
      show (fix q.2 q.1).map _ = ((fix q.2 q.1).bind _).bind _
      cases fix q.2 q.1 <;> rfl
def w_lcE_2 (q : Option (D × Rho)) : Option (List D × Rho) := q.bind fun (d, ρ2) => some ([d], ρ2)
@[simp] theorem w_lcE_2_some (d : D) (ρ2 : Rho) : w_lcE_2 (some (d, ρ2)) = some ([d], ρ2) := (rfl)
@[simp] theorem w_lcE_2_none : w_lcE_2 none = none := (rfl)
def w_lcE_1 (q : Option (Rs × Rho)) : Option (List D × Rho) := q.bind fun (r1, ρ1) => w_lcE_2 (fix ρ1 r1)
@[simp] theorem w_lcE_1_some (r1 : Rs) (ρ1 : Rho) : w_lcE_1 (some (r1, ρ1)) = w_lcE_2 (fix ρ1 r1) := (rfl)
@[simp] theorem w_lcE_1_none : w_lcE_1 none = none := (rfl)
@[simp] theorem w_lcE (C : Cfg) (elt : E) (ρ : Rho) : lcE C elt ρ = w_lcE_1 (ev C elt ρ) := (rfl)
def w_lopB_1 (C : Cfg) (np : Nat) (ss : List S) (q : Option (Rho)) : Option (O × Rho) := q.bind fun ρ1 => execs C np ss ρ1
@[simp] theorem w_lopB_1_some (C : Cfg) (np : Nat) (ss : List S) (ρ1 : Rho) : w_lopB_1 C np ss (some ρ1) = execs C np ss ρ1 := (rfl)
@[simp] theorem w_lopB_1_none (C : Cfg) (np : Nat) (ss : List S) : w_lopB_1 C np ss none = none := (rfl)
@[simp] theorem w_lopB (C : Cfg) (np : Nat) (t : Tg) (ss : List S) (x : D) (ρ : Rho) : lopB C np t ss x ρ = w_lopB_1 C np ss (bindT np ρ t x) := (rfl)
def w_looks1_2 (d : D) (q : Option (List D)) : Option (List D) := q.map fun ds => (d :: ds)
@[simp] theorem w_looks1_2_some (d : D) (ds : List D) : w_looks1_2 d (some ds) = some (d :: ds) := (rfl)
@[simp] theorem w_looks1_2_none (d : D) : w_looks1_2 d none = none := (rfl)
def w_looks1_1 (ρ : Rho) (rs : List Rs) (q : Option (D)) : Option (List D) := q.bind fun d => w_looks1_2 d (looks ρ rs)
@[simp] theorem w_looks1_1_some (ρ : Rho) (rs : List Rs) (d : D) : w_looks1_1 ρ rs (some d) = w_looks1_2 d (looks ρ rs) := (rfl)
@[simp] theorem w_looks1_1_none (ρ : Rho) (rs : List Rs) : w_looks1_1 ρ rs none = none := (rfl)
@[simp] theorem w_looks1 (ρ : Rho) (r : Rs) (rs : List Rs) : looks ρ (r :: rs) = w_looks1_1 ρ rs (look ρ r) := (rfl)
def w_args1_2 (sl : Sl) (q : Option (List Sl)) : Option (List Sl) := q.map fun as => (sl :: as)
@[simp] theorem w_args1_2_some (sl : Sl) (as : List Sl) : w_args1_2 sl (some as) = some (sl :: as) := (rfl)
@[simp] theorem w_args1_2_none (sl : Sl) : w_args1_2 sl none = none := (rfl)
def w_args1_1 (ρ : Rho) (rs : List Rs) (q : Option (Sl)) : Option (List Sl) := q.bind fun sl => w_args1_2 sl (argsOf ρ rs)
@[simp] theorem w_args1_1_some (ρ : Rho) (rs : List Rs) (sl : Sl) : w_args1_1 ρ rs (some sl) = w_args1_2 sl (argsOf ρ rs) := (rfl)
@[simp] theorem w_args1_1_none (ρ : Rho) (rs : List Rs) : w_args1_1 ρ rs none = none := (rfl)
@[simp] theorem w_args1 (ρ : Rho) (r : Rs) (rs : List Rs) : argsOf ρ (r :: rs) = w_args1_1 ρ rs (argOf ρ r) := (rfl)
def w_fav_1 (d : D) (q : Option (List Rs × Rho)) : Option (List Rs × Rho) := q.map fun (qs, ρ1) => (Rs.val d :: qs, ρ1)
@[simp] theorem w_fav_1_some (d : D) (qs : List Rs) (ρ1 : Rho) : w_fav_1 d (some (qs, ρ1)) = some (Rs.val d :: qs, ρ1) := (rfl)
@[simp] theorem w_fav_1_none (d : D) : w_fav_1 d none = none := (rfl)
@[simp] theorem w_fav (ρ : Rho) (d : D) (rs : List Rs) : fixAll ρ (.val d :: rs) = w_fav_1 d (fixAll ρ rs) := (rfl)
def w_faf_1 (d : D) (q : Option (List Rs × Rho)) : Option (List Rs × Rho) := q.map fun (qs, ρ1) => (Rs.fr d :: qs, ρ1)
@[simp] theorem w_faf_1_some (d : D) (qs : List Rs) (ρ1 : Rho) : w_faf_1 d (some (qs, ρ1)) = some (Rs.fr d :: qs, ρ1) := (rfl)
@[simp] theorem w_faf_1_none (d : D) : w_faf_1 d none = none := (rfl)
@[simp] theorem w_faf (ρ : Rho) (d : D) (rs : List Rs) : fixAll ρ (.fr d :: rs) = w_faf_1 d (fixAll ρ rs) := (rfl)
def w_faa_2 (d : D) (q : Option (List Rs × Rho)) : Option (List Rs × Rho) := q.map fun (qs, ρ2) => (Rs.val d :: qs, ρ2)
@[simp] theorem w_faa_2_some (d : D) (qs : List Rs) (ρ2 : Rho) : w_faa_2 d (some (qs, ρ2)) = some (Rs.val d :: qs, ρ2) := (rfl)
@[simp] theorem w_faa_2_none (d : D) : w_faa_2 d none = none := (rfl)
def w_faa_1 (rs : List Rs) (q : Option (D × Rho)) : Option (List Rs × Rho) := q.bind fun (d, ρ1) => w_faa_2 d (fixAll ρ1 rs)
@[simp] theorem w_faa_1_some (rs : List Rs) (d : D) (ρ1 : Rho) : w_faa_1 rs (some (d, ρ1)) = w_faa_2 d (fixAll ρ1 rs) := (rfl)
@[simp] theorem w_faa_1_none (rs : List Rs) : w_faa_1 rs none = none := (rfl)
@[simp] theorem w_faa (ρ : Rho) (i : Nat) (rs : List Rs) : fixAll ρ (.al i :: rs) = w_faa_1 rs (fix ρ (.al i)) := (rfl)
def w_sa1_1 (np : Nat) (is : List Nat) (rs : List Rs) (q : Option (Rho)) : Option (Rho) := q.bind fun ρ1 => storeAll np ρ1 is rs
@[simp] theorem w_sa1_1_some (np : Nat) (is : List Nat) (rs : List Rs) (ρ1 : Rho) : w_sa1_1 np is rs (some ρ1) = storeAll np ρ1 is rs := (rfl)
@[simp] theorem w_sa1_1_none (np : Nat) (is : List Nat) (rs : List Rs) : w_sa1_1 np is rs none = none := (rfl)
@[simp] theorem w_sa1 (np : Nat) (ρ : Rho) (i : Nat) (is : List Nat) (r : Rs) (rs : List Rs) : storeAll np ρ (i :: is) (r :: rs) = w_sa1_1 np is rs (store np ρ i r) := (rfl)
def w_uan_1 (C : Cfg) (np : Nat) (ts : List T1) (ds : List D) (q : Option (Rho)) : Option (Rho) := q.bind fun ρ1 => unpAll C np ts ds ρ1
@[simp] theorem w_uan_1_some (C : Cfg) (np : Nat) (ts : List T1) (ds : List D) (ρ1 : Rho) : w_uan_1 C np ts ds (some ρ1) = unpAll C np ts ds ρ1 := (rfl)
@[simp] theorem w_uan_1_none (C : Cfg) (np : Nat) (ts : List T1) (ds : List D) : w_uan_1 C np ts ds none = none := (rfl)
@[simp] theorem w_uan (C : Cfg) (np : Nat) (i : Nat) (ts : List T1) (d : D) (ds : List D) (ρ : Rho) : unpAll C np (.nm i :: ts) (d :: ds) ρ = w_uan_1 C np ts ds (store np ρ i (.val d)) := (rfl)
def w_uas_4 (C : Cfg) (np : Nat) (ts : List T1) (ds : List D) (q : Option (Rho)) : Option (Rho) := q.bind fun ρ3 => unpAll C np ts ds ρ3
@[simp] theorem w_uas_4_some (C : Cfg) (np : Nat) (ts : List T1) (ds : List D) (ρ3 : Rho) : w_uas_4 C np ts ds (some ρ3) = unpAll C np ts ds ρ3 := (rfl)
@[simp] theorem w_uas_4_none (C : Cfg) (np : Nat) (ts : List T1) (ds : List D) : w_uas_4 C np ts ds none = none := (rfl)
def w_uas_3 (C : Cfg) (np : Nat) (i : Nat) (ts : List T1) (d : D) (ds : List D) (q : Option (D × Rho)) : Option (Rho) := q.bind fun (x, ρ2) => w_uas_4 C np ts ds (putAt ρ2 i x d)
@[simp] theorem w_uas_3_some (C : Cfg) (np : Nat) (i : Nat) (ts : List T1) (d : D) (ds : List D) (x : D) (ρ2 : Rho) : w_uas_3 C np i ts d ds (some (x, ρ2)) = w_uas_4 C np ts ds (putAt ρ2 i x d) := (rfl)
@[simp] theorem w_uas_3_none (C : Cfg) (np : Nat) (i : Nat) (ts : List T1) (d : D) (ds : List D) : w_uas_3 C np i ts d ds none = none := (rfl)
def w_uas_2 (C : Cfg) (np : Nat) (i : Nat) (ts : List T1) (d : D) (ds : List D) (q : Option (Rs × Rho)) : Option (Rho) := q.bind fun (r1, ρ1) => w_uas_3 C np i ts d ds (fix ρ1 r1)
@[simp] theorem w_uas_2_some (C : Cfg) (np : Nat) (i : Nat) (ts : List T1) (d : D) (ds : List D) (r1 : Rs) (ρ1 : Rho) : w_uas_2 C np i ts d ds (some (r1, ρ1)) = w_uas_3 C np i ts d ds (fix ρ1 r1) := (rfl)
@[simp] theorem w_uas_2_none (C : Cfg) (np : Nat) (i : Nat) (ts : List T1) (d : D) (ds : List D) : w_uas_2 C np i ts d ds none = none := (rfl)
def w_uas_1 (C : Cfg) (np : Nat) (i : Nat) (a : E) (ts : List T1) (d : D) (ds : List D) (ρ : Rho) (q : Option (List D)) : Option (Rho) := q.bind fun _ => w_uas_2 C np i ts d ds (ev C a ρ)
@[simp] theorem w_uas_1_some (C : Cfg) (np : Nat) (i : Nat) (a : E) (ts : List T1) (d : D) (ds : List D) (ρ : Rho) (any : List D) : w_uas_1 C np i a ts d ds ρ (some any) = w_uas_2 C np i ts d ds (ev C a ρ) := (rfl)
@[simp] theorem w_uas_1_none (C : Cfg) (np : Nat) (i : Nat) (a : E) (ts : List T1) (d : D) (ds : List D) (ρ : Rho) : w_uas_1 C np i a ts d ds ρ none = none := (rfl)
@[simp] theorem w_uas (C : Cfg) (np : Nat) (i : Nat) (a : E) (ts : List T1) (d : D) (ds : List D) (ρ : Rho) : unpAll C np (.sub i a :: ts) (d :: ds) ρ = w_uas_1 C np i a ts d ds ρ (ownL ρ i) := (rfl)
def w_put2_2 (ρ : Rho) (i : Nat) (d : D) (xs : List D) (q : Option (Nat)) : Option (Rho) := q.map fun j => (ρ.set i (.own (.lst (xs.set j d))))
@[simp] theorem w_put2_2_some (ρ : Rho) (i : Nat) (d : D) (xs : List D) (j : Nat) : w_put2_2 ρ i d xs (some j) = some (ρ.set i (.own (.lst (xs.set j d)))) := (rfl)
@[simp] theorem w_put2_2_none (ρ : Rho) (i : Nat) (d : D) (xs : List D) : w_put2_2 ρ i d xs none = none := (rfl)
def w_put2_1 (ρ : Rho) (i : Nat) (k : Int) (d : D) (q : Option (List D)) : Option (Rho) := q.bind fun xs => w_put2_2 ρ i d xs (L2.ixN xs.length k)
@[simp] theorem w_put2_1_some (ρ : Rho) (i : Nat) (k : Int) (d : D) (xs : List D) : w_put2_1 ρ i k d (some xs) = w_put2_2 ρ i d xs (L2.ixN xs.length k) := (rfl)
@[simp] theorem w_put2_1_none (ρ : Rho) (i : Nat) (k : Int) (d : D) : w_put2_1 ρ i k d none = none := (rfl)
@[simp] theorem w_put2 (ρ : Rho) (i : Nat) (k : Int) (d : D) : putAt ρ i (.int k) d = w_put2_1 ρ i k d (ownL ρ i) := (rfl)
/-- turns that change no name -/
theorem lcLoop_map {f : D → Rho → Option (List D × Rho)} {g : D → List D} {ρ : Rho} : ∀ {xs : List D}, (∀ x ∈ xs, f x ρ = some (g x, ρ)) → lcLoop f xs ρ = some ((xs.map g).flatten, ρ)
  | [], _ => rfl
  | x :: xs, h => by
    show (f x ρ).bind _ = _
    rw [h x List.mem_cons_self]
    show (lcLoop f xs ρ).map _ = _
    rw [lcLoop_map fun y hy => h y (List.mem_cons_of_mem _ hy)]
    rfl
/-- .. each one value -/
theorem lcLoop_one {α : Type} {f : D → Rho → Option (List D × Rho)} {e g : α → D} {ρ : Rho} : ∀ {xs : List α}, (∀ x ∈ xs, f (e x) ρ = some ([g x], ρ)) → lcLoop f (xs.map e) ρ = some (xs.map g, ρ)
  | [], _ => rfl
  | x :: xs, h => by
    show (f (e x) ρ).bind _ = _
    rw [h x List.mem_cons_self]
    show (lcLoop f (xs.map e) ρ).map _ = _
    rw [lcLoop_one fun y hy => h y (List.mem_cons_of_mem _ hy)]
    rfl
/-- .. some of the values -/
theorem lcLoop_filter {α : Type} {f : D → Rho → Option (List D × Rho)} {e g : α → D} {p : α → Bool} {ρ : Rho} : ∀ {xs : List α}, (∀ x ∈ xs, f (e x) ρ = some (if p x then [g x] else [], ρ)) → lcLoop f (xs.map e) ρ = some ((xs.filter p).map g, ρ)
  | [], _ => rfl
  | x :: xs, h => by
    show (f (e x) ρ).bind _ = _
    rw [h x List.mem_cons_self]
    show (lcLoop f (xs.map e) ρ).map _ = _
    rw [lcLoop_filter fun y hy => h y (List.mem_cons_of_mem _ hy), List.filter_cons]
    cases p x <;> rfl
/-- turns that draw: what they bring keeps I -/
theorem lcLoop_ex {α : Type} {f : D → Rho → Option (List D × Rho)} {e : α → D} {I : List D → Rho → Prop} : ∀ {xs : List α} {acc : List D} {ρ : Rho}, I acc ρ → (∀ x ∈ xs, ∀ acc ρ, I acc ρ → ∃ ds ρ', f (e x) ρ = some (ds, ρ') ∧ I (acc ++ ds) ρ') →
    ∃ ds ρ', lcLoop f (xs.map e) ρ = some (ds, ρ') ∧ I (acc ++ ds) ρ'
  | [], acc, ρ, h0, _ => ⟨[], ρ, rfl, by rw [List.append_nil]; exact h0⟩
  | x :: xs, acc, ρ, h0, h => by
    obtain ⟨ds, ρ1, e1, h1⟩ := h x List.mem_cons_self acc ρ h0
    obtain ⟨es, ρ2, e2, h2⟩ := lcLoop_ex h1 fun y hy => h y (List.mem_cons_of_mem _ hy)
    refine ⟨ds ++ es, ρ2, ?_, by rw [← List.append_assoc]; exact h2⟩
    show (f (e x) ρ).bind _ = _
    rw [e1]
    show (lcLoop f (xs.map e) ρ1).map _ = _
    rw [e2]
    rfl
/-- turns that draw one value each -/
theorem lcLoop_draw {α β : Type} {f : D → Rho → Option (List D × Rho)} {e : α → D} {g : β → D} {I : Rho → Prop} {P : β → Prop} : ∀ {xs : List α} {ρ : Rho}, I ρ → (∀ x ∈ xs, ∀ ρ, I ρ → ∃ y ρ', f (e x) ρ = some ([g y], ρ') ∧ I ρ' ∧ P y) →
    ∃ (ys : List β) (ρ' : Rho), lcLoop f (xs.map e) ρ = some (ys.map g, ρ') ∧ I ρ' ∧ ys.length = xs.length ∧ ∀ y ∈ ys, P y
  | [], ρ, h0, _ => ⟨[], ρ, rfl, h0, rfl, fun y hy => absurd hy (by simp)⟩
  | x :: xs, ρ, h0, h => by
    obtain ⟨y, ρ1, e1, h1, p1⟩ := h x List.mem_cons_self ρ h0
    obtain ⟨ys, ρ2, e2, h2, l2, p2⟩ := lcLoop_draw h1 fun z hz => h z (List.mem_cons_of_mem _ hz)
    refine ⟨y :: ys, ρ2, ?_, h2, by rw [List.length_cons, List.length_cons, l2], fun z hz => ?_⟩
    · show (f (e x) ρ).bind _ = _
      rw [e1]
      show (lcLoop f (xs.map e) ρ1).map _ = _
      rw [e2]
      rfl
    · rcases List.mem_cons.mp hz with rfl | hz
      · exact p1
      · exact p2 z hz
/-- a loop that runs to its end: I by how many turns are behind -/
theorem forLoop_nx {α : Type} {f : D → Rho → Option (O × Rho)} {e : α → D} {I : List α → Rho → Prop} : ∀ {xs done : List α} {ρ : Rho}, I done ρ → (∀ x ∈ xs, ∀ done ρ, I done ρ → ∃ ρ', f (e x) ρ = some (.nx, ρ') ∧ I (done ++ [x]) ρ') →
    ∃ ρ', forLoop f (xs.map e) ρ = some (.nx, ρ') ∧ I (done ++ xs) ρ'
  | [], done, ρ, h0, _ => ⟨ρ, rfl, by rw [List.append_nil]; exact h0⟩
  | x :: xs, done, ρ, h0, h => by
    obtain ⟨ρ1, e1, h1⟩ := h x List.mem_cons_self done ρ h0
    obtain ⟨ρ2, e2, h2⟩ := forLoop_nx h1 fun y hy => h y (List.mem_cons_of_mem _ hy)
    refine ⟨ρ2, ?_, by rw [show done ++ x :: xs = done ++ [x] ++ xs by simp]; exact h2⟩
    show (f (e x) ρ).bind _ = _
    rw [e1]
    exact e2
/-- .. the turns that are left known by their place -/
theorem forLoop_at {α : Type} {f : D → Rho → Option (O × Rho)} {e : α → D} {I : Nat → Rho → Prop} : ∀ {xs : List α} {n : Nat} {ρ : Rho}, I n ρ → (∀ (i : Nat) (x : α), xs[i]? = some x → ∀ ρ, I (n + i) ρ → ∃ ρ', f (e x) ρ = some (.nx, ρ') ∧ I (n + i + 1) ρ') →
    ∃ ρ', forLoop f (xs.map e) ρ = some (.nx, ρ') ∧ I (n + xs.length) ρ'
  | [], n, ρ, h0, _ => ⟨ρ, rfl, h0⟩
  | x :: xs, n, ρ, h0, h => by
    obtain ⟨ρ1, e1, h1⟩ := h 0 x rfl ρ h0
    obtain ⟨ρ2, e2, h2⟩ := forLoop_at (xs := xs) (n := n + 1) h1 fun i y hy ρ hi => by
      have := h (i + 1) y (by simpa using hy) ρ (by rw [show n + (i + 1) = n + 1 + i by omega]; exact hi)
      rw [show n + (i + 1) + 1 = n + 1 + i + 1 by omega] at this
      exact this
    refine ⟨ρ2, ?_, by rw [List.length_cons, show n + (xs.length + 1) = n + 1 + xs.length by omega]; exact h2⟩
    show (f (e x) ρ).bind _ = _
    rw [e1]
    exact e2
/-- a while loop: a measure that falls -/
theorem while_nx {c : Rho → Option (Bool × Rho)} {f : Rho → Option (O × Rho)} {I : Nat → Rho → Prop} {Z : Rho → Prop} (h : ∀ m ρ, I m ρ → (∃ ρ1, c ρ = some (false, ρ1) ∧ Z ρ1) ∨ ∃ ρ1 ρ2 m', c ρ = some (true, ρ1) ∧ f ρ1 = some (.nx, ρ2) ∧ m' < m ∧ I m' ρ2) :
    ∀ (n m : Nat) (ρ : Rho), I m ρ → m < n → ∃ ρ', whileLoop c f n ρ = some (.nx, ρ') ∧ Z ρ'
  | 0, m, ρ, _, hn => absurd hn (Nat.not_lt_zero m)
  | n + 1, m, ρ, hi, hn => by
    rcases h m ρ hi with ⟨ρ1, e1, z⟩ | ⟨ρ1, ρ2, m', e1, e2, hm, h2⟩
    · refine ⟨ρ1, ?_, z⟩
      show (c ρ).bind _ = _
      rw [e1]
      rfl
    · obtain ⟨ρ3, e3, z⟩ := while_nx h n m' ρ2 h2 (by omega)
      refine ⟨ρ3, ?_, z⟩
      show (c ρ).bind _ = _
      rw [e1]
      show (f ρ1).bind _ = _
      rw [e2]
      exact e3
@[simp] theorem w_ints (ns : List Int) : intsOf (ns.map .int) = some ns := by
  induction ns with
  | nil => rfl
  | cons n ns ih => simp [intsOf, ih]
@[simp] theorem w_bls (ns : List Bool) : blsOf (ns.map .bl) = some ns := by
  induction ns with
  | nil => rfl
  | cons n ns ih => simp [blsOf, ih]

section
variable (C : Cfg) (np : Nat) (ρ : Rho) (i j k : Nat) (a b c : E) (es ks : List E) (d e : D) (r : Rs) (rs : List Rs) (s : S) (ss : List S) (x : PySem.Str) (perm : List Nat) (t : String)
@[simp] theorem w_var : ev C (.var i) ρ = match ρ[i]? with | some (.ro _) => some (.al i, ρ) | some (.own _) => some (.al i, ρ) | _ => none := (rfl)
@[simp] theorem w_con : ev C (.con d) ρ = some (.val d, ρ) := (rfl)
@[simp] theorem w_glb : ev C (.glb x) ρ = (C.glb x).map fun d => (.val d, ρ) := (rfl)
@[simp] theorem w_tso0 : tso C none ρ = some (true, ρ) := (rfl)
@[simp] theorem w_tso1 : tso C (some a) ρ = tst C a ρ := (rfl)
@[simp] theorem w_evo0 : evo C none ρ = some (none, ρ) := (rfl)
@[simp] theorem w_evs0 : evs C [] ρ = some ([], ρ) := (rfl)
@[simp] theorem w_evf0 : evf C [] ρ = some ([], ρ) := (rfl)
@[simp] theorem w_retN : exec C np .retN ρ = some (.ret (.val .non), ρ) := (rfl)
@[simp] theorem w_pas : exec C np .pas ρ = some (.nx, ρ) := (rfl)
@[simp] theorem w_brk : exec C np .brk ρ = some (.brk, ρ) := (rfl)
@[simp] theorem w_cnt : exec C np .cnt ρ = some (.cnt, ρ) := (rfl)
@[simp] theorem w_ss0 : execs C np [] ρ = some (.nx, ρ) := (rfl)
@[simp] theorem w_lookv : look ρ (.val d) = some d := (rfl)
@[simp] theorem w_lookf : look ρ (.fr d) = some d := (rfl)
@[simp] theorem w_looka : look ρ (.al i) = match ρ[i]? with | some (.ro d) => some d | some (.own d) => some d | _ => none := (rfl)
@[simp] theorem w_looks0 : looks ρ [] = some [] := (rfl)
@[simp] theorem w_fixv : fix ρ (.val d) = some (d, ρ) := (rfl)
@[simp] theorem w_fixf : fix ρ (.fr d) = some (d, ρ) := (rfl)
@[simp] theorem w_fixa : fix ρ (.al i) = match ρ[i]? with | some (.ro d) => some (d, ρ) | some (.own d) => some (d, ρ.set i (.ro d)) | _ => none := (rfl)
@[simp] theorem w_argv : argOf ρ (.val d) = some (.ro d) := (rfl)
@[simp] theorem w_argf : argOf ρ (.fr d) = some (.own d) := (rfl)
@[simp] theorem w_arga : argOf ρ (.al i) = match ρ[i]? with | some (.ro d) => some (.ro d) | some (.own d) => some (.own d) | _ => none := (rfl)
@[simp] theorem w_args0 : argsOf ρ [] = some [] := (rfl)
@[simp] theorem w_own0 : ownIx ρ [] = [] := (rfl)
@[simp] theorem w_ownv : ownIx ρ (.val d :: rs) = ownIx ρ rs := (rfl)
@[simp] theorem w_ownf : ownIx ρ (.fr d :: rs) = ownIx ρ rs := (rfl)
@[simp] theorem w_owna : ownIx ρ (.al i :: rs) = match ρ[i]? with | some (.own _) => i :: ownIx ρ rs | _ => ownIx ρ rs := (rfl)
@[simp] theorem w_gb0 : ∀ fs, giveBack ρ [] fs = ρ := fun fs => by cases fs <;> rfl
@[simp] theorem w_gbv : ∀ f fs, giveBack ρ (.val d :: rs) (f :: fs) = giveBack ρ rs fs := fun _ _ => (rfl)
@[simp] theorem w_gbf : ∀ f fs, giveBack ρ (.fr d :: rs) (f :: fs) = giveBack ρ rs fs := fun _ _ => (rfl)
@[simp] theorem w_gba : ∀ f fs, giveBack ρ (.al i :: rs) (f :: fs) = match ρ[i]? with | some (.own _) => (giveBack ρ rs fs).set i f | _ => giveBack ρ rs fs := fun _ _ => (rfl)
@[simp] theorem w_alv : isAl (.val d) = false := (rfl)
@[simp] theorem w_alf : isAl (.fr d) = false := (rfl)
@[simp] theorem w_fa0 : fixAll ρ [] = some ([], ρ) := (rfl)
@[simp] theorem w_stv : store np ρ i (.val d) = if np ≤ i ∧ i < ρ.length then some (ρ.set i (.ro d)) else none := (rfl)
@[simp] theorem w_stf : store np ρ i (.fr d) = if np ≤ i ∧ i < ρ.length then some (ρ.set i (.own d)) else none := (rfl)
@[simp] theorem w_sta : store np ρ i (.al j) = if np ≤ i ∧ i < ρ.length then (fix ρ (.al j)).map fun p => p.2.set i (.ro p.1) else none := (rfl)
@[simp] theorem w_sa0 : storeAll np ρ [] [] = some ρ := (rfl)
@[simp] theorem w_rtv : retOf np ρ (.val d) = some (.val d, ρ) := (rfl)
@[simp] theorem w_rtf : retOf np ρ (.fr d) = some (.fr d, ρ) := (rfl)
@[simp] theorem w_rta : retOf np ρ (.al i) = match ρ[i]? with | some (.own d) => if np ≤ i then some (.fr d, ρ) else some (.val d, ρ.set i (.ro d)) | some (.ro d) => some (.val d, ρ) | _ => none := (rfl)
@[simp] theorem w_btn : bindT np ρ (.nm i) d = if np ≤ i ∧ i < ρ.length then some (ρ.set i (.ro d)) else none := by cases d <;> rfl
@[simp] theorem w_bttup : ∀ is ds, bindT np ρ (.tp is) (.tup ds) = setAll np ρ is ds := fun _ _ => (rfl)
@[simp] theorem w_btrtp : ∀ is ds, bindT np ρ (.tp is) (.rtp ds) = setAll np ρ is ds := fun _ _ => (rfl)
@[simp] theorem w_all0 : setAll np ρ [] [] = some ρ := (rfl)
@[simp] theorem w_all1 : ∀ is ds, setAll np ρ (i :: is) (d :: ds) = if np ≤ i ∧ i < ρ.length then setAll np (ρ.set i (.ro d)) is ds else none := fun _ _ => (rfl)
@[simp] theorem w_un0 : unset ρ [] = ρ := (rfl)
@[simp] theorem w_un1 : ∀ is, unset ρ (i :: is) = (unset ρ is).set i .un := fun _ => (rfl)
@[simp] theorem w_rs0 : ∀ ρ0, restore ρ ρ0 [] = ρ := fun _ => (rfl)
@[simp] theorem w_rs1 : ∀ ρ0 is, restore ρ ρ0 (i :: is) = (restore ρ ρ0 is).set i (ρ0[i]?.getD .un) := fun _ _ => (rfl)
@[simp] theorem w_sln : (Tg.nm i).slots = [i] := (rfl)
@[simp] theorem w_slt : ∀ is, (Tg.tp is).slots = is := fun _ => (rfl)
@[simp] theorem w_ua0 : unpAll C np [] [] ρ = some ρ := (rfl)
@[simp] theorem w_items1 : ∀ xs, items (.tup xs) = some xs := fun _ => (rfl)
@[simp] theorem w_items2 : ∀ xs, items (.lst xs) = some xs := fun _ => (rfl)
@[simp] theorem w_items3 : ∀ xs, items (.scr xs) = some (xs.map .int) := fun _ => (rfl)
@[simp] theorem w_int : ∀ n : Int, intOf (.int n) = some n := fun _ => (rfl)
@[simp] theorem w_lstOf : ∀ xs, lstOf (.lst xs) = some xs := fun _ => (rfl)
@[simp] theorem w_ownL : ownL ρ i = match ρ[i]? with | some (.own (.lst xs)) => some xs | _ => none := (rfl)
@[simp] theorem w_fin0 : ∀ fs, finOk [] fs = true := fun _ => (rfl)
@[simp] theorem w_fin1 : ∀ a f as fs, finOk (a :: as) (f :: fs) = (fin1 a f && finOk as fs) := fun _ _ _ _ => (rfl)
@[simp] theorem w_f1r : ∀ f, fin1 (.ro d) f = true := fun f => by cases f <;> rfl
@[simp] theorem w_f1o : fin1 (.own d) (.own e) = true := (rfl)
@[simp] theorem w_f1l : ∀ xs, fin1 (.own d) (.ro (.lst xs)) = true := fun _ => (rfl)
@[simp] theorem w_iint_non : isiD "int" (.non) = some false := by first | rfl | decide
@[simp] theorem w_iint_bl (bb : Bool) : isiD "int" (.bl bb) = some true := by first | rfl | decide
@[simp] theorem w_iint_int (nn : Int) : isiD "int" (.int nn) = some true := by first | rfl | decide
@[simp] theorem w_iint_str (zz : PySem.Str) : isiD "int" (.str zz) = some false := by first | rfl | decide
@[simp] theorem w_iint_tup (dd : List D) : isiD "int" (.tup dd) = some false := by first | rfl | decide
@[simp] theorem w_iint_lst (dd : List D) : isiD "int" (.lst dd) = some false := by first | rfl | decide
@[simp] theorem w_iint_dct (dd ee : List D) : isiD "int" (.dct dd ee) = some false := by first | rfl | decide
@[simp] theorem w_iint_scr (mm : List Int) : isiD "int" (.scr mm) = some false := by first | rfl | decide
@[simp] theorem w_ibool_non : isiD "bool" (.non) = some false := by first | rfl | decide
@[simp] theorem w_ibool_bl (bb : Bool) : isiD "bool" (.bl bb) = some true := by first | rfl | decide
@[simp] theorem w_ibool_int (nn : Int) : isiD "bool" (.int nn) = some false := by first | rfl | decide
@[simp] theorem w_ibool_str (zz : PySem.Str) : isiD "bool" (.str zz) = some false := by first | rfl | decide
@[simp] theorem w_ibool_tup (dd : List D) : isiD "bool" (.tup dd) = some false := by first | rfl | decide
@[simp] theorem w_ibool_lst (dd : List D) : isiD "bool" (.lst dd) = some false := by first | rfl | decide
@[simp] theorem w_ibool_dct (dd ee : List D) : isiD "bool" (.dct dd ee) = some false := by first | rfl | decide
@[simp] theorem w_ibool_scr (mm : List Int) : isiD "bool" (.scr mm) = some false := by first | rfl | decide
@[simp] theorem w_istr_non : isiD "str" (.non) = some false := by first | rfl | decide
@[simp] theorem w_istr_bl (bb : Bool) : isiD "str" (.bl bb) = some false := by first | rfl | decide
@[simp] theorem w_istr_int (nn : Int) : isiD "str" (.int nn) = some false := by first | rfl | decide
@[simp] theorem w_istr_str (zz : PySem.Str) : isiD "str" (.str zz) = some true := by first | rfl | decide
@[simp] theorem w_istr_tup (dd : List D) : isiD "str" (.tup dd) = some false := by first | rfl | decide
@[simp] theorem w_istr_lst (dd : List D) : isiD "str" (.lst dd) = some false := by first | rfl | decide
@[simp] theorem w_istr_dct (dd ee : List D) : isiD "str" (.dct dd ee) = some false := by first | rfl | decide
@[simp] theorem w_istr_scr (mm : List Int) : isiD "str" (.scr mm) = some false := by first | rfl | decide
@[simp] theorem w_ituple_non : isiD "tuple" (.non) = some false := by first | rfl | decide
@[simp] theorem w_ituple_bl (bb : Bool) : isiD "tuple" (.bl bb) = some false := by first | rfl | decide
@[simp] theorem w_ituple_int (nn : Int) : isiD "tuple" (.int nn) = some false := by first | rfl | decide
@[simp] theorem w_ituple_str (zz : PySem.Str) : isiD "tuple" (.str zz) = some false := by first | rfl | decide
@[simp] theorem w_ituple_tup (dd : List D) : isiD "tuple" (.tup dd) = some true := by first | rfl | decide
@[simp] theorem w_ituple_lst (dd : List D) : isiD "tuple" (.lst dd) = some false := by first | rfl | decide
@[simp] theorem w_ituple_dct (dd ee : List D) : isiD "tuple" (.dct dd ee) = some false := by first | rfl | decide
@[simp] theorem w_ituple_scr (mm : List Int) : isiD "tuple" (.scr mm) = some false := by first | rfl | decide
@[simp] theorem w_ilist_non : isiD "list" (.non) = some false := by first | rfl | decide
@[simp] theorem w_ilist_bl (bb : Bool) : isiD "list" (.bl bb) = some false := by first | rfl | decide
@[simp] theorem w_ilist_int (nn : Int) : isiD "list" (.int nn) = some false := by first | rfl | decide
@[simp] theorem w_ilist_str (zz : PySem.Str) : isiD "list" (.str zz) = some false := by first | rfl | decide
@[simp] theorem w_ilist_tup (dd : List D) : isiD "list" (.tup dd) = some false := by first | rfl | decide
@[simp] theorem w_ilist_lst (dd : List D) : isiD "list" (.lst dd) = some true := by first | rfl | decide
@[simp] theorem w_ilist_dct (dd ee : List D) : isiD "list" (.dct dd ee) = some false := by first | rfl | decide
@[simp] theorem w_ilist_scr (mm : List Int) : isiD "list" (.scr mm) = some true := by first | rfl | decide
@[simp] theorem w_idict_non : isiD "dict" (.non) = some false := by first | rfl | decide
@[simp] theorem w_idict_bl (bb : Bool) : isiD "dict" (.bl bb) = some false := by first | rfl | decide
@[simp] theorem w_idict_int (nn : Int) : isiD "dict" (.int nn) = some false := by first | rfl | decide
@[simp] theorem w_idict_str (zz : PySem.Str) : isiD "dict" (.str zz) = some false := by first | rfl | decide
@[simp] theorem w_idict_tup (dd : List D) : isiD "dict" (.tup dd) = some false := by first | rfl | decide
@[simp] theorem w_idict_lst (dd : List D) : isiD "dict" (.lst dd) = some false := by first | rfl | decide
@[simp] theorem w_idict_dct (dd ee : List D) : isiD "dict" (.dct dd ee) = some true := by first | rfl | decide
@[simp] theorem w_idict_scr (mm : List Int) : isiD "dict" (.scr mm) = some false := by first | rfl | decide
@[simp] theorem b_len1 (xs : List D) : bltD .len [.lst xs] = some (.val (.int xs.length)) := (rfl)
@[simp] theorem b_len2 (xs : List D) : bltD .len [.tup xs] = some (.val (.int xs.length)) := (rfl)
@[simp] theorem b_len3 (xs : List Int) : bltD .len [.scr xs] = some (.val (.int xs.length)) := (rfl)
@[simp] theorem b_tup1 (xs : List D) : bltD .tuple [.lst xs] = some (.val (.tup xs)) := (rfl)
@[simp] theorem b_tup2 (xs : List D) : bltD .tuple [.tup xs] = some (.val (.tup xs)) := (rfl)
@[simp] theorem b_lst1 (xs : List D) : bltD .list [.lst xs] = some (.fr (.lst xs)) := (rfl)
@[simp] theorem b_lst2 (xs : List D) : bltD .list [.tup xs] = some (.fr (.lst xs)) := (rfl)
@[simp] theorem b_lst3 (xs : List Int) : bltD .list [.scr xs] = some (.fr (.lst (xs.map .int))) := (rfl)
@[simp] theorem b_srt1 (ns : List Int) : bltD .sorted [.lst (ns.map .int)] = some (.fr (.lst ((isort ns).map .int))) := by simp [bltD]
@[simp] theorem b_srt2 (ns : List Int) : bltD .sorted [.set ns] = if ns.length < 64 then some (.fr (.lst ((isort ns).map .int))) else none := (rfl)
@[simp] theorem b_sum1 (ns : List Int) : bltD .sum [.lst (ns.map .int)] = some (.val (.int ns.sum)) := by simp [bltD]
@[simp] theorem b_sum2 (ns : List Int) : bltD .sum [.scr ns] = some (.val (.int ns.sum)) := (rfl)
@[simp] theorem b_min (i j : Int) : bltD .min [.int i, .int j] = some (.val (.int (if j < i then j else i))) := (rfl)
@[simp] theorem b_max (i j : Int) : bltD .max [.int i, .int j] = some (.val (.int (if j > i then j else i))) := (rfl)
@[simp] theorem b_abs (i : Int) : bltD .abs [.int i] = some (.val (.int (if i < 0 then -i else i))) := (rfl)
@[simp] theorem b_int (i : Int) : bltD .int [.int i] = some (.val (.int i)) := (rfl)
@[simp] theorem b_dm (i j : Int) : bltD .divmod [.int i, .int j] = if 0 < j ∧ j < 1073741824 then some (.val (.rtp [.int (i / j), .int (i % j)])) else none := (rfl)
@[simp] theorem b_all (bs : List Bool) : bltD .all [.lst (bs.map .bl)] = some (.val (.bl (bs.all id))) := by simp [bltD]
@[simp] theorem b_any (bs : List Bool) : bltD .any [.lst (bs.map .bl)] = some (.val (.bl (bs.any id))) := by simp [bltD]
@[simp] theorem b_set1 (ns : List Int) : bltD .set [.lst (ns.map .int)] = if ns.length ≤ 1000 then some (.fr (.set (dedup ns))) else none := by simp [bltD]
@[simp] theorem b_set2 (ns : List Int) : bltD .set [.tup (ns.map .int)] = if ns.length ≤ 1000 then some (.fr (.set (dedup ns))) else none := by simp [bltD]
@[simp] theorem o_add (i j : Int) : binD .Add (.int i) (.int j) = some (.val (.int (i + j))) := (rfl)
@[simp] theorem o_sub (i j : Int) : binD .Sub (.int i) (.int j) = some (.val (.int (i - j))) := (rfl)
@[simp] theorem o_mul (i j : Int) : binD .Mult (.int i) (.int j) = if R64 i ∨ R64 j then some (.val (.int (i * j))) else none := (rfl)
@[simp] theorem o_div (i j : Int) : binD .FloorDiv (.int i) (.int j) = if 0 < j ∧ j < 1073741824 then some (.val (.int (i / j))) else none := (rfl)
@[simp] theorem o_mod (i j : Int) : binD .Mod (.int i) (.int j) = if 0 < j then some (.val (.int (i % j))) else none := (rfl)
@[simp] theorem o_pow (i j : Int) : binD .Pow (.int i) (.int j) = if 0 ≤ j ∧ j ≤ 1000000 ∧ i.natAbs < 2 ^ 64 then some (.val (.int (i ^ j.toNat))) else none := (rfl)
@[simp] theorem o_lst (xs ys : List D) : binD .Add (.lst xs) (.lst ys) = if xs.length + ys.length ≤ most then some (.fr (.lst (xs ++ ys))) else none := (rfl)
@[simp] theorem o_tup (xs ys : List D) : binD .Add (.tup xs) (.tup ys) = if xs.length + ys.length ≤ most then some (.val (.tup (xs ++ ys))) else none := (rfl)
@[simp] theorem o_rep (xs : List D) (k : Int) : binD .Mult (.lst xs) (.int k) = if R63 k ∧ xs.length * k.toNat ≤ most then some (.fr (.lst (List.replicate k.toNat xs).flatten)) else none := by
  show (if -(2 ^ 63) ≤ k ∧ k < 2 ^ 63 ∧ xs.length * k.toNat ≤ most then _ else _) = _
  unfold R63
  simp only [and_assoc]
@[simp] theorem c_lt (i j : Int) : cmpD .Lt (.int i) (.int j) = some (decide (i < j)) := (rfl)
@[simp] theorem c_le (i j : Int) : cmpD .LtE (.int i) (.int j) = some (decide (i ≤ j)) := (rfl)
@[simp] theorem c_gt (i j : Int) : cmpD .Gt (.int i) (.int j) = some (decide (j < i)) := (rfl)
@[simp] theorem c_ge (i j : Int) : cmpD .GtE (.int i) (.int j) = some (decide (j ≤ i)) := (rfl)
@[simp] theorem c_isn (d : D) : cmpD .Is d .non = some (isNon d) := by cases d <;> rfl
@[simp] theorem c_ntn (d : D) : cmpD .IsNot d .non = some (!isNon d) := by cases d <;> rfl
@[simp] theorem c_isb (x y : Bool) : cmpD .Is (.bl x) (.bl y) = some (decide (x = y)) := (rfl)
@[simp] theorem c_in (d e : D) : cmpD .In d e = inD d e := by cases d <;> cases e <;> rfl
@[simp] theorem c_nin (d e : D) : cmpD .NotIn d e = (inD d e).map (!·) := by cases d <;> cases e <;> rfl
@[simp] theorem x_lst (xs : List D) (k : Int) : ixD (.lst xs) (.int k) = L2.atI xs k := (rfl)
@[simp] theorem x_tup (xs : List D) (k : Int) : ixD (.tup xs) (.int k) = L2.atI xs k := (rfl)
@[simp] theorem x_scr (xs : List Int) (k : Int) : ixD (.scr xs) (.int k) = (L2.atI xs k).map .int := (rfl)
@[simp] theorem r_1 (j : Int) : rngD [.int j] = if R62 j then some ((List.range j.toNat).map fun (k : Nat) => D.int k) else none := (rfl)
@[simp] theorem r_2 (i j : Int) : rngD [.int i, .int j] = if R62 i ∧ R62 j then some ((List.range (j - i).toNat).map fun (k : Nat) => D.int (i + k)) else none := (rfl)
@[simp] theorem n_non : isNon .non = true := (rfl)
@[simp] theorem n_int (i : Int) : isNon (.int i) = false := (rfl)
@[simp] theorem n_tup (i : List D) : isNon (.tup i) = false := (rfl)
@[simp] theorem n_lst (i : List D) : isNon (.lst i) = false := (rfl)
@[simp] theorem n_bl (i : Bool) : isNon (.bl i) = false := (rfl)
@[simp] theorem n_str (i : PySem.Str) : isNon (.str i) = false := (rfl)
@[simp] theorem t_non : truth .non = some false := (rfl)
@[simp] theorem t_bl (b : Bool) : truth (.bl b) = some b := (rfl)
@[simp] theorem t_int (i : Int) : truth (.int i) = some (i != 0) := (rfl)
@[simp] theorem t_tup (xs : List D) : truth (.tup xs) = some (!xs.isEmpty) := (rfl)
@[simp] theorem t_lst (xs : List D) : truth (.lst xs) = some (!xs.isEmpty) := (rfl)
@[simp] theorem t_scr (xs : List Int) : truth (.scr xs) = some (!xs.isEmpty) := (rfl)
end
/-! ### values that == tells apart -/
def Ok (n : Nat) (d : D) : Prop := d.eqOk = true ∧ d.py.canLay0 = true ∧ d.py.depth ≤ n
theorem Ok.mono {n m : Nat} {d : D} (h : Ok n d) (l : n ≤ m) : Ok m d := ⟨h.1, h.2.1, Nat.le_trans h.2.2 l⟩
theorem Ok.cmp {n : Nat} {d : D} (h : Ok n d) (l : n ≤ 64) : d.cmpOk = true := by
  unfold D.cmpOk PySem.SeqAt.shaped
  rw [h.1, h.2.1]
  simpa using Nat.le_trans h.2.2 l
theorem ok_all {n : Nat} : ∀ {ds : List D}, (∀ d ∈ ds, Ok n d) → eqOkAll ds = true ∧ PySem.PyData.canLayAll0 (pyAll ds) = true ∧ PySem.PyData.depthAll (pyAll ds) ≤ n
  | [], _ => ⟨rfl, by simp [pyAll, PySem.PyData.canLayAll0], Nat.zero_le _⟩
  | d :: ds, h => by
    obtain ⟨h1, h2, h3⟩ := ok_all fun e he => h e (List.mem_cons_of_mem _ he)
    obtain ⟨g1, g2, g3⟩ := h d List.mem_cons_self
    refine ⟨?_, ?_, ?_⟩
    · show (d.eqOk && eqOkAll ds) = true
      rw [g1, h1]; rfl
    · show PySem.PyData.canLayAll0 (d.py :: pyAll ds) = true
      simp [PySem.PyData.canLayAll0, g2, h2]
    · show max d.py.depth (PySem.PyData.depthAll (pyAll ds)) ≤ n
      omega
theorem ok_tup {n : Nat} {ds : List D} (h : ∀ d ∈ ds, Ok n d) : Ok (n + 1) (.tup ds) := by
  obtain ⟨h1, h2, h3⟩ := ok_all h
  exact ⟨h1, by show PySem.PyData.canLay0 (.tuple (pyAll ds)) = true; simpa [PySem.PyData.canLay0] using h2, Nat.succ_le_succ h3⟩
theorem ok_lst {n : Nat} {ds : List D} (h : ∀ d ∈ ds, Ok n d) : Ok (n + 1) (.lst ds) := by
  obtain ⟨h1, h2, h3⟩ := ok_all h
  exact ⟨h1, by show PySem.PyData.canLay0 (.list (pyAll ds)) = true; simpa [PySem.PyData.canLay0] using h2, Nat.succ_le_succ h3⟩
theorem ok_int (i : Int) : Ok 0 (.int i) := ⟨rfl, by simp [D.py, PySem.PyData.canLay0], Nat.le_refl _⟩
theorem ok_bl (i : Bool) : Ok 0 (.bl i) := ⟨rfl, by simp [D.py, PySem.PyData.canLay0], Nat.le_refl _⟩
theorem ok_non : Ok 0 .non := ⟨rfl, by simp [D.py, PySem.PyData.canLay0], Nat.le_refl _⟩
/-- how values of a type are told, so that == is their own -/
structure Enc {α : Type} [DecidableEq α] (n : Nat) (e : α → D) : Prop where
  ok : ∀ a, Ok n (e a)
  eqv : ∀ a b, (e a).eqv (e b) = decide (a = b)
theorem enc_int : Enc 0 D.int := ⟨ok_int, fun a b => by show PySem.PyData.eqv (.int a) (.int b) = _; simp [PySem.PyData.eqv]; rfl⟩
theorem eqvAll_enc {α : Type} [DecidableEq α] {n : Nat} {e : α → D} (h : Enc n e) : ∀ xs ys : List α, PySem.PyData.eqvAll (pyAll (xs.map e)) (pyAll (ys.map e)) = decide (xs = ys)
  | [], [] => by simp [pyAll, PySem.PyData.eqvAll]
  | [], y :: ys => by simp [pyAll, PySem.PyData.eqvAll]
  | x :: xs, [] => by simp [pyAll, PySem.PyData.eqvAll]
  | x :: xs, y :: ys => by
    have ih := eqvAll_enc h xs ys
    have hx : PySem.PyData.eqv (e x).py (e y).py = decide (x = y) := h.eqv x y
    simp [pyAll, PySem.PyData.eqvAll, ih, hx]
theorem enc_tup {α : Type} [DecidableEq α] {n : Nat} {e : α → D} (h : Enc n e) : Enc (n + 1) (fun l : List α => D.tup (l.map e)) :=
  ⟨fun l => ok_tup fun d hd => by obtain ⟨a, _, rfl⟩ := List.mem_map.mp hd; exact h.ok a, fun a b => by
    show PySem.PyData.eqv (.tuple (pyAll (a.map e))) (.tuple (pyAll (b.map e))) = _
    simpa [PySem.PyData.eqv] using eqvAll_enc h a b⟩
theorem enc_lst {α : Type} [DecidableEq α] {n : Nat} {e : α → D} (h : Enc n e) : Enc (n + 1) (fun l : List α => D.lst (l.map e)) :=
  ⟨fun l => ok_lst fun d hd => by obtain ⟨a, _, rfl⟩ := List.mem_map.mp hd; exact h.ok a, fun a b => by
    show PySem.PyData.eqv (.list (pyAll (a.map e))) (.list (pyAll (b.map e))) = _
    simpa [PySem.PyData.eqv] using eqvAll_enc h a b⟩
section
variable {α : Type} [DecidableEq α] {n : Nat} {e : α → D}
theorem Enc.eq (h : Enc n e) (l : n ≤ 64) (a b : α) : cmpD .Eq (e a) (e b) = some (decide (a = b)) := by
  have : cmpD .Eq (e a) (e b) = if (e a).cmpOk && (e b).cmpOk then some ((e a).eqv (e b)) else none := by cases e a <;> cases e b <;> rfl
  rw [this, (h.ok a).cmp l, (h.ok b).cmp l, h.eqv]; rfl
theorem Enc.ne (h : Enc n e) (l : n ≤ 64) (a b : α) : cmpD .NotEq (e a) (e b) = some (!decide (a = b)) := by
  have : cmpD .NotEq (e a) (e b) = if (e a).cmpOk && (e b).cmpOk then some (!(e a).eqv (e b)) else none := by cases e a <;> cases e b <;> rfl
  rw [this, (h.ok a).cmp l, (h.ok b).cmp l, h.eqv]; rfl
theorem Enc.mem (h : Enc n e) (l : n + 1 ≤ 64) (a : α) (xs : List α) : inD (e a) (.lst (xs.map e)) = some (decide (a ∈ xs)) := by
  have h2 := ((enc_lst h).ok xs).cmp l
  show (if (e a).cmpOk && (D.lst (xs.map e)).cmpOk then some ((xs.map e).any fun z => z.eqv (e a)) else none) = _
  rw [(h.ok a).cmp (by omega), h2]
  refine congrArg some ?_
  rw [List.any_map, Bool.eq_iff_iff]
  simp [h.eqv]
end
@[simp] theorem c_eqi (i j : Int) : cmpD .Eq (.int i) (.int j) = some (decide (i = j)) := enc_int.eq (by decide) i j
@[simp] theorem c_nei (i j : Int) : cmpD .NotEq (.int i) (.int j) = some (!decide (i = j)) := enc_int.ne (by decide) i j
@[simp] theorem c_int (i : Int) (ns : List Int) : inD (.int i) (.lst (ns.map .int)) = some (decide (i ∈ ns)) := enc_int.mem (by decide) i ns
@[simp] theorem c_intup (i : Int) (ns : List Int) : inD (.int i) (.tup (ns.map .int)) = some (decide (i ∈ ns)) := by simp [inD]
@[simp] theorem c_eqt (a b : List Int) : cmpD .Eq (.tup (a.map .int)) (.tup (b.map .int)) = some (decide (a = b)) := (enc_tup enc_int).eq (by decide) a b
@[simp] theorem c_net (a b : List Int) : cmpD .NotEq (.tup (a.map .int)) (.tup (b.map .int)) = some (!decide (a = b)) := (enc_tup enc_int).ne (by decide) a b
@[simp] theorem c_eql (a b : List Int) : cmpD .Eq (.lst (a.map .int)) (.lst (b.map .int)) = some (decide (a = b)) := (enc_lst enc_int).eq (by decide) a b
@[simp] theorem c_nel (a b : List Int) : cmpD .NotEq (.lst (a.map .int)) (.lst (b.map .int)) = some (!decide (a = b)) := (enc_lst enc_int).ne (by decide) a b
@[simp] theorem c_eqb (i j : Bool) : cmpD .Eq (.bl i) (.bl j) = some (decide (i = j)) := by cases i <;> cases j <;> decide +kernel
@[simp] theorem c_neb (i j : Bool) : cmpD .NotEq (.bl i) (.bl j) = some (!decide (i = j)) := by cases i <;> cases j <;> decide +kernel
theorem ok_cmp2 {n m : Nat} {d e : D} (h : Ok n d) (h' : Ok m e) (l : n ≤ 64) (l' : m ≤ 64) : cmpD .Eq d e = some (d.eqv e) ∧ cmpD .NotEq d e = some (!d.eqv e) := by
  have e1 : cmpD .Eq d e = if d.cmpOk && e.cmpOk then some (d.eqv e) else none := by cases d <;> cases e <;> rfl
  have e2 : cmpD .NotEq d e = if d.cmpOk && e.cmpOk then some (!d.eqv e) else none := by cases d <;> cases e <;> rfl
  rw [e1, e2, h.cmp l, h'.cmp l']
  exact ⟨rfl, rfl⟩
theorem ok_nil : Ok 1 (.lst []) := ok_lst (n := 0) fun d hd => absurd hd (by simp)
theorem lst_nil {α : Type} {n : Nat} {e : α → D} {xs : List α} (h : ∀ x ∈ xs, Ok n (e x)) (l : n < 64) : cmpD .Eq (.lst (xs.map e)) (.lst []) = some xs.isEmpty ∧ cmpD .NotEq (.lst (xs.map e)) (.lst []) = some (!xs.isEmpty) := by
  have h1 : Ok (n + 1) (.lst (xs.map e)) := ok_lst fun d hd => by obtain ⟨a, ha, rfl⟩ := List.mem_map.mp hd; exact h a ha
  obtain ⟨e1, e2⟩ := ok_cmp2 h1 ok_nil (by omega) (by decide)
  have e3 : (D.lst (xs.map e)).eqv (.lst []) = xs.isEmpty := by
    cases xs with
    | nil => show PySem.PyData.eqv (.list (pyAll [])) (.list (pyAll [])) = true; simp [PySem.PyData.eqv, pyAll, PySem.PyData.eqvAll]
    | cons x xs => show PySem.PyData.eqv (.list (pyAll ((x :: xs).map e))) (.list (pyAll [])) = false; simp [PySem.PyData.eqv, pyAll, PySem.PyData.eqvAll]
  rw [e1, e2, e3]
  exact ⟨rfl, rfl⟩
theorem enumD_map {α : Type} (e : α → D) : ∀ (xs : List α) (n : Nat), enumD n (xs.map e) = (xs.zipIdx n).map fun q => D.rtp [.int ((q.2 : Nat) : Int), e q.1]
  | [], _ => rfl
  | x :: xs, n => by
    show D.rtp [.int n, e x] :: enumD (n + 1) (xs.map e) = _
    rw [enumD_map e xs (n + 1)]
    rfl
@[simp] theorem b_allr (n : Nat) : bltD .all [.lst (List.replicate n (.bl true))] = some (.val (.bl true)) := by
  have := b_all (List.replicate n true)
  rw [List.map_replicate] at this
  rw [this]
  simp
theorem cut_hi (xs : List D) {k : Int} (h : 0 ≤ k) : cutD xs none (some k) = xs.take k.toNat := by
  obtain ⟨n, rfl⟩ := Int.eq_ofNat_of_zero_le h
  unfold cutD
  rw [HT.sIx_nat, HT.sIx_none, List.drop_zero, Nat.sub_zero, Int.toNat_natCast]
  by_cases h : n ≤ xs.length
  · rw [Nat.min_eq_left h]
  · rw [Nat.min_eq_right (by omega), List.take_length, List.take_of_length_le (by omega)]
theorem cut_lo (xs : List D) {k : Int} (h : 0 ≤ k) : cutD xs (some k) none = xs.drop k.toNat := by
  obtain ⟨n, rfl⟩ := Int.eq_ofNat_of_zero_le h
  unfold cutD
  rw [HT.sIx_nat, HT.sIx_none, Int.toNat_natCast]
  by_cases h : n ≤ xs.length
  · rw [Nat.min_eq_left h]
    exact List.take_of_length_le (by simp)
  · rw [Nat.min_eq_right (by omega), List.drop_eq_nil_of_le (Nat.le_refl _), List.drop_eq_nil_of_le (by omega), List.take_nil]
@[simp] theorem s_hi1 (xs : List D) {k : Int} (h : 0 ≤ k) : slcD (.lst xs) none (some k) = some (.fr (.lst (xs.take k.toNat))) := by show some _ = _; rw [cut_hi xs h]
@[simp] theorem s_hi2 (xs : List D) {k : Int} (h : 0 ≤ k) : slcD (.tup xs) none (some k) = some (.val (.tup (xs.take k.toNat))) := by show some _ = _; rw [cut_hi xs h]
@[simp] theorem s_hi3 (xs : List Int) {k : Int} (h : 0 ≤ k) : slcD (.scr xs) none (some k) = some (.fr (.lst ((xs.take k.toNat).map .int))) := by show some _ = _; rw [cut_hi _ h, List.map_take]
@[simp] theorem s_lo1 (xs : List D) {k : Int} (h : 0 ≤ k) : slcD (.lst xs) (some k) none = some (.fr (.lst (xs.drop k.toNat))) := by show some _ = _; rw [cut_lo xs h]
@[simp] theorem s_lo2 (xs : List D) {k : Int} (h : 0 ≤ k) : slcD (.tup xs) (some k) none = some (.val (.tup (xs.drop k.toNat))) := by show some _ = _; rw [cut_lo xs h]
@[simp] theorem most_1 : 1 ≤ most := (by decide : 1 ≤ 16000000)
@[simp] theorem most_2 : 2 ≤ most := (by decide : 2 ≤ 16000000)
@[simp] theorem most_3 : 3 ≤ most := (by decide : 3 ≤ 16000000)
@[simp] theorem most_4 : 4 ≤ most := (by decide : 4 ≤ 16000000)
@[simp] theorem most_5 : 5 ≤ most := (by decide : 5 ≤ 16000000)
@[simp] theorem most_6 : 6 ≤ most := (by decide : 6 ≤ 16000000)
@[simp] theorem most_7 : 7 ≤ most := (by decide : 7 ≤ 16000000)
@[simp] theorem most_8 : 8 ≤ most := (by decide : 8 ≤ 16000000)
@[simp] theorem most_9 : 9 ≤ most := (by decide : 9 ≤ 16000000)
@[simp] theorem most_10 : 10 ≤ most := (by decide : 10 ≤ 16000000)
@[simp] theorem most_11 : 11 ≤ most := (by decide : 11 ≤ 16000000)
@[simp] theorem most_12 : 12 ≤ most := (by decide : 12 ≤ 16000000)
theorem w_most {n : Nat} (h : n ≤ 16000000) : n ≤ most := h
/-! ### places -/
theorem atI_of {α : Type} {xs : List α} {i : Int} {x : α} (h0 : 0 ≤ i) (h : xs[i.toNat]? = some x) : L2.atI xs i = some x := by
  have hl := (List.getElem?_eq_some_iff.mp h).1
  unfold L2.atI L2.ixN
  rw [if_pos h0, if_pos (by omega)]
  exact h
theorem atI_ge {α : Type} {xs : List α} {i : Int} (h0 : 0 ≤ i) (h : i < xs.length) : L2.atI xs i = xs[i.toNat]? := by
  unfold L2.atI L2.ixN
  rw [if_pos h0, if_pos h]
  rfl
@[simp] theorem atI_lit {α : Type} (x : α) (xs : List α) : L2.atI (x :: xs) 0 = some x := atI_of (by decide) rfl
end PV

namespace K30
open PySem PySem.Spec PyProof.Rows L2 PV
def topS (i : Nat) : Stmt := PySem.Challenge.pw_fingerposts_k30_whole_plans_ahead_beside.main.body.getD i (.Pass ⟨0, 0, 0, 0⟩)
def d1 : Df := ⟨"is_whole", ["value"], ["value"], topS 1⟩
def d2 : Df := ⟨"is_between", ["value", "low", "high"], ["value", "low", "high"], topS 2⟩
def d3 : Df := ⟨"is_tuple_of", ["value", "many"], ["value", "many"], topS 3⟩
def d4 : Df := ⟨"are_wholes", ["value", "many"], ["value", "many", "each"], topS 4⟩
def d7 : Df := ⟨"is_village_number", ["value"], ["value"], topS 7⟩
def d8 : Df := ⟨"is_village", ["many", "value"], ["many", "value"], topS 8⟩
def d9 : Df := ⟨"is_plan_of", ["many", "value"], ["many", "value", "village"], topS 9⟩
def d10 : Df := ⟨"is_planned", ["value"], ["value"], topS 10⟩
def d11 : Df := ⟨"behind_of", ["plan", "other"], ["plan", "other", "village"], topS 11⟩
def d12 : Df := ⟨"shown_of", ["plan"], ["plan"], topS 12⟩
def d13 : Df := ⟨"showing", ["plan", "village"], ["plan", "village", "each", "shown"], topS 13⟩
def d15 : Df := ⟨"missing_village", ["plan", "goal"], ["plan", "goal", "some", "village"], topS 15⟩
def d16 : Df := ⟨"some_ahead_by", ["plan", "goal"], ["plan", "goal", "village"], topS 16⟩
def d17 : Df := ⟨"ahead_count_by", ["plan", "goal"], ["plan", "goal", "found", "village"], topS 17⟩
def d22 : Df := ⟨"check_plan", ["plan"], ["plan"], topS 22⟩
def d23 : Df := ⟨"check_plan_of", ["many", "plan"], ["many", "plan"], topS 23⟩
def d24 : Df := ⟨"check_two_plans", ["plan", "other"], ["plan", "other"], topS 24⟩
def d26 : Df := ⟨"some_ahead", ["plan", "goal"], ["plan", "goal"], topS 26⟩
def d27 : Df := ⟨"ahead_count", ["plan", "goal"], ["plan", "goal"], topS 27⟩
def d29 : Df := ⟨"behind", ["plan", "other"], ["plan", "other"], topS 29⟩
def d30 : Df := ⟨"shown", ["plan"], ["plan"], topS 30⟩
def d32 : Df := ⟨"_law_well", ["script", "turn"], ["script", "turn", "own", "stir", "cell"], topS 32⟩
def d33 : Df := ⟨"_law_take", ["well", "many"], ["well", "many", "by", "figure"], topS 33⟩
def d34 : Df := ⟨"_law_pick", ["well", "some"], ["well", "some"], topS 34⟩
def d35 : Df := ⟨"_law_same", ["told", "due"], ["told", "due", "at"], topS 35⟩
def d36 : Df := ⟨"_law_all", ["number"], ["number", "found", "turn", "later", "plan", "at"], topS 36⟩
def d37 : Df := ⟨"_law_order", ["well", "number"], ["well", "number", "left", "found"], topS 37⟩
def d38 : Df := ⟨"_law_plan", ["well", "number"], ["well", "number", "way", "some", "few", "seen", "turn", "each", "at"], topS 38⟩
def d39 : Df := ⟨"_law_then", ["plan", "other"], ["plan", "other", "at"], topS 39⟩
def d40 : Df := ⟨"_law_is_right", ["plan", "goal", "every"], ["plan", "goal", "every", "some", "due", "many", "village", "fits", "each"], topS 40⟩
def d41 : Df := ⟨"law", ["script"], ["script", "two", "plan", "turn", "three", "four", "well", "again", "goal"], topS 41⟩
def ds : List Df := [d1, d2, d3, d4, d7, d8, d9, d10, d11, d12, d13, d15, d16, d17, d22, d23, d24, d26, d27, d29, d30, d32, d33, d34, d35, d36, d37, d38, d39, d40, d41]
def bl : List Str := ["len", "tuple", "list", "sorted", "sum", "min", "max", "abs", "int", "divmod", "all", "set", "isinstance", "bool", "str", "range", "enumerate"]
def gl : List (Str × PV.D) := [("MOST", .int 8)]
def pg : Pg := pgOf ds bl (fun x => gl.lookup x) 40 40
theorem okB : ds.all dfB = true := by decide +kernel
theorem f1 : fdOf ds bl 40 40 d1 = ⟨["value"], 1, [.ret (.bop true (.isi (.var 0) "int") (.not (.isi (.var 0) "bool")))]⟩ := by kernel_rfl
theorem f2 : fdOf ds bl 40 40 d2 = ⟨["value", "low", "high"], 3, [.ret (.bop true (.call "is_whole" [.var 0] [] [0]) (.chn .LtE .LtE (.var 1) (.var 0) (.var 2)))]⟩ := by kernel_rfl
theorem f3 : fdOf ds bl 40 40 d3 = ⟨["value", "many"], 2, [.ret (.bop true (.isi (.var 0) "tuple") (.cmp .Eq (.blt .len [.var 0]) (.var 1)))]⟩ := by kernel_rfl
theorem f4 : fdOf ds bl 40 40 d4 = ⟨["value", "many"], 3, [.ret (.bop true (.call "is_tuple_of" [.var 0, .var 1] [] [0, 1]) (.blt .all [.lc (.call "is_whole" [.var 2] [] [0]) (.nm 2) (.ovr (.var 0)) none]))]⟩ := by kernel_rfl
theorem f7 : fdOf ds bl 40 40 d7 = ⟨["value"], 1, [.ret (.call "is_between" [.var 0, .con (.int 1), .glb "MOST"] [] [0, 1, 2])]⟩ := by kernel_rfl
theorem f8 : fdOf ds bl 40 40 d8 = ⟨["many", "value"], 2, [.ret (.call "is_between" [.var 1, .con (.int 0), .bin .Sub (.var 0) (.con (.int 1))] [] [0, 1, 2])]⟩ := by kernel_rfl
theorem f9 : fdOf ds bl 40 40 d9 = ⟨["many", "value"], 3, [.ret (.bop true (.call "are_wholes" [.var 1, .var 0] [] [0, 1]) (.blt .all [.lc (.call "is_village" [.var 0, .var 2] [] [0, 1]) (.nm 2) (.ovr (.var 1)) none]))]⟩ := by kernel_rfl
theorem f10 : fdOf ds bl 40 40 d10 = ⟨["value"], 1, [.ret (.bop true (.isi (.var 0) "tuple") (.bop true (.call "is_village_number" [.blt .len [.var 0]] [] [0]) (.call "is_plan_of" [.blt .len [.var 0], .var 0] [] [0, 1])))]⟩ := by kernel_rfl
theorem f11 : fdOf ds bl 40 40 d11 = ⟨["plan", "other"], 3, [.ret (.blt .tuple [.lc (.ix (.var 1) (.var 2)) (.nm 2) (.ovr (.var 0)) none])]⟩ := by kernel_rfl
theorem f12 : fdOf ds bl 40 40 d12 = ⟨["plan"], 1, [.ret (.blt .tuple [.blt .sorted [.blt .set [.var 0]]])]⟩ := by kernel_rfl
theorem f13 : fdOf ds bl 40 40 d13 = ⟨["plan", "village"], 4, [.ret (.blt .tuple [.lc (.var 2) (.tp [2, 3]) (.enm (.var 0)) (some (.cmp .Eq (.var 3) (.var 1)))])]⟩ := by kernel_rfl
theorem f15 : fdOf ds bl 40 40 d15 = ⟨["plan", "goal"], 4, [.asg 2 (.lc (.var 3) (.nm 3) (.ovr (.call "shown_of" [.var 1] [] [0])) (some (.cmp .NotIn (.var 3) (.var 0)))), .ret (.ife (.cmp .NotEq (.var 2) (.lst [])) (.ix (.var 2) (.con (.int 0))) (.con .non))]⟩ := by kernel_rfl
theorem f16 : fdOf ds bl 40 40 d16 = ⟨["plan", "goal"], 3, [.ite (.cmp .IsNot (.call "missing_village" [.var 0, .var 1] [] [0, 1]) (.con .non)) [.ret (.con .non)] [], .ret (.blt .tuple [.lc (.ix (.call "showing" [.var 0, .var 2] [] [0, 1]) (.con (.int 0))) (.nm 2) (.ovr (.var 1)) none])]⟩ := by kernel_rfl
theorem f17 : fdOf ds bl 40 40 d17 = ⟨["plan", "goal"], 4, [.asg 2 (.con (.int 1)), .lop (.nm 3) (.ovr (.var 1)) [.asg 2 (.bin .Mult (.var 2) (.blt .len [.call "showing" [.var 0, .var 3] [] [0, 1]]))], .ret (.var 2)]⟩ := by kernel_rfl
theorem f22 : fdOf ds bl 40 40 d22 = ⟨["plan"], 1, [.ite (.not (.tru (.call "is_planned" [.var 0] [] [0]))) [badS] []]⟩ := by kernel_rfl
theorem f23 : fdOf ds bl 40 40 d23 = ⟨["many", "plan"], 2, [.ite (.not (.tru (.call "is_plan_of" [.var 0, .var 1] [] [0, 1]))) [badS] []]⟩ := by kernel_rfl
theorem f24 : fdOf ds bl 40 40 d24 = ⟨["plan", "other"], 2, [.ex (.call "check_plan" [.var 0] [] [0]), .ex (.call "check_plan_of" [.blt .len [.var 0], .var 1] [] [0, 1])]⟩ := by kernel_rfl
theorem f26 : fdOf ds bl 40 40 d26 = ⟨["plan", "goal"], 2, [.ex (.call "check_two_plans" [.var 0, .var 1] [] [0, 1]), .ret (.call "some_ahead_by" [.var 0, .var 1] [] [0, 1])]⟩ := by kernel_rfl
theorem f27 : fdOf ds bl 40 40 d27 = ⟨["plan", "goal"], 2, [.ex (.call "check_two_plans" [.var 0, .var 1] [] [0, 1]), .ret (.call "ahead_count_by" [.var 0, .var 1] [] [0, 1])]⟩ := by kernel_rfl
theorem f29 : fdOf ds bl 40 40 d29 = ⟨["plan", "other"], 2, [.ex (.call "check_two_plans" [.var 0, .var 1] [] [0, 1]), .ret (.call "behind_of" [.var 0, .var 1] [] [0, 1])]⟩ := by kernel_rfl
theorem f30 : fdOf ds bl 40 40 d30 = ⟨["plan"], 1, [.ex (.call "check_plan" [.var 0] [] [0]), .ret (.call "shown_of" [.var 0] [] [0])]⟩ := by kernel_rfl
theorem f32 : fdOf ds bl 40 40 d32 = ⟨["script", "turn"], 5, [.asg 2 (.ife (.cmp .Lt (.var 1) (.blt .len [.var 0])) (.blt .int [.ix (.var 0) (.var 1)]) (.bin .Add (.bin .Add (.bin .Mult (.con (.int 9311)) (.var 1)) (.bin .Mod (.blt .int [.blt .sum [.slc (.var 0) none (some (.con (.int 2)))]]) (.con (.int 1000003)))) (.con (.int 71)))), .asg 3 (.bin .Add (.con (.int 50021)) (.bin .Mult (.con (.int 1013)) (.var 1))), .lop (.nm 4) (.ovr (.bin .Add (.slc (.var 0) none (some (.con (.int 5)))) (.lst [.var 2]))) [.asg 3 (.bin .Mod (.blt .int [.bin .Add (.bin .Add (.bin .Mult (.var 3) (.con (.int 45013))) (.bin .Mod (.blt .int [.var 4]) (.con (.int 2147483399)))) (.con (.int 37))]) (.con (.int 2147483563)))], .ret (.lst [.ife (.bop false (.cmp .Lt (.var 2) (.con (.int 0))) (.cmp .GtE (.var 2) (.bin .Pow (.con (.int 10)) (.con (.int 17))))) (.blt .abs [.var 2]) (.con (.int 0)), .var 3, .con (.int 0)])]⟩ := by kernel_rfl
theorem f33 : fdOf ds bl 40 40 d33 = ⟨["well", "many"], 4, [.ite (.cmp .Gt (.ix (.var 0) (.con (.int 0))) (.con (.int 0))) [.unp [.sub 0 (.con (.int 0)), .nm 3] (.blt .divmod [.ix (.var 0) (.con (.int 0)), .var 1]), .ret (.var 3)] [], .put 0 (.con (.int 2)) (.bin .Add (.ix (.var 0) (.con (.int 2))) (.con (.int 1))), .asg 2 (.bin .Add (.bin .Mod (.blt .int [.ix (.var 0) (.con (.int 1))]) (.con (.int 28657))) (.con (.int 40009))), .put 0 (.con (.int 1)) (.bin .Mod (.blt .int [.bin .Add (.bin .Add (.bin .Mult (.ix (.var 0) (.con (.int 1))) (.var 2)) (.bin .Mult (.con (.int 50023)) (.ix (.var 0) (.con (.int 2))))) (.con (.int 17))]) (.con (.int 2147483563))), .ret (.bin .Mod (.blt .int [.bin .FloorDiv (.ix (.var 0) (.con (.int 1))) (.con (.int 83))]) (.var 1))]⟩ := by kernel_rfl
theorem f34 : fdOf ds bl 40 40 d34 = ⟨["well", "some"], 2, [.ret (.ix (.var 1) (.call "_law_take" [.var 0, .blt .len [.var 1]] [] [0, 1]))]⟩ := by kernel_rfl
theorem f35 : fdOf ds bl 40 40 d35 = ⟨["told", "due"], 3, [.ite (.tru (.isi (.var 1) "tuple")) [.ite (.bop false (.not (.tru (.isi (.var 0) "tuple"))) (.cmp .NotEq (.blt .len [.var 0]) (.blt .len [.var 1]))) [.ret (.con (.bl false))] [], .ret (.blt .all [.lc (.call "_law_same" [.ix (.var 0) (.var 2), .ix (.var 1) (.var 2)] [] [0, 1]) (.nm 2) (.rng [.blt .len [.var 1]]) none])] [], .ite (.cmp .Is (.var 1) (.con .non)) [.ret (.cmp .Is (.var 0) (.con .non))] [], .ite (.tru (.isi (.var 1) "bool")) [.ret (.bop true (.isi (.var 0) "bool") (.cmp .Eq (.var 0) (.var 1)))] [], .ite (.tru (.isi (.var 1) "int")) [.ret (.bop true (.isi (.var 0) "int") (.bop true (.not (.isi (.var 0) "bool")) (.cmp .Eq (.var 0) (.var 1))))] [], .ret (.bop true (.isi (.var 0) "str") (.cmp .Eq (.var 0) (.var 1)))]⟩ := by kernel_rfl
theorem f36 : fdOf ds bl 40 40 d36 = ⟨["number"], 6, [.asg 1 (.lst [.tup []]), .lop (.nm 2) (.rng [.var 0]) [.asg 3 (.lst []), .lop (.nm 4) (.ovr (.var 1)) [.ex (.ext 3 (.lc (.bin .Add (.var 4) (.tup [.var 5])) (.nm 5) (.rng [.var 0]) none))], .asg 1 (.var 3)], .ret (.var 1)]⟩ := by kernel_rfl
theorem f37 : fdOf ds bl 40 40 d37 = ⟨["well", "number"], 4, [.par [2, 3] [.ofr false [.var 1], .lst []], .whl (.cmp .NotEq (.var 2) (.lst [])) [.ex (.app 3 (.popi 2 (.call "_law_take" [.var 0, .blt .len [.var 2]] [] [0, 1])))], .ret (.blt .tuple [.var 3])]⟩ := by kernel_rfl
theorem f38 : fdOf ds bl 40 40 d38 = ⟨["well", "number"], 9, [.asg 2 (.call "_law_take" [.var 0, .con (.int 6)] [] [0, 1]), .ite (.cmp .Eq (.var 2) (.con (.int 0))) [.ret (.call "_law_order" [.var 0, .var 1] [] [0, 1])] [], .asg 3 (.lc (.call "_law_take" [.var 0, .var 1] [] [0, 1]) (.nm 6) (.rng [.var 1]) none), .ite (.cmp .Eq (.var 2) (.con (.int 1))) [.asg 4 (.lc (.call "_law_take" [.var 0, .var 1] [] [0, 1]) (.nm 6) (.rng [.bin .Add (.con (.int 1)) (.call "_law_take" [.var 0, .con (.int 3)] [] [0, 1])]) none), .ret (.blt .tuple [.lc (.call "_law_pick" [.var 0, .var 4] [] [0, 1]) (.nm 7) (.ovr (.var 3)) none])] [], .ite (.cmp .Eq (.var 2) (.con (.int 2))) [.ret (.blt .tuple [.blt .sorted [.var 3]])] [], .ite (.cmp .Eq (.var 2) (.con (.int 3))) [.asg 5 (.blt .sorted [.blt .set [.var 3]]), .ret (.blt .tuple [.lc (.ife (.cmp .In (.var 8) (.var 5)) (.var 8) (.call "_law_pick" [.var 0, .var 5] [] [0, 1])) (.nm 8) (.rng [.var 1]) none])] [], .ite (.cmp .Eq (.var 2) (.con (.int 4))) [.ret (.blt .tuple [.lc (.ife (.cmp .Gt (.call "_law_take" [.var 0, .con (.int 3)] [] [0, 1]) (.con (.int 0))) (.var 8) (.ix (.var 3) (.var 8))) (.nm 8) (.rng [.var 1]) none])] [], .ret (.blt .tuple [.var 3])]⟩ := by kernel_rfl
theorem f39 : fdOf ds bl 40 40 d39 = ⟨["plan", "other"], 3, [.ret (.blt .tuple [.lc (.ix (.var 1) (.var 2)) (.nm 2) (.ovr (.var 0)) none])]⟩ := by kernel_rfl
theorem f40 : fdOf ds bl 40 40 d40 = ⟨["plan", "goal", "every"], 9, [.asg 3 (.lc (.var 8) (.nm 8) (.ovr (.var 2)) (some (.cmp .Eq (.call "_law_then" [.var 8, .var 0] [] [0, 1]) (.var 1)))), .asg 4 (.tup [.ife (.cmp .NotEq (.var 3) (.lst [])) (.ix (.var 3) (.con (.int 0))) (.con .non), .blt .len [.var 3]]), .ite (.not (.tru (.call "_law_same" [.tup [.call "some_ahead" [.var 0, .var 1] [] [0, 1], .call "ahead_count" [.var 0, .var 1] [] [0, 1]], .var 4] [] [0, 1]))) [.ret (.con (.bl false))] [], .ite (.not (.tru (.call "_law_same" [.tup [.call "some_ahead" [] [.var 1, .var 0] [1, 0], .call "ahead_count" [] [.var 1, .var 0] [1, 0]], .var 4] [] [0, 1]))) [.ret (.con (.bl false))] [], .asg 5 (.con (.int 1)), .lop (.nm 6) (.ovr (.var 1)) [.asg 5 (.bin .Mult (.var 5) (.blt .len [.lc (.var 8) (.nm 8) (.ovr (.var 0)) (some (.cmp .Eq (.var 8) (.var 6)))]))], .asg 7 (.cmp .Eq (.lc (.var 6) (.nm 6) (.ovr (.call "shown" [.var 1] [] [0])) (some (.cmp .NotIn (.var 6) (.call "shown" [.var 0] [] [0])))) (.lst [])), .ite (.bop false (.cmp .NotEq (.var 7) (.cmp .NotEq (.var 3) (.lst []))) (.cmp .NotEq (.var 5) (.blt .len [.var 3]))) [.ret (.con (.bl false))] [], .ret (.cmp .Eq (.lc (.var 8) (.nm 8) (.ovr (.slc (.var 3) none (some (.con (.int 5))))) (some (.cmp .NotEq (.call "behind" [.var 8, .var 0] [] [0, 1]) (.var 1)))) (.lst []))]⟩ := by kernel_rfl
theorem f41 : fdOf ds bl 40 40 d41 = ⟨["script"], 9, [.asg 1 (.call "_law_all" [.con (.int 2)] [] [0]), .lop (.nm 2) (.ovr (.var 1)) [.ite (.cmp .NotEq (.lc (.var 8) (.nm 8) (.ovr (.var 1)) (some (.not (.tru (.call "_law_is_right" [.var 2, .var 8, .var 1] [] [0, 1, 2]))))) (.lst [])) [.ret (.con (.bl false))] []], .par [4, 5] [.call "_law_all" [.con (.int 3)] [] [0], .call "_law_all" [.con (.int 4)] [] [0]], .lop (.nm 3) (.rng [.blt .max [.con (.int 2), .blt .min [.blt .len [.var 0], .con (.int 3)]]]) [.asg 6 (.call "_law_well" [.var 0, .var 3] [] [0, 1]), .lop (.nm 7) (.rng [.con (.int 8)]) [.unp [.nm 2, .nm 8] (.tup [.call "_law_plan" [.var 6, .con (.int 3)] [] [0, 1], .call "_law_plan" [.var 6, .con (.int 3)] [] [0, 1]]), .ite (.bop false (.not (.tru (.call "_law_is_right" [.var 2, .var 8, .var 4] [] [0, 1, 2]))) (.not (.tru (.call "_law_is_right" [.var 2, .call "_law_then" [.var 8, .var 2] [] [0, 1], .var 4] [] [0, 1, 2])))) [.ret (.con (.bl false))] [], .unp [.nm 2, .nm 8] (.tup [.call "_law_plan" [.var 6, .con (.int 4)] [] [0, 1], .call "_law_plan" [.var 6, .con (.int 4)] [] [0, 1]]), .ite (.bop false (.not (.tru (.call "_law_is_right" [.var 2, .var 8, .var 5] [] [0, 1, 2]))) (.not (.tru (.call "_law_is_right" [.var 2, .call "_law_then" [.var 8, .var 2] [] [0, 1], .var 5] [] [0, 1, 2])))) [.ret (.con (.bl false))] []]], .ret (.call "_law_is_right" [.tup [.con (.int 0)], .tup [.con (.int 0)], .lst [.tup [.con (.int 0)]]] [] [0, 1, 2])]⟩ := by kernel_rfl
end K30

namespace K30
open PV
abbrev Cf (k : Nat) : Cfg := cfg pg 100 k
theorem call_of {x : PySem.Str} {d : Df} {as : List Sl} {k : Nat} (h : (ds.find? fun e => x == e.x) = some d) : (Cf (k + 1)).call x as = run (Cf k) (fdOf ds bl 40 40 d) as := by
  show (((ds.find? fun e => x == e.x).map (fdOf ds bl 40 40)).bind fun fd => run (cfg pg 100 k) fd as) = _
  rw [h]; rfl
theorem glb_most (k : Nat) : (Cf k).glb "MOST" = some (.int 8) := by cases k <;> kernel_rfl
theorem c_is_whole (k : Nat) (i : Int) : (Cf (k + 1)).call "is_whole" [.ro (.int i)] = some (.val (.bl true), [.ro (.int i)]) := by
  rw [call_of (d := d1) (by kernel_rfl), f1]
  simp
theorem c_is_between (k : Nat) (i a b : Int) : (Cf (k + 2)).call "is_between" [.ro (.int i), .ro (.int a), .ro (.int b)] = some (.val (.bl (decide (a ≤ i) && decide (i ≤ b))), [.ro (.int i), .ro (.int a), .ro (.int b)]) := by
  rw [call_of (d := d2) (by kernel_rfl), f2]
  by_cases h : a ≤ i
  · simp [c_is_whole, permute, permV, h]
  · simp [c_is_whole, permute, permV, h]
abbrev tI (p : List Int) : D := .tup (p.map .int)
theorem c_is_tuple_of (k : Nat) (p : List D) (n : Int) : (Cf (k + 1)).call "is_tuple_of" [.ro (.tup p), .ro (.int n)] = some (.val (.bl (decide ((p.length : Int) = n))), [.ro (.tup p), .ro (.int n)]) := by
  rw [call_of (d := d3) (by kernel_rfl), f3]
  simp
theorem c_behind_of (k : Nat) (p q : List Int) (hl : p.length ≤ 8) (h : ∀ x ∈ p, 0 ≤ x ∧ x < q.length) : (Cf (k + 1)).call "behind_of" [.ro (tI p), .ro (tI q)] = some (.val (tI (p.map fun x => q[x.toNat]?.getD 0)), [.ro (tI p), .ro (tI q)]) := by
  rw [call_of (d := d11) (by kernel_rfl), f11]
  have hm : p.length ≤ most := Nat.le_trans hl (by decide)
  have lp : lcLoop (lcB (Cf k) (.ix (.var 1) (.var 2)) (.nm 2) none) (p.map .int) [.ro (tI p), .ro (tI q), .un] = some (p.map fun x => .int (q[x.toNat]?.getD 0), [.ro (tI p), .ro (tI q), .un]) := by
    refine lcLoop_one fun x hx => ?_
    obtain ⟨h0, h1⟩ := h x hx
    have hx2 : q[x.toNat]? = some (q[x.toNat]'(by omega)) := List.getElem?_eq_getElem _
    simp [lcB, atI_ge h0 (show x < ((q.map D.int).length : Int) by simpa using h1), hx2]
  simp [hm, lp]

/-- a plan of n villages -/
def Pl (n : Nat) (p : List Int) : Prop := p.length = n ∧ 1 ≤ n ∧ n ≤ 8 ∧ ∀ x ∈ p, 0 ≤ x ∧ x < n
theorem most8 {p : List Int} {n : Nat} (h : Pl n p) : p.length ≤ most := by rw [h.1]; exact Nat.le_trans h.2.2.1 (by decide)
theorem mostn {p : List Int} {n : Nat} (h : Pl n p) : n ≤ most := Nat.le_trans h.2.2.1 (by decide)
theorem all_true {α : Type} (f : α → Bool) : ∀ (xs : List α), (∀ x ∈ xs, f x = true) → xs.map (fun x => D.bl (f x)) = (List.replicate xs.length true).map .bl
  | [], _ => rfl
  | x :: xs, h => by
    rw [List.map_cons, all_true f xs fun y hy => h y (List.mem_cons_of_mem _ hy), h x List.mem_cons_self]
    rfl
theorem c_are_wholes (k : Nat) {n : Nat} {p : List Int} (h : Pl n p) : (Cf (k + 2)).call "are_wholes" [.ro (tI p), .ro (.int n)] = some (.val (.bl true), [.ro (tI p), .ro (.int n)]) := by
  rw [call_of (d := d4) (by kernel_rfl), f4]
  have lp : lcLoop (lcB (Cf (k + 1)) (.call "is_whole" [.var 2] [] [0]) (.nm 2) none) (p.map .int) [.ro (tI p), .ro (.int n), .un] = some (p.map fun x => .bl true, [.ro (tI p), .ro (.int n), .un]) := by
    refine lcLoop_one fun x hx => ?_
    simp [lcB, c_is_whole, permute, permV]
  have e : (p.map fun _ => D.bl true) = (List.replicate p.length true).map .bl := all_true (fun _ => true) p fun _ _ => rfl
  rw [e] at lp
  simp [c_is_tuple_of, permute, permV, h.1, mostn h, lp]
theorem c_is_village (k : Nat) (n i : Int) : (Cf (k + 3)).call "is_village" [.ro (.int n), .ro (.int i)] = some (.val (.bl (decide (0 ≤ i) && decide (i ≤ n - 1))), [.ro (.int n), .ro (.int i)]) := by
  rw [call_of (d := d8) (by kernel_rfl), f8]
  simp [c_is_between, permute, permV]
theorem c_is_village_number (k : Nat) (i : Int) : (Cf (k + 3)).call "is_village_number" [.ro (.int i)] = some (.val (.bl (decide (1 ≤ i) && decide (i ≤ 8))), [.ro (.int i)]) := by
  rw [call_of (d := d7) (by kernel_rfl), f7]
  simp [c_is_between, permute, permV, glb_most]
theorem c_is_plan_of (k : Nat) {n : Nat} {p : List Int} (h : Pl n p) : (Cf (k + 4)).call "is_plan_of" [.ro (.int n), .ro (tI p)] = some (.val (.bl true), [.ro (.int n), .ro (tI p)]) := by
  rw [call_of (d := d9) (by kernel_rfl), f9]
  have lp : lcLoop (lcB (Cf (k + 3)) (.call "is_village" [.var 0, .var 2] [] [0, 1]) (.nm 2) none) (p.map .int) [.ro (.int n), .ro (tI p), .un] = some (p.map fun x => .bl (decide (0 ≤ x) && decide (x ≤ (n : Int) - 1)), [.ro (.int n), .ro (tI p), .un]) := by
    refine lcLoop_one fun x hx => ?_
    simp [lcB, c_is_village, permute, permV]
  rw [all_true (fun x => decide (0 ≤ x) && decide (x ≤ (n : Int) - 1)) p fun x hx => by
    obtain ⟨a, b⟩ := h.2.2.2 x hx
    simp; omega] at lp
  simp [c_are_wholes (k + 1) h, permute, permV, most8 h, lp]
theorem c_is_planned (k : Nat) {n : Nat} {p : List Int} (h : Pl n p) : (Cf (k + 5)).call "is_planned" [.ro (tI p)] = some (.val (.bl true), [.ro (tI p)]) := by
  rw [call_of (d := d10) (by kernel_rfl), f10]
  have h1 : (1 : Int) ≤ n ∧ (n : Int) ≤ 8 := by have := h.2.1; have := h.2.2.1; omega
  simp [c_is_plan_of k h, c_is_village_number, permute, permV, h.1, h1]
theorem c_check_plan (k : Nat) {n : Nat} {p : List Int} (h : Pl n p) : (Cf (k + 6)).call "check_plan" [.ro (tI p)] = some (.val .non, [.ro (tI p)]) := by
  rw [call_of (d := d22) (by kernel_rfl), f22]
  simp [c_is_planned k h, permute, permV]
theorem c_check_plan_of (k : Nat) {n : Nat} {p : List Int} (h : Pl n p) : (Cf (k + 5)).call "check_plan_of" [.ro (.int n), .ro (tI p)] = some (.val .non, [.ro (.int n), .ro (tI p)]) := by
  rw [call_of (d := d23) (by kernel_rfl), f23]
  simp [c_is_plan_of k h, permute, permV]
theorem c_check_two (k : Nat) {n : Nat} {p q : List Int} (h : Pl n p) (h' : Pl n q) : (Cf (k + 7)).call "check_two_plans" [.ro (tI p), .ro (tI q)] = some (.val .non, [.ro (tI p), .ro (tI q)]) := by
  rw [call_of (d := d24) (by kernel_rfl), f24]
  simp [c_check_plan k h, c_check_plan_of (k + 1) h', permute, permV, h.1]
def thenF (p q : List Int) : List Int := p.map fun x => q[x.toNat]?.getD 0
theorem c_behind (k : Nat) {n : Nat} {p q : List Int} (h : Pl n p) (h' : Pl n q) : (Cf (k + 8)).call "behind" [.ro (tI p), .ro (tI q)] = some (.val (tI (thenF p q)), [.ro (tI p), .ro (tI q)]) := by
  rw [call_of (d := d29) (by kernel_rfl), f29]
  simp [c_check_two k h h', c_behind_of (k + 6) p q (by rw [h.1]; exact h.2.2.1) (fun x hx => by rw [h'.1]; exact h.2.2.2 x hx), permute, permV, thenF]
theorem c_then (k : Nat) {n : Nat} {p q : List Int} (h : Pl n p) (h' : Pl n q) : (Cf (k + 1)).call "_law_then" [.ro (tI p), .ro (tI q)] = some (.val (tI (thenF p q)), [.ro (tI p), .ro (tI q)]) := by
  rw [call_of (d := d39) (by kernel_rfl), f39]
  have lp : lcLoop (lcB (Cf k) (.ix (.var 1) (.var 2)) (.nm 2) none) (p.map .int) [.ro (tI p), .ro (tI q), .un] = some ((thenF p q).map .int, [.ro (tI p), .ro (tI q), .un]) := by
    unfold thenF
    rw [List.map_map]
    refine lcLoop_one fun x hx => ?_
    obtain ⟨h0, h1⟩ := h.2.2.2 x hx
    rw [← h'.1] at h1
    have hx2 : q[x.toNat]? = some (q[x.toNat]'(by omega)) := List.getElem?_eq_getElem _
    simp [lcB, atI_ge h0 (show x < ((q.map D.int).length : Int) by simpa using h1), hx2]
  simp [most8 h, lp]
/-- the villages that show v -/
def showF (p : List Int) (v : Int) : List Int := (p.zipIdx.filter fun q => decide (q.1 = v)).map fun q => ((q.2 : Nat) : Int)
theorem c_showing (k : Nat) {n : Nat} {p : List Int} (h : Pl n p) (v : Int) : (Cf (k + 1)).call "showing" [.ro (tI p), .ro (.int v)] = some (.val (tI (showF p v)), [.ro (tI p), .ro (.int v)]) := by
  rw [call_of (d := d13) (by kernel_rfl), f13]
  have lp : lcLoop (lcB (Cf k) (.var 2) (.tp [2, 3]) (some (.cmp .Eq (.var 3) (.var 1)))) (enumD 0 (p.map .int)) [.ro (tI p), .ro (.int v), .un, .un] = some ((showF p v).map .int, [.ro (tI p), .ro (.int v), .un, .un]) := by
    unfold showF
    rw [List.map_map, enumD_map]
    refine lcLoop_filter fun q hq => ?_
    by_cases e : q.1 = v
    · simp [lcB, e]
    · simp [lcB, e]
  have hl : (enumD 0 (p.map D.int)).length ≤ most := by rw [enumD_map]; simpa using most8 h
  simp [hl, lp]
def shownF (p : List Int) : List Int := isort (dedup p)
theorem dedup_len : ∀ (l : List Int), (dedup l).length ≤ l.length
  | [] => Nat.le_refl _
  | x :: l => by
    have := dedup_len l
    unfold dedup
    split <;> simp <;> omega
theorem c_shown_of (k : Nat) {n : Nat} {p : List Int} (h : Pl n p) : (Cf (k + 1)).call "shown_of" [.ro (tI p)] = some (.val (tI (shownF p)), [.ro (tI p)]) := by
  rw [call_of (d := d12) (by kernel_rfl), f12]
  have h1 : p.length ≤ 1000 := by rw [h.1]; have := h.2.2.1; omega
  have h2 : (dedup p).length < 64 := by have := dedup_len p; rw [h.1] at this; have := h.2.2.1; omega
  simp [h1, h2, shownF]
theorem c_shown (k : Nat) {n : Nat} {p : List Int} (h : Pl n p) : (Cf (k + 7)).call "shown" [.ro (tI p)] = some (.val (tI (shownF p)), [.ro (tI p)]) := by
  rw [call_of (d := d30) (by kernel_rfl), f30]
  simp [c_check_plan k h, c_shown_of (k + 5) h, permute, permV]
end K30

namespace K30
open PV
@[simp] theorem nil_i (xs : List Int) : cmpD .NotEq (.lst (xs.map .int)) (.lst []) = some (!xs.isEmpty) := (lst_nil (n := 0) (fun x _ => ok_int x) (by decide)).2
@[simp] theorem nil_i2 (xs : List Int) : cmpD .Eq (.lst (xs.map .int)) (.lst []) = some xs.isEmpty := (lst_nil (n := 0) (fun x _ => ok_int x) (by decide)).1
theorem ok_t (p : List Int) : Ok 1 (tI p) := (enc_tup enc_int).ok p
@[simp] theorem nil_t (xs : List (List Int)) : cmpD .NotEq (.lst (xs.map tI)) (.lst []) = some (!xs.isEmpty) := (lst_nil (n := 1) (fun x _ => ok_t x) (by decide)).2
@[simp] theorem nil_t2 (xs : List (List Int)) : cmpD .Eq (.lst (xs.map tI)) (.lst []) = some xs.isEmpty := (lst_nil (n := 1) (fun x _ => ok_t x) (by decide)).1
/-- the goal's villages that the plan does not show -/
def missF (p q : List Int) : List Int := (shownF q).filter fun v => !decide (v ∈ p)
def hdD : List Int → D
  | [] => .non
  | x :: _ => .int x
theorem shown_len {n : Nat} {p : List Int} (h : Pl n p) : (shownF p).length ≤ most := by
  have h1 := dedup_len p
  have h2 : (isort (dedup p)).length = (dedup p).length := (isort_perm _).length_eq
  unfold shownF
  have := mostn h
  rw [h2]
  rw [h.1] at h1
  omega
theorem c_missing (k : Nat) {n : Nat} {p q : List Int} (h : Pl n p) (h' : Pl n q) : (Cf (k + 2)).call "missing_village" [.ro (tI p), .ro (tI q)] = some (.val (hdD (missF p q)), [.ro (tI p), .ro (tI q)]) := by
  rw [call_of (d := d15) (by kernel_rfl), f15]
  have lp : lcLoop (lcB (Cf (k + 1)) (.var 3) (.nm 3) (some (.cmp .NotIn (.var 3) (.var 0)))) ((shownF q).map .int) [.ro (tI p), .ro (tI q), .un, .un] = some ((missF p q).map .int, [.ro (tI p), .ro (tI q), .un, .un]) := by
    unfold missF
    refine lcLoop_filter fun x hx => ?_
    by_cases e : x ∈ p
    · simp [lcB, e]
    · simp [lcB, e]
  have hm := shown_len h'
  simp [c_shown_of k h', permute, permV, hm, lp]
  cases missF p q with
  | nil => simp [hdD]
  | cons x r => simp [hdD]
theorem mem_shown {p : List Int} {v : Int} : v ∈ shownF p ↔ v ∈ p := by
  unfold shownF
  rw [(isort_perm _).mem_iff, dedup_mem]
theorem show_mem {p : List Int} {v : Int} (h : v ∈ p) : showF p v ≠ [] := by
  obtain ⟨i, hi, e⟩ := List.getElem_of_mem h
  intro z
  unfold showF at z
  rw [List.map_eq_nil_iff, List.filter_eq_nil_iff] at z
  refine z (v, i) ?_ (by simp)
  rw [List.mem_zipIdx_iff_getElem?]
  simp [hi, e]
theorem miss_nil {p q : List Int} (h : missF p q = []) : ∀ g ∈ q, g ∈ p := fun g hg => by
  have := List.filter_eq_nil_iff.mp h g (mem_shown.mpr hg)
  simpa using this
def aheadF (p q : List Int) : D := if missF p q = [] then tI (q.map fun g => (showF p g)[0]?.getD 0) else .non
theorem c_ahead_by (k : Nat) {n : Nat} {p q : List Int} (h : Pl n p) (h' : Pl n q) : (Cf (k + 3)).call "some_ahead_by" [.ro (tI p), .ro (tI q)] = some (.val (aheadF p q), [.ro (tI p), .ro (tI q)]) := by
  rw [call_of (d := d16) (by kernel_rfl), f16]
  by_cases hm : missF p q = []
  · have lp : lcLoop (lcB (Cf (k + 2)) (.ix (.call "showing" [.var 0, .var 2] [] [0, 1]) (.con (.int 0))) (.nm 2) none) (q.map .int) [.ro (tI p), .ro (tI q), .un] = some ((q.map fun g => (showF p g)[0]?.getD 0).map .int, [.ro (tI p), .ro (tI q), .un]) := by
      rw [List.map_map]
      refine lcLoop_one fun x hx => ?_
      have hs := show_mem (miss_nil hm x hx)
      cases e : showF p x with
      | nil => exact absurd e hs
      | cons a r => simp [lcB, c_showing (k + 1) h, permute, permV, e]
    simp [c_missing k h h', permute, permV, hm, hdD, lp, most8 h', aheadF]
  · cases e : missF p q with
    | nil => exact absurd e hm
    | cons a r => simp [c_missing k h h', permute, permV, e, hdD, aheadF]
def cntF (p q : List Int) : Int := q.foldl (fun a g => a * ((showF p g).length : Int)) 1
theorem show_len {p : List Int} {v : Int} : (showF p v).length ≤ p.length := by
  unfold showF
  rw [List.length_map]
  refine Nat.le_trans (List.length_filter_le _ _) ?_
  simp
theorem c_count_by (k : Nat) {n : Nat} {p q : List Int} (h : Pl n p) (h' : Pl n q) : (Cf (k + 2)).call "ahead_count_by" [.ro (tI p), .ro (tI q)] = some (.val (.int (cntF p q)), [.ro (tI p), .ro (tI q)]) := by
  rw [call_of (d := d17) (by kernel_rfl), f17]
  obtain ⟨ρ, e, z, hρ⟩ := forLoop_nx (f := lopB (Cf (k + 1)) 2 (.nm 3) [.asg 2 (.bin .Mult (.var 2) (.blt .len [.call "showing" [.var 0, .var 3] [] [0, 1]]))]) (e := D.int) (xs := q) (done := []) (ρ := [.ro (tI p), .ro (tI q), .ro (.int 1), .un])
    (I := fun done ρ => ∃ z, ρ = [.ro (tI p), .ro (tI q), .ro (.int (cntF p done)), z]) ⟨.un, rfl⟩ (fun x hx done ρ ⟨z, hρ⟩ => by
      subst hρ
      have hl : ((showF p x).length : Int) ≤ 8 := by have := show_len (p := p) (v := x); rw [h.1] at this; have := h.2.2.1; omega
      have hb : R64 ((showF p x).length : Int) := r64 (by omega) (by omega)
      refine ⟨[.ro (tI p), .ro (tI q), .ro (.int (cntF p (done ++ [x]))), .ro (.int x)], ?_, _, rfl⟩
      simp [lopB, c_showing k h, permute, permV, hb, cntF])
  subst hρ
  simp [e]
theorem c_ahead (k : Nat) {n : Nat} {p q : List Int} (h : Pl n p) (h' : Pl n q) : (Cf (k + 8)).call "some_ahead" [.ro (tI p), .ro (tI q)] = some (.val (aheadF p q), [.ro (tI p), .ro (tI q)]) := by
  rw [call_of (d := d26) (by kernel_rfl), f26]
  simp [c_check_two k h h', c_ahead_by (k + 4) h h', permute, permV]
theorem c_count (k : Nat) {n : Nat} {p q : List Int} (h : Pl n p) (h' : Pl n q) : (Cf (k + 8)).call "ahead_count" [.ro (tI p), .ro (tI q)] = some (.val (.int (cntF p q)), [.ro (tI p), .ro (tI q)]) := by
  rw [call_of (d := d27) (by kernel_rfl), f27]
  simp [c_check_two k h h', c_count_by (k + 5) h h', permute, permV]
end K30

namespace K30
open PV
/-! ### _law_same -/
theorem same_non (k : Nat) : (Cf (k + 1)).call "_law_same" [.ro .non, .ro .non] = some (.val (.bl true), [.ro .non, .ro .non]) := by
  rw [call_of (d := d35) (by kernel_rfl), f35]
  simp
theorem same_int (k : Nat) (i : Int) : (Cf (k + 1)).call "_law_same" [.ro (.int i), .ro (.int i)] = some (.val (.bl true), [.ro (.int i), .ro (.int i)]) := by
  rw [call_of (d := d35) (by kernel_rfl), f35]
  simp
theorem same_tup (k : Nat) {xs : List D} (hl : xs.length ≤ 1000) (h : ∀ x ∈ xs, (Cf k).call "_law_same" [.ro x, .ro x] = some (.val (.bl true), [.ro x, .ro x])) : (Cf (k + 1)).call "_law_same" [.ro (.tup xs), .ro (.tup xs)] = some (.val (.bl true), [.ro (.tup xs), .ro (.tup xs)]) := by
  rw [call_of (d := d35) (by kernel_rfl), f35]
  have lp : lcLoop (lcB (Cf k) (.call "_law_same" [.ix (.var 0) (.var 2), .ix (.var 1) (.var 2)] [] [0, 1]) (.nm 2) none) ((List.range xs.length).map fun (i : Nat) => D.int i) [.ro (.tup xs), .ro (.tup xs), .un] = some ((List.range xs.length).map fun _ => .bl true, [.ro (.tup xs), .ro (.tup xs), .un]) := by
    refine lcLoop_one fun i hi => ?_
    have hi := List.mem_range.mp hi
    have hx := h _ (List.getElem_mem hi)
    have e : L2.atI xs (i : Int) = some xs[i] := atI_of (i := (i : Int)) (by omega) (by rw [Int.toNat_natCast]; exact List.getElem?_eq_getElem hi)
    simp [lcB, e, permute, permV, hx]
  have e2 : ((List.range xs.length).map fun _ => D.bl true) = List.replicate xs.length (.bl true) := by rw [List.map_const', List.length_range]
  rw [e2] at lp
  have h1 : R62 (xs.length : Int) := r62 (by omega) (by omega)
  have h2 : xs.length ≤ most := w_most (by omega)
  simp [h1, h2, lp]
theorem same_t (k : Nat) {n : Nat} {p : List Int} (h : p.length ≤ 8) : (Cf (k + 2)).call "_law_same" [.ro (tI p), .ro (tI p)] = some (.val (.bl true), [.ro (tI p), .ro (tI p)]) :=
  same_tup (k + 1) (by simp; omega) fun x hx => by
    obtain ⟨i, _, rfl⟩ := List.mem_map.mp hx
    exact same_int k i
/-! ### _law_all -/
def allR (n : Nat) : Nat → List (List Int)
  | 0 => [[]]
  | t + 1 => (allR n t).flatMap fun p => (List.range n).map fun (i : Nat) => p ++ [(i : Int)]
def allP (n : Nat) : List (List Int) := allR n n
theorem flatMap_len {α β : Type} {f : α → List β} {n : Nat} (h : ∀ x, (f x).length = n) : ∀ l : List α, (l.flatMap f).length = l.length * n
  | [] => by simp
  | x :: l => by
    rw [List.flatMap_cons, List.length_append, h x, flatMap_len h l, List.length_cons, Nat.succ_mul]
    omega
theorem allR_len (n : Nat) : ∀ t, (allR n t).length = n ^ t
  | 0 => rfl
  | t + 1 => by
    unfold allR
    rw [flatMap_len (n := n) (fun p => by simp), allR_len n t, Nat.pow_succ]
theorem allR_mem {n : Nat} : ∀ {t : Nat} {p : List Int}, p ∈ allR n t → p.length = t ∧ ∀ x ∈ p, 0 ≤ x ∧ x < n
  | 0, p, h => by
    simp [allR] at h
    subst h
    exact ⟨rfl, fun x hx => by cases hx⟩
  | t + 1, p, h => by
    unfold allR at h
    obtain ⟨q, hq, h⟩ := List.mem_flatMap.mp h
    obtain ⟨i, hi, rfl⟩ := List.mem_map.mp h
    obtain ⟨h1, h2⟩ := allR_mem hq
    have hi := List.mem_range.mp hi
    refine ⟨by simp [h1], fun x hx => ?_⟩
    rcases List.mem_append.mp hx with hx | hx
    · exact h2 x hx
    · rw [List.mem_singleton.mp hx]
      omega
theorem all_pl {n : Nat} (h1 : 1 ≤ n) (h8 : n ≤ 8) {p : List Int} (h : p ∈ allP n) : Pl n p := ⟨(allR_mem h).1, h1, h8, (allR_mem h).2⟩
theorem c_all2 (k : Nat) : (Cf (k + 1)).call "_law_all" [.ro (.int 2)] = some (.val (.lst ((allP 2).map tI)), [.ro (.int 2)]) := by kernel_rfl
theorem c_all3 (k : Nat) : (Cf (k + 1)).call "_law_all" [.ro (.int 3)] = some (.val (.lst ((allP 3).map tI)), [.ro (.int 3)]) := by kernel_rfl
theorem c_all4 (k : Nat) : (Cf (k + 1)).call "_law_all" [.ro (.int 4)] = some (.val (.lst ((allP 4).map tI)), [.ro (.int 4)]) := by kernel_rfl
end K30

namespace K30
open PV
/-! ### plain mathematics: all plans that lead the plan to the goal -/
theorem thenF_snoc (a : List Int) (x : Int) (p : List Int) : thenF (a ++ [x]) p = thenF a p ++ [p[x.toNat]?.getD 0] := by simp [thenF]
/-- the rows that pick, place by place, one that shows what is to be shown -/
def rowsF (p : List Int) : List Int → List (List Int)
  | q => q.foldl (fun acc g => acc.flatMap fun a => (showF p g).map fun x => a ++ [x]) [[]]
theorem rowsF_snoc (p q : List Int) (g : Int) : rowsF p (q ++ [g]) = (rowsF p q).flatMap fun a => (showF p g).map fun x => a ++ [x] := by simp [rowsF]
theorem show_eq {n : Nat} {p : List Int} (h : p.length = n) (g : Int) : showF p g = ((List.range n).filter fun (i : Nat) => decide (p[((i : Int)).toNat]?.getD 0 = g)).map fun (i : Nat) => (i : Int) := by
  subst h
  unfold showF
  have e : p.zipIdx = (List.range p.length).map fun i => (p[i]?.getD 0, i) := by
    refine List.ext_getElem (by simp) fun i h1 h2 => ?_
    have hi : i < p.length := by simpa using h1
    simp [hi]
  rw [e, List.filter_map, List.map_map]
  congr 1
theorem filter_flatMap' {α β : Type} (f : α → List β) (q : β → Bool) : ∀ l : List α, (l.flatMap f).filter q = l.flatMap fun a => (f a).filter q
  | [] => rfl
  | a :: l => by rw [List.flatMap_cons, List.filter_append, filter_flatMap' f q l, List.flatMap_cons]
theorem flatMap_filter {α β : Type} (f : α → List β) (q : α → Bool) : ∀ l : List α, l.flatMap (fun a => if q a then f a else []) = (l.filter q).flatMap f
  | [] => rfl
  | a :: l => by
    rw [List.flatMap_cons, flatMap_filter f q l, List.filter_cons]
    cases q a <;> simp
theorem flatMap_congr' {α β : Type} {f g : α → List β} : ∀ {l : List α}, (∀ a ∈ l, f a = g a) → l.flatMap f = l.flatMap g
  | [], _ => rfl
  | a :: l, h => by rw [List.flatMap_cons, List.flatMap_cons, h a List.mem_cons_self, flatMap_congr' fun b hb => h b (List.mem_cons_of_mem _ hb)]
theorem rows_all {n : Nat} {p : List Int} (hp : p.length = n) : ∀ (t : Nat) (q : List Int), q.length = t → (allR n t).filter (fun a => decide (thenF a p = q)) = rowsF p q
  | 0, q, h => by
    have : q = [] := List.length_eq_zero_iff.mp h
    subst this
    simp [allR, rowsF, thenF]
  | t + 1, q, h => by
    obtain ⟨q', g, rfl⟩ : ∃ q' g, q = q' ++ [g] := ⟨q.dropLast, q.getLast (by intro z; subst z; cases h), (List.dropLast_concat_getLast _).symm⟩
    have hq : q'.length = t := by simpa using h
    have ih := rows_all hp t q' hq
    rw [rowsF_snoc, ← ih]
    rw [show allR n (t + 1) = (allR n t).flatMap fun p => (List.range n).map fun (i : Nat) => p ++ [(i : Int)] from rfl, filter_flatMap', ← flatMap_filter]
    refine flatMap_congr' fun a ha => ?_
    have hla := (allR_mem ha).1
    have hl : (thenF a p).length = q'.length := by simp [thenF, hla, hq]
    rw [show_eq hp g, List.filter_map, List.map_map]
    by_cases e : thenF a p = q'
    · simp only [e, decide_true, if_true]
      congr 1
      refine List.filter_congr fun i hi => ?_
      simp [thenF_snoc, e]
    · have e' : ∀ i : Nat, ¬ thenF (a ++ [(i : Int)]) p = q' ++ [g] := fun i z => by
        rw [thenF_snoc] at z
        exact e (List.append_inj' z rfl).1
      simp [e, e']
theorem rows_len (p : List Int) : ∀ (q : List Int), ((rowsF p q).length : Int) = cntF p q := by
  intro q
  have key : ∀ (q : List Int) (acc : List (List Int)) (c : Int), (acc.length : Int) = c → ((q.foldl (fun acc g => acc.flatMap fun a => (showF p g).map fun x => a ++ [x]) acc).length : Int) = q.foldl (fun a g => a * ((showF p g).length : Int)) c := by
    intro q
    induction q with
    | nil => intro acc c h; exact h
    | cons g q ih =>
      intro acc c h
      refine ih _ _ ?_
      rw [flatMap_len (n := (showF p g).length) (fun a => by simp)]
      simp [h]
  exact key q [[]] 1 rfl
theorem rows_head (p : List Int) : ∀ (q acc0 : List Int) (acc : List (List Int)), (∀ g ∈ q, showF p g ≠ []) → acc.head? = some acc0 →
    (q.foldl (fun acc g => acc.flatMap fun a => (showF p g).map fun x => a ++ [x]) acc).head? = some (acc0 ++ q.map fun g => (showF p g)[0]?.getD 0)
  | [], acc0, acc, _, h => by simpa using h
  | g :: q, acc0, acc, hs, h => by
    have hg := hs g List.mem_cons_self
    cases acc with
    | nil => cases h
    | cons a acc =>
      simp at h
      subst h
      cases e : showF p g with
      | nil => exact absurd e hg
      | cons x r =>
        have := rows_head p q (a ++ [x]) ((a :: acc).flatMap fun a => (showF p g).map fun x => a ++ [x]) (fun g' h' => hs g' (List.mem_cons_of_mem _ h')) (by rw [e]; simp)
        rw [List.foldl_cons, this]
        simp [e]
theorem rows_nil (p : List Int) : ∀ (q : List Int) (acc : List (List Int)), (∃ g ∈ q, showF p g = []) ∨ acc = [] → q.foldl (fun acc g => acc.flatMap fun a => (showF p g).map fun x => a ++ [x]) acc = []
  | [], acc, h => by
    rcases h with ⟨g, hg, _⟩ | h
    · cases hg
    · exact h
  | g :: q, acc, h => by
    rw [List.foldl_cons]
    refine rows_nil p q _ ?_
    rcases h with ⟨g', hg, e⟩ | h
    · rcases List.mem_cons.mp hg with rfl | hg
      · exact .inr (by rw [e]; simp)
      · exact .inl ⟨g', hg, e⟩
    · exact .inr (by rw [h]; rfl)
theorem show_nil {p : List Int} {v : Int} (h : v ∉ p) : showF p v = [] := by
  unfold showF
  rw [List.map_eq_nil_iff, List.filter_eq_nil_iff]
  rintro ⟨x, i⟩ hx
  have := List.mem_zipIdx_iff_getElem?.mp hx
  have hx' : x ∈ p := List.mem_of_getElem? this
  simp
  rintro rfl
  exact h hx'
def hdT : List (List Int) → D
  | [] => .non
  | x :: _ => tI x
theorem miss_cons {p q : List Int} (h : missF p q ≠ []) : ∃ g ∈ q, showF p g = [] := by
  obtain ⟨g, hg⟩ := List.exists_mem_of_ne_nil _ h
  have := List.mem_filter.mp hg
  exact ⟨g, mem_shown.mp this.1, show_nil (by simpa using this.2)⟩
/-- the first of all is the one told -/
theorem ahead_eq (p q : List Int) : aheadF p q = hdT (rowsF p q) := by
  unfold aheadF
  by_cases h : missF p q = []
  · rw [if_pos h]
    have := rows_head p q [] [[]] (fun g hg => show_mem (miss_nil h g hg)) rfl
    rw [List.nil_append] at this
    change (rowsF p q).head? = _ at this
    cases e : rowsF p q with
    | nil => rw [e] at this; cases this
    | cons a r =>
      rw [e] at this
      simp at this
      simp [hdT, this]
  · rw [if_neg h]
    have := rows_nil p q [[]] (.inl (miss_cons h))
    change rowsF p q = [] at this
    rw [this]
    rfl
theorem rows_empty (p q : List Int) : (rowsF p q).isEmpty = !(missF p q).isEmpty := by
  by_cases h : missF p q = []
  · have := rows_head p q [] [[]] (fun g hg => show_mem (miss_nil h g hg)) rfl
    change (rowsF p q).head? = _ at this
    cases e : rowsF p q with
    | nil => rw [e] at this; cases this
    | cons a r => simp [h]
  · have := rows_nil p q [[]] (.inl (miss_cons h))
    change rowsF p q = [] at this
    rw [this]
    simpa using h
end K30

namespace K30
open PV
@[simp] theorem nn1 : cmpD .NotEq (.lst []) (.lst []) = some false := nil_i []
@[simp] theorem nn2 : cmpD .Eq (.lst []) (.lst []) = some true := nil_i2 []
@[simp] theorem nn3 (a : List Int) (r : List (List Int)) : cmpD .NotEq (.lst (tI a :: r.map tI)) (.lst []) = some true := nil_t (a :: r)
@[simp] theorem nn4 (a : List Int) (r : List (List Int)) : cmpD .Eq (.lst (tI a :: r.map tI)) (.lst []) = some false := nil_t2 (a :: r)
theorem show_len_eq (p : List Int) (g : Int) : (showF p g).length = (p.filter fun x => decide (x = g)).length := by
  unfold showF
  rw [List.length_map]
  have : ∀ (l : List Int) (k : Nat), ((l.zipIdx k).filter fun q => decide (q.1 = g)).length = (l.filter fun x => decide (x = g)).length := by
    intro l
    induction l with
    | nil => intro k; rfl
    | cons x l ih =>
      intro k
      rw [List.zipIdx_cons, List.filter_cons, List.filter_cons]
      by_cases e : x = g
      · simp [e, ih]
      · simp [e, ih]
  exact this p 0
theorem miss2 (p q : List Int) : (shownF q).filter (fun v => !decide (v ∈ shownF p)) = missF p q := by
  unfold missF
  exact List.filter_congr fun v _ => by simp [mem_shown]
theorem cnt_snoc (p q : List Int) (x : Int) : cntF p (q ++ [x]) = cntF p q * ((showF p x).length : Int) := by simp [cntF]
theorem all_len {n : Nat} (h : n ≤ 4) : (allP n).length ≤ 256 := by
  unfold allP
  rw [allR_len]
  have h1 : n ^ n ≤ 4 ^ n := Nat.pow_le_pow_left h n
  have h2 : 4 ^ n ≤ 4 ^ 4 := Nat.pow_le_pow_right (by decide) h
  omega
theorem c_right (k : Nat) {n : Nat} {p q : List Int} (h : Pl n p) (h' : Pl n q) (h4 : n ≤ 4) {s : Sl} (hs : s = .ro (.lst ((allP n).map tI)) ∨ s = .own (.lst ((allP n).map tI))) :
    (Cf (k + 10)).call "_law_is_right" [.ro (tI p), .ro (tI q), s] = some (.val (.bl true), [.ro (tI p), .ro (tI q), .ro (.lst ((allP n).map tI))]) := by
  rw [call_of (d := d40) (by kernel_rfl), f40]
  have hall : (allP n).length ≤ most := w_most (by have := all_len h4; omega)
  have hmem : ∀ a ∈ rowsF p q, Pl n a ∧ thenF a p = q := fun a ha => by
    rw [← rows_all h.1 n q h'.1] at ha
    have := List.mem_filter.mp ha
    exact ⟨all_pl h.2.1 h.2.2.1 this.1, by simpa using this.2⟩
  have hrl : (rowsF p q).length ≤ 256 := by
    rw [← rows_all h.1 n q h'.1]
    exact Nat.le_trans (List.length_filter_le _ _) (all_len h4)
  -- some
  have lp1 : ∀ ρ : Rho, ρ = [.ro (tI p), .ro (tI q), .ro (.lst ((allP n).map tI)), .un, .un, .un, .un, .un, .un] →
      lcLoop (lcB (Cf (k + 9)) (.var 8) (.nm 8) (some (.cmp .Eq (.call "_law_then" [.var 8, .var 0] [] [0, 1]) (.var 1)))) ((allP n).map tI) ρ = some ((rowsF p q).map tI, ρ) := by
    rintro ρ rfl
    rw [← rows_all h.1 n q h'.1]
    refine lcLoop_filter fun a ha => ?_
    have hpl := all_pl h.2.1 h.2.2.1 ha
    by_cases e : thenF a p = q
    · simp [lcB, c_then (k + 8) hpl h, permute, permV, e]
    · simp [lcB, c_then (k + 8) hpl h, permute, permV, e]
  -- due
  have due1 : ∀ ρ : Rho, ρ = [.ro (tI p), .ro (tI q), .ro (.lst ((allP n).map tI)), .own (.lst ((rowsF p q).map tI)), .un, .un, .un, .un, .un] →
      ev (Cf (k + 9)) (.ife (.cmp .NotEq (.var 3) (.lst [])) (.ix (.var 3) (.con (.int 0))) (.con .non)) ρ = some (.val (aheadF p q), ρ) := by
    rintro ρ rfl
    rw [ahead_eq]
    cases e : rowsF p q with
    | nil => simp [hdT]
    | cons a r =>
      simp [hdT]
  -- the counts
  have lp2 : ∀ (g : Int) (z7 : Sl) (m : D),
      lcLoop (lcB (Cf (k + 9)) (.var 8) (.nm 8) (some (.cmp .Eq (.var 8) (.var 6)))) (p.map .int) [.ro (tI p), .ro (tI q), .ro (.lst ((allP n).map tI)), .own (.lst ((rowsF p q).map tI)), .ro (.tup [aheadF p q, .int (cntF p q)]), .ro m, .ro (.int g), z7, .un] = some ((p.filter fun x => decide (x = g)).map .int, [.ro (tI p), .ro (tI q), .ro (.lst ((allP n).map tI)), .own (.lst ((rowsF p q).map tI)), .ro (.tup [aheadF p q, .int (cntF p q)]), .ro m, .ro (.int g), z7, .un]) := by
    intro g z7 m
    refine lcLoop_filter fun x hx => ?_
    by_cases e : x = g
    · simp [lcB, e]
    · simp [lcB, e]
  have loop : ∀ ρ : Rho, ρ = [.ro (tI p), .ro (tI q), .ro (.lst ((allP n).map tI)), .own (.lst ((rowsF p q).map tI)), .ro (.tup [aheadF p q, .int (cntF p q)]), .ro (.int 1), .un, .un, .un] →
      ∃ z, forLoop (lopB (Cf (k + 9)) 3 (.nm 6) [.asg 5 (.bin .Mult (.var 5) (.blt .len [.lc (.var 8) (.nm 8) (.ovr (.var 0)) (some (.cmp .Eq (.var 8) (.var 6)))]))]) (q.map .int) ρ =
        some (.nx, [.ro (tI p), .ro (tI q), .ro (.lst ((allP n).map tI)), .own (.lst ((rowsF p q).map tI)), .ro (.tup [aheadF p q, .int (cntF p q)]), .ro (.int (cntF p q)), z, .un, .un]) := by
    rintro ρ rfl
    obtain ⟨ρ, e, z, hρ⟩ := forLoop_nx (f := lopB (Cf (k + 9)) 3 (.nm 6) [.asg 5 (.bin .Mult (.var 5) (.blt .len [.lc (.var 8) (.nm 8) (.ovr (.var 0)) (some (.cmp .Eq (.var 8) (.var 6)))]))]) (e := D.int) (xs := q) (done := [])
      (ρ := [.ro (tI p), .ro (tI q), .ro (.lst ((allP n).map tI)), .own (.lst ((rowsF p q).map tI)), .ro (.tup [aheadF p q, .int (cntF p q)]), .ro (.int 1), .un, .un, .un])
      (I := fun done ρ => ∃ z, ρ = [.ro (tI p), .ro (tI q), .ro (.lst ((allP n).map tI)), .own (.lst ((rowsF p q).map tI)), .ro (.tup [aheadF p q, .int (cntF p q)]), .ro (.int (cntF p done)), z, .un, .un]) ⟨.un, rfl⟩ (fun x hx done ρ ⟨z, hρ⟩ => by
        subst hρ
        have hl : ((p.filter fun y => decide (y = x)).length : Int) = ((showF p x).length : Int) := by rw [show_len_eq]
        have hl8 : ((showF p x).length : Int) ≤ 8 := by have := show_len (p := p) (v := x); rw [h.1] at this; have := h.2.2.1; omega
        have hb : R64 ((showF p x).length : Int) := r64 (by omega) (by omega)
        refine ⟨_, ?_, .ro (.int x), rfl⟩
        simp [lopB, lp2, hl, hb, cnt_snoc, most8 h])
    subst hρ
    exact ⟨z, e⟩
  obtain ⟨z6, eloop⟩ := loop _ rfl
  have lp3 : ∀ (m : D),
      lcLoop (lcB (Cf (k + 9)) (.var 6) (.nm 6) (some (.cmp .NotIn (.var 6) (.call "shown" [.var 0] [] [0])))) ((shownF q).map .int) [.ro (tI p), .ro (tI q), .ro (.lst ((allP n).map tI)), .own (.lst ((rowsF p q).map tI)), .ro (.tup [aheadF p q, .int (cntF p q)]), .ro m, .un, .un, .un] = some ((missF p q).map .int, [.ro (tI p), .ro (tI q), .ro (.lst ((allP n).map tI)), .own (.lst ((rowsF p q).map tI)), .ro (.tup [aheadF p q, .int (cntF p q)]), .ro m, .un, .un, .un]) := by
    intro m
    rw [← miss2]
    refine lcLoop_filter fun x hx => ?_
    by_cases e : x ∈ shownF p
    · simp [lcB, c_shown (k + 2) h, permute, permV, e]
    · simp [lcB, c_shown (k + 2) h, permute, permV, e]
  have lp4 : ∀ (z : Sl) (m f : D),
      lcLoop (lcB (Cf (k + 9)) (.var 8) (.nm 8) (some (.cmp .NotEq (.call "behind" [.var 8, .var 0] [] [0, 1]) (.var 1)))) (((rowsF p q).map tI).take 5) [.ro (tI p), .ro (tI q), .ro (.lst ((allP n).map tI)), .own (.lst ((rowsF p q).map tI)), .ro (.tup [aheadF p q, .int (cntF p q)]), .ro m, z, .ro f, .un] = some ([], [.ro (tI p), .ro (tI q), .ro (.lst ((allP n).map tI)), .own (.lst ((rowsF p q).map tI)), .ro (.tup [aheadF p q, .int (cntF p q)]), .ro m, z, .ro f, .un]) := by
    intro z m f
    have : ((rowsF p q).take 5).filter (fun _ => false) = [] := by simp
    rw [← List.map_take, show ([] : List D) = (((rowsF p q).take 5).filter (fun _ => false)).map tI by simp]
    refine lcLoop_filter fun a ha => ?_
    obtain ⟨h1, h2⟩ := hmem a (List.mem_of_mem_take ha)
    simp [lcB, c_behind (k + 1) h1 h, permute, permV, h2]
  have hsame : ∀ {x : D}, x = .tup [aheadF p q, .int (cntF p q)] → (Cf (k + 9)).call "_law_same" [.ro x, .ro x] = some (.val (.bl true), [.ro x, .ro x]) := by
    rintro x rfl
    refine same_tup (k + 8) (by simp) fun x hx => ?_
    rcases List.mem_cons.mp hx with rfl | hx
    · unfold aheadF
      split
      · exact same_t (k + 6) (n := n) (by rw [List.length_map, h'.1]; exact h.2.2.1)
      · exact same_non (k + 7)
    · rw [List.mem_singleton.mp hx]
      exact same_int (k + 7) _
  have hm5 : min 5 (rowsF p q).length ≤ most := w_most (by omega)
  have hm6 : (rowsF p q).length ≤ most := w_most (by omega)
  have hlen := rows_len p q
  have hsh := shown_len h'
  have hem := rows_empty p q
  have fin : ∀ b : Bool, (b != !(!b)) = false := by decide
  rcases hs with rfl | rfl
  · simp [hall, lp1, ↓due1, hlen, permute, permV, c_ahead (k + 1) h h', c_count (k + 1) h h', hsame, eloop, c_shown (k + 2) h', hsh, lp3, lp4, hm5, hm6, hem]
  · simp [hall, lp1, ↓due1, hlen, permute, permV, c_ahead (k + 1) h h', c_count (k + 1) h h', hsame, eloop, c_shown (k + 2) h', hsh, lp3, lp4, hm5, hm6, hem]
end K30

namespace K30
open PV
/-! ### drawing -/
structure W where
  a : Int
  b : Int
  c : Int
def wD (s : W) : D := .lst [.int s.a, .int s.b, .int s.c]
def WOk (s : W) : Prop := 0 ≤ s.a ∧ 0 ≤ s.b ∧ s.b < 2147483563
theorem c_take (k : Nat) {s : W} {n : Int} (h : WOk s) (h0 : 0 < n) (h1 : n < 1073741824) : ∃ r s', 0 ≤ r ∧ r < n ∧ WOk s' ∧ (Cf (k + 1)).call "_law_take" [.own (wD s), .ro (.int n)] = some (.val (.int r), [.own (wD s'), .ro (.int n)]) := by
  obtain ⟨a, b, c⟩ := s
  obtain ⟨ha, hb, hb2⟩ := h
  dsimp only at ha hb hb2
  by_cases z : 0 < a
  · refine ⟨a % n, ⟨a / n, b, c⟩, Int.emod_nonneg _ (by omega), Int.emod_lt_of_pos _ h0, ⟨Int.ediv_nonneg ha (by omega), hb, hb2⟩, ?_⟩
    rw [call_of (d := d33) (by kernel_rfl), f33]
    simp [wD, L2.atI, L2.ixN, z, h0, h1]
  · have m1 : R64 (b % 28657 + 40009) := r64 (by omega) (by omega)
    have m2 : R64 50023 := r64 (by omega) (by omega)
    refine ⟨((b * (b % 28657 + 40009) + 50023 * (c + 1) + 17) % 2147483563 / 83) % n, ⟨a, (b * (b % 28657 + 40009) + 50023 * (c + 1) + 17) % 2147483563, c + 1⟩, Int.emod_nonneg _ (by omega), Int.emod_lt_of_pos _ h0, ⟨ha, Int.emod_nonneg _ (by omega), Int.emod_lt_of_pos _ (by omega)⟩, ?_⟩
    rw [call_of (d := d33) (by kernel_rfl), f33]
    simp [wD, L2.atI, L2.ixN, z, h0, h1, m1, m2]

theorem c_pick (k : Nat) {s : W} {xs : List Int} (h : WOk s) (h0 : xs ≠ []) (h1 : xs.length ≤ 1000) : ∃ x s', x ∈ xs ∧ WOk s' ∧ (Cf (k + 2)).call "_law_pick" [.own (wD s), .own (.lst (xs.map .int))] = some (.val (.int x), [.own (wD s'), .own (.lst (xs.map .int))]) := by
  have hl : 0 < xs.length := List.length_pos_iff.mpr h0
  obtain ⟨r, s', r0, r1, hs, e⟩ := c_take k (n := (xs.length : Int)) h (by omega) (by omega)
  have hr : r.toNat < xs.length := by omega
  refine ⟨xs[r.toNat], s', List.getElem_mem hr, hs, ?_⟩
  rw [call_of (d := d34) (by kernel_rfl), f34]
  have ha : L2.atI (xs.map D.int) r = some (.int xs[r.toNat]) := atI_of r0 (by simp [hr])
  simp [permute, permV, e, ha]
theorem erase_map {α β : Type} (f : α → β) : ∀ (l : List α) (i : Nat), (l.map f).eraseIdx i = (l.eraseIdx i).map f
  | [], _ => rfl
  | _ :: _, 0 => rfl
  | x :: l, i + 1 => by
    show f x :: (l.map f).eraseIdx i = f x :: (l.eraseIdx i).map f
    rw [erase_map f l i]
theorem order_step (k : Nat) {s : W} {n : Int} {l f : List Int} (h : WOk s) (hl : l ≠ []) (hl2 : l.length ≤ 100) (hf : f.length ≤ 100) : ∃ r s', r < l.length ∧ WOk s' ∧
    execs (Cf (k + 1)) 2 [.ex (.app 3 (.popi 2 (.call "_law_take" [.var 0, .blt .len [.var 2]] [] [0, 1])))] [.own (wD s), .ro (.int n), .own (.lst (l.map .int)), .own (.lst (f.map .int))] =
      some (.nx, [.own (wD s'), .ro (.int n), .own (.lst ((l.eraseIdx r).map .int)), .own (.lst ((f ++ [l[r]?.getD 0]).map .int))]) := by
  have hp : 0 < l.length := List.length_pos_iff.mpr hl
  obtain ⟨r, s', r0, r1, hs, e⟩ := c_take k (n := (l.length : Int)) h (by omega) (by omega)
  have hr : r.toNat < l.length := by omega
  have hm : f.length < most := Nat.lt_of_le_of_lt hf (by decide : 100 < 16000000)
  refine ⟨r.toNat, s', hr, hs, ?_⟩
  have hk : P63 r := p63 r0 (by omega)
  simp [permute, permV, e, hr, hm, hk]
  exact erase_map D.int l r.toNat
theorem c_order (k : Nat) {s : W} {n : Nat} (h : WOk s) (h1 : 1 ≤ n) (h8 : n ≤ 8) : ∃ p s', Pl n p ∧ WOk s' ∧ (Cf (k + 2)).call "_law_order" [.own (wD s), .ro (.int n)] = some (.val (tI p), [.own (wD s'), .ro (.int n)]) := by
  rw [call_of (d := d37) (by kernel_rfl), f37]
  have hr : R62 (n : Int) := r62 (by omega) (by omega)
  have hm : n ≤ most := w_most (by omega)
  have start : (List.range n).map (fun (i : Nat) => D.int i) = ((List.range n).map fun (i : Nat) => (i : Int)).map .int := by simp
  obtain ⟨ρ, e, s', f, hs, hf, hb, hρ⟩ := while_nx (c := tst (Cf (k + 1)) (.cmp .NotEq (.var 2) (.lst []))) (f := execs (Cf (k + 1)) 2 [.ex (.app 3 (.popi 2 (.call "_law_take" [.var 0, .blt .len [.var 2]] [] [0, 1])))])
    (I := fun m ρ => ∃ (s : W) (l f : List Int), WOk s ∧ l.length = m ∧ l.length + f.length = n ∧ (∀ x ∈ l ++ f, 0 ≤ x ∧ x < (n : Int)) ∧ ρ = [.own (wD s), .ro (.int n), .own (.lst (l.map .int)), .own (.lst (f.map .int))])
    (Z := fun ρ => ∃ (s : W) (f : List Int), WOk s ∧ f.length = n ∧ (∀ x ∈ f, 0 ≤ x ∧ x < (n : Int)) ∧ ρ = [.own (wD s), .ro (.int n), .own (.lst []), .own (.lst (f.map .int))])
    (fun m ρ ⟨s, l, f, hs, hl, hlf, hb, hρ⟩ => by
      subst hρ
      cases l with
      | nil => exact .inl ⟨_, by simp, s, f, hs, by simpa using hlf, fun x hx => hb x (by simpa using hx), rfl⟩
      | cons x l =>
        obtain ⟨r, s2, hr, hs2, e⟩ := order_step k (n := n) (l := x :: l) (f := f) hs (by simp) (by omega) (by omega)
        have hg : (x :: l)[r]?.getD 0 = (x :: l)[r] := by rw [List.getElem?_eq_getElem hr]; rfl
        rw [hg] at e
        refine .inr ⟨[.own (wD s), .ro (.int n), .own (.lst ((x :: l).map .int)), .own (.lst (f.map .int))], _, ((x :: l).eraseIdx r).length, ?_, e, ?_, s2, (x :: l).eraseIdx r, f ++ [(x :: l)[r]], hs2, rfl, ?_, fun y hy => ?_, rfl⟩
        · have := nil_i (x :: l)
          simp at this
          simp [this]
        · rw [List.length_eraseIdx_of_lt hr]
          have : 0 < (x :: l).length := by simp
          omega
        · rw [List.length_eraseIdx_of_lt hr, List.length_append, List.length_singleton]
          have : 0 < (x :: l).length := by simp
          omega
        · rcases List.mem_append.mp hy with hy | hy
          · exact hb y (List.mem_append_left _ (List.mem_of_mem_eraseIdx hy))
          · rcases List.mem_append.mp hy with hy | hy
            · exact hb y (List.mem_append_right _ hy)
            · rw [List.mem_singleton.mp hy]
              exact hb _ (List.mem_append_left _ (List.getElem_mem hr)))
    100 n [.own (wD s), .ro (.int n), .own (.lst (((List.range n).map fun (i : Nat) => (i : Int)).map .int)), .own (.lst (([] : List Int).map .int))]
    ⟨s, (List.range n).map fun (i : Nat) => (i : Int), [], h, by simp, by simp, fun x hx => by
      obtain ⟨i, hi, rfl⟩ : ∃ i, i < n ∧ (i : Int) = x := by simpa using hx
      omega, rfl⟩ (by omega)
  subst hρ
  have e2 : whileLoop (tst (Cf (k + 1)) (.cmp .NotEq (.var 2) (.lst []))) (execs (Cf (k + 1)) 2 [.ex (.app 3 (.popi 2 (.call "_law_take" [.var 0, .blt .len [.var 2]] [] [0, 1])))]) (Cf (k + 1)).fuel
      [.own (wD s), .ro (.int n), .own (.lst ((List.range n).map fun (i : Nat) => D.int i)), .own (.lst [])] = some (.nx, [.own (wD s'), .ro (.int n), .own (.lst []), .own (.lst (f.map .int))]) := by rw [start]; exact e
  refine ⟨f, s', ⟨hf, h1, h8, hb⟩, hs, ?_⟩
  simp [hr, hm, e2]
/-- a row of draws -/
theorem draws (k : Nat) {n : Int} (h0 : 0 < n) (h1 : n < 1073741824) {s : W} (h : WOk s) (x2 x3 x4 x5 x7 x8 : Sl) (m : Nat) : ∃ (l : List Int) (s' : W), WOk s' ∧ l.length = m ∧ (∀ x ∈ l, 0 ≤ x ∧ x < n) ∧
    lcLoop (lcB (Cf (k + 1)) (.call "_law_take" [.var 0, .var 1] [] [0, 1]) (.nm 6) none) ((List.range m).map fun (i : Nat) => D.int i) [.own (wD s), .ro (.int n), x2, x3, x4, x5, .un, x7, x8] = some (l.map .int, [.own (wD s'), .ro (.int n), x2, x3, x4, x5, .un, x7, x8]) := by
  obtain ⟨l, ρ, e, ⟨s', hs, hρ⟩, hl, hb⟩ := lcLoop_draw (f := lcB (Cf (k + 1)) (.call "_law_take" [.var 0, .var 1] [] [0, 1]) (.nm 6) none) (e := fun (i : Nat) => D.int i) (g := D.int) (xs := List.range m)
    (I := fun ρ => ∃ s, WOk s ∧ ρ = [.own (wD s), .ro (.int n), x2, x3, x4, x5, .un, x7, x8]) (P := fun x => 0 ≤ x ∧ x < n) ⟨s, h, rfl⟩ (fun i _ ρ ⟨s, hs, hρ⟩ => by
      subst hρ
      obtain ⟨r, s', r0, r1, hs', e⟩ := c_take k hs h0 h1
      refine ⟨r, _, ?_, ⟨s', hs', rfl⟩, r0, r1⟩
      simp [permute, permV, e])
  subst hρ
  exact ⟨l, s', hs, by rw [hl, List.length_range], hb, e⟩
theorem c_plan (k : Nat) {s : W} {n : Nat} (h : WOk s) (h1 : 1 ≤ n) (h8 : n ≤ 8) : ∃ p s', Pl n p ∧ WOk s' ∧ (Cf (k + 3)).call "_law_plan" [.own (wD s), .ro (.int n)] = some (.val (tI p), [.own (wD s'), .ro (.int n)]) := by
  have hr : R62 (n : Int) := r62 (by omega) (by omega)
  have hm : n ≤ most := w_most (by omega)
  rw [call_of (d := d38) (by kernel_rfl), f38]
  obtain ⟨way, s1, w0, w1, hs1, ew⟩ := c_take (k + 1) (n := 6) h (by decide) (by decide)
  have cases6 : way = 0 ∨ way = 1 ∨ way = 2 ∨ way = 3 ∨ way = 4 ∨ way = 5 := by omega
  by_cases z : way = 0
  · subst z
    obtain ⟨p, s2, hp, hs2, e⟩ := c_order k hs1 h1 h8
    refine ⟨p, s2, hp, hs2, ?_⟩
    simp [permute, permV, ew, e]
  · obtain ⟨l, s2, hs2, hl, hb, el⟩ := draws (k + 1) (n := (n : Int)) (by omega) (by omega) hs1 (.ro (.int way)) .un .un .un .un .un n
    have hlm : l.length ≤ most := by rw [hl]; exact hm
    have hlne : l ≠ [] := by intro z; rw [z] at hl; simp at hl; omega
    rcases cases6 with e | e | e | e | e | e <;> subst e
    · exact absurd rfl z
    · -- few
      obtain ⟨t, s3, t0, t1, hs3, et⟩ := c_take (k + 1) (n := 3) hs2 (by decide) (by decide)
      obtain ⟨few, s4, hs4, hfl, hfb, ef⟩ := draws (k + 1) (n := (n : Int)) (by omega) (by omega) hs3 (.ro (.int 1)) (.own (.lst (l.map .int))) .un .un .un .un (1 + t).toNat
      have hrt : R62 (1 + t) := r62 (by omega) (by omega)
      have htm : (1 + t).toNat ≤ most := w_most (by omega)
      have hfne : few ≠ [] := by intro z; rw [z] at hfl; simp at hfl; omega
      obtain ⟨p, ρ, e, ⟨s', hs, hρ⟩, hpl, hpb⟩ := lcLoop_draw (f := lcB (Cf (k + 2)) (.call "_law_pick" [.var 0, .var 4] [] [0, 1]) (.nm 7) none) (e := D.int) (g := D.int) (xs := l)
        (ρ := [.own (wD s4), .ro (.int n), .ro (.int 1), .ro (.lst (l.map .int)), .own (.lst (few.map .int)), .un, .un, .un, .un])
        (I := fun ρ => ∃ s, WOk s ∧ ρ = [.own (wD s), .ro (.int n), .ro (.int 1), .ro (.lst (l.map .int)), .own (.lst (few.map .int)), .un, .un, .un, .un]) (P := fun x => 0 ≤ x ∧ x < (n : Int)) ⟨s4, hs4, rfl⟩ (fun i _ ρ ⟨s, hs, hρ⟩ => by
          subst hρ
          obtain ⟨x, s', hx, hs', e⟩ := c_pick k hs hfne (by omega)
          refine ⟨x, _, ?_, ⟨s', hs', rfl⟩, hfb x hx⟩
          simp [permute, permV, e])
      subst hρ
      refine ⟨p, s', ⟨by rw [hpl, hl], h1, h8, hpb⟩, hs, ?_⟩
      simp [permute, permV, ew, hr, hm, el, et, hrt, htm, ef, hlm, e]
    · refine ⟨isort l, s2, ⟨by rw [(isort_perm l).length_eq, hl], h1, h8, fun x hx => hb x ((isort_perm l).mem_iff.mp hx)⟩, hs2, ?_⟩
      simp [permute, permV, ew, hr, hm, el]
    · -- seen
      have hd : (dedup l).length < 64 := by have := dedup_len l; omega
      have hl1 : l.length ≤ 1000 := by omega
      have hsb : ∀ x ∈ isort (dedup l), 0 ≤ x ∧ x < (n : Int) := fun x hx => hb x ((dedup_mem l).mp ((isort_perm _).mem_iff.mp hx))
      have hsne : isort (dedup l) ≠ [] := fun z => by
        obtain ⟨x, hx⟩ := List.exists_mem_of_ne_nil _ hlne
        have : x ∈ isort (dedup l) := (isort_perm _).mem_iff.mpr ((dedup_mem l).mpr hx)
        rw [z] at this
        cases this
      have hsl : (isort (dedup l)).length ≤ 1000 := by rw [(isort_perm _).length_eq]; omega
      obtain ⟨p, ρ, e, ⟨s', hs, hρ⟩, hpl, hpb⟩ := lcLoop_draw (f := lcB (Cf (k + 2)) (.ife (.cmp .In (.var 8) (.var 5)) (.var 8) (.call "_law_pick" [.var 0, .var 5] [] [0, 1])) (.nm 8) none) (e := fun (i : Nat) => D.int i) (g := D.int) (xs := List.range n)
        (ρ := [.own (wD s2), .ro (.int n), .ro (.int 3), .own (.lst (l.map .int)), .un, .own (.lst ((isort (dedup l)).map .int)), .un, .un, .un])
        (I := fun ρ => ∃ s, WOk s ∧ ρ = [.own (wD s), .ro (.int n), .ro (.int 3), .own (.lst (l.map .int)), .un, .own (.lst ((isort (dedup l)).map .int)), .un, .un, .un]) (P := fun x => 0 ≤ x ∧ x < (n : Int)) ⟨s2, hs2, rfl⟩ (fun i hi ρ ⟨s, hs, hρ⟩ => by
          subst hρ
          have hi := List.mem_range.mp hi
          by_cases hin : (i : Int) ∈ isort (dedup l)
          · refine ⟨i, _, ?_, ⟨s, hs, rfl⟩, by omega, by omega⟩
            simp [hin]
          · obtain ⟨x, s', hx, hs', e⟩ := c_pick k hs hsne hsl
            refine ⟨x, _, ?_, ⟨s', hs', rfl⟩, hsb x hx⟩
            simp [permute, permV, hin, e])
      subst hρ
      refine ⟨p, s', ⟨by rw [hpl, List.length_range], h1, h8, hpb⟩, hs, ?_⟩
      simp [permute, permV, ew, hr, hm, el, hl1, hd, e]
    · obtain ⟨p, ρ, e, ⟨s', hs, hρ⟩, hpl, hpb⟩ := lcLoop_draw (f := lcB (Cf (k + 2)) (.ife (.cmp .Gt (.call "_law_take" [.var 0, .con (.int 3)] [] [0, 1]) (.con (.int 0))) (.var 8) (.ix (.var 3) (.var 8))) (.nm 8) none) (e := fun (i : Nat) => D.int i) (g := D.int) (xs := List.range n)
        (ρ := [.own (wD s2), .ro (.int n), .ro (.int 4), .own (.lst (l.map .int)), .un, .un, .un, .un, .un])
        (I := fun ρ => ∃ s, WOk s ∧ ρ = [.own (wD s), .ro (.int n), .ro (.int 4), .own (.lst (l.map .int)), .un, .un, .un, .un, .un]) (P := fun x => 0 ≤ x ∧ x < (n : Int)) ⟨s2, hs2, rfl⟩ (fun i hi ρ ⟨s, hs, hρ⟩ => by
          subst hρ
          have hi := List.mem_range.mp hi
          obtain ⟨r, s', r0, r1, hs', e⟩ := c_take (k + 1) (n := 3) hs (by decide) (by decide)
          by_cases hz : 0 < r
          · refine ⟨i, _, ?_, ⟨s', hs', rfl⟩, by omega, by omega⟩
            simp [permute, permV, e, hz]
          · have hli : i < l.length := by omega
            have ha : L2.atI (l.map D.int) (i : Int) = some (.int l[i]) := atI_of (i := (i : Int)) (by omega) (by simp [hli])
            refine ⟨l[i], _, ?_, ⟨s', hs', rfl⟩, hb _ (List.getElem_mem hli)⟩
            simp [permute, permV, e, hz, ha])
      subst hρ
      refine ⟨p, s', ⟨by rw [hpl, List.length_range], h1, h8, hpb⟩, hs, ?_⟩
      simp [permute, permV, ew, hr, hm, el, e]
    · refine ⟨l, s2, ⟨hl, h1, h8, hb⟩, hs2, ?_⟩
      simp [permute, permV, ew, hr, hm, el]
end K30

namespace K30
open PV
theorem then_pl {n : Nat} {p q : List Int} (h : Pl n p) (h' : Pl n q) : Pl n (thenF q p) := by
  refine ⟨by unfold thenF; rw [List.length_map, h'.1], h.2.1, h.2.2.1, fun x hx => ?_⟩
  obtain ⟨y, hy, rfl⟩ := List.mem_map.mp hx
  obtain ⟨y0, y1⟩ := h'.2.2.2 y hy
  have hl : y.toNat < p.length := by rw [h.1]; omega
  rw [List.getElem?_eq_getElem hl]
  exact h.2.2.2 _ (List.getElem_mem hl)
theorem c_well (k : Nat) {ns : List Int} {t : Nat} (hl : ns.length ≤ 63) (ht : t ≤ 2) : ∃ s, WOk s ∧ (Cf (k + 1)).call "_law_well" [.ro (.scr ns), .ro (.int t)] = some (.fr (wD s), [.ro (.scr ns), .ro (.int t)]) := by
  rw [call_of (d := d32) (by kernel_rfl), f32]
  have m1 : R64 9311 := r64 (by omega) (by omega)
  have m2 : R64 1013 := r64 (by omega) (by omega)
  have m3 : R64 45013 := r64 (by omega) (by omega)
  have hm : min 5 ns.length + 1 ≤ most := w_most (by omega)
  -- own
  have own : ∃ o : Int, ∀ x2 x3 x4 : Sl, ev (Cf k) (.ife (.cmp .Lt (.var 1) (.blt .len [.var 0])) (.blt .int [.ix (.var 0) (.var 1)]) (.bin .Add (.bin .Add (.bin .Mult (.con (.int 9311)) (.var 1)) (.bin .Mod (.blt .int [.blt .sum [.slc (.var 0) none (some (.con (.int 2)))]]) (.con (.int 1000003)))) (.con (.int 71))))
      [.ro (.scr ns), .ro (.int t), x2, x3, x4] = some (.val (.int o), [.ro (.scr ns), .ro (.int t), x2, x3, x4]) := by
    by_cases h : t < ns.length
    · refine ⟨ns[t], fun x2 x3 x4 => ?_⟩
      have ha : L2.atI ns (t : Int) = some ns[t] := atI_of (i := (t : Int)) (by omega) (by simp [h])
      simp [h, ha]
    · refine ⟨9311 * t + (ns.take 2).sum % 1000003 + 71, fun x2 x3 x4 => ?_⟩
      have hs : bltD .sum [.lst (List.take 2 (ns.map D.int))] = some (.val (.int (ns.take 2).sum)) := by rw [← List.map_take, b_sum1]
      simp [h, m1, hs]
  obtain ⟨o, eo⟩ := own
  obtain ⟨ρ, e, b, z, hb0, hb1, hρ⟩ := forLoop_nx (f := lopB (Cf k) 2 (.nm 4) [.asg 3 (.bin .Mod (.blt .int [.bin .Add (.bin .Add (.bin .Mult (.var 3) (.con (.int 45013))) (.bin .Mod (.blt .int [.var 4]) (.con (.int 2147483399)))) (.con (.int 37))]) (.con (.int 2147483563)))]) (e := D.int) (xs := ns.take 5 ++ [o]) (done := [])
    (ρ := [.ro (.scr ns), .ro (.int t), .ro (.int o), .ro (.int (50021 + 1013 * t)), .un]) (I := fun _ ρ => ∃ b z, 0 ≤ b ∧ b < 2147483563 ∧ ρ = [.ro (.scr ns), .ro (.int t), .ro (.int o), .ro (.int b), z]) ⟨50021 + 1013 * t, .un, by omega, by omega, rfl⟩ (fun x hx done ρ ⟨b, z, hb0, hb1, hρ⟩ => by
      subst hρ
      refine ⟨_, ?_, (b * 45013 + x % 2147483399 + 37) % 2147483563, .ro (.int x), Int.emod_nonneg _ (by omega), Int.emod_lt_of_pos _ (by omega), rfl⟩
      simp [m3])
  subst hρ
  have e2 : forLoop (lopB (Cf k) 2 (.nm 4) [.asg 3 (.bin .Mod (.blt .int [.bin .Add (.bin .Add (.bin .Mult (.var 3) (.con (.int 45013))) (.bin .Mod (.blt .int [.var 4]) (.con (.int 2147483399)))) (.con (.int 37))]) (.con (.int 2147483563)))]) (List.take 5 (ns.map D.int) ++ [.int o])
      [.ro (.scr ns), .ro (.int t), .ro (.int o), .ro (.int (50021 + 1013 * t)), .un] = some (.nx, [.ro (.scr ns), .ro (.int t), .ro (.int o), .ro (.int b), z]) := by
    rw [← List.map_take, show [D.int o] = [o].map D.int from rfl, ← List.map_append]
    exact e
  by_cases ho : o < 0
  · refine ⟨⟨-o, b, 0⟩, ⟨by show 0 ≤ -o; omega, hb0, hb1⟩, ?_⟩
    simp [↓eo, m2, hm, e2, ho, wD]
  · by_cases ho2 : 100000000000000000 ≤ o
    · refine ⟨⟨o, b, 0⟩, ⟨by show 0 ≤ o; omega, hb0, hb1⟩, ?_⟩
      simp [↓eo, m2, hm, e2, ho, ho2, wD]
    · refine ⟨⟨0, b, 0⟩, ⟨by show (0:Int) ≤ 0; omega, hb0, hb1⟩, ?_⟩
      simp [↓eo, m2, hm, e2, ho, ho2, wD]
/-- two plans are drawn and asked -/
theorem half (k : Nat) {n : Nat} (h1 : 1 ≤ n) (h4 : n ≤ 4) {sl : Nat} (hsl : (n = 3 ∧ sl = 4) ∨ (n = 4 ∧ sl = 5)) {w : W} (h : WOk w) (x0 x1 x2 x3 x7 x8 : Sl) : ∃ p q w', WOk w' ∧
    ∀ ss, execs (Cf (k + 10)) 1 (.unp [.nm 2, .nm 8] (.tup [.call "_law_plan" [.var 6, .con (.int n)] [] [0, 1], .call "_law_plan" [.var 6, .con (.int n)] [] [0, 1]]) ::
        .ite (.bop false (.not (.tru (.call "_law_is_right" [.var 2, .var 8, .var sl] [] [0, 1, 2]))) (.not (.tru (.call "_law_is_right" [.var 2, .call "_law_then" [.var 8, .var 2] [] [0, 1], .var sl] [] [0, 1, 2])))) [.ret (.con (.bl false))] [] :: ss)
      [x0, x1, x2, x3, .ro (.lst ((allP 3).map tI)), .ro (.lst ((allP 4).map tI)), .own (wD w), x7, x8] =
      execs (Cf (k + 10)) 1 ss [x0, x1, .ro (tI p), x3, .ro (.lst ((allP 3).map tI)), .ro (.lst ((allP 4).map tI)), .own (wD w'), x7, .ro (tI q)] := by
  obtain ⟨p, w1, hp, hw1, e1⟩ := c_plan (k + 7) (n := n) h h1 (by omega)
  obtain ⟨q, w2, hq, hw2, e2⟩ := c_plan (k + 7) (n := n) hw1 h1 (by omega)
  refine ⟨p, q, w2, hw2, fun ss => ?_⟩
  have r1 := c_right k hp hq h4 (s := .ro (.lst ((allP n).map tI))) (.inl rfl)
  have r2 := c_right k hp (then_pl hp hq) h4 (s := .ro (.lst ((allP n).map tI))) (.inl rfl)
  have t1 := c_then (k + 9) hq hp
  rcases hsl with ⟨rfl, rfl⟩ | ⟨rfl, rfl⟩
  · have e1' : (Cf (k + 10)).call "_law_plan" [.own (wD w), .ro (.int 3)] = some (.val (tI p), [.own (wD w1), .ro (.int 3)]) := e1
    have e2' : (Cf (k + 10)).call "_law_plan" [.own (wD w1), .ro (.int 3)] = some (.val (tI q), [.own (wD w2), .ro (.int 3)]) := e2
    simp [permute, permV, e1', e2', r1, r2, t1]
  · have e1' : (Cf (k + 10)).call "_law_plan" [.own (wD w), .ro (.int 4)] = some (.val (tI p), [.own (wD w1), .ro (.int 4)]) := e1
    have e2' : (Cf (k + 10)).call "_law_plan" [.own (wD w1), .ro (.int 4)] = some (.val (tI q), [.own (wD w2), .ro (.int 4)]) := e2
    simp [permute, permV, e1', e2', r1, r2, t1]
end K30

namespace K30
open PV
theorem run_law (ns : List Int) (h : ns.length ≤ 63) : ∃ fs, (cfg pg 100 40).call "law" [.ro (.scr ns)] = some (.val (.bl true), fs) := by
  show ∃ fs, (Cf (29 + 11)).call "law" [.ro (.scr ns)] = some (.val (.bl true), fs)
  generalize 29 = k
  rw [call_of (d := d41) (by kernel_rfl), f41]
  -- the plans of two villages
  have lpi : ∀ p ∈ allP 2, lcLoop (lcB (Cf (k + 10)) (.var 8) (.nm 8) (some (.not (.tru (.call "_law_is_right" [.var 2, .var 8, .var 1] [] [0, 1, 2]))))) ((allP 2).map tI) [.ro (.scr ns), .ro (.lst ((allP 2).map tI)), .ro (tI p), .un, .un, .un, .un, .un, .un] =
      some ([], [.ro (.scr ns), .ro (.lst ((allP 2).map tI)), .ro (tI p), .un, .un, .un, .un, .un, .un]) := fun p hp => by
    have hpl := all_pl (n := 2) (by decide) (by decide) hp
    have := lcLoop_filter (f := lcB (Cf (k + 10)) (.var 8) (.nm 8) (some (.not (.tru (.call "_law_is_right" [.var 2, .var 8, .var 1] [] [0, 1, 2]))))) (e := tI) (g := tI) (p := fun _ => false) (xs := allP 2)
      (ρ := [.ro (.scr ns), .ro (.lst ((allP 2).map tI)), .ro (tI p), .un, .un, .un, .un, .un, .un]) (fun q hq => by
        have hql := all_pl (n := 2) (by decide) (by decide) hq
        have r := c_right k hpl hql (by decide) (s := .ro (.lst ((allP 2).map tI))) (.inl rfl)
        simp [permute, permV, r])
    rw [List.filter_eq_nil_iff.mpr (by simp)] at this
    exact this
  have hm2 : (allP 2).length ≤ most := w_most (by have := all_len (n := 2) (by decide); omega)
  obtain ⟨ρ, e1, z, hρ⟩ := forLoop_nx (f := lopB (Cf (k + 10)) 1 (.nm 2) [.ite (.cmp .NotEq (.lc (.var 8) (.nm 8) (.ovr (.var 1)) (some (.not (.tru (.call "_law_is_right" [.var 2, .var 8, .var 1] [] [0, 1, 2]))))) (.lst [])) [.ret (.con (.bl false))] []]) (e := tI) (xs := allP 2) (done := [])
    (ρ := [.ro (.scr ns), .ro (.lst ((allP 2).map tI)), .un, .un, .un, .un, .un, .un, .un]) (I := fun _ ρ => ∃ z, ρ = [.ro (.scr ns), .ro (.lst ((allP 2).map tI)), z, .un, .un, .un, .un, .un, .un]) ⟨.un, rfl⟩ (fun p hp done ρ ⟨z, hρ⟩ => by
      subst hρ
      refine ⟨_, ?_, .ro (tI p), rfl⟩
      simp [hm2, lpi p hp])
  subst hρ
  -- the turns
  have turns : ∀ (m : Nat), m ≤ 3 → ∃ x2 x3 x6 x7 x8, forLoop (lopB (Cf (k + 10)) 1 (.nm 3) [.asg 6 (.call "_law_well" [.var 0, .var 3] [] [0, 1]), .lop (.nm 7) (.rng [.con (.int 8)]) [.unp [.nm 2, .nm 8] (.tup [.call "_law_plan" [.var 6, .con (.int 3)] [] [0, 1], .call "_law_plan" [.var 6, .con (.int 3)] [] [0, 1]]), .ite (.bop false (.not (.tru (.call "_law_is_right" [.var 2, .var 8, .var 4] [] [0, 1, 2]))) (.not (.tru (.call "_law_is_right" [.var 2, .call "_law_then" [.var 8, .var 2] [] [0, 1], .var 4] [] [0, 1, 2])))) [.ret (.con (.bl false))] [], .unp [.nm 2, .nm 8] (.tup [.call "_law_plan" [.var 6, .con (.int 4)] [] [0, 1], .call "_law_plan" [.var 6, .con (.int 4)] [] [0, 1]]), .ite (.bop false (.not (.tru (.call "_law_is_right" [.var 2, .var 8, .var 5] [] [0, 1, 2]))) (.not (.tru (.call "_law_is_right" [.var 2, .call "_law_then" [.var 8, .var 2] [] [0, 1], .var 5] [] [0, 1, 2])))) [.ret (.con (.bl false))] []]])
      ((List.range m).map fun (i : Nat) => D.int i) [.ro (.scr ns), .ro (.lst ((allP 2).map tI)), z, .un, .ro (.lst ((allP 3).map tI)), .ro (.lst ((allP 4).map tI)), .un, .un, .un] = some (.nx, [.ro (.scr ns), .ro (.lst ((allP 2).map tI)), x2, x3, .ro (.lst ((allP 3).map tI)), .ro (.lst ((allP 4).map tI)), x6, x7, x8]) := fun m hm => by
    obtain ⟨ρ, e, x2, x3, x6, x7, x8, hρ⟩ := forLoop_at (f := lopB (Cf (k + 10)) 1 (.nm 3) [.asg 6 (.call "_law_well" [.var 0, .var 3] [] [0, 1]), .lop (.nm 7) (.rng [.con (.int 8)]) [.unp [.nm 2, .nm 8] (.tup [.call "_law_plan" [.var 6, .con (.int 3)] [] [0, 1], .call "_law_plan" [.var 6, .con (.int 3)] [] [0, 1]]), .ite (.bop false (.not (.tru (.call "_law_is_right" [.var 2, .var 8, .var 4] [] [0, 1, 2]))) (.not (.tru (.call "_law_is_right" [.var 2, .call "_law_then" [.var 8, .var 2] [] [0, 1], .var 4] [] [0, 1, 2])))) [.ret (.con (.bl false))] [], .unp [.nm 2, .nm 8] (.tup [.call "_law_plan" [.var 6, .con (.int 4)] [] [0, 1], .call "_law_plan" [.var 6, .con (.int 4)] [] [0, 1]]), .ite (.bop false (.not (.tru (.call "_law_is_right" [.var 2, .var 8, .var 5] [] [0, 1, 2]))) (.not (.tru (.call "_law_is_right" [.var 2, .call "_law_then" [.var 8, .var 2] [] [0, 1], .var 5] [] [0, 1, 2])))) [.ret (.con (.bl false))] []]])
      (e := fun (i : Nat) => D.int i) (xs := List.range m) (n := 0) (ρ := [.ro (.scr ns), .ro (.lst ((allP 2).map tI)), z, .un, .ro (.lst ((allP 3).map tI)), .ro (.lst ((allP 4).map tI)), .un, .un, .un])
      (I := fun _ ρ => ∃ x2 x3 x6 x7 x8, ρ = [.ro (.scr ns), .ro (.lst ((allP 2).map tI)), x2, x3, .ro (.lst ((allP 3).map tI)), .ro (.lst ((allP 4).map tI)), x6, x7, x8]) ⟨z, .un, .un, .un, .un, rfl⟩ (fun i t ht ρ ⟨x2, x3, x6, x7, x8, hρ⟩ => by
        subst hρ
        have hti : t < m := by
          obtain ⟨h1, h2⟩ := List.getElem?_eq_some_iff.mp ht
          rw [List.getElem_range] at h2
          rw [List.length_range] at h1
          omega
        obtain ⟨s, hs, ew⟩ := c_well (k + 9) (ns := ns) (t := t) h (by omega)
        obtain ⟨ρ, e, s', y2, y7, y8, hs', hρ⟩ := forLoop_nx (f := lopB (Cf (k + 10)) 1 (.nm 7) [.unp [.nm 2, .nm 8] (.tup [.call "_law_plan" [.var 6, .con (.int 3)] [] [0, 1], .call "_law_plan" [.var 6, .con (.int 3)] [] [0, 1]]), .ite (.bop false (.not (.tru (.call "_law_is_right" [.var 2, .var 8, .var 4] [] [0, 1, 2]))) (.not (.tru (.call "_law_is_right" [.var 2, .call "_law_then" [.var 8, .var 2] [] [0, 1], .var 4] [] [0, 1, 2])))) [.ret (.con (.bl false))] [], .unp [.nm 2, .nm 8] (.tup [.call "_law_plan" [.var 6, .con (.int 4)] [] [0, 1], .call "_law_plan" [.var 6, .con (.int 4)] [] [0, 1]]), .ite (.bop false (.not (.tru (.call "_law_is_right" [.var 2, .var 8, .var 5] [] [0, 1, 2]))) (.not (.tru (.call "_law_is_right" [.var 2, .call "_law_then" [.var 8, .var 2] [] [0, 1], .var 5] [] [0, 1, 2])))) [.ret (.con (.bl false))] []])
          (e := fun (i : Nat) => D.int i) (xs := List.range 8) (done := []) (ρ := [.ro (.scr ns), .ro (.lst ((allP 2).map tI)), x2, .ro (.int t), .ro (.lst ((allP 3).map tI)), .ro (.lst ((allP 4).map tI)), .own (wD s), x7, x8])
          (I := fun _ ρ => ∃ s x2 x7 x8, WOk s ∧ ρ = [.ro (.scr ns), .ro (.lst ((allP 2).map tI)), x2, .ro (.int t), .ro (.lst ((allP 3).map tI)), .ro (.lst ((allP 4).map tI)), .own (wD s), x7, x8]) ⟨s, x2, x7, x8, hs, rfl⟩ (fun j _ done ρ ⟨s, x2, x7, x8, hs, hρ⟩ => by
            subst hρ
            obtain ⟨p, q, s1, hs1, e1⟩ := half k (n := 3) (by decide) (by decide) (sl := 4) (.inl ⟨rfl, rfl⟩) hs (.ro (.scr ns)) (.ro (.lst ((allP 2).map tI))) x2 (.ro (.int t)) (.ro (.int j)) x8
            obtain ⟨p', q', s2, hs2, e2⟩ := half k (n := 4) (by decide) (by decide) (sl := 5) (.inr ⟨rfl, rfl⟩) hs1 (.ro (.scr ns)) (.ro (.lst ((allP 2).map tI))) (.ro (tI p)) (.ro (.int t)) (.ro (.int j)) (.ro (tI q))
            refine ⟨_, ?_, s2, .ro (tI p'), .ro (.int j), .ro (tI q'), hs2, rfl⟩
            rw [w_lopB]
            simp only [w_btn, List.length_cons, List.length_nil, List.set_cons_succ, List.set_cons_zero]
            rw [if_pos (by decide), w_lopB_1_some]
            refine (e1 _).trans ((e2 _).trans ?_)
            simp)
        subst hρ
        refine ⟨_, ?_, y2, .ro (.int t), .own (wD s'), y7, y8, rfl⟩
        have h8 : R62 8 := r62 (by decide) (by decide)
        simp [permute, permV, ew, h8, e])
    subst hρ
    exact ⟨x2, x3, x6, x7, x8, e⟩
  have a1 : allP 1 = [[0]] := rfl
  have p0 : Pl 1 [0] := ⟨rfl, by decide, by decide, fun x hx => by rw [List.mem_singleton.mp hx]; decide⟩
  have r0 : (Cf (k + 10)).call "_law_is_right" [.ro (.tup [.int 0]), .ro (.tup [.int 0]), .own (.lst [.tup [.int 0]])] = some (.val (.bl true), [.ro (.tup [.int 0]), .ro (.tup [.int 0]), .ro (.lst [.tup [.int 0]])]) :=
    c_right k (n := 1) p0 p0 (by decide) (s := .own (.lst ((allP 1).map tI))) (.inr rfl)
  have c2 := c_all2 (k + 9)
  have c3 := c_all3 (k + 9)
  have c4 := c_all4 (k + 9)
  have er : ∃ m : Nat, m ≤ 3 ∧ evi (Cf (k + 10)) (.rng [.blt .max [.con (.int 2), .blt .min [.blt .len [.var 0], .con (.int 3)]]]) [.ro (.scr ns), .ro (.lst ((allP 2).map tI)), z, .un, .ro (.lst ((allP 3).map tI)), .ro (.lst ((allP 4).map tI)), .un, .un, .un] =
      some ((List.range m).map fun (i : Nat) => D.int i, [.ro (.scr ns), .ro (.lst ((allP 2).map tI)), z, .un, .ro (.lst ((allP 3).map tI)), .ro (.lst ((allP 4).map tI)), .un, .un, .un]) := by
    have h2 : R62 2 := r62 (by decide) (by decide)
    have h3 : R62 3 := r62 (by decide) (by decide)
    by_cases q3 : (3 : Int) < ns.length
    · refine ⟨3, by decide, ?_⟩
      simp [q3, h3]
    · by_cases q2 : (2 : Int) < ns.length
      · refine ⟨3, by decide, ?_⟩
        have e3 : (ns.length : Int) = 3 := by omega
        simp [e3, h3]
      · refine ⟨2, by decide, ?_⟩
        simp [q3, q2, h2]
  obtain ⟨m, hm, er⟩ := er
  obtain ⟨x2, x3, x6, x7, x8, et⟩ := turns m hm
  refine ⟨[.ro (.scr ns)], ?_⟩
  simp [permute, permV, c2, c3, c4, e1, ↓er, et, r0]
end K30

open PySem PySem.W PyProof.Rows
set_option maxHeartbeats 0 in
theorem PySem.Challenge.cw_fingerposts_k30_whole_plans_ahead_beside_holds : PySem.Challenge.rw_fingerposts_k30_whole_plans_ahead_beside.Holds := by
  w_on; o_law; k_head; (case hw => w_witness2)
  k_fill
  refine L2.walk_of (l := PySem.Challenge.rw_fingerposts_k30_whole_plans_ahead_beside) (n := 63) (k := 40) (x := "script") (CX := fun _ => L2.CX0) (sp := fun w => PV.spF _ w K30.pg 100 40 "law") rfl (by decide) rfl ⟨rfl, by decide, by decide⟩ (fun w h Y => PySem.W.kIn_of Y) ?F
    (fun w H a ns hl hO hS => PV.spF_start hO hS (K30.run_law ns hl)) (fun _ _ _ _ _ h => h)
  case F =>
    intro w mg fa h KX G hmg
    refine' PV.fin_mk (n := 40) (m := 40) (fuel := 100) (ds := K30.ds) (bl := K30.bl) (law := "law") (x := "script") (glb := fun x => K30.gl.lookup x) ?hD K30.okB ?hbl ?hgl rfl hmg
    case hD =>
      refine' PV.cons_all (PV.dfOk_mk (x := "is_whole") (st := K30.topS 1) KX G ?a ?l ?c ?k) ?t; (case a => k_is); (case l => k_is); (case c => k_is); (case k => k_is)
      case t =>
      refine' PV.cons_all (PV.dfOk_mk (x := "is_between") (st := K30.topS 2) KX G ?a ?l ?c ?k) ?t; (case a => k_is); (case l => k_is); (case c => k_is); (case k => k_is)
      case t =>
      refine' PV.cons_all (PV.dfOk_mk (x := "is_tuple_of") (st := K30.topS 3) KX G ?a ?l ?c ?k) ?t; (case a => k_is); (case l => k_is); (case c => k_is); (case k => k_is)
      case t =>
      refine' PV.cons_all (PV.dfOk_mk (x := "are_wholes") (st := K30.topS 4) KX G ?a ?l ?c ?k) ?t; (case a => k_is); (case l => k_is); (case c => k_is); (case k => k_is)
      case t =>
      refine' PV.cons_all (PV.dfOk_mk (x := "is_village_number") (st := K30.topS 7) KX G ?a ?l ?c ?k) ?t; (case a => k_is); (case l => k_is); (case c => k_is); (case k => k_is)
      case t =>
      refine' PV.cons_all (PV.dfOk_mk (x := "is_village") (st := K30.topS 8) KX G ?a ?l ?c ?k) ?t; (case a => k_is); (case l => k_is); (case c => k_is); (case k => k_is)
      case t =>
      refine' PV.cons_all (PV.dfOk_mk (x := "is_plan_of") (st := K30.topS 9) KX G ?a ?l ?c ?k) ?t; (case a => k_is); (case l => k_is); (case c => k_is); (case k => k_is)
      case t =>
      refine' PV.cons_all (PV.dfOk_mk (x := "is_planned") (st := K30.topS 10) KX G ?a ?l ?c ?k) ?t; (case a => k_is); (case l => k_is); (case c => k_is); (case k => k_is)
      case t =>
      refine' PV.cons_all (PV.dfOk_mk (x := "behind_of") (st := K30.topS 11) KX G ?a ?l ?c ?k) ?t; (case a => k_is); (case l => k_is); (case c => k_is); (case k => k_is)
      case t =>
      refine' PV.cons_all (PV.dfOk_mk (x := "shown_of") (st := K30.topS 12) KX G ?a ?l ?c ?k) ?t; (case a => k_is); (case l => k_is); (case c => k_is); (case k => k_is)
      case t =>
      refine' PV.cons_all (PV.dfOk_mk (x := "showing") (st := K30.topS 13) KX G ?a ?l ?c ?k) ?t; (case a => k_is); (case l => k_is); (case c => k_is); (case k => k_is)
      case t =>
      refine' PV.cons_all (PV.dfOk_mk (x := "missing_village") (st := K30.topS 15) KX G ?a ?l ?c ?k) ?t; (case a => k_is); (case l => k_is); (case c => k_is); (case k => k_is)
      case t =>
      refine' PV.cons_all (PV.dfOk_mk (x := "some_ahead_by") (st := K30.topS 16) KX G ?a ?l ?c ?k) ?t; (case a => k_is); (case l => k_is); (case c => k_is); (case k => k_is)
      case t =>
      refine' PV.cons_all (PV.dfOk_mk (x := "ahead_count_by") (st := K30.topS 17) KX G ?a ?l ?c ?k) ?t; (case a => k_is); (case l => k_is); (case c => k_is); (case k => k_is)
      case t =>
      refine' PV.cons_all (PV.dfOk_mk (x := "check_plan") (st := K30.topS 22) KX G ?a ?l ?c ?k) ?t; (case a => k_is); (case l => k_is); (case c => k_is); (case k => k_is)
      case t =>
      refine' PV.cons_all (PV.dfOk_mk (x := "check_plan_of") (st := K30.topS 23) KX G ?a ?l ?c ?k) ?t; (case a => k_is); (case l => k_is); (case c => k_is); (case k => k_is)
      case t =>
      refine' PV.cons_all (PV.dfOk_mk (x := "check_two_plans") (st := K30.topS 24) KX G ?a ?l ?c ?k) ?t; (case a => k_is); (case l => k_is); (case c => k_is); (case k => k_is)
      case t =>
      refine' PV.cons_all (PV.dfOk_mk (x := "some_ahead") (st := K30.topS 26) KX G ?a ?l ?c ?k) ?t; (case a => k_is); (case l => k_is); (case c => k_is); (case k => k_is)
      case t =>
      refine' PV.cons_all (PV.dfOk_mk (x := "ahead_count") (st := K30.topS 27) KX G ?a ?l ?c ?k) ?t; (case a => k_is); (case l => k_is); (case c => k_is); (case k => k_is)
      case t =>
      refine' PV.cons_all (PV.dfOk_mk (x := "behind") (st := K30.topS 29) KX G ?a ?l ?c ?k) ?t; (case a => k_is); (case l => k_is); (case c => k_is); (case k => k_is)
      case t =>
      refine' PV.cons_all (PV.dfOk_mk (x := "shown") (st := K30.topS 30) KX G ?a ?l ?c ?k) ?t; (case a => k_is); (case l => k_is); (case c => k_is); (case k => k_is)
      case t =>
      refine' PV.cons_all (PV.dfOk_mk (x := "_law_well") (st := K30.topS 32) KX G ?a ?l ?c ?k) ?t; (case a => k_is); (case l => k_is); (case c => k_is); (case k => k_is)
      case t =>
      refine' PV.cons_all (PV.dfOk_mk (x := "_law_take") (st := K30.topS 33) KX G ?a ?l ?c ?k) ?t; (case a => k_is); (case l => k_is); (case c => k_is); (case k => k_is)
      case t =>
      refine' PV.cons_all (PV.dfOk_mk (x := "_law_pick") (st := K30.topS 34) KX G ?a ?l ?c ?k) ?t; (case a => k_is); (case l => k_is); (case c => k_is); (case k => k_is)
      case t =>
      refine' PV.cons_all (PV.dfOk_mk (x := "_law_same") (st := K30.topS 35) KX G ?a ?l ?c ?k) ?t; (case a => k_is); (case l => k_is); (case c => k_is); (case k => k_is)
      case t =>
      refine' PV.cons_all (PV.dfOk_mk (x := "_law_all") (st := K30.topS 36) KX G ?a ?l ?c ?k) ?t; (case a => k_is); (case l => k_is); (case c => k_is); (case k => k_is)
      case t =>
      refine' PV.cons_all (PV.dfOk_mk (x := "_law_order") (st := K30.topS 37) KX G ?a ?l ?c ?k) ?t; (case a => k_is); (case l => k_is); (case c => k_is); (case k => k_is)
      case t =>
      refine' PV.cons_all (PV.dfOk_mk (x := "_law_plan") (st := K30.topS 38) KX G ?a ?l ?c ?k) ?t; (case a => k_is); (case l => k_is); (case c => k_is); (case k => k_is)
      case t =>
      refine' PV.cons_all (PV.dfOk_mk (x := "_law_then") (st := K30.topS 39) KX G ?a ?l ?c ?k) ?t; (case a => k_is); (case l => k_is); (case c => k_is); (case k => k_is)
      case t =>
      refine' PV.cons_all (PV.dfOk_mk (x := "_law_is_right") (st := K30.topS 40) KX G ?a ?l ?c ?k) ?t; (case a => k_is); (case l => k_is); (case c => k_is); (case k => k_is)
      case t =>
      refine' PV.cons_all (PV.dfOk_mk (x := "law") (st := K30.topS 41) KX G ?a ?l ?c ?k) ?t; (case a => k_is); (case l => k_is); (case c => k_is); (case k => k_is)
      case t =>
      exact PV.nil_all
    case hbl =>
      refine' PV.cons_all (PySem.W.mg_none_of KX G ?z) ?t; (case z => k_is)
      case t =>
      refine' PV.cons_all (PySem.W.mg_none_of KX G ?z) ?t; (case z => k_is)
      case t =>
      refine' PV.cons_all (PySem.W.mg_none_of KX G ?z) ?t; (case z => k_is)
      case t =>
      refine' PV.cons_all (PySem.W.mg_none_of KX G ?z) ?t; (case z => k_is)
      case t =>
      refine' PV.cons_all (PySem.W.mg_none_of KX G ?z) ?t; (case z => k_is)
      case t =>
      refine' PV.cons_all (PySem.W.mg_none_of KX G ?z) ?t; (case z => k_is)
      case t =>
      refine' PV.cons_all (PySem.W.mg_none_of KX G ?z) ?t; (case z => k_is)
      case t =>
      refine' PV.cons_all (PySem.W.mg_none_of KX G ?z) ?t; (case z => k_is)
      case t =>
      refine' PV.cons_all (PySem.W.mg_none_of KX G ?z) ?t; (case z => k_is)
      case t =>
      refine' PV.cons_all (PySem.W.mg_none_of KX G ?z) ?t; (case z => k_is)
      case t =>
      refine' PV.cons_all (PySem.W.mg_none_of KX G ?z) ?t; (case z => k_is)
      case t =>
      refine' PV.cons_all (PySem.W.mg_none_of KX G ?z) ?t; (case z => k_is)
      case t =>
      refine' PV.cons_all (PySem.W.mg_none_of KX G ?z) ?t; (case z => k_is)
      case t =>
      refine' PV.cons_all (PySem.W.mg_none_of KX G ?z) ?t; (case z => k_is)
      case t =>
      refine' PV.cons_all (PySem.W.mg_none_of KX G ?z) ?t; (case z => k_is)
      case t =>
      refine' PV.cons_all (PySem.W.mg_none_of KX G ?z) ?t; (case z => k_is)
      case t =>
      refine' PV.cons_all (PySem.W.mg_none_of KX G ?z) ?t; (case z => k_is)
      case t =>
      exact PV.nil_all
    case hgl =>
      refine' PV.gl_cons (PV.gl_int (PySem.W.mg_of KX G ?z)) ?t; (case z => k_is)
      case t =>
      exact PV.gl_nil
