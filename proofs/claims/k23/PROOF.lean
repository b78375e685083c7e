import PyProof.Rows.All
import Wide.All
import OpenK.AllK
import Wide.FinOn
import HandS.ForMost
import HandS.Exc
import HandS.SortInts
import HandS.SetFor
import HandS.Strs
import HandS.Zip
import HandS.TupAny
import HandS.TupLe
import HandS.Conv
import HandS.Defaults
import HandS.Deep
import HandS.DictComp
import KE.SortData
import PyProof.SeqIndex
import HandS.TupLen
import HandS.TupMul
import HandS.Style
import KE.KDictSum
import KE.KDictCopyH
import KE.GoesEnum
import HandS.IsInst
import HandS.Words
import HandS.Star
import HandS.SortKw
import KE.DatumOrd
import HandS.Ends
import PySem.Challenge.RW_fingerposts_k23_whole_undoing_both_ways
set_option Elab.async false
set_option linter.all false
set_option maxRecDepth 100000
/-! PV, part U: tuples whose very object is known (so that methods are found on them). -/
namespace PVU
open PySem PySem.Spec PyProof.Rows L2
/-- what is wanted of a new tuple -/
def NewT (xs : List V) (H : Hp) (Q : VK) : Prop := ∀ (p : Addr) (o : Obj), H p = none → o.dict = none → Q (.ref p) (upd H p (.frz o (.tup xs)))
section
variable {X : Cx} {pins : List (Addr × Obj)} {s : Shared} {σ : L2.St} {H : Hp} {Q : VK} {xs ys : List V} {its : List Value} {h' : Heap} {t' : Nat}
theorem laid (I : L2.Inv X pins σ H s) (r : Vals xs its) (z : xs.length ≤ sizeLine) (k : ∀ b u, s.heap.get? b = some u → h'.get? b = some u) {p : Addr} (hp : s.heap.objs.size ≤ p)
    (e : h'.get? p = some { cls := .type "tuple", data := .seq its.toArray }) (q : NewT xs H Q) : EP X pins σ Q (.ref p) { s with heap := h', toks := t' } :=
  ⟨.ref p, _, I.laid k hp (o := .frz { cls := .type "tuple", data := .seq its.toArray } (.tup xs)) ⟨e, z, its, r, ⟨_, e, rfl, _, rfl⟩⟩, rfl, q p _ (I.hok.fresh hp) rfl⟩
theorem pe_tupF {es : List Expr} {t : TA} {k : Nat} {pos : Pos} (h : PA X es t) : PE X (.Tuple es k pos) (fun σ H Q => t σ H fun xs H1 => xs.length ≤ sizeLine ∧ NewT xs H1 Q) := by
  refine ⟨fun pins s σ H Q I hq => wpAny_Tuple_spliced (thn (h.run pos pins s σ H _ I hq) fun us s1 ⟨xs, H1, I1, r, z, q⟩ => ⟨by rw [← r.length]; exact z, ?_⟩)⟩
  exact laid (t' := s1.toks) I1 r z (fun b u e => Heap.get?_push_of_some _ e) (Nat.le_refl _) (Heap.get?_push_size _ rfl) q
theorem call_tupF : CallR X (.type "tuple") (fun xs H Q => ∃ p ys, xs = [.ref p] ∧ ((SqL X.K H p ys ∧ NewT ys H Q) ∨ (SqT X.K H p ys ∧ Q (.ref p) H))) := by
  intro pins s σ H xs us Q I r h
  obtain ⟨p, ys, rfl, h⟩ := h
  obtain ⟨u, rfl, rx⟩ := vals1 r
  cases rx
  rcases h with ⟨hq, q⟩ | ⟨hq, q⟩
  · obtain ⟨its, r', pl, hz⟩ := I.list hq
    refine call_tuple_list pl.isList (fun h' kp => ?_) (by rw [List.size_toArray, ← r'.length]; exact hz)
    have I1 : L2.Inv X pins σ H { s with heap := h' } := I.kept (t' := s.toks) kp
    exact laid (s := { s with heap := h' }) (t' := s.toks) I1 r' hz (fun b o e => Heap.get?_push_of_some _ e) (Nat.le_refl _) (Heap.get?_push_size _ rfl) q
  · obtain ⟨its, r', pl, hz⟩ := I.tuple hq
    exact call_tuple_same pl ⟨.ref p, H, I, rfl, q⟩
theorem op_catF : OpR X (binaryOp .Add) (fun x y H Q => ∃ a b xs ys, x = .ref a ∧ y = .ref b ∧ SqT X.K H a xs ∧ SqT X.K H b ys ∧ xs.length + ys.length ≤ sizeLine ∧
    (xs = [] → Q (.ref b) H) ∧ (ys = [] → Q (.ref a) H) ∧ NewT (xs ++ ys) H Q) := by
  intro pins s σ H x y v u Q I rx ry h
  obtain ⟨a, b, xs, ys, rfl, rfl, ha, hb, hz, q1, q2, q3⟩ := h
  cases rx
  cases ry
  obtain ⟨its, r1, p1, _⟩ := I.tuple ha
  obtain ⟨its2, r2, p2, _⟩ := I.tuple hb
  by_cases hx : its = []
  · subst hx
    cases r1
    exact L2.cat_tup0 p1 p2 ⟨.ref b, H, I, rfl, q1 rfl⟩
  · refine HT.cat_tup p1 p2 hx (fun z => ?_) (fun z => ?_) (by rw [← r1.length, ← r2.length]; exact hz)
    · subst z
      cases r2
      exact ⟨.ref a, H, I, rfl, q2 rfl⟩
    · exact laid (t' := s.toks) I (r1.append r2) (by rw [List.length_append]; exact hz) (fun b o e => Heap.get?_push_of_some _ e) (Nat.le_refl _) (Heap.get?_push_size _ rfl) q3
theorem sl_tupF : SlR X (fun x lo hi H Q => ∃ a xs, x = .ref a ∧ SqT X.K H a xs ∧ (cutV xs lo hi = xs → Q (.ref a) H) ∧ NewT (cutV xs lo hi) H Q) := by
  intro pins s σ H x v vl vu lo hi sl Q I rx hs pl pu h
  obtain ⟨a, xs, rfl, hx, q1, q2⟩ := h
  cases rx
  obtain ⟨its, r, ht, hz⟩ := I.tuple hx
  have hlen : its.toArray.size = xs.length := by rw [List.size_toArray]; exact r.length.symm
  refine ⟨"tuple", _, PyProof.Rows.slot_tuple_getitem.lookup, ht.typeIs, ?_⟩
  by_cases hw : HT.sIx xs.length 0 lo = 0 ∧ HT.sIx xs.length xs.length hi = xs.length
  · refine L2.getItem_tuple_whole ht hs pl pu (by rw [hlen]; exact hw) ⟨.ref a, H, I, rfl, q1 ?_⟩
    unfold cutV
    rw [hw.1, hw.2]
    simp
  · refine HT.getItem_tuple_cut ht hs pl pu (by rw [hlen]; exact hw) ?_ (by rw [hlen]; exact hz)
    rw [hlen]
    refine laid (t' := s.toks) I (its := (its.drop (HT.sIx xs.length 0 lo)).take (HT.sIx xs.length xs.length hi - HT.sIx xs.length 0 lo)) ?_ (Nat.le_trans (cutV_length xs lo hi) hz) (fun b o e => Heap.get?_push_of_some _ e) (Nat.le_refl _) ?_ q2
    · exact (r.drop _).take _
    · exact Heap.get?_push_size _ rfl
theorem pe_tupRgF {e : Expr} {te : L2.St → Hp → (Int → Int → Hp → Prop) → Prop} {p pos : Pos} (hc : X.calm = true) (hg : Gl X "tuple") (hm : X.mg "tuple" = none) (he : PRg X e te) (na : starEach [e] X.env = (false, eval e X.env) :: starEach [] X.env) :
    PE X (.Call (.Name "tuple" p) [e] [] pos) (fun σ H Q => te σ H fun a b H1 => RgOk a b ∧ NewT (rgV a b) H1 Q) := by
  refine ⟨fun pins s σ H Q I h => ?_⟩
  refine Call_ (ld_blt I hg hm boot_tuple (PyProof.Rows.callWith_type1 (args_cons (thn (he pins s σ H _ I h) fun x s1 ⟨r, a, b, t, u, v, H1, ex, hr, I1, ok, q⟩ => args_nil ?_) na) na))
  subst ex
  obtain ⟨b1, b2, b3, b4, b5⟩ := ok
  refine call_tuple_range (n := (b - a).toNat) (I1.ok.hd hc) hr (small_one b1 b2 b3 b4) (rangeSize_nat a b) b5 fun h' tk acc hk hi => ?_
  have I2 : L2.Inv X pins σ H1 { s1 with heap := h', toks := tk } := I1.kept hk
  refine laid (s := { s1 with heap := h', toks := tk }) (t' := tk) I2 (its := acc.toList) (vals_rg hi) (by rw [rgV_length, sizeLine_eq]; omega) (fun c o e => Heap.get?_push_of_some _ e) (Nat.le_refl _) ?_ q
  rw [Array.toArray_toList]
  exact Heap.get?_push_size _ rfl
end
end PVU

/-! PV, part Ea: rules beside the layer's: index and count of ints, sorted of a tuple of ints, a dict comprehension stored on its own line. -/
namespace PVX
open PySem PySem.Spec PyProof.Rows L2
section
variable {X : Cx}
theorem beq_dec (a b : Int) : (a == b) = decide (a = b) := by
  by_cases h : a = b
  · subst h; simp
  · rw [decide_eq_false h]; exact beq_eq_false_iff_ne.mpr h
theorem ints_at {its : List Value} {ns : List Int} (hi : IntsAre its ns) {x : Value} {k : Int} {t : Tok} (ex : x = .int k t) {A : Around} {s : Shared} : SeqAt.ItemsEq A s its ns x k := by
  subst ex
  refine ⟨hi.length, fun j h1 h2 => ?_⟩
  obtain ⟨tj, hj⟩ := hi.get j _ (List.getElem?_eq_getElem h2)
  have e := (List.getElem?_eq_some_iff.mp hj).2
  rw [e]
  have q := SeqAt.EqAt.int_int (A := A) (s := s) ns[j] tj k t
  rwa [beq_dec] at q
/-- t.index(k) of ints -/
theorem mt_tupIx : MtR X "tuple.index" (fun x xs H Q => ∃ (p : Addr) (ns : List Int) (k : Int), x = .ref p ∧ xs = [.int k] ∧ SqT X.K H p (ns.map V.int) ∧ k ∈ ns ∧ Q (.int (ns.idxOf k : Nat)) H) := by
  intro pins s σ H x xs v us Q I rx rs h
  obtain ⟨p, ns, k, rfl, rfl, hq, hk, q⟩ := h
  cases rx
  obtain ⟨u, rfl, t, rfl⟩ := vals1 rs
  obtain ⟨its, r, pl, hz⟩ := I.tuple hq
  exact SeqAt.call_tuple_index pl (ints_at (ints_of_vals r) rfl) hk ⟨.int _, H, I.tok _, ⟨_, rfl⟩, q⟩
/-- l.index(k) of ints -/
theorem mt_lstIx : MtR X "list.index" (fun x xs H Q => ∃ (p : Addr) (ns : List Int) (k : Int), x = .ref p ∧ xs = [.int k] ∧ SqL X.K H p (ns.map V.int) ∧ k ∈ ns ∧ Q (.int (ns.idxOf k : Nat)) H) := by
  intro pins s σ H x xs v us Q I rx rs h
  obtain ⟨p, ns, k, rfl, rfl, hq, hk, q⟩ := h
  cases rx
  obtain ⟨u, rfl, t, rfl⟩ := vals1 rs
  obtain ⟨its, r, pl, hz⟩ := I.list hq
  rw [List.length_map] at hz
  exact SeqAt.call_list_index pl.isList (ints_at (ints_of_vals r) rfl) hz hk ⟨.int _, H, I.tok _, ⟨_, rfl⟩, q⟩
/-- t.count(k) of ints -/
theorem mt_tupCnt : MtR X "tuple.count" (fun x xs H Q => ∃ (p : Addr) (ns : List Int) (k : Int), x = .ref p ∧ xs = [.int k] ∧ SqT X.K H p (ns.map V.int) ∧ Q (.int (ns.count k : Nat)) H) := by
  intro pins s σ H x xs v us Q I rx rs h
  obtain ⟨p, ns, k, rfl, rfl, hq, q⟩ := h
  cases rx
  obtain ⟨u, rfl, t, rfl⟩ := vals1 rs
  obtain ⟨its, r, ⟨⟨cls, dd, dt, sl⟩, ho, hc, n, hd⟩, hz⟩ := I.tuple hq
  simp only at hc hd
  subst hc hd
  have hi := ints_of_vals r
  refine call_meets PySem.F.slot_tuple_count ⟨_, ho, rfl⟩ PySem.F.entry_tuple_count (PySem.F.args_tuple_count_2 _ _)
    (SeqAt.tuple_countAt p its.toArray n dd sl (.int k t) (eqk k)) ⟨ho, fun y hy => (eqk_gives hi y (by simpa using hy)).at _ _, .int (ns.count k : Nat), H, I.tok _, ⟨s.toks, ?_⟩, q⟩
  exact congrArg (fun z : Nat => Value.int (z : Int) s.toks) (eqk_count hi)

/-! ### sorted(t), t a tuple of ints -/
theorem collect_tup {prog : Program} {w : World} {A : Around} {E : Value → Shared → Prop} {s : Shared} {l : Addr} {vs : List Value} {Q : List Value → Shared → Prop} (hl : s.heap.IsTuple l vs.toArray) (hz : vs.length ≤ sizeLine)
    (h : Q vs { s with heap := (s.heap.push (seqObj "list" #[] 0)).update s.heap.objs.size (Obj.mapSeq (· ++ vs.toArray)) }) :
    wpAny (model prog w) A (collect (.ref l)) Q E s := by
  obtain ⟨o, ho, hc, n, hd⟩ := hl
  have ho' : (s.heap.push (seqObj "list" #[] 0)).get? l = some o := Heap.get?_push_of_some _ ho
  unfold collect
  refine wpAny_bind (wpAny_runValue (codeAny_builtin entry_proto_collect' (wpAny_bind (wpAny_newList ?_ (Nat.zero_le _)))))
  refine wpAny_pure ⟨Code.quiet_builtin _ (by decide +kernel), codeAny_builtin entry_list_iadd' ?_⟩
  have key : wpAny (model prog w) A.in1 (Builtin.List.listExtendWith (.ref s.heap.objs.size) (.ref l) (.ref s.heap.objs.size)) (fun r s' => r = .done (.ret (.ref s.heap.objs.size)) ∧ s' = { s with heap := (s.heap.push (seqObj "list" #[] 0)).update s.heap.objs.size (Obj.mapSeq (· ++ vs.toArray)) }) E { s with heap := s.heap.push (seqObj "list" #[] 0) } := by
    unfold Builtin.List.listExtendWith
    refine wpAny_bind (wpAny_typeOf (T := "tuple") ⟨o, ho', hc⟩ ?_)
    rw [if_pos (by rw [show (Value.type "tuple" == Value.type "tuple") = true from rfl]; simp)]
    refine wpAny_bind (listItems_at ho' hd (wpAny_bind (listItems_at (xs := #[]) (n := 0) (Heap.get?_push_size _ rfl) rfl ?_)))
    rw [if_neg (by simp)]
    refine wpAny_bind (listUpdate_at (xs := #[]) (n := 0) (Heap.get?_push_size _ rfl) rfl (wpAny_pure ⟨rfl, rfl⟩) (Nat.zero_le _) ?_)
    show (#[] ++ vs.toArray).size ≤ sizeLine + 1
    simp only [Array.size_append, List.size_toArray, List.length_nil]
    omega
  refine thn key ?_
  rintro r s' ⟨rfl, rfl⟩
  refine wpAny_bind (wpAny_load (get?_update_seq (Heap.get?_push_size _ rfl) _) (wpAny_pure ?_))
  rw [show ((#[] : Array Value) ++ vs.toArray).toList = vs by simp]
  exact h
theorem sorted_tupI {prog : Program} {w : World} {A : Around} {E : Value → Shared → Prop} {s : Shared} {l : Addr} {vs : List Value} {ns : List Int} {Q : Value → Shared → Prop} (hi : IntsAre vs ns) (hl : s.heap.IsTuple l vs.toArray) (hz : vs.length ≤ sizeLine)
    (h : ∀ out : List Value, SrtO.Srtd SrtO.ltIv out → SrtO.Stb SrtO.ltIv out vs → Q (.ref (s.heap.objs.size + 1)) { s with heap := sortedAll s.heap vs out.toArray }) : wpAny (model prog w) A (call (.builtin "sorted") [.ref l]) Q E s := by
  refine Calls.call_function_entry kind_sorted plain_sorted entry_sorted (args_sorted1 _) ?_
  unfold Builtin.«sorted»
  refine wpAny_bind (m := checkCount "sorted" 1 1 _) (wpAny_pure (wpAny_bind (collect_tup hl hz (wpAny_bind (wpAny_newList ?_ hz)))))
  generalize eh : (s.heap.push (seqObj "list" #[] 0)).update s.heap.objs.size (Obj.mapSeq (· ++ vs.toArray)) = h1
  have z1 : h1.objs.size = s.heap.objs.size + 1 := by rw [← eh, Heap.size_update, size_push']
  have at1 : (h1.push (seqObj "list" vs.toArray 0)).get? (s.heap.objs.size + 1) = some (seqObj "list" vs.toArray 0) := z1 ▸ Heap.get?_push_size _ rfl
  have fin : ∀ out : List Value, SrtO.Srtd SrtO.ltIv out → SrtO.Stb SrtO.ltIv out vs → Q (.ref (s.heap.objs.size + 1)) { s with heap := sortedHeap (h1.push (seqObj "list" vs.toArray 0)) (s.heap.objs.size + 1) vs out.toArray } := fun out a b => by
    subst eh
    exact h out a b
  rw [z1]
  refine wpAny_bind (wpAny_holding (wpAny_call_entry slot_list_sort ⟨_, at1, rfl⟩ entry_list_sort ?_ (args_list_sort _)))
  exact SrtO.list_sort_ord SrtO.swo_int at1 hz (fun h2 => SrtO.ints_sortable hi h2) fun out a b => ⟨_, rfl, wpAny_pure ⟨_, rfl, fin out a b⟩⟩
/-- .. as a rule -/
theorem cr_sortedTI : CallR X (.builtin "sorted") (fun vs H Q => ∃ (a : Addr) (ns : List Int), vs = [V.ref a] ∧ SqT X.K H a (ns.map V.int) ∧ ∀ (ns' : List Int) (p : Addr), ns'.Perm ns → ns'.Pairwise (· ≤ ·) → H p = none → Q (.ref p) (upd H p (.lst (ns'.map V.int)))) := by
  intro pins s σ H vs us Q I r h
  obtain ⟨a, ns, rfl, hs, q⟩ := h
  obtain ⟨its, rv, hl, hz⟩ := I.tuple hs
  obtain rfl := Vals.ref1 r
  have hi := ints_of_vals rv
  have hz' : its.length ≤ sizeLine := by rw [← rv.length]; exact hz
  refine sorted_tupI hi hl hz' fun out h1 h2 => ?_
  obtain ⟨k1, k2, k3⟩ := SrtO.ints_out hi h1 h2
  obtain ⟨ep, he'⟩ := PyProof.Rows.sortedAll_at s.heap its out.toArray
  refine ⟨.ref _, _, I.laid (a := s.heap.objs.size + 1) (o := .lst ((out.map SrtO.iv).map V.int)) (t' := s.toks) (fun _ _ e => sortedAll_old e) (Nat.le_succ _) ⟨?_, out, ep, vals_of_ints k1, he'⟩, rfl, q _ _ k2 k3 (I.hok.fresh (Nat.le_succ _))⟩
  rw [List.length_map, k2.length_eq, ← hi.length]
  exact hz'
end
end PVX

/-! PV, part A: pure values, how they lie in the abstract heap, slots, steps. -/
namespace PV
open PySem PySem.Spec PyProof.Rows L2
abbrev St := L2.St

/-- a pure value -/
inductive D where
  | non | bl (b : Bool) | int (i : Int) | str (s : Str)
  | tup (xs : List D) | lst (xs : List D) | dct (ks vs : List D) | set (ns : List Int)
  /-- the script: a list of ints that is read alone -/
  | scr (ns : List Int)
  /-- a pair as a walk hands it out: it is unpacked at once -/
  | rtp (xs : List D)
  /-- a dict that is walked: nobody changes it any more -/
  | dcf (ks vs : List D)
  deriving Inhabited

/-- a key of a dict, as a pure value -/
def kD : Key → D
  | .inl i => .int i
  | .inr s => .str s
def SetIs (S : Int → Bool) (n : Nat) (ns : List Int) : Prop := ns.Nodup ∧ n = ns.length ∧ ∀ k, S k = true ↔ k ∈ ns

/-- a list that is read alone -/
def SqF (K : PySem.W.Frag) (H : Hp) (a : Addr) (xs : List V) : Prop :=
  (∃ o, H a = some (.frz o (.lst xs))) ∨
    ∃ (o : Obj) (its : Array Value) (n : Nat), K.lookup a = some o ∧ o.cls = .type "list" ∧ o.dict = none ∧ o.data = .seq its n ∧ its.size ≤ sizeLine ∧ Vals xs its.toList
theorem SqF.sq {K : PySem.W.Frag} {H : Hp} {a : Addr} {xs : List V} (h : SqF K H a xs) : SqL K H a xs := h.elim (fun h => .inl (.inr h)) .inr
/-- a tuple that methods are found on -/
def TupOk (K : PySem.W.Frag) (H : Hp) (a : Addr) (xs : List V) : Prop :=
  (∃ o, o.dict = none ∧ H a = some (.frz o (.tup xs))) ∨
    ∃ (o : Obj) (its : Array Value) (n : Nat), K.lookup a = some o ∧ o.cls = .type "tuple" ∧ o.dict = none ∧ o.data = .seq its n ∧ its.size ≤ sizeLine ∧ Vals xs its.toList
theorem TupOk.sq {K : PySem.W.Frag} {H : Hp} {a : Addr} {xs : List V} (h : TupOk K H a xs) : SqT K H a xs :=
  h.elim (fun ⟨o, _, h⟩ => .inl (.inr ⟨o, h⟩)) fun ⟨o, its, n, h1, h2, _, h3, h4, h5⟩ => .inr ⟨o, its, n, h1, h2, h3, h4, h5⟩
/-- objects that nothing changes -/
def Fz (o : HO) : Prop := (∃ xs, o = .tup xs) ∨ ∃ ob u, o = .frz ob u
/-- a dict whose keys are tuples of ints and texts: the keys with their tuples, the values -/
def tH (w : World) (ks : List Key) : Int := PySem.reduceHash (Builtin.Tuple.tupleHashOf (ks.map (keyH w)))
def DTO (w : World) (a : Addr) (kas : List (List Key × Addr)) (xs : List V) : HO := .ext fun h => kas.length ≤ sizeLine ∧ (a == sysModules) = false ∧ (kas.map (·.1)).Nodup ∧
  ∃ (us : List Value) (o : Obj) (es : Array DictEntry) (ep : Nat), Vals xs us ∧ kas.length = us.length ∧ h.get? a = some o ∧ o.ExactDict ∧ o.data = .dict es ep ∧ es.toList = (kas.zip us).map fun p => ⟨tH w p.1.1, .ref p.1.2, p.2⟩
/-- the object u at a is a dict of these keys and values -/
def DctC (K : PySem.W.Frag) (w : World) (H : Hp) (a : Addr) (ks : List D) (xs : List V) (u : HO) : Prop :=
  (∃ kvs, u = .dK kvs ∧ ks = kvs.map (fun p => kD p.1) ∧ xs = kvs.map (·.2)) ∨
    ∃ kas, u = DTO w a kas xs ∧ kas ≠ [] ∧ ks = kas.map (fun p => .tup (p.1.map kD)) ∧ ∀ p ∈ kas, TupOk K H p.2 (p.1.map kV)
section
variable (K : PySem.W.Frag) (w : World) (R : Addr → Prop) (H : Hp)
mutual
/-- v is the value d; R: the objects that nobody changes any more -/
def Rep : D → V → Prop
  | .non, v => v = .non
  | .bl b, v => v = .bl b
  | .int i, v => v = .int i
  | .str s, v => v = .str s
  | .tup ds, v => ∃ a xs, v = .ref a ∧ TupOk K H a xs ∧ Reps ds xs
  | .rtp ds, v => ∃ a xs, v = .ref a ∧ SqT K H a xs ∧ Reps ds xs
  | .lst ds, v => ∃ a xs, v = .ref a ∧ R a ∧ H a = some (.lst xs) ∧ Reps ds xs
  | .scr ns, v => ∃ a, v = .ref a ∧ SqF K H a (ns.map V.int)
  | .dct ks vs, v => ∃ a xs u, v = .ref a ∧ R a ∧ Reps vs xs ∧ H a = some u ∧ DctC K w H a ks xs u
  | .dcf ks vs, v => ∃ a xs u o, v = .ref a ∧ R a ∧ Reps vs xs ∧ H a = some (.frz o u) ∧ DctC K w H a ks xs u
  | .set ns, v => ∃ a S n, v = .ref a ∧ R a ∧ H a = some (SetO w a S n) ∧ SetIs S n ns
def Reps : List D → List V → Prop
  | [], [] => True
  | d :: ds, x :: xs => Rep d x ∧ Reps ds xs
  | _, _ => False
end
/-- the object at a, that may be changed, is d -/
def Top (a : Addr) : D → Prop
  | .lst ds => ∃ xs, H a = some (.lst xs) ∧ Reps K w R H ds xs
  | .dct ks vs => ∃ xs u, Reps K w R H vs xs ∧ H a = some u ∧ DctC K w H a ks xs u
  | .set ns => ∃ S n, H a = some (SetO w a S n) ∧ SetIs S n ns
  | _ => False
/-- for reading: whether it may be changed or not -/
def RepT (d : D) (v : V) : Prop := Rep K w R H d v ∨ ∃ a, v = .ref a ∧ Top K w R H a d
end

section
variable {K : PySem.W.Frag} {w : World} {R R' : Addr → Prop} {H H' : Hp}
theorem Reps.length : ∀ {ds : List D} {xs : List V}, Reps K w R H ds xs → ds.length = xs.length
  | [], [], _ => rfl
  | d :: ds, x :: xs, h => by
    have := Reps.length (ds := ds) (xs := xs) h.2
    simp [this]
  | [], _ :: _, h => h.elim
  | _ :: _, [], h => h.elim
theorem Reps.get : ∀ {ds : List D} {xs : List V} {i : Nat} {d : D}, Reps K w R H ds xs → ds[i]? = some d → ∃ x, xs[i]? = some x ∧ Rep K w R H d x
  | [], [], _, _, _, e => by simp at e
  | d :: ds, x :: xs, 0, d', h, e => by
    simp at e
    subst e
    exact ⟨x, rfl, h.1⟩
  | d :: ds, x :: xs, i + 1, d', h, e => Reps.get (ds := ds) (xs := xs) (i := i) h.2 (by simpa using e)
  | [], _ :: _, _, _, h, _ => h.elim
  | _ :: _, [], _, _, h, _ => h.elim
theorem Reps.get' : ∀ {ds : List D} {xs : List V} {i : Nat} {x : V}, Reps K w R H ds xs → xs[i]? = some x → ∃ d, ds[i]? = some d ∧ Rep K w R H d x
  | [], [], _, _, _, e => by simp at e
  | d :: ds, x :: xs, 0, x', h, e => by
    simp at e
    subst e
    exact ⟨d, rfl, h.1⟩
  | d :: ds, x :: xs, i + 1, x', h, e => Reps.get' (ds := ds) (xs := xs) (i := i) h.2 (by simpa using e)
  | [], _ :: _, _, _, h, _ => h.elim
  | _ :: _, [], _, _, h, _ => h.elim
theorem Reps.append : ∀ {ds es : List D} {xs ys : List V}, Reps K w R H ds xs → Reps K w R H es ys → Reps K w R H (ds ++ es) (xs ++ ys)
  | [], _, [], _, _, h => h
  | d :: ds, es, x :: xs, ys, h, h' => ⟨h.1, Reps.append (ds := ds) (xs := xs) h.2 h'⟩
  | [], _, _ :: _, _, h, _ => h.elim
  | _ :: _, _, [], _, h, _ => h.elim
theorem Reps.set {d : D} {x : V} (r : Rep K w R H d x) : ∀ {ds : List D} {xs : List V} (i : Nat), Reps K w R H ds xs → Reps K w R H (ds.set i d) (xs.set i x)
  | [], [], _, h => h
  | _ :: _, _ :: _, 0, h => ⟨r, h.2⟩
  | e :: ds, y :: xs, i + 1, h => ⟨h.1, Reps.set r (ds := ds) (xs := xs) i h.2⟩
  | [], _ :: _, _, h => h.elim
  | _ :: _, [], _, h => h.elim
theorem Reps.take : ∀ {ds : List D} {xs : List V} (i : Nat), Reps K w R H ds xs → Reps K w R H (ds.take i) (xs.take i)
  | [], [], i, h => by simpa using h
  | _ :: _, _ :: _, 0, h => trivial
  | e :: ds, y :: xs, i + 1, h => ⟨h.1, Reps.take (ds := ds) (xs := xs) i h.2⟩
  | [], _ :: _, _, h => h.elim
  | _ :: _, [], _, h => h.elim
theorem Reps.drop : ∀ {ds : List D} {xs : List V} (i : Nat), Reps K w R H ds xs → Reps K w R H (ds.drop i) (xs.drop i)
  | [], [], i, h => by simpa using h
  | _ :: _, _ :: _, 0, h => h
  | e :: ds, y :: xs, i + 1, h => Reps.drop (ds := ds) (xs := xs) i h.2
  | [], _ :: _, _, h => h.elim
  | _ :: _, [], _, h => h.elim
theorem Reps.eraseIdx : ∀ {ds : List D} {xs : List V} (i : Nat), Reps K w R H ds xs → Reps K w R H (ds.eraseIdx i) (xs.eraseIdx i)
  | [], [], i, h => by simpa using h
  | _ :: _, _ :: _, 0, h => h.2
  | e :: ds, y :: xs, i + 1, h => ⟨h.1, Reps.eraseIdx (ds := ds) (xs := xs) i h.2⟩
  | [], _ :: _, _, h => h.elim
  | _ :: _, [], _, h => h.elim
theorem Reps.ints : ∀ {ns : List Int} {xs : List V}, Reps K w R H (ns.map D.int) xs → xs = ns.map V.int
  | [], [], _ => rfl
  | n :: ns, x :: xs, h => by
    have e := Reps.ints (ns := ns) (xs := xs) h.2
    have e1 : x = V.int n := h.1
    rw [e, e1]; rfl
  | [], _ :: _, h => h.elim
  | _ :: _, [], h => h.elim
theorem reps_ints : ∀ (ns : List Int), Reps K w R H (ns.map D.int) (ns.map V.int)
  | [] => trivial
  | n :: ns => ⟨rfl, reps_ints ns⟩
theorem Reps.bls : ∀ {ns : List Bool} {xs : List V}, Reps K w R H (ns.map D.bl) xs → xs = ns.map V.bl
  | [], [], _ => rfl
  | n :: ns, x :: xs, h => by
    have e := Reps.bls (ns := ns) (xs := xs) h.2
    have e1 : x = V.bl n := h.1
    rw [e, e1]; rfl
  | [], _ :: _, h => h.elim
  | _ :: _, [], h => h.elim

theorem sqT_keep {a : Addr} {xs : List V} (hT : ∀ a o, Fz o → H a = some o → H' a = some o) (h : SqT K H a xs) : SqT K H' a xs := by
  rcases h with (h | ⟨o, h⟩) | h
  · exact .inl (.inl (hT _ _ (.inl ⟨_, rfl⟩) h))
  · exact .inl (.inr ⟨o, hT _ _ (.inr ⟨_, _, rfl⟩) h⟩)
  · exact .inr h
theorem tupOk_keep {a : Addr} {xs : List V} (hT : ∀ a o, Fz o → H a = some o → H' a = some o) (h : TupOk K H a xs) : TupOk K H' a xs := by
  rcases h with ⟨o, n, h⟩ | h
  · exact .inl ⟨o, n, hT _ _ (.inr ⟨_, _, rfl⟩) h⟩
  · exact .inr h
theorem sqF_keep {a : Addr} {xs : List V} (hT : ∀ a o, Fz o → H a = some o → H' a = some o) (h : SqF K H a xs) : SqF K H' a xs := by
  rcases h with ⟨o, h⟩ | h
  · exact .inl ⟨o, hT _ _ (.inr ⟨_, _, rfl⟩) h⟩
  · exact .inr h

theorem DctC.keep {a : Addr} {ks : List D} {xs : List V} {u : HO} (hT : ∀ a o, Fz o → H a = some o → H' a = some o) (h : DctC K w H a ks xs u) : DctC K w H' a ks xs u := by
  rcases h with h | ⟨kas, e, n, ek, hk⟩
  · exact .inl h
  · exact .inr ⟨kas, e, n, ek, fun p hp => tupOk_keep hT (hk p hp)⟩
theorem DctC.plain {a : Addr} {ks : List D} {xs : List V} {u : HO} (h : DctC K w H a ks xs u) : (∀ xs, u ≠ .tup xs) ∧ ∀ o v, u ≠ .frz o v := by
  rcases h with ⟨kvs, e, _⟩ | ⟨kas, e, _⟩
  · subst e
    exact ⟨fun _ z => (by cases z), fun _ _ z => (by cases z)⟩
  · subst e
    exact ⟨fun _ z => (by cases z), fun _ _ z => (by cases z)⟩
mutual
theorem Rep.keep (hR : ∀ a, R a → R' a) (hT : ∀ a o, Fz o → H a = some o → H' a = some o) (hK : ∀ a o, R a → H a = some o → H' a = some o) : ∀ (d : D) (v : V), Rep K w R H d v → Rep K w R' H' d v
  | .non, _, h => h
  | .bl _, _, h => h
  | .int _, _, h => h
  | .str _, _, h => h
  | .tup ds, _, h => by
    obtain ⟨a, xs, e, h1, h2⟩ := h
    exact ⟨a, xs, e, tupOk_keep hT h1, Reps.keep hR hT hK ds xs h2⟩
  | .rtp ds, _, h => by
    obtain ⟨a, xs, e, h1, h2⟩ := h
    exact ⟨a, xs, e, sqT_keep hT h1, Reps.keep hR hT hK ds xs h2⟩
  | .lst ds, _, h => by
    obtain ⟨a, xs, e, r, h1, h2⟩ := h
    exact ⟨a, xs, e, hR a r, hK a _ r h1, Reps.keep hR hT hK ds xs h2⟩
  | .scr ns, _, h => by
    obtain ⟨a, e, h1⟩ := h
    exact ⟨a, e, sqF_keep hT h1⟩
  | .dct ks vs, _, h => by
    obtain ⟨a, xs, u, e, r, h2, h3, h4⟩ := h
    exact ⟨a, xs, u, e, hR a r, Reps.keep hR hT hK vs xs h2, hK a _ r h3, h4.keep hT⟩
  | .dcf ks vs, _, h => by
    obtain ⟨a, xs, u, o, e, r, h2, h3, h4⟩ := h
    exact ⟨a, xs, u, o, e, hR a r, Reps.keep hR hT hK vs xs h2, hK a _ r h3, h4.keep hT⟩
  | .set ns, _, h => by
    obtain ⟨a, S, n, e, r, h1, h2⟩ := h
    exact ⟨a, S, n, e, hR a r, hK a _ r h1, h2⟩
theorem Reps.keep (hR : ∀ a, R a → R' a) (hT : ∀ a o, Fz o → H a = some o → H' a = some o) (hK : ∀ a o, R a → H a = some o → H' a = some o) : ∀ (ds : List D) (xs : List V), Reps K w R H ds xs → Reps K w R' H' ds xs
  | [], [], _ => trivial
  | d :: ds, x :: xs, h => ⟨Rep.keep hR hT hK d x h.1, Reps.keep hR hT hK ds xs h.2⟩
  | [], _ :: _, h => h.elim
  | _ :: _, [], h => h.elim
end
theorem Top.keep {a : Addr} {d : D} (hR : ∀ a, R a → R' a) (hT : ∀ a o, Fz o → H a = some o → H' a = some o) (hK : ∀ a o, R a → H a = some o → H' a = some o) (ha : ∀ o, H a = some o → H' a = some o) (h : Top K w R H a d) : Top K w R' H' a d := by
  cases d with
  | lst ds =>
    obtain ⟨xs, h1, h2⟩ := h
    exact ⟨xs, ha _ h1, h2.keep hR hT hK⟩
  | dct ks vs =>
    obtain ⟨xs, u, h2, h3, h4⟩ := h
    exact ⟨xs, u, h2.keep hR hT hK, ha _ h3, h4.keep hT⟩
  | set ns =>
    obtain ⟨S, n, h1, h2⟩ := h
    exact ⟨S, n, ha _ h1, h2⟩
  | _ => exact h.elim
/-- an object that may be changed is no longer -/
theorem Top.freeze {a : Addr} {d : D} (r : R a) (h : Top K w R H a d) : Rep K w R H d (.ref a) := by
  cases d with
  | lst ds =>
    obtain ⟨xs, h1, h2⟩ := h
    exact ⟨a, xs, rfl, r, h1, h2⟩
  | dct ks vs =>
    obtain ⟨xs, u, h2, h3, h4⟩ := h
    exact ⟨a, xs, u, rfl, r, h2, h3, h4⟩
  | set ns =>
    obtain ⟨S, n, h1, h2⟩ := h
    exact ⟨a, S, n, rfl, r, h1, h2⟩
  | _ => exact h.elim
theorem Top.there {a : Addr} {d : D} (h : Top K w R H a d) : ∃ o, H a = some o ∧ ∀ xs, o ≠ .tup xs := by
  cases d with
  | lst ds =>
    obtain ⟨xs, h1, h2⟩ := h
    exact ⟨_, h1, fun xs z => by cases z⟩
  | dct ks vs =>
    obtain ⟨xs, u, h2, h3, h4⟩ := h
    exact ⟨_, h3, h4.plain.1⟩
  | set ns =>
    obtain ⟨S, n, h1, h2⟩ := h
    exact ⟨_, h1, fun xs z => by cases z⟩
  | _ => exact h.elim
theorem Top.nofrz {a : Addr} {d : D} {ob : Obj} {u : HO} (h : Top K w R H a d) (e : H a = some (.frz ob u)) : False := by
  cases d with
  | lst ds =>
    obtain ⟨xs, h1, h2⟩ := h
    rw [e] at h1; cases h1
  | dct ks vs =>
    obtain ⟨xs, u', h2, h3, h4⟩ := h
    rw [e] at h3
    cases h3
    exact h4.plain.2 _ _ rfl
  | set ns =>
    obtain ⟨S, n, h1, h2⟩ := h
    rw [e] at h1; cases h1
  | _ => exact h.elim
end

/-! ### slots -/
inductive Sl where
  | un | ro (d : D) | own (d : D)
  deriving Inhabited
abbrev Rho := List Sl
/-- an expression's value: a value; a fresh object; what the slot holds -/
inductive Rs where
  | val (d : D) | fr (d : D) | al (i : Nat)
  deriving Inhabited

section
/-- b is the object of an own slot -/
def Own (ρ : Rho) (σ : St) (b : Addr) : Prop := ∃ (i : Nat) (d : D), ρ[i]? = some (Sl.own d) ∧ σ[i]? = some (some (V.ref b))

structure Mt (K : PySem.W.Frag) (w : World) (R : Addr → Prop) (ρ : Rho) (σ : St) (H : Hp) : Prop where
  len : ρ.length = σ.length
  trk : ∀ b, R b → H b ≠ none
  ro : ∀ (i : Nat) (d : D), ρ[i]? = some (Sl.ro d) → ∃ v, σ[i]? = some (some v) ∧ Rep K w R H d v
  own : ∀ (i : Nat) (d : D), ρ[i]? = some (Sl.own d) → ∃ a, σ[i]? = some (some (V.ref a)) ∧ ¬ R a ∧ Top K w R H a d
  inj : ∀ (i j : Nat) (d e : D) (a : Addr), ρ[i]? = some (Sl.own d) → ρ[j]? = some (Sl.own e) → σ[i]? = some (some (V.ref a)) → σ[j]? = some (some (V.ref a)) → i = j

/-- from an entry on: nothing but own objects changed, what is read alone was so, or was not there, or was own; the parameters stand -/
structure SS (K : PySem.W.Frag) (w : World) (np : Nat) (σ : St) (R : Addr → Prop) (ρ : Rho) (H : Hp) (σ' : St) (R' : Addr → Prop) (ρ' : Rho) (H' : Hp) : Prop where
  up : ∀ a, R a → R' a
  mt : Mt K w R' ρ' σ' H'
  fr : ∀ b o, H b = some o → ¬ Own ρ σ b → H' b = some o
  bd : ∀ b, R' b → R b ∨ H b = none ∨ Own ρ σ b
  mo : ∀ b, Own ρ' σ' b → Own ρ σ b ∨ H b = none
  nw : ∀ b, H b ≠ none → H' b ≠ none
  pm : ∀ (i : Nat), i < np → σ'[i]? = σ[i]?
/-- .. where the names stand -/
abbrev Step (K : PySem.W.Frag) (w : World) (σ : St) (R : Addr → Prop) (ρ : Rho) (H : Hp) (R' : Addr → Prop) (ρ' : Rho) (H' : Hp) : Prop := SS K w 0 σ R ρ H σ R' ρ' H'

def RR (K : PySem.W.Frag) (w : World) (R : Addr → Prop) (ρ : Rho) (σ : St) (H : Hp) (v : V) : Rs → Prop
  | .val d => Rep K w R H d v
  | .fr d => ∃ a, v = .ref a ∧ ¬ R a ∧ ¬ Own ρ σ a ∧ Top K w R H a d
  | .al i => σ[i]? = some (some v)
/-- a fresh object was not there -/
def FrN (H : Hp) (v : V) : Rs → Prop
  | .fr _ => ∀ a, v = .ref a → H a = none
  | _ => True
end

section
variable {K : PySem.W.Frag} {w : World} {R R' R1 R2 : Addr → Prop} {ρ ρ' ρ1 ρ2 : Rho} {σ : St} {H H' H1 H2 : Hp}

theorem Mt.ownTop (m : Mt K w R ρ σ H) {b : Addr} (h : Own ρ σ b) : ∃ d, ¬ R b ∧ Top K w R H b d := by
  obtain ⟨i, d, h1, h2⟩ := h
  obtain ⟨a, h3, h4, h5⟩ := m.own i d h1
  rw [h2] at h3
  cases h3
  exact ⟨d, h4, h5⟩
theorem Mt.keepT (m : Mt K w R ρ σ H) (fr : ∀ b o, H b = some o → ¬ Own ρ σ b → H' b = some o) : ∀ a o, Fz o → H a = some o → H' a = some o := by
  intro a o z h
  refine fr _ _ h fun q => ?_
  obtain ⟨d, _, t⟩ := m.ownTop q
  obtain ⟨o', e, n⟩ := t.there
  rw [h] at e
  cases e
  rcases z with ⟨xs, rfl⟩ | ⟨ob, u, rfl⟩
  · exact n xs rfl
  · exact t.nofrz h
theorem Mt.keepK (m : Mt K w R ρ σ H) (fr : ∀ b o, H b = some o → ¬ Own ρ σ b → H' b = some o) : ∀ a o, R a → H a = some o → H' a = some o := by
  intro a o r h
  refine fr a o h fun z => ?_
  obtain ⟨d, n, _⟩ := m.ownTop z
  exact n r
theorem SS.rep {np : Nat} {σ' : St} (m : Mt K w R ρ σ H) (s : SS K w np σ R ρ H σ' R' ρ' H') {d : D} {v : V} (h : Rep K w R H d v) : Rep K w R' H' d v :=
  Rep.keep s.up (m.keepT s.fr) (m.keepK s.fr) d v h
theorem SS.reps {np : Nat} {σ' : St} (m : Mt K w R ρ σ H) (s : SS K w np σ R ρ H σ' R' ρ' H') {ds : List D} {xs : List V} (h : Reps K w R H ds xs) : Reps K w R' H' ds xs :=
  Reps.keep s.up (m.keepT s.fr) (m.keepK s.fr) ds xs h
theorem SS.top {np : Nat} {σ' : St} (m : Mt K w R ρ σ H) (s : SS K w np σ R ρ H σ' R' ρ' H') {d : D} {a : Addr} (h : Top K w R H a d) (n : ¬ Own ρ σ a) : Top K w R' H' a d :=
  Top.keep s.up (m.keepT s.fr) (m.keepK s.fr) (fun o e => s.fr a o e n) h
theorem SS.refl {np : Nat} (m : Mt K w R ρ σ H) : SS K w np σ R ρ H σ R ρ H :=
  ⟨fun _ h => h, m, fun _ _ h _ => h, fun _ h => .inl h, fun _ h => .inl h, fun _ h => h, fun _ _ => rfl⟩
theorem Step.refl (m : Mt K w R ρ σ H) : Step K w σ R ρ H R ρ H := SS.refl m
theorem SS.trans {np : Nat} {σ1 σ2 : St} (s : SS K w np σ R ρ H σ1 R1 ρ1 H1) (t : SS K w np σ1 R1 ρ1 H1 σ2 R2 ρ2 H2) : SS K w np σ R ρ H σ2 R2 ρ2 H2 where
  up := fun a h => t.up a (s.up a h)
  mt := t.mt
  fr := fun b o h n => t.fr b o (s.fr b o h n) fun z => by
    rcases s.mo b z with q | q
    · exact n q
    · rw [h] at q; cases q
  bd := fun b h => by
    rcases t.bd b h with h | h | h
    · exact s.bd b h
    · refine .inr (.inl ?_)
      cases e : H b with
      | none => rfl
      | some o => exact absurd h (s.nw b (by rw [e]; simp))
    · rcases s.mo b h with q | q
      · exact .inr (.inr q)
      · exact .inr (.inl q)
  mo := fun b h => by
    rcases t.mo b h with q | q
    · exact s.mo b q
    · refine .inr ?_
      cases e : H b with
      | none => rfl
      | some o => exact absurd q (s.nw b (by rw [e]; simp))
  nw := fun b h => t.nw b (s.nw b h)
  pm := fun i h => (t.pm i h).trans (s.pm i h)
theorem SS.np {np mp : Nat} (s : SS K w np σ R ρ H σ R' ρ' H') : SS K w mp σ R ρ H σ R' ρ' H' := ⟨s.up, s.mt, s.fr, s.bd, s.mo, s.nw, fun _ _ => rfl⟩
theorem RR.step (m : Mt K w R ρ σ H) (s : Step K w σ R ρ H R' ρ' H') {v : V} {r : Rs} (h : RR K w R ρ σ H v r) : RR K w R' ρ' σ H' v r := by
  cases r with
  | val d => exact s.rep m h
  | al i => exact h
  | fr d =>
    obtain ⟨a, e, n1, n2, t⟩ := h
    refine ⟨a, e, fun z => ?_, fun z => ?_, s.top m t n2⟩
    rotate_left
    · rcases s.mo a z with z | z
      · exact n2 z
      · obtain ⟨o, e, _⟩ := t.there
        rw [z] at e; cases e
    rcases s.bd a z with z | z | z
    · exact n1 z
    · obtain ⟨o, e, _⟩ := t.there
      rw [z] at e; cases e
    · exact n2 z
/-- a new object is laid (and nothing else happens) -/
theorem Step.lay (m : Mt K w R ρ σ H) {p : Addr} {o : HO} (n : H p = none) : Step K w σ R ρ H R ρ (upd H p o) := by
  have fr : ∀ b u, H b = some u → ¬ Own ρ σ b → (upd H p o) b = some u := fun b u h _ => by
    rw [upd_ne (ne_of_none h n)]; exact h
  have nw : ∀ b, H b ≠ none → (upd H p o) b ≠ none := fun b h => by
    by_cases e : b = p
    · rw [e, upd_same]; simp
    · rw [upd_ne e]; exact h
  refine ⟨fun _ h => h, ⟨m.len, fun b h => nw b (m.trk b h), fun i d h => ?_, fun i d h => ?_, m.inj⟩, fr, fun _ h => .inl h, fun _ h => .inl h, nw, fun _ _ => rfl⟩
  · obtain ⟨v, h1, h2⟩ := m.ro i d h
    exact ⟨v, h1, Rep.keep (fun _ z => z) (m.keepT fr) (m.keepK fr) d v h2⟩
  · obtain ⟨a, h1, h2, h3⟩ := m.own i d h
    refine ⟨a, h1, h2, Top.keep (fun _ z => z) (m.keepT fr) (m.keepK fr) (fun u e => ?_) h3⟩
    rw [upd_ne (ne_of_none e n)]; exact e
/-- nothing changes but that R grows by an object that is no own slot's and was made by us, or is not there at all -/
theorem Mt.grow (m : Mt K w R ρ σ H) {p : Addr} (n : ¬ Own ρ σ p) (hp : H p ≠ none) : Mt K w (fun b => R b ∨ b = p) ρ σ H := by
  refine ⟨m.len, fun b h => h.elim (m.trk b) (fun e => e ▸ hp), fun i d h => ?_, fun i d h => ?_, m.inj⟩
  · obtain ⟨v, h1, h2⟩ := m.ro i d h
    exact ⟨v, h1, Rep.keep (fun _ z => .inl z) (fun _ _ _ z => z) (fun _ _ _ z => z) d v h2⟩
  · obtain ⟨a, h1, h2, h3⟩ := m.own i d h
    refine ⟨a, h1, fun z => ?_, Top.keep (fun _ z => .inl z) (fun _ _ _ z => z) (fun _ _ _ z => z) (fun _ z => z) h3⟩
    rcases z with z | z
    · exact h2 z
    · exact n ⟨i, d, h, z ▸ h1⟩
end
end PV

/-! PV, part Eb: dicts: read, written, at the layer's level; the keys are ints and texts, or tuples of them. -/
namespace PV
open PySem PySem.Spec PyProof.Rows L2
def keyS : D → D → Bool
  | .int i, .int j => decide (i = j)
  | .str x, .str y => decide (x = y)
  | _, _ => false
def keqs : List D → List D → Bool
  | [], [] => true
  | x :: xs, y :: ys => keyS x y && keqs xs ys
  | _, _ => false
/-- two keys are one -/
def keq : D → D → Bool
  | .int i, .int j => decide (i = j)
  | .str x, .str y => decide (x = y)
  | .tup xs, .tup ys => keqs xs ys
  | _, _ => false
def isS : D → Bool
  | .int _ => true
  | .str _ => true
  | _ => false
def isT : D → Bool
  | .tup xs => xs.all isS
  | _ => false
/-- a key that fits -/
def kOk (ks : List D) (k : D) : Bool := (isS k && ks.all isS) || (isT k && ks.all isT)
def getK {α : Type} (k : D) : List D → List α → Option α
  | k' :: ks, x :: xs => if keq k' k then some x else getK k ks xs
  | _, _ => none
def repK {α : Type} (k : D) (y : α) : List D → List α → List α
  | k' :: ks, x :: xs => (if keq k' k then y else x) :: repK k y ks xs
  | _, _ => []
def hasK (k : D) (ks : List D) : Bool := ks.any fun k' => keq k' k
def putKs (k : D) (ks : List D) : List D := if hasK k ks then ks else ks ++ [k]
def putVs {α : Type} (k : D) (y : α) (ks : List D) (xs : List α) : List α := if hasK k ks then repK k y ks xs else xs ++ [y]

theorem keyS_kD (a b : Key) : keyS (kD a) (kD b) = decide (a = b) := by
  cases a <;> cases b <;> simp [kD, keyS]
theorem keq_kD (a b : Key) : keq (kD a) (kD b) = decide (a = b) := by
  cases a <;> cases b <;> simp [kD, keq]
theorem keqs_kD : ∀ (a b : List Key), keqs (a.map kD) (b.map kD) = decide (a = b)
  | [], [] => rfl
  | x :: a, y :: b => by
    rw [List.map_cons, List.map_cons]
    unfold keqs
    rw [keyS_kD, keqs_kD a b]
    by_cases h : x = y <;> by_cases h' : a = b <;> simp [h, h']
  | [], _ :: _ => rfl
  | _ :: _, [] => rfl
theorem keq_T (a b : List Key) : keq (.tup (a.map kD)) (.tup (b.map kD)) = decide (a = b) := keqs_kD a b
theorem isS_kD (a : Key) : isS (kD a) = true := by cases a <;> rfl
theorem isS_of {d : D} (h : isS d = true) : ∃ κ, d = kD κ := by
  cases d with
  | int i => exact ⟨.inl i, rfl⟩
  | str s => exact ⟨.inr s, rfl⟩
  | _ => cases h
theorem isSs_of : ∀ {ds : List D}, ds.all isS = true → ∃ κs : List Key, ds = κs.map kD
  | [], _ => ⟨[], rfl⟩
  | d :: ds, h => by
    rw [List.all_cons, Bool.and_eq_true] at h
    obtain ⟨κ, rfl⟩ := isS_of h.1
    obtain ⟨κs, e⟩ := isSs_of h.2
    exact ⟨κ :: κs, by rw [e]; rfl⟩
theorem isT_of {d : D} (h : isT d = true) : ∃ κs : List Key, d = .tup (κs.map kD) := by
  cases d with
  | tup xs =>
    obtain ⟨κs, e⟩ := isSs_of (show xs.all isS = true from h)
    exact ⟨κs, by rw [e]⟩
  | _ => cases h
theorem getK_len {α β : Type} {k : D} : ∀ {ks : List D} {xs : List α} {ys : List β}, xs.length = ys.length → (getK k ks xs).isSome = (getK k ks ys).isSome
  | [], _, _, _ => rfl
  | _ :: _, [], [], _ => rfl
  | k' :: ks, x :: xs, y :: ys, h => by
    unfold getK
    by_cases e : keq k' k = true
    · rw [if_pos e, if_pos e]; rfl
    · rw [if_neg e, if_neg e]
      exact getK_len (by simpa using h)
  | _ :: _, [], _ :: _, h => by simp at h
  | _ :: _, _ :: _, [], h => by simp at h
theorem getK_rel {k : D} : ∀ {ks : List D} {xs : List V} {us : List Value}, Vals xs us → RelO (getK k ks xs) (getK k ks us)
  | [], _, _, _ => trivial
  | _ :: _, _, _, .nil => trivial
  | k' :: ks, _, _, .cons r t => by
    unfold getK
    by_cases e : keq k' k = true
    · rw [if_pos e, if_pos e]; exact r
    · rw [if_neg e, if_neg e]; exact getK_rel t
theorem repK_vals {k : D} {y : V} {u : Value} (r : RelV y u) : ∀ {ks : List D} {xs : List V} {us : List Value}, Vals xs us → Vals (repK k y ks xs) (repK k u ks us)
  | [], _, _, _ => .nil
  | _ :: _, _, _, .nil => .nil
  | k' :: ks, _, _, .cons r' t => by
    unfold repK
    by_cases e : keq k' k = true
    · rw [if_pos e, if_pos e]; exact .cons r (repK_vals r t)
    · rw [if_neg e, if_neg e]; exact .cons r' (repK_vals r t)
theorem repK_len {α : Type} {k : D} {y : α} : ∀ {ks : List D} {xs : List α}, ks.length = xs.length → (repK k y ks xs).length = xs.length
  | [], [], _ => rfl
  | k' :: ks, x :: xs, h => by
    unfold repK
    rw [List.length_cons, List.length_cons, repK_len (by simpa using h)]
  | [], _ :: _, h => by simp at h
  | _ :: _, [], h => by simp at h

section
variable {K : PySem.W.Frag} {w : World} {R : Addr → Prop} {H : Hp}
theorem getK_reps {k : D} : ∀ {ks vs : List D} {xs : List V}, Reps K w R H vs xs → match getK k ks vs, getK k ks xs with | some d, some x => Rep K w R H d x | none, none => True | _, _ => False
  | [], _, _, _ => trivial
  | _ :: _, [], [], _ => trivial
  | k' :: ks, v :: vs, x :: xs, h => by
    unfold getK
    by_cases e : keq k' k = true
    · rw [if_pos e, if_pos e]; exact h.1
    · rw [if_neg e, if_neg e]; exact getK_reps h.2
  | _ :: _, [], _ :: _, h => h.elim
  | _ :: _, _ :: _, [], h => h.elim
theorem getK_some {k : D} {ks vs : List D} {xs : List V} {d : D} (h : Reps K w R H vs xs) (e : getK k ks vs = some d) : ∃ x, getK k ks xs = some x ∧ Rep K w R H d x := by
  have q := getK_reps (k := k) (ks := ks) h
  rw [e] at q
  cases q2 : getK k ks xs with
  | none => rw [q2] at q; exact q.elim
  | some x => rw [q2] at q; exact ⟨x, rfl, q⟩
theorem getK_none {k : D} {ks vs : List D} {xs : List V} (h : Reps K w R H vs xs) (e : getK k ks vs = none) : getK k ks xs = none := by
  have q := getK_reps (k := k) (ks := ks) h
  rw [e] at q
  cases q2 : getK k ks xs with
  | none => rfl
  | some x => rw [q2] at q; exact q.elim
theorem repK_reps {k d : D} {y : V} (r : Rep K w R H d y) : ∀ {ks vs : List D} {xs : List V}, Reps K w R H vs xs → Reps K w R H (repK k d ks vs) (repK k y ks xs)
  | [], _, _, _ => trivial
  | _ :: _, [], [], _ => trivial
  | k' :: ks, v :: vs, x :: xs, h => by
    unfold repK
    by_cases e : keq k' k = true
    · rw [if_pos e, if_pos e]; exact ⟨r, repK_reps r h.2⟩
    · rw [if_neg e, if_neg e]; exact ⟨h.1, repK_reps r h.2⟩
  | _ :: _, [], _ :: _, h => h.elim
  | _ :: _, _ :: _, [], h => h.elim
end

/-! ### the layer's dicts of scalar keys -/
theorem getK_dK (κ : Key) : ∀ kvs : List (Key × V), getK (kD κ) (kvs.map fun p => kD p.1) (kvs.map (·.2)) = valV kvs κ
  | [] => rfl
  | p :: r => by
    rw [List.map_cons, List.map_cons]
    unfold getK
    rw [keq_kD]
    by_cases e : p.1 = κ
    · rw [valV_pos e, decide_eq_true e, if_pos rfl]
    · rw [valV_neg e, decide_eq_false e, if_neg Bool.false_ne_true]
      exact getK_dK κ r
theorem hasK_dK (κ : Key) (kvs : List (Key × V)) : hasK (kD κ) (kvs.map fun p => kD p.1) = kvs.any fun kv => decide (kv.1 = κ) := by
  unfold hasK
  rw [List.any_map]
  congr 1
  funext p
  exact keq_kD _ _
theorem put_dK (κ : Key) (y : V) (kvs : List (Key × V)) : putKs (kD κ) (kvs.map fun p => kD p.1) = (putK kvs κ y).map (fun p => kD p.1) ∧ putVs (kD κ) y (kvs.map fun p => kD p.1) (kvs.map (·.2)) = (putK kvs κ y).map (·.2) := by
  unfold putKs putVs putK
  rw [hasK_dK]
  by_cases h : (kvs.any fun kv => decide (kv.1 = κ)) = true
  · rw [if_pos h, if_pos h, if_pos h]
    refine ⟨?_, ?_⟩
    · rw [List.map_map]
      refine List.map_congr_left fun p _ => ?_
      show kD p.1 = kD (if p.1 = κ then (p.1, y) else p).1
      split <;> rfl
    · clear h
      induction kvs with
      | nil => rfl
      | cons p r ih =>
        rw [List.map_cons, List.map_cons, List.map_cons, List.map_cons]
        unfold repK
        rw [keq_kD, ih]
        by_cases e : p.1 = κ
        · rw [decide_eq_true e, if_pos rfl, if_pos e]
        · rw [decide_eq_false e, if_neg Bool.false_ne_true, if_neg e]
  · rw [if_neg h, if_neg h, if_neg h]
    exact ⟨by rw [List.map_append]; rfl, by rw [List.map_append]; rfl⟩

/-! ### dicts of keys that are tuples -/
def zip3 (kas : List (List Key × Addr)) (us : List Value) : List (List Key × Addr × Value) := (kas.zip us).map fun p => (p.1.1, p.1.2, p.2)
abbrev kT (p : List Key × Addr) : D := .tup (p.1.map kD)
theorem getK_T (κs : List Key) : ∀ (kas : List (List Key × Addr)) (us : List Value), getK (.tup (κs.map kD)) (kas.map kT) us = (atKey (zip3 kas us) κs).map (·.2)
  | [], _ => rfl
  | _ :: _, [] => rfl
  | p :: r, u :: us => by
    rw [List.map_cons]
    unfold getK
    rw [keq_T]
    have ih := getK_T κs r us
    by_cases e : p.1 = κs
    · rw [decide_eq_true e, if_pos rfl]
      have b : atKey (zip3 (p :: r) (u :: us)) κs = some (p.2, u) := by simp [zip3, atKey, List.find?_cons, e]
      rw [b]; rfl
    · rw [decide_eq_false e, if_neg Bool.false_ne_true, ih]
      have b : atKey (zip3 (p :: r) (u :: us)) κs = atKey (zip3 r us) κs := by simp [zip3, atKey, List.find?_cons, e]
      rw [b]
theorem hasK_T (κs : List Key) : ∀ (kas : List (List Key × Addr)) (us : List Value), kas.length = us.length → hasK (.tup (κs.map kD)) (kas.map kT) = (atKey (zip3 kas us) κs).isSome
  | [], _, _ => rfl
  | _ :: _, [], h => by simp at h
  | p :: r, u :: us, h => by
    have ih := hasK_T κs r us (by simpa using h)
    unfold hasK at ih ⊢
    rw [List.map_cons, List.any_cons, keq_T, ih]
    by_cases e : p.1 = κs
    · simp [zip3, atKey, List.find?_cons, e]
    · simp [zip3, atKey, List.find?_cons, e]
theorem repK_T (κs : List Key) (v : Value) : ∀ (kas : List (List Key × Addr)) (us : List Value), zip3 kas (repK (.tup (κs.map kD)) v (kas.map kT) us) = (zip3 kas us).map (putAt κs v)
  | [], _ => rfl
  | _ :: _, [] => rfl
  | p :: r, u :: us => by
    have ih := repK_T κs v r us
    unfold zip3 at ih ⊢
    rw [List.map_cons]
    unfold repK
    rw [List.zip_cons_cons, List.map_cons, ih, List.zip_cons_cons, List.map_cons, List.map_cons, keq_T]
    congr 1
    unfold putAt
    by_cases e : p.1 = κs
    · rw [decide_eq_true e, if_pos rfl, if_pos e]
    · rw [decide_eq_false e, if_neg Bool.false_ne_true, if_neg e]
theorem zip3_fst : ∀ {kas : List (List Key × Addr)} {us : List Value}, kas.length = us.length → (zip3 kas us).map (·.1) = kas.map (·.1)
  | [], _, _ => rfl
  | _ :: _, [], h => by simp at h
  | p :: r, u :: us, h => by
    have ih := zip3_fst (kas := r) (us := us) (by simpa using h)
    unfold zip3 at ih ⊢
    rw [List.zip_cons_cons, List.map_cons, List.map_cons, List.map_cons, ih]
theorem zip3_ent {P : Program} {w : World} : ∀ (kas : List (List Key × Addr)) (us : List Value), (zip3 kas us).map (entryOfKey (tupleKind (mixKind P w))) = (kas.zip us).map fun p => ⟨tH w p.1.1, .ref p.1.2, p.2⟩ := fun kas us => by
  unfold zip3
  rw [List.map_map]
  rfl
theorem zip3_len {kas : List (List Key × Addr)} {us : List Value} (h : kas.length = us.length) : (zip3 kas us).length = kas.length := by
  unfold zip3
  rw [List.length_map, List.length_zip]
  omega
theorem zip3_mem {kas : List (List Key × Addr)} {us : List Value} {q : List Key × Addr × Value} (h : q ∈ zip3 kas us) : (q.1, q.2.1) ∈ kas := by
  unfold zip3 at h
  obtain ⟨p, hp, rfl⟩ := List.mem_map.mp h
  exact (List.of_mem_zip hp).1
section
variable {X : Cx} {pins : List (Addr × Obj)} {σ : L2.St} {H : Hp} {s : Shared} {a b : Addr}
theorem key_fz {κs : List Key} (I : Inv X pins σ H s) (e : TupOk X.K H b (κs.map kV)) : (tupleKind (mixKind X.prog X.w)).is s.heap κs b := by
  obtain ⟨its, r, ⟨o, h1, h2, n, h3⟩, _⟩ := I.tuple e.sq
  exact ⟨o, its.toArray, n, h1, h2, h3, by simpa using items_are r⟩
/-- what is known of such a dict; the empty one is one, too -/
def DTok (K : PySem.W.Frag) (w : World) (H : Hp) (a : Addr) (kas : List (List Key × Addr)) (xs : List V) (u : HO) : Prop := (u = DTO w a kas xs ∨ (u = .dK [] ∧ kas = [] ∧ xs = [])) ∧ ∀ p ∈ kas, TupOk K H p.2 (p.1.map kV)
theorem dto_rd {kas : List (List Key × Addr)} {xs : List V} {u : HO} (I : Inv X pins σ H s) (e : Rd H a u) (h : DTok X.K X.w H a kas xs u) :
    kas.length ≤ sizeLine ∧ (a == sysModules) = false ∧ ∃ us, Vals xs us ∧ kas.length = us.length ∧ s.heap.DictOfH (tupleKind (mixKind X.prog X.w)) a (zip3 kas us) := by
  obtain ⟨h, hk⟩ := h
  rcases h with rfl | ⟨rfl, rfl, rfl⟩
  · obtain ⟨⟨z, hd, nd, us, o, es, ep, rv, hl, ho, hx, hdt, he⟩, _, _⟩ := (show ObjOk X.prog X.w H s.heap a (DTO X.w a kas xs) from rd_of I.hok e)
    refine ⟨z, hd, us, rv, hl, o, es, ep, ho, hx, hdt, by rw [he, zip3_ent], fun q hq => key_fz I (hk _ (zip3_mem hq)), by rw [zip3_fst hl]; exact nd⟩
  · obtain ⟨z, hd, vs, rel, dd⟩ := dk_rd I.hok e
    cases rel
    obtain ⟨o, es, ep, ho, hx, hdt, _, hp, _⟩ := dd
    have he : es.toList = [] := by
      generalize es.toList = l at hp
      cases hp
      rfl
    exact ⟨Nat.zero_le _, hd, [], .nil, rfl, o, es, ep, ho, hx, hdt, by rw [he]; rfl, (fun q hq => nomatch hq), .nil⟩
/-- a key: its value -/
def KyV (K : PySem.W.Frag) (H : Hp) (k : D) (y : V) : Prop := (∃ κ : Key, k = kD κ ∧ y = kV κ) ∨ ∃ (κs : List Key) (b : Addr), k = .tup (κs.map kD) ∧ y = .ref b ∧ TupOk K H b (κs.map kV)
theorem reps_kV {K : PySem.W.Frag} {w : World} {R : Addr → Prop} {H : Hp} : ∀ {κs : List Key} {xs : List V}, Reps K w R H (κs.map kD) xs → xs = κs.map kV
  | [], [], _ => rfl
  | κ :: κs, x :: xs, h => by
    have e1 : x = kV κ := by
      have := h.1
      cases κ <;> exact this
    rw [e1, reps_kV (κs := κs) (xs := xs) h.2]
    rfl
  | [], _ :: _, h => h.elim
  | _ :: _, [], h => h.elim
theorem kyV_of {K : PySem.W.Frag} {w : World} {R : Addr → Prop} {H : Hp} {k : D} {y : V} (h : Rep K w R H k y) (hk : isS k = true ∨ isT k = true) : KyV K H k y := by
  rcases hk with hk | hk
  · obtain ⟨κ, rfl⟩ := isS_of hk
    refine .inl ⟨κ, rfl, ?_⟩
    cases κ <;> exact h
  · obtain ⟨κs, rfl⟩ := isT_of hk
    obtain ⟨b, xs, rfl, h1, h2⟩ := h
    rw [reps_kV h2] at h1
    exact .inr ⟨κs, b, rfl, rfl, h1⟩
theorem kOk_is {ks : List D} {k : D} (h : kOk ks k = true) : isS k = true ∨ isT k = true := by
  unfold kOk at h
  rw [Bool.or_eq_true, Bool.and_eq_true, Bool.and_eq_true] at h
  exact h.imp (·.1) (·.1)
/-- how a dict and a key that fits go together -/
theorem dct_cases {K : PySem.W.Frag} {w : World} {ks : List D} {xs : List V} {u : HO} {k : D} {y : V} (dc : DctC K w H a ks xs u) (hk : kOk ks k = true) (ky : KyV K H k y) :
    (∃ (κ : Key) (kvs : List (Key × V)), k = kD κ ∧ y = kV κ ∧ u = .dK kvs ∧ ks = kvs.map (fun p => kD p.1) ∧ xs = kvs.map (·.2)) ∨
      ∃ (κs : List Key) (b : Addr) (kas : List (List Key × Addr)), k = .tup (κs.map kD) ∧ y = .ref b ∧ TupOk K H b (κs.map kV) ∧ ks = kas.map kT ∧ DTok K w H a kas xs u := by
  unfold kOk at hk
  rw [Bool.or_eq_true, Bool.and_eq_true, Bool.and_eq_true] at hk
  rcases ky with ⟨κ, rfl, rfl⟩ | ⟨κs, b, rfl, rfl, hb⟩
  · have hks : ks.all isS = true := by
      rcases hk with hk | hk
      · exact hk.2
      · cases κ <;> cases hk.1
    rcases dc with ⟨kvs, e1, e2, e3⟩ | ⟨kas, e1, n, e2, _⟩
    · exact .inl ⟨κ, kvs, rfl, rfl, e1, e2, e3⟩
    · subst e2
      cases kas with
      | nil => exact absurd rfl n
      | cons p r => simp [isS] at hks
  · have hks : ks.all isT = true := by
      rcases hk with hk | hk
      · cases hk.1
      · exact hk.2
    refine .inr ⟨κs, b, ?_⟩
    rcases dc with ⟨kvs, e1, e2, e3⟩ | ⟨kas, e1, n, e2, e3⟩
    · subst e2 e3
      cases kvs with
      | nil => exact ⟨[], rfl, rfl, hb, rfl, .inr ⟨e1, rfl, rfl⟩, fun p hp => nomatch hp⟩
      | cons p r =>
        rw [List.map_cons, List.all_cons, Bool.and_eq_true] at hks
        have := hks.1
        cases q : p.1 <;> rw [q] at this <;> cases this
    · exact ⟨kas, rfl, rfl, hb, e2, .inl e1, e3⟩
variable {ks : List D} {xs : List V} {u : HO} {k : D} {y v : V} {uy : Value} {A : Around} {E : Value → Shared → Prop}
/-- d[k], there -/
theorem dct_get {Q : Value → Shared → Prop} (hu : A.units + 1 < cLine) (I : Inv X pins σ H s) (e : Rd H a u) (dc : DctC X.K X.w H a ks xs u) (hk : kOk ks k = true) (ky : KyV X.K H k y) (ry : RelV y uy) (g : getK k ks xs = some v)
    (h : ∀ w' s', Inv X pins σ H s' → RelV v w' → Q w' s') : wpAny (model X.prog X.w) A (getItem (.ref a) uy) Q E s := by
  rcases dct_cases dc hk ky with ⟨κ, kvs, rfl, rfl, rfl, rfl, rfl⟩ | ⟨κs, b, kas, rfl, rfl, hb, rfl, ok⟩
  · rw [getK_dK] at g
    exact d_getItem hu I (.inl ⟨kvs, κ, e, rfl, g.symm⟩) ry h
  · cases (show uy = Value.ref b from ry)
    obtain ⟨z, hd, us, rv, hl, dd⟩ := dto_rd I e ok
    have rel := getK_rel (k := .tup (κs.map kD)) (ks := kas.map kT) rv
    rw [g] at rel
    obtain ⟨w', hw, rw'⟩ := RelO.some_of (v := v) (o := getK (.tup (κs.map kD)) (kas.map kT) us) rel
    rw [getK_T] at hw
    obtain ⟨p, hp, hp2⟩ := Option.map_eq_some_iff.mp hw
    refine wpAny_getItem_heap (tupleKind_room_in1 hu) (key_fz I hb) dd hp ?_
    rw [hp2]
    exact h w' _ (I.tok _) rw'
theorem some_T {κs : List Key} {kas : List (List Key × Addr)} {us : List Value} (rv : Vals xs us) (hl : kas.length = us.length) : (getK (.tup (κs.map kD)) (kas.map kT) xs).isSome = (atKey (zip3 kas us) κs).isSome := by
  rw [getK_len rv.length, getK_T, Option.isSome_map]
/-- k in d -/
theorem dct_in {Q : Value → Shared → Prop} (hu : A.units + 1 < cLine) (I : Inv X pins σ H s) (e : Rd H a u) (dc : DctC X.K X.w H a ks xs u) (hk : kOk ks k = true) (ky : KyV X.K H k y) (ry : RelV y uy)
    (h : ∀ s', Inv X pins σ H s' → Q (.bool (getK k ks xs).isSome) s') : wpAny (model X.prog X.w) A (compareOp .In uy (.ref a)) Q E s := by
  rcases dct_cases dc hk ky with ⟨κ, kvs, rfl, rfl, rfl, rfl, rfl⟩ | ⟨κs, b, kas, rfl, rfl, hb, rfl, ok⟩
  · rw [getK_dK] at h
    exact d_in hu I (.inl ⟨kvs, κ, e, rfl, rfl⟩) ry h
  · cases (show uy = Value.ref b from ry)
    obtain ⟨z, hd, us, rv, hl, dd⟩ := dto_rd I e ok
    refine wpAny_in_heap (tupleKind_room_in1 hu) (key_fz I hb) hd dd ?_
    rw [← some_T rv hl]
    exact h _ (I.tok _)
theorem dct_notIn {Q : Value → Shared → Prop} (hu : A.units + 1 < cLine) (I : Inv X pins σ H s) (e : Rd H a u) (dc : DctC X.K X.w H a ks xs u) (hk : kOk ks k = true) (ky : KyV X.K H k y) (ry : RelV y uy)
    (h : ∀ s', Inv X pins σ H s' → Q (.bool (!(getK k ks xs).isSome)) s') : wpAny (model X.prog X.w) A (compareOp .NotIn uy (.ref a)) Q E s := by
  rcases dct_cases dc hk ky with ⟨κ, kvs, rfl, rfl, rfl, rfl, rfl⟩ | ⟨κs, b, kas, rfl, rfl, hb, rfl, ok⟩
  · rw [getK_dK] at h
    exact d_notIn hu I (.inl ⟨kvs, κ, e, rfl, rfl⟩) ry h
  · cases (show uy = Value.ref b from ry)
    obtain ⟨z, hd, us, rv, hl, dd⟩ := dto_rd I e ok
    refine wpAny_notIn_heap (tupleKind_room_in1 hu) (key_fz I hb) hd dd ?_
    rw [← some_T rv hl]
    exact h _ (I.tok _)
/-- len(d) -/
theorem dct_len {Q : Value → Shared → Prop} (I : Inv X pins σ H s) (e : Rd H a u) (dc : DctC X.K X.w H a ks xs u) (h : ∀ t s', Inv X pins σ H s' → Q (.int ks.length t) s') : wpAny (model X.prog X.w) A (call (.builtin "len") [.ref a]) Q E s := by
  rcases dc with ⟨kvs, rfl, rfl, rfl⟩ | ⟨kas, rfl, n, rfl, hk⟩
  · rw [List.length_map] at h
    exact d_len I e h
  · obtain ⟨z, hd, us, rv, hl, dd⟩ := dto_rd I e ⟨.inl rfl, hk⟩
    refine call_len_dictH hd dd (by rw [zip3_len hl]; rw [sizeLine_eq] at z; omega) ?_
    rw [zip3_len hl]
    rw [List.length_map] at h
    exact h _ _ (I.tok _)
/-- it is a dict -/
theorem dct_is (I : Inv X pins σ H s) (e : Rd H a u) (dc : DctC X.K X.w H a ks xs u) : ∃ o, s.heap.get? a = some o ∧ o.cls = .type "dict" ∧ o.dict = none := by
  rcases dc with ⟨kvs, rfl, rfl, rfl⟩ | ⟨kas, rfl, n, rfl, hk⟩
  · obtain ⟨_, _, vs, _, ob, _, _, h1, h2, _⟩ := dk_rd I.hok e
    exact ⟨ob, h1, h2.1, h2.2.1⟩
  · obtain ⟨z, hd, us, rv, hl, ob, _, _, h1, h2, _⟩ := dto_rd I e ⟨.inl rfl, hk⟩
    exact ⟨ob, h1, h2.1, h2.2.1⟩
/-- d[k] = v -/
theorem dct_put {Q : Unit → Shared → Prop} {uv : Value} (hu : A.units + 1 < cLine) (I : Inv X pins σ H s) (e : H a = some u) (dc : DctC X.K X.w H a ks xs u) (hk : kOk ks k = true) (ky : KyV X.K H k y) (ry : RelV y uy) (rv : RelV v uv) (hz : ks.length < sizeLine)
    (h : ∀ u' s', Inv X pins σ (upd H a u') s' → (∀ H', (∀ b o, Fz o → H b = some o → H' b = some o) → DctC X.K X.w H' a (putKs k ks) (putVs k v ks xs) u') → Q () s') : wpAny (model X.prog X.w) A (setItem (.ref a) uy uv) Q E s := by
  rcases dct_cases dc hk ky with ⟨κ, kvs, rfl, rfl, rfl, rfl, rfl⟩ | ⟨κs, b, kas, rfl, rfl, hb, rfl, ok⟩
  · rw [List.length_map] at hz
    refine d_setItem hu I (.inl ⟨kvs, κ, e, rfl, hz, rfl⟩) ry rv fun s' I' => h _ s' I' fun H' _ => .inl ⟨_, rfl, ?_, ?_⟩
    · exact (put_dK κ v kvs).1
    · exact (put_dK κ v kvs).2
  · cases (show uy = Value.ref b from ry)
    rw [List.length_map] at hz
    obtain ⟨_, hd, us, rvs, hl, dd⟩ := dto_rd I (.inl e) ok
    have mu : Mut (H a) := by
      rw [e]
      rcases ok.1 with rfl | ⟨rfl, _⟩ <;> trivial
    refine wpAny_setItem_heap (hsz := by rw [zip3_len hl]; omega) (tupleKind_room_in1 hu) (key_fz I hb) dd fun h' dd' hs => ?_
    have hh := hasK_T κs kas us hl
    obtain ⟨q, es, ep, hq, h2, h3, h4, hkk, h5⟩ := dd'
    by_cases c : hasK (.tup (κs.map kD)) (kas.map kT) = true
    · have e1 : storedH (zip3 kas us) κs b uv = zip3 kas (repK (.tup (κs.map kD)) uv (kas.map kT) us) := by
        rw [repK_T]
        unfold storedH
        rw [if_pos (by rw [← hh]; exact c)]
      have hl' : kas.length = (repK (.tup (κs.map kD)) uv (kas.map kT) us).length := by rw [repK_len (by rw [List.length_map]; exact hl)]; exact hl
      rw [e1] at h4 h5
      rw [zip3_ent] at h4
      rw [zip3_fst hl'] at h5
      have new : ObjOk X.prog X.w (upd H a (DTO X.w a kas (repK (.tup (κs.map kD)) v (kas.map kT) xs))) h' a (DTO X.w a kas (repK (.tup (κs.map kD)) v (kas.map kT) xs)) :=
        ⟨⟨by omega, hd, h5, _, q, es, ep, repK_vals rv rvs, hl', hq, h2, h3, h4⟩, ⟨q, hq⟩, fun g1 g2 ⟨z1, z2, z3, us', o, es', ep', z4, z5, z6, z7⟩ k => ⟨z1, z2, z3, us', o, es', ep', z4, z5, k _ z6, z7⟩⟩
      refine h _ _ (d_write I mu hs ⟨q, hq⟩ new) fun H' hT => .inr ⟨kas, ?_, ?_, ?_, fun p hp => tupOk_keep hT (ok.2 p hp)⟩
      · unfold putVs; rw [if_pos c]
      · rintro rfl
        cases c
      · unfold putKs; rw [if_pos c]
    · have e1 : storedH (zip3 kas us) κs b uv = zip3 (kas ++ [(κs, b)]) (us ++ [uv]) := by
        unfold storedH zip3
        rw [if_neg (by rw [← zip3, ← hh]; exact c), List.zip_append hl, List.map_append]
        rfl
      have hl' : (kas ++ [(κs, b)]).length = (us ++ [uv]).length := by rw [List.length_append, List.length_append, hl]; rfl
      rw [e1] at h4 h5
      rw [zip3_ent] at h4
      rw [zip3_fst hl'] at h5
      have new : ObjOk X.prog X.w (upd H a (DTO X.w a (kas ++ [(κs, b)]) (xs ++ [v]))) h' a (DTO X.w a (kas ++ [(κs, b)]) (xs ++ [v])) :=
        ⟨⟨by rw [List.length_append]; show kas.length + 1 ≤ _; omega, hd, h5, _, q, es, ep, rvs.append (.cons rv .nil), hl', hq, h2, h3, h4⟩, ⟨q, hq⟩, fun g1 g2 ⟨z1, z2, z3, us', o, es', ep', z4, z5, z6, z7⟩ k => ⟨z1, z2, z3, us', o, es', ep', z4, z5, k _ z6, z7⟩⟩
      refine h _ _ (d_write I mu hs ⟨q, hq⟩ new) fun H' hT => .inr ⟨kas ++ [(κs, b)], ?_, by simp, ?_, fun p hp => ?_⟩
      · unfold putVs; rw [if_neg c]
      · unfold putKs; rw [if_neg c, List.map_append]; rfl
      · rcases List.mem_append.mp hp with hp | hp
        · exact tupOk_keep hT (ok.2 p hp)
        · rw [List.mem_singleton.mp hp]; exact tupOk_keep hT hb
end
end PV

/-! PV, part B: the pure interpreter. -/
namespace PV
open PySem PySem.Spec PyProof.Rows L2

/-! ### data -/
mutual
def D.py : D → PyData
  | .non => .none
  | .bl b => .bool b
  | .int i => .int i
  | .str s => .str s
  | .tup xs => .tuple (pyAll xs)
  | .lst xs => .list (pyAll xs)
  | .dct _ _ => .none
  | .set _ => .none
  | .rtp _ => .none
  | .dcf _ _ => .none
  | .scr ns => .list (ns.map .int)
def pyAll : List D → List PyData
  | [] => []
  | d :: ds => d.py :: pyAll ds
end
mutual
/-- neither dicts nor sets within -/
def D.eqOk : D → Bool
  | .tup xs => eqOkAll xs
  | .lst xs => eqOkAll xs
  | .dct _ _ => false
  | .set _ => false
  | .rtp _ => false
  | .dcf _ _ => false
  | _ => true
def eqOkAll : List D → Bool
  | [] => true
  | d :: ds => d.eqOk && eqOkAll ds
end
def D.cmpOk (d : D) : Bool := d.eqOk && SeqAt.shaped d.py
def D.eqv (d e : D) : Bool := PyData.eqv d.py e.py
def most : Nat := 16000000
def intsOf : List D → Option (List Int)
  | [] => some []
  | .int i :: r => (intsOf r).map (i :: ·)
  | _ :: _ => none
def blsOf : List D → Option (List Bool)
  | [] => some []
  | .bl i :: r => (blsOf r).map (i :: ·)
  | _ :: _ => none
def items : D → Option (List D)
  | .tup xs => some xs
  | .lst xs => some xs
  | .scr ns => some (ns.map .int)
  | _ => none
/-- .. of a locked dict: its keys -/
def itemsW : D → Option (List D)
  | .dcf ks _ => some ks
  | d => items d
/-- the items of a tuple, of a list -/
def rowIt : D → Option (List D)
  | .tup xs => some xs
  | .lst xs => some xs
  | _ => none
def truth : D → Option Bool
  | .str s => if s.length ≤ most then some ((s.length : Int) != 0) else none
  | .non => some false
  | .bl b => some b
  | .int i => some (i != 0)
  | .tup xs => some (!xs.isEmpty)
  | .lst xs => some (!xs.isEmpty)
  | .scr xs => some (!xs.isEmpty)
  | _ => none
def insI (x : Int) : List Int → List Int
  | [] => [x]
  | y :: r => if x ≤ y then x :: y :: r else y :: insI x r
def isort : List Int → List Int
  | [] => []
  | x :: r => insI x (isort r)
def dedup : List Int → List Int
  | [] => []
  | x :: r => if x ∈ r then dedup r else x :: dedup r

/-! ### sorting data -/
def isTupNE : D → Bool
  | .tup (_ :: _) => true
  | _ => false
def isOther : D → Bool
  | .bl _ => true
  | .int _ => true
  | .str _ => true
  | .lst _ => true
  | _ => false
/-- whether they can be sorted: alike, no empty tuple among them -/
def srtOk (ds : List D) : Bool := eqOkAll ds && (ds.all fun d => ds.all fun e => PySem.W.alike d.py e.py) && (ds.all isTupNE || ds.all isOther) && ds.all fun d => decide (d.py.depth ≤ 60)
def srtD (ds : List D) : List D := ds.mergeSort (PySem.W.dataLe false D.py)

/-! ### operators -/
def binD (o : Operator) (a b : D) : Option Rs :=
  match o, a, b with
  | .Add, .int i, .int j => some (.val (.int (i + j)))
  | .Sub, .int i, .int j => some (.val (.int (i - j)))
  | .Mult, .int i, .int j => if (-(2 ^ 64) < i ∧ i < 2 ^ 64) ∨ (-(2 ^ 64) < j ∧ j < 2 ^ 64) then some (.val (.int (i * j))) else none
  | .FloorDiv, .int i, .int j => if 0 < j ∧ j < 1073741824 then some (.val (.int (i / j))) else none
  | .Mod, .int i, .int j => if 0 < j then some (.val (.int (i % j))) else none
  | .Pow, .int i, .int j => if 0 ≤ j ∧ j ≤ 1000000 ∧ i.natAbs < 2 ^ 64 then some (.val (.int (i ^ j.toNat))) else none
  | .Add, .lst xs, .lst ys => if xs.length + ys.length ≤ most then some (.fr (.lst (xs ++ ys))) else none
  | .Add, .tup xs, .tup ys => if xs.length + ys.length ≤ most then some (.val (.tup (xs ++ ys))) else none
  | .Add, .str x, .str y => if x.length + y.length ≤ most then some (.val (.str (x ++ y))) else none
  | .Mult, .tup xs, .int k => if -(2 ^ 63) ≤ k ∧ k < 2 ^ 63 ∧ xs.length * k.toNat ≤ most then some (.val (.tup (List.replicate k.toNat xs).flatten)) else none
  | .Mult, .lst xs, .int k => if -(2 ^ 63) ≤ k ∧ k < 2 ^ 63 ∧ xs.length * k.toNat ≤ most then some (.fr (.lst (List.replicate k.toNat xs).flatten)) else none
  | _, _, _ => none
def isNon : D → Bool
  | .non => true
  | _ => false
/-- whether a value is that truth value -/
def isBlD : D → Bool → Bool
  | .bl x, y => decide (x = y)
  | _, _ => false
def inD (d : D) : D → Option Bool
  | .dct ks vs => if kOk ks d then some (getK d ks vs).isSome else none
  | .dcf ks vs => if kOk ks d then some (getK d ks vs).isSome else none
  | .lst xs => if d.cmpOk && (D.lst xs).cmpOk then some (xs.any fun z => z.eqv d) else none
  | .tup xs => match d, intsOf xs with
    | .int i, some ns => some (decide (i ∈ ns))
    | _, _ => none
  | _ => none
def cmpD (o : CmpOp) (a b : D) : Option Bool :=
  match o, a, b with
  | .Lt, .int i, .int j => some (decide (i < j))
  | .LtE, .int i, .int j => some (decide (i ≤ j))
  | .Gt, .int i, .int j => some (decide (j < i))
  | .GtE, .int i, .int j => some (decide (j ≤ i))
  | .Eq, a, b => if a.cmpOk && b.cmpOk then some (a.eqv b) else none
  | .NotEq, a, b => if a.cmpOk && b.cmpOk then some (!a.eqv b) else none
  | .Is, a, .non => some (isNon a)
  | .IsNot, a, .non => some (!isNon a)
  | .Is, a, .bl y => some (isBlD a y)
  | .IsNot, a, .bl y => some (!isBlD a y)
  | .In, a, b => inD a b
  | .NotIn, a, b => (inD a b).map (!·)
  | _, _, _ => none
def ixD (a i : D) : Option D :=
  match a, i with
  | .lst xs, .int k => atI xs k
  | .tup xs, .int k => atI xs k
  | .scr xs, .int k => (atI xs k).map .int
  | .dct ks vs, k => if kOk ks k then getK k ks vs else none
  | .dcf ks vs, k => if kOk ks k then getK k ks vs else none
  | _, _ => none
/-- d.get(k) -/
def dgtD (a k : D) : Option (Option D) :=
  match a with
  | .dct ks vs => if kOk ks k then some (getK k ks vs) else none
  | .dcf ks vs => if kOk ks k then some (getK k ks vs) else none
  | _ => none
/-- the ints of a tuple, of a list; x0: what it was -/
def rowOf : D → D → Option (List Int)
  | .tup _, .tup xs => intsOf xs
  | .lst _, .lst xs => intsOf xs
  | _, _ => none
def isDct : D → Bool
  | .dct _ _ => true
  | .dcf _ _ => true
  | _ => false
/-- dict(zip(xs, ys)) -/
def dzpD : List D → List D → List D → List D → List D × List D
  | k :: xs, v :: ys, ks, vs => dzpD xs ys (putKs k ks) (putVs k v ks vs)
  | _, _, ks, vs => (ks, vs)
def cutD (xs : List D) (lo hi : Option Int) : List D := (xs.drop (HT.sIx xs.length 0 lo)).take (HT.sIx xs.length xs.length hi - HT.sIx xs.length 0 lo)
def slcD (a : D) (lo hi : Option Int) : Option Rs :=
  match a with
  | .lst xs => some (.fr (.lst (cutD xs lo hi)))
  | .scr xs => some (.fr (.lst (cutD (xs.map .int) lo hi)))
  | .tup xs => some (.val (.tup (cutD xs lo hi)))
  | _ => none
/-- xs[::-1] -/
def revD : D → Option Rs
  | .lst xs => some (.fr (.lst xs.reverse))
  | .scr xs => some (.fr (.lst (xs.map D.int).reverse))
  | .tup xs => some (.val (.tup xs.reverse))
  | _ => none
/-- the built-in class of a value -/
def kindD : D → Option String
  | .non => some "NoneType"
  | .bl _ => some "bool"
  | .int _ => some "int"
  | .str _ => some "str"
  | .tup _ => some "tuple"
  | .lst _ => some "list"
  | .scr _ => some "list"
  | .dct _ _ => some "dict"
  | .dcf _ _ => some "dict"
  | .set _ => none
  | .rtp _ => none
/-- isinstance(d, T) for a built-in class -/
def isiD (t : String) (d : D) : Option Bool :=
  if t ∈ ["int", "bool", "str", "tuple", "list", "dict"] then (kindD d).map fun k => k == t || (k == "bool" && t == "int") else none

inductive Bt where
  | len | tuple | list | sorted | sum | min | max | abs | int | divmod | all | any | set
  deriving DecidableEq
def minL : Int → List Int → Int
  | m, [] => m
  | m, x :: r => minL (if x < m then x else m) r
def maxL : Int → List Int → Int
  | m, [] => m
  | m, x :: r => maxL (if m < x then x else m) r
/-- built-in functions, by values -/
def bltD (f : Bt) (xs : List D) : Option Rs :=
  match f, xs with
  | .len, [.lst xs] => some (.val (.int xs.length))
  | .len, [.tup xs] => some (.val (.int xs.length))
  | .len, [.scr xs] => some (.val (.int xs.length))
  | .len, [.dct ks _] => some (.val (.int ks.length))
  | .len, [.dcf ks _] => some (.val (.int ks.length))
  | .len, [.set ns] => if ns.length ≤ most then some (.val (.int ns.length)) else none
  | .tuple, [.lst xs] => some (.val (.tup xs))
  | .tuple, [.tup xs] => some (.val (.tup xs))
  | .list, [.lst xs] => some (.fr (.lst xs))
  | .list, [.tup xs] => some (.fr (.lst xs))
  | .list, [.scr xs] => some (.fr (.lst (xs.map .int)))
  | .sorted, [.lst xs] => match intsOf xs with
    | some ns => some (.fr (.lst ((isort ns).map .int)))
    | none => if srtOk xs then some (.fr (.lst (srtD xs))) else none
  | .sorted, [.tup xs] => (intsOf xs).map fun ns => .fr (.lst ((isort ns).map .int))
  | .sorted, [.set ns] => if ns.length < 64 then some (.fr (.lst ((isort ns).map .int))) else none
  | .sorted, [.dct ks _] => if ks.all isT && srtOk ks then some (.fr (.lst (srtD ks))) else none
  | .sorted, [.dcf ks _] => if ks.all isT && srtOk ks then some (.fr (.lst (srtD ks))) else none
  | .sum, [.lst xs] => (intsOf xs).map fun ns => .val (.int ns.sum)
  | .sum, [.scr ns] => some (.val (.int ns.sum))
  | .min, [.int i, .int j] => some (.val (.int (if j < i then j else i)))
  | .max, [.int i, .int j] => some (.val (.int (if j > i then j else i)))
  | .min, [.lst (.int x :: xs)] => (intsOf xs).map fun ns => .val (.int (minL x ns))
  | .max, [.lst (.int x :: xs)] => (intsOf xs).map fun ns => .val (.int (maxL x ns))
  | .abs, [.int i] => some (.val (.int (if i < 0 then -i else i)))
  | .int, [.int i] => some (.val (.int i))
  | .divmod, [.int i, .int j] => if 0 < j ∧ j < 1073741824 then some (.val (.rtp [.int (i / j), .int (i % j)])) else none
  | .all, [.lst xs] => (blsOf xs).map fun bs => .val (.bl (bs.all id))
  | .any, [.lst xs] => (blsOf xs).map fun bs => .val (.bl (bs.any id))
  | .set, [.lst xs] => (intsOf xs).bind fun ns => if ns.length ≤ 1000 then some (.fr (.set (dedup ns))) else none
  | .set, [.tup xs] => (intsOf xs).bind fun ns => if ns.length ≤ 1000 then some (.fr (.set (dedup ns))) else none
  | _, _ => none

/-- the least of a row of ints; of none: y, None or an int -/
def mndD (x y : D) : Option D :=
  match rowIt x with
  | some ds => match intsOf ds, y with
    | some [], .non => some .non
    | some [], .int i => some (.int i)
    | some (n :: ns), .non => some (.int (minL n ns))
    | some (n :: ns), .int _ => some (.int (minL n ns))
    | _, _ => none
  | none => none

/-! ### the language -/
inductive Tg where
  | nm (i : Nat) | tp (is : List Nat)
def Tg.slots : Tg → List Nat
  | .nm i => [i]
  | .tp is => is
inductive E where
  | var (i : Nat)
  | con (d : D)
  | glb (x : Str)
  | bin (o : Operator) (a b : E)
  | neg (a : E)
  | not (a : E)
  | bop (and : Bool) (a b : E)
  | ife (c a b : E)
  | cmp (o : CmpOp) (a b : E)
  | chn (o p : CmpOp) (a b c : E)
  | tup (es : List E)
  | lst (es : List E)
  | ix (a i : E)
  | slc (a : E) (lo hi : Option E)
  /-- backwards -/
  | rev (a : E)
  /-- min(a, default=b) -/
  | mnd (a b : E)
  /-- {k: v} -/
  | dsp (k v : E)
  /-- perm: which written argument each parameter gets -/
  | call (f : Str) (es ks : List E) (perm : List Nat)
  | blt (f : Bt) (es : List E)
  | isi (a : E) (t : String)
  /-- methods of the list that a name holds: append, extend, pop -/
  | app (i : Nat) (e : E)
  | ext (i : Nat) (e : E)
  | pop (i : Nat)
  | popi (i : Nat) (e : E)
  /-- list(range(..)), tuple(range(..)) -/
  | ofr (tuple : Bool) (es : List E)
  /-- what is walked: a range, enumerate, zip -/
  | rng (es : List E)
  /-- a value as a test -/
  | tru (a : E)
  | ovr (a : E)
  | enm (a : E)
  | zip (a b : E)
  /-- [elt for t in it if c]: the slots that it binds; no test is none -/
  | lc (elt : E) (t : Tg) (it : E) (c : Option E)
  | lc2 (elt : E) (t : Tg) (it : E) (c : Option E) (t2 : Tg) (it2 : E) (c2 : Option E)
  /-- (*e, f), [*e, f]: which ones are starred -/
  | tupS (es : List E) (st : List Bool)
  | lstS (es : List E) (st : List Bool)
  /-- {}, {k: v for t in it if c}, dict(zip(a, b)) -/
  | dnew
  | dc (k v : E) (t : Tg) (it : E) (c : Option E)
  | dzp (a b : E)
  /-- a.get(k), a.get(k, d) -/
  | dgt (a k : E) (d : Option E)
  /-- index and count of what a name holds: rows of ints -/
  | mix (i : Nat) (e : E)
  | mcn (i : Nat) (e : E)

structure Cfg where
  call : Str → List Sl → Option (Rs × List Sl)
  glb : Str → Option D
  fuel : Nat

def look (ρ : Rho) : Rs → Option D
  | .val d => some d
  | .fr d => some d
  | .al i => match ρ[i]? with
    | some (.ro d) => some d
    | some (.own d) => some d
    | _ => none
/-- the list of an own slot -/
def ownL (ρ : Rho) (i : Nat) : Option (List D) := match ρ[i]? with
  | some (.own (.lst xs)) => some xs
  | _ => none
def lstOf : D → Option (List D)
  | .lst xs => some xs
  | _ => none
def intOf : D → Option Int
  | .int i => some i
  | _ => none
/-- as a value that nobody changes any more -/
def fix (ρ : Rho) : Rs → Option (D × Rho)
  | .val d => some (d, ρ)
  | .fr d => some (d, ρ)
  | .al i => match ρ[i]? with
    | some (.ro d) => some (d, ρ)
    | some (.own d) => some (d, ρ.set i (.ro d))
    | _ => none
/-- as something that is walked: a dict of one's own is locked -/
def fixW (ρ : Rho) : Rs → Option (D × Rho)
  | .fr (.dct ks vs) => some (.dcf ks vs, ρ)
  | .al i => match ρ[i]? with
    | some (.own (.dct ks vs)) => some (.dcf ks vs, ρ.set i (.ro (.dcf ks vs)))
    | some (.ro d) => some (d, ρ)
    | some (.own d) => some (d, ρ.set i (.ro d))
    | _ => none
  | .val d => some (d, ρ)
  | .fr d => some (d, ρ)
def looks (ρ : Rho) : List Rs → Option (List D)
  | [] => some []
  | r :: rs => (look ρ r).bind fun d => (looks ρ rs).map (d :: ·)
/-- as an argument -/
def argOf (ρ : Rho) : Rs → Option Sl
  | .val d => some (.ro d)
  | .fr d => some (.own d)
  | .al i => match ρ[i]? with
    | some (.ro d) => some (.ro d)
    | some (.own d) => some (.own d)
    | _ => none
def argsOf (ρ : Rho) : List Rs → Option (List Sl)
  | [] => some []
  | r :: rs => (argOf ρ r).bind fun d => (argsOf ρ rs).map (d :: ·)
/-- the own slots that are handed to a callee -/
def ownIx (ρ : Rho) : List Rs → List Nat
  | [] => []
  | .al i :: rs => match ρ[i]? with
    | some (.own _) => i :: ownIx ρ rs
    | _ => ownIx ρ rs
  | _ :: rs => ownIx ρ rs
/-- behind a call: what became of the objects that were handed over -/
def giveBack (ρ : Rho) : List Rs → List Sl → Rho
  | .al i :: rs, f :: fs => match ρ[i]? with
    | some (.own _) => (giveBack ρ rs fs).set i f
    | _ => giveBack ρ rs fs
  | _ :: rs, _ :: fs => giveBack ρ rs fs
  | _, _ => ρ
def isAl : Rs → Bool
  | .al _ => true
  | _ => false
def unset (ρ : Rho) : List Nat → Rho
  | [] => ρ
  | i :: is => (unset ρ is).set i .un
def restore (ρ ρ0 : Rho) : List Nat → Rho
  | [] => ρ
  | i :: is => (restore ρ ρ0 is).set i (ρ0[i]?.getD .un)
def setAll (np : Nat) (ρ : Rho) : List Nat → List D → Option Rho
  | [], [] => some ρ
  | i :: is, d :: ds => if np ≤ i ∧ i < ρ.length then setAll np (ρ.set i (.ro d)) is ds else none
  | _, _ => none
def bindT (np : Nat) (ρ : Rho) : Tg → D → Option Rho
  | .nm i, d => if np ≤ i ∧ i < ρ.length then some (ρ.set i (.ro d)) else none
  | .tp is, .tup ds => setAll np ρ is ds
  | .tp is, .rtp ds => setAll np ρ is ds
  | .tp _, _ => none
def rngD : List D → Option (List D)
  | [.int j] => if -(2 ^ 62) ≤ j ∧ j < 2 ^ 62 then some ((List.range j.toNat).map fun (k : Nat) => D.int k) else none
  | [.int i, .int j] => if (-(2 ^ 62) ≤ i ∧ i < 2 ^ 62) ∧ -(2 ^ 62) ≤ j ∧ j < 2 ^ 62 then some ((List.range (j - i).toNat).map fun (k : Nat) => D.int (i + k)) else none
  | _ => none
def enumD (n : Nat) : List D → List D
  | [] => []
  | d :: ds => .rtp [.int n, d] :: enumD (n + 1) ds
def zipD : List D → List D → List D
  | d :: ds, e :: es => .rtp [d, e] :: zipD ds es
  | _, _ => []

def zipItems : D → D → Option (List D)
  | .tup xs, .tup ys => some (zipD xs ys)
  | .lst xs, .lst ys => some (zipD xs ys)
  | .lst xs, .scr ys => some (zipD xs (ys.map .int))
  | .scr xs, .lst ys => some (zipD (xs.map .int) ys)
  | _, _ => none

/-- xs in the order of perm -/
def permV {α : Type} (xs : List α) (perm : List Nat) : List α := perm.filterMap fun i => xs[i]?
/-- .. if perm is an order of their places -/
def permute (rs : List Rs) (perm : List Nat) : Option (List Rs) :=
  if perm.Nodup ∧ perm.length = rs.length ∧ (∀ i ∈ perm, i < rs.length) then some (permV rs perm) else none

/-- the turns of a list comprehension -/
def lcLoop (f : D → Rho → Option (List D × Rho)) : List D → Rho → Option (List D × Rho)
  | [], ρ => some ([], ρ)
  | x :: xs, ρ => (f x ρ).bind fun (ds, ρ1) => (lcLoop f xs ρ1).map fun (es, ρ2) => (ds ++ es, ρ2)

/-- the turns of a dict comprehension -/
def dcLoop (f : D → Rho → Option (Option (D × D) × Rho)) : List D → List D → List D → Rho → Option ((List D × List D) × Rho)
  | [], ks, vs, ρ => some ((ks, vs), ρ)
  | x :: xs, ks, vs, ρ => (f x ρ).bind fun (o, ρ1) => match o with
    | none => dcLoop f xs ks vs ρ1
    | some (k, v) => if kOk ks k = true ∧ ks.length < most then dcLoop f xs (putKs k ks) (putVs k v ks vs) ρ1 else none

mutual
def ev (C : Cfg) : E → Rho → Option (Rs × Rho)
  | .var i, ρ => match ρ[i]? with
    | some (.ro _) => some (.al i, ρ)
    | some (.own _) => some (.al i, ρ)
    | _ => none
  | .con d, ρ => some (.val d, ρ)
  | .glb x, ρ => (C.glb x).map fun d => (.val d, ρ)
  | .bin o a b, ρ => (ev C a ρ).bind fun (ra, ρ1) => (ev C b ρ1).bind fun (rb, ρ2) =>
      (look ρ2 ra).bind fun x => (look ρ2 rb).bind fun y => (binD o x y).map fun r => (r, ρ2)
  | .neg a, ρ => (ev C a ρ).bind fun (ra, ρ1) => (look ρ1 ra).bind fun x => (intOf x).map fun i => (.val (.int (-i)), ρ1)
  | .not a, ρ => (ev C a ρ).bind fun (ra, ρ1) => match look ρ1 ra with
    | some (.bl b) => some (.val (.bl (!b)), ρ1)
    | _ => none
  | .bop true a b, ρ => (ev C a ρ).bind fun (ra, ρ1) => match look ρ1 ra with
    | some (.bl true) => ev C b ρ1
    | some (.bl false) => some (.val (.bl false), ρ1)
    | _ => none
  | .bop false a b, ρ => (ev C a ρ).bind fun (ra, ρ1) => match look ρ1 ra with
    | some (.bl true) => some (.val (.bl true), ρ1)
    | some (.bl false) => ev C b ρ1
    | _ => none
  | .ife c a b, ρ => (tst C c ρ).bind fun (t, ρ1) => if t then ev C a ρ1 else ev C b ρ1
  | .cmp o a b, ρ => (ev C a ρ).bind fun (ra, ρ1) => (ev C b ρ1).bind fun (rb, ρ2) =>
      (look ρ2 ra).bind fun x => (look ρ2 rb).bind fun y => (cmpD o x y).map fun r => (.val (.bl r), ρ2)
  | .chn o p a b c, ρ => (ev C a ρ).bind fun (ra, ρ1) => (ev C b ρ1).bind fun (rb, ρ2) =>
      (look ρ2 ra).bind fun x => (look ρ2 rb).bind fun y => (cmpD o x y).bind fun r =>
        if r then (ev C c ρ2).bind fun (rc, ρ3) => (look ρ3 rb).bind fun y => (look ρ3 rc).bind fun z => (cmpD p y z).map fun r => (.val (.bl r), ρ3)
        else some (.val (.bl false), ρ2)
  | .tup es, ρ => (evf C es ρ).bind fun (ds, ρ1) => if ds.length ≤ most then some (.val (.tup ds), ρ1) else none
  | .lst es, ρ => (evf C es ρ).bind fun (ds, ρ1) => if ds.length ≤ most then some (.fr (.lst ds), ρ1) else none
  | .ix a i, ρ => (ev C a ρ).bind fun (ra, ρ1) => (ev C i ρ1).bind fun (rb, ρ2) =>
      (look ρ2 ra).bind fun x => (look ρ2 rb).bind fun y => (ixD x y).map fun r => (.val r, ρ2)
  | .slc a lo hi, ρ => (ev C a ρ).bind fun (ra, ρ1) => (evo C lo ρ1).bind fun (l, ρ2) => (evo C hi ρ2).bind fun (h, ρ3) =>
      (look ρ3 ra).bind fun x => (slcD x l h).map fun r => (r, ρ3)
  | .dsp a b, ρ => (ev C a ρ).bind fun (rk, ρ1) => (fix ρ1 rk).bind fun (k, ρ2) => (ev C b ρ2).bind fun (rv, ρ3) => (fix ρ3 rv).bind fun (v, ρ4) => if kOk [] k = true then some (.fr (.dct [k] [v]), ρ4) else none
  | .mnd a b, ρ => (ev C a ρ).bind fun (ra, ρ1) => (ev C b ρ1).bind fun (rb, ρ2) => (look ρ2 ra).bind fun x => (look ρ2 rb).bind fun y => (mndD x y).map fun d => (.val d, ρ2)
  | .rev a, ρ => (ev C a ρ).bind fun (ra, ρ1) => (look ρ1 ra).bind fun x => (revD x).map fun r => (r, ρ1)
  | .call f es ks perm, ρ => (evs C es ρ).bind fun (ra, ρ0) => (evs C ks ρ0).bind fun (rb, ρ1) => (permute (ra ++ rb) perm).bind fun rs => (argsOf ρ1 rs).bind fun as =>
      if (ownIx ρ1 rs).Nodup then (C.call f as).bind fun (r, fs) => if isAl r then none else some (r, giveBack ρ1 rs fs) else none
  | .blt f es, ρ => (evs C es ρ).bind fun (rs, ρ1) => (looks ρ1 rs).bind fun ds => (bltD f ds).map fun r => (r, ρ1)
  | .isi a t, ρ => (ev C a ρ).bind fun (ra, ρ1) => (look ρ1 ra).bind fun x => (isiD t x).map fun b => (.val (.bl b), ρ1)
  | .ofr t es, ρ => (evs C es ρ).bind fun (rs, ρ1) => (looks ρ1 rs).bind fun ds => (rngD ds).bind fun xs =>
      if xs.length ≤ most then some (if t then .val (.tup xs) else .fr (.lst xs), ρ1) else none
  | .app i e, ρ => (ownL ρ i).bind fun _ => (ev C e ρ).bind fun (r, ρ1) => (fix ρ1 r).bind fun (d, ρ2) => (ownL ρ2 i).bind fun xs =>
      if xs.length < most then some (.val .non, ρ2.set i (.own (.lst (xs ++ [d])))) else none
  | .ext i e, ρ => (ownL ρ i).bind fun _ => (ev C e ρ).bind fun (r, ρ1) => (look ρ1 r).bind fun d => (lstOf d).bind fun ys => (ownL ρ1 i).bind fun xs =>
      if xs.length + ys.length ≤ most then some (.val .non, ρ1.set i (.own (.lst (xs ++ ys)))) else none
  | .pop i, ρ => (ownL ρ i).bind fun xs => (xs[xs.length - 1]?).map fun d => (.val d, ρ.set i (.own (.lst xs.dropLast)))
  | .popi i e, ρ => (ownL ρ i).bind fun _ => (ev C e ρ).bind fun (r, ρ1) => (look ρ1 r).bind fun d => (intOf d).bind fun k => (ownL ρ1 i).bind fun xs =>
      if 0 ≤ k ∧ k < 2 ^ 63 then (xs[k.toNat]?).map fun d => (.val d, ρ1.set i (.own (.lst (xs.eraseIdx k.toNat)))) else none
  | .lc elt t it c, ρ => (evi C it ρ).bind fun (xs, ρ1) =>
      if xs.length ≤ most then
        (lcLoop (fun x ρ => (bindT 0 ρ t x).bind fun ρ2 => (tso C c ρ2).bind fun (b, ρ3) =>
            if b then (ev C elt ρ3).bind fun (r, ρ4) => (fix ρ4 r).map fun (d, ρ5) => ([d], unset ρ5 t.slots) else some ([], unset ρ3 t.slots)) xs (unset ρ1 t.slots)).map
          fun (ds, ρ6) => (.fr (.lst ds), restore ρ6 ρ1 t.slots)
      else none
  | .lc2 elt t it c t2 it2 c2, ρ => (evi C it ρ).bind fun (xs, ρ1) =>
      (lcLoop (fun x ρ => (bindT 0 ρ t x).bind fun ρ2 => (tso C c ρ2).bind fun (b, ρ3) =>
          if b then (evi C it2 ρ3).bind fun (ys, ρ4) =>
            (lcLoop (fun y ρ => (bindT 0 ρ t2 y).bind fun ρ5 => (tso C c2 ρ5).bind fun (b, ρ6) =>
              if b then (ev C elt ρ6).bind fun (r, ρ7) => (fix ρ7 r).map fun (d, ρ8) => ([d], unset ρ8 t2.slots) else some ([], unset ρ6 t2.slots)) ys (unset ρ4 t2.slots)).map
            fun (ds, ρ9) => (ds, unset ρ9 (t.slots ++ t2.slots))
          else some ([], unset ρ3 (t.slots ++ t2.slots))) xs (unset ρ1 (t.slots ++ t2.slots))).bind
        fun (ds, ρ6) => if ds.length ≤ most then some (.fr (.lst ds), restore ρ6 ρ1 (t.slots ++ t2.slots)) else none
  | .tupS es st, ρ => (evx C es st ρ).bind fun (ds, ρ1) => if ds.length ≤ most then some (.val (.tup ds), ρ1) else none
  | .lstS es st, ρ => (evx C es st ρ).bind fun (ds, ρ1) => if ds.length ≤ most then some (.fr (.lst ds), ρ1) else none
  | .dnew, ρ => some (.fr (.dct [] []), ρ)
  | .dc ke ve t it c, ρ => (evi C it ρ).bind fun (xs, ρ1) =>
      (dcLoop (fun x ρ => (bindT 0 ρ t x).bind fun ρ2 => (tso C c ρ2).bind fun (b, ρ3) =>
          if b then (ev C ke ρ3).bind fun (rk, ρ4) => (fix ρ4 rk).bind fun (k, ρ5) => (ev C ve ρ5).bind fun (r, ρ6) => (fix ρ6 r).map fun (d, ρ7) => (some (k, d), unset ρ7 t.slots)
          else some (none, unset ρ3 t.slots)) xs [] [] (unset ρ1 t.slots)).map
        fun (kv, ρ8) => (.fr (.dct kv.1 kv.2), restore ρ8 ρ1 t.slots)
  | .dzp a b, ρ => (ev C a ρ).bind fun (ra, ρ1) => (ev C b ρ1).bind fun (rb, ρ2) => (look ρ2 ra).bind fun x => (look ρ2 rb).bind fun y =>
      match x, y with
      | .tup xs, .tup ys => if xs.all isS = true ∧ xs.length = ys.length ∧ xs.length ≤ most then some (.fr (.dct (dzpD xs ys [] []).1 (dzpD xs ys [] []).2), ρ2) else none
      | _, _ => none
  | .dgt a k none, ρ => (ev C a ρ).bind fun (ra, ρ1) => (look ρ1 ra).bind fun x0 => if isDct x0 then (ev C k ρ1).bind fun (rk, ρ2) =>
      (look ρ2 ra).bind fun x => (look ρ2 rk).bind fun y => (dgtD x y).map fun o => (.val (o.getD .non), ρ2) else none
  | .dgt a k (some d), ρ => (ev C a ρ).bind fun (ra, ρ1) => (look ρ1 ra).bind fun x0 => if isDct x0 then (ev C k ρ1).bind fun (rk, ρ2) => (fix ρ2 rk).bind fun (y, ρ3) =>
      (ev C d ρ3).bind fun (rd, ρ4) => (fix ρ4 rd).bind fun (z, ρ5) => (look ρ5 ra).bind fun x => (dgtD x y).map fun o => (.val (o.getD z), ρ5) else none
  | .mix i e, ρ => (look ρ (.al i)).bind fun x0 => (ev C e ρ).bind fun (r, ρ1) => (look ρ1 r).bind fun d => (intOf d).bind fun k => (look ρ1 (.al i)).bind fun x => (rowOf x0 x).bind fun ns =>
      if k ∈ ns then some (.val (.int (ns.idxOf k : Nat)), ρ1) else none
  | .mcn i e, ρ => (look ρ (.al i)).bind fun x0 => (ev C e ρ).bind fun (r, ρ1) => (look ρ1 r).bind fun d => (intOf d).bind fun k => (look ρ1 (.al i)).bind fun x => (rowOf x0 x).map fun ns =>
      (.val (.int (ns.count k : Nat)), ρ1)
  | _, _ => none
def tst (C : Cfg) : E → Rho → Option (Bool × Rho)
  | .not a, ρ => (tst C a ρ).map fun (b, ρ1) => (!b, ρ1)
  | .bop true a b, ρ => (tst C a ρ).bind fun (t, ρ1) => if t then tst C b ρ1 else some (false, ρ1)
  | .bop false a b, ρ => (tst C a ρ).bind fun (t, ρ1) => if t then some (true, ρ1) else tst C b ρ1
  | .cmp o a b, ρ => (ev C a ρ).bind fun (ra, ρ1) => (ev C b ρ1).bind fun (rb, ρ2) =>
      (look ρ2 ra).bind fun x => (look ρ2 rb).bind fun y => (cmpD o x y).map fun r => (r, ρ2)
  | .chn o p a b c, ρ => (ev C a ρ).bind fun (ra, ρ1) => (ev C b ρ1).bind fun (rb, ρ2) =>
      (look ρ2 ra).bind fun x => (look ρ2 rb).bind fun y => (cmpD o x y).bind fun r =>
        if r then (ev C c ρ2).bind fun (rc, ρ3) => (look ρ3 rb).bind fun y => (look ρ3 rc).bind fun z => (cmpD p y z).map fun r => (r, ρ3)
        else some (false, ρ2)
  | .tru e, ρ => (ev C e ρ).bind fun (r, ρ1) => (look ρ1 r).bind fun d => (truth d).map fun b => (b, ρ1)
  | _, _ => none
def tso (C : Cfg) : Option E → Rho → Option (Bool × Rho)
  | none, ρ => some (true, ρ)
  | some e, ρ => tst C e ρ
def evo (C : Cfg) : Option E → Rho → Option (Option Int × Rho)
  | none, ρ => some (none, ρ)
  | some e, ρ => (ev C e ρ).bind fun (r, ρ1) => (look ρ1 r).bind fun d => (intOf d).map fun i => (some i, ρ1)
def evs (C : Cfg) : List E → Rho → Option (List Rs × Rho)
  | [], ρ => some ([], ρ)
  | e :: es, ρ => (ev C e ρ).bind fun (r, ρ1) => (evs C es ρ1).map fun (rs, ρ2) => (r :: rs, ρ2)
/-- all made values -/
def evf (C : Cfg) : List E → Rho → Option (List D × Rho)
  | [], ρ => some ([], ρ)
  | e :: es, ρ => (ev C e ρ).bind fun (r, ρ1) => (fix ρ1 r).bind fun (d, ρ2) => (evf C es ρ2).map fun (rs, ρ3) => (d :: rs, ρ3)
/-- .. the starred ones' items -/
def evx (C : Cfg) : List E → List Bool → Rho → Option (List D × Rho)
  | [], [], ρ => some ([], ρ)
  | e :: es, b :: st, ρ => (ev C e ρ).bind fun (r, ρ1) => (fix ρ1 r).bind fun (d, ρ2) => if b then (rowIt d).bind fun xs => (evx C es st ρ2).map fun (rs, ρ3) => (xs ++ rs, ρ3) else (evx C es st ρ2).map fun (rs, ρ3) => (d :: rs, ρ3)
  | _, _, _ => none
/-- what is walked -/
def evi (C : Cfg) : E → Rho → Option (List D × Rho)
  | .rng es, ρ => (evs C es ρ).bind fun (rs, ρ1) => (looks ρ1 rs).bind fun ds => (rngD ds).map fun xs => (xs, ρ1)
  | .enm a, ρ => (ev C a ρ).bind fun (r, ρ1) => (fix ρ1 r).bind fun (d, ρ2) => (items d).map fun xs => (enumD 0 xs, ρ2)
  | .ovr e, ρ => (ev C e ρ).bind fun (r, ρ1) => (fixW ρ1 r).bind fun (d, ρ2) => (itemsW d).map fun xs => (xs, ρ2)
  | .zip a b, ρ => (ev C a ρ).bind fun (r, ρ1) => (fix ρ1 r).bind fun (d, ρ2) => (ev C b ρ2).bind fun (r2, ρ3) => (fix ρ3 r2).bind fun (e, ρ4) =>
      (zipItems d e).map fun xs => (xs, ρ4)
  | _, _ => none
end

/-! ### statements -/
inductive T1 where
  | nm (i : Nat) | sub (i : Nat) (ix : E)
inductive S where
  | ex (e : E)
  | asg (i : Nat) (e : E)
  /-- o[ix] = e, o a name -/
  | put (i : Nat) (ix : E) (e : E)
  /-- targets = e -/
  | unp (ts : List T1) (e : E)
  /-- names = es, a pair or a triple of plain names -/
  | par (is : List Nat) (es : List E)
  | ite (c : E) (a b : List S)
  | lop (t : Tg) (it : E) (b : List S)
  | whl (c : E) (b : List S)
  | ret (e : E)
  | retN
  | pas
  | brk
  | cnt
inductive O where
  | nx | ret (r : Rs) | brk | cnt

/-- a name gets a result -/
def store (np : Nat) (ρ : Rho) (i : Nat) (r : Rs) : Option Rho :=
  if np ≤ i ∧ i < ρ.length then
    match r with
    | .fr d => some (ρ.set i (.own d))
    | r => (fix ρ r).map fun (d, ρ1) => ρ1.set i (.ro d)
  else none
/-- o[k] = d -/
def putAt (ρ : Rho) (i : Nat) (k d : D) : Option Rho := match ρ[i]? with
  | some (.own (.lst xs)) => (intOf k).bind fun k => (ixN xs.length k).map fun j => ρ.set i (.own (.lst (xs.set j d)))
  | some (.own (.dct ks vs)) => if kOk ks k = true ∧ ks.length < most then some (ρ.set i (.own (.dct (putKs k ks) (putVs k d ks vs)))) else none
  | _ => none
/-- an own object that may be written at a place -/
def ownO (ρ : Rho) (i : Nat) : Option Unit := match ρ[i]? with
  | some (.own (.lst _)) => some ()
  | some (.own (.dct _ _)) => some ()
  | _ => none
def unpAll (C : Cfg) (np : Nat) : List T1 → List D → Rho → Option Rho
  | [], [], ρ => some ρ
  | .nm i :: ts, d :: ds, ρ => (store np ρ i (.val d)).bind fun ρ1 => unpAll C np ts ds ρ1
  | .sub i ix :: ts, d :: ds, ρ => (ownO ρ i).bind fun _ => (ev C ix ρ).bind fun (r, ρ1) => (fix ρ1 r).bind fun (k, ρ2) => (putAt ρ2 i k d).bind fun ρ3 => unpAll C np ts ds ρ3
  | _, _, _ => none
def storeAll (np : Nat) (ρ : Rho) : List Nat → List Rs → Option Rho
  | [], [] => some ρ
  | i :: is, r :: rs => (store np ρ i r).bind fun ρ1 => storeAll np ρ1 is rs
  | _, _ => none
/-- names that are stored in parallel must not stand behind an alias: aliases are made values first -/
def fixAll (ρ : Rho) : List Rs → Option (List Rs × Rho)
  | [] => some ([], ρ)
  | .al i :: rs => (fix ρ (.al i)).bind fun (d, ρ1) => (fixAll ρ1 rs).map fun (ts, ρ2) => (.val d :: ts, ρ2)
  | r :: rs => (fixAll ρ rs).map fun (ts, ρ2) => (r :: ts, ρ2)
def forLoop (f : D → Rho → Option (O × Rho)) : List D → Rho → Option (O × Rho)
  | [], ρ => some (.nx, ρ)
  | x :: xs, ρ => (f x ρ).bind fun (o, ρ1) => match o with
    | .nx => forLoop f xs ρ1
    | .cnt => forLoop f xs ρ1
    | .brk => some (.nx, ρ1)
    | .ret r => some (.ret r, ρ1)
def whileLoop (c : Rho → Option (Bool × Rho)) (f : Rho → Option (O × Rho)) : Nat → Rho → Option (O × Rho)
  | 0, _ => none
  | n + 1, ρ => (c ρ).bind fun (b, ρ1) => if b then (f ρ1).bind fun (o, ρ2) => match o with
    | .nx => whileLoop c f n ρ2
    | .cnt => whileLoop c f n ρ2
    | .brk => some (.nx, ρ2)
    | .ret r => some (.ret r, ρ2)
    else some (.nx, ρ1)
mutual
def exec (C : Cfg) (np : Nat) : S → Rho → Option (O × Rho)
  | .ex e, ρ => (ev C e ρ).map fun (_, ρ1) => (.nx, ρ1)
  | .asg i e, ρ => (ev C e ρ).bind fun (r, ρ1) => (store np ρ1 i r).map fun ρ2 => (.nx, ρ2)
  | .put i ix e, ρ => (ev C e ρ).bind fun (r, ρ1) => (fix ρ1 r).bind fun (d, ρ2) => (ownO ρ2 i).bind fun _ => (ev C ix ρ2).bind fun (rk, ρ3) =>
      (fix ρ3 rk).bind fun (k, ρ4) => (putAt ρ4 i k d).map fun ρ5 => (.nx, ρ5)
  | .unp ts e, ρ => (ev C e ρ).bind fun (r, ρ1) => (fix ρ1 r).bind fun (d, ρ2) => match d with
    | .tup ds => (unpAll C np ts ds ρ2).map fun ρ3 => (.nx, ρ3)
    | .rtp ds => (unpAll C np ts ds ρ2).map fun ρ3 => (.nx, ρ3)
    | _ => none
  | .par is es, ρ => (evs C es ρ).bind fun (rs, ρ1) => (fixAll ρ1 rs).bind fun (ts, ρ2) => (storeAll np ρ2 is ts).map fun ρ3 => (.nx, ρ3)
  | .ite c a b, ρ => (tst C c ρ).bind fun (t, ρ1) => if t then execs C np a ρ1 else execs C np b ρ1
  | .lop t it b, ρ => (evi C it ρ).bind fun (xs, ρ1) => forLoop (fun x ρ => (bindT np ρ t x).bind fun ρ2 => execs C np b ρ2) xs ρ1
  | .whl c b, ρ => whileLoop (tst C c) (execs C np b) C.fuel ρ
  | .ret e, ρ => (ev C e ρ).map fun (r, ρ1) => (.ret r, ρ1)
  | .retN, ρ => some (.ret (.val .non), ρ)
  | .pas, ρ => some (.nx, ρ)
  | .brk, ρ => some (.brk, ρ)
  | .cnt, ρ => some (.cnt, ρ)
def execs (C : Cfg) (np : Nat) : List S → Rho → Option (O × Rho)
  | [], ρ => some (.nx, ρ)
  | s :: ss, ρ => (exec C np s ρ).bind fun (o, ρ1) => match o with
    | .nx => execs C np ss ρ1
    | o => some (o, ρ1)
end
/-- a def: its parameters, how many names, its body -/
structure Fd where
  ps : List Str
  n : Nat
  body : List S
/-- what is handed back -/
def retOf (np : Nat) (ρ : Rho) : Rs → Option (Rs × Rho)
  | .val d => some (.val d, ρ)
  | .fr d => some (.fr d, ρ)
  | .al i => match ρ[i]? with
    | some (.own d) => if np ≤ i then some (.fr d, ρ) else some (.val d, ρ.set i (.ro d))
    | some (.ro d) => some (.val d, ρ)
    | _ => none
/-- an object that was handed over is still there -/
def fin1 : Sl → Sl → Bool
  | .own _, .own _ => true
  | .own _, .ro (.lst _) => true
  | .own _, .ro (.dct _ _) => true
  | .own _, .ro (.dcf _ _) => true
  | .own _, .ro (.set _) => true
  | .own _, _ => false
  | _, _ => true
def finOk (as fs : List Sl) : Bool := (as.zip fs).all fun p => fin1 p.1 p.2
def run (C : Cfg) (f : Fd) (as : List Sl) : Option (Rs × List Sl) :=
  if as.length = f.ps.length then
    (execs C as.length f.body (as ++ List.replicate (f.n - as.length) .un)).bind fun (o, ρ) => match o with
      | .nx => some (.val .non, ρ.take as.length)
      | .ret r => (retOf as.length ρ r).bind fun (r, ρ1) => if finOk as (ρ1.take as.length) then some (r, ρ1.take as.length) else none
      | _ => none
  else none
/-- the program: its defs by names, its constants -/
structure Pg where
  fn : Str → Option Fd
  glb : Str → Option D
def cfg (p : Pg) (fuel : Nat) : Nat → Cfg
  | 0 => ⟨fun _ _ => none, p.glb, fuel⟩
  | k + 1 => ⟨fun f as => (p.fn f).bind fun fd => run (cfg p fuel k) fd as, p.glb, fuel⟩
def tC0 : Cfg := ⟨fun _ _ => none, fun _ => none, 10⟩
example : run tC0 ⟨["plan", "other"], 4, [.ret (.blt .tuple [.lc (.ix (.var 1) (.var 2)) (.nm 2) (.ovr (.var 0)) none])]⟩ [.ro (.tup [.int 1, .int 0]), .ro (.tup [.int 5, .int 7])] =
  some (.val (.tup [.int 7, .int 5]), [.ro (.tup [.int 1, .int 0]), .ro (.tup [.int 5, .int 7])]) := rfl
end PV

/-! PV, part C: the operations by values are those of the model. -/
namespace PV
open PySem PySem.Spec PyProof.Rows L2

/-- what an operation gives: nothing new, or one new object -/
def PR (K : PySem.W.Frag) (w : World) (R : Addr → Prop) (H : Hp) (v : V) (H' : Hp) : Rs → Prop
  | .val d => Rep K w R H' d v ∧ (H' = H ∨ ∃ p o, H p = none ∧ H' = upd H p o)
  | .fr d => ∃ p o, v = .ref p ∧ H p = none ∧ H' = upd H p o ∧ Top K w R H' p d
  | .al _ => False

section
variable {K : PySem.W.Frag} {w : World} {R R' : Addr → Prop} {ρ : Rho} {σ : St} {H H' : Hp}
theorem most_line {n : Nat} (h : n ≤ most) : n ≤ sizeLine := by
  rw [sizeLine_eq]; unfold most at h; omega
theorem upd_keepT {p : Addr} {o : HO} (n : H p = none) : ∀ a u, Fz u → H a = some u → (upd H p o) a = some u := fun a u _ e => by
  rw [upd_ne (ne_of_none e n)]; exact e
theorem upd_keepK {p : Addr} {o : HO} (n : H p = none) : ∀ a u, R a → H a = some u → (upd H p o) a = some u := fun a u _ e => by
  rw [upd_ne (ne_of_none e n)]; exact e
theorem rep_upd {p : Addr} {o : HO} {d : D} {v : V} (n : H p = none) (h : Rep K w R H d v) : Rep K w R (upd H p o) d v :=
  Rep.keep (fun _ z => z) (upd_keepT n) (upd_keepK n) d v h
theorem reps_upd {p : Addr} {o : HO} {d : List D} {v : List V} (n : H p = none) (h : Reps K w R H d v) : Reps K w R (upd H p o) d v :=
  Reps.keep (fun _ z => z) (upd_keepT n) (upd_keepK n) d v h
theorem top_upd {p a : Addr} {o : HO} {d : D} (n : H p = none) (h : Top K w R H a d) : Top K w R (upd H p o) a d :=
  Top.keep (fun _ z => z) (upd_keepT n) (upd_keepK n) (fun u e => by rw [upd_ne (ne_of_none e n)]; exact e) h
/-- a scalar -/
theorem PR.sc {d : D} {v : V} (h : Rep K w R H d v) : PR K w R H v H (.val d) := ⟨h, .inl rfl⟩
theorem PR.lst {p : Addr} {ds : List D} {xs : List V} (n : H p = none) (h : Reps K w R H ds xs) : PR K w R H (.ref p) (upd H p (.lst xs)) (.fr (.lst ds)) :=
  ⟨p, _, rfl, n, rfl, xs, upd_same, reps_upd n h⟩
theorem PR.tup {p : Addr} {o : Obj} {ds : List D} {xs : List V} (n : H p = none) (no : o.dict = none) (h : Reps K w R H ds xs) : PR K w R H (.ref p) (upd H p (.frz o (.tup xs))) (.val (.tup ds)) :=
  ⟨⟨p, xs, rfl, .inl ⟨o, no, upd_same⟩, reps_upd n h⟩, .inr ⟨p, _, n, rfl⟩⟩
theorem PR.rtp {p : Addr} {ds : List D} {xs : List V} (n : H p = none) (h : Reps K w R H ds xs) : PR K w R H (.ref p) (upd H p (.tup xs)) (.val (.rtp ds)) :=
  ⟨⟨p, xs, rfl, SqT.of upd_same, reps_upd n h⟩, .inr ⟨p, _, n, rfl⟩⟩
theorem PR.step {v : V} {r : Rs} (m : Mt K w R ρ σ H) (h : PR K w R H v H' r) : Step K w σ R ρ H R ρ H' ∧ RR K w R ρ σ H' v r ∧ FrN H v r := by
  cases r with
  | val d =>
    obtain ⟨h1, h2⟩ := h
    rcases h2 with rfl | ⟨p, o, n, rfl⟩
    · exact ⟨Step.refl m, h1, trivial⟩
    · exact ⟨Step.lay m n, h1, trivial⟩
  | fr d =>
    obtain ⟨p, o, rfl, n, rfl, t⟩ := h
    refine ⟨Step.lay m n, ⟨p, rfl, fun z => m.trk p z n, fun z => ?_, t⟩, fun a e => by cases e; exact n⟩
    obtain ⟨d', _, t'⟩ := m.ownTop z
    obtain ⟨o', e, _⟩ := t'.there
    rw [n] at e; cases e
  | al i => exact h.elim

/-! ### what RepT says of a kind -/
theorem RepT.sc {d : D} {v : V} (h : RepT K w R H d v) (n : ∀ a, ¬ Top K w R H a d) : Rep K w R H d v := by
  rcases h with h | ⟨a, _, t⟩
  · exact h
  · exact (n a t).elim
theorem RepT.int {i : Int} {v : V} (h : RepT K w R H (.int i) v) : v = .int i := h.sc fun _ z => z
theorem RepT.bl {i : Bool} {v : V} (h : RepT K w R H (.bl i) v) : v = .bl i := h.sc fun _ z => z
theorem RepT.str {i : Str} {v : V} (h : RepT K w R H (.str i) v) : v = .str i := h.sc fun _ z => z
theorem RepT.non {v : V} (h : RepT K w R H .non v) : v = .non := h.sc fun _ z => z
theorem RepT.tup {ds : List D} {v : V} (h : RepT K w R H (.tup ds) v) : ∃ a xs, v = .ref a ∧ TupOk K H a xs ∧ Reps K w R H ds xs := h.sc fun _ z => z
theorem RepT.scr {ns : List Int} {v : V} (h : RepT K w R H (.scr ns) v) : ∃ a, v = .ref a ∧ SqL K H a (ns.map V.int) := by
  obtain ⟨a, e, q⟩ : Rep K w R H (.scr ns) v := h.sc fun _ z => z
  exact ⟨a, e, q.sq⟩
theorem RepT.lst {ds : List D} {v : V} (h : RepT K w R H (.lst ds) v) : ∃ a xs, v = .ref a ∧ H a = some (.lst xs) ∧ Reps K w R H ds xs := by
  rcases h with ⟨a, xs, e, _, h1, h2⟩ | ⟨a, e, xs, h1, h2⟩
  · exact ⟨a, xs, e, h1, h2⟩
  · exact ⟨a, xs, e, h1, h2⟩
theorem RepT.set {ns : List Int} {v : V} (h : RepT K w R H (.set ns) v) : ∃ a S n, v = .ref a ∧ H a = some (SetO w a S n) ∧ SetIs S n ns := by
  rcases h with ⟨a, S, n, e, _, h1, h2⟩ | ⟨a, e, S, n, h1, h2⟩
  · exact ⟨a, S, n, e, h1, h2⟩
  · exact ⟨a, S, n, e, h1, h2⟩
theorem RepT.dct {ks vs : List D} {v : V} (h : RepT K w R H (.dct ks vs) v) : ∃ a xs u, v = .ref a ∧ Rd H a u ∧ Reps K w R H vs xs ∧ DctC K w H a ks xs u := by
  rcases h with ⟨a, xs, u, e, _, h1, h2, h3⟩ | ⟨a, e, xs, u, h1, h2, h3⟩
  · exact ⟨a, xs, u, e, .inl h2, h1, h3⟩
  · exact ⟨a, xs, u, e, .inl h2, h1, h3⟩
theorem RepT.dcf {ks vs : List D} {v : V} (h : RepT K w R H (.dcf ks vs) v) : ∃ a xs u, v = .ref a ∧ Rd H a u ∧ Reps K w R H vs xs ∧ DctC K w H a ks xs u := by
  rcases h with ⟨a, xs, u, o, e, _, h1, h2, h3⟩ | ⟨a, e, h⟩
  · exact ⟨a, xs, u, e, .inr ⟨o, h2⟩, h1, h3⟩
  · exact h.elim
theorem RepT.key {k : D} {y : V} (h : RepT K w R H k y) (hk : isS k = true ∨ isT k = true) : KyV K H k y := by
  refine kyV_of (h.sc fun a t => ?_) hk
  cases k <;> first | exact t | (rcases hk with z | z <;> cases z)
/-- what is looked at -/
theorem look_rep (m : Mt K w R ρ σ H) {v : V} {r : Rs} {d : D} (h : RR K w R ρ σ H v r) (e : look ρ r = some d) : RepT K w R H d v := by
  cases r with
  | val d' =>
    have e' : some d' = some d := e
    cases e'
    exact .inl h
  | fr d' =>
    have e' : some d' = some d := e
    cases e'
    obtain ⟨a, ea, _, _, t⟩ := h
    exact .inr ⟨a, ea, t⟩
  | al i =>
    have h : σ[i]? = some (some v) := h
    unfold look at e
    dsimp only at e
    split at e
    · rename_i d' q
      cases e
      obtain ⟨v', h1, h2⟩ := m.ro i _ q
      rw [h] at h1
      cases h1
      exact .inl h2
    · rename_i d' q
      cases e
      obtain ⟨a, h1, h2, h3⟩ := m.own i _ q
      rw [h] at h1
      cases h1
      exact .inr ⟨a, rfl, h3⟩
    · cases e

/-! ### lists of ints, of bools -/
theorem intsOf_eq : ∀ {ds : List D} {ns : List Int}, intsOf ds = some ns → ds = ns.map D.int
  | [], _, e => by
    cases e
    rfl
  | .int i :: r, ns, e => by
    unfold intsOf at e
    cases q : intsOf r with
    | none => rw [q] at e; cases e
    | some ms =>
      rw [q] at e
      cases e
      rw [intsOf_eq q]
      rfl
  | .non :: _, _, e => by cases e
  | .bl _ :: _, _, e => by cases e
  | .str _ :: _, _, e => by cases e
  | .tup _ :: _, _, e => by cases e
  | .lst _ :: _, _, e => by cases e
  | .dct _ _ :: _, _, e => by cases e
  | .set _ :: _, _, e => by cases e
  | .scr _ :: _, _, e => by cases e
  | .rtp _ :: _, _, e => by cases e
  | .dcf _ _ :: _, _, e => by cases e
theorem intsOf_map : ∀ (ns : List Int), intsOf (ns.map D.int) = some ns
  | [] => rfl
  | i :: r => by
    show (intsOf (r.map D.int)).map (i :: ·) = _
    rw [intsOf_map r]
    rfl
theorem blsOf_eq : ∀ {ds : List D} {ns : List Bool}, blsOf ds = some ns → ds = ns.map D.bl
  | [], _, e => by
    cases e
    rfl
  | .bl i :: r, ns, e => by
    unfold blsOf at e
    cases q : blsOf r with
    | none => rw [q] at e; cases e
    | some ms =>
      rw [q] at e
      cases e
      rw [blsOf_eq q]
      rfl
  | .non :: _, _, e => by cases e
  | .int _ :: _, _, e => by cases e
  | .str _ :: _, _, e => by cases e
  | .tup _ :: _, _, e => by cases e
  | .lst _ :: _, _, e => by cases e
  | .dct _ _ :: _, _, e => by cases e
  | .set _ :: _, _, e => by cases e
  | .scr _ :: _, _, e => by cases e
  | .rtp _ :: _, _, e => by cases e
  | .dcf _ _ :: _, _, e => by cases e
theorem blsOf_map : ∀ (ns : List Bool), blsOf (ns.map D.bl) = some ns
  | [] => rfl
  | i :: r => by
    show (blsOf (r.map D.bl)).map (i :: ·) = _
    rw [blsOf_map r]
    rfl

/-! ### sorting ints -/
theorem insI_perm (x : Int) : ∀ l : List Int, (insI x l).Perm (x :: l)
  | [] => .refl _
  | y :: r => by
    unfold insI
    split
    · exact .refl _
    · exact ((insI_perm x r).cons y).trans (.swap x y r)
theorem isort_perm : ∀ l : List Int, (isort l).Perm l
  | [] => .refl _
  | x :: r => (insI_perm x _).trans ((isort_perm r).cons x)
theorem insI_sorted (x : Int) : ∀ l : List Int, l.Pairwise (· ≤ ·) → (insI x l).Pairwise (· ≤ ·)
  | [], _ => List.pairwise_singleton _ _
  | y :: r, h => by
    unfold insI
    have h' := List.pairwise_cons.mp h
    split
    · rename_i hx
      refine List.pairwise_cons.mpr ⟨fun z hz => ?_, h⟩
      rcases List.mem_cons.mp hz with e | hz
      · rw [e]; exact hx
      · exact Int.le_trans hx (h'.1 z hz)
    · rename_i hx
      refine List.pairwise_cons.mpr ⟨fun z hz => ?_, insI_sorted x r h'.2⟩
      have := (insI_perm x r).mem_iff.mp hz
      rcases List.mem_cons.mp this with e | hz
      · rw [e]; omega
      · exact h'.1 z hz
theorem isort_sorted : ∀ l : List Int, (isort l).Pairwise (· ≤ ·)
  | [] => .nil
  | x :: r => insI_sorted x _ (isort_sorted r)
/-- two ascending lists of the same ints are one -/
theorem sorted_uniq : ∀ {l m : List Int}, l.Pairwise (· ≤ ·) → m.Pairwise (· ≤ ·) → l.Perm m → l = m
  | [], m, _, _, p => (p.symm.eq_nil).symm
  | x :: l, [], _, _, p => absurd p.length_eq (by simp)
  | x :: l, y :: m, hl, hm, p => by
    have h1 := List.pairwise_cons.mp hl
    have h2 := List.pairwise_cons.mp hm
    have e : x = y := by
      have a : x ∈ y :: m := p.mem_iff.mp List.mem_cons_self
      have b : y ∈ x :: l := p.mem_iff.mpr List.mem_cons_self
      rcases List.mem_cons.mp a with a | a
      · exact a
      · rcases List.mem_cons.mp b with b | b
        · exact b.symm
        · have := h1.1 y b
          have := h2.1 x a
          omega
    subst e
    rw [sorted_uniq h1.2 h2.2 (List.perm_cons x |>.mp p)]
theorem dedup_mem {k : Int} : ∀ l : List Int, k ∈ dedup l ↔ k ∈ l
  | [] => Iff.rfl
  | x :: r => by
    unfold dedup
    split
    · rename_i h
      rw [dedup_mem r, List.mem_cons]
      exact ⟨.inr, fun z => z.elim (fun e => e ▸ h) id⟩
    · rw [List.mem_cons, List.mem_cons, dedup_mem r]
theorem dedup_nodup : ∀ l : List Int, (dedup l).Nodup
  | [] => .nil
  | x :: r => by
    unfold dedup
    split
    · exact dedup_nodup r
    · rename_i h
      exact List.nodup_cons.mpr ⟨fun z => h ((dedup_mem r).mp z), dedup_nodup r⟩
theorem nodup_len {l m : List Int} (h1 : l.Nodup) (h2 : m.Nodup) (h : ∀ k, k ∈ l ↔ k ∈ m) : l.length = m.length :=
  ((List.perm_ext_iff_of_nodup h1 h2).mpr h).length_eq
end
end PV

set_option maxHeartbeats 4000000
/-! PV, part Ub: tuple * int, of any number; tuples backwards. -/
namespace PVU
open PySem PySem.Spec PyProof.Rows L2
open AutoSeq1 (wpAny_loadPart')
theorem mul_same (l : Addr) (items : Array Value) (n : Nat) (dd : Option Addr) (sl : Array (Option Value)) (x : Int) (u : Tok) (c0 : (decide (x < -(2 ^ 63)) || decide (x ≥ 2 ^ 63)) = false) (c1 : (items.isEmpty || x == 1) = true) :
    Meets (Builtin.«tuple.__mul__» ⟨[.ref l, .int x u], []⟩) (fun _ R s => s.heap.get? l = some { cls := .type "tuple", dict := dd, data := .seq items n, slots := sl } ∧ R (.ok (.ret (.ref l))) s) :=
  .of_wp fun prog w A R s h => by
    obtain ⟨hp, g, d, tk, os⟩ := s
    obtain ⟨hl, h⟩ := h
    have f1 := AutoSeq1.idx_int
    wp_walk using wpAny_loadPart' hl
    repeat (first
      | (refine wpAny_ite_false (decide_eq_false (by rw [c0]; exact Bool.false_ne_true)) ?_; wp_walk using wpAny_loadPart' hl)
      | (refine wpAny_ite_true (decide_eq_true c1) ?_; wp_walk using wpAny_loadPart' hl))
    exact ⟨_, rfl, h⟩
theorem mul_none (l : Addr) (items : Array Value) (n : Nat) (dd : Option Addr) (sl : Array (Option Value)) (x : Int) (u : Tok) (c0 : (decide (x < -(2 ^ 63)) || decide (x ≥ 2 ^ 63)) = false) (c1 : (items.isEmpty || x == 1) = false) (c2 : (decide (x ≤ 0) || items.isEmpty) = true) :
    Meets (Builtin.«tuple.__mul__» ⟨[.ref l, .int x u], []⟩) (fun _ R s => s.heap.get? l = some { cls := .type "tuple", dict := dd, data := .seq items n, slots := sl } ∧
      R (.ok (.ret (Value.ref s.heap.objs.size))) { s with heap := s.heap.push { cls := Value.type "tuple", data := Data.seq #[] }, toks := s.toks }) :=
  .of_wp fun prog w A R s h => by
    obtain ⟨hp, g, d, tk, os⟩ := s
    obtain ⟨hl, h⟩ := h
    have f1 := AutoSeq1.idx_int
    wp_walk using wpAny_loadPart' hl
    repeat (first
      | (refine wpAny_ite_false (decide_eq_false (by rw [c0]; exact Bool.false_ne_true)) ?_; wp_walk using wpAny_loadPart' hl)
      | (refine wpAny_ite_false (decide_eq_false (by rw [c1]; exact Bool.false_ne_true)) ?_; wp_walk using wpAny_loadPart' hl)
      | (refine wpAny_ite_true (decide_eq_true c2) ?_; wp_walk using wpAny_loadPart' hl))
    exact ⟨_, rfl, h⟩
section
variable {X : Cx}
theorem op_repF : OpR X (binaryOp .Mult) (fun x y H Q => ∃ l k xs, x = .ref l ∧ y = .int k ∧ SqT X.K H l xs ∧ -(2 ^ 63) ≤ k ∧ k < 2 ^ 63 ∧ xs.length * k.toNat ≤ sizeLine ∧ ((List.replicate k.toNat xs).flatten = xs → Q (.ref l) H) ∧ NewT (List.replicate k.toNat xs).flatten H Q) := by
  intro pins s σ H x y v u Q I rx ry h
  obtain ⟨l, k, xs, rfl, rfl, hT, h0, h1, hz, q1, q2⟩ := h
  cases rx
  obtain ⟨t, rfl⟩ := ry
  obtain ⟨its, r, ⟨⟨cls, dd, data, sl⟩, ho, hc, n, hd⟩, hs⟩ := I.tuple hT
  simp only at hc hd
  subst hc hd
  have hle : its.length = xs.length := r.length.symm
  have hsz0 : its.toArray.size = xs.length := by rw [List.size_toArray, hle]
  have c0 : (decide (k < -(2 ^ 63)) || decide (k ≥ 2 ^ 63)) = false := by
    rw [decide_eq_false (by omega), decide_eq_false (by omega)] <;> rfl
  have flen : (List.replicate k.toNat its).flatten.length ≤ sizeLine := by
    rw [PyProof.Rows.lm_len_rep_flat, hle, Nat.mul_comm]
    exact hz
  by_cases ca : (its.toArray.isEmpty || k == 1) = true
  · refine wpAny_binaryOp_repeat_ref (T := "tuple") (U := "int") (by decide) ⟨_, ho, rfl⟩ (fun s' => typeIs_int s' k t) noFill_tuple_mul F.fills_int_mul F.slot_int_rmul repeat_tuple F.slot_int_index.lookup
      (call_meets F.slot_int_rmul (typeIs_int s k t) F.entry_int_rmul (F.args_int_rmul_2 _ _) (int_rmul_tuple k t l its.toArray n dd sl)
        ⟨ho, rfl, ⟨_, ho, rfl⟩, call_meets F.slot_tuple_mul ⟨_, ho, rfl⟩ F.entry_tuple_mul (F.args_tuple_mul_2 _ _) (mul_same l its.toArray n dd sl k t c0 ca) ⟨ho, ?_⟩⟩)
    refine ⟨.ref l, H, I, rfl, q1 ?_⟩
    rw [Bool.or_eq_true, beq_iff_eq] at ca
    rcases ca with ca | rfl
    · have e : xs = [] := List.eq_nil_of_length_eq_zero (by rw [← hsz0]; simpa using ca)
      subst e
      simp
    · show (List.replicate 1 xs).flatten = xs
      simp
  have ca : (its.toArray.isEmpty || k == 1) = false := by simpa using ca
  have cb := (Bool.or_eq_false_iff.mp ca).1
  by_cases cn : k ≤ 0
  · refine wpAny_binaryOp_repeat_ref (T := "tuple") (U := "int") (by decide) ⟨_, ho, rfl⟩ (fun s' => typeIs_int s' k t) noFill_tuple_mul F.fills_int_mul F.slot_int_rmul repeat_tuple F.slot_int_index.lookup
      (call_meets F.slot_int_rmul (typeIs_int s k t) F.entry_int_rmul (F.args_int_rmul_2 _ _) (int_rmul_tuple k t l its.toArray n dd sl)
        ⟨ho, rfl, ⟨_, ho, rfl⟩, call_meets F.slot_tuple_mul ⟨_, ho, rfl⟩ F.entry_tuple_mul (F.args_tuple_mul_2 _ _) (mul_none l its.toArray n dd sl k t c0 ca (by rw [decide_eq_true cn]; rfl)) ⟨ho, ?_⟩⟩)
    have e : (List.replicate k.toNat xs).flatten = [] := by rw [show k.toNat = 0 by omega]; rfl
    rw [e] at q2
    exact laid (t' := s.toks) I (its := []) .nil (Nat.zero_le _) (fun b o e => Heap.get?_push_of_some _ e) (Nat.le_refl _) (Heap.get?_push_size _ rfl) q2
  · have hpos : 0 < its.toArray.size := by
      cases its with
      | nil => cases cb
      | cons a r => simp
    have hk : its.toArray.size * k.toNat ≤ 16777216 := by
      rw [hsz0, ← sizeLine_eq]; exact hz
    have hm : ((its.toArray.size : Nat) : Int) * k ≤ 16777216 := by
      have : ((its.toArray.size * k.toNat : Nat) : Int) = (its.toArray.size : Int) * k := by
        rw [Int.natCast_mul, Int.toNat_of_nonneg (by omega)]
      omega
    have c2 : (decide (k ≤ 0) || its.toArray.isEmpty) = false := by rw [decide_eq_false cn, cb]; rfl
    have c4 : Builtin.Tuple.tupleTooMany (((its.toArray.size : Nat) : Int) * k) = false := by
      unfold Builtin.Tuple.tupleTooMany
      rw [sizeLine_eq]
      exact decide_eq_false (by omega)
    refine wpAny_binaryOp_repeat_ref (T := "tuple") (U := "int") (by decide) ⟨_, ho, rfl⟩ (fun s' => typeIs_int s' k t) noFill_tuple_mul F.fills_int_mul F.slot_int_rmul repeat_tuple F.slot_int_index.lookup
      (call_meets F.slot_int_rmul (typeIs_int s k t) F.entry_int_rmul (F.args_int_rmul_2 _ _) (int_rmul_tuple k t l its.toArray n dd sl)
        ⟨ho, rfl, ⟨_, ho, rfl⟩, call_meets F.slot_tuple_mul ⟨_, ho, rfl⟩ F.entry_tuple_mul (F.args_tuple_mul_2 _ _) (tuple_mulW l its.toArray n dd sl k t c0 ca c2 (by omega) c4 (by rw [size_rep, List.size_toArray]; exact flen)) ⟨ho, ?_⟩⟩)
    rw [size_rep]
    exact laid (t' := s.toks) I (r.rep k.toNat) (by rw [← (r.rep k.toNat).length] at flen; exact flen) (fun b o e => Heap.get?_push_of_some _ e) (Nat.le_refl _) (Heap.get?_push_size _ rfl) q2
theorem sliceApplied_rev {prog : Program} {w : World} {A : Around} {E : Value → Shared → Prop} {s : Shared} {sl : Addr} {vs : Value} {n : Nat} {Q : Int × Int × Nat → Shared → Prop} (hs : s.heap.IsSliceOf sl .none .none vs) (ps : IsPart vs (some (-1)))
    (h : Q ((n : Int) - 1, -1, n) s) : wpAny (model prog w) A (Builtin.Slice.sliceApplied (.ref sl) (pure (n : Int))) Q E s := by
  obtain ⟨os, hos, hcs, hds⟩ := id hs
  unfold Builtin.Slice.sliceApplied Builtin.Slice.sliceFields
  refine wpAny_bind (wpAny_bind (wpAny_field hos hds (x := .none) rfl (wpAny_bind (wpAny_field hos hds (x := .none) rfl (wpAny_bind (wpAny_field hos hds (x := vs) rfl (wpAny_pure ?_)))))))
  refine wpAny_bind (HT.slicePart_ ps ?_)
  show wpAny _ _ (if ((-1 : Int) == 0) = true then _ else _) _ _ s
  rw [if_neg (by decide)]
  refine wpAny_bind (HT.slicePart_ .none (wpAny_bind (HT.slicePart_ .none (wpAny_bind (wpAny_pure ?_)))))
  show wpAny _ _ (match Builtin.Slice.sliceAdjust none none (-1) (n : Int) with | (lo, hi) => pure (lo, (-1 : Int), Builtin.Slice.slicePlaces lo hi (-1))) _ _ s
  have e1 : Builtin.Slice.sliceAdjust none none (-1) (n : Int) = ((n : Int) - 1, -1) := by
    unfold Builtin.Slice.sliceAdjust
    have h1 : ((-1 : Int) < 0) := by decide
    simp only [h1, if_true]
  have e2 : Builtin.Slice.slicePlaces ((n : Int) - 1) (-1) (-1) = n := by
    unfold Builtin.Slice.slicePlaces
    have h1 : ¬ ((-1 : Int) > 0) := by decide
    simp only [h1, if_false, show (- -1 : Int) = 1 from rfl, Int.ediv_one]
    split <;> omega
  rw [e1]
  show wpAny _ _ (pure ((n : Int) - 1, (-1 : Int), Builtin.Slice.slicePlaces ((n : Int) - 1) (-1) (-1))) _ _ s
  rw [e2]
  exact wpAny_pure h
theorem pick_rev (xs : Array Value) : ((List.range xs.size).filterMap fun (m : Nat) => xs[((xs.size : Int) - 1 + (m : Int) * (-1)).toNat]?).toArray = xs.toList.reverse.toArray := by
  congr 1
  have e : ∀ (l : List Nat), (∀ m ∈ l, m < xs.size) → l.filterMap (fun (m : Nat) => xs[((xs.size : Int) - 1 + (m : Int) * (-1)).toNat]?) = (l.map fun m => xs.size - 1 - m).filterMap (xs[·]?) := by
    intro l hl
    rw [List.filterMap_map]
    induction l with
    | nil => rfl
    | cons m l ih =>
      have := hl m List.mem_cons_self
      have e : xs[((xs.size : Int) - 1 + (m : Int) * (-1)).toNat]? = xs[xs.size - 1 - m]? := by
        congr 1
        omega
      rw [List.filterMap_cons, List.filterMap_cons, ih fun k hk => hl k (List.mem_cons_of_mem _ hk), e]
      rfl
  rw [e _ fun m hm => List.mem_range.mp hm, PySem.W.krv_range, List.filterMap_reverse, PySem.W.krv_all]
theorem getItem_tuple_rev {prog : Program} {w : World} {A : Around} {E : Value → Shared → Prop} {s : Shared} {t sl : Addr} {items : Array Value} {vs : Value} {Q : Value → Shared → Prop} (ht : IsTup s.heap t items) (hs : s.heap.IsSliceOf sl .none .none vs) (ps : IsPart vs (some (-1)))
    (h : Q (.ref s.heap.objs.size) { s with heap := s.heap.push { cls := .type "tuple", data := .seq items.toList.reverse.toArray } })
    (hsz : items.size ≤ sizeLine) : wpAny (model prog w) A (getItem (.ref t) (.ref sl)) Q E s := by
  have htake : sizeOk (.seq items.toList.reverse.toArray) := by
    show items.toList.reverse.toArray.size ≤ sizeLine
    rw [List.size_toArray, List.length_reverse, Array.length_toList]
    exact hsz
  obtain ⟨os, hos, hcs, hds⟩ := id hs
  have hTs : s.TypeIs (.ref sl) "slice" := ⟨os, hos, hcs⟩
  unfold getItem
  try with_reducible refine wpAny_holding ?_
  first | refine wpAny_bind (wpAny_pure ?_) | skip
  refine wpAny_bind (wpAny_sequenceKey ht.typeIs (by decide) ?_)
  refine wpAny_bind (wpAny_callSpecial?_slot (name := Str.ofString "__getitem__") ht.typeIs PyProof.Rows.slot_tuple_getitem
    (wpAny_call_entry PyProof.Rows.slot_tuple_getitem ht.typeIs entry_tuple_getitem ?_ (args_tuple_getitem _ _)))
  show wpAny _ _ (Builtin.Tuple.tupleItemsOf (.ref t) >>= _) _ _ s
  refine wpAny_bind (tupleItemsOf_ ht ?_)
  refine wpAny_bind (wpAny_typeOf hTs ?_)
  rw [if_pos (by decide)]
  refine wpAny_bind (sliceApplied_rev hs ps ?_)
  have hno : ¬ ((((items.size : Int) - 1) == 0 && (-1 : Int) == 1 && items.size == items.size) = true) := by
    rw [show ((-1 : Int) == 1) = false by decide, Bool.and_false, Bool.false_and]
    exact Bool.false_ne_true
  show wpAny _ _ (if ((((items.size : Int) - 1) == 0 && (-1 : Int) == 1 && items.size == items.size) = true) then _ else _) _ _ s
  rw [if_neg hno, pick_rev]
  first
    | exact wpAny_bind (m := Builtin.Tuple.tupleExact _) (wpAny_newObj_type (wpAny_pure ⟨_, rfl, wpAny_pure h⟩) htake)
    | exact wpAny_bind (m := Builtin.Tuple.tupleExact _) (wpAny_newObj_type (wpAny_bind (wpAny_pure (wpAny_pure ⟨_, rfl, wpAny_pure h⟩))) htake)
    | exact wpAny_bind (wpAny_bind (m := Builtin.Tuple.tupleExact _) (wpAny_newObj_type (wpAny_pure (wpAny_pure ⟨_, rfl, wpAny_pure h⟩)) htake))
    | exact wpAny_bind (wpAny_bind (m := Builtin.Tuple.tupleExact _) (wpAny_newObj_type (wpAny_pure ⟨_, rfl, wpAny_pure h⟩) htake))
/-- xs[::-1] of a list, of a tuple -/
theorem pe_revF {e : Expr} {te : TE} {k : Nat} {p1 p2 p3 pos : Pos} (he : PE X e te) : PE X (.Subscript e (.Slice none none (some (.UnaryOp .USub (.Constant (.int 1) k p1) p2)) p3) pos)
    (fun σ H Q => te σ H fun x H1 => ∃ a xs, x = .ref a ∧ ((SqL X.K H1 a xs ∧ ∀ p, H1 p = none → Q (.ref p) (upd H1 p (.lst xs.reverse))) ∨ (SqT X.K H1 a xs ∧ NewT xs.reverse H1 Q))) := by
  refine ⟨fun pins s σ H Q I h => ?_⟩
  refine Subscript_ (thn (he.run pins s σ H _ I h) fun v s1 ⟨x, H1, I1, r1, q1⟩ => ?_)
  obtain ⟨a, xs, ex, q⟩ := q1
  subst ex
  cases r1
  have hst : PO X (some (.UnaryOp .USub (.Constant (.int 1) k p1) p2)) (tPart (tUn (rU fun i => .int (-i)) (tC (.int 1)))) := po_some (pe_un un_neg pe_int)
  refine wpAny_Slice (thn (po_none.run pins s1 σ H1 (fun o H2 => o = none ∧ H2 = H1) I1 ⟨rfl, rfl⟩) fun vl s2 ⟨l, H2, I2, pl, el, e2⟩ => ?_)
  subst el e2
  refine thn (po_none.run pins s2 σ H2 (fun o H3 => o = none ∧ H3 = H2) I2 ⟨rfl, rfl⟩) fun vu s3 ⟨u, H3, I3, pu, eu, e3⟩ => ?_
  subst eu e3
  refine thn (hst.run pins s3 σ H3 (fun o H4 => o = some (-1) ∧ H4 = H3) I3 ⟨1, rfl, -1, rfl, rfl, rfl⟩) fun vs s4 ⟨o, H4, I4, ps, eo, e4⟩ => ?_
  subst eo e4
  have I5 : Inv X pins σ H4 { s4 with heap := s4.heap.push { cls := .type "slice", data := .fields #[vl, vu, vs] } } := I4.kept (t' := s4.toks) fun b ob q => Heap.get?_push_of_some _ q
  show wpAny (model X.prog X.w) X.A (subscriptTail e (.Slice none none (some (.UnaryOp .USub (.Constant (.int 1) k p1) p2)) p3) (.ref a) (.ref s4.heap.objs.size)) (EP X pins σ Q) X.xe { s4 with heap := s4.heap.push { cls := .type "slice", data := .fields #[vl, vu, vs] } }
  rcases q with ⟨hx, q⟩ | ⟨hx, q⟩
  · obtain ⟨its, r, ht, hz⟩ := I5.list hx
    have hlen := r.length
    refine tail_any (ops := [.ref a, .ref s4.heap.objs.size]) ht.isList.typeIs (PySem.slot_list_getitem.lookup) ?_ (by with_unfolding_all rfl)
    refine wpAny_getItem_list_slice ht.isList (Heap.IsSliceOf.new _ vl vu vs) pl pu ps (by decide) ?_ (by rw [List.size_toArray]; omega)
    rw [PySem.W.krv_pick]
    refine ⟨.ref _, _, I5.laid (t' := s4.toks) (o := .lst xs.reverse) (fun b ob q => Heap.get?_push_of_some _ q) (Nat.le_refl _) ?_, rfl, q _ (I5.hok.fresh (Nat.le_refl _))⟩
    exact ⟨by rw [List.length_reverse]; exact hz, _, 0, r.reverse, Heap.get?_push_size _ rfl⟩
  · obtain ⟨its, r, ht, hz⟩ := I5.tuple hx
    have hlen := r.length
    cases pl
    cases pu
    refine tail_any (ops := [.ref a, .ref s4.heap.objs.size]) ht.typeIs (PyProof.Rows.slot_tuple_getitem.lookup) ?_ (by with_unfolding_all rfl)
    refine getItem_tuple_rev ht (Heap.IsSliceOf.new _ .none .none vs) ps ?_ (by rw [List.size_toArray]; omega)
    exact laid (t' := s4.toks) I5 (its := its.reverse) (by simpa using r.reverse) (by rw [List.length_reverse]; exact hz) (fun b o e => Heap.get?_push_of_some _ e) (Nat.le_refl _) (Heap.get?_push_size _ rfl) q
end
end PVU

/-! PV, part D: operators, comparisons, subscripts, built-in functions. -/
namespace PV
open PySem PySem.Spec PyProof.Rows L2

theorem Reps.nil {K : PySem.W.Frag} {w : World} {R : Addr → Prop} {H : Hp} {ds : List D} {xs : List V} (h : Reps K w R H ds xs) (e : xs = []) : ds = [] := by
  have := h.length
  rw [e] at this
  exact List.length_eq_zero_iff.mp this
theorem cat_nil1 {K : PySem.W.Frag} {w : World} {R : Addr → Prop} {H : Hp} {ds es : List D} {xs : List V} {v : V} (e : xs = []) (h : Reps K w R H ds xs) (r : Rep K w R H (.tup es) v) : PR K w R H v H (.val (.tup (ds ++ es))) := by
  rw [h.nil e]
  exact PR.sc r
theorem cat_nil2 {K : PySem.W.Frag} {w : World} {R : Addr → Prop} {H : Hp} {ds es : List D} {xs : List V} {v : V} (e : xs = []) (h : Reps K w R H es xs) (r : Rep K w R H (.tup ds) v) : PR K w R H v H (.val (.tup (ds ++ es))) := by
  rw [h.nil e, List.append_nil]
  exact PR.sc r
section
variable {X : Cx}
def rB (K : PySem.W.Frag) (w : World) (o : Operator) : R2 := fun x y H Q => ∃ R a b r, RepT K w R H a x ∧ RepT K w R H b y ∧ binD o a b = some r ∧ ∀ v H', PR K w R H v H' r → Q v H'
theorem or_bin (o : Operator) : OpR X (binaryOp o) (rB X.K X.w o) := by
  intro pins s σ H x y v u Q I rx ry h
  obtain ⟨R, a, b, r, ha, hb, e, q⟩ := h
  unfold binD at e
  split at e
  · cases e
    exact op_add pins s σ H x y v u Q I rx ry ⟨_, _, ha.int, hb.int, q _ _ (PR.sc rfl)⟩
  · cases e
    exact op_sub pins s σ H x y v u Q I rx ry ⟨_, _, ha.int, hb.int, q _ _ (PR.sc rfl)⟩
  · split at e
    · rename_i hc
      cases e
      exact op_mul pins s σ H x y v u Q I rx ry ⟨_, _, ha.int, hb.int, hc, q _ _ (PR.sc rfl)⟩
    · cases e
  · split at e
    · rename_i hc
      cases e
      exact op_fdiv pins s σ H x y v u Q I rx ry ⟨_, _, ha.int, hb.int, hc, q _ _ (PR.sc rfl)⟩
    · cases e
  · split at e
    · rename_i hc
      cases e
      exact op_mod pins s σ H x y v u Q I rx ry ⟨_, _, ha.int, hb.int, hc, q _ _ (PR.sc rfl)⟩
    · cases e
  · split at e
    · rename_i hc
      cases e
      exact op_pow pins s σ H x y v u Q I rx ry ⟨_, _, ha.int, hb.int, hc, q _ _ (PR.sc rfl)⟩
    · cases e
  · split at e
    · rename_i hc
      cases e
      obtain ⟨a1, xs1, e1, h1, r1⟩ := ha.lst
      obtain ⟨a2, xs2, e2, h2, r2⟩ := hb.lst
      refine op_cat pins s σ H x y v u Q I rx ry ⟨a1, a2, xs1, xs2, e1, e2, h1, h2, ?_, fun p n => q _ _ (PR.lst n (r1.append r2))⟩
      rw [← r1.length, ← r2.length]
      exact most_line hc
    · cases e
  · split at e
    · rename_i hc
      cases e
      obtain ⟨a1, xs1, e1, h1, r1⟩ := ha.tup
      obtain ⟨a2, xs2, e2, h2, r2⟩ := hb.tup
      have hz : xs1.length + xs2.length ≤ sizeLine := by
        rw [← r1.length, ← r2.length]
        exact most_line hc
      refine PVU.op_catF pins s σ H x y v u Q I rx ry ⟨a1, a2, xs1, xs2, e1, e2, h1.sq, h2.sq, hz, fun z => ?_, fun z => ?_, fun p o n no => q _ _ (PR.tup n no (r1.append r2))⟩
      · exact q _ _ (cat_nil1 z r1 ⟨a2, xs2, rfl, h2, r2⟩)
      · exact q _ _ (cat_nil2 z r2 ⟨a1, xs1, rfl, h1, r1⟩)
    · cases e
  · split at e
    · rename_i hc
      cases e
      exact op_add_str pins s σ H x y v u Q I rx ry ⟨_, _, ha.str, hb.str, most_line hc, q _ _ (PR.sc rfl)⟩
    · cases e
  · split at e
    · rename_i hc
      cases e
      obtain ⟨a1, xs1, e1, h1, r1⟩ := ha.tup
      have go : ∀ k : Nat, Reps X.K X.w R H (List.replicate k _).flatten (List.replicate k xs1).flatten := fun k => by
        induction k with
        | zero => exact trivial
        | succ k ih =>
          rw [List.replicate_succ, List.replicate_succ, List.flatten_cons, List.flatten_cons]
          exact r1.append ih
      refine PVU.op_repF pins s σ H x y v u Q I rx ry ⟨a1, _, xs1, e1, hb.int, h1.sq, hc.1, hc.2.1, ?_, fun z => ?_, fun p o n no => q _ _ (PR.tup n no (go _))⟩
      · rw [← r1.length]
        exact most_line hc.2.2
      · refine q _ _ (PR.sc ⟨a1, xs1, rfl, h1, ?_⟩)
        rw [← z]
        exact go _
    · cases e
  · split at e
    · rename_i hc
      cases e
      obtain ⟨a1, xs1, e1, h1, r1⟩ := ha.lst
      refine op_rep pins s σ H x y v u Q I rx ry ⟨a1, _, xs1, e1, hb.int, h1, hc.1, hc.2.1, ?_, fun p n => q _ _ (PR.lst n ?_)⟩
      · rw [← r1.length]
        exact most_line hc.2.2
      · have go : ∀ k : Nat, Reps X.K X.w R H (List.replicate k _).flatten (List.replicate k xs1).flatten := fun k => by
          induction k with
          | zero => exact trivial
          | succ k ih =>
            rw [List.replicate_succ, List.replicate_succ, List.flatten_cons, List.flatten_cons]
            exact r1.append ih
        exact go _
    · cases e
  · cases e

/-! ### comparisons -/
mutual
theorem rep_dp {K : PySem.W.Frag} {w : World} {R : Addr → Prop} {H : Hp} : ∀ (d : D) (v : V), Rep K w R H d v → d.eqOk = true → Dp K H v d.py
  | .non, _, h, _ => by
    have h : _ = V.non := h
    subst h
    exact .non
  | .bl b, _, h, _ => by
    have h : _ = V.bl b := h
    subst h
    exact .bl b
  | .int i, _, h, _ => by
    have h : _ = V.int i := h
    subst h
    exact .int i
  | .str x, _, h, _ => by
    have h : _ = V.str x := h
    subst h
    exact .str x
  | .tup ds, _, h, o => by
    obtain ⟨a, xs, e, h1, h2⟩ := h
    subst e
    exact .tup h1.sq (reps_dp ds xs h2 o)
  | .rtp _, _, _, o => by cases o
  | .dcf _ _, _, _, o => by cases o
  | .lst ds, _, h, o => by
    obtain ⟨a, xs, e, _, h1, h2⟩ := h
    subst e
    exact .lst (SqL.of h1) (reps_dp ds xs h2 o)
  | .scr ns, _, h, _ => by
    obtain ⟨a, e, h1⟩ := h
    subst e
    refine .lst h1.sq ?_
    have go : ∀ l : List Int, DpAll K H (l.map V.int) (l.map PyData.int) := fun l => by
      induction l with
      | nil => exact .nil
      | cons n l ih => exact .cons (.int n) ih
    exact go ns
theorem reps_dp {K : PySem.W.Frag} {w : World} {R : Addr → Prop} {H : Hp} : ∀ (ds : List D) (xs : List V), Reps K w R H ds xs → eqOkAll ds = true → DpAll K H xs (pyAll ds)
  | [], [], _, _ => .nil
  | d :: ds, x :: xs, h, o => by
    have o : (d.eqOk && eqOkAll ds) = true := o
    rw [Bool.and_eq_true] at o
    exact .cons (rep_dp d x h.1 o.1) (reps_dp ds xs h.2 o.2)
  | [], _ :: _, h, _ => h.elim
  | _ :: _, [], h, _ => h.elim
end
theorem RepT.dp {K : PySem.W.Frag} {w : World} {R : Addr → Prop} {H : Hp} {d : D} {v : V} (h : RepT K w R H d v) (o : d.eqOk = true) : Dp K H v d.py := by
  rcases h with h | ⟨a, e, h⟩
  · exact rep_dp d v h o
  · cases d with
    | lst ds =>
      obtain ⟨xs, h1, h2⟩ := h
      rw [e]
      exact .lst (SqL.of h1) (reps_dp ds xs h2 o)
    | dct ks vs => cases o
    | set ns => cases o
    | _ => exact h.elim
theorem cmpOk_of {d : D} (h : d.cmpOk = true) : d.eqOk = true ∧ SeqAt.shaped d.py = true := by
  unfold D.cmpOk at h
  rw [Bool.and_eq_true] at h
  exact h
theorem pyAll_any (p : PyData → Bool) : ∀ ds : List D, (pyAll ds).any p = ds.any fun d => p d.py
  | [] => rfl
  | d :: ds => by
    show (p d.py || (pyAll ds).any p) = (p d.py || ds.any _)
    rw [pyAll_any p ds]
theorem inV_ints (i : Int) : ∀ ns : List Int, inV (.int i) (ns.map V.int) = decide (i ∈ ns)
  | [] => rfl
  | n :: ns => by
    have ih := inV_ints i ns
    unfold inV at ih ⊢
    rw [List.map_cons, List.any_cons, ih]
    have e : eqV (.int n) (.int i) = decide (n = i) := by
      show (n == i) = decide (n = i)
      rw [Bool.beq_eq_decide_eq]
    rw [e]
    by_cases h : n = i
    · subst h
      simp
    · have h2 : ¬ i = n := fun z => h z.symm
      simp [h, h2]
theorem flat_ints : ∀ ns : List Int, (ns.map V.int).all flatV = true
  | [] => rfl
  | n :: ns => by
    rw [List.map_cons, List.all_cons, flat_ints ns]
    rfl
theorem RepT.isNon {K : PySem.W.Frag} {w : World} {R : Addr → Prop} {H : Hp} {d : D} {v : V} (h : RepT K w R H d v) : decide (v = .non) = PV.isNon d := by
  rcases h with h | ⟨a, e, h⟩
  · cases d with
    | non =>
      have h : v = V.non := h
      rw [h]; rfl
    | bl b =>
      have h : v = V.bl b := h
      rw [h]; rfl
    | int i =>
      have h : v = V.int i := h
      rw [h]; rfl
    | str x =>
      have h : v = V.str x := h
      rw [h]; rfl
    | tup ds =>
      obtain ⟨a, xs, e, _⟩ := h
      rw [e]; rfl
    | lst ds =>
      obtain ⟨a, xs, e, _⟩ := h
      rw [e]; rfl
    | dct ks vs =>
      obtain ⟨a, xs, _, e, _⟩ := h
      rw [e]; rfl
    | dcf ks vs =>
      obtain ⟨a, xs, _, _, e, _⟩ := h
      rw [e]; rfl
    | set ns =>
      obtain ⟨a, S, n, e, _⟩ := h
      rw [e]; rfl
    | scr ns =>
      obtain ⟨a, e, _⟩ := h
      rw [e]; rfl
    | rtp ns =>
      obtain ⟨a, xs, e, _⟩ := h
      rw [e]; rfl
  · rw [e]
    cases d with
    | non => exact h.elim
    | _ => rfl

def rIn (K : PySem.W.Frag) (w : World) (neg : Bool) : R2 := fun x y H Q => ∃ R a b r, RepT K w R H a x ∧ RepT K w R H b y ∧ inD a b = some r ∧ Q (.bl (if neg then !r else r)) H
theorem or_in (hu : X.A.units + 65 < cLine) : OpR X (compareOp .In) (rIn X.K X.w false) := by
  intro pins s σ H x y v u Q I rx ry h
  obtain ⟨R, a, b, r, ha, hb, e, q⟩ := h
  unfold inD at e
  split at e
  · split at e
    · rename_i hk
      cases e
      obtain ⟨p, xs, u', rfl, hr, h1, h2⟩ := hb.dct
      obtain rfl : u = Value.ref p := ry
      refine dct_in (by omega) I hr h2 hk (ha.key (kOk_is hk)) rx fun s' I' => ⟨.bl _, H, I', rfl, ?_⟩
      rw [← getK_len h1.length]
      exact q
    · cases e
  · split at e
    · rename_i hk
      cases e
      obtain ⟨p, xs, u', rfl, hr, h1, h2⟩ := hb.dcf
      obtain rfl : u = Value.ref p := ry
      refine dct_in (by omega) I hr h2 hk (ha.key (kOk_is hk)) rx fun s' I' => ⟨.bl _, H, I', rfl, ?_⟩
      rw [← getK_len h1.length]
      exact q
    · cases e
  · split at e
    · rename_i xs hc
      cases e
      rw [Bool.and_eq_true] at hc
      obtain ⟨c1, c2⟩ := hc
      obtain ⟨o1, s1⟩ := cmpOk_of c1
      obtain ⟨o2, s2⟩ := cmpOk_of c2
      refine op_inD hu pins s σ H x y v u Q I rx ry ⟨_, _, ha.dp o1, hb.dp o2, s1, s2, ?_⟩
      rw [pyAll_any]
      exact q
    · cases e
  · split at e
    · rename_i i ns hi
      cases e
      obtain ⟨p, ys, ep, h1, h2⟩ := hb.tup
      rw [intsOf_eq hi] at h2
      refine op_in_seq pins s σ H x y v u Q I rx ry ⟨p, ys, ep, .inr h1.sq, ?_, ?_, ?_⟩
      · rw [ha.int]; rfl
      · rw [h2.ints]; exact flat_ints ns
      · rw [ha.int, h2.ints, inV_ints]
        exact q
    · cases e
  · cases e
theorem or_notin (hu : X.A.units + 65 < cLine) : OpR X (compareOp .NotIn) (rIn X.K X.w true) := by
  intro pins s σ H x y v u Q I rx ry h
  obtain ⟨R, a, b, r, ha, hb, e, q⟩ := h
  unfold inD at e
  split at e
  · split at e
    · rename_i hk
      cases e
      obtain ⟨p, xs, u', rfl, hr, h1, h2⟩ := hb.dct
      obtain rfl : u = Value.ref p := ry
      refine dct_notIn (by omega) I hr h2 hk (ha.key (kOk_is hk)) rx fun s' I' => ⟨.bl _, H, I', rfl, ?_⟩
      rw [← getK_len h1.length]
      exact q
    · cases e
  · split at e
    · rename_i hk
      cases e
      obtain ⟨p, xs, u', rfl, hr, h1, h2⟩ := hb.dcf
      obtain rfl : u = Value.ref p := ry
      refine dct_notIn (by omega) I hr h2 hk (ha.key (kOk_is hk)) rx fun s' I' => ⟨.bl _, H, I', rfl, ?_⟩
      rw [← getK_len h1.length]
      exact q
    · cases e
  · split at e
    · rename_i xs hc
      cases e
      rw [Bool.and_eq_true] at hc
      obtain ⟨c1, c2⟩ := hc
      obtain ⟨o1, s1⟩ := cmpOk_of c1
      obtain ⟨o2, s2⟩ := cmpOk_of c2
      refine op_notInD hu pins s σ H x y v u Q I rx ry ⟨_, _, ha.dp o1, hb.dp o2, s1, s2, ?_⟩
      rw [pyAll_any]
      exact q
    · cases e
  · split at e
    · rename_i i ns hi
      cases e
      obtain ⟨p, ys, ep, h1, h2⟩ := hb.tup
      rw [intsOf_eq hi] at h2
      refine op_notIn_seq pins s σ H x y v u Q I rx ry ⟨p, ys, ep, .inr h1.sq, ?_, ?_, ?_⟩
      · rw [ha.int]; rfl
      · rw [h2.ints]; exact flat_ints ns
      · rw [ha.int, h2.ints, inV_ints]
        exact q
    · cases e
  · cases e
def rC (K : PySem.W.Frag) (w : World) (o : CmpOp) : R2 := fun x y H Q => ∃ R a b r, RepT K w R H a x ∧ RepT K w R H b y ∧ cmpD o a b = some r ∧ Q (.bl r) H
/-- v is the truth value y exactly if c -/
def BlIs (v : V) (y c : Bool) : Prop := (v = .bl y ∧ c = true) ∨ (c = false ∧ ((∃ x, v = .bl x ∧ x ≠ y) ∨ v = .non ∨ (∃ i, v = .int i) ∨ (∃ s, v = .str s) ∨ ∃ p, v = .ref p))
theorem RepT.isBl {K : PySem.W.Frag} {w : World} {R : Addr → Prop} {H : Hp} {d : D} {v : V} (h : RepT K w R H d v) (y : Bool) : BlIs v y (isBlD d y) := by
  rcases h with h | ⟨a, e, h⟩
  · cases d with
    | non => exact .inr ⟨rfl, .inr (.inl h)⟩
    | bl b =>
      have h : v = V.bl b := h
      by_cases e : b = y
      · subst e
        exact .inl ⟨h, decide_eq_true rfl⟩
      · exact .inr ⟨decide_eq_false e, .inl ⟨b, h, e⟩⟩
    | int i => exact .inr ⟨rfl, .inr (.inr (.inl ⟨i, h⟩))⟩
    | str x => exact .inr ⟨rfl, .inr (.inr (.inr (.inl ⟨x, h⟩)))⟩
    | tup ds =>
      obtain ⟨a, xs, e, _⟩ := h
      exact .inr ⟨rfl, .inr (.inr (.inr (.inr ⟨a, e⟩)))⟩
    | lst ds =>
      obtain ⟨a, xs, e, _⟩ := h
      exact .inr ⟨rfl, .inr (.inr (.inr (.inr ⟨a, e⟩)))⟩
    | dct ks vs =>
      obtain ⟨a, xs, _, e, _⟩ := h
      exact .inr ⟨rfl, .inr (.inr (.inr (.inr ⟨a, e⟩)))⟩
    | dcf ks vs =>
      obtain ⟨a, xs, _, _, e, _⟩ := h
      exact .inr ⟨rfl, .inr (.inr (.inr (.inr ⟨a, e⟩)))⟩
    | set ns =>
      obtain ⟨a, S, n, e, _⟩ := h
      exact .inr ⟨rfl, .inr (.inr (.inr (.inr ⟨a, e⟩)))⟩
    | scr ns =>
      obtain ⟨a, e, _⟩ := h
      exact .inr ⟨rfl, .inr (.inr (.inr (.inr ⟨a, e⟩)))⟩
    | rtp ns =>
      obtain ⟨a, xs, e, _⟩ := h
      exact .inr ⟨rfl, .inr (.inr (.inr (.inr ⟨a, e⟩)))⟩
  · subst e
    refine .inr ⟨?_, .inr (.inr (.inr (.inr ⟨a, rfl⟩)))⟩
    cases d with
    | bl b => exact h.elim
    | _ => rfl
theorem op_isAny : OpR X (compareOp .Is) (fun x y H Q => ∃ b, y = .bl b ∧ ∃ c, BlIs x b c ∧ Q (.bl c) H) := by
  intro pins s σ H x y v u Q I rx ry h
  obtain ⟨b, rfl, c, hc, q⟩ := h
  cases (show u = Value.bool b from ry)
  rcases hc with ⟨rfl, rfl⟩ | ⟨rfl, hc⟩
  · cases (show v = Value.bool b from rx)
    exact wpAny_is_self rfl ⟨.bl true, H, I, rfl, q⟩
  · rcases hc with ⟨x, rfl, hne⟩ | rfl | ⟨i, rfl⟩ | ⟨x, rfl⟩ | ⟨p, rfl⟩
    · cases (show v = Value.bool x from rx)
      exact wpAny_is_other rfl (fun z => hne (Value.bool.inj z)) ⟨.bl false, H, I, rfl, q⟩
    · cases rx
      exact wpAny_is_other rfl (fun z => nomatch z) ⟨.bl false, H, I, rfl, q⟩
    · obtain ⟨t, rfl⟩ := rx
      exact wpAny_is_other rfl (fun z => nomatch z) ⟨.bl false, H, I, rfl, q⟩
    · obtain ⟨t, rfl⟩ := rx
      exact wpAny_is_other rfl (fun z => nomatch z) ⟨.bl false, H, I, rfl, q⟩
    · cases (show v = Value.ref p from rx)
      exact wpAny_is_other rfl (fun z => nomatch z) ⟨.bl false, H, I, rfl, q⟩
theorem op_notAny : OpR X (compareOp .IsNot) (fun x y H Q => ∃ b, y = .bl b ∧ ∃ c, BlIs x b c ∧ Q (.bl (!c)) H) := by
  intro pins s σ H x y v u Q I rx ry h
  obtain ⟨b, rfl, c, hc, q⟩ := h
  cases (show u = Value.bool b from ry)
  rcases hc with ⟨rfl, rfl⟩ | ⟨rfl, hc⟩
  · cases (show v = Value.bool b from rx)
    exact wpAny_isNot_self rfl ⟨.bl false, H, I, rfl, q⟩
  · rcases hc with ⟨x, rfl, hne⟩ | rfl | ⟨i, rfl⟩ | ⟨x, rfl⟩ | ⟨p, rfl⟩
    · cases (show v = Value.bool x from rx)
      exact wpAny_isNot_other rfl (fun z => hne (Value.bool.inj z)) ⟨.bl true, H, I, rfl, q⟩
    · cases rx
      exact wpAny_isNot_other rfl (fun z => nomatch z) ⟨.bl true, H, I, rfl, q⟩
    · obtain ⟨t, rfl⟩ := rx
      exact wpAny_isNot_other rfl (fun z => nomatch z) ⟨.bl true, H, I, rfl, q⟩
    · obtain ⟨t, rfl⟩ := rx
      exact wpAny_isNot_other rfl (fun z => nomatch z) ⟨.bl true, H, I, rfl, q⟩
    · cases (show v = Value.ref p from rx)
      exact wpAny_isNot_other rfl (fun z => nomatch z) ⟨.bl true, H, I, rfl, q⟩
theorem or_cmp (hu : X.A.units + 65 < cLine) (o : CmpOp) : OpR X (compareOp o) (rC X.K X.w o) := by
  intro pins s σ H x y v u Q I rx ry h
  obtain ⟨R, a, b, r, ha, hb, e, q⟩ := h
  have hu' : X.A.units + 64 < cLine := by omega
  unfold cmpD at e
  split at e
  · cases e
    exact op_lt pins s σ H x y v u Q I rx ry ⟨_, _, ha.int, hb.int, q⟩
  · cases e
    exact op_le pins s σ H x y v u Q I rx ry ⟨_, _, ha.int, hb.int, q⟩
  · cases e
    exact op_gt pins s σ H x y v u Q I rx ry ⟨_, _, ha.int, hb.int, q⟩
  · cases e
    exact op_ge pins s σ H x y v u Q I rx ry ⟨_, _, ha.int, hb.int, q⟩
  · split at e
    · rename_i hc
      cases e
      rw [Bool.and_eq_true] at hc
      obtain ⟨o1, s1⟩ := cmpOk_of hc.1
      obtain ⟨o2, s2⟩ := cmpOk_of hc.2
      exact op_eqD hu' pins s σ H x y v u Q I rx ry ⟨_, _, ha.dp o1, hb.dp o2, s1, s2, q⟩
    · cases e
  · split at e
    · rename_i hc
      cases e
      rw [Bool.and_eq_true] at hc
      obtain ⟨o1, s1⟩ := cmpOk_of hc.1
      obtain ⟨o2, s2⟩ := cmpOk_of hc.2
      exact op_neD hu' pins s σ H x y v u Q I rx ry ⟨_, _, ha.dp o1, hb.dp o2, s1, s2, q⟩
    · cases e
  · cases e
    refine op_isN pins s σ H x y v u Q I rx ry ⟨hb.non, ?_⟩
    rw [ha.isNon]
    exact q
  · cases e
    refine op_notN pins s σ H x y v u Q I rx ry ⟨hb.non, ?_⟩
    rw [ha.isNon]
    exact q
  · cases e
    exact op_isAny pins s σ H x y v u Q I rx ry ⟨_, hb.bl, _, ha.isBl _, q⟩
  · cases e
    exact op_notAny pins s σ H x y v u Q I rx ry ⟨_, hb.bl, _, ha.isBl _, q⟩
  · exact or_in hu pins s σ H x y v u Q I rx ry ⟨R, _, _, _, ha, hb, e, q⟩
  · cases e' : inD a b with
    | none => rw [e'] at e; cases e
    | some c =>
      rw [e'] at e
      cases e
      exact or_notin hu pins s σ H x y v u Q I rx ry ⟨R, _, _, _, ha, hb, e', q⟩
  · cases e
end
end PV

/-! PV, part Ec: sorted(d), d a dict whose keys are tuples. -/
namespace PV
open PySem PySem.Spec PyProof.Rows L2
theorem each_of' {K : PySem.W.Frag} {w : World} {R : Addr → Prop} {H : Hp} : ∀ {ds : List D} {xs : List V} {us : List Value}, Reps K w R H ds xs → Vals xs us → PySem.W.EachIs (fun u d => ∃ v, L2.RelV v u ∧ Rep K w R H d v) us ds
  | [], [], _, _, .nil => .nil
  | d :: ds, x :: xs, _, h, .cons r t => .cons ⟨x, r, h.1⟩ (each_of' h.2 t)
  | [], _ :: _, _, h, _ => h.elim
  | _ :: _, [], _, h, _ => h.elim
theorem of_each' {K : PySem.W.Frag} {w : World} {R : Addr → Prop} {H : Hp} : ∀ {ds : List D} {us : List Value}, PySem.W.EachIs (fun u d => ∃ v, L2.RelV v u ∧ Rep K w R H d v) us ds → ∃ xs, Vals xs us ∧ Reps K w R H ds xs
  | _, _, .nil => ⟨[], .nil, trivial⟩
  | _, _, .cons ⟨v, r, h⟩ t =>
    let ⟨xs, h1, h2⟩ := of_each' t
    ⟨v :: xs, .cons r h1, h, h2⟩
theorem srt_alike {ds : List D} (h : srtOk ds = true) : PySem.W.AllAlike (ds.map D.py) := by
  unfold srtOk at h
  simp only [Bool.and_eq_true] at h
  intro d hd e he
  obtain ⟨d', hd', rfl⟩ := List.mem_map.mp hd
  obtain ⟨e', he', rfl⟩ := List.mem_map.mp he
  exact List.all_eq_true.mp (List.all_eq_true.mp h.1.1.2 d' hd') e' he'
theorem srt_able {ds : List D} (h : srtOk ds = true) : PySem.W.Sortable (ds.map D.py) := by
  unfold srtOk at h
  simp only [Bool.and_eq_true] at h
  rcases Bool.or_eq_true _ _ ▸ h.1.2 with o3 | o3
  · refine .inl fun d hd => ?_
    obtain ⟨d', hd', rfl⟩ := List.mem_map.mp hd
    have := List.all_eq_true.mp o3 d' hd'
    match d', this with
    | .tup (x :: r), _ => exact ⟨x.py, pyAll r, rfl⟩
  · refine .inr fun d hd => ?_
    obtain ⟨d', hd', rfl⟩ := List.mem_map.mp hd
    have := List.all_eq_true.mp o3 d' hd'
    cases d' with
    | bl b => exact ⟨fun z => (by cases z), fun _ z => (by cases z)⟩
    | int b => exact ⟨fun z => (by cases z), fun _ z => (by cases z)⟩
    | str b => exact ⟨fun z => (by cases z), fun _ z => (by cases z)⟩
    | lst b => exact ⟨fun z => (by cases z), fun _ z => (by cases z)⟩
    | _ => cases this
theorem srt_deep {ds : List D} (h : srtOk ds = true) : ∀ d ∈ ds, d.py.depth ≤ 60 := by
  unfold srtOk at h
  simp only [Bool.and_eq_true] at h
  exact fun d hd => of_decide_eq_true (List.all_eq_true.mp h.2 d hd)
theorem srt_eqOk {ds : List D} (h : srtOk ds = true) : eqOkAll ds = true := by
  unfold srtOk at h
  simp only [Bool.and_eq_true] at h
  exact h.1.1.1
theorem dtok_of {K : PySem.W.Frag} {w : World} {H : Hp} {a : Addr} {ks : List D} {xs : List V} {u : HO} (dc : DctC K w H a ks xs u) (h : ks.all isT = true) : ∃ kas, ks = kas.map kT ∧ DTok K w H a kas xs u := by
  rcases dc with ⟨kvs, e1, e2, e3⟩ | ⟨kas, e1, n, e2, e3⟩
  · subst e2 e3
    cases kvs with
    | nil => exact ⟨[], rfl, .inr ⟨e1, rfl, rfl⟩, fun p hp => nomatch hp⟩
    | cons p r =>
      rw [List.map_cons, List.all_cons, Bool.and_eq_true] at h
      have := h.1
      cases q : p.1 <;> rw [q] at this <;> cases this
  · exact ⟨kas, e2, .inl e1, e3⟩
section
variable {X : Cx}
theorem reads_of {pins : List (Addr × Obj)} {s : Shared} {σ : L2.St} {H : Hp} {R : Addr → Prop} (I : Inv X pins σ H s) : ∀ {ds : List D} {xs : List V} {its : List Value}, Reps X.K X.w R H ds xs → Vals xs its → eqOkAll ds = true → PySem.W.EachIs (fun v b => ∃ as, Reads s.heap v (D.py b) as) its ds
  | [], [], _, _, .nil, _ => .nil
  | d :: ds, x :: xs, _, h, .cons r t, o => by
    have o : (d.eqOk && eqOkAll ds) = true := o
    rw [Bool.and_eq_true] at o
    exact .cons (Dp.reads I d.py x _ (rep_dp d x h.1 o.1) r) (reads_of I h.2 t o.2)
  | [], _ :: _, _, h, _, _ => h.elim
  | _ :: _, [], _, h, _, _ => h.elim
/-- sorted(d), d's keys tuples -/
theorem cr_sortDT (hu : X.A.units + 65 < cLine) (hc : X.calm = true) : CallR X (.builtin "sorted") (fun vs H Q => ∃ R a kas xs u, vs = [.ref a] ∧ Rd H a u ∧ DTok X.K X.w H a kas xs u ∧ srtOk (kas.map kT) = true ∧
    ∀ ys p, Reps X.K X.w R H (srtD (kas.map kT)) ys → H p = none → Q (.ref p) (upd H p (.lst ys))) := by
  intro pins s σ H vs us Q I r h
  obtain ⟨R, a, kas, xs, u, rfl, hr, dok, ok, q⟩ := h
  obtain rfl := Vals.ref1 r
  obtain ⟨z, hd, us, rv, hl, dd⟩ := dto_rd I hr dok
  obtain ⟨es, ep, raw, hsz, hes⟩ := dd.raw
  rw [zip3_len hl] at hsz
  have hz : (kas.map fun p => Value.ref p.2).length ≤ sizeLine := by rw [List.length_map]; exact z
  -- the keys' tuples
  have rk : Reps X.K X.w R H (kas.map kT) (kas.map fun p => V.ref p.2) := by
    have := dok.2
    clear q ok dd hes hsz raw rv hl hz z hr dok
    induction kas with
    | nil => trivial
    | cons p r ih =>
      refine ⟨⟨p.2, p.1.map kV, rfl, this p List.mem_cons_self, ?_⟩, ih fun p hp => this p (List.mem_cons_of_mem _ hp)⟩
      have go : ∀ κs : List Key, Reps X.K X.w R H (κs.map kD) (κs.map kV) := fun κs => by
        induction κs with
        | nil => trivial
        | cons κ κs ih2 => exact ⟨by cases κ <;> rfl, ih2⟩
      exact go _
  have vk : Vals (kas.map fun p => V.ref p.2) (kas.map fun p => Value.ref p.2) := by
    clear q ok dd hes hsz raw rv hl hz z hr dok rk
    induction kas with
    | nil => exact .nil
    | cons p r ih => exact .cons rfl ih
  refine Calls.call_function_entry kind_sorted plain_sorted entry_sorted (args_sorted1 _) ?_
  unfold Builtin.«sorted»
  refine wpAny_bind (m := checkCount "sorted" 1 1 _) (wpAny_pure (wpAny_bind (PySem.W.kdu_collect (A := X.A.in1) (KdlSrc.rawDict hd) (I.ok.hd hc) raw (by omega) fun h' tk acc hk hacc => ?_)))
  have ea : acc.toList = kas.map fun p => Value.ref p.2 := by
    refine List.ext_getElem (by rw [Array.length_toList, hacc.1, hsz, List.length_map]) fun i h1 h2 => ?_
    have hi : i < acc.size := by simpa using h1
    obtain ⟨hi2, e⟩ := hacc.2 i acc[i] (Array.getElem?_eq_getElem hi)
    obtain ⟨y, e1, e2, _⟩ := hes i hi2
    rw [Array.getElem_toList, e, e2, List.getElem_map]
    have h3 : i < kas.length := by simpa using h2
    have h4 : i < us.length := by omega
    have e3 : (zip3 kas us)[i]? = some (kas[i].1, kas[i].2, us[i]) := by
      have : (kas.zip us)[i]? = some (kas[i], us[i]) := by
        rw [List.getElem?_eq_getElem (by rw [List.length_zip]; omega), List.getElem_zip]
      unfold zip3
      rw [List.getElem?_map, this]; rfl
    rw [e3] at e1
    cases e1
    rfl
  rw [ea]
  have I1 : Inv X pins σ H { s with heap := h', toks := tk } := I.kept hk
  have o := srt_eqOk ok
  refine wpAny_bind (wpAny_newList ?_ hz)
  have at1 : (h'.push (seqObj "list" (kas.map fun p => Value.ref p.2).toArray 0)).get? h'.objs.size = some (seqObj "list" (kas.map fun p => Value.ref p.2).toArray 0) := Heap.get?_push_size _ rfl
  refine wpAny_bind (wpAny_holding (wpAny_call_entry slot_list_sort ⟨_, at1, rfl⟩ entry_list_sort ?_ (args_list_sort _)))
  have er := reads_of I1 rk vk o
  have old : ∀ b ob, h'.get? b = some ob → (PySem.W.sortingHeap (h'.push (seqObj "list" (kas.map fun p => Value.ref p.2).toArray 0)) h'.objs.size (kas.map fun p => Value.ref p.2)).get? b = some ob := fun b ob e =>
    PySem.W.sortingHeap_old (Nat.ne_of_lt (Heap.lt_size e)) (Heap.get?_push_of_some _ e)
  have er' : PySem.W.EachIs (fun v b => ∃ as, Reads (PySem.W.sortingHeap (h'.push (seqObj "list" (kas.map fun p => Value.ref p.2).toArray 0)) h'.objs.size (kas.map fun p => Value.ref p.2)) v (D.py b) as) (kas.map fun p => Value.ref p.2) (kas.map kT) :=
    er.mono fun _ _ ⟨as, r⟩ => ⟨as, PyProof.Rows.Reads.keeps old r⟩
  refine PySem.W.list_sort_vals (s := { s with heap := h'.push (seqObj "list" (kas.map fun p => Value.ref p.2).toArray 0), toks := tk }) at1
    (PySem.W.SortsAt.data (PySem.W.each_map (R := fun v d => ∃ as, Reads (PySem.W.sortingHeap (h'.push (seqObj "list" (kas.map fun p => Value.ref p.2).toArray 0)) h'.objs.size (kas.map fun p => Value.ref p.2)) v d as) D.py er') (srt_alike ok) (srt_able ok)
      (PySem.W.bound_map fun b hb => by have := srt_deep ok b hb; show X.A.units + 1 + 1 + b.py.depth < cLine; omega)) hz ⟨_, rfl, wpAny_pure ⟨_, rfl, ?_⟩⟩
  obtain ⟨ys, v1, v2⟩ := of_each' (PySem.W.sortVals_data false (each_of' rk vk) er' (srt_alike ok))
  generalize hout : PySem.W.sortVals _ _ _ _ = out at v1 ⊢
  obtain ⟨ep2, he'⟩ := sortedHeap_at (vs := kas.map fun p => Value.ref p.2) (out := out.toArray) at1
  have keep : ∀ b ob, h'.get? b = some ob → (sortedHeap (h'.push (seqObj "list" (kas.map fun p => Value.ref p.2).toArray 0)) h'.objs.size (kas.map fun p => Value.ref p.2) out.toArray).get? b = some ob := fun b ob e =>
    (sortedHeap_old (Nat.ne_of_lt (Heap.lt_size e)) (by rw [Heap.size_push]; exact Nat.lt_succ_of_lt (Heap.lt_size e))).trans (Heap.get?_push_of_some _ e)
  refine ⟨.ref h'.objs.size, _, I1.laid (a := h'.objs.size) (o := .lst ys) (t' := tk) keep (Nat.le_refl _) ⟨?_, out, ep2, v1, he'⟩, rfl, q _ _ v2 (I1.hok.fresh (Nat.le_refl _))⟩
  have e1 := v2.length
  have e2 : (srtD (kas.map kT)).length = kas.length := by
    unfold srtD
    rw [List.length_mergeSort, List.length_map]
  have e1 : (srtD (kas.map kT)).length = ys.length := e1
  rw [← e1, e2]
  exact z
end
end PV

/-! PV, part E: subscripts, slices, built-in functions, isinstance. -/
namespace PVS
open PySem PySem.Spec PyProof.Rows L2
/-- an empty set as the model lays it -/
abbrev eset (w : World) : Obj := { cls := .type "set", dict := none, data := .set #[] 0 (.fresh 0 0 (!w.params.followText "set-order")) }
section
variable {P : Program} {w : World} {A : Around} {E : Value → Shared → Prop} {s : Shared}
set_option maxHeartbeats 3200000 in
/-- set(l), l a list of ints -/
theorem set_of_list {l : Addr} {items : Array Value} (ns : List Int) {Q : Value → Shared → Prop} (hh : A.handled = none) (hl : s.heap.IsList l items) (hit : IntsAre items.toList ns) (hb : ns.length + 1 < scanBound)
    (h : ∀ (h' : Heap) (tk c : Nat), SetR w h' s.heap.objs.size (fun j => decide (j ∈ ns)) c → (∀ b o, s.heap.get? b = some o → h'.get? b = some o) → Q (.ref s.heap.objs.size) { s with heap := h', toks := tk }) :
    wpAny (model P w) A (call (.type "set") [.ref l]) Q E s := by
  have hisz : items.size = ns.length := by
    have q := hit.length
    rwa [Array.length_toList] at q
  obtain ⟨c, tl, hmro⟩ := F.called_set.mro
  have made := F.called_set.made
  have sub := F.called_set.sub
  refine wpAny_call (codeAny_of_tree ?_)
  show wpAny _ _ (callAny (.type "set") _) _ _ _
  refine wpAny_pure ⟨Code.quiet_builtin _ (by decide +kernel), codeAny_builtin F.entry_type_call ?_⟩
  rw [Around.under_plain (weight_type_call_type "set" [.ref l] []) rfl]
  have f1 := F.called_set.notType
  have f2 := F.called_set.canCreate
  have f3 := F.typeCall_set_1 (.ref l)
  repeat (any_goals (first | assumption | wp_step))

  refine codeAny_mono (code_set_led1 (.ref l) (E := E) (Q₁ := fun ob s1 => ob = .ref s.heap.objs.size ∧ s1 = { s with heap := s.heap.push (eset w) }) ⟨rfl, rfl⟩) fun r s1 hr => ?_
  cases r with
  | error e => exact hr
  | ok fl =>
    cases fl with
    | ret ob =>
      obtain ⟨rfl, rfl⟩ := hr
      have hS : (s.heap.push (eset w)).get? s.heap.objs.size = some (eset w) := Heap.get?_push_size _ rfl
      have hT : Shared.TypeIs { s with heap := s.heap.push (eset w) } (.ref s.heap.objs.size) "set" := ⟨_, hS, rfl⟩
      have g1 := F.called_set.init.lookup
      have g2 := F.called_set.init.bind (.ref s.heap.objs.size)
      repeat (any_goals (first | assumption | wp_step))

      refine codeAny_mono (codeAny_call_builtin (R := wants (fun r s2 => r = .none ∧ ∃ h' tk c, s2 = { s with heap := h', toks := tk } ∧ SetR w h' s.heap.objs.size (fun j => decide (j ∈ ns)) c ∧
          (∀ b o, s.heap.get? b = some o → h'.get? b = some o)) E) F.called_set.init.plain F.entry_set_init (check_set_init_1 hT ?_)) fun r2 s2 hr2 => ?_
      · obtain ⟨⟨cl, dd, dt, sl⟩, hol, hcl, nl, hdl⟩ := hl
        simp only at hcl hdl
        subst hcl; subst hdl
        have hol2 : (s.heap.push (eset w)).get? l = some { cls := .type "list", dict := dd, data := .seq items nl, slots := sl } := Heap.get?_push_of_some _ hol
        have k1 := F.sub_list_set
        have k2 := F.sub_list_frozenset
        have k3 : (Value.type "list" == Value.type "dict") = false := by decide
        have hl1 : (s.heap.push (eset w)).IsList l items := ⟨_, hol2, rfl, nl, rfl⟩
        unfold Builtin.«set.__init__» noKeywords Builtin.Frozenset.updateFrom
        generalize hPI : pyIter = PI
        wp_walk
        subst hPI

        refine wpAny_pyIter_list hl1 ?_
        refine wpAny_bind (wpAny_runValue ?_)
        have hlS : l < s.heap.objs.size := Heap.lt_size hol
        have hh3 : A.in1.in1.in1.handled = none := by simp [hh]
        have hz1 : (s.heap.push (eset w)).objs.size = s.heap.objs.size + 1 := Heap.size_push ..
        have hneI : l ≠ (s.heap.push (eset w)).objs.size := by
          rw [hz1]; exact Nat.ne_of_lt (Nat.lt_succ_of_lt hlS)
        have hSf : s.heap.objs.size ∉ [(s.heap.push (eset w)).objs.size, l] := by
          rw [hz1]; simp only [List.mem_cons, List.not_mem_nil, or_false, not_or]
          exact ⟨Nat.ne_of_lt (Nat.lt_succ_self _), Nat.ne_of_gt hlS⟩
        have hval : ∀ (i : Nat) (v : Value), items[i]? = some v → ∃ k t, ns[i]? = some k ∧ v = .int k t := fun i v hv => by
          have hi : i < ns.length := by rw [← hisz]; exact (Array.getElem?_eq_some_iff.mp hv).1
          obtain ⟨t, e⟩ := PyProof.Rows.IntsAre.int_at hit i v (by rw [Array.getElem?_toList]; exact hv)
          refine ⟨ns[i], t, List.getElem?_eq_getElem hi, ?_⟩
          rw [e, List.getD_eq_getElem?_getD, List.getElem?_eq_getElem hi] <;> rfl
        refine set_update_ints ((Walks.list hh3 _ l hneI items).toS) s.heap.objs.size hSf ns hisz hb hval (items.size - 0) 0 _ (by omega) (Nat.zero_le _)
          ⟨⟨_, Heap.get?_push_size _ rfl, rfl, rfl⟩, (hl1.push _)⟩ ?hS0 ?hR
        case hS0 => exact ⟨0, Nat.le_refl 0, setR_new_at (Heap.get?_push_of_some _ hS)⟩
        case hR =>
          intro s' c' hm hc' hS'
          obtain ⟨h', g', d', tk', os'⟩ := s'
          obtain rfl : g' = s.gens := hm.gens
          obtain rfl : d' = s.drawn := hm.drawn
          obtain rfl : os' = s.os := hm.os
          show wpAny _ _ _ _ _ _
          refine wpAny_pure ?_
          show wpAny _ _ (ret Value.none) _ _ _
          refine wpAny_pure ⟨rfl, h', tk', c', rfl, hS', fun b o e => ?_⟩
          have hb0 : b < s.heap.objs.size := Heap.lt_size e
          refine hm.heap b o ?_ (Heap.get?_push_of_some _ (Heap.get?_push_of_some _ e))
          rw [hz1]
          simp only [List.mem_cons, List.not_mem_nil, or_false, not_or]
          exact ⟨Nat.ne_of_lt hb0, Nat.ne_of_lt (Nat.lt_succ_of_lt hb0)⟩
      · cases r2 with
        | error e => exact hr2
        | ok f2 =>
          cases f2 with
          | ret r =>
            obtain ⟨rfl, h', tk, c, rfl, hS', hk'⟩ := hr2
            repeat (any_goals (first | assumption | wp_step))
            exact h _ _ _ hS' hk'
          | next => exact hr2
          | brk => exact hr2
          | cont => exact hr2
    | next => exact hr
    | brk => exact hr
    | cont => exact hr
end
end PVS

/-! PV, part F: subscripts, slices, built-in functions, isinstance, by values. -/
namespace PV
open PySem PySem.Spec PyProof.Rows L2

section
variable {K : PySem.W.Frag} {w : World} {R R' : Addr → Prop} {H H' : Hp}
theorem Reps.at {ds : List D} {xs : List V} {k : Int} {d : D} (h : Reps K w R H ds xs) (e : atI ds k = some d) : ∃ x, atI xs k = some x ∧ Rep K w R H d x := by
  unfold atI at e ⊢
  rw [← h.length]
  cases q : ixN ds.length k with
  | none => rw [q] at e; cases e
  | some j =>
    rw [q] at e
    exact h.get e
theorem Reps.cut {ds : List D} {xs : List V} (lo hi : Option Int) (h : Reps K w R H ds xs) : Reps K w R H (cutD ds lo hi) (cutV xs lo hi) := by
  unfold cutD cutV
  rw [h.length]
  exact (h.drop _).take _
theorem minL_mem : ∀ (l : List Int) (m : Int), minL m l ∈ m :: l
  | [], m => List.mem_cons_self
  | x :: r, m => by
    unfold minL
    have := minL_mem r (if x < m then x else m)
    rcases List.mem_cons.mp this with e | e
    · rw [e]
      split
      · exact List.mem_cons_of_mem _ List.mem_cons_self
      · exact List.mem_cons_self
    · exact List.mem_cons_of_mem _ (List.mem_cons_of_mem _ e)
theorem minL_le : ∀ (l : List Int) (m : Int), ∀ y ∈ m :: l, minL m l ≤ y
  | [], m, y, h => by
    have : y = m := by simpa using h
    rw [this]; exact Int.le_refl _
  | x :: r, m, y, h => by
    unfold minL
    have ih := minL_le r (if x < m then x else m)
    have h0 : minL (if x < m then x else m) r ≤ (if x < m then x else m) := ih _ List.mem_cons_self
    have h1 : (if x < m then x else m) ≤ m ∧ (if x < m then x else m) ≤ x := by split <;> omega
    rcases List.mem_cons.mp h with e | h
    · rw [e]; omega
    · rcases List.mem_cons.mp h with e | h
      · rw [e]; omega
      · exact ih y (List.mem_cons_of_mem _ h)
theorem maxL_mem : ∀ (l : List Int) (m : Int), maxL m l ∈ m :: l
  | [], m => List.mem_cons_self
  | x :: r, m => by
    unfold maxL
    have := maxL_mem r (if m < x then x else m)
    rcases List.mem_cons.mp this with e | e
    · rw [e]
      split
      · exact List.mem_cons_of_mem _ List.mem_cons_self
      · exact List.mem_cons_self
    · exact List.mem_cons_of_mem _ (List.mem_cons_of_mem _ e)
theorem maxL_ge : ∀ (l : List Int) (m : Int), ∀ y ∈ m :: l, y ≤ maxL m l
  | [], m, y, h => by
    have : y = m := by simpa using h
    rw [this]; exact Int.le_refl _
  | x :: r, m, y, h => by
    unfold maxL
    have ih := maxL_ge r (if m < x then x else m)
    have h0 : (if m < x then x else m) ≤ maxL (if m < x then x else m) r := ih _ List.mem_cons_self
    have h1 : m ≤ (if m < x then x else m) ∧ x ≤ (if m < x then x else m) := by split <;> omega
    rcases List.mem_cons.mp h with e | h
    · rw [e]; omega
    · rcases List.mem_cons.mp h with e | h
      · rw [e]; omega
      · exact ih y (List.mem_cons_of_mem _ h)
end

section
variable {X : Cx}
/-! ### subscripts -/
def rI (K : PySem.W.Frag) (w : World) : R2 := fun x y H Q => ∃ R a i d, RepT K w R H a x ∧ RepT K w R H i y ∧ ixD a i = some d ∧ ∀ v, Rep K w R H d v → Q v H
/-- d[k], there, of a dict -/
theorem ix_dct {ks vs : List D} {R : Addr → Prop} {i d : D} {pins : List (Addr × Obj)} {s : Shared} {σ : L2.St} {H : Hp} {y : V} {v u : Value} {Q : VK} {p : Addr} {xs : List V} {u' : HO} (value slice : Expr) (hu : X.A.units + 1 < cLine) (I : L2.Inv X pins σ H s) (rx : L2.RelV (.ref p) v) (ry : L2.RelV y u)
    (hr : Rd H p u') (h1 : Reps X.K X.w R H vs xs) (h2 : DctC X.K X.w H p ks xs u') (hk : kOk ks i = true) (hi : RepT X.K X.w R H i y) (g : getK i ks vs = some d) (q : ∀ v, Rep X.K X.w R H d v → Q v H)
    (hs : subscripted slice false v u = operate [v, u] (getItem v u)) : wpAny (model X.prog X.w) X.A (subscriptTail value slice v u) (EP X pins σ Q) X.xe s := by
  obtain rfl : v = Value.ref p := rx
  obtain ⟨x, gx, rp⟩ := getK_some h1 g
  obtain ⟨o, ho, hc, hd⟩ := dct_is I hr h2
  have key : wpAny (model X.prog X.w) X.A (getItem (.ref p) u) (EP X pins σ Q) X.xe s := dct_get hu I hr h2 hk (hi.key (kOk_is hk)) ry gx fun w' s' I' rw' => ⟨x, H, I', rw', q x rp⟩
  have hT : s.TypeIs (.ref p) "dict" := ⟨o, ho, hc⟩
  unfold subscriptTail
  refine wpAny_bind ?_
  rw [getitemInPython_of_ne hT.not_modules]
  refine wpAny_bind (wpAny_specialOf hT PySem.F.slot_dict_getitem.lookup ?_)
  have fin : wpAny (model X.prog X.w) X.A (subscripted slice false (.ref p) u) (fun r s₃ => wpAny (model X.prog X.w) X.A (letTemporaryGo value (.ref p) r >>= fun _ => pure r) (EP X pins σ Q) X.xe s₃) X.xe s := by
    rw [hs]
    exact wpAny_operating (thn key fun r s₃ h₃ => wpAny_bind (wpAny_letTemporaryGo (wpAny_pure h₃)))
  first
    | exact wpAny_pure (wpAny_bind fin)
    | exact wpAny_bind (wpAny_pure (wpAny_bind fin))
    | exact wpAny_bind fin
theorem or_ix (hu : X.A.units + 1 < cLine) : IxR X (rI X.K X.w) := by
  intro value slice pins s σ H x y v u Q I rx ry h hs
  obtain ⟨R, a, i, d, ha, hi, e, q⟩ := h
  unfold ixD at e
  split at e
  · obtain ⟨p, xs, ep, h1, h2⟩ := ha.lst
    obtain ⟨z, hz, rz⟩ := h2.at e
    exact ix_list value slice pins s σ H x y v u Q I rx ry ⟨p, xs, _, z, ep, hi.int, SqL.of h1, hz, q z rz⟩ hs
  · obtain ⟨p, xs, ep, h1, h2⟩ := ha.tup
    obtain ⟨z, hz, rz⟩ := h2.at e
    exact ix_tup value slice pins s σ H x y v u Q I rx ry ⟨p, xs, _, z, ep, hi.int, h1.sq, hz, q z rz⟩ hs
  · obtain ⟨p, ep, h1⟩ := ha.scr
    rename_i ns k
    have r : Reps X.K X.w R H (ns.map D.int) (ns.map V.int) := reps_ints ns
    have e' : atI (ns.map D.int) k = some d := by
      unfold atI at e ⊢
      rw [List.length_map]
      cases q : ixN ns.length k with
      | none => rw [q] at e; cases e
      | some j =>
        rw [q] at e
        show (ns.map D.int)[j]? = some d
        rw [List.getElem?_map]
        exact e
    obtain ⟨z, hz, rz⟩ := r.at e'
    exact ix_list value slice pins s σ H x y v u Q I rx ry ⟨p, _, _, z, ep, hi.int, h1, hz, q z rz⟩ hs
  · split at e
    · rename_i hk
      obtain ⟨p, xs, u', rfl, hr, h1, h2⟩ := ha.dct
      exact ix_dct value slice hu I rx ry hr h1 h2 hk hi e q hs
    · cases e
  · split at e
    · rename_i hk
      obtain ⟨p, xs, u', rfl, hr, h1, h2⟩ := ha.dcf
      exact ix_dct value slice hu I rx ry hr h1 h2 hk hi e q hs
    · cases e
  · cases e
def rS (K : PySem.W.Frag) (w : World) : V → Option Int → Option Int → Hp → VK → Prop := fun x lo hi H Q => ∃ R a r, RepT K w R H a x ∧ slcD a lo hi = some r ∧ ∀ v H', PR K w R H v H' r → Q v H'
theorem or_slc : SlR X (rS X.K X.w) := by
  intro pins s σ H x v vl vu lo hi sl Q I rx hs pl pu h
  obtain ⟨R, a, r, ha, e, q⟩ := h
  unfold slcD at e
  split at e
  · cases e
    obtain ⟨p, xs, ep, h1, h2⟩ := ha.lst
    exact sl_list pins s σ H x v vl vu lo hi sl Q I rx hs pl pu ⟨p, xs, ep, SqL.of h1, fun b n => q _ _ (PR.lst n (h2.cut lo hi))⟩
  · cases e
    obtain ⟨p, ep, h1⟩ := ha.scr
    exact sl_list pins s σ H x v vl vu lo hi sl Q I rx hs pl pu ⟨p, _, ep, h1, fun b n => q _ _ (PR.lst n ((reps_ints _).cut lo hi))⟩
  · cases e
    obtain ⟨p, xs, ep, h1, h2⟩ := ha.tup
    refine PVU.sl_tupF pins s σ H x v vl vu lo hi sl Q I rx hs pl pu ⟨p, xs, ep, h1.sq, fun z => ?_, fun b o n no => q _ _ (PR.tup n no (h2.cut lo hi))⟩
    refine q _ _ (PR.sc ⟨p, xs, rfl, h1, ?_⟩)
    have h3 := h2.cut lo hi
    rwa [z] at h3
  · cases e

/-! ### built-in functions -/
def btV : Bt → Value
  | .len => .builtin "len"
  | .tuple => .type "tuple"
  | .list => .type "list"
  | .sorted => .builtin "sorted"
  | .sum => .builtin "sum"
  | .min => .builtin "min"
  | .max => .builtin "max"
  | .abs => .builtin "abs"
  | .int => .type "int"
  | .divmod => .builtin "divmod"
  | .all => .builtin "all"
  | .any => .builtin "any"
  | .set => .type "set"
def RepTs (K : PySem.W.Frag) (w : World) (R : Addr → Prop) (H : Hp) : List D → List V → Prop
  | [], [] => True
  | d :: ds, v :: vs => RepT K w R H d v ∧ RepTs K w R H ds vs
  | _, _ => False
section
variable {K : PySem.W.Frag} {w : World} {R : Addr → Prop} {H : Hp}
theorem RepTs.one {d : D} {vs : List V} (h : RepTs K w R H [d] vs) : ∃ v, vs = [v] ∧ RepT K w R H d v := by
  match vs, h with
  | [v], h => exact ⟨v, rfl, h.1⟩
theorem RepTs.two {d e : D} {vs : List V} (h : RepTs K w R H [d, e] vs) : ∃ v u, vs = [v, u] ∧ RepT K w R H d v ∧ RepT K w R H e u := by
  match vs, h with
  | [v, u], h => exact ⟨v, u, rfl, h.1, h.2.1⟩
theorem setIs_dedup {w : World} {h : Heap} {a : Addr} {ns : List Int} {c : Nat} (S : SetR w h a (fun j => decide (j ∈ ns)) c) : SetIs (fun j => decide (j ∈ ns)) c (dedup ns) := by
  obtain ⟨o, es, ep, t, _, _, _, _, nd, hm, _, _, hn, _⟩ := S
  refine ⟨dedup_nodup ns, ?_, fun k => by rw [decide_eq_true_iff, dedup_mem]⟩
  have e1 : (es.toList.map keyOf).length = (dedup ns).length := nodup_len nd (dedup_nodup ns) fun k => by
    rw [← hm k, decide_eq_true_iff, dedup_mem]
  rw [List.length_map, Array.length_toList] at e1
  omega
end
def rF (K : PySem.W.Frag) (w : World) (f : Bt) : List V → Hp → VK → Prop := fun vs H Q => ∃ R ds r, RepTs K w R H ds vs ∧ bltD f ds = some r ∧ ∀ v H', PR K w R H v H' r → Q v H'
theorem set_laid {pins : List (Addr × Obj)} {s : Shared} {σ : St} {H : Hp} {R : Addr → Prop} {Q : VK} {ns : List Int} (I : Inv X pins σ H s) (q : ∀ v H', PR X.K X.w R H v H' (.fr (.set (dedup ns))) → Q v H') {h' : Heap} {tk c : Nat}
    (S : SetR X.w h' s.heap.objs.size (fun j => decide (j ∈ ns)) c) (k : ∀ b o, s.heap.get? b = some o → h'.get? b = some o) : EP X pins σ Q (.ref s.heap.objs.size) { s with heap := h', toks := tk } := by
  have n : H s.heap.objs.size = none := I.hok.fresh (Nat.le_refl _)
  exact ⟨.ref s.heap.objs.size, upd H s.heap.objs.size (SetO X.w s.heap.objs.size (fun j => decide (j ∈ ns)) c), I.laid (t' := tk) k (Nat.le_refl _) (setO_new S), rfl,
    q _ _ ⟨_, _, rfl, n, rfl, _, _, upd_same, setIs_dedup S⟩⟩
/-! ### sorted of data -/
theorem each_of {K : PySem.W.Frag} {w : World} {R : Addr → Prop} {H : Hp} : ∀ {ds : List D} {xs : List V} {us : List Value}, Reps K w R H ds xs → Vals xs us → PySem.W.EachIs (fun u d => ∃ v, L2.RelV v u ∧ Rep K w R H d v) us ds
  | [], [], _, _, .nil => .nil
  | d :: ds, x :: xs, _, h, .cons r t => .cons ⟨x, r, h.1⟩ (each_of h.2 t)
  | [], _ :: _, _, h, _ => h.elim
  | _ :: _, [], _, h, _ => h.elim
theorem of_each {K : PySem.W.Frag} {w : World} {R : Addr → Prop} {H : Hp} : ∀ {ds : List D} {us : List Value}, PySem.W.EachIs (fun u d => ∃ v, L2.RelV v u ∧ Rep K w R H d v) us ds → ∃ xs, Vals xs us ∧ Reps K w R H ds xs
  | _, _, .nil => ⟨[], .nil, trivial⟩
  | _, _, .cons ⟨v, r, h⟩ t =>
    let ⟨xs, h1, h2⟩ := of_each t
    ⟨v :: xs, .cons r h1, h, h2⟩
theorem eqOkAll_mem : ∀ {ds : List D}, eqOkAll ds = true → ∀ d ∈ ds, d.eqOk = true
  | d :: ds, h, e, he => by
    have h : (d.eqOk && eqOkAll ds) = true := h
    rw [Bool.and_eq_true] at h
    rcases List.mem_cons.mp he with q | q
    · rw [q]; exact h.1
    · exact eqOkAll_mem h.2 e q
theorem cr_sortD (hu : X.A.units + 65 < cLine) : CallR X (.builtin "sorted") (fun vs H Q => ∃ R a ds xs, vs = [.ref a] ∧ SqL X.K H a xs ∧ Reps X.K X.w R H ds xs ∧ srtOk ds = true ∧ ∀ ys p, Reps X.K X.w R H (srtD ds) ys → H p = none → Q (.ref p) (upd H p (.lst ys))) := by
  intro pins s σ H vs us Q I r h
  obtain ⟨R, a, ds, xs, rfl, hs, hr, ok, q⟩ := h
  obtain ⟨its, rv, hl, hz⟩ := I.list hs
  obtain rfl := Vals.ref1 r
  unfold srtOk at ok
  simp only [Bool.and_eq_true] at ok
  obtain ⟨⟨⟨o1, o2⟩, o3⟩, o4⟩ := ok
  have er : PySem.W.EachIs (fun v b => ∃ as, Reads s.heap v (D.py b) as) its ds := by
    clear o2 o3 o4 q hs hz hl r
    induction ds generalizing xs its with
    | nil =>
      cases xs with
      | nil => cases rv; exact .nil
      | cons x xs => exact hr.elim
    | cons d ds ih =>
      cases xs with
      | nil => exact hr.elim
      | cons x xs =>
        cases rv with
        | cons r t =>
          have o1 : (d.eqOk && eqOkAll ds) = true := o1
          rw [Bool.and_eq_true] at o1
          exact .cons (Dp.reads I d.py x _ (rep_dp d x hr.1 o1.1) r) (ih _ hr.2 _ t o1.2)
  have hal : PySem.W.AllAlike (ds.map D.py) := fun d hd e he => by
    obtain ⟨d', hd', rfl⟩ := List.mem_map.mp hd
    obtain ⟨e', he', rfl⟩ := List.mem_map.mp he
    exact List.all_eq_true.mp (List.all_eq_true.mp o2 d' hd') e' he'
  have hk : PySem.W.Sortable (ds.map D.py) := by
    rw [Bool.or_eq_true] at o3
    rcases o3 with o3 | o3
    · refine .inl fun d hd => ?_
      obtain ⟨d', hd', rfl⟩ := List.mem_map.mp hd
      have := List.all_eq_true.mp o3 d' hd'
      match d', this with
      | .tup (x :: r), _ => exact ⟨x.py, pyAll r, rfl⟩
    · refine .inr fun d hd => ?_
      obtain ⟨d', hd', rfl⟩ := List.mem_map.mp hd
      have := List.all_eq_true.mp o3 d' hd'
      cases d' with
      | bl b => exact ⟨fun z => (by cases z), fun _ z => (by cases z)⟩
      | int b => exact ⟨fun z => (by cases z), fun _ z => (by cases z)⟩
      | str b => exact ⟨fun z => (by cases z), fun _ z => (by cases z)⟩
      | lst b => exact ⟨fun z => (by cases z), fun _ z => (by cases z)⟩
      | _ => cases this
  have hlen : its.length = ds.length := by rw [← rv.length, hr.length]
  have hz' : ds.length ≤ sizeLine := by rw [hr.length]; exact hz
  refine PySem.W.sorted_data (enc := D.py) hl.isList (each_of hr rv) er hal hk hz' (fun b hb => ?_) fun out ho he => ?_
  · have := of_decide_eq_true (List.all_eq_true.mp o4 b hb)
    omega
  · obtain ⟨ys, v1, v2⟩ := of_each he
    obtain ⟨ep, he'⟩ := PyProof.Rows.sortedAll_at s.heap its out.toArray
    refine ⟨.ref _, _, I.laid (a := s.heap.objs.size + 1) (o := .lst ys) (t' := s.toks) (fun _ _ e => sortedAll_old e) (Nat.le_succ _) ⟨?_, out, ep, v1, he'⟩, rfl, q _ _ v2 (I.hok.fresh (Nat.le_succ _))⟩
    rw [v1.length, ho]
    exact hz'
/-- len(d) -/
theorem call_dlen : CallR X (.builtin "len") (fun vs H Q => ∃ (a : Addr) (ks : List D) (xs : List V) (u : HO), vs = [.ref a] ∧ Rd H a u ∧ DctC X.K X.w H a ks xs u ∧ Q (.int ks.length) H) := by
  intro pins s σ H vs us Q I r h
  obtain ⟨a, ks, xs, u, rfl, hr, dc, q⟩ := h
  obtain rfl := Vals.ref1 r
  exact dct_len I hr dc fun t s' I' => ⟨.int ks.length, H, I', ⟨_, rfl⟩, q⟩
/-- len(s), a set of ints -/
theorem call_slen : CallR X (.builtin "len") (fun vs H Q => ∃ (a : Addr) (S : Int → Bool) (n : Nat), vs = [.ref a] ∧ H a = some (SetO X.w a S n) ∧ n ≤ most ∧ Q (.int n) H) := by
  intro pins s σ H vs us Q I r h
  obtain ⟨a, S, n, rfl, ha, hz, q⟩ := h
  obtain rfl := Vals.ref1 r
  obtain ⟨o, es, ep, t, ho, hex, hd, _, _, _, hf, hn⟩ := SetR.setOf (P := X.prog) (setO_get I ha)
  refine call_len_set ho hex hd hf ?_ ⟨.int n, H, I.tok _, ⟨_, by rw [hn]⟩, q⟩
  rw [hn]
  unfold most at hz
  omega
theorem cr_blt (hu : X.A.units + 65 < cLine) (hc : X.calm = true) (f : Bt) : CallR X (btV f) (rF X.K X.w f) := by
  intro pins s σ H vs us Q I r h
  obtain ⟨R, ds, rr, hd, e, q⟩ := h
  unfold bltD at e
  split at e
  · cases e
    obtain ⟨v, rfl, h1⟩ := hd.one
    obtain ⟨p, xs, ep, h2, h3⟩ := h1.lst
    exact call_len_seq pins s σ H _ us Q I r ⟨p, xs, by rw [ep], .inl (SqL.of h2), by rw [← h3.length]; exact q _ _ (PR.sc rfl)⟩
  · cases e
    obtain ⟨v, rfl, h1⟩ := hd.one
    obtain ⟨p, xs, ep, h2, h3⟩ := h1.tup
    exact call_len_seq pins s σ H _ us Q I r ⟨p, xs, by rw [ep], .inr h2.sq, by rw [← h3.length]; exact q _ _ (PR.sc rfl)⟩
  · cases e
    obtain ⟨v, rfl, h1⟩ := hd.one
    obtain ⟨p, ep, h2⟩ := h1.scr
    refine call_len_seq pins s σ H _ us Q I r ⟨p, _, by rw [ep], .inl h2, ?_⟩
    rw [List.length_map]
    exact q _ _ (PR.sc rfl)
  · cases e
    obtain ⟨v, rfl, h1⟩ := hd.one
    obtain ⟨p, xs, u', ep, h2, h3, h4⟩ := h1.dct
    exact call_dlen pins s σ H _ us Q I r ⟨p, _, xs, u', by rw [ep], h2, h4, q _ _ (PR.sc rfl)⟩
  · cases e
    obtain ⟨v, rfl, h1⟩ := hd.one
    obtain ⟨p, xs, u', ep, h2, h3, h4⟩ := h1.dcf
    exact call_dlen pins s σ H _ us Q I r ⟨p, _, xs, u', by rw [ep], h2, h4, q _ _ (PR.sc rfl)⟩
  · split at e
    · rename_i hz
      cases e
      obtain ⟨v, rfl, h1⟩ := hd.one
      obtain ⟨p, S, n, ep, h2, h3, h4, h5⟩ := h1.set
      exact call_slen pins s σ H _ us Q I r ⟨p, S, n, by rw [ep], h2, by omega, by rw [h4]; exact q _ _ (PR.sc rfl)⟩
    · cases e
  · cases e
    obtain ⟨v, rfl, h1⟩ := hd.one
    obtain ⟨p, xs, ep, h2, h3⟩ := h1.lst
    exact PVU.call_tupF pins s σ H _ us Q I r ⟨p, xs, by rw [ep], .inl ⟨SqL.of h2, fun b o n no => q _ _ (PR.tup n no h3)⟩⟩
  · cases e
    obtain ⟨v, rfl, h1⟩ := hd.one
    obtain ⟨p, xs, ep, h2, h3⟩ := h1.tup
    exact PVU.call_tupF pins s σ H _ us Q I r ⟨p, xs, by rw [ep], .inr ⟨h2.sq, q _ _ (PR.sc ⟨p, xs, rfl, h2, h3⟩)⟩⟩
  · cases e
    obtain ⟨v, rfl, h1⟩ := hd.one
    obtain ⟨p, xs, ep, h2, h3⟩ := h1.lst
    exact call_list_of pins s σ H _ us Q I r ⟨p, xs, by rw [ep], .inl (SqL.of h2), fun b n => q _ _ (PR.lst n h3)⟩
  · cases e
    obtain ⟨v, rfl, h1⟩ := hd.one
    obtain ⟨p, xs, ep, h2, h3⟩ := h1.tup
    exact call_list_of pins s σ H _ us Q I r ⟨p, xs, by rw [ep], .inr h2.sq, fun b n => q _ _ (PR.lst n h3)⟩
  · cases e
    obtain ⟨v, rfl, h1⟩ := hd.one
    obtain ⟨p, ep, h2⟩ := h1.scr
    exact call_list_of pins s σ H _ us Q I r ⟨p, _, by rw [ep], .inl h2, fun b n => q _ _ (PR.lst n (reps_ints _))⟩
  · obtain ⟨v, rfl, h1⟩ := hd.one
    obtain ⟨p, xs, ep, h2, h3⟩ := h1.lst
    split at e
    · rename_i ns hn
      cases e
      rw [intsOf_eq hn] at h3
      rw [h3.ints] at h2
      refine cr_sortedI pins s σ H _ us Q I r ⟨p, ns, by rw [ep], SqL.of h2, fun ns' b pm ps n => ?_⟩
      have e2 : ns' = isort ns := sorted_uniq ps (isort_sorted ns) (pm.trans (isort_perm ns).symm)
      subst e2
      exact q _ _ (PR.lst n (reps_ints _))
    · split at e
      · rename_i ok
        cases e
        exact cr_sortD hu pins s σ H _ us Q I r ⟨R, p, _, xs, by rw [ep], SqL.of h2, h3, ok, fun ys b ry n => q _ _ (PR.lst n ry)⟩
      · cases e
  · obtain ⟨ns, hn, e'⟩ := Option.map_eq_some_iff.mp e
    subst e'
    obtain ⟨v, rfl, h1⟩ := hd.one
    obtain ⟨p, xs, ep, h2, h3⟩ := h1.tup
    rw [intsOf_eq hn] at h3
    rw [h3.ints] at h2
    refine PVX.cr_sortedTI pins s σ H _ us Q I r ⟨p, ns, by rw [ep], h2.sq, fun ns' b pm ps n => ?_⟩
    have e2 : ns' = isort ns := sorted_uniq ps (isort_sorted ns) (pm.trans (isort_perm ns).symm)
    subst e2
    exact q _ _ (PR.lst n (reps_ints _))
  · split at e
    · rename_i ns hz
      cases e
      obtain ⟨v, rfl, h1⟩ := hd.one
      obtain ⟨p, S, n, ep, h2, h3, h4, h5⟩ := h1.set
      refine cr_sortedSet hc pins s σ H _ us Q I r ⟨p, S, n, by rw [ep], h2, by omega, fun ns' b ps hm hl nb => ?_⟩
      have nd' : ns'.Nodup := ps.imp fun h => Int.ne_of_lt h
      have e2 : ns' = isort ns := by
        refine sorted_uniq (ps.imp fun h => Int.le_of_lt h) (isort_sorted ns) ?_
        exact ((List.perm_ext_iff_of_nodup nd' h3).mpr fun k => by rw [hm k, h5 k]).trans (isort_perm ns).symm
      subst e2
      exact q _ _ (PR.lst nb (reps_ints _))
    · cases e
  · split at e
    · rename_i hk
      rw [Bool.and_eq_true] at hk
      cases e
      obtain ⟨v, rfl, h1⟩ := hd.one
      obtain ⟨p, xs, u', ep, h2, h3, h4⟩ := h1.dct
      obtain ⟨kas, rfl, ok⟩ := dtok_of h4 hk.1
      exact cr_sortDT hu hc pins s σ H _ us Q I r ⟨R, p, kas, xs, u', by rw [ep], h2, ok, hk.2, fun ys b ry n => q _ _ (PR.lst n ry)⟩
    · cases e
  · split at e
    · rename_i hk
      rw [Bool.and_eq_true] at hk
      cases e
      obtain ⟨v, rfl, h1⟩ := hd.one
      obtain ⟨p, xs, u', ep, h2, h3, h4⟩ := h1.dcf
      obtain ⟨kas, rfl, ok⟩ := dtok_of h4 hk.1
      exact cr_sortDT hu hc pins s σ H _ us Q I r ⟨R, p, kas, xs, u', by rw [ep], h2, ok, hk.2, fun ys b ry n => q _ _ (PR.lst n ry)⟩
    · cases e
  · obtain ⟨ns, hn, e'⟩ := Option.map_eq_some_iff.mp e
    subst e'
    obtain ⟨v, rfl, h1⟩ := hd.one
    obtain ⟨p, xs, ep, h2, h3⟩ := h1.lst
    rw [intsOf_eq hn] at h3
    rw [h3.ints] at h2
    exact cr_sum hc pins s σ H _ us Q I r ⟨p, ns, by rw [ep], SqL.of h2, q _ _ (PR.sc rfl)⟩
  · cases e
    obtain ⟨v, rfl, h1⟩ := hd.one
    obtain ⟨p, ep, h2⟩ := h1.scr
    exact cr_sum hc pins s σ H _ us Q I r ⟨p, _, by rw [ep], h2, q _ _ (PR.sc rfl)⟩
  · cases e
    obtain ⟨v, u, rfl, h1, h2⟩ := hd.two
    exact call_min2 hc pins s σ H _ us Q I r ⟨_, _, by rw [h1.int, h2.int], q _ _ (PR.sc rfl)⟩
  · cases e
    obtain ⟨v, u, rfl, h1, h2⟩ := hd.two
    exact call_max2 hc pins s σ H _ us Q I r ⟨_, _, by rw [h1.int, h2.int], q _ _ (PR.sc rfl)⟩
  · rename_i x xs0
    obtain ⟨ns, hn, e'⟩ := Option.map_eq_some_iff.mp e
    subst e'
    obtain ⟨v, rfl, h1⟩ := hd.one
    obtain ⟨p, xs, ep, h2, h3⟩ := h1.lst
    rw [intsOf_eq hn] at h3
    have h3' : Reps X.K X.w R H ((x :: ns).map D.int) xs := h3
    rw [h3'.ints] at h2
    refine cr_min hc pins s σ H _ us Q I r ⟨p, x :: ns, by rw [ep], SqL.of h2, by simp, fun m hm hl => ?_⟩
    have e2 : m = minL x ns := by
      have a1 := hl _ (minL_mem ns x)
      have a2 := minL_le ns x m hm
      omega
    subst e2
    exact q _ _ (PR.sc rfl)
  · rename_i x xs0
    obtain ⟨ns, hn, e'⟩ := Option.map_eq_some_iff.mp e
    subst e'
    obtain ⟨v, rfl, h1⟩ := hd.one
    obtain ⟨p, xs, ep, h2, h3⟩ := h1.lst
    rw [intsOf_eq hn] at h3
    have h3' : Reps X.K X.w R H ((x :: ns).map D.int) xs := h3
    rw [h3'.ints] at h2
    refine cr_max hc pins s σ H _ us Q I r ⟨p, x :: ns, by rw [ep], SqL.of h2, by simp, fun m hm hl => ?_⟩
    have e2 : m = maxL x ns := by
      have a1 := hl _ (maxL_mem ns x)
      have a2 := maxL_ge ns x m hm
      omega
    subst e2
    exact q _ _ (PR.sc rfl)
  · cases e
    obtain ⟨v, rfl, h1⟩ := hd.one
    exact call_abs pins s σ H _ us Q I r ⟨_, by rw [h1.int], q _ _ (PR.sc rfl)⟩
  · cases e
    obtain ⟨v, rfl, h1⟩ := hd.one
    exact call_int1 pins s σ H _ us Q I r (.inl ⟨_, by rw [h1.int], q _ _ (PR.sc rfl)⟩)
  · split at e
    · rename_i hz
      cases e
      obtain ⟨v, u, rfl, h1, h2⟩ := hd.two
      exact call_divmod pins s σ H _ us Q I r ⟨_, _, by rw [h1.int, h2.int], hz, fun b n => q _ _ (PR.rtp (ds := [.int _, .int _]) n ⟨rfl, rfl, trivial⟩)⟩
    · cases e
  · obtain ⟨ns, hn, e'⟩ := Option.map_eq_some_iff.mp e
    subst e'
    obtain ⟨v, rfl, h1⟩ := hd.one
    obtain ⟨p, xs, ep, h2, h3⟩ := h1.lst
    rw [blsOf_eq hn] at h3
    rw [h3.bls] at h2
    exact cr_all hc pins s σ H _ us Q I r ⟨p, ns, by rw [ep], SqL.of h2, q _ _ (PR.sc rfl)⟩
  · obtain ⟨ns, hn, e'⟩ := Option.map_eq_some_iff.mp e
    subst e'
    obtain ⟨v, rfl, h1⟩ := hd.one
    obtain ⟨p, xs, ep, h2, h3⟩ := h1.lst
    rw [blsOf_eq hn] at h3
    rw [h3.bls] at h2
    exact cr_any hc pins s σ H _ us Q I r ⟨p, ns, by rw [ep], SqL.of h2, q _ _ (PR.sc rfl)⟩
  · obtain ⟨ns, hn, e'⟩ := Option.bind_eq_some_iff.mp e
    split at e'
    · rename_i hz
      cases e'
      obtain ⟨v, rfl, h1⟩ := hd.one
      obtain ⟨p, xs, ep, h2, h3⟩ := h1.lst
      rw [intsOf_eq hn] at h3
      rw [h3.ints] at h2
      rw [ep] at r
      rw [Vals.ref1 r]
      obtain ⟨its, rv, pl, hl⟩ := I.list (SqL.of h2)
      exact PVS.set_of_list ns (I.ok.hd hc) pl.isList (by simpa using rv.ints) (by unfold scanBound; omega) fun h' tk c S k => set_laid I q S k
    · cases e'
  · obtain ⟨ns, hn, e'⟩ := Option.bind_eq_some_iff.mp e
    split at e'
    · rename_i hz
      cases e'
      obtain ⟨v, rfl, h1⟩ := hd.one
      obtain ⟨p, xs, ep, h2, h3⟩ := h1.tup
      rw [intsOf_eq hn] at h3
      rw [h3.ints] at h2
      rw [ep] at r
      rw [Vals.ref1 r]
      obtain ⟨its, rv, pl, hl⟩ := I.tuple h2.sq
      exact call_set_tupI ns (I.ok.hd hc) pl (by simpa using rv.ints) (by unfold scanBound; omega) fun h' tk c S _ k => set_laid I q S k
    · cases e'
  · cases e
end
end PV

/-! PV, part G: enumerate of a tuple; isinstance; what is walked. -/
namespace PVE
open PySem PySem.Spec PyProof.Rows L2
set_option maxHeartbeats 1000000 in
theorem new_enum {v : Value} {o : Obj} {T : Heap → Prop} (B : Begins v o T) :
    Meets (Builtin.«enumerate.__new__» ⟨[.type "enumerate", v], []⟩) (fun _ R s => T s.heap ∧
      R (.ok (.ret (.ref (s.heap.push o).objs.size))) { s with heap := (s.heap.push o).push { cls := .type "enumerate", data := .fields #[.none, .bool false, .ref s.heap.objs.size, rawInt 0, .none, .none] } }) :=
  .of_wp fun prog w A R s h => by
    obtain ⟨hp, g, d, tk, os⟩ := s
    obtain ⟨h1, h⟩ := h
    have sub := sub_enumerate
    have it1 : ∀ {A' : Around} {E : Value → Shared → Prop} {Q : Value → Shared → Prop}, Q (.ref hp.objs.size) ⟨hp.push o, g, d, tk, os⟩ → wpAny (model prog w) A' (pyIter v) Q E ⟨hp, g, d, tk, os⟩ :=
      fun q => B.iter prog w _ _ ⟨hp, g, d, tk, os⟩ _ h1 q
    wp_walk using it1
    refine wpAny_stack_any fun st => wpAny_pure ?_
    split
    · rename_i c _ _ _ _ _
      cases (c == Value.type "enumerate") <;> (wp_walk using it1; exact ⟨_, rfl, h⟩)
    · wp_walk using it1
      exact ⟨_, rfl, h⟩
section
variable {prog : Program} {w : World} {A : Around} {E : Value → Shared → Prop} {s : Shared}
theorem call_enum {v : Value} {o : Obj} {T : Heap → Prop} {Q : Value → Shared → Prop} (B : Begins v o T) (h1 : T s.heap)
    (h : ∀ h', IsEnum h' (s.heap.objs.size + 1) s.heap.objs.size 0 .none → h'.get? s.heap.objs.size = some o →
      (∀ b o, s.heap.get? b = some o → h'.get? b = some o) → Q (.ref (s.heap.objs.size + 1)) { s with heap := h' }) :
    wpAny (model prog w) A (call (.type "enumerate") [v]) Q E s := by
  refine callType_new F.called_enumerate (by decide) (F.typeCall_enumerate_1 _) (F.newCall_enumerate_1 _) (fun obj => F.args_object_init_2 obj _) F.entry_enumerate_new (new_enum B) ⟨h1, ?_⟩
  have hz : (s.heap.push o).objs.size = s.heap.objs.size + 1 := Heap.size_push ..
  have he : IsEnum ((s.heap.push o).push { cls := .type "enumerate", data := .fields #[.none, .bool false, .ref s.heap.objs.size, rawInt 0, .none, .none] }) (s.heap.objs.size + 1) s.heap.objs.size 0 .none := by
    have q := Heap.get?_push_size (s.heap.push o) (o := { cls := .type "enumerate", data := .fields #[.none, .bool false, .ref s.heap.objs.size, rawInt 0, .none, .none] }) rfl
    rw [hz] at q; exact q
  show _ ∧ _
  rw [hz]
  exact ⟨⟨_, he, rfl⟩, h _ he (Heap.get?_push_of_some _ (Heap.get?_push_size _ B.free)) fun b o x => Heap.get?_push_of_some _ (Heap.get?_push_of_some _ x)⟩
end
/-- the tuple at a, each item in a new pair with its place -/
def IteT (K : PySem.W.Frag) (a : Addr) : It :=
  ⟨fun i H => ∃ (xs : List V) (x : V), SqT K H a xs ∧ xs[i]? = some x, fun i H v H' => ∃ T x, v = .ref T ∧ H T = none ∧ H' = upd H T (.tup [.int (i : Nat), x]) ∧ ∀ xs, SqT K H a xs → xs[i]? = some x, fun i H => ∃ xs : List V, SqT K H a xs ∧ xs.length ≤ i⟩
theorem apart {h : Heap} {e it a : Addr} {i : Int} {old : Value} {its : Array Value} (he : IsEnum h e it i old) (t : IsTup h a its) : e ≠ a := fun z => by
  subst z
  obtain ⟨o, ho, hc, _⟩ := t
  rw [show h.get? e = some _ from he] at ho
  cases ho
  exact absurd (show Value.type "enumerate" = Value.type "tuple" from hc) (by decide +kernel)
theorem apart2 {h : Heap} {it a : Addr} {i : Nat} {its : Array Value} (he : h.IsTupleIter it a i) (t : IsTup h a its) : a ≠ it := fun z => by
  subst z
  obtain ⟨o, ho, hc, _⟩ := t
  obtain ⟨o', ho', hc', _⟩ := he
  rw [ho'] at ho
  cases ho
  rw [hc] at hc'
  exact absurd hc' (by decide +kernel)
theorem turn_enumT {P : Program} {w : World} {K : PySem.W.Frag} {elts : List Expr} {kk : Nat} {tpos : Pos} (a e it : Addr) :
    Turn P w K (.Tuple elts kk tpos) (IteT K a) [e, it] e (fun i h => (∃ old, IsEnum h e it ((i : Nat) : Int) old) ∧ h.IsTupleIter it a i ∧ e ≠ it) where
  mem := List.mem_cons_self
  obj := fun i h st b hb => by
    obtain ⟨⟨old, he⟩, ⟨o, ho, hc, hd⟩, _⟩ := st
    rcases List.mem_cons.mp hb with z | z
    · rw [z]; exact ⟨_, he, fun v q => nomatch q⟩
    · rw [List.mem_singleton.mp z]; exact ⟨o, ho, fun v q => by rw [hd] at q; cases q⟩
  keep := fun i h h' st k => let ⟨⟨old, he⟩, hi, hne⟩ := st; ⟨⟨old, k e (by simp) _ he⟩, hi.at fun o q => k it (by simp) o q, hne⟩
  item := by
    intro X hP hw hK hc i pins s σ H E I hf st hg
    subst hP hw hK
    obtain ⟨⟨old, he⟩, hit, hne⟩ := st
    obtain ⟨xs, x, hq, hx⟩ := hg
    obtain ⟨its, rv, p, hz⟩ := I.tuple hq
    obtain ⟨u, hu, ru⟩ := rv.get hx
    have hel : e < s.heap.objs.size := Heap.lt_size he
    have hil : it < s.heap.objs.size := by obtain ⟨_, q, _⟩ := hit; exact Heap.lt_size q
    have hh : X.A.in1.handled = none := I.ok.hd hc
    have hi : i < its.toArray.size := (Array.getElem?_eq_some_iff.mp (show its.toArray[i]? = some u by simpa using hu)).1
    have hea := apart he p
    refine wpAny_pyNext_enum_itemD (Draws.tuple hh it a (apart2 hit p) its.toArray) he ⟨hit, p⟩ hi hne (by simp [hne, hea]) fun y h' tk hy ho st' hT hsz hk => ?_
    have ey : y = u := Option.some.inj (hy.symm.trans (by simpa using hu))
    subst ey
    refine ⟨_, rfl, wpAny_letOwnedTupleGo_enum (s := { s with heap := h', toks := tk + 1 }) ho fun h'' he' sb => ?_⟩
    have hT2 : h''.get? s.heap.objs.size = some { cls := .type "tuple", data := .seq #[.int i tk, y] } := (sb.2 _ (Nat.ne_of_gt hel)).trans hT
    have new : ObjOk X.prog X.w (upd H s.heap.objs.size (.tup [.int (i : Nat), x])) h'' s.heap.objs.size (.tup [.int (i : Nat), x]) :=
      ⟨by show 2 ≤ sizeLine; decide, [.int i tk, y], .cons ⟨_, rfl⟩ (.cons ru .nil), ⟨_, hT2, rfl, _, rfl⟩⟩
    have I1 : Inv X pins σ (upd H s.heap.objs.size (.tup [.int (i : Nat), x])) { s with heap := h'', toks := tk + 1 } :=
      I.turnedNew (ch := [e, it]) (fun b ob hb q => (sb.2 b (fun z => hb (by simp [z]))).trans (hk b ob (fun z => hb (by simp [z])) (fun z => hb (by simp [z])) q)) hf (Nat.le_refl _) new
    refine ⟨.ref s.heap.objs.size, _, I1, rfl, ⟨_, x, rfl, I.hok.fresh (Nat.le_refl _), rfl, fun ys hy => by rw [I.tuple_inj hy hq]; exact hx⟩, ⟨⟨y, ?_⟩, st'.1.at fun o q => (sb.2 it (Ne.symm hne)).trans q, hne⟩, fun b hb => ?_⟩
    · rw [show ((i + 1 : Nat) : Int) = (i : Int) + 1 by omega]; exact he'
    · have hb' : b < s.heap.objs.size := by
        rcases List.mem_cons.mp hb with z | z
        · rw [z]; exact hel
        · rw [List.mem_singleton.mp z]; exact hil
      rw [upd_ne (Nat.ne_of_lt hb')]
      exact (hf b hb).1
  done := by
    intro X hP hw hK hc i pins s σ H E I hf st hg
    subst hP hw hK
    obtain ⟨⟨old, he⟩, hit, hne⟩ := st
    obtain ⟨xs, hq, hx⟩ := hg
    obtain ⟨its, rv, p, hz⟩ := I.tuple hq
    obtain ⟨f0, f1, f2, f3, f4, f5⟩ := hf it (by simp)
    have hl := rv.length
    have hh : X.A.in1.handled = none := I.ok.hd hc
    have D : Draws X.prog X.w X.A.in1 it [it, a] 0 (fun _ _ => True) (fun _ h => h.IsTupleIter it a i ∧ h.IsTuple a its.toArray) :=
      ⟨fun _ _ st => let ⟨o, ho, _⟩ := st.1; ⟨o, ho⟩, fun _ _ _ st k => ⟨st.1.at fun o e => k it (by simp) o e, st.2.at fun o e => k a (by simp) o e⟩, fun j _ _ _ z => absurd z (Nat.not_lt_zero j),
        fun s Q E st hE => wpAny_nextOf_tuple_end hh st.1 st.2 (by simp; omega) hE⟩
    exact wpAny_pyNext_enum_endD D he ⟨hit, p⟩ fun h' eb => ⟨rfl, I.turned (t' := s.toks) (fun b o hb q => eb b o hb q) f0 f1 f3 f4 f5⟩
  self := fun A i s Q E st h => let ⟨⟨_, he⟩, _⟩ := st; wpAny_pyIter_enum he h
end PVE

/-! PV, part H: the readings of expressions by the interpreter. -/
namespace PV
open PySem PySem.Spec PyProof.Rows L2

section
variable {K : PySem.W.Frag} {w : World} {R R' R1 R2 : Addr → Prop} {ρ ρ' ρ1 ρ2 : Rho} {σ : St} {H H' H1 H2 : Hp}

/-! ### making a value of a result -/
theorem own_set {i : Nat} {s : Sl} {b : Addr} (n : ∀ d, s ≠ .own d) (h : Own (ρ.set i s) σ b) : Own ρ σ b ∧ ∀ a, σ[i]? = some (some (.ref a)) → i < ρ.length → True := by
  obtain ⟨j, d, h1, h2⟩ := h
  refine ⟨?_, fun _ _ _ => trivial⟩
  by_cases e : i = j
  · subst e
    by_cases hl : i < ρ.length
    · rw [List.getElem?_set_self hl] at h1
      exact absurd (Option.some.inj h1) (n d)
    · rw [List.getElem?_eq_none (by simpa using hl)] at h1
      cases h1
  · rw [List.getElem?_set_ne e] at h1
    exact ⟨j, d, h1, h2⟩
/-- an own slot is only read from now on -/
theorem Mt.freeze (m : Mt K w R ρ σ H) {i : Nat} {d : D} {a : Addr} (h : ρ[i]? = some (.own d)) (ha : σ[i]? = some (some (.ref a))) :
    Mt K w (fun b => R b ∨ b = a) (ρ.set i (.ro d)) σ H := by
  obtain ⟨a', h1, h2, h3⟩ := m.own i d h
  rw [ha] at h1
  cases h1
  have hi : i < ρ.length := (List.getElem?_eq_some_iff.mp h).1
  obtain ⟨o, ho, _⟩ := h3.there
  refine ⟨by simpa using m.len, fun b hb => hb.elim (m.trk b) fun e => by rw [e, ho]; simp, fun j e hj => ?_, fun j e hj => ?_, fun j k e f b h1 h2 h3 h4 => ?_⟩
  · by_cases q : i = j
    · subst q
      rw [List.getElem?_set_self hi] at hj
      cases hj
      exact ⟨_, ha, (Top.keep (fun _ z => .inl z) (fun _ _ _ z => z) (fun _ _ _ z => z) (fun _ z => z) h3).freeze (.inr rfl)⟩
    · rw [List.getElem?_set_ne q] at hj
      obtain ⟨v, e1, e2⟩ := m.ro j e hj
      exact ⟨v, e1, Rep.keep (fun _ z => .inl z) (fun _ _ _ z => z) (fun _ _ _ z => z) e v e2⟩
  · by_cases q : i = j
    · subst q
      rw [List.getElem?_set_self hi] at hj
      cases hj
    · rw [List.getElem?_set_ne q] at hj
      obtain ⟨b, e1, e2, e3⟩ := m.own j e hj
      refine ⟨b, e1, fun z => ?_, Top.keep (fun _ z => .inl z) (fun _ _ _ z => z) (fun _ _ _ z => z) (fun _ z => z) e3⟩
      rcases z with z | z
      · exact e2 z
      · exact q (m.inj i j d e a h hj ha (z ▸ e1))
  · have f1 : ∀ {j : Nat} {e : D}, (ρ.set i (.ro d))[j]? = some (.own e) → ρ[j]? = some (.own e) := fun {j e} hj => by
      by_cases q : i = j
      · subst q
        rw [List.getElem?_set_self hi] at hj
        cases hj
      · rwa [List.getElem?_set_ne q] at hj
    exact m.inj j k e f b (f1 h1) (f1 h2) h3 h4
theorem SS.fix {np : Nat} {σ1 : St} {v : V} {r : Rs} {d : D} (s : SS K w np σ R ρ H σ1 R1 ρ1 H1) (rr : RR K w R1 ρ1 σ1 H1 v r) (fn : FrN H v r) (e : fix ρ1 r = some (d, ρ2)) :
    ∃ R2, (∀ b, R1 b → R2 b) ∧ SS K w np σ R ρ H σ1 R2 ρ2 H1 ∧ Rep K w R2 H1 d v := by
  cases r with
  | val d' =>
    have e' : some (d', ρ1) = some (d, ρ2) := e
    cases e'
    exact ⟨R1, fun _ z => z, s, rr⟩
  | fr d' =>
    have e' : some (d', ρ1) = some (d, ρ2) := e
    cases e'
    obtain ⟨a, ea, n1, n2, t⟩ := rr
    obtain ⟨o, ho, _⟩ := t.there
    refine ⟨fun b => R1 b ∨ b = a, fun _ z => .inl z, ⟨fun b h => .inl (s.up b h), s.mt.grow n2 (by rw [ho]; simp), s.fr, fun b h => ?_, s.mo, s.nw, s.pm⟩, ?_⟩
    · rcases h with h | h
      · exact s.bd b h
      · exact .inr (.inl (h ▸ fn a ea))
    · rw [ea]
      exact (Top.keep (fun _ z => .inl z) (fun _ _ _ z => z) (fun _ _ _ z => z) (fun _ z => z) t).freeze (.inr rfl)
  | al i =>
    have rr : σ1[i]? = some (some v) := rr
    unfold PV.fix at e
    dsimp only at e
    split at e
    · rename_i d' q
      cases e
      obtain ⟨v', h1, h2⟩ := s.mt.ro i _ q
      rw [rr] at h1
      cases h1
      exact ⟨R1, fun _ z => z, s, h2⟩
    · rename_i d' q
      cases e
      obtain ⟨a, h1, h2, h3⟩ := s.mt.own i _ q
      rw [rr] at h1
      cases h1
      have m2 := s.mt.freeze q rr
      have hO : Own ρ1 σ1 a := ⟨i, _, q, rr⟩
      refine ⟨fun b => R1 b ∨ b = a, fun _ z => .inl z, ⟨fun b h => .inl (s.up b h), m2, s.fr, fun b h => ?_, fun b h => s.mo b (own_set (fun _ z => by cases z) h).1, s.nw, s.pm⟩, ?_⟩
      · rcases h with h | h
        · exact s.bd b h
        · rcases s.mo a hO with q | q
          · exact .inr (.inr (h ▸ q))
          · exact .inr (.inl (h ▸ q))
      · exact (Top.keep (fun _ z => .inl z) (fun _ _ _ z => z) (fun _ _ _ z => z) (fun _ z => z) h3).freeze (.inr rfl)
    · cases e
theorem fix_step {v : V} {r : Rs} {d : D} (s : Step K w σ R ρ H R1 ρ1 H1) (rr : RR K w R1 ρ1 σ H1 v r) (fn : FrN H v r) (e : fix ρ1 r = some (d, ρ2)) :
    ∃ R2, (∀ b, R1 b → R2 b) ∧ Step K w σ R ρ H R2 ρ2 H1 ∧ Rep K w R2 H1 d v := SS.fix s rr fn e
theorem rep_mono {d : D} {v : V} (h : ∀ b, R1 b → R2 b) (r : Rep K w R1 H d v) : Rep K w R2 H d v := Rep.keep h (fun _ _ _ z => z) (fun _ _ _ z => z) d v r

/-! ### several results -/
def RRs (K : PySem.W.Frag) (w : World) (R : Addr → Prop) (ρ : Rho) (σ : St) (H : Hp) : List V → List Rs → Prop
  | [], [] => True
  | v :: vs, r :: rs => RR K w R ρ σ H v r ∧ RRs K w R ρ σ H vs rs
  | _, _ => False
/-- fresh objects: none was there, no two are one -/
def FrNs (H : Hp) : List V → List Rs → Prop
  | v :: vs, r :: rs => FrN H v r ∧ FrNs H vs rs ∧ (∀ d, r = .fr d → ∀ (i : Nat) (d' : D), rs[i]? = some (Rs.fr d') → vs[i]? ≠ some v)
  | _, _ => True
theorem RRs.length : ∀ {vs : List V} {rs : List Rs}, RRs K w R ρ σ H vs rs → vs.length = rs.length
  | [], [], _ => rfl
  | v :: vs, r :: rs, h => by
    have := RRs.length (vs := vs) (rs := rs) h.2
    simp [this]
  | [], _ :: _, h => h.elim
  | _ :: _, [], h => h.elim
theorem RRs.get : ∀ {vs : List V} {rs : List Rs} {i : Nat} {r : Rs}, RRs K w R ρ σ H vs rs → rs[i]? = some r → ∃ v, vs[i]? = some v ∧ RR K w R ρ σ H v r
  | [], [], _, _, _, e => by simp at e
  | v :: vs, r :: rs, 0, r', h, e => by
    simp at e
    subst e
    exact ⟨v, rfl, h.1⟩
  | v :: vs, r :: rs, i + 1, r', h, e => RRs.get (vs := vs) (rs := rs) (i := i) h.2 (by simpa using e)
  | [], _ :: _, _, _, h, _ => h.elim
  | _ :: _, [], _, _, h, _ => h.elim
theorem RRs.step (m : Mt K w R ρ σ H) (s : Step K w σ R ρ H R' ρ' H') : ∀ {vs : List V} {rs : List Rs}, RRs K w R ρ σ H vs rs → RRs K w R' ρ' σ H' vs rs
  | [], [], h => h
  | v :: vs, r :: rs, h => ⟨RR.step m s h.1, RRs.step m s (vs := vs) (rs := rs) h.2⟩
  | [], _ :: _, h => h.elim
  | _ :: _, [], h => h.elim
theorem RRs.append : ∀ {vs us : List V} {rs ts : List Rs}, RRs K w R ρ σ H vs rs → RRs K w R ρ σ H us ts → RRs K w R ρ σ H (vs ++ us) (rs ++ ts)
  | [], _, [], _, _, h => h
  | v :: vs, us, r :: rs, ts, h, h' => ⟨h.1, RRs.append (vs := vs) (rs := rs) h.2 h'⟩
  | [], _, _ :: _, _, h, _ => h.elim
  | _ :: _, _, [], _, h, _ => h.elim
theorem FrNs.get : ∀ {vs : List V} {rs : List Rs} {i : Nat} {r : Rs} {v : V}, FrNs H vs rs → rs[i]? = some r → vs[i]? = some v → FrN H v r
  | v :: vs, r :: rs, 0, r', v', h, e, e' => by
    simp at e e'
    subst e
    subst e'
    exact h.1
  | v :: vs, r :: rs, i + 1, r', v', h, e, e' => FrNs.get (vs := vs) (rs := rs) (i := i) h.2.1 (by simpa using e) (by simpa using e')
  | [], _, _, _, _, _, _, e' => by simp at e'
  | _ :: _, [], _, _, _, _, e, _ => by simp at e
/-- a fresh object made later is another one -/
theorem fr_new {vs : List V} {rs : List Rs} {v : V} {d : D} (t : RR K w R1 ρ1 σ H1 v (.fr d)) (f : FrNs H1 vs rs) (i : Nat) (d' : D) (h : rs[i]? = some (Rs.fr d')) : vs[i]? ≠ some v := fun z => by
  obtain ⟨a, ea, _, _, t⟩ := t
  obtain ⟨o, ho, _⟩ := t.there
  have q : FrN H1 v (.fr d') := f.get h z
  rw [q a ea] at ho
  cases ho
theorem FrN.back {v : V} {r : Rs} (nw : ∀ b, H b ≠ none → H1 b ≠ none) (h : FrN H1 v r) : FrN H v r := by
  cases r with
  | fr d =>
    intro a e
    cases q : H a with
    | none => rfl
    | some o => exact absurd (h a e) (nw a (by rw [q]; simp))
  | _ => trivial
theorem FrNs.back (nw : ∀ b, H b ≠ none → H1 b ≠ none) : ∀ {vs : List V} {rs : List Rs}, FrNs H1 vs rs → FrNs H vs rs
  | v :: vs, r :: rs, h => ⟨FrN.back nw h.1, FrNs.back nw h.2.1, h.2.2⟩
  | [], _, _ => trivial
  | _ :: _, [], _ => trivial
theorem FrNs.cons {v : V} {r : Rs} {vs : List V} {rs : List Rs} (s : Step K w σ R ρ H R1 ρ1 H1) (rr : RR K w R1 ρ1 σ H1 v r) (f : FrN H v r) (fs : FrNs H1 vs rs) : FrNs H (v :: vs) (r :: rs) :=
  ⟨f, fs.back s.nw, fun d e i d' h => by subst e; exact fr_new rr fs i d' h⟩
theorem FrNs.append : ∀ {vs us : List V} {rs ts : List Rs} (s : Step K w σ R ρ H R1 ρ1 H1), RRs K w R1 ρ1 σ H1 vs rs → FrNs H vs rs → FrNs H1 us ts → FrNs H (vs ++ us) (rs ++ ts)
  | [], us, [], ts, s, _, _, h => h.back s.nw
  | v :: vs, us, r :: rs, ts, s, rr, h, h' => by
    refine ⟨h.1, FrNs.append (vs := vs) (rs := rs) s rr.2 h.2.1 h', fun d e i d' q => ?_⟩
    subst e
    replace q : (rs ++ ts)[i]? = some (Rs.fr d') := q
    show (vs ++ us)[i]? ≠ some v
    have hl := RRs.length rr.2
    by_cases hi : i < rs.length
    · rw [List.getElem?_append_left hi] at q
      rw [List.getElem?_append_left (by omega)]
      exact h.2.2 d rfl i d' q
    · rw [List.getElem?_append_right (by omega)] at q
      rw [List.getElem?_append_right (by omega), hl]
      exact fr_new rr.1 h' _ d' q
  | [], _, _ :: _, _, _, h, _, _ => h.elim
  | _ :: _, _, [], _, _, h, _, _ => h.elim
theorem looks_rep (m : Mt K w R ρ σ H) : ∀ {vs : List V} {rs : List Rs} {ds : List D}, RRs K w R ρ σ H vs rs → looks ρ rs = some ds → RepTs K w R H ds vs
  | [], [], _, _, e => by
    cases e
    trivial
  | v :: vs, r :: rs, ds, h, e => by
    unfold looks at e
    obtain ⟨d, e1, e2⟩ := Option.bind_eq_some_iff.mp e
    obtain ⟨es, e3, e4⟩ := Option.map_eq_some_iff.mp e2
    subst e4
    exact ⟨look_rep m h.1 e1, looks_rep m (vs := vs) (rs := rs) h.2 e3⟩
  | [], _ :: _, _, h, _ => h.elim
  | _ :: _, [], _, h, _ => h.elim
end

/-! ### the readings -/
section
variable (K : PySem.W.Frag) (w : World) (C : Cfg)
def tD (e : E) : TE := fun σ H Q => ∃ R ρ r ρ', Mt K w R ρ σ H ∧ ev C e ρ = some (r, ρ') ∧ ∀ v H' R', Step K w σ R ρ H R' ρ' H' → RR K w R' ρ' σ H' v r → FrN H v r → Q v H'
def tT (e : E) : TT := fun σ H Q => ∃ R ρ b ρ', Mt K w R ρ σ H ∧ tst C e ρ = some (b, ρ') ∧ ∀ H' R', Step K w σ R ρ H R' ρ' H' → Q b H'
def tTo (e : Option E) : TT := fun σ H Q => ∃ R ρ b ρ', Mt K w R ρ σ H ∧ tso C e ρ = some (b, ρ') ∧ ∀ H' R', Step K w σ R ρ H R' ρ' H' → Q b H'
def tA (es : List E) : TA := fun σ H Q => ∃ R ρ rs ρ', Mt K w R ρ σ H ∧ evs C es ρ = some (rs, ρ') ∧ ∀ vs H' R', Step K w σ R ρ H R' ρ' H' → RRs K w R' ρ' σ H' vs rs → FrNs H vs rs → Q vs H'
def tAf (es : List E) : TA := fun σ H Q => ∃ R ρ ds ρ', Mt K w R ρ σ H ∧ evf C es ρ = some (ds, ρ') ∧ ∀ vs H' R', Step K w σ R ρ H R' ρ' H' → Reps K w R' H' ds vs → Q vs H'
def tOp (e : Option E) : TO := fun σ H Q => ∃ R ρ o ρ', Mt K w R ρ σ H ∧ evo C e ρ = some (o, ρ') ∧ ∀ H' R', Step K w σ R ρ H R' ρ' H' → Q o H'
end
theorem PE.imp {X : Cx} {e : Expr} {t t' : TE} (h : PE X e t) (i : ∀ σ H Q, t' σ H Q → t σ H Q) : PE X e t' := ⟨fun pins s σ H Q I q => h.run pins s σ H Q I (i σ H Q q)⟩
theorem PT.imp {X : Cx} {e : Expr} {t t' : TT} (h : PT X e t) (i : ∀ σ H Q, t' σ H Q → t σ H Q) : PT X e t' := ⟨fun pins s σ H Q I q => h.run pins s σ H Q I (i σ H Q q)⟩
theorem PA.imp {X : Cx} {es : List Expr} {t t' : TA} (h : PA X es t) (i : ∀ σ H Q, t' σ H Q → t σ H Q) : PA X es t' := ⟨fun pos pins s σ H Q I q => h.run pos pins s σ H Q I (i σ H Q q)⟩
theorem PK.imp {X : Cx} {es : List Keyword} {t t' : TA} (h : PK X es t) (i : ∀ σ H Q, t' σ H Q → t σ H Q) : PK X es t' := ⟨fun pos pins s σ H Q I q => h.run pos pins s σ H Q I (i σ H Q q)⟩
theorem PS.imp {X : Cx} {st : Stmt} {t t' : TS} (h : PS X st t) (i : ∀ D σ H, t' D σ H → t D σ H) : PS X st t' := ⟨fun pins s σ H D I q => h.run pins s σ H D I (i D σ H q)⟩
theorem PSs.imp {X : Cx} {st : List Stmt} {t t' : TS} (h : PSs X st t) (i : ∀ D σ H, t' D σ H → t D σ H) : PSs X st t' := ⟨fun pins s σ H D I q => h.run pins s σ H D I (i D σ H q)⟩
theorem PI.imp {X : Cx} {tg e : Expr} {t t' : TI} (h : PI X tg e t) (i : ∀ σ H R, t' σ H R → t σ H R) : PI X tg e t' := ⟨fun pins s σ H R I q => h.run pins s σ H R I (i σ H R q)⟩
end PV

/-! PV, part I: the rules for expressions. -/
namespace PV
open PySem PySem.Spec PyProof.Rows L2

/-! ### the model's side conditions, by the kind of a piece -/
def isStar : Expr → Bool
  | .Starred .. => true
  | _ => false
theorem star_cons {e : Expr} {es : List Expr} {env : Env} (h : isStar e = false) : starEach (e :: es) env = (false, eval e env) :: starEach es env := by
  cases e <;> first | rfl | cases h
theorem star_plain {pos : Pos} {env : Env} : ∀ {es : List Expr}, es.all (fun e => !isStar e) = true → (backTo pos (starEach es env)).any (·.1) = false
  | [], _ => rfl
  | e :: es, h => by
    rw [List.all_cons, Bool.and_eq_true] at h
    rw [star_cons (by simpa using h.1)]
    show (false || (backTo pos (starEach es env)).any (·.1)) = false
    rw [star_plain h.2]
    rfl
def isSlice : Expr → Bool
  | .Slice .. => true
  | _ => false
theorem plain_ix {e : Expr} (h : isSlice e = false) : PlainIx e := by
  intro o i
  cases e <;> first | rfl | cases h
/-- an expression whose test is the truth of its value -/
def isPlainTest : Expr → Bool
  | .UnaryOp .Not _ _ => false
  | .BoolOp .. => false
  | .IfExp .. => false
  | .Compare .. => false
  | _ => true
theorem plain_test {e : Expr} {env : Env} (h : isPlainTest e = true) (whole : Sem Value) : isTrue e env whole = (do let v ← whole; standAt e.pos; holding [v] (truthy v)) := by
  cases e <;> first | rfl | cases h | (rename_i op _ _; cases op <;> first | rfl | cases h)

section
variable {X : Cx} {C : Cfg} {a b c e : Expr} {ma mb mc : E} {pos : Pos}

theorem px_var {i : Nat} {x : Str} (hN : X.N[i]? = some x) (hv : Vis X.env.scope x) (hd : (x == ("__debug__" : Str)) = false) (hcd : (x == ("__classdict__" : Str)) = false) : PE X (.Name x pos) (tD X.K X.w C (.var i)) := by
  refine PE.imp (pe_var hN hv hd hcd) fun σ H Q h => ?_
  obtain ⟨R, ρ, r, ρ', m, e, q⟩ := h
  unfold ev at e
  split at e
  · rename_i d h1
    cases e
    obtain ⟨v, h2, _⟩ := m.ro i _ h1
    exact ⟨v, h2, q v H R (Step.refl m) h2 trivial⟩
  · rename_i d h1
    cases e
    obtain ⟨v, h2, _⟩ := m.own i _ h1
    exact ⟨_, h2, q _ H R (Step.refl m) h2 trivial⟩
  · cases e
theorem px_con {e : Expr} {d : D} {v : V} (h : PE X e (tC v)) (r : ∀ R H, Rep X.K X.w R H d v) : PE X e (tD X.K X.w C (.con d)) := by
  refine PE.imp h fun σ H Q h => ?_
  obtain ⟨R, ρ, r', ρ', m, e, q⟩ := h
  cases e
  exact q v H R (Step.refl m) (r R H) trivial
theorem px_glb {x : Str} (hg : Gl X x) (hd : (x == ("__debug__" : Str)) = false) (h : ∀ d, C.glb x = some d → ∃ v u, X.mg x = some u ∧ RelV v u ∧ ∀ R H, Rep X.K X.w R H d v) : PE X (.Name x pos) (tD X.K X.w C (.glb x)) := by
  refine ⟨fun pins s σ H Q I q => ?_⟩
  obtain ⟨R, ρ, r', ρ', m, e, q⟩ := q
  obtain ⟨d, e1, e2⟩ := Option.map_eq_some_iff.mp (show (C.glb x).map _ = some (r', ρ') from e)
  cases e2
  obtain ⟨v, u, h1, h2, h3⟩ := h d e1
  exact (pe_glob (v := v) hg h1 h2 hd).run pins s σ H Q I (q v H R (Step.refl m) (h3 R H) trivial)
theorem px_bin {op : Operator} (ha : PE X a (tD X.K X.w C ma)) (hb : PE X b (tD X.K X.w C mb)) : PE X (.BinOp a op b pos) (tD X.K X.w C (.bin op ma mb)) := by
  refine PE.imp (pe_op (or_bin op) ha hb) fun σ H Q h => ?_
  obtain ⟨R, ρ, r, ρ', m, e, q⟩ := h
  obtain ⟨⟨ra, ρ1⟩, e1, e⟩ := Option.bind_eq_some_iff.mp (show (ev C ma ρ).bind _ = some (r, ρ') from e)
  obtain ⟨⟨rb, ρ2⟩, e2, e⟩ := Option.bind_eq_some_iff.mp e
  obtain ⟨x, e3, e⟩ := Option.bind_eq_some_iff.mp e
  obtain ⟨y, e4, e⟩ := Option.bind_eq_some_iff.mp e
  obtain ⟨r', e5, e⟩ := Option.map_eq_some_iff.mp e
  cases e
  refine ⟨R, ρ, ra, ρ1, m, e1, fun v1 H1 R1 s1 rr1 f1 => ⟨R1, ρ1, rb, ρ', s1.mt, e2, fun v2 H2 R2 s2 rr2 f2 => ?_⟩⟩
  refine ⟨R2, x, y, r, look_rep s2.mt (rr1.step s1.mt s2) e3, look_rep s2.mt rr2 e4, e5, fun v H' p => ?_⟩
  obtain ⟨s3, rr3, f3⟩ := p.step s2.mt
  exact q v H' R2 ((s1.trans s2).trans s3) rr3 (f3.back (s1.trans s2).nw)
theorem px_neg (ha : PE X a (tD X.K X.w C ma)) : PE X (.UnaryOp .USub a pos) (tD X.K X.w C (.neg ma)) := by
  refine PE.imp (pe_un un_neg ha) fun σ H Q h => ?_
  obtain ⟨R, ρ, r, ρ', m, e, q⟩ := h
  obtain ⟨⟨ra, ρ1⟩, e1, e⟩ := Option.bind_eq_some_iff.mp (show (ev C ma ρ).bind _ = some (r, ρ') from e)
  obtain ⟨x, e3, e⟩ := Option.bind_eq_some_iff.mp e
  obtain ⟨i, e5, e⟩ := Option.map_eq_some_iff.mp e
  cases e
  refine ⟨R, ρ, ra, ρ', m, e1, fun v1 H1 R1 s1 rr1 f1 => ?_⟩
  have t := look_rep s1.mt rr1 e3
  have ex : x = .int i := by
    unfold intOf at e5
    split at e5
    · cases e5; rfl
    · cases e5
  subst ex
  exact ⟨i, t.int, q _ H1 R1 s1 rfl trivial⟩
theorem px_not (ha : PE X a (tD X.K X.w C ma)) : PE X (.UnaryOp .Not a pos) (tD X.K X.w C (.not ma)) := by
  refine PE.imp (pe_not ha) fun σ H Q h => ?_
  obtain ⟨R, ρ, r, ρ', m, e, q⟩ := h
  obtain ⟨⟨ra, ρ1⟩, e1, e⟩ := Option.bind_eq_some_iff.mp (show (ev C ma ρ).bind _ = some (r, ρ') from e)
  refine ⟨R, ρ, ra, ρ1, m, e1, fun v1 H1 R1 s1 rr1 f1 => ?_⟩
  dsimp only at e
  split at e
  · rename_i b e3
    cases e
    exact ⟨b, (look_rep s1.mt rr1 e3).bl, q _ H1 R1 s1 rfl trivial⟩
  · cases e
theorem px_one {op : BoolOp} (ha : PE X a (tD X.K X.w C ma)) : PE X (.BoolOp op [a] pos) (tD X.K X.w C ma) := pe_one ha
theorem px_and {rest : List Expr} (ha : PE X a (tD X.K X.w C ma)) (hb : PE X (.BoolOp .And (b :: rest) pos) (tD X.K X.w C mb)) : PE X (.BoolOp .And (a :: b :: rest) pos) (tD X.K X.w C (.bop true ma mb)) := by
  refine PE.imp (pe_and ha hb) fun σ H Q h => ?_
  obtain ⟨R, ρ, r, ρ', m, e, q⟩ := h
  obtain ⟨⟨ra, ρ1⟩, e1, e⟩ := Option.bind_eq_some_iff.mp (show (ev C ma ρ).bind _ = some (r, ρ') from e)
  refine ⟨R, ρ, ra, ρ1, m, e1, fun v1 H1 R1 s1 rr1 f1 => ?_⟩
  dsimp only at e
  split at e
  · rename_i e3
    refine ⟨true, (look_rep s1.mt rr1 e3).bl, ?_⟩
    rw [if_pos rfl]
    exact ⟨R1, ρ1, r, ρ', s1.mt, e, fun v H' R' s rr f => q v H' R' (s1.trans s) rr (f.back s1.nw)⟩
  · rename_i e3
    cases e
    refine ⟨false, (look_rep s1.mt rr1 e3).bl, ?_⟩
    rw [if_neg Bool.false_ne_true]
    exact q _ H1 R1 s1 rfl trivial
  · cases e
theorem px_or {rest : List Expr} (ha : PE X a (tD X.K X.w C ma)) (hb : PE X (.BoolOp .Or (b :: rest) pos) (tD X.K X.w C mb)) : PE X (.BoolOp .Or (a :: b :: rest) pos) (tD X.K X.w C (.bop false ma mb)) := by
  refine PE.imp (pe_or ha hb) fun σ H Q h => ?_
  obtain ⟨R, ρ, r, ρ', m, e, q⟩ := h
  obtain ⟨⟨ra, ρ1⟩, e1, e⟩ := Option.bind_eq_some_iff.mp (show (ev C ma ρ).bind _ = some (r, ρ') from e)
  refine ⟨R, ρ, ra, ρ1, m, e1, fun v1 H1 R1 s1 rr1 f1 => ?_⟩
  dsimp only at e
  split at e
  · rename_i e3
    cases e
    refine ⟨true, (look_rep s1.mt rr1 e3).bl, ?_⟩
    rw [if_pos rfl]
    exact q _ H1 R1 s1 rfl trivial
  · rename_i e3
    refine ⟨false, (look_rep s1.mt rr1 e3).bl, ?_⟩
    rw [if_neg Bool.false_ne_true]
    exact ⟨R1, ρ1, r, ρ', s1.mt, e, fun v H' R' s rr f => q v H' R' (s1.trans s) rr (f.back s1.nw)⟩
  · cases e
theorem px_ife (hc : PT X c (tT X.K X.w C mc)) (ha : PE X a (tD X.K X.w C ma)) (hb : PE X b (tD X.K X.w C mb)) : PE X (.IfExp c a b pos) (tD X.K X.w C (.ife mc ma mb)) := by
  refine PE.imp (pe_ifExp hc ha hb) fun σ H Q h => ?_
  obtain ⟨R, ρ, r, ρ', m, e, q⟩ := h
  obtain ⟨⟨t, ρ1⟩, e1, e⟩ := Option.bind_eq_some_iff.mp (show (tst C mc ρ).bind _ = some (r, ρ') from e)
  refine ⟨R, ρ, t, ρ1, m, e1, fun H1 R1 s1 => ?_⟩
  cases t with
  | true =>
    rw [if_pos rfl]
    exact ⟨R1, ρ1, r, ρ', s1.mt, e, fun v H' R' s rr f => q v H' R' (s1.trans s) rr (f.back s1.nw)⟩
  | false =>
    rw [if_neg Bool.false_ne_true]
    exact ⟨R1, ρ1, r, ρ', s1.mt, e, fun v H' R' s rr f => q v H' R' (s1.trans s) rr (f.back s1.nw)⟩
theorem px_cmp {op : CmpOp} (hu : X.A.units + 65 < cLine) (ha : PE X a (tD X.K X.w C ma)) (hb : PE X b (tD X.K X.w C mb)) (hm : behindInMarks op b = false) : PE X (.Compare a [op] [b] pos) (tD X.K X.w C (.cmp op ma mb)) := by
  refine PE.imp (pe_cmpR (or_cmp hu op) ha hb hm) fun σ H Q h => ?_
  obtain ⟨R, ρ, r, ρ', m, e, q⟩ := h
  obtain ⟨⟨ra, ρ1⟩, e1, e⟩ := Option.bind_eq_some_iff.mp (show (ev C ma ρ).bind _ = some (r, ρ') from e)
  obtain ⟨⟨rb, ρ2⟩, e2, e⟩ := Option.bind_eq_some_iff.mp e
  obtain ⟨x, e3, e⟩ := Option.bind_eq_some_iff.mp e
  obtain ⟨y, e4, e⟩ := Option.bind_eq_some_iff.mp e
  obtain ⟨r', e5, e⟩ := Option.map_eq_some_iff.mp e
  cases e
  refine ⟨R, ρ, ra, ρ1, m, e1, fun v1 H1 R1 s1 rr1 f1 => ⟨R1, ρ1, rb, ρ', s1.mt, e2, fun v2 H2 R2 s2 rr2 f2 => ?_⟩⟩
  exact ⟨R2, x, y, r', look_rep s2.mt (rr1.step s1.mt s2) e3, look_rep s2.mt rr2 e4, e5, q _ H2 R2 (s1.trans s2) rfl trivial⟩
theorem px_chn {op op' : CmpOp} (hu : X.A.units + 65 < cLine) (ha : PE X a (tD X.K X.w C ma)) (hb : PE X b (tD X.K X.w C mb)) (hc : PE X c (tD X.K X.w C mc)) (hm : lastMarks [op, op'] [b, c] = false) :
    PE X (.Compare a [op, op'] [b, c] pos) (tD X.K X.w C (.chn op op' ma mb mc)) := by
  refine PE.imp (pe_chain (or_cmp hu op) (or_cmp hu op') ha hb hc hm) fun σ H Q h => ?_
  obtain ⟨R, ρ, r, ρ', m, e, q⟩ := h
  obtain ⟨⟨ra, ρ1⟩, e1, e⟩ := Option.bind_eq_some_iff.mp (show (ev C ma ρ).bind _ = some (r, ρ') from e)
  obtain ⟨⟨rb, ρ2⟩, e2, e⟩ := Option.bind_eq_some_iff.mp e
  obtain ⟨x, e3, e⟩ := Option.bind_eq_some_iff.mp e
  obtain ⟨y, e4, e⟩ := Option.bind_eq_some_iff.mp e
  obtain ⟨r', e5, e⟩ := Option.bind_eq_some_iff.mp e
  refine ⟨R, ρ, ra, ρ1, m, e1, fun v1 H1 R1 s1 rr1 f1 => ⟨R1, ρ1, rb, ρ2, s1.mt, e2, fun v2 H2 R2 s2 rr2 f2 => ?_⟩⟩
  refine ⟨R2, x, y, r', look_rep s2.mt (rr1.step s1.mt s2) e3, look_rep s2.mt rr2 e4, e5, r', rfl, ?_⟩
  cases r' with
  | false =>
    cases e
    rw [if_neg Bool.false_ne_true]
    exact q _ H2 R2 (s1.trans s2) rfl trivial
  | true =>
    rw [if_pos rfl]
    obtain ⟨⟨rc, ρ3⟩, e6, e⟩ := Option.bind_eq_some_iff.mp e
    obtain ⟨y2, e7, e⟩ := Option.bind_eq_some_iff.mp e
    obtain ⟨z, e8, e⟩ := Option.bind_eq_some_iff.mp e
    obtain ⟨r2, e9, e⟩ := Option.map_eq_some_iff.mp e
    cases e
    refine ⟨R2, ρ2, rc, ρ', s2.mt, e6, fun v3 H3 R3 s3 rr3 f3 => ?_⟩
    exact ⟨R3, y2, z, r2, look_rep s3.mt (rr2.step s2.mt s3) e7, look_rep s3.mt rr3 e8, e9, q _ H3 R3 ((s1.trans s2).trans s3) rfl trivial⟩
theorem px_ix (hu : X.A.units + 65 < cLine) (ha : PE X a (tD X.K X.w C ma)) (hb : PE X b (tD X.K X.w C mb)) (hs : isSlice b = false) : PE X (.Subscript a b pos) (tD X.K X.w C (.ix ma mb)) := by
  refine PE.imp (pe_ix (or_ix (by omega)) ha hb (plain_ix hs)) fun σ H Q h => ?_
  obtain ⟨R, ρ, r, ρ', m, e, q⟩ := h
  obtain ⟨⟨ra, ρ1⟩, e1, e⟩ := Option.bind_eq_some_iff.mp (show (ev C ma ρ).bind _ = some (r, ρ') from e)
  obtain ⟨⟨rb, ρ2⟩, e2, e⟩ := Option.bind_eq_some_iff.mp e
  obtain ⟨x, e3, e⟩ := Option.bind_eq_some_iff.mp e
  obtain ⟨y, e4, e⟩ := Option.bind_eq_some_iff.mp e
  obtain ⟨r', e5, e⟩ := Option.map_eq_some_iff.mp e
  cases e
  refine ⟨R, ρ, ra, ρ1, m, e1, fun v1 H1 R1 s1 rr1 f1 => ⟨R1, ρ1, rb, ρ', s1.mt, e2, fun v2 H2 R2 s2 rr2 f2 => ?_⟩⟩
  exact ⟨R2, x, y, r', look_rep s2.mt (rr1.step s1.mt s2) e3, look_rep s2.mt rr2 e4, e5, fun v rv => q v H2 R2 (s1.trans s2) rv trivial⟩
theorem px_part {o : Option Expr} {mo : Option E} (h : match o, mo with | none, none => True | some e, some me => PE X e (tD X.K X.w C me) | _, _ => False) : PO X o (PV.tOp X.K X.w C mo) := by
  cases o with
  | none =>
    cases mo with
    | some _ => exact h.elim
    | none =>
      refine ⟨fun pins s σ H Q I q => po_none.run pins s σ H Q I ?_⟩
      obtain ⟨R, ρ, o, ρ', m, e, q⟩ := q
      cases e
      exact q H R (Step.refl m)
  | some e =>
    cases mo with
    | none => exact h.elim
    | some me =>
      refine ⟨fun pins s σ H Q I q => (po_some h).run pins s σ H Q I ?_⟩
      obtain ⟨R, ρ, o, ρ', m, e, q⟩ := q
      obtain ⟨⟨ra, ρ1⟩, e1, e⟩ := Option.bind_eq_some_iff.mp (show (ev C me ρ).bind _ = some (o, ρ') from e)
      obtain ⟨x, e3, e⟩ := Option.bind_eq_some_iff.mp e
      obtain ⟨i, e5, e⟩ := Option.map_eq_some_iff.mp e
      cases e
      refine ⟨R, ρ, ra, ρ', m, e1, fun v1 H1 R1 s1 rr1 f1 => ?_⟩
      have t := look_rep s1.mt rr1 e3
      have ex : x = .int i := by
        unfold intOf at e5
        split at e5
        · cases e5; rfl
        · cases e5
      subst ex
      exact ⟨i, t.int, q H1 R1 s1⟩
theorem px_slc {lo hi : Option Expr} {ml mh : Option E} {p2 : Pos} (ha : PE X a (tD X.K X.w C ma)) (hl : PO X lo (PV.tOp X.K X.w C ml)) (hh : PO X hi (PV.tOp X.K X.w C mh)) : PE X (.Subscript a (.Slice lo hi none p2) pos) (tD X.K X.w C (.slc ma ml mh)) := by
  refine PE.imp (pe_slice or_slc ha hl hh) fun σ H Q h => ?_
  obtain ⟨R, ρ, r, ρ', m, e, q⟩ := h
  obtain ⟨⟨ra, ρ1⟩, e1, e⟩ := Option.bind_eq_some_iff.mp (show (ev C ma ρ).bind _ = some (r, ρ') from e)
  obtain ⟨⟨l, ρ2⟩, e2, e⟩ := Option.bind_eq_some_iff.mp e
  obtain ⟨⟨hv, ρ3⟩, e3, e⟩ := Option.bind_eq_some_iff.mp e
  obtain ⟨x, e4, e⟩ := Option.bind_eq_some_iff.mp e
  obtain ⟨r', e5, e⟩ := Option.map_eq_some_iff.mp e
  cases e
  refine ⟨R, ρ, ra, ρ1, m, e1, fun v1 H1 R1 s1 rr1 f1 => ⟨R1, ρ1, l, ρ2, s1.mt, e2, fun H2 R2 s2 => ⟨R2, ρ2, hv, ρ', s2.mt, e3, fun H3 R3 s3 => ?_⟩⟩⟩
  refine ⟨R3, x, r, look_rep s3.mt ((rr1.step s1.mt s2).step s2.mt s3) e4, e5, fun v H' p => ?_⟩
  obtain ⟨s4, rr4, f4⟩ := p.step s3.mt
  exact q v H' R3 (((s1.trans s2).trans s3).trans s4) rr4 (f4.back ((s1.trans s2).trans s3).nw)

theorem reps_rev {K : PySem.W.Frag} {w : World} {R : Addr → Prop} {H : Hp} : ∀ {ds : List D} {xs : List V}, Reps K w R H ds xs → Reps K w R H ds.reverse xs.reverse
  | [], [], _ => trivial
  | d :: ds, x :: xs, h => by
    rw [List.reverse_cons, List.reverse_cons]
    exact (reps_rev (ds := ds) (xs := xs) h.2).append ⟨h.1, trivial⟩
  | [], _ :: _, h => h.elim
  | _ :: _, [], h => h.elim
theorem px_rev {kk : Nat} {p1 p2 p3 : Pos} (ha : PE X a (tD X.K X.w C ma)) : PE X (.Subscript a (.Slice none none (some (.UnaryOp .USub (.Constant (.int 1) kk p1) p2)) p3) pos) (tD X.K X.w C (.rev ma)) := by
  refine PE.imp (PVU.pe_revF ha) fun σ H Q h => ?_
  obtain ⟨R, ρ, r, ρ', m, e, q⟩ := h
  obtain ⟨⟨ra, ρ1⟩, e1, e⟩ := Option.bind_eq_some_iff.mp (show (ev C ma ρ).bind _ = some (r, ρ') from e)
  obtain ⟨x, e4, e⟩ := Option.bind_eq_some_iff.mp e
  obtain ⟨r', e5, e⟩ := Option.map_eq_some_iff.mp e
  cases e
  refine ⟨R, ρ, ra, ρ', m, e1, fun v1 H1 R1 s1 rr1 f1 => ?_⟩
  have t := look_rep s1.mt rr1 e4
  have fin : ∀ v H', PR X.K X.w R1 H1 v H' r → Q v H' := fun v H' p => by
    obtain ⟨s4, rr4, f4⟩ := p.step s1.mt
    exact q v H' R1 (s1.trans s4) rr4 (f4.back s1.nw)
  unfold revD at e5
  split at e5
  · cases e5
    obtain ⟨p, xs, ep, h1, h2⟩ := t.lst
    exact ⟨p, xs, ep, .inl ⟨SqL.of h1, fun z n => fin _ _ (PR.lst n (reps_rev h2))⟩⟩
  · cases e5
    obtain ⟨p, ep, h1⟩ := t.scr
    exact ⟨p, _, ep, .inl ⟨h1, fun z n => fin _ _ (PR.lst n (reps_rev (reps_ints _)))⟩⟩
  · cases e5
    obtain ⟨p, xs, ep, h1, h2⟩ := t.tup
    exact ⟨p, xs, ep, .inr ⟨h1.sq, fun z o n no => fin _ _ (PR.tup n no (reps_rev h2))⟩⟩
  · cases e5

/-! ### argument lists -/
theorem px_nil : PA X [] (tA X.K X.w C []) := PA.imp pa_nil fun σ H Q h => by
  obtain ⟨R, ρ, rs, ρ', m, e, q⟩ := h
  cases e
  exact q [] H R (Step.refl m) trivial trivial
theorem cons_tA {σ : St} {H : Hp} {es : List E} {Q : List V → Hp → Prop} (h : tA X.K X.w C (ma :: es) σ H Q) : tCons (tD X.K X.w C ma) (tA X.K X.w C es) σ H Q := by
  obtain ⟨R, ρ, rs, ρ', m, e, q⟩ := h
  obtain ⟨⟨r, ρ1⟩, e1, e⟩ := Option.bind_eq_some_iff.mp (show (ev C ma ρ).bind _ = some (rs, ρ') from e)
  obtain ⟨⟨rs', ρ2⟩, e2, e⟩ := Option.map_eq_some_iff.mp e
  cases e
  refine ⟨R, ρ, r, ρ1, m, e1, fun v H1 R1 s1 rr1 f1 => ⟨R1, ρ1, rs', ρ', s1.mt, e2, fun vs H2 R2 s2 rr2 f2 => ?_⟩⟩
  exact q (v :: vs) H2 R2 (s1.trans s2) ⟨rr1.step s1.mt s2, rr2⟩ (FrNs.cons s1 rr1 f1 f2)
theorem px_cons {es : List Expr} {mes : List E} (ha : PE X a (tD X.K X.w C ma)) (hr : PA X es (tA X.K X.w C mes)) (hs : isStar a = false) : PA X (a :: es) (tA X.K X.w C (ma :: mes)) :=
  PA.imp (pa_cons ha hr (star_cons hs)) fun σ H Q h => cons_tA h
theorem px_knil : PK X [] (tA X.K X.w C []) := PK.imp pk_nil fun σ H Q h => by
  obtain ⟨R, ρ, rs, ρ', m, e, q⟩ := h
  cases e
  exact q [] H R (Step.refl m) trivial trivial
theorem px_kcons {nm : Option Str} {kpos : Pos} {kws : List Keyword} {mes : List E} (ha : PE X a (tD X.K X.w C ma)) (hr : PK X kws (tA X.K X.w C mes)) : PK X (⟨nm, a, kpos⟩ :: kws) (tA X.K X.w C (ma :: mes)) :=
  PK.imp (pk_cons ha hr) fun σ H Q h => cons_tA h
/-- all as values -/
theorem px_fnil : PA X [] (tAf X.K X.w C []) := PA.imp pa_nil fun σ H Q h => by
  obtain ⟨R, ρ, rs, ρ', m, e, q⟩ := h
  cases e
  exact q [] H R (Step.refl m) trivial
theorem px_fcons {es : List Expr} {mes : List E} (ha : PE X a (tD X.K X.w C ma)) (hr : PA X es (tAf X.K X.w C mes)) (hs : isStar a = false) : PA X (a :: es) (tAf X.K X.w C (ma :: mes)) := by
  refine PA.imp (pa_cons ha hr (star_cons hs)) fun σ H Q h => ?_
  obtain ⟨R, ρ, rs, ρ', m, e, q⟩ := h
  obtain ⟨⟨r, ρ1⟩, e1, e⟩ := Option.bind_eq_some_iff.mp (show (ev C ma ρ).bind _ = some (rs, ρ') from e)
  obtain ⟨⟨d, ρ2⟩, e2, e⟩ := Option.bind_eq_some_iff.mp e
  obtain ⟨⟨ds, ρ3⟩, e3, e⟩ := Option.map_eq_some_iff.mp e
  cases e
  refine ⟨R, ρ, r, ρ1, m, e1, fun v H1 R1 s1 rr1 f1 => ?_⟩
  obtain ⟨R2, up, s2, rp⟩ := fix_step s1 rr1 f1 e2
  exact ⟨R2, ρ2, ds, ρ', s2.mt, e3, fun vs H3 R3 s3 rps => q (v :: vs) H3 R3 (s2.trans s3) ⟨s3.rep s2.mt rp, rps⟩⟩
theorem px_tup {es : List Expr} {mes : List E} {k : Nat} (h : PA X es (tAf X.K X.w C mes)) : PE X (.Tuple es k pos) (tD X.K X.w C (.tup mes)) := by
  refine PE.imp (PVU.pe_tupF h) fun σ H Q h => ?_
  obtain ⟨R, ρ, rs, ρ', m, e, q⟩ := h
  obtain ⟨⟨ds, ρ1⟩, e1, e⟩ := Option.bind_eq_some_iff.mp (show (evf C mes ρ).bind _ = some (rs, ρ') from e)
  dsimp only at e
  split at e
  · rename_i hl
    cases e
    refine ⟨R, ρ, ds, ρ', m, e1, fun vs H1 R1 s1 rps => ⟨by rw [← rps.length]; exact most_line hl, fun p o n no => ?_⟩⟩
    obtain ⟨s2, rr, f⟩ := (PR.tup n no rps).step s1.mt
    exact q _ _ R1 (s1.trans s2) rr (f.back s1.nw)
  · cases e
theorem px_lst {es : List Expr} {mes : List E} (h : PA X es (tAf X.K X.w C mes)) : PE X (.List es pos) (tD X.K X.w C (.lst mes)) := by
  refine PE.imp (pe_lst h) fun σ H Q h => ?_
  obtain ⟨R, ρ, rs, ρ', m, e, q⟩ := h
  obtain ⟨⟨ds, ρ1⟩, e1, e⟩ := Option.bind_eq_some_iff.mp (show (evf C mes ρ).bind _ = some (rs, ρ') from e)
  dsimp only at e
  split at e
  · rename_i hl
    cases e
    refine ⟨R, ρ, ds, ρ', m, e1, fun vs H1 R1 s1 rps => ⟨by rw [← rps.length]; exact most_line hl, fun p n => ?_⟩⟩
    obtain ⟨s2, rr, f⟩ := (PR.lst n rps).step s1.mt
    exact q _ _ R1 (s1.trans s2) rr (f.back s1.nw)
  · cases e
/-- a built-in function, called with one argument or more -/
theorem px_blt {f : Bt} {x : Str} {p : Pos} {es : List Expr} {mes : List E} (hu : X.A.units + 65 < cLine) (hc : X.calm = true) (hg : Gl X x) (hm : X.mg x = none) (hv : bootBuiltins x = some (btV f)) (hn : x ≠ "__name__") (hdb : (x == ("__debug__" : Str)) = false)
    (ha : PA X (a :: es) (tA X.K X.w C mes)) (hs : isStar a = false) (hp : es.all (fun e => !isStar e) = true) : PE X (.Call (.Name x p) (a :: es) [] pos) (tD X.K X.w C (.blt f mes)) := by
  have key : PE X (.Call (.Name x p) (a :: es) [] pos) (tCB (rF X.K X.w f) (tA X.K X.w C mes)) := by
    cases f <;> first
      | exact pe_callB (cr_blt hu hc _) hg hm hv ha hn hdb (star_cons hs) (star_plain hp)
      | exact pe_callTy (cr_blt hu hc _) hg hm hv ha hn hdb (star_cons hs) (star_plain hp)
  refine PE.imp key fun σ H Q h => ?_
  obtain ⟨R, ρ, r, ρ', m, e, q⟩ := h
  obtain ⟨⟨rs, ρ1⟩, e1, e⟩ := Option.bind_eq_some_iff.mp (show (evs C mes ρ).bind _ = some (r, ρ') from e)
  obtain ⟨ds, e2, e⟩ := Option.bind_eq_some_iff.mp e
  obtain ⟨r', e3, e⟩ := Option.map_eq_some_iff.mp e
  cases e
  refine ⟨R, ρ, rs, ρ', m, e1, fun vs H1 R1 s1 rr1 f1 => ⟨R1, ds, r, looks_rep s1.mt rr1 e2, e3, fun v H' p => ?_⟩⟩
  obtain ⟨s2, rr, f2⟩ := p.step s1.mt
  exact q v H' R1 (s1.trans s2) rr (f2.back s1.nw)
end
end PV

/-! PV, part J: tests, isinstance, ranges, methods of lists. -/
namespace PV
open PySem PySem.Spec PyProof.Rows L2

section
variable {X : Cx} {C : Cfg} {a b c e : Expr} {ma mb mc : E} {pos : Pos}
/-! ### tests -/
theorem px_tnot (ha : PT X a (tT X.K X.w C ma)) : PT X (.UnaryOp .Not a pos) (tT X.K X.w C (.not ma)) := by
  refine PT.imp (pt_not ha) fun σ H Q h => ?_
  obtain ⟨R, ρ, t, ρ', m, e, q⟩ := h
  obtain ⟨⟨b, ρ1⟩, e1, e⟩ := Option.map_eq_some_iff.mp (show (tst C ma ρ).map _ = some (t, ρ') from e)
  cases e
  exact ⟨R, ρ, b, ρ', m, e1, fun H1 R1 s1 => q H1 R1 s1⟩
theorem px_tcmp {op : CmpOp} (hu : X.A.units + 65 < cLine) (ha : PE X a (tD X.K X.w C ma)) (hb : PE X b (tD X.K X.w C mb)) (hm : behindInMarks op b = false) : PT X (.Compare a [op] [b] pos) (tT X.K X.w C (.cmp op ma mb)) := by
  refine PT.imp (pt_cmpR (or_cmp hu op) ha hb hm) fun σ H Q h => ?_
  obtain ⟨R, ρ, t, ρ', m, e, q⟩ := h
  obtain ⟨⟨ra, ρ1⟩, e1, e⟩ := Option.bind_eq_some_iff.mp (show (ev C ma ρ).bind _ = some (t, ρ') from e)
  obtain ⟨⟨rb, ρ2⟩, e2, e⟩ := Option.bind_eq_some_iff.mp e
  obtain ⟨x, e3, e⟩ := Option.bind_eq_some_iff.mp e
  obtain ⟨y, e4, e⟩ := Option.bind_eq_some_iff.mp e
  obtain ⟨r', e5, e⟩ := Option.map_eq_some_iff.mp e
  cases e
  refine ⟨R, ρ, ra, ρ1, m, e1, fun v1 H1 R1 s1 rr1 f1 => ⟨R1, ρ1, rb, ρ', s1.mt, e2, fun v2 H2 R2 s2 rr2 f2 => ?_⟩⟩
  exact ⟨R2, x, y, t, look_rep s2.mt (rr1.step s1.mt s2) e3, look_rep s2.mt rr2 e4, e5, t, rfl, q H2 R2 (s1.trans s2)⟩
theorem px_tchn {op op' : CmpOp} (hu : X.A.units + 65 < cLine) (ha : PE X a (tD X.K X.w C ma)) (hb : PE X b (tD X.K X.w C mb)) (hc : PE X c (tD X.K X.w C mc)) (hm : lastMarks [op, op'] [b, c] = false) :
    PT X (.Compare a [op, op'] [b, c] pos) (tT X.K X.w C (.chn op op' ma mb mc)) := by
  refine PT.imp (pt_chain (or_cmp hu op) (or_cmp hu op') ha hb hc hm) fun σ H Q h => ?_
  obtain ⟨R, ρ, t, ρ', m, e, q⟩ := h
  obtain ⟨⟨ra, ρ1⟩, e1, e⟩ := Option.bind_eq_some_iff.mp (show (ev C ma ρ).bind _ = some (t, ρ') from e)
  obtain ⟨⟨rb, ρ2⟩, e2, e⟩ := Option.bind_eq_some_iff.mp e
  obtain ⟨x, e3, e⟩ := Option.bind_eq_some_iff.mp e
  obtain ⟨y, e4, e⟩ := Option.bind_eq_some_iff.mp e
  obtain ⟨r', e5, e⟩ := Option.bind_eq_some_iff.mp e
  refine ⟨R, ρ, ra, ρ1, m, e1, fun v1 H1 R1 s1 rr1 f1 => ⟨R1, ρ1, rb, ρ2, s1.mt, e2, fun v2 H2 R2 s2 rr2 f2 => ?_⟩⟩
  refine ⟨R2, x, y, r', look_rep s2.mt (rr1.step s1.mt s2) e3, look_rep s2.mt rr2 e4, e5, r', rfl, ?_⟩
  cases r' with
  | false =>
    cases e
    rw [if_neg Bool.false_ne_true]
    exact ⟨false, rfl, q H2 R2 (s1.trans s2)⟩
  | true =>
    rw [if_pos rfl]
    obtain ⟨⟨rc, ρ3⟩, e6, e⟩ := Option.bind_eq_some_iff.mp e
    obtain ⟨y2, e7, e⟩ := Option.bind_eq_some_iff.mp e
    obtain ⟨z, e8, e⟩ := Option.bind_eq_some_iff.mp e
    obtain ⟨r2, e9, e⟩ := Option.map_eq_some_iff.mp e
    cases e
    refine ⟨R2, ρ2, rc, ρ', s2.mt, e6, fun v3 H3 R3 s3 rr3 f3 => ?_⟩
    exact ⟨R3, y2, z, t, look_rep s3.mt (rr2.step s2.mt s3) e7, look_rep s3.mt rr3 e8, e9, t, rfl, q H3 R3 ((s1.trans s2).trans s3)⟩
theorem px_wand1 (ha : PT X a (tT X.K X.w C ma)) : PW X (.BoolOp .And [a] pos) (tT X.K X.w C ma) := pw_and1 ha
theorem px_wor1 (ha : PT X a (tT X.K X.w C ma)) : PW X (.BoolOp .Or [a] pos) (tT X.K X.w C ma) := pw_or1 ha
theorem PW.imp {X : Cx} {e : Expr} {t t' : TT} (h : PW X e t) (i : ∀ σ H Q, t' σ H Q → t σ H Q) : PW X e t' := ⟨fun wh pins s σ H Q I q => h.run wh pins s σ H Q I (i σ H Q q)⟩
theorem px_wand {rest : List Expr} (ha : PT X a (tT X.K X.w C ma)) (hb : PW X (.BoolOp .And (b :: rest) pos) (tT X.K X.w C mb)) : PW X (.BoolOp .And (a :: b :: rest) pos) (tT X.K X.w C (.bop true ma mb)) := by
  refine PW.imp (pw_and ha hb) fun σ H Q h => ?_
  obtain ⟨R, ρ, t, ρ', m, e, q⟩ := h
  obtain ⟨⟨b1, ρ1⟩, e1, e⟩ := Option.bind_eq_some_iff.mp (show (tst C ma ρ).bind _ = some (t, ρ') from e)
  refine ⟨R, ρ, b1, ρ1, m, e1, fun H1 R1 s1 => ?_⟩
  cases b1 with
  | true =>
    rw [if_pos rfl]
    exact ⟨R1, ρ1, t, ρ', s1.mt, e, fun H' R' s => q H' R' (s1.trans s)⟩
  | false =>
    rw [if_neg Bool.false_ne_true]
    cases e
    exact q H1 R1 s1
theorem px_wor {rest : List Expr} (ha : PT X a (tT X.K X.w C ma)) (hb : PW X (.BoolOp .Or (b :: rest) pos) (tT X.K X.w C mb)) : PW X (.BoolOp .Or (a :: b :: rest) pos) (tT X.K X.w C (.bop false ma mb)) := by
  refine PW.imp (pw_or ha hb) fun σ H Q h => ?_
  obtain ⟨R, ρ, t, ρ', m, e, q⟩ := h
  obtain ⟨⟨b1, ρ1⟩, e1, e⟩ := Option.bind_eq_some_iff.mp (show (tst C ma ρ).bind _ = some (t, ρ') from e)
  refine ⟨R, ρ, b1, ρ1, m, e1, fun H1 R1 s1 => ?_⟩
  cases b1 with
  | false =>
    rw [if_neg Bool.false_ne_true]
    exact ⟨R1, ρ1, t, ρ', s1.mt, e, fun H' R' s => q H' R' (s1.trans s)⟩
  | true =>
    rw [if_pos rfl]
    cases e
    exact q H1 R1 s1
theorem isEmpty_reps {K : PySem.W.Frag} {w : World} {R : Addr → Prop} {H : Hp} {ds : List D} {xs : List V} (h : Reps K w R H ds xs) : (!ds.isEmpty) = !xs.isEmpty := by
  have := h.length
  cases ds <;> cases xs <;> first | rfl | simp at this
theorem truth_tru {K : PySem.W.Frag} {w : World} {R : Addr → Prop} {H : Hp} {d : D} {x : V} {k : Bool} (h : RepT K w R H d x) (e : truth d = some k) : TruV K x H k := by
  unfold truth at e
  split at e
  · split at e
    · rename_i hz
      cases e
      rw [h.str]
      exact ⟨most_line hz, rfl⟩
    · cases e
  · cases e
    rw [h.non]; exact rfl
  · cases e
    rw [h.bl]; exact rfl
  · cases e
    rw [h.int]; exact rfl
  · cases e
    obtain ⟨p, xs, rfl, h1, h2⟩ := h.tup
    exact .inr (.inl ⟨xs, h1.sq, isEmpty_reps h2⟩)
  · cases e
    obtain ⟨p, xs, rfl, h1, h2⟩ := h.lst
    exact .inl ⟨xs, SqL.of h1, isEmpty_reps h2⟩
  · rename_i ns
    cases e
    obtain ⟨p, rfl, h1⟩ := h.scr
    exact .inl ⟨_, h1, by cases ns <;> rfl⟩
  · cases e
theorem px_tru (ha : PE X a (tD X.K X.w C ma)) (hp : isPlainTest a = true) : PT X a (tT X.K X.w C (.tru ma)) := by
  refine PT.imp (pt_truth ha (plain_test hp)) fun σ H Q h => ?_
  obtain ⟨R, ρ, t, ρ', m, e, q⟩ := h
  obtain ⟨⟨ra, ρ1⟩, e1, e⟩ := Option.bind_eq_some_iff.mp (show (ev C ma ρ).bind _ = some (t, ρ') from e)
  obtain ⟨d, e2, e⟩ := Option.bind_eq_some_iff.mp e
  obtain ⟨k, e3, e⟩ := Option.map_eq_some_iff.mp e
  cases e
  refine ⟨R, ρ, ra, ρ', m, e1, fun v1 H1 R1 s1 rr1 f1 => ⟨t, truth_tru (look_rep s1.mt rr1 e2) e3, q H1 R1 s1⟩⟩
/-- a comprehension's test -/
theorem px_tso_none : PTs X [] (tTo X.K X.w C none) := ⟨fun pins s σ H Q I h => by
  obtain ⟨R, ρ, t, ρ', m, e, q⟩ := h
  cases e
  exact pts_nil.run pins s σ H Q I (q H R (Step.refl m))⟩
theorem px_tso_some (h : PT X c (tT X.K X.w C mc)) : PTs X [c] (tTo X.K X.w C (some mc)) := ⟨fun pins s σ H Q I q => (pts_one h).run pins s σ H Q I q⟩

/-! ### isinstance -/
theorem kitTab : (["NoneType", "bool", "int", "str", "tuple", "list", "dict"].all fun k => ["int", "bool", "str", "tuple", "list", "dict"].all fun t => kitB k t == some (k == t || (k == "bool" && t == "int"))) = true := by decide +kernel
theorem kit_of {K : PySem.W.Frag} {d : D} {k t : String} {b : Bool} (hk : kindD d = some k) (ht : t ∈ ["int", "bool", "str", "tuple", "list", "dict"]) (hb : b = (k == t || (k == "bool" && t == "int"))) : PySem.W.kitOne K (.type k) (.type t) = some b := by
  have h := kitTab
  rw [List.all_eq_true] at h
  have hk' : k ∈ ["NoneType", "bool", "int", "str", "tuple", "list", "dict"] := by
    cases d <;> cases hk <;> simp
  have h2 := h k hk'
  rw [List.all_eq_true] at h2
  rw [hb]
  exact kit_ty (beq_iff_eq.mp (h2 t ht))
def rIsi (K : PySem.W.Frag) (w : World) (t : String) : List V → Hp → VK → Prop := fun vs H Q => ∃ R d v b, vs = [v, .ty t] ∧ RepT K w R H d v ∧ isiD t d = some b ∧ Q (.bl b) H
theorem cr_isi (t : String) : CallR X (.builtin "isinstance") (rIsi X.K X.w t) := by
  intro pins s σ H vs us Q I r h
  obtain ⟨R, d, v, b, rfl, hd, e, q⟩ := h
  unfold isiD at e
  split at e
  · rename_i ht
    obtain ⟨k, hk, hb⟩ := Option.map_eq_some_iff.mp e
    have kk : PySem.W.kitOne X.K (.type k) (.type t) = some b := kit_of hk ht hb.symm
    obtain ⟨u, u2, rfl, rv, rt⟩ := vals2 r
    cases rt
    have fin : ∀ tk, EP X pins σ Q (.bool b) { s with toks := tk } := fun tk => ⟨.bl b, H, I.tok tk, rfl, q⟩
    cases d with
    | non =>
      rw [hd.non] at rv
      cases hk
      exact isinst_ok I rv .non kk fin
    | bl x =>
      rw [hd.bl] at rv
      cases hk
      exact isinst_ok I rv (.bl x) kk fin
    | int x =>
      rw [hd.int] at rv
      cases hk
      exact isinst_ok I rv (.int x) kk fin
    | str x =>
      rw [hd.str] at rv
      cases hk
      exact isinst_ok I rv (.str x) kk fin
    | tup ds =>
      obtain ⟨p, xs, rfl, h1, _⟩ := hd.tup
      cases hk
      obtain rfl : u = Value.ref p := rv
      obtain ⟨its, _, ⟨o, ho, hc, _⟩, _⟩ := I.tuple h1.sq
      exact PySem.W.kia_one PySem.W.kitx_tuple I.kIn ⟨o, ho, hc⟩ kk (fun z => nomatch z) fin
    | lst ds =>
      obtain ⟨p, xs, rfl, h1, _⟩ := hd.lst
      cases hk
      exact isinst_ok I rv (.lst h1) kk fin
    | scr ns =>
      obtain ⟨p, rfl, h1⟩ := hd.scr
      cases hk
      obtain rfl : u = Value.ref p := rv
      obtain ⟨its, _, pl, _⟩ := I.list h1
      obtain ⟨o, ho, hc, _⟩ := pl.isList
      exact PySem.W.kia_one PySem.W.kitx_list I.kIn ⟨o, ho, hc⟩ kk (fun z => nomatch z) fin
    | dct ks ws =>
      cases hk
      obtain ⟨p, xs, u', rfl, hr, h1, h2⟩ := hd.dct
      obtain rfl : u = Value.ref p := rv
      obtain ⟨o, ho, hc, _⟩ := dct_is I hr h2
      exact PySem.W.kia_one PySem.W.kitx_dict I.kIn ⟨o, ho, hc⟩ kk (fun z => nomatch z) fin
    | dcf ks ws =>
      cases hk
      obtain ⟨p, xs, u', rfl, hr, h1, h2⟩ := hd.dcf
      obtain rfl : u = Value.ref p := rv
      obtain ⟨o, ho, hc, _⟩ := dct_is I hr h2
      exact PySem.W.kia_one PySem.W.kitx_dict I.kIn ⟨o, ho, hc⟩ kk (fun z => nomatch z) fin
    | set ns => cases hk
    | rtp ns => cases hk
  · cases e
theorem px_isi {t : String} {p pt : Pos} (hg : Gl X "isinstance") (hm : X.mg "isinstance" = none) (hgt : Gl X (Str.ofString t)) (hmt : X.mg (Str.ofString t) = none) (hvt : bootBuiltins (Str.ofString t) = some (.type t))
    (hnt : Str.ofString t ≠ "__name__") (hdt : (Str.ofString t == ("__debug__" : Str)) = false) (ha : PE X a (tD X.K X.w C ma)) (hs : isStar a = false) :
    PE X (.Call (.Name "isinstance" p) [a, .Name (Str.ofString t) pt] [] pos) (tD X.K X.w C (.isi ma t)) := by
  have hb : PE X (.Name (Str.ofString t) pt) (tC (.ty t)) := pe_bltn hgt hmt hvt rfl hnt hdt
  refine PE.imp (pe_callB (cr_isi t) hg hm (by decide +kernel) (pa_cons ha (pa_cons hb pa_nil) (star_cons hs)) (by decide) (by decide) (star_cons hs)) fun σ H Q h => ?_
  obtain ⟨R, ρ, r, ρ', m, e, q⟩ := h
  obtain ⟨⟨ra, ρ1⟩, e1, e⟩ := Option.bind_eq_some_iff.mp (show (ev C ma ρ).bind _ = some (r, ρ') from e)
  obtain ⟨d, e2, e⟩ := Option.bind_eq_some_iff.mp e
  obtain ⟨k, e3, e⟩ := Option.map_eq_some_iff.mp e
  cases e
  refine ⟨R, ρ, ra, ρ', m, e1, fun v1 H1 R1 s1 rr1 f1 => ?_⟩
  exact ⟨R1, d, v1, k, rfl, look_rep s1.mt rr1 e2, e3, q _ H1 R1 s1 rfl trivial⟩
end
end PV

/-! PV, part K: list(range(..)), methods of lists, what is walked. -/
namespace PV
open PySem PySem.Spec PyProof.Rows L2

section
variable {X : Cx} {C : Cfg} {a b c e : Expr} {ma mb mc : E} {pos : Pos}
theorem nil_tA {σ : St} {H : Hp} {Q : List V → Hp → Prop} (h : tA X.K X.w C [] σ H Q) : Q [] H := by
  obtain ⟨R, ρ, rs, ρ', m, e, q⟩ := h
  cases e
  exact q [] H R (Step.refl m) trivial trivial
theorem tD_mono {σ : St} {H : Hp} {Q Q' : VK} (h : tD X.K X.w C ma σ H Q) (i : ∀ v H', Q v H' → Q' v H') : tD X.K X.w C ma σ H Q' := by
  obtain ⟨R, ρ, r, ρ', m, e, q⟩ := h
  exact ⟨R, ρ, r, ρ', m, e, fun v H' R' s rr f => i _ _ (q v H' R' s rr f)⟩
theorem one_tA {σ : St} {H : Hp} {Q : List V → Hp → Prop} (h : tA X.K X.w C [ma] σ H Q) : tD X.K X.w C ma σ H fun x H1 => Q [x] H1 := tD_mono (cons_tA h) fun _ _ q => nil_tA q
theorem two_tA {σ : St} {H : Hp} {Q : List V → Hp → Prop} (h : tA X.K X.w C [ma, mb] σ H Q) : tD X.K X.w C ma σ H fun x H1 => tD X.K X.w C mb σ H1 fun y H2 => Q [x, y] H2 :=
  tD_mono (cons_tA h) fun _ _ q => tD_mono (cons_tA q) fun _ _ q => nil_tA q

/-! ### ranges -/
/-- what a range's bounds are -/
theorem rngD_one {K : PySem.W.Frag} {w : World} {R : Addr → Prop} {H : Hp} {d : D} {v : V} {xs : List D} (h : RepT K w R H d v) (e : rngD [d] = some xs) : ∃ j, v = .int j ∧ -(2 ^ 62) ≤ j ∧ j < 2 ^ 62 ∧ xs = (List.range j.toNat).map fun (k : Nat) => D.int k := by
  unfold rngD at e
  split at e
  · rename_i j q
    cases q
    split at e
    · rename_i hz
      cases e
      exact ⟨j, h.int, hz.1, hz.2, rfl⟩
    · cases e
  · rename_i q
    cases q
  · cases e
theorem rngD_two {K : PySem.W.Frag} {w : World} {R : Addr → Prop} {H : Hp} {d d2 : D} {v u : V} {xs : List D} (h : RepT K w R H d v) (h2 : RepT K w R H d2 u) (e : rngD [d, d2] = some xs) :
    ∃ i j, v = .int i ∧ u = .int j ∧ (-(2 ^ 62) ≤ i ∧ i < 2 ^ 62) ∧ (-(2 ^ 62) ≤ j ∧ j < 2 ^ 62) ∧ xs = (List.range (j - i).toNat).map fun (k : Nat) => D.int (i + k) := by
  unfold rngD at e
  split at e
  · rename_i j q
    cases q
  · rename_i i j q
    cases q
    split at e
    · rename_i hz
      cases e
      exact ⟨i, j, h.int, h2.int, hz.1, hz.2, rfl⟩
    · cases e
  · cases e
theorem reps_fn {K : PySem.W.Frag} {w : World} {R : Addr → Prop} {H : Hp} {f : Nat → D} {g : Nat → V} (h : ∀ k, Rep K w R H (f k) (g k)) : ∀ l : List Nat, Reps K w R H (l.map f) (l.map g)
  | [] => trivial
  | k :: l => ⟨h k, reps_fn h l⟩
theorem reps_rg {K : PySem.W.Frag} {w : World} {R : Addr → Prop} {H : Hp} (i j : Int) : Reps K w R H ((List.range (j - i).toNat).map fun (k : Nat) => D.int (i + k)) (rgV i j) := reps_fn (f := fun (k : Nat) => D.int (i + k)) (g := fun (k : Nat) => V.int (i + k)) (fun k => show V.int _ = V.int _ from rfl) _
theorem reps_rg0 {K : PySem.W.Frag} {w : World} {R : Addr → Prop} {H : Hp} (j : Int) : Reps K w R H ((List.range j.toNat).map fun (k : Nat) => D.int k) (rgV 0 j) := by
  have h : Reps K w R H ((List.range (j - 0).toNat).map fun (k : Nat) => D.int (0 + k)) (rgV 0 j) := reps_rg 0 j
  rw [Int.sub_zero] at h
  simpa only [Int.zero_add] using h
/-- the end of list(range(..)), tuple(range(..)) -/
theorem px_ofr_end {t : Bool} {es : List E} {σ : St} {H : Hp} {Q : VK} (h : tD X.K X.w C (.ofr t es) σ H Q) :
    tA X.K X.w C es σ H fun vs H1 => ∃ R1 ds xs, RepTs X.K X.w R1 H1 ds vs ∧ rngD ds = some xs ∧ xs.length ≤ most ∧
      ∀ ys, (Reps X.K X.w R1 H1 xs ys) → if t = true then PVU.NewT ys H1 Q else ∀ p, H1 p = none → Q (.ref p) (upd H1 p (.lst ys)) := by
  obtain ⟨R, ρ, r, ρ', m, e, q⟩ := h
  obtain ⟨⟨rs, ρ1⟩, e1, e⟩ := Option.bind_eq_some_iff.mp (show (evs C es ρ).bind _ = some (r, ρ') from e)
  obtain ⟨ds, e2, e⟩ := Option.bind_eq_some_iff.mp e
  obtain ⟨xs, e3, e⟩ := Option.bind_eq_some_iff.mp e
  split at e
  · rename_i hz
    cases t with
    | true =>
      cases e
      refine ⟨R, ρ, rs, ρ', m, e1, fun vs H1 R1 s1 rr1 f1 => ⟨R1, ds, xs, looks_rep s1.mt rr1 e2, e3, hz, fun ys ry => ?_⟩⟩
      rw [if_pos rfl]
      intro p o n no
      obtain ⟨s2, rr, f⟩ := (PR.tup n no ry).step s1.mt
      exact q _ _ R1 (s1.trans s2) rr (f.back s1.nw)
    | false =>
      cases e
      refine ⟨R, ρ, rs, ρ', m, e1, fun vs H1 R1 s1 rr1 f1 => ⟨R1, ds, xs, looks_rep s1.mt rr1 e2, e3, hz, fun ys ry => ?_⟩⟩
      rw [if_neg Bool.false_ne_true]
      intro p n
      obtain ⟨s2, rr, f⟩ := (PR.lst n ry).step s1.mt
      exact q _ _ R1 (s1.trans s2) rr (f.back s1.nw)
  · cases e
theorem rgOk0 {j : Int} {xs : List D} (h0 : -(2 ^ 62) ≤ j) (h1 : j < 2 ^ 62) (e : xs = (List.range j.toNat).map fun (k : Nat) => D.int k) (hz : xs.length ≤ most) : RgOk 0 j := by
  subst e
  rw [List.length_map, List.length_range] at hz
  unfold most at hz
  exact ⟨by decide, by decide, h0, h1, by rw [Int.sub_zero]; omega⟩
theorem rgOk2 {i j : Int} {xs : List D} (h0 : -(2 ^ 62) ≤ i ∧ i < 2 ^ 62) (h1 : -(2 ^ 62) ≤ j ∧ j < 2 ^ 62) (e : xs = (List.range (j - i).toNat).map fun (k : Nat) => D.int (i + k)) (hz : xs.length ≤ most) : RgOk i j := by
  subst e
  rw [List.length_map, List.length_range] at hz
  unfold most at hz
  exact ⟨h0.1, h0.2, h1.1, h1.2, by omega⟩
theorem px_ofr1 {t : Bool} {p p2 pos2 : Pos} (hc : X.calm = true) (hgx : Gl X (if t then "tuple" else "list")) (hmx : X.mg (if t then "tuple" else "list") = none) (hg : Gl X "range") (hm : X.mg "range" = none)
    (ha : PE X a (tD X.K X.w C ma)) (hs : isStar a = false) : PE X (.Call (.Name (if t then "tuple" else "list") p) [.Call (.Name "range" p2) [a] [] pos2] [] pos) (tD X.K X.w C (.ofr t [ma])) := by
  cases t with
  | true =>
    refine PE.imp (PVU.pe_tupRgF hc hgx hmx (prg_1 hg hm ha (star_cons hs)) rfl) fun σ H Q h => tD_mono (one_tA (px_ofr_end h)) fun v H1 h => ?_
    obtain ⟨R1, ds, xs, hd, e, hz, k⟩ := h
    match ds, hd with
    | [d], hd =>
      obtain ⟨j, rfl, h0, h1, e2⟩ := rngD_one hd.1 e
      refine ⟨j, rfl, rgOk0 h0 h1 e2 hz, ?_⟩
      have := k (rgV 0 j) (by rw [e2]; exact reps_rg0 j)
      rwa [if_pos rfl] at this
  | false =>
    refine PE.imp (pe_listRg hc hgx hmx (prg_1 hg hm ha (star_cons hs)) rfl) fun σ H Q h => tD_mono (one_tA (px_ofr_end h)) fun v H1 h => ?_
    obtain ⟨R1, ds, xs, hd, e, hz, k⟩ := h
    match ds, hd with
    | [d], hd =>
      obtain ⟨j, rfl, h0, h1, e2⟩ := rngD_one hd.1 e
      refine ⟨j, rfl, rgOk0 h0 h1 e2 hz, ?_⟩
      have := k (rgV 0 j) (by rw [e2]; exact reps_rg0 j)
      rwa [if_neg Bool.false_ne_true] at this
theorem px_ofr2 {t : Bool} {p p2 pos2 : Pos} (hc : X.calm = true) (hgx : Gl X (if t then "tuple" else "list")) (hmx : X.mg (if t then "tuple" else "list") = none) (hg : Gl X "range") (hm : X.mg "range" = none)
    (ha : PE X a (tD X.K X.w C ma)) (hs : isStar a = false) (hb : PE X b (tD X.K X.w C mb)) (hs2 : isStar b = false) : PE X (.Call (.Name (if t then "tuple" else "list") p) [.Call (.Name "range" p2) [a, b] [] pos2] [] pos) (tD X.K X.w C (.ofr t [ma, mb])) := by
  have hp : PRg X (.Call (.Name "range" p2) [a, b] [] pos2) (tRg2 (tD X.K X.w C ma) (tD X.K X.w C mb)) := prg_2 hg hm ha hb (star_cons hs) (star_cons hs2) (star_plain (by simp [hs2]))
  cases t with
  | true =>
    refine PE.imp (PVU.pe_tupRgF hc hgx hmx hp rfl) fun σ H Q h => tD_mono (two_tA (px_ofr_end h)) fun v H1 h => tD_mono h fun u H2 h => ?_
    obtain ⟨R1, ds, xs, hd, e, hz, k⟩ := h
    match ds, hd with
    | [d, d2], hd =>
      obtain ⟨i, j, rfl, rfl, h0, h1, e2⟩ := rngD_two hd.1 hd.2.1 e
      refine ⟨i, j, rfl, rfl, rgOk2 h0 h1 e2 hz, ?_⟩
      have := k (rgV i j) (by rw [e2]; exact reps_rg i j)
      rwa [if_pos rfl] at this
  | false =>
    refine PE.imp (pe_listRg hc hgx hmx hp rfl) fun σ H Q h => tD_mono (two_tA (px_ofr_end h)) fun v H1 h => tD_mono h fun u H2 h => ?_
    obtain ⟨R1, ds, xs, hd, e, hz, k⟩ := h
    match ds, hd with
    | [d, d2], hd =>
      obtain ⟨i, j, rfl, rfl, h0, h1, e2⟩ := rngD_two hd.1 hd.2.1 e
      refine ⟨i, j, rfl, rfl, rgOk2 h0 h1 e2 hz, ?_⟩
      have := k (rgV i j) (by rw [e2]; exact reps_rg i j)
      rwa [if_neg Bool.false_ne_true] at this
end

/-! ### an own slot's object is written -/
section
variable {K : PySem.W.Frag} {w : World} {R R' R1 R2 : Addr → Prop} {ρ ρ' ρ1 ρ2 : Rho} {σ : St} {H H' H1 H2 : Hp}
theorem write_keepT {a : Addr} {d : D} {o : HO} (t : Top K w R H a d) : ∀ b u, Fz u → H b = some u → (upd H a o) b = some u := fun b u z e => by
  refine (upd_ne fun q => ?_).trans e
  subst q
  obtain ⟨o', e', n⟩ := t.there
  rw [e] at e'
  cases e'
  rcases z with ⟨xs, rfl⟩ | ⟨ob, u', rfl⟩
  · exact n xs rfl
  · exact t.nofrz e
theorem write_keepK {a : Addr} {o : HO} (n : ¬ R a) : ∀ b u, R b → H b = some u → (upd H a o) b = some u := fun b u z e =>
  (upd_ne fun q => n (by rw [← q]; exact z)).trans e
theorem Step.write (m : Mt K w R ρ σ H) {i : Nat} {d d' : D} {a : Addr} {o : HO} (h : ρ[i]? = some (.own d)) (ha : σ[i]? = some (some (.ref a)))
    (t : Top K w R (upd H a o) a d') : Step K w σ R ρ H R (ρ.set i (.own d')) (upd H a o) := by
  obtain ⟨a', h1, h2, h3⟩ := m.own i d h
  rw [ha] at h1
  cases h1
  have hi : i < ρ.length := (List.getElem?_eq_some_iff.mp h).1
  have nw : ∀ b, H b ≠ none → (upd H a o) b ≠ none := fun b hb => by
    by_cases q : b = a
    · rw [q, upd_same]; simp
    · rw [upd_ne q]; exact hb
  have mo : ∀ b, Own (ρ.set i (.own d')) σ b → Own ρ σ b := fun b hb => by
    obtain ⟨j, e, e1, e2⟩ := hb
    by_cases q : i = j
    · subst q
      exact ⟨i, d, h, e2⟩
    · rw [List.getElem?_set_ne q] at e1
      exact ⟨j, e, e1, e2⟩
  have mode : ∀ {j : Nat} {e : D}, (ρ.set i (.own d'))[j]? = some (.own e) → ∃ e', ρ[j]? = some (.own e') := fun {j e} hj => by
    by_cases q : i = j
    · subst q
      exact ⟨d, h⟩
    · rw [List.getElem?_set_ne q] at hj
      exact ⟨e, hj⟩
  refine ⟨fun _ z => z, ⟨by simpa using m.len, fun b hb => nw b (m.trk b hb), fun j e hj => ?_, fun j e hj => ?_, fun j k e f b e1 e2 e3 e4 => ?_⟩, fun b u e n => ?_, fun b z => .inl z, fun b z => .inl (mo b z), nw, fun _ _ => rfl⟩
  · by_cases q : i = j
    · subst q
      rw [List.getElem?_set_self hi] at hj
      cases hj
    · rw [List.getElem?_set_ne q] at hj
      obtain ⟨v, e1, e2⟩ := m.ro j e hj
      exact ⟨v, e1, Rep.keep (fun _ z => z) (write_keepT h3) (write_keepK h2) e v e2⟩
  · by_cases q : i = j
    · subst q
      rw [List.getElem?_set_self hi] at hj
      cases hj
      exact ⟨a, ha, h2, t⟩
    · rw [List.getElem?_set_ne q] at hj
      obtain ⟨b, e1, e2, e3⟩ := m.own j e hj
      refine ⟨b, e1, e2, Top.keep (fun _ z => z) (write_keepT h3) (write_keepK h2) (fun u e4 => ?_) e3⟩
      exact (upd_ne fun z => q (m.inj i j d e b h hj (by rw [z]; exact ha) e1)).trans e4
  · obtain ⟨e', q1⟩ := mode e1
    obtain ⟨f', q2⟩ := mode e2
    exact m.inj j k e' f' b q1 q2 e3 e4
  · refine (upd_ne fun q => n ?_).trans e
    subst q
    exact ⟨i, d, h, ha⟩
theorem reps_write {a : Addr} {d : D} {o : HO} {ds : List D} {xs : List V} (n : ¬ R a) (t : Top K w R H a d) (h : Reps K w R H ds xs) : Reps K w R (upd H a o) ds xs :=
  Reps.keep (fun _ z => z) (write_keepT t) (write_keepK n) ds xs h
theorem rep_write {a : Addr} {d e : D} {o : HO} {v : V} (n : ¬ R a) (t : Top K w R H a d) (h : Rep K w R H e v) : Rep K w R (upd H a o) e v :=
  Rep.keep (fun _ z => z) (write_keepT t) (write_keepK n) e v h
theorem Reps.dropLast {ds : List D} {xs : List V} (h : Reps K w R H ds xs) : Reps K w R H ds.dropLast xs.dropLast := by
  rw [List.dropLast_eq_take, List.dropLast_eq_take, h.length]
  exact h.take _
end

/-! ### methods of lists -/
section
variable {X : Cx} {C : Cfg} {a b c e : Expr} {ma mb mc : E} {pos apos : Pos}
theorem ownL_of {ρ : Rho} {i : Nat} {xs : List D} (h : ownL ρ i = some xs) : ρ[i]? = some (.own (.lst xs)) := by
  unfold ownL at h
  split at h
  · rename_i q
    cases h
    exact q
  · cases h
theorem few {cpos : Pos} {env : Env} (hs : isStar a = false) : ((backTo cpos (starEach [a] env)).all (fun x => !x.1) && (backToKw cpos (keywordEach [] env)).all (fun x => x.1.isSome)
      && decide ([a].length + ([] : List Keyword).length + (if ([] : List Keyword).isEmpty then 0 else 1) < 30)) = true := by
  rw [star_cons hs]
  rfl
theorem base_name {x m : Str} {p : Pos} {env : Env} : attributeBase (.Name x p) m env (eval (.Name x p) env) = eval (.Name x p) env := rfl
/-- the receiver -/
theorem recv_own {K : PySem.W.Frag} {w : World} {R : Addr → Prop} {ρ : Rho} {σ : St} {H : Hp} (m : Mt K w R ρ σ H) {i : Nat} {xs : List D} (h : ownL ρ i = some xs) :
    ∃ p vs, σ[i]? = some (some (.ref p)) ∧ ¬ R p ∧ H p = some (.lst vs) ∧ Reps K w R H xs vs := by
  obtain ⟨a, h1, h2, vs, h3, h4⟩ := m.own i _ (ownL_of h)
  exact ⟨a, vs, h1, h2, h3, h4⟩
theorem tyV_lst {K : PySem.W.Frag} {p : Addr} {xs : List V} {H : Hp} (h : H p = some (.lst xs)) : tyV K "list" (.ref p) H := .inl ⟨rfl, xs, SqL.of h⟩
variable {x : Str} {i : Nat} {p : Pos}
theorem px_app (hN : X.N[i]? = some x) (hv : Vis X.env.scope x) (hd : (x == ("__debug__" : Str)) = false) (hcd : (x == ("__classdict__" : Str)) = false)
    (ha : PE X a (tD X.K X.w C ma)) (hs : isStar a = false) (hl : (apos.endLine == pos.line) = true) :
    PE X (.Call (.Attribute (.Name x p) "append" apos) [a] [] pos) (tD X.K X.w C (.app i ma)) := by
  refine PE.imp (pe_bm PySem.F.plainAttrs_list PySem.F.slot_list_append PySem.F.type_list_append mt_append (pe_var hN hv hd hcd) (pa_cons ha pa_nil (star_cons hs)) base_name (few hs) hl (star_cons hs)) fun σ H Q h => ?_
  obtain ⟨R, ρ, r, ρ', m, e, q⟩ := h
  obtain ⟨us, e0, e⟩ := Option.bind_eq_some_iff.mp (show (ownL ρ i).bind _ = some (r, ρ') from e)
  obtain ⟨⟨ra, ρ1⟩, e1, e⟩ := Option.bind_eq_some_iff.mp e
  obtain ⟨⟨d, ρ2⟩, e2, e⟩ := Option.bind_eq_some_iff.mp e
  obtain ⟨xs, e3, e⟩ := Option.bind_eq_some_iff.mp e
  split at e
  · rename_i hz
    cases e
    obtain ⟨l, vs0, h1, h2, h3, _⟩ := recv_own m e0
    refine ⟨_, h1, tyV_lst h3, R, ρ, ra, ρ1, m, e1, fun u H1 R1 s1 rr1 f1 => ?_⟩
    obtain ⟨R2, up, s2, rp⟩ := fix_step s1 rr1 f1 e2
    obtain ⟨l', ys, q1, q2, q3, q4⟩ := recv_own s2.mt e3
    rw [h1] at q1
    cases q1
    refine ⟨l, ys, u, rfl, rfl, q3, by rw [← q4.length]; exact Nat.lt_of_lt_of_le hz (most_line (Nat.le_refl _)), ?_⟩
    have t : Top X.K X.w R2 H1 l (.lst xs) := ⟨ys, q3, q4⟩
    have tw : Top X.K X.w R2 (upd H1 l (.lst (ys ++ [u]))) l (.lst (xs ++ [d])) :=
      ⟨ys ++ [u], upd_same, Reps.append (reps_write q2 t q4) ⟨rep_write q2 t rp, trivial⟩⟩
    exact q _ _ R2 (s2.trans (Step.write s2.mt (ownL_of e3) h1 tw)) rfl trivial
  · cases e
theorem px_ext (hN : X.N[i]? = some x) (hv : Vis X.env.scope x) (hd : (x == ("__debug__" : Str)) = false) (hcd : (x == ("__classdict__" : Str)) = false)
    (ha : PE X a (tD X.K X.w C ma)) (hs : isStar a = false) (hl : (apos.endLine == pos.line) = true) :
    PE X (.Call (.Attribute (.Name x p) "extend" apos) [a] [] pos) (tD X.K X.w C (.ext i ma)) := by
  refine PE.imp (pe_bm PySem.F.plainAttrs_list PySem.F.slot_list_extend PySem.F.type_list_extend mt_extend (pe_var hN hv hd hcd) (pa_cons ha pa_nil (star_cons hs)) base_name (few hs) hl (star_cons hs)) fun σ H Q h => ?_
  obtain ⟨R, ρ, r, ρ', m, e, q⟩ := h
  obtain ⟨us, e0, e⟩ := Option.bind_eq_some_iff.mp (show (ownL ρ i).bind _ = some (r, ρ') from e)
  obtain ⟨⟨ra, ρ1⟩, e1, e⟩ := Option.bind_eq_some_iff.mp e
  obtain ⟨d, e2, e⟩ := Option.bind_eq_some_iff.mp e
  obtain ⟨zs, e4, e⟩ := Option.bind_eq_some_iff.mp e
  obtain ⟨xs, e3, e⟩ := Option.bind_eq_some_iff.mp e
  split at e
  · rename_i hz
    cases e
    obtain ⟨l, vs0, h1, h2, h3, _⟩ := recv_own m e0
    refine ⟨_, h1, tyV_lst h3, R, ρ, ra, ρ1, m, e1, fun u H1 R1 s1 rr1 f1 => ?_⟩
    obtain ⟨l', ys, q1, q2, q3, q4⟩ := recv_own s1.mt e3
    rw [h1] at q1
    cases q1
    have t := look_rep s1.mt rr1 e2
    have ed : d = .lst zs := by
      unfold lstOf at e4
      split at e4
      · cases e4; rfl
      · cases e4
    subst ed
    obtain ⟨b, ws, rfl, t1, t2⟩ := t.lst
    refine ⟨l, b, ys, ws, rfl, rfl, q3, t1, by rw [← q4.length, ← t2.length]; exact most_line hz, ?_⟩
    have t : Top X.K X.w R1 H1 l (.lst xs) := ⟨ys, q3, q4⟩
    have tw : Top X.K X.w R1 (upd H1 l (.lst (ys ++ ws))) l (.lst (xs ++ zs)) :=
      ⟨ys ++ ws, upd_same, Reps.append (reps_write q2 t q4) (reps_write q2 t t2)⟩
    exact q _ _ R1 (s1.trans (Step.write s1.mt (ownL_of e3) h1 tw)) rfl trivial
  · cases e
theorem px_pop (hN : X.N[i]? = some x) (hv : Vis X.env.scope x) (hd : (x == ("__debug__" : Str)) = false) (hcd : (x == ("__classdict__" : Str)) = false)
    (hl : (apos.endLine == pos.line) = true) : PE X (.Call (.Attribute (.Name x p) "pop" apos) [] [] pos) (tD X.K X.w C (.pop i)) := by
  refine PE.imp (pe_bm0 PySem.F.plainAttrs_list PySem.F.slot_list_pop PySem.F.type_list_pop mt_pop (pe_var hN hv hd hcd) base_name hl) fun σ H Q h => ?_
  obtain ⟨R, ρ, r, ρ', m, e, q⟩ := h
  obtain ⟨xs, e0, e⟩ := Option.bind_eq_some_iff.mp (show (ownL ρ i).bind _ = some (r, ρ') from e)
  obtain ⟨d, e1, e⟩ := Option.map_eq_some_iff.mp e
  cases e
  obtain ⟨l, ys, h1, h2, h3, h4⟩ := recv_own m e0
  obtain ⟨y, hy, ry⟩ := h4.get e1
  rw [h4.length] at hy
  refine ⟨_, h1, tyV_lst h3, l, ys, y, rfl, rfl, h3, hy, ?_⟩
  have t : Top X.K X.w R H l (.lst xs) := ⟨ys, h3, h4⟩
  have tw : Top X.K X.w R (upd H l (.lst ys.dropLast)) l (.lst xs.dropLast) := ⟨ys.dropLast, upd_same, (reps_write h2 t h4).dropLast⟩
  exact q _ _ R (Step.write m (ownL_of e0) h1 tw) (rep_write h2 t ry) trivial
theorem px_popi (hN : X.N[i]? = some x) (hv : Vis X.env.scope x) (hd : (x == ("__debug__" : Str)) = false) (hcd : (x == ("__classdict__" : Str)) = false)
    (ha : PE X a (tD X.K X.w C ma)) (hs : isStar a = false) (hl : (apos.endLine == pos.line) = true) :
    PE X (.Call (.Attribute (.Name x p) "pop" apos) [a] [] pos) (tD X.K X.w C (.popi i ma)) := by
  refine PE.imp (pe_bm PySem.F.plainAttrs_list PySem.F.slot_list_pop PySem.F.type_list_pop mt_popAt (pe_var hN hv hd hcd) (pa_cons ha pa_nil (star_cons hs)) base_name (few hs) hl (star_cons hs)) fun σ H Q h => ?_
  obtain ⟨R, ρ, r, ρ', m, e, q⟩ := h
  obtain ⟨us, e0, e⟩ := Option.bind_eq_some_iff.mp (show (ownL ρ i).bind _ = some (r, ρ') from e)
  obtain ⟨⟨ra, ρ1⟩, e1, e⟩ := Option.bind_eq_some_iff.mp e
  obtain ⟨d, e2, e⟩ := Option.bind_eq_some_iff.mp e
  obtain ⟨k, e4, e⟩ := Option.bind_eq_some_iff.mp e
  obtain ⟨xs, e3, e⟩ := Option.bind_eq_some_iff.mp e
  split at e
  · rename_i hz
    obtain ⟨d2, e5, e⟩ := Option.map_eq_some_iff.mp e
    cases e
    obtain ⟨l, vs0, h1, h2, h3, _⟩ := recv_own m e0
    refine ⟨_, h1, tyV_lst h3, R, ρ, ra, ρ1, m, e1, fun u H1 R1 s1 rr1 f1 => ?_⟩
    obtain ⟨l', ys, q1, q2, q3, q4⟩ := recv_own s1.mt e3
    rw [h1] at q1
    cases q1
    have t := look_rep s1.mt rr1 e2
    have ed : d = .int k := by
      unfold intOf at e4
      split at e4
      · cases e4; rfl
      · cases e4
    subst ed
    obtain rfl := t.int
    obtain ⟨y, hy, ry⟩ := q4.get e5
    have hk : k < (ys.length : Int) := by
      have := (List.getElem?_eq_some_iff.mp hy).1
      omega
    refine ⟨l, ys, k, k.toNat, y, rfl, rfl, q3, by omega, hz.2, seqIndex_of hz.1 hk, hy, ?_⟩
    have t : Top X.K X.w R1 H1 l (.lst xs) := ⟨ys, q3, q4⟩
    have tw : Top X.K X.w R1 (upd H1 l (.lst (ys.eraseIdx k.toNat))) l (.lst (xs.eraseIdx k.toNat)) := ⟨_, upd_same, (reps_write q2 t q4).eraseIdx _⟩
    exact q _ _ R1 (s1.trans (Step.write s1.mt (ownL_of e3) h1 tw)) (rep_write q2 t ry) trivial
  · cases e
end
end PV

/-! PV, part L: names stored, what is walked. -/
namespace PV
open PySem PySem.Spec PyProof.Rows L2

section
variable {K : PySem.W.Frag} {w : World} {np : Nat} {R R' R1 R2 : Addr → Prop} {ρ ρ' ρ1 ρ2 : Rho} {σ σ' σ1 σ2 : St} {H H' H1 H2 : Hp}
theorem set_own {i j : Nat} {d e : D} (h : (ρ.set i (.ro d))[j]? = some (.own e)) : i ≠ j ∧ ρ[j]? = some (.own e) := by
  by_cases q : i = j
  · subst q
    by_cases hi : i < ρ.length
    · rw [List.getElem?_set_self hi] at h; cases h
    · rw [List.getElem?_eq_none (by simpa using hi)] at h; cases h
  · rw [List.getElem?_set_ne q] at h
    exact ⟨q, h⟩
/-- a name is stored: a value -/
theorem SS.put_ro (s : SS K w np σ R ρ H σ1 R1 ρ1 H1) {i : Nat} {d : D} {v : V} (hi : i < ρ1.length) (hn : np ≤ i) (r : Rep K w R1 H1 d v) :
    SS K w np σ R ρ H (σ1.set i (some v)) R1 (ρ1.set i (.ro d)) H1 := by
  have hs : i < σ1.length := by rw [← s.mt.len]; exact hi
  refine ⟨s.up, ⟨by simpa using s.mt.len, s.mt.trk, fun j e hj => ?_, fun j e hj => ?_, fun j k e f b e1 e2 e3 e4 => ?_⟩, s.fr, s.bd, fun b hb => ?_, s.nw, fun j hj => ?_⟩
  · by_cases q : i = j
    · subst q
      rw [List.getElem?_set_self hi] at hj
      cases hj
      exact ⟨v, List.getElem?_set_self hs, r⟩
    · rw [List.getElem?_set_ne q] at hj ⊢
      exact s.mt.ro j e hj
  · obtain ⟨q, hj⟩ := set_own hj
    rw [List.getElem?_set_ne q]
    exact s.mt.own j e hj
  · obtain ⟨q1, e1⟩ := set_own e1
    obtain ⟨q2, e2⟩ := set_own e2
    rw [List.getElem?_set_ne q1] at e3
    rw [List.getElem?_set_ne q2] at e4
    exact s.mt.inj j k e f b e1 e2 e3 e4
  · obtain ⟨j, e, e1, e2⟩ := hb
    obtain ⟨q, e1⟩ := set_own e1
    rw [List.getElem?_set_ne q] at e2
    exact s.mo b ⟨j, e, e1, e2⟩
  · rw [List.getElem?_set_ne (by omega)]
    exact s.pm j hj
/-- a name is stored: a fresh object -/
theorem SS.put_own (s : SS K w np σ R ρ H σ1 R1 ρ1 H1) {i : Nat} {d : D} {a : Addr} (hi : i < ρ1.length) (hn : np ≤ i) (n1 : ¬ R1 a) (n2 : ¬ Own ρ1 σ1 a) (t : Top K w R1 H1 a d) (f : H a = none) :
    SS K w np σ R ρ H (σ1.set i (some (.ref a))) R1 (ρ1.set i (.own d)) H1 := by
  have hs : i < σ1.length := by rw [← s.mt.len]; exact hi
  refine ⟨s.up, ⟨by simpa using s.mt.len, s.mt.trk, fun j e hj => ?_, fun j e hj => ?_, fun j k e f b e1 e2 e3 e4 => ?_⟩, s.fr, s.bd, fun b hb => ?_, s.nw, fun j hj => ?_⟩
  · by_cases q : i = j
    · subst q
      rw [List.getElem?_set_self hi] at hj
      cases hj
    · rw [List.getElem?_set_ne q] at hj ⊢
      exact s.mt.ro j e hj
  · by_cases q : i = j
    · subst q
      rw [List.getElem?_set_self hi] at hj
      cases hj
      exact ⟨a, List.getElem?_set_self hs, n1, t⟩
    · rw [List.getElem?_set_ne q] at hj ⊢
      exact s.mt.own j e hj
  · by_cases q1 : i = j
    · subst q1
      by_cases q2 : i = k
      · exact q2
      · rw [List.getElem?_set_ne q2] at e2 e4
        rw [List.getElem?_set_self hs] at e3
        cases e3
        exact absurd ⟨k, f, e2, e4⟩ n2
    · rw [List.getElem?_set_ne q1] at e1 e3
      by_cases q2 : i = k
      · subst q2
        rw [List.getElem?_set_self hs] at e4
        cases e4
        exact absurd ⟨j, e, e1, e3⟩ n2
      · rw [List.getElem?_set_ne q2] at e2 e4
        exact s.mt.inj j k e f b e1 e2 e3 e4
  · obtain ⟨j, e, e1, e2⟩ := hb
    by_cases q : i = j
    · subst q
      rw [List.getElem?_set_self hs] at e2
      cases e2
      exact .inr f
    · rw [List.getElem?_set_ne q] at e1 e2
      exact s.mo b ⟨j, e, e1, e2⟩
  · rw [List.getElem?_set_ne (by omega)]
    exact s.pm j hj
/-- an object that no slot has is laid, or written -/
theorem SS.poke (s : SS K w np σ R ρ H σ1 R1 ρ1 H1) {p : Addr} {o : HO} (f : H p = none) (z : ∀ u, H1 p = some u → ¬ Fz u) (n1 : ¬ R1 p) (n2 : ¬ Own ρ1 σ1 p) : SS K w np σ R ρ H σ1 R1 ρ1 (upd H1 p o) := by
  have hT : ∀ b u, Fz u → H1 b = some u → (upd H1 p o) b = some u := fun b u q e => (upd_ne fun e' => z u (by rw [← e']; exact e) q).trans e
  have hK : ∀ b u, R1 b → H1 b = some u → (upd H1 p o) b = some u := fun b u q e => (upd_ne fun e' => n1 (by rw [← e']; exact q)).trans e
  have nw : ∀ b, H1 b ≠ none → (upd H1 p o) b ≠ none := fun b h => by
    by_cases e : b = p
    · rw [e, upd_same]; simp
    · rw [upd_ne e]; exact h
  refine ⟨s.up, ⟨s.mt.len, fun b h => nw b (s.mt.trk b h), fun i d h => ?_, fun i d h => ?_, s.mt.inj⟩, fun b u h n => ?_, s.bd, s.mo, fun b h => nw b (s.nw b h), s.pm⟩
  · obtain ⟨v, h1, h2⟩ := s.mt.ro i d h
    exact ⟨v, h1, Rep.keep (fun _ z => z) hT hK d v h2⟩
  · obtain ⟨a, h1, h2, h3⟩ := s.mt.own i d h
    exact ⟨a, h1, h2, Top.keep (fun _ z => z) hT hK (fun u e => (upd_ne fun e' => n2 ⟨i, d, h, by rw [← e']; exact h1⟩).trans e) h3⟩
  · exact (upd_ne (ne_of_none h f)).trans (s.fr b u h n)

/-! ### slots forgotten, restored -/
theorem unset_length {ρ : Rho} : ∀ {vs : List Nat}, (unset ρ vs).length = ρ.length
  | [] => rfl
  | v :: vs => by unfold unset; rw [List.length_set, unset_length (vs := vs)]
theorem unset_get {ρ : Rho} : ∀ {vs : List Nat} {i : Nat}, (unset ρ vs)[i]? = if i ∈ vs then (if i < ρ.length then some .un else none) else ρ[i]?
  | [], i => by rw [if_neg (by simp)]; rfl
  | v :: vs, i => by
    unfold unset
    by_cases e : v = i
    · subst e
      rw [if_pos List.mem_cons_self]
      by_cases h : v < ρ.length
      · rw [List.getElem?_set_self (by rw [unset_length]; exact h), if_pos h]
      · rw [List.getElem?_eq_none (by simp [unset_length]; omega), if_neg h]
    · rw [List.getElem?_set_ne e, unset_get (vs := vs)]
      simp only [List.mem_cons, show ¬ i = v from fun z => e z.symm, false_or]
theorem wipe_get {σ : St} : ∀ {vs : List Nat} {i : Nat}, (wipe σ vs)[i]? = if i ∈ vs then (if i < σ.length then some none else none) else σ[i]?
  | [], i => by rw [if_neg (by simp)]; rfl
  | v :: vs, i => by
    unfold wipe
    by_cases e : v = i
    · subst e
      rw [if_pos List.mem_cons_self]
      by_cases h : v < σ.length
      · rw [List.getElem?_set_self (by rw [wipe_length]; exact h), if_pos h]
      · rw [List.getElem?_eq_none (by simp [wipe_length]; omega), if_neg h]
    · rw [List.getElem?_set_ne e, wipe_get (vs := vs)]
      simp only [List.mem_cons, show ¬ i = v from fun z => e z.symm, false_or]
theorem wipe_eq {vs : List Nat} (hl : σ'.length = σ.length) (h : ∀ i, i ∉ vs → σ'[i]? = σ[i]?) : wipe σ' vs = wipe σ vs := by
  refine List.ext_getElem? fun i => ?_
  rw [wipe_get, wipe_get, hl]
  split
  · rfl
  · exact h i (by assumption)
theorem unset_own {vs : List Nat} {i : Nat} {s : Sl} (h : (unset ρ vs)[i]? = some s) (n : s ≠ .un) : i ∉ vs ∧ ρ[i]? = some s := by
  rw [unset_get] at h
  split at h
  · split at h
    · cases h; exact absurd rfl n
    · cases h
  · exact ⟨by assumption, h⟩
/-- names are forgotten -/
theorem SS.wipe (s : SS K w 0 σ R ρ H σ1 R1 ρ1 H1) (vs : List Nat) : SS K w 0 σ R ρ H (L2.wipe σ1 vs) R1 (unset ρ1 vs) H1 := by
  refine ⟨s.up, ⟨by rw [unset_length, wipe_length]; exact s.mt.len, s.mt.trk, fun j e hj => ?_, fun j e hj => ?_, fun j k e f b e1 e2 e3 e4 => ?_⟩, s.fr, s.bd, fun b hb => ?_, s.nw, fun j hj => absurd hj (Nat.not_lt_zero j)⟩
  · obtain ⟨q, hj⟩ := unset_own hj (fun z => by cases z)
    rw [wipe_out q]
    exact s.mt.ro j e hj
  · obtain ⟨q, hj⟩ := unset_own hj (fun z => by cases z)
    rw [wipe_out q]
    exact s.mt.own j e hj
  · obtain ⟨q1, e1⟩ := unset_own e1 (fun z => by cases z)
    obtain ⟨q2, e2⟩ := unset_own e2 (fun z => by cases z)
    rw [wipe_out q1] at e3
    rw [wipe_out q2] at e4
    exact s.mt.inj j k e f b e1 e2 e3 e4
  · obtain ⟨j, e, e1, e2⟩ := hb
    obtain ⟨q1, e1⟩ := unset_own e1 (fun z => by cases z)
    rw [wipe_out q1] at e2
    exact s.mo b ⟨j, e, e1, e2⟩
theorem restore_get {ρ0 : Rho} (hl : ρ.length = ρ0.length) : ∀ {vs : List Nat} {i : Nat}, (restore ρ ρ0 vs).length = ρ.length ∧ (restore ρ ρ0 vs)[i]? = if i ∈ vs then ρ0[i]? else ρ[i]?
  | [], i => ⟨rfl, by rw [if_neg (by simp)]; rfl⟩
  | v :: vs, i => by
    have ih := fun i => restore_get (ρ0 := ρ0) hl (vs := vs) (i := i)
    unfold restore
    refine ⟨by rw [List.length_set]; exact (ih 0).1, ?_⟩
    by_cases e : v = i
    · subst e
      rw [if_pos List.mem_cons_self]
      by_cases h : v < ρ.length
      · rw [List.getElem?_set_self (by rw [(ih 0).1]; exact h), List.getElem?_eq_getElem (by omega)]
        rfl
      · rw [List.getElem?_eq_none (by rw [List.length_set, (ih 0).1]; omega), List.getElem?_eq_none (by omega)]
    · rw [List.getElem?_set_ne e, (ih i).2]
      simp only [List.mem_cons, show ¬ i = v from fun z => e z.symm, false_or]
theorem unset_Own {vs : List Nat} {b : Addr} (h : Own (unset ρ vs) (L2.wipe σ vs) b) : ∃ (i : Nat) (d : D), i ∉ vs ∧ ρ[i]? = some (.own d) ∧ σ[i]? = some (some (.ref b)) := by
  obtain ⟨j, e, e1, e2⟩ := h
  obtain ⟨q1, e1⟩ := unset_own e1 (fun z => by cases z)
  rw [wipe_out q1] at e2
  exact ⟨j, e, q1, e1, e2⟩
/-- behind a block: its names are again what they were -/
theorem SS.back {vs : List Nat} (m : Mt K w R ρ σ H) (s : SS K w 0 (L2.wipe σ vs) R (unset ρ vs) H (L2.wipe σ vs) R1 ρ1 H1) (str : ∀ b, Own ρ1 (L2.wipe σ vs) b → Own ρ σ b ∨ H b = none) : Step K w σ R ρ H R1 (restore ρ1 ρ vs) H1 := by
  have hl : ρ1.length = ρ.length := by rw [s.mt.len, wipe_length, m.len]
  have rg := fun i => restore_get hl (vs := vs) (i := i)
  have fr : ∀ b o, H b = some o → ¬ Own ρ σ b → H1 b = some o := fun b o e n => s.fr b o e fun z => by
    obtain ⟨i, d, _, h1, h2⟩ := unset_Own z
    exact n ⟨i, d, h1, h2⟩
  have inn : ∀ {i : Nat} {d : D} {a : Addr}, i ∈ vs → ρ[i]? = some (.own d) → σ[i]? = some (some (.ref a)) → ¬ Own (unset ρ vs) (L2.wipe σ vs) a := fun {i d a} hi h1 h2 z => by
    obtain ⟨j, e, nj, h3, h4⟩ := unset_Own z
    exact nj (m.inj i j d e a h1 h3 h2 h4 ▸ hi)
  -- an object of a name of the block's
  have kp : ∀ {i : Nat} {d : D} {a : Addr}, i ∈ vs → ρ[i]? = some (.own d) → σ[i]? = some (some (.ref a)) → ¬ R1 a ∧ Top K w R1 H1 a d := fun {i d a} hi h1 h2 => by
    obtain ⟨a', h3, h4, h5⟩ := m.own i d h1
    rw [h2] at h3
    cases h3
    have n := inn hi h1 h2
    obtain ⟨o, ho, _⟩ := h5.there
    refine ⟨fun z => ?_, ?_⟩
    · rcases s.bd a z with z | z | z
      · exact h4 z
      · rw [ho] at z; cases z
      · exact n z
    · exact Top.keep s.up (m.keepT fr) (m.keepK fr) (fun u e => s.fr a u e n) h5
  refine ⟨s.up, ⟨by rw [(rg 0).1, hl]; exact m.len, s.mt.trk, fun j e hj => ?_, fun j e hj => ?_, fun j k e f b e1 e2 e3 e4 => ?_⟩, fr, fun b h => ?_, fun b hb => ?_, s.nw, fun _ _ => rfl⟩
  · rw [(rg j).2] at hj
    split at hj
    · obtain ⟨v, h1, h2⟩ := m.ro j e hj
      exact ⟨v, h1, Rep.keep s.up (m.keepT fr) (m.keepK fr) e v h2⟩
    · rename_i nj
      have := s.mt.ro j e hj
      rwa [wipe_out nj] at this
  · rw [(rg j).2] at hj
    split at hj
    · rename_i ij
      obtain ⟨a, h1, _⟩ := m.own j e hj
      exact ⟨a, h1, kp ij hj h1⟩
    · rename_i nj
      have := s.mt.own j e hj
      rwa [wipe_out nj] at this
  · have key : ∀ {j k : Nat} {e f : D}, j ∈ vs → k ∉ vs → ρ[j]? = some (.own e) → ρ1[k]? = some (.own f) → σ[j]? = some (some (.ref b)) → σ[k]? = some (some (.ref b)) → False := fun {j k e f} ij nk h1 h2 h3 h4 => by
      have hO : Own ρ1 (L2.wipe σ vs) b := ⟨k, f, h2, by rw [wipe_out nk]; exact h4⟩
      rcases s.mo b hO with z | z
      · exact inn ij h1 h3 z
      · obtain ⟨a', q1, _, q2⟩ := m.own j e h1
        rw [h3] at q1
        cases q1
        obtain ⟨o, ho, _⟩ := q2.there
        rw [ho] at z; cases z
    rw [(rg j).2] at e1
    rw [(rg k).2] at e2
    split at e1 <;> split at e2
    · exact m.inj j k e f b e1 e2 e3 e4
    · rename_i ij nk
      exact (key ij nk e1 e2 e3 e4).elim
    · rename_i nj ik
      exact (key ik nj e2 e1 e4 e3).elim
    · rename_i nj nk
      exact s.mt.inj j k e f b e1 e2 (by rw [wipe_out nj]; exact e3) (by rw [wipe_out nk]; exact e4)
  · rcases s.bd b h with h | h | h
    · exact .inl h
    · exact .inr (.inl h)
    · obtain ⟨i, d, _, h1, h2⟩ := unset_Own h
      exact .inr (.inr ⟨i, d, h1, h2⟩)
  · obtain ⟨j, e, e1, e2⟩ := hb
    rw [(rg j).2] at e1
    split at e1
    · exact .inl ⟨j, e, e1, e2⟩
    · rename_i nj
      exact str b ⟨j, e, e1, by rw [wipe_out nj]; exact e2⟩
end

/-! ### targets -/
def tG (K : PySem.W.Frag) (w : World) (np : Nat) (t : Tg) : TG := fun x σ H Q => ∃ R ρ d ρ', Mt K w R ρ σ H ∧ Rep K w R H d x ∧ bindT np ρ t d = some ρ' ∧
  ∀ σ', SS K w np σ R ρ H σ' R ρ' H → (∀ i, i ∉ t.slots → σ'[i]? = σ[i]?) → σ'.length = σ.length → (∀ b, Own ρ' σ' b → Own ρ σ b) → Q σ' H
def tGs (K : PySem.W.Frag) (w : World) (np : Nat) (is : List Nat) : TGs := fun xs σ H Q => ∃ R ρ ds ρ', Mt K w R ρ σ H ∧ Reps K w R H ds xs ∧ setAll np ρ is ds = some ρ' ∧
  ∀ σ', SS K w np σ R ρ H σ' R ρ' H → (∀ i, i ∉ is → σ'[i]? = σ[i]?) → σ'.length = σ.length → (∀ b, Own ρ' σ' b → Own ρ σ b) → Q σ' H
theorem PG.imp {X : Cx} {e : Expr} {t t' : TG} (h : PG X e t) (i : ∀ v σ H Q, t' v σ H Q → t v σ H Q) : PG X e t' := ⟨fun pins s σ H v u Q I r q => h.run pins s σ H v u Q I r (i v σ H Q q)⟩
theorem PGs.imp {X : Cx} {e : List Expr} {t t' : TGs} (h : PGs X e t) (i : ∀ v σ H Q, t' v σ H Q → t v σ H Q) : PGs X e t' := ⟨fun pins s σ H v u Q I r q => h.run pins s σ H v u Q I r (i v σ H Q q)⟩
section
variable {X : Cx} {C : Cfg} {np : Nat} {a b c e : Expr} {ma mb mc : E} {pos p : Pos} {x : Str} {i : Nat}
theorem ro_Own {ρ : Rho} {σ : St} {i : Nat} {d : D} {v : V} {b : Addr} (h : Own (ρ.set i (.ro d)) (σ.set i (some v)) b) : Own ρ σ b := by
  obtain ⟨j, e, e1, e2⟩ := h
  obtain ⟨q, e1⟩ := set_own e1
  rw [List.getElem?_set_ne q] at e2
  exact ⟨j, e, e1, e2⟩
theorem px_gnm (hN : X.N.Nodup) (hi : X.N[i]? = some x) (hx : Loc X.env.scope x) (hf : X.fn x = true ∨ X.env.scope.names.lookup x = some .local) : PG X (.Name x p) (tG X.K X.w np (.nm i)) := by
  refine PG.imp (pg_name hN hi hx hf) fun v σ H Q h => ?_
  obtain ⟨R, ρ, d, ρ', m, r, e, q⟩ := h
  unfold bindT at e
  split at e
  · rename_i i' hz q1
    cases q1
    split at e
    · rename_i hz
      cases e
      exact q _ ((SS.refl m).put_ro hz.2 hz.1 r) (fun j hj => List.getElem?_set_ne (fun z => hj (by simp [Tg.slots, z]))) (List.length_set ..) (fun b hb => ro_Own hb)
    · cases e
  · rename_i q1; cases q1
  · rename_i q1; cases q1
  · cases e
theorem px_gsnil : PGs X [] (tGs X.K X.w np []) := by
  refine PGs.imp pgs_nil fun v σ H Q h => ?_
  obtain ⟨R, ρ, ds, ρ', m, r, e, q⟩ := h
  cases ds with
  | cons d ds => cases e
  | nil =>
    cases v with
    | cons _ _ => exact r.elim
    | nil =>
      cases e
      exact ⟨rfl, q σ (SS.refl m) (fun _ _ => rfl) rfl (fun _ h => h)⟩
def isNameE : Expr → Bool
  | .Name .. => true
  | _ => false
theorem asgEach_cons {es : List Expr} {env : Env} (h : isNameE e = true) : (assignEach (e :: es) env).map (·.2) = assign e env :: (assignEach es env).map (·.2) := by
  cases e <;> first | rfl | cases h
theorem px_gscons {es : List Expr} {is : List Nat} (hN : X.N.Nodup) (hi : X.N[i]? = some x) (hx : Loc X.env.scope x) (hf : X.fn x = true ∨ X.env.scope.names.lookup x = some .local) (h : PGs X es (tGs X.K X.w np is)) :
    PGs X (.Name x p :: es) (tGs X.K X.w np (i :: is)) := by
  refine PGs.imp (pgs_cons (pg_name hN hi hx hf) h (asgEach_cons rfl)) fun v σ H Q h => ?_
  obtain ⟨R, ρ, ds, ρ', m, r, e, q⟩ := h
  cases ds with
  | nil => cases e
  | cons d ds =>
    cases v with
    | nil => exact r.elim
    | cons v vs =>
      unfold setAll at e
      split at e
      · rename_i hz
        have s := (SS.refl (np := np) m).put_ro hz.2 hz.1 r.1
        refine ⟨v, vs, rfl, R, _, ds, ρ', s.mt, r.2, e, fun σ' s2 o2 l2 w2 => ?_⟩
        refine q σ' (s.trans s2) (fun j hj => ?_) (l2.trans (List.length_set ..)) (fun b hb => ro_Own (w2 b hb))
        rw [o2 j fun z => hj (List.mem_cons_of_mem _ z)]
        exact List.getElem?_set_ne (fun z => hj (by simp [z]))
      · cases e
theorem asg_len {env : Env} : ∀ {es : List Expr}, es.all isNameE = true → (assignEach es env).length = es.length ∧ (assignEach es env).findIdx? (·.1) = none
  | [], _ => ⟨rfl, rfl⟩
  | e :: es, h => by
    rw [List.all_cons, Bool.and_eq_true] at h
    obtain ⟨h1, h2⟩ := asg_len (env := env) h.2
    have key : assignEach (e :: es) env = (false, assign e env) :: assignEach es env := by
      cases e <;> first | rfl | cases h.1
    rw [key]
    refine ⟨by rw [List.length_cons, List.length_cons, h1], ?_⟩
    rw [List.findIdx?_cons, h2]
    rfl
theorem setAll_len {np : Nat} : ∀ {is : List Nat} {ds : List D} {ρ ρ' : Rho}, setAll np ρ is ds = some ρ' → is.length = ds.length
  | [], [], _, _, _ => rfl
  | i :: is, d :: ds, ρ, ρ', e => by
    unfold setAll at e
    split at e
    · rw [List.length_cons, List.length_cons, setAll_len e]
    · cases e
  | [], _ :: _, _, _, e => by cases e
  | _ :: _, [], _, _, e => by cases e
theorem px_gtp {es : List Expr} {k : Nat} {is : List Nat} (hc : X.calm = true) (h : PGs X es (tGs X.K X.w np is)) (hn : es.all isNameE = true) (hl : es.length = is.length) : PG X (.Tuple es k p) (tG X.K X.w np (.tp is)) := by
  refine PG.imp (pg_tup hc h rfl (asg_len hn).2) fun v σ H Q h => ?_
  obtain ⟨R, ρ, d, ρ', m, r, e, q⟩ := h
  have key : ∃ a xs ds, v = .ref a ∧ SqT X.K H a xs ∧ Reps X.K X.w R H ds xs ∧ setAll np ρ is ds = some ρ' := by
    unfold bindT at e
    split at e
    · rename_i q1; cases q1
    · rename_i is' ds q1
      cases q1
      obtain ⟨a, xs, ea, h1, h2⟩ := r
      exact ⟨a, xs, ds, ea, h1.sq, h2, e⟩
    · rename_i is' ds q1
      cases q1
      obtain ⟨a, xs, ea, h1, h2⟩ := r
      exact ⟨a, xs, ds, ea, h1, h2, e⟩
    · cases e
  obtain ⟨a, xs, ds, ea, h1, h2, e⟩ := key
  exact ⟨a, xs, ea, h1, by rw [(asg_len hn).1, hl, ← h2.length, setAll_len e], R, ρ, ds, ρ', m, h2, e, q⟩
end
end PV

/-! PV, part M: what is walked; list comprehensions. -/
namespace PV
open PySem PySem.Spec PyProof.Rows L2

/-- at every heap from here on the walk J goes over xs -/
def ItOk (K : PySem.W.Frag) (w : World) (J : It) (R : Addr → Prop) (H : Hp) (xs : List D) : Prop :=
  ∀ (R' : Addr → Prop) (H' : Hp), (∀ b, R b → R' b) → (∀ a o, Fz o → H a = some o → H' a = some o) → (∀ a o, R a → H a = some o → H' a = some o) →
    (∀ i, i < xs.length → J.go i H') ∧ (∀ i, xs.length ≤ i → J.stop i H') ∧
      ∀ (i : Nat) (x : V) (H'' : Hp) (d : D), xs[i]? = some d → J.yld i H' x H'' → (H'' = H' ∨ ∃ p o, H' p = none ∧ H'' = upd H' p o) ∧ Rep K w R' H'' d x
def tI (K : PySem.W.Frag) (w : World) (C : Cfg) (it : E) : TI := fun σ H Rr => ∃ R ρ xs ρ', Mt K w R ρ σ H ∧ evi C it ρ = some (xs, ρ') ∧ ∀ J H' R', Step K w σ R ρ H R' ρ' H' → ItOk K w J R' H' xs → Rr J H'

section
variable {K : PySem.W.Frag} {w : World} {R : Addr → Prop} {H : Hp}
theorem itOk_rng {lo : Int} {n : Nat} {xs : List D} (e : xs = (List.range n).map fun (k : Nat) => D.int (lo + k)) : ItOk K w (Itr lo n) R H xs := by
  subst e
  intro R' H' hR hT hK
  refine ⟨fun i h => show i < n by simpa using h, fun i h => show n ≤ i by simpa using h, fun i x H'' d e y => ?_⟩
  obtain ⟨rfl, rfl⟩ := y
  refine ⟨.inl rfl, ?_⟩
  rw [List.getElem?_map] at e
  obtain ⟨k, e1, e2⟩ := Option.map_eq_some_iff.mp e
  obtain ⟨h1, h2⟩ := List.getElem?_eq_some_iff.mp e1
  rw [List.getElem_range] at h2
  subst h2
  subst e2
  exact rfl
/-- an object read alone that is walked: what kind it is -/
theorem sqL_keep {R' : Addr → Prop} {H' : Hp} {a : Addr} {xs : List V} (hT : ∀ a o, Fz o → H a = some o → H' a = some o) (hK : ∀ a o, R a → H a = some o → H' a = some o) (h : (R a ∧ H a = some (.lst xs)) ∨ SqF K H a xs) : SqL K H' a xs := by
  rcases h with ⟨r, h⟩ | h
  · exact SqL.of (hK a _ r h)
  · exact (sqF_keep hT h).sq
theorem itOk_lst {a : Addr} {xs : List D} {vs : List V} (h : (R a ∧ H a = some (.lst vs)) ∨ SqF K H a vs) (r : Reps K w R H xs vs) : ItOk K w (Itl K a) R H xs := by
  intro R' H' hR hT hK
  have hq := sqL_keep (R' := R') hT hK h
  have hl := r.length
  refine ⟨fun i z => ⟨vs, vs[i]'(by omega), hq, List.getElem?_eq_getElem _⟩, fun i z => ⟨vs, hq, by omega⟩, fun i x H'' d e y => ?_⟩
  obtain ⟨rfl, y⟩ := y
  obtain ⟨v, e1, e2⟩ := r.get e
  have := y vs hq
  rw [e1] at this
  cases this
  exact ⟨.inl rfl, Rep.keep hR hT hK d x e2⟩
theorem itOk_tup {a : Addr} {xs : List D} {vs : List V} (h : TupOk K H a vs) (r : Reps K w R H xs vs) : ItOk K w (Itt K a) R H xs := by
  intro R' H' hR hT hK
  have hq := (tupOk_keep hT h).sq
  have hl := r.length
  refine ⟨fun i z => ⟨vs, vs[i]'(by omega), hq, List.getElem?_eq_getElem _⟩, fun i z => ⟨vs, hq, by omega⟩, fun i x H'' d e y => ?_⟩
  obtain ⟨rfl, y⟩ := y
  obtain ⟨v, e1, e2⟩ := r.get e
  have := y vs hq
  rw [e1] at this
  cases this
  exact ⟨.inl rfl, Rep.keep hR hT hK d x e2⟩
theorem enumD_get : ∀ {xs : List D} {n i : Nat} {d : D}, (enumD n xs)[i]? = some d → ∃ e, xs[i]? = some e ∧ d = .rtp [.int ((n + i : Nat) : Int), e]
  | [], _, _, _, e => by simp [enumD] at e
  | x :: xs, n, 0, d, e => by
    have e : some (D.rtp [.int n, x]) = some d := e
    cases e
    exact ⟨x, rfl, rfl⟩
  | x :: xs, n, i + 1, d, e => by
    obtain ⟨y, h1, h2⟩ := enumD_get (xs := xs) (n := n + 1) (i := i) e
    exact ⟨y, h1, by rw [h2]; congr 4; omega⟩
theorem enumD_len : ∀ {xs : List D} {n : Nat}, (enumD n xs).length = xs.length
  | [], _ => rfl
  | x :: xs, n => by show (enumD (n + 1) xs).length + 1 = _; rw [enumD_len]; rfl
theorem zipD_get : ∀ {xs ys : List D} {i : Nat} {d : D}, (zipD xs ys)[i]? = some d → ∃ e f, xs[i]? = some e ∧ ys[i]? = some f ∧ d = .rtp [e, f]
  | [], _, _, _, e => by simp [zipD] at e
  | _ :: _, [], _, _, e => by simp [zipD] at e
  | x :: xs, y :: ys, 0, d, e => by
    have e : some (D.rtp [x, y]) = some d := e
    cases e
    exact ⟨x, y, rfl, rfl, rfl⟩
  | x :: xs, y :: ys, i + 1, d, e => by
    obtain ⟨z, u, h1, h2, h3⟩ := zipD_get (xs := xs) (ys := ys) (i := i) e
    exact ⟨z, u, h1, h2, h3⟩
theorem zipD_len : ∀ {xs ys : List D}, (zipD xs ys).length = min xs.length ys.length
  | [], ys => by simp [zipD]
  | _ :: _, [] => by simp [zipD]
  | x :: xs, y :: ys => by show (zipD xs ys).length + 1 = _; rw [zipD_len]; simp only [List.length_cons]; omega
/-- a pair that is laid -/
theorem pair_rep {R' : Addr → Prop} {H' : Hp} {T : Addr} {x y : V} {d e : D} (n : H' T = none) (h1 : Rep K w R' H' d x) (h2 : Rep K w R' H' e y) : Rep K w R' (upd H' T (.tup [x, y])) (.rtp [d, e]) (.ref T) := by
  have kp : ∀ {a : Addr} {o : HO}, H' a = some o → (upd H' T (.tup [x, y])) a = some o := fun {a o} q => (upd_ne (ne_of_none q n)).trans q
  exact ⟨T, [x, y], rfl, .inl (.inl upd_same), Rep.keep (fun _ z => z) (fun _ _ _ q => kp q) (fun _ _ _ q => kp q) d x h1, Rep.keep (fun _ z => z) (fun _ _ _ q => kp q) (fun _ _ _ q => kp q) e y h2, trivial⟩
theorem itOk_enl {a : Addr} {xs : List D} {vs : List V} (h : (R a ∧ H a = some (.lst vs)) ∨ SqF K H a vs) (r : Reps K w R H xs vs) : ItOk K w (Ite K a) R H (enumD 0 xs) := by
  intro R' H' hR hT hK
  have hq := sqL_keep (R' := R') hT hK h
  have hl := r.length
  have hl2 : (enumD 0 xs).length = xs.length := enumD_len
  refine ⟨fun i z => ⟨vs, vs[i]'(by omega), hq, List.getElem?_eq_getElem _⟩, fun i z => ⟨vs, hq, by omega⟩, fun i x H'' d e y => ?_⟩
  obtain ⟨T, u, rfl, n, rfl, y⟩ := y
  obtain ⟨d2, e2, rfl⟩ := enumD_get e
  obtain ⟨v, e1, e3⟩ := r.get e2
  have := y vs hq
  rw [e1] at this
  cases this
  refine ⟨.inr ⟨T, _, n, rfl⟩, ?_⟩
  rw [Nat.zero_add]
  exact pair_rep n rfl (Rep.keep hR hT hK d2 u e3)
theorem itOk_ent {a : Addr} {xs : List D} {vs : List V} (h : TupOk K H a vs) (r : Reps K w R H xs vs) : ItOk K w (PVE.IteT K a) R H (enumD 0 xs) := by
  intro R' H' hR hT hK
  have hq := (tupOk_keep hT h).sq
  have hl := r.length
  have hl2 : (enumD 0 xs).length = xs.length := enumD_len
  refine ⟨fun i z => ⟨vs, vs[i]'(by omega), hq, List.getElem?_eq_getElem _⟩, fun i z => ⟨vs, hq, by omega⟩, fun i x H'' d e y => ?_⟩
  obtain ⟨T, u, rfl, n, rfl, y⟩ := y
  obtain ⟨d2, e2, rfl⟩ := enumD_get e
  obtain ⟨v, e1, e3⟩ := r.get e2
  have := y vs hq
  rw [e1] at this
  cases this
  refine ⟨.inr ⟨T, _, n, rfl⟩, ?_⟩
  rw [Nat.zero_add]
  exact pair_rep n rfl (Rep.keep hR hT hK d2 u e3)
theorem itOk_zl {a b : Addr} {xs ys : List D} {vs us : List V} (h : (R a ∧ H a = some (.lst vs)) ∨ SqF K H a vs) (h' : (R b ∧ H b = some (.lst us)) ∨ SqF K H b us) (r : Reps K w R H xs vs) (r' : Reps K w R H ys us) : ItOk K w (Itz K a b) R H (zipD xs ys) := by
  intro R' H' hR hT hK
  have hq := sqL_keep (R' := R') hT hK h
  have hq' := sqL_keep (R' := R') hT hK h'
  have hl := r.length
  have hl' := r'.length
  have hl2 : (zipD xs ys).length = min xs.length ys.length := zipD_len
  refine ⟨fun i z => ⟨vs, us, vs[i]'(by omega), us[i]'(by omega), hq, hq', List.getElem?_eq_getElem _, List.getElem?_eq_getElem _⟩, fun i z => ⟨vs, us, hq, hq', by omega⟩, fun i x H'' d e y => ?_⟩
  obtain ⟨T, u, u', rfl, n, rfl, y, y'⟩ := y
  obtain ⟨d2, d3, e2, e3, rfl⟩ := zipD_get e
  obtain ⟨v, q1, q2⟩ := r.get e2
  obtain ⟨v', q3, q4⟩ := r'.get e3
  have z := y vs hq
  rw [q1] at z
  cases z
  have z := y' us hq'
  rw [q3] at z
  cases z
  exact ⟨.inr ⟨T, _, n, rfl⟩, pair_rep n (Rep.keep hR hT hK d2 u q2) (Rep.keep hR hT hK d3 u' q4)⟩
theorem itOk_zt {a b : Addr} {xs ys : List D} {vs us : List V} (h : TupOk K H a vs) (h' : TupOk K H b us) (r : Reps K w R H xs vs) (r' : Reps K w R H ys us) : ItOk K w (RZ.ItzT K a b) R H (zipD xs ys) := by
  intro R' H' hR hT hK
  have hq := (tupOk_keep hT h).sq
  have hq' := (tupOk_keep hT h').sq
  have hl := r.length
  have hl' := r'.length
  have hl2 : (zipD xs ys).length = min xs.length ys.length := zipD_len
  refine ⟨fun i z => ⟨vs, us, vs[i]'(by omega), us[i]'(by omega), hq, hq', List.getElem?_eq_getElem _, List.getElem?_eq_getElem _⟩, fun i z => ⟨vs, us, hq, hq', by omega⟩, fun i x H'' d e y => ?_⟩
  obtain ⟨T, u, u', rfl, n, rfl, y, y'⟩ := y
  obtain ⟨d2, d3, e2, e3, rfl⟩ := zipD_get e
  obtain ⟨v, q1, q2⟩ := r.get e2
  obtain ⟨v', q3, q4⟩ := r'.get e3
  have z := y vs hq
  rw [q1] at z
  cases z
  have z := y' us hq'
  rw [q3] at z
  cases z
  exact ⟨.inr ⟨T, _, n, rfl⟩, pair_rep n (Rep.keep hR hT hK d2 u q2) (Rep.keep hR hT hK d3 u' q4)⟩
/-- a value that is walked as a list -/
theorem rep_lstF {d : D} {v : V} {xs : List D} (h : Rep K w R H d v) (e : items d = some xs) (n : ∀ ys, d ≠ .tup ys) : ∃ a vs, v = .ref a ∧ ((R a ∧ H a = some (.lst vs)) ∨ SqF K H a vs) ∧ Reps K w R H xs vs := by
  unfold items at e
  split at e
  · exact absurd rfl (n _)
  · cases e
    obtain ⟨a, vs, rfl, r, h1, h2⟩ := h
    exact ⟨a, vs, rfl, .inl ⟨r, h1⟩, h2⟩
  · rename_i ns
    cases e
    obtain ⟨a, rfl, h1⟩ := h
    exact ⟨a, _, rfl, .inr h1, reps_ints ns⟩
  · cases e
theorem sqL_of {a : Addr} {vs : List V} (h : (R a ∧ H a = some (.lst vs)) ∨ SqF K H a vs) : SqL K H a vs := h.elim (fun h => SqL.of h.2) (·.sq)
theorem zipItems_cases {d e : D} {xs : List D} (h : zipItems d e = some xs) : (∃ ys zs, d = .tup ys ∧ e = .tup zs ∧ xs = zipD ys zs) ∨ ((∀ ys, d ≠ .tup ys) ∧ (∀ ys, e ≠ .tup ys) ∧ ∃ ys zs, items d = some ys ∧ items e = some zs ∧ xs = zipD ys zs) := by
  unfold zipItems at h
  split at h
  · cases h; exact .inl ⟨_, _, rfl, rfl, rfl⟩
  · cases h; exact .inr ⟨(fun _ z => by cases z), (fun _ z => by cases z), _, _, rfl, rfl, rfl⟩
  · cases h; exact .inr ⟨(fun _ z => by cases z), (fun _ z => by cases z), _, _, rfl, rfl, rfl⟩
  · cases h; exact .inr ⟨(fun _ z => by cases z), (fun _ z => by cases z), _, _, rfl, rfl, rfl⟩
  · cases h
end

section
variable {X : Cx} {C : Cfg} {a b c e tg : Expr} {ma mb mc : E} {pos p : Pos}
theorem rng_end {es : List E} {σ : St} {H : Hp} {Rr : It → Hp → Prop} (h : tI X.K X.w C (.rng es) σ H Rr) :
    tA X.K X.w C es σ H fun vs H1 => ∃ R1 ds xs, RepTs X.K X.w R1 H1 ds vs ∧ rngD ds = some xs ∧ ∀ J, ItOk X.K X.w J R1 H1 xs → Rr J H1 := by
  obtain ⟨R, ρ, xs, ρ', m, e, q⟩ := h
  obtain ⟨⟨rs, ρ1⟩, e1, e⟩ := Option.bind_eq_some_iff.mp (show (evs C es ρ).bind _ = some (xs, ρ') from e)
  obtain ⟨ds, e2, e⟩ := Option.bind_eq_some_iff.mp e
  obtain ⟨xs', e3, e⟩ := Option.map_eq_some_iff.mp e
  cases e
  exact ⟨R, ρ, rs, ρ', m, e1, fun vs H1 R1 s1 rr1 f1 => ⟨R1, ds, xs, looks_rep s1.mt rr1 e2, e3, fun J it => q J H1 R1 s1 it⟩⟩
theorem px_rng1 (hg : Gl X "range") (hm : X.mg "range" = none) (ha : PE X a (tD X.K X.w C ma)) (hs : isStar a = false) : PI X tg (.Call (.Name "range" p) [a] [] pos) (tI X.K X.w C (.rng [ma])) := by
  refine PI.imp (pi_range1 hg hm (pa_cons ha pa_nil (star_cons hs)) (star_cons hs)) fun σ H Rr h => tD_mono (one_tA (rng_end h)) fun v H1 h => ?_
  obtain ⟨R1, ds, xs, hd, e, q⟩ := h
  match ds, hd with
  | [d], hd =>
    obtain ⟨j, rfl, h0, h1, e2⟩ := rngD_one hd.1 e
    exact ⟨j, rfl, h0, h1, q _ (itOk_rng (by rw [e2]; simp only [Int.zero_add]))⟩
theorem px_rng2 (hg : Gl X "range") (hm : X.mg "range" = none) (ha : PE X a (tD X.K X.w C ma)) (hs : isStar a = false) (hb : PE X b (tD X.K X.w C mb)) (hs2 : isStar b = false) : PI X tg (.Call (.Name "range" p) [a, b] [] pos) (tI X.K X.w C (.rng [ma, mb])) := by
  refine PI.imp (pi_range2 hg hm (pa_cons ha (pa_cons hb pa_nil (star_cons hs2)) (star_cons hs)) (by rw [star_cons hs, star_cons hs2]; rfl) (star_cons hs2)) fun σ H Rr h => tD_mono (two_tA (rng_end h)) fun v H1 h => tD_mono h fun u H2 h => ?_
  obtain ⟨R1, ds, xs, hd, e, q⟩ := h
  match ds, hd with
  | [d, d2], hd =>
    obtain ⟨i, j, rfl, rfl, h0, h1, e2⟩ := rngD_two hd.1 hd.2.1 e
    exact ⟨i, j, rfl, ⟨h0.1, h0.2, h1.1, h1.2⟩, q _ (itOk_rng e2)⟩
theorem px_enm {elts : List Expr} {kk : Nat} {tpos : Pos} (hg : Gl X "enumerate") (hm : X.mg "enumerate" = none) (ha : PE X a (tD X.K X.w C ma)) (hs : isStar a = false) :
    PI X (.Tuple elts kk tpos) (.Call (.Name "enumerate" p) [a] [] pos) (tI X.K X.w C (.enm ma)) := by
  refine ⟨fun pins s σ H Rr I h => ?_⟩
  obtain ⟨R, ρ, xs, ρ', m, e, q⟩ := h
  obtain ⟨⟨r, ρ1⟩, e1, e⟩ := Option.bind_eq_some_iff.mp (show (ev C ma ρ).bind _ = some (xs, ρ') from e)
  obtain ⟨⟨d, ρ2⟩, e2, e⟩ := Option.bind_eq_some_iff.mp e
  obtain ⟨ys, e3, e⟩ := Option.map_eq_some_iff.mp e
  cases e
  by_cases hd : ∃ ys, d = .tup ys
  · obtain ⟨zs, rfl⟩ := hd
    cases e3
    refine Call_ (ld_blt I hg hm boot_enumerate (PyProof.Rows.callWith_type1 (thn ((pa_cons ha pa_nil (star_cons hs)).run pos pins s σ H (fun vs H1 => ∃ a us, vs = [.ref a] ∧ TupOk X.K H1 a us ∧ Rr (PVE.IteT X.K a) H1) I ?_) fun us s1 ⟨vs, H1, I1, r1, q1⟩ => ?_) (star_cons hs) rfl))
    · refine ⟨R, ρ, r, ρ1, m, e1, fun v H1 R1 s1 rr1 f1 => ?_⟩
      obtain ⟨R2, up, s2, rp⟩ := fix_step s1 rr1 f1 e2
      obtain ⟨p, vs, rfl, h1, h2⟩ := rp
      exact ⟨p, vs, rfl, h1, q _ H1 R2 s2 (itOk_ent h1 h2)⟩
    · obtain ⟨a, xs, ex, hq, q⟩ := q1
      subst ex
      cases r1 with
      | cons r rr =>
        cases rr
        cases r
        obtain ⟨its, rv, p', hz⟩ := I1.tuple hq.sq
        refine PVE.call_enum (begins_tuple a its.toArray) p' fun h' he hit hk => wpAny_pyIter_enum he ?_
        have I2 : Inv X pins σ H1 { s1 with heap := h' } := I1.kept (t' := s1.toks) hk
        refine ⟨s1.heap.objs.size + 1, [s1.heap.objs.size + 1, s1.heap.objs.size], _, _, H1, rfl, I2, PVE.turn_enumT a (s1.heap.objs.size + 1) s1.heap.objs.size, ⟨⟨.none, he⟩, ⟨_, hit, rfl, rfl⟩, Nat.succ_ne_self _⟩, fun b hb => ?_, q⟩
        have hle : s1.heap.objs.size ≤ b := by
          rcases List.mem_cons.mp hb with z | z
          · rw [z]; exact Nat.le_add_right _ _
          · rw [List.mem_singleton.mp z]; exact Nat.le_refl _
        exact I1.fpOk hle (I1.hok.fresh hle)
  · refine (pi_enum hg hm (pa_cons ha pa_nil (star_cons hs)) (star_cons hs)).run pins s σ H Rr I ⟨R, ρ, r, ρ1, m, e1, fun v H1 R1 s1 rr1 f1 => ?_⟩
    obtain ⟨R2, up, s2, rp⟩ := fix_step s1 rr1 f1 e2
    obtain ⟨p, vs, rfl, h1, h2⟩ := rep_lstF rp e3 fun ys z => hd ⟨ys, z⟩
    exact ⟨p, vs, rfl, sqL_of h1, q _ H1 R2 s2 (itOk_enl h1 h2)⟩
theorem px_zip {elts : List Expr} {kk : Nat} {tpos : Pos} (hg : Gl X "zip") (hm : X.mg "zip" = none) (ha : PE X a (tD X.K X.w C ma)) (hs : isStar a = false) (hb : PE X b (tD X.K X.w C mb)) (hs2 : isStar b = false) :
    PI X (.Tuple elts kk tpos) (.Call (.Name "zip" p) [a, b] [] pos) (tI X.K X.w C (.zip ma mb)) := by
  refine PI.imp (RZ.pi_zipA hg hm (pa_cons ha (pa_cons hb pa_nil (star_cons hs2)) (star_cons hs)) (star_cons hs) (star_plain (by simp [hs2]))) fun σ H Rr h => ?_
  obtain ⟨R, ρ, xs, ρ', m, e, q⟩ := h
  obtain ⟨⟨r, ρ1⟩, e1, e⟩ := Option.bind_eq_some_iff.mp (show (ev C ma ρ).bind _ = some (xs, ρ') from e)
  obtain ⟨⟨d, ρ2⟩, e2, e⟩ := Option.bind_eq_some_iff.mp e
  obtain ⟨⟨r2, ρ3⟩, e3, e⟩ := Option.bind_eq_some_iff.mp e
  obtain ⟨⟨d2, ρ4⟩, e4, e⟩ := Option.bind_eq_some_iff.mp e
  obtain ⟨ys, e5, e⟩ := Option.map_eq_some_iff.mp e
  cases e
  refine ⟨R, ρ, r, ρ1, m, e1, fun v H1 R1 s1 rr1 f1 => ?_⟩
  obtain ⟨R2, up, s2, rp⟩ := fix_step s1 rr1 f1 e2
  refine ⟨R2, ρ2, r2, ρ3, s2.mt, e3, fun v2 H3 R3 s3 rr3 f3 => ?_⟩
  obtain ⟨R4, up4, s4, rp4⟩ := fix_step s3 rr3 f3 e4
  have rp2 := s4.rep s2.mt rp
  rcases zipItems_cases e5 with ⟨ys, zs, rfl, rfl, rfl⟩ | ⟨n1, n2, ys, zs, i1, i2, rfl⟩
  · obtain ⟨p, vs, rfl, h1, h2⟩ := rp2
    obtain ⟨p', us, rfl, h1', h2'⟩ := rp4
    exact ⟨p, p', vs, us, rfl, .inr ⟨h1.sq, h1'.sq, q _ H3 R4 (s2.trans s4) (itOk_zt h1 h1' h2 h2')⟩⟩
  · obtain ⟨p, vs, rfl, h1, h2⟩ := rep_lstF rp2 i1 n1
    obtain ⟨p', us, rfl, h1', h2'⟩ := rep_lstF rp4 i2 n2
    exact ⟨p, p', vs, us, rfl, .inl ⟨sqL_of h1, sqL_of h1', q _ H3 R4 (s2.trans s4) (itOk_zl h1 h1' h2 h2')⟩⟩
end
end PV

/-! PV, part Ma: dicts that are walked: locked from then on. -/
namespace PV
open PySem PySem.Spec PyProof.Rows L2
section
variable {K : PySem.W.Frag} {w : World} {np : Nat} {R R1 R2 : Addr → Prop} {ρ ρ1 ρ2 : Rho} {σ σ1 : L2.St} {H H1 H2 : Hp} {v : V} {r : Rs} {d : D} {ks vs : List D}
theorem dct_nfz {a : Addr} {u : HO} {xs : List V} (h : DctC K w H a ks xs u) : ¬ Fz u := by
  rintro (⟨ys, e⟩ | ⟨ob, u2, e⟩)
  · exact h.plain.1 _ e
  · exact h.plain.2 _ _ e
/-- an own slot's dict is locked -/
theorem Mt.lock {i : Nat} {a : Addr} {xs : List V} {u : HO} (m : Mt K w R ρ σ H) (h : ρ[i]? = some (.own (.dct ks vs))) (ha : σ[i]? = some (some (V.ref a))) (e : H a = some u) (rp : Reps K w R H vs xs) (dc : DctC K w H a ks xs u) (o : Obj) :
    Mt K w (fun b => R b ∨ b = a) (ρ.set i (.ro (.dcf ks vs))) σ (upd H a (.frz o u)) := by
  obtain ⟨a', h1, h2, h3⟩ := m.own i _ h
  rw [ha] at h1
  cases h1
  have hi : i < ρ.length := (List.getElem?_eq_some_iff.mp h).1
  have nf := dct_nfz dc
  have hT : ∀ b q, Fz q → H b = some q → (upd H a (.frz o u)) b = some q := fun b q z e' => (upd_ne fun e'' => by subst e''; rw [e] at e'; cases e'; exact nf z).trans e'
  have hK : ∀ b q, R b → H b = some q → (upd H a (.frz o u)) b = some q := fun b q z e' => (upd_ne fun e'' => h2 (by rw [← e'']; exact z)).trans e'
  have nw : ∀ b, H b ≠ none → (upd H a (.frz o u)) b ≠ none := fun b h => by
    by_cases q : b = a
    · rw [q, upd_same]; simp
    · rw [upd_ne q]; exact h
  refine ⟨by simpa using m.len, fun b hb => hb.elim (fun z => nw b (m.trk b z)) fun q => by rw [q, upd_same]; simp, fun j f hj => ?_, fun j f hj => ?_, fun j k f g b h1 h2' h3' h4 => ?_⟩
  · by_cases q : i = j
    · subst q
      rw [List.getElem?_set_self hi] at hj
      cases hj
      exact ⟨_, ha, a, xs, u, o, rfl, .inr rfl, Reps.keep (fun _ z => .inl z) hT hK _ _ rp, upd_same, dc.keep hT⟩
    · rw [List.getElem?_set_ne q] at hj
      obtain ⟨v, e1, e2⟩ := m.ro j f hj
      exact ⟨v, e1, Rep.keep (fun _ z => .inl z) hT hK f v e2⟩
  · by_cases q : i = j
    · subst q
      rw [List.getElem?_set_self hi] at hj
      cases hj
    · rw [List.getElem?_set_ne q] at hj
      obtain ⟨b, e1, e2, e3⟩ := m.own j f hj
      have hne : b ≠ a := fun z => q (m.inj i j _ f a h hj ha (z ▸ e1))
      exact ⟨b, e1, fun z => z.elim e2 hne, Top.keep (fun _ z => .inl z) hT hK (fun u' e' => (upd_ne hne).trans e') e3⟩
  · have f1 : ∀ {j : Nat} {f : D}, (ρ.set i (.ro (.dcf ks vs)))[j]? = some (.own f) → ρ[j]? = some (.own f) := fun {j f} hj => by
      by_cases q : i = j
      · subst q
        rw [List.getElem?_set_self hi] at hj
        cases hj
      · rwa [List.getElem?_set_ne q] at hj
    exact m.inj j k f g b (f1 h1) (f1 h2') h3' h4
/-- whether a result is a dict of one's own -/
def ownD (ρ : Rho) : Rs → Option (List D × List D)
  | .fr (.dct ks vs) => some (ks, vs)
  | .al i => match ρ[i]? with
    | some (.own (.dct ks vs)) => some (ks, vs)
    | _ => none
  | _ => none
theorem SS.lock (s : SS K w np σ R ρ H σ1 R1 ρ1 H1) (rr : RR K w R1 ρ1 σ1 H1 v r) (fn : FrN H v r) (e : ownD ρ1 r = some (ks, vs)) (e2 : fixW ρ1 r = some (d, ρ2)) :
    d = .dcf ks vs ∧ ∃ a xs u, v = .ref a ∧ H1 a = some u ∧ DctC K w H1 a ks xs u ∧ ∀ o, ∃ R2, SS K w np σ R ρ H σ1 R2 ρ2 (upd H1 a (.frz o u)) ∧ Rep K w R2 (upd H1 a (.frz o u)) (.dcf ks vs) v := by
  cases r with
  | val d' => cases e
  | fr d' =>
    cases d' with
    | dct ks' vs' =>
      cases e
      cases e2
      obtain ⟨a, ea, n1, n2, xs, u, rp, eu, dc⟩ := rr
      have nf := dct_nfz dc
      refine ⟨rfl, a, xs, u, ea, eu, dc, fun o => ?_⟩
      have s1 := s.poke (p := a) (o := .frz o u) (fn a ea) (fun u' e' z => by rw [eu] at e'; cases e'; exact nf z) n1 n2
      have hT : ∀ b q, Fz q → H1 b = some q → (upd H1 a (.frz o u)) b = some q := fun b q z e' => (upd_ne fun e'' => by subst e''; rw [eu] at e'; cases e'; exact nf z).trans e'
      have hK : ∀ b q, R1 b → H1 b = some q → (upd H1 a (.frz o u)) b = some q := fun b q z e' => (upd_ne fun e'' => n1 (by rw [← e'']; exact z)).trans e'
      refine ⟨fun b => R1 b ∨ b = a, ⟨fun b h => .inl (s1.up b h), s1.mt.grow n2 (by rw [upd_same]; simp), s1.fr, fun b h => ?_, s1.mo, s1.nw, s1.pm⟩, ?_⟩
      · rcases h with h | h
        · exact s1.bd b h
        · exact .inr (.inl (h ▸ fn a ea))
      · exact ⟨a, xs, u, o, ea, .inr rfl, Reps.keep (fun _ z => .inl z) hT hK _ _ rp, upd_same, dc.keep hT⟩
    | _ => cases e
  | al i =>
    have rr : σ1[i]? = some (some v) := rr
    unfold ownD at e
    unfold fixW at e2
    dsimp only at e e2
    split at e
    · rename_i ks' vs' q
      cases e
      rw [q] at e2
      dsimp only at e2
      cases e2
      obtain ⟨a, h1, h2, xs, u, rp, eu, dc⟩ := s.mt.own i _ q
      rw [rr] at h1
      cases h1
      have hO : Own ρ1 σ1 a := ⟨i, _, q, rr⟩
      refine ⟨rfl, a, xs, u, rfl, eu, dc, fun o => ?_⟩
      have m2 := s.mt.lock q rr eu rp dc o
      have nO : ∀ b q', H b = some q' → ¬ Own ρ σ b → b ≠ a := fun b q' h n z => by
        subst z
        rcases s.mo b hO with z | z
        · exact n z
        · rw [h] at z; cases z
      refine ⟨fun b => R1 b ∨ b = a, ⟨fun b h => .inl (s.up b h), m2, fun b q' h n => (upd_ne (nO b q' h n)).trans (s.fr b q' h n), fun b h => ?_, fun b h => s.mo b (own_set (fun _ z => by cases z) h).1, fun b h => ?_, s.pm⟩, ?_⟩
      · rcases h with h | h
        · exact s.bd b h
        · rcases s.mo a hO with q | q
          · exact .inr (.inr (h ▸ q))
          · exact .inr (.inl (h ▸ q))
      · by_cases q : b = a
        · rw [q, upd_same]; simp
        · rw [upd_ne q]; exact s.nw b h
      · obtain ⟨v', h1, h2⟩ := m2.ro i (.dcf ks vs) (List.getElem?_set_self (List.getElem?_eq_some_iff.mp q).1)
        rw [rr] at h1
        cases h1
        exact h2
    · cases e
theorem fixW_other (e : ownD ρ1 r = none) : fixW ρ1 r = fix ρ1 r := by
  cases r with
  | val d => rfl
  | fr d => cases d <;> first | rfl | cases e
  | al i =>
    unfold ownD at e
    unfold fixW PV.fix
    dsimp only at e ⊢
    cases q : ρ1[i]? with
    | none => rfl
    | some z =>
      rw [q] at e
      cases z with
      | un => rfl
      | ro d => rfl
      | own d => cases d <;> first | rfl | cases e
end
/-! ### the walk -/
/-- the keys of the locked dict at d, tuples -/
def ItD (w : World) (d : Addr) (o : Obj) (kas : List (List Key × Addr)) (xs : List V) : It :=
  ⟨fun i H => H d = some (.frz o (DTO w d kas xs)) ∧ i < kas.length, fun i H x H' => H' = H ∧ ∃ p, kas[i]? = some p ∧ x = .ref p.2, fun i H => H d = some (.frz o (DTO w d kas xs)) ∧ kas.length ≤ i⟩
theorem lockedD {X : Cx} {pins : List (Addr × Obj)} {σ : L2.St} {H : Hp} {s : Shared} {d : Addr} {o : Obj} {kas : List (List Key × Addr)} {xs : List V} (I : Inv X pins σ H s) (h : H d = some (.frz o (DTO X.w d kas xs))) :
    (d == sysModules) = false ∧ s.heap.get? d = some o ∧ o.ExactDict ∧ ∃ (es : Array DictEntry) (ep : Nat), o.data = .dict es ep ∧ es.size = kas.length ∧ ∀ (i : Nat) (p : List Key × Addr), kas[i]? = some p → ∃ en : DictEntry, es[i]? = some en ∧ en.key = .ref p.2 := by
  obtain ⟨hd, ⟨z, hs, nd, us, o', es, ep, rv, hl, ho, hx, hdt, he⟩, _, _⟩ := (show ObjOk X.prog X.w H s.heap d (.frz o (DTO X.w d kas xs)) from I.hok d _ h)
  rw [hd] at ho
  cases ho
  have hsz : es.size = kas.length := by
    have := congrArg List.length he
    rw [Array.length_toList, List.length_map, List.length_zip] at this
    omega
  refine ⟨hs, hd, hx, es, ep, hdt, hsz, fun i p e => ?_⟩
  have hi : i < kas.length := (List.getElem?_eq_some_iff.mp e).1
  have h1 : (kas.zip us)[i]? = some (p, us[i]'(by omega)) := by
    rw [List.getElem?_eq_getElem (by rw [List.length_zip]; omega), List.getElem_zip]
    rw [List.getElem?_eq_getElem hi] at e
    cases e
    rfl
  have h2 : es.toList[i]? = some ⟨tH X.w p.1, .ref p.2, us[i]'(by omega)⟩ := by
    rw [he, List.getElem?_map, h1]; rfl
  exact ⟨_, by rw [← Array.getElem?_toList]; exact h2, rfl⟩
theorem turn_D {P : Program} {w : World} {K : PySem.W.Frag} {tg : Expr} {d : Addr} {o : Obj} {es : Array DictEntry} {ep : Nat} {kas : List (List Key × Addr)} {xs : List V} (it : Addr) (hod : o.data = .dict es ep) :
    Turn P w K tg (ItD w d o kas xs) [it] it (fun i h => h.IsKeyIter it d i kas.length ep) where
  mem := by simp
  obj := fun i h st b hb => by
    have e : b = it := by simpa using hb
    subst e
    obtain ⟨oi, e, c, dd⟩ := st
    exact ⟨oi, e, fun v z => by rw [dd] at z; cases z⟩
  keep := fun i h h' st k => st.at fun oi e => k it (by simp) oi e
  item := by
    intro X hP hw hK hc i pins s σ H E I hf st hg
    subst hP hw hK
    obtain ⟨hd, hi⟩ := hg
    obtain ⟨f0, f1, f2, f3, f4, f5⟩ := hf it (by simp)
    obtain ⟨hs, hgd, hx, es', ep', hdt, hsz, ent⟩ := lockedD I hd
    obtain ⟨rfl, rfl⟩ := dict_ep hod hdt
    obtain ⟨p, hp⟩ : ∃ p, kas[i]? = some p := ⟨kas[i], List.getElem?_eq_getElem hi⟩
    obtain ⟨en, hen, hkey⟩ := ent i p hp
    refine next_key_item st hgd hdt hsz hen fun h' st' sb => ?_
    have I1 : Inv X pins σ H { s with heap := h' } := I.turned (t' := s.toks) (fun b ob hb e => (sb.2 b hb).trans e) f0 f1 f3 f4 f5
    obtain ⟨oi, e, c, dd⟩ := id st'
    exact ⟨en.key, rfl, go_of (s := { s with heap := h' }) e c dd (by decide) ⟨.ref p.2, H, I1, hkey, ⟨rfl, p, hp, rfl⟩, st', fun b hb => (hf b hb).1⟩⟩
  done := by
    intro X hP hw hK hc i pins s σ H E I hf st hg
    subst hP hw hK
    obtain ⟨hd, hi⟩ := hg
    obtain ⟨f0, f1, f2, f3, f4, f5⟩ := hf it (by simp)
    obtain ⟨hs, hgd, hx, es', ep', hdt, hsz, ent⟩ := lockedD I hd
    obtain ⟨rfl, rfl⟩ := dict_ep hod hdt
    exact next_key_end (I.ok.hd hc) st hgd hdt hsz hi fun h' eb => ⟨rfl, I.turned (t' := s.toks) (fun b ob hb e => eb b ob hb e) f0 f1 f3 f4 f5⟩
  self := fun A i s Q E st h => by
    refine wpAny_pyIter_slot st.typeIs F.slot_dict_keyiterator_iter (wpAny_call_entry F.slot_dict_keyiterator_iter st.typeIs F.entry_dict_keyiterator_iter ?_ (F.args_dict_keyiterator_iter_1 _))
    show wpAny _ _ (ret (.ref it)) _ _ s
    exact wpAny_pure ⟨_, rfl, "dict_keyiterator", _, st.typeIs, F.slot_dict_keyiterator_next.lookup, h⟩
/-- the walk over a locked dict -/
def WalkD (K : PySem.W.Frag) (w : World) (H : Hp) (d : Addr) (o : Obj) (ks : List D) (xs : List V) (u : HO) (J : It) : Prop :=
  (∃ kvs, u = .dK kvs ∧ ks = kvs.map (fun p => kD p.1) ∧ J = Itk d o kvs) ∨ ∃ kas, u = DTO w d kas xs ∧ ks = kas.map (fun p => .tup (p.1.map kD)) ∧ (∀ p ∈ kas, TupOk K H p.2 (p.1.map kV)) ∧ J = ItD w d o kas xs
section
variable {X : Cx} {tg e : Expr} {td : TE}
/-- for x in d: what is locked already; what is locked now -/
theorem pi_dct (he : PE X e td) : PI X tg e (fun σ H Rr => td σ H fun x H1 => ∃ d ks xs u, x = .ref d ∧ DctC X.K X.w H1 d ks xs u ∧
    ((∃ o, H1 d = some (.frz o u) ∧ ∀ J, WalkD X.K X.w H1 d o ks xs u J → Rr J H1) ∨ (H1 d = some u ∧ ∀ o J, WalkD X.K X.w H1 d o ks xs u J → Rr J (upd H1 d (.frz o u))))) := by
  refine ⟨fun pins s σ H Rr I h => ?_⟩
  refine thn (he.run pins s σ H _ I h) fun v s1 ⟨x, H1, I1, rx, d, ks, xs, u, ex, dc, q⟩ => ?_
  subst ex
  obtain rfl : v = Value.ref d := rx
  -- locked it is
  have key : ∀ (H2 : Hp) (o : Obj), Inv X pins σ H2 s1 → H2 d = some (.frz o u) → (∀ J, WalkD X.K X.w H1 d o ks xs u J → Rr J H2) → wpAny (model X.prog X.w) X.A (pyIter (.ref d)) (PIE X pins σ tg Rr) X.xe s1 := fun H2 o I2 hd q => by
    rcases dc with ⟨kvs, rfl, ek, _⟩ | ⟨kas, rfl, _, ek, hk⟩
    · obtain ⟨hs, hgd, hx, es, ep, vs, hdt, hsz, kv, hm⟩ := I2.frzK hd
      refine iter_keys hs hgd hx hdt (pi_one (tk := s1.toks) I2 _ (turn_keys _ hdt) ⟨_, Heap.get?_push_size _ rfl, rfl, ?_⟩ (q _ (.inl ⟨kvs, rfl, ek, rfl⟩)))
      rw [hsz] <;> rfl
    · obtain ⟨hs, hgd, hx, es, ep, hdt, hsz, ent⟩ := lockedD I2 hd
      refine iter_keys hs hgd hx hdt (pi_one (tk := s1.toks) I2 _ (turn_D _ hdt) ⟨_, Heap.get?_push_size _ rfl, rfl, ?_⟩ (q _ (.inr ⟨kas, rfl, ek, hk, rfl⟩)))
      rw [hsz] <;> rfl
  rcases q with ⟨o, hd, q⟩ | ⟨hd, q⟩
  · exact key H1 o I1 hd q
  · obtain ⟨o, ho, _, _⟩ := dct_is I1 (.inl hd) dc
    have mu : Mut (H1 d) := by
      rw [hd]
      rcases dc with ⟨kvs, rfl, _, _⟩ | ⟨kas, rfl, _, _, _⟩ <;> trivial
    have ok : ObjOk X.prog X.w (upd H1 d (.frz o u)) s1.heap d (.frz o u) := by
      have := I1.hok d _ hd
      refine ⟨ho, ?_⟩
      rcases dc with ⟨kvs, rfl, _, _⟩ | ⟨kas, rfl, _, _, _⟩
      · exact this
      · exact this
    have I2 : Inv X pins σ (upd H1 d (.frz o u)) s1 := I1.write (t' := s1.toks) (x := d) (e := d) mu (.inl rfl) (fun b q hb z => z) ⟨o, ho⟩ ok
    exact key _ o I2 upd_same fun J hJ => q o J hJ
end
section
variable {K : PySem.W.Frag} {w : World} {R : Addr → Prop} {H : Hp}
theorem itOk_dct {H0 : Hp} {a : Addr} {o : Obj} {ks : List D} {xs : List V} {u : HO} {J : It} (e : H a = some (.frz o u)) (h0 : ∀ a o, Fz o → H0 a = some o → H a = some o) (hJ : WalkD K w H0 a o ks xs u J) : ItOk K w J R H ks := by
  intro R' H' hR hT hK
  have e' : H' a = some (.frz o u) := hT a _ (.inr ⟨o, u, rfl⟩) e
  rcases hJ with ⟨kvs, rfl, rfl, rfl⟩ | ⟨kas, rfl, rfl, hk, rfl⟩
  · refine ⟨fun i z => ⟨e', by simpa using z⟩, fun i z => ⟨e', by simpa using z⟩, fun i x H'' d hd y => ?_⟩
    obtain ⟨rfl, κ, v, hk, rfl⟩ := y
    rw [List.getElem?_map, hk] at hd
    cases hd
    refine ⟨.inl rfl, ?_⟩
    cases κ <;> rfl
  · refine ⟨fun i z => ⟨e', by simpa using z⟩, fun i z => ⟨e', by simpa using z⟩, fun i x H'' d hd y => ?_⟩
    obtain ⟨rfl, p, hp, rfl⟩ := y
    rw [List.getElem?_map, hp] at hd
    cases hd
    refine ⟨.inl rfl, p.2, p.1.map kV, rfl, tupOk_keep hT (tupOk_keep h0 (hk p (List.mem_of_getElem? hp))), ?_⟩
    have go : ∀ κs : List Key, Reps K w R' H'' (κs.map kD) (κs.map kV) := fun κs => by
      induction κs with
      | nil => trivial
      | cons κ κs ih => exact ⟨by cases κ <;> rfl, ih⟩
    exact go _
end
section
variable {X : Cx} {C : Cfg} {a tg : Expr} {ma : E}
theorem px_ovr (ha : PE X a (tD X.K X.w C ma)) : PI X tg a (tI X.K X.w C (.ovr ma)) := by
  refine ⟨fun pins s σ H Rr I h => ?_⟩
  obtain ⟨R, ρ, xs, ρ', m, e, q⟩ := h
  obtain ⟨⟨r, ρ1⟩, e1, e⟩ := Option.bind_eq_some_iff.mp (show (ev C ma ρ).bind _ = some (xs, ρ') from e)
  obtain ⟨⟨d, ρ2⟩, e2, e⟩ := Option.bind_eq_some_iff.mp e
  obtain ⟨xs', e3, e⟩ := Option.map_eq_some_iff.mp e
  cases e
  cases ho : ownD ρ1 r with
  | some kv =>
    obtain ⟨ks, vs⟩ := kv
    refine (pi_dct ha).run pins s σ H Rr I ⟨R, ρ, r, ρ1, m, e1, fun v H1 R1 s1 rr1 f1 => ?_⟩
    obtain ⟨rfl, b, zs, u, rfl, eu, dc, lk⟩ := SS.lock s1 rr1 f1 ho e2
    cases e3
    refine ⟨b, _, zs, u, rfl, dc, .inr ⟨eu, fun o J hJ => ?_⟩⟩
    obtain ⟨R2, s2, rp⟩ := lk o
    have nf := dct_nfz dc
    exact q _ _ R2 s2 (itOk_dct upd_same (fun c z hz ec => (upd_ne fun e'' => by subst e''; rw [eu] at ec; cases ec; exact nf hz).trans ec) hJ)
  | none =>
    rw [fixW_other ho] at e2
    by_cases hd : ∃ ys, d = .tup ys
    · obtain ⟨ys, rfl⟩ := hd
      cases e3
      refine (pi_tup ha).run pins s σ H Rr I ⟨R, ρ, r, ρ1, m, e1, fun v H1 R1 s1 rr1 f1 => ?_⟩
      obtain ⟨R2, up, s2, rp⟩ := fix_step s1 rr1 f1 e2
      obtain ⟨p, vs, rfl, h1, h2⟩ := rp
      exact ⟨p, rfl, ⟨vs, h1.sq⟩, q _ H1 R2 s2 (itOk_tup h1 h2)⟩
    · by_cases hc : ∃ ks vs, d = .dcf ks vs
      · obtain ⟨ks, vs, rfl⟩ := hc
        cases e3
        refine (pi_dct ha).run pins s σ H Rr I ⟨R, ρ, r, ρ1, m, e1, fun v H1 R1 s1 rr1 f1 => ?_⟩
        obtain ⟨R2, up, s2, rp⟩ := fix_step s1 rr1 f1 e2
        obtain ⟨p, zs, u, o, rfl, _, h2, h3, dc⟩ := rp
        exact ⟨p, _, zs, u, rfl, dc, .inl ⟨o, h3, fun J hJ => q _ _ R2 s2 (itOk_dct h3 (fun _ _ _ z => z) hJ)⟩⟩
      · have e3 : items d = some xs := by
          cases d with
          | dcf ks vs => exact absurd ⟨ks, vs, rfl⟩ hc
          | _ => exact e3
        refine (pi_list ha).run pins s σ H Rr I ⟨R, ρ, r, ρ1, m, e1, fun v H1 R1 s1 rr1 f1 => ?_⟩
        obtain ⟨R2, up, s2, rp⟩ := fix_step s1 rr1 f1 e2
        obtain ⟨p, vs, rfl, h1, h2⟩ := rep_lstF rp e3 fun ys z => hd ⟨ys, z⟩
        exact ⟨p, rfl, ⟨vs, sqL_of h1⟩, q _ H1 R2 s2 (itOk_lst h1 h2)⟩
end
end PV

/-! PV, part N: list comprehensions. -/
namespace PV
open PySem PySem.Spec PyProof.Rows L2

section
variable {K : PySem.W.Frag} {w : World} {C : Cfg} {np : Nat} {R R' R0 R1 R2 : Addr → Prop} {ρ ρ' ρ0 ρ1 ρ2 ρ3 : Rho} {σ σ' σ0 σ1 σ2 : St} {H H' H0 H1 H2 : Hp}
/-- the list that grows, at D: nobody's own -/
structure Gr (K : PySem.W.Frag) (w : World) (R : Addr → Prop) (ρ : Rho) (σ : St) (H : Hp) (D : Addr) (acc : List PV.D) : Prop where
  nR : ¬ R D
  nO : ¬ Own ρ σ D
  it : ∃ vs, H D = some (.lst vs) ∧ Reps K w R H acc vs
theorem Gr.step {np : Nat} {D : Addr} {acc : List PV.D} (m : Mt K w R ρ σ H) (g : Gr K w R ρ σ H D acc) (s : SS K w np σ R ρ H σ' R' ρ' H') : Gr K w R' ρ' σ' H' D acc := by
  obtain ⟨n1, n2, vs, h, r⟩ := g
  refine ⟨fun z => ?_, fun z => ?_, vs, s.fr D _ h n2, s.reps m r⟩
  · rcases s.bd D z with z | z | z
    · exact n1 z
    · rw [h] at z; cases z
    · exact n2 z
  · rcases s.mo D z with z | z
    · exact n2 z
    · rw [h] at z; cases z
theorem SS.lay (s : SS K w np σ R ρ H σ1 R1 ρ1 H1) {p : Addr} {o : HO} (n : H1 p = none) : SS K w np σ R ρ H σ1 R1 ρ1 (upd H1 p o) := by
  refine s.poke ?_ (fun u e => by rw [n] at e; cases e) (fun z => s.mt.trk p z n) fun z => ?_
  · cases e : H p with
    | none => rfl
    | some o => exact absurd n (s.nw p (by rw [e]; simp))
  · obtain ⟨d, _, t⟩ := s.mt.ownTop z
    obtain ⟨o, e, _⟩ := t.there
    rw [n] at e; cases e
theorem SS.yld (m : Mt K w R ρ σ H) (h : H' = H ∨ ∃ p o, H p = none ∧ H' = upd H p o) : SS K w np σ R ρ H σ R ρ H' := by
  rcases h with rfl | ⟨p, o, n, rfl⟩
  · exact SS.refl m
  · exact (SS.refl m).lay n
/-- one turn's way -/
def lcF (C : Cfg) (elt : E) (t : Tg) (c : Option E) : D → Rho → Option (List D × Rho) := fun x ρ => (bindT 0 ρ t x).bind fun ρ2 => (tso C c ρ2).bind fun (b, ρ3) =>
  if b then (ev C elt ρ3).bind fun (r, ρ4) => (fix ρ4 r).map fun (d, ρ5) => ([d], unset ρ5 t.slots) else some ([], unset ρ3 t.slots)
theorem lc_turn {elt : E} {t : Tg} {c : Option E} {D : Addr} {acc ds : List PV.D} {d : PV.D} {x : V} {Nx : Hp → Prop} (s : SS K w 0 σ0 R0 ρ0 H0 (wipe σ t.slots) R ρ H) (g : Gr K w R ρ (wipe σ t.slots) H D acc) (hD : H0 D = none) (hl : acc.length < most)
    (r : Rep K w R H d x) (e : lcF C elt t c d ρ = some (ds, ρ'))
    (q : ∀ R' H', SS K w 0 σ0 R0 ρ0 H0 (wipe σ t.slots) R' ρ' H' → Gr K w R' ρ' (wipe σ t.slots) H' D (acc ++ ds) → ds.length ≤ 1 → Nx H') :
    tG K w 0 t x (wipe σ t.slots) H fun σ2 H2 => wipe σ2 t.slots = wipe σ t.slots ∧ tTo K w C c σ2 H2 fun b H3 => if b = true then tD K w C elt σ2 H3 fun y H4 => ∃ acc, H4 D = some (.lst acc) ∧ acc.length < sizeLine ∧ Nx (upd H4 D (.lst (acc ++ [y]))) else Nx H3 := by
  obtain ⟨ρ2, e1, e⟩ := Option.bind_eq_some_iff.mp e
  obtain ⟨⟨b, ρ3⟩, e2, e⟩ := Option.bind_eq_some_iff.mp e
  refine ⟨R, ρ, d, ρ2, s.mt, r, e1, fun σ2 s2 o2 l2 w2 => ?_⟩
  have hw : wipe σ2 t.slots = wipe σ t.slots := (wipe_eq l2 o2).trans (wipe_eq (wipe_length ..) fun i hi => wipe_out hi)
  refine ⟨hw, R, ρ2, b, ρ3, s2.mt, e2, fun H3 R3 s3 => ?_⟩
  have s03 := (s.trans s2).trans s3
  have g3 := (g.step s.mt s2).step s2.mt s3
  -- the end of a turn
  have fin : ∀ {R4 : Addr → Prop} {ρ4 : Rho} {H4 : Hp} {dd : List PV.D}, SS K w 0 σ0 R0 ρ0 H0 σ2 R4 ρ4 H4 → Gr K w R4 ρ4 σ2 H4 D (acc ++ dd) → some (dd, unset ρ4 t.slots) = some (ds, ρ') → dd.length ≤ 1 → Nx H4 := fun {R4 ρ4 H4 dd} s4 g4 z zl => by
    cases z
    have s5 := s4.wipe t.slots
    rw [hw] at s5
    refine q R4 H4 s5 ⟨g4.nR, fun z => g4.nO ?_, g4.it⟩ zl
    rw [← hw] at z
    obtain ⟨i, d', _, h1, h2⟩ := unset_Own z
    exact ⟨i, d', h1, h2⟩
  cases b with
  | false =>
    show Nx H3
    refine fin s03 (dd := []) ?_ e (Nat.zero_le _)
    rw [List.append_nil]
    exact g3
  | true =>
    show tD K w C elt σ2 H3 _
    obtain ⟨⟨r4, ρ4⟩, e4, e⟩ := Option.bind_eq_some_iff.mp e
    obtain ⟨⟨d5, ρ5⟩, e5, e⟩ := Option.map_eq_some_iff.mp e
    refine ⟨R3, ρ3, r4, ρ4, s3.mt, e4, fun y H4 R4 s4 rr4 f4 => ?_⟩
    obtain ⟨R5, up5, s5, rp5⟩ := fix_step s4 rr4 f4 e5
    have g5 := g3.step s3.mt s5
    obtain ⟨vs, hv, rv⟩ := g5.it
    refine ⟨vs, hv, by rw [← rv.length]; exact Nat.lt_of_lt_of_le hl (most_line (Nat.le_refl _)), ?_⟩
    have hT : ∀ b u, Fz u → H4 b = some u → (upd H4 D (.lst (vs ++ [y]))) b = some u := fun b u z e => (upd_ne fun e' => by
      rw [e', hv] at e
      cases e
      rcases z with ⟨xs, z⟩ | ⟨ob, u', z⟩ <;> cases z).trans e
    have s6 := (s03.trans s5).poke (p := D) (o := .lst (vs ++ [y])) hD (fun u e z => by
      rw [hv] at e
      cases e
      rcases z with ⟨xs, z⟩ | ⟨ob, u', z⟩ <;> cases z) g5.nR g5.nO
    have hK : ∀ b u, R5 b → H4 b = some u → (upd H4 D (.lst (vs ++ [y]))) b = some u := fun b u z e => (upd_ne fun e' => g5.nR (by rw [← e']; exact z)).trans e
    exact fin (dd := [d5]) s6 ⟨g5.nR, g5.nO, vs ++ [y], upd_same, (Reps.keep (fun _ z => z) hT hK _ _ rv).append ⟨Rep.keep (fun _ z => z) hT hK _ _ rp5, trivial⟩⟩ (congrArg some e) (Nat.le_refl _)
theorem drop_get {α : Type} {xs : List α} {i : Nat} (h : i < xs.length) : xs.drop i = xs[i] :: xs.drop (i + 1) := by rw [List.drop_eq_getElem_cons h]
end

section
variable {X : Cx} {C : Cfg} {a b c e tg iter elt : Expr} {ma mb mc mit melt : E} {pos p : Pos}
/-- the reading of a comprehension -/
theorem lc_end {t : Tg} {mc : Option E} {σ : St} {H : Hp} {Q : VK} (h : tD X.K X.w C (.lc melt t mit mc) σ H Q) :
    tLc (tI X.K X.w C mit) (tG X.K X.w 0 t) (tTo X.K X.w C mc) (tD X.K X.w C melt) t.slots σ H Q := by
  obtain ⟨R, ρ, r, ρ', m, e, q⟩ := h
  obtain ⟨⟨xs, ρ1⟩, e1, e⟩ := Option.bind_eq_some_iff.mp (show (evi C mit ρ).bind _ = some (r, ρ') from e)
  dsimp only at e
  split at e
  · rename_i hz
    obtain ⟨⟨ds, ρ6⟩, e2, e⟩ := Option.map_eq_some_iff.mp e
    cases e
    have e2 : lcLoop (lcF C melt t mc) xs (unset ρ1 t.slots) = some (ds, ρ6) := e2
    refine ⟨R, ρ, xs, ρ1, m, e1, fun J H1 R1 s1 it D hD => ?_⟩
    have b0 : SS X.K X.w 0 (wipe σ t.slots) R1 (unset ρ1 t.slots) H1 (wipe σ t.slots) R1 (unset ρ1 t.slots) H1 := SS.refl ((SS.refl s1.mt).wipe t.slots).mt
    refine ⟨fun i k H2 => k = xs.length - i ∧ i ≤ xs.length ∧ ∃ R2 ρ2 acc es, SS X.K X.w 0 (wipe σ t.slots) R1 (unset ρ1 t.slots) H1 (wipe σ t.slots) R2 ρ2 H2 ∧ Gr X.K X.w R2 ρ2 (wipe σ t.slots) H2 D acc ∧ acc.length ≤ i ∧
      lcLoop (lcF C melt t mc) (xs.drop i) ρ2 = some (es, ρ6) ∧ ds = acc ++ es, ⟨xs.length, rfl, Nat.zero_le _, R1, unset ρ1 t.slots, [], ds, b0.lay hD, ?_, Nat.le_refl _, e2, rfl⟩, fun i k H2 hW => ?_⟩
    · refine ⟨fun z => s1.mt.trk D z hD, fun z => ?_, [], upd_same, trivial⟩
      obtain ⟨d, _, tp⟩ := b0.mt.ownTop z
      obtain ⟨o, eo, _⟩ := tp.there
      rw [hD] at eo; cases eo
    · obtain ⟨hk, hi, R2, ρ2, acc, es, s2, g2, hl, el, ed⟩ := hW
      obtain ⟨go, stop, yl⟩ := it R2 H2 s2.up (b0.mt.keepT s2.fr) (b0.mt.keepK s2.fr)
      by_cases hi2 : i < xs.length
      · refine .inr ⟨go i hi2, fun H' => (xs.length - (i + 1)) = xs.length - (i + 1) ∧ i + 1 ≤ xs.length ∧ ∃ R2 ρ2 acc es, SS X.K X.w 0 (wipe σ t.slots) R1 (unset ρ1 t.slots) H1 (wipe σ t.slots) R2 ρ2 H' ∧ Gr X.K X.w R2 ρ2 (wipe σ t.slots) H' D acc ∧ acc.length ≤ i + 1 ∧
          lcLoop (lcF C melt t mc) (xs.drop (i + 1)) ρ2 = some (es, ρ6) ∧ ds = acc ++ es, fun H' h => ⟨xs.length - (i + 1), by omega, h⟩, fun x H' y => ?_⟩
        obtain ⟨hy, rx⟩ := yl i x H' _ (List.getElem?_eq_getElem hi2) y
        rw [drop_get hi2] at el
        obtain ⟨⟨d1, ρ3⟩, e3, el⟩ := Option.bind_eq_some_iff.mp (show (lcF C melt t mc xs[i] ρ2).bind _ = some (es, ρ6) from el)
        obtain ⟨⟨es2, ρ7⟩, e4, el⟩ := Option.map_eq_some_iff.mp el
        cases el
        have s3 : SS X.K X.w 0 (wipe σ t.slots) R2 ρ2 H2 (wipe σ t.slots) R2 ρ2 H' := SS.yld s2.mt hy
        refine lc_turn (s2.trans s3) (g2.step s2.mt s3) hD (by omega) rx e3 fun R4 H4 s4 g4 z => ⟨rfl, hi2, R4, ρ3, acc ++ d1, es2, s4, g4, by rw [List.length_append]; omega, e4, by rw [ed, List.append_assoc]⟩
      · refine .inl ⟨stop i (by omega), ?_⟩
        rw [List.drop_eq_nil_of_le (by omega)] at el
        cases el
        rw [List.append_nil] at ed
        subst ed
        have str : ∀ b, Own ρ6 (wipe σ t.slots) b → Own ρ1 σ b ∨ H1 b = none := fun b hb => by
          rcases s2.mo b hb with z | z
          · obtain ⟨j, d, _, h1, h2⟩ := unset_Own z
            exact .inl ⟨j, d, h1, h2⟩
          · exact .inr z
        have s5 := SS.back s1.mt s2 str
        have nH : H D = none := by
          cases q : H D with
          | none => rfl
          | some o => exact absurd hD (s1.nw D (by rw [q]; simp))
        obtain ⟨vs, hv, rv⟩ := g2.it
        refine q (.ref D) H2 R2 (s1.trans s5) ⟨D, rfl, g2.nR, fun z => ?_, vs, hv, rv⟩ (fun a ea => by cases ea; exact nH)
        obtain ⟨j, d, h1, h2⟩ := z
        have hl6 : ρ6.length = ρ1.length := by rw [s2.mt.len, wipe_length, s1.mt.len]
        rw [(restore_get hl6 (vs := t.slots) (i := j)).2] at h1
        split at h1
        · obtain ⟨d', _, tp⟩ := s1.mt.ownTop ⟨j, d, h1, h2⟩
          obtain ⟨o, eo, _⟩ := tp.there
          rw [hD] at eo; cases eo
        · rename_i nj
          exact g2.nO ⟨j, d, h1, by rw [wipe_out nj]; exact h2⟩
  · cases e
theorem px_lc {t : Tg} {mc : Option E} {ifs : List Expr} {scope : Scope} {own : List (Str × Nat)} (hc : X.calm = true) (hN : X.N.Nodup) (hi : PI X tg iter (tI X.K X.w C mit)) (ok : BlkOk X.N X.env.scope scope own) (ho : own.map (·.2) = t.slots)
    (hg : ∀ (s : Shared) (H : Hp) (C : Addr) (cl : List (Str × Addr)) (fp : List Addr), PG (X.blk s H scope (compEnvC scope cl C X.env) fp) tg (tG X.K X.w 0 t))
    (ht : ∀ (s : Shared) (H : Hp) (C' : Addr) (cl : List (Str × Addr)) (fp : List Addr), PTs (X.blk s H scope (compEnvC scope cl C' X.env) fp) ifs (tTo X.K X.w C mc))
    (he : ∀ (s : Shared) (H : Hp) (C' : Addr) (cl : List (Str × Addr)) (fp : List Addr), PE (X.blk s H scope (compEnvC scope cl C' X.env) fp) elt (tD X.K X.w C melt)) (hs : ∀ x, foldedSetIterable iter X.env x = pure x) :
    PE X (.ListComp elt [⟨tg, iter, ifs, 0⟩] scope pos) (tD X.K X.w C (.lc melt t mit mc)) := by
  refine PE.imp (pe_lc hc hN hi ok hg ht he hs) fun σ H Q h => ?_
  rw [ho]
  exact lc_end h
end
end PV

/-! PV, part O: statements. -/
namespace PV
open PySem PySem.Spec PyProof.Rows L2

/-- what is reached -/
def out (K : PySem.W.Frag) (w : World) (D : Ends) (H0 : Hp) (R : Addr → Prop) (ρ : Rho) (σ : St) (H : Hp) : O → Prop
  | .nx => D.nx σ H
  | .brk => D.bk σ H
  | .cnt => D.ct σ H
  | .ret r => ∀ v, RR K w R ρ σ H v r → FrN H0 v r → D.rt v H
def tS (K : PySem.W.Frag) (w : World) (C : Cfg) (np : Nat) (s : S) : TS := fun D σ H => ∃ R ρ o ρ', Mt K w R ρ σ H ∧ exec C np s ρ = some (o, ρ') ∧ ∀ σ' H' R', SS K w np σ R ρ H σ' R' ρ' H' → out K w D H R' ρ' σ' H' o
def tSs (K : PySem.W.Frag) (w : World) (C : Cfg) (np : Nat) (ss : List S) : TS := fun D σ H => ∃ R ρ o ρ', Mt K w R ρ σ H ∧ PV.execs C np ss ρ = some (o, ρ') ∧ ∀ σ' H' R', SS K w np σ R ρ H σ' R' ρ' H' → out K w D H R' ρ' σ' H' o

section
variable {K : PySem.W.Frag} {w : World} {C : Cfg} {np : Nat} {R R' R0 R1 R2 : Addr → Prop} {ρ ρ' ρ0 ρ1 ρ2 ρ3 : Rho} {σ σ' σ0 σ1 σ2 : St} {H H' H0 H1 H2 : Hp}
theorem out_back {D : Ends} {o : O} (nw : ∀ b, H b ≠ none → H0 b ≠ none) (h : out K w D H R ρ σ H' o) : out K w D H0 R ρ σ H' o := by
  cases o with
  | ret r => exact fun v rr f => h v rr (FrN.back nw f)
  | _ => exact h
theorem SS.store (s : SS K w np σ R ρ H σ1 R1 ρ1 H1) {i : Nat} {r : Rs} {v : V} (rr : RR K w R1 ρ1 σ1 H1 v r) (f : FrN H v r) (e : store np ρ1 i r = some ρ2) : ∃ R2, SS K w np σ R ρ H (σ1.set i (some v)) R2 ρ2 H1 := by
  unfold PV.store at e
  split at e
  · rename_i hz
    cases r with
    | fr d =>
      cases e
      obtain ⟨a, rfl, n1, n2, t⟩ := rr
      exact ⟨R1, s.put_own hz.2 hz.1 n1 n2 t (f a rfl)⟩
    | val d =>
      cases e
      exact ⟨R1, s.put_ro hz.2 hz.1 rr⟩
    | al j =>
      obtain ⟨⟨d, ρ3⟩, e1, e2⟩ := Option.map_eq_some_iff.mp (show (PV.fix ρ1 (.al j)).map _ = some ρ2 from e)
      cases e2
      obtain ⟨R2, up, s2, rp⟩ := SS.fix s rr f e1
      have hl : ρ3.length = ρ1.length := by rw [s2.mt.len, s.mt.len]
      exact ⟨R2, s2.put_ro (by rw [hl]; exact hz.2) hz.1 rp⟩
  · cases e

/-! ### several names at once -/
def setV (σ : St) : List Nat → List V → St
  | i :: is, v :: vs => setV (σ.set i (some v)) is vs
  | _, _ => σ
def noAl : List Rs → Prop
  | [] => True
  | .al _ :: _ => False
  | _ :: rs => noAl rs
theorem SS.storeAll : ∀ {is : List Nat} {vs : List V} {rs : List Rs} {σ1 : St} {ρ1 : Rho}, SS K w np σ R ρ H σ1 R1 ρ1 H1 → RRs K w R1 ρ1 σ1 H1 vs rs → FrNs H vs rs → noAl rs → PV.storeAll np ρ1 is rs = some ρ2 →
    SS K w np σ R ρ H (setV σ1 is vs) R1 ρ2 H1
  | [], [], [], σ1, ρ1, s, rr, f, n, e => by
    cases e
    exact s
  | i :: is, v :: vs, r :: rs, σ1, ρ1, s, rr, f, n, e => by
    obtain ⟨ρ3, e1, e2⟩ := Option.bind_eq_some_iff.mp (show (PV.store np ρ1 i r).bind _ = some ρ2 from e)
    cases r with
    | al j => exact n.elim
    | val d =>
      unfold PV.store at e1
      split at e1
      · rename_i hz
        cases e1
        have s2 := s.put_ro hz.2 hz.1 rr.1
        refine SS.storeAll (is := is) (vs := vs) (rs := rs) s2 ?_ f.2.1 n e2
        exact rrs_set rr.2 (fun a q z => q (ro_Own z)) n
      · cases e1
    | fr d =>
      unfold PV.store at e1
      split at e1
      · rename_i hz
        cases e1
        obtain ⟨a, rfl, n1, n2, t⟩ := rr.1
        have s2 := s.put_own hz.2 hz.1 n1 n2 t (f.1 a rfl)
        refine SS.storeAll (is := is) (vs := vs) (rs := rs) s2 ?_ f.2.1 n e2
        refine rrs_own rr.2 (fun k d' h h' => f.2.2 d rfl k d' h h') (by have := s.mt.len; omega) n
      · cases e1
  | [], _ :: _, [], _, _, _, rr, _, _, _ => rr.elim
  | [], _, _ :: _, _, _, _, _, _, _, e => by cases e
  | _ :: _, [], _ :: _, _, _, _, rr, _, _, _ => rr.elim
  | _ :: _, _, [], _, _, _, _, _, _, e => by cases e
where
  rrs_set {R1 : Addr → Prop} {ρ1 ρ3 : Rho} {σ1 σ3 : St} {H1 : Hp} : ∀ {vs : List V} {rs : List Rs}, RRs K w R1 ρ1 σ1 H1 vs rs → (∀ a, ¬ Own ρ1 σ1 a → ¬ Own ρ3 σ3 a) → noAl rs → RRs K w R1 ρ3 σ3 H1 vs rs
    | [], [], _, _, _ => trivial
    | v :: vs, .val d :: rs, h, k, n => ⟨h.1, rrs_set (vs := vs) (rs := rs) h.2 k n⟩
    | v :: vs, .fr d :: rs, h, k, n => ⟨let ⟨a, e, n1, n2, t⟩ := h.1; ⟨a, e, n1, k a n2, t⟩, rrs_set (vs := vs) (rs := rs) h.2 k n⟩
    | v :: vs, .al _ :: rs, _, _, n => n.elim
    | [], _ :: _, h, _, _ => h.elim
    | _ :: _, [], h, _, _ => h.elim
  rrs_own {R1 : Addr → Prop} {ρ1 : Rho} {σ1 : St} {H1 : Hp} {i : Nat} {a : Addr} {d : D} : ∀ {vs : List V} {rs : List Rs}, RRs K w R1 ρ1 σ1 H1 vs rs → (∀ (k : Nat) (d' : D), rs[k]? = some (Rs.fr d') → vs[k]? ≠ some (V.ref a)) → i < σ1.length → noAl rs →
      RRs K w R1 (ρ1.set i (.own d)) (σ1.set i (some (.ref a))) H1 vs rs
    | [], [], _, _, _, _ => trivial
    | v :: vs, .val d :: rs, h, k, l, n => ⟨h.1, rrs_own (vs := vs) (rs := rs) h.2 (fun j d' q => k (j + 1) d' q) l n⟩
    | v :: vs, .fr e :: rs, h, k, l, n => by
      refine ⟨?_, rrs_own (vs := vs) (rs := rs) h.2 (fun j d' q => k (j + 1) d' q) l n⟩
      obtain ⟨b, rfl, n1, n2, t⟩ := h.1
      refine ⟨b, rfl, n1, fun z => ?_, t⟩
      obtain ⟨j, f, e1, e2⟩ := z
      by_cases q : i = j
      · subst q
        rw [List.getElem?_set_self l] at e2
        cases e2
        exact k 0 e rfl rfl
      · rw [List.getElem?_set_ne q] at e1 e2
        exact n2 ⟨j, f, e1, e2⟩
    | v :: vs, .al _ :: rs, _, _, _, n => n.elim
    | [], _ :: _, h, _, _, _ => h.elim
    | _ :: _, [], h, _, _, _ => h.elim
theorem fixAll_get : ∀ {rs ts : List Rs} {ρ ρ2 : Rho}, fixAll ρ rs = some (ts, ρ2) → noAl ts ∧ ∀ (i : Nat) (d : D), ts[i]? = some (.fr d) → rs[i]? = some (.fr d)
  | [], ts, ρ, ρ2, e => by
    cases e
    exact ⟨trivial, fun i d h => h⟩
  | .al j :: rs, ts, ρ, ρ2, e => by
    obtain ⟨⟨d, ρ1⟩, e1, e⟩ := Option.bind_eq_some_iff.mp (show (PV.fix ρ (.al j)).bind _ = some (ts, ρ2) from e)
    obtain ⟨⟨us, ρ3⟩, e2, e⟩ := Option.map_eq_some_iff.mp e
    cases e
    obtain ⟨h1, h2⟩ := fixAll_get e2
    refine ⟨h1, fun i d' h => ?_⟩
    cases i with
    | zero => cases h
    | succ i => exact h2 i d' h
  | .val d :: rs, ts, ρ, ρ2, e => by
    obtain ⟨⟨us, ρ3⟩, e2, e⟩ := Option.map_eq_some_iff.mp (show (fixAll ρ rs).map _ = some (ts, ρ2) from e)
    cases e
    obtain ⟨h1, h2⟩ := fixAll_get e2
    refine ⟨h1, fun i d' h => ?_⟩
    cases i with
    | zero => exact h
    | succ i => exact h2 i d' h
  | .fr d :: rs, ts, ρ, ρ2, e => by
    obtain ⟨⟨us, ρ3⟩, e2, e⟩ := Option.map_eq_some_iff.mp (show (fixAll ρ rs).map _ = some (ts, ρ2) from e)
    cases e
    obtain ⟨h1, h2⟩ := fixAll_get e2
    refine ⟨h1, fun i d' h => ?_⟩
    cases i with
    | zero => exact h
    | succ i => exact h2 i d' h
theorem SS.fixAll : ∀ {vs : List V} {rs ts : List Rs} {ρ1 : Rho} {R1 : Addr → Prop}, SS K w np σ R ρ H σ1 R1 ρ1 H1 → RRs K w R1 ρ1 σ1 H1 vs rs → FrNs H vs rs → PV.fixAll ρ1 rs = some (ts, ρ2) →
    ∃ R2, SS K w np σ R ρ H σ1 R2 ρ2 H1 ∧ Step K w σ1 R1 ρ1 H1 R2 ρ2 H1 ∧ RRs K w R2 ρ2 σ1 H1 vs ts ∧ FrNs H vs ts
  | [], [], ts, ρ1, R1, s, rr, f, e => by
    cases e
    exact ⟨R1, s, Step.refl s.mt, trivial, trivial⟩
  | v :: vs, .al j :: rs, ts, ρ1, R1, s, rr, f, e => by
    obtain ⟨⟨d, ρ3⟩, e1, e⟩ := Option.bind_eq_some_iff.mp (show (PV.fix ρ1 (.al j)).bind _ = some (ts, ρ2) from e)
    obtain ⟨⟨us, ρ4⟩, e2, e⟩ := Option.map_eq_some_iff.mp e
    cases e
    obtain ⟨R3, up, s3, rp⟩ := SS.fix (Step.refl s.mt) rr.1 trivial e1
    have s4 : SS K w np σ R ρ H σ1 R3 ρ3 H1 := s.trans s3.np
    obtain ⟨R5, s5, t5, r5, f5⟩ := SS.fixAll (vs := vs) (rs := rs) s4 (RRs.step s.mt s3 rr.2) f.2.1 e2
    exact ⟨R5, s5, s3.trans t5, ⟨t5.rep s4.mt rp, r5⟩, trivial, f5, fun d z => by cases z⟩
  | v :: vs, .val d :: rs, ts, ρ1, R1, s, rr, f, e => by
    obtain ⟨⟨us, ρ4⟩, e2, e⟩ := Option.map_eq_some_iff.mp (show (PV.fixAll ρ1 rs).map _ = some (ts, ρ2) from e)
    cases e
    obtain ⟨R5, s5, t5, r5, f5⟩ := SS.fixAll (vs := vs) (rs := rs) s rr.2 f.2.1 e2
    exact ⟨R5, s5, t5, ⟨RR.step s.mt t5 rr.1, r5⟩, f.1, f5, fun d z => by cases z⟩
  | v :: vs, .fr d :: rs, ts, ρ1, R1, s, rr, f, e => by
    obtain ⟨⟨us, ρ4⟩, e2, e⟩ := Option.map_eq_some_iff.mp (show (PV.fixAll ρ1 rs).map _ = some (ts, ρ2) from e)
    cases e
    obtain ⟨R5, s5, t5, r5, f5⟩ := SS.fixAll (vs := vs) (rs := rs) s rr.2 f.2.1 e2
    exact ⟨R5, s5, t5, ⟨RR.step s.mt t5 rr.1, r5⟩, f.1, f5, fun d' z i e h => f.2.2 d' z i e ((fixAll_get e2).2 i e h)⟩
  | [], _ :: _, _, _, _, _, rr, _, _ => rr.elim
  | _ :: _, [], _, _, _, _, rr, _, _ => rr.elim
end

section
variable {X : Cx} {C : Cfg} {np : Nat} {a b c e tg iter elt : Expr} {ma mb mc me mit melt : E} {pos p : Pos} {st : Stmt} {x y z : Str} {i j k : Nat}
/-! ### blocks -/
theorem px_snil : PSs X [] (tSs X.K X.w C np []) := PSs.imp pss_nil fun D σ H h => by
  obtain ⟨R, ρ, o, ρ', m, e, q⟩ := h
  cases e
  exact q σ H R (SS.refl m)
theorem px_scons {ms : S} {mss : List S} {rest : List Stmt} (h1 : PS X st (tS X.K X.w C np ms)) (h2 : PSs X rest (tSs X.K X.w C np mss)) : PSs X (st :: rest) (tSs X.K X.w C np (ms :: mss)) := by
  refine PSs.imp (pss_cons h1 h2) fun D σ H h => ?_
  obtain ⟨R, ρ, o, ρ', m, e, q⟩ := h
  obtain ⟨⟨o1, ρ1⟩, e1, e⟩ := Option.bind_eq_some_iff.mp (show (PV.exec C np ms ρ).bind _ = some (o, ρ') from e)
  refine ⟨R, ρ, o1, ρ1, m, e1, fun σ1 H1 R1 s1 => ?_⟩
  cases o1 with
  | nx => exact ⟨R1, ρ1, o, ρ', s1.mt, e, fun σ2 H2 R2 s2 => out_back s1.nw (q σ2 H2 R2 (s1.trans s2))⟩
  | brk => cases e; exact q σ1 H1 R1 s1
  | cnt => cases e; exact q σ1 H1 R1 s1
  | ret r => cases e; exact q σ1 H1 R1 s1
theorem out_back' {K : PySem.W.Frag} {w : World} {D : Ends} {H H0 H' : Hp} {R : Addr → Prop} {ρ : Rho} {σ : St} {o : O} (nw : ∀ b, H0 b ≠ none → H b ≠ none) (h : out K w D H0 R ρ σ H' o) : out K w D H R ρ σ H' o := by
  cases o with
  | ret r => exact fun v rr f => h v rr (FrN.back nw f)
  | _ => exact h
theorem px_spas : PS X st tNext → PS X st (tS X.K X.w C np .pas) := fun h => PS.imp h fun D σ H h => by
  obtain ⟨R, ρ, o, ρ', m, e, q⟩ := h
  cases e
  exact q σ H R (SS.refl m)
theorem px_sbrk : PS X (.Break pos) (tS X.K X.w C np .brk) := PS.imp ps_break fun D σ H h => by
  obtain ⟨R, ρ, o, ρ', m, e, q⟩ := h
  cases e
  exact q σ H R (SS.refl m)
theorem px_scnt : PS X (.Continue pos) (tS X.K X.w C np .cnt) := PS.imp ps_continue fun D σ H h => by
  obtain ⟨R, ρ, o, ρ', m, e, q⟩ := h
  cases e
  exact q σ H R (SS.refl m)
theorem px_sex (he : PE X e (tD X.K X.w C me)) (hs : swapsWith e none pos.line X.env = pure false) : PS X (.Expr e pos) (tS X.K X.w C np (.ex me)) := PS.imp (ps_expr he hs) fun D σ H h => by
  obtain ⟨R, ρ, o, ρ', m, e, q⟩ := h
  obtain ⟨⟨r, ρ1⟩, e1, e⟩ := Option.map_eq_some_iff.mp (show (ev C me ρ).map _ = some (o, ρ') from e)
  cases e
  exact ⟨R, ρ, r, ρ', m, e1, fun v H' R' s rr f => q σ H' R' s.np⟩
theorem px_sret (he : PE X e (tD X.K X.w C me)) : PS X (.Return (some e) pos) (tS X.K X.w C np (.ret me)) := PS.imp (ps_ret he) fun D σ H h => by
  obtain ⟨R, ρ, o, ρ', m, e, q⟩ := h
  obtain ⟨⟨r, ρ1⟩, e1, e⟩ := Option.map_eq_some_iff.mp (show (ev C me ρ).map _ = some (o, ρ') from e)
  cases e
  exact ⟨R, ρ, r, ρ', m, e1, fun v H' R' s rr f => q σ H' R' s.np v rr f⟩
theorem px_sretN : PS X (.Return none pos) (tS X.K X.w C np .retN) := PS.imp ps_retN fun D σ H h => by
  obtain ⟨R, ρ, o, ρ', m, e, q⟩ := h
  cases e
  exact q σ H R (SS.refl m) .non rfl trivial
theorem px_site {as bs : List Stmt} {mas mbs : List S} (hc : PT X c (tT X.K X.w C mc)) (ha : PSs X as (tSs X.K X.w C np mas)) (hb : PSs X bs (tSs X.K X.w C np mbs)) : PS X (.If c as bs pos) (tS X.K X.w C np (.ite mc mas mbs)) := by
  refine PS.imp (ps_if hc ha hb) fun D σ H h => ?_
  obtain ⟨R, ρ, o, ρ', m, e, q⟩ := h
  obtain ⟨⟨t, ρ1⟩, e1, e⟩ := Option.bind_eq_some_iff.mp (show (tst C mc ρ).bind _ = some (o, ρ') from e)
  refine ⟨R, ρ, t, ρ1, m, e1, fun H1 R1 s1 => ?_⟩
  cases t with
  | true => exact ⟨R1, ρ1, o, ρ', s1.mt, e, fun σ2 H2 R2 s2 => out_back s1.nw (q σ2 H2 R2 (s1.np.trans s2))⟩
  | false => exact ⟨R1, ρ1, o, ρ', s1.mt, e, fun σ2 H2 R2 s2 => out_back s1.nw (q σ2 H2 R2 (s1.np.trans s2))⟩
/-! ### stores -/
theorem px_sasg (hN : X.N.Nodup) (hi : X.N[i]? = some x) (hx : Loc X.env.scope x) (he : PE X e (tD X.K X.w C me)) (hs : swapsWith e (some (.Name x p)) pos.line X.env = pure false) (hf : X.fn x = true ∨ X.env.scope.names.lookup x = some .local) :
    PS X (.Assign [.Name x p] e pos) (tS X.K X.w C np (.asg i me)) := by
  refine PS.imp (ps_set hN hi hx he hs hf) fun D σ H h => ?_
  obtain ⟨R, ρ, o, ρ', m, e, q⟩ := h
  obtain ⟨⟨r, ρ1⟩, e1, e⟩ := Option.bind_eq_some_iff.mp (show (ev C me ρ).bind _ = some (o, ρ') from e)
  obtain ⟨ρ2, e2, e⟩ := Option.map_eq_some_iff.mp e
  cases e
  refine ⟨R, ρ, r, ρ1, m, e1, fun v H1 R1 s1 rr f => ?_⟩
  obtain ⟨R2, s2⟩ := SS.store (np := np) s1.np rr f e2
  exact q _ H1 R2 s2
theorem px_spar2 {px py pt : Pos} {kt k2 : Nat} {pt2 : Pos} (hc : X.calm = true) (hN : X.N.Nodup) (hi : X.N[i]? = some x) (hj : X.N[j]? = some y) (hij : i ≠ j)
    (hx : X.env.scope.names.lookup x = some .local) (hy : X.env.scope.names.lookup y = some .local) (ha : PE X a (tD X.K X.w C ma)) (hb : PE X b (tD X.K X.w C mb)) (sa : isStar a = false) (sb : isStar b = false)
    (hw : swappedStores [.Tuple [.Name x px, .Name y py] kt pt] (.Tuple [a, b] k2 pt2) X.env = pure (some [x, y]))
    (hs : swapsWithSole [.Tuple [.Name x px, .Name y py] kt pt] (.Tuple [a, b] k2 pt2) pos.line X.env = pure false) :
    PS X (.Assign [.Tuple [.Name x px, .Name y py] kt pt] (.Tuple [a, b] k2 pt2) pos) (tS X.K X.w C np (.par [i, j] [ma, mb])) := by
  refine PS.imp (ps_par hc hN hi hj hij hx hy (px_cons ha (px_cons hb px_nil sb) sa) hw hs) fun D σ H h => ?_
  obtain ⟨R, ρ, o, ρ', m, e, q⟩ := h
  obtain ⟨⟨rs, ρ1⟩, e1, e⟩ := Option.bind_eq_some_iff.mp (show (evs C [ma, mb] ρ).bind _ = some (o, ρ') from e)
  obtain ⟨⟨ts, ρ2⟩, e2, e⟩ := Option.bind_eq_some_iff.mp e
  obtain ⟨ρ3, e3, e⟩ := Option.map_eq_some_iff.mp e
  cases e
  refine ⟨R, ρ, rs, ρ1, m, e1, fun vs H1 R1 s1 rr f => ?_⟩
  obtain ⟨R2, s2, _, r2, f2⟩ := SS.fixAll (np := np) s1.np rr f e2
  have s3 := SS.storeAll s2 r2 f2 (fixAll_get e2).1 e3
  have hl : vs.length = ts.length := r2.length
  have hl2 : ts.length = 2 := storeAll_len e3
  match vs, hl.trans hl2 with
  | [v, u], _ => exact ⟨v, u, rfl, q _ H1 R2 s3⟩
where
  storeAll_len {np : Nat} : ∀ {is : List Nat} {ts : List Rs} {ρ ρ' : Rho}, PV.storeAll np ρ is ts = some ρ' → ts.length = is.length
    | [], [], _, _, _ => rfl
    | i :: is, t :: ts, ρ, ρ', e => by
      obtain ⟨ρ3, e1, e2⟩ := Option.bind_eq_some_iff.mp (show (PV.store np ρ i t).bind _ = some ρ' from e)
      rw [List.length_cons, List.length_cons, storeAll_len e2]
    | [], _ :: _, _, _, e => by cases e
    | _ :: _, [], _, _, e => by cases e
theorem px_spar3 {px py pz pt : Pos} {kt k2 : Nat} {pt2 : Pos} (hc : X.calm = true) (hN : X.N.Nodup) (hi : X.N[i]? = some x) (hj : X.N[j]? = some y) (hk : X.N[k]? = some z) (hij : i ≠ j) (hik : i ≠ k) (hjk : j ≠ k)
    (hx : X.env.scope.names.lookup x = some .local) (hy : X.env.scope.names.lookup y = some .local) (hz : X.env.scope.names.lookup z = some .local) (ha : PE X a (tD X.K X.w C ma)) (hb : PE X b (tD X.K X.w C mb)) (hcc : PE X c (tD X.K X.w C mc)) (sa : isStar a = false) (sb : isStar b = false) (sc : isStar c = false)
    (hw : swappedStores [.Tuple [.Name x px, .Name y py, .Name z pz] kt pt] (.Tuple [a, b, c] k2 pt2) X.env = pure (some [x, y, z]))
    (hs : swapsWithSole [.Tuple [.Name x px, .Name y py, .Name z pz] kt pt] (.Tuple [a, b, c] k2 pt2) pos.line X.env = pure false) :
    PS X (.Assign [.Tuple [.Name x px, .Name y py, .Name z pz] kt pt] (.Tuple [a, b, c] k2 pt2) pos) (tS X.K X.w C np (.par [i, j, k] [ma, mb, mc])) := by
  refine PS.imp (ps_par3 hc hN hi hj hk hij hik hjk hx hy hz (px_cons ha (px_cons hb (px_cons hcc px_nil sc) sb) sa) hw hs) fun D σ H h => ?_
  obtain ⟨R, ρ, o, ρ', m, e, q⟩ := h
  obtain ⟨⟨rs, ρ1⟩, e1, e⟩ := Option.bind_eq_some_iff.mp (show (evs C [ma, mb, mc] ρ).bind _ = some (o, ρ') from e)
  obtain ⟨⟨ts, ρ2⟩, e2, e⟩ := Option.bind_eq_some_iff.mp e
  obtain ⟨ρ3, e3, e⟩ := Option.map_eq_some_iff.mp e
  cases e
  refine ⟨R, ρ, rs, ρ1, m, e1, fun vs H1 R1 s1 rr f => ?_⟩
  obtain ⟨R2, s2, _, r2, f2⟩ := SS.fixAll (np := np) s1.np rr f e2
  have s3 := SS.storeAll s2 r2 f2 (fixAll_get e2).1 e3
  have hl : vs.length = ts.length := r2.length
  have hl2 : ts.length = 3 := px_spar2.storeAll_len e3
  match vs, hl.trans hl2 with
  | [v, u, w'], _ => exact ⟨v, u, w', rfl, q _ H1 R2 s3⟩
end
end PV

/-! PV, part P: stores into lists, unpacking, loops. -/
namespace PV
open PySem PySem.Spec PyProof.Rows L2

/-- o[i] = v, o a list or a dict -/
def rPut (K : PySem.W.Frag) (w : World) : V → V → V → Hp → (Hp → Prop) → Prop := fun o i v H Q => rSetL o i v H Q ∨
  ∃ (a : Addr) (ks : List D) (xs : List V) (u : HO) (k : D), o = .ref a ∧ H a = some u ∧ DctC K w H a ks xs u ∧ kOk ks k = true ∧ KyV K H k i ∧ ks.length < sizeLine ∧
    ∀ u', (∀ H', (∀ b o, Fz o → H b = some o → H' b = some o) → DctC K w H' a (putKs k ks) (putVs k v ks xs) u') → Q (upd H a u')
theorem set_put {X : Cx} (hu : X.A.units + 65 < cLine) : PSet X (rPut X.K X.w) := by
  intro pins s σ H o i v ov iv u Q I ro ri rv h
  rcases h with h | ⟨a, ks, xs, u0, k, rfl, ha, dc, hk, ky, hz, q⟩
  · exact set_list pins s σ H o i v ov iv u Q I ro ri rv h
  · obtain rfl : ov = Value.ref a := ro
    exact dct_put (by omega) I ha dc hk ky ri rv hz fun u' s' I' hd => ⟨_, I', q u' hd⟩
section
variable {K : PySem.W.Frag} {w : World} {C : Cfg} {np : Nat} {R R' R0 R1 R2 : Addr → Prop} {ρ ρ' ρ0 ρ1 ρ2 ρ3 : Rho} {σ σ' σ0 σ1 σ2 : St} {H H' H0 H1 H2 : Hp}
theorem ownO_at (m : Mt K w R ρ σ H) {i : Nat} {z : Unit} (h : ownO ρ i = some z) : ∃ p, σ[i]? = some (some (.ref p)) := by
  unfold ownO at h
  split at h
  · rename_i q
    obtain ⟨a, h1, _⟩ := m.own i _ q
    exact ⟨a, h1⟩
  · rename_i q
    obtain ⟨a, h1, _⟩ := m.own i _ q
    exact ⟨a, h1⟩
  · cases h
/-- o[k] = v at the end -/
theorem put_end {i : Nat} {k d : D} {p : Addr} {v kv : V} {Q : Hp → Prop} (s : SS K w np σ R ρ H σ1 R1 ρ1 H1) (hp : σ1[i]? = some (some (.ref p))) (rd : Rep K w R1 H1 d v) (rk : Rep K w R1 H1 k kv) (e : putAt ρ1 i k d = some ρ2)
    (q : ∀ H' R', SS K w np σ R ρ H σ1 R' ρ2 H' → Q H') : rPut K w (.ref p) kv v H1 Q := by
  unfold putAt at e
  split at e
  · rename_i xs e2
    obtain ⟨n, e1, e⟩ := Option.bind_eq_some_iff.mp e
    obtain ⟨j, e3, e⟩ := Option.map_eq_some_iff.mp e
    subst e
    have ek : k = .int n := by
      unfold intOf at e1
      split at e1
      · cases e1; rfl
      · cases e1
    subst ek
    obtain rfl : kv = .int n := rk
    obtain ⟨p', q1, q2, vs, q3, q4⟩ := s.mt.own i _ e2
    rw [hp] at q1
    cases q1
    refine .inl ⟨p, vs, n, j, rfl, rfl, q3, by rw [← q4.length]; exact e3, ?_⟩
    have t : Top K w R1 H1 p (.lst xs) := ⟨vs, q3, q4⟩
    have tw : Top K w R1 (upd H1 p (.lst (vs.set j v))) p (.lst (xs.set j d)) := ⟨_, upd_same, Reps.set (rep_write q2 t rd) j (reps_write q2 t q4)⟩
    exact q _ R1 (s.trans (Step.write s.mt e2 hp tw).np)
  · rename_i ks vs e2
    split at e
    · rename_i hk
      cases e
      obtain ⟨p', q1, q2, q3⟩ := s.mt.own i _ e2
      rw [hp] at q1
      cases q1
      obtain ⟨xs, u, h1, h2, h3⟩ := id q3
      refine .inr ⟨p, ks, xs, u, k, rfl, h2, h3, hk.1, kyV_of rk (kOk_is hk.1), Nat.lt_of_lt_of_le hk.2 (most_line (Nat.le_refl _)), fun u' hd => ?_⟩
      have tw : Top K w R1 (upd H1 p u') p (.dct (putKs k ks) (putVs k d ks vs)) := by
        refine ⟨putVs k v ks xs, u', ?_, upd_same, hd _ (write_keepT q3)⟩
        have r1 := reps_write (o := u') q2 q3 h1
        have r2 := rep_write (o := u') q2 q3 rd
        unfold putVs
        split
        · exact repK_reps r2 r1
        · exact r1.append ⟨r2, trivial⟩
      exact q _ R1 (s.trans (Step.write s.mt e2 hp tw).np)
    · cases e
  · cases e
end

section
variable {X : Cx} {C : Cfg} {np : Nat} {a b c e tg iter elt ix : Expr} {ma mb mc me mit melt mix : E} {pos p spos : Pos} {st : Stmt} {x y z : Str} {i j k : Nat}
theorem asg_sub {o ix : Expr} {env : Env} (h : isSlice ix = false) : ∀ v, assign (.Subscript o ix pos) env v = (do
      let ov ← holding [v] (eval o env)
      let iv ← holding [v, ov] (eval ix env)
      standAt pos
      holding [v, ov, iv] (setItem ov iv v)
      release [v, ov, iv] []) := by
  intro v
  cases ix <;> first | rfl | cases h
theorem px_sput (hu : X.A.units + 65 < cLine) (hsl : isSlice ix = false) (hN : X.N[i]? = some x) (hv : Vis X.env.scope x) (hd : (x == ("__debug__" : Str)) = false) (hcd : (x == ("__classdict__" : Str)) = false) (he : PE X e (tD X.K X.w C me)) (hi : PE X ix (tD X.K X.w C mix))
    (hs : swapsWithSole [.Subscript (.Name x p) ix spos] e pos.line X.env = pure false) (hw : swappedStores [.Subscript (.Name x p) ix spos] e X.env = pure none) :
    PS X (.Assign [.Subscript (.Name x p) ix spos] e pos) (tS X.K X.w C np (.put i mix me)) := by
  refine PS.imp (ps_asg he (pg_sub (pe_var hN hv hd hcd) hi (set_put hu) (asg_sub hsl)) hs hw) fun D σ H h => ?_
  obtain ⟨R, ρ, o, ρ', m, e, q⟩ := h
  obtain ⟨⟨r, ρ1⟩, e1, e⟩ := Option.bind_eq_some_iff.mp (show (ev C me ρ).bind _ = some (o, ρ') from e)
  obtain ⟨⟨d, ρ2⟩, e2, e⟩ := Option.bind_eq_some_iff.mp e
  obtain ⟨us, e0, e⟩ := Option.bind_eq_some_iff.mp e
  obtain ⟨⟨rk, ρ3⟩, e3, e⟩ := Option.bind_eq_some_iff.mp e
  obtain ⟨⟨k, ρ4⟩, e4, e⟩ := Option.bind_eq_some_iff.mp e
  obtain ⟨ρ5, e5, e⟩ := Option.map_eq_some_iff.mp e
  cases e
  refine ⟨R, ρ, r, ρ1, m, e1, fun v H1 R1 s1 rr f => ?_⟩
  obtain ⟨R2, up, s2, rp⟩ := fix_step s1 rr f e2
  obtain ⟨l, q1⟩ := ownO_at s2.mt e0
  refine ⟨_, q1, R2, ρ2, rk, ρ3, s2.mt, e3, fun kv H3 R3 s3 rr3 f3 => ?_⟩
  obtain ⟨R4, up4, s4, rk4⟩ := fix_step s3 rr3 f3 e4
  exact put_end (np := np) (s2.trans s4).np q1 (s4.rep s2.mt rp) rk4 e5 fun H' R' s' => q σ H' R' s'

/-! ### unpacking -/
def tGu (K : PySem.W.Frag) (w : World) (C : Cfg) (np : Nat) (ts : List T1) : TGs := fun xs σ H Q => ∃ R ρ ds ρ', Mt K w R ρ σ H ∧ Reps K w R H ds xs ∧ unpAll C np ts ds ρ = some ρ' ∧
  ∀ σ' H' R', SS K w np σ R ρ H σ' R' ρ' H' → Q σ' H'
theorem px_unil : PGs X [] (tGu X.K X.w C np []) := by
  refine PGs.imp pgs_nil fun v σ H Q h => ?_
  obtain ⟨R, ρ, ds, ρ', m, r, e, q⟩ := h
  cases ds with
  | cons d ds => cases e
  | nil =>
    cases v with
    | cons _ _ => exact r.elim
    | nil =>
      cases e
      exact ⟨rfl, q σ H R (SS.refl m)⟩
theorem px_unm {es : List Expr} {ts : List T1} (hN : X.N.Nodup) (hi : X.N[i]? = some x) (hx : Loc X.env.scope x) (hf : X.fn x = true ∨ X.env.scope.names.lookup x = some .local) (h : PGs X es (tGu X.K X.w C np ts)) :
    PGs X (.Name x p :: es) (tGu X.K X.w C np (.nm i :: ts)) := by
  refine PGs.imp (pgs_cons (pg_name hN hi hx hf) h (asgEach_cons rfl)) fun v σ H Q h => ?_
  obtain ⟨R, ρ, ds, ρ', m, r, e, q⟩ := h
  cases ds with
  | nil => cases e
  | cons d ds =>
    cases v with
    | nil => exact r.elim
    | cons v vs =>
      obtain ⟨ρ1, e1, e⟩ := Option.bind_eq_some_iff.mp (show (store np ρ i (.val d)).bind _ = some ρ' from e)
      have key : np ≤ i ∧ i < ρ.length ∧ ρ1 = ρ.set i (.ro d) := by
        unfold PV.store at e1
        split at e1
        · rename_i hz
          cases e1
          exact ⟨hz.1, hz.2, rfl⟩
        · cases e1
      obtain ⟨h1, h2, rfl⟩ := key
      have s2 := (SS.refl (np := np) m).put_ro h2 h1 r.1
      exact ⟨v, vs, rfl, R, _, ds, ρ', s2.mt, r.2, e, fun σ' H' R' s' => q σ' H' R' (s2.trans s')⟩
theorem px_usub {es : List Expr} {ts : List T1} (hu : X.A.units + 65 < cLine) (hsl : isSlice ix = false) (hN : X.N[i]? = some x) (hv : Vis X.env.scope x) (hd : (x == ("__debug__" : Str)) = false) (hcd : (x == ("__classdict__" : Str)) = false) (hi : PE X ix (tD X.K X.w C mix)) (h : PGs X es (tGu X.K X.w C np ts)) :
    PGs X (.Subscript (.Name x p) ix spos :: es) (tGu X.K X.w C np (.sub i mix :: ts)) := by
  refine PGs.imp (pgs_cons (pg_sub (pe_var hN hv hd hcd) hi (set_put hu) (asg_sub hsl)) h rfl) fun v σ H Q h => ?_
  obtain ⟨R, ρ, ds, ρ', m, r, e, q⟩ := h
  cases ds with
  | nil => cases e
  | cons d ds =>
    cases v with
    | nil => exact r.elim
    | cons v vs =>
      obtain ⟨us, e0, e⟩ := Option.bind_eq_some_iff.mp (show (ownO ρ i).bind _ = some ρ' from e)
      obtain ⟨⟨rk, ρ3⟩, e3, e⟩ := Option.bind_eq_some_iff.mp e
      obtain ⟨⟨k, ρ4⟩, e4, e⟩ := Option.bind_eq_some_iff.mp e
      obtain ⟨ρ5, e5, e⟩ := Option.bind_eq_some_iff.mp e
      obtain ⟨l, q1⟩ := ownO_at m e0
      refine ⟨v, vs, rfl, _, q1, R, ρ, rk, ρ3, m, e3, fun kv H3 R3 s3 rr3 f3 => ?_⟩
      obtain ⟨R4, up4, s4, rk4⟩ := fix_step s3 rr3 f3 e4
      refine put_end (np := np) s4.np q1 (s4.rep m r.1) rk4 e5 fun H' R' s' => ?_
      exact ⟨R', ρ5, ds, ρ', s'.mt, s'.reps m r.2, e, fun σ2 H2 R2 s2 => q σ2 H2 R2 (s'.trans s2)⟩
theorem unpAll_len : ∀ {ts : List T1} {ds : List D} {ρ ρ' : Rho}, unpAll C np ts ds ρ = some ρ' → ts.length = ds.length
  | [], [], _, _, _ => rfl
  | .nm i :: ts, d :: ds, ρ, ρ', e => by
    obtain ⟨ρ1, e1, e⟩ := Option.bind_eq_some_iff.mp (show (store np ρ i (.val d)).bind _ = some ρ' from e)
    rw [List.length_cons, List.length_cons, unpAll_len e]
  | .sub i ix :: ts, d :: ds, ρ, ρ', e => by
    obtain ⟨us, e0, e⟩ := Option.bind_eq_some_iff.mp (show (ownO ρ i).bind _ = some ρ' from e)
    obtain ⟨⟨rk, ρ3⟩, e3, e⟩ := Option.bind_eq_some_iff.mp e
    obtain ⟨⟨k, ρ4⟩, e4, e⟩ := Option.bind_eq_some_iff.mp e
    obtain ⟨ρ5, e5, e⟩ := Option.bind_eq_some_iff.mp e
    rw [List.length_cons, List.length_cons, unpAll_len e]
  | [], _ :: _, _, _, e => by cases e
  | .nm _ :: _, [], _, _, e => by cases e
  | .sub _ _ :: _, [], _, _, e => by cases e
def isTgt : Expr → Bool
  | .Name .. => true
  | .Subscript .. => true
  | _ => false
theorem tgt_len {env : Env} : ∀ {es : List Expr}, es.all isTgt = true → (assignEach es env).length = es.length ∧ (assignEach es env).findIdx? (·.1) = none
  | [], _ => ⟨rfl, rfl⟩
  | e :: es, h => by
    rw [List.all_cons, Bool.and_eq_true] at h
    obtain ⟨h1, h2⟩ := tgt_len (env := env) h.2
    have key : assignEach (e :: es) env = (false, assign e env) :: assignEach es env := by
      cases e <;> first | rfl | cases h.1
    rw [key]
    refine ⟨by rw [List.length_cons, List.length_cons, h1], ?_⟩
    rw [List.findIdx?_cons, h2]
    rfl
theorem px_sunp {es : List Expr} {k : Nat} {tpos : Pos} {ts : List T1} (hc : X.calm = true) (he : PE X e (tD X.K X.w C me)) (h : PGs X es (tGu X.K X.w C np ts)) (hn : es.all isTgt = true) (hl : es.length = ts.length)
    (hs : swapsWithSole [.Tuple es k tpos] e pos.line X.env = pure false) (hw : swappedStores [.Tuple es k tpos] e X.env = pure none) :
    PS X (.Assign [.Tuple es k tpos] e pos) (tS X.K X.w C np (.unp ts me)) := by
  refine PS.imp (ps_asg he (pg_tup hc h rfl (tgt_len hn).2) hs hw) fun D σ H h => ?_
  obtain ⟨R, ρ, o, ρ', m, e, q⟩ := h
  obtain ⟨⟨r, ρ1⟩, e1, e⟩ := Option.bind_eq_some_iff.mp (show (ev C me ρ).bind _ = some (o, ρ') from e)
  obtain ⟨⟨d, ρ2⟩, e2, e⟩ := Option.bind_eq_some_iff.mp e
  refine ⟨R, ρ, r, ρ1, m, e1, fun v H1 R1 s1 rr f => ?_⟩
  obtain ⟨R2, up, s2, rp⟩ := fix_step s1 rr f e2
  have key : ∃ a xs ds ρ3, v = .ref a ∧ SqT X.K H1 a xs ∧ Reps X.K X.w R2 H1 ds xs ∧ unpAll C np ts ds ρ2 = some ρ3 ∧ o = .nx ∧ ρ' = ρ3 := by
    dsimp only at e
    split at e
    · obtain ⟨ρ3, e3, e⟩ := Option.map_eq_some_iff.mp e
      cases e
      obtain ⟨a, xs, ea, h1, h2⟩ := rp
      exact ⟨a, xs, _, _, ea, h1.sq, h2, e3, rfl, rfl⟩
    · obtain ⟨ρ3, e3, e⟩ := Option.map_eq_some_iff.mp e
      cases e
      obtain ⟨a, xs, ea, h1, h2⟩ := rp
      exact ⟨a, xs, _, _, ea, h1, h2, e3, rfl, rfl⟩
    · cases e
  obtain ⟨a, xs, ds, ρ3, rfl, h1, h2, e3, rfl, rfl⟩ := key
  exact ⟨a, xs, rfl, h1, by rw [(tgt_len hn).1, hl, ← h2.length, unpAll_len e3], R2, ρ2, ds, ρ', s2.mt, h2, e3, fun σ' H' R' s' => q σ' H' R' ((s2.np (mp := np)).trans s')⟩

/-! ### a tuple that is unpacked at once into names: the tuple is forgotten -/
def gSet (is : List Nat) : TGs := fun xs σ H Q => xs.length = is.length ∧ Q (setV σ is xs) H
theorem pg_snil : PGs X [] (gSet []) := PGs.imp pgs_nil fun v σ H Q h => by
  obtain ⟨h1, h2⟩ := h
  cases v with
  | nil => exact ⟨rfl, h2⟩
  | cons _ _ => cases h1
theorem pg_scons {es : List Expr} {is : List Nat} (hN : X.N.Nodup) (hi : X.N[i]? = some x) (hx : Loc X.env.scope x) (hf : X.fn x = true ∨ X.env.scope.names.lookup x = some .local) (h : PGs X es (gSet is)) :
    PGs X (.Name x p :: es) (gSet (i :: is)) := by
  refine PGs.imp (pgs_cons (pg_name hN hi hx hf) h (asgEach_cons rfl)) fun v σ H Q h => ?_
  obtain ⟨h1, h2⟩ := h
  cases v with
  | nil => cases h1
  | cons v vs => exact ⟨v, vs, rfl, by simpa using h1, h2⟩
theorem px_spart {ts es : List Expr} {k k2 : Nat} {tpos pt2 : Pos} {is : List Nat} {mes : List E} (hc : X.calm = true) (he : PA X es (tA X.K X.w C mes)) (h : PGs X ts (gSet is)) (hn : ts.all isTgt = true) (hl : ts.length = is.length) (h8 : is.length ≤ 1000)
    (hs : swapsWithSole [.Tuple ts k tpos] (.Tuple es k2 pt2) pos.line X.env = pure false) (hw : swappedStores [.Tuple ts k tpos] (.Tuple es k2 pt2) X.env = pure none) :
    PS X (.Assign [.Tuple ts k tpos] (.Tuple es k2 pt2) pos) (tS X.K X.w C np (.par is mes)) := by
  refine PS.imp (ps_asg (PVU.pe_tupF he) (pg_tup hc h rfl (tgt_len hn).2) hs hw) fun D σ H h => ?_
  obtain ⟨R, ρ, o, ρ', m, e, q⟩ := h
  obtain ⟨⟨rs, ρ1⟩, e1, e⟩ := Option.bind_eq_some_iff.mp (show (evs C mes ρ).bind _ = some (o, ρ') from e)
  obtain ⟨⟨us, ρ2⟩, e2, e⟩ := Option.bind_eq_some_iff.mp e
  obtain ⟨ρ3, e3, e⟩ := Option.map_eq_some_iff.mp e
  cases e
  refine ⟨R, ρ, rs, ρ1, m, e1, fun vs H1 R1 s1 rr f => ?_⟩
  obtain ⟨R2, s2, t2, r2, f2⟩ := SS.fixAll (np := np) s1.np rr f e2
  have hv : vs.length = is.length := r2.length.trans (px_spar2.storeAll_len e3)
  refine ⟨by rw [hv, sizeLine_eq]; omega, fun a ob n no => ?_⟩
  have st := Step.lay (o := .frz ob (.tup vs)) s2.mt n
  have s3 := SS.storeAll (s2.trans st.np) (RRs.step s2.mt st r2) f2 (fixAll_get e2).1 e3
  exact ⟨a, vs, rfl, .inl (.inr ⟨ob, upd_same⟩), by rw [(tgt_len hn).1, hl, hv], hv, q _ _ R2 s3⟩

/-! ### a comprehension that is stored on its own line -/
theorem asg_end {D : Ends} {σ : St} {H : Hp} (h : tS X.K X.w C np (.asg i me) D σ H) : tD X.K X.w C me σ H fun v H1 => D.nx (σ.set i (some v)) H1 := by
  obtain ⟨R, ρ, o, ρ', m, e, q⟩ := h
  obtain ⟨⟨r, ρ1⟩, e1, e⟩ := Option.bind_eq_some_iff.mp (show (ev C me ρ).bind _ = some (o, ρ') from e)
  obtain ⟨ρ2, e2, e⟩ := Option.map_eq_some_iff.mp e
  cases e
  refine ⟨R, ρ, r, ρ1, m, e1, fun v H1 R1 s1 rr f => ?_⟩
  obtain ⟨R2, s2⟩ := SS.store (np := np) s1.np rr f e2
  exact q _ H1 R2 s2
theorem px_slc1 {py : Pos} {t : Tg} {mc : Option E} {ifs : List Expr} {scope : Scope} {own : List (Str × Nat)} (hc : X.calm = true) (hN : X.N.Nodup) (hy : X.N[i]? = some y) (hyl : X.env.scope.names.lookup y = some .local)
    (hsw : swapsWith (.ListComp elt [⟨tg, iter, ifs, 0⟩] scope pos) (some (.Name y py)) spos.line X.env = pure true) (hi : PI X tg iter (tI X.K X.w C mit)) (ok : BlkOk X.N X.env.scope scope own) (ho : own.map (·.2) = t.slots)
    (hg : ∀ (s : Shared) (H : Hp) (C : Addr) (cl : List (Str × Addr)) (fp : List Addr), PG (X.blk s H scope (compEnvC scope cl C X.env) fp) tg (tG X.K X.w 0 t))
    (ht : ∀ (s : Shared) (H : Hp) (C' : Addr) (cl : List (Str × Addr)) (fp : List Addr), PTs (X.blk s H scope (compEnvC scope cl C' X.env) fp) ifs (tTo X.K X.w C mc))
    (he : ∀ (s : Shared) (H : Hp) (C' : Addr) (cl : List (Str × Addr)) (fp : List Addr), PE (X.blk s H scope (compEnvC scope cl C' X.env) fp) elt (tD X.K X.w C melt)) (hs : ∀ x, foldedSetIterable iter X.env x = pure x) :
    PS X (.Assign [.Name y py] (.ListComp elt [⟨tg, iter, ifs, 0⟩] scope pos) spos) (tS X.K X.w C np (.asg i (.lc melt t mit mc))) := by
  refine PS.imp (ps_setLc hc hN hy hyl hsw hi ok hg ht he hs) fun D σ H h => ?_
  rw [ho]
  exact lc_end (asg_end h)

/-! ### loops -/
theorem px_slop {t : Tg} {body : List Stmt} {mb : List S} (hp : PassesOwn (model X.prog X.w) X.A X.env X.xe) (hc : X.calm = true) (hi : PI X tg iter (tI X.K X.w C mit)) (hg : PG X tg (tG X.K X.w np t)) (hb : PSs X body (tSs X.K X.w C np mb))
    (hs : ∀ x, foldedSetIterable iter X.env x = pure x) : PS X (.For tg iter body [] pos) (tS X.K X.w C np (.lop t mit mb)) := by
  refine PS.imp (ps_for hp hc hi hg hb hs) fun D σ H h => ?_
  obtain ⟨R, ρ, o, ρ', m, e, q⟩ := h
  obtain ⟨⟨xs, ρ1⟩, e1, e⟩ := Option.bind_eq_some_iff.mp (show (evi C mit ρ).bind _ = some (o, ρ') from e)
  refine ⟨R, ρ, xs, ρ1, m, e1, fun J H1 R1 s1 it => ?_⟩
  refine ⟨fun i k σ2 H2 => k = xs.length - i ∧ i ≤ xs.length ∧ ∃ R2 ρ2, SS X.K X.w np σ R1 ρ1 H1 σ2 R2 ρ2 H2 ∧ forLoop (fun x ρ => (bindT np ρ t x).bind fun ρ2 => PV.execs C np mb ρ2) (xs.drop i) ρ2 = some (o, ρ'),
    ⟨xs.length, rfl, Nat.zero_le _, R1, ρ1, SS.refl s1.mt, e⟩, fun i k σ2 H2 hW => ?_⟩
  obtain ⟨hk, hi, R2, ρ2, s2, el⟩ := hW
  obtain ⟨go, stop, yl⟩ := it R2 H2 s2.up (s1.mt.keepT s2.fr) (s1.mt.keepK s2.fr)
  have s12 : SS X.K X.w np σ R ρ H σ2 R2 ρ2 H2 := s1.np.trans s2
  by_cases hi2 : i < xs.length
  · refine .inr ⟨go i hi2, fun σ' H' => i + 1 ≤ xs.length ∧ ∃ R2 ρ2, SS X.K X.w np σ R1 ρ1 H1 σ' R2 ρ2 H' ∧ forLoop (fun x ρ => (bindT np ρ t x).bind fun ρ2 => PV.execs C np mb ρ2) (xs.drop (i + 1)) ρ2 = some (o, ρ'),
      fun σ' H' h => ⟨xs.length - (i + 1), by omega, rfl, h⟩, fun x H' y => ?_⟩
    obtain ⟨hy, rx⟩ := yl i x H' _ (List.getElem?_eq_getElem hi2) y
    rw [drop_get hi2] at el
    obtain ⟨⟨o1, ρ4⟩, e3, el⟩ := Option.bind_eq_some_iff.mp (show ((bindT np ρ2 t xs[i]).bind fun ρ2 => PV.execs C np mb ρ2).bind _ = some (o, ρ') from el)
    obtain ⟨ρ3, e4, e3⟩ := Option.bind_eq_some_iff.mp e3
    have s3 : SS X.K X.w np σ2 R2 ρ2 H2 σ2 R2 ρ2 H' := SS.yld s2.mt hy
    refine ⟨R2, ρ2, xs[i], ρ3, s3.mt, rx, e4, fun σ4 s4 _ _ _ => ⟨R2, ρ3, o1, ρ4, s4.mt, e3, fun σ5 H5 R5 s5 => ?_⟩⟩
    have s25 := (s2.trans s3).trans (s4.trans s5)
    cases o1 with
    | nx => exact ⟨hi2, R5, ρ4, s25, el⟩
    | cnt => exact ⟨hi2, R5, ρ4, s25, el⟩
    | brk =>
      cases el
      exact q σ5 H5 R5 ((s1.np).trans s25)
    | ret r =>
      cases el
      exact fun v rr f => q σ5 H5 R5 ((s1.np).trans s25) v rr (f.back fun b h => s3.nw b (s12.nw b h))
  · refine .inl ⟨stop i (by omega), ?_⟩
    rw [List.drop_eq_nil_of_le (by omega)] at el
    cases el
    exact q σ2 H2 R2 s12
theorem px_swhl {body : List Stmt} {mb : List S} (hp : PassesOwn (model X.prog X.w) X.A X.env X.xe) (hc : PT X c (tT X.K X.w C mc)) (hb : PSs X body (tSs X.K X.w C np mb)) : PS X (.While c body [] pos) (tS X.K X.w C np (.whl mc mb)) := by
  refine PS.imp (ps_while hp hc hb) fun D σ H h => ?_
  obtain ⟨R, ρ, o, ρ', m, e, q⟩ := h
  refine ⟨fun n σ2 H2 => ∃ R2 ρ2, SS X.K X.w np σ R ρ H σ2 R2 ρ2 H2 ∧ whileLoop (tst C mc) (PV.execs C np mb) n ρ2 = some (o, ρ'), ⟨C.fuel, R, ρ, SS.refl m, e⟩, fun n σ2 H2 hW => ?_⟩
  obtain ⟨R2, ρ2, s2, el⟩ := hW
  cases n with
  | zero => cases el
  | succ n =>
    obtain ⟨⟨b, ρ3⟩, e1, el⟩ := Option.bind_eq_some_iff.mp (show (tst C mc ρ2).bind _ = some (o, ρ') from el)
    refine ⟨R2, ρ2, b, ρ3, s2.mt, e1, fun H3 R3 s3 => ?_⟩
    have s23 : SS X.K X.w np σ R ρ H σ2 R3 ρ3 H3 := s2.trans s3.np
    cases b with
    | false =>
      cases el
      exact q σ2 H3 R3 s23
    | true =>
      obtain ⟨⟨o1, ρ4⟩, e3, el⟩ := Option.bind_eq_some_iff.mp (show (PV.execs C np mb ρ3).bind _ = some (o, ρ') from el)
      refine ⟨fun σ' H' => ∃ R2 ρ2, SS X.K X.w np σ R ρ H σ' R2 ρ2 H' ∧ whileLoop (tst C mc) (PV.execs C np mb) n ρ2 = some (o, ρ'), fun σ' H' h => ⟨n, Nat.lt_succ_self n, h⟩, R3, ρ3, o1, ρ4, s3.mt, e3, fun σ5 H5 R5 s5 => ?_⟩
      have s25 := s23.trans s5
      cases o1 with
      | nx => exact ⟨R5, ρ4, s25, el⟩
      | cnt => exact ⟨R5, ρ4, s25, el⟩
      | brk =>
        cases el
        exact q σ5 H5 R5 s25
      | ret r =>
        cases el
        exact fun v rr f => q σ5 H5 R5 s25 v rr (f.back s23.nw)
end
end PV

/-! PV, part Q: calls of the program's own functions. -/
namespace PV
open PySem PySem.Spec PyProof.Rows L2

section
variable {K : PySem.W.Frag} {w : World} {C : Cfg} {np : Nat} {R R' R0 R1 R2 : Addr → Prop} {ρ ρ' ρ0 ρ1 ρ2 ρ3 : Rho} {σ σ' σ0 σ1 σ2 : St} {H H' H0 H1 H2 : Hp}
/-- what a function of the program promises: what the interpreter computes -/
def spF (K : PySem.W.Frag) (w : World) (p : Pg) (fuel k : Nat) (x : Str) : Sp := fun vs H Q E => ∃ R as r fs, Mt K w R as (vs.map some) H ∧ (cfg p fuel k).call x as = some (r, fs) ∧ isAl r = false ∧
  ∀ v H' R', Step K w (vs.map some) R as H R' fs H' → RR K w R' fs (vs.map some) H' v r → FrN H v r → Q v H'

/-! ### the callee's side -/
theorem un_get {m : Nat} {i : Nat} {s : Sl} (h : (ρ ++ List.replicate m Sl.un)[i]? = some s) (n : s ≠ .un) : ρ[i]? = some s := by
  by_cases hi : i < ρ.length
  · rwa [List.getElem?_append_left hi] at h
  · rw [List.getElem?_append_right (by omega)] at h
    rw [List.getElem?_replicate] at h
    split at h
    · cases h; exact absurd rfl n
    · cases h
theorem st_get {m i : Nat} {v : V} (h : σ[i]? = some (some v)) : (σ ++ List.replicate m none)[i]? = some (some v) := by
  rw [List.getElem?_append_left (List.getElem?_eq_some_iff.mp h).1]
  exact h
theorem st_back {m i : Nat} {v : V} (h : (σ ++ List.replicate m none)[i]? = some (some v)) : σ[i]? = some (some v) := by
  by_cases hi : i < σ.length
  · rwa [List.getElem?_append_left hi] at h
  · rw [List.getElem?_append_right (by omega), List.getElem?_replicate] at h
    split at h <;> cases h
theorem Mt.ext (m : Mt K w R ρ σ H) (n : Nat) : Mt K w R (ρ ++ List.replicate n .un) (σ ++ List.replicate n none) H := by
  refine ⟨by simp [m.len], m.trk, fun i d h => ?_, fun i d h => ?_, fun i j d e a h1 h2 h3 h4 => ?_⟩
  · obtain ⟨v, q1, q2⟩ := m.ro i d (un_get h (fun z => by cases z))
    exact ⟨v, st_get q1, q2⟩
  · obtain ⟨v, q1, q2⟩ := m.own i d (un_get h (fun z => by cases z))
    exact ⟨v, st_get q1, q2⟩
  · exact m.inj i j d e a (un_get h1 (fun z => by cases z)) (un_get h2 (fun z => by cases z)) (st_back h3) (st_back h4)
theorem ext_Own {n : Nat} {b : Addr} (h : Own (ρ ++ List.replicate n .un) (σ ++ List.replicate n none) b) : Own ρ σ b := by
  obtain ⟨i, d, h1, h2⟩ := h
  exact ⟨i, d, un_get h1 (fun z => by cases z), st_back h2⟩
theorem take_get {α : Type} {l : List α} {n i : Nat} {x : α} (h : (l.take n)[i]? = some x) : i < n ∧ l[i]? = some x := by
  rw [List.getElem?_take] at h
  split at h
  · exact ⟨by assumption, h⟩
  · cases h
/-- what the caller sees of a callee's names -/
theorem SS.trunc {n : Nat} (m : Mt K w R ρ σ H) (s : SS K w ρ.length (σ ++ List.replicate n none) R (ρ ++ List.replicate n .un) H σ' R' ρ' H') : Step K w σ R ρ H R' (ρ'.take ρ.length) H' := by
  have sg : ∀ {i : Nat}, i < ρ.length → σ'[i]? = σ[i]? := fun {i} hi => by
    rw [s.pm i hi, List.getElem?_append_left (by rw [← m.len]; exact hi)]
  have ow : ∀ {b : Addr}, Own (ρ'.take ρ.length) σ b → Own ρ' σ' b := fun {b} ⟨i, d, h1, h2⟩ => by
    obtain ⟨hi, h1⟩ := take_get h1
    exact ⟨i, d, h1, by rw [sg hi]; exact h2⟩
  have hl : ρ.length ≤ ρ'.length := by
    rw [s.mt.len]
    have h1 := s.mt.len
    by_cases z : ρ.length ≤ σ'.length
    · exact z
    · have q := sg (i := σ'.length) (by omega)
      rw [List.getElem?_eq_none (Nat.le_refl _)] at q
      have := List.getElem?_eq_none_iff.mp q.symm
      have := m.len
      omega
  refine ⟨s.up, ⟨by rw [List.length_take, ← m.len]; omega, s.mt.trk, fun i d h => ?_, fun i d h => ?_, fun i j d e a h1 h2 h3 h4 => ?_⟩, fun b o h n => s.fr b o h fun z => n (ext_Own z), fun b h => ?_, fun b h => ?_, s.nw, fun _ _ => rfl⟩
  · obtain ⟨hi, h⟩ := take_get h
    obtain ⟨v, q1, q2⟩ := s.mt.ro i d h
    exact ⟨v, by rw [← sg hi]; exact q1, q2⟩
  · obtain ⟨hi, h⟩ := take_get h
    obtain ⟨v, q1, q2⟩ := s.mt.own i d h
    exact ⟨v, by rw [← sg hi]; exact q1, q2⟩
  · obtain ⟨hi, h1⟩ := take_get h1
    obtain ⟨hj, h2⟩ := take_get h2
    exact s.mt.inj i j d e a h1 h2 (by rw [sg hi]; exact h3) (by rw [sg hj]; exact h4)
  · rcases s.bd b h with z | z | z
    · exact .inl z
    · exact .inr (.inl z)
    · exact .inr (.inr (ext_Own z))
  · rcases s.mo b (ow h) with z | z
    · exact .inl (ext_Own z)
    · exact .inr z
theorem finOk_get {as fs : List Sl} {i : Nat} {d : D} {f : Sl} (h : finOk as fs = true) (e : as[i]? = some (.own d)) (e2 : fs[i]? = some f) : (∃ e, f = .own e) ∨ (∃ xs, f = .ro (.lst xs)) ∨ (∃ xs ys, f = .ro (.dct xs ys)) ∨ (∃ xs ys, f = .ro (.dcf xs ys)) ∨ ∃ xs, f = .ro (.set xs) := by
  unfold finOk at h
  rw [List.all_eq_true] at h
  have hz : (as.zip fs)[i]? = some (.own d, f) := by rw [List.getElem?_zip_eq_some]; exact ⟨e, e2⟩
  have q := h _ (List.mem_of_getElem? hz)
  cases f with
  | un => cases q
  | own e => exact .inl ⟨e, rfl⟩
  | ro x =>
    cases x with
    | lst xs => exact .inr (.inl ⟨xs, rfl⟩)
    | dct xs ys => exact .inr (.inr (.inl ⟨xs, ys, rfl⟩))
    | dcf xs ys => exact .inr (.inr (.inr (.inl ⟨xs, ys, rfl⟩)))
    | set xs => exact .inr (.inr (.inr (.inr ⟨xs, rfl⟩)))
    | _ => cases q
/-- an object of a name of the callee's own that is handed back is new -/
theorem ret_new {n : Nat} (m : Mt K w R ρ σ H) (s : SS K w ρ.length (σ ++ List.replicate n none) R (ρ ++ List.replicate n .un) H σ' R' ρ' H') (hf : finOk ρ (ρ'.take ρ.length) = true) {i : Nat} {d : D} {a : Addr}
    (hi : ρ.length ≤ i) (h : ρ'[i]? = some (.own d)) (ha : σ'[i]? = some (some (.ref a))) : H a = none := by
  have t := SS.trunc m s
  rcases s.mo a ⟨i, d, h, ha⟩ with z | z
  · obtain ⟨j, e, h1, h2⟩ := ext_Own z
    have hj : j < ρ.length := (List.getElem?_eq_some_iff.mp h1).1
    have hs : σ'[j]? = some (some (.ref a)) := by rw [s.pm j hj]; exact st_get h2
    obtain ⟨a', q1, q2, q3⟩ := s.mt.own i d h
    rw [ha] at q1
    cases q1
    have hl : j < (ρ'.take ρ.length).length := by rw [t.mt.len, ← m.len]; exact hj
    obtain ⟨f, hf2⟩ : ∃ f, (ρ'.take ρ.length)[j]? = some f := ⟨_, List.getElem?_eq_getElem hl⟩
    obtain ⟨_, hf3⟩ := take_get hf2
    have rd : ∀ {x : D}, f = .ro x → Rep K w R' H' x (.ref a) := fun {x} e => by
      subst e
      obtain ⟨v, e1, e2⟩ := s.mt.ro j x hf3
      rw [hs] at e1
      cases e1
      exact e2
    rcases finOk_get hf h1 hf2 with ⟨x, rfl⟩ | ⟨xs, e⟩ | ⟨xs, ys, e⟩ | ⟨xs, ys, e⟩ | ⟨xs, e⟩
    · have := s.mt.inj i j d x a h hf3 ha hs
      omega
    · obtain ⟨b, vs, e1, e2, _⟩ := rd e
      cases e1
      exact absurd e2 q2
    · obtain ⟨b, vs, _, e1, e2, _⟩ := rd e
      cases e1
      exact absurd e2 q2
    · obtain ⟨b, vs, _, _, e1, e2, _⟩ := rd e
      cases e1
      exact absurd e2 q2
    · obtain ⟨b, S, k, e1, e2, _⟩ := rd e
      cases e1
      exact absurd e2 q2
  · exact z
theorem body_end {p : Pg} {fuel k : Nat} {x : Str} {f : Fd} {vs : List V} {Q : VK} {E : XK} {N : List Str} {n : Nat} (hf : p.fn x = some f) (hN : f.n = N.length) (h : spF K w p fuel (k + 1) x vs H Q E) (hn : n = f.ps.length) :
    tSs K w (cfg p fuel k) n f.body { nx := fun _ H' => Q .non H', rt := Q } (L2.start N vs) H := by
  obtain ⟨R, as, r, fs, m, e, na, q⟩ := h
  have e : ((p.fn x).bind fun fd => run (cfg p fuel k) fd as) = some (r, fs) := e
  rw [hf] at e
  have e : run (cfg p fuel k) f as = some (r, fs) := e
  unfold run at e
  split at e
  · rename_i hl
    obtain ⟨⟨o, ρ⟩, e1, e⟩ := Option.bind_eq_some_iff.mp e
    have hv : vs.length = as.length := by have := m.len; simpa using this.symm
    have hn' : n = as.length := by rw [hn, hl]
    subst hn'
    have es : L2.start N vs = vs.map some ++ List.replicate (f.n - as.length) none := by unfold L2.start; rw [hN, hv]
    rw [es]
    refine ⟨R, _, o, ρ, m.ext _, e1, fun σ' H' R' s => ?_⟩
    have t := SS.trunc m s
    cases o with
    | nx =>
      cases e
      exact q .non H' R' t rfl trivial
    | brk => cases e
    | cnt => cases e
    | ret r1 =>
      obtain ⟨⟨r2, ρ1⟩, e2, e⟩ := Option.bind_eq_some_iff.mp (show (retOf as.length ρ r1).bind _ = some (r, fs) from e)
      dsimp only at e
      split at e
      · rename_i hfin
        cases e
        intro v rr fr
        cases r1 with
        | val d =>
          cases e2
          exact q v H' R' t rr trivial
        | fr d =>
          cases e2
          obtain ⟨a, ea, n1, n2, tp⟩ := rr
          refine q v H' R' t ⟨a, ea, n1, fun z => n2 ?_, tp⟩ fr
          obtain ⟨j, e', h1, h2⟩ := z
          obtain ⟨hj, h1⟩ := take_get h1
          exact ⟨j, e', h1, by rw [s.pm j hj]; exact st_get h2⟩
        | al i =>
          have rr : σ'[i]? = some (some v) := rr
          unfold retOf at e2
          dsimp only at e2
          split at e2
          · rename_i d hd
            split at e2
            · rename_i hi
              cases e2
              obtain ⟨a, q1, q2, q3⟩ := s.mt.own i d hd
              rw [rr] at q1
              cases q1
              have na := ret_new m s hfin hi hd rr
              refine q _ H' R' t ⟨a, rfl, q2, fun z => ?_, q3⟩ (fun b eb => by cases eb; exact na)
              obtain ⟨j, e', h1, h2⟩ := z
              obtain ⟨hj, h1⟩ := take_get h1
              have := s.mt.inj i j d e' a hd h1 rr (by rw [s.pm j hj]; exact st_get h2)
              omega
            · cases e2
              have e3 : PV.fix ρ (.al i) = some (d, ρ.set i (.ro d)) := by
                unfold PV.fix
                dsimp only
                rw [hd]
              obtain ⟨R2, up, s2, rp⟩ := SS.fix (v := v) (r := .al i) s rr trivial e3
              exact q v H' R2 (SS.trunc m s2) rp trivial
          · rename_i d hd
            cases e2
            have e3 : PV.fix ρ (.al i) = some (d, ρ) := by
              unfold PV.fix
              dsimp only
              rw [hd]
            obtain ⟨R2, up, s2, rp⟩ := SS.fix (v := v) (r := .al i) s rr trivial e3
            exact q v H' R2 (SS.trunc m s2) rp trivial
          · cases e2
      · cases e
  · cases e
end
end PV

/-! PV, part R: calls of the program's own functions, the caller's side. -/
namespace PV
open PySem PySem.Spec PyProof.Rows L2

section
variable {K : PySem.W.Frag} {w : World} {C : Cfg} {np : Nat} {R R' R0 R1 R2 : Addr → Prop} {ρ ρ' ρ0 ρ1 ρ2 ρ3 : Rho} {σ σ' σ0 σ1 σ2 : St} {H H' H0 H1 H2 : Hp}
theorem permV_get {α : Type} {xs : List α} : ∀ {perm : List Nat} {k : Nat}, (∀ i ∈ perm, i < xs.length) → (permV xs perm)[k]? = perm[k]?.bind fun i => xs[i]?
  | [], k, _ => by simp [permV]
  | i :: perm, k, h => by
    have hi := h i List.mem_cons_self
    have e : permV xs (i :: perm) = xs[i] :: permV xs perm := by
      unfold permV
      rw [List.filterMap_cons, List.getElem?_eq_getElem hi]
    rw [e]
    cases k with
    | zero => simp [List.getElem?_eq_getElem hi]
    | succ k => simpa using permV_get (k := k) fun j hj => h j (List.mem_cons_of_mem _ hj)
theorem permV_len {α : Type} {xs : List α} : ∀ {perm : List Nat}, (∀ i ∈ perm, i < xs.length) → (permV xs perm).length = perm.length
  | [], _ => rfl
  | i :: perm, h => by
    have hi := h i List.mem_cons_self
    have e : permV xs (i :: perm) = xs[i] :: permV xs perm := by
      unfold permV
      rw [List.filterMap_cons, List.getElem?_eq_getElem hi]
    rw [e, List.length_cons, List.length_cons, permV_len fun j hj => h j (List.mem_cons_of_mem _ hj)]
/-- results by places -/
structure RRq (K : PySem.W.Frag) (w : World) (R : Addr → Prop) (ρ : Rho) (σ : St) (H0 H : Hp) (vs : List V) (rs : List Rs) : Prop where
  len : vs.length = rs.length
  rr : ∀ (i : Nat) (r : Rs) (v : V), rs[i]? = some r → vs[i]? = some v → RR K w R ρ σ H v r
  fn : ∀ (i : Nat) (r : Rs) (v : V), rs[i]? = some r → vs[i]? = some v → FrN H0 v r
  ne : ∀ (i j : Nat) (d d' : D) (v : V), rs[i]? = some (.fr d) → rs[j]? = some (.fr d') → vs[i]? = some v → vs[j]? = some v → i = j
theorem frNs_ne : ∀ {vs : List V} {rs : List Rs}, FrNs H vs rs → ∀ (i j : Nat) (d d' : D) (v : V), rs[i]? = some (.fr d) → rs[j]? = some (.fr d') → vs[i]? = some v → vs[j]? = some v → i = j
  | v :: vs, r :: rs, h, 0, 0, _, _, _, _, _, _, _ => rfl
  | v :: vs, r :: rs, h, 0, j + 1, d, d', u, h1, h2, h3, h4 => by
    simp at h1 h3
    subst h3
    exact absurd (by simpa using h4) (h.2.2 d h1 j d' (by simpa using h2))
  | v :: vs, r :: rs, h, i + 1, 0, d, d', u, h1, h2, h3, h4 => by
    simp at h2 h4
    subst h4
    exact absurd (by simpa using h3) (h.2.2 d' h2 i d (by simpa using h1))
  | v :: vs, r :: rs, h, i + 1, j + 1, d, d', u, h1, h2, h3, h4 => by
    rw [frNs_ne (vs := vs) (rs := rs) h.2.1 i j d d' u (by simpa using h1) (by simpa using h2) (by simpa using h3) (by simpa using h4)]
  | [], _, _, _, _, _, _, _, _, _, h3, _ => by simp at h3
  | _ :: _, [], _, _, _, _, _, _, h1, _, _, _ => by simp at h1
theorem RRq.of {vs : List V} {rs : List Rs} (h : RRs K w R ρ σ H vs rs) (f : FrNs H0 vs rs) : RRq K w R ρ σ H0 H vs rs where
  len := h.length
  rr := fun i r v h1 h2 => by
    obtain ⟨v', e1, e2⟩ := h.get h1
    rw [h2] at e1
    cases e1
    exact e2
  fn := fun i r v h1 h2 => f.get h1 h2
  ne := frNs_ne f
theorem RRq.perm {vs : List V} {rs rs' : List Rs} {perm : List Nat} (h : RRq K w R ρ σ H0 H vs rs) (e : permute rs perm = some rs') : RRq K w R ρ σ H0 H (permV vs perm) rs' := by
  unfold permute at e
  split at e
  · rename_i hp
    obtain ⟨nd, hl, hb⟩ := hp
    cases e
    have hb' : ∀ i ∈ perm, i < vs.length := fun i hi => by rw [h.len]; exact hb i hi
    have sp : ∀ {α : Type} {xs : List α} {k : Nat} {x : α}, (∀ i ∈ perm, i < xs.length) → (permV xs perm)[k]? = some x → ∃ i, perm[k]? = some i ∧ xs[i]? = some x := fun {α xs k x} hx e => by
      rw [permV_get hx] at e
      exact Option.bind_eq_some_iff.mp e
    refine ⟨by rw [permV_len hb', permV_len hb], fun i r v h1 h2 => ?_, fun i r v h1 h2 => ?_, fun i j d d' v h1 h2 h3 h4 => ?_⟩
    · obtain ⟨a, a1, a2⟩ := sp hb h1
      obtain ⟨b, b1, b2⟩ := sp hb' h2
      rw [a1] at b1
      cases b1
      exact h.rr a r v a2 b2
    · obtain ⟨a, a1, a2⟩ := sp hb h1
      obtain ⟨b, b1, b2⟩ := sp hb' h2
      rw [a1] at b1
      cases b1
      exact h.fn a r v a2 b2
    · obtain ⟨a, a1, a2⟩ := sp hb h1
      obtain ⟨b, b1, b2⟩ := sp hb h2
      obtain ⟨a', a3, a4⟩ := sp hb' h3
      obtain ⟨b', b3, b4⟩ := sp hb' h4
      rw [a1] at a3
      cases a3
      rw [b1] at b3
      cases b3
      have := h.ne a b d d' v a2 b2 a4 b4
      subst this
      obtain ⟨i1, i2⟩ := List.getElem?_eq_some_iff.mp a1
      obtain ⟨j1, j2⟩ := List.getElem?_eq_some_iff.mp b1
      exact (List.getElem_inj nd).mp (i2.trans j2.symm)
  · cases e

/-! ### as arguments -/
theorem argsOf_get : ∀ {rs : List Rs} {as : List Sl}, argsOf ρ rs = some as → as.length = rs.length ∧ ∀ (k : Nat) (s : Sl), as[k]? = some s → ∃ r, rs[k]? = some r ∧ argOf ρ r = some s
  | [], as, e => by
    cases e
    exact ⟨rfl, fun k s h => by simp at h⟩
  | r :: rs, as, e => by
    obtain ⟨a, e1, e⟩ := Option.bind_eq_some_iff.mp (show (argOf ρ r).bind _ = some as from e)
    obtain ⟨as', e2, e⟩ := Option.map_eq_some_iff.mp e
    subst e
    obtain ⟨h1, h2⟩ := argsOf_get e2
    refine ⟨by rw [List.length_cons, List.length_cons, h1], fun k s h => ?_⟩
    cases k with
    | zero =>
      simp at h
      subst h
      exact ⟨r, rfl, e1⟩
    | succ k => exact h2 k s (by simpa using h)
theorem mem_ownIx {l : Nat} {d : D} (hd : ρ[l]? = some (.own d)) : ∀ {rs : List Rs} {k : Nat}, rs[k]? = some (.al l) → l ∈ ownIx ρ rs
  | [], _, h => by simp at h
  | r :: rs, 0, h => by
    simp at h
    subst h
    unfold ownIx
    rw [hd]
    exact List.mem_cons_self
  | r :: rs, k + 1, h => by
    have ih := mem_ownIx hd (rs := rs) (k := k) (by simpa using h)
    unfold ownIx
    split
    · rename_i q; cases q
    · rename_i q
      cases q
      split
      · exact List.mem_cons_of_mem _ ih
      · exact ih
    · rename_i q
      cases q
      exact ih
theorem ownIx_inj {l : Nat} {d : D} (hd : ρ[l]? = some (.own d)) : ∀ {rs : List Rs} {i j : Nat}, (ownIx ρ rs).Nodup → rs[i]? = some (.al l) → rs[j]? = some (.al l) → i = j
  | [], _, _, _, h, _ => by simp at h
  | r :: rs, 0, 0, _, _, _ => rfl
  | r :: rs, 0, j + 1, n, h, h' => by
    simp at h
    subst h
    unfold ownIx at n
    rw [hd] at n
    exact absurd (mem_ownIx hd (by simpa using h')) (List.nodup_cons.mp n).1
  | r :: rs, i + 1, 0, n, h, h' => by
    simp at h'
    subst h'
    unfold ownIx at n
    rw [hd] at n
    exact absurd (mem_ownIx hd (by simpa using h)) (List.nodup_cons.mp n).1
  | r :: rs, i + 1, j + 1, n, h, h' => by
    have n' : (ownIx ρ rs).Nodup := by
      unfold ownIx at n
      split at n
      · rename_i q; cases q
      · rename_i q
        cases q
        split at n
        · exact (List.nodup_cons.mp n).2
        · exact n
      · rename_i q
        cases q
        exact n
    exact congrArg (· + 1) (ownIx_inj (rs := rs) (i := i) (j := j) hd n' (by simpa using h) (by simpa using h'))
theorem gb_len : ∀ {rs : List Rs} {fs : List Sl}, (giveBack ρ rs fs).length = ρ.length
  | [], fs => rfl
  | .al i :: rs, f :: fs => by
    unfold giveBack
    split
    · rw [List.length_set]; exact gb_len (rs := rs)
    · exact gb_len (rs := rs)
  | .val _ :: rs, f :: fs => gb_len (rs := rs)
  | .fr _ :: rs, f :: fs => gb_len (rs := rs)
  | .al i :: rs, [] => rfl
  | .val _ :: rs, [] => rfl
  | .fr _ :: rs, [] => rfl
theorem gb_out {l : Nat} : ∀ {rs : List Rs} {fs : List Sl}, (∀ (k : Nat) (d : D), rs[k]? = some (.al l) → ρ[l]? = some (.own d) → False) → (giveBack ρ rs fs)[l]? = ρ[l]?
  | [], fs, _ => rfl
  | .al i :: rs, f :: fs, h => by
    have ih := gb_out (rs := rs) (fs := fs) fun k d q => h (k + 1) d (by simpa using q)
    unfold giveBack
    split
    · rename_i d q
      exact (List.getElem?_set_ne (show i ≠ l from fun e => h 0 d (by rw [e]; rfl) (by rw [← e]; exact q))).trans ih
    · exact ih
  | .val _ :: rs, f :: fs, h => gb_out (rs := rs) (fs := fs) fun k d q => h (k + 1) d (by simpa using q)
  | .fr _ :: rs, f :: fs, h => gb_out (rs := rs) (fs := fs) fun k d q => h (k + 1) d (by simpa using q)
  | .al i :: rs, [], _ => rfl
  | .val _ :: rs, [], _ => rfl
  | .fr _ :: rs, [], _ => rfl
theorem gb_in {l : Nat} {d : D} {f : Sl} (hd : ρ[l]? = some (.own d)) : ∀ {rs : List Rs} {fs : List Sl} {k : Nat}, (ownIx ρ rs).Nodup → rs[k]? = some (.al l) → fs[k]? = some f → (giveBack ρ rs fs)[l]? = some f
  | [], _, _, _, h, _ => by simp at h
  | r :: rs, [], _, _, _, h => by simp at h
  | r :: rs, g :: fs, 0, n, h, h' => by
    simp at h h'
    subst h
    subst h'
    unfold giveBack
    rw [hd]
    have hl : l < (giveBack ρ rs fs).length := by rw [gb_len (rs := rs)]; exact (List.getElem?_eq_some_iff.mp hd).1
    exact List.getElem?_set_self hl
  | r :: rs, g :: fs, k + 1, n, h, h' => by
    have n2 := n
    unfold ownIx at n2
    split at n2
    · rename_i q; cases q
    · rename_i i rs' q
      cases q
      unfold giveBack
      split at n2
      · rename_i d' q2
        obtain ⟨n3, n4⟩ := List.nodup_cons.mp n2
        rw [List.getElem?_set_ne fun e => n3 (by rw [e]; exact mem_ownIx hd (by simpa using h))]
        exact gb_in hd n4 (by simpa using h) (by simpa using h')
      · rename_i q2
        have ih := gb_in hd (fs := fs) n2 (by simpa using h) (by simpa using h')
        exact ih
    · rename_i r' rs' q1 q
      cases q
      have ih := gb_in hd (fs := fs) n2 (by simpa using h) (by simpa using h')
      cases r with
      | al i => exact absurd rfl (q1 i)
      | val d => exact ih
      | fr d => exact ih
theorem args_mt {vs : List V} {rs : List Rs} {as : List Sl} (m : Mt K w R ρ σ H) (h : RRq K w R ρ σ H0 H vs rs) (e : argsOf ρ rs = some as) (nd : (ownIx ρ rs).Nodup) : Mt K w R as (vs.map some) H := by
  obtain ⟨hl, hg⟩ := argsOf_get e
  have vg : ∀ {i : Nat} {r : Rs}, rs[i]? = some r → ∃ v, vs[i]? = some v := fun {i r} hi => ⟨_, List.getElem?_eq_getElem (by rw [h.len]; exact (List.getElem?_eq_some_iff.mp hi).1)⟩
  have vm : ∀ {i : Nat} {v : V}, vs[i]? = some v → (vs.map some)[i]? = some (some v) := fun {i v} hi => by rw [List.getElem?_map, hi]; rfl
  have vb : ∀ {i : Nat} {v : V}, (vs.map some)[i]? = some (some v) → vs[i]? = some v := fun {i v} hi => by
    rw [List.getElem?_map] at hi
    obtain ⟨x, e1, e2⟩ := Option.map_eq_some_iff.mp hi
    cases e2
    exact e1
  -- an own argument: a fresh object, or an own name's
  have own : ∀ {i : Nat} {d : D}, as[i]? = some (.own d) → ∃ a, vs[i]? = some (.ref a) ∧ ¬ R a ∧ Top K w R H a d ∧ ((rs[i]? = some (.fr d) ∧ ¬ Own ρ σ a) ∨ ∃ l, rs[i]? = some (.al l) ∧ ρ[l]? = some (.own d) ∧ σ[l]? = some (some (.ref a))) := fun {i d} hi => by
    obtain ⟨r, h1, h2⟩ := hg i _ hi
    obtain ⟨v, h3⟩ := vg h1
    have rr := h.rr i r v h1 h3
    cases r with
    | val d' => cases h2
    | fr d' =>
      cases h2
      obtain ⟨a, rfl, n1, n2, t⟩ := rr
      exact ⟨a, h3, n1, t, .inl ⟨h1, n2⟩⟩
    | al l =>
      have rr : σ[l]? = some (some v) := rr
      unfold argOf at h2
      dsimp only at h2
      split at h2
      · cases h2
      · rename_i d2 q
        cases h2
        obtain ⟨a, q1, q2, q3⟩ := m.own l _ q
        rw [rr] at q1
        cases q1
        exact ⟨a, h3, q2, q3, .inr ⟨l, h1, q, rr⟩⟩
      · cases h2
  refine ⟨by rw [List.length_map, hl, h.len], m.trk, fun i d hi => ?_, fun i d hi => ?_, fun i j d d' a h1 h2 h3 h4 => ?_⟩
  · obtain ⟨r, h1, h2⟩ := hg i _ hi
    obtain ⟨v, h3⟩ := vg h1
    have rr := h.rr i r v h1 h3
    refine ⟨v, vm h3, ?_⟩
    cases r with
    | val d' => cases h2; exact rr
    | fr d' => cases h2
    | al l =>
      have rr : σ[l]? = some (some v) := rr
      unfold argOf at h2
      dsimp only at h2
      split at h2
      · rename_i d2 q
        cases h2
        obtain ⟨v', q1, q2⟩ := m.ro l _ q
        rw [rr] at q1
        cases q1
        exact q2
      · cases h2
      · cases h2
  · obtain ⟨a, q1, q2, q3, _⟩ := own hi
    exact ⟨a, vm q1, q2, q3⟩
  · obtain ⟨b, b1, b2, b3, b4⟩ := own h1
    obtain ⟨c, c1, c2, c3, c4⟩ := own h2
    have e1 := vb h3
    have e2 := vb h4
    rw [b1] at e1
    cases e1
    rw [c1] at e2
    cases e2
    rcases b4 with ⟨b4, b5⟩ | ⟨l, b4, b5, b6⟩ <;> rcases c4 with ⟨c4, c5⟩ | ⟨l', c4, c5, c6⟩
    · exact h.ne i j _ _ _ b4 c4 b1 c1
    · exact absurd ⟨l', _, c5, c6⟩ b5
    · exact absurd ⟨l, _, b5, b6⟩ c5
    · have := m.inj l l' _ _ a b5 c5 b6 c6
      subst this
      exact ownIx_inj b5 nd b4 c4
/-- behind a call -/
theorem call_step {vs : List V} {rs : List Rs} {as fs : List Sl} (m : Mt K w R ρ σ H) (s : Step K w σ R ρ H R1 ρ1 H1) (h : RRq K w R1 ρ1 σ H H1 vs rs) (e : argsOf ρ1 rs = some as) (nd : (ownIx ρ1 rs).Nodup)
    (t : Step K w (vs.map some) R1 as H1 R2 fs H2) : Step K w σ R ρ H R2 (giveBack ρ1 rs fs) H2 ∧ ∀ b, Own (giveBack ρ1 rs fs) σ b → Own ρ1 σ b := by
  obtain ⟨hl, hg⟩ := argsOf_get e
  have ma := args_mt s.mt h e nd
  have hfs : fs.length = rs.length := by rw [t.mt.len, List.length_map, h.len]
  have vb : ∀ {i : Nat} {v : V}, (vs.map some)[i]? = some (some v) → vs[i]? = some v := fun {i v} hi => by
    rw [List.getElem?_map] at hi
    obtain ⟨x, e1, e2⟩ := Option.map_eq_some_iff.mp hi
    cases e2
    exact e1
  -- an own argument's object
  have oa : ∀ {b : Addr}, Own as (vs.map some) b → H b = none ∨ Own ρ1 σ b := fun {b} ⟨i, d, h1, h2⟩ => by
    obtain ⟨r, q1, q2⟩ := hg i _ h1
    have q3 := vb h2
    have rr := h.rr i r _ q1 q3
    cases r with
    | val d' => cases q2
    | fr d' => exact .inl (h.fn i _ _ q1 q3 b rfl)
    | al l =>
      have rr : σ[l]? = some (some (.ref b)) := rr
      unfold argOf at q2
      dsimp only at q2
      split at q2
      · cases q2
      · rename_i d2 q
        exact .inr ⟨l, _, q, rr⟩
      · cases q2
  have oa2 : ∀ {b : Addr}, Own as (vs.map some) b → H b = none ∨ Own ρ σ b := fun {b} z => by
    rcases oa z with z | z
    · exact .inl z
    · exact (s.mo b z).symm
  -- each name: handed over, or as it was
  have cas : ∀ (l : Nat), (∃ (k : Nat) (d : D) (f : Sl) (v : V), rs[k]? = some (.al l) ∧ ρ1[l]? = some (.own d) ∧ fs[k]? = some f ∧ vs[k]? = some v ∧ σ[l]? = some (some v) ∧ (giveBack ρ1 rs fs)[l]? = some f) ∨
      ((giveBack ρ1 rs fs)[l]? = ρ1[l]? ∧ ∀ (k : Nat) (d : D), rs[k]? = some (.al l) → ρ1[l]? = some (.own d) → False) := fun l => by
    by_cases z : ∃ (k : Nat) (d : D), rs[k]? = some (.al l) ∧ ρ1[l]? = some (.own d)
    · obtain ⟨k, d, h1, h2⟩ := z
      have hk := (List.getElem?_eq_some_iff.mp h1).1
      have hv : vs[k]? = some (vs[k]'(by rw [h.len]; exact hk)) := List.getElem?_eq_getElem _
      have hf : fs[k]? = some (fs[k]'(by rw [hfs]; exact hk)) := List.getElem?_eq_getElem _
      exact .inl ⟨k, d, _, _, h1, h2, hf, hv, h.rr k _ _ h1 hv, gb_in h2 nd h1 hf⟩
    · have z' : ∀ (k : Nat) (d : D), rs[k]? = some (.al l) → ρ1[l]? = some (.own d) → False := fun k d h1 h2 => z ⟨k, d, h1, h2⟩
      exact .inr ⟨gb_out z', z'⟩
  have own1 : ∀ {l : Nat} {d : D}, (giveBack ρ1 rs fs)[l]? = some (.own d) → ∃ d', ρ1[l]? = some (.own d') := fun {l d} hl => by
    rcases cas l with ⟨k, d', f, v, _, h2, _⟩ | ⟨h1, _⟩
    · exact ⟨d', h2⟩
    · exact ⟨d, by rw [← h1]; exact hl⟩
  have vm : ∀ {i : Nat} {v : V}, vs[i]? = some v → (vs.map some)[i]? = some (some v) := fun {i v} hi => by rw [List.getElem?_map, hi]; rfl
  have oo : ∀ b, Own (giveBack ρ1 rs fs) σ b → Own ρ1 σ b := fun b ⟨l, d, h1, h2⟩ => by
    obtain ⟨d', h3⟩ := own1 h1
    exact ⟨l, d', h3, h2⟩
  refine ⟨⟨fun b z => t.up b (s.up b z), ⟨by rw [gb_len]; exact s.mt.len, t.mt.trk, fun l d hl => ?_, fun l d hl => ?_, fun i j d d' a h1 h2 h3 h4 => ?_⟩, fun b o hb n => ?_, fun b hb => ?_, fun b hb => s.mo b (oo b hb), fun b z => t.nw b (s.nw b z), fun _ _ => rfl⟩, oo⟩
  · rcases cas l with ⟨k, d', f, v, h1, h2, h3, h4, h5, h6⟩ | ⟨h1, _⟩
    · rw [hl] at h6
      cases h6
      obtain ⟨v', q1, q2⟩ := t.mt.ro k d h3
      rw [vm h4] at q1
      cases q1
      exact ⟨v, h5, q2⟩
    · rw [h1] at hl
      obtain ⟨v, q1, q2⟩ := s.mt.ro l d hl
      exact ⟨v, q1, SS.rep ma t q2⟩
  · rcases cas l with ⟨k, d', f, v, h1, h2, h3, h4, h5, h6⟩ | ⟨h1, hn⟩
    · rw [hl] at h6
      cases h6
      obtain ⟨a, q1, q2, q3⟩ := t.mt.own k d h3
      rw [vm h4] at q1
      cases q1
      exact ⟨a, h5, q2, q3⟩
    · rw [h1] at hl
      obtain ⟨a, q1, q2, q3⟩ := s.mt.own l d hl
      have na : ¬ Own as (vs.map some) a := fun ⟨i, e', e1, e2⟩ => by
        obtain ⟨r, x1, x2⟩ := hg i _ e1
        have x3 := vb e2
        have rr := h.rr i r _ x1 x3
        cases r with
        | val d' => cases x2
        | fr d' =>
          obtain ⟨b, eb, n1, n2, _⟩ := rr
          cases eb
          exact n2 ⟨l, d, hl, q1⟩
        | al l' =>
          have rr : σ[l']? = some (some (.ref a)) := rr
          unfold argOf at x2
          dsimp only at x2
          split at x2
          · cases x2
          · rename_i d2 q
            have := s.mt.inj l l' _ _ a hl q q1 rr
            subst this
            exact hn i _ x1 q
          · cases x2
      refine ⟨a, q1, fun z => ?_, SS.top ma t q3 na⟩
      obtain ⟨o, ho, _⟩ := q3.there
      rcases t.bd a z with z | z | z
      · exact q2 z
      · rw [ho] at z; cases z
      · exact na z
  · obtain ⟨e1, h1⟩ := own1 h1
    obtain ⟨e2, h2⟩ := own1 h2
    exact s.mt.inj i j e1 e2 a h1 h2 h3 h4
  · refine t.fr b o (s.fr b o hb n) fun z => ?_
    rcases oa2 z with z | z
    · rw [hb] at z; cases z
    · exact n z
  · rcases t.bd b hb with z | z | z
    · exact s.bd b z
    · refine .inr (.inl ?_)
      cases q : H b with
      | none => rfl
      | some o => exact absurd z (s.nw b (by rw [q]; simp))
    · rcases oa2 z with z | z
      · exact .inr (.inl z)
      · exact .inr (.inr z)
end
end PV

namespace PV
open PySem PySem.Spec PyProof.Rows L2
structure PlainFd (fd : FuncData) (names : List Str) : Prop where
  po : fd.params.posonlyargs = []
  ar : fd.params.args.map (·.arg) = names
  va : fd.params.vararg = none
  ko : fd.params.kwonlyargs = []
  kw : fd.params.kwarg = none
  df : fd.defaults = .none
theorem bind_loop {f : Str × Value → (List (Str × Value)) × (List (Str × Value)) → Sem (ForInStep ((List (Str × Value)) × (List (Str × Value))))} {normal : List Str}
    (hf : ∀ k v s, k ∈ normal → s.1.lookup k = none → f (k, v) s = pure (.yield ⟨s.1 ++ [(k, v)], s.2⟩)) :
    ∀ (kw slots extra : List (Str × Value)), (∀ p ∈ kw, p.1 ∈ normal) → (kw.map (·.1)).Nodup → (∀ p ∈ kw, slots.lookup p.1 = none) → forIn kw (slots, extra) f = pure (slots ++ kw, extra)
  | [], slots, extra, _, _, _ => by rw [List.forIn_nil, List.append_nil]
  | (k, v) :: kw, slots, extra, h1, h2, h3 => by
    rw [List.forIn_cons, hf k v _ (h1 _ List.mem_cons_self) (h3 _ List.mem_cons_self)]
    have ih := bind_loop hf kw (slots ++ [(k, v)]) extra (fun p hp => h1 p (List.mem_cons_of_mem _ hp)) (List.nodup_cons.mp h2).2 fun p hp => by
      rw [List.lookup_append, h3 p (List.mem_cons_of_mem _ hp)]
      have ne : p.1 ≠ k := fun e => (List.nodup_cons.mp h2).1 (List.mem_map.mpr ⟨p, hp, e⟩)
      have : (p.1 == k) = false := by simpa using ne
      simp [List.lookup_cons, this]
    show (forIn kw (slots ++ [(k, v)], extra) f) = _
    rw [ih, List.append_assoc]
    rfl
theorem lookup_zip {x : Str} : ∀ {L : List Str} {vals : List Value}, L.length = vals.length → x ∈ L → (L.zip vals).lookup x = vals[L.idxOf x]? ∧ L.idxOf x < vals.length
  | [], _, _, h => by simp at h
  | y :: L, [], e, _ => by simp at e
  | y :: L, v :: vals, e, h => by
    rw [List.zip_cons_cons, List.lookup_cons, List.idxOf_cons]
    by_cases q : x = y
    · subst q
      simp
    · have q1 : (x == y) = false := by simpa using q
      have q2 : (y == x) = false := by simpa using fun z => q z.symm
      have hx : x ∈ L := (List.mem_cons.mp h).resolve_left q
      obtain ⟨h1, h2⟩ := lookup_zip (L := L) (vals := vals) (by simpa using e) hx
      rw [q1, q2]
      simp only [cond_false, List.getElem?_cons_succ, List.length_cons]
      exact ⟨h1, by omega⟩
theorem fm_congr {α β : Type} {f g : α → Option β} : ∀ (l : List α), (∀ n ∈ l, f n = g n) → l.filterMap f = l.filterMap g
  | [], _ => rfl
  | n :: l, h => by rw [List.filterMap_cons, List.filterMap_cons, h n List.mem_cons_self, fm_congr l fun m hm => h m (List.mem_cons_of_mem _ hm)]
theorem zip_binds {vals : List Value} {idx : Str → Nat} : ∀ (l : List Str), (∀ n ∈ l, idx n < vals.length) → l.filterMap (fun n => (vals[idx n]?).map (n, ·)) = l.zip ((l.map idx).filterMap fun i => vals[i]?)
  | [], _ => rfl
  | n :: l, h => by
    have hn := h n List.mem_cons_self
    rw [List.filterMap_cons, List.map_cons, List.filterMap_cons, List.getElem?_eq_getElem hn]
    simp only [Option.map_some, List.zip_cons_cons]
    rw [zip_binds l fun m hm => h m (List.mem_cons_of_mem _ hm)]
/-- how a call binds: n arguments by position, ks by name -/
def bindC (names : List Str) (n : Nat) (ks : List Str) (perm : List Nat) : Bool :=
  decide names.Nodup && decide ks.Nodup && decide (n + ks.length = names.length) && ks.all (fun k => decide (k ∈ names.drop n)) && names.all (fun x => decide (x ∈ names.take n ++ ks)) && decide (perm = names.map fun x => (names.take n ++ ks).idxOf x)
theorem bindArgs_plain {fd : FuncData} {names ks : List Str} {us ws : List Value} {perm : List Nat} (h : PlainFd fd names) (hw : ws.length = ks.length) (hc : bindC names us.length ks perm = true) :
    bindArgs fd ⟨us, ks.zip ws⟩ = pure (names.zip (permV (us ++ ws) perm)) := by
  unfold bindC at hc
  simp only [Bool.and_eq_true, decide_eq_true_eq, List.all_eq_true] at hc
  obtain ⟨⟨⟨⟨⟨nn, nk⟩, hl⟩, hk⟩, hm⟩, hp⟩ := hc
  have hz : names.zip us ++ ks.zip ws = (names.take us.length ++ ks).zip (us ++ ws) := by
    rw [List.zip_append (by rw [List.length_take]; omega)]
    congr 1
    rw [List.zip_eq_zip_take_min]
    have : min names.length us.length = us.length := by omega
    rw [this, List.take_length]
  have hlen : (names.take us.length ++ ks).length = (us ++ ws).length := by rw [List.length_append, List.length_append, List.length_take]; omega
  have lk : ∀ n ∈ names, (names.zip us ++ ks.zip ws).lookup n = (us ++ ws)[(names.take us.length ++ ks).idxOf n]? ∧ (names.take us.length ++ ks).idxOf n < (us ++ ws).length := fun n hn => by
    rw [hz]
    exact lookup_zip hlen (hm n hn)
  unfold bindArgs
  simp only [h.po, h.ar, h.va, h.ko, h.kw, h.df, List.map_nil, List.nil_append, List.append_nil]
  rw [bind_loop (normal := names) (fun k v s h1 h2 => by
    have e1 : (names.contains k || ([] : List Str).contains k) = true := by simp [h1]
    rw [if_pos e1, if_neg (by rw [h2]; simp)]) (ks.zip ws) (names.zip us) [] ?b ?c ?d]
  · have e0 : seqItems? Value.none = pure none := rfl
    rw [pure_bind, e0, pure_bind]
    have e1 : ¬ (decide (us.length > names.length) && (none : Option Arg).isNone) = true := by simp; omega
    rw [if_neg e1]
    have e2 : ∀ l : List Str, (∀ n ∈ l, n ∈ names) → l.filter (fun n => (List.lookup n (names.zip us ++ ks.zip ws)).isNone) = [] := fun l hl => List.filter_eq_nil_iff.mpr fun n hn => by
      obtain ⟨q1, q2⟩ := lk n (hl n hn)
      rw [q1, List.getElem?_eq_getElem q2]
      simp
    have e3 := e2 (List.take (names.length - (List.drop (((none : Option (Array Value)).getD #[]).toList.length - names.length) ((none : Option (Array Value)).getD #[]).toList).length) names) fun n hn => List.mem_of_mem_take hn
    rw [if_neg (by rw [e3]; simp)]
    simp only [Option.getD_none, List.drop_nil, List.zip_nil_right, List.forIn_nil, pure_bind, List.isEmpty_nil, Bool.not_true, Bool.false_eq_true, if_false]
    congr 1
    rw [hp]
    have e5 : names.filterMap (fun n => ((names.zip us ++ ks.zip ws).lookup n).map (n, ·)) = names.filterMap (fun n => ((us ++ ws)[(names.take us.length ++ ks).idxOf n]?).map (n, ·)) := by
      exact fm_congr names fun n hn => by rw [(lk n hn).1]
    rw [e5]
    exact zip_binds names fun n hn => (lk n hn).2
  · intro p hp'
    have := hk p.1 (List.of_mem_zip hp').1
    exact List.mem_of_mem_drop this
  · rw [List.map_fst_zip (by omega)]
    exact nk
  · intro p hp'
    have hp1 := hk p.1 (List.of_mem_zip hp').1
    refine List.lookup_eq_none_iff.mpr fun q hq => ?_
    have hq1 : q.1 ∈ names.take us.length := by
      rw [List.zip_eq_zip_take_min] at hq
      have := (List.of_mem_zip hq).1
      have e : min names.length us.length = us.length := by omega
      rwa [e] at this
    have : p.1 ≠ q.1 := fun e => by
      have nn' := nn
      rw [← List.take_append_drop us.length names] at nn'
      exact (List.nodup_append.mp nn').2.2 _ hq1 _ hp1 e.symm
    simpa using this

theorem Vals.permV {vs : List V} {us : List Value} (r : Vals vs us) : ∀ (perm : List Nat), Vals (PV.permV vs perm) (PV.permV us perm)
  | [] => .nil
  | i :: perm => by
    have ih := Vals.permV r perm
    have hl := r.length
    unfold PV.permV at ih ⊢
    rw [List.filterMap_cons, List.filterMap_cons]
    by_cases hi : i < vs.length
    · obtain ⟨u, hu, ru⟩ := r.get (List.getElem?_eq_getElem hi)
      rw [List.getElem?_eq_getElem hi, hu]
      exact .cons ru ih
    · rw [List.getElem?_eq_none (by omega), List.getElem?_eq_none (by omega)]
      exact ih
theorem kbn_plain {K : PySem.W.Frag} {fd : FuncData} {names ks : List Str} {n : Nat} {perm : List Nat} (h : PlainFd fd names) (hc : bindC names n ks perm = true) : KBn K fd names n ks (fun us ws => permV (us ++ ws) perm) (fun vs zs => permV (vs ++ zs) perm) :=
  ⟨fun s us ws _ l1 l2 => .of_eq (bindArgs_plain h l2 (by rw [l1]; exact hc)), fun r1 r2 => Vals.permV (r1.append r2) perm⟩
theorem kw_facts {pos : Pos} {env : Env} : ∀ {kws : List Keyword}, kws.all (fun k => k.arg.isSome) = true →
    (backToKw pos (keywordEach kws env)).all (·.1.isSome) = true ∧ (backToKw pos (keywordEach kws env)).filterMap (·.1) = kws.filterMap (·.arg) ∧ (backToKw pos (keywordEach kws env)).any (·.1.isNone) = false
  | [], _ => ⟨rfl, rfl, rfl⟩
  | ⟨nm, v, p⟩ :: kws, h => by
    rw [List.all_cons, Bool.and_eq_true] at h
    obtain ⟨h1, h2, h3⟩ := kw_facts (pos := pos) (env := env) h.2
    cases nm with
    | none => cases h.1
    | some nm =>
      refine ⟨?_, ?_, ?_⟩
      · show (true && (backToKw pos (keywordEach kws env)).all (·.1.isSome)) = true
        rw [h1]; rfl
      · show nm :: (backToKw pos (keywordEach kws env)).filterMap (·.1) = nm :: kws.filterMap (·.arg)
        rw [h2]
      · show (false || (backToKw pos (keywordEach kws env)).any (·.1.isNone)) = false
        rw [h3]; rfl
theorem evs_len {C : Cfg} : ∀ {es : List E} {ρ ρ' : Rho} {rs : List Rs}, evs C es ρ = some (rs, ρ') → rs.length = es.length
  | [], _, _, _, e => by cases e; rfl
  | a :: es, ρ, ρ', rs, e => by
    obtain ⟨⟨r, ρ1⟩, e1, e⟩ := Option.bind_eq_some_iff.mp (show (ev C a ρ).bind _ = some (rs, ρ') from e)
    obtain ⟨⟨rs', ρ2⟩, e2, e⟩ := Option.map_eq_some_iff.mp e
    cases e
    rw [List.length_cons, List.length_cons, evs_len e2]
section
variable {X : Cx} {p : Pg} {fuel k : Nat} {fa : Addr} {e : Expr} {fd : FuncData} {ps ks : List Str} {x : Str} {pp pos : Pos} {es : List Expr} {kws : List Keyword} {mes mks : List E} {perm : List Nat}
/-- the reading of a call -/
theorem call_end {σ : St} {H : Hp} {Q : VK} (hks : mks.length = ks.length) (h : tD X.K X.w (cfg p fuel k) (.call x mes mks perm) σ H Q) :
    tA X.K X.w (cfg p fuel k) mes σ H fun vs H1 => tA X.K X.w (cfg p fuel k) mks σ H1 fun zs H2 => vs.length = mes.length ∧ zs.length = ks.length ∧ spF X.K X.w p fuel k x (permV (vs ++ zs) perm) H2 Q E0 := by
  obtain ⟨R, ρ, r, ρ', m, e, q⟩ := h
  obtain ⟨⟨ra, ρ0⟩, e1, e⟩ := Option.bind_eq_some_iff.mp (show (evs (cfg p fuel k) mes ρ).bind _ = some (r, ρ') from e)
  obtain ⟨⟨rb, ρ1⟩, e2, e⟩ := Option.bind_eq_some_iff.mp e
  obtain ⟨rs, e3, e⟩ := Option.bind_eq_some_iff.mp e
  obtain ⟨as, e4, e⟩ := Option.bind_eq_some_iff.mp e
  dsimp only at e
  split at e
  · rename_i nd
    obtain ⟨⟨r2, fs⟩, e5, e⟩ := Option.bind_eq_some_iff.mp e
    dsimp only at e
    split at e
    · cases e
    · rename_i na
      cases e
      refine ⟨R, ρ, ra, ρ0, m, e1, fun vs H1 R1 s1 rr1 f1 => ⟨R1, ρ0, rb, ρ1, s1.mt, e2, fun zs H2 R2 s2 rr2 f2 => ?_⟩⟩
      refine ⟨by rw [rr1.length, evs_len e1], by rw [rr2.length, evs_len e2, hks], ?_⟩
      have s12 := s1.trans s2
      have rq := (RRq.of ((rr1.step s1.mt s2).append rr2) (FrNs.append s1 rr1 f1 f2)).perm e3
      have ma := args_mt s12.mt rq e4 nd
      refine ⟨R2, as, r, fs, ma, e5, by simpa using na, fun v H' R' t rr f => ?_⟩
      obtain ⟨s3, so⟩ := call_step m s12 rq e4 nd t
      cases r with
      | al i => exact absurd rfl na
      | val d => exact q v H' R' s3 rr trivial
      | fr d =>
        obtain ⟨a, rfl, n1, n2, tp⟩ := rr
        refine q _ H' R' s3 ⟨a, rfl, n1, fun z => ?_, tp⟩ (FrN.back s12.nw f)
        obtain ⟨d', _, tp'⟩ := s12.mt.ownTop (so a z)
        obtain ⟨o, ho, _⟩ := tp'.there
        rw [f a rfl] at ho
        cases ho
  · cases e
theorem px_call (F : FnOk X.prog X.w X.K X.mg X.base CX0 k fa fd ps (spF X.K X.w p fuel k x)) (hr : Room k X.A) (hg : Gl X x) (hm : X.mg x = some (.ref fa)) (hk : PySem.W.keepIn X.K (.ref fa) = true) (hp : PlainFd fd ps) (hc : bindC ps mes.length ks perm = true)
    (hdb : (x == ("__debug__" : Str)) = false) (ha : PA X (e :: es) (tA X.K X.w (cfg p fuel k) mes)) (hkw : PK X kws (tA X.K X.w (cfg p fuel k) mks)) (hs : (e :: es).all (fun e => !isStar e) = true) (hkn : kws.all (fun k => k.arg.isSome) = true) (hks : kws.filterMap (·.arg) = ks) (hml : mks.length = ks.length) :
    PE X (.Call (.Name x pp) (e :: es) kws pos) (tD X.K X.w (cfg p fuel k) (.call x mes mks perm)) := by
  refine ⟨fun pins s σ H Q I h => ?_⟩
  have h := call_end (ks := ks) hml h
  obtain ⟨k1, k2, k3⟩ := kw_facts (pos := pos) (env := X.env) hkn
  refine wpAny_Call_Name_kw (ld_glob I hg hm ?_ hdb)
  rw [List.all_cons, Bool.and_eq_true] at hs
  have he : isStar e = false := by simpa using hs.1
  refine PySem.W.callWith_KW (h₀ := X.base) I.ok.mod.kin hk k1 (thn (ha.run pos pins s σ H _ I h) fun us s1 ⟨vs, H1, I1, r, q⟩ => ?_) ?_ (star_cons he)
  · refine thn (hkw.run pos pins s1 σ H1 _ I1 q) fun ws s2 ⟨zs, H2, I2, rz, l1, l2, q2⟩ => ⟨I2.kIn, ?_⟩
    rw [k2, hks]
    exact run_fnN F hr (kbn_plain hp hc) pass0 I2 r rz l1 l2 q2
  · rw [star_plain (es := e :: es) (by rw [List.all_cons, he, hs.2]; rfl), k3]
    rfl
theorem px_call0 (F : FnOk X.prog X.w X.K X.mg X.base CX0 k fa fd ps (spF X.K X.w p fuel k x)) (hr : Room k X.A) (hg : Gl X x) (hm : X.mg x = some (.ref fa)) (hk : PySem.W.keepIn X.K (.ref fa) = true) (hp : PlainFd fd ps) (hc : bindC ps 0 ks perm = true)
    (hdb : (x == ("__debug__" : Str)) = false) (hkw : PK X kws (tA X.K X.w (cfg p fuel k) mks)) (hkn : kws.all (fun k => k.arg.isSome) = true) (hks : kws.filterMap (·.arg) = ks) (hml : mks.length = ks.length) :
    PE X (.Call (.Name x pp) [] kws pos) (tD X.K X.w (cfg p fuel k) (.call x [] mks perm)) := by
  refine ⟨fun pins s σ H Q I h => ?_⟩
  have h := nil_tA (call_end (ks := ks) hml h)
  obtain ⟨k1, k2, k3⟩ := kw_facts (pos := pos) (env := X.env) hkn
  refine wpAny_Call_Name_kw (ld_glob I hg hm ?_ hdb)
  refine PySem.W.callWith_KW0 (h₀ := X.base) I.ok.mod.kin hk k1 (thn (hkw.run pos pins s σ H _ I h) fun ws s2 ⟨zs, H2, I2, rz, l1, l2, q2⟩ => ⟨I2.kIn, ?_⟩) k3
  rw [k2, hks]
  exact run_fnN F hr (kbn_plain hp hc) pass0 I2 (us := []) (vs := []) .nil rz l1 l2 q2
end
end PV

/-! PV, part Ka: starred displays, methods that read: index, count, get; {}. -/
namespace PV
open PySem PySem.Spec PyProof.Rows L2
section
variable {X : Cx} {C : Cfg} {a b c e o : Expr} {ma mb mc : E} {pos apos cpos : Pos}
/-! ### displays with stars -/
def tAx (K : PySem.W.Frag) (w : World) (C : Cfg) (es : List E) (st : List Bool) : TA := fun σ H Q => ∃ R ρ ds ρ', Mt K w R ρ σ H ∧ evx C es st ρ = some (ds, ρ') ∧ ∀ vs H' R', Step K w σ R ρ H R' ρ' H' → Reps K w R' H' ds vs → Q vs H'
theorem px_xnil : PA X [] (tAx X.K X.w C [] []) := PA.imp pa_nil fun σ H Q h => by
  obtain ⟨R, ρ, rs, ρ', m, e, q⟩ := h
  cases e
  exact q [] H R (Step.refl m) trivial
theorem px_xcons {es : List Expr} {mes : List E} {st : List Bool} (ha : PE X a (tD X.K X.w C ma)) (hr : PA X es (tAx X.K X.w C mes st)) (hs : isStar a = false) : PA X (a :: es) (tAx X.K X.w C (ma :: mes) (false :: st)) := by
  refine PA.imp (pa_cons ha hr (star_cons hs)) fun σ H Q h => ?_
  obtain ⟨R, ρ, rs, ρ', m, e, q⟩ := h
  obtain ⟨⟨r, ρ1⟩, e1, e⟩ := Option.bind_eq_some_iff.mp (show (ev C ma ρ).bind _ = some (rs, ρ') from e)
  obtain ⟨⟨d, ρ2⟩, e2, e⟩ := Option.bind_eq_some_iff.mp e
  obtain ⟨⟨ds, ρ3⟩, e3, e⟩ := Option.map_eq_some_iff.mp (show (evx C mes st ρ2).map _ = some (rs, ρ') from e)
  cases e
  refine ⟨R, ρ, r, ρ1, m, e1, fun v H1 R1 s1 rr1 f1 => ?_⟩
  obtain ⟨R2, up, s2, rp⟩ := fix_step s1 rr1 f1 e2
  exact ⟨R2, ρ2, ds, ρ', s2.mt, e3, fun vs H3 R3 s3 rps => q (v :: vs) H3 R3 (s2.trans s3) ⟨s3.rep s2.mt rp, rps⟩⟩
theorem px_xstar {es : List Expr} {mes : List E} {st : List Bool} {p : Pos} (ha : PE X a (tD X.K X.w C ma)) (hr : PA X es (tAx X.K X.w C mes st)) : PA X (.Starred a p :: es) (tAx X.K X.w C (ma :: mes) (true :: st)) := by
  refine PA.imp (StX.pa_star ha hr) fun σ H Q h => ?_
  obtain ⟨R, ρ, rs, ρ', m, e, q⟩ := h
  obtain ⟨⟨r, ρ1⟩, e1, e⟩ := Option.bind_eq_some_iff.mp (show (ev C ma ρ).bind _ = some (rs, ρ') from e)
  obtain ⟨⟨d, ρ2⟩, e2, e⟩ := Option.bind_eq_some_iff.mp e
  obtain ⟨xs, e4, e⟩ := Option.bind_eq_some_iff.mp (show (rowIt d).bind _ = some (rs, ρ') from e)
  obtain ⟨⟨ds, ρ3⟩, e3, e⟩ := Option.map_eq_some_iff.mp e
  cases e
  refine ⟨R, ρ, r, ρ1, m, e1, fun v H1 R1 s1 rr1 f1 => ?_⟩
  obtain ⟨R2, up, s2, rp⟩ := fix_step s1 rr1 f1 e2
  have key : ∃ p ys, v = V.ref p ∧ (SqT X.K H1 p ys ∨ SqL X.K H1 p ys) ∧ Reps X.K X.w R2 H1 xs ys := by
    unfold rowIt at e4
    split at e4
    · cases e4
      obtain ⟨p, ys, ep, h1, h2⟩ := rp
      exact ⟨p, ys, ep, .inl h1.sq, h2⟩
    · cases e4
      obtain ⟨p, ys, ep, _, h1, h2⟩ := rp
      exact ⟨p, ys, ep, .inr (SqL.of h1), h2⟩
    · cases e4
  obtain ⟨p, ys, rfl, h1, h2⟩ := key
  exact ⟨p, ys, rfl, h1, R2, ρ2, ds, ρ', s2.mt, e3, fun vs H3 R3 s3 rps => q (ys ++ vs) H3 R3 (s2.trans s3) ((s3.reps s2.mt h2).append rps)⟩
theorem px_tupS {es : List Expr} {mes : List E} {st : List Bool} {k : Nat} (h : PA X es (tAx X.K X.w C mes st)) : PE X (.Tuple es k pos) (tD X.K X.w C (.tupS mes st)) := by
  refine PE.imp (PVU.pe_tupF h) fun σ H Q h => ?_
  obtain ⟨R, ρ, rs, ρ', m, e, q⟩ := h
  obtain ⟨⟨ds, ρ1⟩, e1, e⟩ := Option.bind_eq_some_iff.mp (show (evx C mes st ρ).bind _ = some (rs, ρ') from e)
  dsimp only at e
  split at e
  · rename_i hl
    cases e
    refine ⟨R, ρ, ds, ρ', m, e1, fun vs H1 R1 s1 rps => ⟨by rw [← rps.length]; exact most_line hl, fun p o n no => ?_⟩⟩
    obtain ⟨s2, rr, f⟩ := (PR.tup n no rps).step s1.mt
    exact q _ _ R1 (s1.trans s2) rr (f.back s1.nw)
  · cases e
theorem px_lstS {es : List Expr} {mes : List E} {st : List Bool} (h : PA X es (tAx X.K X.w C mes st)) : PE X (.List es pos) (tD X.K X.w C (.lstS mes st)) := by
  refine PE.imp (pe_lst h) fun σ H Q h => ?_
  obtain ⟨R, ρ, rs, ρ', m, e, q⟩ := h
  obtain ⟨⟨ds, ρ1⟩, e1, e⟩ := Option.bind_eq_some_iff.mp (show (evx C mes st ρ).bind _ = some (rs, ρ') from e)
  dsimp only at e
  split at e
  · rename_i hl
    cases e
    refine ⟨R, ρ, ds, ρ', m, e1, fun vs H1 R1 s1 rps => ⟨by rw [← rps.length]; exact most_line hl, fun p n => ?_⟩⟩
    obtain ⟨s2, rr, f⟩ := (PR.lst n rps).step s1.mt
    exact q _ _ R1 (s1.trans s2) rr (f.back s1.nw)
  · cases e
theorem px_dnew : PE X (.Dict [] [] pos) (tD X.K X.w C .dnew) := by
  refine PE.imp pe_dnewK fun σ H Q h => ?_
  obtain ⟨R, ρ, r, ρ', m, e, q⟩ := h
  cases e
  intro p n
  obtain ⟨s2, rr, f⟩ := PR.step (r := .fr (.dct [] [])) m ⟨p, .dK [], rfl, n, rfl, [], .dK [], trivial, upd_same, .inl ⟨[], rfl, rfl, rfl⟩⟩
  exact q _ _ R s2 rr f

/-! ### methods that read -/
theorem PE.or {t t' : TE} (h : PE X e t) (h' : PE X e t') : PE X e (fun σ H Q => t σ H Q ∨ t' σ H Q) := ⟨fun pins s σ H Q I q => q.elim (h.run pins s σ H Q I) (h'.run pins s σ H Q I)⟩
/-- the receiver is a plain object of the class T -/
def RcvOk (X : Cx) (T : String) (x : V) (H : Hp) : Prop := ∀ (pins : List (Addr × Obj)) (σ : L2.St) (s : Shared) (v : Value), L2.Inv X pins σ H s → L2.RelV x v → s.TypeIs v T ∧ ∀ a, v = .ref a → ∃ ob, s.heap.get? a = some ob ∧ ob.dict = none
theorem rcv_lst {p : Addr} {xs : List V} {H : Hp} (h : SqL X.K H p xs) : RcvOk X "list" (.ref p) H := fun pins σ s v I r => tyV_is I r (.inl ⟨rfl, xs, h⟩)
theorem rcv_tup {p : Addr} {xs : List V} {H : Hp} (h : TupOk X.K H p xs) : RcvOk X "tuple" (.ref p) H := fun pins σ s v I r => by
  obtain rfl : v = Value.ref p := r
  rcases h with ⟨o, hn, h⟩ | ⟨o, its, n, h1, h2, h3, _⟩
  · obtain ⟨ho, _, its, _, o', ho', hc, _⟩ := I.hok p _ h
    rw [ho] at ho'
    cases ho'
    exact ⟨⟨o, ho, hc⟩, fun a e => by cases e; exact ⟨o, ho, hn⟩⟩
  · have ho := I.kIn p o h1
    exact ⟨⟨o, ho, h2⟩, fun a e => by cases e; exact ⟨o, ho, h3⟩⟩
theorem rcv_dct {p : Addr} {ks : List D} {xs : List V} {u : HO} {H : Hp} (hr : Rd H p u) (h : DctC X.K X.w H p ks xs u) : RcvOk X "dict" (.ref p) H := fun pins σ s v I r => by
  obtain rfl : v = Value.ref p := r
  obtain ⟨o, ho, hc, hd⟩ := dct_is I hr h
  exact ⟨⟨o, ho, hc⟩, fun a e => by cases e; exact ⟨o, ho, hd⟩⟩
theorem pe_bmF {es : List Expr} {to : TE} {t : TA} {name : Str} {T id : String} {r : V → List V → Hp → VK → Prop} (pa : PlainAttrs T) (slot : Slot T name id) (hty : typeOf (.builtin id) = pure (.type "method_descriptor")) (hm : MtR X id r) (ho : PE X o to) (ha : PA X (e :: es) t)
    (hb : attributeBase o name X.env (eval o X.env) = eval o X.env)
    (hf : ((backTo cpos (starEach (e :: es) X.env)).all (fun x => !x.1) && (backToKw cpos (keywordEach [] X.env)).all (fun x => x.1.isSome) && decide ((e :: es).length + ([] : List Keyword).length + (if ([] : List Keyword).isEmpty then 0 else 1) < 30)) = true)
    (hl : (apos.endLine == cpos.line) = true) (hs : starEach (e :: es) X.env = (false, eval e X.env) :: starEach es X.env) (hp : (backTo cpos (starEach es X.env)).any (·.1) = false) :
    PE X (.Call (.Attribute o name apos) (e :: es) [] cpos) (fun σ H Q => to σ H fun x H1 => RcvOk X T x H1 ∧ t σ H1 fun xs H2 => r x xs H2 Q) := by
  refine ⟨fun pins s σ H Q I h => wpAny_Call_method_late hb hf hl rfl (thn (ho.run pins s σ H _ I h) fun v s1 ⟨x, H1, I1, r1, ty, q1⟩ => ?_)⟩
  have hA := ha.run cpos pins s1 σ H1 _ I1 q1
  obtain ⟨h1, h2⟩ := ty pins σ s1 v I1 r1
  refine ⟨T, id, pa, slot, hty, h1, h2, ?_⟩
  rw [hs] at hA ⊢
  have hp' : (false || (backTo cpos (starEach es X.env)).any (·.1)) = false := by rw [hp]; rfl
  exact Calls.callWith_builtin hp' (Calls.evalArgs_plain (thn hA fun us s2 ⟨vs, H2, I2, r2, q2⟩ => hm pins s2 σ H2 x vs v us Q I2 r1 r2 q2))
variable {x : Str} {i : Nat} {p : Pos}
theorem al_at {ρ : Rho} {σ : L2.St} {R : Addr → Prop} {H : Hp} {d : D} (m : Mt X.K X.w R ρ σ H) (e : look ρ (.al i) = some d) : ∃ v, σ[i]? = some (some v) ∧ RepT X.K X.w R H d v := by
  have key : ∃ v, σ[i]? = some (some v) := by
    unfold look at e
    dsimp only at e
    split at e
    · rename_i q
      obtain ⟨v, h, _⟩ := m.ro i _ q
      exact ⟨v, h⟩
    · rename_i q
      obtain ⟨v, h, _⟩ := m.own i _ q
      exact ⟨_, h⟩
    · cases e
  obtain ⟨v, h⟩ := key
  exact ⟨v, h, look_rep (r := .al i) m h e⟩
theorem row_of {x0 x : D} {ns : List Int} (e : rowOf x0 x = some ns) : (∃ zs ys, x0 = .tup zs ∧ x = .tup ys ∧ ys = ns.map D.int) ∨ ∃ zs ys, x0 = .lst zs ∧ x = .lst ys ∧ ys = ns.map D.int := by
  unfold rowOf at e
  split at e
  · exact .inl ⟨_, _, rfl, rfl, intsOf_eq e⟩
  · exact .inr ⟨_, _, rfl, rfl, intsOf_eq e⟩
  · cases e
theorem int_of {d : D} {k : Int} (h : intOf d = some k) : d = .int k := by
  unfold intOf at h
  split at h
  · cases h; rfl
  · cases h
theorem px_mix (hN : X.N[i]? = some x) (hv : Vis X.env.scope x) (hd : (x == ("__debug__" : Str)) = false) (hcd : (x == ("__classdict__" : Str)) = false) (ha : PE X a (tD X.K X.w C ma)) (hs : isStar a = false) (hl : (apos.endLine == pos.line) = true) :
    PE X (.Call (.Attribute (.Name x p) "index" apos) [a] [] pos) (tD X.K X.w C (.mix i ma)) := by
  refine PE.imp (PE.or (pe_bmF PySem.F.plainAttrs_tuple PySem.F.slot_tuple_index PySem.F.type_tuple_index PVX.mt_tupIx (pe_var hN hv hd hcd) (pa_cons ha pa_nil (star_cons hs)) base_name (few hs) hl (star_cons hs) rfl)
    (pe_bmF PySem.F.plainAttrs_list PySem.F.slot_list_index PySem.F.type_list_index PVX.mt_lstIx (pe_var hN hv hd hcd) (pa_cons ha pa_nil (star_cons hs)) base_name (few hs) hl (star_cons hs) rfl)) fun σ H Q h => ?_
  obtain ⟨R, ρ, r, ρ', m, e, q⟩ := h
  obtain ⟨x0, e0, e⟩ := Option.bind_eq_some_iff.mp (show (look ρ (.al i)).bind _ = some (r, ρ') from e)
  obtain ⟨⟨ra, ρ1⟩, e1, e⟩ := Option.bind_eq_some_iff.mp e
  obtain ⟨d, e2, e⟩ := Option.bind_eq_some_iff.mp e
  obtain ⟨k, e3, e⟩ := Option.bind_eq_some_iff.mp e
  obtain ⟨x1, e4, e⟩ := Option.bind_eq_some_iff.mp e
  obtain ⟨ns, e5, e⟩ := Option.bind_eq_some_iff.mp e
  have ek := int_of e3
  obtain ⟨v, hv0, t0⟩ := al_at m e0
  have fin : ∀ u H1 R1, Step X.K X.w σ R ρ H R1 ρ1 H1 → RR X.K X.w R1 ρ1 σ H1 u ra → u = .int k ∧ RepT X.K X.w R1 H1 x1 v := fun u H1 R1 s1 rr1 => by
    obtain ⟨v', hv1, t1⟩ := al_at s1.mt e4
    rw [hv0] at hv1
    cases hv1
    rw [ek] at e2
    exact ⟨(look_rep s1.mt rr1 e2).int, t1⟩
  have hk : k ∈ ns := by
    by_cases z : k ∈ ns
    · exact z
    · rw [if_neg z] at e; cases e
  rw [if_pos hk] at e
  cases e
  rcases row_of e5 with ⟨zs, ys, rfl, rfl, rfl⟩ | ⟨zs, ys, rfl, rfl, rfl⟩
  · obtain ⟨p, _, rfl, h1, _⟩ := t0.tup
    refine .inl ⟨_, hv0, rcv_tup h1, R, ρ, ra, ρ', m, e1, fun u H1 R1 s1 rr1 f1 => ?_⟩
    obtain ⟨rfl, t1⟩ := fin u H1 R1 s1 rr1
    obtain ⟨p2, ys2, ep2, h3, h4⟩ := t1.tup
    cases ep2
    rw [h4.ints] at h3
    exact ⟨p, ns, k, rfl, rfl, h3.sq, hk, q _ H1 R1 s1 rfl trivial⟩
  · obtain ⟨p, _, rfl, h1, _⟩ := t0.lst
    refine .inr ⟨_, hv0, rcv_lst (SqL.of h1), R, ρ, ra, ρ', m, e1, fun u H1 R1 s1 rr1 f1 => ?_⟩
    obtain ⟨rfl, t1⟩ := fin u H1 R1 s1 rr1
    obtain ⟨p2, ys2, ep2, h3, h4⟩ := t1.lst
    cases ep2
    rw [h4.ints] at h3
    exact ⟨p, ns, k, rfl, rfl, SqL.of h3, hk, q _ H1 R1 s1 rfl trivial⟩
theorem mt_lstCnt : MtR X "list.count" (fun x xs H Q => ∃ (p : Addr) (ns : List Int) (k : Int), x = .ref p ∧ xs = [.int k] ∧ SqL X.K H p (ns.map V.int) ∧ Q (.int (ns.count k : Nat)) H) := mt_lcount
theorem px_mcn (hN : X.N[i]? = some x) (hv : Vis X.env.scope x) (hd : (x == ("__debug__" : Str)) = false) (hcd : (x == ("__classdict__" : Str)) = false) (ha : PE X a (tD X.K X.w C ma)) (hs : isStar a = false) (hl : (apos.endLine == pos.line) = true) :
    PE X (.Call (.Attribute (.Name x p) "count" apos) [a] [] pos) (tD X.K X.w C (.mcn i ma)) := by
  refine PE.imp (PE.or (pe_bmF PySem.F.plainAttrs_tuple PySem.F.slot_tuple_count PySem.F.type_tuple_count PVX.mt_tupCnt (pe_var hN hv hd hcd) (pa_cons ha pa_nil (star_cons hs)) base_name (few hs) hl (star_cons hs) rfl)
    (pe_bmF PySem.F.plainAttrs_list PySem.F.slot_list_count PySem.F.type_list_count mt_lstCnt (pe_var hN hv hd hcd) (pa_cons ha pa_nil (star_cons hs)) base_name (few hs) hl (star_cons hs) rfl)) fun σ H Q h => ?_
  obtain ⟨R, ρ, r, ρ', m, e, q⟩ := h
  obtain ⟨x0, e0, e⟩ := Option.bind_eq_some_iff.mp (show (look ρ (.al i)).bind _ = some (r, ρ') from e)
  obtain ⟨⟨ra, ρ1⟩, e1, e⟩ := Option.bind_eq_some_iff.mp e
  obtain ⟨d, e2, e⟩ := Option.bind_eq_some_iff.mp e
  obtain ⟨k, e3, e⟩ := Option.bind_eq_some_iff.mp e
  obtain ⟨x1, e4, e⟩ := Option.bind_eq_some_iff.mp e
  obtain ⟨ns, e5, e⟩ := Option.map_eq_some_iff.mp e
  have ek := int_of e3
  obtain ⟨v, hv0, t0⟩ := al_at m e0
  have fin : ∀ u H1 R1, Step X.K X.w σ R ρ H R1 ρ1 H1 → RR X.K X.w R1 ρ1 σ H1 u ra → u = .int k ∧ RepT X.K X.w R1 H1 x1 v := fun u H1 R1 s1 rr1 => by
    obtain ⟨v', hv1, t1⟩ := al_at s1.mt e4
    rw [hv0] at hv1
    cases hv1
    rw [ek] at e2
    exact ⟨(look_rep s1.mt rr1 e2).int, t1⟩
  cases e
  rcases row_of e5 with ⟨zs, ys, rfl, rfl, rfl⟩ | ⟨zs, ys, rfl, rfl, rfl⟩
  · obtain ⟨p, _, rfl, h1, _⟩ := t0.tup
    refine .inl ⟨_, hv0, rcv_tup h1, R, ρ, ra, ρ', m, e1, fun u H1 R1 s1 rr1 f1 => ?_⟩
    obtain ⟨rfl, t1⟩ := fin u H1 R1 s1 rr1
    obtain ⟨p2, ys2, ep2, h3, h4⟩ := t1.tup
    cases ep2
    rw [h4.ints] at h3
    exact ⟨p, ns, k, rfl, rfl, h3.sq, q _ H1 R1 s1 rfl trivial⟩
  · obtain ⟨p, _, rfl, h1, _⟩ := t0.lst
    refine .inr ⟨_, hv0, rcv_lst (SqL.of h1), R, ρ, ra, ρ', m, e1, fun u H1 R1 s1 rr1 f1 => ?_⟩
    obtain ⟨rfl, t1⟩ := fin u H1 R1 s1 rr1
    obtain ⟨p2, ys2, ep2, h3, h4⟩ := t1.lst
    cases ep2
    rw [h4.ints] at h3
    exact ⟨p, ns, k, rfl, rfl, SqL.of h3, q _ H1 R1 s1 rfl trivial⟩
/-! ### get -/
def rGet (K : PySem.W.Frag) (w : World) : V → List V → Hp → VK → Prop := fun x xs H Q => ∃ (a : Addr) (ks : List D) (zs : List V) (u : HO) (k : D) (y : V), x = .ref a ∧ Rd H a u ∧ DctC K w H a ks zs u ∧ kOk ks k = true ∧ KyV K H k y ∧
  ((xs = [y] ∧ Q ((getK k ks zs).getD .non) H) ∨ ∃ z, xs = [y, z] ∧ Q ((getK k ks zs).getD z) H)
theorem mt_dget (hu : X.A.units + 65 < cLine) : MtR X "dict.get" (rGet X.K X.w) := by
  intro pins s σ H x xs v us Q I rx rs h
  obtain ⟨a, ks, zs, u, k, y, rfl, hr, dc, hk, ky, h⟩ := h
  obtain rfl : v = Value.ref a := rx
  rcases dct_cases dc hk ky with ⟨κ, kvs, rfl, rfl, rfl, rfl, rfl⟩ | ⟨κs, b, kas, rfl, rfl, hb, rfl, ok⟩
  · have dg : DGet H a (kV κ) (valV kvs κ) := .inl ⟨kvs, κ, hr, rfl, rfl⟩
    rw [getK_dK] at h
    rcases h with ⟨rfl, q⟩ | ⟨z, rfl, q⟩
    · obtain ⟨uy, rfl, ry⟩ := vals1 rs
      exact d_get1 (by omega) I dg ry fun w' s' I' r' => ⟨_, H, I', r', q⟩
    · obtain ⟨uy, uz, rfl, ry, rz⟩ := vals2 rs
      exact d_get2 (by omega) I dg ry rz fun w' s' I' r' => ⟨_, H, I', r', q⟩
  · obtain ⟨_, hd, uv, rv, hl, dd⟩ := dto_rd I hr ok
    have rel := getK_rel (k := .tup (κs.map kD)) (ks := kas.map kT) rv
    rw [getK_T] at rel
    have ro : (tupleKind (mixKind X.prog X.w)).room X.A.in1 := tupleKind_room_in1 (by omega)
    rcases h with ⟨rfl, q⟩ | ⟨z, rfl, q⟩
    · obtain ⟨uy, rfl, ry⟩ := vals1 rs
      cases (show uy = Value.ref b from ry)
      exact call_meetsIn PySem.F.slot_dict_get dd.typeIs PySem.F.entry_dict_get (PySem.F.args_dict_get_2 _ _) (meetsH_dict_get (tupleKind (mixKind X.prog X.w)) a b hd) ⟨ro, κs, _, key_fz I hb, dd, ⟨_, H, I.tok _, rel.getD (d := .non) (d' := .none) rfl, q⟩⟩
    · obtain ⟨uy, uz, rfl, ry, rz⟩ := vals2 rs
      cases (show uy = Value.ref b from ry)
      exact call_meetsIn PySem.F.slot_dict_get dd.typeIs PySem.F.entry_dict_get (PySem.F.args_dict_get_3 _ _ _) (meetsH_dict_get_default (tupleKind (mixKind X.prog X.w)) a b hd uz) ⟨ro, κs, _, key_fz I hb, dd, ⟨_, H, I.tok _, rel.getD rz, q⟩⟩
theorem dct_of {K : PySem.W.Frag} {w : World} {R : Addr → Prop} {H : Hp} {x : D} {v : V} (h : RepT K w R H x v) (e : isDct x = true) : ∃ a ks zs ds u, v = .ref a ∧ Rd H a u ∧ DctC K w H a ks zs u ∧ Reps K w R H ds zs ∧ ∀ k, dgtD x k = if kOk ks k then some (getK k ks ds) else none := by
  cases x with
  | dct ks vs =>
    obtain ⟨a, zs, u, rfl, h1, h2, h3⟩ := h.dct
    exact ⟨a, ks, zs, vs, u, rfl, h1, h3, h2, fun _ => rfl⟩
  | dcf ks vs =>
    obtain ⟨a, zs, u, rfl, h1, h2, h3⟩ := h.dcf
    exact ⟨a, ks, zs, vs, u, rfl, h1, h3, h2, fun _ => rfl⟩
  | _ => cases e
theorem dgt_is {x k : D} {o : Option D} (e : dgtD x k = some o) : isDct x = true := by
  cases x <;> first | rfl | cases e
theorem px_dgt1 (hu : X.A.units + 65 < cLine) (ho : PE X o (tD X.K X.w C mb)) (ha : PE X a (tD X.K X.w C ma)) (hb : attributeBase o "get" X.env (eval o X.env) = eval o X.env) (hs : isStar a = false) (hl : (apos.endLine == pos.line) = true) :
    PE X (.Call (.Attribute o "get" apos) [a] [] pos) (tD X.K X.w C (.dgt mb ma none)) := by
  refine PE.imp (pe_bmF PySem.F.plainAttrs_dict PySem.F.slot_dict_get PySem.F.type_dict_get (mt_dget hu) ho (pa_cons ha pa_nil (star_cons hs)) hb (few hs) hl (star_cons hs) rfl) fun σ H Q h => ?_
  obtain ⟨R, ρ, r, ρ', m, e, q⟩ := h
  obtain ⟨⟨rb, ρ1⟩, e1, e⟩ := Option.bind_eq_some_iff.mp (show (ev C mb ρ).bind _ = some (r, ρ') from e)
  obtain ⟨x0, e2, e⟩ := Option.bind_eq_some_iff.mp e
  dsimp only at e
  split at e
  · rename_i hx0
    obtain ⟨⟨rk, ρ2⟩, e3, e⟩ := Option.bind_eq_some_iff.mp e
    obtain ⟨x1, e4, e⟩ := Option.bind_eq_some_iff.mp e
    obtain ⟨y, e5, e⟩ := Option.bind_eq_some_iff.mp e
    obtain ⟨ov, e6, e⟩ := Option.map_eq_some_iff.mp e
    cases e
    refine ⟨R, ρ, rb, ρ1, m, e1, fun v1 H1 R1 s1 rr1 f1 => ?_⟩
    obtain ⟨a0, ks0, zs0, ds0, u0, rfl, h1, h2, _⟩ := dct_of (look_rep s1.mt rr1 e2) hx0
    refine ⟨rcv_dct h1 h2, R1, ρ1, rk, _, s1.mt, e3, fun v2 H2 R2 s2 rr2 f2 => ?_⟩
    obtain ⟨a1, ks, zs, ds, u, ea, h3, h4, h5, h6⟩ := dct_of (look_rep s2.mt (rr1.step s1.mt s2) e4) (dgt_is e6)
    cases ea
    rw [h6] at e6
    split at e6
    · rename_i hk
      cases e6
      refine ⟨a0, ks, zs, u, y, v2, rfl, h3, h4, hk, (look_rep s2.mt rr2 e5).key (kOk_is hk), .inl ⟨rfl, ?_⟩⟩
      refine q _ H2 R2 (s1.trans s2) ?_ trivial
      show Rep X.K X.w R2 H2 _ _
      cases g : getK y ks ds with
      | none => rw [getK_none h5 g]; exact rfl
      | some d =>
        obtain ⟨z, gz, rz⟩ := getK_some h5 g
        rw [gz]; exact rz
    · cases e6
  · cases e
theorem few2 {cpos : Pos} {env : Env} (hs : isStar a = false) (hs2 : isStar b = false) : ((backTo cpos (starEach [a, b] env)).all (fun x => !x.1) && (backToKw cpos (keywordEach [] env)).all (fun x => x.1.isSome)
      && decide ([a, b].length + ([] : List Keyword).length + (if ([] : List Keyword).isEmpty then 0 else 1) < 30)) = true := by
  rw [star_cons hs, star_cons hs2]
  rfl
theorem px_dgt2 (hu : X.A.units + 65 < cLine) (ho : PE X o (tD X.K X.w C mb)) (ha : PE X a (tD X.K X.w C ma)) (hc : PE X b (tD X.K X.w C mc)) (hb : attributeBase o "get" X.env (eval o X.env) = eval o X.env) (hs : isStar a = false) (hs2 : isStar b = false) (hl : (apos.endLine == pos.line) = true) :
    PE X (.Call (.Attribute o "get" apos) [a, b] [] pos) (tD X.K X.w C (.dgt mb ma (some mc))) := by
  refine PE.imp (pe_bmF PySem.F.plainAttrs_dict PySem.F.slot_dict_get PySem.F.type_dict_get (mt_dget hu) ho (pa_cons ha (pa_cons hc pa_nil (star_cons hs2)) (star_cons hs)) hb (few2 hs hs2) hl (star_cons hs) (star_plain (by simp [hs2]))) fun σ H Q h => ?_
  obtain ⟨R, ρ, r, ρ', m, e, q⟩ := h
  obtain ⟨⟨rb, ρ1⟩, e1, e⟩ := Option.bind_eq_some_iff.mp (show (ev C mb ρ).bind _ = some (r, ρ') from e)
  obtain ⟨x0, e2, e⟩ := Option.bind_eq_some_iff.mp e
  dsimp only at e
  split at e
  · rename_i hx0
    obtain ⟨⟨rk, ρ2⟩, e3, e⟩ := Option.bind_eq_some_iff.mp e
    obtain ⟨⟨y, ρ3⟩, e4, e⟩ := Option.bind_eq_some_iff.mp e
    obtain ⟨⟨rz, ρ4⟩, e5, e⟩ := Option.bind_eq_some_iff.mp e
    obtain ⟨⟨z, ρ5⟩, e6, e⟩ := Option.bind_eq_some_iff.mp e
    obtain ⟨x1, e7, e⟩ := Option.bind_eq_some_iff.mp e
    obtain ⟨ov, e8, e⟩ := Option.map_eq_some_iff.mp e
    cases e
    refine ⟨R, ρ, rb, ρ1, m, e1, fun v1 H1 R1 s1 rr1 f1 => ?_⟩
    obtain ⟨a0, ks0, zs0, ds0, u0, rfl, h1, h2, _⟩ := dct_of (look_rep s1.mt rr1 e2) hx0
    refine ⟨rcv_dct h1 h2, R1, ρ1, rk, ρ2, s1.mt, e3, fun v2 H2 R2 s2 rr2 f2 => ?_⟩
    obtain ⟨R3, up3, s3, rp3⟩ := fix_step s2 rr2 f2 e4
    refine ⟨R3, ρ3, rz, ρ4, s3.mt, e5, fun v4 H4 R4 s4 rr4 f4 => ?_⟩
    obtain ⟨R5, up5, s5, rp5⟩ := fix_step s4 rr4 f4 e6
    have s15 := s1.trans (s3.trans s5)
    obtain ⟨a1, ks, zs, ds, u, ea, h3, h4, h5, h6⟩ := dct_of (look_rep s15.mt (rr1.step s1.mt (s3.trans s5)) e7) (dgt_is e8)
    cases ea
    rw [h6] at e8
    split at e8
    · rename_i hk
      cases e8
      refine ⟨a0, ks, zs, u, y, v2, rfl, h3, h4, hk, kyV_of (s5.rep s3.mt rp3) (kOk_is hk), .inr ⟨v4, rfl, ?_⟩⟩
      refine q _ H4 R5 s15 ?_ trivial
      show Rep X.K X.w R5 H4 _ _
      cases g : getK y ks ds with
      | none => rw [getK_none h5 g]; exact rp5
      | some d =>
        obtain ⟨z', gz, rz'⟩ := getK_some h5 g
        rw [gz]; exact rz'
    · cases e8
  · cases e
end
end PV

/-! PV, part Na: list comprehensions of two clauses, dict comprehensions. -/
namespace PV
open PySem PySem.Spec PyProof.Rows L2
section
variable {K : PySem.W.Frag} {w : World} {C : Cfg} {np : Nat} {R R' R0 R1 R2 : Addr → Prop} {ρ ρ' ρ0 ρ1 ρ2 ρ3 : Rho} {σ σ' σ0 σ1 σ2 : St} {H H' H0 H1 H2 : Hp}
/-- nothing that is read alone goes -/
structure Kp (R : Addr → Prop) (H : Hp) (R' : Addr → Prop) (H' : Hp) : Prop where
  up : ∀ b, R b → R' b
  t : ∀ b o, Fz o → H b = some o → H' b = some o
  k : ∀ b o, R b → H b = some o → H' b = some o
theorem Kp.refl : Kp R H R H := ⟨fun _ h => h, fun _ _ _ h => h, fun _ _ _ h => h⟩
theorem Kp.trans (a : Kp R H R1 H1) (b : Kp R1 H1 R2 H2) : Kp R H R2 H2 := ⟨fun x h => b.up x (a.up x h), fun x o z h => b.t x o z (a.t x o z h), fun x o z h => b.k x o (a.up x z) (a.k x o z h)⟩
theorem SS.kp (m : Mt K w R ρ σ H) (s : SS K w np σ R ρ H σ' R' ρ' H') : Kp R H R' H' := ⟨s.up, m.keepT s.fr, m.keepK s.fr⟩
theorem Kp.poke {D : Addr} {o : HO} (a : Kp R H R1 H1) (n : ¬ R1 D) (z : ∀ u, H1 D = some u → ¬ Fz u) : Kp R H R1 (upd H1 D o) :=
  ⟨a.up, fun b u q e => (upd_ne fun e' => z u (by rw [← e']; exact a.t b u q e) q).trans (a.t b u q e), fun b u q e => (upd_ne fun e' => n (by rw [← e']; exact a.up b q)).trans (a.k b u q e)⟩
theorem lst_nfz {xs : List V} {u : HO} (e : some (HO.lst xs) = some u) : ¬ Fz u := fun z => by
  cases e
  rcases z with ⟨ys, z⟩ | ⟨ob, u', z⟩ <;> cases z
theorem dK_nfz {xs : List (Key × V)} {u : HO} (e : some (HO.dK xs) = some u) : ¬ Fz u := fun z => by
  cases e
  rcases z with ⟨ys, z⟩ | ⟨ob, u', z⟩ <;> cases z
theorem wipe_in {vs ws : List Nat} {τ : St} (hs : ∀ i, i ∈ vs → i ∈ ws) (l : σ2.length = (L2.wipe σ ws).length) (o : ∀ i, i ∉ vs → σ2[i]? = (L2.wipe σ ws)[i]?) : L2.wipe σ2 ws = L2.wipe σ ws :=
  (wipe_eq l fun i hi => o i fun z => hi (hs i z)).trans (wipe_eq (wipe_length ..) fun i hi => wipe_out hi)
theorem lc_turn2 {elt : E} {t : Tg} {c : Option E} {D : Addr} {acc ds : List PV.D} {d : PV.D} {x : V} {Nx : Hp → Prop} (s : SS K w 0 σ0 R0 ρ0 H0 (L2.wipe σ t.slots) R ρ H) (g : Gr K w R ρ (L2.wipe σ t.slots) H D acc) (hD : H0 D = none) (hl : acc.length + ds.length ≤ most)
    (r : Rep K w R H d x) (e : lcF C elt t c d ρ = some (ds, ρ'))
    (q : ∀ R' H', SS K w 0 σ0 R0 ρ0 H0 (L2.wipe σ t.slots) R' ρ' H' → Gr K w R' ρ' (L2.wipe σ t.slots) H' D (acc ++ ds) → Kp R H R' H' → Nx H') :
    tG K w 0 t x (L2.wipe σ t.slots) H fun σ2 H2 => L2.wipe σ2 t.slots = L2.wipe σ t.slots ∧ tTo K w C c σ2 H2 fun b H3 => if b = true then tD K w C elt σ2 H3 fun y H4 => ∃ acc, H4 D = some (.lst acc) ∧ acc.length < sizeLine ∧ Nx (upd H4 D (.lst (acc ++ [y]))) else Nx H3 := by
  obtain ⟨ρ2, e1, e⟩ := Option.bind_eq_some_iff.mp e
  obtain ⟨⟨b, ρ3⟩, e2, e⟩ := Option.bind_eq_some_iff.mp e
  refine ⟨R, ρ, d, ρ2, s.mt, r, e1, fun σ2 s2 o2 l2 w2 => ?_⟩
  have hw : L2.wipe σ2 t.slots = L2.wipe σ t.slots := wipe_in (τ := σ) (fun _ h => h) l2 o2
  refine ⟨hw, R, ρ2, b, ρ3, s2.mt, e2, fun H3 R3 s3 => ?_⟩
  have s03 := (s.trans s2).trans s3
  have g3 := (g.step s.mt s2).step s2.mt s3
  have k3 := SS.kp s2.mt s3
  have fin : ∀ {R4 : Addr → Prop} {ρ4 : Rho} {H4 : Hp} {dd : List PV.D}, SS K w 0 σ0 R0 ρ0 H0 σ2 R4 ρ4 H4 → Gr K w R4 ρ4 σ2 H4 D (acc ++ dd) → Kp R H R4 H4 → some (dd, unset ρ4 t.slots) = some (ds, ρ') → Nx H4 := fun {R4 ρ4 H4 dd} s4 g4 k4 z => by
    cases z
    have s5 := s4.wipe t.slots
    rw [hw] at s5
    refine q R4 H4 s5 ⟨g4.nR, fun z => g4.nO ?_, g4.it⟩ k4
    rw [← hw] at z
    obtain ⟨i, d', _, h1, h2⟩ := unset_Own z
    exact ⟨i, d', h1, h2⟩
  cases b with
  | false =>
    show Nx H3
    refine fin s03 (dd := []) ?_ k3 e
    rw [List.append_nil]
    exact g3
  | true =>
    show tD K w C elt σ2 H3 _
    obtain ⟨⟨r4, ρ4⟩, e4, e⟩ := Option.bind_eq_some_iff.mp e
    obtain ⟨⟨d5, ρ5⟩, e5, e⟩ := Option.map_eq_some_iff.mp e
    refine ⟨R3, ρ3, r4, ρ4, s3.mt, e4, fun y H4 R4 s4 rr4 f4 => ?_⟩
    obtain ⟨R5, up5, s5, rp5⟩ := fix_step s4 rr4 f4 e5
    have g5 := g3.step s3.mt s5
    obtain ⟨vs, hv, rv⟩ := g5.it
    have hds : ds = [d5] := by cases e; rfl
    rw [hds] at hl
    refine ⟨vs, hv, by rw [← rv.length]; exact Nat.lt_of_lt_of_le (show acc.length < most from hl) (most_line (Nat.le_refl _)), ?_⟩
    have nf : ∀ u, H4 D = some u → ¬ Fz u := fun u z => by rw [hv] at z; exact lst_nfz z
    have k5 := k3.trans (SS.kp s3.mt s5)
    have s6 := (s03.trans s5).poke (p := D) (o := .lst (vs ++ [y])) hD nf g5.nR g5.nO
    have kk : Kp R5 H4 R5 (upd H4 D (.lst (vs ++ [y]))) := Kp.refl.poke g5.nR nf
    exact fin (dd := [d5]) s6 ⟨g5.nR, g5.nO, vs ++ [y], upd_same, (Reps.keep (fun _ z => z) kk.t kk.k _ _ rv).append ⟨Rep.keep (fun _ z => z) kk.t kk.k _ _ rp5, trivial⟩⟩ (k5.trans kk) (congrArg some e)
/-- one turn of two clauses -/
def lc2F (C : Cfg) (elt : E) (t : Tg) (c : Option E) (t2 : Tg) (it2 : E) (c2 : Option E) : D → Rho → Option (List D × Rho) := fun x ρ => (bindT 0 ρ t x).bind fun ρ2 => (tso C c ρ2).bind fun (b, ρ3) =>
  if b then (evi C it2 ρ3).bind fun (ys, ρ4) => (lcLoop (lcF C elt t2 c2) ys (unset ρ4 t2.slots)).map fun (ds, ρ9) => (ds, unset ρ9 (t.slots ++ t2.slots)) else some ([], unset ρ3 (t.slots ++ t2.slots))
theorem Gr.wipe {D : Addr} {acc : List PV.D} (g : Gr K w R ρ σ H D acc) (vs : List Nat) : Gr K w R (unset ρ vs) (L2.wipe σ vs) H D acc := ⟨g.nR, fun z => g.nO (let ⟨i, d, _, h1, h2⟩ := unset_Own z; ⟨i, d, h1, h2⟩), g.it⟩
theorem wipe_two {vs ws : List Nat} (hs : ∀ i, i ∈ vs → i ∈ ws) : L2.wipe (L2.wipe σ vs) ws = L2.wipe σ ws :=
  wipe_eq (wipe_length ..) fun i hi => wipe_out fun z => hi (hs i z)
end
section
variable {X : Cx} {C : Cfg} {a b c e tg iter elt tg1 iter1 : Expr} {ma mb mc mit melt : E} {pos p : Pos}
theorem lc2_end {t t2 : Tg} {mc mc2 : Option E} {mit2 : E} {σ : St} {H : Hp} {Q : VK} (h : tD X.K X.w C (.lc2 melt t mit mc t2 mit2 mc2) σ H Q) :
    tLc2 (tI X.K X.w C mit) (tG X.K X.w 0 t) (tTo X.K X.w C mc) (tI X.K X.w C mit2) (tG X.K X.w 0 t2) (tTo X.K X.w C mc2) (tD X.K X.w C melt) (t.slots ++ t2.slots) t2.slots σ H Q := by
  obtain ⟨R, ρ, r, ρ', m, e, q⟩ := h
  obtain ⟨⟨xs, ρ1⟩, e1, e⟩ := Option.bind_eq_some_iff.mp (show (evi C mit ρ).bind _ = some (r, ρ') from e)
  obtain ⟨⟨ds, ρ6⟩, e2, e⟩ := Option.bind_eq_some_iff.mp e
  dsimp only at e
  split at e
  · rename_i hz
    cases e
    have e2 : lcLoop (lc2F C melt t mc t2 mit2 mc2) xs (unset ρ1 (t.slots ++ t2.slots)) = some (ds, ρ6) := e2
    generalize hvs : t.slots ++ t2.slots = vs at e2 ⊢
    have in1 : ∀ i, i ∈ t.slots → i ∈ vs := fun i hi => by rw [← hvs]; exact List.mem_append_left _ hi
    have in2 : ∀ i, i ∈ t2.slots → i ∈ vs := fun i hi => by rw [← hvs]; exact List.mem_append_right _ hi
    refine ⟨R, ρ, xs, ρ1, m, e1, fun J H1 R1 s1 it D hD => ?_⟩
    have b0 : SS X.K X.w 0 (L2.wipe σ vs) R1 (unset ρ1 vs) H1 (L2.wipe σ vs) R1 (unset ρ1 vs) H1 := SS.refl ((SS.refl s1.mt).wipe vs).mt
    refine ⟨fun i k H2 => k = xs.length - i ∧ i ≤ xs.length ∧ ∃ R2 ρ2 acc es, SS X.K X.w 0 (L2.wipe σ vs) R1 (unset ρ1 vs) H1 (L2.wipe σ vs) R2 ρ2 H2 ∧ Gr X.K X.w R2 ρ2 (L2.wipe σ vs) H2 D acc ∧
      lcLoop (lc2F C melt t mc t2 mit2 mc2) (xs.drop i) ρ2 = some (es, ρ6) ∧ ds = acc ++ es, ⟨xs.length, rfl, Nat.zero_le _, R1, unset ρ1 vs, [], ds, b0.lay hD, ?_, e2, rfl⟩, fun i k H2 hW => ?_⟩
    · refine ⟨fun z => s1.mt.trk D z hD, fun z => ?_, [], upd_same, trivial⟩
      obtain ⟨d, _, tp⟩ := b0.mt.ownTop z
      obtain ⟨o, eo, _⟩ := tp.there
      rw [hD] at eo; cases eo
    · obtain ⟨hk, hi, R2, ρ2, acc, es, s2, g2, el, ed⟩ := hW
      obtain ⟨go, stop, yl⟩ := it R2 H2 s2.up (b0.mt.keepT s2.fr) (b0.mt.keepK s2.fr)
      by_cases hi2 : i < xs.length
      · rw [drop_get hi2] at el
        obtain ⟨⟨d1, ρ3⟩, e3, el⟩ := Option.bind_eq_some_iff.mp (show (lc2F C melt t mc t2 mit2 mc2 xs[i] ρ2).bind _ = some (es, ρ6) from el)
        obtain ⟨⟨es2, ρ7⟩, e4, el⟩ := Option.map_eq_some_iff.mp el
        cases el
        have hl1 : acc.length + d1.length ≤ most := by
          rw [ed, List.length_append, List.length_append] at hz
          omega
        let Nx : Hp → Prop := fun H' => (xs.length - (i + 1)) = xs.length - (i + 1) ∧ i + 1 ≤ xs.length ∧ ∃ R2 ρ2 acc es, SS X.K X.w 0 (L2.wipe σ vs) R1 (unset ρ1 vs) H1 (L2.wipe σ vs) R2 ρ2 H' ∧ Gr X.K X.w R2 ρ2 (L2.wipe σ vs) H' D acc ∧
          lcLoop (lc2F C melt t mc t2 mit2 mc2) (xs.drop (i + 1)) ρ2 = some (es, ρ6) ∧ ds = acc ++ es
        refine .inr ⟨go i hi2, Nx, fun H' h => ⟨xs.length - (i + 1), by omega, h⟩, fun x H' y => ?_⟩
        obtain ⟨hy, rx⟩ := yl i x H' _ (List.getElem?_eq_getElem hi2) y
        have s3 : SS X.K X.w 0 (L2.wipe σ vs) R2 ρ2 H2 (L2.wipe σ vs) R2 ρ2 H' := SS.yld s2.mt hy
        have s03 := s2.trans s3
        have g3 := g2.step s2.mt s3
        obtain ⟨ρa, ea, e3⟩ := Option.bind_eq_some_iff.mp (show (bindT 0 ρ2 t xs[i]).bind _ = some (d1, ρ3) from e3)
        obtain ⟨⟨bb, ρb⟩, eb, e3⟩ := Option.bind_eq_some_iff.mp e3
        refine ⟨R2, ρ2, xs[i], ρa, s3.mt, rx, ea, fun σ2 s4 o4 l4 w4 => ?_⟩
        have hw : L2.wipe σ2 vs = L2.wipe σ vs := wipe_in (τ := σ) in1 l4 o4
        refine ⟨hw, R2, ρa, bb, ρb, s4.mt, eb, fun H3 Rb s5 => ?_⟩
        have s05 := (s03.trans s4).trans s5
        have g5 := (g3.step s3.mt s4).step s4.mt s5
        have fin : ∀ {R4 : Addr → Prop} {ρ4 : Rho} {H4 : Hp} {dd : List PV.D} {τ : St}, SS X.K X.w 0 (L2.wipe σ vs) R1 (unset ρ1 vs) H1 τ R4 ρ4 H4 → Gr X.K X.w R4 ρ4 τ H4 D (acc ++ dd) → L2.wipe τ vs = L2.wipe σ vs → some (dd, unset ρ4 vs) = some (d1, ρ3) → Nx H4 := fun {R4 ρ4 H4 dd τ} s6 g6 hτ z => by
          cases z
          have s7 := s6.wipe vs
          have g7 := g6.wipe vs
          rw [hτ] at s7 g7
          exact ⟨rfl, hi2, R4, _, _, es2, s7, g7, e4, by rw [ed, List.append_assoc]⟩
        cases bb with
        | false =>
          show Nx H3
          refine fin s05 (dd := []) ?_ hw (by rw [hvs] at e3; exact e3)
          rw [List.append_nil]
          exact g5
        | true =>
          obtain ⟨⟨ys, ρc⟩, ec, e3⟩ := Option.bind_eq_some_iff.mp e3
          obtain ⟨⟨dd, ρd⟩, ed2, e3⟩ := Option.map_eq_some_iff.mp e3
          rw [hvs] at e3
          cases e3
          refine ⟨Rb, ρb, ys, ρc, s5.mt, ec, fun J1 H4 R4 s6 it4 => ?_⟩
          have s06 := (s05.trans s6).wipe t2.slots
          have g6 := (g5.step s5.mt s6).wipe t2.slots
          refine ⟨fun j k H5 => k = ys.length - j ∧ j ≤ ys.length ∧ ∃ R5 ρ5 acc1 es1, SS X.K X.w 0 (L2.wipe σ vs) R1 (unset ρ1 vs) H1 (L2.wipe σ2 t2.slots) R5 ρ5 H5 ∧ Gr X.K X.w R5 ρ5 (L2.wipe σ2 t2.slots) H5 D (acc ++ acc1) ∧ Kp R4 H4 R5 H5 ∧
            lcLoop (lcF C melt t2 mc2) (ys.drop j) ρ5 = some (es1, ρd) ∧ d1 = acc1 ++ es1, ⟨ys.length, rfl, Nat.zero_le _, R4, unset ρc t2.slots, [], d1, s06, by rw [List.append_nil]; exact g6, Kp.refl, ed2, rfl⟩, fun j k H5 hW1 => ?_⟩
          obtain ⟨hk1, hj, R5, ρ5, acc1, es1, s7, g7, k7, el1, ed1⟩ := hW1
          obtain ⟨go1, stop1, yl1⟩ := it4 R5 H5 k7.up k7.t k7.k
          by_cases hj2 : j < ys.length
          · rw [drop_get hj2] at el1
            obtain ⟨⟨d3, ρ8⟩, e8, el1⟩ := Option.bind_eq_some_iff.mp (show (lcF C melt t2 mc2 ys[j] ρ5).bind _ = some (es1, ρd) from el1)
            obtain ⟨⟨es3, ρ9⟩, e9, el1⟩ := Option.map_eq_some_iff.mp el1
            cases el1
            refine .inr ⟨go1 j hj2, fun H' => (ys.length - (j + 1)) = ys.length - (j + 1) ∧ j + 1 ≤ ys.length ∧ ∃ R5 ρ5 acc1 es1, SS X.K X.w 0 (L2.wipe σ vs) R1 (unset ρ1 vs) H1 (L2.wipe σ2 t2.slots) R5 ρ5 H' ∧ Gr X.K X.w R5 ρ5 (L2.wipe σ2 t2.slots) H' D (acc ++ acc1) ∧ Kp R4 H4 R5 H' ∧
              lcLoop (lcF C melt t2 mc2) (ys.drop (j + 1)) ρ5 = some (es1, ρd) ∧ d1 = acc1 ++ es1, fun H' h => ⟨ys.length - (j + 1), by omega, h⟩, fun x H' y => ?_⟩
            obtain ⟨hy1, rx1⟩ := yl1 j x H' _ (List.getElem?_eq_getElem hj2) y
            have s8 : SS X.K X.w 0 (L2.wipe σ2 t2.slots) R5 ρ5 H5 (L2.wipe σ2 t2.slots) R5 ρ5 H' := SS.yld s7.mt hy1
            have k8 := k7.trans (SS.kp s7.mt s8)
            refine lc_turn2 (s7.trans s8) (g7.step s7.mt s8) hD ?_ rx1 e8 fun R' H'' s9 g9 k9 => ⟨rfl, hj2, R', ρ8, acc1 ++ d3, es3, s9, by rw [← List.append_assoc]; exact g9, k8.trans k9, e9, by rw [ed1, List.append_assoc]⟩
            rw [ed1, List.length_append, List.length_append] at hl1
            rw [List.length_append]
            omega
          · refine .inl ⟨stop1 j (by omega), ?_⟩
            rw [List.drop_eq_nil_of_le (by omega)] at el1
            cases el1
            rw [List.append_nil] at ed1
            subst ed1
            exact fin s7 g7 (by rw [wipe_two in2]; exact hw) rfl
      · refine .inl ⟨stop i (by omega), ?_⟩
        rw [List.drop_eq_nil_of_le (by omega)] at el
        cases el
        rw [List.append_nil] at ed
        subst ed
        have str : ∀ b, Own ρ6 (L2.wipe σ vs) b → Own ρ1 σ b ∨ H1 b = none := fun b hb => by
          rcases s2.mo b hb with z | z
          · obtain ⟨j, d, _, h1, h2⟩ := unset_Own z
            exact .inl ⟨j, d, h1, h2⟩
          · exact .inr z
        have s5 := SS.back s1.mt s2 str
        have nH : H D = none := by
          cases q : H D with
          | none => rfl
          | some o => exact absurd hD (s1.nw D (by rw [q]; simp))
        obtain ⟨vs', hv, rv⟩ := g2.it
        have q := q (.ref D) H2 R2
        rw [hvs] at q
        refine q (s1.trans s5) ⟨D, rfl, g2.nR, fun z => ?_, vs', hv, rv⟩ (fun a ea => by cases ea; exact nH)
        obtain ⟨j, d, h1, h2⟩ := z
        have hl6 : ρ6.length = ρ1.length := by rw [s2.mt.len, wipe_length, s1.mt.len]
        rw [(restore_get hl6 (vs := vs) (i := j)).2] at h1
        split at h1
        · obtain ⟨d', _, tp⟩ := s1.mt.ownTop ⟨j, d, h1, h2⟩
          obtain ⟨o, eo, _⟩ := tp.there
          rw [hD] at eo; cases eo
        · rename_i nj
          exact g2.nO ⟨j, d, h1, by rw [wipe_out nj]; exact h2⟩
  · cases e
theorem px_lc2 {t t2 : Tg} {mc mc2 : Option E} {mit2 : E} {ifs ifs1 : List Expr} {scope : Scope} {own : List (Str × Nat)} (hc : X.calm = true) (hN : X.N.Nodup) (hi : PI X tg iter (tI X.K X.w C mit)) (ok : BlkOk X.N X.env.scope scope own) (ho : own.map (·.2) = t.slots ++ t2.slots)
    (hg : ∀ (s : Shared) (H : Hp) (C : Addr) (cl : List (Str × Addr)) (fp : List Addr), PG (X.blk s H scope (compEnvC scope cl C X.env) fp) tg (tG X.K X.w 0 t))
    (ht : ∀ (s : Shared) (H : Hp) (C' : Addr) (cl : List (Str × Addr)) (fp : List Addr), PTs (X.blk s H scope (compEnvC scope cl C' X.env) fp) ifs (tTo X.K X.w C mc))
    (hi1 : ∀ (s : Shared) (H : Hp) (C' : Addr) (cl : List (Str × Addr)) (fp : List Addr), PI (X.blk s H scope (compEnvC scope cl C' X.env) fp) tg1 iter1 (tI X.K X.w C mit2))
    (hg1 : ∀ (s : Shared) (H : Hp) (C : Addr) (cl : List (Str × Addr)) (fp : List Addr), PG (X.blk s H scope (compEnvC scope cl C X.env) fp) tg1 (tG X.K X.w 0 t2))
    (ht1 : ∀ (s : Shared) (H : Hp) (C' : Addr) (cl : List (Str × Addr)) (fp : List Addr), PTs (X.blk s H scope (compEnvC scope cl C' X.env) fp) ifs1 (tTo X.K X.w C mc2))
    (he : ∀ (s : Shared) (H : Hp) (C' : Addr) (cl : List (Str × Addr)) (fp : List Addr), PE (X.blk s H scope (compEnvC scope cl C' X.env) fp) elt (tD X.K X.w C melt)) (hs : ∀ x, foldedSetIterable iter X.env x = pure x) (hs1 : ∀ env x, foldedSetIterable iter1 env x = pure x) :
    PE X (.ListComp elt [⟨tg, iter, ifs, 0⟩, ⟨tg1, iter1, ifs1, 0⟩] scope pos) (tD X.K X.w C (.lc2 melt t mit mc t2 mit2 mc2)) := by
  refine PE.imp (pe_lc2 (vs1 := t2.slots) hc hN hi ok (fun i hi => by rw [ho]; exact List.mem_append_right _ hi) hg ht hi1 hg1 ht1 he hs hs1) fun σ H Q h => ?_
  rw [ho]
  exact lc2_end h

end
end PV

/-! PV, part Nb: dict comprehensions whose keys are whole numbers, texts, or tuples of these. -/
namespace PV
open PySem PySem.Spec PyProof.Rows L2
section
variable {X : Cx} {pins : List (Addr × Obj)} {σ : L2.St} {H : Hp} {s : Shared} {a : Addr} {ks : List D} {xs : List V} {u : HO} {k : D} {y v : V} {uy : Value} {E : Value → Shared → Prop}
/-- d[k] = v, as a comprehension stores -/
theorem dct_dset {Q : Unit → Shared → Prop} {uv : Value} (hu : X.A.units < cLine) (I : Inv X pins σ H s) (e : H a = some u) (dc : DctC X.K X.w H a ks xs u) (hk : kOk ks k = true) (ky : KyV X.K H k y) (ry : RelV y uy) (rv : RelV v uv) (hz : ks.length < sizeLine)
    (h : ∀ u' s', Inv X pins σ (upd H a u') s' → (∀ H', (∀ b o, Fz o → H b = some o → H' b = some o) → DctC X.K X.w H' a (putKs k ks) (putVs k v ks xs) u') → Q () s') : wpAny (model X.prog X.w) X.A (dictSet a uy uv) Q E s := by
  rcases dct_cases dc hk ky with ⟨κ, kvs, rfl, rfl, rfl, rfl, rfl⟩ | ⟨κs, b, kas, rfl, rfl, hb, rfl, ok⟩
  · rw [List.length_map] at hz
    exact d_dictSet I e hz ry rv fun s' I' => h _ s' I' fun H' _ => .inl ⟨_, rfl, (put_dK κ v kvs).1, (put_dK κ v kvs).2⟩
  · cases (show uy = Value.ref b from ry)
    rw [List.length_map] at hz
    obtain ⟨_, hd, us, rvs, hl, dd⟩ := dto_rd I (.inl e) ok
    have mu : Mut (H a) := by
      rw [e]
      rcases ok.1 with rfl | ⟨rfl, _⟩ <;> trivial
    refine wpAny_dictSet_heap (hsz := by rw [zip3_len hl]; omega) (show (tupleKind (mixKind X.prog X.w)).room X.A from hu) (key_fz I hb) dd fun h' dd' hs => ?_
    have hh := hasK_T κs kas us hl
    obtain ⟨q, es, ep, hq, h2, h3, h4, hkk, h5⟩ := dd'
    by_cases c : hasK (.tup (κs.map kD)) (kas.map kT) = true
    · have e1 : storedH (zip3 kas us) κs b uv = zip3 kas (repK (.tup (κs.map kD)) uv (kas.map kT) us) := by
        rw [repK_T]
        unfold storedH
        rw [if_pos (by rw [← hh]; exact c)]
      have hl' : kas.length = (repK (.tup (κs.map kD)) uv (kas.map kT) us).length := by rw [repK_len (by rw [List.length_map]; exact hl)]; exact hl
      rw [e1] at h4 h5
      rw [zip3_ent] at h4
      rw [zip3_fst hl'] at h5
      have new : ObjOk X.prog X.w (upd H a (DTO X.w a kas (repK (.tup (κs.map kD)) v (kas.map kT) xs))) h' a (DTO X.w a kas (repK (.tup (κs.map kD)) v (kas.map kT) xs)) :=
        ⟨⟨by omega, hd, h5, _, q, es, ep, repK_vals rv rvs, hl', hq, h2, h3, h4⟩, ⟨q, hq⟩, fun g1 g2 ⟨z1, z2, z3, us', o, es', ep', z4, z5, z6, z7⟩ k => ⟨z1, z2, z3, us', o, es', ep', z4, z5, k _ z6, z7⟩⟩
      refine h _ _ (d_write I mu hs ⟨q, hq⟩ new) fun H' hT => .inr ⟨kas, ?_, ?_, ?_, fun p hp => tupOk_keep hT (ok.2 p hp)⟩
      · unfold putVs; rw [if_pos c]
      · rintro rfl
        cases c
      · unfold putKs; rw [if_pos c]
    · have e1 : storedH (zip3 kas us) κs b uv = zip3 (kas ++ [(κs, b)]) (us ++ [uv]) := by
        unfold storedH zip3
        rw [if_neg (by rw [← zip3, ← hh]; exact c), List.zip_append hl, List.map_append]
        rfl
      have hl' : (kas ++ [(κs, b)]).length = (us ++ [uv]).length := by rw [List.length_append, List.length_append, hl]; rfl
      rw [e1] at h4 h5
      rw [zip3_ent] at h4
      rw [zip3_fst hl'] at h5
      have new : ObjOk X.prog X.w (upd H a (DTO X.w a (kas ++ [(κs, b)]) (xs ++ [v]))) h' a (DTO X.w a (kas ++ [(κs, b)]) (xs ++ [v])) :=
        ⟨⟨by rw [List.length_append]; show kas.length + 1 ≤ _; omega, hd, h5, _, q, es, ep, rvs.append (.cons rv .nil), hl', hq, h2, h3, h4⟩, ⟨q, hq⟩, fun g1 g2 ⟨z1, z2, z3, us', o, es', ep', z4, z5, z6, z7⟩ k => ⟨z1, z2, z3, us', o, es', ep', z4, z5, k _ z6, z7⟩⟩
      refine h _ _ (d_write I mu hs ⟨q, hq⟩ new) fun H' hT => .inr ⟨kas ++ [(κs, b)], ?_, by simp, ?_, fun p hp => ?_⟩
      · unfold putVs; rw [if_neg c]
      · unfold putKs; rw [if_neg c, List.map_append]; rfl
      · rcases List.mem_append.mp hp with hp | hp
        · exact tupOk_keep hT (ok.2 p hp)
        · rw [List.mem_singleton.mp hp]; exact tupOk_keep hT hb
end
section
variable {X : Cx}
/-- a step of a dict that grows: y its key, z its value -/
def DSt (K : PySem.W.Frag) (w : World) (D : Addr) (y z : V) (H : Hp) (Nx : Hp → Prop) : Prop := ∃ ks xs u k, H D = some u ∧ DctC K w H D ks xs u ∧ kOk ks k = true ∧ KyV K H k y ∧ ks.length < sizeLine ∧
  ∀ u', (∀ H', (∀ b o, Fz o → H b = some o → H' b = some o) → DctC K w H' D (putKs k ks) (putVs k z ks xs) u') → Nx (upd H D u')
/-- a dict comprehension over what wi walks: D the new dict -/
def tDcT (K : PySem.W.Frag) (w : World) (wi : TI) (g : TG) (tt : TT) (tk tv : TE) (vs : List Nat) : TE := fun σ H Q => wi σ H fun J H1 => ∀ D, H1 D = none → ∃ W : Nat → Nat → Hp → Prop, (∃ m, W 0 m (upd H1 D (.dK []))) ∧ ∀ i m H, W i m H →
  (J.stop i H ∧ Q (.ref D) H) ∨ (J.go i H ∧ ∃ Nx : Hp → Prop, (∀ H', Nx H' → ∃ m', m' < m ∧ W (i + 1) m' H') ∧ ∀ x H', J.yld i H x H' → g x (L2.wipe σ vs) H' fun σ2 H2 => L2.wipe σ2 vs = L2.wipe σ vs ∧ tt σ2 H2 fun b H3 =>
    if b = true then tk σ2 H3 fun y H4 => tv σ2 H4 fun z H5 => DSt K w D y z H5 Nx else Nx H3)
section
variable {pins : List (Addr × Obj)} {s : Shared} {σ : L2.St} {H : Hp} {Q : VK} {kx vx tg iter : Expr} {ifs : List Expr} {scope : Scope} {own : List (Str × Nat)} {pos pos' : Pos} {wi : TI} {g : TG} {tt : TT} {tk tv : TE} {use : Option (Value → Sem Unit)} {Qf : Value → Shared → Prop}
/-- the comprehension's own names, ahead of its walk -/
abbrev blkAt (X : Cx) (s : Shared) (H : Hp) (scope : Scope) (fp : List Addr) : Cx := X.blk s H scope (compEnvC scope (cellsFrom (s.heap.objs.size + 1) scope.names (cloFrom X.env.cells scope.names [])) s.heap.objs.size X.env) fp
theorem dcT_core (hu : X.A.units < cLine) (hc : X.calm = true) (hN : X.N.Nodup) (I : Inv X pins σ H s) (hi : PI X tg iter wi) (ok : BlkOk X.N X.env.scope scope own)
    (hg : ∀ (s : Shared) (H : Hp) (C : Addr) (cl : List (Str × Addr)) (fp : List Addr), PG (X.blk s H scope (compEnvC scope cl C X.env) fp) tg g) (ht : ∀ (s : Shared) (H : Hp) (C : Addr) (cl : List (Str × Addr)) (fp : List Addr), PTs (X.blk s H scope (compEnvC scope cl C X.env) fp) ifs tt)
    (hk : ∀ (s : Shared) (H : Hp) (C : Addr) (cl : List (Str × Addr)) (fp : List Addr), PE (X.blk s H scope (compEnvC scope cl C X.env) fp) kx tk)
    (he : ∀ (s : Shared) (H : Hp) (C : Addr) (cl : List (Str × Addr)) (fp : List Addr), PE (X.blk s H scope (compEnvC scope cl C X.env) fp) vx tv) (hs : ∀ x, foldedSetIterable iter X.env x = pure x)
    (h : tDcT X.K X.w wi g tt tk tv (own.map (·.2)) σ H Q)
    (hRR : ∀ D C s' m H', Inv X pins σ H' s' → Q (.ref D) H' → s'.heap.Ns C m → FpOk X pins H' C → compPost (model X.prog X.w) X.A X.xe use Qf (.ref D) C (.ok .next) s') :
    wpAny (model X.prog X.w) X.A (comprehension (.DictComp kx vx [⟨tg, iter, ifs, 0⟩] scope pos) scope X.env pos' newDict false (eval iter X.env) use) Qf X.xe s := by
  have free : ∀ y ∈ scope.names, y.2 = .free → ∃ c, X.env.cells.lookup y.1 = some c := fun y hy e => by
    rcases ok.free y hy e with k | k
    · exact I.ok.has _ (.inl k)
    · exact I.ok.has _ (.inr k)
  refine wpAny_comprehension_free (use := use) rfl hs (closure_ok free) ok.kind (fun y hy e => by rw [ok.uniq y hy, e])
    (thn (hi.run pins s σ H _ I h) fun xv sA hx => thn hx fun itv sB hB => ?_)
  obtain ⟨it, fp, tn, J, HB, rfl, IB, T, stB, fB, q⟩ := hB
  refine wpAny_newObj_type (newEnv_comp ?_)
  generalize hD : sB.heap.objs.size = D
  have newD : HB D = none := IB.hok.fresh (Nat.le_of_eq hD)
  obtain ⟨W, ⟨m0, w0⟩, turn⟩ := q D newD
  generalize hsC : ({ sB with heap := sB.heap.push { cls := .type "dict", data := .dict #[] } } : Shared) = sC
  have eC : sC.heap = sB.heap.push { cls := .type "dict", data := .dict #[] } := by rw [← hsC]
  have IC : Inv X pins σ (upd HB D (.dK [])) sC := by
    rw [← hsC]
    refine IB.laid (t' := sB.toks) (fun b o e => Heap.get?_push_of_some _ e) (Nat.le_of_eq hD) ?_
    rw [← hD]
    exact dk_empty sB.heap IB.big
  have fC : ∀ b ∈ fp, FpOk X pins (upd HB D (.dK [])) b ∧ b < sC.heap.objs.size := fun b hb => by
    obtain ⟨o, eo, _⟩ := T.obj _ _ stB b hb
    have hlt : b < sB.heap.objs.size := Heap.lt_size eo
    refine ⟨⟨?_, (fB b hb).2⟩, by rw [eC, Heap.size_push]; exact Nat.lt_succ_of_lt hlt⟩
    rw [upd_ne (by rw [← hD]; exact Nat.ne_of_lt hlt)]
    exact (fB b hb).1
  have stC : tn 0 sC.heap := T.keep _ _ _ stB fun b _ o e => by rw [eC]; exact Heap.get?_push_of_some _ e
  have nC : ∀ b ∈ fp, (upd HB D (.dK [])) b = none := fun b hb => (fC b hb).1.1
  have I4 := block_start IC ok hN fC
  have parts := And.intro (hg sC (upd HB D (.dK [])) sC.heap.objs.size (cellsFrom (sC.heap.objs.size + 1) scope.names (cloFrom X.env.cells scope.names [])) fp)
    (And.intro (ht sC (upd HB D (.dK [])) sC.heap.objs.size (cellsFrom (sC.heap.objs.size + 1) scope.names (cloFrom X.env.cells scope.names [])) fp)
    (And.intro (hk sC (upd HB D (.dK [])) sC.heap.objs.size (cellsFrom (sC.heap.objs.size + 1) scope.names (cloFrom X.env.cells scope.names [])) fp)
    (he sC (upd HB D (.dK [])) sC.heap.objs.size (cellsFrom (sC.heap.objs.size + 1) scope.names (cloFrom X.env.cells scope.names [])) fp)))
  show codeAny _ _ (.compStart (.DictComp kx vx [⟨tg, iter, ifs, 0⟩] scope pos) 0 (.ref it) (.ref D) (compEnvC scope (cellsFrom (sC.heap.objs.size + 1) scope.names (cloFrom X.env.cells scope.names [])) sC.heap.objs.size X.env)) (compPost (model X.prog X.w) X.A X.xe use Qf (.ref D) sC.heap.objs.size) { sC with heap := pushCells (sC.heap.push { cls := .type "dict", data := .dict #[] }) scope.names }
  generalize hce : compEnvC scope (cellsFrom (sC.heap.objs.size + 1) scope.names (cloFrom X.env.cells scope.names [])) sC.heap.objs.size X.env = ce at I4 parts ⊢
  have cL : ce.locals = sC.heap.objs.size := by subst hce; rfl
  generalize hHC : upd HB D (.dK []) = HC at IC I4 parts w0 nC fC
  obtain ⟨pg, pt, pk, pe⟩ := parts
  generalize hs4 : ({ sC with heap := pushCells (sC.heap.push { cls := .type "dict", data := .dict #[] }) scope.names } : Shared) = s4 at I4 ⊢
  have st4 : tn 0 s4.heap := T.keep _ _ _ stC fun b _ o e => by rw [← hs4]; exact pushCells_keeps _ _ _ _ (Heap.get?_push_of_some _ e)
  have stat : ∀ {σ' : L2.St} {H' : Hp} {s' : Shared}, Inv (X.blk sC HC scope ce fp) [] σ' H' s' → (∀ b ∈ fp, H' b = none) → ∀ b ∈ fp, FpOk (X.blk sC HC scope ce fp) [] H' b := fun {σ' H' s'} I' hn b hb =>
    ⟨hn b hb, (I'.ok.exf b hb).1, I'.ok.exfs b hb, .inl hb, fun x c e => (I'.ok.exf b hb).2 x c e, fun p hp => absurd (show p ∈ ([] : List (Addr × Obj)) ++ [] from hp) (by simp)⟩
  have loop : codeAny (model X.prog X.w) X.A (.compLoop (.DictComp kx vx [⟨tg, iter, ifs, 0⟩] scope pos) 0 (.ref it) (.ref D) ce) (compPost (model X.prog X.w) X.A X.xe use Qf (.ref D) sC.heap.objs.size) s4 := by
    refine compLoop_anyD (fun n s' => ∃ i H', Inv (X.blk sC HC scope ce fp) [] (L2.wipe σ (own.map (·.2))) H' s' ∧ tn i s'.heap ∧ (∀ b ∈ fp, H' b = none) ∧ W i n H') ?_ m0 ⟨0, HC, I4, st4, nC, w0⟩
    rintro n s5 ⟨i, H5, I5, st5, n5, w5⟩
    rcases turn i n H5 w5 with ⟨stop, qq⟩ | ⟨go, Nx, hNx, step⟩
    · refine thnF (T.done (X.blk sC HC scope ce fp) rfl rfl rfl hc i [] s5 _ H5 (fun _ _ => False) I5 (stat I5 n5) st5 stop) fun r s6 ⟨hr, I6⟩ => ?_
      subst hr
      have I7 : Inv X pins σ H5 s6 := IC.call' (ch := fp) I6.os I6.base I6.hok I6.bare fun b hb => ⟨(fC b hb).1.2.2.2.1, (fC b hb).1.2.1, (fC b hb).1.2.2.2.2.1, (fC b hb).1.2.2.2.2.2⟩
      have nL : H5 sC.heap.objs.size = none := by
        rw [← cL]
        exact I6.free
      obtain ⟨m, hn, _⟩ := I6.loc
      have hn : s6.heap.Ns ce.locals m := hn
      rw [cL] at hn
      exact hRR D sC.heap.objs.size s6 m H5 I7 qq hn (IC.fpOk (Nat.le_refl _) nL)
    · refine thnF (T.item (X.blk sC HC scope ce fp) rfl rfl rfl hc i [] s5 _ H5 (fun _ _ => False) I5 (stat I5 n5) st5 go) fun r s6 ⟨v, hr, h6⟩ => ?_
      subst hr
      refine thnF h6 fun _ s7 ⟨x, H7, I7, r7, y7, st7, n7⟩ => ?_
      refine thnF (pg.run _ s7 _ H7 x v _ (I7.pinned (stat I7 n7) (T.obj _ _ st7)) r7 (step x H7 y7)) fun _ s8 ⟨σ8, H8, I8, hw8, q8⟩ => ?_
      refine thnF (pt.run _ s8 σ8 H8 _ I8 q8) fun b s9 ⟨H9, I9, q9⟩ => ?_
      have fin : ∀ {s' : Shared} {H' : Hp}, Inv (X.blk sC HC scope ce fp) ([] ++ pinsAt fp s7.heap) σ8 H' s' → Nx H' → ∃ m, m < n ∧ ∃ i H', Inv (X.blk sC HC scope ce fp) [] (L2.wipe σ (own.map (·.2))) H' s' ∧ tn i s'.heap ∧ (∀ b ∈ fp, H' b = none) ∧ W i m H' := fun {s' H'} I' nx => by
        obtain ⟨m', hm, w'⟩ := hNx H' nx
        have pin : ∀ b ∈ fp, ∀ o, s7.heap.get? b = some o → s'.heap.get? b = some o ∧ H' b = none := fun b hb o e =>
          ⟨(I'.pin (b, o) (List.mem_append_right _ (List.mem_append_right _ (mem_pinsAt hb e)))).1, (I'.pin (b, o) (List.mem_append_right _ (List.mem_append_right _ (mem_pinsAt hb e)))).2.1⟩
        refine ⟨m', hm, i + 1, H', (I'.unpinned (pins := [])).weak (by rw [← hw8, wipe_length]) (fun j v e => ?_), T.keep _ _ _ st7 fun b hb o e => (pin b hb o e).1, fun b hb => ?_, w'⟩
        · rw [← hw8] at e
          exact (wipe_some e).1
        · obtain ⟨o, e, _⟩ := T.obj _ _ st7 b hb
          exact (pin b hb o e).2
      cases b with
      | false =>
        simp only [Bool.false_eq_true, if_false] at q9 ⊢
        exact fin I9 q9
      | true =>
        simp only [if_true] at q9 ⊢
        refine thnF (pk.run _ s9 σ8 H9 _ I9 q9) fun z s10 ⟨yk, H10, I10, r10, q10⟩ => ?_
        refine thnF (pe.run _ s10 σ8 H10 _ I10 q10) fun z2 s11 ⟨yv, H11, I11, r11, ks, xs, u, k, hD11, dc, hko, hky, hz11, nx⟩ => ?_
        exact dct_dset (X := X.blk sC HC scope ce fp) hu I11 hD11 dc hko hky r10 r11 hz11 fun u' s12 I12 c => fin I12 (nx u' c)
  exact codeAny_compStart_dict loop (T.self X.A 0 _ _ _ st4 loop)
end
end
/-! ### dict comprehensions -/
/-- the dict that grows, at D: nobody's own -/
structure GrD (K : PySem.W.Frag) (w : World) (R : Addr → Prop) (ρ : Rho) (σ : St) (H : Hp) (D : Addr) (ks vs : List PV.D) : Prop where
  nR : ¬ R D
  nO : ¬ Own ρ σ D
  it : ∃ (xs : List V) (u : HO), H D = some u ∧ Reps K w R H vs xs ∧ DctC K w H D ks xs u
section
variable {K : PySem.W.Frag} {w : World} {C : Cfg} {np : Nat} {R R' R0 R1 R2 : Addr → Prop} {ρ ρ' ρ0 ρ1 ρ2 ρ3 : Rho} {σ σ' σ0 σ1 σ2 : St} {H H' H0 H1 H2 : Hp}
theorem GrD.step {np : Nat} {D : Addr} {ks vs : List PV.D} (m : Mt K w R ρ σ H) (g : GrD K w R ρ σ H D ks vs) (s : SS K w np σ R ρ H σ' R' ρ' H') : GrD K w R' ρ' σ' H' D ks vs := by
  obtain ⟨n1, n2, xs, u, h, r, dc⟩ := g
  refine ⟨fun z => ?_, fun z => ?_, xs, u, s.fr D _ h n2, s.reps m r, dc.keep (m.keepT s.fr)⟩
  · rcases s.bd D z with z | z | z
    · exact n1 z
    · rw [h] at z; cases z
    · exact n2 z
  · rcases s.mo D z with z | z
    · exact n2 z
    · rw [h] at z; cases z
theorem GrD.wipe {D : Addr} {ks vs : List PV.D} (g : GrD K w R ρ σ H D ks vs) (ws : List Nat) : GrD K w R (unset ρ ws) (L2.wipe σ ws) H D ks vs := ⟨g.nR, fun z => g.nO (let ⟨i, d, _, h1, h2⟩ := unset_Own z; ⟨i, d, h1, h2⟩), g.it⟩
/-- one turn's way -/
def dcF (C : Cfg) (ke ve : E) (t : Tg) (c : Option E) : D → Rho → Option (Option (D × D) × Rho) := fun x ρ => (bindT 0 ρ t x).bind fun ρ2 => (tso C c ρ2).bind fun (b, ρ3) =>
  if b then (ev C ke ρ3).bind fun (rk, ρ4) => (fix ρ4 rk).bind fun (k, ρ5) => (ev C ve ρ5).bind fun (r, ρ6) => (fix ρ6 r).map fun (d, ρ7) => (some (k, d), unset ρ7 t.slots) else some (none, unset ρ3 t.slots)
end
section
variable {X : Cx} {C : Cfg} {a b c e tg iter elt tg1 iter1 kx vx : Expr} {ma mb mc mit melt mk mv : E} {pos p : Pos}
theorem dc_end {t : Tg} {mc : Option E} {σ : St} {H : Hp} {Q : VK} (h : tD X.K X.w C (.dc mk mv t mit mc) σ H Q) :
    tDcT X.K X.w (tI X.K X.w C mit) (tG X.K X.w 0 t) (tTo X.K X.w C mc) (tD X.K X.w C mk) (tD X.K X.w C mv) t.slots σ H Q := by
  obtain ⟨R, ρ, r, ρ', m, e, q⟩ := h
  obtain ⟨⟨xs, ρ1⟩, e1, e⟩ := Option.bind_eq_some_iff.mp (show (evi C mit ρ).bind _ = some (r, ρ') from e)
  obtain ⟨⟨⟨kf, vf⟩, ρ6⟩, e2, e⟩ := Option.map_eq_some_iff.mp e
  cases e
  have e2 : dcLoop (dcF C mk mv t mc) xs [] [] (unset ρ1 t.slots) = some ((kf, vf), ρ6) := e2
  refine ⟨R, ρ, xs, ρ1, m, e1, fun J H1 R1 s1 it D hD => ?_⟩
  have b0 : SS X.K X.w 0 (L2.wipe σ t.slots) R1 (unset ρ1 t.slots) H1 (L2.wipe σ t.slots) R1 (unset ρ1 t.slots) H1 := SS.refl ((SS.refl s1.mt).wipe t.slots).mt
  let W : Nat → Hp → Prop := fun i H2 => i ≤ xs.length ∧ ∃ R2 ρ2 ks vs, SS X.K X.w 0 (L2.wipe σ t.slots) R1 (unset ρ1 t.slots) H1 (L2.wipe σ t.slots) R2 ρ2 H2 ∧ GrD X.K X.w R2 ρ2 (L2.wipe σ t.slots) H2 D ks vs ∧
    dcLoop (dcF C mk mv t mc) (xs.drop i) ks vs ρ2 = some ((kf, vf), ρ6)
  refine ⟨fun i k H2 => k = xs.length - i ∧ W i H2, ⟨xs.length, rfl, Nat.zero_le _, R1, unset ρ1 t.slots, [], [], b0.lay hD, ?_, e2⟩, fun i k H2 hW => ?_⟩
  · refine ⟨fun z => s1.mt.trk D z hD, fun z => ?_, [], .dK [], upd_same, trivial, .inl ⟨[], rfl, rfl, rfl⟩⟩
    obtain ⟨d, _, tp⟩ := b0.mt.ownTop z
    obtain ⟨o, eo, _⟩ := tp.there
    rw [hD] at eo; cases eo
  · obtain ⟨hk, hi, R2, ρ2, ks, vs, s2, g2, el⟩ := hW
    obtain ⟨go, stop, yl⟩ := it R2 H2 s2.up (b0.mt.keepT s2.fr) (b0.mt.keepK s2.fr)
    by_cases hi2 : i < xs.length
    · refine .inr ⟨go i hi2, fun H' => (xs.length - (i + 1)) = xs.length - (i + 1) ∧ W (i + 1) H', fun H' h => ⟨xs.length - (i + 1), by omega, h⟩, fun x H' y => ?_⟩
      obtain ⟨hy, rx⟩ := yl i x H' _ (List.getElem?_eq_getElem hi2) y
      rw [drop_get hi2] at el
      obtain ⟨⟨oo, ρ3⟩, e3, el⟩ := Option.bind_eq_some_iff.mp (show (dcF C mk mv t mc xs[i] ρ2).bind _ = some ((kf, vf), ρ6) from el)
      have s3 : SS X.K X.w 0 (L2.wipe σ t.slots) R2 ρ2 H2 (L2.wipe σ t.slots) R2 ρ2 H' := SS.yld s2.mt hy
      have s03 := s2.trans s3
      have g3 := g2.step s2.mt s3
      obtain ⟨ρa, ea, e3⟩ := Option.bind_eq_some_iff.mp (show (bindT 0 ρ2 t xs[i]).bind _ = some (oo, ρ3) from e3)
      obtain ⟨⟨bb, ρb⟩, eb, e3⟩ := Option.bind_eq_some_iff.mp e3
      refine ⟨R2, ρ2, xs[i], ρa, s3.mt, rx, ea, fun σ2 s4 o4 l4 w4 => ?_⟩
      have hw : L2.wipe σ2 t.slots = L2.wipe σ t.slots := wipe_in (τ := σ) (fun _ h => h) l4 o4
      refine ⟨hw, R2, ρa, bb, ρb, s4.mt, eb, fun H3 Rb s5 => ?_⟩
      have s05 := (s03.trans s4).trans s5
      have g5 := (g3.step s3.mt s4).step s4.mt s5
      have fin : ∀ {R4 : Addr → Prop} {ρ4 : Rho} {H4 : Hp} {ks' vs' : List PV.D}, SS X.K X.w 0 (L2.wipe σ t.slots) R1 (unset ρ1 t.slots) H1 σ2 R4 ρ4 H4 → GrD X.K X.w R4 ρ4 σ2 H4 D ks' vs' → dcLoop (dcF C mk mv t mc) (xs.drop (i + 1)) ks' vs' (unset ρ4 t.slots) = some ((kf, vf), ρ6) → W (i + 1) H4 := fun {R4 ρ4 H4 ks' vs'} s6 g6 z => by
        have s7 := s6.wipe t.slots
        have g7 := g6.wipe t.slots
        rw [hw] at s7 g7
        exact ⟨hi2, R4, _, ks', vs', s7, g7, z⟩
      cases bb with
      | false =>
        cases e3
        exact ⟨rfl, fin s05 g5 el⟩
      | true =>
        obtain ⟨⟨rk, ρc⟩, ec, e3⟩ := Option.bind_eq_some_iff.mp e3
        obtain ⟨⟨kk, ρd⟩, ed, e3⟩ := Option.bind_eq_some_iff.mp e3
        obtain ⟨⟨rv, ρe⟩, ee, e3⟩ := Option.bind_eq_some_iff.mp e3
        obtain ⟨⟨vv, ρf⟩, ef, e3⟩ := Option.map_eq_some_iff.mp e3
        cases e3
        dsimp only at el
        split at el
        · rename_i hok
          refine ⟨Rb, ρb, rk, ρc, s5.mt, ec, fun y H4 R4 s6 rr6 f6 => ?_⟩
          obtain ⟨R5, up5, s7, rp7⟩ := fix_step s6 rr6 f6 ed
          refine ⟨R5, ρd, rv, ρe, s7.mt, ee, fun z H5 R6 s8 rr8 f8 => ?_⟩
          obtain ⟨R7, up7, s9, rp9⟩ := fix_step s8 rr8 f8 ef
          have g9 := (g5.step s5.mt s7).step s7.mt s9
          obtain ⟨xs0, u, hv, rvs, dct⟩ := g9.it
          have kv : KyV X.K H5 kk y := by
            rcases kyV_of rp7 (kOk_is hok.1) with ⟨κ, e1, e2⟩ | ⟨κs, b, e1, e2, hb⟩
            · exact .inl ⟨κ, e1, e2⟩
            · exact .inr ⟨κs, b, e1, e2, tupOk_keep (s7.mt.keepT s9.fr) hb⟩
          refine ⟨ks, xs0, u, kk, hv, dct, hok.1, kv, Nat.lt_of_lt_of_le hok.2 (most_line (Nat.le_refl _)), fun u' hu' => ⟨rfl, ?_⟩⟩
          have nf : ∀ u, H5 D = some u → ¬ Fz u := fun u2 z => by
            rw [hv] at z
            cases z
            rintro (⟨xs, e⟩ | ⟨ob, u3, e⟩)
            · exact dct.plain.1 _ e
            · exact dct.plain.2 _ _ e
          have s10 := ((s05.trans s7).trans s9).poke (p := D) (o := u') hD nf g9.nR g9.nO
          have kp : Kp R7 H5 R7 (upd H5 D u') := Kp.refl.poke g9.nR nf
          refine fin s10 ⟨g9.nR, g9.nO, putVs kk z ks xs0, u', upd_same, ?_, hu' _ kp.t⟩ el
          have r1 := Reps.keep (fun _ z => z) kp.t kp.k _ _ rvs
          have r2 := Rep.keep (fun _ z => z) kp.t kp.k _ _ rp9
          unfold putVs
          split
          · exact repK_reps r2 r1
          · exact r1.append ⟨r2, trivial⟩
        · cases el
    · refine .inl ⟨stop i (by omega), ?_⟩
      rw [List.drop_eq_nil_of_le (by omega)] at el
      cases el
      have str : ∀ b, Own ρ6 (L2.wipe σ t.slots) b → Own ρ1 σ b ∨ H1 b = none := fun b hb => by
        rcases s2.mo b hb with z | z
        · obtain ⟨j, d, _, h1, h2⟩ := unset_Own z
          exact .inl ⟨j, d, h1, h2⟩
        · exact .inr z
      have s5 := SS.back s1.mt s2 str
      have nH : H D = none := by
        cases q : H D with
        | none => rfl
        | some o => exact absurd hD (s1.nw D (by rw [q]; simp))
      obtain ⟨xs0, u, hv, rvs, dct⟩ := g2.it
      refine q (.ref D) H2 R2 (s1.trans s5) ⟨D, rfl, g2.nR, fun z => ?_, _, _, rvs, hv, dct⟩ (fun a ea => by cases ea; exact nH)
      obtain ⟨j, d, h1, h2⟩ := z
      have hl6 : ρ6.length = ρ1.length := by rw [s2.mt.len, wipe_length, s1.mt.len]
      rw [(restore_get hl6 (vs := t.slots) (i := j)).2] at h1
      split at h1
      · obtain ⟨d', _, tp⟩ := s1.mt.ownTop ⟨j, d, h1, h2⟩
        obtain ⟨o, eo, _⟩ := tp.there
        rw [hD] at eo; cases eo
      · rename_i nj
        exact g2.nO ⟨j, d, h1, by rw [wipe_out nj]; exact h2⟩
theorem px_dc {t : Tg} {mc : Option E} {ifs : List Expr} {scope : Scope} {own : List (Str × Nat)} (hu : X.A.units < cLine) (hc : X.calm = true) (hN : X.N.Nodup) (hi : PI X tg iter (tI X.K X.w C mit)) (ok : BlkOk X.N X.env.scope scope own) (ho : own.map (·.2) = t.slots)
    (hg : ∀ (s : Shared) (H : Hp) (C : Addr) (cl : List (Str × Addr)) (fp : List Addr), PG (X.blk s H scope (compEnvC scope cl C X.env) fp) tg (tG X.K X.w 0 t))
    (ht : ∀ (s : Shared) (H : Hp) (C' : Addr) (cl : List (Str × Addr)) (fp : List Addr), PTs (X.blk s H scope (compEnvC scope cl C' X.env) fp) ifs (tTo X.K X.w C mc))
    (hk : ∀ (s : Shared) (H : Hp) (C' : Addr) (cl : List (Str × Addr)) (fp : List Addr), PE (X.blk s H scope (compEnvC scope cl C' X.env) fp) kx (tD X.K X.w C mk))
    (he : ∀ (s : Shared) (H : Hp) (C' : Addr) (cl : List (Str × Addr)) (fp : List Addr), PE (X.blk s H scope (compEnvC scope cl C' X.env) fp) vx (tD X.K X.w C mv)) (hs : ∀ x, foldedSetIterable iter X.env x = pure x) :
    PE X (.DictComp kx vx [⟨tg, iter, ifs, 0⟩] scope pos) (tD X.K X.w C (.dc mk mv t mit mc)) := by
  refine PE.imp (t := tDcT X.K X.w (tI X.K X.w C mit) (tG X.K X.w 0 t) (tTo X.K X.w C mc) (tD X.K X.w C mk) (tD X.K X.w C mv) (own.map (·.2))) ⟨fun pins s σ H Q I h => ?_⟩ fun σ H Q h => ?_
  · rw [arm_eval_DictComp]
    refine dcT_core hu hc hN I hi ok hg ht hk he hs h fun D C s' m H' I' q hn f => ⟨m, hn, fun h'' sb => ?_⟩
    obtain ⟨f0, f1, f2, f3, f4, f5⟩ := f
    exact ⟨.ref D, H', I'.turned (t' := s'.toks) (fun b o hb e => (sb.2 b hb).trans e) f0 f1 f3 f4 f5, rfl, q⟩
  · rw [ho]
    exact dc_end h
end
end PV

/-! PV, part Pa: comprehensions that are stored on their own line; dict(zip(..)). -/
namespace PV
open PySem PySem.Spec PyProof.Rows L2
section
variable {X : Cx} {C : Cfg} {np : Nat} {a b c e tg iter elt tg1 iter1 kx vx : Expr} {ma mb mc mit melt mk mv : E} {pos p spos : Pos} {x y z : Str} {i j k : Nat}
/-- the end of such a store: the name gets the new object, then the block goes -/
theorem store_blk {py : Pos} {pins : List (Addr × Obj)} {σ : L2.St} {H' : Hp} {s' : Shared} {L C' : Addr} {D : Ends} {mm : Str → Option Value} (hN : X.N.Nodup) (hy : X.N[i]? = some y) (hyl : X.env.scope.names.lookup y = some .local) (I' : L2.Inv X pins σ H' s') (q : D.nx (σ.set i (some (V.ref L))) H')
    (hn : s'.heap.Ns C' mm) (f : FpOk X pins H' C') :
    compPost (model X.prog X.w) X.A X.xe (some (assign (.Name y py) X.env)) (fun _ s' => SP X pins D .next s') (.ref L) C' (.ok .next) s' := by
  show wpAny _ _ (assign (.Name y py) X.env (.ref L)) _ _ _
  refine wpAny_assign_Name (store_ok2 (v := V.ref L) I' hN hy (.inl hyl) rfl (fun s2 I2 ⟨a, sb, ha⟩ => ?_) (.inr hyl))
  obtain ⟨f0, f1, f2, f3, f4, f5⟩ := f
  have hne : C' ≠ a := ha.elim (fun z => by rw [z]; exact f1) fun z e => f4 y a z e.symm
  exact ⟨mm, hn.sameBut sb hne, fun h3 sb3 => ⟨_, H', I2.turned (t' := s2.toks) (fun b o hb e => (sb3.2 b hb).trans e) f0 f1 f3 f4 f5, q⟩⟩
theorem ps_setDc {py : Pos} {ifs : List Expr} {scope : Scope} {own : List (Str × Nat)} {wi : TI} {g : TG} {tt : TT} {tk tv : TE} (hu : X.A.units < cLine) (hc : X.calm = true) (hN : X.N.Nodup) (hy : X.N[i]? = some y) (hyl : X.env.scope.names.lookup y = some .local)
    (hsw : swapsWith (.DictComp kx vx [⟨tg, iter, ifs, 0⟩] scope pos) (some (.Name y py)) spos.line X.env = pure true) (hi : PI X tg iter wi) (ok : BlkOk X.N X.env.scope scope own)
    (hg : ∀ (s : Shared) (H : Hp) (C : Addr) (cl : List (Str × Addr)) (fp : List Addr), PG (X.blk s H scope (compEnvC scope cl C X.env) fp) tg g)
    (ht : ∀ (s : Shared) (H : Hp) (C : Addr) (cl : List (Str × Addr)) (fp : List Addr), PTs (X.blk s H scope (compEnvC scope cl C X.env) fp) ifs tt)
    (hk : ∀ (s : Shared) (H : Hp) (C : Addr) (cl : List (Str × Addr)) (fp : List Addr), PE (X.blk s H scope (compEnvC scope cl C X.env) fp) kx tk)
    (he : ∀ (s : Shared) (H : Hp) (C : Addr) (cl : List (Str × Addr)) (fp : List Addr), PE (X.blk s H scope (compEnvC scope cl C X.env) fp) vx tv) (hs : ∀ x, foldedSetIterable iter X.env x = pure x) :
    PS X (.Assign [.Name y py] (.DictComp kx vx [⟨tg, iter, ifs, 0⟩] scope pos) spos) (fun D σ H => tDcT X.K X.w wi g tt tk tv (own.map (·.2)) σ H fun x H1 => D.nx (σ.set i (some x)) H1) := by
  refine ⟨fun pins s σ H D I h => ?_⟩
  rw [exec_Assign_Name_used _ _ _ _ hsw]
  refine wpAny_bind (wpAny_standAt (wpAny_bind ?_))
  show wpAny _ X.A (do let _ ← comprehension (.DictComp kx vx [⟨tg, iter, ifs, 0⟩] scope pos) scope X.env (firstIterPos [⟨tg, iter, ifs, 0⟩] pos) newDict false (eval iter X.env) (some (assign (.Name y py) X.env))) _ _ s
  exact wpAny_bind (thn (dcT_core (Qf := fun _ s' => SP X pins D .next s') hu hc hN I hi ok hg ht hk he hs h fun L C s' m H' I' q hn f => store_blk hN hy hyl I' q hn f) fun _ s' hq => wpAny_pure (wpAny_pure hq))
theorem px_sdc1 {py : Pos} {t : Tg} {mc : Option E} {ifs : List Expr} {scope : Scope} {own : List (Str × Nat)} (hu : X.A.units < cLine) (hc : X.calm = true) (hN : X.N.Nodup) (hy : X.N[i]? = some y) (hyl : X.env.scope.names.lookup y = some .local)
    (hsw : swapsWith (.DictComp kx vx [⟨tg, iter, ifs, 0⟩] scope pos) (some (.Name y py)) spos.line X.env = pure true) (hi : PI X tg iter (tI X.K X.w C mit)) (ok : BlkOk X.N X.env.scope scope own) (ho : own.map (·.2) = t.slots)
    (hg : ∀ (s : Shared) (H : Hp) (C : Addr) (cl : List (Str × Addr)) (fp : List Addr), PG (X.blk s H scope (compEnvC scope cl C X.env) fp) tg (tG X.K X.w 0 t))
    (ht : ∀ (s : Shared) (H : Hp) (C' : Addr) (cl : List (Str × Addr)) (fp : List Addr), PTs (X.blk s H scope (compEnvC scope cl C' X.env) fp) ifs (tTo X.K X.w C mc))
    (hk : ∀ (s : Shared) (H : Hp) (C' : Addr) (cl : List (Str × Addr)) (fp : List Addr), PE (X.blk s H scope (compEnvC scope cl C' X.env) fp) kx (tD X.K X.w C mk))
    (he : ∀ (s : Shared) (H : Hp) (C' : Addr) (cl : List (Str × Addr)) (fp : List Addr), PE (X.blk s H scope (compEnvC scope cl C' X.env) fp) vx (tD X.K X.w C mv)) (hs : ∀ x, foldedSetIterable iter X.env x = pure x) :
    PS X (.Assign [.Name y py] (.DictComp kx vx [⟨tg, iter, ifs, 0⟩] scope pos) spos) (tS X.K X.w C np (.asg i (.dc mk mv t mit mc))) := by
  refine PS.imp (ps_setDc hu hc hN hy hyl hsw hi ok hg ht hk he hs) fun D σ H h => ?_
  rw [ho]
  exact dc_end (asg_end h)
theorem px_slc21 {py : Pos} {t t2 : Tg} {mc mc2 : Option E} {mit2 : E} {ifs ifs1 : List Expr} {scope : Scope} {own : List (Str × Nat)} (hc : X.calm = true) (hN : X.N.Nodup) (hy : X.N[i]? = some y) (hyl : X.env.scope.names.lookup y = some .local)
    (hsw : swapsWith (.ListComp elt [⟨tg, iter, ifs, 0⟩, ⟨tg1, iter1, ifs1, 0⟩] scope pos) (some (.Name y py)) spos.line X.env = pure true) (hi : PI X tg iter (tI X.K X.w C mit)) (ok : BlkOk X.N X.env.scope scope own) (ho : own.map (·.2) = t.slots ++ t2.slots)
    (hg : ∀ (s : Shared) (H : Hp) (C : Addr) (cl : List (Str × Addr)) (fp : List Addr), PG (X.blk s H scope (compEnvC scope cl C X.env) fp) tg (tG X.K X.w 0 t))
    (ht : ∀ (s : Shared) (H : Hp) (C' : Addr) (cl : List (Str × Addr)) (fp : List Addr), PTs (X.blk s H scope (compEnvC scope cl C' X.env) fp) ifs (tTo X.K X.w C mc))
    (hi1 : ∀ (s : Shared) (H : Hp) (C' : Addr) (cl : List (Str × Addr)) (fp : List Addr), PI (X.blk s H scope (compEnvC scope cl C' X.env) fp) tg1 iter1 (tI X.K X.w C mit2))
    (hg1 : ∀ (s : Shared) (H : Hp) (C : Addr) (cl : List (Str × Addr)) (fp : List Addr), PG (X.blk s H scope (compEnvC scope cl C X.env) fp) tg1 (tG X.K X.w 0 t2))
    (ht1 : ∀ (s : Shared) (H : Hp) (C' : Addr) (cl : List (Str × Addr)) (fp : List Addr), PTs (X.blk s H scope (compEnvC scope cl C' X.env) fp) ifs1 (tTo X.K X.w C mc2))
    (he : ∀ (s : Shared) (H : Hp) (C' : Addr) (cl : List (Str × Addr)) (fp : List Addr), PE (X.blk s H scope (compEnvC scope cl C' X.env) fp) elt (tD X.K X.w C melt)) (hs : ∀ x, foldedSetIterable iter X.env x = pure x) (hs1 : ∀ env x, foldedSetIterable iter1 env x = pure x) :
    PS X (.Assign [.Name y py] (.ListComp elt [⟨tg, iter, ifs, 0⟩, ⟨tg1, iter1, ifs1, 0⟩] scope pos) spos) (tS X.K X.w C np (.asg i (.lc2 melt t mit mc t2 mit2 mc2))) := by
  refine PS.imp (ps_setLc2 (vs1 := t2.slots) hc hN hy hyl hsw hi ok (fun i hi => by rw [ho]; exact List.mem_append_right _ hi) hg ht hi1 hg1 ht1 he hs hs1) fun D σ H h => ?_
  rw [ho]
  exact lc2_end (asg_end h)
end
end PV

/-! PV, part Kb: min(xs, default=y). -/
namespace PV
open PySem PySem.Spec PyProof.Rows L2
theorem minOf_int : ∀ (x : Int) (xs : List Int), PySem.W.minOf x xs = minL x xs := fun x xs => by
  unfold PySem.W.minOf
  induction xs generalizing x with
  | nil => rfl
  | cons y ys ih =>
    rw [List.foldl_cons]
    show _ = minL (if y < x then y else x) ys
    rw [← ih]
    congr 1
    show (if decide (y < x) = true then y else x) = _
    by_cases h : y < x <;> simp [h]
theorem holdAll_ints {h : Heap} : ∀ {ns : List Int} {us : List Value}, IntsAre us ns → PySem.W.HoldAll h us ns
  | _, _, .nil => ⟨[], .nil⟩
  | _, _, .cons n t r => by
    obtain ⟨as, q⟩ := holdAll_ints (h := h) r
    exact ⟨_, .cons (.int n t) q⟩
theorem holds_int {h : Heap} {v : Value} {n : Int} (x : PySem.W.Holds h v n) : ∃ t, v = .int n t := by
  obtain ⟨as, r⟩ := x
  have r : Reads h v (.int n) as := r
  cases r
  exact ⟨_, rfl⟩
theorem mnd_cases {x y d : D} (h : mndD x y = some d) : ∃ ns : List Int, rowIt x = some (ns.map .int) ∧ (y = .non ∨ ∃ i, y = .int i) ∧ ((ns = [] ∧ d = y) ∨ ∃ n r, ns = n :: r ∧ d = .int (minL n r)) := by
  unfold mndD at h
  split at h
  · rename_i ds e
    cases e1 : intsOf ds with
    | none => rw [e1] at h; cases h
    | some ns =>
      rw [e1] at h
      have er : rowIt x = some (ns.map .int) := by rw [e, intsOf_eq e1]
      cases ns with
      | nil =>
        cases y with
        | non => cases h; exact ⟨[], er, .inl rfl, .inl ⟨rfl, rfl⟩⟩
        | int i => cases h; exact ⟨[], er, .inr ⟨i, rfl⟩, .inl ⟨rfl, rfl⟩⟩
        | _ => cases h
      | cons n r =>
        cases y with
        | non => cases h; exact ⟨n :: r, er, .inl rfl, .inr ⟨n, r, rfl, rfl⟩⟩
        | int i => cases h; exact ⟨n :: r, er, .inr ⟨i, rfl⟩, .inr ⟨n, r, rfl, rfl⟩⟩
        | _ => cases h
  · cases h
section
variable {X : Cx} {C : Cfg} {a b : Expr} {ma mb : E} {pos p kpos : Pos}
theorem cr_minD (hu : X.A.units + 65 < cLine) (hc : X.calm = true) : CallRK X (.builtin "min") ["default"] (fun xs zs H Q => ∃ (R : Addr → Prop) (x y d : D) (v u : V), xs = [v] ∧ zs = [u] ∧ RepT X.K X.w R H x v ∧ RepT X.K X.w R H y u ∧ mndD x y = some d ∧ ∀ v', Rep X.K X.w R H d v' → Q v' H) := by
  intro pins s σ H xs zs us ws Q I r1 r2 h
  obtain ⟨R, x, y, d, v, u, rfl, rfl, hx, hy, e, q⟩ := h
  obtain ⟨uv, rfl, rv⟩ := vals1 r1
  obtain ⟨uu, rfl, ru⟩ := vals1 r2
  obtain ⟨ns, er, ey, ed⟩ := mnd_cases e
  have ry : Rep X.K X.w R H y u := by
    rcases ey with rfl | ⟨i, rfl⟩
    · exact hy.non
    · exact hy.int
  have h0 : ns = [] → ∀ h' tk, (∀ b o, s.heap.get? b = some o → h'.get? b = some o) → EP X pins σ Q uu { s with heap := h', toks := tk } := fun e0 h' tk hk => by
    rcases ed with ⟨_, rfl⟩ | ⟨n, r, e1, _⟩
    · exact ⟨u, H, I.kept hk, ru, q u ry⟩
    · rw [e0] at e1; cases e1
  have h1 : ∀ (n : Int) (r : List Int) (v' : Value) h' tk, ns = n :: r → PySem.W.Holds h' v' (PySem.W.minOf n r) → (∀ b o, s.heap.get? b = some o → h'.get? b = some o) → EP X pins σ Q v' { s with heap := h', toks := tk } := fun n r v' h' tk e1 hv hk => by
    rcases ed with ⟨e0, _⟩ | ⟨n', r', e2, rfl⟩
    · rw [e0] at e1; cases e1
    · rw [e1] at e2
      cases e2
      rw [minOf_int] at hv
      obtain ⟨t, rfl⟩ := holds_int hv
      exact ⟨.int (minL n r), H, I.kept hk, ⟨t, rfl⟩, q _ rfl⟩
  show wpAny _ _ (call (.builtin "min") [uv] [(Str.ofString "default", uu)]) _ _ _
  cases x with
  | tup ds =>
    cases er
    obtain ⟨p, xs, rfl, t1, t2⟩ := hx.tup
    obtain rfl := t2.ints
    obtain ⟨its, rv', hl, hz⟩ := I.tuple t1.sq
    cases (show uv = Value.ref p from rv)
    exact PySem.W.min_tuple_datum_default (α := Int) (I.ok.hd hc) hl (by simpa using holdAll_ints (ints_of_vals rv')) (by show X.A.units + 1 + 0 < cLine; omega) h0 fun n r i v' h' tk e1 _ hv hk => h1 n r v' h' tk e1 hv hk
  | lst ds =>
    cases er
    obtain ⟨p, xs, rfl, t1, t2⟩ := hx.lst
    obtain rfl := t2.ints
    obtain ⟨its, rv', hl, hz⟩ := I.list (SqL.of t1)
    cases (show uv = Value.ref p from rv)
    exact PySem.W.min_list_datum_default (α := Int) (I.ok.hd hc) hl.isList (by simpa using holdAll_ints (ints_of_vals rv')) (by show X.A.units + 1 + 0 < cLine; omega) h0 fun n r i v' h' tk e1 _ hv hk => h1 n r v' h' tk e1 hv hk
  | _ => cases er
theorem px_mnd (hu : X.A.units + 65 < cLine) (hc : X.calm = true) (hg : Gl X "min") (hm : X.mg "min" = none) (ha : PE X a (tD X.K X.w C ma)) (hs : isStar a = false) (hb : PE X b (tD X.K X.w C mb)) :
    PE X (.Call (.Name "min" p) [a] [⟨some "default", b, kpos⟩] pos) (tD X.K X.w C (.mnd ma mb)) := by
  refine PE.imp (pe_callBK (cr_minD hu hc) hg hm (by decide +kernel) (pa_cons ha pa_nil (star_cons hs)) (pk_cons hb pk_nil) (by decide) (by decide) (by rw [star_cons hs]; rfl) (star_plain (by simp [hs]))) fun σ H Q h => ?_
  obtain ⟨R, ρ, r, ρ', m, e, q⟩ := h
  obtain ⟨⟨ra, ρ1⟩, e1, e⟩ := Option.bind_eq_some_iff.mp (show (ev C ma ρ).bind _ = some (r, ρ') from e)
  obtain ⟨⟨rb, ρ2⟩, e2, e⟩ := Option.bind_eq_some_iff.mp e
  obtain ⟨x, e3, e⟩ := Option.bind_eq_some_iff.mp e
  obtain ⟨y, e4, e⟩ := Option.bind_eq_some_iff.mp e
  obtain ⟨d, e5, e⟩ := Option.map_eq_some_iff.mp e
  cases e
  refine ⟨R, ρ, ra, ρ1, m, e1, fun v1 H1 R1 s1 rr1 f1 => ⟨R1, ρ1, rb, ρ', s1.mt, e2, fun v2 H2 R2 s2 rr2 f2 => ?_⟩⟩
  exact ⟨R2, x, y, d, v1, v2, rfl, rfl, look_rep s2.mt (rr1.step s1.mt s2) e3, look_rep s2.mt rr2 e4, e5, fun v' hv' => q v' H2 R2 (s1.trans s2) hv' trivial⟩
end
end PV

/-! PV, part Nc: {k: v}. -/
namespace PV
open PySem PySem.Spec PyProof.Rows L2
section
variable {X : Cx} {C : Cfg} {kx vx : Expr} {mk mv : E} {pos : Pos}
theorem px_dsp (hu : X.A.units < cLine) (hk : PE X kx (tD X.K X.w C mk)) (hv : PE X vx (tD X.K X.w C mv)) : PE X (.Dict [some kx] [vx] pos) (tD X.K X.w C (.dsp mk mv)) := by
  refine ⟨fun pins s σ H Q I h => ?_⟩
  obtain ⟨R, ρ, r, ρ', m, e, q⟩ := h
  obtain ⟨⟨rk, ρ1⟩, e1, e⟩ := Option.bind_eq_some_iff.mp (show (ev C mk ρ).bind _ = some (r, ρ') from e)
  obtain ⟨⟨k, ρ2⟩, e2, e⟩ := Option.bind_eq_some_iff.mp e
  obtain ⟨⟨rv, ρ3⟩, e3, e⟩ := Option.bind_eq_some_iff.mp e
  obtain ⟨⟨v, ρ4⟩, e4, e⟩ := Option.bind_eq_some_iff.mp e
  dsimp only at e
  split at e
  · rename_i hok
    cases e
    generalize hD : s.heap.objs.size = D
    have hn : H D = none := I.hok.fresh (Nat.le_of_eq hD)
    have I1 : Inv X pins σ (upd H D (.dK [])) { s with heap := s.heap.push { cls := .type "dict", data := .dict #[] } } := by
      refine I.laid (t' := s.toks) (fun b o e => Heap.get?_push_of_some _ e) (Nat.le_of_eq hD) ?_
      rw [← hD]
      exact dk_empty s.heap I.big
    have b0 : SS X.K X.w 0 σ R ρ H σ R ρ (upd H D (.dK [])) := (SS.refl m).lay hn
    have g0 : GrD X.K X.w R ρ σ (upd H D (.dK [])) D [] [] := by
      refine ⟨fun z => m.trk D z hn, fun z => ?_, [], .dK [], upd_same, trivial, .inl ⟨[], rfl, rfl, rfl⟩⟩
      obtain ⟨d, _, tp⟩ := m.ownTop z
      obtain ⟨o, eo, _⟩ := tp.there
      rw [hn] at eo; cases eo
    refine wpAny_Dict_any rfl rfl (by simp) (by simp) (thn ((pps_cons hk hv pps_nil).run pins _ σ _ (fun ps H2 => ∃ y z R2, ps = [(y, z)] ∧ SS X.K X.w 0 σ R ρ H σ R2 ρ' H2 ∧ GrD X.K X.w R2 ρ' σ H2 D [] [] ∧ KyV X.K H2 k y ∧ Rep X.K X.w R2 H2 v z) I1 ?_) fun ws s2 hw => ?_)
    · refine ⟨R, ρ, rk, ρ1, b0.mt, e1, fun y H1 R1 s1 rr1 f1 => ?_⟩
      obtain ⟨R3, up3, s3, rp3⟩ := fix_step s1 rr1 f1 e2
      refine ⟨R3, ρ2, rv, ρ3, s3.mt, e3, fun z H2 R4 s4 rr4 f4 => ?_⟩
      obtain ⟨R5, up5, s5, rp5⟩ := fix_step s4 rr4 f4 e4
      have kv : KyV X.K H2 k y := by
        rcases kyV_of rp3 (kOk_is hok) with ⟨κ, e1, e2⟩ | ⟨κs, b, e1, e2, hb⟩
        · exact .inl ⟨κ, e1, e2⟩
        · exact .inr ⟨κs, b, e1, e2, tupOk_keep (s3.mt.keepT s5.fr) hb⟩
      exact ⟨y, z, R5, rfl, (b0.trans s3).trans s5, (g0.step b0.mt s3).step s3.mt s5, kv, rp5⟩
    · obtain ⟨ps, H2, I2, rel, y, z, R2, eps, s02, g2, ky, rz⟩ := hw
      subst eps
      cases rel with
      | cons rp rt =>
        cases rt
        rename_i w0
        obtain ⟨yv, zv⟩ := w0
        obtain ⟨xs, u, hv', rvs, dc⟩ := g2.it
        have hxs : xs = [] := by
          have := rvs.length
          exact List.length_eq_zero_iff.mp this.symm
        subst hxs
        unfold PySem.storeAll
        simp only [List.forIn_cons, List.forIn_nil]
        rw [hD]
        refine wpAny_bind (wpAny_bind (dct_dset hu I2 hv' dc hok ky rp.1 rp.2 (Nat.zero_lt_succ _) fun u' s3 I3 hc => wpAny_pure (wpAny_pure ?_)))
        have nf : ∀ u, H2 D = some u → ¬ Fz u := fun u2 z => by
          rw [hv'] at z
          cases z
          rintro (⟨xs, e⟩ | ⟨ob, u3, e⟩)
          · exact dc.plain.1 _ e
          · exact dc.plain.2 _ _ e
        have s10 := s02.poke (p := D) (o := u') hn nf g2.nR g2.nO
        have kp : Kp R2 H2 R2 (upd H2 D u') := Kp.refl.poke g2.nR nf
        refine ⟨.ref D, _, I3, rfl, q (.ref D) _ R2 s10 ⟨D, rfl, g2.nR, g2.nO, putVs k z [] [], u', ?_, upd_same, hc _ kp.t⟩ fun a ea => by cases ea; exact hn⟩
        exact ⟨Rep.keep (fun _ z => z) kp.t kp.k _ _ rz, trivial⟩
  · cases e
end
end PV

/-! PV, part W: the program's text as the interpreter's. -/
namespace PV
open PySem PySem.Spec PyProof.Rows L2

/-- the slots' names; the program's own functions with their parameters; the built-in names that it does not shadow -/
structure Tab where
  N : List Str
  fns : List (Str × List Str)
  bl : List Str

/-! ### names -/
def visB (sc : Scope) (x : Str) : Bool := match sc.names.lookup x with
  | some .local => true
  | some .cell => true
  | some .free => true
  | _ => false
def locB (sc : Scope) (fn : Str → Bool) (x : Str) : Bool := match sc.names.lookup x with
  | some .local => true
  | some .cell => fn x
  | _ => false
def glB (sc : Scope) (x : Str) : Bool := match sc.names.lookup x with
  | some .globalImplicit => true
  | _ => false
def nmOk (x : Str) : Bool := !(x == ("__debug__" : Str)) && !(x == ("__classdict__" : Str))
def badE : E := .rng []
def trC : Const → Option D
  | .none => some .non
  | .bool b => some (.bl b)
  | .int i => some (.int i)
  | .str s => some (.str s)
  | _ => none
def btTab : List (Str × Bt) := [("len", .len), ("tuple", .tuple), ("list", .list), ("sorted", .sorted), ("sum", .sum), ("min", .min), ("max", .max), ("abs", .abs), ("int", .int), ("divmod", .divmod), ("all", .all), ("any", .any), ("set", .set)]
def btOf (x : Str) : Option Bt := btTab.lookup x
def tyTab : List (Str × String) := [("int", "int"), ("bool", "bool"), ("str", "str"), ("tuple", "tuple"), ("list", "list"), ("dict", "dict")]
def tyOf (x : Str) : Option String := tyTab.lookup x
theorem btTab_facts : ∀ p ∈ btTab, bootBuiltins p.1 = some (btV p.2) ∧ p.1 ≠ "__name__" ∧ (p.1 == ("__debug__" : Str)) = false := by decide +kernel
theorem tyTab_facts : ∀ p ∈ tyTab, Str.ofString p.2 = p.1 ∧ bootBuiltins p.1 = some (.type p.2) ∧ p.1 ≠ "__name__" ∧ (p.1 == ("__debug__" : Str)) = false := by decide +kernel
theorem btOf_facts {x : Str} {f : Bt} (h : btOf x = some f) : bootBuiltins x = some (btV f) ∧ x ≠ "__name__" ∧ (x == ("__debug__" : Str)) = false := btTab_facts _ (PySem.mem_of_lookup h)
theorem tyOf_facts {x : Str} {t : String} (h : tyOf x = some t) : Str.ofString t = x ∧ bootBuiltins x = some (.type t) ∧ x ≠ "__name__" ∧ (x == ("__debug__" : Str)) = false := tyTab_facts _ (PySem.mem_of_lookup h)

/-! ### targets -/
def tgName (T : Tab) (sc : Scope) (fn : Str → Bool) : Expr → Option Nat
  | .Name x _ => if locB sc fn x && decide (x ∈ T.N) then some (T.N.idxOf x) else none
  | _ => none
def tgNames (T : Tab) (sc : Scope) (fn : Str → Bool) : List Expr → Option (List Nat)
  | [] => some []
  | e :: es => (tgName T sc fn e).bind fun i => (tgNames T sc fn es).map (i :: ·)
def trG (T : Tab) (sc : Scope) (fn : Str → Bool) : Expr → Option Tg
  | .Tuple es _ _ => (tgNames T sc fn es).map .tp
  | e => (tgName T sc fn e).map .nm
/-- the names of a target, with their slots -/
def tgOwn (T : Tab) : Expr → List (Str × Nat)
  | .Name x _ => [(x, T.N.idxOf x)]
  | .Tuple es _ _ => es.filterMap fun e => match e with
    | .Name x _ => some (x, T.N.idxOf x)
    | _ => none
  | _ => []
def isSetE : Expr → Bool
  | .Set .. => true
  | _ => false
def isComp : Expr → Bool
  | .ListComp .. => true
  | .SetComp .. => true
  | .DictComp .. => true
  | _ => false
def blkFn (scope : Scope) : Str → Bool := fun x => scope.names.lookup x == some .cell
def unStar : Expr → Expr
  | .Starred e _ => e
  | e => e
def isTupT : Expr → Bool
  | .Tuple .. => true
  | _ => false

/-- a comprehension's tests: none or one -/
def tstOf (f : Expr → E) : List Expr → Option (Option E)
  | [] => some none
  | [c] => some (some (f c))
  | _ => none
/-- a comprehension of two clauses; the functions translate its parts -/
def lc2Of (T : Tab) (sc scope : Scope) (fe ft : Expr → E) (fi fi1 : Expr → Expr → E) (elt : Expr) : List Comprehension → Option E
  | [⟨tg, it, ifs, 0⟩, ⟨tg1, it1, ifs1, 0⟩] => (trG T (relS scope sc) (blkFn scope) tg).bind fun t => (trG T (relS scope sc) (blkFn scope) tg1).bind fun t2 => (tstOf ft ifs).bind fun c => (tstOf ft ifs1).bind fun c2 =>
      if blkC T.N sc scope (tgOwn T tg ++ tgOwn T tg1) && decide ((tgOwn T tg ++ tgOwn T tg1).map (·.2) = t.slots ++ t2.slots) && !isSetE it && !isSetE it1 then some (.lc2 (fe elt) t (fi tg it) c t2 (fi1 tg1 it1) c2) else none
  | _ => none
/-- a dict comprehension of one clause -/
def dcOf (T : Tab) (sc scope : Scope) (fe ft : Expr → E) (fi : Expr → Expr → E) (kx vx : Expr) : List Comprehension → Option E
  | [⟨tg, it, ifs, 0⟩] => (trG T (relS scope sc) (blkFn scope) tg).bind fun t => (tstOf ft ifs).bind fun c =>
      if blkC T.N sc scope (tgOwn T tg) && decide ((tgOwn T tg).map (·.2) = t.slots) && !isSetE it then some (.dc (fe kx) (fe vx) t (fi tg it) c) else none
  | _ => none
/-- `min` with a keyword `default` -/
def mndOf (bl : List Str) (x : Str) (f : Expr → E) : List Expr → List Keyword → Option E
  | [a], [⟨some d, b, _⟩] => if x = "min" ∧ d = "default" ∧ x ∈ bl ∧ isStar a = false then some (.mnd (f a) (f b)) else none
  | _, _ => none
def orBad : Option E → E
  | some e => e
  | none => badE

/-! ### expressions -/
mutual
def trE (T : Tab) : Nat → Scope → (Str → Bool) → Expr → E
  | 0, _, _, _ => badE
  | n + 1, sc, fn, e => match e with
    | .Name x _ => if visB sc x && nmOk x && decide (x ∈ T.N) then .var (T.N.idxOf x) else if glB sc x && nmOk x then .glb x else badE
    | .Constant c _ _ => match trC c with
      | some d => .con d
      | none => badE
    | .BinOp a op b _ => .bin op (trE T n sc fn a) (trE T n sc fn b)
    | .UnaryOp .USub a _ => .neg (trE T n sc fn a)
    | .UnaryOp .Not a _ => .not (trE T n sc fn a)
    | .BoolOp _ [a] _ => trE T n sc fn a
    | .BoolOp .And (a :: b :: r) pos => .bop true (trE T n sc fn a) (trE T n sc fn (.BoolOp .And (b :: r) pos))
    | .BoolOp .Or (a :: b :: r) pos => .bop false (trE T n sc fn a) (trE T n sc fn (.BoolOp .Or (b :: r) pos))
    | .IfExp c a b _ => .ife (trT T n sc fn c) (trE T n sc fn a) (trE T n sc fn b)
    | .Compare a [op] [b] _ => if behindInMarks op b then badE else .cmp op (trE T n sc fn a) (trE T n sc fn b)
    | .Compare a [op, op'] [b, c] _ => if lastMarks [op, op'] [b, c] then badE else .chn op op' (trE T n sc fn a) (trE T n sc fn b) (trE T n sc fn c)
    | .Tuple es _ _ => if es.all (fun e => !isStar e) then .tup (es.map (trE T n sc fn)) else .tupS (es.map fun e => trE T n sc fn (unStar e)) (es.map isStar)
    | .List es _ => if es.all (fun e => !isStar e) then .lst (es.map (trE T n sc fn)) else .lstS (es.map fun e => trE T n sc fn (unStar e)) (es.map isStar)
    | .Dict [] [] _ => .dnew
    | .Dict [some kx] [vx] _ => .dsp (trE T n sc fn kx) (trE T n sc fn vx)
    | .Subscript a i _ => match i with
      | .Slice lo hi none _ => .slc (trE T n sc fn a) (lo.map (trE T n sc fn)) (hi.map (trE T n sc fn))
      | .Slice none none (some (.UnaryOp .USub (.Constant (.int 1) _ _) _)) _ => .rev (trE T n sc fn a)
      | i => if isSlice i then badE else .ix (trE T n sc fn a) (trE T n sc fn i)
    | .ListComp elt [⟨tg, it, ifs, 0⟩] scope _ =>
      match trG T (relS scope sc) (blkFn scope) tg with
      | some t => if blkC T.N sc scope (tgOwn T tg) && decide ((tgOwn T tg).map (·.2) = t.slots) && !isSetE it then
          match ifs with
          | [] => .lc (trE T n (relS scope sc) (blkFn scope) elt) t (trI T n sc fn tg it) none
          | [c] => .lc (trE T n (relS scope sc) (blkFn scope) elt) t (trI T n sc fn tg it) (some (trT T n (relS scope sc) (blkFn scope) c))
          | _ => badE
        else badE
      | none => badE
    | .ListComp elt [⟨tg, it, ifs, 0⟩, ⟨tg1, it1, ifs1, 0⟩] scope _ =>
      orBad (lc2Of T sc scope (trE T n (relS scope sc) (blkFn scope)) (trT T n (relS scope sc) (blkFn scope)) (trI T n sc fn) (trI T n (relS scope sc) (blkFn scope)) elt [⟨tg, it, ifs, 0⟩, ⟨tg1, it1, ifs1, 0⟩])
    | .DictComp kx vx gs scope _ => orBad (dcOf T sc scope (trE T n (relS scope sc) (blkFn scope)) (trT T n (relS scope sc) (blkFn scope)) (trI T n sc fn) kx vx gs)
    | .Call f args kws pos => match f with
      | .Name x _ =>
        if glB sc x && !(x == ("__debug__" : Str)) && args.all (fun e => !isStar e) && kws.all (fun k => k.arg.isSome) then
          match T.fns.lookup x with
          | some ps => if bindC ps args.length (kws.filterMap (·.arg)) (ps.map fun y => (ps.take args.length ++ kws.filterMap (·.arg)).idxOf y) then
              .call x (args.map (trE T n sc fn)) (kws.map fun k => trE T n sc fn k.value) (ps.map fun y => (ps.take args.length ++ kws.filterMap (·.arg)).idxOf y) else badE
          | none =>
            if decide (x ∈ T.bl) && kws.isEmpty then
              match args with
              | [] => badE
              | a :: r =>
                match (if x = "isinstance" then (match r with
                    | [.Name t _] => if glB sc t && decide (t ∈ T.bl) then (tyOf t).map fun t => E.isi (trE T n sc fn a) t else none
                    | _ => none) else none) with
                | some m => m
                | none =>
                  match (if (x = "tuple" ∨ x = "list") ∧ r = [] then (match a with
                      | .Call (.Name g _) rs [] _ => if g = "range" ∧ glB sc g ∧ g ∈ T.bl then (match rs with
                          | [b] => if isStar b then none else some (E.ofr (decide (x = "tuple")) [trE T n sc fn b])
                          | [b, c] => if isStar b || isStar c then none else some (E.ofr (decide (x = "tuple")) [trE T n sc fn b, trE T n sc fn c])
                          | _ => none) else none
                      | _ => none) else none) with
                  | some m => m
                  | none => match btOf x with
                    | some f => .blt f ((a :: r).map (trE T n sc fn))
                    | none => badE
            else orBad (mndOf T.bl x (trE T n sc fn) args kws)
        else badE
      | .Attribute (.Name x _) m apos =>
        if visB sc x && nmOk x && decide (x ∈ T.N) && (apos.endLine == pos.line) && kws.isEmpty then
          match args with
          | [] => if m = "pop" then .pop (T.N.idxOf x) else badE
          | [a] => if isStar a then badE else if m = "append" then .app (T.N.idxOf x) (trE T n sc fn a) else if m = "extend" then .ext (T.N.idxOf x) (trE T n sc fn a)
              else if m = "pop" then .popi (T.N.idxOf x) (trE T n sc fn a) else if m = "index" then .mix (T.N.idxOf x) (trE T n sc fn a) else if m = "count" then .mcn (T.N.idxOf x) (trE T n sc fn a)
              else if m = "get" then .dgt (.var (T.N.idxOf x)) (trE T n sc fn a) none else badE
          | [a, b] => if isStar a || isStar b then badE else if m = "get" then .dgt (.var (T.N.idxOf x)) (trE T n sc fn a) (some (trE T n sc fn b)) else badE
          | _ => badE
        else badE
      | _ => badE
    | _ => badE
def trT (T : Tab) : Nat → Scope → (Str → Bool) → Expr → E
  | 0, _, _, _ => badE
  | n + 1, sc, fn, e => match e with
    | .UnaryOp .Not a _ => .not (trT T n sc fn a)
    | .BoolOp _ [a] _ => trT T n sc fn a
    | .BoolOp .And (a :: b :: r) pos => .bop true (trT T n sc fn a) (trT T n sc fn (.BoolOp .And (b :: r) pos))
    | .BoolOp .Or (a :: b :: r) pos => .bop false (trT T n sc fn a) (trT T n sc fn (.BoolOp .Or (b :: r) pos))
    | .Compare a [op] [b] _ => if behindInMarks op b then badE else .cmp op (trE T n sc fn a) (trE T n sc fn b)
    | .Compare a [op, op'] [b, c] _ => if lastMarks [op, op'] [b, c] then badE else .chn op op' (trE T n sc fn a) (trE T n sc fn b) (trE T n sc fn c)
    | e => if isPlainTest e then .tru (trE T n sc fn e) else badE
def trI (T : Tab) : Nat → Scope → (Str → Bool) → Expr → Expr → E
  | 0, _, _, _, _ => badE
  | n + 1, sc, fn, tg, e => match (match e with
      | .Call (.Name g _) args [] _ =>
        if glB sc g && decide (g ∈ T.bl) then
          (if g = "range" then (match args with
            | [a] => if isStar a then none else some (E.rng [trE T n sc fn a])
            | [a, b] => if isStar a || isStar b then none else some (E.rng [trE T n sc fn a, trE T n sc fn b])
            | _ => none)
          else if g = "enumerate" then (match args with
            | [a] => if isStar a || !isTupT tg then none else some (E.enm (trE T n sc fn a))
            | _ => none)
          else if g = "zip" then (match args with
            | [a, b] => if isStar a || isStar b || !isTupT tg then none else some (E.zip (trE T n sc fn a) (trE T n sc fn b))
            | _ => none)
          else none)
        else none
      | _ => none) with
    | some m => m
    | none => .ovr (trE T n sc fn e)
end
end PV

/-! PV, part X: what the translation of an expression says. -/
namespace PV
open PySem PySem.Spec PyProof.Rows L2

/-- a context that the translation fits -/
structure XOk (p : Pg) (fuel k : Nat) (T : Tab) (sc : Scope) (fn : Str → Bool) (X : Cx) : Prop where
  calm : X.calm = true
  hN : X.N = T.N
  nd : T.N.Nodup
  hsc : X.env.scope = sc
  kd : sc.kind = .function
  hfn : X.fn = fn
  room : Room k X.A
  nox : X.xe = fun _ _ => False
  bl : ∀ x ∈ T.bl, X.mg x = none
  gl : ∀ x d, p.glb x = some d → ∃ v u, X.mg x = some u ∧ RelV v u ∧ ∀ R H, Rep X.K X.w R H d v
  fns : ∀ x ps, T.fns.lookup x = some ps → ∃ fa fd, FnOk X.prog X.w X.K X.mg X.base CX0 k fa fd ps (spF X.K X.w p fuel k x) ∧ X.mg x = some (.ref fa) ∧ PySem.W.keepIn X.K (.ref fa) = true ∧ PlainFd fd ps

section
variable {p : Pg} {fuel k : Nat} {T : Tab} {sc : Scope} {fn : Str → Bool} {X : Cx}
theorem XOk.blk (h : XOk p fuel k T sc fn X) {scope : Scope} (hs : scope.kind = .function) (s : Shared) (H : Hp) (C : Addr) (cl : List (Str × Addr)) (fp : List Addr) :
    XOk p fuel k T (relS scope sc) (blkFn scope) (X.blk s H scope (compEnvC scope cl C X.env) fp) where
  calm := h.calm
  hN := h.hN
  nd := h.nd
  hsc := by rw [← h.hsc]; rfl
  kd := hs
  hfn := rfl
  room := h.room
  nox := rfl
  bl := h.bl
  gl := h.gl
  fns := h.fns
theorem XOk.units (h : XOk p fuel k T sc fn X) : X.A.units + 65 < cLine := by have := h.room.un; omega
theorem XOk.gl' (h : XOk p fuel k T sc fn X) {x : Str} (e : glB sc x = true) : Gl X x := by
  unfold glB at e
  split at e
  · rename_i q
    show X.env.scope.names.lookup x = _
    rw [h.hsc]
    exact q
  · cases e
theorem XOk.vis (h : XOk p fuel k T sc fn X) {x : Str} (e : visB sc x = true) : Vis X.env.scope x := by
  unfold visB at e
  rw [h.hsc]
  split at e
  · exact .inl (by assumption)
  · exact .inr (.inl (by assumption))
  · exact .inr (.inr (by assumption))
  · cases e
theorem XOk.loc (h : XOk p fuel k T sc fn X) {x : Str} (e : locB sc fn x = true) : Loc X.env.scope x ∧ (X.fn x = true ∨ X.env.scope.names.lookup x = some .local) := by
  unfold locB at e
  rw [h.hsc, h.hfn]
  split at e
  · exact ⟨.inl (by assumption), .inr (by assumption)⟩
  · exact ⟨.inr (by assumption), .inl e⟩
  · cases e
theorem idx_get {x : Str} {N : List Str} (h : x ∈ N) : N[N.idxOf x]? = some x := by
  have hl : N.idxOf x < N.length := List.idxOf_lt_length_iff.mpr h
  rw [List.getElem?_eq_getElem hl]
  exact congrArg some (List.getElem_idxOf hl)
theorem XOk.slot (h : XOk p fuel k T sc fn X) {x : Str} (e : x ∈ T.N) : X.N[T.N.idxOf x]? = some x := by rw [h.hN]; exact idx_get e
theorem nmOk_facts {x : Str} (h : nmOk x = true) : (x == ("__debug__" : Str)) = false ∧ (x == ("__classdict__" : Str)) = false := by
  unfold nmOk at h
  simpa using h
theorem and2 {a b : Bool} (h : (a && b) = true) : a = true ∧ b = true := by simpa using h
theorem and3 {a b c : Bool} (h : (a && b && c) = true) : a = true ∧ b = true ∧ c = true := by
  obtain ⟨h1, h2⟩ := and2 h
  exact ⟨(and2 h1).1, (and2 h1).2, h2⟩

/-! ### code that is never reached -/
theorem px_bad {C : Cfg} {e : Expr} : PE X e (tD X.K X.w C badE) := ⟨fun pins s σ H Q I h => by
  obtain ⟨R, ρ, r, ρ', m, e, q⟩ := h
  cases e⟩
theorem px_tbad {C : Cfg} {e : Expr} : PT X e (tT X.K X.w C badE) := ⟨fun pins s σ H Q I h => by
  obtain ⟨R, ρ, r, ρ', m, e, q⟩ := h
  cases e⟩
theorem px_wbad {C : Cfg} {e : Expr} : PW X e (tT X.K X.w C badE) := ⟨fun wh pins s σ H Q I h => by
  obtain ⟨R, ρ, r, ρ', m, e, q⟩ := h
  cases e⟩
theorem px_ibad {C : Cfg} {tg e : Expr} : PI X tg e (tI X.K X.w C badE) := ⟨fun pins s σ H Q I h => by
  obtain ⟨R, ρ, r, ρ', m, e, q⟩ := h
  cases e⟩

/-! ### targets -/
theorem tr_name {np : Nat} {e : Expr} {i : Nat} (h : XOk p fuel k T sc fn X) (e1 : tgName T sc fn e = some i) : ∃ x pos, e = .Name x pos ∧ X.N[i]? = some x ∧ Loc X.env.scope x ∧ (X.fn x = true ∨ X.env.scope.names.lookup x = some .local) := by
  unfold tgName at e1
  split at e1
  · rename_i x pos
    split at e1
    · rename_i hz
      cases e1
      obtain ⟨h1, h2⟩ := and2 hz
      exact ⟨x, pos, rfl, h.slot (of_decide_eq_true h2), h.loc h1⟩
    · cases e1
  · cases e1
theorem tr_names {np : Nat} (h : XOk p fuel k T sc fn X) : ∀ {es : List Expr} {is : List Nat}, tgNames T sc fn es = some is → PGs X es (tGs X.K X.w np is) ∧ es.all isNameE = true ∧ es.length = is.length
  | [], is, e => by
    cases e
    exact ⟨px_gsnil, rfl, rfl⟩
  | e :: es, is, e1 => by
    obtain ⟨i, e2, e1⟩ := Option.bind_eq_some_iff.mp (show (tgName T sc fn e).bind _ = some is from e1)
    obtain ⟨js, e3, e1⟩ := Option.map_eq_some_iff.mp e1
    subst e1
    obtain ⟨x, pos, rfl, h1, h2, h3⟩ := tr_name (np := np) h e2
    obtain ⟨h4, h5, h6⟩ := tr_names h e3
    exact ⟨px_gscons (by rw [h.hN]; exact h.nd) h1 h2 h3 h4, by rw [List.all_cons, h5]; rfl, by rw [List.length_cons, List.length_cons, h6]⟩
theorem tr_G {np : Nat} {e : Expr} {t : Tg} (h : XOk p fuel k T sc fn X) (e1 : trG T sc fn e = some t) : PG X e (tG X.K X.w np t) := by
  unfold trG at e1
  split at e1
  · obtain ⟨is, e2, e1⟩ := Option.map_eq_some_iff.mp e1
    subst e1
    obtain ⟨h1, h2, h3⟩ := tr_names (np := np) h e2
    exact px_gtp h.calm h1 h2 h3
  · obtain ⟨i, e2, e1⟩ := Option.map_eq_some_iff.mp e1
    subst e1
    obtain ⟨x, pos, rfl, h1, h2, h3⟩ := tr_name (np := np) h e2
    exact px_gnm (by rw [h.hN]; exact h.nd) h1 h2 h3

/-! ### expressions -/
theorem isSetE_fold {it : Expr} {env : Env} (h : isSetE it = false) : ∀ x, foldedSetIterable it env x = pure x := by
  intro x
  cases it <;> first | rfl | cases h
structure TrOk (p : Pg) (fuel k : Nat) (T : Tab) (n : Nat) : Prop where
  e : ∀ (X : Cx) (sc : Scope) (fn : Str → Bool), XOk p fuel k T sc fn X → ∀ e : Expr, PE X e (tD X.K X.w (cfg p fuel k) (trE T n sc fn e))
  t : ∀ (X : Cx) (sc : Scope) (fn : Str → Bool), XOk p fuel k T sc fn X → ∀ e : Expr, PT X e (tT X.K X.w (cfg p fuel k) (trT T n sc fn e))
  w : ∀ (X : Cx) (sc : Scope) (fn : Str → Bool), XOk p fuel k T sc fn X → ∀ (op : BoolOp) (a : Expr) (r : List Expr) (pos : Pos), PW X (.BoolOp op (a :: r) pos) (tT X.K X.w (cfg p fuel k) (trT T n sc fn (.BoolOp op (a :: r) pos)))
  i : ∀ (X : Cx) (sc : Scope) (fn : Str → Bool), XOk p fuel k T sc fn X → ∀ tg e : Expr, PI X tg e (tI X.K X.w (cfg p fuel k) (trI T n sc fn tg e))
section
variable {n : Nat}
theorem tr_args (ih : TrOk p fuel k T n) (h : XOk p fuel k T sc fn X) : ∀ {es : List Expr}, es.all (fun e => !isStar e) = true → PA X es (tA X.K X.w (cfg p fuel k) (es.map (trE T n sc fn)))
  | [], _ => px_nil
  | e :: es, hs => by
    rw [List.all_cons, Bool.and_eq_true] at hs
    exact px_cons (ih.e X sc fn h e) (tr_args ih h hs.2) (by simpa using hs.1)
theorem tr_argsf (ih : TrOk p fuel k T n) (h : XOk p fuel k T sc fn X) : ∀ {es : List Expr}, es.all (fun e => !isStar e) = true → PA X es (tAf X.K X.w (cfg p fuel k) (es.map (trE T n sc fn)))
  | [], _ => px_fnil
  | e :: es, hs => by
    rw [List.all_cons, Bool.and_eq_true] at hs
    exact px_fcons (ih.e X sc fn h e) (tr_argsf ih h hs.2) (by simpa using hs.1)
theorem tr_argsx (ih : TrOk p fuel k T n) (h : XOk p fuel k T sc fn X) : ∀ {es : List Expr}, PA X es (tAx X.K X.w (cfg p fuel k) (es.map fun e => trE T n sc fn (unStar e)) (es.map isStar))
  | [] => px_xnil
  | e :: es => by
    have ih2 := tr_argsx ih h (es := es)
    cases e
    case Starred a q => exact px_xstar (ih.e X sc fn h a) ih2
    all_goals exact px_xcons (ih.e X sc fn h _) ih2 rfl
theorem tr_kws (ih : TrOk p fuel k T n) (h : XOk p fuel k T sc fn X) : ∀ {ks : List Keyword}, PK X ks (tA X.K X.w (cfg p fuel k) (ks.map fun k => trE T n sc fn k.value))
  | [] => px_knil
  | ⟨nm, v, q⟩ :: ks => px_kcons (ih.e X sc fn h v) (tr_kws ih h)
theorem tr_part (ih : TrOk p fuel k T n) (h : XOk p fuel k T sc fn X) : ∀ (o : Option Expr), PO X o (PV.tOp X.K X.w (cfg p fuel k) (o.map (trE T n sc fn)))
  | none => px_part trivial
  | some e => px_part (ih.e X sc fn h e)
theorem tr_t (ih : TrOk p fuel k T n) (h : XOk p fuel k T sc fn X) (e : Expr) : PT X e (tT X.K X.w (cfg p fuel k) (trT T (n + 1) sc fn e)) := by
  unfold trT
  split
  · exact px_tnot (ih.t X sc fn h _)
  · rename_i op a pos
    cases op with
    | And => exact (px_wand1 (ih.t X sc fn h a)).pt
    | Or => exact (px_wor1 (ih.t X sc fn h a)).pt
  · exact (px_wand (ih.t X sc fn h _) (ih.w X sc fn h _ _ _ _)).pt
  · exact (px_wor (ih.t X sc fn h _) (ih.w X sc fn h _ _ _ _)).pt
  · split
    · exact px_tbad
    · rename_i hm
      exact px_tcmp h.units (ih.e X sc fn h _) (ih.e X sc fn h _) (by simpa using hm)
  · split
    · exact px_tbad
    · rename_i hm
      exact px_tchn h.units (ih.e X sc fn h _) (ih.e X sc fn h _) (ih.e X sc fn h _) (by simpa using hm)
  · split
    · rename_i hp
      exact px_tru (ih.e X sc fn h _) hp
    · exact px_tbad
theorem tr_w (ih : TrOk p fuel k T n) (h : XOk p fuel k T sc fn X) (op : BoolOp) (a : Expr) (r : List Expr) (pos : Pos) : PW X (.BoolOp op (a :: r) pos) (tT X.K X.w (cfg p fuel k) (trT T (n + 1) sc fn (.BoolOp op (a :: r) pos))) := by
  cases r with
  | nil =>
    cases op with
    | And => exact px_wand1 (ih.t X sc fn h a)
    | Or => exact px_wor1 (ih.t X sc fn h a)
  | cons b r =>
    cases op with
    | And => exact px_wand (ih.t X sc fn h a) (ih.w X sc fn h _ _ _ _)
    | Or => exact px_wor (ih.t X sc fn h a) (ih.w X sc fn h _ _ _ _)
theorem nst {e : Expr} (h : ¬ isStar e = true) : isStar e = false := by simpa using h
theorem tr_i (ih : TrOk p fuel k T n) (h : XOk p fuel k T sc fn X) (tg e : Expr) : PI X tg e (tI X.K X.w (cfg p fuel k) (trI T (n + 1) sc fn tg e)) := by
  unfold trI
  split
  · rename_i m e1
    split at e1
    · rename_i g gp args pos
      split at e1
      · rename_i hg
        obtain ⟨g1, g2⟩ := and2 hg
        have hgl := h.gl' g1
        have hbl := h.bl g (of_decide_eq_true g2)
        split at e1
        · rename_i q
          subst q
          split at e1
          · split at e1
            · cases e1
            · rename_i hs
              cases e1
              exact px_rng1 hgl hbl (ih.e X sc fn h _) (nst hs)
          · split at e1
            · cases e1
            · rename_i hs
              cases e1
              simp only [Bool.or_eq_true, not_or] at hs
              exact px_rng2 hgl hbl (ih.e X sc fn h _) (nst hs.1) (ih.e X sc fn h _) (nst hs.2)
          · cases e1
        · split at e1
          · rename_i q
            subst q
            split at e1
            · split at e1
              · cases e1
              · rename_i hs
                cases e1
                simp only [Bool.or_eq_true, not_or] at hs
                cases tg with
                | Tuple es kk tp => exact px_enm hgl hbl (ih.e X sc fn h _) (nst hs.1)
                | _ => exact absurd rfl hs.2
            · cases e1
          · split at e1
            · rename_i q
              subst q
              split at e1
              · split at e1
                · cases e1
                · rename_i hs
                  cases e1
                  simp only [Bool.or_eq_true, not_or] at hs
                  cases tg with
                  | Tuple es kk tp => exact px_zip hgl hbl (ih.e X sc fn h _) (nst hs.1.1) (ih.e X sc fn h _) (nst hs.1.2)
                  | _ => exact absurd rfl hs.2
              · cases e1
            · cases e1
      · cases e1
    · cases e1
  · exact px_ovr (ih.e X sc fn h _)
end
end
end PV

/-! PV, part Y: what the translation of an expression says, joined. -/
namespace PV
open PySem PySem.Spec PyProof.Rows L2

section
variable {p : Pg} {fuel k : Nat} {T : Tab} {sc : Scope} {fn : Str → Bool} {X : Cx} {n : Nat}
theorem bnot {b : Bool} (h : (!b) = true) : b = false := by simpa using h
theorem tr_con (c : Const) (j : Nat) (pos : Pos) {d : D} (e : trC c = some d) {C : Cfg} : PE X (.Constant c j pos) (tD X.K X.w C (.con d)) := by
  unfold trC at e
  split at e
  · cases e; exact px_con pe_non fun R H => rfl
  · cases e; exact px_con pe_bl fun R H => rfl
  · cases e; exact px_con pe_int fun R H => rfl
  · cases e; exact px_con pe_str fun R H => rfl
  · cases e
theorem tr_lc (ih : TrOk p fuel k T n) (h : XOk p fuel k T sc fn X) (elt tg it : Expr) (ifs : List Expr) (scope : Scope) (pos : Pos) {t : Tg} (e1 : trG T (relS scope sc) (blkFn scope) tg = some t) (hb : blkC T.N sc scope (tgOwn T tg) = true)
    (ho : (tgOwn T tg).map (·.2) = t.slots) (hs : isSetE it = false) {mc : Option E} (hc : match ifs with | [] => mc = none | [c] => mc = some (trT T n (relS scope sc) (blkFn scope) c) | _ => False) :
    BlkOk X.N X.env.scope scope (tgOwn T tg) ∧ (∀ (s : Shared) (H : Hp) (C : Addr) (cl : List (Str × Addr)) (fp : List Addr), PG (X.blk s H scope (compEnvC scope cl C X.env) fp) tg (tG X.K X.w 0 t)) ∧
      (∀ (s : Shared) (H : Hp) (C' : Addr) (cl : List (Str × Addr)) (fp : List Addr), PTs (X.blk s H scope (compEnvC scope cl C' X.env) fp) ifs (tTo X.K X.w (cfg p fuel k) mc)) ∧
      ∀ (s : Shared) (H : Hp) (C' : Addr) (cl : List (Str × Addr)) (fp : List Addr), PE (X.blk s H scope (compEnvC scope cl C' X.env) fp) elt (tD X.K X.w (cfg p fuel k) (trE T n (relS scope sc) (blkFn scope) elt)) := by
  have ok : BlkOk X.N X.env.scope scope (tgOwn T tg) := by rw [h.hN, h.hsc]; exact blkOk_by hb
  refine ⟨ok, fun s H C cl fp => tr_G (h.blk ok.kind s H C cl fp) e1, fun s H C cl fp => ?_, fun s H C cl fp => ih.e _ _ _ (h.blk ok.kind s H C cl fp) elt⟩
  split at hc
  · subst hc; exact px_tso_none
  · subst hc; exact px_tso_some (ih.t _ _ _ (h.blk ok.kind s H C cl fp) _)
  · exact hc.elim
theorem tst_of {f : Expr → E} {ifs : List Expr} {c : Option E} (e : tstOf f ifs = some c) : match ifs with | [] => c = none | [x] => c = some (f x) | _ => False := by
  unfold tstOf at e
  split at e
  · cases e; rfl
  · cases e; rfl
  · cases e
theorem tr_tso (ih : TrOk p fuel k T n) (h : XOk p fuel k T sc fn X) {ifs : List Expr} {c : Option E} (e : tstOf (trT T n sc fn) ifs = some c) : PTs X ifs (tTo X.K X.w (cfg p fuel k) c) := by
  unfold tstOf at e
  split at e
  · cases e; exact px_tso_none
  · cases e; exact px_tso_some (ih.t _ _ _ h _)
  · cases e
theorem mnd_inv {bl : List Str} {x : Str} {f : Expr → E} {args : List Expr} {kws : List Keyword} {m : E} (h : mndOf bl x f args kws = some m) :
    ∃ a b kp, x = "min" ∧ args = [a] ∧ kws = [⟨some "default", b, kp⟩] ∧ ("min" : Str) ∈ bl ∧ isStar a = false ∧ m = .mnd (f a) (f b) := by
  unfold mndOf at h
  split at h
  · split at h
    · rename_i hz
      obtain ⟨rfl, rfl, e1, e2⟩ := hz
      cases h
      exact ⟨_, _, _, rfl, rfl, rfl, e1, e2, rfl⟩
    · cases h
  · cases h
theorem lc2_inv {scope : Scope} {fe ft : Expr → E} {fi fi1 : Expr → Expr → E} {elt : Expr} {gs : List Comprehension} {e : E} (h : lc2Of T sc scope fe ft fi fi1 elt gs = some e) :
    ∃ tg it ifs tg1 it1 ifs1 t t2 c c2, gs = [⟨tg, it, ifs, 0⟩, ⟨tg1, it1, ifs1, 0⟩] ∧ e = .lc2 (fe elt) t (fi tg it) c t2 (fi1 tg1 it1) c2 ∧ trG T (relS scope sc) (blkFn scope) tg = some t ∧ trG T (relS scope sc) (blkFn scope) tg1 = some t2 ∧ tstOf ft ifs = some c ∧ tstOf ft ifs1 = some c2 ∧
      blkC T.N sc scope (tgOwn T tg ++ tgOwn T tg1) = true ∧ (tgOwn T tg ++ tgOwn T tg1).map (·.2) = t.slots ++ t2.slots ∧ isSetE it = false ∧ isSetE it1 = false := by
  unfold lc2Of at h
  split at h
  · obtain ⟨t, e1, h⟩ := Option.bind_eq_some_iff.mp h
    obtain ⟨t2, e2, h⟩ := Option.bind_eq_some_iff.mp h
    obtain ⟨c, e3, h⟩ := Option.bind_eq_some_iff.mp h
    obtain ⟨c2, e4, h⟩ := Option.bind_eq_some_iff.mp h
    split at h
    · rename_i hz
      cases h
      obtain ⟨hz, z4⟩ := and2 hz
      obtain ⟨z1, z2, z3⟩ := and3 hz
      exact ⟨_, _, _, _, _, _, t, t2, c, c2, rfl, rfl, e1, e2, e3, e4, z1, of_decide_eq_true z2, bnot z3, bnot z4⟩
    · cases h
  · cases h
theorem dc_inv {scope : Scope} {fe ft : Expr → E} {fi : Expr → Expr → E} {kx vx : Expr} {gs : List Comprehension} {e : E} (h : dcOf T sc scope fe ft fi kx vx gs = some e) :
    ∃ tg it ifs t c, gs = [⟨tg, it, ifs, 0⟩] ∧ e = .dc (fe kx) (fe vx) t (fi tg it) c ∧ trG T (relS scope sc) (blkFn scope) tg = some t ∧ tstOf ft ifs = some c ∧
      blkC T.N sc scope (tgOwn T tg) = true ∧ (tgOwn T tg).map (·.2) = t.slots ∧ isSetE it = false := by
  unfold dcOf at h
  split at h
  · obtain ⟨t, e1, h⟩ := Option.bind_eq_some_iff.mp h
    obtain ⟨c, e3, h⟩ := Option.bind_eq_some_iff.mp h
    split at h
    · rename_i hz
      cases h
      obtain ⟨z1, z2, z3⟩ := and3 hz
      exact ⟨_, _, _, t, c, rfl, rfl, e1, e3, z1, of_decide_eq_true z2, bnot z3⟩
    · cases h
  · cases h
theorem isSetE_fold' {it : Expr} (h : isSetE it = false) : ∀ (env : Env) x, foldedSetIterable it env x = pure x := fun env => isSetE_fold h
theorem tr_call (ih : TrOk p fuel k T n) (h : XOk p fuel k T sc fn X) {x : Str} {q pos : Pos} {args : List Expr} {kws : List Keyword} {ps : List Str} (hg : glB sc x = true) (hd : (x == ("__debug__" : Str)) = false) (hs : args.all (fun e => !isStar e) = true) (hk : kws.all (fun k => k.arg.isSome) = true)
    (hf : T.fns.lookup x = some ps) {perm : List Nat} (hb : bindC ps args.length (kws.filterMap (·.arg)) perm = true) : PE X (.Call (.Name x q) args kws pos) (tD X.K X.w (cfg p fuel k) (.call x (args.map (trE T n sc fn)) (kws.map fun k => trE T n sc fn k.value) perm)) := by
  obtain ⟨fa, fd, F, h1, h2, h3⟩ := h.fns x ps hf
  have hl : ∀ {kws : List Keyword}, kws.all (fun k => k.arg.isSome) = true → kws.length = (kws.filterMap (·.arg)).length := fun {kws} hk => by
    induction kws with
    | nil => rfl
    | cons a r ihh =>
      rw [List.all_cons, Bool.and_eq_true] at hk
      obtain ⟨v, hv⟩ := Option.isSome_iff_exists.mp hk.1
      rw [List.filterMap_cons, hv, List.length_cons, List.length_cons, ihh hk.2]
  cases args with
  | nil => exact px_call0 F h.room (h.gl' hg) h1 h2 h3 hb hd (tr_kws ih h) hk rfl (by rw [List.length_map]; exact hl hk)
  | cons a r => exact px_call F h.room (h.gl' hg) h1 h2 h3 (by rw [List.length_map]; exact hb) hd (tr_args ih h hs) (tr_kws ih h) hs hk rfl (by rw [List.length_map]; exact hl hk)
theorem tr_e (ih : TrOk p fuel k T n) (h : XOk p fuel k T sc fn X) (e : Expr) : PE X e (tD X.K X.w (cfg p fuel k) (trE T (n + 1) sc fn e)) := by
  unfold trE
  split
  · rename_i x pos
    split
    · rename_i hz
      obtain ⟨h1, h2, h3⟩ := and3 hz
      obtain ⟨d1, d2⟩ := nmOk_facts h2
      exact px_var (h.slot (of_decide_eq_true h3)) (h.vis h1) d1 d2
    · split
      · rename_i hz
        obtain ⟨h1, h2⟩ := and2 hz
        obtain ⟨d1, d2⟩ := nmOk_facts h2
        refine px_glb (h.gl' h1) d1 fun d e => ?_
        have e' : p.glb x = some d := by cases k <;> exact e
        exact h.gl x d e'
      · exact px_bad
  · split
    · rename_i d e1
      exact tr_con _ _ _ e1
    · exact px_bad
  · exact px_bin (ih.e X sc fn h _) (ih.e X sc fn h _)
  · exact px_neg (ih.e X sc fn h _)
  · exact px_not (ih.e X sc fn h _)
  · exact px_one (ih.e X sc fn h _)
  · exact px_and (ih.e X sc fn h _) (ih.e X sc fn h _)
  · exact px_or (ih.e X sc fn h _) (ih.e X sc fn h _)
  · exact px_ife (ih.t X sc fn h _) (ih.e X sc fn h _) (ih.e X sc fn h _)
  · split
    · exact px_bad
    · rename_i hm
      exact px_cmp h.units (ih.e X sc fn h _) (ih.e X sc fn h _) (by simpa using hm)
  · split
    · exact px_bad
    · rename_i hm
      exact px_chn h.units (ih.e X sc fn h _) (ih.e X sc fn h _) (ih.e X sc fn h _) (by simpa using hm)
  · split
    · rename_i hs
      exact px_tup (tr_argsf ih h hs)
    · exact px_tupS (tr_argsx ih h)
  · split
    · rename_i hs
      exact px_lst (tr_argsf ih h hs)
    · exact px_lstS (tr_argsx ih h)
  · exact px_dnew
  · exact px_dsp (by have := h.units; omega) (ih.e X sc fn h _) (ih.e X sc fn h _)
  · split
    · exact px_slc (ih.e X sc fn h _) (tr_part ih h _) (tr_part ih h _)
    · exact px_rev (ih.e X sc fn h _)
    · split
      · exact px_bad
      · rename_i hs
        exact px_ix h.units (ih.e X sc fn h _) (ih.e X sc fn h _) (by simpa using hs)
  · split
    · rename_i t e1
      split
      · rename_i hz
        obtain ⟨h1, h2, h3⟩ := and3 hz
        have h2 := of_decide_eq_true h2
        have h3 := bnot h3
        split
        · obtain ⟨q1, q2, q3, q4⟩ := tr_lc ih h _ _ _ [] _ ⟨0, 0, 0, 0⟩ e1 h1 h2 h3 (mc := none) rfl
          exact px_lc h.calm (by rw [h.hN]; exact h.nd) (ih.i X sc fn h _ _) q1 h2 q2 q3 q4 (isSetE_fold h3)
        · obtain ⟨q1, q2, q3, q4⟩ := tr_lc ih h _ _ _ [_] _ ⟨0, 0, 0, 0⟩ e1 h1 h2 h3 (mc := some _) rfl
          exact px_lc h.calm (by rw [h.hN]; exact h.nd) (ih.i X sc fn h _ _) q1 h2 q2 q3 q4 (isSetE_fold h3)
        · exact px_bad
      · exact px_bad
    · exact px_bad
  · rename_i elt tg it ifs tg1 it1 ifs1 scope pos
    generalize el : lc2Of T sc scope (trE T n (relS scope sc) (blkFn scope)) (trT T n (relS scope sc) (blkFn scope)) (trI T n sc fn) (trI T n (relS scope sc) (blkFn scope)) elt [⟨tg, it, ifs, 0⟩, ⟨tg1, it1, ifs1, 0⟩] = oe
    cases oe with
    | none => exact px_bad
    | some me =>
      obtain ⟨_, _, _, _, _, _, t, t2, c, c2, eg, rfl, e1, e2, e3, e4, z1, z2, z3, z4⟩ := lc2_inv el
      cases eg
      have ok : BlkOk X.N X.env.scope scope (tgOwn T tg ++ tgOwn T tg1) := by rw [h.hN, h.hsc]; exact blkOk_by z1
      exact px_lc2 h.calm (by rw [h.hN]; exact h.nd) (ih.i X sc fn h _ _) ok z2 (fun s H C cl fp => tr_G (h.blk ok.kind s H C cl fp) e1) (fun s H C cl fp => tr_tso ih (h.blk ok.kind s H C cl fp) e3) (fun s H C cl fp => ih.i _ _ _ (h.blk ok.kind s H C cl fp) _ _)
        (fun s H C cl fp => tr_G (h.blk ok.kind s H C cl fp) e2) (fun s H C cl fp => tr_tso ih (h.blk ok.kind s H C cl fp) e4) (fun s H C cl fp => ih.e _ _ _ (h.blk ok.kind s H C cl fp) _) (isSetE_fold z3) (isSetE_fold' z4)
  · rename_i kx vx gs scope pos
    generalize el : dcOf T sc scope (trE T n (relS scope sc) (blkFn scope)) (trT T n (relS scope sc) (blkFn scope)) (trI T n sc fn) kx vx gs = oe
    cases oe with
    | none => exact px_bad
    | some me =>
      obtain ⟨tg, it, ifs, t, c, rfl, rfl, e1, e3, z1, z2, z3⟩ := dc_inv el
      have ok : BlkOk X.N X.env.scope scope (tgOwn T tg) := by rw [h.hN, h.hsc]; exact blkOk_by z1
      exact px_dc (by have := h.units; omega) h.calm (by rw [h.hN]; exact h.nd) (ih.i X sc fn h _ _) ok z2 (fun s H C cl fp => tr_G (h.blk ok.kind s H C cl fp) e1) (fun s H C cl fp => tr_tso ih (h.blk ok.kind s H C cl fp) e3) (fun s H C cl fp => ih.e _ _ _ (h.blk ok.kind s H C cl fp) _)
        (fun s H C cl fp => ih.e _ _ _ (h.blk ok.kind s H C cl fp) _) (isSetE_fold z3)
  · split
    · rename_i x q
      split
      · rename_i hz
        obtain ⟨hz, hk⟩ := and2 hz
        obtain ⟨hg, hd, hs⟩ := and3 hz
        have hd : (x == ("__debug__" : Str)) = false := by simpa using hd
        split
        · rename_i ps hf
          split
          · rename_i hb
            exact tr_call ih h hg hd hs hk hf hb
          · exact px_bad
        · split
          · rename_i hz
            obtain ⟨hbl, hke⟩ := and2 hz
            have hbl := h.bl x (of_decide_eq_true hbl)
            have hke := List.isEmpty_iff.mp hke
            subst hke
            split
            · exact px_bad
            · rename_i a r hs
              have hsa := hs
              rw [List.all_cons, Bool.and_eq_true] at hsa
              have ha : isStar a = false := by simpa using hsa.1
              split
              · rename_i m em
                split at em
                · rename_i ex
                  subst ex
                  split at em
                  · rename_i t tp hs'
                    split at em
                    · rename_i ht
                      obtain ⟨t1, t2⟩ := and2 ht
                      obtain ⟨ty, e2, e3⟩ := Option.map_eq_some_iff.mp em
                      subst e3
                      obtain ⟨f1, f2, f3, f4⟩ := tyOf_facts e2
                      have tg := h.gl' t1
                      have tb := h.bl t (of_decide_eq_true t2)
                      subst f1
                      exact px_isi (h.gl' hg) hbl tg tb f2 f3 f4 (ih.e X sc fn h a) ha
                    · cases em
                  · cases em
                · cases em
              · split
                · rename_i m em
                  split at em
                  · rename_i hx
                    obtain ⟨hx, hr⟩ := hx
                    subst hr
                    split at em
                    · rename_i g gp rs rp
                      split at em
                      · rename_i hz
                        obtain ⟨z1, z2, z3⟩ := hz
                        subst z1
                        split at em
                        · split at em
                          · cases em
                          · rename_i hb
                            cases em
                            rcases hx with rfl | rfl
                            · rw [show decide (("tuple" : Str) = "tuple") = true from by decide]
                              exact px_ofr1 (t := true) h.calm (h.gl' hg) hbl (h.gl' z2) (h.bl _ z3) (ih.e X sc fn h _) (nst hb)
                            · rw [show decide (("list" : Str) = "tuple") = false from by decide]
                              exact px_ofr1 (t := false) h.calm (h.gl' hg) hbl (h.gl' z2) (h.bl _ z3) (ih.e X sc fn h _) (nst hb)
                        · split at em
                          · cases em
                          · rename_i hb
                            simp only [Bool.or_eq_true, not_or] at hb
                            cases em
                            rcases hx with rfl | rfl
                            · rw [show decide (("tuple" : Str) = "tuple") = true from by decide]
                              exact px_ofr2 (t := true) h.calm (h.gl' hg) hbl (h.gl' z2) (h.bl _ z3) (ih.e X sc fn h _) (nst hb.1) (ih.e X sc fn h _) (nst hb.2)
                            · rw [show decide (("list" : Str) = "tuple") = false from by decide]
                              exact px_ofr2 (t := false) h.calm (h.gl' hg) hbl (h.gl' z2) (h.bl _ z3) (ih.e X sc fn h _) (nst hb.1) (ih.e X sc fn h _) (nst hb.2)
                        · cases em
                      · cases em
                    · cases em
                  · cases em
                · split
                  · rename_i f ef
                    obtain ⟨f1, f2, f3⟩ := btOf_facts ef
                    exact px_blt h.units h.calm (h.gl' hg) hbl f1 f2 f3 (tr_args ih h hs) ha hsa.2
                  · exact px_bad
          · generalize em : mndOf T.bl x (trE T n sc fn) _ _ = om
            cases om with
            | none => exact px_bad
            | some m =>
              obtain ⟨a, b, kp, rfl, rfl, rfl, e1, e2, rfl⟩ := mnd_inv em
              exact px_mnd h.units h.calm (h.gl' hg) (h.bl _ e1) (ih.e X sc fn h _) e2 (ih.e X sc fn h _)
      · exact px_bad
    · rename_i x xp m apos
      split
      · rename_i hz
        obtain ⟨hz, hke⟩ := and2 hz
        obtain ⟨hz, hl⟩ := and2 hz
        obtain ⟨h1, h2, h3⟩ := and3 hz
        obtain ⟨d1, d2⟩ := nmOk_facts h2
        have hke := List.isEmpty_iff.mp hke
        subst hke
        have hi := h.slot (of_decide_eq_true h3)
        split
        · split
          · rename_i e1
            subst e1
            exact px_pop hi (h.vis h1) d1 d2 hl
          · exact px_bad
        · split
          · exact px_bad
          · rename_i ha
            split
            · rename_i e1
              subst e1
              exact px_app hi (h.vis h1) d1 d2 (ih.e X sc fn h _) (nst ha) hl
            · split
              · rename_i e1
                subst e1
                exact px_ext hi (h.vis h1) d1 d2 (ih.e X sc fn h _) (nst ha) hl
              · split
                · rename_i e1
                  subst e1
                  exact px_popi hi (h.vis h1) d1 d2 (ih.e X sc fn h _) (nst ha) hl
                · split
                  · rename_i e1
                    subst e1
                    exact px_mix hi (h.vis h1) d1 d2 (ih.e X sc fn h _) (nst ha) hl
                  · split
                    · rename_i e1
                      subst e1
                      exact px_mcn hi (h.vis h1) d1 d2 (ih.e X sc fn h _) (nst ha) hl
                    · split
                      · rename_i e1
                        subst e1
                        exact px_dgt1 h.units (px_var hi (h.vis h1) d1 d2) (ih.e X sc fn h _) base_name (nst ha) hl
                      · exact px_bad
        · split
          · exact px_bad
          · rename_i ha
            simp only [Bool.or_eq_true, not_or] at ha
            split
            · rename_i e1
              subst e1
              exact px_dgt2 h.units (px_var hi (h.vis h1) d1 d2) (ih.e X sc fn h _) (ih.e X sc fn h _) base_name (nst ha.1) (nst ha.2) hl
            · exact px_bad
        · exact px_bad
      · exact px_bad
    · exact px_bad
  · exact px_bad
theorem trOk : ∀ n, TrOk p fuel k T n
  | 0 => ⟨fun _ _ _ _ _ => px_bad, fun _ _ _ _ _ => px_tbad, fun _ _ _ _ _ _ _ _ => px_wbad, fun _ _ _ _ _ _ => px_ibad⟩
  | n + 1 =>
    have ih := trOk n
    ⟨fun X sc fn h e => tr_e ih h e, fun X sc fn h e => tr_t ih h e, fun X sc fn h op a r pos => tr_w ih h op a r pos, fun X sc fn h tg e => tr_i ih h tg e⟩
end
end PV

/-! PV, part Z: the translation of statements. -/
namespace PV
open PySem PySem.Spec PyProof.Rows L2

/-- which names a tuple of names is stored into from the right; none: the model stops -/
def swapD (sc : Scope) (ts vs : List Expr) : Option (Option (List Str)) :=
  if !(ts.length == 2 || ts.length == 3) || vs.length != ts.length then some none
  else if vs.any isStar then some none
  else
    let line := (ts.head?.map (·.pos.line)).getD 0
    let names := ts.filterMap fun
      | .Name id pos => if sc.names.lookup id == some .local && pos.line == line then some id else none
      | _ => none
    if names.length != ts.length || names.eraseDups.length != names.length then some none
    else if vs.all (foldedForSure 8) then some none
    else if vs.all (constantsAlone 8) then none
    else some (some names)
theorem swap_tt {ts vs : List Expr} {k k2 : Nat} {p p2 : Pos} {env : Env} {sc : Scope} {r : Option (List Str)} (h1 : env.scope = sc) (h2 : sc.kind = .function) (e : swapD sc ts vs = some r) : swappedStores [.Tuple ts k p] (.Tuple vs k2 p2) env = pure r := by
  have hb : env.blockKind = .function := by unfold Env.blockKind; rw [h1, h2]; rfl
  have hs : (fun e : Expr => match e with | .Starred .. => true | _ => false) = isStar := by
    funext e
    cases e <;> rfl
  have hk : ∀ id, env.kindOf id = sc.names.lookup id := fun id => by rw [← h1]; rfl
  unfold swapD at e
  unfold swappedStores
  simp only [hb, hk, show (ScopeKind.function != ScopeKind.function) = false from rfl, Bool.or_false]
  dsimp only at e
  rw [← hs] at e
  split at e
  · rename_i c
    cases e
    exact if_pos c
  rename_i c
  refine (if_neg c).trans ?_
  split at e
  · rename_i c
    cases e
    exact if_pos c
  rename_i c
  refine (if_neg c).trans ?_
  split at e
  · rename_i c
    cases e
    exact if_pos c
  rename_i c
  refine (if_neg c).trans ?_
  split at e
  · rename_i c
    cases e
    exact if_pos c
  rename_i c
  refine (if_neg c).trans ?_
  split at e
  · cases e
  rename_i c
  cases e
  exact if_neg c
theorem swap_tn {ts : List Expr} {k : Nat} {p : Pos} {e : Expr} {env : Env} (h : isTupT e = false) : swappedStores [.Tuple ts k p] e env = pure none := by
  cases e <;> first | rfl | cases h
theorem swap_sub {o i : Expr} {p : Pos} {e : Expr} {env : Env} : swappedStores [.Subscript o i p] e env = pure none := by
  cases e <;> rfl
theorem sw_plain {e : Expr} {t : Option Expr} {l : Nat} {env : Env} (h : isComp e = false) : swapsWith e t l env = pure false := by
  cases e <;> first | rfl | cases h
theorem sw_tup {e : Expr} {ts : List Expr} {k l : Nat} {p : Pos} {env : Env} : swapsWithSole [.Tuple ts k p] e l env = pure false := by
  cases e <;> rfl
theorem sw_sub {e o i : Expr} {l : Nat} {p : Pos} {env : Env} : swapsWithSole [.Subscript o i p] e l env = pure false := by
  cases e <;> rfl
/-- whether a comprehension is stored on its own line -/
def swB (sc : Scope) (y : Str) (py : Pos) (scope : Scope) (pos : Pos) : Bool := sc.names.lookup y == some .local && py.line == pos.line && !(scope.names.any fun (n, k) => n == y && (k == .local || k == .cell))
theorem sw_comp {elt : Expr} {gs : List Comprehension} {scope : Scope} {pos py : Pos} {y : Str} {l : Nat} {env : Env} {sc : Scope} (h1 : env.scope = sc) (h2 : sc.kind = .function) : swapsWith (.ListComp elt gs scope pos) (some (.Name y py)) l env = pure (swB sc y py scope pos) := by
  have hb : env.blockKind = .function := by unfold Env.blockKind; rw [h1, h2]; rfl
  have hk : env.kindOf y = sc.names.lookup y := by rw [← h1]; rfl
  unfold swapsWith swB
  simp only [hb, hk]
  rfl

theorem sw_compD {kx vx : Expr} {gs : List Comprehension} {scope : Scope} {pos py : Pos} {y : Str} {l : Nat} {env : Env} {sc : Scope} (h1 : env.scope = sc) (h2 : sc.kind = .function) : swapsWith (.DictComp kx vx gs scope pos) (some (.Name y py)) l env = pure (swB sc y py scope pos) := by
  have hb : env.blockKind = .function := by unfold Env.blockKind; rw [h1, h2]; rfl
  have hk : env.kindOf y = sc.names.lookup y := by rw [← h1]; rfl
  unfold swapsWith swB
  simp only [hb, hk]
  rfl

/-! ### statements -/
def badS : S := .ex badE
/-- names and subscripts of names -/
def trU (T : Tab) (n : Nat) (sc : Scope) (fn : Str → Bool) : List Expr → Option (List T1)
  | [] => some []
  | e :: es => (match e with
      | .Name x _ => if locB sc fn x && decide (x ∈ T.N) then some (T1.nm (T.N.idxOf x)) else none
      | .Subscript (.Name x _) i _ => if visB sc x && nmOk x && decide (x ∈ T.N) && !isSlice i then some (T1.sub (T.N.idxOf x) (trE T n sc fn i)) else none
      | _ => none).bind fun t => (trU T n sc fn es).map (t :: ·)
def nm2 : List Expr → Option (Str × Str)
  | [.Name x _, .Name y _] => some (x, y)
  | _ => none
mutual
def trS (T : Tab) (n : Nat) : Nat → Scope → (Str → Bool) → Stmt → S
  | 0, _, _, _ => badS
  | m + 1, sc, fn, st => match st with
    | .Expr (.Constant (.str _) _ _) _ => .pas
    | .Expr e _ => if isComp e then badS else .ex (trE T (n + 1) sc fn e)
    | .Assign [.Name y py] e _ =>
      if locB sc fn y && decide (y ∈ T.N) then
        match e with
        | .ListComp elt gs scope pos => if swB sc y py scope pos then (match lc2Of T sc scope (trE T n (relS scope sc) (blkFn scope)) (trT T n (relS scope sc) (blkFn scope)) (trI T n sc fn) (trI T n (relS scope sc) (blkFn scope)) elt gs with
            | some e => .asg (T.N.idxOf y) e
            | none => match trE T (n + 1) sc fn (.ListComp elt gs scope pos) with
              | .lc a b c d => .asg (T.N.idxOf y) (.lc a b c d)
              | _ => badS) else .asg (T.N.idxOf y) (trE T (n + 1) sc fn (.ListComp elt gs scope pos))
        | .DictComp kx vx gs scope pos => if swB sc y py scope pos then (match dcOf T sc scope (trE T n (relS scope sc) (blkFn scope)) (trT T n (relS scope sc) (blkFn scope)) (trI T n sc fn) kx vx gs with
            | some e => .asg (T.N.idxOf y) e
            | none => badS) else .asg (T.N.idxOf y) (trE T (n + 1) sc fn (.DictComp kx vx gs scope pos))
        | e => if isComp e then badS else .asg (T.N.idxOf y) (trE T (n + 1) sc fn e)
      else badS
    | .Assign [.Subscript (.Name x _) i _] e _ => if visB sc x && nmOk x && decide (x ∈ T.N) && !isSlice i then .put (T.N.idxOf x) (trE T (n + 1) sc fn i) (trE T (n + 1) sc fn e) else badS
    | .Assign [.Tuple ts k tp] e _ =>
      match e with
      | .Tuple vs k2 p2 => match swapD sc ts vs with
        | some none => (match tgNames T sc fn ts with
          | some is => if vs.all (fun e => !isStar e) && decide (is.length ≤ 1000) then .par is (vs.map (trE T (n + 1) sc fn)) else badS
          | none => (match trU T (n + 1) sc fn ts with
            | some us => .unp us (trE T (n + 1) sc fn (.Tuple vs k2 p2))
            | none => badS))
        | some (some names) => (match ts, vs with
          | [.Name x _, .Name y _], [a, b] => if decide (names = [x, y]) && sc.names.lookup x == some .local && sc.names.lookup y == some .local && decide (x ∈ T.N) && decide (y ∈ T.N) && decide (x ≠ y) && !isStar a && !isStar b then
              .par [T.N.idxOf x, T.N.idxOf y] [trE T (n + 1) sc fn a, trE T (n + 1) sc fn b] else badS
          | [.Name x _, .Name y _, .Name z _], [a, b, c] => if decide (names = [x, y, z]) && sc.names.lookup x == some .local && sc.names.lookup y == some .local && sc.names.lookup z == some .local && decide (x ∈ T.N) && decide (y ∈ T.N) && decide (z ∈ T.N)
                && decide (x ≠ y) && decide (x ≠ z) && decide (y ≠ z) && !isStar a && !isStar b && !isStar c then
              .par [T.N.idxOf x, T.N.idxOf y, T.N.idxOf z] [trE T (n + 1) sc fn a, trE T (n + 1) sc fn b, trE T (n + 1) sc fn c] else badS
          | _, _ => badS)
        | none => badS
      | e => (match trU T (n + 1) sc fn ts with
          | some us => if isTupT e then badS else .unp us (trE T (n + 1) sc fn e)
          | none => badS)
    | .If c a b _ => .ite (trT T (n + 1) sc fn c) (trSs T n m sc fn a) (trSs T n m sc fn b)
    | .For tg it b [] _ => match trG T sc fn tg with
      | some t => if isSetE it then badS else .lop t (trI T (n + 1) sc fn tg it) (trSs T n m sc fn b)
      | none => badS
    | .While c b [] _ => .whl (trT T (n + 1) sc fn c) (trSs T n m sc fn b)
    | .Return (some e) _ => .ret (trE T (n + 1) sc fn e)
    | .Return none _ => .retN
    | .Pass _ => .pas
    | .Break _ => .brk
    | .Continue _ => .cnt
    | _ => badS
def trSs (T : Tab) (n : Nat) : Nat → Scope → (Str → Bool) → List Stmt → List S
  | 0, _, _, _ => [badS]
  | m + 1, sc, fn, ss => match ss with
    | [] => []
    | s :: ss => trS T n m sc fn s :: trSs T n m sc fn ss
end
end PV

/-! PV, part Za: the translation of statements is right. -/
namespace PV
open PySem PySem.Spec PyProof.Rows L2

section
variable {p : Pg} {fuel k : Nat} {T : Tab} {sc : Scope} {fn : Str → Bool} {X : Cx} {n : Nat} {np : Nat}
theorem lc_inv {elt : Expr} {gs : List Comprehension} {scope : Scope} {pos : Pos} {a it0 : E} {t : Tg} {d : Option E} (h : trE T (n + 1) sc fn (.ListComp elt gs scope pos) = .lc a t it0 d) :
    ∃ tg it ifs, gs = [⟨tg, it, ifs, 0⟩] ∧ trG T (relS scope sc) (blkFn scope) tg = some t ∧ blkC T.N sc scope (tgOwn T tg) = true ∧ (tgOwn T tg).map (·.2) = t.slots ∧ isSetE it = false ∧ a = trE T n (relS scope sc) (blkFn scope) elt ∧ it0 = trI T n sc fn tg it ∧
      match ifs with | [] => d = none | [c] => d = some (trT T n (relS scope sc) (blkFn scope) c) | _ => False := by
  unfold trE at h
  split at h
  all_goals first
    | (rename_i q; cases q; done)
    | (rename_i q _; cases q; done)
    | (rename_i q _ _; cases q; done)
    | (rename_i q _ _ _; cases q; done)
    | skip
  · rename_i q
    cases q
    split at h
    · rename_i t' e1
      split at h
      · rename_i hz
        obtain ⟨h1, h2, h3⟩ := and3 hz
        have h2 := of_decide_eq_true h2
        have h3 := bnot h3
        split at h
        · cases h
          exact ⟨_, _, _, rfl, e1, h1, h2, h3, rfl, rfl, rfl⟩
        · cases h
          exact ⟨_, _, _, rfl, e1, h1, h2, h3, rfl, rfl, rfl⟩
        · cases h
      · cases h
    · cases h
  · rename_i q
    cases q
    unfold orBad at h
    split at h
    · rename_i e el
      obtain ⟨_, _, _, _, _, _, _, _, _, _, _, ee, _⟩ := lc2_inv el
      rw [ee] at h
      cases h
    · cases h
  · cases h
theorem px_sbad {st : Stmt} : PS X st (tS X.K X.w (cfg p fuel k) np badS) := ⟨fun pins s σ H Q I h => by
  obtain ⟨R, ρ, r, ρ', m, e, q⟩ := h
  cases e⟩
theorem px_ssbad {ss : List Stmt} : PSs X ss (tSs X.K X.w (cfg p fuel k) np [badS]) := ⟨fun pins s σ H Q I h => by
  obtain ⟨R, ρ, r, ρ', m, e, q⟩ := h
  cases e⟩
theorem tr_u (h : XOk p fuel k T sc fn X) : ∀ {es : List Expr} {us : List T1}, trU T n sc fn es = some us → PGs X es (tGu X.K X.w (cfg p fuel k) np us) ∧ es.all isTgt = true ∧ es.length = us.length
  | [], us, e => by
    cases e
    exact ⟨px_unil, rfl, rfl⟩
  | e :: es, us, e1 => by
    unfold trU at e1
    obtain ⟨t, e2, e1⟩ := Option.bind_eq_some_iff.mp e1
    obtain ⟨ts, e3, e1⟩ := Option.map_eq_some_iff.mp e1
    subst e1
    obtain ⟨h4, h5, h6⟩ := tr_u h e3
    split at e2
    · split at e2
      · rename_i hz
        cases e2
        obtain ⟨h1, h2⟩ := and2 hz
        exact ⟨px_unm (by rw [h.hN]; exact h.nd) (h.slot (of_decide_eq_true h2)) (h.loc h1).1 (h.loc h1).2 h4, by rw [List.all_cons, h5]; rfl, by rw [List.length_cons, List.length_cons, h6]⟩
      · cases e2
    · split at e2
      · rename_i hz
        cases e2
        obtain ⟨hz, hi⟩ := and2 hz
        obtain ⟨h1, h2, h3⟩ := and3 hz
        obtain ⟨d1, d2⟩ := nmOk_facts h2
        exact ⟨px_usub h.units (bnot hi) (h.slot (of_decide_eq_true h3)) (h.vis h1) d1 d2 ((trOk n).e X sc fn h _) h4, by rw [List.all_cons, h5]; rfl, by rw [List.length_cons, List.length_cons, h6]⟩
      · cases e2
    · cases e2
theorem tr_gset (h : XOk p fuel k T sc fn X) : ∀ {es : List Expr} {is : List Nat}, tgNames T sc fn es = some is → PGs X es (gSet is) ∧ es.all isTgt = true ∧ es.length = is.length
  | [], is, e => by
    cases e
    exact ⟨pg_snil, rfl, rfl⟩
  | e :: es, is, e1 => by
    unfold tgNames at e1
    obtain ⟨t, e2, e1⟩ := Option.bind_eq_some_iff.mp e1
    obtain ⟨ts, e3, e1⟩ := Option.map_eq_some_iff.mp e1
    subst e1
    obtain ⟨h4, h5, h6⟩ := tr_gset h e3
    unfold tgName at e2
    split at e2
    · split at e2
      · rename_i hz
        cases e2
        obtain ⟨h1, h2⟩ := and2 hz
        exact ⟨pg_scons (by rw [h.hN]; exact h.nd) (h.slot (of_decide_eq_true h2)) (h.loc h1).1 (h.loc h1).2 h4, by rw [List.all_cons, h5]; rfl, by rw [List.length_cons, List.length_cons, h6]⟩
      · cases e2
    · cases e2
structure TrS (p : Pg) (fuel k : Nat) (T : Tab) (n m : Nat) : Prop where
  s : ∀ (X : Cx) (sc : Scope) (fn : Str → Bool), XOk p fuel k T sc fn X → ∀ (np : Nat) (st : Stmt), PS X st (tS X.K X.w (cfg p fuel k) np (trS T n m sc fn st))
  ss : ∀ (X : Cx) (sc : Scope) (fn : Str → Bool), XOk p fuel k T sc fn X → ∀ (np : Nat) (st : List Stmt), PSs X st (tSs X.K X.w (cfg p fuel k) np (trSs T n m sc fn st))
theorem lookL {sc : Scope} {x : Str} (h : (sc.names.lookup x == some NameKind.local) = true) : sc.names.lookup x = some .local := by simpa using h
theorem idx_ne {x y : Str} {N : List Str} (hx : x ∈ N) (hy : y ∈ N) (n : x ≠ y) : N.idxOf x ≠ N.idxOf y := fun e => n (by
  have h1 := idx_get hx
  have h2 := idx_get hy
  rw [e, h2] at h1
  exact (Option.some.inj h1).symm)
theorem tr_s {m : Nat} (ih : TrS p fuel k T n m) (h : XOk p fuel k T sc fn X) (st : Stmt) : PS X st (tS X.K X.w (cfg p fuel k) np (trS T n (m + 1) sc fn st)) := by
  have he := (trOk (p := p) (fuel := fuel) (k := k) (T := T) (n + 1)).e X sc fn h
  have ht := (trOk (p := p) (fuel := fuel) (k := k) (T := T) (n + 1)).t X sc fn h
  have hi := (trOk (p := p) (fuel := fuel) (k := k) (T := T) (n + 1)).i X sc fn h
  have hN : X.N.Nodup := by rw [h.hN]; exact h.nd
  have hp : PassesOwn (model X.prog X.w) X.A X.env X.xe := by rw [h.nox]; exact PassesOwn.never
  have lk : ∀ {x : Str}, sc.names.lookup x = some .local → X.env.scope.names.lookup x = some .local := fun {x} e => by rw [h.hsc]; exact e
  unfold trS
  split
  · exact px_spas ps_doc
  · split
    · exact px_sbad
    · rename_i hc
      exact px_sex (he _) (sw_plain (by simpa using hc))
  · split
    · rename_i y py e pos hz
      obtain ⟨h1, h2⟩ := and2 hz
      have hs := h.slot (of_decide_eq_true h2)
      split
      · rename_i elt gs scope cpos
        split
        · rename_i hw
          split
          · rename_i e el
            obtain ⟨tg, it, ifs, tg1, it1, ifs1, t, t2, c, c2, rfl, rfl, e1, e2, e3, e4, z1, z2, z3, z4⟩ := lc2_inv el
            have ih0 := trOk (p := p) (fuel := fuel) (k := k) (T := T) n
            have ok : BlkOk X.N X.env.scope scope (tgOwn T tg ++ tgOwn T tg1) := by rw [h.hN, h.hsc]; exact blkOk_by z1
            have hl : sc.names.lookup y = some .local := by
              unfold swB at hw
              exact lookL (and3 hw).1
            exact px_slc21 h.calm hN hs (lk hl) (by rw [sw_comp h.hsc h.kd, hw]) (ih0.i X sc fn h _ _) ok z2 (fun s H C cl fp => tr_G (h.blk ok.kind s H C cl fp) e1) (fun s H C cl fp => tr_tso ih0 (h.blk ok.kind s H C cl fp) e3) (fun s H C cl fp => ih0.i _ _ _ (h.blk ok.kind s H C cl fp) _ _)
              (fun s H C cl fp => tr_G (h.blk ok.kind s H C cl fp) e2) (fun s H C cl fp => tr_tso ih0 (h.blk ok.kind s H C cl fp) e4) (fun s H C cl fp => ih0.e _ _ _ (h.blk ok.kind s H C cl fp) _) (isSetE_fold z3) (isSetE_fold' z4)
          split
          · rename_i a t it0 d el
            obtain ⟨tg, it, ifs, rfl, e1, e2, e3, e4, rfl, rfl, e5⟩ := lc_inv el
            obtain ⟨q1, q2, q3, q4⟩ := tr_lc (trOk n) h elt tg it ifs scope ⟨0, 0, 0, 0⟩ e1 e2 e3 e4 e5
            have hl : sc.names.lookup y = some .local := by
              unfold swB at hw
              exact lookL (and3 hw).1
            exact px_slc1 h.calm hN hs (lk hl) (by rw [sw_comp h.hsc h.kd, hw]) ((trOk n).i X sc fn h _ _) q1 e3 q2 q3 q4 (isSetE_fold e4)
          · exact px_sbad
        · rename_i hw
          exact px_sasg hN hs (h.loc h1).1 (he _) (by rw [sw_comp h.hsc h.kd, show swB sc y py scope cpos = false by simpa using hw]) (h.loc h1).2
      · rename_i kx vx gs scope cpos
        split
        · rename_i hw
          split
          · rename_i e el
            obtain ⟨tg, it, ifs, t, c, rfl, rfl, e1, e3, z1, z2, z3⟩ := dc_inv el
            have ih0 := trOk (p := p) (fuel := fuel) (k := k) (T := T) n
            have ok : BlkOk X.N X.env.scope scope (tgOwn T tg) := by rw [h.hN, h.hsc]; exact blkOk_by z1
            have hl : sc.names.lookup y = some .local := by
              unfold swB at hw
              exact lookL (and3 hw).1
            exact px_sdc1 (by have := h.units; omega) h.calm hN hs (lk hl) (by rw [sw_compD h.hsc h.kd, hw]) (ih0.i X sc fn h _ _) ok z2 (fun s H C cl fp => tr_G (h.blk ok.kind s H C cl fp) e1) (fun s H C cl fp => tr_tso ih0 (h.blk ok.kind s H C cl fp) e3) (fun s H C cl fp => ih0.e _ _ _ (h.blk ok.kind s H C cl fp) _)
              (fun s H C cl fp => ih0.e _ _ _ (h.blk ok.kind s H C cl fp) _) (isSetE_fold z3)
          · exact px_sbad
        · rename_i hw
          exact px_sasg hN hs (h.loc h1).1 (he _) (by rw [sw_compD h.hsc h.kd, show swB sc y py scope cpos = false by simpa using hw]) (h.loc h1).2
      · split
        · exact px_sbad
        · rename_i hc
          exact px_sasg hN hs (h.loc h1).1 (he _) (sw_plain (by simpa using hc)) (h.loc h1).2
    · exact px_sbad
  · split
    · rename_i hz
      obtain ⟨hz, hi'⟩ := and2 hz
      obtain ⟨h1, h2, h3⟩ := and3 hz
      obtain ⟨d1, d2⟩ := nmOk_facts h2
      exact px_sput h.units (bnot hi') (h.slot (of_decide_eq_true h3)) (h.vis h1) d1 d2 (he _) (he _) sw_sub swap_sub
    · exact px_sbad
  · split
    · split
      · rename_i es
        split
        · rename_i is eu
          split
          · rename_i hz
            obtain ⟨z1, z2⟩ := and2 hz
            obtain ⟨u1, u2, u3⟩ := tr_gset h eu
            exact px_spart h.calm (tr_args (trOk (n + 1)) h z1) u1 u2 u3 (of_decide_eq_true z2) sw_tup (swap_tt h.hsc h.kd es)
          · exact px_sbad
        · split
          · rename_i us eu
            obtain ⟨u1, u2, u3⟩ := tr_u (np := np) h eu
            exact px_sunp h.calm (he _) u1 u2 u3 sw_tup (swap_tt h.hsc h.kd es)
          · exact px_sbad
      · rename_i names es
        split
        · split
          · rename_i hz
            simp only [Bool.and_eq_true, decide_eq_true_eq, Bool.not_eq_true'] at hz
            obtain ⟨⟨⟨⟨⟨⟨⟨n1, l1⟩, l2⟩, m1⟩, m2⟩, ne⟩, s1⟩, s2⟩ := hz
            subst n1
            exact px_spar2 h.calm hN (h.slot m1) (h.slot m2) (idx_ne m1 m2 ne) (lk (lookL l1)) (lk (lookL l2)) (he _) (he _) s1 s2 (swap_tt h.hsc h.kd es) sw_tup
          · exact px_sbad
        · split
          · rename_i hz
            simp only [Bool.and_eq_true, decide_eq_true_eq, Bool.not_eq_true'] at hz
            obtain ⟨⟨⟨⟨⟨⟨⟨⟨⟨⟨⟨⟨n1, l1⟩, l2⟩, l3⟩, m1⟩, m2⟩, m3⟩, ne1⟩, ne2⟩, ne3⟩, s1⟩, s2⟩, s3⟩ := hz
            subst n1
            exact px_spar3 h.calm hN (h.slot m1) (h.slot m2) (h.slot m3) (idx_ne m1 m2 ne1) (idx_ne m1 m3 ne2) (idx_ne m2 m3 ne3) (lk (lookL l1)) (lk (lookL l2)) (lk (lookL l3)) (he _) (he _) (he _) s1 s2 s3 (swap_tt h.hsc h.kd es) sw_tup
          · exact px_sbad
        · exact px_sbad
      · exact px_sbad
    · split
      · rename_i us eu
        split
        · exact px_sbad
        · rename_i hc
          obtain ⟨u1, u2, u3⟩ := tr_u (np := np) h eu
          exact px_sunp h.calm (he _) u1 u2 u3 sw_tup (swap_tn (by simpa using hc))
      · exact px_sbad
  · exact px_site (ht _) (ih.ss X sc fn h np _) (ih.ss X sc fn h np _)
  · split
    · rename_i t e1
      split
      · exact px_sbad
      · rename_i hs
        exact px_slop hp h.calm (hi _ _) (tr_G h e1) (ih.ss X sc fn h np _) (isSetE_fold (by simpa using hs))
    · exact px_sbad
  · exact px_swhl hp (ht _) (ih.ss X sc fn h np _)
  · exact px_sret (he _)
  · exact px_sretN
  · exact px_spas ps_pass
  · exact px_sbrk
  · exact px_scnt
  · exact px_sbad
theorem trS_ok : ∀ m, TrS p fuel k T n m
  | 0 => ⟨fun _ _ _ _ _ _ => px_sbad, fun _ _ _ _ _ _ => px_ssbad⟩
  | m + 1 =>
    have ih := trS_ok m
    ⟨fun X sc fn h np st => tr_s ih h st, fun X sc fn h np st => by
      unfold trSs
      split
      · exact px_snil
      · exact px_scons (ih.s X sc fn h np _) (ih.ss X sc fn h np _)⟩
end
end PV

/-! PV, part Zb: the whole program, the law's end. -/
namespace PV
open PySem PySem.Spec PyProof.Rows L2

/-- a def of the text: its name, its parameters, its slots' names -/
structure Df where
  x : Str
  ps : List Str
  N : List Str
  st : Stmt
def tabOf (ds : List Df) (bl : List Str) (N : List Str) : Tab := ⟨N, ds.map fun d => (d.x, d.ps), bl⟩
def fdOf (ds : List Df) (bl : List Str) (n m : Nat) (d : Df) : Fd := ⟨d.ps, d.N.length, trSs (tabOf ds bl d.N) n m (defScope d.st) (fun _ => true) (defBody d.st)⟩
def pgOf (ds : List Df) (bl : List Str) (glb : Str → Option D) (n m : Nat) : Pg := ⟨fun x => (ds.find? fun d => x == d.x).map (fdOf ds bl n m), glb⟩
theorem fns_look {x : Str} : ∀ {ds : List Df} {ps : List Str}, (ds.map fun d => (d.x, d.ps)).lookup x = some ps → ∃ d, (ds.find? fun d => x == d.x) = some d ∧ d ∈ ds ∧ d.x = x ∧ d.ps = ps
  | [], _, h => by cases h
  | d :: ds, ps, h => by
    rw [List.map_cons, List.lookup_cons] at h
    rw [List.find?_cons]
    cases q : x == d.x with
    | true =>
      rw [q] at h
      cases h
      exact ⟨d, rfl, List.mem_cons_self, by simpa using (beq_iff_eq.mp q).symm, rfl⟩
    | false =>
      rw [q] at h
      obtain ⟨e, h1, h2, h3⟩ := fns_look (ds := ds) h
      exact ⟨e, h1, List.mem_cons_of_mem _ h2, h3⟩
/-- a look at a def: parameters alone, no defaults -/
def plainA (a : Arguments) (ps : List Str) : Bool := a.posonlyargs.isEmpty && decide (a.args.map (·.arg) = ps) && a.vararg.isNone && a.kwonlyargs.isEmpty && a.kwarg.isNone
def scB (N P : List Str) (sc : Scope) : Bool :=
  decide (sc.kind = .function) && !sc.isCoroutine && !sc.isGenerator && decide N.Nodup && decide (N.take P.length = P) && P.all (fun x => decide (sc.names.lookup x = some .local) || decide (sc.names.lookup x = some .cell)) && sc.names.all (fun y => !decide (y.2 = .free))
theorem fnScope_of {N P : List Str} {sc : Scope} (h : scB N P sc = true) : FnScope N P sc := by
  unfold scB at h
  simp only [Bool.and_eq_true, Bool.not_eq_true', decide_eq_true_eq, List.all_eq_true, Bool.or_eq_true, decide_eq_false_iff_not] at h
  obtain ⟨⟨⟨⟨⟨⟨h1, h2⟩, h3⟩, h4⟩, h5⟩, h6⟩, h7⟩ := h
  exact ⟨h1, h2, h3, h4, h5, h6, h7⟩
def dfB (d : Df) : Bool := plainA (defArgs d.st) d.ps && scB d.N d.ps (defScope d.st)
/-- what stands behind the top of a def -/
structure DfOk (K : PySem.W.Frag) (mg : Str → Option Value) (d : Df) : Prop where
  ex : ∃ f fd, Fun K d.x d.x d.st f fd ∧ mg d.x = some (.ref f)
theorem plain_of {K : PySem.W.Frag} {x qual : Str} {st : Stmt} {f : Addr} {fd : FuncData} {ps : List Str} (F : Fun K x qual st f fd) (h : plainA (defArgs st) ps = true) : PlainFd fd ps := by
  obtain ⟨oc, od, kV, doc, pm, an, cdv, ct, osl, rfl, lk, hcd⟩ := F.ex
  unfold plainA at h
  simp only [Bool.and_eq_true, List.isEmpty_iff, decide_eq_true_eq, Option.isNone_iff_eq_none] at h
  obtain ⟨⟨⟨⟨h1, h2⟩, h3⟩, h4⟩, h5⟩ := h
  exact ⟨h1, h2, h3, h4, h5, rfl⟩
theorem fun_look {K : PySem.W.Frag} {x qual : Str} {st : Stmt} {f : Addr} {fd : FuncData} (F : Fun K x qual st f fd) : ∃ oc od osl, K.lookup f = some ⟨oc, od, .func fd, osl⟩ := by
  obtain ⟨oc, od, kV, doc, pm, an, cdv, ct, osl, rfl, lk, hcd⟩ := F.ex
  exact ⟨oc, od, osl, lk⟩
section
variable {P : Program} {w : World} {K : PySem.W.Frag} {mg : Str → Option Value} {base : Heap} {ds : List Df} {bl : List Str} {glb : Str → Option D} {n m fuel : Nat}
theorem level (hD : ∀ d ∈ ds, DfOk K mg d) (hB : ds.all dfB = true) (hbl : ∀ x ∈ bl, mg x = none) (hgl : ∀ x d, glb x = some d → ∃ v u, mg x = some u ∧ RelV v u ∧ ∀ R H, Rep K w R H d v) : ∀ (k : Nat) (x : Str) (ps : List Str),
    (ds.map fun d => (d.x, d.ps)).lookup x = some ps → ∃ fa fd, FnOk P w K mg base CX0 k fa fd ps (spF K w (pgOf ds bl glb n m) fuel k x) ∧ mg x = some (.ref fa) ∧ PySem.W.keepIn K (.ref fa) = true ∧ PlainFd fd ps ∧ ∃ oc od osl, K.lookup fa = some ⟨oc, od, .func fd, osl⟩ := by
  intro k
  induction k with
  | zero =>
    intro x ps h
    obtain ⟨d, h1, h2, rfl, rfl⟩ := fns_look h
    obtain ⟨f, fd, F, hm⟩ := (hD d h2).ex
    have hb := List.all_eq_true.mp hB d h2
    have hp := plain_of F (and2 hb).1
    refine ⟨f, fd, ⟨fun vs H Q E z => ?_, fun A outer s H args us vs Q E _ _ _ _ z => ?_⟩, hm, F.kp, hp, fun_look F⟩
    · obtain ⟨R, as, r, fs, _, e, _⟩ := z
      cases e
    · obtain ⟨R, as, r, fs, _, e, _⟩ := z
      cases e
  | succ k ih =>
    intro x ps h
    obtain ⟨d, h1, h2, rfl, rfl⟩ := fns_look h
    obtain ⟨f, fd, F, hm⟩ := (hD d h2).ex
    have hb := List.all_eq_true.mp hB d h2
    have hp := plain_of F (and2 hb).1
    have S := fnScope_of (and2 hb).2
    have hf : (pgOf ds bl glb n m).fn d.x = some (fdOf ds bl n m d) := by
      show ((ds.find? fun e => d.x == e.x).map (fdOf ds bl n m)) = _
      rw [h1]; rfl
    refine ⟨f, fd, F.ok S (fun vs H Q E z => ?_) (fun cdv A outer s H vs Q E hr z => ?_), hm, F.kp, hp, fun_look F⟩
    · obtain ⟨R, as, r, fs, mt, e, _⟩ := z
      have e : (((pgOf ds bl glb n m).fn d.x).bind fun fd => run (cfg (pgOf ds bl glb n m) fuel k) fd as) = some (r, fs) := e
      rw [hf] at e
      have e : run (cfg (pgOf ds bl glb n m) fuel k) (fdOf ds bl n m d) as = some (r, fs) := e
      unfold run at e
      split at e
      · rename_i hl
        have := mt.len
        rw [List.length_map] at this
        exact this.symm.trans hl
      · cases e
    · have XO : XOk (pgOf ds bl glb n m) fuel k (tabOf ds bl d.N) (defScope d.st) (fun _ => true) (cxOf CX0 P w K mg base d.N d.x (defScope d.st) f cdv A outer s H E).nox :=
        { calm := rfl, hN := rfl, nd := S.nd, hsc := rfl, kd := S.kind, hfn := rfl, room := hr, nox := rfl, bl := hbl, gl := hgl, fns := fun y qs hy => by
            obtain ⟨fa, fd, h1, h2, h3, h4, _⟩ := ih y qs hy
            exact ⟨fa, fd, h1, h2, h3, h4⟩ }
      exact ⟨_, (trS_ok (p := pgOf ds bl glb n m) (fuel := fuel) (k := k) (T := tabOf ds bl d.N) (n := n) m).ss _ (defScope d.st) (fun _ => true) XO d.ps.length (defBody d.st), body_end (f := fdOf ds bl n m d) hf rfl z rfl⟩
/-- what the law's def promises, as the heads want it -/
theorem law_fn {law x : Str} {fa : Addr} {k : Nat} (hD : ∀ d ∈ ds, DfOk K mg d) (hB : ds.all dfB = true) (hbl : ∀ x ∈ bl, mg x = none) (hgl : ∀ x d, glb x = some d → ∃ v u, mg x = some u ∧ RelV v u ∧ ∀ R H, Rep K w R H d v)
    (hl : (ds.map fun d => (d.x, d.ps)).lookup law = some [x]) (hfa : mg law = some (.ref fa)) :
    ∃ fd : FuncData, (∀ (s : Shared) (u : Value), BindsTo s fd ⟨[u], []⟩ [(x, u)]) ∧ ∀ base : Heap, FnOk P w K mg base CX0 k fa fd [x] (spF K w (pgOf ds bl glb n m) fuel k law) := by
  obtain ⟨fa0, fd0, _, h2, _, h4, oc, od, osl, h5⟩ := level (P := P) (w := w) (base := default) (n := n) (m := m) (fuel := fuel) hD hB hbl hgl 0 law [x] hl
  rw [hfa] at h2
  cases h2
  refine ⟨fd0, fun s u => .of_eq ?_, fun base => ?_⟩
  · have := bindArgs_plain (us := [u]) (ws := []) (ks := []) (perm := [0]) h4 rfl (by
      unfold bindC
      simp)
    simpa [permV] using this
  · obtain ⟨fa1, fd1, g1, g2, _, _, oc1, od1, osl1, g5⟩ := level (P := P) (w := w) (base := base) (n := n) (m := m) (fuel := fuel) hD hB hbl hgl k law [x] hl
    rw [hfa] at g2
    cases g2
    rw [h5] at g5
    cases g5
    exact g1
theorem spF_start {p : Pg} {k : Nat} {law : Str} {H : Hp} {a : Addr} {ns : List Int} {E : XK} (hO : Only H) (hS : SqL K H a (ns.map V.int)) (h : ∃ fs, (cfg p fuel k).call law [.ro (.scr ns)] = some (.val (.bl true), fs)) :
    spF K w p fuel k law [.ref a] H (fun v _ => v = .bl true) E := by
  obtain ⟨fs, h⟩ := h
  have hF : SqF K H a (ns.map V.int) := by
    rcases hS with (hS | ⟨o, hS⟩) | hS
    · rcases hO a with z | ⟨o, xs, z⟩
      · rw [hS] at z; cases z
      · rw [hS] at z; cases z
    · exact .inl ⟨o, hS⟩
    · exact .inr hS
  refine ⟨fun _ => False, [.ro (.scr ns)], .val (.bl true), fs, ⟨rfl, fun b z => z.elim, fun i d hi => ?_, fun i d hi => ?_, fun i j d e b hi => ?_⟩, h, rfl, fun v H' R' s rr f => rr⟩
  · cases i with
    | zero => cases hi; exact ⟨_, rfl, a, rfl, hF⟩
    | succ i => cases hi
  · cases i with
    | zero => cases hi
    | succ i => cases hi
  · cases i with
    | zero => cases hi
    | succ i => cases hi
theorem dfOk_mk {h : Heap} (X : K.In h) (G : h.Ns mainGlobals mg) {x : Str} {ps N : List Str} {st : Stmt} {f : Addr} {oc : Value} {od an : Option Addr} {osl : Array (Option Value)} {kV doc pm cdv ct : Value}
    (a : PySem.W.nsIn K mainGlobals x = some (some (.ref f))) (l : K.lookup f = some ⟨oc, od, .func (PySem.W.fnOf x x (defArgs st) (defBody st) (defScope st) .none kV doc pm an cdv ct), osl⟩) (c : PySem.W.codeIn K cdv x = true) (k : PySem.W.keepIn K (.ref f) = true) :
    DfOk K mg ⟨x, ps, N, st⟩ := ⟨⟨f, _, fun_mk l c k, PySem.W.mg_of X G a⟩⟩
end
end PV

/-! PV, part Zc: the end of a law, its facts. -/
namespace PV
open PySem PySem.Spec PyProof.Rows L2
theorem cons_all {α : Type} {P : α → Prop} {a : α} {l : List α} (h : P a) (h2 : ∀ x ∈ l, P x) : ∀ x ∈ a :: l, P x := fun x hx => (List.mem_cons.mp hx).elim (fun e => e ▸ h) (h2 x)
theorem nil_all {α : Type} {P : α → Prop} : ∀ x ∈ ([] : List α), P x := fun x hx => absurd hx (by simp)
/-- a constant of the module -/
def GOk (K : PySem.W.Frag) (w : World) (mg : Str → Option Value) (x : Str) (d : D) : Prop := ∃ v u, mg x = some u ∧ RelV v u ∧ ∀ R H, Rep K w R H d v
theorem gl_int {K : PySem.W.Frag} {w : World} {mg : Str → Option Value} {x : Str} {i : Int} {t : Tok} (h : mg x = some (.int i t)) : GOk K w mg x (.int i) := ⟨.int i, _, h, ⟨t, rfl⟩, fun R H => rfl⟩
theorem gl_str {K : PySem.W.Frag} {w : World} {mg : Str → Option Value} {x : Str} {i : Str} {t : Tok} (h : mg x = some (.str i t)) : GOk K w mg x (.str i) := ⟨.str i, _, h, ⟨t, rfl⟩, fun R H => rfl⟩
theorem gl_bl {K : PySem.W.Frag} {w : World} {mg : Str → Option Value} {x : Str} {i : Bool} (h : mg x = some (.bool i)) : GOk K w mg x (.bl i) := ⟨.bl i, _, h, rfl, fun R H => rfl⟩
theorem gl_non {K : PySem.W.Frag} {w : World} {mg : Str → Option Value} {x : Str} (h : mg x = some .none) : GOk K w mg x .non := ⟨.non, _, h, rfl, fun R H => rfl⟩
theorem gl_nil {K : PySem.W.Frag} {w : World} {mg : Str → Option Value} : ∀ x d, ([] : List (Str × D)).lookup x = some d → GOk K w mg x d := fun x d h => by cases h
theorem gl_cons {K : PySem.W.Frag} {w : World} {mg : Str → Option Value} {y : Str} {e : D} {l : List (Str × D)} (h : GOk K w mg y e) (h2 : ∀ x d, l.lookup x = some d → GOk K w mg x d) : ∀ x d, ((y, e) :: l).lookup x = some d → GOk K w mg x d := fun x d q => by
  rw [List.lookup_cons] at q
  cases r : x == y with
  | true =>
    rw [r] at q
    cases q
    rw [beq_iff_eq.mp r]
    exact h
  | false =>
    rw [r] at q
    exact h2 x d q
theorem fin_mk {P : Program} {w : World} {K : PySem.W.Frag} {mg : Str → Option Value} {ds : List Df} {bl : List Str} {glb : Str → Option D} {n m fuel k : Nat} {law x : Str} {fa : Addr} (hD : ∀ d ∈ ds, DfOk K mg d) (hB : ds.all dfB = true) (hbl : ∀ x ∈ bl, mg x = none) (hgl : ∀ x d, glb x = some d → GOk K w mg x d)
    (hl : (ds.map fun d => (d.x, d.ps)).lookup law = some [x]) (hfa : mg law = some (.ref fa)) :
    ∃ fd : FuncData, (∀ (s : Shared) (u : Value), BindsTo s fd ⟨[u], []⟩ [(x, u)]) ∧ ∀ base : Heap, K.In base → base.Ns mainGlobals mg → FnOk P w K mg base CX0 k fa fd [x] (spF K w (pgOf ds bl glb n m) fuel k law) := by
  obtain ⟨fd, h1, h2⟩ := law_fn (P := P) (w := w) (n := n) (m := m) (fuel := fuel) (k := k) hD hB hbl hgl hl hfa
  exact ⟨fd, h1, fun base _ _ => h2 base⟩
end PV

/-! PW, part A: reckoning with the pure interpreter. -/
namespace PV
/-- one turn of a list comprehension -/
def lcB (C : Cfg) (elt : E) (t : Tg) (c : Option E) : D → Rho → Option (List D × Rho) := fun x ρ => (bindT 0 ρ t x).bind fun ρ2 => (tso C c ρ2).bind fun (b, ρ3) =>
  if b then (ev C elt ρ3).bind fun (r, ρ4) => (fix ρ4 r).map fun (d, ρ5) => ([d], unset ρ5 t.slots) else some ([], unset ρ3 t.slots)
def lcE (C : Cfg) (elt : E) (ρ : Rho) : Option (List D × Rho) := (ev C elt ρ).bind fun (r, ρ4) => (fix ρ4 r).bind fun (d, ρ5) => some ([d], ρ5)
/-- one turn of a comprehension of two clauses -/
def lc2I (C : Cfg) (elt : E) (t2 : Tg) (it2 : E) (c2 : Option E) (ρ : Rho) : Option (List D × Rho) := (evi C it2 ρ).bind fun (ys, ρ4) => lcLoop (lcB C elt t2 c2) ys (unset ρ4 t2.slots)
def lc2B (C : Cfg) (elt : E) (t : Tg) (c : Option E) (t2 : Tg) (it2 : E) (c2 : Option E) : D → Rho → Option (List D × Rho) := fun x ρ => (bindT 0 ρ t x).bind fun ρ2 => (tso C c ρ2).bind fun (b, ρ3) =>
  if b then (evi C it2 ρ3).bind fun (ys, ρ4) => (lcLoop (lcB C elt t2 c2) ys (unset ρ4 t2.slots)).map fun (ds, ρ9) => (ds, unset ρ9 (t.slots ++ t2.slots)) else some ([], unset ρ3 (t.slots ++ t2.slots))
/-- one turn of a dict comprehension -/
def dcE (C : Cfg) (ke ve : E) (ρ : Rho) : Option (Option (D × D) × Rho) := (ev C ke ρ).bind fun (rk, ρ4) => (fix ρ4 rk).bind fun (k, ρ5) => (ev C ve ρ5).bind fun (r, ρ6) => (fix ρ6 r).bind fun (d, ρ7) => some (some (k, d), ρ7)
def dcB (C : Cfg) (ke ve : E) (t : Tg) (c : Option E) : D → Rho → Option (Option (D × D) × Rho) := fun x ρ => (bindT 0 ρ t x).bind fun ρ2 => (tso C c ρ2).bind fun (b, ρ3) =>
  if b then (ev C ke ρ3).bind fun (rk, ρ4) => (fix ρ4 rk).bind fun (k, ρ5) => (ev C ve ρ5).bind fun (r, ρ6) => (fix ρ6 r).map fun (d, ρ7) => (some (k, d), unset ρ7 t.slots) else some (none, unset ρ3 t.slots)
/-- one turn of a loop -/
def lopB (C : Cfg) (np : Nat) (t : Tg) (b : List S) : D → Rho → Option (O × Rho) := fun x ρ => (bindT np ρ t x).bind fun ρ2 => execs C np b ρ2
@[simp] theorem exec_whl (C : Cfg) (np : Nat) (c : E) (b : List S) (ρ : Rho) : exec C np (.whl c b) ρ = whileLoop (tst C c) (execs C np b) C.fuel ρ := (rfl)
def blOf : Option D → Option Bool
  | some (.bl b) => some b
  | _ => none
@[simp] theorem blOf_bl (b : Bool) : blOf (some (.bl b)) = some b := (rfl)
def tupOf : D → Option (List D)
  | .tup ds => some ds
  | .rtp ds => some ds
  | _ => none
@[simp] theorem tupOf1 (ds : List D) : tupOf (.tup ds) = some ds := (rfl)
@[simp] theorem tupOf2 (ds : List D) : tupOf (.rtp ds) = some ds := (rfl)
/-- the second half of a chain of two comparisons -/
def chnC (C : Cfg) (c2 : PySem.CmpOp) (c : E) (r2 : Rs) (ρ : Rho) : Option (Bool × Rho) := (ev C c ρ).bind fun (r3, ρ1) => (look ρ1 r2).bind fun y => (look ρ1 r3).bind fun z => (cmpD c2 y z).map fun v => (v, ρ1)
def chnB (C : Cfg) (c1 c2 : PySem.CmpOp) (c : E) (r2 : Rs) (x y : D) (ρ : Rho) : Option (Bool × Rho) := (cmpD c1 x y).bind fun v => if v then chnC C c2 c r2 ρ else some (false, ρ)
theorem chn_t (C : Cfg) (c1 c2 : PySem.CmpOp) (c : E) (r2 : Rs) (x y : D) (ρ : Rho) : ((cmpD c1 x y).bind fun r => if r then (ev C c ρ).bind fun u => (look u.2 r2).bind fun y => (look u.2 u.1).bind fun z => (cmpD c2 y z).map fun r => (r, u.2) else some (false, ρ)) = chnB C c1 c2 c r2 x y ρ := rfl
theorem chn_e (C : Cfg) (c1 c2 : PySem.CmpOp) (c : E) (r2 : Rs) (x y : D) (ρ : Rho) : ((cmpD c1 x y).bind fun r => if r then (ev C c ρ).bind fun u => (look u.2 r2).bind fun y => (look u.2 u.1).bind fun z => (cmpD c2 y z).map fun r => (Rs.val (.bl r), u.2) else some (Rs.val (.bl false), ρ)) =
    (chnB C c1 c2 c r2 x y ρ).bind fun p => some (Rs.val (.bl p.1), p.2) := by
  unfold chnB
  cases cmpD c1 x y with
  | none => rfl
  | some v =>
    cases v with
    | false => rfl
    | true =>
      show (ev C c ρ).bind _ = ((ev C c ρ).bind _).bind _
      cases ev C c ρ with
      | none => rfl
      | some u =>
        show (look u.2 r2).bind _ = ((look u.2 r2).bind _).bind _
        cases look u.2 r2 with
        | none => rfl
        | some y =>
          show (look u.2 u.1).bind _ = ((look u.2 u.1).bind _).bind _
          cases look u.2 u.1 with
          | none => rfl
          | some z =>
            show (cmpD c2 y z).map _ = ((cmpD c2 y z).map _).bind _
            cases cmpD c2 y z <;> rfl
/-- behind a statement -/
def kS (C : Cfg) (np : Nat) (ss : List S) (q : Option (O × Rho)) : Option (O × Rho) := q.bind fun p => match p.1 with | .nx => execs C np ss p.2 | o => some (o, p.2)
@[simp] theorem kS_nx (C : Cfg) (np : Nat) (ss : List S) (ρ : Rho) : kS C np ss (some (.nx, ρ)) = execs C np ss ρ := (rfl)
@[simp] theorem kS_ret (C : Cfg) (np : Nat) (ss : List S) (r : Rs) (ρ : Rho) : kS C np ss (some (.ret r, ρ)) = some (.ret r, ρ) := (rfl)
@[simp] theorem kS_brk (C : Cfg) (np : Nat) (ss : List S) (ρ : Rho) : kS C np ss (some (.brk, ρ)) = some (.brk, ρ) := (rfl)
@[simp] theorem kS_cnt (C : Cfg) (np : Nat) (ss : List S) (ρ : Rho) : kS C np ss (some (.cnt, ρ)) = some (.cnt, ρ) := (rfl)
@[simp] theorem kS_none (C : Cfg) (np : Nat) (ss : List S) : kS C np ss none = none := (rfl)
@[simp] theorem w_ss1 (C : Cfg) (np : Nat) (s : S) (ss : List S) (ρ : Rho) : execs C np (s :: ss) ρ = kS C np ss (exec C np s ρ) := (rfl)
/-- a def's end -/
def kRt (as : List Sl) (q : Option (Rs × Rho)) : Option (Rs × List Sl) := q.bind fun q => if finOk as (q.2.take as.length) then some (q.1, q.2.take as.length) else none
@[simp] theorem kRt_some (as : List Sl) (r : Rs) (ρ : Rho) : kRt as (some (r, ρ)) = if finOk as (ρ.take as.length) then some (r, ρ.take as.length) else none := (rfl)
def kRn (as : List Sl) (q : Option (O × Rho)) : Option (Rs × List Sl) := q.bind fun p => match p.1 with | .nx => some (.val .non, p.2.take as.length) | .ret r => kRt as (retOf as.length p.2 r) | _ => none
@[simp] theorem kRn_nx (as : List Sl) (ρ : Rho) : kRn as (some (.nx, ρ)) = some (.val .non, ρ.take as.length) := (rfl)
@[simp] theorem kRn_ret (as : List Sl) (r : Rs) (ρ : Rho) : kRn as (some (.ret r, ρ)) = kRt as (retOf as.length ρ r) := (rfl)
@[simp] theorem w_run (C : Cfg) (f : Fd) (as : List Sl) : run C f as = if as.length = f.ps.length then kRn as (execs C as.length f.body (as ++ List.replicate (f.n - as.length) .un)) else none := (rfl)
@[simp high] theorem ob_some {α β : Type} (a : α) (f : α → Option β) : (some a).bind f = f a := (rfl)
@[simp high] theorem ob_none {α β : Type} (f : α → Option β) : (none : Option α).bind f = none := (rfl)
@[simp high] theorem om_some {α β : Type} (a : α) (f : α → β) : (some a).map f = some (f a) := (rfl)
@[simp high] theorem om_none {α β : Type} (f : α → β) : (none : Option α).map f = none := (rfl)
/-! bounds, by name: their figures are not reckoned with -/
def R62 (j : Int) : Prop := -(2 ^ 62) ≤ j ∧ j < 2 ^ 62
instance (j : Int) : Decidable (R62 j) := inferInstanceAs (Decidable (_ ∧ _))
def R63 (j : Int) : Prop := -(2 ^ 63) ≤ j ∧ j < 2 ^ 63
instance (j : Int) : Decidable (R63 j) := inferInstanceAs (Decidable (_ ∧ _))
def P63 (j : Int) : Prop := 0 ≤ j ∧ j < 2 ^ 63
instance (j : Int) : Decidable (P63 j) := inferInstanceAs (Decidable (_ ∧ _))
def R64 (j : Int) : Prop := -(2 ^ 64) < j ∧ j < 2 ^ 64
instance (j : Int) : Decidable (R64 j) := inferInstanceAs (Decidable (_ ∧ _))
theorem r62 {j : Int} (h : -4000000000000000000 ≤ j) (h' : j ≤ 4000000000000000000) : R62 j := by unfold R62; omega
theorem r63 {j : Int} (h : -4000000000000000000 ≤ j) (h' : j ≤ 4000000000000000000) : R63 j := by unfold R63; omega
theorem p63 {j : Int} (h : 0 ≤ j) (h' : j ≤ 4000000000000000000) : P63 j := by unfold P63; omega
theorem r64 {j : Int} (h : -4000000000000000000 ≤ j) (h' : j ≤ 4000000000000000000) : R64 j := by unfold R64; omega
def w_bin_5 (ρ2 : Rho) (q : Option (Rs)) : Option (Rs × Rho) := q.map fun r => (r, ρ2)
@[simp] theorem w_bin_5_some (ρ2 : Rho) (r : Rs) : w_bin_5 ρ2 (some r) = some (r, ρ2) := (rfl)
@[simp] theorem w_bin_5_none (ρ2 : Rho) : w_bin_5 ρ2 none = none := (rfl)
def w_bin_4 (o : PySem.Operator) (ρ2 : Rho) (x : D) (q : Option (D)) : Option (Rs × Rho) := q.bind fun y => w_bin_5 ρ2 (binD o x y)
@[simp] theorem w_bin_4_some (o : PySem.Operator) (ρ2 : Rho) (x : D) (y : D) : w_bin_4 o ρ2 x (some y) = w_bin_5 ρ2 (binD o x y) := (rfl)
@[simp] theorem w_bin_4_none (o : PySem.Operator) (ρ2 : Rho) (x : D) : w_bin_4 o ρ2 x none = none := (rfl)
def w_bin_3 (o : PySem.Operator) (r2 : Rs) (ρ2 : Rho) (q : Option (D)) : Option (Rs × Rho) := q.bind fun x => w_bin_4 o ρ2 x (look ρ2 r2)
@[simp] theorem w_bin_3_some (o : PySem.Operator) (r2 : Rs) (ρ2 : Rho) (x : D) : w_bin_3 o r2 ρ2 (some x) = w_bin_4 o ρ2 x (look ρ2 r2) := (rfl)
@[simp] theorem w_bin_3_none (o : PySem.Operator) (r2 : Rs) (ρ2 : Rho) : w_bin_3 o r2 ρ2 none = none := (rfl)
def w_bin_2 (o : PySem.Operator) (r1 : Rs) (q : Option (Rs × Rho)) : Option (Rs × Rho) := q.bind fun (r2, ρ2) => w_bin_3 o r2 ρ2 (look ρ2 r1)
@[simp] theorem w_bin_2_some (o : PySem.Operator) (r1 : Rs) (r2 : Rs) (ρ2 : Rho) : w_bin_2 o r1 (some (r2, ρ2)) = w_bin_3 o r2 ρ2 (look ρ2 r1) := (rfl)
@[simp] theorem w_bin_2_none (o : PySem.Operator) (r1 : Rs) : w_bin_2 o r1 none = none := (rfl)
def w_bin_1 (C : Cfg) (o : PySem.Operator) (b : E) (q : Option (Rs × Rho)) : Option (Rs × Rho) := q.bind fun (r1, ρ1) => w_bin_2 o r1 (ev C b ρ1)
@[simp] theorem w_bin_1_some (C : Cfg) (o : PySem.Operator) (b : E) (r1 : Rs) (ρ1 : Rho) : w_bin_1 C o b (some (r1, ρ1)) = w_bin_2 o r1 (ev C b ρ1) := (rfl)
@[simp] theorem w_bin_1_none (C : Cfg) (o : PySem.Operator) (b : E) : w_bin_1 C o b none = none := (rfl)
@[simp] theorem w_bin (C : Cfg) (o : PySem.Operator) (a : E) (b : E) (ρ : Rho) : ev C (.bin o a b) ρ = w_bin_1 C o b (ev C a ρ) := (rfl)
def w_neg_3 (ρ1 : Rho) (q : Option (Int)) : Option (Rs × Rho) := q.map fun k => (Rs.val (.int (-k)), ρ1)
@[simp] theorem w_neg_3_some (ρ1 : Rho) (k : Int) : w_neg_3 ρ1 (some k) = some (Rs.val (.int (-k)), ρ1) := (rfl)
@[simp] theorem w_neg_3_none (ρ1 : Rho) : w_neg_3 ρ1 none = none := (rfl)
def w_neg_2 (ρ1 : Rho) (q : Option (D)) : Option (Rs × Rho) := q.bind fun x => w_neg_3 ρ1 (intOf x)
@[simp] theorem w_neg_2_some (ρ1 : Rho) (x : D) : w_neg_2 ρ1 (some x) = w_neg_3 ρ1 (intOf x) := (rfl)
@[simp] theorem w_neg_2_none (ρ1 : Rho) : w_neg_2 ρ1 none = none := (rfl)
def w_neg_1 (q : Option (Rs × Rho)) : Option (Rs × Rho) := q.bind fun (r1, ρ1) => w_neg_2 ρ1 (look ρ1 r1)
@[simp] theorem w_neg_1_some (r1 : Rs) (ρ1 : Rho) : w_neg_1 (some (r1, ρ1)) = w_neg_2 ρ1 (look ρ1 r1) := (rfl)
@[simp] theorem w_neg_1_none : w_neg_1 none = none := (rfl)
@[simp] theorem w_neg (C : Cfg) (a : E) (ρ : Rho) : ev C (.neg a) ρ = w_neg_1 (ev C a ρ) := (rfl)
def w_not_2 (ρ1 : Rho) (q : Option (Bool)) : Option (Rs × Rho) := q.bind fun v => some (Rs.val (.bl (!v)), ρ1)
@[simp] theorem w_not_2_some (ρ1 : Rho) (v : Bool) : w_not_2 ρ1 (some v) = some (Rs.val (.bl (!v)), ρ1) := (rfl)
@[simp] theorem w_not_2_none (ρ1 : Rho) : w_not_2 ρ1 none = none := (rfl)
def w_not_1 (q : Option (Rs × Rho)) : Option (Rs × Rho) := q.bind fun (r1, ρ1) => w_not_2 ρ1 (blOf (look ρ1 r1))
@[simp] theorem w_not_1_some (r1 : Rs) (ρ1 : Rho) : w_not_1 (some (r1, ρ1)) = w_not_2 ρ1 (blOf (look ρ1 r1)) := (rfl)
@[simp] theorem w_not_1_none : w_not_1 none = none := (rfl)
@[simp] theorem w_not (C : Cfg) (a : E) (ρ : Rho) : ev C (.not a) ρ = w_not_1 (ev C a ρ) := by
  show (ev C a ρ).bind _ = (ev C a ρ).bind _
  congr 1
  funext p
  obtain ⟨r1, ρ1⟩ := p
  show _ = (blOf (look ρ1 r1)).bind _
  dsimp only
  generalize look ρ1 r1 = o
  cases o with
  | none => rfl
  | some d =>
    cases d with
    | bl v => cases v <;> rfl
    | _ => rfl
def w_and_2 (C : Cfg) (b : E) (ρ1 : Rho) (q : Option (Bool)) : Option (Rs × Rho) := q.bind fun v => if v then ev C b ρ1 else some (Rs.val (.bl false), ρ1)
@[simp] theorem w_and_2_some (C : Cfg) (b : E) (ρ1 : Rho) (v : Bool) : w_and_2 C b ρ1 (some v) = if v then ev C b ρ1 else some (Rs.val (.bl false), ρ1) := (rfl)
@[simp] theorem w_and_2_none (C : Cfg) (b : E) (ρ1 : Rho) : w_and_2 C b ρ1 none = none := (rfl)
def w_and_1 (C : Cfg) (b : E) (q : Option (Rs × Rho)) : Option (Rs × Rho) := q.bind fun (r1, ρ1) => w_and_2 C b ρ1 (blOf (look ρ1 r1))
@[simp] theorem w_and_1_some (C : Cfg) (b : E) (r1 : Rs) (ρ1 : Rho) : w_and_1 C b (some (r1, ρ1)) = w_and_2 C b ρ1 (blOf (look ρ1 r1)) := (rfl)
@[simp] theorem w_and_1_none (C : Cfg) (b : E) : w_and_1 C b none = none := (rfl)
@[simp] theorem w_and (C : Cfg) (a : E) (b : E) (ρ : Rho) : ev C (.bop true a b) ρ = w_and_1 C b (ev C a ρ) := by
  show (ev C a ρ).bind _ = (ev C a ρ).bind _
  congr 1
  funext p
  obtain ⟨r1, ρ1⟩ := p
  show _ = (blOf (look ρ1 r1)).bind _
  dsimp only
  generalize look ρ1 r1 = o
  cases o with
  | none => rfl
  | some d =>
    cases d with
    | bl v => cases v <;> rfl
    | _ => rfl
def w_or_2 (C : Cfg) (b : E) (ρ1 : Rho) (q : Option (Bool)) : Option (Rs × Rho) := q.bind fun v => if v then some (Rs.val (.bl true), ρ1) else ev C b ρ1
@[simp] theorem w_or_2_some (C : Cfg) (b : E) (ρ1 : Rho) (v : Bool) : w_or_2 C b ρ1 (some v) = if v then some (Rs.val (.bl true), ρ1) else ev C b ρ1 := (rfl)
@[simp] theorem w_or_2_none (C : Cfg) (b : E) (ρ1 : Rho) : w_or_2 C b ρ1 none = none := (rfl)
def w_or_1 (C : Cfg) (b : E) (q : Option (Rs × Rho)) : Option (Rs × Rho) := q.bind fun (r1, ρ1) => w_or_2 C b ρ1 (blOf (look ρ1 r1))
@[simp] theorem w_or_1_some (C : Cfg) (b : E) (r1 : Rs) (ρ1 : Rho) : w_or_1 C b (some (r1, ρ1)) = w_or_2 C b ρ1 (blOf (look ρ1 r1)) := (rfl)
@[simp] theorem w_or_1_none (C : Cfg) (b : E) : w_or_1 C b none = none := (rfl)
@[simp] theorem w_or (C : Cfg) (a : E) (b : E) (ρ : Rho) : ev C (.bop false a b) ρ = w_or_1 C b (ev C a ρ) := by
  show (ev C a ρ).bind _ = (ev C a ρ).bind _
  congr 1
  funext p
  obtain ⟨r1, ρ1⟩ := p
  show _ = (blOf (look ρ1 r1)).bind _
  dsimp only
  generalize look ρ1 r1 = o
  cases o with
  | none => rfl
  | some d =>
    cases d with
    | bl v => cases v <;> rfl
    | _ => rfl
def w_ife_1 (C : Cfg) (a : E) (b : E) (q : Option (Bool × Rho)) : Option (Rs × Rho) := q.bind fun (v, ρ1) => if v then ev C a ρ1 else ev C b ρ1
@[simp] theorem w_ife_1_some (C : Cfg) (a : E) (b : E) (v : Bool) (ρ1 : Rho) : w_ife_1 C a b (some (v, ρ1)) = if v then ev C a ρ1 else ev C b ρ1 := (rfl)
@[simp] theorem w_ife_1_none (C : Cfg) (a : E) (b : E) : w_ife_1 C a b none = none := (rfl)
@[simp] theorem w_ife (C : Cfg) (c : E) (a : E) (b : E) (ρ : Rho) : ev C (.ife c a b) ρ = w_ife_1 C a b (tst C c ρ) := (rfl)
def w_cmp_5 (ρ2 : Rho) (q : Option (Bool)) : Option (Rs × Rho) := q.map fun v => (Rs.val (.bl v), ρ2)
@[simp] theorem w_cmp_5_some (ρ2 : Rho) (v : Bool) : w_cmp_5 ρ2 (some v) = some (Rs.val (.bl v), ρ2) := (rfl)
@[simp] theorem w_cmp_5_none (ρ2 : Rho) : w_cmp_5 ρ2 none = none := (rfl)
def w_cmp_4 (c1 : PySem.CmpOp) (ρ2 : Rho) (x : D) (q : Option (D)) : Option (Rs × Rho) := q.bind fun y => w_cmp_5 ρ2 (cmpD c1 x y)
@[simp] theorem w_cmp_4_some (c1 : PySem.CmpOp) (ρ2 : Rho) (x : D) (y : D) : w_cmp_4 c1 ρ2 x (some y) = w_cmp_5 ρ2 (cmpD c1 x y) := (rfl)
@[simp] theorem w_cmp_4_none (c1 : PySem.CmpOp) (ρ2 : Rho) (x : D) : w_cmp_4 c1 ρ2 x none = none := (rfl)
def w_cmp_3 (c1 : PySem.CmpOp) (r2 : Rs) (ρ2 : Rho) (q : Option (D)) : Option (Rs × Rho) := q.bind fun x => w_cmp_4 c1 ρ2 x (look ρ2 r2)
@[simp] theorem w_cmp_3_some (c1 : PySem.CmpOp) (r2 : Rs) (ρ2 : Rho) (x : D) : w_cmp_3 c1 r2 ρ2 (some x) = w_cmp_4 c1 ρ2 x (look ρ2 r2) := (rfl)
@[simp] theorem w_cmp_3_none (c1 : PySem.CmpOp) (r2 : Rs) (ρ2 : Rho) : w_cmp_3 c1 r2 ρ2 none = none := (rfl)
def w_cmp_2 (c1 : PySem.CmpOp) (r1 : Rs) (q : Option (Rs × Rho)) : Option (Rs × Rho) := q.bind fun (r2, ρ2) => w_cmp_3 c1 r2 ρ2 (look ρ2 r1)
@[simp] theorem w_cmp_2_some (c1 : PySem.CmpOp) (r1 : Rs) (r2 : Rs) (ρ2 : Rho) : w_cmp_2 c1 r1 (some (r2, ρ2)) = w_cmp_3 c1 r2 ρ2 (look ρ2 r1) := (rfl)
@[simp] theorem w_cmp_2_none (c1 : PySem.CmpOp) (r1 : Rs) : w_cmp_2 c1 r1 none = none := (rfl)
def w_cmp_1 (C : Cfg) (c1 : PySem.CmpOp) (b : E) (q : Option (Rs × Rho)) : Option (Rs × Rho) := q.bind fun (r1, ρ1) => w_cmp_2 c1 r1 (ev C b ρ1)
@[simp] theorem w_cmp_1_some (C : Cfg) (c1 : PySem.CmpOp) (b : E) (r1 : Rs) (ρ1 : Rho) : w_cmp_1 C c1 b (some (r1, ρ1)) = w_cmp_2 c1 r1 (ev C b ρ1) := (rfl)
@[simp] theorem w_cmp_1_none (C : Cfg) (c1 : PySem.CmpOp) (b : E) : w_cmp_1 C c1 b none = none := (rfl)
@[simp] theorem w_cmp (C : Cfg) (c1 : PySem.CmpOp) (a : E) (b : E) (ρ : Rho) : ev C (.cmp c1 a b) ρ = w_cmp_1 C c1 b (ev C a ρ) := (rfl)
def w_chnb_1 (C : Cfg) (c2 : PySem.CmpOp) (c : E) (r2 : Rs) (ρ : Rho) (q : Option (Bool)) : Option (Bool × Rho) := q.bind fun v => if v then chnC C c2 c r2 ρ else some (false, ρ)
@[simp] theorem w_chnb_1_some (C : Cfg) (c2 : PySem.CmpOp) (c : E) (r2 : Rs) (ρ : Rho) (v : Bool) : w_chnb_1 C c2 c r2 ρ (some v) = if v then chnC C c2 c r2 ρ else some (false, ρ) := (rfl)
@[simp] theorem w_chnb_1_none (C : Cfg) (c2 : PySem.CmpOp) (c : E) (r2 : Rs) (ρ : Rho) : w_chnb_1 C c2 c r2 ρ none = none := (rfl)
@[simp] theorem w_chnb (C : Cfg) (c1 : PySem.CmpOp) (c2 : PySem.CmpOp) (c : E) (r2 : Rs) (x : D) (y : D) (ρ : Rho) : chnB C c1 c2 c r2 x y ρ = w_chnb_1 C c2 c r2 ρ (cmpD c1 x y) := (rfl)
def w_chnc_4 (ρ1 : Rho) (q : Option (Bool)) : Option (Bool × Rho) := q.map fun v => (v, ρ1)
@[simp] theorem w_chnc_4_some (ρ1 : Rho) (v : Bool) : w_chnc_4 ρ1 (some v) = some (v, ρ1) := (rfl)
@[simp] theorem w_chnc_4_none (ρ1 : Rho) : w_chnc_4 ρ1 none = none := (rfl)
def w_chnc_3 (c2 : PySem.CmpOp) (ρ1 : Rho) (y : D) (q : Option (D)) : Option (Bool × Rho) := q.bind fun z => w_chnc_4 ρ1 (cmpD c2 y z)
@[simp] theorem w_chnc_3_some (c2 : PySem.CmpOp) (ρ1 : Rho) (y : D) (z : D) : w_chnc_3 c2 ρ1 y (some z) = w_chnc_4 ρ1 (cmpD c2 y z) := (rfl)
@[simp] theorem w_chnc_3_none (c2 : PySem.CmpOp) (ρ1 : Rho) (y : D) : w_chnc_3 c2 ρ1 y none = none := (rfl)
def w_chnc_2 (c2 : PySem.CmpOp) (r3 : Rs) (ρ1 : Rho) (q : Option (D)) : Option (Bool × Rho) := q.bind fun y => w_chnc_3 c2 ρ1 y (look ρ1 r3)
@[simp] theorem w_chnc_2_some (c2 : PySem.CmpOp) (r3 : Rs) (ρ1 : Rho) (y : D) : w_chnc_2 c2 r3 ρ1 (some y) = w_chnc_3 c2 ρ1 y (look ρ1 r3) := (rfl)
@[simp] theorem w_chnc_2_none (c2 : PySem.CmpOp) (r3 : Rs) (ρ1 : Rho) : w_chnc_2 c2 r3 ρ1 none = none := (rfl)
def w_chnc_1 (c2 : PySem.CmpOp) (r2 : Rs) (q : Option (Rs × Rho)) : Option (Bool × Rho) := q.bind fun (r3, ρ1) => w_chnc_2 c2 r3 ρ1 (look ρ1 r2)
@[simp] theorem w_chnc_1_some (c2 : PySem.CmpOp) (r2 : Rs) (r3 : Rs) (ρ1 : Rho) : w_chnc_1 c2 r2 (some (r3, ρ1)) = w_chnc_2 c2 r3 ρ1 (look ρ1 r2) := (rfl)
@[simp] theorem w_chnc_1_none (c2 : PySem.CmpOp) (r2 : Rs) : w_chnc_1 c2 r2 none = none := (rfl)
@[simp] theorem w_chnc (C : Cfg) (c2 : PySem.CmpOp) (c : E) (r2 : Rs) (ρ : Rho) : chnC C c2 c r2 ρ = w_chnc_1 c2 r2 (ev C c ρ) := (rfl)
def w_chn_5 (q : Option (Bool × Rho)) : Option (Rs × Rho) := q.bind fun (v, ρ3) => some (Rs.val (.bl v), ρ3)
@[simp] theorem w_chn_5_some (v : Bool) (ρ3 : Rho) : w_chn_5 (some (v, ρ3)) = some (Rs.val (.bl v), ρ3) := (rfl)
@[simp] theorem w_chn_5_none : w_chn_5 none = none := (rfl)
def w_chn_4 (C : Cfg) (c1 : PySem.CmpOp) (c2 : PySem.CmpOp) (c : E) (r2 : Rs) (ρ2 : Rho) (x : D) (q : Option (D)) : Option (Rs × Rho) := q.bind fun y => w_chn_5 (chnB C c1 c2 c r2 x y ρ2)
@[simp] theorem w_chn_4_some (C : Cfg) (c1 : PySem.CmpOp) (c2 : PySem.CmpOp) (c : E) (r2 : Rs) (ρ2 : Rho) (x : D) (y : D) : w_chn_4 C c1 c2 c r2 ρ2 x (some y) = w_chn_5 (chnB C c1 c2 c r2 x y ρ2) := (rfl)
@[simp] theorem w_chn_4_none (C : Cfg) (c1 : PySem.CmpOp) (c2 : PySem.CmpOp) (c : E) (r2 : Rs) (ρ2 : Rho) (x : D) : w_chn_4 C c1 c2 c r2 ρ2 x none = none := (rfl)
def w_chn_3 (C : Cfg) (c1 : PySem.CmpOp) (c2 : PySem.CmpOp) (c : E) (r2 : Rs) (ρ2 : Rho) (q : Option (D)) : Option (Rs × Rho) := q.bind fun x => w_chn_4 C c1 c2 c r2 ρ2 x (look ρ2 r2)
@[simp] theorem w_chn_3_some (C : Cfg) (c1 : PySem.CmpOp) (c2 : PySem.CmpOp) (c : E) (r2 : Rs) (ρ2 : Rho) (x : D) : w_chn_3 C c1 c2 c r2 ρ2 (some x) = w_chn_4 C c1 c2 c r2 ρ2 x (look ρ2 r2) := (rfl)
@[simp] theorem w_chn_3_none (C : Cfg) (c1 : PySem.CmpOp) (c2 : PySem.CmpOp) (c : E) (r2 : Rs) (ρ2 : Rho) : w_chn_3 C c1 c2 c r2 ρ2 none = none := (rfl)
def w_chn_2 (C : Cfg) (c1 : PySem.CmpOp) (c2 : PySem.CmpOp) (c : E) (r1 : Rs) (q : Option (Rs × Rho)) : Option (Rs × Rho) := q.bind fun (r2, ρ2) => w_chn_3 C c1 c2 c r2 ρ2 (look ρ2 r1)
@[simp] theorem w_chn_2_some (C : Cfg) (c1 : PySem.CmpOp) (c2 : PySem.CmpOp) (c : E) (r1 : Rs) (r2 : Rs) (ρ2 : Rho) : w_chn_2 C c1 c2 c r1 (some (r2, ρ2)) = w_chn_3 C c1 c2 c r2 ρ2 (look ρ2 r1) := (rfl)
@[simp] theorem w_chn_2_none (C : Cfg) (c1 : PySem.CmpOp) (c2 : PySem.CmpOp) (c : E) (r1 : Rs) : w_chn_2 C c1 c2 c r1 none = none := (rfl)
def w_chn_1 (C : Cfg) (c1 : PySem.CmpOp) (c2 : PySem.CmpOp) (b : E) (c : E) (q : Option (Rs × Rho)) : Option (Rs × Rho) := q.bind fun (r1, ρ1) => w_chn_2 C c1 c2 c r1 (ev C b ρ1)
@[simp] theorem w_chn_1_some (C : Cfg) (c1 : PySem.CmpOp) (c2 : PySem.CmpOp) (b : E) (c : E) (r1 : Rs) (ρ1 : Rho) : w_chn_1 C c1 c2 b c (some (r1, ρ1)) = w_chn_2 C c1 c2 c r1 (ev C b ρ1) := (rfl)
@[simp] theorem w_chn_1_none (C : Cfg) (c1 : PySem.CmpOp) (c2 : PySem.CmpOp) (b : E) (c : E) : w_chn_1 C c1 c2 b c none = none := (rfl)
@[simp] theorem w_chn (C : Cfg) (c1 : PySem.CmpOp) (c2 : PySem.CmpOp) (a : E) (b : E) (c : E) (ρ : Rho) : ev C (.chn c1 c2 a b c) ρ = w_chn_1 C c1 c2 b c (ev C a ρ) := by
  show (ev C a ρ).bind _ = (ev C a ρ).bind _
  congr 1
  funext p
  show (ev C b p.2).bind _ = (ev C b p.2).bind _
  congr 1
  funext q
  show (look q.2 p.1).bind _ = (look q.2 p.1).bind _
  congr 1
  funext x
  show (look q.2 q.1).bind _ = (look q.2 q.1).bind _
  congr 1
  funext y
  exact chn_e C c1 c2 c q.1 x y q.2
def w_tup_1 (q : Option (List D × Rho)) : Option (Rs × Rho) := q.bind fun (ds, ρ1) => if ds.length ≤ most then some (Rs.val (.tup ds), ρ1) else none
@[simp] theorem w_tup_1_some (ds : List D) (ρ1 : Rho) : w_tup_1 (some (ds, ρ1)) = if ds.length ≤ most then some (Rs.val (.tup ds), ρ1) else none := (rfl)
@[simp] theorem w_tup_1_none : w_tup_1 none = none := (rfl)
@[simp] theorem w_tup (C : Cfg) (es : List E) (ρ : Rho) : ev C (.tup es) ρ = w_tup_1 (evf C es ρ) := (rfl)
def w_lst_1 (q : Option (List D × Rho)) : Option (Rs × Rho) := q.bind fun (ds, ρ1) => if ds.length ≤ most then some (Rs.fr (.lst ds), ρ1) else none
@[simp] theorem w_lst_1_some (ds : List D) (ρ1 : Rho) : w_lst_1 (some (ds, ρ1)) = if ds.length ≤ most then some (Rs.fr (.lst ds), ρ1) else none := (rfl)
@[simp] theorem w_lst_1_none : w_lst_1 none = none := (rfl)
@[simp] theorem w_lst (C : Cfg) (es : List E) (ρ : Rho) : ev C (.lst es) ρ = w_lst_1 (evf C es ρ) := (rfl)
def w_ix_5 (ρ2 : Rho) (q : Option (D)) : Option (Rs × Rho) := q.map fun z => (Rs.val z, ρ2)
@[simp] theorem w_ix_5_some (ρ2 : Rho) (z : D) : w_ix_5 ρ2 (some z) = some (Rs.val z, ρ2) := (rfl)
@[simp] theorem w_ix_5_none (ρ2 : Rho) : w_ix_5 ρ2 none = none := (rfl)
def w_ix_4 (ρ2 : Rho) (x : D) (q : Option (D)) : Option (Rs × Rho) := q.bind fun y => w_ix_5 ρ2 (ixD x y)
@[simp] theorem w_ix_4_some (ρ2 : Rho) (x : D) (y : D) : w_ix_4 ρ2 x (some y) = w_ix_5 ρ2 (ixD x y) := (rfl)
@[simp] theorem w_ix_4_none (ρ2 : Rho) (x : D) : w_ix_4 ρ2 x none = none := (rfl)
def w_ix_3 (r2 : Rs) (ρ2 : Rho) (q : Option (D)) : Option (Rs × Rho) := q.bind fun x => w_ix_4 ρ2 x (look ρ2 r2)
@[simp] theorem w_ix_3_some (r2 : Rs) (ρ2 : Rho) (x : D) : w_ix_3 r2 ρ2 (some x) = w_ix_4 ρ2 x (look ρ2 r2) := (rfl)
@[simp] theorem w_ix_3_none (r2 : Rs) (ρ2 : Rho) : w_ix_3 r2 ρ2 none = none := (rfl)
def w_ix_2 (r1 : Rs) (q : Option (Rs × Rho)) : Option (Rs × Rho) := q.bind fun (r2, ρ2) => w_ix_3 r2 ρ2 (look ρ2 r1)
@[simp] theorem w_ix_2_some (r1 : Rs) (r2 : Rs) (ρ2 : Rho) : w_ix_2 r1 (some (r2, ρ2)) = w_ix_3 r2 ρ2 (look ρ2 r1) := (rfl)
@[simp] theorem w_ix_2_none (r1 : Rs) : w_ix_2 r1 none = none := (rfl)
def w_ix_1 (C : Cfg) (b : E) (q : Option (Rs × Rho)) : Option (Rs × Rho) := q.bind fun (r1, ρ1) => w_ix_2 r1 (ev C b ρ1)
@[simp] theorem w_ix_1_some (C : Cfg) (b : E) (r1 : Rs) (ρ1 : Rho) : w_ix_1 C b (some (r1, ρ1)) = w_ix_2 r1 (ev C b ρ1) := (rfl)
@[simp] theorem w_ix_1_none (C : Cfg) (b : E) : w_ix_1 C b none = none := (rfl)
@[simp] theorem w_ix (C : Cfg) (a : E) (b : E) (ρ : Rho) : ev C (.ix a b) ρ = w_ix_1 C b (ev C a ρ) := (rfl)
def w_slc_5 (ρ3 : Rho) (q : Option (Rs)) : Option (Rs × Rho) := q.map fun r => (r, ρ3)
@[simp] theorem w_slc_5_some (ρ3 : Rho) (r : Rs) : w_slc_5 ρ3 (some r) = some (r, ρ3) := (rfl)
@[simp] theorem w_slc_5_none (ρ3 : Rho) : w_slc_5 ρ3 none = none := (rfl)
def w_slc_4 (l : Option Int) (h : Option Int) (ρ3 : Rho) (q : Option (D)) : Option (Rs × Rho) := q.bind fun x => w_slc_5 ρ3 (slcD x l h)
@[simp] theorem w_slc_4_some (l : Option Int) (h : Option Int) (ρ3 : Rho) (x : D) : w_slc_4 l h ρ3 (some x) = w_slc_5 ρ3 (slcD x l h) := (rfl)
@[simp] theorem w_slc_4_none (l : Option Int) (h : Option Int) (ρ3 : Rho) : w_slc_4 l h ρ3 none = none := (rfl)
def w_slc_3 (r1 : Rs) (l : Option Int) (q : Option (Option Int × Rho)) : Option (Rs × Rho) := q.bind fun (h, ρ3) => w_slc_4 l h ρ3 (look ρ3 r1)
@[simp] theorem w_slc_3_some (r1 : Rs) (l : Option Int) (h : Option Int) (ρ3 : Rho) : w_slc_3 r1 l (some (h, ρ3)) = w_slc_4 l h ρ3 (look ρ3 r1) := (rfl)
@[simp] theorem w_slc_3_none (r1 : Rs) (l : Option Int) : w_slc_3 r1 l none = none := (rfl)
def w_slc_2 (C : Cfg) (hi : Option E) (r1 : Rs) (q : Option (Option Int × Rho)) : Option (Rs × Rho) := q.bind fun (l, ρ2) => w_slc_3 r1 l (evo C hi ρ2)
@[simp] theorem w_slc_2_some (C : Cfg) (hi : Option E) (r1 : Rs) (l : Option Int) (ρ2 : Rho) : w_slc_2 C hi r1 (some (l, ρ2)) = w_slc_3 r1 l (evo C hi ρ2) := (rfl)
@[simp] theorem w_slc_2_none (C : Cfg) (hi : Option E) (r1 : Rs) : w_slc_2 C hi r1 none = none := (rfl)
def w_slc_1 (C : Cfg) (lo : Option E) (hi : Option E) (q : Option (Rs × Rho)) : Option (Rs × Rho) := q.bind fun (r1, ρ1) => w_slc_2 C hi r1 (evo C lo ρ1)
@[simp] theorem w_slc_1_some (C : Cfg) (lo : Option E) (hi : Option E) (r1 : Rs) (ρ1 : Rho) : w_slc_1 C lo hi (some (r1, ρ1)) = w_slc_2 C hi r1 (evo C lo ρ1) := (rfl)
@[simp] theorem w_slc_1_none (C : Cfg) (lo : Option E) (hi : Option E) : w_slc_1 C lo hi none = none := (rfl)
@[simp] theorem w_slc (C : Cfg) (a : E) (lo : Option E) (hi : Option E) (ρ : Rho) : ev C (.slc a lo hi) ρ = w_slc_1 C lo hi (ev C a ρ) := (rfl)
def w_mnd_5 (ρ2 : Rho) (q : Option (D)) : Option (Rs × Rho) := q.map fun d => (Rs.val d, ρ2)
@[simp] theorem w_mnd_5_some (ρ2 : Rho) (d : D) : w_mnd_5 ρ2 (some d) = some (Rs.val d, ρ2) := (rfl)
@[simp] theorem w_mnd_5_none (ρ2 : Rho) : w_mnd_5 ρ2 none = none := (rfl)
def w_mnd_4 (ρ2 : Rho) (x : D) (q : Option (D)) : Option (Rs × Rho) := q.bind fun y => w_mnd_5 ρ2 (mndD x y)
@[simp] theorem w_mnd_4_some (ρ2 : Rho) (x : D) (y : D) : w_mnd_4 ρ2 x (some y) = w_mnd_5 ρ2 (mndD x y) := (rfl)
@[simp] theorem w_mnd_4_none (ρ2 : Rho) (x : D) : w_mnd_4 ρ2 x none = none := (rfl)
def w_mnd_3 (r2 : Rs) (ρ2 : Rho) (q : Option (D)) : Option (Rs × Rho) := q.bind fun x => w_mnd_4 ρ2 x (look ρ2 r2)
@[simp] theorem w_mnd_3_some (r2 : Rs) (ρ2 : Rho) (x : D) : w_mnd_3 r2 ρ2 (some x) = w_mnd_4 ρ2 x (look ρ2 r2) := (rfl)
@[simp] theorem w_mnd_3_none (r2 : Rs) (ρ2 : Rho) : w_mnd_3 r2 ρ2 none = none := (rfl)
def w_mnd_2 (r1 : Rs) (q : Option (Rs × Rho)) : Option (Rs × Rho) := q.bind fun (r2, ρ2) => w_mnd_3 r2 ρ2 (look ρ2 r1)
@[simp] theorem w_mnd_2_some (r1 : Rs) (r2 : Rs) (ρ2 : Rho) : w_mnd_2 r1 (some (r2, ρ2)) = w_mnd_3 r2 ρ2 (look ρ2 r1) := (rfl)
@[simp] theorem w_mnd_2_none (r1 : Rs) : w_mnd_2 r1 none = none := (rfl)
def w_mnd_1 (C : Cfg) (b : E) (q : Option (Rs × Rho)) : Option (Rs × Rho) := q.bind fun (r1, ρ1) => w_mnd_2 r1 (ev C b ρ1)
@[simp] theorem w_mnd_1_some (C : Cfg) (b : E) (r1 : Rs) (ρ1 : Rho) : w_mnd_1 C b (some (r1, ρ1)) = w_mnd_2 r1 (ev C b ρ1) := (rfl)
@[simp] theorem w_mnd_1_none (C : Cfg) (b : E) : w_mnd_1 C b none = none := (rfl)
@[simp] theorem w_mnd (C : Cfg) (a : E) (b : E) (ρ : Rho) : ev C (.mnd a b) ρ = w_mnd_1 C b (ev C a ρ) := (rfl)
def w_dsp_4 (d : D) (q : Option (D × Rho)) : Option (Rs × Rho) := q.bind fun (x, ρ4) => if kOk [] d = true then some (Rs.fr (.dct [d] [x]), ρ4) else none
@[simp] theorem w_dsp_4_some (d : D) (x : D) (ρ4 : Rho) : w_dsp_4 d (some (x, ρ4)) = if kOk [] d = true then some (Rs.fr (.dct [d] [x]), ρ4) else none := (rfl)
@[simp] theorem w_dsp_4_none (d : D) : w_dsp_4 d none = none := (rfl)
def w_dsp_3 (d : D) (q : Option (Rs × Rho)) : Option (Rs × Rho) := q.bind fun (r2, ρ3) => w_dsp_4 d (fix ρ3 r2)
@[simp] theorem w_dsp_3_some (d : D) (r2 : Rs) (ρ3 : Rho) : w_dsp_3 d (some (r2, ρ3)) = w_dsp_4 d (fix ρ3 r2) := (rfl)
@[simp] theorem w_dsp_3_none (d : D) : w_dsp_3 d none = none := (rfl)
def w_dsp_2 (C : Cfg) (b : E) (q : Option (D × Rho)) : Option (Rs × Rho) := q.bind fun (d, ρ2) => w_dsp_3 d (ev C b ρ2)
@[simp] theorem w_dsp_2_some (C : Cfg) (b : E) (d : D) (ρ2 : Rho) : w_dsp_2 C b (some (d, ρ2)) = w_dsp_3 d (ev C b ρ2) := (rfl)
@[simp] theorem w_dsp_2_none (C : Cfg) (b : E) : w_dsp_2 C b none = none := (rfl)
def w_dsp_1 (C : Cfg) (b : E) (q : Option (Rs × Rho)) : Option (Rs × Rho) := q.bind fun (r1, ρ1) => w_dsp_2 C b (fix ρ1 r1)
@[simp] theorem w_dsp_1_some (C : Cfg) (b : E) (r1 : Rs) (ρ1 : Rho) : w_dsp_1 C b (some (r1, ρ1)) = w_dsp_2 C b (fix ρ1 r1) := (rfl)
@[simp] theorem w_dsp_1_none (C : Cfg) (b : E) : w_dsp_1 C b none = none := (rfl)
@[simp] theorem w_dsp (C : Cfg) (a : E) (b : E) (ρ : Rho) : ev C (.dsp a b) ρ = w_dsp_1 C b (ev C a ρ) := (rfl)
def w_rev_3 (ρ1 : Rho) (q : Option (Rs)) : Option (Rs × Rho) := q.map fun r => (r, ρ1)
@[simp] theorem w_rev_3_some (ρ1 : Rho) (r : Rs) : w_rev_3 ρ1 (some r) = some (r, ρ1) := (rfl)
@[simp] theorem w_rev_3_none (ρ1 : Rho) : w_rev_3 ρ1 none = none := (rfl)
def w_rev_2 (ρ1 : Rho) (q : Option (D)) : Option (Rs × Rho) := q.bind fun x => w_rev_3 ρ1 (revD x)
@[simp] theorem w_rev_2_some (ρ1 : Rho) (x : D) : w_rev_2 ρ1 (some x) = w_rev_3 ρ1 (revD x) := (rfl)
@[simp] theorem w_rev_2_none (ρ1 : Rho) : w_rev_2 ρ1 none = none := (rfl)
def w_rev_1 (q : Option (Rs × Rho)) : Option (Rs × Rho) := q.bind fun (r1, ρ1) => w_rev_2 ρ1 (look ρ1 r1)
@[simp] theorem w_rev_1_some (r1 : Rs) (ρ1 : Rho) : w_rev_1 (some (r1, ρ1)) = w_rev_2 ρ1 (look ρ1 r1) := (rfl)
@[simp] theorem w_rev_1_none : w_rev_1 none = none := (rfl)
@[simp] theorem w_rev (C : Cfg) (a : E) (ρ : Rho) : ev C (.rev a) ρ = w_rev_1 (ev C a ρ) := (rfl)
def w_call_5 (ρ2 : Rho) (us : List Rs) (q : Option (Rs × List Sl)) : Option (Rs × Rho) := q.bind fun (r, fs) => if isAl r then none else some (r, giveBack ρ2 us fs)
@[simp] theorem w_call_5_some (ρ2 : Rho) (us : List Rs) (r : Rs) (fs : List Sl) : w_call_5 ρ2 us (some (r, fs)) = if isAl r then none else some (r, giveBack ρ2 us fs) := (rfl)
@[simp] theorem w_call_5_none (ρ2 : Rho) (us : List Rs) : w_call_5 ρ2 us none = none := (rfl)
def w_call_4 (C : Cfg) (f : PySem.Str) (ρ2 : Rho) (us : List Rs) (q : Option (List Sl)) : Option (Rs × Rho) := q.bind fun as => w_call_5 ρ2 us (if (ownIx ρ2 us).Nodup then C.call f as else none)
@[simp] theorem w_call_4_some (C : Cfg) (f : PySem.Str) (ρ2 : Rho) (us : List Rs) (as : List Sl) : w_call_4 C f ρ2 us (some as) = w_call_5 ρ2 us (if (ownIx ρ2 us).Nodup then C.call f as else none) := (rfl)
@[simp] theorem w_call_4_none (C : Cfg) (f : PySem.Str) (ρ2 : Rho) (us : List Rs) : w_call_4 C f ρ2 us none = none := (rfl)
def w_call_3 (C : Cfg) (f : PySem.Str) (ρ2 : Rho) (q : Option (List Rs)) : Option (Rs × Rho) := q.bind fun us => w_call_4 C f ρ2 us (argsOf ρ2 us)
@[simp] theorem w_call_3_some (C : Cfg) (f : PySem.Str) (ρ2 : Rho) (us : List Rs) : w_call_3 C f ρ2 (some us) = w_call_4 C f ρ2 us (argsOf ρ2 us) := (rfl)
@[simp] theorem w_call_3_none (C : Cfg) (f : PySem.Str) (ρ2 : Rho) : w_call_3 C f ρ2 none = none := (rfl)
def w_call_2 (C : Cfg) (f : PySem.Str) (perm : List Nat) (rs : List Rs) (q : Option (List Rs × Rho)) : Option (Rs × Rho) := q.bind fun (qs, ρ2) => w_call_3 C f ρ2 (permute (rs ++ qs) perm)
@[simp] theorem w_call_2_some (C : Cfg) (f : PySem.Str) (perm : List Nat) (rs : List Rs) (qs : List Rs) (ρ2 : Rho) : w_call_2 C f perm rs (some (qs, ρ2)) = w_call_3 C f ρ2 (permute (rs ++ qs) perm) := (rfl)
@[simp] theorem w_call_2_none (C : Cfg) (f : PySem.Str) (perm : List Nat) (rs : List Rs) : w_call_2 C f perm rs none = none := (rfl)
def w_call_1 (C : Cfg) (f : PySem.Str) (ks : List E) (perm : List Nat) (q : Option (List Rs × Rho)) : Option (Rs × Rho) := q.bind fun (rs, ρ1) => w_call_2 C f perm rs (evs C ks ρ1)
@[simp] theorem w_call_1_some (C : Cfg) (f : PySem.Str) (ks : List E) (perm : List Nat) (rs : List Rs) (ρ1 : Rho) : w_call_1 C f ks perm (some (rs, ρ1)) = w_call_2 C f perm rs (evs C ks ρ1) := (rfl)
@[simp] theorem w_call_1_none (C : Cfg) (f : PySem.Str) (ks : List E) (perm : List Nat) : w_call_1 C f ks perm none = none := (rfl)
@[simp] theorem w_call (C : Cfg) (f : PySem.Str) (es : List E) (ks : List E) (perm : List Nat) (ρ : Rho) : ev C (.call f es ks perm) ρ = w_call_1 C f ks perm (evs C es ρ) := by
  show (evs C es ρ).bind _ = (evs C es ρ).bind _
  congr 1
  funext p
  show (evs C ks p.2).bind _ = (evs C ks p.2).bind _
  congr 1
  funext q
  show (permute (p.1 ++ q.1) perm).bind _ = (permute (p.1 ++ q.1) perm).bind _
  congr 1
  funext us
  show (argsOf q.2 us).bind _ = (argsOf q.2 us).bind _
  congr 1
  funext as
  show (if (ownIx q.2 us).Nodup then _ else none) = (if (ownIx q.2 us).Nodup then C.call f as else none).bind _
  split <;> rfl
def w_blt_3 (ρ1 : Rho) (q : Option (Rs)) : Option (Rs × Rho) := q.map fun r => (r, ρ1)
@[simp] theorem w_blt_3_some (ρ1 : Rho) (r : Rs) : w_blt_3 ρ1 (some r) = some (r, ρ1) := (rfl)
@[simp] theorem w_blt_3_none (ρ1 : Rho) : w_blt_3 ρ1 none = none := (rfl)
def w_blt_2 (bt : Bt) (ρ1 : Rho) (q : Option (List D)) : Option (Rs × Rho) := q.bind fun ds => w_blt_3 ρ1 (bltD bt ds)
@[simp] theorem w_blt_2_some (bt : Bt) (ρ1 : Rho) (ds : List D) : w_blt_2 bt ρ1 (some ds) = w_blt_3 ρ1 (bltD bt ds) := (rfl)
@[simp] theorem w_blt_2_none (bt : Bt) (ρ1 : Rho) : w_blt_2 bt ρ1 none = none := (rfl)
def w_blt_1 (bt : Bt) (q : Option (List Rs × Rho)) : Option (Rs × Rho) := q.bind fun (rs, ρ1) => w_blt_2 bt ρ1 (looks ρ1 rs)
@[simp] theorem w_blt_1_some (bt : Bt) (rs : List Rs) (ρ1 : Rho) : w_blt_1 bt (some (rs, ρ1)) = w_blt_2 bt ρ1 (looks ρ1 rs) := (rfl)
@[simp] theorem w_blt_1_none (bt : Bt) : w_blt_1 bt none = none := (rfl)
@[simp] theorem w_blt (C : Cfg) (bt : Bt) (es : List E) (ρ : Rho) : ev C (.blt bt es) ρ = w_blt_1 bt (evs C es ρ) := (rfl)
def w_isi_3 (ρ1 : Rho) (q : Option (Bool)) : Option (Rs × Rho) := q.map fun v => (Rs.val (.bl v), ρ1)
@[simp] theorem w_isi_3_some (ρ1 : Rho) (v : Bool) : w_isi_3 ρ1 (some v) = some (Rs.val (.bl v), ρ1) := (rfl)
@[simp] theorem w_isi_3_none (ρ1 : Rho) : w_isi_3 ρ1 none = none := (rfl)
def w_isi_2 (s : String) (ρ1 : Rho) (q : Option (D)) : Option (Rs × Rho) := q.bind fun x => w_isi_3 ρ1 (isiD s x)
@[simp] theorem w_isi_2_some (s : String) (ρ1 : Rho) (x : D) : w_isi_2 s ρ1 (some x) = w_isi_3 ρ1 (isiD s x) := (rfl)
@[simp] theorem w_isi_2_none (s : String) (ρ1 : Rho) : w_isi_2 s ρ1 none = none := (rfl)
def w_isi_1 (s : String) (q : Option (Rs × Rho)) : Option (Rs × Rho) := q.bind fun (r1, ρ1) => w_isi_2 s ρ1 (look ρ1 r1)
@[simp] theorem w_isi_1_some (s : String) (r1 : Rs) (ρ1 : Rho) : w_isi_1 s (some (r1, ρ1)) = w_isi_2 s ρ1 (look ρ1 r1) := (rfl)
@[simp] theorem w_isi_1_none (s : String) : w_isi_1 s none = none := (rfl)
@[simp] theorem w_isi (C : Cfg) (a : E) (s : String) (ρ : Rho) : ev C (.isi a s) ρ = w_isi_1 s (ev C a ρ) := (rfl)
def w_ofr_3 (u : Bool) (ρ1 : Rho) (q : Option (List D)) : Option (Rs × Rho) := q.bind fun xs => if xs.length ≤ most then some (if u then .val (.tup xs) else .fr (.lst xs), ρ1) else none
@[simp] theorem w_ofr_3_some (u : Bool) (ρ1 : Rho) (xs : List D) : w_ofr_3 u ρ1 (some xs) = if xs.length ≤ most then some (if u then .val (.tup xs) else .fr (.lst xs), ρ1) else none := (rfl)
@[simp] theorem w_ofr_3_none (u : Bool) (ρ1 : Rho) : w_ofr_3 u ρ1 none = none := (rfl)
def w_ofr_2 (u : Bool) (ρ1 : Rho) (q : Option (List D)) : Option (Rs × Rho) := q.bind fun ds => w_ofr_3 u ρ1 (rngD ds)
@[simp] theorem w_ofr_2_some (u : Bool) (ρ1 : Rho) (ds : List D) : w_ofr_2 u ρ1 (some ds) = w_ofr_3 u ρ1 (rngD ds) := (rfl)
@[simp] theorem w_ofr_2_none (u : Bool) (ρ1 : Rho) : w_ofr_2 u ρ1 none = none := (rfl)
def w_ofr_1 (u : Bool) (q : Option (List Rs × Rho)) : Option (Rs × Rho) := q.bind fun (rs, ρ1) => w_ofr_2 u ρ1 (looks ρ1 rs)
@[simp] theorem w_ofr_1_some (u : Bool) (rs : List Rs) (ρ1 : Rho) : w_ofr_1 u (some (rs, ρ1)) = w_ofr_2 u ρ1 (looks ρ1 rs) := (rfl)
@[simp] theorem w_ofr_1_none (u : Bool) : w_ofr_1 u none = none := (rfl)
@[simp] theorem w_ofr (C : Cfg) (u : Bool) (es : List E) (ρ : Rho) : ev C (.ofr u es) ρ = w_ofr_1 u (evs C es ρ) := (rfl)
def w_app_4 (i : Nat) (d : D) (ρ2 : Rho) (q : Option (List D)) : Option (Rs × Rho) := q.bind fun xs => if xs.length < most then some (Rs.val .non, ρ2.set i (.own (.lst (xs ++ [d])))) else none
@[simp] theorem w_app_4_some (i : Nat) (d : D) (ρ2 : Rho) (xs : List D) : w_app_4 i d ρ2 (some xs) = if xs.length < most then some (Rs.val .non, ρ2.set i (.own (.lst (xs ++ [d])))) else none := (rfl)
@[simp] theorem w_app_4_none (i : Nat) (d : D) (ρ2 : Rho) : w_app_4 i d ρ2 none = none := (rfl)
def w_app_3 (i : Nat) (q : Option (D × Rho)) : Option (Rs × Rho) := q.bind fun (d, ρ2) => w_app_4 i d ρ2 (ownL ρ2 i)
@[simp] theorem w_app_3_some (i : Nat) (d : D) (ρ2 : Rho) : w_app_3 i (some (d, ρ2)) = w_app_4 i d ρ2 (ownL ρ2 i) := (rfl)
@[simp] theorem w_app_3_none (i : Nat) : w_app_3 i none = none := (rfl)
def w_app_2 (i : Nat) (q : Option (Rs × Rho)) : Option (Rs × Rho) := q.bind fun (r1, ρ1) => w_app_3 i (fix ρ1 r1)
@[simp] theorem w_app_2_some (i : Nat) (r1 : Rs) (ρ1 : Rho) : w_app_2 i (some (r1, ρ1)) = w_app_3 i (fix ρ1 r1) := (rfl)
@[simp] theorem w_app_2_none (i : Nat) : w_app_2 i none = none := (rfl)
def w_app_1 (C : Cfg) (i : Nat) (a : E) (ρ : Rho) (q : Option (List D)) : Option (Rs × Rho) := q.bind fun _ => w_app_2 i (ev C a ρ)
@[simp] theorem w_app_1_some (C : Cfg) (i : Nat) (a : E) (ρ : Rho) (any : List D) : w_app_1 C i a ρ (some any) = w_app_2 i (ev C a ρ) := (rfl)
@[simp] theorem w_app_1_none (C : Cfg) (i : Nat) (a : E) (ρ : Rho) : w_app_1 C i a ρ none = none := (rfl)
@[simp] theorem w_app (C : Cfg) (i : Nat) (a : E) (ρ : Rho) : ev C (.app i a) ρ = w_app_1 C i a ρ (ownL ρ i) := (rfl)
def w_ext_5 (i : Nat) (ρ1 : Rho) (ys : List D) (q : Option (List D)) : Option (Rs × Rho) := q.bind fun xs => if xs.length + ys.length ≤ most then some (Rs.val .non, ρ1.set i (.own (.lst (xs ++ ys)))) else none
@[simp] theorem w_ext_5_some (i : Nat) (ρ1 : Rho) (ys : List D) (xs : List D) : w_ext_5 i ρ1 ys (some xs) = if xs.length + ys.length ≤ most then some (Rs.val .non, ρ1.set i (.own (.lst (xs ++ ys)))) else none := (rfl)
@[simp] theorem w_ext_5_none (i : Nat) (ρ1 : Rho) (ys : List D) : w_ext_5 i ρ1 ys none = none := (rfl)
def w_ext_4 (i : Nat) (ρ1 : Rho) (q : Option (List D)) : Option (Rs × Rho) := q.bind fun ys => w_ext_5 i ρ1 ys (ownL ρ1 i)
@[simp] theorem w_ext_4_some (i : Nat) (ρ1 : Rho) (ys : List D) : w_ext_4 i ρ1 (some ys) = w_ext_5 i ρ1 ys (ownL ρ1 i) := (rfl)
@[simp] theorem w_ext_4_none (i : Nat) (ρ1 : Rho) : w_ext_4 i ρ1 none = none := (rfl)
def w_ext_3 (i : Nat) (ρ1 : Rho) (q : Option (D)) : Option (Rs × Rho) := q.bind fun x => w_ext_4 i ρ1 (lstOf x)
@[simp] theorem w_ext_3_some (i : Nat) (ρ1 : Rho) (x : D) : w_ext_3 i ρ1 (some x) = w_ext_4 i ρ1 (lstOf x) := (rfl)
@[simp] theorem w_ext_3_none (i : Nat) (ρ1 : Rho) : w_ext_3 i ρ1 none = none := (rfl)
def w_ext_2 (i : Nat) (q : Option (Rs × Rho)) : Option (Rs × Rho) := q.bind fun (r1, ρ1) => w_ext_3 i ρ1 (look ρ1 r1)
@[simp] theorem w_ext_2_some (i : Nat) (r1 : Rs) (ρ1 : Rho) : w_ext_2 i (some (r1, ρ1)) = w_ext_3 i ρ1 (look ρ1 r1) := (rfl)
@[simp] theorem w_ext_2_none (i : Nat) : w_ext_2 i none = none := (rfl)
def w_ext_1 (C : Cfg) (i : Nat) (a : E) (ρ : Rho) (q : Option (List D)) : Option (Rs × Rho) := q.bind fun _ => w_ext_2 i (ev C a ρ)
@[simp] theorem w_ext_1_some (C : Cfg) (i : Nat) (a : E) (ρ : Rho) (any : List D) : w_ext_1 C i a ρ (some any) = w_ext_2 i (ev C a ρ) := (rfl)
@[simp] theorem w_ext_1_none (C : Cfg) (i : Nat) (a : E) (ρ : Rho) : w_ext_1 C i a ρ none = none := (rfl)
@[simp] theorem w_ext (C : Cfg) (i : Nat) (a : E) (ρ : Rho) : ev C (.ext i a) ρ = w_ext_1 C i a ρ (ownL ρ i) := (rfl)
def w_pop_2 (i : Nat) (ρ : Rho) (xs : List D) (q : Option (D)) : Option (Rs × Rho) := q.map fun d => (Rs.val d, ρ.set i (.own (.lst xs.dropLast)))
@[simp] theorem w_pop_2_some (i : Nat) (ρ : Rho) (xs : List D) (d : D) : w_pop_2 i ρ xs (some d) = some (Rs.val d, ρ.set i (.own (.lst xs.dropLast))) := (rfl)
@[simp] theorem w_pop_2_none (i : Nat) (ρ : Rho) (xs : List D) : w_pop_2 i ρ xs none = none := (rfl)
def w_pop_1 (i : Nat) (ρ : Rho) (q : Option (List D)) : Option (Rs × Rho) := q.bind fun xs => w_pop_2 i ρ xs (xs[xs.length - 1]?)
@[simp] theorem w_pop_1_some (i : Nat) (ρ : Rho) (xs : List D) : w_pop_1 i ρ (some xs) = w_pop_2 i ρ xs (xs[xs.length - 1]?) := (rfl)
@[simp] theorem w_pop_1_none (i : Nat) (ρ : Rho) : w_pop_1 i ρ none = none := (rfl)
@[simp] theorem w_pop (C : Cfg) (i : Nat) (ρ : Rho) : ev C (.pop i) ρ = w_pop_1 i ρ (ownL ρ i) := (rfl)
def w_popi_6 (i : Nat) (ρ1 : Rho) (k : Int) (xs : List D) (q : Option (D)) : Option (Rs × Rho) := q.bind fun d => some (Rs.val d, ρ1.set i (.own (.lst (xs.eraseIdx k.toNat))))
@[simp] theorem w_popi_6_some (i : Nat) (ρ1 : Rho) (k : Int) (xs : List D) (d : D) : w_popi_6 i ρ1 k xs (some d) = some (Rs.val d, ρ1.set i (.own (.lst (xs.eraseIdx k.toNat)))) := (rfl)
@[simp] theorem w_popi_6_none (i : Nat) (ρ1 : Rho) (k : Int) (xs : List D) : w_popi_6 i ρ1 k xs none = none := (rfl)
def w_popi_5 (i : Nat) (ρ1 : Rho) (k : Int) (q : Option (List D)) : Option (Rs × Rho) := q.bind fun xs => w_popi_6 i ρ1 k xs (if P63 k then xs[k.toNat]? else none)
@[simp] theorem w_popi_5_some (i : Nat) (ρ1 : Rho) (k : Int) (xs : List D) : w_popi_5 i ρ1 k (some xs) = w_popi_6 i ρ1 k xs (if P63 k then xs[k.toNat]? else none) := (rfl)
@[simp] theorem w_popi_5_none (i : Nat) (ρ1 : Rho) (k : Int) : w_popi_5 i ρ1 k none = none := (rfl)
def w_popi_4 (i : Nat) (ρ1 : Rho) (q : Option (Int)) : Option (Rs × Rho) := q.bind fun k => w_popi_5 i ρ1 k (ownL ρ1 i)
@[simp] theorem w_popi_4_some (i : Nat) (ρ1 : Rho) (k : Int) : w_popi_4 i ρ1 (some k) = w_popi_5 i ρ1 k (ownL ρ1 i) := (rfl)
@[simp] theorem w_popi_4_none (i : Nat) (ρ1 : Rho) : w_popi_4 i ρ1 none = none := (rfl)
def w_popi_3 (i : Nat) (ρ1 : Rho) (q : Option (D)) : Option (Rs × Rho) := q.bind fun x => w_popi_4 i ρ1 (intOf x)
@[simp] theorem w_popi_3_some (i : Nat) (ρ1 : Rho) (x : D) : w_popi_3 i ρ1 (some x) = w_popi_4 i ρ1 (intOf x) := (rfl)
@[simp] theorem w_popi_3_none (i : Nat) (ρ1 : Rho) : w_popi_3 i ρ1 none = none := (rfl)
def w_popi_2 (i : Nat) (q : Option (Rs × Rho)) : Option (Rs × Rho) := q.bind fun (r1, ρ1) => w_popi_3 i ρ1 (look ρ1 r1)
@[simp] theorem w_popi_2_some (i : Nat) (r1 : Rs) (ρ1 : Rho) : w_popi_2 i (some (r1, ρ1)) = w_popi_3 i ρ1 (look ρ1 r1) := (rfl)
@[simp] theorem w_popi_2_none (i : Nat) : w_popi_2 i none = none := (rfl)
def w_popi_1 (C : Cfg) (i : Nat) (a : E) (ρ : Rho) (q : Option (List D)) : Option (Rs × Rho) := q.bind fun _ => w_popi_2 i (ev C a ρ)
@[simp] theorem w_popi_1_some (C : Cfg) (i : Nat) (a : E) (ρ : Rho) (any : List D) : w_popi_1 C i a ρ (some any) = w_popi_2 i (ev C a ρ) := (rfl)
@[simp] theorem w_popi_1_none (C : Cfg) (i : Nat) (a : E) (ρ : Rho) : w_popi_1 C i a ρ none = none := (rfl)
@[simp] theorem w_popi (C : Cfg) (i : Nat) (a : E) (ρ : Rho) : ev C (.popi i a) ρ = w_popi_1 C i a ρ (ownL ρ i) := by
  show (ownL ρ i).bind _ = (ownL ρ i).bind _
  congr 1
  funext _
  show (ev C a ρ).bind _ = (ev C a ρ).bind _
  congr 1
  funext p
  show (look p.2 p.1).bind _ = (look p.2 p.1).bind _
  congr 1
  funext x
  show (intOf x).bind _ = (intOf x).bind _
  congr 1
  funext k
  show (ownL p.2 i).bind _ = (ownL p.2 i).bind _
  congr 1
  funext xs
  show (if P63 k then _ else none) = (if P63 k then xs[k.toNat]? else none).bind _
  split
  · cases xs[k.toNat]? <;> rfl
  · rfl
def w_lc_2 (t : Tg) (ρ1 : Rho) (q : Option (List D × Rho)) : Option (Rs × Rho) := q.bind fun (ds, ρ2) => some (Rs.fr (.lst ds), restore ρ2 ρ1 t.slots)
@[simp] theorem w_lc_2_some (t : Tg) (ρ1 : Rho) (ds : List D) (ρ2 : Rho) : w_lc_2 t ρ1 (some (ds, ρ2)) = some (Rs.fr (.lst ds), restore ρ2 ρ1 t.slots) := (rfl)
@[simp] theorem w_lc_2_none (t : Tg) (ρ1 : Rho) : w_lc_2 t ρ1 none = none := (rfl)
def w_lc_1 (C : Cfg) (elt : E) (t : Tg) (mc : Option E) (q : Option (List D × Rho)) : Option (Rs × Rho) := q.bind fun (xs, ρ1) => w_lc_2 t ρ1 (if xs.length ≤ most then lcLoop (lcB C elt t mc) xs (unset ρ1 t.slots) else none)
@[simp] theorem w_lc_1_some (C : Cfg) (elt : E) (t : Tg) (mc : Option E) (xs : List D) (ρ1 : Rho) : w_lc_1 C elt t mc (some (xs, ρ1)) = w_lc_2 t ρ1 (if xs.length ≤ most then lcLoop (lcB C elt t mc) xs (unset ρ1 t.slots) else none) := (rfl)
@[simp] theorem w_lc_1_none (C : Cfg) (elt : E) (t : Tg) (mc : Option E) : w_lc_1 C elt t mc none = none := (rfl)
@[simp] theorem w_lc (C : Cfg) (elt : E) (t : Tg) (it : E) (mc : Option E) (ρ : Rho) : ev C (.lc elt t it mc) ρ = w_lc_1 C elt t mc (evi C it ρ) := by
  show (evi C it ρ).bind _ = (evi C it ρ).bind _
  congr 1
  funext p
  show (if p.1.length ≤ most then _ else none) = (if p.1.length ≤ most then lcLoop (lcB C elt t mc) p.1 (unset p.2 t.slots) else none).bind _
  split
  · show (lcLoop (lcB C elt t mc) p.1 (unset p.2 t.slots)).map _ = _
    cases lcLoop (lcB C elt t mc) p.1 (unset p.2 t.slots) <;> rfl
  · rfl
def w_tnot_1 (q : Option (Bool × Rho)) : Option (Bool × Rho) := q.map fun (v, ρ1) => (!v, ρ1)
@[simp] theorem w_tnot_1_some (v : Bool) (ρ1 : Rho) : w_tnot_1 (some (v, ρ1)) = some (!v, ρ1) := (rfl)
@[simp] theorem w_tnot_1_none : w_tnot_1 none = none := (rfl)
@[simp] theorem w_tnot (C : Cfg) (a : E) (ρ : Rho) : tst C (.not a) ρ = w_tnot_1 (tst C a ρ) := (rfl)
def w_tand_1 (C : Cfg) (b : E) (q : Option (Bool × Rho)) : Option (Bool × Rho) := q.bind fun (v, ρ1) => if v then tst C b ρ1 else some (false, ρ1)
@[simp] theorem w_tand_1_some (C : Cfg) (b : E) (v : Bool) (ρ1 : Rho) : w_tand_1 C b (some (v, ρ1)) = if v then tst C b ρ1 else some (false, ρ1) := (rfl)
@[simp] theorem w_tand_1_none (C : Cfg) (b : E) : w_tand_1 C b none = none := (rfl)
@[simp] theorem w_tand (C : Cfg) (a : E) (b : E) (ρ : Rho) : tst C (.bop true a b) ρ = w_tand_1 C b (tst C a ρ) := (rfl)
def w_tor_1 (C : Cfg) (b : E) (q : Option (Bool × Rho)) : Option (Bool × Rho) := q.bind fun (v, ρ1) => if v then some (true, ρ1) else tst C b ρ1
@[simp] theorem w_tor_1_some (C : Cfg) (b : E) (v : Bool) (ρ1 : Rho) : w_tor_1 C b (some (v, ρ1)) = if v then some (true, ρ1) else tst C b ρ1 := (rfl)
@[simp] theorem w_tor_1_none (C : Cfg) (b : E) : w_tor_1 C b none = none := (rfl)
@[simp] theorem w_tor (C : Cfg) (a : E) (b : E) (ρ : Rho) : tst C (.bop false a b) ρ = w_tor_1 C b (tst C a ρ) := (rfl)
def w_tcmp_5 (ρ2 : Rho) (q : Option (Bool)) : Option (Bool × Rho) := q.map fun v => (v, ρ2)
@[simp] theorem w_tcmp_5_some (ρ2 : Rho) (v : Bool) : w_tcmp_5 ρ2 (some v) = some (v, ρ2) := (rfl)
@[simp] theorem w_tcmp_5_none (ρ2 : Rho) : w_tcmp_5 ρ2 none = none := (rfl)
def w_tcmp_4 (c1 : PySem.CmpOp) (ρ2 : Rho) (x : D) (q : Option (D)) : Option (Bool × Rho) := q.bind fun y => w_tcmp_5 ρ2 (cmpD c1 x y)
@[simp] theorem w_tcmp_4_some (c1 : PySem.CmpOp) (ρ2 : Rho) (x : D) (y : D) : w_tcmp_4 c1 ρ2 x (some y) = w_tcmp_5 ρ2 (cmpD c1 x y) := (rfl)
@[simp] theorem w_tcmp_4_none (c1 : PySem.CmpOp) (ρ2 : Rho) (x : D) : w_tcmp_4 c1 ρ2 x none = none := (rfl)
def w_tcmp_3 (c1 : PySem.CmpOp) (r2 : Rs) (ρ2 : Rho) (q : Option (D)) : Option (Bool × Rho) := q.bind fun x => w_tcmp_4 c1 ρ2 x (look ρ2 r2)
@[simp] theorem w_tcmp_3_some (c1 : PySem.CmpOp) (r2 : Rs) (ρ2 : Rho) (x : D) : w_tcmp_3 c1 r2 ρ2 (some x) = w_tcmp_4 c1 ρ2 x (look ρ2 r2) := (rfl)
@[simp] theorem w_tcmp_3_none (c1 : PySem.CmpOp) (r2 : Rs) (ρ2 : Rho) : w_tcmp_3 c1 r2 ρ2 none = none := (rfl)
def w_tcmp_2 (c1 : PySem.CmpOp) (r1 : Rs) (q : Option (Rs × Rho)) : Option (Bool × Rho) := q.bind fun (r2, ρ2) => w_tcmp_3 c1 r2 ρ2 (look ρ2 r1)
@[simp] theorem w_tcmp_2_some (c1 : PySem.CmpOp) (r1 : Rs) (r2 : Rs) (ρ2 : Rho) : w_tcmp_2 c1 r1 (some (r2, ρ2)) = w_tcmp_3 c1 r2 ρ2 (look ρ2 r1) := (rfl)
@[simp] theorem w_tcmp_2_none (c1 : PySem.CmpOp) (r1 : Rs) : w_tcmp_2 c1 r1 none = none := (rfl)
def w_tcmp_1 (C : Cfg) (c1 : PySem.CmpOp) (b : E) (q : Option (Rs × Rho)) : Option (Bool × Rho) := q.bind fun (r1, ρ1) => w_tcmp_2 c1 r1 (ev C b ρ1)
@[simp] theorem w_tcmp_1_some (C : Cfg) (c1 : PySem.CmpOp) (b : E) (r1 : Rs) (ρ1 : Rho) : w_tcmp_1 C c1 b (some (r1, ρ1)) = w_tcmp_2 c1 r1 (ev C b ρ1) := (rfl)
@[simp] theorem w_tcmp_1_none (C : Cfg) (c1 : PySem.CmpOp) (b : E) : w_tcmp_1 C c1 b none = none := (rfl)
@[simp] theorem w_tcmp (C : Cfg) (c1 : PySem.CmpOp) (a : E) (b : E) (ρ : Rho) : tst C (.cmp c1 a b) ρ = w_tcmp_1 C c1 b (ev C a ρ) := (rfl)
def w_tchn_4 (C : Cfg) (c1 : PySem.CmpOp) (c2 : PySem.CmpOp) (c : E) (r2 : Rs) (ρ2 : Rho) (x : D) (q : Option (D)) : Option (Bool × Rho) := q.bind fun y => chnB C c1 c2 c r2 x y ρ2
@[simp] theorem w_tchn_4_some (C : Cfg) (c1 : PySem.CmpOp) (c2 : PySem.CmpOp) (c : E) (r2 : Rs) (ρ2 : Rho) (x : D) (y : D) : w_tchn_4 C c1 c2 c r2 ρ2 x (some y) = chnB C c1 c2 c r2 x y ρ2 := (rfl)
@[simp] theorem w_tchn_4_none (C : Cfg) (c1 : PySem.CmpOp) (c2 : PySem.CmpOp) (c : E) (r2 : Rs) (ρ2 : Rho) (x : D) : w_tchn_4 C c1 c2 c r2 ρ2 x none = none := (rfl)
def w_tchn_3 (C : Cfg) (c1 : PySem.CmpOp) (c2 : PySem.CmpOp) (c : E) (r2 : Rs) (ρ2 : Rho) (q : Option (D)) : Option (Bool × Rho) := q.bind fun x => w_tchn_4 C c1 c2 c r2 ρ2 x (look ρ2 r2)
@[simp] theorem w_tchn_3_some (C : Cfg) (c1 : PySem.CmpOp) (c2 : PySem.CmpOp) (c : E) (r2 : Rs) (ρ2 : Rho) (x : D) : w_tchn_3 C c1 c2 c r2 ρ2 (some x) = w_tchn_4 C c1 c2 c r2 ρ2 x (look ρ2 r2) := (rfl)
@[simp] theorem w_tchn_3_none (C : Cfg) (c1 : PySem.CmpOp) (c2 : PySem.CmpOp) (c : E) (r2 : Rs) (ρ2 : Rho) : w_tchn_3 C c1 c2 c r2 ρ2 none = none := (rfl)
def w_tchn_2 (C : Cfg) (c1 : PySem.CmpOp) (c2 : PySem.CmpOp) (c : E) (r1 : Rs) (q : Option (Rs × Rho)) : Option (Bool × Rho) := q.bind fun (r2, ρ2) => w_tchn_3 C c1 c2 c r2 ρ2 (look ρ2 r1)
@[simp] theorem w_tchn_2_some (C : Cfg) (c1 : PySem.CmpOp) (c2 : PySem.CmpOp) (c : E) (r1 : Rs) (r2 : Rs) (ρ2 : Rho) : w_tchn_2 C c1 c2 c r1 (some (r2, ρ2)) = w_tchn_3 C c1 c2 c r2 ρ2 (look ρ2 r1) := (rfl)
@[simp] theorem w_tchn_2_none (C : Cfg) (c1 : PySem.CmpOp) (c2 : PySem.CmpOp) (c : E) (r1 : Rs) : w_tchn_2 C c1 c2 c r1 none = none := (rfl)
def w_tchn_1 (C : Cfg) (c1 : PySem.CmpOp) (c2 : PySem.CmpOp) (b : E) (c : E) (q : Option (Rs × Rho)) : Option (Bool × Rho) := q.bind fun (r1, ρ1) => w_tchn_2 C c1 c2 c r1 (ev C b ρ1)
@[simp] theorem w_tchn_1_some (C : Cfg) (c1 : PySem.CmpOp) (c2 : PySem.CmpOp) (b : E) (c : E) (r1 : Rs) (ρ1 : Rho) : w_tchn_1 C c1 c2 b c (some (r1, ρ1)) = w_tchn_2 C c1 c2 c r1 (ev C b ρ1) := (rfl)
@[simp] theorem w_tchn_1_none (C : Cfg) (c1 : PySem.CmpOp) (c2 : PySem.CmpOp) (b : E) (c : E) : w_tchn_1 C c1 c2 b c none = none := (rfl)
@[simp] theorem w_tchn (C : Cfg) (c1 : PySem.CmpOp) (c2 : PySem.CmpOp) (a : E) (b : E) (c : E) (ρ : Rho) : tst C (.chn c1 c2 a b c) ρ = w_tchn_1 C c1 c2 b c (ev C a ρ) := (rfl)
def w_tru_3 (ρ1 : Rho) (q : Option (Bool)) : Option (Bool × Rho) := q.map fun v => (v, ρ1)
@[simp] theorem w_tru_3_some (ρ1 : Rho) (v : Bool) : w_tru_3 ρ1 (some v) = some (v, ρ1) := (rfl)
@[simp] theorem w_tru_3_none (ρ1 : Rho) : w_tru_3 ρ1 none = none := (rfl)
def w_tru_2 (ρ1 : Rho) (q : Option (D)) : Option (Bool × Rho) := q.bind fun x => w_tru_3 ρ1 (truth x)
@[simp] theorem w_tru_2_some (ρ1 : Rho) (x : D) : w_tru_2 ρ1 (some x) = w_tru_3 ρ1 (truth x) := (rfl)
@[simp] theorem w_tru_2_none (ρ1 : Rho) : w_tru_2 ρ1 none = none := (rfl)
def w_tru_1 (q : Option (Rs × Rho)) : Option (Bool × Rho) := q.bind fun (r1, ρ1) => w_tru_2 ρ1 (look ρ1 r1)
@[simp] theorem w_tru_1_some (r1 : Rs) (ρ1 : Rho) : w_tru_1 (some (r1, ρ1)) = w_tru_2 ρ1 (look ρ1 r1) := (rfl)
@[simp] theorem w_tru_1_none : w_tru_1 none = none := (rfl)
@[simp] theorem w_tru (C : Cfg) (a : E) (ρ : Rho) : tst C (.tru a) ρ = w_tru_1 (ev C a ρ) := (rfl)
def w_evo1_3 (ρ1 : Rho) (q : Option (Int)) : Option (Option Int × Rho) := q.map fun k => (some k, ρ1)
@[simp] theorem w_evo1_3_some (ρ1 : Rho) (k : Int) : w_evo1_3 ρ1 (some k) = some (some k, ρ1) := (rfl)
@[simp] theorem w_evo1_3_none (ρ1 : Rho) : w_evo1_3 ρ1 none = none := (rfl)
def w_evo1_2 (ρ1 : Rho) (q : Option (D)) : Option (Option Int × Rho) := q.bind fun x => w_evo1_3 ρ1 (intOf x)
@[simp] theorem w_evo1_2_some (ρ1 : Rho) (x : D) : w_evo1_2 ρ1 (some x) = w_evo1_3 ρ1 (intOf x) := (rfl)
@[simp] theorem w_evo1_2_none (ρ1 : Rho) : w_evo1_2 ρ1 none = none := (rfl)
def w_evo1_1 (q : Option (Rs × Rho)) : Option (Option Int × Rho) := q.bind fun (r1, ρ1) => w_evo1_2 ρ1 (look ρ1 r1)
@[simp] theorem w_evo1_1_some (r1 : Rs) (ρ1 : Rho) : w_evo1_1 (some (r1, ρ1)) = w_evo1_2 ρ1 (look ρ1 r1) := (rfl)
@[simp] theorem w_evo1_1_none : w_evo1_1 none = none := (rfl)
@[simp] theorem w_evo1 (C : Cfg) (a : E) (ρ : Rho) : evo C (some a) ρ = w_evo1_1 (ev C a ρ) := (rfl)
def w_evs1_2 (r1 : Rs) (q : Option (List Rs × Rho)) : Option (List Rs × Rho) := q.map fun (rs, ρ2) => (r1 :: rs, ρ2)
@[simp] theorem w_evs1_2_some (r1 : Rs) (rs : List Rs) (ρ2 : Rho) : w_evs1_2 r1 (some (rs, ρ2)) = some (r1 :: rs, ρ2) := (rfl)
@[simp] theorem w_evs1_2_none (r1 : Rs) : w_evs1_2 r1 none = none := (rfl)
def w_evs1_1 (C : Cfg) (es : List E) (q : Option (Rs × Rho)) : Option (List Rs × Rho) := q.bind fun (r1, ρ1) => w_evs1_2 r1 (evs C es ρ1)
@[simp] theorem w_evs1_1_some (C : Cfg) (es : List E) (r1 : Rs) (ρ1 : Rho) : w_evs1_1 C es (some (r1, ρ1)) = w_evs1_2 r1 (evs C es ρ1) := (rfl)
@[simp] theorem w_evs1_1_none (C : Cfg) (es : List E) : w_evs1_1 C es none = none := (rfl)
@[simp] theorem w_evs1 (C : Cfg) (a : E) (es : List E) (ρ : Rho) : evs C (a :: es) ρ = w_evs1_1 C es (ev C a ρ) := (rfl)
def w_evf1_3 (d : D) (q : Option (List D × Rho)) : Option (List D × Rho) := q.map fun (ds, ρ3) => (d :: ds, ρ3)
@[simp] theorem w_evf1_3_some (d : D) (ds : List D) (ρ3 : Rho) : w_evf1_3 d (some (ds, ρ3)) = some (d :: ds, ρ3) := (rfl)
@[simp] theorem w_evf1_3_none (d : D) : w_evf1_3 d none = none := (rfl)
def w_evf1_2 (C : Cfg) (es : List E) (q : Option (D × Rho)) : Option (List D × Rho) := q.bind fun (d, ρ2) => w_evf1_3 d (evf C es ρ2)
@[simp] theorem w_evf1_2_some (C : Cfg) (es : List E) (d : D) (ρ2 : Rho) : w_evf1_2 C es (some (d, ρ2)) = w_evf1_3 d (evf C es ρ2) := (rfl)
@[simp] theorem w_evf1_2_none (C : Cfg) (es : List E) : w_evf1_2 C es none = none := (rfl)
def w_evf1_1 (C : Cfg) (es : List E) (q : Option (Rs × Rho)) : Option (List D × Rho) := q.bind fun (r1, ρ1) => w_evf1_2 C es (fix ρ1 r1)
@[simp] theorem w_evf1_1_some (C : Cfg) (es : List E) (r1 : Rs) (ρ1 : Rho) : w_evf1_1 C es (some (r1, ρ1)) = w_evf1_2 C es (fix ρ1 r1) := (rfl)
@[simp] theorem w_evf1_1_none (C : Cfg) (es : List E) : w_evf1_1 C es none = none := (rfl)
@[simp] theorem w_evf1 (C : Cfg) (a : E) (es : List E) (ρ : Rho) : evf C (a :: es) ρ = w_evf1_1 C es (ev C a ρ) := (rfl)
def w_rng_3 (ρ1 : Rho) (q : Option (List D)) : Option (List D × Rho) := q.map fun xs => (xs, ρ1)
@[simp] theorem w_rng_3_some (ρ1 : Rho) (xs : List D) : w_rng_3 ρ1 (some xs) = some (xs, ρ1) := (rfl)
@[simp] theorem w_rng_3_none (ρ1 : Rho) : w_rng_3 ρ1 none = none := (rfl)
def w_rng_2 (ρ1 : Rho) (q : Option (List D)) : Option (List D × Rho) := q.bind fun ds => w_rng_3 ρ1 (rngD ds)
@[simp] theorem w_rng_2_some (ρ1 : Rho) (ds : List D) : w_rng_2 ρ1 (some ds) = w_rng_3 ρ1 (rngD ds) := (rfl)
@[simp] theorem w_rng_2_none (ρ1 : Rho) : w_rng_2 ρ1 none = none := (rfl)
def w_rng_1 (q : Option (List Rs × Rho)) : Option (List D × Rho) := q.bind fun (rs, ρ1) => w_rng_2 ρ1 (looks ρ1 rs)
@[simp] theorem w_rng_1_some (rs : List Rs) (ρ1 : Rho) : w_rng_1 (some (rs, ρ1)) = w_rng_2 ρ1 (looks ρ1 rs) := (rfl)
@[simp] theorem w_rng_1_none : w_rng_1 none = none := (rfl)
@[simp] theorem w_rng (C : Cfg) (es : List E) (ρ : Rho) : evi C (.rng es) ρ = w_rng_1 (evs C es ρ) := (rfl)
def w_enm_3 (ρ2 : Rho) (q : Option (List D)) : Option (List D × Rho) := q.map fun xs => (enumD 0 xs, ρ2)
@[simp] theorem w_enm_3_some (ρ2 : Rho) (xs : List D) : w_enm_3 ρ2 (some xs) = some (enumD 0 xs, ρ2) := (rfl)
@[simp] theorem w_enm_3_none (ρ2 : Rho) : w_enm_3 ρ2 none = none := (rfl)
def w_enm_2 (q : Option (D × Rho)) : Option (List D × Rho) := q.bind fun (d, ρ2) => w_enm_3 ρ2 (items d)
@[simp] theorem w_enm_2_some (d : D) (ρ2 : Rho) : w_enm_2 (some (d, ρ2)) = w_enm_3 ρ2 (items d) := (rfl)
@[simp] theorem w_enm_2_none : w_enm_2 none = none := (rfl)
def w_enm_1 (q : Option (Rs × Rho)) : Option (List D × Rho) := q.bind fun (r1, ρ1) => w_enm_2 (fix ρ1 r1)
@[simp] theorem w_enm_1_some (r1 : Rs) (ρ1 : Rho) : w_enm_1 (some (r1, ρ1)) = w_enm_2 (fix ρ1 r1) := (rfl)
@[simp] theorem w_enm_1_none : w_enm_1 none = none := (rfl)
@[simp] theorem w_enm (C : Cfg) (a : E) (ρ : Rho) : evi C (.enm a) ρ = w_enm_1 (ev C a ρ) := (rfl)
def w_ovr_3 (ρ2 : Rho) (q : Option (List D)) : Option (List D × Rho) := q.map fun xs => (xs, ρ2)
@[simp] theorem w_ovr_3_some (ρ2 : Rho) (xs : List D) : w_ovr_3 ρ2 (some xs) = some (xs, ρ2) := (rfl)
@[simp] theorem w_ovr_3_none (ρ2 : Rho) : w_ovr_3 ρ2 none = none := (rfl)
def w_ovr_2 (q : Option (D × Rho)) : Option (List D × Rho) := q.bind fun (d, ρ2) => w_ovr_3 ρ2 (itemsW d)
@[simp] theorem w_ovr_2_some (d : D) (ρ2 : Rho) : w_ovr_2 (some (d, ρ2)) = w_ovr_3 ρ2 (itemsW d) := (rfl)
@[simp] theorem w_ovr_2_none : w_ovr_2 none = none := (rfl)
def w_ovr_1 (q : Option (Rs × Rho)) : Option (List D × Rho) := q.bind fun (r1, ρ1) => w_ovr_2 (fixW ρ1 r1)
@[simp] theorem w_ovr_1_some (r1 : Rs) (ρ1 : Rho) : w_ovr_1 (some (r1, ρ1)) = w_ovr_2 (fixW ρ1 r1) := (rfl)
@[simp] theorem w_ovr_1_none : w_ovr_1 none = none := (rfl)
@[simp] theorem w_ovr (C : Cfg) (a : E) (ρ : Rho) : evi C (.ovr a) ρ = w_ovr_1 (ev C a ρ) := (rfl)
def w_zip_5 (ρ4 : Rho) (q : Option (List D)) : Option (List D × Rho) := q.map fun xs => (xs, ρ4)
@[simp] theorem w_zip_5_some (ρ4 : Rho) (xs : List D) : w_zip_5 ρ4 (some xs) = some (xs, ρ4) := (rfl)
@[simp] theorem w_zip_5_none (ρ4 : Rho) : w_zip_5 ρ4 none = none := (rfl)
def w_zip_4 (d : D) (q : Option (D × Rho)) : Option (List D × Rho) := q.bind fun (x, ρ4) => w_zip_5 ρ4 (zipItems d x)
@[simp] theorem w_zip_4_some (d : D) (x : D) (ρ4 : Rho) : w_zip_4 d (some (x, ρ4)) = w_zip_5 ρ4 (zipItems d x) := (rfl)
@[simp] theorem w_zip_4_none (d : D) : w_zip_4 d none = none := (rfl)
def w_zip_3 (d : D) (q : Option (Rs × Rho)) : Option (List D × Rho) := q.bind fun (r2, ρ3) => w_zip_4 d (fix ρ3 r2)
@[simp] theorem w_zip_3_some (d : D) (r2 : Rs) (ρ3 : Rho) : w_zip_3 d (some (r2, ρ3)) = w_zip_4 d (fix ρ3 r2) := (rfl)
@[simp] theorem w_zip_3_none (d : D) : w_zip_3 d none = none := (rfl)
def w_zip_2 (C : Cfg) (b : E) (q : Option (D × Rho)) : Option (List D × Rho) := q.bind fun (d, ρ2) => w_zip_3 d (ev C b ρ2)
@[simp] theorem w_zip_2_some (C : Cfg) (b : E) (d : D) (ρ2 : Rho) : w_zip_2 C b (some (d, ρ2)) = w_zip_3 d (ev C b ρ2) := (rfl)
@[simp] theorem w_zip_2_none (C : Cfg) (b : E) : w_zip_2 C b none = none := (rfl)
def w_zip_1 (C : Cfg) (b : E) (q : Option (Rs × Rho)) : Option (List D × Rho) := q.bind fun (r1, ρ1) => w_zip_2 C b (fix ρ1 r1)
@[simp] theorem w_zip_1_some (C : Cfg) (b : E) (r1 : Rs) (ρ1 : Rho) : w_zip_1 C b (some (r1, ρ1)) = w_zip_2 C b (fix ρ1 r1) := (rfl)
@[simp] theorem w_zip_1_none (C : Cfg) (b : E) : w_zip_1 C b none = none := (rfl)
@[simp] theorem w_zip (C : Cfg) (a : E) (b : E) (ρ : Rho) : evi C (.zip a b) ρ = w_zip_1 C b (ev C a ρ) := (rfl)
def w_ex_1 (q : Option (Rs × Rho)) : Option (O × Rho) := q.map fun (r1, ρ1) => (O.nx, ρ1)
@[simp] theorem w_ex_1_some (r1 : Rs) (ρ1 : Rho) : w_ex_1 (some (r1, ρ1)) = some (O.nx, ρ1) := (rfl)
@[simp] theorem w_ex_1_none : w_ex_1 none = none := (rfl)
@[simp] theorem w_ex (C : Cfg) (np : Nat) (a : E) (ρ : Rho) : exec C np (.ex a) ρ = w_ex_1 (ev C a ρ) := (rfl)
def w_asg_2 (q : Option (Rho)) : Option (O × Rho) := q.map fun ρ2 => (O.nx, ρ2)
@[simp] theorem w_asg_2_some (ρ2 : Rho) : w_asg_2 (some ρ2) = some (O.nx, ρ2) := (rfl)
@[simp] theorem w_asg_2_none : w_asg_2 none = none := (rfl)
def w_asg_1 (np : Nat) (i : Nat) (q : Option (Rs × Rho)) : Option (O × Rho) := q.bind fun (r1, ρ1) => w_asg_2 (store np ρ1 i r1)
@[simp] theorem w_asg_1_some (np : Nat) (i : Nat) (r1 : Rs) (ρ1 : Rho) : w_asg_1 np i (some (r1, ρ1)) = w_asg_2 (store np ρ1 i r1) := (rfl)
@[simp] theorem w_asg_1_none (np : Nat) (i : Nat) : w_asg_1 np i none = none := (rfl)
@[simp] theorem w_asg (C : Cfg) (np : Nat) (i : Nat) (a : E) (ρ : Rho) : exec C np (.asg i a) ρ = w_asg_1 np i (ev C a ρ) := (rfl)
def w_put_6 (q : Option (Rho)) : Option (O × Rho) := q.map fun ρ5 => (O.nx, ρ5)
@[simp] theorem w_put_6_some (ρ5 : Rho) : w_put_6 (some ρ5) = some (O.nx, ρ5) := (rfl)
@[simp] theorem w_put_6_none : w_put_6 none = none := (rfl)
def w_put_5 (i : Nat) (d : D) (q : Option (D × Rho)) : Option (O × Rho) := q.bind fun (x, ρ4) => w_put_6 (putAt ρ4 i x d)
@[simp] theorem w_put_5_some (i : Nat) (d : D) (x : D) (ρ4 : Rho) : w_put_5 i d (some (x, ρ4)) = w_put_6 (putAt ρ4 i x d) := (rfl)
@[simp] theorem w_put_5_none (i : Nat) (d : D) : w_put_5 i d none = none := (rfl)
def w_put_4 (i : Nat) (d : D) (q : Option (Rs × Rho)) : Option (O × Rho) := q.bind fun (r2, ρ3) => w_put_5 i d (fix ρ3 r2)
@[simp] theorem w_put_4_some (i : Nat) (d : D) (r2 : Rs) (ρ3 : Rho) : w_put_4 i d (some (r2, ρ3)) = w_put_5 i d (fix ρ3 r2) := (rfl)
@[simp] theorem w_put_4_none (i : Nat) (d : D) : w_put_4 i d none = none := (rfl)
def w_put_3 (C : Cfg) (i : Nat) (b : E) (d : D) (ρ2 : Rho) (q : Option (Unit)) : Option (O × Rho) := q.bind fun _ => w_put_4 i d (ev C b ρ2)
@[simp] theorem w_put_3_some (C : Cfg) (i : Nat) (b : E) (d : D) (ρ2 : Rho) (any : Unit) : w_put_3 C i b d ρ2 (some any) = w_put_4 i d (ev C b ρ2) := (rfl)
@[simp] theorem w_put_3_none (C : Cfg) (i : Nat) (b : E) (d : D) (ρ2 : Rho) : w_put_3 C i b d ρ2 none = none := (rfl)
def w_put_2 (C : Cfg) (i : Nat) (b : E) (q : Option (D × Rho)) : Option (O × Rho) := q.bind fun (d, ρ2) => w_put_3 C i b d ρ2 (ownO ρ2 i)
@[simp] theorem w_put_2_some (C : Cfg) (i : Nat) (b : E) (d : D) (ρ2 : Rho) : w_put_2 C i b (some (d, ρ2)) = w_put_3 C i b d ρ2 (ownO ρ2 i) := (rfl)
@[simp] theorem w_put_2_none (C : Cfg) (i : Nat) (b : E) : w_put_2 C i b none = none := (rfl)
def w_put_1 (C : Cfg) (i : Nat) (b : E) (q : Option (Rs × Rho)) : Option (O × Rho) := q.bind fun (r1, ρ1) => w_put_2 C i b (fix ρ1 r1)
@[simp] theorem w_put_1_some (C : Cfg) (i : Nat) (b : E) (r1 : Rs) (ρ1 : Rho) : w_put_1 C i b (some (r1, ρ1)) = w_put_2 C i b (fix ρ1 r1) := (rfl)
@[simp] theorem w_put_1_none (C : Cfg) (i : Nat) (b : E) : w_put_1 C i b none = none := (rfl)
@[simp] theorem w_put (C : Cfg) (np : Nat) (i : Nat) (b : E) (a : E) (ρ : Rho) : exec C np (.put i b a) ρ = w_put_1 C i b (ev C a ρ) := (rfl)
def w_unp_4 (q : Option (Rho)) : Option (O × Rho) := q.bind fun ρ3 => some (O.nx, ρ3)
@[simp] theorem w_unp_4_some (ρ3 : Rho) : w_unp_4 (some ρ3) = some (O.nx, ρ3) := (rfl)
@[simp] theorem w_unp_4_none : w_unp_4 none = none := (rfl)
def w_unp_3 (C : Cfg) (np : Nat) (ts : List T1) (ρ2 : Rho) (q : Option (List D)) : Option (O × Rho) := q.bind fun ds => w_unp_4 (unpAll C np ts ds ρ2)
@[simp] theorem w_unp_3_some (C : Cfg) (np : Nat) (ts : List T1) (ρ2 : Rho) (ds : List D) : w_unp_3 C np ts ρ2 (some ds) = w_unp_4 (unpAll C np ts ds ρ2) := (rfl)
@[simp] theorem w_unp_3_none (C : Cfg) (np : Nat) (ts : List T1) (ρ2 : Rho) : w_unp_3 C np ts ρ2 none = none := (rfl)
def w_unp_2 (C : Cfg) (np : Nat) (ts : List T1) (q : Option (D × Rho)) : Option (O × Rho) := q.bind fun (d, ρ2) => w_unp_3 C np ts ρ2 (tupOf d)
@[simp] theorem w_unp_2_some (C : Cfg) (np : Nat) (ts : List T1) (d : D) (ρ2 : Rho) : w_unp_2 C np ts (some (d, ρ2)) = w_unp_3 C np ts ρ2 (tupOf d) := (rfl)
@[simp] theorem w_unp_2_none (C : Cfg) (np : Nat) (ts : List T1) : w_unp_2 C np ts none = none := (rfl)
def w_unp_1 (C : Cfg) (np : Nat) (ts : List T1) (q : Option (Rs × Rho)) : Option (O × Rho) := q.bind fun (r1, ρ1) => w_unp_2 C np ts (fix ρ1 r1)
@[simp] theorem w_unp_1_some (C : Cfg) (np : Nat) (ts : List T1) (r1 : Rs) (ρ1 : Rho) : w_unp_1 C np ts (some (r1, ρ1)) = w_unp_2 C np ts (fix ρ1 r1) := (rfl)
@[simp] theorem w_unp_1_none (C : Cfg) (np : Nat) (ts : List T1) : w_unp_1 C np ts none = none := (rfl)
@[simp] theorem w_unp (C : Cfg) (np : Nat) (ts : List T1) (a : E) (ρ : Rho) : exec C np (.unp ts a) ρ = w_unp_1 C np ts (ev C a ρ) := by
  show (ev C a ρ).bind _ = (ev C a ρ).bind _
  congr 1
  funext p
  show (fix p.2 p.1).bind _ = (fix p.2 p.1).bind _
  congr 1
  funext q
  show _ = (tupOf q.1).bind _
  obtain ⟨d, ρ2⟩ := q
  cases d <;> first | rfl | (rename_i ds; show (unpAll C np ts ds ρ2).map _ = (unpAll C np ts ds ρ2).bind _; cases unpAll C np ts ds ρ2 <;> rfl)
def w_par_3 (q : Option (Rho)) : Option (O × Rho) := q.map fun ρ3 => (O.nx, ρ3)
@[simp] theorem w_par_3_some (ρ3 : Rho) : w_par_3 (some ρ3) = some (O.nx, ρ3) := (rfl)
@[simp] theorem w_par_3_none : w_par_3 none = none := (rfl)
def w_par_2 (np : Nat) (is : List Nat) (q : Option (List Rs × Rho)) : Option (O × Rho) := q.bind fun (qs, ρ2) => w_par_3 (storeAll np ρ2 is qs)
@[simp] theorem w_par_2_some (np : Nat) (is : List Nat) (qs : List Rs) (ρ2 : Rho) : w_par_2 np is (some (qs, ρ2)) = w_par_3 (storeAll np ρ2 is qs) := (rfl)
@[simp] theorem w_par_2_none (np : Nat) (is : List Nat) : w_par_2 np is none = none := (rfl)
def w_par_1 (np : Nat) (is : List Nat) (q : Option (List Rs × Rho)) : Option (O × Rho) := q.bind fun (rs, ρ1) => w_par_2 np is (fixAll ρ1 rs)
@[simp] theorem w_par_1_some (np : Nat) (is : List Nat) (rs : List Rs) (ρ1 : Rho) : w_par_1 np is (some (rs, ρ1)) = w_par_2 np is (fixAll ρ1 rs) := (rfl)
@[simp] theorem w_par_1_none (np : Nat) (is : List Nat) : w_par_1 np is none = none := (rfl)
@[simp] theorem w_par (C : Cfg) (np : Nat) (is : List Nat) (es : List E) (ρ : Rho) : exec C np (.par is es) ρ = w_par_1 np is (evs C es ρ) := (rfl)
def w_ite_1 (C : Cfg) (np : Nat) (sa : List S) (sb : List S) (q : Option (Bool × Rho)) : Option (O × Rho) := q.bind fun (v, ρ1) => if v then execs C np sa ρ1 else execs C np sb ρ1
@[simp] theorem w_ite_1_some (C : Cfg) (np : Nat) (sa : List S) (sb : List S) (v : Bool) (ρ1 : Rho) : w_ite_1 C np sa sb (some (v, ρ1)) = if v then execs C np sa ρ1 else execs C np sb ρ1 := (rfl)
@[simp] theorem w_ite_1_none (C : Cfg) (np : Nat) (sa : List S) (sb : List S) : w_ite_1 C np sa sb none = none := (rfl)
@[simp] theorem w_ite (C : Cfg) (np : Nat) (c : E) (sa : List S) (sb : List S) (ρ : Rho) : exec C np (.ite c sa sb) ρ = w_ite_1 C np sa sb (tst C c ρ) := (rfl)
def w_ret_1 (q : Option (Rs × Rho)) : Option (O × Rho) := q.map fun (r1, ρ1) => (O.ret r1, ρ1)
@[simp] theorem w_ret_1_some (r1 : Rs) (ρ1 : Rho) : w_ret_1 (some (r1, ρ1)) = some (O.ret r1, ρ1) := (rfl)
@[simp] theorem w_ret_1_none : w_ret_1 none = none := (rfl)
@[simp] theorem w_ret (C : Cfg) (np : Nat) (a : E) (ρ : Rho) : exec C np (.ret a) ρ = w_ret_1 (ev C a ρ) := (rfl)
def w_lop_1 (C : Cfg) (np : Nat) (t : Tg) (ss : List S) (q : Option (List D × Rho)) : Option (O × Rho) := q.bind fun (xs, ρ1) => forLoop (lopB C np t ss) xs ρ1
@[simp] theorem w_lop_1_some (C : Cfg) (np : Nat) (t : Tg) (ss : List S) (xs : List D) (ρ1 : Rho) : w_lop_1 C np t ss (some (xs, ρ1)) = forLoop (lopB C np t ss) xs ρ1 := (rfl)
@[simp] theorem w_lop_1_none (C : Cfg) (np : Nat) (t : Tg) (ss : List S) : w_lop_1 C np t ss none = none := (rfl)
@[simp] theorem w_lop (C : Cfg) (np : Nat) (t : Tg) (it : E) (ss : List S) (ρ : Rho) : exec C np (.lop t it ss) ρ = w_lop_1 C np t ss (evi C it ρ) := (rfl)
def w_lcB_3 (t : Tg) (q : Option (List D × Rho)) : Option (List D × Rho) := q.bind fun (ds, ρ3) => some (ds, unset ρ3 t.slots)
@[simp] theorem w_lcB_3_some (t : Tg) (ds : List D) (ρ3 : Rho) : w_lcB_3 t (some (ds, ρ3)) = some (ds, unset ρ3 t.slots) := (rfl)
@[simp] theorem w_lcB_3_none (t : Tg) : w_lcB_3 t none = none := (rfl)
def w_lcB_2 (C : Cfg) (elt : E) (t : Tg) (q : Option (Bool × Rho)) : Option (List D × Rho) := q.bind fun (v, ρ2) => w_lcB_3 t (if v then lcE C elt ρ2 else some ([], ρ2))
@[simp] theorem w_lcB_2_some (C : Cfg) (elt : E) (t : Tg) (v : Bool) (ρ2 : Rho) : w_lcB_2 C elt t (some (v, ρ2)) = w_lcB_3 t (if v then lcE C elt ρ2 else some ([], ρ2)) := (rfl)
@[simp] theorem w_lcB_2_none (C : Cfg) (elt : E) (t : Tg) : w_lcB_2 C elt t none = none := (rfl)
def w_lcB_1 (C : Cfg) (elt : E) (t : Tg) (mc : Option E) (q : Option (Rho)) : Option (List D × Rho) := q.bind fun ρ1 => w_lcB_2 C elt t (tso C mc ρ1)
@[simp] theorem w_lcB_1_some (C : Cfg) (elt : E) (t : Tg) (mc : Option E) (ρ1 : Rho) : w_lcB_1 C elt t mc (some ρ1) = w_lcB_2 C elt t (tso C mc ρ1) := (rfl)
@[simp] theorem w_lcB_1_none (C : Cfg) (elt : E) (t : Tg) (mc : Option E) : w_lcB_1 C elt t mc none = none := (rfl)
@[simp] theorem w_lcB (C : Cfg) (elt : E) (t : Tg) (mc : Option E) (x : D) (ρ : Rho) : lcB C elt t mc x ρ = w_lcB_1 C elt t mc (bindT 0 ρ t x) := by
  show (bindT 0 ρ t x).bind _ = (bindT 0 ρ t x).bind _
  congr 1
  funext ρ1
  show (tso C mc ρ1).bind _ = (tso C mc ρ1).bind _
  congr 1
  funext p
  obtain ⟨v, ρ2⟩ := p
  cases v with
  | false => rfl
  | true =>
    show (ev C elt ρ2).bind _ = ((ev C elt ρ2).bind _).bind _
    cases ev C elt ρ2 with
    | none => rfl
    | some q =>
      show (fix q.2 q.1).map _ = ((fix q.2 q.1).bind _).bind _
      cases fix q.2 q.1 <;> rfl
def w_lcE_2 (q : Option (D × Rho)) : Option (List D × Rho) := q.bind fun (d, ρ2) => some ([d], ρ2)
@[simp] theorem w_lcE_2_some (d : D) (ρ2 : Rho) : w_lcE_2 (some (d, ρ2)) = some ([d], ρ2) := (rfl)
@[simp] theorem w_lcE_2_none : w_lcE_2 none = none := (rfl)
def w_lcE_1 (q : Option (Rs × Rho)) : Option (List D × Rho) := q.bind fun (r1, ρ1) => w_lcE_2 (fix ρ1 r1)
@[simp] theorem w_lcE_1_some (r1 : Rs) (ρ1 : Rho) : w_lcE_1 (some (r1, ρ1)) = w_lcE_2 (fix ρ1 r1) := (rfl)
@[simp] theorem w_lcE_1_none : w_lcE_1 none = none := (rfl)
@[simp] theorem w_lcE (C : Cfg) (elt : E) (ρ : Rho) : lcE C elt ρ = w_lcE_1 (ev C elt ρ) := (rfl)
def w_lopB_1 (C : Cfg) (np : Nat) (ss : List S) (q : Option (Rho)) : Option (O × Rho) := q.bind fun ρ1 => execs C np ss ρ1
@[simp] theorem w_lopB_1_some (C : Cfg) (np : Nat) (ss : List S) (ρ1 : Rho) : w_lopB_1 C np ss (some ρ1) = execs C np ss ρ1 := (rfl)
@[simp] theorem w_lopB_1_none (C : Cfg) (np : Nat) (ss : List S) : w_lopB_1 C np ss none = none := (rfl)
@[simp] theorem w_lopB (C : Cfg) (np : Nat) (t : Tg) (ss : List S) (x : D) (ρ : Rho) : lopB C np t ss x ρ = w_lopB_1 C np ss (bindT np ρ t x) := (rfl)
def w_looks1_2 (d : D) (q : Option (List D)) : Option (List D) := q.map fun ds => (d :: ds)
@[simp] theorem w_looks1_2_some (d : D) (ds : List D) : w_looks1_2 d (some ds) = some (d :: ds) := (rfl)
@[simp] theorem w_looks1_2_none (d : D) : w_looks1_2 d none = none := (rfl)
def w_looks1_1 (ρ : Rho) (rs : List Rs) (q : Option (D)) : Option (List D) := q.bind fun d => w_looks1_2 d (looks ρ rs)
@[simp] theorem w_looks1_1_some (ρ : Rho) (rs : List Rs) (d : D) : w_looks1_1 ρ rs (some d) = w_looks1_2 d (looks ρ rs) := (rfl)
@[simp] theorem w_looks1_1_none (ρ : Rho) (rs : List Rs) : w_looks1_1 ρ rs none = none := (rfl)
@[simp] theorem w_looks1 (ρ : Rho) (r : Rs) (rs : List Rs) : looks ρ (r :: rs) = w_looks1_1 ρ rs (look ρ r) := (rfl)
def w_args1_2 (sl : Sl) (q : Option (List Sl)) : Option (List Sl) := q.map fun as => (sl :: as)
@[simp] theorem w_args1_2_some (sl : Sl) (as : List Sl) : w_args1_2 sl (some as) = some (sl :: as) := (rfl)
@[simp] theorem w_args1_2_none (sl : Sl) : w_args1_2 sl none = none := (rfl)
def w_args1_1 (ρ : Rho) (rs : List Rs) (q : Option (Sl)) : Option (List Sl) := q.bind fun sl => w_args1_2 sl (argsOf ρ rs)
@[simp] theorem w_args1_1_some (ρ : Rho) (rs : List Rs) (sl : Sl) : w_args1_1 ρ rs (some sl) = w_args1_2 sl (argsOf ρ rs) := (rfl)
@[simp] theorem w_args1_1_none (ρ : Rho) (rs : List Rs) : w_args1_1 ρ rs none = none := (rfl)
@[simp] theorem w_args1 (ρ : Rho) (r : Rs) (rs : List Rs) : argsOf ρ (r :: rs) = w_args1_1 ρ rs (argOf ρ r) := (rfl)
def w_fav_1 (d : D) (q : Option (List Rs × Rho)) : Option (List Rs × Rho) := q.map fun (qs, ρ1) => (Rs.val d :: qs, ρ1)
@[simp] theorem w_fav_1_some (d : D) (qs : List Rs) (ρ1 : Rho) : w_fav_1 d (some (qs, ρ1)) = some (Rs.val d :: qs, ρ1) := (rfl)
@[simp] theorem w_fav_1_none (d : D) : w_fav_1 d none = none := (rfl)
@[simp] theorem w_fav (ρ : Rho) (d : D) (rs : List Rs) : fixAll ρ (.val d :: rs) = w_fav_1 d (fixAll ρ rs) := (rfl)
def w_faf_1 (d : D) (q : Option (List Rs × Rho)) : Option (List Rs × Rho) := q.map fun (qs, ρ1) => (Rs.fr d :: qs, ρ1)
@[simp] theorem w_faf_1_some (d : D) (qs : List Rs) (ρ1 : Rho) : w_faf_1 d (some (qs, ρ1)) = some (Rs.fr d :: qs, ρ1) := (rfl)
@[simp] theorem w_faf_1_none (d : D) : w_faf_1 d none = none := (rfl)
@[simp] theorem w_faf (ρ : Rho) (d : D) (rs : List Rs) : fixAll ρ (.fr d :: rs) = w_faf_1 d (fixAll ρ rs) := (rfl)
def w_faa_2 (d : D) (q : Option (List Rs × Rho)) : Option (List Rs × Rho) := q.map fun (qs, ρ2) => (Rs.val d :: qs, ρ2)
@[simp] theorem w_faa_2_some (d : D) (qs : List Rs) (ρ2 : Rho) : w_faa_2 d (some (qs, ρ2)) = some (Rs.val d :: qs, ρ2) := (rfl)
@[simp] theorem w_faa_2_none (d : D) : w_faa_2 d none = none := (rfl)
def w_faa_1 (rs : List Rs) (q : Option (D × Rho)) : Option (List Rs × Rho) := q.bind fun (d, ρ1) => w_faa_2 d (fixAll ρ1 rs)
@[simp] theorem w_faa_1_some (rs : List Rs) (d : D) (ρ1 : Rho) : w_faa_1 rs (some (d, ρ1)) = w_faa_2 d (fixAll ρ1 rs) := (rfl)
@[simp] theorem w_faa_1_none (rs : List Rs) : w_faa_1 rs none = none := (rfl)
@[simp] theorem w_faa (ρ : Rho) (i : Nat) (rs : List Rs) : fixAll ρ (.al i :: rs) = w_faa_1 rs (fix ρ (.al i)) := (rfl)
def w_sa1_1 (np : Nat) (is : List Nat) (rs : List Rs) (q : Option (Rho)) : Option (Rho) := q.bind fun ρ1 => storeAll np ρ1 is rs
@[simp] theorem w_sa1_1_some (np : Nat) (is : List Nat) (rs : List Rs) (ρ1 : Rho) : w_sa1_1 np is rs (some ρ1) = storeAll np ρ1 is rs := (rfl)
@[simp] theorem w_sa1_1_none (np : Nat) (is : List Nat) (rs : List Rs) : w_sa1_1 np is rs none = none := (rfl)
@[simp] theorem w_sa1 (np : Nat) (ρ : Rho) (i : Nat) (is : List Nat) (r : Rs) (rs : List Rs) : storeAll np ρ (i :: is) (r :: rs) = w_sa1_1 np is rs (store np ρ i r) := (rfl)
def w_uan_1 (C : Cfg) (np : Nat) (ts : List T1) (ds : List D) (q : Option (Rho)) : Option (Rho) := q.bind fun ρ1 => unpAll C np ts ds ρ1
@[simp] theorem w_uan_1_some (C : Cfg) (np : Nat) (ts : List T1) (ds : List D) (ρ1 : Rho) : w_uan_1 C np ts ds (some ρ1) = unpAll C np ts ds ρ1 := (rfl)
@[simp] theorem w_uan_1_none (C : Cfg) (np : Nat) (ts : List T1) (ds : List D) : w_uan_1 C np ts ds none = none := (rfl)
@[simp] theorem w_uan (C : Cfg) (np : Nat) (i : Nat) (ts : List T1) (d : D) (ds : List D) (ρ : Rho) : unpAll C np (.nm i :: ts) (d :: ds) ρ = w_uan_1 C np ts ds (store np ρ i (.val d)) := (rfl)
def w_uas_4 (C : Cfg) (np : Nat) (ts : List T1) (ds : List D) (q : Option (Rho)) : Option (Rho) := q.bind fun ρ3 => unpAll C np ts ds ρ3
@[simp] theorem w_uas_4_some (C : Cfg) (np : Nat) (ts : List T1) (ds : List D) (ρ3 : Rho) : w_uas_4 C np ts ds (some ρ3) = unpAll C np ts ds ρ3 := (rfl)
@[simp] theorem w_uas_4_none (C : Cfg) (np : Nat) (ts : List T1) (ds : List D) : w_uas_4 C np ts ds none = none := (rfl)
def w_uas_3 (C : Cfg) (np : Nat) (i : Nat) (ts : List T1) (d : D) (ds : List D) (q : Option (D × Rho)) : Option (Rho) := q.bind fun (x, ρ2) => w_uas_4 C np ts ds (putAt ρ2 i x d)
@[simp] theorem w_uas_3_some (C : Cfg) (np : Nat) (i : Nat) (ts : List T1) (d : D) (ds : List D) (x : D) (ρ2 : Rho) : w_uas_3 C np i ts d ds (some (x, ρ2)) = w_uas_4 C np ts ds (putAt ρ2 i x d) := (rfl)
@[simp] theorem w_uas_3_none (C : Cfg) (np : Nat) (i : Nat) (ts : List T1) (d : D) (ds : List D) : w_uas_3 C np i ts d ds none = none := (rfl)
def w_uas_2 (C : Cfg) (np : Nat) (i : Nat) (ts : List T1) (d : D) (ds : List D) (q : Option (Rs × Rho)) : Option (Rho) := q.bind fun (r1, ρ1) => w_uas_3 C np i ts d ds (fix ρ1 r1)
@[simp] theorem w_uas_2_some (C : Cfg) (np : Nat) (i : Nat) (ts : List T1) (d : D) (ds : List D) (r1 : Rs) (ρ1 : Rho) : w_uas_2 C np i ts d ds (some (r1, ρ1)) = w_uas_3 C np i ts d ds (fix ρ1 r1) := (rfl)
@[simp] theorem w_uas_2_none (C : Cfg) (np : Nat) (i : Nat) (ts : List T1) (d : D) (ds : List D) : w_uas_2 C np i ts d ds none = none := (rfl)
def w_uas_1 (C : Cfg) (np : Nat) (i : Nat) (a : E) (ts : List T1) (d : D) (ds : List D) (ρ : Rho) (q : Option (Unit)) : Option (Rho) := q.bind fun _ => w_uas_2 C np i ts d ds (ev C a ρ)
@[simp] theorem w_uas_1_some (C : Cfg) (np : Nat) (i : Nat) (a : E) (ts : List T1) (d : D) (ds : List D) (ρ : Rho) (any : Unit) : w_uas_1 C np i a ts d ds ρ (some any) = w_uas_2 C np i ts d ds (ev C a ρ) := (rfl)
@[simp] theorem w_uas_1_none (C : Cfg) (np : Nat) (i : Nat) (a : E) (ts : List T1) (d : D) (ds : List D) (ρ : Rho) : w_uas_1 C np i a ts d ds ρ none = none := (rfl)
@[simp] theorem w_uas (C : Cfg) (np : Nat) (i : Nat) (a : E) (ts : List T1) (d : D) (ds : List D) (ρ : Rho) : unpAll C np (.sub i a :: ts) (d :: ds) ρ = w_uas_1 C np i a ts d ds ρ (ownO ρ i) := (rfl)
def w_tupS_1 (q : Option (List D × Rho)) : Option (Rs × Rho) := q.bind fun (ds, ρ1) => if ds.length ≤ most then some (Rs.val (.tup ds), ρ1) else none
@[simp] theorem w_tupS_1_some (ds : List D) (ρ1 : Rho) : w_tupS_1 (some (ds, ρ1)) = if ds.length ≤ most then some (Rs.val (.tup ds), ρ1) else none := (rfl)
@[simp] theorem w_tupS_1_none : w_tupS_1 none = none := (rfl)
@[simp] theorem w_tupS (C : Cfg) (es : List E) (st : List Bool) (ρ : Rho) : ev C (.tupS es st) ρ = w_tupS_1 (evx C es st ρ) := (rfl)
def w_lstS_1 (q : Option (List D × Rho)) : Option (Rs × Rho) := q.bind fun (ds, ρ1) => if ds.length ≤ most then some (Rs.fr (.lst ds), ρ1) else none
@[simp] theorem w_lstS_1_some (ds : List D) (ρ1 : Rho) : w_lstS_1 (some (ds, ρ1)) = if ds.length ≤ most then some (Rs.fr (.lst ds), ρ1) else none := (rfl)
@[simp] theorem w_lstS_1_none : w_lstS_1 none = none := (rfl)
@[simp] theorem w_lstS (C : Cfg) (es : List E) (st : List Bool) (ρ : Rho) : ev C (.lstS es st) ρ = w_lstS_1 (evx C es st ρ) := (rfl)
def w_evxt_4 (xs : List D) (q : Option (List D × Rho)) : Option (List D × Rho) := q.map fun (ds, ρ3) => (xs ++ ds, ρ3)
@[simp] theorem w_evxt_4_some (xs : List D) (ds : List D) (ρ3 : Rho) : w_evxt_4 xs (some (ds, ρ3)) = some (xs ++ ds, ρ3) := (rfl)
@[simp] theorem w_evxt_4_none (xs : List D) : w_evxt_4 xs none = none := (rfl)
def w_evxt_3 (C : Cfg) (es : List E) (st : List Bool) (ρ2 : Rho) (q : Option (List D)) : Option (List D × Rho) := q.bind fun xs => w_evxt_4 xs (evx C es st ρ2)
@[simp] theorem w_evxt_3_some (C : Cfg) (es : List E) (st : List Bool) (ρ2 : Rho) (xs : List D) : w_evxt_3 C es st ρ2 (some xs) = w_evxt_4 xs (evx C es st ρ2) := (rfl)
@[simp] theorem w_evxt_3_none (C : Cfg) (es : List E) (st : List Bool) (ρ2 : Rho) : w_evxt_3 C es st ρ2 none = none := (rfl)
def w_evxt_2 (C : Cfg) (es : List E) (st : List Bool) (q : Option (D × Rho)) : Option (List D × Rho) := q.bind fun (d, ρ2) => w_evxt_3 C es st ρ2 (rowIt d)
@[simp] theorem w_evxt_2_some (C : Cfg) (es : List E) (st : List Bool) (d : D) (ρ2 : Rho) : w_evxt_2 C es st (some (d, ρ2)) = w_evxt_3 C es st ρ2 (rowIt d) := (rfl)
@[simp] theorem w_evxt_2_none (C : Cfg) (es : List E) (st : List Bool) : w_evxt_2 C es st none = none := (rfl)
def w_evxt_1 (C : Cfg) (es : List E) (st : List Bool) (q : Option (Rs × Rho)) : Option (List D × Rho) := q.bind fun (r1, ρ1) => w_evxt_2 C es st (fix ρ1 r1)
@[simp] theorem w_evxt_1_some (C : Cfg) (es : List E) (st : List Bool) (r1 : Rs) (ρ1 : Rho) : w_evxt_1 C es st (some (r1, ρ1)) = w_evxt_2 C es st (fix ρ1 r1) := (rfl)
@[simp] theorem w_evxt_1_none (C : Cfg) (es : List E) (st : List Bool) : w_evxt_1 C es st none = none := (rfl)
@[simp] theorem w_evxt (C : Cfg) (a : E) (es : List E) (st : List Bool) (ρ : Rho) : evx C (a :: es) (true :: st) ρ = w_evxt_1 C es st (ev C a ρ) := (rfl)
def w_evxf_3 (d : D) (q : Option (List D × Rho)) : Option (List D × Rho) := q.map fun (ds, ρ3) => (d :: ds, ρ3)
@[simp] theorem w_evxf_3_some (d : D) (ds : List D) (ρ3 : Rho) : w_evxf_3 d (some (ds, ρ3)) = some (d :: ds, ρ3) := (rfl)
@[simp] theorem w_evxf_3_none (d : D) : w_evxf_3 d none = none := (rfl)
def w_evxf_2 (C : Cfg) (es : List E) (st : List Bool) (q : Option (D × Rho)) : Option (List D × Rho) := q.bind fun (d, ρ2) => w_evxf_3 d (evx C es st ρ2)
@[simp] theorem w_evxf_2_some (C : Cfg) (es : List E) (st : List Bool) (d : D) (ρ2 : Rho) : w_evxf_2 C es st (some (d, ρ2)) = w_evxf_3 d (evx C es st ρ2) := (rfl)
@[simp] theorem w_evxf_2_none (C : Cfg) (es : List E) (st : List Bool) : w_evxf_2 C es st none = none := (rfl)
def w_evxf_1 (C : Cfg) (es : List E) (st : List Bool) (q : Option (Rs × Rho)) : Option (List D × Rho) := q.bind fun (r1, ρ1) => w_evxf_2 C es st (fix ρ1 r1)
@[simp] theorem w_evxf_1_some (C : Cfg) (es : List E) (st : List Bool) (r1 : Rs) (ρ1 : Rho) : w_evxf_1 C es st (some (r1, ρ1)) = w_evxf_2 C es st (fix ρ1 r1) := (rfl)
@[simp] theorem w_evxf_1_none (C : Cfg) (es : List E) (st : List Bool) : w_evxf_1 C es st none = none := (rfl)
@[simp] theorem w_evxf (C : Cfg) (a : E) (es : List E) (st : List Bool) (ρ : Rho) : evx C (a :: es) (false :: st) ρ = w_evxf_1 C es st (ev C a ρ) := (rfl)
def w_lc2_2 (t : Tg) (t2 : Tg) (ρ1 : Rho) (q : Option (List D × Rho)) : Option (Rs × Rho) := q.bind fun (ds, ρ2) => if ds.length ≤ most then some (Rs.fr (.lst ds), restore ρ2 ρ1 (t.slots ++ t2.slots)) else none
@[simp] theorem w_lc2_2_some (t : Tg) (t2 : Tg) (ρ1 : Rho) (ds : List D) (ρ2 : Rho) : w_lc2_2 t t2 ρ1 (some (ds, ρ2)) = if ds.length ≤ most then some (Rs.fr (.lst ds), restore ρ2 ρ1 (t.slots ++ t2.slots)) else none := (rfl)
@[simp] theorem w_lc2_2_none (t : Tg) (t2 : Tg) (ρ1 : Rho) : w_lc2_2 t t2 ρ1 none = none := (rfl)
def w_lc2_1 (C : Cfg) (elt : E) (t : Tg) (mc : Option E) (t2 : Tg) (it2 : E) (mc2 : Option E) (q : Option (List D × Rho)) : Option (Rs × Rho) := q.bind fun (xs, ρ1) => w_lc2_2 t t2 ρ1 (lcLoop (lc2B C elt t mc t2 it2 mc2) xs (unset ρ1 (t.slots ++ t2.slots)))
@[simp] theorem w_lc2_1_some (C : Cfg) (elt : E) (t : Tg) (mc : Option E) (t2 : Tg) (it2 : E) (mc2 : Option E) (xs : List D) (ρ1 : Rho) : w_lc2_1 C elt t mc t2 it2 mc2 (some (xs, ρ1)) = w_lc2_2 t t2 ρ1 (lcLoop (lc2B C elt t mc t2 it2 mc2) xs (unset ρ1 (t.slots ++ t2.slots))) := (rfl)
@[simp] theorem w_lc2_1_none (C : Cfg) (elt : E) (t : Tg) (mc : Option E) (t2 : Tg) (it2 : E) (mc2 : Option E) : w_lc2_1 C elt t mc t2 it2 mc2 none = none := (rfl)
@[simp] theorem w_lc2 (C : Cfg) (elt : E) (t : Tg) (it : E) (mc : Option E) (t2 : Tg) (it2 : E) (mc2 : Option E) (ρ : Rho) : ev C (.lc2 elt t it mc t2 it2 mc2) ρ = w_lc2_1 C elt t mc t2 it2 mc2 (evi C it ρ) := (rfl)
def w_lc2I_1 (C : Cfg) (elt : E) (t2 : Tg) (mc2 : Option E) (q : Option (List D × Rho)) : Option (List D × Rho) := q.bind fun (ys, ρ1) => lcLoop (lcB C elt t2 mc2) ys (unset ρ1 t2.slots)
@[simp] theorem w_lc2I_1_some (C : Cfg) (elt : E) (t2 : Tg) (mc2 : Option E) (ys : List D) (ρ1 : Rho) : w_lc2I_1 C elt t2 mc2 (some (ys, ρ1)) = lcLoop (lcB C elt t2 mc2) ys (unset ρ1 t2.slots) := (rfl)
@[simp] theorem w_lc2I_1_none (C : Cfg) (elt : E) (t2 : Tg) (mc2 : Option E) : w_lc2I_1 C elt t2 mc2 none = none := (rfl)
@[simp] theorem w_lc2I (C : Cfg) (elt : E) (t2 : Tg) (it2 : E) (mc2 : Option E) (ρ : Rho) : lc2I C elt t2 it2 mc2 ρ = w_lc2I_1 C elt t2 mc2 (evi C it2 ρ) := (rfl)
def w_lc2B_3 (t : Tg) (t2 : Tg) (q : Option (List D × Rho)) : Option (List D × Rho) := q.bind fun (ds, ρ3) => some (ds, unset ρ3 (t.slots ++ t2.slots))
@[simp] theorem w_lc2B_3_some (t : Tg) (t2 : Tg) (ds : List D) (ρ3 : Rho) : w_lc2B_3 t t2 (some (ds, ρ3)) = some (ds, unset ρ3 (t.slots ++ t2.slots)) := (rfl)
@[simp] theorem w_lc2B_3_none (t : Tg) (t2 : Tg) : w_lc2B_3 t t2 none = none := (rfl)
def w_lc2B_2 (C : Cfg) (elt : E) (t : Tg) (t2 : Tg) (it2 : E) (mc2 : Option E) (q : Option (Bool × Rho)) : Option (List D × Rho) := q.bind fun (v, ρ2) => w_lc2B_3 t t2 (if v then lc2I C elt t2 it2 mc2 ρ2 else some ([], ρ2))
@[simp] theorem w_lc2B_2_some (C : Cfg) (elt : E) (t : Tg) (t2 : Tg) (it2 : E) (mc2 : Option E) (v : Bool) (ρ2 : Rho) : w_lc2B_2 C elt t t2 it2 mc2 (some (v, ρ2)) = w_lc2B_3 t t2 (if v then lc2I C elt t2 it2 mc2 ρ2 else some ([], ρ2)) := (rfl)
@[simp] theorem w_lc2B_2_none (C : Cfg) (elt : E) (t : Tg) (t2 : Tg) (it2 : E) (mc2 : Option E) : w_lc2B_2 C elt t t2 it2 mc2 none = none := (rfl)
def w_lc2B_1 (C : Cfg) (elt : E) (t : Tg) (mc : Option E) (t2 : Tg) (it2 : E) (mc2 : Option E) (q : Option (Rho)) : Option (List D × Rho) := q.bind fun ρ1 => w_lc2B_2 C elt t t2 it2 mc2 (tso C mc ρ1)
@[simp] theorem w_lc2B_1_some (C : Cfg) (elt : E) (t : Tg) (mc : Option E) (t2 : Tg) (it2 : E) (mc2 : Option E) (ρ1 : Rho) : w_lc2B_1 C elt t mc t2 it2 mc2 (some ρ1) = w_lc2B_2 C elt t t2 it2 mc2 (tso C mc ρ1) := (rfl)
@[simp] theorem w_lc2B_1_none (C : Cfg) (elt : E) (t : Tg) (mc : Option E) (t2 : Tg) (it2 : E) (mc2 : Option E) : w_lc2B_1 C elt t mc t2 it2 mc2 none = none := (rfl)
@[simp] theorem w_lc2B (C : Cfg) (elt : E) (t : Tg) (mc : Option E) (t2 : Tg) (it2 : E) (mc2 : Option E) (x : D) (ρ : Rho) : lc2B C elt t mc t2 it2 mc2 x ρ = w_lc2B_1 C elt t mc t2 it2 mc2 (bindT 0 ρ t x) := by
  show (bindT 0 ρ t x).bind _ = (bindT 0 ρ t x).bind _
  congr 1
  funext ρ1
  show (tso C mc ρ1).bind _ = (tso C mc ρ1).bind _
  congr 1
  funext p
  obtain ⟨v, ρ2⟩ := p
  cases v with
  | false => rfl
  | true =>
    show (evi C it2 ρ2).bind _ = ((evi C it2 ρ2).bind _).bind _
    cases evi C it2 ρ2 with
    | none => rfl
    | some q =>
      show (lcLoop (lcB C elt t2 mc2) q.1 (unset q.2 t2.slots)).map _ = (lcLoop (lcB C elt t2 mc2) q.1 (unset q.2 t2.slots)).bind _
      cases lcLoop (lcB C elt t2 mc2) q.1 (unset q.2 t2.slots) <;> rfl
def w_dc_2 (t : Tg) (ρ1 : Rho) (q : Option ((List D × List D) × Rho)) : Option (Rs × Rho) := q.map fun (kv, ρ2) => (Rs.fr (.dct kv.1 kv.2), restore ρ2 ρ1 t.slots)
@[simp] theorem w_dc_2_some (t : Tg) (ρ1 : Rho) (kv : List D × List D) (ρ2 : Rho) : w_dc_2 t ρ1 (some (kv, ρ2)) = some (Rs.fr (.dct kv.1 kv.2), restore ρ2 ρ1 t.slots) := (rfl)
@[simp] theorem w_dc_2_none (t : Tg) (ρ1 : Rho) : w_dc_2 t ρ1 none = none := (rfl)
def w_dc_1 (C : Cfg) (a : E) (b : E) (t : Tg) (mc : Option E) (q : Option (List D × Rho)) : Option (Rs × Rho) := q.bind fun (xs, ρ1) => w_dc_2 t ρ1 (dcLoop (dcB C a b t mc) xs [] [] (unset ρ1 t.slots))
@[simp] theorem w_dc_1_some (C : Cfg) (a : E) (b : E) (t : Tg) (mc : Option E) (xs : List D) (ρ1 : Rho) : w_dc_1 C a b t mc (some (xs, ρ1)) = w_dc_2 t ρ1 (dcLoop (dcB C a b t mc) xs [] [] (unset ρ1 t.slots)) := (rfl)
@[simp] theorem w_dc_1_none (C : Cfg) (a : E) (b : E) (t : Tg) (mc : Option E) : w_dc_1 C a b t mc none = none := (rfl)
@[simp] theorem w_dc (C : Cfg) (a : E) (b : E) (t : Tg) (it : E) (mc : Option E) (ρ : Rho) : ev C (.dc a b t it mc) ρ = w_dc_1 C a b t mc (evi C it ρ) := (rfl)
def w_dcE_4 (d : D) (q : Option (D × Rho)) : Option (Option (D × D) × Rho) := q.bind fun (x, ρ4) => some (some (d, x), ρ4)
@[simp] theorem w_dcE_4_some (d : D) (x : D) (ρ4 : Rho) : w_dcE_4 d (some (x, ρ4)) = some (some (d, x), ρ4) := (rfl)
@[simp] theorem w_dcE_4_none (d : D) : w_dcE_4 d none = none := (rfl)
def w_dcE_3 (d : D) (q : Option (Rs × Rho)) : Option (Option (D × D) × Rho) := q.bind fun (r2, ρ3) => w_dcE_4 d (fix ρ3 r2)
@[simp] theorem w_dcE_3_some (d : D) (r2 : Rs) (ρ3 : Rho) : w_dcE_3 d (some (r2, ρ3)) = w_dcE_4 d (fix ρ3 r2) := (rfl)
@[simp] theorem w_dcE_3_none (d : D) : w_dcE_3 d none = none := (rfl)
def w_dcE_2 (C : Cfg) (b : E) (q : Option (D × Rho)) : Option (Option (D × D) × Rho) := q.bind fun (d, ρ2) => w_dcE_3 d (ev C b ρ2)
@[simp] theorem w_dcE_2_some (C : Cfg) (b : E) (d : D) (ρ2 : Rho) : w_dcE_2 C b (some (d, ρ2)) = w_dcE_3 d (ev C b ρ2) := (rfl)
@[simp] theorem w_dcE_2_none (C : Cfg) (b : E) : w_dcE_2 C b none = none := (rfl)
def w_dcE_1 (C : Cfg) (b : E) (q : Option (Rs × Rho)) : Option (Option (D × D) × Rho) := q.bind fun (r1, ρ1) => w_dcE_2 C b (fix ρ1 r1)
@[simp] theorem w_dcE_1_some (C : Cfg) (b : E) (r1 : Rs) (ρ1 : Rho) : w_dcE_1 C b (some (r1, ρ1)) = w_dcE_2 C b (fix ρ1 r1) := (rfl)
@[simp] theorem w_dcE_1_none (C : Cfg) (b : E) : w_dcE_1 C b none = none := (rfl)
@[simp] theorem w_dcE (C : Cfg) (a : E) (b : E) (ρ : Rho) : dcE C a b ρ = w_dcE_1 C b (ev C a ρ) := (rfl)
def w_dcB_3 (t : Tg) (q : Option (Option (D × D) × Rho)) : Option (Option (D × D) × Rho) := q.bind fun (ok, ρ3) => some (ok, unset ρ3 t.slots)
@[simp] theorem w_dcB_3_some (t : Tg) (ok : Option (D × D)) (ρ3 : Rho) : w_dcB_3 t (some (ok, ρ3)) = some (ok, unset ρ3 t.slots) := (rfl)
@[simp] theorem w_dcB_3_none (t : Tg) : w_dcB_3 t none = none := (rfl)
def w_dcB_2 (C : Cfg) (a : E) (b : E) (t : Tg) (q : Option (Bool × Rho)) : Option (Option (D × D) × Rho) := q.bind fun (v, ρ2) => w_dcB_3 t (if v then dcE C a b ρ2 else some (none, ρ2))
@[simp] theorem w_dcB_2_some (C : Cfg) (a : E) (b : E) (t : Tg) (v : Bool) (ρ2 : Rho) : w_dcB_2 C a b t (some (v, ρ2)) = w_dcB_3 t (if v then dcE C a b ρ2 else some (none, ρ2)) := (rfl)
@[simp] theorem w_dcB_2_none (C : Cfg) (a : E) (b : E) (t : Tg) : w_dcB_2 C a b t none = none := (rfl)
def w_dcB_1 (C : Cfg) (a : E) (b : E) (t : Tg) (mc : Option E) (q : Option (Rho)) : Option (Option (D × D) × Rho) := q.bind fun ρ1 => w_dcB_2 C a b t (tso C mc ρ1)
@[simp] theorem w_dcB_1_some (C : Cfg) (a : E) (b : E) (t : Tg) (mc : Option E) (ρ1 : Rho) : w_dcB_1 C a b t mc (some ρ1) = w_dcB_2 C a b t (tso C mc ρ1) := (rfl)
@[simp] theorem w_dcB_1_none (C : Cfg) (a : E) (b : E) (t : Tg) (mc : Option E) : w_dcB_1 C a b t mc none = none := (rfl)
@[simp] theorem w_dcB (C : Cfg) (a : E) (b : E) (t : Tg) (mc : Option E) (x : D) (ρ : Rho) : dcB C a b t mc x ρ = w_dcB_1 C a b t mc (bindT 0 ρ t x) := by
  show (bindT 0 ρ t x).bind _ = (bindT 0 ρ t x).bind _
  congr 1
  funext ρ1
  show (tso C mc ρ1).bind _ = (tso C mc ρ1).bind _
  congr 1
  funext p
  obtain ⟨v, ρ2⟩ := p
  cases v with
  | false => rfl
  | true =>
    show (ev C a ρ2).bind _ = ((ev C a ρ2).bind _).bind _
    cases ev C a ρ2 with
    | none => rfl
    | some q =>
      show (fix q.2 q.1).bind _ = ((fix q.2 q.1).bind _).bind _
      cases fix q.2 q.1 with
      | none => rfl
      | some k =>
        show (ev C b k.2).bind _ = ((ev C b k.2).bind _).bind _
        cases ev C b k.2 with
        | none => rfl
        | some u =>
          show (fix u.2 u.1).map _ = ((fix u.2 u.1).bind _).bind _
          cases fix u.2 u.1 <;> rfl
def w_dgt1_6 (ρ2 : Rho) (q : Option (Option D)) : Option (Rs × Rho) := q.bind fun sq => some (Rs.val (sq.getD .non), ρ2)
@[simp] theorem w_dgt1_6_some (ρ2 : Rho) (sq : Option D) : w_dgt1_6 ρ2 (some sq) = some (Rs.val (sq.getD .non), ρ2) := (rfl)
@[simp] theorem w_dgt1_6_none (ρ2 : Rho) : w_dgt1_6 ρ2 none = none := (rfl)
def w_dgt1_5 (ρ2 : Rho) (y : D) (q : Option (D)) : Option (Rs × Rho) := q.bind fun z => w_dgt1_6 ρ2 (dgtD y z)
@[simp] theorem w_dgt1_5_some (ρ2 : Rho) (y : D) (z : D) : w_dgt1_5 ρ2 y (some z) = w_dgt1_6 ρ2 (dgtD y z) := (rfl)
@[simp] theorem w_dgt1_5_none (ρ2 : Rho) (y : D) : w_dgt1_5 ρ2 y none = none := (rfl)
def w_dgt1_4 (r2 : Rs) (ρ2 : Rho) (q : Option (D)) : Option (Rs × Rho) := q.bind fun y => w_dgt1_5 ρ2 y (look ρ2 r2)
@[simp] theorem w_dgt1_4_some (r2 : Rs) (ρ2 : Rho) (y : D) : w_dgt1_4 r2 ρ2 (some y) = w_dgt1_5 ρ2 y (look ρ2 r2) := (rfl)
@[simp] theorem w_dgt1_4_none (r2 : Rs) (ρ2 : Rho) : w_dgt1_4 r2 ρ2 none = none := (rfl)
def w_dgt1_3 (r1 : Rs) (q : Option (Rs × Rho)) : Option (Rs × Rho) := q.bind fun (r2, ρ2) => w_dgt1_4 r2 ρ2 (look ρ2 r1)
@[simp] theorem w_dgt1_3_some (r1 : Rs) (r2 : Rs) (ρ2 : Rho) : w_dgt1_3 r1 (some (r2, ρ2)) = w_dgt1_4 r2 ρ2 (look ρ2 r1) := (rfl)
@[simp] theorem w_dgt1_3_none (r1 : Rs) : w_dgt1_3 r1 none = none := (rfl)
def w_dgt1_2 (C : Cfg) (b : E) (r1 : Rs) (ρ1 : Rho) (q : Option (D)) : Option (Rs × Rho) := q.bind fun x => w_dgt1_3 r1 (if isDct x then ev C b ρ1 else none)
@[simp] theorem w_dgt1_2_some (C : Cfg) (b : E) (r1 : Rs) (ρ1 : Rho) (x : D) : w_dgt1_2 C b r1 ρ1 (some x) = w_dgt1_3 r1 (if isDct x then ev C b ρ1 else none) := (rfl)
@[simp] theorem w_dgt1_2_none (C : Cfg) (b : E) (r1 : Rs) (ρ1 : Rho) : w_dgt1_2 C b r1 ρ1 none = none := (rfl)
def w_dgt1_1 (C : Cfg) (b : E) (q : Option (Rs × Rho)) : Option (Rs × Rho) := q.bind fun (r1, ρ1) => w_dgt1_2 C b r1 ρ1 (look ρ1 r1)
@[simp] theorem w_dgt1_1_some (C : Cfg) (b : E) (r1 : Rs) (ρ1 : Rho) : w_dgt1_1 C b (some (r1, ρ1)) = w_dgt1_2 C b r1 ρ1 (look ρ1 r1) := (rfl)
@[simp] theorem w_dgt1_1_none (C : Cfg) (b : E) : w_dgt1_1 C b none = none := (rfl)
@[simp] theorem w_dgt1 (C : Cfg) (a : E) (b : E) (ρ : Rho) : ev C (.dgt a b none) ρ = w_dgt1_1 C b (ev C a ρ) := by
  show (ev C a ρ).bind _ = (ev C a ρ).bind _
  congr 1
  funext p
  show (look p.2 p.1).bind _ = (look p.2 p.1).bind _
  congr 1
  funext x
  show (if isDct x then _ else none) = (if isDct x then ev C b p.2 else none).bind _
  split
  · show (ev C b p.2).bind _ = (ev C b p.2).bind _
    congr 1
    funext q
    show (look q.2 p.1).bind _ = (look q.2 p.1).bind _
    congr 1
    funext y
    show (look q.2 q.1).bind _ = (look q.2 q.1).bind _
    congr 1
    funext z
    show (dgtD y z).map _ = (dgtD y z).bind _
    cases dgtD y z <;> rfl
  · rfl
def w_dgt2_8 (z : D) (ρ5 : Rho) (q : Option (Option D)) : Option (Rs × Rho) := q.bind fun sq => some (Rs.val (sq.getD z), ρ5)
@[simp] theorem w_dgt2_8_some (z : D) (ρ5 : Rho) (sq : Option D) : w_dgt2_8 z ρ5 (some sq) = some (Rs.val (sq.getD z), ρ5) := (rfl)
@[simp] theorem w_dgt2_8_none (z : D) (ρ5 : Rho) : w_dgt2_8 z ρ5 none = none := (rfl)
def w_dgt2_7 (y : D) (z : D) (ρ5 : Rho) (q : Option (D)) : Option (Rs × Rho) := q.bind fun d => w_dgt2_8 z ρ5 (dgtD d y)
@[simp] theorem w_dgt2_7_some (y : D) (z : D) (ρ5 : Rho) (d : D) : w_dgt2_7 y z ρ5 (some d) = w_dgt2_8 z ρ5 (dgtD d y) := (rfl)
@[simp] theorem w_dgt2_7_none (y : D) (z : D) (ρ5 : Rho) : w_dgt2_7 y z ρ5 none = none := (rfl)
def w_dgt2_6 (r1 : Rs) (y : D) (q : Option (D × Rho)) : Option (Rs × Rho) := q.bind fun (z, ρ5) => w_dgt2_7 y z ρ5 (look ρ5 r1)
@[simp] theorem w_dgt2_6_some (r1 : Rs) (y : D) (z : D) (ρ5 : Rho) : w_dgt2_6 r1 y (some (z, ρ5)) = w_dgt2_7 y z ρ5 (look ρ5 r1) := (rfl)
@[simp] theorem w_dgt2_6_none (r1 : Rs) (y : D) : w_dgt2_6 r1 y none = none := (rfl)
def w_dgt2_5 (r1 : Rs) (y : D) (q : Option (Rs × Rho)) : Option (Rs × Rho) := q.bind fun (r3, ρ4) => w_dgt2_6 r1 y (fix ρ4 r3)
@[simp] theorem w_dgt2_5_some (r1 : Rs) (y : D) (r3 : Rs) (ρ4 : Rho) : w_dgt2_5 r1 y (some (r3, ρ4)) = w_dgt2_6 r1 y (fix ρ4 r3) := (rfl)
@[simp] theorem w_dgt2_5_none (r1 : Rs) (y : D) : w_dgt2_5 r1 y none = none := (rfl)
def w_dgt2_4 (C : Cfg) (c : E) (r1 : Rs) (q : Option (D × Rho)) : Option (Rs × Rho) := q.bind fun (y, ρ3) => w_dgt2_5 r1 y (ev C c ρ3)
@[simp] theorem w_dgt2_4_some (C : Cfg) (c : E) (r1 : Rs) (y : D) (ρ3 : Rho) : w_dgt2_4 C c r1 (some (y, ρ3)) = w_dgt2_5 r1 y (ev C c ρ3) := (rfl)
@[simp] theorem w_dgt2_4_none (C : Cfg) (c : E) (r1 : Rs) : w_dgt2_4 C c r1 none = none := (rfl)
def w_dgt2_3 (C : Cfg) (c : E) (r1 : Rs) (q : Option (Rs × Rho)) : Option (Rs × Rho) := q.bind fun (r2, ρ2) => w_dgt2_4 C c r1 (fix ρ2 r2)
@[simp] theorem w_dgt2_3_some (C : Cfg) (c : E) (r1 : Rs) (r2 : Rs) (ρ2 : Rho) : w_dgt2_3 C c r1 (some (r2, ρ2)) = w_dgt2_4 C c r1 (fix ρ2 r2) := (rfl)
@[simp] theorem w_dgt2_3_none (C : Cfg) (c : E) (r1 : Rs) : w_dgt2_3 C c r1 none = none := (rfl)
def w_dgt2_2 (C : Cfg) (b : E) (c : E) (r1 : Rs) (ρ1 : Rho) (q : Option (D)) : Option (Rs × Rho) := q.bind fun x => w_dgt2_3 C c r1 (if isDct x then ev C b ρ1 else none)
@[simp] theorem w_dgt2_2_some (C : Cfg) (b : E) (c : E) (r1 : Rs) (ρ1 : Rho) (x : D) : w_dgt2_2 C b c r1 ρ1 (some x) = w_dgt2_3 C c r1 (if isDct x then ev C b ρ1 else none) := (rfl)
@[simp] theorem w_dgt2_2_none (C : Cfg) (b : E) (c : E) (r1 : Rs) (ρ1 : Rho) : w_dgt2_2 C b c r1 ρ1 none = none := (rfl)
def w_dgt2_1 (C : Cfg) (b : E) (c : E) (q : Option (Rs × Rho)) : Option (Rs × Rho) := q.bind fun (r1, ρ1) => w_dgt2_2 C b c r1 ρ1 (look ρ1 r1)
@[simp] theorem w_dgt2_1_some (C : Cfg) (b : E) (c : E) (r1 : Rs) (ρ1 : Rho) : w_dgt2_1 C b c (some (r1, ρ1)) = w_dgt2_2 C b c r1 ρ1 (look ρ1 r1) := (rfl)
@[simp] theorem w_dgt2_1_none (C : Cfg) (b : E) (c : E) : w_dgt2_1 C b c none = none := (rfl)
@[simp] theorem w_dgt2 (C : Cfg) (a : E) (b : E) (c : E) (ρ : Rho) : ev C (.dgt a b (some c)) ρ = w_dgt2_1 C b c (ev C a ρ) := by
  show (ev C a ρ).bind _ = (ev C a ρ).bind _
  congr 1
  funext p
  show (look p.2 p.1).bind _ = (look p.2 p.1).bind _
  congr 1
  funext x
  show (if isDct x then _ else none) = (if isDct x then ev C b p.2 else none).bind _
  split
  · show (ev C b p.2).bind _ = (ev C b p.2).bind _
    congr 1
    funext q
    show (fix q.2 q.1).bind _ = (fix q.2 q.1).bind _
    congr 1
    funext k
    show (ev C c k.2).bind _ = (ev C c k.2).bind _
    congr 1
    funext u
    show (fix u.2 u.1).bind _ = (fix u.2 u.1).bind _
    congr 1
    funext z
    show (look z.2 p.1).bind _ = (look z.2 p.1).bind _
    congr 1
    funext d
    show (dgtD d k.1).map _ = (dgtD d k.1).bind _
    cases dgtD d k.1 <;> rfl
  · rfl
def w_mix_6 (ρ1 : Rho) (k : Int) (q : Option (List Int)) : Option (Rs × Rho) := q.bind fun ns => if k ∈ ns then some (Rs.val (.int (ns.idxOf k : Nat)), ρ1) else none
@[simp] theorem w_mix_6_some (ρ1 : Rho) (k : Int) (ns : List Int) : w_mix_6 ρ1 k (some ns) = if k ∈ ns then some (Rs.val (.int (ns.idxOf k : Nat)), ρ1) else none := (rfl)
@[simp] theorem w_mix_6_none (ρ1 : Rho) (k : Int) : w_mix_6 ρ1 k none = none := (rfl)
def w_mix_5 (x : D) (ρ1 : Rho) (k : Int) (q : Option (D)) : Option (Rs × Rho) := q.bind fun z => w_mix_6 ρ1 k (rowOf x z)
@[simp] theorem w_mix_5_some (x : D) (ρ1 : Rho) (k : Int) (z : D) : w_mix_5 x ρ1 k (some z) = w_mix_6 ρ1 k (rowOf x z) := (rfl)
@[simp] theorem w_mix_5_none (x : D) (ρ1 : Rho) (k : Int) : w_mix_5 x ρ1 k none = none := (rfl)
def w_mix_4 (i : Nat) (x : D) (ρ1 : Rho) (q : Option (Int)) : Option (Rs × Rho) := q.bind fun k => w_mix_5 x ρ1 k (look ρ1 (.al i))
@[simp] theorem w_mix_4_some (i : Nat) (x : D) (ρ1 : Rho) (k : Int) : w_mix_4 i x ρ1 (some k) = w_mix_5 x ρ1 k (look ρ1 (.al i)) := (rfl)
@[simp] theorem w_mix_4_none (i : Nat) (x : D) (ρ1 : Rho) : w_mix_4 i x ρ1 none = none := (rfl)
def w_mix_3 (i : Nat) (x : D) (ρ1 : Rho) (q : Option (D)) : Option (Rs × Rho) := q.bind fun y => w_mix_4 i x ρ1 (intOf y)
@[simp] theorem w_mix_3_some (i : Nat) (x : D) (ρ1 : Rho) (y : D) : w_mix_3 i x ρ1 (some y) = w_mix_4 i x ρ1 (intOf y) := (rfl)
@[simp] theorem w_mix_3_none (i : Nat) (x : D) (ρ1 : Rho) : w_mix_3 i x ρ1 none = none := (rfl)
def w_mix_2 (i : Nat) (x : D) (q : Option (Rs × Rho)) : Option (Rs × Rho) := q.bind fun (r1, ρ1) => w_mix_3 i x ρ1 (look ρ1 r1)
@[simp] theorem w_mix_2_some (i : Nat) (x : D) (r1 : Rs) (ρ1 : Rho) : w_mix_2 i x (some (r1, ρ1)) = w_mix_3 i x ρ1 (look ρ1 r1) := (rfl)
@[simp] theorem w_mix_2_none (i : Nat) (x : D) : w_mix_2 i x none = none := (rfl)
def w_mix_1 (C : Cfg) (i : Nat) (a : E) (ρ : Rho) (q : Option (D)) : Option (Rs × Rho) := q.bind fun x => w_mix_2 i x (ev C a ρ)
@[simp] theorem w_mix_1_some (C : Cfg) (i : Nat) (a : E) (ρ : Rho) (x : D) : w_mix_1 C i a ρ (some x) = w_mix_2 i x (ev C a ρ) := (rfl)
@[simp] theorem w_mix_1_none (C : Cfg) (i : Nat) (a : E) (ρ : Rho) : w_mix_1 C i a ρ none = none := (rfl)
@[simp] theorem w_mix (C : Cfg) (i : Nat) (a : E) (ρ : Rho) : ev C (.mix i a) ρ = w_mix_1 C i a ρ (look ρ (.al i)) := (rfl)
def w_mcn_6 (ρ1 : Rho) (k : Int) (q : Option (List Int)) : Option (Rs × Rho) := q.map fun ns => (Rs.val (.int (ns.count k : Nat)), ρ1)
@[simp] theorem w_mcn_6_some (ρ1 : Rho) (k : Int) (ns : List Int) : w_mcn_6 ρ1 k (some ns) = some (Rs.val (.int (ns.count k : Nat)), ρ1) := (rfl)
@[simp] theorem w_mcn_6_none (ρ1 : Rho) (k : Int) : w_mcn_6 ρ1 k none = none := (rfl)
def w_mcn_5 (x : D) (ρ1 : Rho) (k : Int) (q : Option (D)) : Option (Rs × Rho) := q.bind fun z => w_mcn_6 ρ1 k (rowOf x z)
@[simp] theorem w_mcn_5_some (x : D) (ρ1 : Rho) (k : Int) (z : D) : w_mcn_5 x ρ1 k (some z) = w_mcn_6 ρ1 k (rowOf x z) := (rfl)
@[simp] theorem w_mcn_5_none (x : D) (ρ1 : Rho) (k : Int) : w_mcn_5 x ρ1 k none = none := (rfl)
def w_mcn_4 (i : Nat) (x : D) (ρ1 : Rho) (q : Option (Int)) : Option (Rs × Rho) := q.bind fun k => w_mcn_5 x ρ1 k (look ρ1 (.al i))
@[simp] theorem w_mcn_4_some (i : Nat) (x : D) (ρ1 : Rho) (k : Int) : w_mcn_4 i x ρ1 (some k) = w_mcn_5 x ρ1 k (look ρ1 (.al i)) := (rfl)
@[simp] theorem w_mcn_4_none (i : Nat) (x : D) (ρ1 : Rho) : w_mcn_4 i x ρ1 none = none := (rfl)
def w_mcn_3 (i : Nat) (x : D) (ρ1 : Rho) (q : Option (D)) : Option (Rs × Rho) := q.bind fun y => w_mcn_4 i x ρ1 (intOf y)
@[simp] theorem w_mcn_3_some (i : Nat) (x : D) (ρ1 : Rho) (y : D) : w_mcn_3 i x ρ1 (some y) = w_mcn_4 i x ρ1 (intOf y) := (rfl)
@[simp] theorem w_mcn_3_none (i : Nat) (x : D) (ρ1 : Rho) : w_mcn_3 i x ρ1 none = none := (rfl)
def w_mcn_2 (i : Nat) (x : D) (q : Option (Rs × Rho)) : Option (Rs × Rho) := q.bind fun (r1, ρ1) => w_mcn_3 i x ρ1 (look ρ1 r1)
@[simp] theorem w_mcn_2_some (i : Nat) (x : D) (r1 : Rs) (ρ1 : Rho) : w_mcn_2 i x (some (r1, ρ1)) = w_mcn_3 i x ρ1 (look ρ1 r1) := (rfl)
@[simp] theorem w_mcn_2_none (i : Nat) (x : D) : w_mcn_2 i x none = none := (rfl)
def w_mcn_1 (C : Cfg) (i : Nat) (a : E) (ρ : Rho) (q : Option (D)) : Option (Rs × Rho) := q.bind fun x => w_mcn_2 i x (ev C a ρ)
@[simp] theorem w_mcn_1_some (C : Cfg) (i : Nat) (a : E) (ρ : Rho) (x : D) : w_mcn_1 C i a ρ (some x) = w_mcn_2 i x (ev C a ρ) := (rfl)
@[simp] theorem w_mcn_1_none (C : Cfg) (i : Nat) (a : E) (ρ : Rho) : w_mcn_1 C i a ρ none = none := (rfl)
@[simp] theorem w_mcn (C : Cfg) (i : Nat) (a : E) (ρ : Rho) : ev C (.mcn i a) ρ = w_mcn_1 C i a ρ (look ρ (.al i)) := (rfl)

/-- turns that change no name -/
theorem lcLoop_map {f : D → Rho → Option (List D × Rho)} {g : D → List D} {ρ : Rho} : ∀ {xs : List D}, (∀ x ∈ xs, f x ρ = some (g x, ρ)) → lcLoop f xs ρ = some ((xs.map g).flatten, ρ)
  | [], _ => rfl
  | x :: xs, h => by
    show (f x ρ).bind _ = _
    rw [h x List.mem_cons_self]
    show (lcLoop f xs ρ).map _ = _
    rw [lcLoop_map fun y hy => h y (List.mem_cons_of_mem _ hy)]
    rfl
/-- .. each one value -/
theorem lcLoop_one {α : Type} {f : D → Rho → Option (List D × Rho)} {e g : α → D} {ρ : Rho} : ∀ {xs : List α}, (∀ x ∈ xs, f (e x) ρ = some ([g x], ρ)) → lcLoop f (xs.map e) ρ = some (xs.map g, ρ)
  | [], _ => rfl
  | x :: xs, h => by
    show (f (e x) ρ).bind _ = _
    rw [h x List.mem_cons_self]
    show (lcLoop f (xs.map e) ρ).map _ = _
    rw [lcLoop_one fun y hy => h y (List.mem_cons_of_mem _ hy)]
    rfl
/-- .. some of the values -/
theorem lcLoop_filter {α : Type} {f : D → Rho → Option (List D × Rho)} {e g : α → D} {p : α → Bool} {ρ : Rho} : ∀ {xs : List α}, (∀ x ∈ xs, f (e x) ρ = some (if p x then [g x] else [], ρ)) → lcLoop f (xs.map e) ρ = some ((xs.filter p).map g, ρ)
  | [], _ => rfl
  | x :: xs, h => by
    show (f (e x) ρ).bind _ = _
    rw [h x List.mem_cons_self]
    show (lcLoop f (xs.map e) ρ).map _ = _
    rw [lcLoop_filter fun y hy => h y (List.mem_cons_of_mem _ hy), List.filter_cons]
    cases p x <;> rfl
/-- turns that draw: what they bring keeps I -/
theorem lcLoop_ex {α : Type} {f : D → Rho → Option (List D × Rho)} {e : α → D} {I : List D → Rho → Prop} : ∀ {xs : List α} {acc : List D} {ρ : Rho}, I acc ρ → (∀ x ∈ xs, ∀ acc ρ, I acc ρ → ∃ ds ρ', f (e x) ρ = some (ds, ρ') ∧ I (acc ++ ds) ρ') →
    ∃ ds ρ', lcLoop f (xs.map e) ρ = some (ds, ρ') ∧ I (acc ++ ds) ρ'
  | [], acc, ρ, h0, _ => ⟨[], ρ, rfl, by rw [List.append_nil]; exact h0⟩
  | x :: xs, acc, ρ, h0, h => by
    obtain ⟨ds, ρ1, e1, h1⟩ := h x List.mem_cons_self acc ρ h0
    obtain ⟨es, ρ2, e2, h2⟩ := lcLoop_ex h1 fun y hy => h y (List.mem_cons_of_mem _ hy)
    refine ⟨ds ++ es, ρ2, ?_, by rw [← List.append_assoc]; exact h2⟩
    show (f (e x) ρ).bind _ = _
    rw [e1]
    show (lcLoop f (xs.map e) ρ1).map _ = _
    rw [e2]
    rfl
/-- turns that draw one value each -/
theorem lcLoop_draw {α β : Type} {f : D → Rho → Option (List D × Rho)} {e : α → D} {g : β → D} {I : Rho → Prop} {P : β → Prop} : ∀ {xs : List α} {ρ : Rho}, I ρ → (∀ x ∈ xs, ∀ ρ, I ρ → ∃ y ρ', f (e x) ρ = some ([g y], ρ') ∧ I ρ' ∧ P y) →
    ∃ (ys : List β) (ρ' : Rho), lcLoop f (xs.map e) ρ = some (ys.map g, ρ') ∧ I ρ' ∧ ys.length = xs.length ∧ ∀ y ∈ ys, P y
  | [], ρ, h0, _ => ⟨[], ρ, rfl, h0, rfl, fun y hy => absurd hy (by simp)⟩
  | x :: xs, ρ, h0, h => by
    obtain ⟨y, ρ1, e1, h1, p1⟩ := h x List.mem_cons_self ρ h0
    obtain ⟨ys, ρ2, e2, h2, l2, p2⟩ := lcLoop_draw h1 fun z hz => h z (List.mem_cons_of_mem _ hz)
    refine ⟨y :: ys, ρ2, ?_, h2, by rw [List.length_cons, List.length_cons, l2], fun z hz => ?_⟩
    · show (f (e x) ρ).bind _ = _
      rw [e1]
      show (lcLoop f (xs.map e) ρ1).map _ = _
      rw [e2]
      rfl
    · rcases List.mem_cons.mp hz with rfl | hz
      · exact p1
      · exact p2 z hz
/-- a loop that runs to its end: I by how many turns are behind -/
theorem forLoop_nx {α : Type} {f : D → Rho → Option (O × Rho)} {e : α → D} {I : List α → Rho → Prop} : ∀ {xs done : List α} {ρ : Rho}, I done ρ → (∀ x ∈ xs, ∀ done ρ, I done ρ → ∃ ρ', f (e x) ρ = some (.nx, ρ') ∧ I (done ++ [x]) ρ') →
    ∃ ρ', forLoop f (xs.map e) ρ = some (.nx, ρ') ∧ I (done ++ xs) ρ'
  | [], done, ρ, h0, _ => ⟨ρ, rfl, by rw [List.append_nil]; exact h0⟩
  | x :: xs, done, ρ, h0, h => by
    obtain ⟨ρ1, e1, h1⟩ := h x List.mem_cons_self done ρ h0
    obtain ⟨ρ2, e2, h2⟩ := forLoop_nx h1 fun y hy => h y (List.mem_cons_of_mem _ hy)
    refine ⟨ρ2, ?_, by rw [show done ++ x :: xs = done ++ [x] ++ xs by simp]; exact h2⟩
    show (f (e x) ρ).bind _ = _
    rw [e1]
    exact e2
/-- .. the turns that are left known by their place -/
theorem forLoop_at {α : Type} {f : D → Rho → Option (O × Rho)} {e : α → D} {I : Nat → Rho → Prop} : ∀ {xs : List α} {n : Nat} {ρ : Rho}, I n ρ → (∀ (i : Nat) (x : α), xs[i]? = some x → ∀ ρ, I (n + i) ρ → ∃ ρ', f (e x) ρ = some (.nx, ρ') ∧ I (n + i + 1) ρ') →
    ∃ ρ', forLoop f (xs.map e) ρ = some (.nx, ρ') ∧ I (n + xs.length) ρ'
  | [], n, ρ, h0, _ => ⟨ρ, rfl, h0⟩
  | x :: xs, n, ρ, h0, h => by
    obtain ⟨ρ1, e1, h1⟩ := h 0 x rfl ρ h0
    obtain ⟨ρ2, e2, h2⟩ := forLoop_at (xs := xs) (n := n + 1) h1 fun i y hy ρ hi => by
      have := h (i + 1) y (by simpa using hy) ρ (by rw [show n + (i + 1) = n + 1 + i by omega]; exact hi)
      rw [show n + (i + 1) + 1 = n + 1 + i + 1 by omega] at this
      exact this
    refine ⟨ρ2, ?_, by rw [List.length_cons, show n + (xs.length + 1) = n + 1 + xs.length by omega]; exact h2⟩
    show (f (e x) ρ).bind _ = _
    rw [e1]
    exact e2
/-- a while loop: a measure that falls -/
theorem while_nx {c : Rho → Option (Bool × Rho)} {f : Rho → Option (O × Rho)} {I : Nat → Rho → Prop} {Z : Rho → Prop} (h : ∀ m ρ, I m ρ → (∃ ρ1, c ρ = some (false, ρ1) ∧ Z ρ1) ∨ ∃ ρ1 ρ2 m', c ρ = some (true, ρ1) ∧ f ρ1 = some (.nx, ρ2) ∧ m' < m ∧ I m' ρ2) :
    ∀ (n m : Nat) (ρ : Rho), I m ρ → m < n → ∃ ρ', whileLoop c f n ρ = some (.nx, ρ') ∧ Z ρ'
  | 0, m, ρ, _, hn => absurd hn (Nat.not_lt_zero m)
  | n + 1, m, ρ, hi, hn => by
    rcases h m ρ hi with ⟨ρ1, e1, z⟩ | ⟨ρ1, ρ2, m', e1, e2, hm, h2⟩
    · refine ⟨ρ1, ?_, z⟩
      show (c ρ).bind _ = _
      rw [e1]
      rfl
    · obtain ⟨ρ3, e3, z⟩ := while_nx h n m' ρ2 h2 (by omega)
      refine ⟨ρ3, ?_, z⟩
      show (c ρ).bind _ = _
      rw [e1]
      show (f ρ1).bind _ = _
      rw [e2]
      exact e3
@[simp] theorem w_ints (ns : List Int) : intsOf (ns.map .int) = some ns := by
  induction ns with
  | nil => rfl
  | cons n ns ih => simp [intsOf, ih]
@[simp] theorem w_bls (ns : List Bool) : blsOf (ns.map .bl) = some ns := by
  induction ns with
  | nil => rfl
  | cons n ns ih => simp [blsOf, ih]

section
variable (C : Cfg) (np : Nat) (ρ : Rho) (i j k : Nat) (a b c : E) (es ks : List E) (d e : D) (r : Rs) (rs : List Rs) (s : S) (ss : List S) (x : PySem.Str) (perm : List Nat) (t : String)
@[simp] theorem w_var : ev C (.var i) ρ = match ρ[i]? with | some (.ro _) => some (.al i, ρ) | some (.own _) => some (.al i, ρ) | _ => none := (rfl)
@[simp] theorem w_con : ev C (.con d) ρ = some (.val d, ρ) := (rfl)
@[simp] theorem w_glb : ev C (.glb x) ρ = (C.glb x).map fun d => (.val d, ρ) := (rfl)
@[simp] theorem w_tso0 : tso C none ρ = some (true, ρ) := (rfl)
@[simp] theorem w_tso1 : tso C (some a) ρ = tst C a ρ := (rfl)
@[simp] theorem w_evo0 : evo C none ρ = some (none, ρ) := (rfl)
@[simp] theorem w_evs0 : evs C [] ρ = some ([], ρ) := (rfl)
@[simp] theorem w_evf0 : evf C [] ρ = some ([], ρ) := (rfl)
@[simp] theorem w_retN : exec C np .retN ρ = some (.ret (.val .non), ρ) := (rfl)
@[simp] theorem w_pas : exec C np .pas ρ = some (.nx, ρ) := (rfl)
@[simp] theorem w_brk : exec C np .brk ρ = some (.brk, ρ) := (rfl)
@[simp] theorem w_cnt : exec C np .cnt ρ = some (.cnt, ρ) := (rfl)
@[simp] theorem w_ss0 : execs C np [] ρ = some (.nx, ρ) := (rfl)
@[simp] theorem w_lookv : look ρ (.val d) = some d := (rfl)
@[simp] theorem w_lookf : look ρ (.fr d) = some d := (rfl)
@[simp] theorem w_looka : look ρ (.al i) = match ρ[i]? with | some (.ro d) => some d | some (.own d) => some d | _ => none := (rfl)
@[simp] theorem w_looks0 : looks ρ [] = some [] := (rfl)
@[simp] theorem w_fxWv : fixW ρ (.val d) = some (d, ρ) := (rfl)
@[simp] theorem w_fxWl (xs : List D) : fixW ρ (.fr (.lst xs)) = some (.lst xs, ρ) := (rfl)
@[simp] theorem w_fxWd (xs ys : List D) : fixW ρ (.fr (.dct xs ys)) = some (.dcf xs ys, ρ) := (rfl)
@[simp] theorem w_fxWa : fixW ρ (.al i) = match ρ[i]? with | some (.own (.dct ks vs)) => some (.dcf ks vs, ρ.set i (.ro (.dcf ks vs))) | some (.ro d) => some (d, ρ) | some (.own d) => some (d, ρ.set i (.ro d)) | _ => none := (rfl)
@[simp] theorem w_itW1 (xs : List D) : itemsW (.tup xs) = some xs := (rfl)
@[simp] theorem w_itW2 (xs : List D) : itemsW (.lst xs) = some xs := (rfl)
@[simp] theorem w_itW3 (xs : List Int) : itemsW (.scr xs) = some (xs.map .int) := (rfl)
@[simp] theorem w_itW4 (ks vs : List D) : itemsW (.dcf ks vs) = some ks := (rfl)
@[simp] theorem w_fixv : fix ρ (.val d) = some (d, ρ) := (rfl)
@[simp] theorem w_fixf : fix ρ (.fr d) = some (d, ρ) := (rfl)
@[simp] theorem w_fixa : fix ρ (.al i) = match ρ[i]? with | some (.ro d) => some (d, ρ) | some (.own d) => some (d, ρ.set i (.ro d)) | _ => none := (rfl)
@[simp] theorem w_argv : argOf ρ (.val d) = some (.ro d) := (rfl)
@[simp] theorem w_argf : argOf ρ (.fr d) = some (.own d) := (rfl)
@[simp] theorem w_arga : argOf ρ (.al i) = match ρ[i]? with | some (.ro d) => some (.ro d) | some (.own d) => some (.own d) | _ => none := (rfl)
@[simp] theorem w_args0 : argsOf ρ [] = some [] := (rfl)
@[simp] theorem w_own0 : ownIx ρ [] = [] := (rfl)
@[simp] theorem w_ownv : ownIx ρ (.val d :: rs) = ownIx ρ rs := (rfl)
@[simp] theorem w_ownf : ownIx ρ (.fr d :: rs) = ownIx ρ rs := (rfl)
@[simp] theorem w_owna : ownIx ρ (.al i :: rs) = match ρ[i]? with | some (.own _) => i :: ownIx ρ rs | _ => ownIx ρ rs := (rfl)
@[simp] theorem w_gb0 : ∀ fs, giveBack ρ [] fs = ρ := fun fs => by cases fs <;> rfl
@[simp] theorem w_gbv : ∀ f fs, giveBack ρ (.val d :: rs) (f :: fs) = giveBack ρ rs fs := fun _ _ => (rfl)
@[simp] theorem w_gbf : ∀ f fs, giveBack ρ (.fr d :: rs) (f :: fs) = giveBack ρ rs fs := fun _ _ => (rfl)
@[simp] theorem w_gba : ∀ f fs, giveBack ρ (.al i :: rs) (f :: fs) = match ρ[i]? with | some (.own _) => (giveBack ρ rs fs).set i f | _ => giveBack ρ rs fs := fun _ _ => (rfl)
@[simp] theorem w_alv : isAl (.val d) = false := (rfl)
@[simp] theorem w_alf : isAl (.fr d) = false := (rfl)
@[simp] theorem w_fa0 : fixAll ρ [] = some ([], ρ) := (rfl)
@[simp] theorem w_stv : store np ρ i (.val d) = if np ≤ i ∧ i < ρ.length then some (ρ.set i (.ro d)) else none := (rfl)
@[simp] theorem w_stf : store np ρ i (.fr d) = if np ≤ i ∧ i < ρ.length then some (ρ.set i (.own d)) else none := (rfl)
@[simp] theorem w_sta : store np ρ i (.al j) = if np ≤ i ∧ i < ρ.length then (fix ρ (.al j)).map fun p => p.2.set i (.ro p.1) else none := (rfl)
@[simp] theorem w_sa0 : storeAll np ρ [] [] = some ρ := (rfl)
@[simp] theorem w_rtv : retOf np ρ (.val d) = some (.val d, ρ) := (rfl)
@[simp] theorem w_rtf : retOf np ρ (.fr d) = some (.fr d, ρ) := (rfl)
@[simp] theorem w_rta : retOf np ρ (.al i) = match ρ[i]? with | some (.own d) => if np ≤ i then some (.fr d, ρ) else some (.val d, ρ.set i (.ro d)) | some (.ro d) => some (.val d, ρ) | _ => none := (rfl)
@[simp] theorem w_btn : bindT np ρ (.nm i) d = if np ≤ i ∧ i < ρ.length then some (ρ.set i (.ro d)) else none := by cases d <;> rfl
@[simp] theorem w_bttup : ∀ is ds, bindT np ρ (.tp is) (.tup ds) = setAll np ρ is ds := fun _ _ => (rfl)
@[simp] theorem w_btrtp : ∀ is ds, bindT np ρ (.tp is) (.rtp ds) = setAll np ρ is ds := fun _ _ => (rfl)
@[simp] theorem w_all0 : setAll np ρ [] [] = some ρ := (rfl)
@[simp] theorem w_all1 : ∀ is ds, setAll np ρ (i :: is) (d :: ds) = if np ≤ i ∧ i < ρ.length then setAll np (ρ.set i (.ro d)) is ds else none := fun _ _ => (rfl)
@[simp] theorem w_un0 : unset ρ [] = ρ := (rfl)
@[simp] theorem w_un1 : ∀ is, unset ρ (i :: is) = (unset ρ is).set i .un := fun _ => (rfl)
@[simp] theorem w_rs0 : ∀ ρ0, restore ρ ρ0 [] = ρ := fun _ => (rfl)
@[simp] theorem w_rs1 : ∀ ρ0 is, restore ρ ρ0 (i :: is) = (restore ρ ρ0 is).set i (ρ0[i]?.getD .un) := fun _ _ => (rfl)
@[simp] theorem w_sln : (Tg.nm i).slots = [i] := (rfl)
@[simp] theorem w_slt : ∀ is, (Tg.tp is).slots = is := fun _ => (rfl)
@[simp] theorem w_ua0 : unpAll C np [] [] ρ = some ρ := (rfl)
@[simp] theorem w_items1 : ∀ xs, items (.tup xs) = some xs := fun _ => (rfl)
@[simp] theorem w_items2 : ∀ xs, items (.lst xs) = some xs := fun _ => (rfl)
@[simp] theorem w_items3 : ∀ xs, items (.scr xs) = some (xs.map .int) := fun _ => (rfl)
@[simp] theorem w_int : ∀ n : Int, intOf (.int n) = some n := fun _ => (rfl)
@[simp] theorem w_lstOf : ∀ xs, lstOf (.lst xs) = some xs := fun _ => (rfl)
@[simp] theorem w_evx0 : evx C [] [] ρ = some ([], ρ) := (rfl)
@[simp] theorem w_dnew : ev C .dnew ρ = some (.fr (.dct [] []), ρ) := (rfl)
@[simp] theorem w_ownO : ownO ρ i = match ρ[i]? with | some (.own (.lst _)) => some () | some (.own (.dct _ _)) => some () | _ => none := (rfl)
@[simp] theorem w_putAt : putAt ρ i d e = match ρ[i]? with | some (.own (.lst xs)) => (intOf d).bind fun k => (L2.ixN xs.length k).map fun j => ρ.set i (.own (.lst (xs.set j e))) | some (.own (.dct ks vs)) => if kOk ks d = true ∧ ks.length < most then some (ρ.set i (.own (.dct (putKs d ks) (putVs d e ks vs)))) else none | _ => none := (rfl)
@[simp] theorem w_rowIt1 : ∀ xs, rowIt (.tup xs) = some xs := fun _ => (rfl)
@[simp] theorem w_rowIt2 : ∀ xs, rowIt (.lst xs) = some xs := fun _ => (rfl)
@[simp] theorem w_rowOf1 : ∀ ys (ns : List Int), rowOf (.tup ys) (.tup (ns.map .int)) = some ns := fun ys ns => w_ints ns
@[simp] theorem w_rowOf2 : ∀ ys (ns : List Int), rowOf (.lst ys) (.lst (ns.map .int)) = some ns := fun ys ns => w_ints ns
@[simp] theorem w_isDct1 : ∀ ks vs, isDct (.dct ks vs) = true := fun _ _ => (rfl)
@[simp] theorem w_isDct2 : ∀ ks vs, isDct (.dcf ks vs) = true := fun _ _ => (rfl)
@[simp] theorem w_dgt1' : ∀ ks vs, dgtD (.dct ks vs) d = if kOk ks d then some (getK d ks vs) else none := fun _ _ => (rfl)
@[simp] theorem w_ownL : ownL ρ i = match ρ[i]? with | some (.own (.lst xs)) => some xs | _ => none := (rfl)
@[simp] theorem w_fin0 : ∀ fs, finOk [] fs = true := fun _ => (rfl)
@[simp] theorem w_fin1 : ∀ a f as fs, finOk (a :: as) (f :: fs) = (fin1 a f && finOk as fs) := fun _ _ _ _ => (rfl)
@[simp] theorem w_f1r : ∀ f, fin1 (.ro d) f = true := fun f => by cases f <;> rfl
@[simp] theorem w_f1o : fin1 (.own d) (.own e) = true := (rfl)
@[simp] theorem w_f1l : ∀ xs, fin1 (.own d) (.ro (.lst xs)) = true := fun _ => (rfl)
@[simp] theorem w_iint_non : isiD "int" (.non) = some false := by first | rfl | decide
@[simp] theorem w_iint_bl (bb : Bool) : isiD "int" (.bl bb) = some true := by first | rfl | decide
@[simp] theorem w_iint_int (nn : Int) : isiD "int" (.int nn) = some true := by first | rfl | decide
@[simp] theorem w_iint_str (zz : PySem.Str) : isiD "int" (.str zz) = some false := by first | rfl | decide
@[simp] theorem w_iint_tup (dd : List D) : isiD "int" (.tup dd) = some false := by first | rfl | decide
@[simp] theorem w_iint_lst (dd : List D) : isiD "int" (.lst dd) = some false := by first | rfl | decide
@[simp] theorem w_iint_dct (dd ee : List D) : isiD "int" (.dct dd ee) = some false := by first | rfl | decide
@[simp] theorem w_iint_scr (mm : List Int) : isiD "int" (.scr mm) = some false := by first | rfl | decide
@[simp] theorem w_ibool_non : isiD "bool" (.non) = some false := by first | rfl | decide
@[simp] theorem w_ibool_bl (bb : Bool) : isiD "bool" (.bl bb) = some true := by first | rfl | decide
@[simp] theorem w_ibool_int (nn : Int) : isiD "bool" (.int nn) = some false := by first | rfl | decide
@[simp] theorem w_ibool_str (zz : PySem.Str) : isiD "bool" (.str zz) = some false := by first | rfl | decide
@[simp] theorem w_ibool_tup (dd : List D) : isiD "bool" (.tup dd) = some false := by first | rfl | decide
@[simp] theorem w_ibool_lst (dd : List D) : isiD "bool" (.lst dd) = some false := by first | rfl | decide
@[simp] theorem w_ibool_dct (dd ee : List D) : isiD "bool" (.dct dd ee) = some false := by first | rfl | decide
@[simp] theorem w_ibool_scr (mm : List Int) : isiD "bool" (.scr mm) = some false := by first | rfl | decide
@[simp] theorem w_istr_non : isiD "str" (.non) = some false := by first | rfl | decide
@[simp] theorem w_istr_bl (bb : Bool) : isiD "str" (.bl bb) = some false := by first | rfl | decide
@[simp] theorem w_istr_int (nn : Int) : isiD "str" (.int nn) = some false := by first | rfl | decide
@[simp] theorem w_istr_str (zz : PySem.Str) : isiD "str" (.str zz) = some true := by first | rfl | decide
@[simp] theorem w_istr_tup (dd : List D) : isiD "str" (.tup dd) = some false := by first | rfl | decide
@[simp] theorem w_istr_lst (dd : List D) : isiD "str" (.lst dd) = some false := by first | rfl | decide
@[simp] theorem w_istr_dct (dd ee : List D) : isiD "str" (.dct dd ee) = some false := by first | rfl | decide
@[simp] theorem w_istr_scr (mm : List Int) : isiD "str" (.scr mm) = some false := by first | rfl | decide
@[simp] theorem w_ituple_non : isiD "tuple" (.non) = some false := by first | rfl | decide
@[simp] theorem w_ituple_bl (bb : Bool) : isiD "tuple" (.bl bb) = some false := by first | rfl | decide
@[simp] theorem w_ituple_int (nn : Int) : isiD "tuple" (.int nn) = some false := by first | rfl | decide
@[simp] theorem w_ituple_str (zz : PySem.Str) : isiD "tuple" (.str zz) = some false := by first | rfl | decide
@[simp] theorem w_ituple_tup (dd : List D) : isiD "tuple" (.tup dd) = some true := by first | rfl | decide
@[simp] theorem w_ituple_lst (dd : List D) : isiD "tuple" (.lst dd) = some false := by first | rfl | decide
@[simp] theorem w_ituple_dct (dd ee : List D) : isiD "tuple" (.dct dd ee) = some false := by first | rfl | decide
@[simp] theorem w_ituple_scr (mm : List Int) : isiD "tuple" (.scr mm) = some false := by first | rfl | decide
@[simp] theorem w_ilist_non : isiD "list" (.non) = some false := by first | rfl | decide
@[simp] theorem w_ilist_bl (bb : Bool) : isiD "list" (.bl bb) = some false := by first | rfl | decide
@[simp] theorem w_ilist_int (nn : Int) : isiD "list" (.int nn) = some false := by first | rfl | decide
@[simp] theorem w_ilist_str (zz : PySem.Str) : isiD "list" (.str zz) = some false := by first | rfl | decide
@[simp] theorem w_ilist_tup (dd : List D) : isiD "list" (.tup dd) = some false := by first | rfl | decide
@[simp] theorem w_ilist_lst (dd : List D) : isiD "list" (.lst dd) = some true := by first | rfl | decide
@[simp] theorem w_ilist_dct (dd ee : List D) : isiD "list" (.dct dd ee) = some false := by first | rfl | decide
@[simp] theorem w_ilist_scr (mm : List Int) : isiD "list" (.scr mm) = some true := by first | rfl | decide
@[simp] theorem w_idict_non : isiD "dict" (.non) = some false := by first | rfl | decide
@[simp] theorem w_idict_bl (bb : Bool) : isiD "dict" (.bl bb) = some false := by first | rfl | decide
@[simp] theorem w_idict_int (nn : Int) : isiD "dict" (.int nn) = some false := by first | rfl | decide
@[simp] theorem w_idict_str (zz : PySem.Str) : isiD "dict" (.str zz) = some false := by first | rfl | decide
@[simp] theorem w_idict_tup (dd : List D) : isiD "dict" (.tup dd) = some false := by first | rfl | decide
@[simp] theorem w_idict_lst (dd : List D) : isiD "dict" (.lst dd) = some false := by first | rfl | decide
@[simp] theorem w_idict_dct (dd ee : List D) : isiD "dict" (.dct dd ee) = some true := by first | rfl | decide
@[simp] theorem w_idict_scr (mm : List Int) : isiD "dict" (.scr mm) = some false := by first | rfl | decide
@[simp] theorem b_len1 (xs : List D) : bltD .len [.lst xs] = some (.val (.int xs.length)) := (rfl)
@[simp] theorem b_len2 (xs : List D) : bltD .len [.tup xs] = some (.val (.int xs.length)) := (rfl)
@[simp] theorem b_len3 (xs : List Int) : bltD .len [.scr xs] = some (.val (.int xs.length)) := (rfl)
@[simp] theorem b_tup1 (xs : List D) : bltD .tuple [.lst xs] = some (.val (.tup xs)) := (rfl)
@[simp] theorem b_tup2 (xs : List D) : bltD .tuple [.tup xs] = some (.val (.tup xs)) := (rfl)
@[simp] theorem b_lst1 (xs : List D) : bltD .list [.lst xs] = some (.fr (.lst xs)) := (rfl)
@[simp] theorem b_lst2 (xs : List D) : bltD .list [.tup xs] = some (.fr (.lst xs)) := (rfl)
@[simp] theorem b_lst3 (xs : List Int) : bltD .list [.scr xs] = some (.fr (.lst (xs.map .int))) := (rfl)
@[simp] theorem b_srt1 (ns : List Int) : bltD .sorted [.lst (ns.map .int)] = some (.fr (.lst ((isort ns).map .int))) := by simp [bltD]
@[simp] theorem b_srt2 (ns : List Int) : bltD .sorted [.set ns] = if ns.length < 64 then some (.fr (.lst ((isort ns).map .int))) else none := (rfl)
@[simp] theorem b_sum1 (ns : List Int) : bltD .sum [.lst (ns.map .int)] = some (.val (.int ns.sum)) := by simp [bltD]
@[simp] theorem b_sum2 (ns : List Int) : bltD .sum [.scr ns] = some (.val (.int ns.sum)) := (rfl)
@[simp] theorem b_min (i j : Int) : bltD .min [.int i, .int j] = some (.val (.int (if j < i then j else i))) := (rfl)
@[simp] theorem b_max (i j : Int) : bltD .max [.int i, .int j] = some (.val (.int (if j > i then j else i))) := (rfl)
@[simp] theorem b_abs (i : Int) : bltD .abs [.int i] = some (.val (.int (if i < 0 then -i else i))) := (rfl)
@[simp] theorem b_int (i : Int) : bltD .int [.int i] = some (.val (.int i)) := (rfl)
@[simp] theorem b_dm (i j : Int) : bltD .divmod [.int i, .int j] = if 0 < j ∧ j < 1073741824 then some (.val (.rtp [.int (i / j), .int (i % j)])) else none := (rfl)
@[simp] theorem b_all (bs : List Bool) : bltD .all [.lst (bs.map .bl)] = some (.val (.bl (bs.all id))) := by simp [bltD]
@[simp] theorem b_any (bs : List Bool) : bltD .any [.lst (bs.map .bl)] = some (.val (.bl (bs.any id))) := by simp [bltD]
@[simp] theorem b_set1 (ns : List Int) : bltD .set [.lst (ns.map .int)] = if ns.length ≤ 1000 then some (.fr (.set (dedup ns))) else none := by simp [bltD]
@[simp] theorem b_set2 (ns : List Int) : bltD .set [.tup (ns.map .int)] = if ns.length ≤ 1000 then some (.fr (.set (dedup ns))) else none := by simp [bltD]
@[simp] theorem b_sdct (ks vs : List D) : bltD .sorted [.dct ks vs] = if ks.all isT && srtOk ks then some (.fr (.lst (srtD ks))) else none := (rfl)
@[simp] theorem b_sdcf (ks vs : List D) : bltD .sorted [.dcf ks vs] = if ks.all isT && srtOk ks then some (.fr (.lst (srtD ks))) else none := (rfl)
@[simp] theorem b_ldcf (ks vs : List D) : bltD .len [.dcf ks vs] = some (.val (.int ks.length)) := (rfl)
@[simp] theorem x_dcf (ks vs : List D) (k : D) : ixD (.dcf ks vs) k = if kOk ks k then getK k ks vs else none := (rfl)
@[simp] theorem i_dcf (ks vs : List D) (k : D) : inD k (.dcf ks vs) = if kOk ks k then some (getK k ks vs).isSome else none := by cases k <;> rfl
@[simp] theorem b_ldct (ks vs : List D) : bltD .len [.dct ks vs] = some (.val (.int ks.length)) := (rfl)
@[simp] theorem b_lset (ns : List Int) : bltD .len [.set ns] = if ns.length ≤ most then some (.val (.int ns.length)) else none := (rfl)
@[simp] theorem b_sortt (ns : List Int) : bltD .sorted [.tup (ns.map .int)] = some (.fr (.lst ((isort ns).map .int))) := by simp [bltD]
theorem b_sortd {xs : List D} (h : intsOf xs = none) (h2 : srtOk xs = true) : bltD .sorted [.lst xs] = some (.fr (.lst (srtD xs))) := by simp [bltD, h, h2]
@[simp] theorem o_add (i j : Int) : binD .Add (.int i) (.int j) = some (.val (.int (i + j))) := (rfl)
@[simp] theorem o_sub (i j : Int) : binD .Sub (.int i) (.int j) = some (.val (.int (i - j))) := (rfl)
@[simp] theorem o_mul (i j : Int) : binD .Mult (.int i) (.int j) = if R64 i ∨ R64 j then some (.val (.int (i * j))) else none := (rfl)
@[simp] theorem o_div (i j : Int) : binD .FloorDiv (.int i) (.int j) = if 0 < j ∧ j < 1073741824 then some (.val (.int (i / j))) else none := (rfl)
@[simp] theorem o_mod (i j : Int) : binD .Mod (.int i) (.int j) = if 0 < j then some (.val (.int (i % j))) else none := (rfl)
@[simp] theorem o_pow (i j : Int) : binD .Pow (.int i) (.int j) = if 0 ≤ j ∧ j ≤ 1000000 ∧ i.natAbs < 2 ^ 64 then some (.val (.int (i ^ j.toNat))) else none := (rfl)
@[simp] theorem o_lst (xs ys : List D) : binD .Add (.lst xs) (.lst ys) = if xs.length + ys.length ≤ most then some (.fr (.lst (xs ++ ys))) else none := (rfl)
@[simp] theorem o_tup (xs ys : List D) : binD .Add (.tup xs) (.tup ys) = if xs.length + ys.length ≤ most then some (.val (.tup (xs ++ ys))) else none := (rfl)
@[simp] theorem o_rep (xs : List D) (k : Int) : binD .Mult (.lst xs) (.int k) = if R63 k ∧ xs.length * k.toNat ≤ most then some (.fr (.lst (List.replicate k.toNat xs).flatten)) else none := by
  show (if -(2 ^ 63) ≤ k ∧ k < 2 ^ 63 ∧ xs.length * k.toNat ≤ most then _ else _) = _
  unfold R63
  simp only [and_assoc]
@[simp] theorem o_rept (xs : List D) (k : Int) : binD .Mult (.tup xs) (.int k) = if R63 k ∧ xs.length * k.toNat ≤ most then some (.val (.tup (List.replicate k.toNat xs).flatten)) else none := by
  show (if -(2 ^ 63) ≤ k ∧ k < 2 ^ 63 ∧ xs.length * k.toNat ≤ most then _ else _) = _
  unfold R63
  simp only [and_assoc]
@[simp] theorem c_lt (i j : Int) : cmpD .Lt (.int i) (.int j) = some (decide (i < j)) := (rfl)
@[simp] theorem c_le (i j : Int) : cmpD .LtE (.int i) (.int j) = some (decide (i ≤ j)) := (rfl)
@[simp] theorem c_gt (i j : Int) : cmpD .Gt (.int i) (.int j) = some (decide (j < i)) := (rfl)
@[simp] theorem c_ge (i j : Int) : cmpD .GtE (.int i) (.int j) = some (decide (j ≤ i)) := (rfl)
@[simp] theorem c_isn (d : D) : cmpD .Is d .non = some (isNon d) := by cases d <;> rfl
@[simp] theorem c_ntn (d : D) : cmpD .IsNot d .non = some (!isNon d) := by cases d <;> rfl
@[simp] theorem c_isb (a : D) (y : Bool) : cmpD .Is a (.bl y) = some (isBlD a y) := by cases a <;> rfl
@[simp] theorem c_ntb (a : D) (y : Bool) : cmpD .IsNot a (.bl y) = some (!isBlD a y) := by cases a <;> rfl
@[simp] theorem isb_bl (x y : Bool) : isBlD (.bl x) y = decide (x = y) := (rfl)
@[simp] theorem isb_non (y : Bool) : isBlD .non y = false := (rfl)
@[simp] theorem isb_int (i : Int) (y : Bool) : isBlD (.int i) y = false := (rfl)
@[simp] theorem isb_str (i : PySem.Str) (y : Bool) : isBlD (.str i) y = false := (rfl)
@[simp] theorem isb_tup (i : List D) (y : Bool) : isBlD (.tup i) y = false := (rfl)
@[simp] theorem isb_lst (i : List D) (y : Bool) : isBlD (.lst i) y = false := (rfl)
@[simp] theorem isb_dct (i j : List D) (y : Bool) : isBlD (.dct i j) y = false := (rfl)
@[simp] theorem rev_lst (xs : List D) : revD (.lst xs) = some (.fr (.lst xs.reverse)) := (rfl)
@[simp] theorem rev_tup (xs : List D) : revD (.tup xs) = some (.val (.tup xs.reverse)) := (rfl)
@[simp] theorem c_in (d e : D) : cmpD .In d e = inD d e := by cases d <;> cases e <;> rfl
@[simp] theorem c_nin (d e : D) : cmpD .NotIn d e = (inD d e).map (!·) := by cases d <;> cases e <;> rfl
@[simp] theorem x_lst (xs : List D) (k : Int) : ixD (.lst xs) (.int k) = L2.atI xs k := (rfl)
@[simp] theorem x_tup (xs : List D) (k : Int) : ixD (.tup xs) (.int k) = L2.atI xs k := (rfl)
@[simp] theorem x_dct (ks vs : List D) (k : D) : ixD (.dct ks vs) k = if kOk ks k then getK k ks vs else none := (rfl)
@[simp] theorem i_dct (ks vs : List D) (k : D) : inD k (.dct ks vs) = if kOk ks k then some (getK k ks vs).isSome else none := by cases k <;> rfl
@[simp] theorem x_scr (xs : List Int) (k : Int) : ixD (.scr xs) (.int k) = (L2.atI xs k).map .int := (rfl)
@[simp] theorem r_1 (j : Int) : rngD [.int j] = if R62 j then some ((List.range j.toNat).map fun (k : Nat) => D.int k) else none := (rfl)
@[simp] theorem r_2 (i j : Int) : rngD [.int i, .int j] = if R62 i ∧ R62 j then some ((List.range (j - i).toNat).map fun (k : Nat) => D.int (i + k)) else none := (rfl)
@[simp] theorem n_non : isNon .non = true := (rfl)
@[simp] theorem n_int (i : Int) : isNon (.int i) = false := (rfl)
@[simp] theorem n_tup (i : List D) : isNon (.tup i) = false := (rfl)
@[simp] theorem n_lst (i : List D) : isNon (.lst i) = false := (rfl)
@[simp] theorem n_bl (i : Bool) : isNon (.bl i) = false := (rfl)
@[simp] theorem n_str (i : PySem.Str) : isNon (.str i) = false := (rfl)
@[simp] theorem t_non : truth .non = some false := (rfl)
@[simp] theorem t_bl (b : Bool) : truth (.bl b) = some b := (rfl)
@[simp] theorem t_int (i : Int) : truth (.int i) = some (i != 0) := (rfl)
@[simp] theorem t_tup (xs : List D) : truth (.tup xs) = some (!xs.isEmpty) := (rfl)
@[simp] theorem t_lst (xs : List D) : truth (.lst xs) = some (!xs.isEmpty) := (rfl)
@[simp] theorem t_scr (xs : List Int) : truth (.scr xs) = some (!xs.isEmpty) := (rfl)
end
/-! ### values that == tells apart -/
def Ok (n : Nat) (d : D) : Prop := d.eqOk = true ∧ d.py.canLay0 = true ∧ d.py.depth ≤ n
theorem Ok.mono {n m : Nat} {d : D} (h : Ok n d) (l : n ≤ m) : Ok m d := ⟨h.1, h.2.1, Nat.le_trans h.2.2 l⟩
theorem Ok.cmp {n : Nat} {d : D} (h : Ok n d) (l : n ≤ 64) : d.cmpOk = true := by
  unfold D.cmpOk PySem.SeqAt.shaped
  rw [h.1, h.2.1]
  simpa using Nat.le_trans h.2.2 l
theorem ok_all {n : Nat} : ∀ {ds : List D}, (∀ d ∈ ds, Ok n d) → eqOkAll ds = true ∧ PySem.PyData.canLayAll0 (pyAll ds) = true ∧ PySem.PyData.depthAll (pyAll ds) ≤ n
  | [], _ => ⟨rfl, by simp [pyAll, PySem.PyData.canLayAll0], Nat.zero_le _⟩
  | d :: ds, h => by
    obtain ⟨h1, h2, h3⟩ := ok_all fun e he => h e (List.mem_cons_of_mem _ he)
    obtain ⟨g1, g2, g3⟩ := h d List.mem_cons_self
    refine ⟨?_, ?_, ?_⟩
    · show (d.eqOk && eqOkAll ds) = true
      rw [g1, h1]; rfl
    · show PySem.PyData.canLayAll0 (d.py :: pyAll ds) = true
      simp [PySem.PyData.canLayAll0, g2, h2]
    · show max d.py.depth (PySem.PyData.depthAll (pyAll ds)) ≤ n
      omega
theorem ok_tup {n : Nat} {ds : List D} (h : ∀ d ∈ ds, Ok n d) : Ok (n + 1) (.tup ds) := by
  obtain ⟨h1, h2, h3⟩ := ok_all h
  exact ⟨h1, by show PySem.PyData.canLay0 (.tuple (pyAll ds)) = true; simpa [PySem.PyData.canLay0] using h2, Nat.succ_le_succ h3⟩
theorem ok_lst {n : Nat} {ds : List D} (h : ∀ d ∈ ds, Ok n d) : Ok (n + 1) (.lst ds) := by
  obtain ⟨h1, h2, h3⟩ := ok_all h
  exact ⟨h1, by show PySem.PyData.canLay0 (.list (pyAll ds)) = true; simpa [PySem.PyData.canLay0] using h2, Nat.succ_le_succ h3⟩
theorem ok_int (i : Int) : Ok 0 (.int i) := ⟨rfl, by simp [D.py, PySem.PyData.canLay0], Nat.le_refl _⟩
theorem ok_bl (i : Bool) : Ok 0 (.bl i) := ⟨rfl, by simp [D.py, PySem.PyData.canLay0], Nat.le_refl _⟩
theorem ok_non : Ok 0 .non := ⟨rfl, by simp [D.py, PySem.PyData.canLay0], Nat.le_refl _⟩
/-- how values of a type are told, so that == is their own -/
structure Enc {α : Type} [DecidableEq α] (n : Nat) (e : α → D) : Prop where
  ok : ∀ a, Ok n (e a)
  eqv : ∀ a b, (e a).eqv (e b) = decide (a = b)
theorem enc_int : Enc 0 D.int := ⟨ok_int, fun a b => by show PySem.PyData.eqv (.int a) (.int b) = _; simp [PySem.PyData.eqv]; rfl⟩
theorem eqvAll_enc {α : Type} [DecidableEq α] {n : Nat} {e : α → D} (h : Enc n e) : ∀ xs ys : List α, PySem.PyData.eqvAll (pyAll (xs.map e)) (pyAll (ys.map e)) = decide (xs = ys)
  | [], [] => by simp [pyAll, PySem.PyData.eqvAll]
  | [], y :: ys => by simp [pyAll, PySem.PyData.eqvAll]
  | x :: xs, [] => by simp [pyAll, PySem.PyData.eqvAll]
  | x :: xs, y :: ys => by
    have ih := eqvAll_enc h xs ys
    have hx : PySem.PyData.eqv (e x).py (e y).py = decide (x = y) := h.eqv x y
    simp [pyAll, PySem.PyData.eqvAll, ih, hx]
theorem enc_tup {α : Type} [DecidableEq α] {n : Nat} {e : α → D} (h : Enc n e) : Enc (n + 1) (fun l : List α => D.tup (l.map e)) :=
  ⟨fun l => ok_tup fun d hd => by obtain ⟨a, _, rfl⟩ := List.mem_map.mp hd; exact h.ok a, fun a b => by
    show PySem.PyData.eqv (.tuple (pyAll (a.map e))) (.tuple (pyAll (b.map e))) = _
    simpa [PySem.PyData.eqv] using eqvAll_enc h a b⟩
theorem enc_lst {α : Type} [DecidableEq α] {n : Nat} {e : α → D} (h : Enc n e) : Enc (n + 1) (fun l : List α => D.lst (l.map e)) :=
  ⟨fun l => ok_lst fun d hd => by obtain ⟨a, _, rfl⟩ := List.mem_map.mp hd; exact h.ok a, fun a b => by
    show PySem.PyData.eqv (.list (pyAll (a.map e))) (.list (pyAll (b.map e))) = _
    simpa [PySem.PyData.eqv] using eqvAll_enc h a b⟩
section
variable {α : Type} [DecidableEq α] {n : Nat} {e : α → D}
theorem Enc.eq (h : Enc n e) (l : n ≤ 64) (a b : α) : cmpD .Eq (e a) (e b) = some (decide (a = b)) := by
  have : cmpD .Eq (e a) (e b) = if (e a).cmpOk && (e b).cmpOk then some ((e a).eqv (e b)) else none := by cases e a <;> cases e b <;> rfl
  rw [this, (h.ok a).cmp l, (h.ok b).cmp l, h.eqv]; rfl
theorem Enc.ne (h : Enc n e) (l : n ≤ 64) (a b : α) : cmpD .NotEq (e a) (e b) = some (!decide (a = b)) := by
  have : cmpD .NotEq (e a) (e b) = if (e a).cmpOk && (e b).cmpOk then some (!(e a).eqv (e b)) else none := by cases e a <;> cases e b <;> rfl
  rw [this, (h.ok a).cmp l, (h.ok b).cmp l, h.eqv]; rfl
theorem Enc.mem (h : Enc n e) (l : n + 1 ≤ 64) (a : α) (xs : List α) : inD (e a) (.lst (xs.map e)) = some (decide (a ∈ xs)) := by
  have h2 := ((enc_lst h).ok xs).cmp l
  show (if (e a).cmpOk && (D.lst (xs.map e)).cmpOk then some ((xs.map e).any fun z => z.eqv (e a)) else none) = _
  rw [(h.ok a).cmp (by omega), h2]
  refine congrArg some ?_
  rw [List.any_map, Bool.eq_iff_iff]
  simp [h.eqv]
end
@[simp] theorem c_eqi (i j : Int) : cmpD .Eq (.int i) (.int j) = some (decide (i = j)) := enc_int.eq (by decide) i j
@[simp] theorem c_nei (i j : Int) : cmpD .NotEq (.int i) (.int j) = some (!decide (i = j)) := enc_int.ne (by decide) i j
@[simp] theorem c_int (i : Int) (ns : List Int) : inD (.int i) (.lst (ns.map .int)) = some (decide (i ∈ ns)) := enc_int.mem (by decide) i ns
@[simp] theorem c_intup (i : Int) (ns : List Int) : inD (.int i) (.tup (ns.map .int)) = some (decide (i ∈ ns)) := by simp [inD]
@[simp] theorem c_eqt (a b : List Int) : cmpD .Eq (.tup (a.map .int)) (.tup (b.map .int)) = some (decide (a = b)) := (enc_tup enc_int).eq (by decide) a b
@[simp] theorem c_net (a b : List Int) : cmpD .NotEq (.tup (a.map .int)) (.tup (b.map .int)) = some (!decide (a = b)) := (enc_tup enc_int).ne (by decide) a b
@[simp] theorem c_eql (a b : List Int) : cmpD .Eq (.lst (a.map .int)) (.lst (b.map .int)) = some (decide (a = b)) := (enc_lst enc_int).eq (by decide) a b
@[simp] theorem c_nel (a b : List Int) : cmpD .NotEq (.lst (a.map .int)) (.lst (b.map .int)) = some (!decide (a = b)) := (enc_lst enc_int).ne (by decide) a b
@[simp] theorem c_eqb (i j : Bool) : cmpD .Eq (.bl i) (.bl j) = some (decide (i = j)) := by cases i <;> cases j <;> decide +kernel
@[simp] theorem c_neb (i j : Bool) : cmpD .NotEq (.bl i) (.bl j) = some (!decide (i = j)) := by cases i <;> cases j <;> decide +kernel
theorem ok_cmp2 {n m : Nat} {d e : D} (h : Ok n d) (h' : Ok m e) (l : n ≤ 64) (l' : m ≤ 64) : cmpD .Eq d e = some (d.eqv e) ∧ cmpD .NotEq d e = some (!d.eqv e) := by
  have e1 : cmpD .Eq d e = if d.cmpOk && e.cmpOk then some (d.eqv e) else none := by cases d <;> cases e <;> rfl
  have e2 : cmpD .NotEq d e = if d.cmpOk && e.cmpOk then some (!d.eqv e) else none := by cases d <;> cases e <;> rfl
  rw [e1, e2, h.cmp l, h'.cmp l']
  exact ⟨rfl, rfl⟩
theorem ok_nil : Ok 1 (.lst []) := ok_lst (n := 0) fun d hd => absurd hd (by simp)
theorem lst_nil {α : Type} {n : Nat} {e : α → D} {xs : List α} (h : ∀ x ∈ xs, Ok n (e x)) (l : n < 64) : cmpD .Eq (.lst (xs.map e)) (.lst []) = some xs.isEmpty ∧ cmpD .NotEq (.lst (xs.map e)) (.lst []) = some (!xs.isEmpty) := by
  have h1 : Ok (n + 1) (.lst (xs.map e)) := ok_lst fun d hd => by obtain ⟨a, ha, rfl⟩ := List.mem_map.mp hd; exact h a ha
  obtain ⟨e1, e2⟩ := ok_cmp2 h1 ok_nil (by omega) (by decide)
  have e3 : (D.lst (xs.map e)).eqv (.lst []) = xs.isEmpty := by
    cases xs with
    | nil => show PySem.PyData.eqv (.list (pyAll [])) (.list (pyAll [])) = true; simp [PySem.PyData.eqv, pyAll, PySem.PyData.eqvAll]
    | cons x xs => show PySem.PyData.eqv (.list (pyAll ((x :: xs).map e))) (.list (pyAll [])) = false; simp [PySem.PyData.eqv, pyAll, PySem.PyData.eqvAll]
  rw [e1, e2, e3]
  exact ⟨rfl, rfl⟩
theorem enumD_map {α : Type} (e : α → D) : ∀ (xs : List α) (n : Nat), enumD n (xs.map e) = (xs.zipIdx n).map fun q => D.rtp [.int ((q.2 : Nat) : Int), e q.1]
  | [], _ => rfl
  | x :: xs, n => by
    show D.rtp [.int n, e x] :: enumD (n + 1) (xs.map e) = _
    rw [enumD_map e xs (n + 1)]
    rfl
@[simp] theorem b_allr (n : Nat) : bltD .all [.lst (List.replicate n (.bl true))] = some (.val (.bl true)) := by
  have := b_all (List.replicate n true)
  rw [List.map_replicate] at this
  rw [this]
  simp
theorem cut_hi (xs : List D) {k : Int} (h : 0 ≤ k) : cutD xs none (some k) = xs.take k.toNat := by
  obtain ⟨n, rfl⟩ := Int.eq_ofNat_of_zero_le h
  unfold cutD
  rw [HT.sIx_nat, HT.sIx_none, List.drop_zero, Nat.sub_zero, Int.toNat_natCast]
  by_cases h : n ≤ xs.length
  · rw [Nat.min_eq_left h]
  · rw [Nat.min_eq_right (by omega), List.take_length, List.take_of_length_le (by omega)]
theorem cut_lo (xs : List D) {k : Int} (h : 0 ≤ k) : cutD xs (some k) none = xs.drop k.toNat := by
  obtain ⟨n, rfl⟩ := Int.eq_ofNat_of_zero_le h
  unfold cutD
  rw [HT.sIx_nat, HT.sIx_none, Int.toNat_natCast]
  by_cases h : n ≤ xs.length
  · rw [Nat.min_eq_left h]
    exact List.take_of_length_le (by simp)
  · rw [Nat.min_eq_right (by omega), List.drop_eq_nil_of_le (Nat.le_refl _), List.drop_eq_nil_of_le (by omega), List.take_nil]
@[simp] theorem s_hi1 (xs : List D) {k : Int} (h : 0 ≤ k) : slcD (.lst xs) none (some k) = some (.fr (.lst (xs.take k.toNat))) := by show some _ = _; rw [cut_hi xs h]
@[simp] theorem s_hi2 (xs : List D) {k : Int} (h : 0 ≤ k) : slcD (.tup xs) none (some k) = some (.val (.tup (xs.take k.toNat))) := by show some _ = _; rw [cut_hi xs h]
@[simp] theorem s_hi3 (xs : List Int) {k : Int} (h : 0 ≤ k) : slcD (.scr xs) none (some k) = some (.fr (.lst ((xs.take k.toNat).map .int))) := by show some _ = _; rw [cut_hi _ h, List.map_take]
@[simp] theorem s_lo1 (xs : List D) {k : Int} (h : 0 ≤ k) : slcD (.lst xs) (some k) none = some (.fr (.lst (xs.drop k.toNat))) := by show some _ = _; rw [cut_lo xs h]
@[simp] theorem s_lo2 (xs : List D) {k : Int} (h : 0 ≤ k) : slcD (.tup xs) (some k) none = some (.val (.tup (xs.drop k.toNat))) := by show some _ = _; rw [cut_lo xs h]
@[simp] theorem most_1 : 1 ≤ most := (by decide : 1 ≤ 16000000)
@[simp] theorem most_2 : 2 ≤ most := (by decide : 2 ≤ 16000000)
@[simp] theorem most_3 : 3 ≤ most := (by decide : 3 ≤ 16000000)
@[simp] theorem most_4 : 4 ≤ most := (by decide : 4 ≤ 16000000)
@[simp] theorem most_5 : 5 ≤ most := (by decide : 5 ≤ 16000000)
@[simp] theorem most_6 : 6 ≤ most := (by decide : 6 ≤ 16000000)
@[simp] theorem most_7 : 7 ≤ most := (by decide : 7 ≤ 16000000)
@[simp] theorem most_8 : 8 ≤ most := (by decide : 8 ≤ 16000000)
@[simp] theorem most_9 : 9 ≤ most := (by decide : 9 ≤ 16000000)
@[simp] theorem most_10 : 10 ≤ most := (by decide : 10 ≤ 16000000)
@[simp] theorem most_11 : 11 ≤ most := (by decide : 11 ≤ 16000000)
@[simp] theorem most_12 : 12 ≤ most := (by decide : 12 ≤ 16000000)
theorem w_most {n : Nat} (h : n ≤ 16000000) : n ≤ most := h
/-! ### places -/
theorem atI_of {α : Type} {xs : List α} {i : Int} {x : α} (h0 : 0 ≤ i) (h : xs[i.toNat]? = some x) : L2.atI xs i = some x := by
  have hl := (List.getElem?_eq_some_iff.mp h).1
  unfold L2.atI L2.ixN
  rw [if_pos h0, if_pos (by omega)]
  exact h
theorem atI_ge {α : Type} {xs : List α} {i : Int} (h0 : 0 ≤ i) (h : i < xs.length) : L2.atI xs i = xs[i.toNat]? := by
  unfold L2.atI L2.ixN
  rw [if_pos h0, if_pos h]
  rfl
@[simp] theorem atI_lit {α : Type} (x : α) (xs : List α) : L2.atI (x :: xs) 0 = some x := atI_of (by decide) rfl
end PV

/-! PX, part A: how the shared functions are reckoned with. -/
namespace PX
open PV
theorem call_fn {P : Pg} {fl k : Nat} {x : PySem.Str} {fd : Fd} {as : List Sl} (h : P.fn x = some fd) : (cfg P fl (k + 1)).call x as = run (cfg P fl k) fd as := by
  show (P.fn x).bind _ = _
  rw [h]; rfl
@[simp] theorem x_permV {α : Type} (xs : List α) (perm : List Nat) : permV xs perm = perm.filterMap fun i => xs[i]? := rfl
@[simp] theorem x_permute (rs : List Rs) (perm : List Nat) : permute rs perm = if perm.Nodup ∧ perm.length = rs.length ∧ (∀ i ∈ perm, i < rs.length) then some (permV rs perm) else none := rfl
theorem cfg_glb {P : Pg} {fl k : Nat} : (cfg P fl k).glb = P.glb := by cases k <;> rfl
theorem cfg_fuel {P : Pg} {fl k : Nat} : (cfg P fl k).fuel = fl := by cases k <;> rfl
class GMost (P : Pg) : Prop where h_most : P.glb "MOST" = some (.int 8)
@[simp] theorem glb_most {P : Pg} [GMost P] {fl k : Nat} : (cfg P fl k).glb "MOST" = some (.int 8) := by rw [cfg_glb]; exact GMost.h_most
/-! ### loops that stand in the goal: generalize hL : lcLoop _ _ _ = L -/
section
variable {α β : Type} {f : D → Rho → Option (List D × Rho)} {e : α → D} {L : Option (List D × Rho)}
theorem lc_one {g : α → D} {ρ : Rho} {xs : List α} (hL : lcLoop f (xs.map e) ρ = L) (h : ∀ x ∈ xs, f (e x) ρ = some ([g x], ρ)) : L = some (xs.map g, ρ) := by
  rw [← hL]; exact lcLoop_one h
theorem lc_filter {g : α → D} {ρ : Rho} {p : α → Bool} {xs : List α} (hL : lcLoop f (xs.map e) ρ = L) (h : ∀ x ∈ xs, f (e x) ρ = some (if p x then [g x] else [], ρ)) : L = some ((xs.filter p).map g, ρ) := by
  rw [← hL]; exact lcLoop_filter h
theorem lcLoop_flat {g : β → D} {G : α → List β} {ρ : Rho} : ∀ {xs : List α}, (∀ x ∈ xs, f (e x) ρ = some ((G x).map g, ρ)) → lcLoop f (xs.map e) ρ = some ((xs.flatMap G).map g, ρ)
  | [], _ => rfl
  | x :: xs, h => by
    show (f (e x) ρ).bind _ = _
    rw [h x List.mem_cons_self]
    show (lcLoop f (xs.map e) ρ).map _ = _
    rw [lcLoop_flat fun y hy => h y (List.mem_cons_of_mem _ hy)]
    simp
theorem lc_flat {g : β → D} {G : α → List β} {ρ : Rho} {xs : List α} (hL : lcLoop f (xs.map e) ρ = L) (h : ∀ x ∈ xs, f (e x) ρ = some ((G x).map g, ρ)) : L = some ((xs.flatMap G).map g, ρ) := by
  rw [← hL]; exact lcLoop_flat h
theorem lc_draw {g : β → D} (I : Rho → Prop) (Q : β → Prop) {xs : List α} {ρ : Rho} (hL : lcLoop f (xs.map e) ρ = L) (h0 : I ρ) (h : ∀ x ∈ xs, ∀ ρ, I ρ → ∃ y ρ', f (e x) ρ = some ([g y], ρ') ∧ I ρ' ∧ Q y) :
    ∃ (ys : List β) (ρ' : Rho), L = some (ys.map g, ρ') ∧ I ρ' ∧ ys.length = xs.length ∧ ∀ y ∈ ys, Q y := by
  subst hL
  exact lcLoop_draw h0 h
theorem lc_ex (I : List D → Rho → Prop) {xs : List α} {ρ : Rho} (hL : lcLoop f (xs.map e) ρ = L) (h0 : I [] ρ) (h : ∀ x ∈ xs, ∀ acc ρ, I acc ρ → ∃ ds ρ', f (e x) ρ = some (ds, ρ') ∧ I (acc ++ ds) ρ') :
    ∃ ds ρ', L = some (ds, ρ') ∧ I ds ρ' := by
  subst hL
  obtain ⟨ds, ρ', e, h⟩ := lcLoop_ex h0 h
  exact ⟨ds, ρ', e, by simpa using h⟩
end
section
variable {α : Type} {f : D → Rho → Option (O × Rho)} {e : α → D} {L : Option (O × Rho)}
theorem for_nx (I : List α → Rho → Prop) {xs : List α} {ρ : Rho} (hL : forLoop f (xs.map e) ρ = L) (h0 : I [] ρ) (h : ∀ x ∈ xs, ∀ done ρ, I done ρ → ∃ ρ', f (e x) ρ = some (.nx, ρ') ∧ I (done ++ [x]) ρ') : ∃ ρ', L = some (.nx, ρ') ∧ I xs ρ' := by
  subst hL
  exact forLoop_nx (done := []) h0 h
theorem for_at (I : Nat → Rho → Prop) {xs : List α} {ρ : Rho} (hL : forLoop f (xs.map e) ρ = L) (h0 : I 0 ρ) (h : ∀ (i : Nat) (x : α), xs[i]? = some x → ∀ ρ, I i ρ → ∃ ρ', f (e x) ρ = some (.nx, ρ') ∧ I (i + 1) ρ') : ∃ ρ', L = some (.nx, ρ') ∧ I xs.length ρ' := by
  subst hL
  have := forLoop_at (f := f) (e := e) (I := I) (xs := xs) (n := 0) h0 (fun i x hx ρ hρ => by
    have := h i x hx ρ (by simpa using hρ)
    simpa using this)
  simpa using this
end
/-! ### plans -/
abbrev tI (p : List Int) : D := .tup (p.map .int)
/-- a plan of n villages -/
def Pl (n : Nat) (p : List Int) : Prop := p.length = n ∧ 1 ≤ n ∧ n ≤ 8 ∧ ∀ x ∈ p, 0 ≤ x ∧ x < n
theorem most8 {p : List Int} {n : Nat} (h : Pl n p) : p.length ≤ most := by rw [h.1]; exact Nat.le_trans h.2.2.1 (by decide)
theorem mostn {p : List Int} {n : Nat} (h : Pl n p) : n ≤ most := Nat.le_trans h.2.2.1 (by decide)
theorem all_true {α : Type} (f : α → Bool) : ∀ (xs : List α), (∀ x ∈ xs, f x = true) → xs.map (fun x => D.bl (f x)) = (List.replicate xs.length true).map .bl
  | [], _ => rfl
  | x :: xs, h => by
    rw [List.map_cons, all_true f xs fun y hy => h y (List.mem_cons_of_mem _ hy), h x List.mem_cons_self]
    rfl
@[simp] theorem b_alltrue {α : Type} (xs : List α) : bltD .all [.lst (xs.map fun _ => .bl true)] = some (.val (.bl true)) := by
  rw [List.map_const']; exact b_allr _
@[simp] theorem map_bl {α : Type} (f : α → Bool) (xs : List α) : bltD .all [.lst (xs.map fun x => .bl (f x))] = some (.val (.bl (xs.all f))) := by
  have := b_all (xs.map f)
  rw [List.map_map] at this
  rw [show (xs.map fun x => D.bl (f x)) = xs.map (D.bl ∘ f) from rfl, this, List.all_map]; rfl
theorem atI_i {α : Type} {xs : List α} {x : Int} {n : Nat} (d : α) (hl : xs.length = n) (h : 0 ≤ x ∧ x < n) : L2.atI xs x = some (xs[x.toNat]?.getD d) := by
  subst hl
  have h2 : xs[x.toNat]? = some (xs[x.toNat]'(by omega)) := List.getElem?_eq_getElem _
  rw [atI_ge h.1 h.2, h2]; rfl
/-- a place in a row of wholes -/
def at0 (p : List Int) (x : Int) : Int := p[x.toNat]?.getD 0
theorem at_i {p : List Int} {x : Int} {n : Nat} (hl : p.length = n) (h : 0 ≤ x ∧ x < n) : L2.atI (p.map D.int) x = some (.int (at0 p x)) := by
  subst hl
  have h2 : p[x.toNat]? = some (p[x.toNat]'(by omega)) := List.getElem?_eq_getElem _
  rw [atI_ge h.1 (by simpa using h.2), List.getElem?_map, h2]
  simp [at0, h2]
theorem at0_pl {n : Nat} {p : List Int} (h : Pl n p) {x : Int} (hx : 0 ≤ x ∧ x < n) : 0 ≤ at0 p x ∧ at0 p x < n := by
  have hl : x.toNat < p.length := by rw [h.1]; omega
  unfold at0
  rw [List.getElem?_eq_getElem hl]
  exact h.2.2.2 _ (List.getElem_mem hl)
theorem at0_mem {p : List Int} {x : Int} {n : Nat} (hl : p.length = n) (hx : 0 ≤ x ∧ x < n) : at0 p x ∈ p := by
  have hl : x.toNat < p.length := by omega
  unfold at0
  rw [List.getElem?_eq_getElem hl]
  exact List.getElem_mem hl
end PX

/-! PX, part B: the shared functions of plans. -/
namespace PX
open PV
class F_is_whole (P : Pg) : Prop where h_is_whole : P.fn "is_whole" = some ⟨["value"], 1, [.ret (.bop true (.isi (.var 0) "int") (.not (.isi (.var 0) "bool")))]⟩
theorem r_is_whole {P : Pg} [F_is_whole P] {fl k : Nat} {as : List Sl} : (cfg P fl (k + 1)).call "is_whole" as = run (cfg P fl k) ⟨["value"], 1, [.ret (.bop true (.isi (.var 0) "int") (.not (.isi (.var 0) "bool")))]⟩ as := call_fn F_is_whole.h_is_whole
class F_is_between (P : Pg) : Prop where h_is_between : P.fn "is_between" = some ⟨["value", "low", "high"], 3, [.ret (.bop true (.call "is_whole" [.var 0] [] [0]) (.chn .LtE .LtE (.var 1) (.var 0) (.var 2)))]⟩
theorem r_is_between {P : Pg} [F_is_between P] {fl k : Nat} {as : List Sl} : (cfg P fl (k + 1)).call "is_between" as = run (cfg P fl k) ⟨["value", "low", "high"], 3, [.ret (.bop true (.call "is_whole" [.var 0] [] [0]) (.chn .LtE .LtE (.var 1) (.var 0) (.var 2)))]⟩ as := call_fn F_is_between.h_is_between
class F_is_tuple_of (P : Pg) : Prop where h_is_tuple_of : P.fn "is_tuple_of" = some ⟨["value", "many"], 2, [.ret (.bop true (.isi (.var 0) "tuple") (.cmp .Eq (.blt .len [.var 0]) (.var 1)))]⟩
theorem r_is_tuple_of {P : Pg} [F_is_tuple_of P] {fl k : Nat} {as : List Sl} : (cfg P fl (k + 1)).call "is_tuple_of" as = run (cfg P fl k) ⟨["value", "many"], 2, [.ret (.bop true (.isi (.var 0) "tuple") (.cmp .Eq (.blt .len [.var 0]) (.var 1)))]⟩ as := call_fn F_is_tuple_of.h_is_tuple_of
class F_are_wholes (P : Pg) : Prop where h_are_wholes : P.fn "are_wholes" = some ⟨["value", "many"], 3, [.ret (.bop true (.call "is_tuple_of" [.var 0, .var 1] [] [0, 1]) (.blt .all [.lc (.call "is_whole" [.var 2] [] [0]) (.nm 2) (.ovr (.var 0)) none]))]⟩
theorem r_are_wholes {P : Pg} [F_are_wholes P] {fl k : Nat} {as : List Sl} : (cfg P fl (k + 1)).call "are_wholes" as = run (cfg P fl k) ⟨["value", "many"], 3, [.ret (.bop true (.call "is_tuple_of" [.var 0, .var 1] [] [0, 1]) (.blt .all [.lc (.call "is_whole" [.var 2] [] [0]) (.nm 2) (.ovr (.var 0)) none]))]⟩ as := call_fn F_are_wholes.h_are_wholes
class F_is_village_number (P : Pg) : Prop where h_is_village_number : P.fn "is_village_number" = some ⟨["value"], 1, [.ret (.call "is_between" [.var 0, .con (.int 1), .glb "MOST"] [] [0, 1, 2])]⟩
theorem r_is_village_number {P : Pg} [F_is_village_number P] {fl k : Nat} {as : List Sl} : (cfg P fl (k + 1)).call "is_village_number" as = run (cfg P fl k) ⟨["value"], 1, [.ret (.call "is_between" [.var 0, .con (.int 1), .glb "MOST"] [] [0, 1, 2])]⟩ as := call_fn F_is_village_number.h_is_village_number
class F_is_village (P : Pg) : Prop where h_is_village : P.fn "is_village" = some ⟨["many", "value"], 2, [.ret (.call "is_between" [.var 1, .con (.int 0), .bin .Sub (.var 0) (.con (.int 1))] [] [0, 1, 2])]⟩
theorem r_is_village {P : Pg} [F_is_village P] {fl k : Nat} {as : List Sl} : (cfg P fl (k + 1)).call "is_village" as = run (cfg P fl k) ⟨["many", "value"], 2, [.ret (.call "is_between" [.var 1, .con (.int 0), .bin .Sub (.var 0) (.con (.int 1))] [] [0, 1, 2])]⟩ as := call_fn F_is_village.h_is_village
class F_is_plan_of (P : Pg) : Prop where h_is_plan_of : P.fn "is_plan_of" = some ⟨["many", "value"], 3, [.ret (.bop true (.call "are_wholes" [.var 1, .var 0] [] [0, 1]) (.blt .all [.lc (.call "is_village" [.var 0, .var 2] [] [0, 1]) (.nm 2) (.ovr (.var 1)) none]))]⟩
theorem r_is_plan_of {P : Pg} [F_is_plan_of P] {fl k : Nat} {as : List Sl} : (cfg P fl (k + 1)).call "is_plan_of" as = run (cfg P fl k) ⟨["many", "value"], 3, [.ret (.bop true (.call "are_wholes" [.var 1, .var 0] [] [0, 1]) (.blt .all [.lc (.call "is_village" [.var 0, .var 2] [] [0, 1]) (.nm 2) (.ovr (.var 1)) none]))]⟩ as := call_fn F_is_plan_of.h_is_plan_of
class F_is_planned (P : Pg) : Prop where h_is_planned : P.fn "is_planned" = some ⟨["value"], 1, [.ret (.bop true (.isi (.var 0) "tuple") (.bop true (.call "is_village_number" [.blt .len [.var 0]] [] [0]) (.call "is_plan_of" [.blt .len [.var 0], .var 0] [] [0, 1])))]⟩
theorem r_is_planned {P : Pg} [F_is_planned P] {fl k : Nat} {as : List Sl} : (cfg P fl (k + 1)).call "is_planned" as = run (cfg P fl k) ⟨["value"], 1, [.ret (.bop true (.isi (.var 0) "tuple") (.bop true (.call "is_village_number" [.blt .len [.var 0]] [] [0]) (.call "is_plan_of" [.blt .len [.var 0], .var 0] [] [0, 1])))]⟩ as := call_fn F_is_planned.h_is_planned
class F_check_plan (P : Pg) : Prop where h_check_plan : P.fn "check_plan" = some ⟨["plan"], 1, [.ite (.not (.tru (.call "is_planned" [.var 0] [] [0]))) [badS] []]⟩
theorem r_check_plan {P : Pg} [F_check_plan P] {fl k : Nat} {as : List Sl} : (cfg P fl (k + 1)).call "check_plan" as = run (cfg P fl k) ⟨["plan"], 1, [.ite (.not (.tru (.call "is_planned" [.var 0] [] [0]))) [badS] []]⟩ as := call_fn F_check_plan.h_check_plan
class F_check_plan_of (P : Pg) : Prop where h_check_plan_of : P.fn "check_plan_of" = some ⟨["many", "plan"], 2, [.ite (.not (.tru (.call "is_plan_of" [.var 0, .var 1] [] [0, 1]))) [badS] []]⟩
theorem r_check_plan_of {P : Pg} [F_check_plan_of P] {fl k : Nat} {as : List Sl} : (cfg P fl (k + 1)).call "check_plan_of" as = run (cfg P fl k) ⟨["many", "plan"], 2, [.ite (.not (.tru (.call "is_plan_of" [.var 0, .var 1] [] [0, 1]))) [badS] []]⟩ as := call_fn F_check_plan_of.h_check_plan_of
class F_check_two_plans (P : Pg) : Prop where h_check_two_plans : P.fn "check_two_plans" = some ⟨["plan", "other"], 2, [.ex (.call "check_plan" [.var 0] [] [0]), .ex (.call "check_plan_of" [.blt .len [.var 0], .var 1] [] [0, 1])]⟩
theorem r_check_two_plans {P : Pg} [F_check_two_plans P] {fl k : Nat} {as : List Sl} : (cfg P fl (k + 1)).call "check_two_plans" as = run (cfg P fl k) ⟨["plan", "other"], 2, [.ex (.call "check_plan" [.var 0] [] [0]), .ex (.call "check_plan_of" [.blt .len [.var 0], .var 1] [] [0, 1])]⟩ as := call_fn F_check_two_plans.h_check_two_plans
class F_check_villages (P : Pg) : Prop where h_check_villages : P.fn "check_villages" = some ⟨["number"], 1, [.ite (.not (.tru (.call "is_village_number" [.var 0] [] [0]))) [badS] []]⟩
theorem r_check_villages {P : Pg} [F_check_villages P] {fl k : Nat} {as : List Sl} : (cfg P fl (k + 1)).call "check_villages" as = run (cfg P fl k) ⟨["number"], 1, [.ite (.not (.tru (.call "is_village_number" [.var 0] [] [0]))) [badS] []]⟩ as := call_fn F_check_villages.h_check_villages
class F_behind_of (P : Pg) : Prop where h_behind_of : P.fn "behind_of" = some ⟨["plan", "other"], 3, [.ret (.blt .tuple [.lc (.ix (.var 1) (.var 2)) (.nm 2) (.ovr (.var 0)) none])]⟩
theorem r_behind_of {P : Pg} [F_behind_of P] {fl k : Nat} {as : List Sl} : (cfg P fl (k + 1)).call "behind_of" as = run (cfg P fl k) ⟨["plan", "other"], 3, [.ret (.blt .tuple [.lc (.ix (.var 1) (.var 2)) (.nm 2) (.ovr (.var 0)) none])]⟩ as := call_fn F_behind_of.h_behind_of
class F_behind (P : Pg) : Prop where h_behind : P.fn "behind" = some ⟨["plan", "other"], 2, [.ex (.call "check_two_plans" [.var 0, .var 1] [] [0, 1]), .ret (.call "behind_of" [.var 0, .var 1] [] [0, 1])]⟩
theorem r_behind {P : Pg} [F_behind P] {fl k : Nat} {as : List Sl} : (cfg P fl (k + 1)).call "behind" as = run (cfg P fl k) ⟨["plan", "other"], 2, [.ex (.call "check_two_plans" [.var 0, .var 1] [] [0, 1]), .ret (.call "behind_of" [.var 0, .var 1] [] [0, 1])]⟩ as := call_fn F_behind.h_behind
class F_shown_of (P : Pg) : Prop where h_shown_of : P.fn "shown_of" = some ⟨["plan"], 1, [.ret (.blt .tuple [.blt .sorted [.blt .set [.var 0]]])]⟩
theorem r_shown_of {P : Pg} [F_shown_of P] {fl k : Nat} {as : List Sl} : (cfg P fl (k + 1)).call "shown_of" as = run (cfg P fl k) ⟨["plan"], 1, [.ret (.blt .tuple [.blt .sorted [.blt .set [.var 0]]])]⟩ as := call_fn F_shown_of.h_shown_of
class F_shown (P : Pg) : Prop where h_shown : P.fn "shown" = some ⟨["plan"], 1, [.ex (.call "check_plan" [.var 0] [] [0]), .ret (.call "shown_of" [.var 0] [] [0])]⟩
theorem r_shown {P : Pg} [F_shown P] {fl k : Nat} {as : List Sl} : (cfg P fl (k + 1)).call "shown" as = run (cfg P fl k) ⟨["plan"], 1, [.ex (.call "check_plan" [.var 0] [] [0]), .ret (.call "shown_of" [.var 0] [] [0])]⟩ as := call_fn F_shown.h_shown
class F_showing (P : Pg) : Prop where h_showing : P.fn "showing" = some ⟨["plan", "village"], 4, [.ret (.blt .tuple [.lc (.var 2) (.tp [2, 3]) (.enm (.var 0)) (some (.cmp .Eq (.var 3) (.var 1)))])]⟩
theorem r_showing {P : Pg} [F_showing P] {fl k : Nat} {as : List Sl} : (cfg P fl (k + 1)).call "showing" as = run (cfg P fl k) ⟨["plan", "village"], 4, [.ret (.blt .tuple [.lc (.var 2) (.tp [2, 3]) (.enm (.var 0)) (some (.cmp .Eq (.var 3) (.var 1)))])]⟩ as := call_fn F_showing.h_showing
class F_lots_of (P : Pg) : Prop where h_lots_of : P.fn "lots_of" = some ⟨["plan"], 2, [.ret (.blt .sorted [.lc (.call "showing" [.var 0, .var 1] [] [0, 1]) (.nm 1) (.ovr (.call "shown_of" [.var 0] [] [0])) none])]⟩
theorem r_lots_of {P : Pg} [F_lots_of P] {fl k : Nat} {as : List Sl} : (cfg P fl (k + 1)).call "lots_of" as = run (cfg P fl k) ⟨["plan"], 2, [.ret (.blt .sorted [.lc (.call "showing" [.var 0, .var 1] [] [0, 1]) (.nm 1) (.ovr (.call "shown_of" [.var 0] [] [0])) none])]⟩ as := call_fn F_lots_of.h_lots_of
class F_lots (P : Pg) : Prop where h_lots : P.fn "lots" = some ⟨["plan"], 1, [.ex (.call "check_plan" [.var 0] [] [0]), .ret (.blt .tuple [.call "lots_of" [.var 0] [] [0]])]⟩
theorem r_lots {P : Pg} [F_lots P] {fl k : Nat} {as : List Sl} : (cfg P fl (k + 1)).call "lots" as = run (cfg P fl k) ⟨["plan"], 1, [.ex (.call "check_plan" [.var 0] [] [0]), .ret (.blt .tuple [.call "lots_of" [.var 0] [] [0]])]⟩ as := call_fn F_lots.h_lots
class F_still_of (P : Pg) : Prop where h_still_of : P.fn "still_of" = some ⟨["many"], 1, [.ret (.ofr true [.var 0])]⟩
theorem r_still_of {P : Pg} [F_still_of P] {fl k : Nat} {as : List Sl} : (cfg P fl (k + 1)).call "still_of" as = run (cfg P fl k) ⟨["many"], 1, [.ret (.ofr true [.var 0])]⟩ as := call_fn F_still_of.h_still_of
class F_still (P : Pg) : Prop where h_still : P.fn "still" = some ⟨["number"], 1, [.ex (.call "check_villages" [.var 0] [] [0]), .ret (.call "still_of" [.var 0] [] [0])]⟩
theorem r_still {P : Pg} [F_still P] {fl k : Nat} {as : List Sl} : (cfg P fl (k + 1)).call "still" as = run (cfg P fl k) ⟨["number"], 1, [.ex (.call "check_villages" [.var 0] [] [0]), .ret (.call "still_of" [.var 0] [] [0])]⟩ as := call_fn F_still.h_still
class F_is_order_of (P : Pg) : Prop where h_is_order_of : P.fn "is_order_of" = some ⟨["many", "value"], 2, [.ret (.bop true (.call "are_wholes" [.var 1, .var 0] [] [0, 1]) (.cmp .Eq (.blt .sorted [.var 1]) (.ofr false [.var 0])))]⟩
theorem r_is_order_of {P : Pg} [F_is_order_of P] {fl k : Nat} {as : List Sl} : (cfg P fl (k + 1)).call "is_order_of" as = run (cfg P fl k) ⟨["many", "value"], 2, [.ret (.bop true (.call "are_wholes" [.var 1, .var 0] [] [0, 1]) (.cmp .Eq (.blt .sorted [.var 1]) (.ofr false [.var 0])))]⟩ as := call_fn F_is_order_of.h_is_order_of
class F_renamed_by (P : Pg) : Prop where h_renamed_by : P.fn "renamed_by" = some ⟨["plan", "order"], 5, [.asg 2 (.dc (.ix (.var 1) (.var 3)) (.ix (.var 1) (.var 4)) (.tp [3, 4]) (.enm (.var 0)) none), .ret (.blt .tuple [.lc (.ix (.var 2) (.var 3)) (.nm 3) (.rng [.blt .len [.var 0]]) none])]⟩
theorem r_renamed_by {P : Pg} [F_renamed_by P] {fl k : Nat} {as : List Sl} : (cfg P fl (k + 1)).call "renamed_by" as = run (cfg P fl k) ⟨["plan", "order"], 5, [.asg 2 (.dc (.ix (.var 1) (.var 3)) (.ix (.var 1) (.var 4)) (.tp [3, 4]) (.enm (.var 0)) none), .ret (.blt .tuple [.lc (.ix (.var 2) (.var 3)) (.nm 3) (.rng [.blt .len [.var 0]]) none])]⟩ as := call_fn F_renamed_by.h_renamed_by
class F_renamed (P : Pg) : Prop where h_renamed : P.fn "renamed" = some ⟨["plan", "order"], 2, [.ex (.call "check_plan" [.var 0] [] [0]), .ite (.not (.tru (.call "is_order_of" [.blt .len [.var 0], .var 1] [] [0, 1]))) [badS] [], .ret (.call "renamed_by" [.var 0, .var 1] [] [0, 1])]⟩
theorem r_renamed {P : Pg} [F_renamed P] {fl k : Nat} {as : List Sl} : (cfg P fl (k + 1)).call "renamed" as = run (cfg P fl k) ⟨["plan", "order"], 2, [.ex (.call "check_plan" [.var 0] [] [0]), .ite (.not (.tru (.call "is_order_of" [.blt .len [.var 0], .var 1] [] [0, 1]))) [badS] [], .ret (.call "renamed_by" [.var 0, .var 1] [] [0, 1])]⟩ as := call_fn F_renamed.h_renamed
class F_is_exchange_by (P : Pg) : Prop where h_is_exchange_by : P.fn "is_exchange_by" = some ⟨["plan"], 1, [.ret (.cmp .Eq (.blt .len [.call "shown_of" [.var 0] [] [0]]) (.blt .len [.var 0]))]⟩
theorem r_is_exchange_by {P : Pg} [F_is_exchange_by P] {fl k : Nat} {as : List Sl} : (cfg P fl (k + 1)).call "is_exchange_by" as = run (cfg P fl k) ⟨["plan"], 1, [.ret (.cmp .Eq (.blt .len [.call "shown_of" [.var 0] [] [0]]) (.blt .len [.var 0]))]⟩ as := call_fn F_is_exchange_by.h_is_exchange_by
class F_is_exchange (P : Pg) : Prop where h_is_exchange : P.fn "is_exchange" = some ⟨["plan"], 1, [.ex (.call "check_plan" [.var 0] [] [0]), .ret (.call "is_exchange_by" [.var 0] [] [0])]⟩
theorem r_is_exchange {P : Pg} [F_is_exchange P] {fl k : Nat} {as : List Sl} : (cfg P fl (k + 1)).call "is_exchange" as = run (cfg P fl k) ⟨["plan"], 1, [.ex (.call "check_plan" [.var 0] [] [0]), .ret (.call "is_exchange_by" [.var 0] [] [0])]⟩ as := call_fn F_is_exchange.h_is_exchange
section
variable {P : Pg} {fl : Nat}
theorem c_is_whole [F_is_whole P] (k : Nat) (i : Int) : (cfg P fl (k + 1)).call "is_whole" [.ro (.int i)] = some (.val (.bl true), [.ro (.int i)]) := by
  rw [r_is_whole]
  simp
theorem c_is_between [F_is_whole P] [F_is_between P] (k : Nat) (i a b : Int) : (cfg P fl (k + 2)).call "is_between" [.ro (.int i), .ro (.int a), .ro (.int b)] = some (.val (.bl (decide (a ≤ i) && decide (i ≤ b))), [.ro (.int i), .ro (.int a), .ro (.int b)]) := by
  rw [r_is_between]
  by_cases h : a ≤ i
  · simp [c_is_whole, h]
  · simp [c_is_whole, h]
theorem c_is_tuple_of [F_is_tuple_of P] (k : Nat) (p : List D) (n : Int) : (cfg P fl (k + 1)).call "is_tuple_of" [.ro (.tup p), .ro (.int n)] = some (.val (.bl (decide ((p.length : Int) = n))), [.ro (.tup p), .ro (.int n)]) := by
  rw [r_is_tuple_of]
  simp
def thenF (p q : List Int) : List Int := p.map (at0 q)
theorem c_behind_of [F_behind_of P] (k : Nat) {n : Nat} {p q : List Int} (hl : p.length ≤ 1000) (hq : q.length = n) (h : ∀ x ∈ p, 0 ≤ x ∧ x < n) : (cfg P fl (k + 1)).call "behind_of" [.ro (tI p), .ro (tI q)] = some (.val (tI (thenF p q)), [.ro (tI p), .ro (tI q)]) := by
  rw [r_behind_of]
  simp [w_most (show p.length ≤ 16000000 by omega)]
  generalize hL : lcLoop _ _ _ = L
  obtain rfl := lc_one (e := D.int) (g := fun x => .int (at0 q x)) hL fun x hx => by simp [at_i hq (h x hx)]
  simp [thenF]
theorem c_are_wholes [F_is_whole P] [F_is_tuple_of P] [F_are_wholes P] (k : Nat) {p : List Int} (h : p.length ≤ 1000) (n : Int) : (cfg P fl (k + 2)).call "are_wholes" [.ro (tI p), .ro (.int n)] = some (.val (.bl (decide ((p.length : Int) = n))), [.ro (tI p), .ro (.int n)]) := by
  rw [r_are_wholes]
  by_cases e : (p.length : Int) = n
  · simp [c_is_tuple_of, w_most (show p.length ≤ 16000000 by omega), e]
    generalize hL : lcLoop _ _ _ = L
    obtain rfl := lc_one (e := D.int) (g := fun x => .bl true) hL fun x hx => by simp [c_is_whole]
    simp
  · simp [c_is_tuple_of, e]
theorem c_is_village [F_is_whole P] [F_is_between P] [F_is_village P] (k : Nat) (n i : Int) : (cfg P fl (k + 3)).call "is_village" [.ro (.int n), .ro (.int i)] = some (.val (.bl (decide (0 ≤ i) && decide (i ≤ n - 1))), [.ro (.int n), .ro (.int i)]) := by
  rw [r_is_village]
  simp [c_is_between]
theorem c_is_village_number [GMost P] [F_is_whole P] [F_is_between P] [F_is_village_number P] (k : Nat) (i : Int) : (cfg P fl (k + 3)).call "is_village_number" [.ro (.int i)] = some (.val (.bl (decide (1 ≤ i) && decide (i ≤ 8))), [.ro (.int i)]) := by
  rw [r_is_village_number]
  simp [c_is_between]
/-- the functions that look whether a row is a plan -/
class GPlan (P : Pg) : Prop extends GMost P, F_is_whole P, F_is_between P, F_is_tuple_of P, F_are_wholes P, F_is_village_number P, F_is_village P, F_is_plan_of P, F_is_planned P
theorem c_is_plan_of [GPlan P] (k : Nat) {n : Nat} {p : List Int} (h : Pl n p) : (cfg P fl (k + 4)).call "is_plan_of" [.ro (.int n), .ro (tI p)] = some (.val (.bl true), [.ro (.int n), .ro (tI p)]) := by
  rw [r_is_plan_of]
  have h8 := h.2.2.1
  have hl := h.1
  simp [c_are_wholes (k + 1) (p := p) (by omega), hl, mostn h]
  generalize hL : lcLoop _ _ _ = L
  obtain rfl := lc_one (e := D.int) (g := fun x => .bl true) hL fun x hx => by
    obtain ⟨a, b⟩ := h.2.2.2 x hx
    simp [c_is_village, a, show x ≤ (n : Int) - 1 by omega]
  simp
theorem c_is_planned [GPlan P] (k : Nat) {n : Nat} {p : List Int} (h : Pl n p) : (cfg P fl (k + 5)).call "is_planned" [.ro (tI p)] = some (.val (.bl true), [.ro (tI p)]) := by
  rw [r_is_planned]
  have h1 : (1 : Int) ≤ n := by have := h.2.1; omega
  have h2 : (n : Int) ≤ 8 := by have := h.2.2.1; omega
  simp [c_is_plan_of k h, c_is_village_number, h.1, h1, h2]
theorem c_check_plan [GPlan P] [F_check_plan P] (k : Nat) {n : Nat} {p : List Int} (h : Pl n p) : (cfg P fl (k + 6)).call "check_plan" [.ro (tI p)] = some (.val .non, [.ro (tI p)]) := by
  rw [r_check_plan]
  simp [c_is_planned k h]
theorem c_check_plan_of [GPlan P] [F_check_plan_of P] (k : Nat) {n : Nat} {p : List Int} (h : Pl n p) : (cfg P fl (k + 5)).call "check_plan_of" [.ro (.int n), .ro (tI p)] = some (.val .non, [.ro (.int n), .ro (tI p)]) := by
  rw [r_check_plan_of]
  simp [c_is_plan_of k h]
theorem c_check_two [GPlan P] [F_check_plan P] [F_check_plan_of P] [F_check_two_plans P] (k : Nat) {n : Nat} {p q : List Int} (h : Pl n p) (h' : Pl n q) : (cfg P fl (k + 7)).call "check_two_plans" [.ro (tI p), .ro (tI q)] = some (.val .non, [.ro (tI p), .ro (tI q)]) := by
  rw [r_check_two_plans]
  simp [c_check_plan k h, c_check_plan_of (k + 1) h', h.1]
theorem c_check_villages [GMost P] [F_is_whole P] [F_is_between P] [F_is_village_number P] [F_check_villages P] (k : Nat) {n : Nat} (h : 1 ≤ n) (h8 : n ≤ 8) : (cfg P fl (k + 4)).call "check_villages" [.ro (.int n)] = some (.val .non, [.ro (.int n)]) := by
  rw [r_check_villages]
  have h1 : (1 : Int) ≤ n := by omega
  have h2 : (n : Int) ≤ 8 := by omega
  simp [c_is_village_number, h1, h2]
theorem c_behind [GPlan P] [F_check_plan P] [F_check_plan_of P] [F_check_two_plans P] [F_behind_of P] [F_behind P] (k : Nat) {n : Nat} {p q : List Int} (h : Pl n p) (h' : Pl n q) : (cfg P fl (k + 8)).call "behind" [.ro (tI p), .ro (tI q)] = some (.val (tI (thenF p q)), [.ro (tI p), .ro (tI q)]) := by
  rw [r_behind]
  have := h.2.2.1
  have := h.1
  simp [c_check_two k h h', c_behind_of (k + 6) (p := p) (q := q) (by omega) h'.1 h.2.2.2]
/-- the villages that show v -/
def showF (p : List Int) (v : Int) : List Int := (p.zipIdx.filter fun q => decide (q.1 = v)).map fun q => ((q.2 : Nat) : Int)
theorem c_showing [F_showing P] (k : Nat) {p : List Int} (h : p.length ≤ 1000) (v : Int) : (cfg P fl (k + 1)).call "showing" [.ro (tI p), .ro (.int v)] = some (.val (tI (showF p v)), [.ro (tI p), .ro (.int v)]) := by
  rw [r_showing]
  simp [enumD_map, w_most (show p.length ≤ 16000000 by omega)]
  generalize hL : lcLoop _ _ _ = L
  obtain rfl := lc_filter (e := fun q : Int × Nat => D.rtp [.int ((q.2 : Nat) : Int), .int q.1]) (g := fun q => .int ((q.2 : Nat) : Int)) (p := fun q => decide (q.1 = v)) hL fun q hq => by
    by_cases e : q.1 = v
    · simp [e]
    · simp [e]
  simp [showF]
def shownF (p : List Int) : List Int := isort (dedup p)
theorem dedup_len : ∀ (l : List Int), (dedup l).length ≤ l.length
  | [] => Nat.le_refl _
  | x :: l => by
    have := dedup_len l
    unfold dedup
    split <;> simp <;> omega
theorem c_shown_of [F_shown_of P] (k : Nat) {p : List Int} (h : p.length < 64) : (cfg P fl (k + 1)).call "shown_of" [.ro (tI p)] = some (.val (tI (shownF p)), [.ro (tI p)]) := by
  rw [r_shown_of]
  have h2 : (dedup p).length < 64 := by have := dedup_len p; omega
  simp [h2, shownF, show p.length ≤ 1000 by omega]
theorem c_shown [GPlan P] [F_check_plan P] [F_shown_of P] [F_shown P] (k : Nat) {n : Nat} {p : List Int} (h : Pl n p) : (cfg P fl (k + 7)).call "shown" [.ro (tI p)] = some (.val (tI (shownF p)), [.ro (tI p)]) := by
  rw [r_shown]
  have := h.2.2.1
  have := h.1
  simp [c_check_plan k h, c_shown_of (k + 5) (p := p) (by omega)]
theorem c_is_exchange_by [F_shown_of P] [F_is_exchange_by P] (k : Nat) {p : List Int} (h : p.length < 64) : (cfg P fl (k + 2)).call "is_exchange_by" [.ro (tI p)] = some (.val (.bl (decide (((shownF p).length : Int) = p.length))), [.ro (tI p)]) := by
  rw [r_is_exchange_by]
  simp [c_shown_of k h]
theorem c_is_exchange [GPlan P] [F_check_plan P] [F_shown_of P] [F_is_exchange_by P] [F_is_exchange P] (k : Nat) {n : Nat} {p : List Int} (h : Pl n p) : (cfg P fl (k + 7)).call "is_exchange" [.ro (tI p)] = some (.val (.bl (decide (((shownF p).length : Int) = p.length))), [.ro (tI p)]) := by
  rw [r_is_exchange]
  have := h.2.2.1
  have := h.1
  simp [c_check_plan k h, c_is_exchange_by (k + 4) (p := p) (by omega)]
theorem c_still_of [F_still_of P] (k : Nat) {n : Nat} (h : n ≤ 8) : (cfg P fl (k + 1)).call "still_of" [.ro (.int n)] = some (.val (tI ((List.range n).map fun (i : Nat) => (i : Int))), [.ro (.int n)]) := by
  rw [r_still_of]
  simp [r62 (j := (n : Int)) (by omega) (by omega), w_most (show n ≤ 16000000 by omega)]
end
end PX

/-! PX, part C: sorting. -/
namespace PX
open PV
/-! ### rows of wholes -/
def tle (a b : List Int) : Bool := decide (a ≤ b)
def tsort (l : List (List Int)) : List (List Int) := l.mergeSort tle
theorem tle_trans (a b c : List Int) (h : tle a b = true) (h' : tle b c = true) : tle a c = true := by
  simp only [tle, decide_eq_true_eq] at *
  exact List.le_trans h h'
theorem tle_total (a b : List Int) : (tle a b || tle b a) = true := by
  simp only [tle, Bool.or_eq_true, decide_eq_true_eq]
  exact List.le_total a b
theorem tle_anti {a b : List Int} (h : tle a b = true) (h' : tle b a = true) : a = b := by
  simp only [tle, decide_eq_true_eq] at *
  exact List.le_antisymm h h'
theorem tsort_perm (l : List (List Int)) : (tsort l).Perm l := List.mergeSort_perm l tle
theorem tsort_sorted (l : List (List Int)) : (tsort l).Pairwise fun a b => tle a b = true := by
  have := List.pairwise_mergeSort (le := tle) tle_trans (fun a b => by simpa using tle_total a b) l
  exact this
theorem perm_eq {α : Type} {r : α → α → Prop} (anti : ∀ a b, r a b → r b a → a = b) : ∀ {l l' : List α}, l.Perm l' → l.Pairwise r → l'.Pairwise r → l = l'
  | [], l', hp, _, _ => by have := hp.length_eq; cases l' with | nil => rfl | cons => cases this
  | x :: l, [], hp, _, _ => by have := hp.length_eq; cases this
  | x :: l, y :: l', hp, h1, h2 => by
    have e : x = y := by
      rcases List.mem_cons.mp (hp.mem_iff.mp (List.mem_cons_self (a := x) (l := l))) with h | h
      · exact h
      · rcases List.mem_cons.mp (hp.mem_iff.mpr (List.mem_cons_self (a := y) (l := l'))) with h' | h'
        · exact h'.symm
        · exact anti _ _ (List.rel_of_pairwise_cons h1 h') (List.rel_of_pairwise_cons h2 h)
    subst e
    rw [perm_eq anti hp.cons_inv h1.of_cons h2.of_cons]
theorem tsort_congr {l l' : List (List Int)} (h : l.Perm l') : tsort l = tsort l' :=
  perm_eq (r := fun a b => tle a b = true) (fun _ _ => tle_anti) ((tsort_perm l).trans (h.trans (tsort_perm l').symm)) (tsort_sorted l) (tsort_sorted l')
theorem tsort_of_sorted {l : List (List Int)} (h : l.Pairwise fun a b => tle a b = true) : tsort l = l :=
  perm_eq (r := fun a b => tle a b = true) (fun _ _ => tle_anti) (tsort_perm l) (tsort_sorted l) h
theorem pyAll_map {α : Type} (e : α → D) : ∀ xs : List α, pyAll (xs.map e) = xs.map fun x => (e x).py
  | [] => rfl
  | x :: xs => by rw [List.map_cons, List.map_cons, pyAll, pyAll_map e xs]
theorem py_tI (p : List Int) : (tI p).py = .tuple (p.map .int) := by
  show PySem.PyData.tuple (pyAll _) = _
  rw [pyAll_map]; rfl
theorem le_tI (a b : List Int) : tle a b = PySem.W.dataLe false D.py (tI a) (tI b) := by
  show _ = (!PySem.W.dataLt (tI b).py (tI a).py)
  rw [py_tI, py_tI, PySem.W.dataLt_tuple]
  show _ = !(PySem.W.rowLt _ _)
  rw [PySem.W.dataLt_ints]
  exact decide_not (p := b < a)
theorem srtD_tI (xs : List (List Int)) : srtD (xs.map tI) = (tsort xs).map tI := (List.map_mergeSort fun a _ b _ => le_tI a b).symm
theorem srtOk_tI {xs : List (List Int)} (h : ∀ x ∈ xs, x ≠ []) : srtOk (xs.map tI) = true := by
  have h1 : eqOkAll (xs.map tI) = true := by
    have : ∀ d ∈ xs.map tI, Ok 1 d := fun d hd => by
      obtain ⟨p, _, rfl⟩ := List.mem_map.mp hd
      exact (enc_tup enc_int).ok p
    exact (ok_all this).1
  have h2 : (xs.map tI).all (fun d => (xs.map tI).all fun e => PySem.W.alike d.py e.py) = true := by
    rw [List.all_eq_true]
    intro d hd
    rw [List.all_eq_true]
    intro e he
    obtain ⟨p, _, rfl⟩ := List.mem_map.mp hd
    obtain ⟨q, _, rfl⟩ := List.mem_map.mp he
    rw [py_tI, py_tI]
    show PySem.W.alikeAll _ _ = true
    exact PySem.W.alike_ints p q
  have h3 : (xs.map tI).all isTupNE = true := by
    rw [List.all_eq_true]
    intro d hd
    obtain ⟨p, hp, rfl⟩ := List.mem_map.mp hd
    cases p with
    | nil => exact absurd rfl (h _ hp)
    | cons => rfl
  have h4 : (xs.map tI).all (fun d => decide (d.py.depth ≤ 60)) = true := by
    rw [List.all_eq_true]
    intro d hd
    obtain ⟨p, hp, rfl⟩ := List.mem_map.mp hd
    have := ((enc_tup enc_int).ok p).2.2
    simp only [decide_eq_true_eq]
    have h5 : (tI p).py.depth ≤ 1 := this
    omega
  simp only [srtOk, h1, h2, h3, h4, Bool.true_or, Bool.and_self]
theorem b_sort_tI {xs : List (List Int)} (h : ∀ x ∈ xs, x ≠ []) : bltD .sorted [.lst (xs.map tI)] = some (.fr (.lst ((tsort xs).map tI))) := by
  cases xs with
  | nil => simp [bltD, tsort, intsOf, isort]
  | cons x r =>
    rw [b_sortd (by rfl) (srtOk_tI h), srtD_tI]
/-! ### wholes -/
theorem insI_perm (x : Int) : ∀ l, (insI x l).Perm (x :: l)
  | [] => .refl _
  | y :: l => by
    unfold insI
    split
    · exact .refl _
    · exact ((insI_perm x l).cons y).trans (.swap x y l)
theorem isort_perm' : ∀ l : List Int, (isort l).Perm l
  | [] => .refl _
  | x :: l => (insI_perm x _).trans ((isort_perm' l).cons x)
theorem insI_sorted {x : Int} : ∀ {l : List Int}, l.Pairwise (· ≤ ·) → (insI x l).Pairwise (· ≤ ·)
  | [], _ => by simp [insI]
  | y :: l, h => by
    have hy : ∀ {z}, z ∈ l → y ≤ z := fun hz => List.rel_of_pairwise_cons h hz
    unfold insI
    split
    · rename_i c
      have c : x ≤ y := by simpa using c
      refine List.pairwise_cons.mpr ⟨fun z hz => ?_, h⟩
      rcases List.mem_cons.mp hz with rfl | hz
      · exact c
      · exact Int.le_trans c (hy hz)
    · rename_i c
      have c : y ≤ x := by
        have : ¬ x ≤ y := by simpa using c
        omega
      refine List.pairwise_cons.mpr ⟨fun z hz => ?_, insI_sorted h.of_cons⟩
      rcases List.mem_cons.mp ((insI_perm x l).mem_iff.mp hz) with rfl | hz
      · exact c
      · exact hy hz
theorem isort_sorted : ∀ l : List Int, (isort l).Pairwise (· ≤ ·)
  | [] => .nil
  | _ :: l => insI_sorted (isort_sorted l)
theorem isort_congr {l l' : List Int} (h : l.Perm l') : isort l = isort l' :=
  perm_eq (r := (· ≤ ·)) (fun a b h h' => by omega) ((isort_perm' l).trans (h.trans (isort_perm' l').symm)) (isort_sorted l) (isort_sorted l')
theorem isort_of_sorted {l : List Int} (h : l.Pairwise (· ≤ ·)) : isort l = l :=
  perm_eq (r := (· ≤ ·)) (fun a b h h' => by omega) (isort_perm' l) (isort_sorted l) h
theorem isort_mem {l : List Int} {x : Int} : x ∈ isort l ↔ x ∈ l := (isort_perm' l).mem_iff
theorem isort_len (l : List Int) : (isort l).length = l.length := (isort_perm' l).length_eq
theorem dedup_nodup : ∀ l : List Int, (dedup l).Nodup
  | [] => .nil
  | x :: l => by
    unfold dedup
    split
    · exact dedup_nodup l
    · rename_i h
      exact List.nodup_cons.mpr ⟨fun z => h ((dedup_mem l).mp z), dedup_nodup l⟩
theorem shownF_mem {p : List Int} {v : Int} : v ∈ shownF p ↔ v ∈ p := by
  unfold shownF
  rw [isort_mem, dedup_mem]
theorem shownF_nodup (p : List Int) : (shownF p).Nodup := (isort_perm' _).nodup_iff.mpr (dedup_nodup p)
theorem shownF_len (p : List Int) : (shownF p).length ≤ p.length := by
  unfold shownF
  rw [isort_len]
  exact dedup_len p
/-- two rows without doubles of the same members are one when sorted -/
theorem perm_of_mem {α : Type} [BEq α] [LawfulBEq α] : ∀ {l l' : List α}, l.Nodup → l'.Nodup → (∀ x, x ∈ l ↔ x ∈ l') → l.Perm l' := fun {l l'} h h' e => by
  rw [List.perm_iff_count]
  intro a
  rw [h.count, h'.count]
  simp only [e a]
theorem isort_ext {l l' : List Int} (h : l.Nodup) (h' : l'.Nodup) (e : ∀ x, x ∈ l ↔ x ∈ l') : isort l = isort l' := isort_congr (perm_of_mem h h' e)
theorem shownF_ext {p q : List Int} (e : ∀ x, x ∈ p ↔ x ∈ q) : shownF p = shownF q := isort_ext (dedup_nodup p) (dedup_nodup q) fun x => by rw [dedup_mem, dedup_mem, e x]
end PX

/-! PX, part D: dicts, orders, names exchanged. -/
namespace PX
open PV
/-! ### dicts -/
structure KEnc {κ : Type} [DecidableEq κ] (enc : κ → D) : Prop where
  eq : ∀ a b, keq (enc a) (enc b) = decide (a = b)
  ok : ∀ (a : κ) (ks : List κ), kOk (ks.map enc) (enc a) = true
theorem kenc_int : KEnc D.int := ⟨fun _ _ => rfl, fun a ks => by
  have : (ks.map D.int).all isS = true := by
    rw [List.all_eq_true]
    intro d hd
    obtain ⟨a, _, rfl⟩ := List.mem_map.mp hd
    rfl
  unfold kOk
  rw [this]; rfl⟩
theorem keqs_ints : ∀ a b : List Int, keqs (a.map .int) (b.map .int) = decide (a = b)
  | [], [] => rfl
  | [], y :: b => by simp [keqs]
  | x :: a, [] => by simp [keqs]
  | x :: a, y :: b => by
    show (keyS (.int x) (.int y) && keqs (a.map .int) (b.map .int)) = _
    rw [keqs_ints a b]
    show (decide (x = y) && decide (a = b)) = _
    by_cases h : x = y <;> by_cases h2 : a = b <;> simp [h, h2]
theorem isT_tI (p : List Int) : isT (tI p) = true := by
  show (p.map D.int).all isS = true
  rw [List.all_eq_true]
  intro d hd
  obtain ⟨a, _, rfl⟩ := List.mem_map.mp hd
  rfl
theorem isT_all (ks : List (List Int)) : (ks.map tI).all isT = true := by
  rw [List.all_eq_true]
  intro d hd
  obtain ⟨a, _, rfl⟩ := List.mem_map.mp hd
  exact isT_tI a
theorem kenc_tI : KEnc tI := ⟨fun a b => keqs_ints a b, fun a ks => by
  unfold kOk
  rw [isT_tI, isT_all]; simp⟩
section
variable {α κ : Type} [DecidableEq κ] {enc : κ → D}
theorem KEnc.has (E : KEnc enc) (a : κ) (ks : List κ) : hasK (enc a) (ks.map enc) = decide (a ∈ ks) := by
  rw [Bool.eq_iff_iff, decide_eq_true_iff]
  unfold hasK
  rw [List.any_map, List.any_eq_true]
  constructor
  · rintro ⟨b, hb, h⟩
    have h : keq (enc b) (enc a) = true := h
    rw [E.eq, decide_eq_true_iff] at h
    exact h ▸ hb
  · intro h
    refine ⟨a, h, ?_⟩
    show keq (enc a) (enc a) = true
    rw [E.eq, decide_eq_true_iff]
theorem dcLoop_new (E : KEnc enc) {f : D → Rho → Option (Option (D × D) × Rho)} {e : α → D} {kf : α → κ} {vf : α → D} {ρ : Rho} : ∀ {xs : List α} {ks : List κ} {vs : List D}, (∀ x ∈ xs, f (e x) ρ = some (some (enc (kf x), vf x), ρ)) →
    (ks ++ xs.map kf).Nodup → (ks ++ xs.map kf).length ≤ most → dcLoop f (xs.map e) (ks.map enc) vs ρ = some (((ks ++ xs.map kf).map enc, vs ++ xs.map vf), ρ)
  | [], ks, vs, _, _, _ => by
    show some ((ks.map enc, vs), ρ) = _
    simp
  | x :: xs, ks, vs, h, hn, hl => by
    have hx : kf x ∉ ks := fun z => by
      have := (List.nodup_append.mp hn).2.2 _ z _ (List.mem_map.mpr ⟨x, List.mem_cons_self, rfl⟩)
      exact this rfl
    have e1 : ks ++ (x :: xs).map kf = (ks ++ [kf x]) ++ xs.map kf := by simp
    rw [e1] at hn hl
    have ih := dcLoop_new E (xs := xs) (ks := ks ++ [kf x]) (vs := vs ++ [vf x]) (fun y hy => h y (List.mem_cons_of_mem _ hy)) hn hl
    show (f (e x) ρ).bind _ = _
    rw [h x List.mem_cons_self]
    show (if kOk (ks.map enc) (enc (kf x)) = true ∧ (ks.map enc).length < most then _ else _) = _
    have hlen : (ks.map enc).length < most := by
      have : ks.length + 1 ≤ (ks ++ [kf x] ++ xs.map kf).length := by simp
      rw [List.length_map]; omega
    rw [if_pos ⟨E.ok _ _, hlen⟩]
    have p1 : putKs (enc (kf x)) (ks.map enc) = (ks ++ [kf x]).map enc := by
      unfold putKs
      rw [E.has, decide_eq_false hx]; simp
    have p2 : putVs (enc (kf x)) (vf x) (ks.map enc) vs = vs ++ [vf x] := by
      unfold putVs
      rw [E.has, decide_eq_false hx]; simp
    rw [p1, p2, ih, e1]
    simp
theorem dc_new (E : KEnc enc) {f : D → Rho → Option (Option (D × D) × Rho)} {e : α → D} (kf : α → κ) (vf : α → D) {ρ : Rho} {xs : List α} {L : Option ((List D × List D) × Rho)} (hL : dcLoop f (xs.map e) [] [] ρ = L) (hn : (xs.map kf).Nodup) (hl : xs.length ≤ most)
    (h : ∀ x ∈ xs, f (e x) ρ = some (some (enc (kf x), vf x), ρ)) : L = some (((xs.map kf).map enc, xs.map vf), ρ) := by
  subst hL
  have := dcLoop_new E (xs := xs) (ks := []) (vs := []) h (by simpa using hn) (by simpa using hl)
  simpa using this
theorem getK_new (E : KEnc enc) {β : Type} {kf : α → κ} {vf : α → β} {x : α} : ∀ {xs : List α}, x ∈ xs → (xs.map kf).Nodup → getK (enc (kf x)) ((xs.map kf).map enc) (xs.map vf) = some (vf x)
  | [], h, _ => by cases h
  | y :: xs, h, hn => by
    show (if keq (enc (kf y)) (enc (kf x)) = true then some (vf y) else getK (enc (kf x)) ((xs.map kf).map enc) (xs.map vf)) = _
    rw [E.eq]
    rcases List.mem_cons.mp h with rfl | h
    · simp
    · have hy : kf y ∉ xs.map kf := (List.nodup_cons.mp hn).1
      have hne : ¬ kf y = kf x := fun z => hy (z ▸ List.mem_map.mpr ⟨x, h, rfl⟩)
      rw [decide_eq_false hne]
      exact getK_new E h (List.nodup_cons.mp hn).2
end
/-! ### orders -/
theorem nodup_sub {α : Type} [DecidableEq α] : ∀ {l l' : List α}, l.Nodup → (∀ x ∈ l, x ∈ l') → l.length ≤ l'.length
  | [], _, _, _ => Nat.zero_le _
  | x :: l, l', h, hs => by
    have hx := hs x List.mem_cons_self
    have := nodup_sub (l := l) (l' := l'.erase x) (List.nodup_cons.mp h).2 fun y hy => by
      have hne : y ≠ x := fun z => (List.nodup_cons.mp h).1 (z ▸ hy)
      exact (List.mem_erase_of_ne hne).mpr (hs y (List.mem_cons_of_mem _ hy))
    rw [List.length_erase_of_mem hx] at this
    have := List.length_pos_of_mem hx
    simp only [List.length_cons]
    omega
/-- an order of n villages -/
def Od (n : Nat) (o : List Int) : Prop := Pl n o ∧ o.Nodup
def rng (n : Nat) : List Int := (List.range n).map fun (i : Nat) => (i : Int)
theorem mem_rng {n : Nat} {v : Int} : v ∈ rng n ↔ 0 ≤ v ∧ v < n := by
  unfold rng
  rw [List.mem_map]
  constructor
  · rintro ⟨i, hi, rfl⟩
    have := List.mem_range.mp hi
    omega
  · intro h
    exact ⟨v.toNat, List.mem_range.mpr (by omega), by omega⟩
theorem rng_len (n : Nat) : (rng n).length = n := by simp [rng]
theorem rng_sorted (n : Nat) : (rng n).Pairwise (· < ·) := by
  unfold rng
  rw [List.pairwise_map]
  refine List.Pairwise.imp (fun h => ?_) List.pairwise_lt_range
  omega
theorem nodup_of_lt {l : List Int} (h : l.Pairwise (· < ·)) : l.Nodup := h.imp fun h => by omega
theorem rng_nodup (n : Nat) : (rng n).Nodup := nodup_of_lt (rng_sorted n)
theorem at0_rng {n : Nat} {v : Int} (h : 0 ≤ v ∧ v < n) : at0 (rng n) v = v := by
  unfold at0 rng
  rw [List.getElem?_map, List.getElem?_range (by omega)]
  simp; omega
theorem rng_od {n : Nat} (h : 1 ≤ n) (h8 : n ≤ 8) : Od n (rng n) := ⟨⟨rng_len n, h, h8, fun _ hx => mem_rng.mp hx⟩, rng_nodup n⟩
theorem Od.mem {n : Nat} {o : List Int} (h : Od n o) {v : Int} (hv : 0 ≤ v ∧ v < n) : v ∈ o := by
  refine Classical.byContradiction fun z => ?_
  have := nodup_sub (l := v :: o) (l' := rng n) (List.nodup_cons.mpr ⟨z, h.2⟩) fun x hx => by
    rcases List.mem_cons.mp hx with rfl | hx
    · exact mem_rng.mpr hv
    · exact mem_rng.mpr (h.1.2.2.2 x hx)
  rw [rng_len, List.length_cons, h.1.1] at this
  omega
theorem Od.perm {n : Nat} {o : List Int} (h : Od n o) : o.Perm (rng n) := perm_of_mem h.2 (rng_nodup n) fun x => ⟨fun hx => mem_rng.mpr (h.1.2.2.2 x hx), fun hx => h.mem (mem_rng.mp hx)⟩
theorem Od.sort {n : Nat} {o : List Int} (h : Od n o) : isort o = rng n := (isort_congr h.perm).trans (isort_of_sorted ((rng_sorted n).imp fun h => by omega))
/-- the place of a village in an order -/
def inv0 (o : List Int) (v : Int) : Int := ((o.idxOf v : Nat) : Int)
theorem Od.inv_at {n : Nat} {o : List Int} (h : Od n o) {i : Int} (hi : 0 ≤ i ∧ i < n) : inv0 o (at0 o i) = i := by
  have hl : i.toNat < o.length := by rw [h.1.1]; omega
  unfold inv0 at0
  rw [List.getElem?_eq_getElem hl]
  show ((o.idxOf o[i.toNat] : Nat) : Int) = i
  rw [h.2.idxOf_getElem _ hl]
  omega
theorem Od.inv_lt {n : Nat} {o : List Int} (h : Od n o) {v : Int} (hv : 0 ≤ v ∧ v < n) : 0 ≤ inv0 o v ∧ inv0 o v < n := by
  have := List.idxOf_lt_length_of_mem (h.mem hv)
  rw [h.1.1] at this
  unfold inv0
  omega
theorem Od.at_inv {n : Nat} {o : List Int} (h : Od n o) {v : Int} (hv : 0 ≤ v ∧ v < n) : at0 o (inv0 o v) = v := by
  have hl := List.idxOf_lt_length_of_mem (h.mem hv)
  unfold inv0 at0
  rw [Int.toNat_natCast, List.getElem?_eq_getElem hl]
  exact List.getElem_idxOf hl
theorem Od.inj {n : Nat} {o : List Int} (h : Od n o) {i j : Int} (hi : 0 ≤ i ∧ i < n) (hj : 0 ≤ j ∧ j < n) (e : at0 o i = at0 o j) : i = j := by
  rw [← h.inv_at hi, e, h.inv_at hj]
/-- two rows of n are one if they are one place by place -/
theorem ext_at {n : Nat} {p q : List Int} (hp : p.length = n) (hq : q.length = n) (h : ∀ i : Int, 0 ≤ i ∧ i < n → at0 p i = at0 q i) : p = q := by
  refine List.ext_getElem (hp.trans hq.symm) fun i h1 h2 => ?_
  have := h i (by omega)
  unfold at0 at this
  rw [Int.toNat_natCast, List.getElem?_eq_getElem h1, List.getElem?_eq_getElem h2] at this
  exact this
theorem at0_map_rng {n : Nat} (f : Int → Int) {v : Int} (h : 0 ≤ v ∧ v < n) : at0 ((rng n).map f) v = f v := by
  unfold at0
  rw [List.getElem?_map]
  have := at0_rng h
  unfold at0 at this
  have hl : v.toNat < (rng n).length := by rw [rng_len]; omega
  rw [List.getElem?_eq_getElem hl] at this ⊢
  exact congrArg f this
/-- the plan with the names of its villages exchanged -/
def renF (n : Nat) (p o : List Int) : List Int := (rng n).map fun v => at0 o (at0 p (inv0 o v))
theorem renF_len {n : Nat} (p o : List Int) : (renF n p o).length = n := by simp [renF, rng_len]
theorem renF_inv {n : Nat} {p o : List Int} {v : Int} (h : 0 ≤ v ∧ v < n) : at0 (renF n p o) v = at0 o (at0 p (inv0 o v)) := at0_map_rng _ h
theorem renF_at {n : Nat} {p o : List Int} (h : Od n o) {i : Int} (hi : 0 ≤ i ∧ i < n) : at0 (renF n p o) (at0 o i) = at0 o (at0 p i) := by
  rw [renF_inv (at0_pl h.1 hi), h.inv_at hi]
theorem renF_pl {n : Nat} {p o : List Int} (hp : Pl n p) (h : Od n o) : Pl n (renF n p o) := by
  refine ⟨renF_len p o, hp.2.1, hp.2.2.1, fun x hx => ?_⟩
  obtain ⟨v, hv, rfl⟩ := List.mem_map.mp hx
  exact at0_pl h.1 (at0_pl hp (h.inv_lt (mem_rng.mp hv)))
/-- what shows at each new name the new name of what was shown is the renamed plan -/
theorem renF_of {n : Nat} {p o q : List Int} (h : Od n o) (hq : q.length = n) (e : ∀ i : Int, 0 ≤ i ∧ i < n → at0 q (at0 o i) = at0 o (at0 p i)) : q = renF n p o := by
  refine ext_at hq (renF_len p o) fun v hv => ?_
  rw [renF_inv hv, ← e _ (h.inv_lt hv), h.at_inv hv]
end PX

/-! PX, part E: more of the shared functions of plans: orders, names exchanged, lots. -/
namespace PX
open PV
@[simp] theorem rng_map (n : Nat) : ((List.range n).map fun (k : Nat) => D.int (k : Int)) = (rng n).map D.int := by
  unfold rng; rw [List.map_map]; rfl
@[simp] theorem rng_length (n : Nat) : (rng n).length = n := rng_len n
section
variable {P : Pg} {fl : Nat}
theorem c_still_of' [F_still_of P] (k : Nat) {n : Nat} (h : n ≤ 8) : (cfg P fl (k + 1)).call "still_of" [.ro (.int n)] = some (.val (tI (rng n)), [.ro (.int n)]) := by
  rw [r_still_of]
  simp [r62 (j := (n : Int)) (by omega) (by omega), w_most (show n ≤ 16000000 by omega)]
theorem c_still [GMost P] [F_is_whole P] [F_is_between P] [F_is_village_number P] [F_check_villages P] [F_still_of P] [F_still P] (k : Nat) {n : Nat} (h : 1 ≤ n) (h8 : n ≤ 8) : (cfg P fl (k + 5)).call "still" [.ro (.int n)] = some (.val (tI (rng n)), [.ro (.int n)]) := by
  rw [r_still]
  simp [c_check_villages k h h8, c_still_of' (k + 3) h8]
theorem c_is_order_of [F_is_whole P] [F_is_tuple_of P] [F_are_wholes P] [F_is_order_of P] (k : Nat) {n : Nat} {o : List Int} (h : Od n o) : (cfg P fl (k + 3)).call "is_order_of" [.ro (.int n), .ro (tI o)] = some (.val (.bl true), [.ro (.int n), .ro (tI o)]) := by
  rw [r_is_order_of]
  have h8 := h.1.2.2.1
  have hl := h.1.1
  simp [c_are_wholes k (p := o) (by omega), hl, r62 (j := (n : Int)) (by omega) (by omega), w_most (show n ≤ 16000000 by omega), h.sort]
theorem c_renamed_by [F_renamed_by P] (k : Nat) {n : Nat} {p o : List Int} (hp : Pl n p) (h : Od n o) : (cfg P fl (k + 1)).call "renamed_by" [.ro (tI p), .ro (tI o)] = some (.val (tI (renF n p o)), [.ro (tI p), .ro (tI o)]) := by
  rw [r_renamed_by]
  have h8 := hp.2.2.1
  have hl := hp.1
  have hz : ∀ q ∈ p.zipIdx, (0 ≤ (q.2 : Int) ∧ (q.2 : Int) < n) ∧ (0 ≤ q.1 ∧ q.1 < (n : Int)) ∧ q.1 = at0 p q.2 := fun q hq => by
    have e := List.mem_zipIdx_iff_getElem?.mp hq
    obtain ⟨e1, e2⟩ := List.getElem?_eq_some_iff.mp e
    refine ⟨by omega, hp.2.2.2 _ (e2 ▸ List.getElem_mem e1), ?_⟩
    unfold at0
    rw [Int.toNat_natCast, e]; rfl
  have e1 : ∀ q ∈ p.zipIdx, L2.atI (o.map D.int) (q.2 : Int) = some (.int (at0 o q.2)) := fun q hq => at_i h.1.1 (hz q hq).1
  have e2 : ∀ q ∈ p.zipIdx, L2.atI (o.map D.int) q.1 = some (.int (at0 o q.1)) := fun q hq => at_i h.1.1 (hz q hq).2.1
  have hnd : (p.zipIdx.map fun q => at0 o (q.2 : Int)).Nodup := by
    have : (p.zipIdx.map fun q => at0 o (q.2 : Int)) = o := by
      refine ext_at (n := n) (by simp [hl]) h.1.1 fun i hi => ?_
      have hi2 : i.toNat < p.length := by omega
      unfold at0
      rw [List.getElem?_map, List.getElem?_zipIdx, List.getElem?_eq_getElem hi2]
      simp
    rw [this]; exact h.2
  simp [enumD_map]
  generalize hL : dcLoop _ _ _ _ _ = L
  obtain rfl := dc_new kenc_int (fun q : Int × Nat => at0 o (q.2 : Int)) (fun q => .int (at0 o q.1)) hL hnd (w_most (by simp; omega)) fun q hq => by simp [e1 q hq, e2 q hq]
  simp [hl, r62 (j := (n : Int)) (by omega) (by omega), w_most (show n ≤ 16000000 by omega)]
  generalize hL : lcLoop _ _ _ = L
  obtain rfl := lc_one (e := D.int) (g := fun v => .int (at0 o (at0 p (inv0 o v)))) hL fun v hv => by
    have hv := mem_rng.mp hv
    have hi := h.inv_lt hv
    have hm : (at0 p (inv0 o v), (inv0 o v).toNat) ∈ p.zipIdx := by
      rw [List.mem_zipIdx_iff_getElem?]
      have : (inv0 o v).toNat < p.length := by omega
      rw [List.getElem?_eq_getElem this]
      unfold at0
      rw [List.getElem?_eq_getElem this]; rfl
    have hk := getK_new kenc_int (kf := fun q : Int × Nat => at0 o (q.2 : Int)) (vf := fun q => D.int (at0 o q.1)) hm hnd
    have hc : (((inv0 o v).toNat : Nat) : Int) = inv0 o v := by omega
    simp only [hc, h.at_inv hv] at hk
    have hk2 := kenc_int.ok v (p.zipIdx.map fun q => at0 o (q.2 : Int))
    rw [List.map_map] at hk hk2
    have hk3 : kOk (p.zipIdx.map fun q => D.int (at0 o (q.2 : Int))) (.int v) = true := hk2
    have hk4 : getK (.int v) (p.zipIdx.map fun q => D.int (at0 o (q.2 : Int))) (p.zipIdx.map fun q => D.int (at0 o q.1)) = some (.int (at0 o (at0 p (inv0 o v)))) := hk
    simp [hk3, hk4, Function.comp_def]
  simp [renF, Function.comp_def]
theorem c_renamed [GPlan P] [F_check_plan P] [F_is_order_of P] [F_renamed_by P] [F_renamed P] (k : Nat) {n : Nat} {p o : List Int} (hp : Pl n p) (h : Od n o) : (cfg P fl (k + 7)).call "renamed" [.ro (tI p), .ro (tI o)] = some (.val (tI (renF n p o)), [.ro (tI p), .ro (tI o)]) := by
  rw [r_renamed]
  simp [c_check_plan k hp, c_is_order_of (k + 3) h, hp.1, c_renamed_by (k + 5) hp h]
theorem show_mem {p : List Int} {v : Int} (h : v ∈ p) : showF p v ≠ [] := by
  obtain ⟨i, hi, e⟩ := List.getElem_of_mem h
  intro z
  unfold showF at z
  rw [List.map_eq_nil_iff, List.filter_eq_nil_iff] at z
  refine z (v, i) ?_ (by simp)
  rw [List.mem_zipIdx_iff_getElem?]
  simp [hi, e]
/-- the lots of a plan, sorted -/
def lotsF (p : List Int) : List (List Int) := tsort ((shownF p).map (showF p))
theorem c_lots_of [F_shown_of P] [F_showing P] [F_lots_of P] (k : Nat) {p : List Int} (h : p.length < 64) : (cfg P fl (k + 2)).call "lots_of" [.ro (tI p)] = some (.fr (.lst ((lotsF p).map tI)), [.ro (tI p)]) := by
  rw [r_lots_of]
  have := shownF_len p
  simp [c_shown_of k h, w_most (show (shownF p).length ≤ 16000000 by omega)]
  generalize hL : lcLoop _ _ _ = L
  obtain rfl := lc_one (e := D.int) (g := fun v => tI (showF p v)) hL fun v hv => by simp [c_showing k (p := p) (by omega)]
  have := b_sort_tI (xs := (shownF p).map (showF p)) fun x hx => by
    obtain ⟨v, hv, rfl⟩ := List.mem_map.mp hx
    exact show_mem (shownF_mem.mp hv)
  rw [List.map_map] at this
  simp [show ((shownF p).map fun v => tI (showF p v)) = (shownF p).map (tI ∘ showF p) from rfl, this, lotsF]
theorem c_lots [GPlan P] [F_check_plan P] [F_shown_of P] [F_showing P] [F_lots_of P] [F_lots P] (k : Nat) {n : Nat} {p : List Int} (h : Pl n p) : (cfg P fl (k + 7)).call "lots" [.ro (tI p)] = some (.val (.tup ((lotsF p).map tI)), [.ro (tI p)]) := by
  rw [r_lots]
  have := h.2.2.1
  have := h.1
  simp [c_check_plan k h, c_lots_of (k + 4) (p := p) (by omega)]
end
end PX

/-! PX, part F: drawing. -/
namespace PX
open PV
class F_take (P : Pg) : Prop where h_take : P.fn "_law_take" = some ⟨["well", "many"], 4, [.ite (.cmp .Gt (.ix (.var 0) (.con (.int 0))) (.con (.int 0))) [.unp [.sub 0 (.con (.int 0)), .nm 3] (.blt .divmod [.ix (.var 0) (.con (.int 0)), .var 1]), .ret (.var 3)] [], .put 0 (.con (.int 2)) (.bin .Add (.ix (.var 0) (.con (.int 2))) (.con (.int 1))), .asg 2 (.bin .Add (.bin .Mod (.blt .int [.ix (.var 0) (.con (.int 1))]) (.con (.int 28657))) (.con (.int 40009))), .put 0 (.con (.int 1)) (.bin .Mod (.blt .int [.bin .Add (.bin .Add (.bin .Mult (.ix (.var 0) (.con (.int 1))) (.var 2)) (.bin .Mult (.con (.int 50023)) (.ix (.var 0) (.con (.int 2))))) (.con (.int 17))]) (.con (.int 2147483563))), .ret (.bin .Mod (.blt .int [.bin .FloorDiv (.ix (.var 0) (.con (.int 1))) (.con (.int 83))]) (.var 1))]⟩
theorem r_take {P : Pg} [F_take P] {fl k : Nat} {as : List Sl} : (cfg P fl (k + 1)).call "_law_take" as = run (cfg P fl k) ⟨["well", "many"], 4, [.ite (.cmp .Gt (.ix (.var 0) (.con (.int 0))) (.con (.int 0))) [.unp [.sub 0 (.con (.int 0)), .nm 3] (.blt .divmod [.ix (.var 0) (.con (.int 0)), .var 1]), .ret (.var 3)] [], .put 0 (.con (.int 2)) (.bin .Add (.ix (.var 0) (.con (.int 2))) (.con (.int 1))), .asg 2 (.bin .Add (.bin .Mod (.blt .int [.ix (.var 0) (.con (.int 1))]) (.con (.int 28657))) (.con (.int 40009))), .put 0 (.con (.int 1)) (.bin .Mod (.blt .int [.bin .Add (.bin .Add (.bin .Mult (.ix (.var 0) (.con (.int 1))) (.var 2)) (.bin .Mult (.con (.int 50023)) (.ix (.var 0) (.con (.int 2))))) (.con (.int 17))]) (.con (.int 2147483563))), .ret (.bin .Mod (.blt .int [.bin .FloorDiv (.ix (.var 0) (.con (.int 1))) (.con (.int 83))]) (.var 1))]⟩ as := call_fn F_take.h_take
class F_pick (P : Pg) : Prop where h_pick : P.fn "_law_pick" = some ⟨["well", "some"], 2, [.ret (.ix (.var 1) (.call "_law_take" [.var 0, .blt .len [.var 1]] [] [0, 1]))]⟩
theorem r_pick {P : Pg} [F_pick P] {fl k : Nat} {as : List Sl} : (cfg P fl (k + 1)).call "_law_pick" as = run (cfg P fl k) ⟨["well", "some"], 2, [.ret (.ix (.var 1) (.call "_law_take" [.var 0, .blt .len [.var 1]] [] [0, 1]))]⟩ as := call_fn F_pick.h_pick
/-! ### the well -/
structure W where
  a : Int
  b : Int
  c : Int
def wD (s : W) : D := .lst [.int s.a, .int s.b, .int s.c]
def WOk (s : W) : Prop := 0 ≤ s.a ∧ 0 ≤ s.b ∧ s.b < 2147483563
section
variable {P : Pg} {fl : Nat}
theorem c_take [F_take P] (k : Nat) {s : W} {n : Int} (h : WOk s) (h0 : 0 < n) (h1 : n < 1073741824) : ∃ r s', 0 ≤ r ∧ r < n ∧ WOk s' ∧ (cfg P fl (k + 1)).call "_law_take" [.own (wD s), .ro (.int n)] = some (.val (.int r), [.own (wD s'), .ro (.int n)]) := by
  obtain ⟨a, b, c⟩ := s
  obtain ⟨ha, hb, hb2⟩ := h
  dsimp only at ha hb hb2
  by_cases z : 0 < a
  · refine ⟨a % n, ⟨a / n, b, c⟩, Int.emod_nonneg _ (by omega), Int.emod_lt_of_pos _ h0, ⟨Int.ediv_nonneg ha (by omega), hb, hb2⟩, ?_⟩
    rw [r_take]
    simp [wD, L2.atI, L2.ixN, z, h0, h1]
  · have m1 : R64 (b % 28657 + 40009) := r64 (by omega) (by omega)
    have m2 : R64 50023 := r64 (by omega) (by omega)
    refine ⟨((b * (b % 28657 + 40009) + 50023 * (c + 1) + 17) % 2147483563 / 83) % n, ⟨a, (b * (b % 28657 + 40009) + 50023 * (c + 1) + 17) % 2147483563, c + 1⟩, Int.emod_nonneg _ (by omega), Int.emod_lt_of_pos _ h0, ⟨ha, Int.emod_nonneg _ (by omega), Int.emod_lt_of_pos _ (by omega)⟩, ?_⟩
    rw [r_take]
    simp [wD, L2.atI, L2.ixN, z, h0, h1, m1, m2]
/-- a place is picked: from a list of one's own, from one that is read alone, from a tuple -/
theorem c_pick [F_take P] [F_pick P] (k : Nat) {α : Type} {e : α → D} {s : W} {xs : List α} (h : WOk s) (h0 : xs ≠ []) (h1 : xs.length ≤ 1000000) : ∃ x s', x ∈ xs ∧ WOk s' ∧
    ((cfg P fl (k + 2)).call "_law_pick" [.own (wD s), .own (.lst (xs.map e))] = some (.val (e x), [.own (wD s'), .own (.lst (xs.map e))])) ∧
    ((cfg P fl (k + 2)).call "_law_pick" [.own (wD s), .ro (.lst (xs.map e))] = some (.val (e x), [.own (wD s'), .ro (.lst (xs.map e))])) ∧
    ((cfg P fl (k + 2)).call "_law_pick" [.own (wD s), .ro (.tup (xs.map e))] = some (.val (e x), [.own (wD s'), .ro (.tup (xs.map e))])) := by
  have hl : 0 < xs.length := List.length_pos_iff.mpr h0
  obtain ⟨r, s', r0, r1, hs, e1⟩ := c_take (P := P) (fl := fl) k (n := (xs.length : Int)) h (by omega) (by omega)
  have hr : r.toNat < xs.length := by omega
  have ha : L2.atI (xs.map e) r = some (e xs[r.toNat]) := atI_of r0 (by simp [hr])
  refine ⟨xs[r.toNat], s', List.getElem_mem hr, hs, ?_, ?_, ?_⟩
  all_goals
    rw [r_pick]
    simp [e1, ha]
theorem erase_map {α β : Type} (f : α → β) : ∀ (l : List α) (i : Nat), (l.map f).eraseIdx i = (l.eraseIdx i).map f
  | [], _ => rfl
  | _ :: _, 0 => rfl
  | x :: l, i + 1 => by
    show f x :: (l.map f).eraseIdx i = f x :: (l.eraseIdx i).map f
    rw [erase_map f l i]
theorem cons_erase {α : Type} : ∀ {l : List α} {i : Nat} (h : i < l.length), (l[i] :: l.eraseIdx i).Perm l
  | [], i, h => absurd h (Nat.not_lt_zero i)
  | x :: l, 0, _ => .refl _
  | x :: l, i + 1, h => by
    have hi : i < l.length := by simpa using h
    have := cons_erase hi
    exact (List.Perm.swap x l[i] (l.eraseIdx i)).trans (this.cons x)
theorem erase_perm {l f : List Int} {i : Nat} (h : i < l.length) : (l.eraseIdx i ++ (f ++ [l[i]])).Perm (l ++ f) := by
  have h1 : (l[i] :: l.eraseIdx i).Perm l := cons_erase h
  have h2 : (l.eraseIdx i ++ (f ++ [l[i]])).Perm ((l[i] :: l.eraseIdx i) ++ f) := by
    rw [← List.append_assoc]
    exact List.perm_append_comm.trans (by simp)
  exact h2.trans (h1.append_right f)
theorem od_of_perm {n : Nat} {f : List Int} (h1 : 1 ≤ n) (h8 : n ≤ 8) (h : f.Perm (rng n)) : Od n f :=
  ⟨⟨by rw [h.length_eq, rng_len], h1, h8, fun x hx => mem_rng.mp (h.mem_iff.mp hx)⟩, h.nodup_iff.mpr (rng_nodup n)⟩
end
end PX

/-! PX, part H: plans with their names exchanged, plainly. -/
namespace PX
open PV
theorem showF_eq {n : Nat} {p : List Int} (h : p.length = n) (v : Int) : showF p v = (rng n).filter fun i => decide (at0 p i = v) := by
  subst h
  unfold showF rng
  have e : p.zipIdx = (List.range p.length).map fun (i : Nat) => (at0 p (i : Int), i) := by
    refine List.ext_getElem (by simp) fun i h1 h2 => ?_
    have hi : i < p.length := by simpa using h1
    simp [hi, at0]
  rw [e, List.filter_map, List.map_map, List.filter_map]
  rfl
theorem showF_mem {n : Nat} {p : List Int} (h : p.length = n) {v j : Int} : j ∈ showF p v ↔ (0 ≤ j ∧ j < n) ∧ at0 p j = v := by
  rw [showF_eq h, List.mem_filter, mem_rng, decide_eq_true_iff]
theorem showF_sorted (p : List Int) (v : Int) : (showF p v).Pairwise (· < ·) := by
  rw [showF_eq rfl]
  exact (rng_sorted _).filter _
theorem lt_le {l : List Int} (h : l.Pairwise (· < ·)) : l.Pairwise (· ≤ ·) := h.imp fun h => by omega
theorem at0_map {p : List Int} {n : Nat} (h : p.length = n) (f : Int → Int) {i : Int} (hi : 0 ≤ i ∧ i < n) : at0 (p.map f) i = f (at0 p i) := by
  have : i.toNat < p.length := by omega
  unfold at0
  rw [List.getElem?_map, List.getElem?_eq_getElem this]
  rfl
theorem mem_at {p : List Int} {n : Nat} (h : p.length = n) {x : Int} : x ∈ p ↔ ∃ i : Int, (0 ≤ i ∧ i < n) ∧ at0 p i = x := by
  constructor
  · intro hx
    obtain ⟨i, hi, e⟩ := List.getElem_of_mem hx
    refine ⟨i, by omega, ?_⟩
    unfold at0
    rw [Int.toNat_natCast, List.getElem?_eq_getElem hi]
    exact e
  · rintro ⟨i, hi, rfl⟩
    exact at0_mem h hi
theorem thenF_len (p q : List Int) : (thenF p q).length = p.length := by simp [thenF]
theorem thenF_at {p q : List Int} {n : Nat} (h : p.length = n) {i : Int} (hi : 0 ≤ i ∧ i < n) : at0 (thenF p q) i = at0 q (at0 p i) := at0_map h _ hi
theorem thenF_pl {n : Nat} {p q : List Int} (h : Pl n p) (h' : Pl n q) : Pl n (thenF p q) := by
  refine ⟨by rw [thenF_len, h.1], h.2.1, h.2.2.1, fun x hx => ?_⟩
  obtain ⟨y, hy, rfl⟩ := List.mem_map.mp hx
  exact at0_pl h' (h.2.2.2 y hy)
theorem nodup_map {f : Int → Int} {l : List Int} (h : l.Nodup) (hf : ∀ x ∈ l, ∀ y ∈ l, f x = f y → x = y) : (l.map f).Nodup := by
  refine List.pairwise_map.mpr ?_
  exact List.Pairwise.imp_of_mem (fun {a b} ha hb hne e => hne (hf a ha b hb e)) h
theorem thenF_od {n : Nat} {o s : List Int} (h : Od n o) (h' : Od n s) : Od n (thenF o s) :=
  ⟨thenF_pl h.1 h'.1, nodup_map h.2 fun x hx y hy e => h'.inj (h.1.2.2.2 x hx) (h.1.2.2.2 y hy) e⟩
theorem Od.range {n : Nat} {o : List Int} (h : Od n o) {i : Int} (hi : 0 ≤ i ∧ i < n) : 0 ≤ at0 o i ∧ at0 o i < n := at0_pl h.1 hi
theorem ren_ren {n : Nat} {p o s : List Int} (hp : Pl n p) (h : Od n o) (h' : Od n s) : renF n (renF n p o) s = renF n p (thenF o s) := by
  refine renF_of (thenF_od h h') (renF_len _ _) fun i hi => ?_
  rw [thenF_at h.1.1 hi, renF_at h' (h.range hi), renF_at h hi, thenF_at h.1.1 (at0_pl hp hi)]
/-- the order back -/
def backF (n : Nat) (o : List Int) : List Int := (rng n).map (inv0 o)
theorem backF_at {n : Nat} {o : List Int} {v : Int} (h : 0 ≤ v ∧ v < n) : at0 (backF n o) v = inv0 o v := at0_map_rng _ h
theorem backF_od {n : Nat} {o : List Int} (h : Od n o) : Od n (backF n o) := by
  refine ⟨⟨by simp [backF, rng_len], h.1.2.1, h.1.2.2.1, fun x hx => ?_⟩, nodup_map (rng_nodup n) fun x hx y hy e => ?_⟩
  · obtain ⟨v, hv, rfl⟩ := List.mem_map.mp hx
    exact h.inv_lt (mem_rng.mp hv)
  · rw [← h.at_inv (mem_rng.mp hx), e, h.at_inv (mem_rng.mp hy)]
theorem ren_back {n : Nat} {p o : List Int} (hp : Pl n p) (h : Od n o) : renF n (renF n p o) (backF n o) = p := by
  refine (renF_of (backF_od h) hp.1 fun v hv => ?_).symm
  rw [backF_at hv, renF_inv hv, backF_at (h.range (at0_pl hp (h.inv_lt hv))), h.inv_at (at0_pl hp (h.inv_lt hv))]
theorem ren_still {n : Nat} {p : List Int} (hp : Pl n p) : renF n p (rng n) = p :=
  (renF_of (rng_od hp.2.1 hp.2.2.1) hp.1 fun i hi => by rw [at0_rng hi, at0_rng (at0_pl hp hi)]).symm
theorem still_ren {n : Nat} {o : List Int} (h : Od n o) : renF n (rng n) o = rng n :=
  (renF_of h (rng_len n) fun i hi => by rw [at0_rng (h.range hi), at0_rng hi]).symm
theorem ren_then {n : Nat} {p q o : List Int} (hp : Pl n p) (hq : Pl n q) (h : Od n o) : renF n (thenF p q) o = thenF (renF n p o) (renF n q o) := by
  refine (renF_of h (by rw [thenF_len, renF_len]) fun i hi => ?_).symm
  rw [thenF_at (renF_len p o) (h.range hi), renF_at h hi, renF_at h (at0_pl hp hi), thenF_at hp.1 hi]
theorem mem_ren {n : Nat} {p o : List Int} (hp : Pl n p) (h : Od n o) {x : Int} : x ∈ renF n p o ↔ ∃ u ∈ p, x = at0 o u := by
  rw [mem_at (renF_len p o)]
  constructor
  · rintro ⟨i, hi, rfl⟩
    exact ⟨_, at0_mem hp.1 (h.inv_lt hi), renF_inv hi⟩
  · rintro ⟨u, hu, rfl⟩
    obtain ⟨i, hi, rfl⟩ := (mem_at hp.1).mp hu
    exact ⟨at0 o i, h.range hi, renF_at h hi⟩
theorem shown_perm {n : Nat} {p o : List Int} (hp : Pl n p) (h : Od n o) : (shownF (renF n p o)).Perm ((shownF p).map (at0 o)) := by
  refine perm_of_mem (shownF_nodup _) (nodup_map (shownF_nodup p) fun x hx y hy e => h.inj (hp.2.2.2 x (shownF_mem.mp hx)) (hp.2.2.2 y (shownF_mem.mp hy)) e) fun x => ?_
  rw [shownF_mem, mem_ren hp h, List.mem_map]
  constructor
  · rintro ⟨u, hu, rfl⟩
    exact ⟨u, shownF_mem.mpr hu, rfl⟩
  · rintro ⟨u, hu, rfl⟩
    exact ⟨u, shownF_mem.mp hu, rfl⟩
theorem isort_idem (l : List Int) : isort (isort l) = isort l := isort_of_sorted (isort_sorted l)
theorem shown_ren {n : Nat} {p o : List Int} (hp : Pl n p) (h : Od n o) : shownF (renF n p o) = isort ((shownF p).map (at0 o)) := by
  rw [← isort_congr (shown_perm hp h)]
  unfold shownF
  rw [isort_idem]
theorem show_ren {n : Nat} {p o : List Int} (hp : Pl n p) (h : Od n o) {v : Int} (hv : 0 ≤ v ∧ v < n) : showF (renF n p o) (at0 o v) = isort ((showF p v).map (at0 o)) := by
  rw [← isort_of_sorted (lt_le (showF_sorted (renF n p o) (at0 o v)))]
  refine isort_ext (nodup_of_lt (showF_sorted _ _)) (nodup_map (nodup_of_lt (showF_sorted _ _)) fun x hx y hy e => h.inj ((showF_mem hp.1).mp hx).1 ((showF_mem hp.1).mp hy).1 e) fun x => ?_
  rw [showF_mem (renF_len p o), List.mem_map]
  constructor
  · rintro ⟨hx, e⟩
    rw [renF_inv hx] at e
    exact ⟨inv0 o x, (showF_mem hp.1).mpr ⟨h.inv_lt hx, h.inj (at0_pl hp (h.inv_lt hx)) hv e⟩, h.at_inv hx⟩
  · rintro ⟨i, hi, rfl⟩
    obtain ⟨hi, e⟩ := (showF_mem hp.1).mp hi
    exact ⟨h.range hi, by rw [renF_at h hi, e]⟩
theorem lots_ren {n : Nat} {p o : List Int} (hp : Pl n p) (h : Od n o) : tsort ((shownF (renF n p o)).map (showF (renF n p o))) = tsort ((tsort ((shownF p).map (showF p))).map fun lot => isort (lot.map (at0 o))) := by
  have h1 := (shown_perm hp h).map (showF (renF n p o))
  have h2 := (tsort_perm ((shownF p).map (showF p))).map fun lot => isort (lot.map (at0 o))
  refine tsort_congr (h1.trans (List.Perm.trans ?_ h2.symm))
  rw [List.map_map, List.map_map]
  refine .of_eq (List.map_congr_left fun v hv => ?_)
  exact show_ren hp h (hp.2.2.2 v (shownF_mem.mp hv))
end PX

/-! PX, part G: what is drawn by the laws k57 to k71. -/
namespace PX
open PV
class F_wellE (P : Pg) : Prop where h_wellE : P.fn "_law_well" = some ⟨["script", "turn"], 5, [.asg 2 (.ife (.cmp .Lt (.var 1) (.blt .len [.var 0])) (.blt .int [.ix (.var 0) (.var 1)]) (.bin .Add (.bin .Add (.bin .Mult (.con (.int 7919)) (.var 1)) (.bin .Mod (.blt .int [.blt .sum [.slc (.var 0) none (some (.con (.int 3)))]]) (.con (.int 1000003)))) (.con (.int 29)))), .asg 3 (.bin .Add (.con (.int 40127)) (.bin .Mult (.con (.int 977)) (.var 1))), .lop (.nm 4) (.ovr (.bin .Add (.slc (.var 0) none (some (.con (.int 6)))) (.lst [.var 2]))) [.asg 3 (.bin .Mod (.blt .int [.bin .Add (.bin .Add (.bin .Mult (.var 3) (.con (.int 48271))) (.bin .Mod (.blt .int [.var 4]) (.con (.int 2147483399)))) (.con (.int 53))]) (.con (.int 2147483563)))], .ret (.lst [.ife (.bop false (.cmp .Lt (.var 2) (.con (.int 0))) (.cmp .GtE (.var 2) (.bin .Pow (.con (.int 10)) (.con (.int 17))))) (.blt .abs [.var 2]) (.con (.int 0)), .var 3, .con (.int 0)])]⟩
theorem r_wellE {P : Pg} [F_wellE P] {fl k : Nat} {as : List Sl} : (cfg P fl (k + 1)).call "_law_well" as = run (cfg P fl k) ⟨["script", "turn"], 5, [.asg 2 (.ife (.cmp .Lt (.var 1) (.blt .len [.var 0])) (.blt .int [.ix (.var 0) (.var 1)]) (.bin .Add (.bin .Add (.bin .Mult (.con (.int 7919)) (.var 1)) (.bin .Mod (.blt .int [.blt .sum [.slc (.var 0) none (some (.con (.int 3)))]]) (.con (.int 1000003)))) (.con (.int 29)))), .asg 3 (.bin .Add (.con (.int 40127)) (.bin .Mult (.con (.int 977)) (.var 1))), .lop (.nm 4) (.ovr (.bin .Add (.slc (.var 0) none (some (.con (.int 6)))) (.lst [.var 2]))) [.asg 3 (.bin .Mod (.blt .int [.bin .Add (.bin .Add (.bin .Mult (.var 3) (.con (.int 48271))) (.bin .Mod (.blt .int [.var 4]) (.con (.int 2147483399)))) (.con (.int 53))]) (.con (.int 2147483563)))], .ret (.lst [.ife (.bop false (.cmp .Lt (.var 2) (.con (.int 0))) (.cmp .GtE (.var 2) (.bin .Pow (.con (.int 10)) (.con (.int 17))))) (.blt .abs [.var 2]) (.con (.int 0)), .var 3, .con (.int 0)])]⟩ as := call_fn F_wellE.h_wellE
class F_orderE (P : Pg) : Prop where h_orderE : P.fn "_law_order" = some ⟨["well", "many"], 5, [.par [3, 4] [.ofr false [.var 1], .lst []], .lop (.nm 2) (.rng [.var 1]) [.ex (.app 4 (.popi 3 (.call "_law_take" [.var 0, .blt .len [.var 3]] [] [0, 1])))], .ret (.blt .tuple [.var 4])]⟩
theorem r_orderE {P : Pg} [F_orderE P] {fl k : Nat} {as : List Sl} : (cfg P fl (k + 1)).call "_law_order" as = run (cfg P fl k) ⟨["well", "many"], 5, [.par [3, 4] [.ofr false [.var 1], .lst []], .lop (.nm 2) (.rng [.var 1]) [.ex (.app 4 (.popi 3 (.call "_law_take" [.var 0, .blt .len [.var 3]] [] [0, 1])))], .ret (.blt .tuple [.var 4])]⟩ as := call_fn F_orderE.h_orderE
class F_namedE (P : Pg) : Prop where h_namedE : P.fn "_law_named" = some ⟨["plan", "order"], 4, [.asg 2 (.bin .Mult (.lst [.con (.int 0)]) (.blt .len [.var 0])), .lop (.nm 3) (.rng [.blt .len [.var 0]]) [.put 2 (.ix (.var 1) (.var 3)) (.ix (.var 1) (.ix (.var 0) (.var 3)))], .ret (.blt .tuple [.var 2])]⟩
theorem r_namedE {P : Pg} [F_namedE P] {fl k : Nat} {as : List Sl} : (cfg P fl (k + 1)).call "_law_named" as = run (cfg P fl k) ⟨["plan", "order"], 4, [.asg 2 (.bin .Mult (.lst [.con (.int 0)]) (.blt .len [.var 0])), .lop (.nm 3) (.rng [.blt .len [.var 0]]) [.put 2 (.ix (.var 1) (.var 3)) (.ix (.var 1) (.ix (.var 0) (.var 3)))], .ret (.blt .tuple [.var 2])]⟩ as := call_fn F_namedE.h_namedE
class F_planE (P : Pg) : Prop where h_planE : P.fn "_law_plan" = some ⟨["well", "many"], 7, [.asg 2 (.call "_law_take" [.var 0, .con (.int 6)] [] [0, 1]), .ite (.cmp .Eq (.var 2) (.con (.int 0))) [.ret (.call "_law_order" [.var 0, .var 1] [] [0, 1])] [], .ite (.cmp .Eq (.var 2) (.con (.int 1))) [.asg 3 (.bin .Add (.con (.int 1)) (.call "_law_take" [.var 0, .blt .min [.con (.int 3), .var 1]] [] [0, 1])), .ret (.blt .tuple [.lc (.call "_law_take" [.var 0, .var 3] [] [0, 1]) (.nm 4) (.rng [.var 1]) none])] [], .ite (.cmp .Eq (.var 2) (.con (.int 2))) [.ret (.call "_law_named" [.blt .tuple [.lc (.ife (.cmp .Eq (.var 4) (.con (.int 0))) (.call "_law_take" [.var 0, .bin .Add (.var 4) (.con (.int 1))] [] [0, 1]) (.call "_law_take" [.var 0, .var 4] [] [0, 1])) (.nm 4) (.rng [.var 1]) none], .call "_law_order" [.var 0, .var 1] [] [0, 1]] [] [0, 1])] [], .ite (.cmp .Eq (.var 2) (.con (.int 3))) [.par [5, 6] [.bin .Add (.con (.int 1)) (.call "_law_take" [.var 0, .var 1] [] [0, 1]), .lst []], .lop (.nm 4) (.rng [.var 1]) [.ex (.app 6 (.ife (.bop true (.cmp .NotEq (.bin .Mod (.blt .int [.bin .Add (.var 4) (.con (.int 1))]) (.var 5)) (.con (.int 0))) (.cmp .Lt (.bin .Add (.var 4) (.con (.int 1))) (.var 1))) (.bin .Add (.var 4) (.con (.int 1))) (.bin .Mult (.bin .FloorDiv (.var 4) (.var 5)) (.var 5))))], .ret (.call "_law_named" [.blt .tuple [.var 6], .call "_law_order" [.var 0, .var 1] [] [0, 1]] [] [0, 1])] [], .ret (.blt .tuple [.lc (.call "_law_take" [.var 0, .var 1] [] [0, 1]) (.nm 4) (.rng [.var 1]) none])]⟩
theorem r_planE {P : Pg} [F_planE P] {fl k : Nat} {as : List Sl} : (cfg P fl (k + 1)).call "_law_plan" as = run (cfg P fl k) ⟨["well", "many"], 7, [.asg 2 (.call "_law_take" [.var 0, .con (.int 6)] [] [0, 1]), .ite (.cmp .Eq (.var 2) (.con (.int 0))) [.ret (.call "_law_order" [.var 0, .var 1] [] [0, 1])] [], .ite (.cmp .Eq (.var 2) (.con (.int 1))) [.asg 3 (.bin .Add (.con (.int 1)) (.call "_law_take" [.var 0, .blt .min [.con (.int 3), .var 1]] [] [0, 1])), .ret (.blt .tuple [.lc (.call "_law_take" [.var 0, .var 3] [] [0, 1]) (.nm 4) (.rng [.var 1]) none])] [], .ite (.cmp .Eq (.var 2) (.con (.int 2))) [.ret (.call "_law_named" [.blt .tuple [.lc (.ife (.cmp .Eq (.var 4) (.con (.int 0))) (.call "_law_take" [.var 0, .bin .Add (.var 4) (.con (.int 1))] [] [0, 1]) (.call "_law_take" [.var 0, .var 4] [] [0, 1])) (.nm 4) (.rng [.var 1]) none], .call "_law_order" [.var 0, .var 1] [] [0, 1]] [] [0, 1])] [], .ite (.cmp .Eq (.var 2) (.con (.int 3))) [.par [5, 6] [.bin .Add (.con (.int 1)) (.call "_law_take" [.var 0, .var 1] [] [0, 1]), .lst []], .lop (.nm 4) (.rng [.var 1]) [.ex (.app 6 (.ife (.bop true (.cmp .NotEq (.bin .Mod (.blt .int [.bin .Add (.var 4) (.con (.int 1))]) (.var 5)) (.con (.int 0))) (.cmp .Lt (.bin .Add (.var 4) (.con (.int 1))) (.var 1))) (.bin .Add (.var 4) (.con (.int 1))) (.bin .Mult (.bin .FloorDiv (.var 4) (.var 5)) (.var 5))))], .ret (.call "_law_named" [.blt .tuple [.var 6], .call "_law_order" [.var 0, .var 1] [] [0, 1]] [] [0, 1])] [], .ret (.blt .tuple [.lc (.call "_law_take" [.var 0, .var 1] [] [0, 1]) (.nm 4) (.rng [.var 1]) none])]⟩ as := call_fn F_planE.h_planE
class F_sameE (P : Pg) : Prop where h_sameE : P.fn "_law_same" = some ⟨["told", "due"], 3, [.ite (.tru (.isi (.var 1) "tuple")) [.ret (.bop true (.isi (.var 0) "tuple") (.bop true (.cmp .Eq (.blt .len [.var 0]) (.blt .len [.var 1])) (.blt .all [.lc (.call "_law_same" [.ix (.var 0) (.var 2), .ix (.var 1) (.var 2)] [] [0, 1]) (.nm 2) (.rng [.blt .len [.var 1]]) none])))] [], .ite (.tru (.isi (.var 1) "list")) [.ret (.bop true (.isi (.var 0) "list") (.bop true (.cmp .Eq (.blt .len [.var 0]) (.blt .len [.var 1])) (.blt .all [.lc (.call "_law_same" [.ix (.var 0) (.var 2), .ix (.var 1) (.var 2)] [] [0, 1]) (.nm 2) (.rng [.blt .len [.var 1]]) none])))] [], .ite (.cmp .Is (.var 1) (.con .non)) [.ret (.cmp .Is (.var 0) (.con .non))] [], .ite (.tru (.isi (.var 1) "bool")) [.ret (.bop true (.isi (.var 0) "bool") (.cmp .Eq (.var 0) (.var 1)))] [], .ite (.tru (.isi (.var 1) "int")) [.ret (.bop true (.isi (.var 0) "int") (.bop true (.not (.isi (.var 0) "bool")) (.cmp .Eq (.var 0) (.var 1))))] [], .ite (.tru (.isi (.var 1) "str")) [.ret (.bop true (.isi (.var 0) "str") (.cmp .Eq (.var 0) (.var 1)))] [], .ret (.cmp .Eq (.var 0) (.var 1))]⟩
theorem r_sameE {P : Pg} [F_sameE P] {fl k : Nat} {as : List Sl} : (cfg P fl (k + 1)).call "_law_same" as = run (cfg P fl k) ⟨["told", "due"], 3, [.ite (.tru (.isi (.var 1) "tuple")) [.ret (.bop true (.isi (.var 0) "tuple") (.bop true (.cmp .Eq (.blt .len [.var 0]) (.blt .len [.var 1])) (.blt .all [.lc (.call "_law_same" [.ix (.var 0) (.var 2), .ix (.var 1) (.var 2)] [] [0, 1]) (.nm 2) (.rng [.blt .len [.var 1]]) none])))] [], .ite (.tru (.isi (.var 1) "list")) [.ret (.bop true (.isi (.var 0) "list") (.bop true (.cmp .Eq (.blt .len [.var 0]) (.blt .len [.var 1])) (.blt .all [.lc (.call "_law_same" [.ix (.var 0) (.var 2), .ix (.var 1) (.var 2)] [] [0, 1]) (.nm 2) (.rng [.blt .len [.var 1]]) none])))] [], .ite (.cmp .Is (.var 1) (.con .non)) [.ret (.cmp .Is (.var 0) (.con .non))] [], .ite (.tru (.isi (.var 1) "bool")) [.ret (.bop true (.isi (.var 0) "bool") (.cmp .Eq (.var 0) (.var 1)))] [], .ite (.tru (.isi (.var 1) "int")) [.ret (.bop true (.isi (.var 0) "int") (.bop true (.not (.isi (.var 0) "bool")) (.cmp .Eq (.var 0) (.var 1))))] [], .ite (.tru (.isi (.var 1) "str")) [.ret (.bop true (.isi (.var 0) "str") (.cmp .Eq (.var 0) (.var 1)))] [], .ret (.cmp .Eq (.var 0) (.var 1))]⟩ as := call_fn F_sameE.h_sameE
class F_thenE (P : Pg) : Prop where h_thenE : P.fn "_law_behind" = some ⟨["plan", "other"], 3, [.ret (.blt .tuple [.lc (.ix (.var 1) (.var 2)) (.nm 2) (.ovr (.var 0)) none])]⟩
theorem r_thenE {P : Pg} [F_thenE P] {fl k : Nat} {as : List Sl} : (cfg P fl (k + 1)).call "_law_behind" as = run (cfg P fl k) ⟨["plan", "other"], 3, [.ret (.blt .tuple [.lc (.ix (.var 1) (.var 2)) (.nm 2) (.ovr (.var 0)) none])]⟩ as := call_fn F_thenE.h_thenE
section
variable {P : Pg} {fl : Nat}
theorem c_orderE [F_take P] [F_orderE P] (k : Nat) {s : W} {n : Nat} (h : WOk s) (h1 : 1 ≤ n) (h8 : n ≤ 8) : ∃ o s', Od n o ∧ WOk s' ∧ (cfg P fl (k + 2)).call "_law_order" [.own (wD s), .ro (.int n)] = some (.val (tI o), [.own (wD s'), .ro (.int n)]) := by
  generalize hR : (cfg P fl (k + 2)).call _ _ = R
  rw [r_orderE] at hR
  have hr : R62 (n : Int) := r62 (by omega) (by omega)
  have hm : n ≤ most := w_most (by omega)
  simp [hr, hm] at hR
  generalize hL : forLoop _ _ _ = L at hR
  obtain ⟨ρ', rfl, s', l, f, hs, hl, hf, hp, z, rfl⟩ := for_at (e := D.int) (fun i ρ => ∃ (s : W) (l f : List Int), WOk s ∧ l.length + i = n ∧ f.length = i ∧ (l ++ f).Perm (rng n) ∧ ∃ z, ρ = [.own (wD s), .ro (.int n), z, .own (.lst (l.map .int)), .own (.lst (f.map .int))]) hL
    ⟨s, rng n, [], h, by simp, rfl, by simp, .un, rfl⟩ (fun i x hx ρ hI => by
      obtain ⟨s, l, f, hs, hl, hf, hp, z, rfl⟩ := hI
      have hi : i < n := by have := (List.getElem?_eq_some_iff.mp hx).1; simpa using this
      obtain ⟨r, s', r0, r1, hs', e⟩ := c_take (P := P) (fl := fl) k (n := (l.length : Int)) hs (by omega) (by omega)
      have hr : r.toNat < l.length := by omega
      have hm : f.length < most := Nat.lt_of_le_of_lt (show f.length ≤ 100 by omega) (by decide : 100 < 16000000)
      have hk : P63 r := p63 r0 (by omega)
      refine ⟨_, ?_, s', l.eraseIdx r.toNat, f ++ [l[r.toNat]], hs', by rw [List.length_eraseIdx_of_lt hr]; omega, by simp [hf], (erase_perm hr).trans hp, .ro (.int x), rfl⟩
      simp [e, hr, hm, hk, erase_map])
  have hl0 : l = [] := List.length_eq_zero_iff.mp (by rw [rng_length] at hl; omega)
  subst hl0
  simp at hR
  exact ⟨f, s', od_of_perm h1 h8 (by simpa using hp), hs, hR.symm⟩
theorem flat_rep {α : Type} : ∀ (n : Nat) (x : α), (List.replicate n [x]).flatten = List.replicate n x
  | 0, _ => rfl
  | n + 1, x => by rw [List.replicate_succ, List.flatten_cons, flat_rep n x]; rfl
theorem set_map {α β : Type} (g : α → β) (l : List α) (i : Nat) (x : α) : (l.map g).set i (g x) = (l.set i x).map g := by rw [List.map_set]
theorem at0_set {l : List Int} {i : Int} {x j : Int} (hi : 0 ≤ i ∧ i < l.length) (hj : 0 ≤ j) : at0 (l.set i.toNat x) j = if i = j then x else at0 l j := by
  unfold at0
  rw [List.getElem?_set]
  by_cases e : i = j
  · subst e
    rw [if_pos rfl, if_pos rfl, if_pos (by omega)]; rfl
  · rw [if_neg (by omega), if_neg e]
theorem c_namedE [F_namedE P] (k : Nat) {n : Nat} {p o : List Int} (hp : Pl n p) (h : Od n o) : (cfg P fl (k + 1)).call "_law_named" [.ro (tI p), .ro (tI o)] = some (.val (tI (renF n p o)), [.ro (tI p), .ro (tI o)]) := by
  rw [r_namedE]
  have h8 := hp.2.2.1
  have hl := hp.1
  have hr : R62 (n : Int) := r62 (by omega) (by omega)
  have hm : n ≤ most := w_most (by omega)
  have h63 : R63 (n : Int) := r63 (by omega) (by omega)
  have e0 : (List.replicate n [D.int 0]).flatten = (List.replicate n (0 : Int)).map .int := by
    rw [List.map_replicate]
    exact flat_rep n _
  simp [hl, hr, hm, h63, e0]
  generalize hL : forLoop _ _ _ = L
  obtain ⟨ρ', rfl, f, hf, hI, z, rfl⟩ := for_at (e := D.int) (fun i ρ => ∃ (f : List Int), f.length = n ∧ (∀ j : Int, 0 ≤ j ∧ j < i → at0 f (at0 o j) = at0 o (at0 p j)) ∧ ∃ z, ρ = [.ro (tI p), .ro (tI o), .own (.lst (f.map .int)), z]) hL
    ⟨List.replicate n 0, by simp, fun j hj => by omega, .un, by simp⟩ (fun i x hx ρ hI => by
      obtain ⟨f, hf, hI, z, rfl⟩ := hI
      have hi : i < n := by have := (List.getElem?_eq_some_iff.mp hx).1; simpa using this
      have hx' : x = (i : Int) := by
        have := (List.getElem?_eq_some_iff.mp hx).2
        simp [rng] at this
        exact this.symm
      subst hx'
      have hi2 : 0 ≤ (i : Int) ∧ (i : Int) < n := by omega
      have b1 := at0_pl hp hi2
      have b2 := at0_pl h.1 hi2
      have a1 := at_i hl hi2
      have a2 := at_i h.1.1 b1
      have a3 := at_i h.1.1 hi2
      have a4 : L2.ixN f.length (at0 o i) = some (at0 o i).toNat := by
        unfold L2.ixN
        rw [if_pos b2.1, if_pos (by omega)]
      refine ⟨_, ?_, f.set (at0 o i).toNat (at0 o (at0 p i)), by simp [hf], fun j hj => ?_, .ro (.int i), rfl⟩
      · simp [a1, a2, a3, a4]
      · rw [at0_set (by omega) (at0_pl h.1 (by omega)).1]
        by_cases e : (i : Int) = j
        · subst e
          rw [if_pos rfl]
        · rw [if_neg fun z => e (h.inj hi2 (by omega) z)]
          exact hI j (by omega))
  rw [rng_length] at hI
  rw [renF_of h hf hI]
  simp

theorem c_thenE [F_thenE P] (k : Nat) {n : Nat} {p q : List Int} (hl : p.length ≤ 1000) (hq : q.length = n) (h : ∀ x ∈ p, 0 ≤ x ∧ x < n) : (cfg P fl (k + 1)).call "_law_behind" [.ro (tI p), .ro (tI q)] = some (.val (tI (thenF p q)), [.ro (tI p), .ro (tI q)]) := by
  rw [r_thenE]
  simp [w_most (show p.length ≤ 16000000 by omega)]
  generalize hL : lcLoop _ _ _ = L
  obtain rfl := lc_one (e := D.int) (g := fun x => .int (at0 q x)) hL fun x hx => by simp [at_i hq (h x hx)]
  simp [thenF]
theorem c_wellE [F_wellE P] (k : Nat) {ns : List Int} {t : Nat} (hl : ns.length ≤ 63) (ht : t ≤ 1000) : ∃ s, WOk s ∧ (cfg P fl (k + 1)).call "_law_well" [.ro (.scr ns), .ro (.int t)] = some (.fr (wD s), [.ro (.scr ns), .ro (.int t)]) := by
  generalize hR : (cfg P fl (k + 1)).call _ _ = R
  rw [r_wellE] at hR
  have m1 : R64 7919 := r64 (by omega) (by omega)
  have m2 : R64 977 := r64 (by omega) (by omega)
  have m3 : R64 48271 := r64 (by omega) (by omega)
  have hm : min 6 ns.length + 1 ≤ most := w_most (by omega)
  have own : ∃ o : Int, ∀ x2 x3 x4 : Sl, ev (cfg P fl k) (.ife (.cmp .Lt (.var 1) (.blt .len [.var 0])) (.blt .int [.ix (.var 0) (.var 1)]) (.bin .Add (.bin .Add (.bin .Mult (.con (.int 7919)) (.var 1)) (.bin .Mod (.blt .int [.blt .sum [.slc (.var 0) none (some (.con (.int 3)))]]) (.con (.int 1000003)))) (.con (.int 29))))
      [.ro (.scr ns), .ro (.int t), x2, x3, x4] = some (.val (.int o), [.ro (.scr ns), .ro (.int t), x2, x3, x4]) := by
    by_cases h : t < ns.length
    · refine ⟨ns[t], fun x2 x3 x4 => ?_⟩
      have ha : L2.atI ns (t : Int) = some ns[t] := atI_of (i := (t : Int)) (by omega) (by simp [h])
      simp [h, ha]
    · refine ⟨7919 * t + (ns.take 3).sum % 1000003 + 29, fun x2 x3 x4 => ?_⟩
      have hs : bltD .sum [.lst (List.take 3 (ns.map D.int))] = some (.val (.int (ns.take 3).sum)) := by rw [← List.map_take, b_sum1]
      simp [h, m1, hs]
  obtain ⟨o, eo⟩ := own
  simp [↓eo, m2, hm] at hR
  generalize hL : forLoop _ _ _ = L at hR
  rw [show List.take 6 (ns.map D.int) ++ [D.int o] = (ns.take 6 ++ [o]).map D.int by simp] at hL
  obtain ⟨ρ', rfl, b, z, hb0, hb1, rfl⟩ := for_nx (e := D.int) (fun _ ρ => ∃ b z, 0 ≤ b ∧ b < 2147483563 ∧ ρ = [.ro (.scr ns), .ro (.int t), .ro (.int o), .ro (.int b), z]) hL ⟨40127 + 977 * t, .un, by omega, by omega, rfl⟩ (fun x hx done ρ ⟨b, z, hb0, hb1, hρ⟩ => by
      subst hρ
      refine ⟨_, ?_, (b * 48271 + x % 2147483399 + 53) % 2147483563, .ro (.int x), Int.emod_nonneg _ (by omega), Int.emod_lt_of_pos _ (by omega), rfl⟩
      simp [m3])
  by_cases ho : o < 0
  · simp [ho] at hR
    exact ⟨⟨-o, b, 0⟩, ⟨by show 0 ≤ -o; omega, hb0, hb1⟩, hR.symm⟩
  · by_cases ho2 : 100000000000000000 ≤ o
    · simp [ho, ho2] at hR
      exact ⟨⟨o, b, 0⟩, ⟨by show 0 ≤ o; omega, hb0, hb1⟩, hR.symm⟩
    · simp [ho, ho2] at hR
      exact ⟨⟨0, b, 0⟩, ⟨by show (0:Int) ≤ 0; omega, hb0, hb1⟩, hR.symm⟩
end
end PX

/-! PX, part I: what is drawn by the laws k57 to k71: plans; and how they look whether two values are one. -/
namespace PX
open PV
section
variable {P : Pg} {fl : Nat}
theorem ite_same {α : Type} (c : Prop) [Decidable c] (a : α) : (if c then a else a) = a := by split <;> rfl
theorem c_planE [F_take P] [F_orderE P] [F_namedE P] [F_planE P] (k : Nat) {s : W} {n : Nat} (h : WOk s) (h1 : 1 ≤ n) (h8 : n ≤ 8) : ∃ p s', Pl n p ∧ WOk s' ∧ (cfg P fl (k + 3)).call "_law_plan" [.own (wD s), .ro (.int n)] = some (.val (tI p), [.own (wD s'), .ro (.int n)]) := by
  generalize hR : (cfg P fl (k + 3)).call _ _ = R
  rw [r_planE] at hR
  have hr : R62 (n : Int) := r62 (by omega) (by omega)
  have hm : n ≤ most := w_most (by omega)
  obtain ⟨w, s1, w0, w1, hs1, ew⟩ := c_take (P := P) (fl := fl) (k + 1) (n := 6) h (by decide) (by decide)
  by_cases z0 : w = 0
  · subst z0
    obtain ⟨o, s2, ho, hs2, eo⟩ := c_orderE (P := P) (fl := fl) k hs1 h1 h8
    simp [ew, eo] at hR
    exact ⟨o, s2, ho.1, hs2, hR.symm⟩
  by_cases z1 : w = 1
  · subst z1
    obtain ⟨b, hb0, hb1, eb⟩ : ∃ b : Int, 0 < b ∧ b ≤ n ∧ (if (n : Int) < 3 then (n : Int) else 3) = b := by
      by_cases q : (n : Int) < 3
      · exact ⟨n, by omega, by omega, if_pos q⟩
      · exact ⟨3, by omega, by omega, if_neg q⟩
    obtain ⟨r, s2, r0, r1, hs2, er⟩ := c_take (P := P) (fl := fl) (k + 1) (n := b) hs1 hb0 (by omega)
    simp [ew, eb, er, hr, hm] at hR
    generalize hL : lcLoop _ _ _ = L at hR
    obtain ⟨ys, ρ', rfl, ⟨s3, hs3, rfl⟩, hl, hy⟩ := lc_draw (e := D.int) (g := D.int) (fun ρ => ∃ s, WOk s ∧ ρ = [.own (wD s), .ro (.int n), .ro (.int 1), .ro (.int (1 + r)), .un, .un, .un]) (fun y => 0 ≤ y ∧ y < (n : Int)) hL ⟨s2, hs2, rfl⟩ (fun x hx ρ ⟨s, hs, hρ⟩ => by
      subst hρ
      obtain ⟨q, s', q0, q1, hs', e⟩ := c_take (P := P) (fl := fl) (k + 1) (n := 1 + r) hs (by omega) (by omega)
      refine ⟨q, _, ?_, ⟨s', hs', rfl⟩, by omega, by omega⟩
      simp [e])
    simp at hR
    exact ⟨ys, s3, ⟨by simpa using hl, h1, h8, hy⟩, hs3, hR.symm⟩
  by_cases z2 : w = 2
  · subst z2
    simp [ew, hr, hm] at hR
    generalize hL : lcLoop _ _ _ = L at hR
    obtain ⟨ys, ρ', rfl, ⟨s3, hs3, rfl⟩, hl, hy⟩ := lc_draw (e := D.int) (g := D.int) (fun ρ => ∃ s, WOk s ∧ ρ = [.own (wD s), .ro (.int n), .ro (.int 2), .un, .un, .un, .un]) (fun y => 0 ≤ y ∧ y < (n : Int)) hL ⟨s1, hs1, rfl⟩ (fun x hx ρ ⟨s, hs, hρ⟩ => by
      subst hρ
      have hx := mem_rng.mp hx
      by_cases q : x = 0
      · subst q
        obtain ⟨q, s', q0, q1, hs', e⟩ := c_take (P := P) (fl := fl) (k + 1) (n := 1) hs (by omega) (by omega)
        refine ⟨q, _, ?_, ⟨s', hs', rfl⟩, by omega, by omega⟩
        simp [e]
      · obtain ⟨q', s', q0, q1, hs', e⟩ := c_take (P := P) (fl := fl) (k + 1) (n := x) hs (by omega) (by omega)
        refine ⟨q', _, ?_, ⟨s', hs', rfl⟩, by omega, by omega⟩
        simp [e, q])
    have hp : Pl n ys := ⟨by simpa using hl, h1, h8, hy⟩
    obtain ⟨o, s2, ho, hs2, eo⟩ := c_orderE (P := P) (fl := fl) k hs3 h1 h8
    simp [eo, c_namedE (k + 1) hp ho] at hR
    exact ⟨_, s2, renF_pl hp ho, hs2, hR.symm⟩
  by_cases z3 : w = 3
  · subst z3
    obtain ⟨r, s2, r0, r1, hs2, er⟩ := c_take (P := P) (fl := fl) (k + 1) (n := (n : Int)) hs1 (by omega) (by omega)
    simp [ew, er, hr, hm] at hR
    generalize hL : forLoop _ _ _ = L at hR
    obtain ⟨ρ', rfl, f, hf, hb, z, rfl⟩ := for_at (e := D.int) (fun i ρ => ∃ (f : List Int), f.length = i ∧ (∀ x ∈ f, 0 ≤ x ∧ x < (n : Int)) ∧ ∃ z, ρ = [.own (wD s2), .ro (.int n), .ro (.int 3), .un, z, .ro (.int (1 + r)), .own (.lst (f.map .int))]) hL
      ⟨[], rfl, by simp, .un, rfl⟩ (fun i x hx ρ hI => by
        obtain ⟨f, hf, hb, z, rfl⟩ := hI
        have hi : i < n := by have := (List.getElem?_eq_some_iff.mp hx).1; simpa using this
        have hx' : 0 ≤ x ∧ x < n := mem_rng.mp (List.mem_of_getElem? hx)
        have hm : f.length < most := Nat.lt_of_le_of_lt (show f.length ≤ 100 by omega) (by decide : 100 < 16000000)
        have hq : 0 < 1 + r := by omega
        have hq2 : 1 + r < 1073741824 := by omega
        have h64 : R64 (1 + r) := r64 (by omega) (by omega)
        have d0 : 0 ≤ x / (1 + r) := Int.ediv_nonneg hx'.1 (by omega)
        have d1 : x / (1 + r) * (1 + r) ≤ x := Int.ediv_mul_le x (by omega)
        have d2 : 0 ≤ x / (1 + r) * (1 + r) := Int.mul_nonneg d0 (by omega)
        by_cases c1 : (x + 1) % (1 + r) = 0
        · refine ⟨_, ?_, f ++ [x / (1 + r) * (1 + r)], by simp [hf], fun y hy => ?_, .ro (.int x), rfl⟩
          · simp [c1, hq, hq2, h64, hm]
          · rcases List.mem_append.mp hy with hy | hy
            · exact hb y hy
            · rw [List.mem_singleton.mp hy]; omega
        · by_cases c2 : x + 1 < n
          · refine ⟨_, ?_, f ++ [x + 1], by simp [hf], fun y hy => ?_, .ro (.int x), rfl⟩
            · simp [c1, c2, hq, hm]
            · rcases List.mem_append.mp hy with hy | hy
              · exact hb y hy
              · rw [List.mem_singleton.mp hy]; omega
          · refine ⟨_, ?_, f ++ [x / (1 + r) * (1 + r)], by simp [hf], fun y hy => ?_, .ro (.int x), rfl⟩
            · simp [c1, c2, hq, hq2, h64, hm]
            · rcases List.mem_append.mp hy with hy | hy
              · exact hb y hy
              · rw [List.mem_singleton.mp hy]; omega)
    have hp : Pl n f := ⟨by simpa using hf, h1, h8, hb⟩
    obtain ⟨o, s3, ho, hs3, eo⟩ := c_orderE (P := P) (fl := fl) k hs2 h1 h8
    simp [eo, c_namedE (k + 1) hp ho] at hR
    exact ⟨_, s3, renF_pl hp ho, hs3, hR.symm⟩
  · simp [ew, z0, z1, z2, z3, hr, hm] at hR
    generalize hL : lcLoop _ _ _ = L at hR
    obtain ⟨ys, ρ', rfl, ⟨s3, hs3, rfl⟩, hl, hy⟩ := lc_draw (e := D.int) (g := D.int) (fun ρ => ∃ s, WOk s ∧ ρ = [.own (wD s), .ro (.int n), .ro (.int w), .un, .un, .un, .un]) (fun y => 0 ≤ y ∧ y < (n : Int)) hL ⟨s1, hs1, rfl⟩ (fun x hx ρ ⟨s, hs, hρ⟩ => by
      subst hρ
      obtain ⟨q, s', q0, q1, hs', e⟩ := c_take (P := P) (fl := fl) (k + 1) (n := (n : Int)) hs (by omega) (by omega)
      refine ⟨q, _, ?_, ⟨s', hs', rfl⟩, by omega, by omega⟩
      simp [e])
    simp at hR
    exact ⟨ys, s3, ⟨by simpa using hl, h1, h8, hy⟩, hs3, hR.symm⟩
/-! ### whether two values are one -/
theorem ok_str {s : PySem.Str} (h : PySem.PyData.strOk s = true) : Ok 0 (.str s) := ⟨rfl, by simp [D.py, PySem.PyData.canLay0, h], Nat.le_refl _⟩
theorem c_eqs {s : PySem.Str} (h : PySem.PyData.strOk s = true) : cmpD .Eq (.str s) (.str s) = some true := by
  rw [(ok_cmp2 (ok_str h) (ok_str h) (by decide) (by decide)).1]
  show some (PySem.PyData.eqv (.str s) (.str s)) = _
  simp [PySem.PyData.eqv]
/-- a value of wholes, texts, truth values, None, tuples and lists of these -/
def Vl : Nat → D → Prop
  | 0, d => d = .non ∨ (∃ b, d = .bl b) ∨ (∃ i, d = .int i) ∨ ∃ s, d = .str s ∧ PySem.PyData.strOk s = true
  | n + 1, d => Vl n d ∨ ∃ xs : List D, (d = .tup xs ∨ d = .lst xs) ∧ xs.length ≤ 1000000 ∧ ∀ x ∈ xs, Vl n x
theorem Vl.succ {n : Nat} {d : D} (h : Vl n d) : Vl (n + 1) d := .inl h
theorem Vl.int (n : Nat) (i : Int) : Vl n (.int i) := by
  induction n with
  | zero => exact .inr (.inr (.inl ⟨i, rfl⟩))
  | succ n ih => exact .inl ih
theorem Vl.bl (n : Nat) (i : Bool) : Vl n (.bl i) := by
  induction n with
  | zero => exact .inr (.inl ⟨i, rfl⟩)
  | succ n ih => exact .inl ih
theorem Vl.non (n : Nat) : Vl n .non := by
  induction n with
  | zero => exact .inl rfl
  | succ n ih => exact .inl ih
theorem Vl.tI (n : Nat) {p : List Int} (h : p.length ≤ 1000000) : Vl (n + 1) (tI p) := .inr ⟨_, .inl rfl, by simpa using h, fun x hx => by
  obtain ⟨i, _, rfl⟩ := List.mem_map.mp hx
  exact .int n i⟩
theorem Vl.tup {n : Nat} {xs : List D} (h : xs.length ≤ 1000000) (h' : ∀ x ∈ xs, Vl n x) : Vl (n + 1) (.tup xs) := .inr ⟨xs, .inl rfl, h, h'⟩
theorem Vl.lst {n : Nat} {xs : List D} (h : xs.length ≤ 1000000) (h' : ∀ x ∈ xs, Vl n x) : Vl (n + 1) (.lst xs) := .inr ⟨xs, .inr rfl, h, h'⟩
theorem at_rng {xs : List D} {i : Int} (hi : i ∈ rng xs.length) : ∃ x ∈ xs, L2.atI xs i = some x := by
  have hi := mem_rng.mp hi
  have hl : i.toNat < xs.length := by omega
  exact ⟨xs[i.toNat], List.getElem_mem hl, atI_of hi.1 (List.getElem?_eq_getElem hl)⟩
theorem c_sameE [F_sameE P] : ∀ (n k : Nat) {d : D}, Vl n d → (cfg P fl (k + n + 1)).call "_law_same" [.ro d, .ro d] = some (.val (.bl true), [.ro d, .ro d])
  | 0, k, d, h => by
    rw [r_sameE]
    rcases h with rfl | ⟨b, rfl⟩ | ⟨i, rfl⟩ | ⟨s, rfl, hs⟩
    · simp
    · simp
    · simp
    · simp [c_eqs hs]
  | n + 1, k, d, h => by
    rcases h with h | ⟨xs, h, hl, hx⟩
    · have := c_sameE n (k + 1) h
      rwa [show k + 1 + n + 1 = k + (n + 1) + 1 by omega] at this
    · rw [r_sameE]
      have h1 : R62 (xs.length : Int) := r62 (by omega) (by omega)
      have h2 : xs.length ≤ most := w_most (by omega)
      rcases h with rfl | rfl
      · simp [h1, h2]
        generalize hL : lcLoop _ _ _ = L
        obtain rfl := lc_one (e := D.int) (g := fun _ => .bl true) hL fun i hi => by
          obtain ⟨x, hx', ex⟩ := at_rng hi
          have : (cfg P fl (k + (n + 1))).call "_law_same" [.ro x, .ro x] = _ := c_sameE n k (hx x hx')
          simp [ex, this]
        simp
      · simp [h1, h2]
        generalize hL : lcLoop _ _ _ = L
        obtain rfl := lc_one (e := D.int) (g := fun _ => .bl true) hL fun i hi => by
          obtain ⟨x, hx', ex⟩ := at_rng hi
          have : (cfg P fl (k + (n + 1))).call "_law_same" [.ro x, .ro x] = _ := c_sameE n k (hx x hx')
          simp [ex, this]
        simp
end
end PX

/-! PX, part J: loops whose rows are named. -/
namespace PX
open PV
section
variable {α β : Type} {f : D → Rho → Option (List D × Rho)} {e : α → D} {en : β → D} {L : Option (List D × Rho)}
theorem lc_enc {ρ : Rho} {xs : List α} (g : α → β) (hL : lcLoop f (xs.map e) ρ = L) (h : ∀ x ∈ xs, f (e x) ρ = some ([en (g x)], ρ)) : ∃ ys, ys = xs.map g ∧ L = some (ys.map en, ρ) :=
  ⟨_, rfl, by rw [lc_one (g := fun x => en (g x)) hL h, List.map_map]; rfl⟩
theorem lc_encf {ρ : Rho} {xs : List α} (g : α → β) (p : α → Bool) (hL : lcLoop f (xs.map e) ρ = L) (h : ∀ x ∈ xs, f (e x) ρ = some (if p x then [en (g x)] else [], ρ)) : ∃ ys, ys = (xs.filter p).map g ∧ L = some (ys.map en, ρ) :=
  ⟨_, rfl, by rw [lc_filter (g := fun x => en (g x)) hL h, List.map_map]; rfl⟩
end
theorem map_rng_at {n : Nat} {p : List Int} (h : p.length = n) : (rng n).map (at0 p) = p :=
  ext_at (by simp) h fun i hi => at0_map_rng _ hi
theorem then_rng {n : Nat} {o s : List Int} (h : o.length = n) : (rng n).map (fun v => at0 s (at0 o v)) = thenF o s := by
  unfold thenF
  conv => rhs; rw [← map_rng_at h]
  rw [List.map_map]; rfl
theorem thenF_rng {n : Nat} {p : List Int} (h : Pl n p) : thenF p (rng n) = p :=
  ext_at (by rw [thenF_len, h.1]) h.1 fun i hi => by rw [thenF_at h.1 hi, at0_rng (at0_pl h hi)]
theorem rng_then {n : Nat} {p : List Int} (h : p.length = n) : thenF (rng n) p = p := map_rng_at h
end PX

/-! PX, part K: what is drawn by the laws k01 to k14. -/
namespace PX
open PV
class F_wellA (P : Pg) : Prop where h_wellA : P.fn "_law_well" = some ⟨["script", "turn"], 5, [.asg 2 (.ife (.cmp .Lt (.var 1) (.blt .len [.var 0])) (.blt .int [.ix (.var 0) (.var 1)]) (.bin .Add (.bin .Add (.bin .Mult (.con (.int 9311)) (.var 1)) (.bin .Mod (.blt .int [.blt .sum [.slc (.var 0) none (some (.con (.int 2)))]]) (.con (.int 1000003)))) (.con (.int 71)))), .asg 3 (.bin .Add (.con (.int 50021)) (.bin .Mult (.con (.int 1013)) (.var 1))), .lop (.nm 4) (.ovr (.bin .Add (.slc (.var 0) none (some (.con (.int 5)))) (.lst [.var 2]))) [.asg 3 (.bin .Mod (.blt .int [.bin .Add (.bin .Add (.bin .Mult (.var 3) (.con (.int 45013))) (.bin .Mod (.blt .int [.var 4]) (.con (.int 2147483399)))) (.con (.int 37))]) (.con (.int 2147483563)))], .ret (.lst [.ife (.bop false (.cmp .Lt (.var 2) (.con (.int 0))) (.cmp .GtE (.var 2) (.bin .Pow (.con (.int 10)) (.con (.int 17))))) (.bin .Mod (.blt .int [.blt .abs [.var 2]]) (.bin .Pow (.con (.int 10)) (.con (.int 60)))) (.con (.int 0)), .var 3, .con (.int 0)])]⟩
theorem r_wellA {P : Pg} [F_wellA P] {fl k : Nat} {as : List Sl} : (cfg P fl (k + 1)).call "_law_well" as = run (cfg P fl k) ⟨["script", "turn"], 5, [.asg 2 (.ife (.cmp .Lt (.var 1) (.blt .len [.var 0])) (.blt .int [.ix (.var 0) (.var 1)]) (.bin .Add (.bin .Add (.bin .Mult (.con (.int 9311)) (.var 1)) (.bin .Mod (.blt .int [.blt .sum [.slc (.var 0) none (some (.con (.int 2)))]]) (.con (.int 1000003)))) (.con (.int 71)))), .asg 3 (.bin .Add (.con (.int 50021)) (.bin .Mult (.con (.int 1013)) (.var 1))), .lop (.nm 4) (.ovr (.bin .Add (.slc (.var 0) none (some (.con (.int 5)))) (.lst [.var 2]))) [.asg 3 (.bin .Mod (.blt .int [.bin .Add (.bin .Add (.bin .Mult (.var 3) (.con (.int 45013))) (.bin .Mod (.blt .int [.var 4]) (.con (.int 2147483399)))) (.con (.int 37))]) (.con (.int 2147483563)))], .ret (.lst [.ife (.bop false (.cmp .Lt (.var 2) (.con (.int 0))) (.cmp .GtE (.var 2) (.bin .Pow (.con (.int 10)) (.con (.int 17))))) (.bin .Mod (.blt .int [.blt .abs [.var 2]]) (.bin .Pow (.con (.int 10)) (.con (.int 60)))) (.con (.int 0)), .var 3, .con (.int 0)])]⟩ as := call_fn F_wellA.h_wellA
class F_isA (P : Pg) : Prop where h_isA : P.fn "_law_is" = some ⟨["one", "due"], 4, [.ite (.tru (.isi (.var 1) "tuple")) [.ite (.bop false (.not (.tru (.isi (.var 0) "tuple"))) (.cmp .NotEq (.blt .len [.var 0]) (.blt .len [.var 1]))) [.ret (.con (.bl false))] [], .ret (.blt .all [.lc (.call "_law_is" [.ix (.var 0) (.var 2), .var 3] [] [0, 1]) (.tp [2, 3]) (.enm (.var 1)) none])] [], .ite (.tru (.isi (.var 1) "list")) [.ret (.bop true (.isi (.var 0) "list") (.call "_law_is" [.blt .tuple [.var 0], .blt .tuple [.var 1]] [] [0, 1]))] [], .ite (.tru (.isi (.var 1) "dict")) [.ret (.bop true (.isi (.var 0) "dict") (.cmp .Eq (.var 0) (.var 1)))] [], .ite (.bop false (.cmp .Is (.var 1) (.con .non)) (.bop false (.cmp .Is (.var 1) (.con (.bl true))) (.cmp .Is (.var 1) (.con (.bl false))))) [.ret (.ife (.cmp .Is (.var 1) (.con .non)) (.cmp .Is (.var 0) (.con .non)) (.ife (.cmp .Is (.var 1) (.con (.bl true))) (.cmp .Is (.var 0) (.con (.bl true))) (.cmp .Is (.var 0) (.con (.bl false)))))] [], .ite (.tru (.isi (.var 1) "int")) [.ret (.bop true (.isi (.var 0) "int") (.bop true (.not (.isi (.var 0) "bool")) (.cmp .Eq (.var 0) (.var 1))))] [], .ret (.bop true (.isi (.var 0) "str") (.cmp .Eq (.var 0) (.var 1)))]⟩
theorem r_isA {P : Pg} [F_isA P] {fl k : Nat} {as : List Sl} : (cfg P fl (k + 1)).call "_law_is" as = run (cfg P fl k) ⟨["one", "due"], 4, [.ite (.tru (.isi (.var 1) "tuple")) [.ite (.bop false (.not (.tru (.isi (.var 0) "tuple"))) (.cmp .NotEq (.blt .len [.var 0]) (.blt .len [.var 1]))) [.ret (.con (.bl false))] [], .ret (.blt .all [.lc (.call "_law_is" [.ix (.var 0) (.var 2), .var 3] [] [0, 1]) (.tp [2, 3]) (.enm (.var 1)) none])] [], .ite (.tru (.isi (.var 1) "list")) [.ret (.bop true (.isi (.var 0) "list") (.call "_law_is" [.blt .tuple [.var 0], .blt .tuple [.var 1]] [] [0, 1]))] [], .ite (.tru (.isi (.var 1) "dict")) [.ret (.bop true (.isi (.var 0) "dict") (.cmp .Eq (.var 0) (.var 1)))] [], .ite (.bop false (.cmp .Is (.var 1) (.con .non)) (.bop false (.cmp .Is (.var 1) (.con (.bl true))) (.cmp .Is (.var 1) (.con (.bl false))))) [.ret (.ife (.cmp .Is (.var 1) (.con .non)) (.cmp .Is (.var 0) (.con .non)) (.ife (.cmp .Is (.var 1) (.con (.bl true))) (.cmp .Is (.var 0) (.con (.bl true))) (.cmp .Is (.var 0) (.con (.bl false)))))] [], .ite (.tru (.isi (.var 1) "int")) [.ret (.bop true (.isi (.var 0) "int") (.bop true (.not (.isi (.var 0) "bool")) (.cmp .Eq (.var 0) (.var 1))))] [], .ret (.bop true (.isi (.var 0) "str") (.cmp .Eq (.var 0) (.var 1)))]⟩ as := call_fn F_isA.h_isA
class F_shuffledA (P : Pg) : Prop where h_shuffledA : P.fn "_law_shuffled" = some ⟨["well", "some"], 6, [.par [3, 4] [.blt .list [.var 1], .lst []], .lop (.nm 2) (.rng [.blt .len [.var 3]]) [.asg 5 (.call "_law_take" [.var 0, .blt .len [.var 3]] [] [0, 1]), .ex (.app 4 (.ix (.var 3) (.var 5))), .asg 3 (.bin .Add (.slc (.var 3) none (some (.var 5))) (.slc (.var 3) (some (.bin .Add (.var 5) (.con (.int 1)))) none))], .ret (.var 4)]⟩
theorem r_shuffledA {P : Pg} [F_shuffledA P] {fl k : Nat} {as : List Sl} : (cfg P fl (k + 1)).call "_law_shuffled" as = run (cfg P fl k) ⟨["well", "some"], 6, [.par [3, 4] [.blt .list [.var 1], .lst []], .lop (.nm 2) (.rng [.blt .len [.var 3]]) [.asg 5 (.call "_law_take" [.var 0, .blt .len [.var 3]] [] [0, 1]), .ex (.app 4 (.ix (.var 3) (.var 5))), .asg 3 (.bin .Add (.slc (.var 3) none (some (.var 5))) (.slc (.var 3) (some (.bin .Add (.var 5) (.con (.int 1)))) none))], .ret (.var 4)]⟩ as := call_fn F_shuffledA.h_shuffledA
class F_drawnA (P : Pg) : Prop where h_drawnA : P.fn "_law_drawn_plan" = some ⟨["well", "many"], 5, [.asg 2 (.call "_law_take" [.var 0, .con (.int 6)] [] [0, 1]), .ite (.cmp .Eq (.var 2) (.con (.int 0))) [.ret (.blt .tuple [.call "_law_shuffled" [.var 0, .ofr false [.var 1]] [] [0, 1]])] [], .ite (.cmp .Eq (.var 2) (.con (.int 1))) [.asg 3 (.slc (.call "_law_shuffled" [.var 0, .ofr false [.var 1]] [] [0, 1]) none (some (.bin .Add (.con (.int 1)) (.call "_law_take" [.var 0, .con (.int 2)] [] [0, 1])))), .ret (.blt .tuple [.lc (.call "_law_pick" [.var 0, .var 3] [] [0, 1]) (.nm 4) (.rng [.var 1]) none])] [], .ite (.cmp .Eq (.var 2) (.con (.int 2))) [.ret (.blt .tuple [.lc (.call "_law_take" [.var 0, .bin .Add (.var 4) (.con (.int 1))] [] [0, 1]) (.nm 4) (.rng [.var 1]) none])] [], .ite (.cmp .Eq (.var 2) (.con (.int 3))) [.asg 3 (.call "_law_drawn_order" [.var 0, .var 1] [] [0, 1]), .ret (.blt .tuple [.lc (.ix (.var 3) (.blt .max [.con (.int 0), .bin .Sub (.mix 3 (.var 4)) (.con (.int 1))])) (.nm 4) (.rng [.var 1]) none])] [], .ret (.blt .tuple [.lc (.call "_law_take" [.var 0, .var 1] [] [0, 1]) (.nm 4) (.rng [.var 1]) none])]⟩
theorem r_drawnA {P : Pg} [F_drawnA P] {fl k : Nat} {as : List Sl} : (cfg P fl (k + 1)).call "_law_drawn_plan" as = run (cfg P fl k) ⟨["well", "many"], 5, [.asg 2 (.call "_law_take" [.var 0, .con (.int 6)] [] [0, 1]), .ite (.cmp .Eq (.var 2) (.con (.int 0))) [.ret (.blt .tuple [.call "_law_shuffled" [.var 0, .ofr false [.var 1]] [] [0, 1]])] [], .ite (.cmp .Eq (.var 2) (.con (.int 1))) [.asg 3 (.slc (.call "_law_shuffled" [.var 0, .ofr false [.var 1]] [] [0, 1]) none (some (.bin .Add (.con (.int 1)) (.call "_law_take" [.var 0, .con (.int 2)] [] [0, 1])))), .ret (.blt .tuple [.lc (.call "_law_pick" [.var 0, .var 3] [] [0, 1]) (.nm 4) (.rng [.var 1]) none])] [], .ite (.cmp .Eq (.var 2) (.con (.int 2))) [.ret (.blt .tuple [.lc (.call "_law_take" [.var 0, .bin .Add (.var 4) (.con (.int 1))] [] [0, 1]) (.nm 4) (.rng [.var 1]) none])] [], .ite (.cmp .Eq (.var 2) (.con (.int 3))) [.asg 3 (.call "_law_drawn_order" [.var 0, .var 1] [] [0, 1]), .ret (.blt .tuple [.lc (.ix (.var 3) (.blt .max [.con (.int 0), .bin .Sub (.mix 3 (.var 4)) (.con (.int 1))])) (.nm 4) (.rng [.var 1]) none])] [], .ret (.blt .tuple [.lc (.call "_law_take" [.var 0, .var 1] [] [0, 1]) (.nm 4) (.rng [.var 1]) none])]⟩ as := call_fn F_drawnA.h_drawnA
class F_orderA (P : Pg) : Prop where h_orderA : P.fn "_law_drawn_order" = some ⟨["well", "many"], 2, [.ret (.blt .tuple [.call "_law_shuffled" [.var 0, .ofr false [.var 1]] [] [0, 1]])]⟩
theorem r_orderA {P : Pg} [F_orderA P] {fl k : Nat} {as : List Sl} : (cfg P fl (k + 1)).call "_law_drawn_order" as = run (cfg P fl k) ⟨["well", "many"], 2, [.ret (.blt .tuple [.call "_law_shuffled" [.var 0, .ofr false [.var 1]] [] [0, 1]])]⟩ as := call_fn F_orderA.h_orderA
theorem erase_permG {α : Type} {l f : List α} {i : Nat} (h : i < l.length) : (l.eraseIdx i ++ (f ++ [l[i]])).Perm (l ++ f) := by
  have h1 : (l[i] :: l.eraseIdx i).Perm l := cons_erase h
  have h2 : (l.eraseIdx i ++ (f ++ [l[i]])).Perm ((l[i] :: l.eraseIdx i) ++ f) := by
    rw [← List.append_assoc]
    exact List.perm_append_comm.trans (by simp)
  exact h2.trans (h1.append_right f)
section
variable {P : Pg} {fl : Nat}
theorem c_wellA [F_wellA P] (k : Nat) {ns : List Int} {t : Nat} (hl : ns.length ≤ 63) (ht : t ≤ 1000) : ∃ s, WOk s ∧ (cfg P fl (k + 1)).call "_law_well" [.ro (.scr ns), .ro (.int t)] = some (.fr (wD s), [.ro (.scr ns), .ro (.int t)]) := by
  generalize hR : (cfg P fl (k + 1)).call _ _ = R
  rw [r_wellA] at hR
  have m1 : R64 9311 := r64 (by omega) (by omega)
  have m2 : R64 1013 := r64 (by omega) (by omega)
  have m3 : R64 45013 := r64 (by omega) (by omega)
  have hm : min 5 ns.length + 1 ≤ most := w_most (by omega)
  have own : ∃ o : Int, ∀ x2 x3 x4 : Sl, ev (cfg P fl k) (.ife (.cmp .Lt (.var 1) (.blt .len [.var 0])) (.blt .int [.ix (.var 0) (.var 1)]) (.bin .Add (.bin .Add (.bin .Mult (.con (.int 9311)) (.var 1)) (.bin .Mod (.blt .int [.blt .sum [.slc (.var 0) none (some (.con (.int 2)))]]) (.con (.int 1000003)))) (.con (.int 71))))
      [.ro (.scr ns), .ro (.int t), x2, x3, x4] = some (.val (.int o), [.ro (.scr ns), .ro (.int t), x2, x3, x4]) := by
    by_cases h : t < ns.length
    · refine ⟨ns[t], fun x2 x3 x4 => ?_⟩
      have ha : L2.atI ns (t : Int) = some ns[t] := atI_of (i := (t : Int)) (by omega) (by simp [h])
      simp [h, ha]
    · refine ⟨9311 * t + (ns.take 2).sum % 1000003 + 71, fun x2 x3 x4 => ?_⟩
      have hs : bltD .sum [.lst (List.take 2 (ns.map D.int))] = some (.val (.int (ns.take 2).sum)) := by rw [← List.map_take, b_sum1]
      simp [h, m1, hs]
  obtain ⟨o, eo⟩ := own
  simp [↓eo, m2, hm] at hR
  generalize hL : forLoop _ _ _ = L at hR
  rw [show List.take 5 (ns.map D.int) ++ [D.int o] = (ns.take 5 ++ [o]).map D.int by simp] at hL
  obtain ⟨ρ', rfl, b, z, hb0, hb1, rfl⟩ := for_nx (e := D.int) (fun _ ρ => ∃ b z, 0 ≤ b ∧ b < 2147483563 ∧ ρ = [.ro (.scr ns), .ro (.int t), .ro (.int o), .ro (.int b), z]) hL ⟨50021 + 1013 * t, .un, by omega, by omega, rfl⟩ (fun x hx done ρ ⟨b, z, hb0, hb1, hρ⟩ => by
      subst hρ
      refine ⟨_, ?_, (b * 45013 + x % 2147483399 + 37) % 2147483563, .ro (.int x), Int.emod_nonneg _ (by omega), Int.emod_lt_of_pos _ (by omega), rfl⟩
      simp [m3])
  by_cases ho : o < 0
  · simp [ho] at hR
    exact ⟨⟨_, b, 0⟩, ⟨Int.emod_nonneg _ (by decide), hb0, hb1⟩, hR.symm⟩
  · by_cases ho2 : 100000000000000000 ≤ o
    · simp [ho, ho2] at hR
      exact ⟨⟨_, b, 0⟩, ⟨Int.emod_nonneg _ (by decide), hb0, hb1⟩, hR.symm⟩
    · simp [ho, ho2] at hR
      exact ⟨⟨0, b, 0⟩, ⟨by show (0:Int) ≤ 0; omega, hb0, hb1⟩, hR.symm⟩
theorem c_shuffledA [F_take P] [F_shuffledA P] (k : Nat) {α : Type} {e : α → D} {s : W} {xs : List α} (h : WOk s) (h1 : xs.length ≤ 1000) {sl : Sl} (hsl : sl = .own (.lst (xs.map e)) ∨ sl = .ro (.lst (xs.map e)) ∨ sl = .ro (.tup (xs.map e))) :
    ∃ (f : List α) (s' : W), f.Perm xs ∧ WOk s' ∧ (cfg P fl (k + 2)).call "_law_shuffled" [.own (wD s), sl] = some (.fr (.lst (f.map e)), [.own (wD s'), sl]) := by
  generalize hR : (cfg P fl (k + 2)).call _ _ = R
  rw [r_shuffledA] at hR
  have hr : R62 (xs.length : Int) := r62 (by omega) (by omega)
  have hm : xs.length ≤ most := w_most (by omega)
  have key : ∃ L, forLoop (lopB (cfg P fl (k + 1)) 2 (.nm 2) [.asg 5 (.call "_law_take" [.var 0, .blt .len [.var 3]] [] [0, 1]), .ex (.app 4 (.ix (.var 3) (.var 5))), .asg 3 (.bin .Add (.slc (.var 3) none (some (.var 5))) (.slc (.var 3) (some (.bin .Add (.var 5) (.con (.int 1)))) none))])
      ((rng xs.length).map .int) [.own (wD s), sl, .un, .own (.lst (xs.map e)), .own (.lst []), .un] = L := ⟨_, rfl⟩
  obtain ⟨L, hL⟩ := key
  have hR2 : kRn [.own (wD s), sl] (kS (cfg P fl (k + 1)) 2 [.ret (.var 4)] L) = R := by
    rw [← hL, ← hR]
    rcases hsl with rfl | rfl | rfl <;> simp [hr, hm]
  obtain ⟨ρ', rfl, s', l, f, hs, hl, hf, hp, z, y, rfl⟩ := for_at (e := D.int) (fun i ρ => ∃ (s : W) (l f : List α), WOk s ∧ l.length + i = xs.length ∧ f.length = i ∧ (l ++ f).Perm xs ∧ ∃ z y, ρ = [.own (wD s), sl, z, .own (.lst (l.map e)), .own (.lst (f.map e)), y]) hL
    ⟨s, xs, [], h, by simp, rfl, by simp, .un, .un, rfl⟩ (fun i x hx ρ hI => by
      obtain ⟨s, l, f, hs, hl, hf, hp, z, y, rfl⟩ := hI
      have hi : i < xs.length := by have := (List.getElem?_eq_some_iff.mp hx).1; simpa using this
      obtain ⟨r, s', r0, r1, hs', et⟩ := c_take (P := P) (fl := fl) k (n := (l.length : Int)) hs (by omega) (by omega)
      have hr : r.toNat < l.length := by omega
      have hm : f.length < most := Nat.lt_of_le_of_lt (show f.length ≤ 1000 by omega) (by decide : 1000 < 16000000)
      have ha : L2.atI (l.map e) r = some (e l[r.toNat]) := atI_of r0 (by simp [hr])
      have hr1 : 0 ≤ r + 1 := by omega
      have e1 : (r + 1).toNat = r.toNat + 1 := by omega
      have e2 : List.take r.toNat (l.map e) ++ List.drop (r.toNat + 1) (l.map e) = (l.eraseIdx r.toNat).map e := by
        rw [← List.eraseIdx_eq_take_drop_succ, erase_map]
      have hm2 : min r.toNat l.length + (l.length - (r.toNat + 1)) ≤ most := w_most (by omega)
      refine ⟨_, ?_, s', l.eraseIdx r.toNat, f ++ [l[r.toNat]], hs', by rw [List.length_eraseIdx_of_lt hr]; omega, by simp [hf], (erase_permG hr).trans hp, .ro (.int x), .ro (.int r), rfl⟩
      rcases hsl with rfl | rfl | rfl <;> simp [et, ha, hm, r0, hr1, e1, hm2, ← e2])
  have hl0 : l = [] := List.length_eq_zero_iff.mp (by rw [rng_length] at hl; omega)
  subst hl0
  refine ⟨f, s', by simpa using hp, hs, ?_⟩
  rw [← hR2]
  rcases hsl with rfl | rfl | rfl <;> simp
theorem c_orderA [F_take P] [F_shuffledA P] [F_orderA P] (k : Nat) {s : W} {n : Nat} (h : WOk s) (h1 : 1 ≤ n) (h8 : n ≤ 8) : ∃ o s', Od n o ∧ WOk s' ∧ (cfg P fl (k + 3)).call "_law_drawn_order" [.own (wD s), .ro (.int n)] = some (.val (tI o), [.own (wD s'), .ro (.int n)]) := by
  generalize hR : (cfg P fl (k + 3)).call _ _ = R
  rw [r_orderA] at hR
  obtain ⟨f, s', hp, hs, e⟩ := c_shuffledA (P := P) (fl := fl) k (e := D.int) (xs := rng n) h (by simp; omega) (.inl rfl)
  simp [r62 (j := (n : Int)) (by omega) (by omega), w_most (show n ≤ 16000000 by omega), e] at hR
  exact ⟨f, s', od_of_perm h1 h8 hp, hs, hR.symm⟩
theorem c_drawnA [F_take P] [F_pick P] [F_shuffledA P] [F_orderA P] [F_drawnA P] (k : Nat) {s : W} {n : Nat} (h : WOk s) (h1 : 1 ≤ n) (h8 : n ≤ 8) : ∃ p s', Pl n p ∧ WOk s' ∧ (cfg P fl (k + 4)).call "_law_drawn_plan" [.own (wD s), .ro (.int n)] = some (.val (tI p), [.own (wD s'), .ro (.int n)]) := by
  generalize hR : (cfg P fl (k + 4)).call _ _ = R
  rw [r_drawnA] at hR
  have hr : R62 (n : Int) := r62 (by omega) (by omega)
  have hm : n ≤ most := w_most (by omega)
  obtain ⟨w, s1, w0, w1, hs1, ew⟩ := c_take (P := P) (fl := fl) (k + 2) (n := 6) h (by decide) (by decide)
  by_cases z0 : w = 0
  · subst z0
    obtain ⟨f, s2, hp, hs2, e⟩ := c_shuffledA (P := P) (fl := fl) (k + 1) (e := D.int) (xs := rng n) hs1 (by simp; omega) (.inl rfl)
    simp [ew, e, hr, hm] at hR
    exact ⟨f, s2, (od_of_perm h1 h8 hp).1, hs2, hR.symm⟩
  by_cases z1 : w = 1
  · subst z1
    obtain ⟨f, s2, hp, hs2, e⟩ := c_shuffledA (P := P) (fl := fl) (k + 1) (e := D.int) (xs := rng n) hs1 (by simp; omega) (.inl rfl)
    obtain ⟨r, s3, r0, r1, hs3, er⟩ := c_take (P := P) (fl := fl) (k + 2) (n := 2) hs2 (by decide) (by decide)
    have hfl : f.length = n := by rw [hp.length_eq, rng_len]
    have hr1 : 0 ≤ 1 + r := by omega
    simp [ew, e, er, hr, hm, hr1] at hR
    rw [← List.map_take] at hR
    generalize hg : List.take (1 + r).toNat f = g at hR
    have hg0 : g ≠ [] := by
      intro z
      have := congrArg List.length hg
      rw [List.length_take, z, hfl, List.length_nil] at this
      omega
    have hgm : ∀ x ∈ g, 0 ≤ x ∧ x < (n : Int) := fun x hx => by
      rw [← hg] at hx
      exact mem_rng.mp (hp.mem_iff.mp (List.mem_of_mem_take hx))
    have hgl : g.length ≤ 8 := by rw [← hg, List.length_take]; omega
    generalize hL : lcLoop _ _ _ = L at hR
    obtain ⟨ys, ρ', rfl, ⟨s4, hs4, rfl⟩, hl, hy⟩ := lc_draw (e := D.int) (g := D.int) (fun ρ => ∃ s, WOk s ∧ ρ = [.own (wD s), .ro (.int n), .ro (.int 1), .own (.lst (g.map .int)), .un]) (fun y => 0 ≤ y ∧ y < (n : Int)) hL ⟨s3, hs3, rfl⟩ (fun x hx ρ ⟨s, hs, hρ⟩ => by
      subst hρ
      obtain ⟨y, s', hy, hs', e1, e2, e3⟩ := c_pick (P := P) (fl := fl) (k + 1) (e := D.int) (xs := g) hs hg0 (by omega)
      refine ⟨y, _, ?_, ⟨s', hs', rfl⟩, hgm y hy⟩
      simp [e1])
    simp at hR
    exact ⟨ys, s4, ⟨by simpa using hl, h1, h8, hy⟩, hs4, hR.symm⟩
  by_cases z2 : w = 2
  · subst z2
    simp [ew, hr, hm] at hR
    generalize hL : lcLoop _ _ _ = L at hR
    obtain ⟨ys, ρ', rfl, ⟨s3, hs3, rfl⟩, hl, hy⟩ := lc_draw (e := D.int) (g := D.int) (fun ρ => ∃ s, WOk s ∧ ρ = [.own (wD s), .ro (.int n), .ro (.int 2), .un, .un]) (fun y => 0 ≤ y ∧ y < (n : Int)) hL ⟨s1, hs1, rfl⟩ (fun x hx ρ ⟨s, hs, hρ⟩ => by
      subst hρ
      have hx := mem_rng.mp hx
      obtain ⟨q, s', q0, q1, hs', e⟩ := c_take (P := P) (fl := fl) (k + 2) (n := x + 1) hs (by omega) (by omega)
      refine ⟨q, _, ?_, ⟨s', hs', rfl⟩, by omega, by omega⟩
      simp [e])
    simp at hR
    exact ⟨ys, s3, ⟨by simpa using hl, h1, h8, hy⟩, hs3, hR.symm⟩
  by_cases z3 : w = 3
  · subst z3
    obtain ⟨o, s2, ho, hs2, eo⟩ := c_orderA (P := P) (fl := fl) k hs1 h1 h8
    simp [ew, eo, hr, hm] at hR
    generalize hL : lcLoop _ _ _ = L at hR
    obtain rfl := lc_one (e := D.int) (g := fun v => .int (at0 o (if 1 < inv0 o v then inv0 o v - 1 else 0))) hL fun v hv => by
      have hv := mem_rng.mp hv
      have hi := ho.inv_lt hv
      have hj : 0 ≤ (if 1 < inv0 o v then inv0 o v - 1 else 0) ∧ (if 1 < inv0 o v then inv0 o v - 1 else 0) < (n : Int) := by split <;> omega
      have ha := at_i ho.1.1 hj
      unfold inv0 at ha ⊢
      simp [ho.mem hv, ha]
    simp at hR
    refine ⟨(rng n).map fun v => at0 o (if 1 < inv0 o v then inv0 o v - 1 else 0), s2, ⟨by simp, h1, h8, fun x hx => ?_⟩, hs2, ?_⟩
    · obtain ⟨v, hv, rfl⟩ := List.mem_map.mp hx
      have hv := mem_rng.mp hv
      have hi := ho.inv_lt hv
      exact ho.range (by split <;> omega)
    · rw [← hR]
      simp [Function.comp_def]
  · simp [ew, z0, z1, z2, z3, hr, hm] at hR
    generalize hL : lcLoop _ _ _ = L at hR
    obtain ⟨ys, ρ', rfl, ⟨s3, hs3, rfl⟩, hl, hy⟩ := lc_draw (e := D.int) (g := D.int) (fun ρ => ∃ s, WOk s ∧ ρ = [.own (wD s), .ro (.int n), .ro (.int w), .un, .un]) (fun y => 0 ≤ y ∧ y < (n : Int)) hL ⟨s1, hs1, rfl⟩ (fun x hx ρ ⟨s, hs, hρ⟩ => by
      subst hρ
      obtain ⟨q, s', q0, q1, hs', e⟩ := c_take (P := P) (fl := fl) (k + 2) (n := (n : Int)) hs (by omega) (by omega)
      refine ⟨q, _, ?_, ⟨s', hs', rfl⟩, by omega, by omega⟩
      simp [e])
    simp at hR
    exact ⟨ys, s3, ⟨by simpa using hl, h1, h8, hy⟩, hs3, hR.symm⟩
theorem enumD_id (xs : List D) : enumD 0 xs = xs.zipIdx.map fun q => D.rtp [.int ((q.2 : Nat) : Int), q.1] := by
  have := enumD_map (fun x : D => x) xs 0
  rwa [List.map_id'] at this
theorem c_isA [F_isA P] : ∀ (n k : Nat) {d : D}, Vl n d → ∀ {s1 s2 : Sl}, (s1 = .ro d ∨ ∃ xs, d = .lst xs ∧ s1 = .own d) → (s2 = .ro d ∨ ∃ xs, d = .lst xs ∧ s2 = .own d) → (cfg P fl (k + 2 * n + 1)).call "_law_is" [s1, s2] = some (.val (.bl true), [s1, s2])
  | 0, k, d, h, s1, s2, h1, h2 => by
    rw [r_isA]
    rcases h with rfl | ⟨b, rfl⟩ | ⟨i, rfl⟩ | ⟨s, rfl, hs⟩
    · rcases h1 with rfl | ⟨_, e, _⟩
      · rcases h2 with rfl | ⟨_, e, _⟩
        · simp
        · cases e
      · cases e
    · rcases h1 with rfl | ⟨_, e, _⟩
      · rcases h2 with rfl | ⟨_, e, _⟩
        · cases b <;> simp
        · cases e
      · cases e
    · rcases h1 with rfl | ⟨_, e, _⟩
      · rcases h2 with rfl | ⟨_, e, _⟩
        · simp
        · cases e
      · cases e
    · rcases h1 with rfl | ⟨_, e, _⟩
      · rcases h2 with rfl | ⟨_, e, _⟩
        · simp [c_eqs hs]
        · cases e
      · cases e
  | n + 1, k, d, h, s1, s2, h1, h2 => by
    rcases h with h | ⟨xs, h, hl, hx⟩
    · have := c_isA n (k + 2) h h1 h2
      rwa [show k + 2 + 2 * n + 1 = k + 2 * (n + 1) + 1 by omega] at this
    · have r1 : R62 (xs.length : Int) := r62 (by omega) (by omega)
      have r2 : xs.length ≤ most := w_most (by omega)
      -- a tuple
      have tup : ∀ k, (cfg P fl (k + 2 * n + 1 + 1)).call "_law_is" [.ro (.tup xs), .ro (.tup xs)] = some (.val (.bl true), [.ro (.tup xs), .ro (.tup xs)]) := fun k => by
        rw [r_isA]
        simp [r1, r2, enumD_id]
        generalize hL : lcLoop _ _ _ = L
        obtain rfl := lc_one (e := fun q : D × Nat => D.rtp [.int ((q.2 : Nat) : Int), q.1]) (g := fun _ => .bl true) hL fun q hq => by
          obtain ⟨x, i⟩ := q
          have e := List.mem_zipIdx_iff_getElem?.mp hq
          have hx' : x ∈ xs := List.mem_of_getElem? e
          have ex : L2.atI xs (i : Int) = some x := atI_of (i := (i : Int)) (by omega) (by rw [Int.toNat_natCast]; exact e)
          have := c_isA n k (hx x hx') (.inl rfl) (.inl rfl)
          simp [ex, this]
        simp
      rcases h with rfl | rfl
      · rcases h1 with rfl | ⟨_, e, _⟩
        · rcases h2 with rfl | ⟨_, e, _⟩
          · have := tup (k + 1)
            rwa [show k + 1 + 2 * n + 1 + 1 = k + 2 * (n + 1) + 1 by omega] at this
          · cases e
        · cases e
      · have t := tup k
        rw [show k + 2 * (n + 1) + 1 = (k + 2 * n + 1 + 1) + 1 by omega, r_isA]
        rcases h1 with rfl | ⟨_, _, rfl⟩ <;> rcases h2 with rfl | ⟨_, _, rfl⟩ <;> simp [t]
end
end PX

/-! PX, part L: shown villages and lots, plainly. -/
namespace PX
open PV
theorem forLoop_pre {α : Type} {f : D → Rho → Option (O × Rho)} {e : α → D} {I : List α → Rho → Prop} {xs : List α} (h : ∀ done x rest, xs = done ++ x :: rest → ∀ ρ, I done ρ → ∃ ρ', f (e x) ρ = some (.nx, ρ') ∧ I (done ++ [x]) ρ') :
    ∀ (rest done : List α) (ρ : Rho), xs = done ++ rest → I done ρ → ∃ ρ', forLoop f (rest.map e) ρ = some (.nx, ρ') ∧ I xs ρ'
  | [], done, ρ, hx, hi => by
    rw [List.append_nil] at hx
    subst hx
    exact ⟨ρ, rfl, hi⟩
  | x :: rest, done, ρ, hx, hi => by
    obtain ⟨ρ1, e1, h1⟩ := h done x rest hx ρ hi
    obtain ⟨ρ2, e2, h2⟩ := forLoop_pre h rest (done ++ [x]) ρ1 (by rw [hx]; simp) h1
    refine ⟨ρ2, ?_, h2⟩
    show (f (e x) ρ).bind _ = _
    rw [e1]
    exact e2
/-- a loop: what was gone through, and that it is a part of the row -/
theorem for_pre {α : Type} {f : D → Rho → Option (O × Rho)} {e : α → D} {L : Option (O × Rho)} (I : List α → Rho → Prop) {xs : List α} {ρ : Rho} (hL : forLoop f (xs.map e) ρ = L) (h0 : I [] ρ)
    (h : ∀ done x rest, xs = done ++ x :: rest → ∀ ρ, I done ρ → ∃ ρ', f (e x) ρ = some (.nx, ρ') ∧ I (done ++ [x]) ρ') : ∃ ρ', L = some (.nx, ρ') ∧ I xs ρ' := by
  subst hL
  exact forLoop_pre h xs [] ρ rfl h0
theorem pre_len {α : Type} {xs done rest : List α} {x : α} (h : xs = done ++ x :: rest) : done.length < xs.length := by
  rw [h]; simp
theorem pre_mem {α : Type} {xs done rest : List α} {x : α} (h : xs = done ++ x :: rest) : x ∈ xs := by
  rw [h]; simp
theorem b_maxl (x : Int) (ns : List Int) : bltD .max [.lst (.int x :: ns.map .int)] = some (.val (.int (maxL x ns))) := by simp [bltD]
theorem b_minl (x : Int) (ns : List Int) : bltD .min [.lst (.int x :: ns.map .int)] = some (.val (.int (minL x ns))) := by simp [bltD]
/-- what is taken from an ascending row is one's own ascending row -/
theorem filter_rng {n : Nat} {l : List Int} (hs : l.Pairwise (· ≤ ·)) (hn : l.Nodup) (q : Int → Bool) (h : ∀ v, v ∈ l ↔ (0 ≤ v ∧ v < n) ∧ q v = true) : (rng n).filter q = l := by
  rw [← isort_of_sorted hs, ← isort_of_sorted (l := (rng n).filter q) ((lt_le (rng_sorted n)).filter _)]
  refine isort_ext ((rng_nodup n).filter _) hn fun v => ?_
  rw [List.mem_filter, mem_rng, h]
theorem shownF_sorted (p : List Int) : (shownF p).Pairwise (· ≤ ·) := isort_sorted _
theorem shown_rng {n : Nat} {p : List Int} (h : Pl n p) (q : Int → Bool) (hq : ∀ v, q v = true ↔ v ∈ p) : (rng n).filter q = shownF p :=
  filter_rng (shownF_sorted p) (shownF_nodup p) q fun v => by rw [shownF_mem, hq]; exact ⟨fun hv => ⟨h.2.2.2 v hv, hv⟩, fun hv => hv.2⟩
theorem lotsF_len (p : List Int) : (lotsF p).length = (shownF p).length := by
  unfold lotsF
  rw [(tsort_perm _).length_eq, List.length_map]
theorem lotsF_mem {p : List Int} {lot : List Int} (h : lot ∈ lotsF p) : ∃ v, v ∈ p ∧ lot = showF p v := by
  obtain ⟨v, hv, rfl⟩ := List.mem_map.mp ((tsort_perm _).mem_iff.mp h)
  exact ⟨v, shownF_mem.mp hv, rfl⟩
theorem lotsF_ne {p : List Int} {lot : List Int} (h : lot ∈ lotsF p) : lot ≠ [] := by
  obtain ⟨v, hv, rfl⟩ := lotsF_mem h
  exact show_mem hv
theorem showF_len {n : Nat} {p : List Int} (h : p.length = n) (v : Int) : (showF p v).length ≤ n := by
  rw [showF_eq h]
  have := List.length_filter_le (fun i => decide (at0 p i = v)) (rng n)
  rwa [rng_len] at this
theorem flatMap_nodup {α β : Type} {f : α → List β} : ∀ {l : List α}, l.Nodup → (∀ a ∈ l, (f a).Nodup) → (∀ a ∈ l, ∀ b ∈ l, ∀ x, x ∈ f a → x ∈ f b → a = b) → (l.flatMap f).Nodup
  | [], _, _, _ => .nil
  | a :: l, hn, h1, h2 => by
    rw [List.flatMap_cons, List.nodup_append]
    refine ⟨h1 a List.mem_cons_self, flatMap_nodup (List.nodup_cons.mp hn).2 (fun b hb => h1 b (List.mem_cons_of_mem _ hb)) (fun b hb c hc => h2 b (List.mem_cons_of_mem _ hb) c (List.mem_cons_of_mem _ hc)), ?_⟩
    rintro x hx y hy rfl
    obtain ⟨b, hb, hy⟩ := List.mem_flatMap.mp hy
    have := h2 a List.mem_cons_self b (List.mem_cons_of_mem _ hb) x hx hy
    exact (List.nodup_cons.mp hn).1 (this ▸ hb)
/-- the lots are all villages -/
theorem shown_flat {n : Nat} {p : List Int} (h : Pl n p) : ((shownF p).flatMap (showF p)).Perm (rng n) := by
  refine perm_of_mem (flatMap_nodup (shownF_nodup p) (fun v _ => nodup_of_lt (showF_sorted p v)) fun a _ b _ x hx hy => ?_) (rng_nodup n) fun x => ?_
  · rw [← ((showF_mem h.1).mp hx).2, ((showF_mem h.1).mp hy).2]
  · rw [List.mem_flatMap, mem_rng]
    constructor
    · rintro ⟨v, _, hx⟩
      exact ((showF_mem h.1).mp hx).1
    · intro hx
      exact ⟨at0 p x, shownF_mem.mpr (at0_mem h.1 hx), (showF_mem h.1).mpr ⟨hx, rfl⟩⟩
theorem lots_flat {n : Nat} {p : List Int} (h : Pl n p) : (lotsF p).flatten.Perm (rng n) := by
  refine List.Perm.trans ?_ (shown_flat h)
  rw [List.flatMap]
  exact (tsort_perm _).flatten
theorem flat_len {α : Type} : ∀ (l : List (List α)), (∀ x ∈ l, 1 ≤ x.length) → l.length ≤ l.flatten.length ∧ (l.length = l.flatten.length ↔ ∀ x ∈ l, x.length = 1)
  | [], _ => by simp
  | x :: l, h => by
    obtain ⟨h1, h2⟩ := flat_len l fun y hy => h y (List.mem_cons_of_mem _ hy)
    have hx := h x List.mem_cons_self
    rw [List.flatten_cons, List.length_append, List.length_cons]
    refine ⟨by omega, ?_⟩
    constructor
    · intro e y hy
      rcases List.mem_cons.mp hy with rfl | hy
      · omega
      · exact h2.mp (by omega) y hy
    · intro e
      have := e x List.mem_cons_self
      have := h2.mpr fun y hy => e y (List.mem_cons_of_mem _ hy)
      omega
/-- the greatest lot is of one village exactly if all villages are shown -/
theorem max_lots {n : Nat} {p : List Int} (h : Pl n p) {x : Int} {xs : List Int} (e : (lotsF p).map (fun lot => (lot.length : Int)) = x :: xs) : maxL x xs = 1 ↔ (shownF p).length = n := by
  have hl := (lots_flat h).length_eq
  rw [rng_len] at hl
  have h1 : ∀ lot ∈ lotsF p, 1 ≤ lot.length := fun lot hx => List.length_pos_iff.mpr (lotsF_ne hx)
  have h2 := (flat_len (lotsF p) h1).2
  rw [hl, lotsF_len] at h2
  rw [h2]
  have hm : ∀ y, y ∈ x :: xs ↔ ∃ lot ∈ lotsF p, (lot.length : Int) = y := fun y => by rw [← e, List.mem_map]
  constructor
  · intro z lot hx
    have := maxL_ge xs x _ ((hm _).mpr ⟨lot, hx, rfl⟩)
    have := h1 lot hx
    omega
  · intro z
    obtain ⟨lot, hx, e2⟩ := (hm _).mp (maxL_mem xs x)
    rw [← e2, z lot hx]; rfl
/-- behind an exchange the lots stay -/
theorem lots_then {n : Nat} {p o : List Int} (hp : Pl n p) (h : Od n o) : lotsF (thenF p o) = lotsF p := by
  have hsh : (shownF (thenF p o)).Perm ((shownF p).map (at0 o)) := by
    refine perm_of_mem (shownF_nodup _) (nodup_map (shownF_nodup p) fun x hx y hy e => h.inj (hp.2.2.2 x (shownF_mem.mp hx)) (hp.2.2.2 y (shownF_mem.mp hy)) e) fun x => ?_
    rw [shownF_mem, List.mem_map]
    unfold thenF
    rw [List.mem_map]
    constructor
    · rintro ⟨u, hu, rfl⟩
      exact ⟨u, shownF_mem.mpr hu, rfl⟩
    · rintro ⟨u, hu, rfl⟩
      exact ⟨u, shownF_mem.mp hu, rfl⟩
  refine tsort_congr ((hsh.map _).trans (.of_eq ?_))
  rw [List.map_map]
  refine List.map_congr_left fun v hv => ?_
  have hv := hp.2.2.2 v (shownF_mem.mp hv)
  show showF (thenF p o) (at0 o v) = showF p v
  rw [showF_eq (n := n) (by rw [thenF_len, hp.1]), showF_eq hp.1]
  refine List.filter_congr fun i hi => ?_
  have hi := mem_rng.mp hi
  rw [thenF_at hp.1 hi, decide_eq_decide]
  exact ⟨fun e => h.inj (at0_pl hp hi) hv e, fun e => by rw [e]⟩
/-- ahead of an exchange the shown villages stay -/
theorem shown_then {n : Nat} {p o : List Int} (hp : Pl n p) (h : Od n o) : shownF (thenF o p) = shownF p := by
  refine shownF_ext fun x => ?_
  unfold thenF
  rw [List.mem_map]
  constructor
  · rintro ⟨u, hu, rfl⟩
    exact at0_mem hp.1 (h.1.2.2.2 u hu)
  · intro hx
    obtain ⟨i, hi, rfl⟩ := (mem_at hp.1).mp hx
    exact ⟨i, h.mem hi, rfl⟩
end PX

/-! PX, part M: what is drawn by the laws k15 to k28. -/
namespace PX
open PV hiding tI
class F_wellB (P : Pg) : Prop where h_wellB : P.fn "_law_well" = some ⟨["script", "turn"], 5, [.asg 2 (.ife (.cmp .Lt (.var 1) (.blt .len [.var 0])) (.blt .int [.ix (.var 0) (.var 1)]) (.bin .Add (.bin .Add (.bin .Mult (.con (.int 9311)) (.var 1)) (.bin .Mod (.blt .int [.blt .sum [.slc (.var 0) none (some (.con (.int 2)))]]) (.con (.int 1000003)))) (.con (.int 71)))), .asg 3 (.bin .Add (.con (.int 50021)) (.bin .Mult (.con (.int 1013)) (.var 1))), .lop (.nm 4) (.ovr (.bin .Add (.slc (.var 0) none (some (.con (.int 5)))) (.lst [.var 2]))) [.asg 3 (.bin .Mod (.blt .int [.bin .Add (.bin .Add (.bin .Mult (.var 3) (.con (.int 45013))) (.bin .Mod (.blt .int [.var 4]) (.con (.int 2147483399)))) (.con (.int 37))]) (.con (.int 2147483563)))], .ret (.lst [.ife (.bop false (.cmp .Lt (.var 2) (.con (.int 0))) (.cmp .GtE (.var 2) (.bin .Pow (.con (.int 10)) (.con (.int 17))))) (.blt .abs [.var 2]) (.con (.int 0)), .var 3, .con (.int 0)])]⟩
theorem r_wellB {P : Pg} [F_wellB P] {fl k : Nat} {as : List Sl} : (cfg P fl (k + 1)).call "_law_well" as = run (cfg P fl k) ⟨["script", "turn"], 5, [.asg 2 (.ife (.cmp .Lt (.var 1) (.blt .len [.var 0])) (.blt .int [.ix (.var 0) (.var 1)]) (.bin .Add (.bin .Add (.bin .Mult (.con (.int 9311)) (.var 1)) (.bin .Mod (.blt .int [.blt .sum [.slc (.var 0) none (some (.con (.int 2)))]]) (.con (.int 1000003)))) (.con (.int 71)))), .asg 3 (.bin .Add (.con (.int 50021)) (.bin .Mult (.con (.int 1013)) (.var 1))), .lop (.nm 4) (.ovr (.bin .Add (.slc (.var 0) none (some (.con (.int 5)))) (.lst [.var 2]))) [.asg 3 (.bin .Mod (.blt .int [.bin .Add (.bin .Add (.bin .Mult (.var 3) (.con (.int 45013))) (.bin .Mod (.blt .int [.var 4]) (.con (.int 2147483399)))) (.con (.int 37))]) (.con (.int 2147483563)))], .ret (.lst [.ife (.bop false (.cmp .Lt (.var 2) (.con (.int 0))) (.cmp .GtE (.var 2) (.bin .Pow (.con (.int 10)) (.con (.int 17))))) (.blt .abs [.var 2]) (.con (.int 0)), .var 3, .con (.int 0)])]⟩ as := call_fn F_wellB.h_wellB
class F_sameB (P : Pg) : Prop where h_sameB : P.fn "_law_same" = some ⟨["told", "due"], 3, [.ite (.tru (.isi (.var 1) "tuple")) [.ite (.bop false (.not (.tru (.isi (.var 0) "tuple"))) (.cmp .NotEq (.blt .len [.var 0]) (.blt .len [.var 1]))) [.ret (.con (.bl false))] [], .ret (.blt .all [.lc (.call "_law_same" [.ix (.var 0) (.var 2), .ix (.var 1) (.var 2)] [] [0, 1]) (.nm 2) (.rng [.blt .len [.var 1]]) none])] [], .ite (.bop false (.cmp .Is (.var 1) (.con .non)) (.bop false (.cmp .Is (.var 1) (.con (.bl true))) (.cmp .Is (.var 1) (.con (.bl false))))) [.ret (.bop false (.bop true (.cmp .Is (.var 1) (.con .non)) (.cmp .Is (.var 0) (.con .non))) (.bop false (.bop true (.cmp .Is (.var 1) (.con (.bl true))) (.cmp .Is (.var 0) (.con (.bl true)))) (.bop true (.cmp .Is (.var 1) (.con (.bl false))) (.cmp .Is (.var 0) (.con (.bl false))))))] [], .ite (.tru (.isi (.var 1) "int")) [.ret (.bop true (.isi (.var 0) "int") (.bop true (.not (.isi (.var 0) "bool")) (.cmp .Eq (.var 0) (.var 1))))] [], .ret (.bop true (.isi (.var 0) "str") (.cmp .Eq (.var 0) (.var 1)))]⟩
theorem r_sameB {P : Pg} [F_sameB P] {fl k : Nat} {as : List Sl} : (cfg P fl (k + 1)).call "_law_same" as = run (cfg P fl k) ⟨["told", "due"], 3, [.ite (.tru (.isi (.var 1) "tuple")) [.ite (.bop false (.not (.tru (.isi (.var 0) "tuple"))) (.cmp .NotEq (.blt .len [.var 0]) (.blt .len [.var 1]))) [.ret (.con (.bl false))] [], .ret (.blt .all [.lc (.call "_law_same" [.ix (.var 0) (.var 2), .ix (.var 1) (.var 2)] [] [0, 1]) (.nm 2) (.rng [.blt .len [.var 1]]) none])] [], .ite (.bop false (.cmp .Is (.var 1) (.con .non)) (.bop false (.cmp .Is (.var 1) (.con (.bl true))) (.cmp .Is (.var 1) (.con (.bl false))))) [.ret (.bop false (.bop true (.cmp .Is (.var 1) (.con .non)) (.cmp .Is (.var 0) (.con .non))) (.bop false (.bop true (.cmp .Is (.var 1) (.con (.bl true))) (.cmp .Is (.var 0) (.con (.bl true)))) (.bop true (.cmp .Is (.var 1) (.con (.bl false))) (.cmp .Is (.var 0) (.con (.bl false))))))] [], .ite (.tru (.isi (.var 1) "int")) [.ret (.bop true (.isi (.var 0) "int") (.bop true (.not (.isi (.var 0) "bool")) (.cmp .Eq (.var 0) (.var 1))))] [], .ret (.bop true (.isi (.var 0) "str") (.cmp .Eq (.var 0) (.var 1)))]⟩ as := call_fn F_sameB.h_sameB
class F_shuffledB (P : Pg) : Prop where h_shuffledB : P.fn "_law_shuffled" = some ⟨["well", "some"], 4, [.par [2, 3] [.blt .list [.var 1], .lst []], .whl (.cmp .NotEq (.var 2) (.lst [])) [.ex (.app 3 (.popi 2 (.call "_law_take" [.var 0, .blt .len [.var 2]] [] [0, 1])))], .ret (.var 3)]⟩
theorem r_shuffledB {P : Pg} [F_shuffledB P] {fl k : Nat} {as : List Sl} : (cfg P fl (k + 1)).call "_law_shuffled" as = run (cfg P fl k) ⟨["well", "some"], 4, [.par [2, 3] [.blt .list [.var 1], .lst []], .whl (.cmp .NotEq (.var 2) (.lst [])) [.ex (.app 3 (.popi 2 (.call "_law_take" [.var 0, .blt .len [.var 2]] [] [0, 1])))], .ret (.var 3)]⟩ as := call_fn F_shuffledB.h_shuffledB
class F_planB (P : Pg) : Prop where h_planB : P.fn "_law_plan" = some ⟨["well", "number"], 10, [.par [2, 3] [.call "_law_take" [.var 0, .con (.int 6)] [] [0, 1], .call "_law_shuffled" [.var 0, .ofr false [.var 1]] [] [0, 1]], .ite (.cmp .Eq (.var 2) (.con (.int 0))) [.ret (.blt .tuple [.var 3])] [], .ite (.cmp .Eq (.var 2) (.con (.int 1))) [.asg 4 (.slc (.var 3) none (some (.bin .Add (.con (.int 1)) (.call "_law_take" [.var 0, .var 1] [] [0, 1])))), .ret (.blt .tuple [.lc (.ife (.cmp .In (.var 5) (.var 4)) (.var 5) (.call "_law_pick" [.var 0, .var 4] [] [0, 1])) (.nm 5) (.rng [.var 1]) none])] [], .ite (.cmp .Eq (.var 2) (.con (.int 2))) [.asg 4 (.slc (.var 3) none (some (.bin .Add (.con (.int 1)) (.call "_law_take" [.var 0, .var 1] [] [0, 1])))), .ret (.blt .tuple [.lc (.call "_law_pick" [.var 0, .var 4] [] [0, 1]) (.nm 5) (.rng [.var 1]) none])] [], .ite (.cmp .Eq (.var 2) (.con (.int 3))) [.par [6, 7] [.ofr false [.var 1], .con (.int 0)], .whl (.cmp .Lt (.var 7) (.var 1)) [.asg 8 (.bin .Add (.con (.int 1)) (.call "_law_take" [.var 0, .bin .Sub (.var 1) (.var 7)] [] [0, 1])), .lop (.nm 9) (.rng [.var 8]) [.put 6 (.ix (.var 3) (.bin .Add (.var 7) (.var 9))) (.ix (.var 3) (.bin .Add (.var 7) (.bin .Mod (.blt .int [.bin .Add (.var 9) (.con (.int 1))]) (.var 8))))], .asg 7 (.bin .Add (.var 7) (.var 8))], .lop (.nm 5) (.ovr (.slc (.var 3) none (some (.call "_law_take" [.var 0, .con (.int 3)] [] [0, 1])))) [.put 6 (.var 5) (.call "_law_take" [.var 0, .var 1] [] [0, 1])], .ret (.blt .tuple [.var 6])] [], .ret (.blt .tuple [.lc (.call "_law_take" [.var 0, .var 1] [] [0, 1]) (.nm 5) (.rng [.var 1]) none])]⟩
theorem r_planB {P : Pg} [F_planB P] {fl k : Nat} {as : List Sl} : (cfg P fl (k + 1)).call "_law_plan" as = run (cfg P fl k) ⟨["well", "number"], 10, [.par [2, 3] [.call "_law_take" [.var 0, .con (.int 6)] [] [0, 1], .call "_law_shuffled" [.var 0, .ofr false [.var 1]] [] [0, 1]], .ite (.cmp .Eq (.var 2) (.con (.int 0))) [.ret (.blt .tuple [.var 3])] [], .ite (.cmp .Eq (.var 2) (.con (.int 1))) [.asg 4 (.slc (.var 3) none (some (.bin .Add (.con (.int 1)) (.call "_law_take" [.var 0, .var 1] [] [0, 1])))), .ret (.blt .tuple [.lc (.ife (.cmp .In (.var 5) (.var 4)) (.var 5) (.call "_law_pick" [.var 0, .var 4] [] [0, 1])) (.nm 5) (.rng [.var 1]) none])] [], .ite (.cmp .Eq (.var 2) (.con (.int 2))) [.asg 4 (.slc (.var 3) none (some (.bin .Add (.con (.int 1)) (.call "_law_take" [.var 0, .var 1] [] [0, 1])))), .ret (.blt .tuple [.lc (.call "_law_pick" [.var 0, .var 4] [] [0, 1]) (.nm 5) (.rng [.var 1]) none])] [], .ite (.cmp .Eq (.var 2) (.con (.int 3))) [.par [6, 7] [.ofr false [.var 1], .con (.int 0)], .whl (.cmp .Lt (.var 7) (.var 1)) [.asg 8 (.bin .Add (.con (.int 1)) (.call "_law_take" [.var 0, .bin .Sub (.var 1) (.var 7)] [] [0, 1])), .lop (.nm 9) (.rng [.var 8]) [.put 6 (.ix (.var 3) (.bin .Add (.var 7) (.var 9))) (.ix (.var 3) (.bin .Add (.var 7) (.bin .Mod (.blt .int [.bin .Add (.var 9) (.con (.int 1))]) (.var 8))))], .asg 7 (.bin .Add (.var 7) (.var 8))], .lop (.nm 5) (.ovr (.slc (.var 3) none (some (.call "_law_take" [.var 0, .con (.int 3)] [] [0, 1])))) [.put 6 (.var 5) (.call "_law_take" [.var 0, .var 1] [] [0, 1])], .ret (.blt .tuple [.var 6])] [], .ret (.blt .tuple [.lc (.call "_law_take" [.var 0, .var 1] [] [0, 1]) (.nm 5) (.rng [.var 1]) none])]⟩ as := call_fn F_planB.h_planB
class F_thenB (P : Pg) : Prop where h_thenB : P.fn "_law_behind" = some ⟨["one", "two"], 3, [.ret (.blt .tuple [.lc (.ix (.var 1) (.var 2)) (.nm 2) (.ovr (.var 0)) none])]⟩
theorem r_thenB {P : Pg} [F_thenB P] {fl k : Nat} {as : List Sl} : (cfg P fl (k + 1)).call "_law_behind" as = run (cfg P fl k) ⟨["one", "two"], 3, [.ret (.blt .tuple [.lc (.ix (.var 1) (.var 2)) (.nm 2) (.ovr (.var 0)) none])]⟩ as := call_fn F_thenB.h_thenB
class F_allB (P : Pg) : Prop where h_allB : P.fn "_law_all_plans" = some ⟨["number"], 6, [.asg 1 (.lst [.tup []]), .lop (.nm 2) (.rng [.var 0]) [.asg 3 (.lst []), .lop (.nm 4) (.ovr (.var 1)) [.ex (.ext 3 (.lc (.bin .Add (.var 4) (.tup [.var 5])) (.nm 5) (.rng [.var 0]) none))], .asg 1 (.var 3)], .ret (.var 1)]⟩
theorem r_allB {P : Pg} [F_allB P] {fl k : Nat} {as : List Sl} : (cfg P fl (k + 1)).call "_law_all_plans" as = run (cfg P fl k) ⟨["number"], 6, [.asg 1 (.lst [.tup []]), .lop (.nm 2) (.rng [.var 0]) [.asg 3 (.lst []), .lop (.nm 4) (.ovr (.var 1)) [.ex (.ext 3 (.lc (.bin .Add (.var 4) (.tup [.var 5])) (.nm 5) (.rng [.var 0]) none))], .asg 1 (.var 3)], .ret (.var 1)]⟩ as := call_fn F_allB.h_allB
section
variable {P : Pg} {fl : Nat}
theorem c_wellB [F_wellB P] (k : Nat) {ns : List Int} {t : Nat} (hl : ns.length ≤ 63) (ht : t ≤ 1000) : ∃ s, WOk s ∧ (cfg P fl (k + 1)).call "_law_well" [.ro (.scr ns), .ro (.int t)] = some (.fr (wD s), [.ro (.scr ns), .ro (.int t)]) := by
  generalize hR : (cfg P fl (k + 1)).call _ _ = R
  rw [r_wellB] at hR
  have m1 : R64 9311 := r64 (by omega) (by omega)
  have m2 : R64 1013 := r64 (by omega) (by omega)
  have m3 : R64 45013 := r64 (by omega) (by omega)
  have hm : min 5 ns.length + 1 ≤ most := w_most (by omega)
  have own : ∃ o : Int, ∀ x2 x3 x4 : Sl, ev (cfg P fl k) (.ife (.cmp .Lt (.var 1) (.blt .len [.var 0])) (.blt .int [.ix (.var 0) (.var 1)]) (.bin .Add (.bin .Add (.bin .Mult (.con (.int 9311)) (.var 1)) (.bin .Mod (.blt .int [.blt .sum [.slc (.var 0) none (some (.con (.int 2)))]]) (.con (.int 1000003)))) (.con (.int 71))))
      [.ro (.scr ns), .ro (.int t), x2, x3, x4] = some (.val (.int o), [.ro (.scr ns), .ro (.int t), x2, x3, x4]) := by
    by_cases h : t < ns.length
    · refine ⟨ns[t], fun x2 x3 x4 => ?_⟩
      have ha : L2.atI ns (t : Int) = some ns[t] := atI_of (i := (t : Int)) (by omega) (by simp [h])
      simp [h, ha]
    · refine ⟨9311 * t + (ns.take 2).sum % 1000003 + 71, fun x2 x3 x4 => ?_⟩
      have hs : bltD .sum [.lst (List.take 2 (ns.map D.int))] = some (.val (.int (ns.take 2).sum)) := by rw [← List.map_take, b_sum1]
      simp [h, m1, hs]
  obtain ⟨o, eo⟩ := own
  simp [↓eo, m2, hm] at hR
  generalize hL : forLoop _ _ _ = L at hR
  rw [show List.take 5 (ns.map D.int) ++ [D.int o] = (ns.take 5 ++ [o]).map D.int by simp] at hL
  obtain ⟨ρ', rfl, b, z, hb0, hb1, rfl⟩ := for_nx (e := D.int) (fun _ ρ => ∃ b z, 0 ≤ b ∧ b < 2147483563 ∧ ρ = [.ro (.scr ns), .ro (.int t), .ro (.int o), .ro (.int b), z]) hL ⟨50021 + 1013 * t, .un, by omega, by omega, rfl⟩ (fun x hx done ρ ⟨b, z, hb0, hb1, hρ⟩ => by
      subst hρ
      refine ⟨_, ?_, (b * 45013 + x % 2147483399 + 37) % 2147483563, .ro (.int x), Int.emod_nonneg _ (by omega), Int.emod_lt_of_pos _ (by omega), rfl⟩
      simp [m3])
  by_cases ho : o < 0
  · simp [ho] at hR
    exact ⟨⟨-o, b, 0⟩, ⟨by show 0 ≤ -o; omega, hb0, hb1⟩, hR.symm⟩
  · by_cases ho2 : 100000000000000000 ≤ o
    · simp [ho, ho2] at hR
      exact ⟨⟨o, b, 0⟩, ⟨by show 0 ≤ o; omega, hb0, hb1⟩, hR.symm⟩
    · simp [ho, ho2] at hR
      exact ⟨⟨0, b, 0⟩, ⟨by show (0:Int) ≤ 0; omega, hb0, hb1⟩, hR.symm⟩
theorem whl_nx {c : Rho → Option (Bool × Rho)} {f : Rho → Option (O × Rho)} {L : Option (O × Rho)} (I : Nat → Rho → Prop) (Z : Rho → Prop) {m : Nat} {ρ : Rho} (hL : whileLoop c f fl ρ = L) (hm : m < fl) (h0 : I m ρ)
    (h : ∀ m ρ, I m ρ → (∃ ρ1, c ρ = some (false, ρ1) ∧ Z ρ1) ∨ ∃ ρ1 ρ2 m', c ρ = some (true, ρ1) ∧ f ρ1 = some (.nx, ρ2) ∧ m' < m ∧ I m' ρ2) : ∃ ρ', L = some (.nx, ρ') ∧ Z ρ' := by
  subst hL
  exact while_nx h fl m ρ h0 hm
theorem c_shuffledB [F_take P] [F_shuffledB P] (hf : 100 ≤ fl) (k : Nat) {s : W} {xs : List Int} (h : WOk s) (h1 : xs.length ≤ 99) {sl : Sl} (hsl : sl = .own (.lst (xs.map .int)) ∨ sl = .ro (.lst (xs.map .int)) ∨ sl = .ro (tI xs)) :
    ∃ (f : List Int) (s' : W), f.Perm xs ∧ WOk s' ∧ (cfg P fl (k + 2)).call "_law_shuffled" [.own (wD s), sl] = some (.fr (.lst (f.map .int)), [.own (wD s'), sl]) := by
  generalize hR : (cfg P fl (k + 2)).call _ _ = R
  rw [r_shuffledB] at hR
  have hm : xs.length ≤ most := w_most (by omega)
  have key : ∃ L, whileLoop (tst (cfg P fl (k + 1)) (.cmp .NotEq (.var 2) (.lst []))) (execs (cfg P fl (k + 1)) 2 [.ex (.app 3 (.popi 2 (.call "_law_take" [.var 0, .blt .len [.var 2]] [] [0, 1])))]) fl
      [.own (wD s), sl, .own (.lst (xs.map .int)), .own (.lst [])] = L := ⟨_, rfl⟩
  obtain ⟨L, hL⟩ := key
  have hR2 : kRn [.own (wD s), sl] (kS (cfg P fl (k + 1)) 2 [.ret (.var 3)] L) = R := by
    rw [← hL, ← hR]
    rcases hsl with rfl | rfl | rfl <;> simp [hm, cfg_fuel]
  obtain ⟨ρ', rfl, s', f, hs, hp, rfl⟩ := whl_nx (fun m ρ => ∃ (s : W) (l f : List Int), WOk s ∧ l.length = m ∧ (l ++ f).Perm xs ∧ ρ = [.own (wD s), sl, .own (.lst (l.map .int)), .own (.lst (f.map .int))])
    (fun ρ => ∃ (s : W) (f : List Int), WOk s ∧ f.Perm xs ∧ ρ = [.own (wD s), sl, .own (.lst []), .own (.lst (f.map .int))]) hL (show xs.length < fl by omega)
    ⟨s, xs, [], h, rfl, by simp, rfl⟩ (fun m ρ ⟨s, l, f, hs, hl, hp, hρ⟩ => by
      subst hρ
      have nn : ∀ l : List Int, cmpD .NotEq (.lst (l.map .int)) (.lst []) = some (!decide (l = [])) := fun l => c_nel l []
      have hlf : l.length + f.length = xs.length := by rw [← hp.length_eq, List.length_append]
      by_cases hz : l = []
      · subst hz
        refine .inl ⟨_, ?_, s, f, hs, by simpa using hp, rfl⟩
        have := nn []
        simp at this
        simp [this]
      · have h0 : 0 < l.length := List.length_pos_iff.mpr hz
        obtain ⟨r, s', r0, r1, hs', et⟩ := c_take (P := P) (fl := fl) k (n := (l.length : Int)) hs (by omega) (by omega)
        have hr : r.toNat < l.length := by omega
        have hm : f.length < most := Nat.lt_of_le_of_lt (show f.length ≤ 1000 by omega) (by decide : 1000 < 16000000)
        refine .inr ⟨[.own (wD s), sl, .own (.lst (l.map .int)), .own (.lst (f.map .int))], _, (l.eraseIdx r.toNat).length, ?_, ?_, by rw [List.length_eraseIdx_of_lt hr]; omega, s', l.eraseIdx r.toNat, f ++ [l[r.toNat]], hs', rfl, (erase_permG hr).trans hp, rfl⟩
        · simp [nn l, hz]
        · rcases hsl with rfl | rfl | rfl <;> simp [et, hm, hr, p63 (j := r) (by omega) (by omega), erase_map])
  refine ⟨f, s', hp, hs, ?_⟩
  rw [← hR2]
  rcases hsl with rfl | rfl | rfl <;> simp
theorem c_thenB [F_thenB P] (k : Nat) {n : Nat} {p q : List Int} (hl : p.length ≤ 1000) (hq : q.length = n) (h : ∀ x ∈ p, 0 ≤ x ∧ x < n) : (cfg P fl (k + 1)).call "_law_behind" [.ro (tI p), .ro (tI q)] = some (.val (tI (thenF p q)), [.ro (tI p), .ro (tI q)]) := by
  generalize hR : (cfg P fl (k + 1)).call _ _ = R
  rw [r_thenB] at hR
  simp [w_most (show p.length ≤ 16000000 by omega)] at hR
  generalize hL : lcLoop _ _ _ = L at hR
  obtain ⟨ys, hys, rfl⟩ := lc_enc (e := D.int) (en := D.int) (at0 q) hL fun x hx => by simp [at_i hq (h x hx)]
  simp at hR
  rw [← hR, hys]
  rfl
/-- what is told: numbers, texts, truths, nothing, and tuples of such -/
def Vt : Nat → D → Prop
  | 0, d => Vl 0 d
  | n + 1, d => Vt n d ∨ ∃ xs, d = .tup xs ∧ xs.length ≤ 1000000 ∧ ∀ x ∈ xs, Vt n x
theorem Vt.of0 {d : D} (h : Vl 0 d) : ∀ n, Vt n d
  | 0 => h
  | n + 1 => .inl (Vt.of0 h n)
theorem Vt.int (n : Nat) (i : Int) : Vt n (.int i) := Vt.of0 (Vl.int 0 i) n
theorem Vt.bl (n : Nat) (i : Bool) : Vt n (.bl i) := Vt.of0 (Vl.bl 0 i) n
theorem Vt.non (n : Nat) : Vt n .non := Vt.of0 (Vl.non 0) n
theorem Vt.tup {n : Nat} {xs : List D} (h : xs.length ≤ 1000000) (h' : ∀ x ∈ xs, Vt n x) : Vt (n + 1) (.tup xs) := .inr ⟨xs, rfl, h, h'⟩
theorem Vt.tI (n : Nat) {p : List Int} (h : p.length ≤ 1000000) : Vt (n + 1) (tI p) := Vt.tup (by simpa using h) fun x hx => by
  obtain ⟨i, _, rfl⟩ := List.mem_map.mp hx
  exact Vt.int n i
theorem c_sameB [F_sameB P] : ∀ (n k : Nat) {d : D}, Vt n d → (cfg P fl (k + n + 1)).call "_law_same" [.ro d, .ro d] = some (.val (.bl true), [.ro d, .ro d])
  | 0, k, d, h => by
    rw [r_sameB]
    rcases h with rfl | ⟨b, rfl⟩ | ⟨i, rfl⟩ | ⟨s, rfl, hs⟩
    · simp
    · cases b <;> simp
    · simp
    · simp [c_eqs hs]
  | n + 1, k, d, h => by
    rcases h with h | ⟨xs, h, hl, hx⟩
    · have := c_sameB n (k + 1) h
      rwa [show k + 1 + n + 1 = k + (n + 1) + 1 by omega] at this
    · rw [r_sameB]
      have h1 : R62 (xs.length : Int) := r62 (by omega) (by omega)
      have h2 : xs.length ≤ most := w_most (by omega)
      subst h
      · simp [h1, h2]
        generalize hL : lcLoop _ _ _ = L
        obtain rfl := lc_one (e := D.int) (g := fun _ => .bl true) hL fun i hi => by
          obtain ⟨x, hx', ex⟩ := at_rng hi
          have : (cfg P fl (k + (n + 1))).call "_law_same" [.ro x, .ro x] = _ := c_sameB n k (hx x hx')
          simp [ex, this]
        simp
end
end PX

/-! PX, part N: plans that the laws k15 to k28 draw. -/
namespace PX
open PV hiding tI
section
variable {P : Pg} {fl : Nat}
theorem ixN_of {n : Nat} {i : Int} (h : 0 ≤ i) (h' : i < n) : L2.ixN n i = some i.toNat := by
  unfold L2.ixN
  rw [if_pos h, if_pos h']
/-- a row is changed at one place -/
theorem set_ok {n : Nat} {l : List Int} {i : Nat} {x : Int} (hl : l.length = n ∧ ∀ y ∈ l, 0 ≤ y ∧ y < (n : Int)) (hx : 0 ≤ x ∧ x < (n : Int)) : (l.set i x).length = n ∧ ∀ y ∈ l.set i x, 0 ≤ y ∧ y < (n : Int) :=
  ⟨by rw [List.length_set]; exact hl.1, fun y hy => by
    rcases List.mem_or_eq_of_mem_set hy with hy | rfl
    · exact hl.2 y hy
    · exact hx⟩
theorem c_planB [F_take P] [F_pick P] [F_shuffledB P] [F_planB P] (hf : 100 ≤ fl) (k : Nat) {s : W} {n : Nat} (h : WOk s) (h1 : 1 ≤ n) (h8 : n ≤ 8) : ∃ p s', Pl n p ∧ WOk s' ∧ (cfg P fl (k + 3)).call "_law_plan" [.own (wD s), .ro (.int n)] = some (.val (tI p), [.own (wD s'), .ro (.int n)]) := by
  generalize hR : (cfg P fl (k + 3)).call _ _ = R
  rw [r_planB] at hR
  have hr : R62 (n : Int) := r62 (by omega) (by omega)
  have hm : n ≤ most := w_most (by omega)
  obtain ⟨w, s1, w0, w1, hs1, ew⟩ := c_take (P := P) (fl := fl) (k + 1) (n := 6) h (by decide) (by decide)
  obtain ⟨o, s2, hp, hs2, eo⟩ := c_shuffledB (P := P) (fl := fl) hf k (xs := rng n) hs1 (by simp; omega) (.inl rfl)
  have ho : Od n o := od_of_perm h1 h8 hp
  have hol := ho.1.1
  by_cases z0 : w = 0
  · subst z0
    simp [ew, eo, hr, hm, hol] at hR
    exact ⟨o, s2, ho.1, hs2, hR.symm⟩
  by_cases z1 : w = 1 ∨ w = 2
  · obtain ⟨r, s3, r0, r1, hs3, er⟩ := c_take (P := P) (fl := fl) (k + 1) (n := (n : Int)) hs2 (by omega) (by omega)
    have hr1 : 0 ≤ 1 + r := by omega
    generalize hg : List.take (1 + r).toNat o = g at hR
    have hg0 : g ≠ [] := by
      intro z
      have := congrArg List.length hg
      rw [List.length_take, z, hol, List.length_nil] at this
      omega
    have hgm : ∀ x ∈ g, 0 ≤ x ∧ x < (n : Int) := fun x hx => by
      rw [← hg] at hx
      exact ho.1.2.2.2 x (List.mem_of_mem_take hx)
    have hgl : g.length ≤ 8 := by rw [← hg, List.length_take]; omega
    rcases z1 with rfl | rfl
    · simp [ew, eo, er, hr, hm, hr1, ← List.map_take, hg] at hR
      generalize hL : lcLoop _ _ _ = L at hR
      obtain ⟨ys, ρ', rfl, ⟨s4, hs4, rfl⟩, hl, hy⟩ := lc_draw (e := D.int) (g := D.int) (fun ρ => ∃ s, WOk s ∧ ρ = [.own (wD s), .ro (.int n), .ro (.int 1), .own (.lst (o.map .int)), .own (.lst (g.map .int)), .un, .un, .un, .un, .un]) (fun y => 0 ≤ y ∧ y < (n : Int)) hL ⟨s3, hs3, rfl⟩ (fun x hx ρ ⟨s, hs, hρ⟩ => by
        subst hρ
        by_cases hin : x ∈ g
        · refine ⟨x, _, ?_, ⟨s, hs, rfl⟩, mem_rng.mp hx⟩
          simp [hin]
        · obtain ⟨y, s', hy, hs', e1, e2, e3⟩ := c_pick (P := P) (fl := fl) k (e := D.int) (xs := g) hs hg0 (by omega)
          refine ⟨y, _, ?_, ⟨s', hs', rfl⟩, hgm y hy⟩
          simp [e1, hin])
      simp [w_most (show ys.length ≤ 16000000 by rw [hl, rng_len]; omega)] at hR
      exact ⟨ys, s4, ⟨by simpa using hl, h1, h8, hy⟩, hs4, hR.symm⟩
    · simp [ew, eo, er, hr, hm, hr1, ← List.map_take, hg] at hR
      generalize hL : lcLoop _ _ _ = L at hR
      obtain ⟨ys, ρ', rfl, ⟨s4, hs4, rfl⟩, hl, hy⟩ := lc_draw (e := D.int) (g := D.int) (fun ρ => ∃ s, WOk s ∧ ρ = [.own (wD s), .ro (.int n), .ro (.int 2), .own (.lst (o.map .int)), .own (.lst (g.map .int)), .un, .un, .un, .un, .un]) (fun y => 0 ≤ y ∧ y < (n : Int)) hL ⟨s3, hs3, rfl⟩ (fun x hx ρ ⟨s, hs, hρ⟩ => by
        subst hρ
        obtain ⟨y, s', hy, hs', e1, e2, e3⟩ := c_pick (P := P) (fl := fl) k (e := D.int) (xs := g) hs hg0 (by omega)
        refine ⟨y, _, ?_, ⟨s', hs', rfl⟩, hgm y hy⟩
        simp [e1])
      simp [w_most (show ys.length ≤ 16000000 by rw [hl, rng_len]; omega)] at hR
      exact ⟨ys, s4, ⟨by simpa using hl, h1, h8, hy⟩, hs4, hR.symm⟩
  have z1' : w ≠ 1 := fun z => z1 (.inl z)
  have z2 : w ≠ 2 := fun z => z1 (.inr z)
  by_cases z3 : w = 3
  · subst z3
    simp [ew, eo, hr, hm, cfg_fuel] at hR
    generalize hL : whileLoop _ _ _ _ = L at hR
    obtain ⟨ρ', rfl, s3, made, hs3, hmade, z, y, q, hzq, rfl⟩ := whl_nx (fun m ρ => ∃ (s : W) (made : List Int) (st : Int) (y q : Sl), WOk s ∧ (made.length = n ∧ ∀ x ∈ made, 0 ≤ x ∧ x < (n : Int)) ∧ 0 ≤ st ∧ st + m = n ∧ ρ = [.own (wD s), .ro (.int n), .ro (.int 3), .own (.lst (o.map .int)), .un, .un, .own (.lst (made.map .int)), .ro (.int st), y, q])
      (fun ρ => ∃ (s : W) (made : List Int), WOk s ∧ (made.length = n ∧ ∀ x ∈ made, 0 ≤ x ∧ x < (n : Int)) ∧ ∃ (z y q : Sl), z = z ∧ ρ = [.own (wD s), .ro (.int n), .ro (.int 3), .own (.lst (o.map .int)), .un, .un, .own (.lst (made.map .int)), z, y, q]) hL (show n < fl by omega)
      ⟨s2, rng n, 0, .un, .un, hs2, ⟨rng_len n, fun x hx => mem_rng.mp hx⟩, by omega, by omega, rfl⟩ (fun m ρ ⟨s, made, st, y, q, hs, hmade, st0, st1, hρ⟩ => by
        subst hρ
        by_cases hz : st < (n : Int)
        · obtain ⟨r, s', r0, r1, hs', et⟩ := c_take (P := P) (fl := fl) (k + 1) (n := (n : Int) - st) hs (by omega) (by omega)
          have key : ∃ L, forLoop (lopB (cfg P fl (k + 2)) 2 (.nm 9) [.put 6 (.ix (.var 3) (.bin .Add (.var 7) (.var 9))) (.ix (.var 3) (.bin .Add (.var 7) (.bin .Mod (.blt .int [.bin .Add (.var 9) (.con (.int 1))]) (.var 8))))]) ((rng (1 + r).toNat).map .int)
            [.own (wD s'), .ro (.int n), .ro (.int 3), .own (.lst (o.map .int)), .un, .un, .own (.lst (made.map .int)), .ro (.int st), .ro (.int (1 + r)), q] = L := ⟨_, rfl⟩
          obtain ⟨L, hL⟩ := key
          have hL' := hL
          obtain ⟨ρ', rfl, made', hmade', q', rfl⟩ := for_nx (e := D.int) (fun _ ρ => ∃ made : List Int, (made.length = n ∧ ∀ x ∈ made, 0 ≤ x ∧ x < (n : Int)) ∧ ∃ q, ρ = [.own (wD s'), .ro (.int n), .ro (.int 3), .own (.lst (o.map .int)), .un, .un, .own (.lst (made.map .int)), .ro (.int st), .ro (.int (1 + r)), q]) hL ⟨made, hmade, q, rfl⟩ (fun x hx done ρ ⟨made, hmade, q, hρ⟩ => by
            subst hρ
            have hx := mem_rng.mp hx
            have b1 : 0 ≤ st + x ∧ st + x < (n : Int) := by omega
            have m0 := Int.emod_nonneg (x + 1) (show 1 + r ≠ 0 by omega)
            have m1 := Int.emod_lt_of_pos (x + 1) (show 0 < 1 + r by omega)
            have b2 : 0 ≤ st + (x + 1) % (1 + r) ∧ st + (x + 1) % (1 + r) < (n : Int) := by omega
            have c1 := ho.range b1
            have c2 := ho.range b2
            refine ⟨_, ?_, made.set (at0 o (st + x)).toNat (at0 o (st + (x + 1) % (1 + r))), set_ok hmade c2, .ro (.int x), rfl⟩
            have hlt : (at0 o (st + x)).toNat < made.length := by rw [hmade.1]; omega
            simp [at_i hol b1, at_i hol b2, c1.1, hlt, p63 (j := at0 o (st + x)) (by omega) (by omega), show (0 : Int) < 1 + r by omega, List.map_set, ixN_of (n := made.length) (i := at0 o (st + x)) c1.1 (by rw [hmade.1]; exact c1.2)])
          refine .inr ⟨[.own (wD s), .ro (.int n), .ro (.int 3), .own (.lst (o.map .int)), .un, .un, .own (.lst (made.map .int)), .ro (.int st), y, q], _, (n - (st + (1 + r))).toNat, ?_, ?_, by omega, s', made', st + (1 + r), .ro (.int (1 + r)), q', hs', hmade', by omega, by omega, rfl⟩
          · simp [hz]
          · simp [et, r62 (j := 1 + r) (by omega) (by omega), hL']
        · exact .inl ⟨_, by simp [hz], s, made, hs, hmade, .ro (.int st), y, q, rfl, rfl⟩)
    obtain ⟨t, s4, t0, t1, hs4, et⟩ := c_take (P := P) (fl := fl) (k + 1) (n := 3) hs3 (by decide) (by decide)
    simp [et, t0, ← List.map_take] at hR
    generalize hL : forLoop _ _ _ = L at hR
    obtain ⟨ρ', rfl, s5, made', hs5, hmade', x, rfl⟩ := for_nx (e := D.int) (fun _ ρ => ∃ (s : W) (made : List Int), WOk s ∧ (made.length = n ∧ ∀ x ∈ made, 0 ≤ x ∧ x < (n : Int)) ∧ ∃ x, ρ = [.own (wD s), .ro (.int n), .ro (.int 3), .own (.lst (o.map .int)), .un, x, .own (.lst (made.map .int)), z, y, q]) hL ⟨s4, made, hs4, hmade, .un, rfl⟩ (fun x hx done ρ ⟨s, made, hs, hmade, x5, hρ⟩ => by
      subst hρ
      have hx := ho.1.2.2.2 x (List.mem_of_mem_take hx)
      obtain ⟨r, s', r0, r1, hs', et⟩ := c_take (P := P) (fl := fl) (k + 1) (n := (n : Int)) hs (by omega) (by omega)
      have hlt : x.toNat < made.length := by rw [hmade.1]; omega
      refine ⟨_, ?_, s', made.set x.toNat r, hs', set_ok hmade ⟨r0, r1⟩, .ro (.int x), rfl⟩
      simp [et, ixN_of (n := made.length) (i := x) hx.1 (by rw [hmade.1]; exact hx.2), List.map_set])
    simp [w_most (show made'.length ≤ 16000000 by rw [hmade'.1]; omega)] at hR
    exact ⟨made', s5, ⟨hmade'.1, h1, h8, hmade'.2⟩, hs5, hR.symm⟩
  · simp [ew, eo, z0, z1', z2, z3, hr, hm] at hR
    generalize hL : lcLoop _ _ _ = L at hR
    obtain ⟨ys, ρ', rfl, ⟨s3, hs3, rfl⟩, hl, hy⟩ := lc_draw (e := D.int) (g := D.int) (fun ρ => ∃ s, WOk s ∧ ρ = [.own (wD s), .ro (.int n), .ro (.int w), .own (.lst (o.map .int)), .un, .un, .un, .un, .un, .un]) (fun y => 0 ≤ y ∧ y < (n : Int)) hL ⟨s2, hs2, rfl⟩ (fun x hx ρ ⟨s, hs, hρ⟩ => by
      subst hρ
      obtain ⟨q, s', q0, q1, hs', e⟩ := c_take (P := P) (fl := fl) (k + 1) (n := (n : Int)) hs (by omega) (by omega)
      refine ⟨q, _, ?_, ⟨s', hs', rfl⟩, by omega, by omega⟩
      simp [e])
    simp [w_most (show ys.length ≤ 16000000 by rw [hl, rng_len]; omega)] at hR
    exact ⟨ys, s3, ⟨by simpa using hl, h1, h8, hy⟩, hs3, hR.symm⟩
end
end PX

/-! PX, part O: plans that undo each other. -/
namespace PX
open PV hiding tI
class F_undoesB (P : Pg) : Prop where h_undoesB : P.fn "_law_undoes" = some ⟨["plan", "other"], 2, [.ret (.cmp .Eq (.call "_law_behind" [.call "_law_behind" [.var 0, .var 1] [] [0, 1], .var 0] [] [0, 1]) (.var 0))]⟩
theorem r_undoesB {P : Pg} [F_undoesB P] {fl k : Nat} {as : List Sl} : (cfg P fl (k + 1)).call "_law_undoes" as = run (cfg P fl k) ⟨["plan", "other"], 2, [.ret (.cmp .Eq (.call "_law_behind" [.call "_law_behind" [.var 0, .var 1] [] [0, 1], .var 0] [] [0, 1]) (.var 0))]⟩ as := call_fn F_undoesB.h_undoesB
class F_undoingB (P : Pg) : Prop where h_undoingB : P.fn "_law_undoing" = some ⟨["well", "plan", "both"], 8, [.par [5, 6] [.dnew, .blt .len [.var 1]], .lop (.nm 3) (.ovr (.blt .sorted [.blt .set [.var 1]])) [.put 5 (.var 3) (.call "_law_pick" [.var 0, .lc (.var 7) (.nm 7) (.rng [.var 6]) (some (.cmp .Eq (.ix (.var 1) (.var 7)) (.var 3)))] [] [0, 1])], .asg 4 (.blt .sorted [.lc (.ix (.var 5) (.var 3)) (.nm 3) (.ovr (.var 5)) none]), .ret (.blt .tuple [.lc (.ife (.cmp .In (.var 3) (.var 5)) (.ix (.var 5) (.var 3)) (.call "_law_pick" [.var 0, .ife (.tru (.var 2)) (.var 4) (.ofr false [.var 6])] [] [0, 1])) (.nm 3) (.rng [.var 6]) none])]⟩
theorem r_undoingB {P : Pg} [F_undoingB P] {fl k : Nat} {as : List Sl} : (cfg P fl (k + 1)).call "_law_undoing" as = run (cfg P fl k) ⟨["well", "plan", "both"], 8, [.par [5, 6] [.dnew, .blt .len [.var 1]], .lop (.nm 3) (.ovr (.blt .sorted [.blt .set [.var 1]])) [.put 5 (.var 3) (.call "_law_pick" [.var 0, .lc (.var 7) (.nm 7) (.rng [.var 6]) (some (.cmp .Eq (.ix (.var 1) (.var 7)) (.var 3)))] [] [0, 1])], .asg 4 (.blt .sorted [.lc (.ix (.var 5) (.var 3)) (.nm 3) (.ovr (.var 5)) none]), .ret (.blt .tuple [.lc (.ife (.cmp .In (.var 3) (.var 5)) (.ix (.var 5) (.var 3)) (.call "_law_pick" [.var 0, .ife (.tru (.var 2)) (.var 4) (.ofr false [.var 6])] [] [0, 1])) (.nm 3) (.rng [.var 6]) none])]⟩ as := call_fn F_undoingB.h_undoingB
class F_power_of (P : Pg) : Prop where h_power_of : P.fn "power_of" = some ⟨["number", "many"], 4, [.asg 2 (.con (.int 1)), .lop (.nm 3) (.rng [.var 1]) [.asg 2 (.bin .Mult (.var 2) (.var 0))], .ret (.var 2)]⟩
theorem r_power_of {P : Pg} [F_power_of P] {fl k : Nat} {as : List Sl} : (cfg P fl (k + 1)).call "power_of" as = run (cfg P fl k) ⟨["number", "many"], 4, [.asg 2 (.con (.int 1)), .lop (.nm 3) (.rng [.var 1]) [.asg 2 (.bin .Mult (.var 2) (.var 0))], .ret (.var 2)]⟩ as := call_fn F_power_of.h_power_of
class F_is_at_rest_by (P : Pg) : Prop where h_is_at_rest_by : P.fn "is_at_rest_by" = some ⟨["plan"], 1, [.ret (.cmp .Eq (.call "behind_of" [.var 0, .var 0] [] [0, 1]) (.var 0))]⟩
theorem r_is_at_rest_by {P : Pg} [F_is_at_rest_by P] {fl k : Nat} {as : List Sl} : (cfg P fl (k + 1)).call "is_at_rest_by" as = run (cfg P fl k) ⟨["plan"], 1, [.ret (.cmp .Eq (.call "behind_of" [.var 0, .var 0] [] [0, 1]) (.var 0))]⟩ as := call_fn F_is_at_rest_by.h_is_at_rest_by
class F_is_at_rest (P : Pg) : Prop where h_is_at_rest : P.fn "is_at_rest" = some ⟨["plan"], 1, [.ex (.call "check_plan" [.var 0] [] [0]), .ret (.call "is_at_rest_by" [.var 0] [] [0])]⟩
theorem r_is_at_rest {P : Pg} [F_is_at_rest P] {fl k : Nat} {as : List Sl} : (cfg P fl (k + 1)).call "is_at_rest" as = run (cfg P fl k) ⟨["plan"], 1, [.ex (.call "check_plan" [.var 0] [] [0]), .ret (.call "is_at_rest_by" [.var 0] [] [0])]⟩ as := call_fn F_is_at_rest.h_is_at_rest
class F_does_undo_by (P : Pg) : Prop where h_does_undo_by : P.fn "does_undo_by" = some ⟨["plan", "other"], 2, [.ret (.cmp .Eq (.call "behind_of" [.call "behind_of" [.var 0, .var 1] [] [0, 1], .var 0] [] [0, 1]) (.var 0))]⟩
theorem r_does_undo_by {P : Pg} [F_does_undo_by P] {fl k : Nat} {as : List Sl} : (cfg P fl (k + 1)).call "does_undo_by" as = run (cfg P fl k) ⟨["plan", "other"], 2, [.ret (.cmp .Eq (.call "behind_of" [.call "behind_of" [.var 0, .var 1] [] [0, 1], .var 0] [] [0, 1]) (.var 0))]⟩ as := call_fn F_does_undo_by.h_does_undo_by
class F_does_undo (P : Pg) : Prop where h_does_undo : P.fn "does_undo" = some ⟨["plan", "other"], 2, [.ex (.call "check_two_plans" [.var 0, .var 1] [] [0, 1]), .ret (.call "does_undo_by" [.var 0, .var 1] [] [0, 1])]⟩
theorem r_does_undo {P : Pg} [F_does_undo P] {fl k : Nat} {as : List Sl} : (cfg P fl (k + 1)).call "does_undo" as = run (cfg P fl k) ⟨["plan", "other"], 2, [.ex (.call "check_two_plans" [.var 0, .var 1] [] [0, 1]), .ret (.call "does_undo_by" [.var 0, .var 1] [] [0, 1])]⟩ as := call_fn F_does_undo.h_does_undo
class F_lot_product (P : Pg) : Prop where h_lot_product : P.fn "lot_product" = some ⟨["plan"], 3, [.asg 1 (.con (.int 1)), .lop (.nm 2) (.ovr (.call "lots_of" [.var 0] [] [0])) [.asg 1 (.bin .Mult (.var 1) (.blt .len [.var 2]))], .ret (.var 1)]⟩
theorem r_lot_product {P : Pg} [F_lot_product P] {fl k : Nat} {as : List Sl} : (cfg P fl (k + 1)).call "lot_product" as = run (cfg P fl k) ⟨["plan"], 3, [.asg 1 (.con (.int 1)), .lop (.nm 2) (.ovr (.call "lots_of" [.var 0] [] [0])) [.asg 1 (.bin .Mult (.var 1) (.blt .len [.var 2]))], .ret (.var 1)]⟩ as := call_fn F_lot_product.h_lot_product
class F_undo_count_by (P : Pg) : Prop where h_undo_count_by : P.fn "undo_count_by" = some ⟨["plan"], 2, [.asg 1 (.bin .Sub (.blt .len [.var 0]) (.blt .len [.call "shown_of" [.var 0] [] [0]])), .ret (.bin .Mult (.call "lot_product" [.var 0] [] [0]) (.call "power_of" [.blt .len [.var 0], .var 1] [] [0, 1]))]⟩
theorem r_undo_count_by {P : Pg} [F_undo_count_by P] {fl k : Nat} {as : List Sl} : (cfg P fl (k + 1)).call "undo_count_by" as = run (cfg P fl k) ⟨["plan"], 2, [.asg 1 (.bin .Sub (.blt .len [.var 0]) (.blt .len [.call "shown_of" [.var 0] [] [0]])), .ret (.bin .Mult (.call "lot_product" [.var 0] [] [0]) (.call "power_of" [.blt .len [.var 0], .var 1] [] [0, 1]))]⟩ as := call_fn F_undo_count_by.h_undo_count_by
class F_undo_count (P : Pg) : Prop where h_undo_count : P.fn "undo_count" = some ⟨["plan"], 1, [.ex (.call "check_plan" [.var 0] [] [0]), .ret (.call "undo_count_by" [.var 0] [] [0])]⟩
theorem r_undo_count {P : Pg} [F_undo_count P] {fl k : Nat} {as : List Sl} : (cfg P fl (k + 1)).call "undo_count" as = run (cfg P fl k) ⟨["plan"], 1, [.ex (.call "check_plan" [.var 0] [] [0]), .ret (.call "undo_count_by" [.var 0] [] [0])]⟩ as := call_fn F_undo_count.h_undo_count
class F_both_ways_count_by (P : Pg) : Prop where h_both_ways_count_by : P.fn "both_ways_count_by" = some ⟨["plan"], 2, [.asg 1 (.blt .len [.call "shown_of" [.var 0] [] [0]]), .ret (.bin .Mult (.call "lot_product" [.var 0] [] [0]) (.call "power_of" [.var 1, .bin .Sub (.blt .len [.var 0]) (.var 1)] [] [0, 1]))]⟩
theorem r_both_ways_count_by {P : Pg} [F_both_ways_count_by P] {fl k : Nat} {as : List Sl} : (cfg P fl (k + 1)).call "both_ways_count_by" as = run (cfg P fl k) ⟨["plan"], 2, [.asg 1 (.blt .len [.call "shown_of" [.var 0] [] [0]]), .ret (.bin .Mult (.call "lot_product" [.var 0] [] [0]) (.call "power_of" [.var 1, .bin .Sub (.blt .len [.var 0]) (.var 1)] [] [0, 1]))]⟩ as := call_fn F_both_ways_count_by.h_both_ways_count_by
class F_both_ways_count (P : Pg) : Prop where h_both_ways_count : P.fn "both_ways_count" = some ⟨["plan"], 1, [.ex (.call "check_plan" [.var 0] [] [0]), .ret (.call "both_ways_count_by" [.var 0] [] [0])]⟩
theorem r_both_ways_count {P : Pg} [F_both_ways_count P] {fl k : Nat} {as : List Sl} : (cfg P fl (k + 1)).call "both_ways_count" as = run (cfg P fl k) ⟨["plan"], 1, [.ex (.call "check_plan" [.var 0] [] [0]), .ret (.call "both_ways_count_by" [.var 0] [] [0])]⟩ as := call_fn F_both_ways_count.h_both_ways_count
class F_least_undoing (P : Pg) : Prop where h_least_undoing : P.fn "least_undoing" = some ⟨["plan"], 2, [.ret (.blt .tuple [.lc (.mnd (.call "showing" [.var 0, .var 1] [] [0, 1]) (.con (.int 0))) (.nm 1) (.rng [.blt .len [.var 0]]) none])]⟩
theorem r_least_undoing {P : Pg} [F_least_undoing P] {fl k : Nat} {as : List Sl} : (cfg P fl (k + 1)).call "least_undoing" as = run (cfg P fl k) ⟨["plan"], 2, [.ret (.blt .tuple [.lc (.mnd (.call "showing" [.var 0, .var 1] [] [0, 1]) (.con (.int 0))) (.nm 1) (.rng [.blt .len [.var 0]]) none])]⟩ as := call_fn F_least_undoing.h_least_undoing
class F_first_undoing (P : Pg) : Prop where h_first_undoing : P.fn "first_undoing" = some ⟨["plan"], 1, [.ex (.call "check_plan" [.var 0] [] [0]), .ret (.call "least_undoing" [.var 0] [] [0])]⟩
theorem r_first_undoing {P : Pg} [F_first_undoing P] {fl k : Nat} {as : List Sl} : (cfg P fl (k + 1)).call "first_undoing" as = run (cfg P fl k) ⟨["plan"], 1, [.ex (.call "check_plan" [.var 0] [] [0]), .ret (.call "least_undoing" [.var 0] [] [0])]⟩ as := call_fn F_first_undoing.h_first_undoing
class F_first_both_ways (P : Pg) : Prop where h_first_both_ways : P.fn "first_both_ways" = some ⟨["plan"], 1, [.ex (.call "check_plan" [.var 0] [] [0]), .ret (.call "least_undoing" [.var 0] [] [0])]⟩
theorem r_first_both_ways {P : Pg} [F_first_both_ways P] {fl k : Nat} {as : List Sl} : (cfg P fl (k + 1)).call "first_both_ways" as = run (cfg P fl k) ⟨["plan"], 1, [.ex (.call "check_plan" [.var 0] [] [0]), .ret (.call "least_undoing" [.var 0] [] [0])]⟩ as := call_fn F_first_both_ways.h_first_both_ways
section
variable {P : Pg} {fl : Nat}
theorem c_power_of [F_power_of P] (k : Nat) {b : Int} (hb : R64 b) {m : Nat} (hm : m ≤ 1000) : (cfg P fl (k + 1)).call "power_of" [.ro (.int b), .ro (.int m)] = some (.val (.int (b ^ m)), [.ro (.int b), .ro (.int m)]) := by
  generalize hR : (cfg P fl (k + 1)).call _ _ = R
  rw [r_power_of] at hR
  simp [r62 (j := (m : Int)) (by omega) (by omega), w_most (show m ≤ 16000000 by omega)] at hR
  generalize hL : forLoop _ _ _ = L at hR
  obtain ⟨ρ', rfl, z, rfl⟩ := for_at (e := D.int) (fun i ρ => ∃ z, ρ = [.ro (.int b), .ro (.int m), .ro (.int (b ^ i)), z]) hL ⟨.un, by simp⟩ (fun i x hx ρ ⟨z, hρ⟩ => by
    subst hρ
    refine ⟨_, ?_, .ro (.int x), rfl⟩
    simp [hb, Int.pow_succ])
  rw [rng_length] at hR
  simp at hR
  exact hR.symm
theorem c_is_at_rest [GPlan P] [F_check_plan P] [F_behind_of P] [F_is_at_rest_by P] [F_is_at_rest P] (k : Nat) {n : Nat} {p : List Int} (h : Pl n p) : (cfg P fl (k + 7)).call "is_at_rest" [.ro (tI p)] = some (.val (.bl (decide (thenF p p = p))), [.ro (tI p)]) := by
  have h2 := h.2.2.1
  have eb : (cfg P fl (k + 5)).call "behind_of" [.ro (tI p), .ro (tI p)] = _ := c_behind_of (k + 4) (by rw [h.1]; omega) h.1 h.2.2.2
  have ec : (cfg P fl (k + 6)).call "check_plan" [.ro (tI p)] = _ := c_check_plan k h
  have er : (cfg P fl (k + 6)).call "is_at_rest_by" [.ro (tI p)] = some (.val (.bl (decide (thenF p p = p))), [.ro (tI p)]) := by
    rw [r_is_at_rest_by]
    simp [eb]
  rw [r_is_at_rest]
  simp [ec, er]
theorem c_does_undo [GPlan P] [F_check_plan P] [F_check_plan_of P] [F_check_two_plans P] [F_behind_of P] [F_does_undo_by P] [F_does_undo P] (k : Nat) {n : Nat} {p q : List Int} (h : Pl n p) (h' : Pl n q) : (cfg P fl (k + 8)).call "does_undo" [.ro (tI p), .ro (tI q)] = some (.val (.bl (decide (thenF (thenF p q) p = p))), [.ro (tI p), .ro (tI q)]) := by
  have h2 := h.2.2.1
  have eb : (cfg P fl (k + 6)).call "behind_of" [.ro (tI p), .ro (tI q)] = _ := c_behind_of (k + 5) (by rw [h.1]; omega) h'.1 h.2.2.2
  have eb2 : (cfg P fl (k + 6)).call "behind_of" [.ro (tI (thenF p q)), .ro (tI p)] = _ := c_behind_of (k + 5) (by rw [thenF_len, h.1]; omega) h.1 (thenF_pl h h').2.2.2
  have ec : (cfg P fl (k + 7)).call "check_two_plans" [.ro (tI p), .ro (tI q)] = _ := c_check_two k h h'
  have er : (cfg P fl (k + 7)).call "does_undo_by" [.ro (tI p), .ro (tI q)] = some (.val (.bl (decide (thenF (thenF p q) p = p))), [.ro (tI p), .ro (tI q)]) := by
    rw [r_does_undo_by]
    simp [eb, eb2]
  rw [r_does_undo]
  simp [ec, er]
theorem c_undoesB [F_thenB P] [F_undoesB P] (k : Nat) {n : Nat} {p q : List Int} (h : Pl n p) (h' : Pl n q) : (cfg P fl (k + 2)).call "_law_undoes" [.ro (tI p), .ro (tI q)] = some (.val (.bl (decide (thenF (thenF p q) p = p))), [.ro (tI p), .ro (tI q)]) := by
  have h2 := h.2.2.1
  have eb : (cfg P fl (k + 1)).call "_law_behind" [.ro (tI p), .ro (tI q)] = _ := c_thenB k (by rw [h.1]; omega) h'.1 h.2.2.2
  have eb2 : (cfg P fl (k + 1)).call "_law_behind" [.ro (tI (thenF p q)), .ro (tI p)] = _ := c_thenB k (by rw [thenF_len, h.1]; omega) h.1 (thenF_pl h h').2.2.2
  rw [r_undoesB]
  simp [eb, eb2]
/-- the product of the lots' lengths -/
def lprod (ls : List (List Int)) : Int := ls.foldl (fun a l => a * (l.length : Int)) 1
theorem lprod_snoc (ls : List (List Int)) (l : List Int) : lprod (ls ++ [l]) = lprod ls * (l.length : Int) := by simp [lprod]
theorem c_lot_product [F_shown_of P] [F_showing P] [F_lots_of P] [F_lot_product P] (k : Nat) {n : Nat} {p : List Int} (h : Pl n p) : (cfg P fl (k + 3)).call "lot_product" [.ro (tI p)] = some (.val (.int (lprod (lotsF p))), [.ro (tI p)]) := by
  have h2 := h.2.2.1
  generalize hR : (cfg P fl (k + 3)).call _ _ = R
  rw [r_lot_product] at hR
  have el : (cfg P fl (k + 2)).call "lots_of" [.ro (tI p)] = _ := c_lots_of k (show p.length < 64 by rw [h.1]; omega)
  simp [el] at hR
  generalize hL : forLoop _ _ _ = L at hR
  obtain ⟨ρ', rfl, z, rfl⟩ := for_nx (e := PX.tI) (fun done ρ => ∃ z, ρ = [.ro (tI p), .ro (.int (lprod done)), z]) hL ⟨.un, rfl⟩ (fun x hx done ρ ⟨z, hρ⟩ => by
    subst hρ
    refine ⟨_, ?_, .ro (tI x), rfl⟩
    obtain ⟨v, hv, rfl⟩ := lotsF_mem hx
    have := showF_len h.1 v
    simp [r64 (j := ((showF p v).length : Int)) (by omega) (by omega), lprod_snoc])
  simp at hR
  exact hR.symm
theorem lprod_le : ∀ (ls : List (List Int)) (a : Int), 0 ≤ a → (∀ l ∈ ls, l.length ≤ 8) → 0 ≤ ls.foldl (fun a l => a * (l.length : Int)) a ∧ ls.foldl (fun a l => a * (l.length : Int)) a ≤ a * 8 ^ ls.length
  | [], a, h, _ => by simp [h]
  | l :: ls, a, h, hl => by
    have h1 := hl l List.mem_cons_self
    obtain ⟨h2, h3⟩ := lprod_le ls (a * (l.length : Int)) (Int.mul_nonneg h (by omega)) fun x hx => hl x (List.mem_cons_of_mem _ hx)
    refine ⟨h2, Int.le_trans h3 ?_⟩
    rw [List.length_cons, Int.pow_succ, show a * ((8 : Int) ^ ls.length * 8) = (a * 8) * 8 ^ ls.length by rw [Int.mul_assoc, Int.mul_comm 8]]
    exact Int.mul_le_mul_of_nonneg_right (Int.mul_le_mul_of_nonneg_left (by omega) h) (Int.pow_nonneg (by decide))
theorem lprod64 {n : Nat} {p : List Int} (h : Pl n p) : R64 (lprod (lotsF p)) := by
  obtain ⟨h2, h3⟩ := lprod_le (lotsF p) 1 (by decide) fun l hl => by
    obtain ⟨v, hv, rfl⟩ := lotsF_mem hl
    have := showF_len h.1 v
    have := h.2.2.1
    omega
  have h4 : (lotsF p).length ≤ 8 := by
    have h6 := shownF_len p
    have := h.2.2.1
    rw [h.1] at h6
    rw [lotsF_len]
    omega
  have h5 : (8 : Int) ^ (lotsF p).length ≤ 8 ^ 8 := by
    have : (8 : Nat) ^ (lotsF p).length ≤ 8 ^ 8 := Nat.pow_le_pow_right (by decide) h4
    exact_mod_cast this
  exact r64 (by show _ ≤ List.foldl _ _ _; omega) (by show List.foldl _ _ _ ≤ _; omega)
theorem c_undo_count [GPlan P] [F_check_plan P] [F_shown_of P] [F_showing P] [F_lots_of P] [F_lot_product P] [F_power_of P] [F_undo_count_by P] [F_undo_count P] (k : Nat) {n : Nat} {p : List Int} (h : Pl n p) : (cfg P fl (k + 7)).call "undo_count" [.ro (tI p)] = some (.val (.int (lprod (lotsF p) * (n : Int) ^ (n - (shownF p).length))), [.ro (tI p)]) := by
  have h2 := h.2.2.1
  have hl := shownF_len p
  rw [h.1] at hl
  have ec : (cfg P fl (k + 6)).call "check_plan" [.ro (tI p)] = _ := c_check_plan k h
  have es : (cfg P fl (k + 5)).call "shown_of" [.ro (tI p)] = _ := c_shown_of (k + 4) (show p.length < 64 by rw [h.1]; omega)
  have el : (cfg P fl (k + 5)).call "lot_product" [.ro (tI p)] = _ := c_lot_product (k + 2) h
  have ep : (cfg P fl (k + 5)).call "power_of" [.ro (.int n), .ro (.int ((n - (shownF p).length : Nat) : Int))] = _ := c_power_of (k + 4) (r64 (j := (n : Int)) (by omega) (by omega)) (by omega)
  rw [show ((n - (shownF p).length : Nat) : Int) = (n : Int) - ((shownF p).length : Int) by omega] at ep
  have er : (cfg P fl (k + 6)).call "undo_count_by" [.ro (tI p)] = some (.val (.int (lprod (lotsF p) * (n : Int) ^ (n - (shownF p).length))), [.ro (tI p)]) := by
    rw [r_undo_count_by]
    simp [es, el, ep, h.1, lprod64 h]
  rw [r_undo_count]
  simp [ec, er]
theorem c_both_ways_count [GPlan P] [F_check_plan P] [F_shown_of P] [F_showing P] [F_lots_of P] [F_lot_product P] [F_power_of P] [F_both_ways_count_by P] [F_both_ways_count P] (k : Nat) {n : Nat} {p : List Int} (h : Pl n p) : (cfg P fl (k + 7)).call "both_ways_count" [.ro (tI p)] = some (.val (.int (lprod (lotsF p) * ((shownF p).length : Int) ^ (n - (shownF p).length))), [.ro (tI p)]) := by
  have h2 := h.2.2.1
  have hl := shownF_len p
  rw [h.1] at hl
  have ec : (cfg P fl (k + 6)).call "check_plan" [.ro (tI p)] = _ := c_check_plan k h
  have es : (cfg P fl (k + 5)).call "shown_of" [.ro (tI p)] = _ := c_shown_of (k + 4) (show p.length < 64 by rw [h.1]; omega)
  have el : (cfg P fl (k + 5)).call "lot_product" [.ro (tI p)] = _ := c_lot_product (k + 2) h
  have ep : (cfg P fl (k + 5)).call "power_of" [.ro (.int ((shownF p).length : Int)), .ro (.int ((n - (shownF p).length : Nat) : Int))] = _ := c_power_of (k + 4) (r64 (j := ((shownF p).length : Int)) (by omega) (by omega)) (by omega)
  rw [show ((n - (shownF p).length : Nat) : Int) = (n : Int) - ((shownF p).length : Int) by omega] at ep
  have er : (cfg P fl (k + 6)).call "both_ways_count_by" [.ro (tI p)] = some (.val (.int (lprod (lotsF p) * ((shownF p).length : Int) ^ (n - (shownF p).length))), [.ro (tI p)]) := by
    rw [r_both_ways_count_by]
    simp [es, el, ep, h.1, lprod64 h]
  rw [r_both_ways_count]
  simp [ec, er]
def minF (d : Int) : List Int → Int
  | [] => d
  | x :: r => minL x r
theorem mnd_tI (xs : List Int) (d : Int) : mndD (tI xs) (.int d) = some (.int (minF d xs)) := by
  have : ∀ ys : List D, rowIt (.tup ys) = some ys := fun _ => rfl
  unfold mndD
  rw [this]
  dsimp only
  rw [w_ints]
  cases xs <;> rfl
def leastF (n : Nat) (p : List Int) : List Int := (rng n).map fun v => minF 0 (showF p v)
theorem c_least_undoing [F_showing P] [F_least_undoing P] (k : Nat) {n : Nat} {p : List Int} (h : Pl n p) : (cfg P fl (k + 2)).call "least_undoing" [.ro (tI p)] = some (.val (tI (leastF n p)), [.ro (tI p)]) := by
  have h2 := h.2.2.1
  generalize hR : (cfg P fl (k + 2)).call _ _ = R
  rw [r_least_undoing] at hR
  simp [h.1, r62 (j := (n : Int)) (by omega) (by omega), w_most (show n ≤ 16000000 by omega)] at hR
  generalize hL : lcLoop _ _ _ = L at hR
  obtain ⟨ys, hys, rfl⟩ := lc_enc (e := D.int) (en := D.int) (fun v => minF 0 (showF p v)) hL fun x hx => by
    have es : (cfg P fl (k + 1)).call "showing" [.ro (tI p), .ro (.int x)] = _ := c_showing k (show p.length ≤ 1000 by rw [h.1]; omega) x
    have em := mnd_tI (showF p x) 0
    simp [es, em]
  simp at hR
  rw [← hR, hys]
  rfl
theorem c_first_undoing [GPlan P] [F_check_plan P] [F_showing P] [F_least_undoing P] [F_first_undoing P] (k : Nat) {n : Nat} {p : List Int} (h : Pl n p) : (cfg P fl (k + 7)).call "first_undoing" [.ro (tI p)] = some (.val (tI (leastF n p)), [.ro (tI p)]) := by
  have ec : (cfg P fl (k + 6)).call "check_plan" [.ro (tI p)] = _ := c_check_plan k h
  have el : (cfg P fl (k + 6)).call "least_undoing" [.ro (tI p)] = _ := c_least_undoing (k + 4) h
  rw [r_first_undoing]
  simp [ec, el]
theorem c_first_both_ways [GPlan P] [F_check_plan P] [F_showing P] [F_least_undoing P] [F_first_both_ways P] (k : Nat) {n : Nat} {p : List Int} (h : Pl n p) : (cfg P fl (k + 7)).call "first_both_ways" [.ro (tI p)] = some (.val (tI (leastF n p)), [.ro (tI p)]) := by
  have ec : (cfg P fl (k + 6)).call "check_plan" [.ro (tI p)] = _ := c_check_plan k h
  have el : (cfg P fl (k + 6)).call "least_undoing" [.ro (tI p)] = _ := c_least_undoing (k + 4) h
  rw [r_first_both_ways]
  simp [ec, el]
end
end PX

/-! PX, part Q: plans that undo, drawn; all plans. -/
namespace PX
open PV hiding tI
section
variable {κ : Type} [DecidableEq κ] {enc : κ → D}
theorem KEnc.putK (E : KEnc enc) {ks : List κ} {a : κ} (h : a ∉ ks) : putKs (enc a) (ks.map enc) = (ks ++ [a]).map enc := by
  unfold putKs
  rw [E.has, decide_eq_false h]; simp
theorem KEnc.putV (E : KEnc enc) {ks : List κ} {a : κ} {d : D} {vs : List D} (h : a ∉ ks) : putVs (enc a) d (ks.map enc) vs = vs ++ [d] := by
  unfold putVs
  rw [E.has, decide_eq_false h]; simp
theorem getK_map (E : KEnc enc) {β : Type} {ks : List κ} {f : κ → β} (hn : ks.Nodup) {a : κ} (h : a ∈ ks) : getK (enc a) (ks.map enc) (ks.map f) = some (f a) := by
  have := getK_new E (kf := fun x : κ => x) (vf := f) (xs := ks) h (by simpa using hn)
  simpa using this
theorem getK_no (E : KEnc enc) {β : Type} : ∀ {ks : List κ} {vs : List β} {a : κ}, a ∉ ks → getK (enc a) (ks.map enc) vs = none
  | [], [], _, _ => rfl
  | [], _ :: _, _, _ => rfl
  | k :: ks, [], _, _ => rfl
  | k :: ks, v :: vs, a, h => by
    show (if keq (enc k) (enc a) = true then some v else getK (enc a) (ks.map enc) vs) = none
    have hne : ¬ k = a := fun z => h (by rw [z]; exact List.mem_cons_self)
    rw [E.eq, decide_eq_false hne]
    exact getK_no E fun z => h (List.mem_cons_of_mem _ z)
end
section
variable {P : Pg} {fl : Nat}
theorem lcLoop_drawx {α β : Type} {f : D → Rho → Option (List D × Rho)} {e : α → D} {g : β → D} {I : Rho → Prop} {Q : α → β → Prop} : ∀ {xs : List α} {ρ : Rho}, I ρ → (∀ x ∈ xs, ∀ ρ, I ρ → ∃ y ρ', f (e x) ρ = some ([g y], ρ') ∧ I ρ' ∧ Q x y) →
    ∃ (ys : List β) (ρ' : Rho), lcLoop f (xs.map e) ρ = some (ys.map g, ρ') ∧ I ρ' ∧ ys.length = xs.length ∧ ∀ (i : Nat) x y, xs[i]? = some x → ys[i]? = some y → Q x y
  | [], ρ, h0, _ => ⟨[], ρ, rfl, h0, rfl, fun i x y h => by simp at h⟩
  | x :: xs, ρ, h0, h => by
    obtain ⟨y, ρ1, e1, h1, p1⟩ := h x List.mem_cons_self ρ h0
    obtain ⟨ys, ρ2, e2, h2, l2, p2⟩ := lcLoop_drawx h1 fun z hz => h z (List.mem_cons_of_mem _ hz)
    refine ⟨y :: ys, ρ2, ?_, h2, by rw [List.length_cons, List.length_cons, l2], fun i x' y' hx hy => ?_⟩
    · show (f (e x) ρ).bind _ = _
      rw [e1]
      show (lcLoop f (xs.map e) ρ1).map _ = _
      rw [e2]
      rfl
    · cases i with
      | zero =>
        simp at hx hy
        subst hx hy
        exact p1
      | succ i => exact p2 i x' y' (by simpa using hx) (by simpa using hy)
theorem lc_drawx {α β : Type} {f : D → Rho → Option (List D × Rho)} {e : α → D} {L : Option (List D × Rho)} {g : β → D} (I : Rho → Prop) (Q : α → β → Prop) {xs : List α} {ρ : Rho} (hL : lcLoop f (xs.map e) ρ = L) (h0 : I ρ) (h : ∀ x ∈ xs, ∀ ρ, I ρ → ∃ y ρ', f (e x) ρ = some ([g y], ρ') ∧ I ρ' ∧ Q x y) :
    ∃ (ys : List β) (ρ' : Rho), L = some (ys.map g, ρ') ∧ I ρ' ∧ ys.length = xs.length ∧ ∀ (i : Nat) x y, xs[i]? = some x → ys[i]? = some y → Q x y := by
  subst hL
  exact lcLoop_drawx h0 h
/-- over a range: the row's places -/
theorem drawx_rng {n : Nat} {Q : Int → Int → Prop} {ys : List Int} (hl : ys.length = (rng n).length) (h : ∀ (i : Nat) x y, (rng n)[i]? = some x → ys[i]? = some y → Q x y) : ys.length = n ∧ ∀ v : Int, 0 ≤ v ∧ v < n → Q v (at0 ys v) := by
  rw [rng_len] at hl
  refine ⟨hl, fun v hv => h v.toNat v (at0 ys v) ?_ ?_⟩
  · unfold rng
    rw [List.getElem?_map, List.getElem?_range (by omega)]
    show some ((v.toNat : Nat) : Int) = _
    rw [Int.toNat_of_nonneg hv.1]
  · have hlt : v.toNat < ys.length := by omega
    unfold at0
    rw [List.getElem?_eq_getElem hlt]
    rfl
theorem undo_of {n : Nat} {p q : List Int} (h : Pl n p) (h' : Pl n q) : thenF (thenF p q) p = p ↔ ∀ v ∈ p, at0 p (at0 q v) = v := by
  constructor
  · intro e v hv
    obtain ⟨i, hi, rfl⟩ := (mem_at h.1).mp hv
    have := congrArg (fun l => at0 l i) e
    rwa [thenF_at (by rw [thenF_len]; exact h.1) hi, thenF_at h.1 hi] at this
  · intro e
    refine ext_at (n := n) (by rw [thenF_len, thenF_len]; exact h.1) h.1 fun i hi => ?_
    rw [thenF_at (by rw [thenF_len]; exact h.1) hi, thenF_at h.1 hi]
    exact e _ ((mem_at h.1).mpr ⟨i, hi, rfl⟩)
theorem c_undoingB' [F_take P] [F_pick P] [F_undoingB P] (k : Nat) {n : Nat} {s : W} {p : List Int} {b : Bool} (h : WOk s) (hp : Pl n p) : ∃ q s', Pl n q ∧ thenF (thenF p q) p = p ∧ (b = true → thenF (thenF q p) q = q) ∧ WOk s' ∧
    (cfg P fl (k + 3)).call "_law_undoing" [.own (wD s), .ro (tI p), .ro (.bl b)] = some (.val (tI q), [.own (wD s'), .ro (tI p), .ro (.bl b)]) := by
  generalize hR : (cfg P fl (k + 3)).call _ _ = R
  rw [r_undoingB] at hR
  have h1 := hp.2.1
  have h8 := hp.2.2.1
  have hr : R62 (n : Int) := r62 (by omega) (by omega)
  have hm : n ≤ most := w_most (by omega)
  have hpl : p.length < 64 := by rw [hp.1]; omega
  have hd := dedup_len p
  rw [hp.1] at hd
  have hd' : (dedup p).length < 64 := by omega
  simp [hp.1, hpl, hd', show n ≤ 1000 by omega] at hR
  generalize hL : forLoop _ _ _ = L at hR
  have hL' : forLoop _ ((shownF p).map D.int) _ = L := hL
  have hsl := shownF_len p
  rw [hp.1] at hsl
  obtain ⟨ρ', rfl, s1, f, hs1, hf, z, y, rfl⟩ := for_pre (e := D.int) (fun done ρ => ∃ (s : W) (f : Int → Int), WOk s ∧ (∀ v ∈ done, (0 ≤ f v ∧ f v < (n : Int)) ∧ at0 p (f v) = v) ∧ ∃ z y, ρ = [.own (wD s), .ro (tI p), .ro (.bl b), z, .un, .own (.dct (done.map .int) (done.map fun v => .int (f v))), .ro (.int n), y]) hL' ⟨s, fun _ => 0, h, by simp, .un, .un, rfl⟩
    (fun done x rest hx ρ ⟨s, f, hs, hf, z, y, hρ⟩ => by
      subst hρ
      have nd := shownF_nodup p
      rw [hx] at nd
      have hxd : x ∉ done := fun z => (List.nodup_append.mp nd).2.2 _ z _ List.mem_cons_self rfl
      have hxm : x ∈ p := shownF_mem.mp (by rw [hx]; simp)
      have key : ∃ L, lcLoop (lcB (cfg P fl (k + 2)) (.var 7) (.nm 7) (some (.cmp .Eq (.ix (.var 1) (.var 7)) (.var 3)))) ((rng n).map .int) [.own (wD s), .ro (tI p), .ro (.bl b), .ro (.int x), .un, .own (.dct (done.map .int) (done.map fun v => .int (f v))), .ro (.int n), .un] = L := ⟨_, rfl⟩
      obtain ⟨L, hL⟩ := key
      have hL2 := hL
      obtain ⟨ys, hys, rfl⟩ := lc_encf (e := D.int) (en := D.int) (fun i => i) (fun i => decide (at0 p i = x)) hL fun i hi => by
        have hi := mem_rng.mp hi
        by_cases e : at0 p i = x <;> simp [at_i hp.1 hi, e]
      have hym : ∀ i, i ∈ ys ↔ (0 ≤ i ∧ i < (n : Int)) ∧ at0 p i = x := fun i => by
        rw [hys]
        simp [mem_rng]
      have hy0 : ys ≠ [] := by
        obtain ⟨i, hi, e⟩ := (mem_at hp.1).mp hxm
        exact List.ne_nil_of_mem ((hym i).mpr ⟨hi, e⟩)
      have hyl : ys.length ≤ 1000000 := by
        rw [hys, List.length_map]
        have := List.length_filter_le (fun i => decide (at0 p i = x)) (rng n)
        rw [rng_len] at this
        omega
      obtain ⟨u, s', hu, hs', e1, e2, e3⟩ := c_pick (P := P) (fl := fl) k (e := D.int) (xs := ys) hs hy0 hyl
      have hu := (hym u).mp hu
      have hdl : done.length < most := by
        have := congrArg List.length hx
        simp at this
        exact Nat.lt_of_le_of_lt (show done.length ≤ 8 by omega) (by decide : 8 < 16000000)
      have hke := kenc_int.ok x done
      have hk1 := kenc_int.putK (ks := done) hxd
      have hk2 : putVs (.int x) (.int u) (done.map .int) (done.map fun v => D.int (f v)) = _ := kenc_int.putV (ks := done) hxd
      refine ⟨_, ?_, s', fun v => if v = x then u else f v, hs', fun v hv => ?_, .ro (.int x), y, rfl⟩
      · have hc : (done.map fun v => D.int (if v = x then u else f v)) = done.map fun v => D.int (f v) := List.map_congr_left fun v hv => by rw [if_neg (fun z : v = x => hxd (z ▸ hv))]
        simp [hr, hm, hL2, e1, hke, hdl, hk1, hk2, hc]
      · rcases List.mem_append.mp hv with hv | hv
        · have : ¬ v = x := fun z => hxd (z ▸ hv)
          simp only [if_neg this]
          exact hf v hv
        · obtain rfl := List.mem_singleton.mp hv
          simp only [if_pos]
          exact hu)
  have snd := shownF_nodup p
  have hpm : ∀ v, v ∈ shownF p ↔ v ∈ p := fun v => shownF_mem
  generalize hS : shownF p = S at hR hf hsl snd hpm
  have hSm : S.length ≤ most := w_most (by omega)
  simp [hSm] at hR
  generalize hL : lcLoop _ _ _ = L at hR
  obtain ⟨ys, hys, rfl⟩ := lc_enc (e := D.int) (en := D.int) f hL fun v hv => by
    have g : getK (D.int v) (S.map D.int) (S.map fun v => D.int (f v)) = some (.int (f v)) := getK_map kenc_int (f := fun v => D.int (f v)) snd hv
    have o := kenc_int.ok v S
    simp [g, o]
  have hyl : ys.length = S.length := by rw [hys, List.length_map]
  simp [show ys.length ≤ 1000 by omega, hr, hm] at hR
  have hS0 : S ≠ [] := by
    intro z
    have : p ≠ [] := by intro z; rw [z] at hp; have := hp.1; simp at this; omega
    obtain ⟨x, hx⟩ := List.exists_mem_of_ne_nil _ this
    have := (hpm x).mpr hx
    rw [z] at this
    cases this
  have hpk : isort ys ≠ [] := by
    intro z
    have := congrArg List.length z
    rw [isort_len, hyl, List.length_nil] at this
    exact hS0 (List.length_eq_zero_iff.mp this)
  have hpb : ∀ x ∈ isort ys, 0 ≤ x ∧ x < (n : Int) := fun x hx => by
    rw [isort_mem, hys] at hx
    obtain ⟨v, hv, rfl⟩ := List.mem_map.mp hx
    exact (hf v hv).1
  have hpl' : (isort ys).length ≤ 1000000 := by rw [isort_len]; omega
  have hrn : (rng n) ≠ [] := by
    intro z
    have := congrArg List.length z
    rw [rng_len, List.length_nil] at this
    omega
  generalize hL : lcLoop _ _ _ = L at hR
  have fin : ∃ (q : List Int) (s' : W) (y3 : Sl), WOk s' ∧ q.length = n ∧ (∀ x ∈ q, 0 ≤ x ∧ x < (n : Int)) ∧ (∀ v ∈ p, at0 q v = f v) ∧ (b = true → ∀ x ∈ q, ∃ v ∈ S, x = f v) ∧ L = some (q.map .int, [.own (wD s'), .ro (tI p), .ro (.bl b), .un, .own (.lst ((isort ys).map .int)), .ro (.dcf (S.map .int) (S.map fun v => .int (f v))), .ro (.int n), y]) := by
    obtain ⟨q, ρ', rfl, ⟨s', hs', rfl⟩, hql, hQ⟩ := lc_drawx (e := D.int) (g := D.int) (fun ρ => ∃ s, WOk s ∧ ρ = [.own (wD s), .ro (tI p), .ro (.bl b), .un, .own (.lst ((isort ys).map .int)), .ro (.dcf (S.map .int) (S.map fun v => .int (f v))), .ro (.int n), y])
      (fun v x => (0 ≤ x ∧ x < (n : Int)) ∧ (v ∈ S → x = f v) ∧ (b = true → ∃ v ∈ S, x = f v)) hL ⟨s1, hs1, rfl⟩ (fun x hx ρ ⟨s, hs, hρ⟩ => by
        subst hρ
        have hx := mem_rng.mp hx
        have o := kenc_int.ok x S
        by_cases hin : x ∈ S
        · have g : getK (D.int x) (S.map D.int) (S.map fun v => D.int (f v)) = some (.int (f x)) := getK_map kenc_int (f := fun v => D.int (f v)) snd hin
          refine ⟨f x, _, ?_, ⟨s, hs, rfl⟩, (hf x hin).1, fun _ => rfl, fun _ => ⟨x, hin, rfl⟩⟩
          simp [g, o]
        · have g : getK (D.int x) (S.map D.int) (S.map fun v => D.int (f v)) = none := getK_no kenc_int hin
          cases b with
          | true =>
            obtain ⟨u, s', hu, hs', e1, e2, e3⟩ := c_pick (P := P) (fl := fl) k (e := D.int) (xs := isort ys) hs hpk hpl'
            have hu2 : ∃ v ∈ S, u = f v := by
              rw [isort_mem, hys] at hu
              obtain ⟨v, hv, e⟩ := List.mem_map.mp hu
              exact ⟨v, hv, e.symm⟩
            refine ⟨u, _, ?_, ⟨s', hs', rfl⟩, hpb u hu, fun z => absurd z hin, fun _ => hu2⟩
            simp [g, o, e1]
          | false =>
            obtain ⟨u, s', hu, hs', e1, e2, e3⟩ := c_pick (P := P) (fl := fl) k (e := D.int) (xs := rng n) hs hrn (by rw [rng_len]; omega)
            refine ⟨u, _, ?_, ⟨s', hs', rfl⟩, mem_rng.mp hu, fun z => absurd z hin, fun z => by cases z⟩
            simp [g, o, e1, hr, hm])
    obtain ⟨hq, hQ⟩ := drawx_rng hql hQ
    refine ⟨q, s', .un, hs', hq, fun x hx => ?_, fun v hv => (hQ v (hp.2.2.2 v hv)).2.1 ((hpm v).mpr hv), fun hb x hx => ?_, rfl⟩
    · obtain ⟨i, hi, rfl⟩ := (mem_at hq).mp hx
      exact (hQ i hi).1
    · obtain ⟨i, hi, rfl⟩ := (mem_at hq).mp hx
      exact (hQ i hi).2.2 hb
  obtain ⟨q, s2, y3, hs2, hq, hqb, hqf, hqv, rfl⟩ := fin
  have hpq : Pl n q := ⟨hq, h1, h8, hqb⟩
  simp [w_most (show q.length ≤ 16000000 by omega)] at hR
  refine ⟨q, s2, hpq, (undo_of hp hpq).mpr fun v hv => ?_, fun hb => (undo_of hpq hp).mpr fun w hw => ?_, hs2, hR.symm⟩
  · rw [hqf v hv]
    exact (hf v ((hpm v).mpr hv)).2
  · obtain ⟨v, hv, rfl⟩ := hqv hb w hw
    rw [(hf v hv).2, hqf v ((hpm v).mp hv)]
theorem c_undoingB [F_take P] [F_pick P] [F_undoingB P] (k : Nat) {n : Nat} {s : W} {p : List Int} {b : Bool} (h : WOk s) (hp : Pl n p) : ∃ q s', Pl n q ∧ thenF (thenF p q) p = p ∧ WOk s' ∧
    (cfg P fl (k + 3)).call "_law_undoing" [.own (wD s), .ro (tI p), .ro (.bl b)] = some (.val (tI q), [.own (wD s'), .ro (tI p), .ro (.bl b)]) := by
  obtain ⟨q, s', h1, h2, _, h3, h4⟩ := c_undoingB' (P := P) (fl := fl) k (b := b) h hp
  exact ⟨q, s', h1, h2, h3, h4⟩
end
end PX

/-! PX, part R: all plans. -/
namespace PX
open PV hiding tI
def allF (n : Nat) : Nat → List (List Int)
  | 0 => [[]]
  | m + 1 => (allF n m).flatMap fun p => (rng n).map fun v => p ++ [v]
theorem allF_mem {n : Nat} : ∀ {m : Nat} {p : List Int}, p ∈ allF n m ↔ p.length = m ∧ ∀ x ∈ p, 0 ≤ x ∧ x < (n : Int)
  | 0, p => by
    unfold allF
    rw [List.mem_singleton]
    constructor
    · rintro rfl
      exact ⟨rfl, by simp⟩
    · rintro ⟨h, _⟩
      exact List.length_eq_zero_iff.mp h
  | m + 1, p => by
    unfold allF
    rw [List.mem_flatMap]
    constructor
    · rintro ⟨q, hq, h⟩
      obtain ⟨v, hv, rfl⟩ := List.mem_map.mp h
      obtain ⟨h1, h2⟩ := allF_mem.mp hq
      refine ⟨by simp [h1], fun x hx => ?_⟩
      rcases List.mem_append.mp hx with hx | hx
      · exact h2 x hx
      · rw [List.mem_singleton.mp hx]
        exact mem_rng.mp hv
    · rintro ⟨h1, h2⟩
      have hp : p ≠ [] := by intro z; rw [z] at h1; simp at h1
      refine ⟨p.dropLast, allF_mem.mpr ⟨by rw [List.length_dropLast, h1]; rfl, fun x hx => h2 x ((List.dropLast_sublist p).subset hx)⟩, List.mem_map.mpr ⟨p.getLast hp, mem_rng.mpr (h2 _ (List.getLast_mem hp)), ?_⟩⟩
      exact List.dropLast_concat_getLast hp
theorem flat_const {α β : Type} {f : α → List β} {n : Nat} : ∀ {l : List α}, (∀ x ∈ l, (f x).length = n) → (l.flatMap f).length = l.length * n
  | [], _ => by simp
  | x :: l, h => by
    rw [List.flatMap_cons, List.length_append, h x List.mem_cons_self, flat_const fun y hy => h y (List.mem_cons_of_mem _ hy), List.length_cons, Nat.succ_mul, Nat.add_comm]
theorem allF_len (n : Nat) : ∀ m, (allF n m).length = n ^ m
  | 0 => rfl
  | m + 1 => by
    unfold allF
    rw [flat_const (n := n) fun x _ => by simp, allF_len n m, Nat.pow_succ]
theorem allF_pl {n : Nat} (h1 : 1 ≤ n) (h8 : n ≤ 8) {p : List Int} : p ∈ allF n n ↔ Pl n p := by
  rw [allF_mem]
  exact ⟨fun ⟨a, b⟩ => ⟨a, h1, h8, b⟩, fun ⟨a, _, _, b⟩ => ⟨a, b⟩⟩
theorem allF_le {n m : Nat} (h : n ≤ 5) (hm : m ≤ 5) : (allF n m).length ≤ 3125 := by
  rw [allF_len]
  calc n ^ m ≤ 5 ^ m := Nat.pow_le_pow_left h m
    _ ≤ 5 ^ 5 := Nat.pow_le_pow_right (by decide) hm
section
variable {P : Pg} {fl : Nat}
theorem c_allB [F_allB P] (k : Nat) {n : Nat} (h1 : 1 ≤ n) (h5 : n ≤ 5) : (cfg P fl (k + 1)).call "_law_all_plans" [.ro (.int n)] = some (.val (.lst ((allF n n).map tI)), [.ro (.int n)]) := by
  generalize hR : (cfg P fl (k + 1)).call _ _ = R
  rw [r_allB] at hR
  have hr : R62 (n : Int) := r62 (by omega) (by omega)
  have hm : n ≤ most := w_most (by omega)
  simp [hr, hm] at hR
  generalize hL : forLoop _ _ _ = L at hR
  obtain ⟨ρ', rfl, sl, hsl, z2, z3, z4, z5, rfl⟩ := for_at (e := D.int) (fun i ρ => ∃ sl, ((i = 0 ∧ sl = .own (.lst ((allF n i).map tI))) ∨ sl = .ro (.lst ((allF n i).map tI))) ∧ ∃ z2 z3 z4 z5, ρ = [.ro (.int n), sl, z2, z3, z4, z5]) hL
    ⟨_, .inl ⟨rfl, rfl⟩, .un, .un, .un, .un, rfl⟩ (fun i x hx ρ ⟨sl, hsl, z2, z3, z4, z5, hρ⟩ => by
      subst hρ
      have hi : i < n := by have := (List.getElem?_eq_some_iff.mp hx).1; simpa using this
      have key : ∃ L, forLoop (lopB (cfg P fl k) 1 (.nm 4) [.ex (.ext 3 (.lc (.bin .Add (.var 4) (.tup [.var 5])) (.nm 5) (.rng [.var 0]) none))]) ((allF n i).map tI) [.ro (.int n), .ro (.lst ((allF n i).map tI)), .ro (.int x), .own (.lst []), z4, z5] = L := ⟨_, rfl⟩
      obtain ⟨L, hL⟩ := key
      have hL2 := hL
      have hlen := allF_le (n := n) (m := i + 1) h5 (by omega)
      have hlen' : (allF n i).length * n ≤ 3125 := by
        rw [allF_len] at hlen ⊢
        rwa [Nat.pow_succ] at hlen
      obtain ⟨ρ', rfl, y4, y5, rfl⟩ := for_pre (e := tI) (fun done ρ => ∃ z4 z5, ρ = [.ro (.int n), .ro (.lst ((allF n i).map tI)), .ro (.int x), .own (.lst ((done.flatMap fun p => (rng n).map fun v => p ++ [v]).map tI)), z4, z5]) hL ⟨z4, z5, rfl⟩ (fun done p rest hx ρ ⟨z4, z5, hρ⟩ => by
        subst hρ
        have hp := (allF_mem.mp (pre_mem hx)).1
        have key : ∃ L, lcLoop (lcB (cfg P fl k) (.bin .Add (.var 4) (.tup [.var 5])) (.nm 5) none) ((rng n).map .int) [.ro (.int n), .ro (.lst ((allF n i).map tI)), .ro (.int x), .own (.lst ((done.flatMap fun p => (rng n).map fun v => p ++ [v]).map tI)), .ro (tI p), .un] = L := ⟨_, rfl⟩
        obtain ⟨L, hL⟩ := key
        have hL2 := hL
        obtain ⟨ys, hys, rfl⟩ := lc_enc (e := D.int) (en := tI) (fun v => p ++ [v]) hL fun v hv => by
          simp [w_most (show p.length + 1 ≤ 16000000 by omega), w_most (show 1 ≤ 16000000 by decide)]
        have hdl : (done.flatMap fun p => (rng n).map fun v => p ++ [v]).length + n ≤ 3125 := by
          rw [flat_const (n := n) fun x _ => by simp]
          have h1 := pre_len hx
          have h2 : (done.length + 1) * n ≤ (allF n i).length * n := Nat.mul_le_mul_right _ h1
          rw [Nat.add_mul] at h2
          omega
        have hyl : ys.length = n := by rw [hys, List.length_map, rng_len]
        refine ⟨_, ?_, .ro (tI p), z5, rfl⟩
        rw [List.flatMap_append, List.map_append]
        generalize hW : (done.flatMap fun p => (rng n).map fun v => p ++ [v]) = W at hL2 hdl ⊢
        simp [hr, hm, hL2, w_most (show W.length + n ≤ 16000000 by omega), hys])
      refine ⟨_, ?_, .ro (.lst ((allF n (i + 1)).map tI)), .inr rfl, .ro (.int x), .ro (.lst ((allF n (i + 1)).map tI)), y4, y5, rfl⟩
      rcases hsl with ⟨_, rfl⟩ | rfl <;> simp [hL2, allF])
  rw [rng_length] at hsl
  rcases hsl with ⟨h0, _⟩ | rfl
  · omega
  · simp at hR
    exact hR.symm
end
end PX

/-! PX, part S: the mathematics of plans that undo. -/
namespace PX
open PV hiding tI
theorem nodup1 {α : Type} (x : α) : [x].Nodup := List.nodup_cons.mpr ⟨List.not_mem_nil, List.nodup_nil⟩
variable {n : Nat} {p q o r : List Int}
theorem und_rest (h : Pl n p) (h' : Pl n q) (u : thenF (thenF p q) p = p) : thenF (thenF p q) (thenF p q) = thenF p q := by
  have hl := (thenF_pl h h').1
  refine ext_at (n := n) (by rw [thenF_len, thenF_len]; exact h.1) hl fun i hi => ?_
  have hpi : at0 p i ∈ p := (mem_at h.1).mpr ⟨i, hi, rfl⟩
  rw [thenF_at hl hi, thenF_at h.1 hi, thenF_at h.1 (at0_pl h' (at0_pl h hi)), (undo_of h h').mp u _ hpi]
theorem und_rest' (h : Pl n p) (h' : Pl n q) (u : thenF (thenF p q) p = p) : thenF (thenF q p) (thenF q p) = thenF q p := by
  have hl := (thenF_pl h' h).1
  refine ext_at (n := n) (by rw [thenF_len, thenF_len]; exact h'.1) hl fun i hi => ?_
  have hqi := at0_pl h' hi
  have hpi : at0 p (at0 q i) ∈ p := (mem_at h.1).mpr ⟨_, hqi, rfl⟩
  rw [thenF_at hl hi, thenF_at h'.1 hi, thenF_at h'.1 (at0_pl h hqi), (undo_of h h').mp u _ hpi]
theorem und_len (h : Pl n p) (h' : Pl n q) (u : thenF (thenF p q) p = p) : (shownF p).length ≤ (shownF q).length := by
  have hu := (undo_of h h').mp u
  have nd : ((shownF p).map (at0 q)).Nodup := nodup_map (shownF_nodup p) fun x hx y hy e => by
    have := congrArg (at0 p) e
    rwa [hu x (shownF_mem.mp hx), hu y (shownF_mem.mp hy)] at this
  have := nodup_sub (l' := shownF q) nd fun x hx => by
    obtain ⟨v, hv, rfl⟩ := List.mem_map.mp hx
    exact shownF_mem.mpr ((mem_at h'.1).mpr ⟨v, h.2.2.2 v (shownF_mem.mp hv), rfl⟩)
  rwa [List.length_map] at this
theorem und_all (h : Pl n p) (h' : Pl n q) : ((shownF p).all fun v => decide (at0 p (at0 q v) = v)) = decide (thenF (thenF p q) p = p) := by
  rw [Bool.eq_iff_iff, List.all_eq_true, decide_eq_true_iff, undo_of h h']
  constructor
  · intro e v hv
    exact of_decide_eq_true (e v (shownF_mem.mpr hv))
  · intro e v hv
    exact decide_eq_true (e v (shownF_mem.mp hv))
theorem showF_od (h : Od n o) {v : Int} (hv : 0 ≤ v ∧ v < n) : showF o v = [inv0 o v] := by
  have nd : (showF o v).Nodup := nodup_of_lt (showF_sorted o v)
  have hp : (showF o v).Perm [inv0 o v] := perm_of_mem nd (nodup1 _) fun x => by
    rw [showF_mem h.1.1, List.mem_singleton]
    constructor
    · rintro ⟨hx, e⟩
      rw [← e, h.inv_at hx]
    · rintro rfl
      exact ⟨h.inv_lt hv, h.at_inv hv⟩
  exact List.perm_singleton.mp hp
theorem shownF_od (h : Od n o) : (shownF o).length = n := by
  have : (shownF o).Perm o := perm_of_mem (shownF_nodup o) h.2 fun x => shownF_mem
  rw [this.length_eq, h.1.1]
theorem lprod_ones : ∀ (ls : List (List Int)) (a : Int), (∀ l ∈ ls, l.length = 1) → ls.foldl (fun a l => a * (l.length : Int)) a = a
  | [], _, _ => rfl
  | l :: ls, a, h => by
    rw [List.foldl_cons, h l List.mem_cons_self, lprod_ones ls _ fun x hx => h x (List.mem_cons_of_mem _ hx)]
    simp
theorem lprod_od (h : Od n o) : lprod (lotsF o) = 1 := lprod_ones _ _ fun l hl => by
  obtain ⟨v, hv, rfl⟩ := lotsF_mem hl
  rw [showF_od h (h.1.2.2.2 v hv)]
  rfl
theorem leastF_od (h : Od n o) : leastF n o = backF n o := List.map_congr_left fun v hv => by
  rw [showF_od h (mem_rng.mp hv)]
  rfl
theorem und_led (h : Pl n p) (h' : Pl n q) (ho : Od n o) (u : thenF (thenF p q) p = p) : thenF (thenF (thenF p o) (thenF (backF n o) q)) (thenF p o) = thenF p o := by
  have hb := (backF_od ho).1
  have h1 := thenF_pl h ho.1
  have h2 := thenF_pl hb h'
  refine ext_at (n := n) (by rw [thenF_len, thenF_len]; exact h1.1) h1.1 fun i hi => ?_
  have a1 := at0_pl h hi
  have hpi : at0 p i ∈ p := (mem_at h.1).mpr ⟨i, hi, rfl⟩
  rw [thenF_at (thenF_pl h1 h2).1 hi, thenF_at h1.1 hi, thenF_at h.1 hi, thenF_at hb.1 (ho.range a1), backF_at (ho.range a1), ho.inv_at a1, thenF_at h.1 (at0_pl h' a1), (undo_of h h').mp u _ hpi]
theorem und_led' (h : Pl n p) (h' : Pl n q) (ho : Od n o) (u : thenF (thenF p q) p = p) : thenF (thenF (thenF o p) (thenF q (backF n o))) (thenF o p) = thenF o p := by
  have hb := (backF_od ho).1
  have h1 := thenF_pl ho.1 h
  have h2 := thenF_pl h' hb
  refine ext_at (n := n) (by rw [thenF_len, thenF_len]; exact h1.1) h1.1 fun i hi => ?_
  have a0 := ho.range hi
  have a1 := at0_pl h a0
  have a2 := at0_pl h' a1
  have hpi : at0 p (at0 o i) ∈ p := (mem_at h.1).mpr ⟨_, a0, rfl⟩
  rw [thenF_at (thenF_pl h1 h2).1 hi, thenF_at h1.1 hi, thenF_at ho.1.1 hi, thenF_at h'.1 a1, backF_at a2, thenF_at ho.1.1 (ho.inv_lt a2), ho.at_inv a2, (undo_of h h').mp u _ hpi]
/-! ### plans that are constant -/
theorem rep_pl {c : Int} (h1 : 1 ≤ n) (h8 : n ≤ 8) (hc : 0 ≤ c ∧ c < n) : Pl n (List.replicate n c) := ⟨List.length_replicate, h1, h8, fun x hx => by rw [List.eq_of_mem_replicate hx]; exact hc⟩
theorem rep_at {c i : Int} (hi : 0 ≤ i ∧ i < n) : at0 (List.replicate n c) i = c := by
  unfold at0
  rw [List.getElem?_replicate, if_pos (by omega)]
  rfl
theorem rep_shown {c : Int} (h1 : 1 ≤ n) : shownF (List.replicate n c) = [c] := by
  refine List.perm_singleton.mp (perm_of_mem (shownF_nodup _) (nodup1 _) fun x => ?_)
  rw [shownF_mem, List.mem_singleton, List.mem_replicate]
  exact ⟨fun h => h.2, fun h => ⟨by omega, h⟩⟩
theorem rep_lots {c : Int} (h1 : 1 ≤ n) : lprod (lotsF (List.replicate n c)) = n := by
  unfold lotsF
  rw [rep_shown h1]
  have e : tsort ([c].map (showF (List.replicate n c))) = [showF (List.replicate n c) c] := tsort_of_sorted (List.pairwise_singleton _ _)
  rw [e]
  have e2 : showF (List.replicate n c) c = rng n := by
    rw [showF_eq List.length_replicate]
    exact List.filter_eq_self.mpr fun i hi => decide_eq_true (rep_at (mem_rng.mp hi))
  rw [e2]
  simp [lprod]
theorem rep_und {c : Int} (h : Pl n (List.replicate n c)) (h' : Pl n q) : thenF (thenF (List.replicate n c) q) (List.replicate n c) = List.replicate n c := by
  refine (undo_of h h').mpr fun v hv => ?_
  have hv' := List.eq_of_mem_replicate hv
  rw [rep_at (at0_pl h' (h.2.2.2 v hv)), hv']
theorem und_rep {c : Int} (h : Pl n p) (h' : Pl n (List.replicate n c)) : decide (thenF (thenF p (List.replicate n c)) p = p) = decide ((dedup p).length = 1) := by
  rw [Bool.eq_iff_iff, decide_eq_true_iff, decide_eq_true_iff, undo_of h h']
  have hc : 0 ≤ c ∧ c < (n : Int) := h'.2.2.2 c (List.mem_replicate.mpr ⟨by have := h.2.1; omega, rfl⟩)
  have hp0 : at0 p c ∈ p := (mem_at h.1).mpr ⟨c, hc, rfl⟩
  constructor
  · intro e
    have : (dedup p).Perm [at0 p c] := perm_of_mem (dedup_nodup p) (nodup1 _) fun x => by
      rw [dedup_mem, List.mem_singleton]
      constructor
      · intro hx
        have := e x hx
        rw [rep_at (h.2.2.2 x hx)] at this
        exact this.symm
      · rintro rfl
        exact hp0
    rw [this.length_eq]
    rfl
  · intro e v hv
    obtain ⟨x, hx⟩ := List.length_eq_one_iff.mp e
    have hall : ∀ y ∈ p, y = x := fun y hy => by
      have := (dedup_mem p).mpr hy
      rw [hx] at this
      exact List.mem_singleton.mp this
    rw [rep_at (h.2.2.2 v hv), hall v hv]
    exact hall _ hp0
theorem rest_und (h : Pl n p) (r : thenF p p = p) : thenF (thenF p p) p = p := by rw [r, r]
end PX

/-! PX, part T: plans that undo each other, counted for four villages and fewer. -/
namespace PX
def getN : List Nat → Nat → Nat
  | [], _ => 0
  | x :: _, 0 => x
  | _ :: l, i + 1 => getN l i
def allN (n : Nat) : Nat → List (List Nat)
  | 0 => [[]]
  | m + 1 => (allN n m).flatMap fun p => (List.range n).map fun v => p ++ [v]
def undN (p q : List Nat) : Bool := p.all fun a => Nat.beq (getN p (getN q a)) a
def bothN (p q : List Nat) : Bool := undN p q && undN q p
def cntN (p : List Nat) (v : Nat) : Nat := (p.filter fun a => Nat.beq a v).length
def prodN (n : Nat) (p : List Nat) : Nat := (List.range n).foldl (fun a v => match cntN p v with | 0 => a | c + 1 => a * (c + 1)) 1
def sizeN (n : Nat) (p : List Nat) : Nat := ((List.range n).filter fun v => !Nat.beq (cntN p v) 0).length
def goodN (n : Nat) (p : List Nat) : Bool := Nat.beq ((allN n n).filter (bothN p)).length (prodN n p * sizeN n p ^ (n - sizeN n p))
theorem good4 : ((allN 4 4).all (goodN 4)) = true := by decide +kernel
theorem good3 : ((allN 3 3).all (goodN 3)) = true := by decide +kernel
theorem good2 : ((allN 2 2).all (goodN 2)) = true := by decide +kernel
theorem good1 : ((allN 1 1).all (goodN 1)) = true := by decide +kernel
def emb (p : List Nat) : List Int := p.map fun (i : Nat) => (i : Int)
theorem allF_N (n : Nat) : ∀ m, allF n m = (allN n m).map emb
  | 0 => rfl
  | m + 1 => by
    unfold allF allN
    rw [allF_N n m, List.flatMap_map, List.map_flatMap]
    congr 1
    funext p
    unfold rng
    rw [List.map_map, List.map_map]
    refine List.map_congr_left fun v _ => ?_
    simp [emb]
theorem at0_emb : ∀ (p : List Nat) (v : Nat), at0 (emb p) (v : Int) = ((getN p v : Nat) : Int)
  | [], v => by simp [emb, at0, getN]
  | x :: l, 0 => rfl
  | x :: l, v + 1 => by
    have := at0_emb l v
    unfold at0 at this ⊢
    simpa [emb, getN] using this
theorem emb_mem {p : List Nat} {v : Nat} : (v : Int) ∈ emb p ↔ v ∈ p := by
  unfold emb
  rw [List.mem_map]
  constructor
  · rintro ⟨u, hu, e⟩
    rwa [show v = u by omega]
  · intro h
    exact ⟨v, h, rfl⟩
theorem undN_emb {n : Nat} {p q : List Nat} (hp : Pl n (emb p)) (hq : Pl n (emb q)) : undN p q = decide (thenF (thenF (emb p) (emb q)) (emb p) = emb p) := by
  rw [Bool.eq_iff_iff, decide_eq_true_iff, undo_of hp hq]
  unfold undN
  rw [List.all_eq_true]
  constructor
  · intro h v hv
    obtain ⟨a, ha, rfl⟩ := List.mem_map.mp hv
    have := Nat.eq_of_beq_eq_true (h a ha)
    rw [at0_emb, at0_emb, this]
  · intro h a ha
    have := h (a : Int) (emb_mem.mpr ha)
    rw [at0_emb, at0_emb] at this
    have e : getN p (getN q a) = a := by omega
    rw [e]
    exact Nat.beq_refl a
theorem cntN_pos {p : List Nat} {v : Nat} : cntN p v ≠ 0 ↔ v ∈ p := by
  unfold cntN
  rw [Ne, List.length_eq_zero_iff, List.filter_eq_nil_iff]
  constructor
  · intro h
    refine Decidable.byContradiction fun hv => h fun a ha hb => hv ?_
    rwa [← Nat.eq_of_beq_eq_true hb]
  · intro hv h
    exact h v hv (Nat.beq_refl v)
theorem size_emb {n : Nat} {p : List Nat} (hp : Pl n (emb p)) : (shownF (emb p)).length = sizeN n p := by
  rw [← shown_rng hp (fun v => decide (v ∈ emb p)) fun v => decide_eq_true_iff]
  unfold rng sizeN
  rw [List.filter_map, List.length_map]
  congr 1
  refine List.filter_congr fun v _ => ?_
  show decide ((v : Int) ∈ emb p) = _
  rw [Bool.eq_iff_iff, decide_eq_true_iff, emb_mem, ← cntN_pos]
  generalize cntN p v = c
  cases c with
  | zero => simp
  | succ c =>
    simp
    rfl
theorem showF_cnt (p : List Nat) (v : Nat) : (showF (emb p) (v : Int)).length = cntN p v := by
  unfold showF
  rw [List.length_map]
  have e : ((emb p).zipIdx.filter fun q => decide (q.1 = (v : Int))).length = (((emb p).zipIdx.map Prod.fst).filter fun x => decide (x = (v : Int))).length := by
    rw [List.filter_map, List.length_map]
    rfl
  rw [e, List.zipIdx_map_fst]
  unfold emb cntN
  rw [List.filter_map, List.length_map]
  congr 1
  refine List.filter_congr fun a _ => ?_
  show decide ((a : Int) = (v : Int)) = Nat.beq a v
  rw [Bool.eq_iff_iff, decide_eq_true_iff]
  constructor
  · intro h
    rw [show a = v by omega]
    exact Nat.beq_refl v
  · intro h
    rw [Nat.eq_of_beq_eq_true h]
theorem lprod_perm {l l' : List (List Int)} (h : l.Perm l') : ∀ a : Int, l.foldl (fun a l => a * (l.length : Int)) a = l'.foldl (fun a l => a * (l.length : Int)) a := by
  induction h with
  | nil => exact fun _ => rfl
  | cons x _ ih => exact fun a => ih _
  | swap x y l =>
    intro a
    simp only [List.foldl_cons]
    rw [Int.mul_assoc, Int.mul_comm (y.length : Int), ← Int.mul_assoc]
  | trans _ _ ih1 ih2 => exact fun a => (ih1 a).trans (ih2 a)
theorem prod_emb {n : Nat} {p : List Nat} (hp : Pl n (emb p)) : lprod (lotsF (emb p)) = ((prodN n p : Nat) : Int) := by
  unfold lprod lotsF
  rw [lprod_perm (tsort_perm _), List.foldl_map, ← shown_rng hp (fun v => decide (v ∈ emb p)) fun v => decide_eq_true_iff, List.foldl_filter]
  unfold rng prodN
  rw [List.foldl_map]
  have key : ∀ (l : List Nat) (a : Nat), l.foldl (fun (x : Int) (y : Nat) => if decide ((y : Int) ∈ emb p) = true then x * ((showF (emb p) (y : Int)).length : Int) else x) (a : Int) = ((l.foldl (fun a v => match cntN p v with | 0 => a | c + 1 => a * (c + 1)) a : Nat) : Int) := by
    intro l
    induction l with
    | nil => exact fun _ => rfl
    | cons v l ih =>
      intro a
      rw [List.foldl_cons, List.foldl_cons, showF_cnt]
      have e : (if decide ((v : Int) ∈ emb p) = true then (a : Int) * ((cntN p v : Nat) : Int) else (a : Int)) = ((match cntN p v with | 0 => a | c + 1 => a * (c + 1) : Nat) : Int) := by
        have hm := (emb_mem (p := p) (v := v)).trans cntN_pos.symm
        generalize cntN p v = c at hm
        cases c with
        | zero =>
          rw [if_neg]
          rw [decide_eq_true_iff, hm]
          exact fun z => z rfl
        | succ c =>
          rw [if_pos]
          · rw [Int.natCast_mul]
          · rw [decide_eq_true_iff, hm]
            exact Nat.succ_ne_zero c
      rw [e]
      exact ih _
  exact key (List.range n) 1
theorem both_count {n : Nat} {p : List Int} (h4 : n ≤ 4) (hp : Pl n p) : ((((allF n n).filter fun q => decide (thenF (thenF p q) p = p) && decide (thenF (thenF q p) q = q)).length : Nat) : Int) = lprod (lotsF p) * ((shownF p).length : Int) ^ (n - (shownF p).length) := by
  have h1 := hp.2.1
  have h8 := hp.2.2.1
  have hm := (allF_pl h1 h8).mpr hp
  rw [allF_N] at hm
  obtain ⟨p, hm2, rfl⟩ := List.mem_map.mp hm
  have good : goodN n p = true := by
    have c4 : n = 1 ∨ n = 2 ∨ n = 3 ∨ n = 4 := by omega
    rcases c4 with rfl | rfl | rfl | rfl
    · exact List.all_eq_true.mp good1 p hm2
    · exact List.all_eq_true.mp good2 p hm2
    · exact List.all_eq_true.mp good3 p hm2
    · exact List.all_eq_true.mp good4 p hm2
  have e1 : ((allF n n).filter fun q => decide (thenF (thenF (emb p) q) (emb p) = emb p) && decide (thenF (thenF q (emb p)) q = q)).length = ((allN n n).filter (bothN p)).length := by
    rw [allF_N, List.filter_map, List.length_map]
    congr 1
    refine List.filter_congr fun q hq => ?_
    have hq : Pl n (emb q) := (allF_pl h1 h8).mp (by rw [allF_N]; exact List.mem_map.mpr ⟨q, hq, rfl⟩)
    show (decide (thenF (thenF (emb p) (emb q)) (emb p) = emb p) && decide (thenF (thenF (emb q) (emb p)) (emb q) = emb q)) = bothN p q
    unfold bothN
    rw [undN_emb hp hq, undN_emb hq hp]
  rw [e1, Nat.eq_of_beq_eq_true good, prod_emb hp, size_emb hp, Int.natCast_mul, Int.natCast_pow]
/-! ### lots and shown villages of plans that undo both ways -/
theorem lots_ker {n : Nat} {p r : List Int} (hp : Pl n p) (hr : Pl n r) (h : ∀ i j : Int, (0 ≤ i ∧ i < n) → (0 ≤ j ∧ j < n) → (at0 p i = at0 p j ↔ at0 r i = at0 r j)) : lotsF p = lotsF r := by
  have sh : ∀ i : Int, (0 ≤ i ∧ i < n) → showF p (at0 p i) = showF r (at0 r i) := fun i hi => by
    rw [showF_eq hp.1, showF_eq hr.1]
    refine List.filter_congr fun j hj => ?_
    rw [decide_eq_decide]
    exact h j i (mem_rng.mp hj) hi
  have mem : ∀ {p : List Int}, Pl n p → ∀ x, x ∈ (shownF p).map (showF p) ↔ ∃ i : Int, (0 ≤ i ∧ i < n) ∧ x = showF p (at0 p i) := fun {p} hp x => by
    rw [List.mem_map]
    constructor
    · rintro ⟨v, hv, rfl⟩
      obtain ⟨i, hi, rfl⟩ := (mem_at hp.1).mp (shownF_mem.mp hv)
      exact ⟨i, hi, rfl⟩
    · rintro ⟨i, hi, rfl⟩
      exact ⟨at0 p i, shownF_mem.mpr ((mem_at hp.1).mpr ⟨i, hi, rfl⟩), rfl⟩
  have nd : ∀ {p : List Int}, Pl n p → ((shownF p).map (showF p)).Nodup := fun {p} hp => by
    refine List.Pairwise.map _ (fun a b (hab : a ≠ b ∧ a ∈ p) e => ?_) (List.Pairwise.imp_of_mem (fun ha _ hab => ⟨hab, shownF_mem.mp ha⟩) (shownF_nodup p))
    obtain ⟨i, hi, rfl⟩ := (mem_at hp.1).mp hab.2
    have : i ∈ showF p (at0 p i) := (showF_mem hp.1).mpr ⟨hi, rfl⟩
    rw [e] at this
    exact hab.1 ((showF_mem hp.1).mp this).2
  unfold lotsF
  refine tsort_congr (perm_of_mem (nd hp) (nd hr) fun x => ?_)
  rw [mem hp, mem hr]
  constructor
  · rintro ⟨i, hi, rfl⟩
    exact ⟨i, hi, sh i hi⟩
  · rintro ⟨i, hi, rfl⟩
    exact ⟨i, hi, (sh i hi).symm⟩
theorem und_lots {n : Nat} {p q : List Int} (hp : Pl n p) (hq : Pl n q) (u : thenF (thenF p q) p = p) : lotsF (thenF p q) = lotsF p := by
  refine lots_ker (thenF_pl hp hq) hp fun i j hi hj => ?_
  have hu := (undo_of hp hq).mp u
  rw [thenF_at hp.1 hi, thenF_at hp.1 hj]
  constructor
  · intro e
    have := congrArg (at0 p) e
    rwa [hu _ ((mem_at hp.1).mpr ⟨i, hi, rfl⟩), hu _ ((mem_at hp.1).mpr ⟨j, hj, rfl⟩)] at this
  · intro e
    rw [e]
theorem und_shown {n : Nat} {p q : List Int} (hp : Pl n p) (hq : Pl n q) (u : thenF (thenF q p) q = q) : shownF (thenF p q) = shownF q := shownF_ext fun x => by
  have hu := (undo_of hq hp).mp u
  rw [mem_at (thenF_pl hp hq).1]
  constructor
  · rintro ⟨i, hi, rfl⟩
    rw [thenF_at hp.1 hi]
    exact (mem_at hq.1).mpr ⟨_, at0_pl hp hi, rfl⟩
  · intro hx
    have hb := hq.2.2.2 x hx
    refine ⟨x, hb, ?_⟩
    rw [thenF_at hp.1 hb]
    exact hu x hx
theorem und_made {n : Nat} {p u : List Int} (hp : Pl n p) (hu : Pl n u) (h : thenF (thenF p u) p = p) : thenF (thenF p (thenF (thenF u p) u)) p = p ∧ thenF (thenF (thenF (thenF u p) u) p) (thenF (thenF u p) u) = thenF (thenF u p) u := by
  have e := (undo_of hp hu).mp h
  have h1 := thenF_pl hu hp
  have h2 := thenF_pl h1 hu
  have at2 : ∀ i : Int, (0 ≤ i ∧ i < n) → at0 (thenF (thenF u p) u) i = at0 u (at0 p (at0 u i)) := fun i hi => by
    rw [thenF_at h1.1 hi, thenF_at hu.1 hi]
  constructor
  · refine (undo_of hp h2).mpr fun v hv => ?_
    rw [at2 v (hp.2.2.2 v hv), e v hv, e v hv]
  · refine (undo_of h2 hp).mpr fun w hw => ?_
    obtain ⟨i, hi, rfl⟩ := (mem_at h2.1).mp hw
    have b1 := at0_pl hu hi
    have m1 : at0 p (at0 u i) ∈ p := (mem_at hp.1).mpr ⟨_, b1, rfl⟩
    rw [at2 i hi, e _ m1, at2 _ (at0_pl hp b1), e _ m1]
end PX

/-! PX, part U: lots and counts as the laws k21 to k27 reckon them. -/
namespace PX
open PV hiding tI
class F_lotsB (P : Pg) : Prop where h_lotsB : P.fn "_law_lots" = some ⟨["plan"], 4, [.asg 1 (.lst []), .lop (.nm 2) (.ovr (.blt .sorted [.blt .set [.var 0]])) [.ex (.app 1 (.blt .tuple [.lc (.var 3) (.nm 3) (.rng [.blt .len [.var 0]]) (some (.cmp .Eq (.ix (.var 0) (.var 3)) (.var 2)))]))], .ret (.blt .sorted [.var 1])]⟩
theorem r_lotsB {P : Pg} [F_lotsB P] {fl k : Nat} {as : List Sl} : (cfg P fl (k + 1)).call "_law_lots" as = run (cfg P fl k) ⟨["plan"], 4, [.asg 1 (.lst []), .lop (.nm 2) (.ovr (.blt .sorted [.blt .set [.var 0]])) [.ex (.app 1 (.blt .tuple [.lc (.var 3) (.nm 3) (.rng [.blt .len [.var 0]]) (some (.cmp .Eq (.ix (.var 0) (.var 3)) (.var 2)))]))], .ret (.blt .sorted [.var 1])]⟩ as := call_fn F_lotsB.h_lotsB
class F_ucountB (P : Pg) : Prop where h_ucountB : P.fn "_law_undo_count" = some ⟨["plan"], 4, [.asg 1 (.con (.int 1)), .lop (.nm 2) (.ovr (.call "_law_lots" [.var 0] [] [0])) [.asg 1 (.bin .Mult (.var 1) (.blt .len [.var 2]))], .lop (.nm 3) (.rng [.bin .Sub (.blt .len [.var 0]) (.blt .len [.blt .set [.var 0]])]) [.asg 1 (.bin .Mult (.var 1) (.blt .len [.var 0]))], .ret (.var 1)]⟩
theorem r_ucountB {P : Pg} [F_ucountB P] {fl k : Nat} {as : List Sl} : (cfg P fl (k + 1)).call "_law_undo_count" as = run (cfg P fl k) ⟨["plan"], 4, [.asg 1 (.con (.int 1)), .lop (.nm 2) (.ovr (.call "_law_lots" [.var 0] [] [0])) [.asg 1 (.bin .Mult (.var 1) (.blt .len [.var 2]))], .lop (.nm 3) (.rng [.bin .Sub (.blt .len [.var 0]) (.blt .len [.blt .set [.var 0]])]) [.asg 1 (.bin .Mult (.var 1) (.blt .len [.var 0]))], .ret (.var 1)]⟩ as := call_fn F_ucountB.h_ucountB
class F_bcountB (P : Pg) : Prop where h_bcountB : P.fn "_law_both_count" = some ⟨["plan"], 4, [.asg 1 (.con (.int 1)), .lop (.nm 2) (.ovr (.call "_law_lots" [.var 0] [] [0])) [.asg 1 (.bin .Mult (.var 1) (.blt .len [.var 2]))], .lop (.nm 3) (.rng [.bin .Sub (.blt .len [.var 0]) (.blt .len [.blt .set [.var 0]])]) [.asg 1 (.bin .Mult (.var 1) (.blt .len [.blt .set [.var 0]]))], .ret (.var 1)]⟩
theorem r_bcountB {P : Pg} [F_bcountB P] {fl k : Nat} {as : List Sl} : (cfg P fl (k + 1)).call "_law_both_count" as = run (cfg P fl k) ⟨["plan"], 4, [.asg 1 (.con (.int 1)), .lop (.nm 2) (.ovr (.call "_law_lots" [.var 0] [] [0])) [.asg 1 (.bin .Mult (.var 1) (.blt .len [.var 2]))], .lop (.nm 3) (.rng [.bin .Sub (.blt .len [.var 0]) (.blt .len [.blt .set [.var 0]])]) [.asg 1 (.bin .Mult (.var 1) (.blt .len [.blt .set [.var 0]]))], .ret (.var 1)]⟩ as := call_fn F_bcountB.h_bcountB
section
variable {P : Pg} {fl : Nat}
theorem c_lotsB [F_lotsB P] (k : Nat) {n : Nat} {p : List Int} (hp : Pl n p) : (cfg P fl (k + 1)).call "_law_lots" [.ro (tI p)] = some (.fr (.lst ((lotsF p).map tI)), [.ro (tI p)]) := by
  generalize hR : (cfg P fl (k + 1)).call _ _ = R
  rw [r_lotsB] at hR
  have h8 := hp.2.2.1
  have hr : R62 (n : Int) := r62 (by omega) (by omega)
  have hm : n ≤ most := w_most (by omega)
  have hd := dedup_len p
  rw [hp.1] at hd
  simp [hp.1, show n ≤ 1000 by omega, show (dedup p).length < 64 by omega] at hR
  generalize hL : forLoop _ _ _ = L at hR
  have hL' : forLoop _ ((shownF p).map D.int) _ = L := hL
  have hsl := shownF_len p
  rw [hp.1] at hsl
  obtain ⟨ρ', rfl, ls, hls, z, y, rfl⟩ := for_pre (e := D.int) (fun done ρ => ∃ ls : List (List Int), ls = done.map (showF p) ∧ ∃ z y, ρ = [.ro (tI p), .own (.lst (ls.map tI)), z, y]) hL' ⟨[], rfl, .un, .un, rfl⟩ (fun done x rest hx ρ ⟨ls, hls, z, y, hρ⟩ => by
    subst hρ
    have hdl := pre_len hx
    have key : ∃ L, lcLoop (lcB (cfg P fl k) (.var 3) (.nm 3) (some (.cmp .Eq (.ix (.var 0) (.var 3)) (.var 2)))) ((rng n).map .int) [.ro (tI p), .own (.lst (ls.map tI)), .ro (.int x), .un] = L := ⟨_, rfl⟩
    obtain ⟨L, hL⟩ := key
    have hL2 := hL
    obtain ⟨ys, hys, rfl⟩ := lc_encf (e := D.int) (en := D.int) (fun i => i) (fun i => decide (at0 p i = x)) hL fun i hi => by
      have hi := mem_rng.mp hi
      by_cases e : at0 p i = x <;> simp [at_i hp.1 hi, e]
    rw [List.map_id'] at hys
    have hys2 : ys = showF p x := by rw [hys, showF_eq hp.1]
    have hyl : ys.length ≤ n := by rw [hys2]; exact showF_len hp.1 x
    have m1 : ls.length < most := Nat.lt_of_le_of_lt (show ls.length ≤ 8 by rw [hls, List.length_map]; omega) (by decide : 8 < 16000000)
    refine ⟨_, ?_, ls ++ [ys], by rw [hls, hys2, List.map_append]; rfl, .ro (.int x), y, rfl⟩
    simp [hp.1, hr, hm, hL2, w_most (show ys.length ≤ 16000000 by omega), m1])
  have hne : ∀ x ∈ ls, x ≠ [] := fun x hx => by
    rw [hls] at hx
    obtain ⟨v, hv, rfl⟩ := List.mem_map.mp hx
    exact show_mem (shownF_mem.mp hv)
  simp [b_sort_tI hne] at hR
  rw [← hR, hls]
  rfl
theorem c_ucountB [F_lotsB P] [F_ucountB P] (k : Nat) {n : Nat} {p : List Int} (hp : Pl n p) : (cfg P fl (k + 2)).call "_law_undo_count" [.ro (tI p)] = some (.val (.int (lprod (lotsF p) * (n : Int) ^ (n - (shownF p).length))), [.ro (tI p)]) := by
  generalize hR : (cfg P fl (k + 2)).call _ _ = R
  rw [r_ucountB] at hR
  have h8 := hp.2.2.1
  have hd : (dedup p).length = (shownF p).length := (isort_len _).symm
  have hsl := shownF_len p
  rw [hp.1] at hsl
  simp [c_lotsB (P := P) (fl := fl) k hp] at hR
  generalize hL : forLoop _ _ _ = L at hR
  obtain ⟨ρ', rfl, z, rfl⟩ := for_nx (e := PX.tI) (fun done ρ => ∃ z, ρ = [.ro (tI p), .ro (.int (lprod done)), z, .un]) hL ⟨.un, rfl⟩ (fun x hx done ρ ⟨z, hρ⟩ => by
    subst hρ
    refine ⟨_, ?_, .ro (tI x), rfl⟩
    obtain ⟨v, hv, rfl⟩ := lotsF_mem hx
    have := showF_len hp.1 v
    simp [r64 (j := ((showF p v).length : Int)) (by omega) (by omega), lprod_snoc])
  have ed : (n : Int) - ((shownF p).length : Int) = ((n - (shownF p).length : Nat) : Int) := by omega
  simp [hp.1, show n ≤ 1000 by omega, hd, ed, r62 (j := ((n - (shownF p).length : Nat) : Int)) (by omega) (by omega), w_most (show (shownF p).length ≤ 16000000 by omega), w_most (show n - (shownF p).length ≤ 16000000 by omega)] at hR
  generalize hL : forLoop _ _ _ = L at hR
  obtain ⟨ρ', rfl, y, rfl⟩ := for_at (e := D.int) (fun i ρ => ∃ y, ρ = [.ro (tI p), .ro (.int (lprod (lotsF p) * (n : Int) ^ i)), z, y]) hL ⟨.un, by simp⟩ (fun i x hx ρ ⟨y, hρ⟩ => by
    subst hρ
    refine ⟨_, ?_, .ro (.int x), rfl⟩
    simp [hp.1, r64 (j := (n : Int)) (by omega) (by omega), Int.pow_succ, Int.mul_assoc])
  rw [rng_length] at hR
  simp at hR
  exact hR.symm
theorem c_bcountB [F_lotsB P] [F_bcountB P] (k : Nat) {n : Nat} {p : List Int} (hp : Pl n p) : (cfg P fl (k + 2)).call "_law_both_count" [.ro (tI p)] = some (.val (.int (lprod (lotsF p) * ((shownF p).length : Int) ^ (n - (shownF p).length))), [.ro (tI p)]) := by
  generalize hR : (cfg P fl (k + 2)).call _ _ = R
  rw [r_bcountB] at hR
  have h8 := hp.2.2.1
  have hd : (dedup p).length = (shownF p).length := (isort_len _).symm
  have hsl := shownF_len p
  rw [hp.1] at hsl
  simp [c_lotsB (P := P) (fl := fl) k hp] at hR
  generalize hL : forLoop _ _ _ = L at hR
  obtain ⟨ρ', rfl, z, rfl⟩ := for_nx (e := PX.tI) (fun done ρ => ∃ z, ρ = [.ro (tI p), .ro (.int (lprod done)), z, .un]) hL ⟨.un, rfl⟩ (fun x hx done ρ ⟨z, hρ⟩ => by
    subst hρ
    refine ⟨_, ?_, .ro (tI x), rfl⟩
    obtain ⟨v, hv, rfl⟩ := lotsF_mem hx
    have := showF_len hp.1 v
    simp [r64 (j := ((showF p v).length : Int)) (by omega) (by omega), lprod_snoc])
  have ed : (n : Int) - ((shownF p).length : Int) = ((n - (shownF p).length : Nat) : Int) := by omega
  simp [hp.1, show n ≤ 1000 by omega, hd, ed, r62 (j := ((n - (shownF p).length : Nat) : Int)) (by omega) (by omega), w_most (show (shownF p).length ≤ 16000000 by omega), w_most (show n - (shownF p).length ≤ 16000000 by omega)] at hR
  generalize hL : forLoop _ _ _ = L at hR
  obtain ⟨ρ', rfl, y, rfl⟩ := for_at (e := D.int) (fun i ρ => ∃ y, ρ = [.ro (tI p), .ro (.int (lprod (lotsF p) * ((shownF p).length : Int) ^ i)), z, y]) hL ⟨.un, by simp⟩ (fun i x hx ρ ⟨y, hρ⟩ => by
    subst hρ
    refine ⟨_, ?_, .ro (.int x), rfl⟩
    simp [hp.1, show n ≤ 1000 by omega, hd, w_most (show (shownF p).length ≤ 16000000 by omega), r64 (j := ((shownF p).length : Int)) (by omega) (by omega), Int.pow_succ, Int.mul_assoc])
  rw [rng_length] at hR
  simp at hR
  exact hR.symm
end
end PX

namespace K23
open PySem PySem.Spec PyProof.Rows L2 PV PX
def topS (i : Nat) : Stmt := PySem.Challenge.pw_fingerposts_k23_whole_undoing_both_ways.main.body.getD i (.Pass ⟨0, 0, 0, 0⟩)
def d4 : Df := ⟨"is_whole", ["value"], ["value"], topS 4⟩
def d5 : Df := ⟨"is_between", ["value", "low", "high"], ["value", "low", "high"], topS 5⟩
def d6 : Df := ⟨"is_tuple_of", ["value", "many"], ["value", "many"], topS 6⟩
def d7 : Df := ⟨"are_wholes", ["value", "many"], ["value", "many", "each"], topS 7⟩
def d8 : Df := ⟨"power_of", ["number", "many"], ["number", "many", "found", "_"], topS 8⟩
def d11 : Df := ⟨"is_village_number", ["value"], ["value"], topS 11⟩
def d12 : Df := ⟨"is_village", ["many", "value"], ["many", "value"], topS 12⟩
def d13 : Df := ⟨"is_plan_of", ["many", "value"], ["many", "value", "village"], topS 13⟩
def d14 : Df := ⟨"is_planned", ["value"], ["value"], topS 14⟩
def d15 : Df := ⟨"behind_of", ["plan", "other"], ["plan", "other", "village"], topS 15⟩
def d16 : Df := ⟨"shown_of", ["plan"], ["plan"], topS 16⟩
def d17 : Df := ⟨"showing", ["plan", "village"], ["plan", "village", "each", "shown"], topS 17⟩
def d18 : Df := ⟨"lots_of", ["plan"], ["plan", "village"], topS 18⟩
def d19 : Df := ⟨"is_at_rest_by", ["plan"], ["plan"], topS 19⟩
def d21 : Df := ⟨"check_plan", ["plan"], ["plan"], topS 21⟩
def d22 : Df := ⟨"check_plan_of", ["many", "plan"], ["many", "plan"], topS 22⟩
def d23 : Df := ⟨"check_two_plans", ["plan", "other"], ["plan", "other"], topS 23⟩
def d25 : Df := ⟨"does_undo_by", ["plan", "other"], ["plan", "other"], topS 25⟩
def d26 : Df := ⟨"lot_product", ["plan"], ["plan", "found", "lot"], topS 26⟩
def d27 : Df := ⟨"undo_count_by", ["plan"], ["plan", "left"], topS 27⟩
def d28 : Df := ⟨"both_ways_count_by", ["plan"], ["plan", "size"], topS 28⟩
def d30 : Df := ⟨"does_undo", ["plan", "other"], ["plan", "other"], topS 30⟩
def d31 : Df := ⟨"undo_count", ["plan"], ["plan"], topS 31⟩
def d32 : Df := ⟨"both_ways_count", ["plan"], ["plan"], topS 32⟩
def d34 : Df := ⟨"behind", ["plan", "other"], ["plan", "other"], topS 34⟩
def d35 : Df := ⟨"shown", ["plan"], ["plan"], topS 35⟩
def d36 : Df := ⟨"lots", ["plan"], ["plan"], topS 36⟩
def d37 : Df := ⟨"is_at_rest", ["plan"], ["plan"], topS 37⟩
def d39 : Df := ⟨"_law_well", ["script", "turn"], ["script", "turn", "own", "stir", "cell"], topS 39⟩
def d40 : Df := ⟨"_law_take", ["well", "many"], ["well", "many", "by", "figure"], topS 40⟩
def d41 : Df := ⟨"_law_pick", ["well", "some"], ["well", "some"], topS 41⟩
def d42 : Df := ⟨"_law_same", ["told", "due"], ["told", "due", "at"], topS 42⟩
def d43 : Df := ⟨"_law_shuffled", ["well", "some"], ["well", "some", "left", "made"], topS 43⟩
def d44 : Df := ⟨"_law_plan", ["well", "number"], ["well", "number", "way", "order", "few", "village", "made", "start", "many", "at"], topS 44⟩
def d45 : Df := ⟨"_law_behind", ["one", "two"], ["one", "two", "village"], topS 45⟩
def d46 : Df := ⟨"_law_all_plans", ["number"], ["number", "made", "turn", "longer", "plan", "village"], topS 46⟩
def d47 : Df := ⟨"_law_lots", ["plan"], ["plan", "made", "village", "other"], topS 47⟩
def d48 : Df := ⟨"_law_undoes", ["plan", "other"], ["plan", "other"], topS 48⟩
def d49 : Df := ⟨"_law_undo_count", ["plan"], ["plan", "made", "lot", "turn"], topS 49⟩
def d50 : Df := ⟨"_law_both_count", ["plan"], ["plan", "made", "lot", "turn"], topS 50⟩
def d51 : Df := ⟨"_law_undoing", ["well", "plan", "both"], ["well", "plan", "both", "village", "picked", "made", "number", "other"], topS 51⟩
def d52 : Df := ⟨"_law_two_right", ["well", "plan"], ["well", "plan", "made", "other", "any_one", "one", "two"], topS 52⟩
def d53 : Df := ⟨"_law_counted", ["plan"], ["plan", "both", "other"], topS 53⟩
def d54 : Df := ⟨"_law_round", ["well"], ["well", "turn"], topS 54⟩
def d55 : Df := ⟨"law", ["script"], ["script", "turn"], topS 55⟩
def ds : List Df := [d4, d5, d6, d7, d8, d11, d12, d13, d14, d15, d16, d17, d18, d19, d21, d22, d23, d25, d26, d27, d28, d30, d31, d32, d34, d35, d36, d37, d39, d40, d41, d42, d43, d44, d45, d46, d47, d48, d49, d50, d51, d52, d53, d54, d55]
def bl : List Str := ["len", "tuple", "list", "sorted", "sum", "min", "max", "abs", "int", "divmod", "all", "set", "isinstance", "bool", "str", "range", "enumerate"]
def gl : List (Str × PV.D) := [("MOST", .int 8)]
def pg : Pg := pgOf ds bl (fun x => gl.lookup x) 40 40
theorem okB : ds.all dfB = true := by decide +kernel
instance : GMost pg := ⟨by kernel_rfl⟩
instance : F_is_whole pg := ⟨by kernel_rfl⟩
instance : F_is_between pg := ⟨by kernel_rfl⟩
instance : F_is_tuple_of pg := ⟨by kernel_rfl⟩
instance : F_are_wholes pg := ⟨by kernel_rfl⟩
instance : F_power_of pg := ⟨by kernel_rfl⟩
instance : F_is_village_number pg := ⟨by kernel_rfl⟩
instance : F_is_village pg := ⟨by kernel_rfl⟩
instance : F_is_plan_of pg := ⟨by kernel_rfl⟩
instance : F_is_planned pg := ⟨by kernel_rfl⟩
instance : F_behind_of pg := ⟨by kernel_rfl⟩
instance : F_shown_of pg := ⟨by kernel_rfl⟩
instance : F_showing pg := ⟨by kernel_rfl⟩
instance : F_lots_of pg := ⟨by kernel_rfl⟩
instance : F_is_at_rest_by pg := ⟨by kernel_rfl⟩
instance : F_check_plan pg := ⟨by kernel_rfl⟩
instance : F_check_plan_of pg := ⟨by kernel_rfl⟩
instance : F_check_two_plans pg := ⟨by kernel_rfl⟩
instance : F_does_undo_by pg := ⟨by kernel_rfl⟩
instance : F_lot_product pg := ⟨by kernel_rfl⟩
instance : F_undo_count_by pg := ⟨by kernel_rfl⟩
instance : F_both_ways_count_by pg := ⟨by kernel_rfl⟩
instance : F_does_undo pg := ⟨by kernel_rfl⟩
instance : F_undo_count pg := ⟨by kernel_rfl⟩
instance : F_both_ways_count pg := ⟨by kernel_rfl⟩
instance : F_behind pg := ⟨by kernel_rfl⟩
instance : F_shown pg := ⟨by kernel_rfl⟩
instance : F_lots pg := ⟨by kernel_rfl⟩
instance : F_is_at_rest pg := ⟨by kernel_rfl⟩
instance : F_wellB pg := ⟨by kernel_rfl⟩
instance : F_take pg := ⟨by kernel_rfl⟩
instance : F_pick pg := ⟨by kernel_rfl⟩
instance : F_sameB pg := ⟨by kernel_rfl⟩
instance : F_shuffledB pg := ⟨by kernel_rfl⟩
instance : F_planB pg := ⟨by kernel_rfl⟩
instance : F_thenB pg := ⟨by kernel_rfl⟩
instance : F_allB pg := ⟨by kernel_rfl⟩
instance : F_lotsB pg := ⟨by kernel_rfl⟩
instance : F_undoesB pg := ⟨by kernel_rfl⟩
instance : F_ucountB pg := ⟨by kernel_rfl⟩
instance : F_bcountB pg := ⟨by kernel_rfl⟩
instance : F_undoingB pg := ⟨by kernel_rfl⟩
theorem r__law_two_right {fl k : Nat} {as : List Sl} : (cfg pg fl (k + 1)).call "_law_two_right" as = run (cfg pg fl k) ⟨["well", "plan"], 7, [.par [3, 4] [.call "_law_undoing" [.var 0, .var 1, .con (.bl true)] [] [0, 1, 2], .call "_law_undoing" [.var 0, .var 1, .con (.bl false)] [] [0, 1, 2]], .ite (.not (.tru (.call "_law_same" [.tup [.call "does_undo" [.var 1, .var 3] [] [0, 1], .call "does_undo" [.var 3, .var 1] [] [0, 1], .call "does_undo" [.var 1, .var 4] [] [0, 1]], .tup [.con (.bl true), .con (.bl true), .con (.bl true)]] [] [0, 1]))) [.ret (.con (.bl false))] [], .ite (.cmp .NotEq (.blt .len [.call "shown" [.var 3] [] [0]]) (.blt .len [.call "shown" [.var 1] [] [0]])) [.ret (.con (.bl false))] [], .par [5, 6] [.call "behind" [.var 1, .var 3] [] [0, 1], .call "behind" [.var 3, .var 1] [] [0, 1]], .ite (.not (.tru (.call "_law_same" [.tup [.call "is_at_rest" [.var 5] [] [0], .call "is_at_rest" [.var 6] [] [0], .call "lots" [.var 5] [] [0], .call "shown" [.var 5] [] [0]], .tup [.con (.bl true), .con (.bl true), .call "lots" [.var 1] [] [0], .call "shown" [.var 3] [] [0]]] [] [0, 1]))) [.ret (.con (.bl false))] [], .ite (.not (.tru (.call "_law_same" [.tup [.call "lots" [.var 6] [] [0], .call "shown" [.var 6] [] [0]], .tup [.call "lots" [.var 3] [] [0], .call "shown" [.var 1] [] [0]]] [] [0, 1]))) [.ret (.con (.bl false))] [], .asg 2 (.call "behind" [.call "behind" [.var 4, .var 1] [] [0, 1], .var 4] [] [0, 1]), .ret (.bop true (.cmp .Is (.call "does_undo" [.var 1, .var 2] [] [0, 1]) (.con (.bl true))) (.bop true (.cmp .Is (.call "does_undo" [.var 2, .var 1] [] [0, 1]) (.con (.bl true))) (.cmp .Eq (.call "does_undo" [.var 4, .var 1] [] [0, 1]) (.cmp .Eq (.var 2) (.var 4)))))]⟩ as := call_fn (by kernel_rfl)
theorem r__law_counted {fl k : Nat} {as : List Sl} : (cfg pg fl (k + 1)).call "_law_counted" as = run (cfg pg fl k) ⟨["plan"], 3, [.asg 1 (.lc (.var 2) (.nm 2) (.ovr (.call "_law_all_plans" [.blt .len [.var 0]] [] [0])) (some (.bop true (.tru (.call "_law_undoes" [.var 0, .var 2] [] [0, 1])) (.tru (.call "_law_undoes" [.var 2, .var 0] [] [0, 1]))))), .ite (.bop false (.cmp .NotEq (.blt .len [.var 1]) (.call "both_ways_count" [.var 0] [] [0])) (.bop false (.cmp .NotEq (.call "both_ways_count" [.var 0] [] [0]) (.call "_law_both_count" [.var 0] [] [0])) (.cmp .NotEq (.call "undo_count" [.var 0] [] [0]) (.call "_law_undo_count" [.var 0] [] [0])))) [.ret (.con (.bl false))] [], .ret (.blt .all [.lc (.bop true (.call "does_undo" [.var 0, .var 2] [] [0, 1]) (.call "does_undo" [.var 2, .var 0] [] [0, 1])) (.nm 2) (.ovr (.slc (.var 1) none (some (.con (.int 30))))) none])]⟩ as := call_fn (by kernel_rfl)
theorem r__law_round {fl k : Nat} {as : List Sl} : (cfg pg fl (k + 1)).call "_law_round" as = run (cfg pg fl k) ⟨["well"], 2, [.lop (.nm 1) (.rng [.con (.int 14)]) [.ite (.not (.tru (.call "_law_two_right" [.var 0, .call "_law_plan" [.var 0, .bin .Add (.con (.int 1)) (.call "_law_take" [.var 0, .con (.int 8)] [] [0, 1])] [] [0, 1]] [] [0, 1]))) [.ret (.con (.bl false))] []], .ret (.bop true (.call "_law_counted" [.call "_law_plan" [.var 0, .con (.int 4)] [] [0, 1]] [] [0]) (.call "_law_counted" [.call "_law_plan" [.var 0, .bin .Add (.con (.int 1)) (.call "_law_take" [.var 0, .con (.int 4)] [] [0, 1])] [] [0, 1]] [] [0]))]⟩ as := call_fn (by kernel_rfl)
theorem r_law {fl k : Nat} {as : List Sl} : (cfg pg fl (k + 1)).call "law" as = run (cfg pg fl k) ⟨["script"], 2, [.ret (.blt .all [.lc (.call "_law_round" [.call "_law_well" [.var 0, .var 1] [] [0, 1]] [] [0]) (.nm 1) (.rng [.blt .max [.con (.int 2), .blt .min [.blt .len [.var 0], .con (.int 3)]]]) none])]⟩ as := call_fn (by kernel_rfl)
instance : GPlan pg := {}
end K23

namespace K23
open PV hiding tI
open PX
variable {fl : Nat}
theorem s_bh (k : Nat) {n : Nat} {p q : List Int} (h : Pl n p) (h' : Pl n q) : (cfg pg fl (k + 9)).call "behind" [.ro (tI p), .ro (tI q)] = some (.val (tI (thenF p q)), [.ro (tI p), .ro (tI q)]) := c_behind (k + 1) h h'
theorem s_un (k : Nat) {n : Nat} {p q : List Int} (h : Pl n p) (h' : Pl n q) : (cfg pg fl (k + 9)).call "does_undo" [.ro (tI p), .ro (tI q)] = some (.val (.bl (decide (thenF (thenF p q) p = p))), [.ro (tI p), .ro (tI q)]) := c_does_undo (k + 1) h h'
theorem s_sh (k : Nat) {n : Nat} {p : List Int} (h : Pl n p) : (cfg pg fl (k + 9)).call "shown" [.ro (tI p)] = some (.val (tI (shownF p)), [.ro (tI p)]) := c_shown (k + 2) h
theorem s_lt (k : Nat) {n : Nat} {p : List Int} (h : Pl n p) : (cfg pg fl (k + 9)).call "lots" [.ro (tI p)] = some (.val (.tup ((lotsF p).map tI)), [.ro (tI p)]) := c_lots (k + 2) h
theorem s_re (k : Nat) {n : Nat} {p : List Int} (h : Pl n p) : (cfg pg fl (k + 9)).call "is_at_rest" [.ro (tI p)] = some (.val (.bl (decide (thenF p p = p))), [.ro (tI p)]) := c_is_at_rest (k + 2) h
theorem s_sm (k : Nat) {xs : List D} (h : Vt 3 (.tup xs)) : (cfg pg fl (k + 9)).call "_law_same" [.ro (.tup xs), .ro (.tup xs)] = some (.val (.bl true), [.ro (.tup xs), .ro (.tup xs)]) := c_sameB 3 (k + 5) h
theorem v_lots {n : Nat} {p : List Int} (h : Pl n p) : Vt 2 (.tup ((lotsF p).map tI)) := by
  have hs := shownF_len p
  rw [h.1] at hs
  have h8 := h.2.2.1
  refine Vt.tup (by rw [List.length_map, lotsF_len]; omega) fun x hx => ?_
  obtain ⟨l, hl, rfl⟩ := List.mem_map.mp hx
  obtain ⟨v, hv, rfl⟩ := lotsF_mem hl
  exact Vt.tI 0 (by have := showF_len h.1 v; omega)
theorem v_shown {n : Nat} {p : List Int} (h : Pl n p) : Vt 2 (tI (shownF p)) := by
  have hs := shownF_len p
  rw [h.1] at hs
  have h8 := h.2.2.1
  exact Vt.tI 1 (by omega)
theorem c_two (k : Nat) {s : W} {n : Nat} {p : List Int} (h : WOk s) (hp : Pl n p) : ∃ s', WOk s' ∧ (cfg pg fl (k + 10)).call "_law_two_right" [.own (wD s), .ro (tI p)] = some (.val (.bl true), [.own (wD s'), .ro (tI p)]) := by
  generalize hR : (cfg pg fl (k + 10)).call _ _ = R
  rw [r__law_two_right] at hR
  have h8 := hp.2.2.1
  obtain ⟨q, s1, hq, u1, u2, hs1, eq⟩ := c_undoingB' (P := pg) (fl := fl) (k + 6) (b := true) h hp
  have u2 := u2 rfl
  obtain ⟨u, s2, hu, u3, hs2, eu⟩ := c_undoingB (P := pg) (fl := fl) (k + 6) (b := false) hs1 hp
  have a1 := s_un (fl := fl) k hp hq
  rw [decide_eq_true u1] at a1
  have a2 := s_un (fl := fl) k hq hp
  rw [decide_eq_true u2] at a2
  have a3 := s_un (fl := fl) k hp hu
  rw [decide_eq_true u3] at a3
  have m3 : (3 : Nat) ≤ most := w_most (by decide)
  have m4 : (4 : Nat) ≤ most := w_most (by decide)
  have m2 : (2 : Nat) ≤ most := w_most (by decide)
  have em := s_sm (fl := fl) k (xs := [.bl true, .bl true, .bl true]) (Vt.tup (by simp) fun x hx => by
    simp at hx
    subst hx
    exact Vt.bl _ _)
  have hlen : (shownF q).length = (shownF p).length := Nat.le_antisymm (und_len hq hp u2) (und_len hp hq u1)
  have hone := thenF_pl hp hq
  have htwo := thenF_pl hq hp
  have b1 := s_re (fl := fl) k hone
  rw [decide_eq_true (und_rest hp hq u1)] at b1
  have b2 := s_re (fl := fl) k htwo
  rw [decide_eq_true (und_rest' hp hq u1)] at b2
  have l1 := s_lt (fl := fl) k hone
  rw [und_lots hp hq u1] at l1
  have l2 := s_lt (fl := fl) k htwo
  rw [und_lots hq hp u2] at l2
  have k1 := s_sh (fl := fl) k hone
  rw [und_shown hp hq u2] at k1
  have k2 := s_sh (fl := fl) k htwo
  rw [und_shown hq hp u1] at k2
  have em2 := s_sm (fl := fl) k (xs := [.bl true, .bl true, .tup ((lotsF p).map tI), tI (shownF q)]) (Vt.tup (by simp) fun x hx => by
    simp only [List.mem_cons, List.not_mem_nil, or_false] at hx
    rcases hx with rfl | rfl | rfl | rfl
    · exact Vt.bl _ _
    · exact Vt.bl _ _
    · exact v_lots hp
    · exact v_shown hq)
  have em3 := s_sm (fl := fl) k (xs := [.tup ((lotsF q).map tI), tI (shownF p)]) (Vt.tup (by simp) fun x hx => by
    simp only [List.mem_cons, List.not_mem_nil, or_false] at hx
    rcases hx with rfl | rfl
    · exact v_lots hq
    · exact v_shown hp)
  have g1 := thenF_pl hu hp
  have g2 := thenF_pl g1 hu
  obtain ⟨w1, w2⟩ := und_made hp hu u3
  have c1 := s_un (fl := fl) k hp g2
  rw [decide_eq_true w1] at c1
  have c2 := s_un (fl := fl) k g2 hp
  rw [decide_eq_true w2] at c2
  have hsp := shownF_len p
  rw [hp.1] at hsp
  simp [eq, eu, a1, a2, a3, m2, m3, m4, em, s_sh k hq, s_sh k hp, w_most (show (shownF p).length ≤ 16000000 by omega), hlen, s_bh k hp hq, s_bh k hq hp, b1, b2, l1, l2, k1, k2, s_lt k hp, s_lt k hq, em2, em3, s_bh k hu hp, s_bh k g1 hu, c1, c2, s_un k hu hp] at hR
  exact ⟨s2, hs2, hR.symm⟩
theorem c_counted (k : Nat) {n : Nat} {p : List Int} (hp : Pl n p) (h4 : n ≤ 4) : (cfg pg fl (k + 10)).call "_law_counted" [.ro (tI p)] = some (.val (.bl true), [.ro (tI p)]) := by
  generalize hR : (cfg pg fl (k + 10)).call _ _ = R
  rw [r__law_counted] at hR
  have h1 := hp.2.1
  have h8 := hp.2.2.1
  have ea : (cfg pg fl (k + 9)).call "_law_all_plans" [.ro (.int n)] = _ := c_allB (k + 8) h1 (show n ≤ 5 by omega)
  have hle := allF_le (n := n) (m := n) (by omega) (by omega)
  have su : ∀ {p q : List Int}, Pl n p → Pl n q → (cfg pg fl (k + 9)).call "_law_undoes" [.ro (tI p), .ro (tI q)] = some (.val (.bl (decide (thenF (thenF p q) p = p))), [.ro (tI p), .ro (tI q)]) := fun hp hq => c_undoesB (k + 7) hp hq
  simp [hp.1, ea, w_most (show (allF n n).length ≤ 16000000 by omega)] at hR
  generalize hL : lcLoop _ _ _ = L at hR
  obtain ⟨ys, hys, rfl⟩ := lc_encf (e := tI) (en := tI) (fun q => q) (fun q => decide (thenF (thenF p q) p = p) && decide (thenF (thenF q p) q = q)) hL fun q hq => by
    have hq := (allF_pl h1 h8).mp hq
    by_cases e1 : thenF (thenF p q) p = p <;> by_cases e2 : thenF (thenF q p) q = q <;> simp [su hp hq, su hq hp, e1, e2]
  rw [List.map_id'] at hys
  have hc := both_count h4 hp
  rw [← hys] at hc
  have hyl : ys.length ≤ 3125 := by
    rw [hys]
    exact Nat.le_trans (List.length_filter_le _ _) hle
  have hym : ∀ q ∈ ys, Pl n q ∧ thenF (thenF p q) p = p ∧ thenF (thenF q p) q = q := fun q hq => by
    rw [hys, List.mem_filter, Bool.and_eq_true, decide_eq_true_iff, decide_eq_true_iff] at hq
    exact ⟨(allF_pl h1 h8).mp hq.1, hq.2.1, hq.2.2⟩
  have ew : (cfg pg fl (k + 9)).call "both_ways_count" [.ro (tI p)] = _ := c_both_ways_count (k + 2) hp
  have eu : (cfg pg fl (k + 9)).call "undo_count" [.ro (tI p)] = _ := c_undo_count (k + 2) hp
  have fw : (cfg pg fl (k + 9)).call "_law_both_count" [.ro (tI p)] = _ := c_bcountB (k + 7) hp
  have fu : (cfg pg fl (k + 9)).call "_law_undo_count" [.ro (tI p)] = _ := c_ucountB (k + 7) hp
  rw [← hc] at ew fw
  simp [w_most (show ys.length ≤ 16000000 by omega), ew, fw, eu, fu, ← List.map_take, w_most (show min 30 ys.length ≤ 16000000 by omega)] at hR
  have hzm : ∀ q ∈ List.take 30 ys, q ∈ ys := fun q hq => List.mem_of_mem_take hq
  generalize List.take 30 ys = zs at hR hzm
  generalize hL : lcLoop _ _ _ = L at hR
  obtain rfl := lc_one (e := tI) (g := fun _ => .bl true) hL fun q hq => by
    obtain ⟨m1, m2, m3⟩ := hym q (hzm q hq)
    have a1 := s_un (fl := fl) k hp m1
    rw [decide_eq_true m2] at a1
    have a2 := s_un (fl := fl) k m1 hp
    rw [decide_eq_true m3] at a2
    simp [a1, a2]
  simp at hR
  exact hR.symm
theorem c_round (hf : 100 ≤ fl) (k : Nat) {s : W} (h : WOk s) : ∃ sl, (cfg pg fl (k + 11)).call "_law_round" [.own (wD s)] = some (.val (.bl true), [sl]) := by
  generalize hR : (cfg pg fl (k + 11)).call _ _ = R
  rw [r__law_round] at hR
  have r14 : R62 14 := r62 (by decide) (by decide)
  have m14 : 14 ≤ most := w_most (by decide)
  simp [r14, m14] at hR
  generalize hL : forLoop _ _ _ = L at hR
  obtain ⟨ρ', rfl, s1, hs1, z, rfl⟩ := for_nx (e := D.int) (fun _ ρ => ∃ s, WOk s ∧ ∃ z, ρ = [.own (wD s), z]) hL ⟨s, h, .un, rfl⟩ (fun x hx done ρ ⟨s, hs, z, hρ⟩ => by
    subst hρ
    obtain ⟨r, s3, r0, r1, hs3, er⟩ := c_take (P := pg) (fl := fl) (k + 9) (n := 8) hs (by decide) (by decide)
    obtain ⟨m, hm, m1, m8⟩ : ∃ m : Nat, 1 + r = (m : Int) ∧ 1 ≤ m ∧ m ≤ 8 := ⟨(1 + r).toNat, by omega, by omega, by omega⟩
    obtain ⟨p, s4, hp, hs4, ep⟩ := c_planB (P := pg) (fl := fl) hf (k + 7) hs3 m1 m8
    obtain ⟨s5, hs5, e5⟩ := c_two (fl := fl) k hs4 hp
    refine ⟨_, ?_, s5, hs5, .ro (.int x), rfl⟩
    simp [er, hm, ep, e5])
  obtain ⟨p, s2, hp, hs2, ep⟩ := c_planB (P := pg) (fl := fl) hf (k + 7) (n := 4) hs1 (by decide) (by decide)
  have ep' : (cfg pg fl (k + 10)).call "_law_plan" [.own (wD s1), .ro (.int 4)] = some (.val (tI p), [.own (wD s2), .ro (.int 4)]) := ep
  obtain ⟨r, s3, r0, r1, hs3, er⟩ := c_take (P := pg) (fl := fl) (k + 9) (n := 4) hs2 (by decide) (by decide)
  obtain ⟨m, hm, m1, m4⟩ : ∃ m : Nat, 1 + r = (m : Int) ∧ 1 ≤ m ∧ m ≤ 4 := ⟨(1 + r).toNat, by omega, by omega, by omega⟩
  obtain ⟨q, s4, hq, hs4, eq⟩ := c_planB (P := pg) (fl := fl) hf (k + 7) hs3 m1 (show m ≤ 8 by omega)
  simp [ep', er, hm, eq, c_counted (fl := fl) k hp (Nat.le_refl 4), c_counted (fl := fl) k hq m4] at hR
  exact ⟨_, hR.symm⟩
theorem run_law (ns : List Int) (h : ns.length ≤ 63) : ∃ fs, (cfg pg 100 40).call "law" [.ro (.scr ns)] = some (.val (.bl true), fs) := by
  show ∃ fs, (cfg pg 100 (28 + 12)).call "law" [.ro (.scr ns)] = some (.val (.bl true), fs)
  generalize 28 = k
  generalize hR : (cfg pg 100 (k + 12)).call _ _ = R
  rw [r_law] at hR
  obtain ⟨m, hm, er⟩ : ∃ m : Nat, m ≤ 3 ∧ ∀ x, evi (cfg pg 100 (k + 11)) (.rng [.blt .max [.con (.int 2), .blt .min [.blt .len [.var 0], .con (.int 3)]]]) [.ro (.scr ns), x] = some ((rng m).map .int, [.ro (.scr ns), x]) := by
    have h2 : R62 2 := r62 (by decide) (by decide)
    by_cases q3 : (3 : Int) < ns.length
    · exact ⟨3, by decide, fun x => by simp [q3, show R62 3 from r62 (by decide) (by decide), rng]⟩
    · by_cases q2 : (2 : Int) < ns.length
      · exact ⟨ns.length, by omega, fun x => by simp [q3, q2, r62 (j := (ns.length : Int)) (by omega) (by omega)]⟩
      · exact ⟨2, by decide, fun x => by simp [q3, q2, h2, rng]⟩
  simp [↓er, w_most (show m ≤ 16000000 by omega)] at hR
  generalize hL : lcLoop _ _ _ = L at hR
  obtain rfl := lc_one (e := D.int) (g := fun _ => .bl true) hL (fun x hx => by
    obtain ⟨t, rfl, ht⟩ : ∃ t : Nat, x = (t : Int) ∧ t ≤ 9 := by
      have := mem_rng.mp hx
      exact ⟨x.toNat, by omega, by omega⟩
    obtain ⟨s, hs, es⟩ := c_wellB (P := pg) (fl := 100) (k + 10) (t := t) h (by omega)
    obtain ⟨sl, et⟩ := c_round (fl := 100) (by decide) k hs
    simp [es, et])
  simp at hR
  exact ⟨_, hR.symm⟩
end K23

open PySem PySem.W PyProof.Rows
set_option maxHeartbeats 0 in
theorem PySem.Challenge.cw_fingerposts_k23_whole_undoing_both_ways_holds : PySem.Challenge.rw_fingerposts_k23_whole_undoing_both_ways.Holds := by
  w_on; o_law; k_head; (case hw => w_witness2)
  k_fill
  refine L2.walk_of (l := PySem.Challenge.rw_fingerposts_k23_whole_undoing_both_ways) (n := 63) (k := 40) (x := "script") (CX := fun _ => L2.CX0) (sp := fun w => PV.spF _ w K23.pg 100 40 "law") rfl (by decide) rfl ⟨rfl, by decide, by decide⟩ (fun w h Y => PySem.W.kIn_of Y) ?F
    (fun w H a ns hl hO hS => PV.spF_start hO hS (K23.run_law ns hl)) (fun _ _ _ _ _ h => h)
  case F =>
    intro w mg fa h KX G hmg
    refine' PV.fin_mk (n := 40) (m := 40) (fuel := 100) (ds := K23.ds) (bl := K23.bl) (law := "law") (x := "script") (glb := fun x => K23.gl.lookup x) ?hD K23.okB ?hbl ?hgl rfl hmg
    case hD =>
      refine' PV.cons_all (PV.dfOk_mk (x := "is_whole") (st := K23.topS 4) KX G ?a ?l ?c ?k) ?t; (case a => k_is); (case l => k_is); (case c => k_is); (case k => k_is)
      case t =>
      refine' PV.cons_all (PV.dfOk_mk (x := "is_between") (st := K23.topS 5) KX G ?a ?l ?c ?k) ?t; (case a => k_is); (case l => k_is); (case c => k_is); (case k => k_is)
      case t =>
      refine' PV.cons_all (PV.dfOk_mk (x := "is_tuple_of") (st := K23.topS 6) KX G ?a ?l ?c ?k) ?t; (case a => k_is); (case l => k_is); (case c => k_is); (case k => k_is)
      case t =>
      refine' PV.cons_all (PV.dfOk_mk (x := "are_wholes") (st := K23.topS 7) KX G ?a ?l ?c ?k) ?t; (case a => k_is); (case l => k_is); (case c => k_is); (case k => k_is)
      case t =>
      refine' PV.cons_all (PV.dfOk_mk (x := "power_of") (st := K23.topS 8) KX G ?a ?l ?c ?k) ?t; (case a => k_is); (case l => k_is); (case c => k_is); (case k => k_is)
      case t =>
      refine' PV.cons_all (PV.dfOk_mk (x := "is_village_number") (st := K23.topS 11) KX G ?a ?l ?c ?k) ?t; (case a => k_is); (case l => k_is); (case c => k_is); (case k => k_is)
      case t =>
      refine' PV.cons_all (PV.dfOk_mk (x := "is_village") (st := K23.topS 12) KX G ?a ?l ?c ?k) ?t; (case a => k_is); (case l => k_is); (case c => k_is); (case k => k_is)
      case t =>
      refine' PV.cons_all (PV.dfOk_mk (x := "is_plan_of") (st := K23.topS 13) KX G ?a ?l ?c ?k) ?t; (case a => k_is); (case l => k_is); (case c => k_is); (case k => k_is)
      case t =>
      refine' PV.cons_all (PV.dfOk_mk (x := "is_planned") (st := K23.topS 14) KX G ?a ?l ?c ?k) ?t; (case a => k_is); (case l => k_is); (case c => k_is); (case k => k_is)
      case t =>
      refine' PV.cons_all (PV.dfOk_mk (x := "behind_of") (st := K23.topS 15) KX G ?a ?l ?c ?k) ?t; (case a => k_is); (case l => k_is); (case c => k_is); (case k => k_is)
      case t =>
      refine' PV.cons_all (PV.dfOk_mk (x := "shown_of") (st := K23.topS 16) KX G ?a ?l ?c ?k) ?t; (case a => k_is); (case l => k_is); (case c => k_is); (case k => k_is)
      case t =>
      refine' PV.cons_all (PV.dfOk_mk (x := "showing") (st := K23.topS 17) KX G ?a ?l ?c ?k) ?t; (case a => k_is); (case l => k_is); (case c => k_is); (case k => k_is)
      case t =>
      refine' PV.cons_all (PV.dfOk_mk (x := "lots_of") (st := K23.topS 18) KX G ?a ?l ?c ?k) ?t; (case a => k_is); (case l => k_is); (case c => k_is); (case k => k_is)
      case t =>
      refine' PV.cons_all (PV.dfOk_mk (x := "is_at_rest_by") (st := K23.topS 19) KX G ?a ?l ?c ?k) ?t; (case a => k_is); (case l => k_is); (case c => k_is); (case k => k_is)
      case t =>
      refine' PV.cons_all (PV.dfOk_mk (x := "check_plan") (st := K23.topS 21) KX G ?a ?l ?c ?k) ?t; (case a => k_is); (case l => k_is); (case c => k_is); (case k => k_is)
      case t =>
      refine' PV.cons_all (PV.dfOk_mk (x := "check_plan_of") (st := K23.topS 22) KX G ?a ?l ?c ?k) ?t; (case a => k_is); (case l => k_is); (case c => k_is); (case k => k_is)
      case t =>
      refine' PV.cons_all (PV.dfOk_mk (x := "check_two_plans") (st := K23.topS 23) KX G ?a ?l ?c ?k) ?t; (case a => k_is); (case l => k_is); (case c => k_is); (case k => k_is)
      case t =>
      refine' PV.cons_all (PV.dfOk_mk (x := "does_undo_by") (st := K23.topS 25) KX G ?a ?l ?c ?k) ?t; (case a => k_is); (case l => k_is); (case c => k_is); (case k => k_is)
      case t =>
      refine' PV.cons_all (PV.dfOk_mk (x := "lot_product") (st := K23.topS 26) KX G ?a ?l ?c ?k) ?t; (case a => k_is); (case l => k_is); (case c => k_is); (case k => k_is)
      case t =>
      refine' PV.cons_all (PV.dfOk_mk (x := "undo_count_by") (st := K23.topS 27) KX G ?a ?l ?c ?k) ?t; (case a => k_is); (case l => k_is); (case c => k_is); (case k => k_is)
      case t =>
      refine' PV.cons_all (PV.dfOk_mk (x := "both_ways_count_by") (st := K23.topS 28) KX G ?a ?l ?c ?k) ?t; (case a => k_is); (case l => k_is); (case c => k_is); (case k => k_is)
      case t =>
      refine' PV.cons_all (PV.dfOk_mk (x := "does_undo") (st := K23.topS 30) KX G ?a ?l ?c ?k) ?t; (case a => k_is); (case l => k_is); (case c => k_is); (case k => k_is)
      case t =>
      refine' PV.cons_all (PV.dfOk_mk (x := "undo_count") (st := K23.topS 31) KX G ?a ?l ?c ?k) ?t; (case a => k_is); (case l => k_is); (case c => k_is); (case k => k_is)
      case t =>
      refine' PV.cons_all (PV.dfOk_mk (x := "both_ways_count") (st := K23.topS 32) KX G ?a ?l ?c ?k) ?t; (case a => k_is); (case l => k_is); (case c => k_is); (case k => k_is)
      case t =>
      refine' PV.cons_all (PV.dfOk_mk (x := "behind") (st := K23.topS 34) KX G ?a ?l ?c ?k) ?t; (case a => k_is); (case l => k_is); (case c => k_is); (case k => k_is)
      case t =>
      refine' PV.cons_all (PV.dfOk_mk (x := "shown") (st := K23.topS 35) KX G ?a ?l ?c ?k) ?t; (case a => k_is); (case l => k_is); (case c => k_is); (case k => k_is)
      case t =>
      refine' PV.cons_all (PV.dfOk_mk (x := "lots") (st := K23.topS 36) KX G ?a ?l ?c ?k) ?t; (case a => k_is); (case l => k_is); (case c => k_is); (case k => k_is)
      case t =>
      refine' PV.cons_all (PV.dfOk_mk (x := "is_at_rest") (st := K23.topS 37) KX G ?a ?l ?c ?k) ?t; (case a => k_is); (case l => k_is); (case c => k_is); (case k => k_is)
      case t =>
      refine' PV.cons_all (PV.dfOk_mk (x := "_law_well") (st := K23.topS 39) KX G ?a ?l ?c ?k) ?t; (case a => k_is); (case l => k_is); (case c => k_is); (case k => k_is)
      case t =>
      refine' PV.cons_all (PV.dfOk_mk (x := "_law_take") (st := K23.topS 40) KX G ?a ?l ?c ?k) ?t; (case a => k_is); (case l => k_is); (case c => k_is); (case k => k_is)
      case t =>
      refine' PV.cons_all (PV.dfOk_mk (x := "_law_pick") (st := K23.topS 41) KX G ?a ?l ?c ?k) ?t; (case a => k_is); (case l => k_is); (case c => k_is); (case k => k_is)
      case t =>
      refine' PV.cons_all (PV.dfOk_mk (x := "_law_same") (st := K23.topS 42) KX G ?a ?l ?c ?k) ?t; (case a => k_is); (case l => k_is); (case c => k_is); (case k => k_is)
      case t =>
      refine' PV.cons_all (PV.dfOk_mk (x := "_law_shuffled") (st := K23.topS 43) KX G ?a ?l ?c ?k) ?t; (case a => k_is); (case l => k_is); (case c => k_is); (case k => k_is)
      case t =>
      refine' PV.cons_all (PV.dfOk_mk (x := "_law_plan") (st := K23.topS 44) KX G ?a ?l ?c ?k) ?t; (case a => k_is); (case l => k_is); (case c => k_is); (case k => k_is)
      case t =>
      refine' PV.cons_all (PV.dfOk_mk (x := "_law_behind") (st := K23.topS 45) KX G ?a ?l ?c ?k) ?t; (case a => k_is); (case l => k_is); (case c => k_is); (case k => k_is)
      case t =>
      refine' PV.cons_all (PV.dfOk_mk (x := "_law_all_plans") (st := K23.topS 46) KX G ?a ?l ?c ?k) ?t; (case a => k_is); (case l => k_is); (case c => k_is); (case k => k_is)
      case t =>
      refine' PV.cons_all (PV.dfOk_mk (x := "_law_lots") (st := K23.topS 47) KX G ?a ?l ?c ?k) ?t; (case a => k_is); (case l => k_is); (case c => k_is); (case k => k_is)
      case t =>
      refine' PV.cons_all (PV.dfOk_mk (x := "_law_undoes") (st := K23.topS 48) KX G ?a ?l ?c ?k) ?t; (case a => k_is); (case l => k_is); (case c => k_is); (case k => k_is)
      case t =>
      refine' PV.cons_all (PV.dfOk_mk (x := "_law_undo_count") (st := K23.topS 49) KX G ?a ?l ?c ?k) ?t; (case a => k_is); (case l => k_is); (case c => k_is); (case k => k_is)
      case t =>
      refine' PV.cons_all (PV.dfOk_mk (x := "_law_both_count") (st := K23.topS 50) KX G ?a ?l ?c ?k) ?t; (case a => k_is); (case l => k_is); (case c => k_is); (case k => k_is)
      case t =>
      refine' PV.cons_all (PV.dfOk_mk (x := "_law_undoing") (st := K23.topS 51) KX G ?a ?l ?c ?k) ?t; (case a => k_is); (case l => k_is); (case c => k_is); (case k => k_is)
      case t =>
      refine' PV.cons_all (PV.dfOk_mk (x := "_law_two_right") (st := K23.topS 52) KX G ?a ?l ?c ?k) ?t; (case a => k_is); (case l => k_is); (case c => k_is); (case k => k_is)
      case t =>
      refine' PV.cons_all (PV.dfOk_mk (x := "_law_counted") (st := K23.topS 53) KX G ?a ?l ?c ?k) ?t; (case a => k_is); (case l => k_is); (case c => k_is); (case k => k_is)
      case t =>
      refine' PV.cons_all (PV.dfOk_mk (x := "_law_round") (st := K23.topS 54) KX G ?a ?l ?c ?k) ?t; (case a => k_is); (case l => k_is); (case c => k_is); (case k => k_is)
      case t =>
      refine' PV.cons_all (PV.dfOk_mk (x := "law") (st := K23.topS 55) KX G ?a ?l ?c ?k) ?t; (case a => k_is); (case l => k_is); (case c => k_is); (case k => k_is)
      case t =>
      exact PV.nil_all
    case hbl =>
      refine' PV.cons_all (PySem.W.mg_none_of KX G ?z) ?t; (case z => k_is)
      case t =>
      refine' PV.cons_all (PySem.W.mg_none_of KX G ?z) ?t; (case z => k_is)
      case t =>
      refine' PV.cons_all (PySem.W.mg_none_of KX G ?z) ?t; (case z => k_is)
      case t =>
      refine' PV.cons_all (PySem.W.mg_none_of KX G ?z) ?t; (case z => k_is)
      case t =>
      refine' PV.cons_all (PySem.W.mg_none_of KX G ?z) ?t; (case z => k_is)
      case t =>
      refine' PV.cons_all (PySem.W.mg_none_of KX G ?z) ?t; (case z => k_is)
      case t =>
      refine' PV.cons_all (PySem.W.mg_none_of KX G ?z) ?t; (case z => k_is)
      case t =>
      refine' PV.cons_all (PySem.W.mg_none_of KX G ?z) ?t; (case z => k_is)
      case t =>
      refine' PV.cons_all (PySem.W.mg_none_of KX G ?z) ?t; (case z => k_is)
      case t =>
      refine' PV.cons_all (PySem.W.mg_none_of KX G ?z) ?t; (case z => k_is)
      case t =>
      refine' PV.cons_all (PySem.W.mg_none_of KX G ?z) ?t; (case z => k_is)
      case t =>
      refine' PV.cons_all (PySem.W.mg_none_of KX G ?z) ?t; (case z => k_is)
      case t =>
      refine' PV.cons_all (PySem.W.mg_none_of KX G ?z) ?t; (case z => k_is)
      case t =>
      refine' PV.cons_all (PySem.W.mg_none_of KX G ?z) ?t; (case z => k_is)
      case t =>
      refine' PV.cons_all (PySem.W.mg_none_of KX G ?z) ?t; (case z => k_is)
      case t =>
      refine' PV.cons_all (PySem.W.mg_none_of KX G ?z) ?t; (case z => k_is)
      case t =>
      refine' PV.cons_all (PySem.W.mg_none_of KX G ?z) ?t; (case z => k_is)
      case t =>
      exact PV.nil_all
    case hgl =>
      refine' PV.gl_cons (PV.gl_int (PySem.W.mg_of KX G ?z)) ?t; (case z => k_is)
      case t =>
      exact PV.gl_nil
