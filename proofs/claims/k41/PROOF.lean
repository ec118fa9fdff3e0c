import PyProof.Rows.All
import Wide.All
import OpenK.AllK
import Wide.FinOn
import HandS.ForMost
import HandS.Exc
import HandS.ExcOwn
import HandS.ExcInit
import HandS.TryMany
import HandS.WordsExc
import HandS.Wide
import HandS.IsInst
import HandS.SortKw
import HandS.FStr
import HandS.NoneIn
import HandS.Flow
import HandS.TupAny
import HandS.TupMul
import HandS.TupSets
import HandS.Style
import HandS.EndBits
import HandS.Codes
import HandS.Iter
import HandS.ExcField
import HandS.Lambda
import HandS.EndTab
import KE.KeyNested
import HandS.ClsMeth
import KE.GoesMore
import HandS.Zip
import KE.KDflt
import HandS.Nested
import KE.DataCmp
import PyProof.DictRoadsH
import PyProof.DictMoreH
import KE.SortKeyHeap
import HandS.CallSlots
import HandS.Defaults
import HandS.SlotsOwn
import KE.KFmtOwn
import OpenK.KOps
import HandS.Conv
import HandS.TupLen
import KE.KDictDisplayH
import HandS.Deep
import KE.GoesZip
import HandS.More
import HandS.Remove
import PySem.Challenge.RW_boughlaws_k41_whole_the_machine_counts_w
set_option Elab.async false
set_option linter.all false
set_option maxRecDepth 100000
set_option maxHeartbeats 8000000
/-! RW: tuples whose objects have no dict: their making, their methods. -/
namespace RW
open PySem PySem.Spec PyProof.Rows L2
/-- a tuple whose object has no dict -/
def SqN (K : PySem.W.Frag) (H : Hp) (a : Addr) (xs : List V) : Prop :=
  (∃ o : Obj, H a = some (.frz o (.tup xs)) ∧ o.dict = none) ∨
    ∃ (o : Obj) (its : Array Value) (n : Nat), K.lookup a = some o ∧ o.cls = .type "tuple" ∧ o.data = .seq its n ∧ its.size ≤ sizeLine ∧ Vals xs its.toList ∧ o.dict = none
theorem SqN.sqT {K : PySem.W.Frag} {H : Hp} {a : Addr} {xs : List V} (h : SqN K H a xs) : SqT K H a xs := by
  rcases h with ⟨o, h, _⟩ | ⟨o, its, n, h1, h2, h3, h4, h5, _⟩
  · exact .inl (.inr ⟨o, h⟩)
  · exact .inr ⟨o, its, n, h1, h2, h3, h4, h5⟩
theorem SqN.same {K : PySem.W.Frag} {H H' : Hp} (s : Same H H') {a : Addr} {xs : List V} (h : SqN K H a xs) : SqN K H' a xs := by
  rcases h with ⟨o, h, e⟩ | h
  · exact .inl ⟨o, s _ _ h, e⟩
  · exact .inr h
/-- a new tuple -/
def TNew (H : Hp) (xs : List V) (Q : VK) : Prop := ∀ (p : Addr) (o : Obj), H p = none → o.dict = none → Q (.ref p) (upd H p (.frz o (.tup xs)))
section
variable {X : Cx} {pins : List (Addr × Obj)} {σ : L2.St} {H : Hp} {s : Shared} {Q : VK} {pos : Pos} {es : List Expr} {t : TA}
theorem lay_tup {us : List Value} {xs : List V} (I : Inv X pins σ H s) (r : Vals xs us) (z : xs.length ≤ sizeLine) (q : TNew H xs Q) : EP X pins σ Q (.ref s.heap.objs.size) { s with heap := s.heap.push { cls := .type "tuple", data := .seq us.toArray } } := by
  refine ⟨.ref s.heap.objs.size, upd H s.heap.objs.size (.frz { cls := .type "tuple", data := .seq us.toArray } (.tup xs)), I.laid (t' := s.toks) (fun b u e => Heap.get?_push_of_some _ e) (Nat.le_refl _) ?_, rfl, q _ _ (I.hok.fresh (Nat.le_refl _)) rfl⟩
  exact ⟨Heap.get?_push_size _ rfl, z, us, r, ⟨_, Heap.get?_push_size _ rfl, rfl, _, rfl⟩⟩
def tTupN (t : TA) : TE := fun σ H Q => t σ H fun xs H1 => xs.length ≤ sizeLine ∧ TNew H1 xs Q
theorem pe_tupN {x1} (h : PA X es t) : PE X (.Tuple es x1 pos) (tTupN t) := by
  refine ⟨fun pins s σ H Q I hq => ?_⟩
  refine wpAny_Tuple_spliced (thn (h.run pos pins s σ H _ I hq) fun us s1 ⟨xs, H1, I1, r, z, q⟩ => ⟨by rw [← r.length]; exact z, ?_⟩)
  exact lay_tup I1 r z q
def rCatN (K : PySem.W.Frag) : R2 := fun x y H Q => ∃ a b xs ys, x = .ref a ∧ y = .ref b ∧ SqT K H a xs ∧ SqT K H b ys ∧ xs.length + ys.length ≤ sizeLine ∧
  (xs = [] → Q (.ref b) H) ∧ (xs ≠ [] → ys = [] → Q (.ref a) H) ∧ (xs ≠ [] → ys ≠ [] → TNew H (xs ++ ys) Q)
theorem op_catN : OpR X (binaryOp .Add) (rCatN X.K) := by
  intro pins s σ H x y v u Q I rx ry h
  obtain ⟨a, b, xs, ys, rfl, rfl, ha, hb, hz, q0, q1, q2⟩ := h
  cases rx
  cases ry
  obtain ⟨its, r1, p1, _⟩ := I.tuple ha
  obtain ⟨its2, r2, p2, _⟩ := I.tuple hb
  by_cases hx : xs = []
  · subst hx
    cases r1
    exact cat_tup0 p1 p2 ⟨.ref b, H, I, rfl, q0 rfl⟩
  · refine HT.cat_tup p1 p2 (fun z => hx (r1.nil_iff.mp z)) (fun z => ⟨.ref a, H, I, rfl, q1 hx (r2.nil_iff.mp z)⟩) (fun z => ?_) (by rw [← r1.length, ← r2.length]; exact hz)
    exact lay_tup (us := its ++ its2) I (r1.append r2) (by rw [List.length_append]; exact hz) (q2 hx fun w => z (r2.nil_iff.mpr w))
def rSlN (K : PySem.W.Frag) : V → Option Int → Option Int → Hp → VK → Prop := fun x lo hi H Q => ∃ a xs, x = .ref a ∧ SqT K H a xs ∧
  (HT.sIx xs.length 0 lo = 0 ∧ HT.sIx xs.length xs.length hi = xs.length → Q (.ref a) H) ∧ (¬ (HT.sIx xs.length 0 lo = 0 ∧ HT.sIx xs.length xs.length hi = xs.length) → TNew H (cutV xs lo hi) Q)
theorem sl_tupN : SlR X (rSlN X.K) := by
  intro pins s σ H x v vl vu lo hi sl Q I rx hs pl pu h
  obtain ⟨a, xs, rfl, hx, q1, q2⟩ := h
  cases rx
  obtain ⟨its, r, ht, hz⟩ := I.tuple hx
  have hlen : its.toArray.size = xs.length := by rw [List.size_toArray]; exact r.length.symm
  refine ⟨"tuple", _, PyProof.Rows.slot_tuple_getitem.lookup, ht.typeIs, ?_⟩
  by_cases hw : HT.sIx xs.length 0 lo = 0 ∧ HT.sIx xs.length xs.length hi = xs.length
  · exact getItem_tuple_whole ht hs pl pu (by rw [hlen]; exact hw) ⟨.ref a, H, I, rfl, q1 hw⟩
  · refine HT.getItem_tuple_cut ht hs pl pu (by rw [hlen]; exact hw) ?_ (by rw [hlen]; exact hz)
    rw [hlen]
    exact lay_tup I ((r.drop (HT.sIx xs.length 0 lo)).take (HT.sIx xs.length xs.length hi - HT.sIx xs.length 0 lo)) (Nat.le_trans (cutV_length xs lo hi) hz) (q2 hw)
theorem call_tupN : CallR X (.type "tuple") (fun xs H Q => ∃ p ys, xs = [.ref p] ∧ ((SqL X.K H p ys ∧ TNew H ys Q) ∨ (SqT X.K H p ys ∧ Q (.ref p) H))) := by
  intro pins s σ H xs us Q I r h
  obtain ⟨p, ys, rfl, h⟩ := h
  obtain ⟨u, rfl, rx⟩ := vals1 r
  cases rx
  rcases h with ⟨hq, q⟩ | ⟨hq, q⟩
  · obtain ⟨its, r', pl, hz⟩ := I.list hq
    have hlen := r'.length
    refine call_tuple_list pl.isList (fun h' kp => ?_) (by simp only [List.size_toArray] <;> omega)
    have I1 : Inv X pins σ H { s with heap := h' } := I.kept (t' := s.toks) kp
    exact lay_tup I1 r' hz q
  · obtain ⟨its, r', pl, hz⟩ := I.tuple hq
    exact call_tuple_same pl ⟨.ref p, H, I, rfl, q⟩
def rRepN (K : PySem.W.Frag) : R2 := fun x y H Q => ∃ l k xs, x = .ref l ∧ y = .int k ∧ SqT K H l xs ∧ xs ≠ [] ∧ 2 ≤ k ∧ k ≤ 1000 ∧ xs.length ≤ 1000 ∧ TNew H (List.replicate k.toNat xs).flatten Q
theorem op_repN : OpR X (binaryOp .Mult) (rRepN X.K) := by
  intro pins s σ H x y v u Q I rx ry h
  obtain ⟨l, k, xs, rfl, rfl, hT, hne, h1, h2, hz, q⟩ := h
  cases rx
  obtain ⟨t, rfl⟩ := ry
  obtain ⟨its, r, ⟨⟨cls, dd, data, sl⟩, ho, hc, n, hd⟩, hs⟩ := I.tuple hT
  simp only at hc hd
  subst hc hd
  have hle : its.length = xs.length := r.length.symm
  have hn : its ≠ [] := fun e => hne (by
    rw [e] at hle
    exact List.eq_nil_of_length_eq_zero hle.symm)
  have hi : its.toArray.isEmpty = false := by
    cases its with
    | nil => exact absurd rfl hn
    | cons a b => rfl
  have hsz0 : its.toArray.size = xs.length := by rw [List.size_toArray, hle]
  have hm : ((its.toArray.size : Nat) : Int) * k ≤ 1000000 := by
    rw [hsz0]
    have a1 : ((xs.length : Nat) : Int) * k ≤ 1000 * k := Int.mul_le_mul_of_nonneg_right (by omega) (by omega)
    omega
  have flen : (List.replicate k.toNat its).flatten.length ≤ sizeLine := by
    rw [PyProof.Rows.lm_len_rep_flat, hle, sizeLine_eq]
    have a1 : k.toNat * xs.length ≤ 1000 * 1000 := Nat.mul_le_mul (by omega) hz
    omega
  have c0 : (decide (k < -(2 ^ 63)) || decide (k ≥ 2 ^ 63)) = false := by
    rw [decide_eq_false (by omega), decide_eq_false (by omega)] <;> rfl
  have c1 : (its.toArray.isEmpty || k == 1) = false := by
    rw [hi, Bool.false_or]
    exact beq_eq_false_iff_ne.mpr (by omega)
  have c2 : (decide (k ≤ 0) || its.toArray.isEmpty) = false := by
    rw [hi, Bool.or_false]
    exact decide_eq_false (by omega)
  have c4 : Builtin.Tuple.tupleTooMany (((its.toArray.size : Nat) : Int) * k) = false := by
    unfold Builtin.Tuple.tupleTooMany
    rw [sizeLine_eq]
    exact decide_eq_false (by omega)
  refine wpAny_binaryOp_repeat_ref (T := "tuple") (U := "int") (by decide) ⟨_, ho, rfl⟩ (fun s' => typeIs_int s' k t) noFill_tuple_mul F.fills_int_mul F.slot_int_rmul repeat_tuple F.slot_int_index.lookup
    (call_meets F.slot_int_rmul (typeIs_int s k t) F.entry_int_rmul (F.args_int_rmul_2 _ _) (int_rmul_tuple k t l its.toArray n dd sl)
      ⟨ho, rfl, ⟨_, ho, rfl⟩, call_meets F.slot_tuple_mul ⟨_, ho, rfl⟩ F.entry_tuple_mul (F.args_tuple_mul_2 _ _) (tuple_mulW l its.toArray n dd sl k t c0 c1 c2 (by omega) c4 (by rw [size_rep, List.size_toArray]; exact flen)) ⟨ho, ?_⟩⟩)
  rw [size_rep]
  exact lay_tup I (r.rep k.toNat) (by rw [PyProof.Rows.lm_len_rep_flat, sizeLine_eq]; have a1 : k.toNat * xs.length ≤ 1000 * 1000 := Nat.mul_le_mul (by omega) hz; omega) q
theorem tupN_at {a : Addr} {xs : List V} (I : Inv X pins σ H s) (h : SqN X.K H a xs) : ∃ (its : List Value) (o : Obj) (n : Nat), Vals xs its ∧ s.heap.get? a = some o ∧ o.cls = .type "tuple" ∧ o.data = .seq its.toArray n ∧ o.dict = none ∧ xs.length ≤ sizeLine := by
  rcases h with ⟨o, h, hd⟩ | ⟨o, its, n, h1, h2, h3, h4, h5, h6⟩
  · obtain ⟨e, z, its, r, o', e', hc, n, hs⟩ := I.hok a _ h
    rw [e] at e'
    cases e'
    exact ⟨its, o, n, r, e, hc, hs, hd, z⟩
  · exact ⟨its.toList, o, n, h5, I.kIn a o h1, h2, by rw [h3], h6, by rw [h5.length, Array.length_toList]; exact h4⟩
theorem count_eqU {y : V} : ∀ {ys : List V} {us : List Value}, Vals ys us → ys.all flatV = true → us.countP (eqU y) = ys.countP fun z => eqV z y
  | _, _, .nil, _ => rfl
  | z :: ys, u :: us, .cons r t, f => by
    rw [List.all_cons, Bool.and_eq_true] at f
    rw [List.countP_cons, List.countP_cons, count_eqU t f.2, eqU_of r f.1]
/-- t.count(e), flat items -/
def tTCount (K : PySem.W.Frag) (to te : TE) : TE := fun σ H Q => to σ H fun x H1 => ∃ (a : Addr) (xs : List V), x = .ref a ∧ SqN K H1 a xs ∧ te σ H1 fun y H2 => ∃ ys : List V, SqN K H2 a ys ∧ ys.all flatV = true ∧ flatV y = true ∧ Q (.int ((ys.countP fun z => eqV z y : Nat))) H2
theorem pe_tcount {o e : Expr} {to te : TE} {apos cpos : Pos} (ho : PE X o to) (he : PE X e te)
    (hbase : attributeBase o "count" X.env (eval o X.env) = eval o X.env := by rfl)
    (hfew : ((backTo cpos (starEach [e] X.env)).all (fun x => !x.1) && (backToKw cpos (keywordEach [] X.env)).all (fun x => x.1.isSome)
      && decide (([e] : List Expr).length + ([] : List Keyword).length + (if ([] : List Keyword).isEmpty then 0 else 1) < 30)) = true := by rfl)
    (hline : (apos.endLine == cpos.line) = true := by rfl) (hs : starEach [e] X.env = [(false, eval e X.env)] := by rfl) :
    PE X (.Call (.Attribute o "count" apos) [e] [] cpos) (tTCount X.K to te) := by
  refine ⟨fun pins s σ H Q I h => ?_⟩
  refine wpAny_Call_method_late hbase hfew hline rfl (thn (ho.run pins s σ H _ I h) fun v s1 ⟨x, H1, I1, r1, a, xs, ex, hq, q1⟩ => ?_)
  subst ex
  cases r1
  obtain ⟨its, ob, n, rv, hget, hc, hdt, hdd, hz⟩ := tupN_at I1 hq
  refine ⟨"tuple", "tuple.count", F.plainAttrs_tuple, F.slot_tuple_count, F.type_tuple_count, ⟨ob, hget, hc⟩, fun b e2 => by cases e2; exact ⟨ob, hget, hdd⟩, ?_⟩
  have hA := (pa_cons he pa_nil hs).run cpos pins s1 σ H1 (fun vs H2 => match vs with
    | [y] => ∃ ys : List V, SqN X.K H2 a ys ∧ ys.all flatV = true ∧ flatV y = true ∧ Q (.int ((ys.countP fun z => eqV z y : Nat))) H2
    | _ => False) I1 q1
  rw [hs] at hA ⊢
  refine Calls.callWith_builtin rfl (Calls.evalArgs_plain ?_)
  refine thn hA fun us s2 ⟨vs, H2, I2, r2, q2⟩ => ?_
  match vs, r2, q2 with
  | [y], r2, q2 =>
    obtain ⟨ys, hq2, f1, f2, q3⟩ := q2
    obtain ⟨uy, rfl, ry⟩ := Vals.one r2
    obtain ⟨its2, ⟨cls2, dd2, dat2, sl2⟩, n2, rv2, hget2, hc2, hdt2, hdd2, hz2⟩ := tupN_at I2 hq2
    simp only at hc2 hdt2 hdd2
    subst hc2 hdt2
    refine call_meets F.slot_tuple_count ⟨_, hget2, rfl⟩ F.entry_tuple_count (F.args_tuple_count_2 _ _) (SeqAt.tuple_countAt a its2.toArray n2 dd2 sl2 uy (eqU y)) ⟨hget2, fun u hu => mem_eqAt ry f2 rv2 f1 u (by simpa using hu), ?_⟩
    have e : its2.toArray.toList.countP (eqU y) = ys.countP fun z => eqV z y := by
      show its2.countP (eqU y) = _
      exact count_eqU rv2 f1
    rw [e]
    exact ⟨.int _, H2, I2.tok _, ⟨_, rfl⟩, q3⟩
theorem firstMet_len {ns : List Int} : ∀ n, (firstMet (fun i => ns.getD i 0) n).length ≤ n
  | 0 => by simp [firstMet]
  | n + 1 => by
    have ih := firstMet_len (ns := ns) n
    rw [firstMet_succ]
    unfold step_dedup
    split
    · omega
    · rw [List.length_append, List.length_singleton]
      omega
theorem firstMet_nd {f : Nat → Int} : ∀ {n : Nat}, (firstMet f n).length = n → firstMet f n = (List.range n).map f ∧ ((List.range n).map f).Nodup
  | 0, _ => ⟨rfl, List.nodup_nil⟩
  | n + 1, h => by
    rw [firstMet_succ] at h ⊢
    have hl := firstMet_length_le f n
    unfold step_dedup at h ⊢
    split at h
    · omega
    · rename_i hn
      rw [List.length_append, List.length_singleton] at h
      obtain ⟨e, nd⟩ := firstMet_nd (f := f) (n := n) (by omega)
      rw [if_neg hn, e, List.range_succ, List.map_append]
      refine ⟨rfl, List.nodup_append.mpr ⟨nd, by simp, fun a ha b hb => ?_⟩⟩
      have hb : b = f n := by simpa using hb
      subst hb
      intro z
      subst z
      rw [e] at hn
      exact hn (List.any_eq_true.mpr ⟨_, ha, beq_self_eq_true _⟩)
theorem firstMet_row {ns : List Int} (h : (firstMet (fun i => ns.getD i 0) ns.length).length = ns.length) : ns.Nodup := by
  have e : (List.range ns.length).map (fun i => ns.getD i 0) = ns := by
    apply List.ext_getElem?
    intro i
    rw [List.getElem?_map]
    by_cases hi : i < ns.length
    · rw [List.getElem?_range hi, List.getElem?_eq_getElem hi]
      simp [List.getD, List.getElem?_eq_getElem hi]
    · rw [List.getElem?_eq_none_iff.mpr (by simpa using hi), List.getElem?_eq_none_iff.mpr (by omega)]
      rfl
  have := (firstMet_nd h).2
  rw [e] at this
  exact this
/-- len(set(xs)), ints: some number, that of xs only if none is told twice -/
def tLenSetA (K : PySem.W.Frag) (ta : TE) : TE := fun σ H Q => ta σ H fun x H1 => ∃ (l : Addr) (ns : List Int), x = V.ref l ∧ SqL K H1 l (ns.map V.int) ∧ ns.length < 64 ∧ ∀ n : Nat, (n = ns.length → ns.Nodup) → Q (.int n) H1
theorem pe_lenSetA {a : Expr} {ta : TE} {p p2 q pos : Pos} (hc : X.calm = true) (hg : Gl X "len") (hm : X.mg "len" = none) (hg2 : Gl X "set") (hm2 : X.mg "set" = none) (ha : PE X a ta)
    (na : starEach [a] X.env = (false, eval a X.env) :: starEach [] X.env := by rfl) : PE X (.Call (.Name "len" p) [.Call (.Name "set" p2) [a] [] q] [] pos) (tLenSetA X.K ta) := by
  refine ⟨fun pins s σ H Q I h => ?_⟩
  refine Call_ (ld_blt I hg hm PySem.boot_len ?_)
  refine PyProof.Rows.callWith_builtin1 (PyProof.Rows.args_cons ?_ rfl) rfl rfl
  refine Call_ (ld_blt I hg2 hm2 PyProof.Rows.boot_set ?_)
  refine PyProof.Rows.callWith_type1 (PyProof.Rows.args_cons (thn (ha.run pins s σ H _ I h) fun v s1 ⟨x, H1, I1, r1, q1⟩ => PyProof.Rows.args_nil ?_) na) na rfl
  obtain ⟨l, ns, rfl, hq, h1, q1⟩ := q1
  cases r1
  obtain ⟨its, r, pl, hz⟩ := I1.list hq
  have hl : its.toArray.size = ns.length := by rw [List.size_toArray, ← r.length, List.length_map]
  refine call_set_list (I1.ok.hd hc) pl.isList (ns := ns) (by simpa using r.ints) (by unfold scanBound; omega) fun h' tk hS hk => ?_
  refine PyProof.Rows.args_nil ?_
  obtain ⟨o, es, ep, t, ho, hex, hd, _, _, _, hf, hn⟩ := hS
  have I2 : Inv X pins σ H1 { s1 with heap := h', toks := tk } := I1.kept fun b o e => hk b o (Heap.lt_size e) e
  have hlen := firstMet_len (ns := ns) its.toArray.size
  refine call_len_set ho hex hd hf (by rw [hn]; omega) ⟨.int (firstMet (fun i => ns.getD i 0) its.toArray.size).length, H1, I2.tok _, ⟨_, by rw [hn]⟩, q1 _ fun z => firstMet_row (by rw [hl] at z; exact z)⟩
end
end RW

/-! RW: a layer of data over the hand layer. Values are described by trees of data; lists that a def still changes are owned, all else is fixed. -/
namespace RW
open PySem PySem.Spec PyProof.Rows L2

inductive D where
  | non | bl (b : Bool) | int (i : Int) | str (x : Str) | ty (n : String) | obj (a : Addr)
  | lst (xs : List D) | rol (xs : List D) | tup (xs : List D) | pr (xs : List D) | ins (C : Addr) (fs : List (Str × D))
  /-- a caught exception: at a, of the class at C, its dict at dd -/
  | xc (a C dd : Addr) (fs : List (Str × D))
  /-- a function that was handed in: what was known when it was made -/
  | lam (f : Addr) (B : Hp)
  /-- a dict whose keys are tuples (of numbers, texts, None, tuples), in its order -/
  | dt (w : World) (kvs : List (NestedKey × D))
  /-- a dict whose keys are numbers and texts, in its order -/
  | dk (P : Program) (w : World) (kvs : List (Key × D))

/-- the object of a dict of numbers and texts at a -/
def DkO (P : Program) (w : World) (a : Addr) (o : Obj) (us : List (Key × Value)) : HO := .ext fun h => h.get? a = some o ∧ o.IsDictOf (mixKind P w) us
structure DkOk (a : Addr) (us : List (Key × Value)) (ks : List Key) (vs : List V) : Prop where
  far : (a == sysModules) = false
  len : us.length ≤ sizeLine
  keys : us.map (·.1) = ks
  vals : Vals vs (us.map (·.2))
def kD : Key → D
  | .inl i => .int i
  | .inr x => .str x
/-- the object of such a dict at a -/
def DtO (a : Addr) (o : Obj) (w : World) (xs : List (NestedKey × Addr × Value)) : HO := .ext fun h => h.get? a = some o ∧ o.ExactDict ∧ ∃ es ep, o.data = .dict es ep ∧ es.toList = xs.map fun x => ⟨x.1.hash w, .ref x.2.1, x.2.2⟩
structure DtOk (a : Addr) (xs : List (NestedKey × Addr × Value)) (ks : List NestedKey) (vs : List V) : Prop where
  far : (a == sysModules) = false
  len : xs.length ≤ sizeLine
  nd : (xs.map (·.1)).Nodup
  keys : xs.map (·.1) = ks
  deep : ∀ k ∈ ks, k.depth ≤ 8
  vals : Vals vs (xs.map (·.2.2))
mutual
def keyD : NestedKey → D
  | .none => .non
  | .num i => .int i
  | .text x => .str x
  | .tup ks => .tup (keyDs ks)
def keyDs : List NestedKey → List D
  | [] => []
  | k :: ks => keyD k :: keyDs ks
end
theorem keyDs_map : ∀ ks : List NestedKey, keyDs ks = ks.map keyD
  | [] => rfl
  | k :: ks => by rw [keyDs, keyDs_map ks]; rfl

mutual
inductive Rep (K : PySem.W.Frag) (H : Hp) : V → D → Prop
  | non : Rep K H .non .non
  | bl (b : Bool) : Rep K H (.bl b) (.bl b)
  | int (i : Int) : Rep K H (.int i) (.int i)
  | str (x : Str) : Rep K H (.str x) (.str x)
  | ty (n : String) : Rep K H (.ty n) (.ty n)
  | obj (a : Addr) : Rep K H (.ref a) (.obj a)
  | lst {a : Addr} {xs : List V} {ds : List D} : H a = some (.lst xs) → Reps K H xs ds → Rep K H (.ref a) (.lst ds)
  | rol {a : Addr} {xs : List V} {ds : List D} : SqL K H a xs → Reps K H xs ds → Rep K H (.ref a) (.rol ds)
  | tup {a : Addr} {xs : List V} {ds : List D} : SqN K H a xs → Reps K H xs ds → Rep K H (.ref a) (.tup ds)
  /-- a pair that a walk gives: only to be unpacked -/
  | pr {a : Addr} {xs : List V} {ds : List D} : SqT K H a xs → Reps K H xs ds → Rep K H (.ref a) (.pr ds)
  | ins {a C dx : Addr} {fs : List (Str × V)} {ds : List (Str × D)} : H a = some (.ins C dx fs) → RepF K H fs ds → Rep K H (.ref a) (.ins C ds)
  | xc {a C dd : Addr} {fs : List (Str × V)} {ds : List (Str × D)} : H dd = some (.xd fs) → RepF K H fs ds → Rep K H (.ref a) (.xc a C dd ds)
  | lam {f : Addr} {B : Hp} : Same B H → Rep K H (.ref f) (.lam f B)
  | dt {a : Addr} {o : Obj} {w : World} {xs : List (NestedKey × Addr × Value)} {vs : List V} {kvs : List (NestedKey × D)} : H a = some (DtO a o w xs) → DtOk a xs (kvs.map (·.1)) vs →
      Reps K H (xs.map fun x => V.ref x.2.1) (kvs.map fun p => keyD p.1) → Reps K H vs (kvs.map (·.2)) → Rep K H (.ref a) (.dt w kvs)
  | dk {P : Program} {a : Addr} {o : Obj} {w : World} {us : List (Key × Value)} {vs : List V} {kvs : List (Key × D)} : H a = some (DkO P w a o us) → DkOk a us (kvs.map (·.1)) vs → Reps K H vs (kvs.map (·.2)) → Rep K H (.ref a) (.dk P w kvs)
inductive Reps (K : PySem.W.Frag) (H : Hp) : List V → List D → Prop
  | nil : Reps K H [] []
  | cons {v : V} {vs : List V} {d : D} {ds : List D} : Rep K H v d → Reps K H vs ds → Reps K H (v :: vs) (d :: ds)
inductive RepF (K : PySem.W.Frag) (H : Hp) : List (Str × V) → List (Str × D) → Prop
  | nil : RepF K H [] []
  | cons {f : Str} {v : V} {vs : List (Str × V)} {d : D} {ds : List (Str × D)} : Rep K H v d → RepF K H vs ds → RepF K H ((f, v) :: vs) ((f, d) :: ds)
end

theorem Same.sqL {K : PySem.W.Frag} {H H' : Hp} (s : Same H H') {a : Addr} {xs : List V} (h : SqL K H a xs) : SqL K H' a xs := Same.seq s h
theorem Same.sqT {K : PySem.W.Frag} {H H' : Hp} (s : Same H H') {a : Addr} {xs : List V} (h : SqT K H a xs) : SqT K H' a xs := by
  rcases h with h | h
  · rcases h with h | ⟨o, h⟩
    · exact .inl (.inl (s _ _ h))
    · exact .inl (.inr ⟨o, s _ _ h⟩)
  · exact .inr h

mutual
theorem Rep.mono {K : PySem.W.Frag} {H H' : Hp} (s : Same H H') : ∀ {v : V} {d : D}, Rep K H v d → Rep K H' v d
  | _, _, .non => .non
  | _, _, .bl b => .bl b
  | _, _, .int b => .int b
  | _, _, .str b => .str b
  | _, _, .ty b => .ty b
  | _, _, .obj b => .obj b
  | _, _, .lst h r => .lst (s _ _ h) (Reps.mono s r)
  | _, _, .rol h r => .rol (Same.sqL s h) (Reps.mono s r)
  | _, _, .tup h r => .tup (SqN.same s h) (Reps.mono s r)
  | _, _, .pr h r => .pr (Same.sqT s h) (Reps.mono s r)
  | _, _, .ins h r => .ins (s _ _ h) (RepF.mono s r)
  | _, _, .xc h r => .xc (s _ _ h) (RepF.mono s r)
  | _, _, .lam h => .lam (h.trans s)
  | _, _, .dt h k r1 r2 => .dt (s _ _ h) k (Reps.mono s r1) (Reps.mono s r2)
  | _, _, .dk h k r2 => .dk (s _ _ h) k (Reps.mono s r2)
theorem Reps.mono {K : PySem.W.Frag} {H H' : Hp} (s : Same H H') : ∀ {v : List V} {d : List D}, Reps K H v d → Reps K H' v d
  | _, _, .nil => .nil
  | _, _, .cons h r => .cons (Rep.mono s h) (Reps.mono s r)
theorem RepF.mono {K : PySem.W.Frag} {H H' : Hp} (s : Same H H') : ∀ {v : List (Str × V)} {d : List (Str × D)}, RepF K H v d → RepF K H' v d
  | _, _, .nil => .nil
  | _, _, .cons h r => .cons (Rep.mono s h) (RepF.mono s r)
end

section
variable {K : PySem.W.Frag} {H : Hp}
theorem Reps.length {vs : List V} {ds : List D} (h : Reps K H vs ds) : vs.length = ds.length := by
  induction vs generalizing ds with
  | nil => cases h; rfl
  | cons v vs ih => cases h with | cons _ t => simp [ih t]
theorem Reps.get : ∀ {vs : List V} {ds : List D} {i : Nat} {d : D}, Reps K H vs ds → ds[i]? = some d → ∃ v, vs[i]? = some v ∧ Rep K H v d
  | _, _, _, _, .nil, e => by simp at e
  | _, _, 0, _, .cons r _, e => by
    simp at e; subst e; exact ⟨_, rfl, r⟩
  | _, _, i + 1, d, .cons _ t, e => by
    obtain ⟨v, h1, h2⟩ := Reps.get (i := i) (d := d) t (by simpa using e)
    exact ⟨v, by simpa using h1, h2⟩
theorem Reps.append : ∀ {vs us : List V} {ds es : List D}, Reps K H vs ds → Reps K H us es → Reps K H (vs ++ us) (ds ++ es)
  | _, _, _, _, .nil, s => s
  | _, _, _, _, .cons r t, s => .cons r (Reps.append t s)
theorem Reps.take : ∀ {vs : List V} {ds : List D} (n : Nat), Reps K H vs ds → Reps K H (vs.take n) (ds.take n)
  | _, _, 0, _ => by simp; exact .nil
  | _, _, _ + 1, .nil => by simp; exact .nil
  | _, _, n + 1, .cons r t => by simp; exact .cons r (Reps.take n t)
theorem Reps.drop : ∀ {vs : List V} {ds : List D} (n : Nat), Reps K H vs ds → Reps K H (vs.drop n) (ds.drop n)
  | _, _, 0, r => by simpa using r
  | _, _, _ + 1, .nil => by simp; exact .nil
  | _, _, n + 1, .cons _ t => by simp; exact Reps.drop n t
theorem Reps.set {v : V} {d : D} (r : Rep K H v d) : ∀ {vs : List V} {ds : List D} (i : Nat), Reps K H vs ds → Reps K H (vs.set i v) (ds.set i d)
  | _, _, _, .nil => .nil
  | _, _, 0, .cons _ t => .cons r t
  | _, _, i + 1, .cons q t => .cons q (Reps.set r i t)
theorem Reps.rep {vs : List V} {ds : List D} (r : Reps K H vs ds) : ∀ n : Nat, Reps K H (List.replicate n vs).flatten (List.replicate n ds).flatten
  | 0 => .nil
  | n + 1 => by
    simp only [List.replicate_succ, List.flatten_cons]
    exact r.append (Reps.rep r n)
theorem Reps.nil_iff {vs : List V} {ds : List D} (r : Reps K H vs ds) : vs = [] ↔ ds = [] := by
  cases r <;> simp
theorem Reps.ints : ∀ {vs : List V} {ns : List Int}, Reps K H vs (ns.map D.int) → vs = ns.map V.int
  | _, [], h => by cases h; rfl
  | _, n :: ns, h => by
    cases h with | cons r t =>
    cases r
    simp [Reps.ints t]
theorem Reps.of_ints : ∀ (ns : List Int), Reps K H (ns.map V.int) (ns.map D.int)
  | [] => .nil
  | n :: ns => .cons (.int n) (Reps.of_ints ns)
theorem Reps.bls : ∀ {vs : List V} {ns : List Bool}, Reps K H vs (ns.map D.bl) → vs = ns.map V.bl
  | _, [], h => by cases h; rfl
  | _, n :: ns, h => by
    cases h with | cons r t =>
    cases r
    simp [Reps.bls t]
theorem Reps.strs : ∀ {vs : List V} {ns : List Str}, Reps K H vs (ns.map D.str) → vs = ns.map V.str
  | _, [], h => by cases h; rfl
  | _, n :: ns, h => by
    cases h with | cons r t =>
    cases r
    simp [Reps.strs t]
end

/-! ### what is owned -/
inductive OC where
  | lst (xs : List D)
  | any (P : List D → Prop)
  | ins (C : Addr) (fs : List (Str × D))
  /-- a code object's table: each code that it tells bears the name q -/
  | tab (q : Str)
  /-- a dict whose keys are tuples -/
  | dt (w : World) (kvs : List (NestedKey × D))
  /-- a dict whose keys are numbers and texts -/
  | dk (P : Program) (w : World) (kvs : List (Key × D))
  /-- what a word of the heap tells -/
  | ex (pr : Heap → Prop)
abbrev Own := Addr → Option OC
def updO (O : Own) (p : Addr) (c : OC) : Own := fun a => if a = p then some c else O a
def delO (O : Own) (p : Addr) : Own := fun a => if a = p then none else O a
theorem updO_same {O : Own} {p : Addr} {c : OC} : updO O p c p = some c := if_pos rfl
theorem updO_ne {O : Own} {p a : Addr} {c : OC} (h : a ≠ p) : updO O p c a = O a := if_neg h
theorem updO_updO {O : Own} {p : Addr} {c c' : OC} : updO (updO O p c) p c' = updO O p c' := by
  funext a; unfold updO; split <;> rfl
theorem updO_self {O : Own} {p : Addr} {c : OC} (h : O p = some c) : updO O p c = O := by
  funext a; unfold updO; split
  · subst_vars; exact h.symm
  · rfl
theorem delO_updO {O : Own} {p : Addr} {c : OC} (h : O p = none) : delO (updO O p c) p = O := by
  funext a; unfold delO updO; split
  · subst_vars; exact h.symm
  · rfl
/-- what O holds, O' holds -/
def Sub (O O' : Own) : Prop := ∀ a c, O a = some c → O' a = some c
theorem Sub.refl (O : Own) : Sub O O := fun _ _ h => h
theorem Sub.trans {O O1 O2 : Own} (a : Sub O O1) (b : Sub O1 O2) : Sub O O2 := fun x c h => b x c (a x c h)
theorem Sub.new {O : Own} {p : Addr} {c : OC} (h : O p = none) : Sub O (updO O p c) := fun a x e => by
  by_cases ha : a = p
  · subst ha; rw [h] at e; cases e
  · rw [updO_ne ha]; exact e
/-- p is not of O: it may be written -/
theorem Sub.put {O O' : Own} {p : Addr} {c : OC} (s : Sub O O') (h : O p = none) : Sub O (updO O' p c) := fun a x e => by
  by_cases ha : a = p
  · subst ha; rw [h] at e; cases e
  · rw [updO_ne ha]; exact s a x e

def OcR (K : PySem.W.Frag) (H Hd : Hp) (a : Addr) : OC → Prop
  | .lst ds => ∃ vs, H a = some (.lst vs) ∧ Reps K Hd vs ds
  | .any P => ∃ ds vs, P ds ∧ H a = some (.lst vs) ∧ Reps K Hd vs ds
  | .ins C fs => ∃ dx vs, H a = some (.ins C dx vs) ∧ RepF K Hd vs fs
  | .dt w kvs => ∃ o xs vs, H a = some (DtO a o w xs) ∧ DtOk a xs (kvs.map (·.1)) vs ∧ Reps K Hd (xs.map fun x => V.ref x.2.1) (kvs.map fun p => keyD p.1) ∧ Reps K Hd vs (kvs.map (·.2))
  | .dk P w kvs => ∃ o us vs, H a = some (DkO P w a o us) ∧ DkOk a us (kvs.map (·.1)) vs ∧ Reps K Hd vs (kvs.map (·.2))
  | .ex pr => H a = some (.ext pr)
  | .tab q => ∃ ps, H a = some (.tbl ps) ∧ TriplesOk ps.toList ∧ ∀ (pos : Pos) (cv : Value), codeAmong pos ps.toList = some cv → ∃ c, cv = .ref c ∧ Hd c = some (LamX.CodeO c q)
theorem OcR.mono {K : PySem.W.Frag} {H H' Hd Hd' : Hp} {a : Addr} {c : OC} (h : OcR K H Hd a c) (e : H' a = H a) (s : Same Hd Hd') : OcR K H' Hd' a c := by
  cases c with
  | lst ds => obtain ⟨vs, h1, h2⟩ := h; exact ⟨vs, e.trans h1, h2.mono s⟩
  | any P => obtain ⟨ds, vs, p, h1, h2⟩ := h; exact ⟨ds, vs, p, e.trans h1, h2.mono s⟩
  | ins C fs => obtain ⟨dx, vs, h1, h2⟩ := h; exact ⟨dx, vs, e.trans h1, h2.mono s⟩
  | dt w kvs => obtain ⟨o, xs, vs, h1, h2, h3, h4⟩ := h; exact ⟨o, xs, vs, e.trans h1, h2, h3.mono s, h4.mono s⟩
  | dk P w kvs => obtain ⟨o, us, vs, h1, h2, h4⟩ := h; exact ⟨o, us, vs, e.trans h1, h2, h4.mono s⟩
  | ex pr => exact e.trans h
  | tab q => obtain ⟨ps, h1, h2, h3⟩ := h; exact ⟨ps, e.trans h1, h2, fun pos cv hc => let ⟨c, e1, e2⟩ := h3 pos cv hc; ⟨c, e1, s _ _ e2⟩⟩
theorem OcR.there {K : PySem.W.Frag} {H Hd : Hp} {a : Addr} {c : OC} (h : OcR K H Hd a c) : H a ≠ none := by
  cases c with
  | lst ds => obtain ⟨vs, h1, h2⟩ := h; rw [h1]; exact fun z => nomatch z
  | any P => obtain ⟨ds, vs, p, h1, h2⟩ := h; rw [h1]; exact fun z => nomatch z
  | ins C fs => obtain ⟨dx, vs, h1, h2⟩ := h; rw [h1]; exact fun z => nomatch z
  | dt w kvs => obtain ⟨o, xs, vs, h1, _⟩ := h; rw [h1]; exact fun z => nomatch z
  | dk P w kvs => obtain ⟨o, us, vs, h1, _⟩ := h; rw [h1]; exact fun z => nomatch z
  | tab q => obtain ⟨ps, h1, _⟩ := h; rw [h1]; exact fun z => nomatch z
  | ex pr => rw [show H a = _ from h]; exact fun z => nomatch z
theorem same_new {H : Hp} {p : Addr} {o : HO} (h : H p = none) : Same H (upd H p o) := fun b x e => by
  rw [upd_ne (ne_of_none e h)]; exact e

structure AbsH (K : PySem.W.Frag) (H Hd : Hp) (O : Own) : Prop where
  same : Same Hd H
  own : ∀ a c, O a = some c → Hd a = none ∧ OcR K H Hd a c
section
variable {K : PySem.W.Frag} {H Hd : Hp} {O O' : Own} {p : Addr}
theorem AbsH.free (h : AbsH K H Hd O) (n : H p = none) : Hd p = none := h.same.free n
theorem AbsH.freeO (h : AbsH K H Hd O) (n : H p = none) : O p = none := by
  cases e : O p with
  | none => rfl
  | some c => exact absurd n (h.own p c e).2.there
theorem AbsH.sub (h : AbsH K H Hd O) (s : Sub O' O) : AbsH K H Hd O' := ⟨h.same, fun a c e => h.own a c (s a c e)⟩
/-- a fixed object is laid -/
theorem AbsH.lay {o : HO} (h : AbsH K H Hd O) (n : H p = none) : AbsH K (upd H p o) (upd Hd p o) O := by
  have s := same_new (o := o) (h.free n)
  refine ⟨fun b x e => ?_, fun a c e => ?_⟩
  · by_cases hb : b = p
    · subst hb; rw [upd_same] at e ⊢; exact e
    · rw [upd_ne hb] at e ⊢; exact h.same b x e
  · obtain ⟨h1, h2⟩ := h.own a c e
    have ne : a ≠ p := fun z => by subst z; exact h2.there n
    exact ⟨by rw [upd_ne ne]; exact h1, h2.mono (upd_ne ne) s⟩
/-- another object is laid: not spoken of -/
theorem AbsH.aside {o : HO} (h : AbsH K H Hd O) (n : H p = none) : AbsH K (upd H p o) Hd O :=
  ⟨h.same.trans (same_new n), fun a c e => by
    obtain ⟨h1, h2⟩ := h.own a c e
    have ne : a ≠ p := fun z => by subst z; exact h2.there n
    exact ⟨h1, h2.mono (upd_ne ne) (Same.refl _)⟩⟩
/-- an owned object is laid, or written -/
theorem AbsH.put {o : HO} {c : OC} (h : AbsH K H Hd O) (n : Hd p = none) (r : OcR K (upd H p o) Hd p c) : AbsH K (upd H p o) Hd (updO O p c) := by
  refine ⟨fun b x e => ?_, fun a c' e => ?_⟩
  · rw [upd_ne (ne_of_none e n)]; exact h.same b x e
  · by_cases ha : a = p
    · subst ha; rw [updO_same] at e; cases e; exact ⟨n, r⟩
    · rw [updO_ne ha] at e
      obtain ⟨h1, h2⟩ := h.own a c' e
      exact ⟨h1, h2.mono (upd_ne ha) (Same.refl _)⟩
theorem AbsH.putL {xs : List V} {ds : List D} (h : AbsH K H Hd O) (n : Hd p = none) (r : Reps K Hd xs ds) : AbsH K (upd H p (.lst xs)) Hd (updO O p (.lst ds)) :=
  h.put n ⟨xs, upd_same, r⟩
/-- what was owned is fixed from now on -/
theorem AbsH.fix {ds : List D} (h : AbsH K H Hd O) (e : O p = some (.lst ds)) : ∃ Hd', Same Hd Hd' ∧ AbsH K H Hd' (delO O p) ∧ Rep K Hd' (.ref p) (.lst ds) := by
  obtain ⟨n, vs, h1, h2⟩ := h.own p _ e
  have s := same_new (o := HO.lst vs) n
  refine ⟨upd Hd p (.lst vs), s, ⟨fun b x q => ?_, fun a c q => ?_⟩, .lst upd_same (h2.mono s)⟩
  · by_cases hb : b = p
    · subst hb; rw [upd_same] at q; cases q; exact h1
    · rw [upd_ne hb] at q; exact h.same b x q
  · have ne : a ≠ p := fun z => by subst z; simp [delO] at q
    have q' : O a = some c := by simpa [delO, ne] using q
    obtain ⟨g1, g2⟩ := h.own a c q'
    exact ⟨by rw [upd_ne ne]; exact g1, g2.mono rfl s⟩
theorem AbsH.fixI {C : Addr} {fs : List (Str × D)} (h : AbsH K H Hd O) (e : O p = some (.ins C fs)) : ∃ Hd', Same Hd Hd' ∧ AbsH K H Hd' (delO O p) ∧ Rep K Hd' (.ref p) (.ins C fs) := by
  obtain ⟨n, dx, vs, h1, h2⟩ := h.own p _ e
  have s := same_new (o := HO.ins C dx vs) n
  refine ⟨upd Hd p (.ins C dx vs), s, ⟨fun b x q => ?_, fun a c q => ?_⟩, .ins upd_same (h2.mono s)⟩
  · by_cases hb : b = p
    · subst hb; rw [upd_same] at q; cases q; exact h1
    · rw [upd_ne hb] at q; exact h.same b x q
  · have ne : a ≠ p := fun z => by subst z; simp [delO] at q
    have q' : O a = some c := by simpa [delO, ne] using q
    obtain ⟨g1, g2⟩ := h.own a c q'
    exact ⟨by rw [upd_ne ne]; exact g1, g2.mono rfl s⟩
/-- an owned list by a word, opened and closed -/
theorem AbsH.opn {Pw : List D → Prop} (h : AbsH K H Hd O) (e : O p = some (.any Pw)) : ∃ ds, Pw ds ∧ AbsH K H Hd (updO O p (.lst ds)) := by
  obtain ⟨n, ds, vs, q, h1, h2⟩ := h.own p _ e
  refine ⟨ds, q, h.same, fun a c z => ?_⟩
  by_cases ha : a = p
  · subst ha; rw [updO_same] at z; cases z; exact ⟨n, vs, h1, h2⟩
  · rw [updO_ne ha] at z; exact h.own a c z
theorem AbsH.cls {Pw : List D → Prop} {ds : List D} (h : AbsH K H Hd O) (e : O p = some (.lst ds)) (q : Pw ds) : AbsH K H Hd (updO O p (.any Pw)) := by
  obtain ⟨n, vs, h1, h2⟩ := h.own p _ e
  refine ⟨h.same, fun a c z => ?_⟩
  by_cases ha : a = p
  · subst ha; rw [updO_same] at z; cases z; exact ⟨n, ds, vs, q, h1, h2⟩
  · rw [updO_ne ha] at z; exact h.own a c z
end

/-- the items of a list that is to be read -/
def asL (O : Own) : D → Option (List D)
  | .lst xs => some xs
  | .rol xs => some xs
  | .obj p => match O p with
    | some (.lst xs) => some xs
    | _ => none
  | _ => none
theorem asL_obj {O : Own} {p : Addr} {xs : List D} (h : O p = some (.lst xs)) : asL O (.obj p) = some xs := by
  simp [asL, h]
theorem AbsH.readL {K : PySem.W.Frag} {H Hd : Hp} {O : Own} (h : AbsH K H Hd O) {v : V} {x : D} {xs : List D} (r : Rep K Hd v x) (e : asL O x = some xs) : ∃ a vs, v = .ref a ∧ SqL K H a vs ∧ Reps K Hd vs xs := by
  cases r with
  | lst g q => simp [asL] at e; subst e; exact ⟨_, _, rfl, .inl (.inl (h.same _ _ g)), q⟩
  | rol g q => simp [asL] at e; subst e; exact ⟨_, _, rfl, Same.sqL h.same g, q⟩
  | obj a =>
    simp only [asL] at e
    split at e
    · rename_i ds z
      cases e
      obtain ⟨_, vs, h1, h2⟩ := h.own a _ z
      exact ⟨a, vs, rfl, .inl (.inl h1), h2⟩
    · cases e
  | _ => simp [asL] at e
/-- .. a tracked one -/
def asM (O : Own) : D → Option (List D)
  | .lst xs => some xs
  | .obj p => match O p with
    | some (.lst xs) => some xs
    | _ => none
  | _ => none
theorem asM_obj {O : Own} {p : Addr} {xs : List D} (h : O p = some (.lst xs)) : asM O (.obj p) = some xs := by
  simp [asM, h]
theorem AbsH.readM {K : PySem.W.Frag} {H Hd : Hp} {O : Own} (h : AbsH K H Hd O) {v : V} {x : D} {xs : List D} (r : Rep K Hd v x) (e : asM O x = some xs) : ∃ a vs, v = .ref a ∧ H a = some (.lst vs) ∧ Reps K Hd vs xs := by
  cases r with
  | lst g q => simp [asM] at e; subst e; exact ⟨_, _, rfl, h.same _ _ g, q⟩
  | obj a =>
    simp only [asM] at e
    split at e
    · rename_i ds z
      cases e
      obtain ⟨_, vs, h1, h2⟩ := h.own a _ z
      exact ⟨a, vs, rfl, h1, h2⟩
    · cases e
  | _ => simp [asM] at e

/-! ### slots -/
abbrev Env' := List (Option D)
def AbsG (K : PySem.W.Frag) (Hd : Hp) (σ : L2.St) (Γ : Env') : Prop := σ.length = Γ.length ∧ ∀ (i : Nat) (d : D), Γ[i]? = some (some d) → ∃ v, σ[i]? = some (some v) ∧ Rep K Hd v d
section
variable {K : PySem.W.Frag} {Hd Hd' : Hp} {σ : L2.St} {Γ : Env'}
theorem AbsG.mono (g : AbsG K Hd σ Γ) (s : Same Hd Hd') : AbsG K Hd' σ Γ := ⟨g.1, fun i d e => let ⟨v, a, b⟩ := g.2 i d e; ⟨v, a, b.mono s⟩⟩
theorem AbsG.set {i : Nat} {v : V} {d : D} (g : AbsG K Hd σ Γ) (r : Rep K Hd v d) : AbsG K Hd (σ.set i (some v)) (Γ.set i (some d)) := by
  refine ⟨by simp [g.1], fun j e h => ?_⟩
  by_cases hj : i = j
  · subst hj
    have hl : i < Γ.length := by
      have := (List.getElem?_eq_some_iff.mp h).1
      simpa using this
    rw [List.getElem?_set_self hl] at h
    cases h
    exact ⟨v, by rw [List.getElem?_set_self (by rw [g.1]; exact hl)], r⟩
  · rw [List.getElem?_set_ne hj] at h
    obtain ⟨w, h1, h2⟩ := g.2 j e h
    exact ⟨w, by rw [List.getElem?_set_ne hj]; exact h1, h2⟩
/-- forgetting -/
theorem AbsG.weak {Γ' : Env'} (g : AbsG K Hd σ Γ) (hl : Γ'.length = Γ.length) (h : ∀ (i : Nat) (d : D), Γ'[i]? = some (some d) → Γ[i]? = some (some d)) : AbsG K Hd σ Γ' :=
  ⟨g.1.trans hl.symm, fun i d e => g.2 i d (h i d e)⟩
def wipeD (Γ : Env') : List Nat → Env'
  | [] => Γ
  | v :: vs => (wipeD Γ vs).set v none
theorem wipeD_length (Γ : Env') : ∀ vs : List Nat, (wipeD Γ vs).length = Γ.length
  | [] => rfl
  | v :: vs => by unfold wipeD; rw [List.length_set, wipeD_length Γ vs]
theorem AbsG.setNone {i : Nat} (g : AbsG K Hd σ Γ) : AbsG K Hd (σ.set i none) (Γ.set i none) := by
  refine ⟨by simp [g.1], fun j e h => ?_⟩
  by_cases hj : i = j
  · subst hj
    have hl : i < Γ.length := by
      have := (List.getElem?_eq_some_iff.mp h).1
      simpa using this
    rw [List.getElem?_set_self hl] at h
    cases h
  · rw [List.getElem?_set_ne hj] at h
    obtain ⟨w, h1, h2⟩ := g.2 j e h
    exact ⟨w, by rw [List.getElem?_set_ne hj]; exact h1, h2⟩
theorem AbsG.wipe (g : AbsG K Hd σ Γ) : ∀ vs : List Nat, AbsG K Hd (L2.wipe σ vs) (wipeD Γ vs)
  | [] => g
  | v :: vs => (AbsG.wipe g vs).setNone
/-- a list at p is told by its items -/
theorem AbsG.subst {p : Addr} {d : D} (g : AbsG K Hd σ Γ) (r : Rep K Hd (.ref p) d) {i : Nat} (h : Γ[i]? = some (some (.obj p))) : AbsG K Hd σ (Γ.set i (some d)) := by
  refine ⟨by simp [g.1], fun j e q => ?_⟩
  by_cases hj : i = j
  · subst hj
    have hl : i < Γ.length := (List.getElem?_eq_some_iff.mp h).1
    rw [List.getElem?_set_self hl] at q
    cases q
    obtain ⟨v, h1, h2⟩ := g.2 i _ h
    cases h2
    exact ⟨_, h1, r⟩
  · rw [List.getElem?_set_ne hj] at q
    exact g.2 j e q
end

/-! ### exceptions -/
structure Ex where
  cls : Value
  fs : List (Str × D)
def ERep (K : PySem.W.Frag) (H Hd : Hp) (cls : Value) (d : Option Addr) (e : Ex) : Prop := cls = e.cls ∧ ∃ (C dx : Addr), e.cls = .ref C ∧ d = some dx ∧ ∃ vs, H dx = some (.xd vs) ∧ RepF K Hd vs e.fs
abbrev ExP := Ex → Env' → Own → Prop
def noEx : ExP := fun _ _ _ => False

structure Pre (X : Cx) (E : ExP) (W : WX) (σ : L2.St) (H Hd : Hp) (Γ : Env') (O : Own) : Prop where
  tk : Takes X W
  g : AbsG X.K Hd σ Γ
  h : AbsH X.K H Hd O
  ex : ∀ (cls : Value) (d : Option Addr) (σ' : L2.St) (H' Hd' : Hp) (e : Ex) (Γ' : Env') (O' : Own), Same Hd Hd' → AbsG X.K Hd' σ' Γ' → AbsH X.K H' Hd' O' → ERep X.K H' Hd' cls d e → E e Γ' O' → W cls d σ' H'
section
variable {X : Cx} {E : ExP} {W : WX} {σ σ' : L2.St} {H H' Hd Hd' : Hp} {Γ Γ' : Env'} {O O' : Own}
theorem Pre.go (p : Pre X E W σ H Hd Γ O) (s : Same Hd Hd') (h : AbsH X.K H' Hd' O') : Pre X E W σ H' Hd' Γ O' :=
  ⟨p.tk, p.g.mono s, h, fun cls d σ1 H1 Hd1 e Γ1 O1 s1 => p.ex cls d σ1 H1 Hd1 e Γ1 O1 (s.trans s1)⟩
theorem Pre.go2 (p : Pre X E W σ H Hd Γ O) (s : Same Hd Hd') (h : AbsH X.K H' Hd' O') (g : AbsG X.K Hd' σ' Γ') : Pre X E W σ' H' Hd' Γ' O' :=
  ⟨p.tk, g, h, fun cls d σ1 H1 Hd1 e Γ1 O1 s1 => p.ex cls d σ1 H1 Hd1 e Γ1 O1 (s.trans s1)⟩
end

/-! ### the weakest readings -/
def wE (X : Cx) (e : Expr) : TE := fun σ H Q => ∀ (pins : List (Addr × Obj)) (s : Shared), Inv X pins σ H s → wpAny (model X.prog X.w) X.A (eval e X.env) (EP X pins σ Q) X.xe s
theorem peW {X : Cx} {e : Expr} : PE X e (wE X e) := ⟨fun pins s σ H Q I h => h pins s I⟩
theorem wE_of {X : Cx} {e : Expr} {t : TE} (h : PE X e t) {σ : L2.St} {H : Hp} {Q : VK} (q : t σ H Q) : wE X e σ H Q := fun pins s I => h.run pins s σ H Q I q
theorem wE_mono {X : Cx} {e : Expr} {σ : L2.St} {H : Hp} {Q Q' : VK} (h : wE X e σ H Q) (k : ∀ v H', Q v H' → Q' v H') : wE X e σ H Q' := fun pins s I =>
  thn (h pins s I) fun _ _ ⟨v, H', I', r, q⟩ => ⟨v, H', I', r, k v H' q⟩
def wT (X : Cx) (e : Expr) : TT := fun σ H Q => ∀ (pins : List (Addr × Obj)) (s : Shared), Inv X pins σ H s → wpAny (model X.prog X.w) X.A (isTrue e X.env (eval e X.env)) (TP X pins σ Q) X.xe s
theorem ptW {X : Cx} {e : Expr} : PT X e (wT X e) := ⟨fun pins s σ H Q I h => h pins s I⟩
theorem wT_of {X : Cx} {e : Expr} {t : TT} (h : PT X e t) {σ : L2.St} {H : Hp} {Q : Bool → Hp → Prop} (q : t σ H Q) : wT X e σ H Q := fun pins s I => h.run pins s σ H Q I q
theorem wT_mono {X : Cx} {e : Expr} {σ : L2.St} {H : Hp} {Q Q' : Bool → Hp → Prop} (h : wT X e σ H Q) (k : ∀ v H', Q v H' → Q' v H') : wT X e σ H Q' := fun pins s I =>
  thn (h pins s I) fun _ _ ⟨H', I', q⟩ => ⟨H', I', k _ H' q⟩
/-- a test within and, or: whatever the whole is -/
def wW (X : Cx) (e : Expr) : TT := fun σ H Q => ∀ (whole : Sem Value) (pins : List (Addr × Obj)) (s : Shared), Inv X pins σ H s → wpAny (model X.prog X.w) X.A (isTrue e X.env whole) (TP X pins σ Q) X.xe s
theorem pwW {X : Cx} {e : Expr} : PW X e (wW X e) := ⟨fun wh pins s σ H Q I h => h wh pins s I⟩
theorem wW_of {X : Cx} {e : Expr} {t : TT} (h : PW X e t) {σ : L2.St} {H : Hp} {Q : Bool → Hp → Prop} (q : t σ H Q) : wW X e σ H Q := fun wh pins s I => h.run wh pins s σ H Q I q
theorem wW_mono {X : Cx} {e : Expr} {σ : L2.St} {H : Hp} {Q Q' : Bool → Hp → Prop} (h : wW X e σ H Q) (k : ∀ v H', Q v H' → Q' v H') : wW X e σ H Q' := fun wh pins s I =>
  thn (h wh pins s I) fun _ _ ⟨H', I', q⟩ => ⟨H', I', k _ H' q⟩
theorem wT_W {X : Cx} {e : Expr} {σ : L2.St} {H : Hp} {Q : Bool → Hp → Prop} (h : wW X e σ H Q) : wT X e σ H Q := fun pins s I => h _ pins s I
def wA (X : Cx) (es : List Expr) : TA := fun σ H Q => ∀ (pos : Pos) (pins : List (Addr × Obj)) (s : Shared), Inv X pins σ H s → wpAny (model X.prog X.w) X.A (spliced (backTo pos (starEach es X.env))) (AP X pins σ Q) X.xe s
theorem paW {X : Cx} {es : List Expr} : PA X es (wA X es) := ⟨fun pos pins s σ H Q I h => h pos pins s I⟩
theorem wA_of {X : Cx} {es : List Expr} {t : TA} (h : PA X es t) {σ : L2.St} {H : Hp} {Q : List V → Hp → Prop} (q : t σ H Q) : wA X es σ H Q := fun pos pins s I => h.run pos pins s σ H Q I q
theorem wA_mono {X : Cx} {es : List Expr} {σ : L2.St} {H : Hp} {Q Q' : List V → Hp → Prop} (h : wA X es σ H Q) (k : ∀ v H', Q v H' → Q' v H') : wA X es σ H Q' := fun pos pins s I =>
  thn (h pos pins s I) fun _ _ ⟨v, H', I', r, q⟩ => ⟨v, H', I', r, k v H' q⟩
def wS (X : Cx) (st : Stmt) : TS := fun De σ H => ∀ (pins : List (Addr × Obj)) (s : Shared), Inv X pins σ H s → wpAny (model X.prog X.w) X.A (exec st X.env) (SP X pins De) X.xe s
theorem psW {X : Cx} {st : Stmt} : PS X st (wS X st) := ⟨fun pins s σ H De I h => h pins s I⟩
theorem wS_of {X : Cx} {st : Stmt} {t : TS} (h : PS X st t) {σ : L2.St} {H : Hp} {De : Ends} (q : t De σ H) : wS X st De σ H := fun pins s I => h.run pins s σ H De I q
def wSs (X : Cx) (st : List Stmt) : TS := fun De σ H => ∀ (pins : List (Addr × Obj)) (s : Shared), Inv X pins σ H s → wpAny (model X.prog X.w) X.A (execs st X.env) (SP X pins De) X.xe s
theorem pssW {X : Cx} {st : List Stmt} : PSs X st (wSs X st) := ⟨fun pins s σ H De I h => h pins s I⟩
theorem wSs_of {X : Cx} {st : List Stmt} {t : TS} (h : PSs X st t) {σ : L2.St} {H : Hp} {De : Ends} (q : t De σ H) : wSs X st De σ H := fun pins s I => h.run pins s σ H De I q
structure EndsLe (De De' : Ends) : Prop where
  nx : ∀ σ H, De.nx σ H → De'.nx σ H
  rt : ∀ v H, De.rt v H → De'.rt v H
  bk : ∀ σ H, De.bk σ H → De'.bk σ H
  ct : ∀ σ H, De.ct σ H → De'.ct σ H
theorem SP_mono {X : Cx} {pins : List (Addr × Obj)} {De De' : Ends} (k : EndsLe De De') {f : Flow} {s' : Shared} (h : SP X pins De f s') : SP X pins De' f s' := by
  cases f with
  | next => obtain ⟨σ', H', I, q⟩ := h; exact ⟨σ', H', I, k.nx _ _ q⟩
  | brk => obtain ⟨σ', H', I, q⟩ := h; exact ⟨σ', H', I, k.bk _ _ q⟩
  | cont => obtain ⟨σ', H', I, q⟩ := h; exact ⟨σ', H', I, k.ct _ _ q⟩
  | ret u => obtain ⟨v, σ', H', I, r, q⟩ := h; exact ⟨v, σ', H', I, r, k.rt _ _ q⟩
theorem wS_mono {X : Cx} {st : Stmt} {σ : L2.St} {H : Hp} {De De' : Ends} (h : wS X st De σ H) (k : EndsLe De De') : wS X st De' σ H := fun pins s I => thn (h pins s I) fun _ _ q => SP_mono k q
theorem wSs_mono {X : Cx} {st : List Stmt} {σ : L2.St} {H : Hp} {De De' : Ends} (h : wSs X st De σ H) (k : EndsLe De De') : wSs X st De' σ H := fun pins s I => thn (h pins s I) fun _ _ q => SP_mono k q
def wG (X : Cx) (tg : Expr) : TG := fun v σ H Q => ∀ (pins : List (Addr × Obj)) (s : Shared) (u : Value), Inv X pins σ H s → RelV v u → wpAny (model X.prog X.w) X.A (assign tg X.env u) (fun _ s' => ∃ σ' H', Inv X pins σ' H' s' ∧ Q σ' H') X.xe s
theorem pgW {X : Cx} {tg : Expr} : PG X tg (wG X tg) := ⟨fun pins s σ H v u Q I r h => h pins s u I r⟩
theorem wG_of {X : Cx} {tg : Expr} {t : TG} (h : PG X tg t) {v : V} {σ : L2.St} {H : Hp} {Q : L2.St → Hp → Prop} (q : t v σ H Q) : wG X tg v σ H Q := fun pins s u I r => h.run pins s σ H v u Q I r q
theorem wG_mono {X : Cx} {tg : Expr} {v : V} {σ : L2.St} {H : Hp} {Q Q' : L2.St → Hp → Prop} (h : wG X tg v σ H Q) (k : ∀ σ' H', Q σ' H' → Q' σ' H') : wG X tg v σ H Q' := fun pins s u I r =>
  thn (h pins s u I r) fun _ _ ⟨σ', H', I', q⟩ => ⟨σ', H', I', k _ _ q⟩
def wGs (X : Cx) (ts : List Expr) : TGs := fun vs σ H Q => ∀ (pins : List (Addr × Obj)) (s : Shared) (us : List Value), Inv X pins σ H s → Vals vs us → wpAny (model X.prog X.w) X.A (assignInOrder ((assignEach ts X.env).map (·.2)) us) (fun _ s' => ∃ σ' H', Inv X pins σ' H' s' ∧ Q σ' H') X.xe s
theorem pgsW {X : Cx} {ts : List Expr} : PGs X ts (wGs X ts) := ⟨fun pins s σ H v u Q I r h => h pins s u I r⟩
theorem wGs_of {X : Cx} {ts : List Expr} {t : TGs} (h : PGs X ts t) {vs : List V} {σ : L2.St} {H : Hp} {Q : L2.St → Hp → Prop} (q : t vs σ H Q) : wGs X ts vs σ H Q := fun pins s u I r => h.run pins s σ H vs u Q I r q
theorem wGs_mono {X : Cx} {ts : List Expr} {vs : List V} {σ : L2.St} {H : Hp} {Q Q' : L2.St → Hp → Prop} (h : wGs X ts vs σ H Q) (k : ∀ σ' H', Q σ' H' → Q' σ' H') : wGs X ts vs σ H Q' := fun pins s u I r =>
  thn (h pins s u I r) fun _ _ ⟨σ', H', I', q⟩ => ⟨σ', H', I', k _ _ q⟩
def wI (X : Cx) (tg iter : Expr) : TI := fun σ H R => ∀ (pins : List (Addr × Obj)) (s : Shared), Inv X pins σ H s →
    wpAny (model X.prog X.w) X.A (eval iter X.env) (fun v s1 => wpAny (model X.prog X.w) X.A (pyIter v) (PIE X pins σ tg R) X.xe s1) X.xe s
theorem piW {X : Cx} {tg iter : Expr} : PI X tg iter (wI X tg iter) := ⟨fun pins s σ H R I h => h pins s I⟩
theorem wI_of {X : Cx} {tg iter : Expr} {t : TI} (h : PI X tg iter t) {σ : L2.St} {H : Hp} {R : It → Hp → Prop} (q : t σ H R) : wI X tg iter σ H R := fun pins s I => h.run pins s σ H R I q

/-! ### the layer's own readings -/
abbrev PD := D → Own → Prop
def Post (K : PySem.W.Frag) (Hd : Hp) (Q : PD) : VK := fun v H' => ∃ d O' Hd', Same Hd Hd' ∧ AbsH K H' Hd' O' ∧ Rep K Hd' v d ∧ Q d O'
theorem Post.lift {K : PySem.W.Frag} {Hd Hd' : Hp} {Q : PD} {v : V} {H' : Hp} (s : Same Hd Hd') (p : Post K Hd' Q v H') : Post K Hd Q v H' :=
  let ⟨d, O', Hd2, s2, h, r, q⟩ := p; ⟨d, O', Hd2, s.trans s2, h, r, q⟩
structure WE (X : Cx) (E : ExP) (e : Expr) (Γ : Env') (O : Own) (Q : PD) : Prop where
  run : ∀ (W : WX) (σ : L2.St) (H Hd : Hp), Pre X E W σ H Hd Γ O → wE X e σ H (Post X.K Hd Q)
def PostT (K : PySem.W.Frag) (Hd : Hp) (Q : Bool → Own → Prop) : Bool → Hp → Prop := fun b H' => ∃ O' Hd', Same Hd Hd' ∧ AbsH K H' Hd' O' ∧ Q b O'
structure WT (X : Cx) (E : ExP) (e : Expr) (Γ : Env') (O : Own) (Q : Bool → Own → Prop) : Prop where
  run : ∀ (W : WX) (σ : L2.St) (H Hd : Hp), Pre X E W σ H Hd Γ O → wT X e σ H (PostT X.K Hd Q)
structure WW (X : Cx) (E : ExP) (e : Expr) (Γ : Env') (O : Own) (Q : Bool → Own → Prop) : Prop where
  run : ∀ (W : WX) (σ : L2.St) (H Hd : Hp), Pre X E W σ H Hd Γ O → wW X e σ H (PostT X.K Hd Q)
def PostA (K : PySem.W.Frag) (Hd : Hp) (Q : List D → Own → Prop) : List V → Hp → Prop := fun vs H' => ∃ ds O' Hd', Same Hd Hd' ∧ AbsH K H' Hd' O' ∧ Reps K Hd' vs ds ∧ Q ds O'
structure WA (X : Cx) (E : ExP) (es : List Expr) (Γ : Env') (O : Own) (Q : List D → Own → Prop) : Prop where
  run : ∀ (W : WX) (σ : L2.St) (H Hd : Hp), Pre X E W σ H Hd Γ O → wA X es σ H (PostA X.K Hd Q)
structure EndsD where
  nx : Env' → Own → Prop
  rt : PD
  bk : Env' → Own → Prop := fun _ _ => False
  ct : Env' → Own → Prop := fun _ _ => False
def PostS (K : PySem.W.Frag) (Hd : Hp) (Q : Env' → Own → Prop) : L2.St → Hp → Prop := fun σ' H' => ∃ Γ' O' Hd', Same Hd Hd' ∧ AbsG K Hd' σ' Γ' ∧ AbsH K H' Hd' O' ∧ Q Γ' O'
theorem PostS.lift {K : PySem.W.Frag} {Hd Hd' : Hp} {Q : Env' → Own → Prop} {v : L2.St} {H' : Hp} (s : Same Hd Hd') (p : PostS K Hd' Q v H') : PostS K Hd Q v H' :=
  let ⟨d, O', Hd2, s2, h, r, q⟩ := p; ⟨d, O', Hd2, s.trans s2, h, r, q⟩
def ends (K : PySem.W.Frag) (Hd : Hp) (De : EndsD) : Ends := { nx := PostS K Hd De.nx, rt := Post K Hd De.rt, bk := PostS K Hd De.bk, ct := PostS K Hd De.ct }
theorem ends_lift {K : PySem.W.Frag} {Hd Hd' : Hp} {De : EndsD} (s : Same Hd Hd') : EndsLe (ends K Hd' De) (ends K Hd De) :=
  ⟨fun _ _ p => p.lift s, fun _ _ p => p.lift s, fun _ _ p => p.lift s, fun _ _ p => p.lift s⟩
structure WS (X : Cx) (E : ExP) (st : Stmt) (Γ : Env') (O : Own) (De : EndsD) : Prop where
  run : ∀ (W : WX) (σ : L2.St) (H Hd : Hp), Pre X E W σ H Hd Γ O → wS X st (ends X.K Hd De) σ H
structure WSs (X : Cx) (E : ExP) (st : List Stmt) (Γ : Env') (O : Own) (De : EndsD) : Prop where
  run : ∀ (W : WX) (σ : L2.St) (H Hd : Hp), Pre X E W σ H Hd Γ O → wSs X st (ends X.K Hd De) σ H
structure WG (X : Cx) (E : ExP) (tg : Expr) (d : D) (Γ : Env') (O : Own) (Q : Env' → Own → Prop) : Prop where
  run : ∀ (W : WX) (σ : L2.St) (H Hd : Hp) (v : V), Pre X E W σ H Hd Γ O → Rep X.K Hd v d → wG X tg v σ H (PostS X.K Hd Q)
structure WGs (X : Cx) (E : ExP) (ts : List Expr) (ds : List D) (Γ : Env') (O : Own) (Q : Env' → Own → Prop) : Prop where
  run : ∀ (W : WX) (σ : L2.St) (H Hd : Hp) (vs : List V), Pre X E W σ H Hd Γ O → Reps X.K Hd vs ds → wGs X ts vs σ H (PostS X.K Hd Q)
/-- what is walked: its items -/
def ItOf (K : PySem.W.Frag) (Hd : Hp) (G : Own → Prop) (J : It) (ds : List D) : Prop := ∀ (i : Nat) (H Hd1 : Hp) (O : Own), Same Hd Hd1 → AbsH K H Hd1 O → G O →
  (∀ d, ds[i]? = some d → J.go i H ∧ ∀ x H', J.yld i H x H' → ∃ Hd', Same Hd1 Hd' ∧ AbsH K H' Hd' O ∧ Rep K Hd' x d) ∧ (ds.length ≤ i → J.stop i H)
structure WI (X : Cx) (E : ExP) (tg iter : Expr) (Γ : Env') (O : Own) (R : (Own → Prop) → List D → Own → Prop) : Prop where
  run : ∀ (W : WX) (σ : L2.St) (H Hd : Hp), Pre X E W σ H Hd Γ O →
  wI X tg iter σ H (fun J H' => ∃ G ds O' Hd', Same Hd Hd' ∧ AbsH X.K H' Hd' O' ∧ ItOf X.K Hd' G J ds ∧ R G ds O')

section
variable {X : Cx} {E : ExP} {W : WX} {σ : L2.St} {H Hd : Hp} {Γ : Env'} {O : Own} {e : Expr} {Q : PD}
theorem WE.use (h : WE X E e Γ O Q) (p : Pre X E W σ H Hd Γ O) {Q' : VK} (k : ∀ v H' d O' Hd', Same Hd Hd' → Pre X E W σ H' Hd' Γ O' → Rep X.K Hd' v d → Q d O' → Q' v H') : wE X e σ H Q' :=
  wE_mono (h.run W σ H Hd p) fun v H' ⟨d, O', Hd', s, a, r, q⟩ => k v H' d O' Hd' s (p.go s a) r q
theorem WT.use {Q : Bool → Own → Prop} (h : WT X E e Γ O Q) (p : Pre X E W σ H Hd Γ O) {Q' : Bool → Hp → Prop} (k : ∀ b H' O' Hd', Same Hd Hd' → Pre X E W σ H' Hd' Γ O' → Q b O' → Q' b H') : wT X e σ H Q' :=
  wT_mono (h.run W σ H Hd p) fun b H' ⟨O', Hd', s, a, q⟩ => k b H' O' Hd' s (p.go s a) q
theorem WW.use {Q : Bool → Own → Prop} (h : WW X E e Γ O Q) (p : Pre X E W σ H Hd Γ O) {Q' : Bool → Hp → Prop} (k : ∀ b H' O' Hd', Same Hd Hd' → Pre X E W σ H' Hd' Γ O' → Q b O' → Q' b H') : wW X e σ H Q' :=
  wW_mono (h.run W σ H Hd p) fun b H' ⟨O', Hd', s, a, q⟩ => k b H' O' Hd' s (p.go s a) q
theorem WA.use {es : List Expr} {Q : List D → Own → Prop} (h : WA X E es Γ O Q) (p : Pre X E W σ H Hd Γ O) {Q' : List V → Hp → Prop} (k : ∀ v H' d O' Hd', Same Hd Hd' → Pre X E W σ H' Hd' Γ O' → Reps X.K Hd' v d → Q d O' → Q' v H') : wA X es σ H Q' :=
  wA_mono (h.run W σ H Hd p) fun v H' ⟨d, O', Hd', s, a, r, q⟩ => k v H' d O' Hd' s (p.go s a) r q
theorem WG.use {tg : Expr} {d : D} {Q : Env' → Own → Prop} (h : WG X E tg d Γ O Q) (p : Pre X E W σ H Hd Γ O) {v : V} (r : Rep X.K Hd v d) {Q' : L2.St → Hp → Prop} (k : ∀ σ' H' Γ' O' Hd', Same Hd Hd' → Pre X E W σ' H' Hd' Γ' O' → Q Γ' O' → Q' σ' H') : wG X tg v σ H Q' :=
  wG_mono (h.run W σ H Hd v p r) fun σ' H' ⟨Γ', O', Hd', s, g, a, q⟩ => k σ' H' Γ' O' Hd' s (p.go2 s a g) q
theorem WE.mono {Q' : PD} (h : WE X E e Γ O Q) (k : ∀ d O', Q d O' → Q' d O') : WE X E e Γ O Q' := .mk fun W σ H Hd p =>
  h.use p fun v H' d O' Hd' s p' r q => ⟨d, O', Hd', s, p'.h, r, k d O' q⟩
theorem WT.mono {Q Q' : Bool → Own → Prop} (h : WT X E e Γ O Q) (k : ∀ d O', Q d O' → Q' d O') : WT X E e Γ O Q' := .mk fun W σ H Hd p =>
  h.use p fun v H' O' Hd' s p' q => ⟨O', Hd', s, p'.h, k v O' q⟩
/-- what was held may be forgotten -/
theorem WE.sub {O' : Own} (s : Sub O' O) (h : WE X E e Γ O' Q) : WE X E e Γ O Q := .mk fun W σ H Hd p => h.run W σ H Hd ⟨p.tk, p.g, p.h.sub s, p.ex⟩
theorem WSs.sub {O' : Own} {st : List Stmt} {De : EndsD} (s : Sub O' O) (h : WSs X E st Γ O' De) : WSs X E st Γ O De := .mk fun W σ H Hd p => h.run W σ H Hd ⟨p.tk, p.g, p.h.sub s, p.ex⟩
/-- an owned list is fixed, and told by its items at the slots that hold it -/
theorem WSs.fix {p : Addr} {ds : List D} {st : List Stmt} {De : EndsD} {i : Nat} (hO : O p = some (.lst ds)) (hi : Γ[i]? = some (some (.obj p))) (h : WSs X E st (Γ.set i (some (.lst ds))) (delO O p) De) : WSs X E st Γ O De := .mk fun W σ H Hd q => by
  obtain ⟨Hd', s, a, r⟩ := q.h.fix hO
  exact wSs_mono (h.run W σ H Hd' (q.go2 s a ((q.g.mono s).subst r hi))) (ends_lift s)
/-- an owned list by a word is opened -/
theorem WSs.opn {p : Addr} {Pw : List D → Prop} {st : List Stmt} {De : EndsD} (hO : O p = some (.any Pw)) (h : ∀ ds, Pw ds → WSs X E st Γ (updO O p (.lst ds)) De) : WSs X E st Γ O De := .mk fun W σ H Hd q => by
  obtain ⟨ds, w, a⟩ := q.h.opn hO
  exact (h ds w).run W σ H Hd (q.go (Same.refl _) a)
/-- .. closed -/
theorem WSs.cls {p : Addr} {Pw : List D → Prop} {ds : List D} {st : List Stmt} {De : EndsD} (hO : O p = some (.lst ds)) (w : Pw ds) (h : WSs X E st Γ (updO O p (.any Pw)) De) : WSs X E st Γ O De := .mk fun W σ H Hd q =>
  h.run W σ H Hd (q.go (Same.refl _) (q.h.cls hO w))
end
end RW

/-! RW: names, constants, operators, comparisons, tests, displays, subscripts. -/
namespace RW
open PySem PySem.Spec PyProof.Rows L2

/-- a new list: fixed, or owned -/
def Mk (ds : List D) (O : Own) (Q : PD) : Prop := Q (.lst ds) O ∨ ∀ p, O p = none → Q (.obj p) (updO O p (.lst ds))
theorem Mk.fix {ds : List D} {O : Own} {Q : PD} (h : Q (.lst ds) O) : Mk ds O Q := .inl h
theorem Mk.own {ds : List D} {O : Own} {Q : PD} (h : ∀ p, O p = none → Q (.obj p) (updO O p (.lst ds))) : Mk ds O Q := .inr h
section
variable {K : PySem.W.Frag} {H Hd : Hp} {O : Own} {Q : PD}
theorem Post.of {v : V} {d : D} (h : AbsH K H Hd O) (r : Rep K Hd v d) (q : Q d O) : Post K Hd Q v H := ⟨d, O, Hd, Same.refl _, h, r, q⟩
theorem Post.mk {p : Addr} {vs : List V} {ds : List D} (h : AbsH K H Hd O) (n : H p = none) (r : Reps K Hd vs ds) (q : Mk ds O Q) : Post K Hd Q (.ref p) (upd H p (.lst vs)) := by
  rcases q with q | q
  · have s := same_new (o := HO.lst vs) (h.free n)
    exact ⟨.lst ds, O, _, s, h.lay n, .lst upd_same (r.mono s), q⟩
  · exact ⟨.obj p, _, Hd, Same.refl _, h.putL (h.free n) r, .obj p, q p (h.freeO n)⟩
theorem Post.mkT {p : Addr} {o : Obj} {vs : List V} {ds : List D} (h : AbsH K H Hd O) (n : H p = none) (hd : o.dict = none) (r : Reps K Hd vs ds) (q : Q (.tup ds) O) : Post K Hd Q (.ref p) (upd H p (.frz o (.tup vs))) := by
  have s := same_new (o := HO.frz o (.tup vs)) (h.free n)
  exact ⟨.tup ds, O, _, s, h.lay n, .tup (.inl ⟨o, upd_same, hd⟩) (r.mono s), q⟩
end

section
variable {X : Cx} {E : ExP} {Γ : Env'} {O : Own} {e a b : Expr} {Q : PD} {pos : Pos}

theorem w_var (i : Nat) {x : Str} {d : D} (hd : Γ[i]? = some (some d)) (q : Q d O) (hN : X.N[i]? = some x := by rfl) (hv : Vis X.env.scope x := by first | exact Or.inl rfl | exact Or.inr (Or.inl rfl) | exact Or.inr (Or.inr rfl))
    (h1 : (x == ("__debug__" : Str)) = false := by decide) (h2 : (x == ("__classdict__" : Str)) = false := by decide) : WE X E (.Name x pos) Γ O Q := .mk fun W σ H Hd p =>
  wE_of (pv i hN hv h1 h2) (let ⟨v, e, r⟩ := p.g.2 i d hd; ⟨v, e, .of p.h r q⟩)
theorem w_int {i : Int} {j : Nat} (q : Q (.int i) O) : WE X E (.Constant (.int i) j pos) Γ O Q := .mk fun W σ H Hd p => wE_of pe_int (.of p.h (.int i) q)
theorem w_bl {i : Bool} {j : Nat} (q : Q (.bl i) O) : WE X E (.Constant (.bool i) j pos) Γ O Q := .mk fun W σ H Hd p => wE_of pe_bl (.of p.h (.bl i) q)
theorem w_non {j : Nat} (q : Q .non O) : WE X E (.Constant .none j pos) Γ O Q := .mk fun W σ H Hd p => wE_of pe_non (.of p.h .non q)
theorem w_str {x : Str} {j : Nat} (q : Q (.str x) O) : WE X E (.Constant (.str x) j pos) Γ O Q := .mk fun W σ H Hd p => wE_of pe_str (.of p.h (.str x) q)
/-- a module's constant -/
theorem w_glob {x : Str} {v : V} {u : Value} {d : D} (hm : X.mg x = some u) (r : RelV v u) (rd : ∀ Hd, Rep X.K Hd v d) (q : Q d O) (hg : Gl X x := by rfl) (hd : (x == ("__debug__" : Str)) = false := by decide) : WE X E (.Name x pos) Γ O Q := .mk fun W σ H Hd p =>
  wE_of (pe_glob hg hm r hd) (.of p.h (rd Hd) q)
theorem w_globI {x : Str} {i : Int} {t : Tok} (hm : X.mg x = some (.int i t)) (q : Q (.int i) O) (hg : Gl X x := by rfl) (hd : (x == ("__debug__" : Str)) = false := by decide) : WE X E (.Name x pos) Γ O Q :=
  w_glob hm (v := .int i) ⟨t, rfl⟩ (fun _ => .int i) q hg hd
theorem w_globS {x : Str} {i : Str} {t : Tok} (hm : X.mg x = some (.str i t)) (q : Q (.str i) O) (hg : Gl X x := by rfl) (hd : (x == ("__debug__" : Str)) = false := by decide) : WE X E (.Name x pos) Γ O Q :=
  w_glob hm (v := .str i) ⟨t, rfl⟩ (fun _ => .str i) q hg hd

/-! ### two-place operators -/
def R2ok (X : Cx) (r : R2) (S : D → D → Own → PD → Prop) : Prop := ∀ (x y : D) (O : Own) (v u : V) (H Hd : Hp) (Q : PD) (Q' : VK), AbsH X.K H Hd O → Rep X.K Hd v x → Rep X.K Hd u y → S x y O Q → (∀ v H', Post X.K Hd Q v H' → Q' v H') → r v u H Q'
theorem R2ok.run {r : R2} {S : D → D → Own → PD → Prop} (hS : R2ok X r S) {W : WX} {σ : L2.St} {H Hd : Hp} (p : Pre X E W σ H Hd Γ O) (h : WE X E a Γ O fun x O1 => WE X E b Γ O1 fun y O2 => S x y O2 Q) : tOp r (wE X a) (wE X b) σ H (Post X.K Hd Q) :=
  h.use p fun v H1 x O1 Hd1 s1 p1 r1 q1 => q1.use p1 fun u H2 y O2 Hd2 s2 p2 r2 q2 => hS x y O2 v u H2 Hd2 Q _ p2.h (r1.mono s2) r2 q2 fun _ _ z => z.lift (s1.trans s2)
theorem w_op2 {r : R2} {S : D → D → Own → PD → Prop} {op : Operator} (ho : OpR X (binaryOp op) r) (hS : R2ok X r S) (h : WE X E a Γ O fun x O1 => WE X E b Γ O1 fun y O2 => S x y O2 Q) : WE X E (.BinOp a op b pos) Γ O Q := .mk fun W σ H Hd p =>
  wE_of (pe_op ho peW peW) (hS.run p h)
theorem w_cmp2 {r : R2} {S : D → D → Own → PD → Prop} {op : CmpOp} (ho : OpR X (compareOp op) r) (hS : R2ok X r S) (hm : behindInMarks op b = false) (h : WE X E a Γ O fun x O1 => WE X E b Γ O1 fun y O2 => S x y O2 Q) : WE X E (.Compare a [op] [b] pos) Γ O Q := .mk fun W σ H Hd p =>
  wE_of (pe_cmpR ho peW peW hm) (hS.run p h)
def sTest (Q : Bool → Own → Prop) : PD := fun d O => ∃ b, d = .bl b ∧ Q b O
theorem post_test {K : PySem.W.Frag} {Hd : Hp} {Q : Bool → Own → Prop} {v : V} {H : Hp} (h : Post K Hd (sTest Q) v H) : ∃ b, v = .bl b ∧ PostT K Hd Q b H := by
  obtain ⟨d, O, Hd', s, a, r, b, rfl, q⟩ := h
  cases r
  exact ⟨b, rfl, O, Hd', s, a, q⟩
theorem wt_cmp2 {r : R2} {S : D → D → Own → PD → Prop} {Q : Bool → Own → Prop} {op : CmpOp} (ho : OpR X (compareOp op) r) (hS : R2ok X r S) (hm : behindInMarks op b = false) (h : WE X E a Γ O fun x O1 => WE X E b Γ O1 fun y O2 => S x y O2 (sTest Q)) : WT X E (.Compare a [op] [b] pos) Γ O Q := .mk fun W σ H Hd p =>
  wT_of (pt_cmpR ho peW peW hm) (h.use p fun v H1 x O1 Hd1 s1 p1 r1 q1 => q1.use p1 fun u H2 y O2 Hd2 s2 p2 r2 q2 => hS x y O2 v u H2 Hd2 (sTest Q) _ p2.h (r1.mono s2) r2 q2 fun _ _ z => post_test (z.lift (s1.trans s2)))
theorem wt_val {Q : Bool → Own → Prop} (h : WE X E e Γ O (sTest Q)) (he : ∀ whole, isTrue e X.env whole = (do let v ← whole; standAt e.pos; holding [v] (truthy v)) := by intro _; rfl) : WT X E e Γ O Q := .mk fun W σ H Hd p =>
  wT_of (pt_val peW he) (wE_mono (h.run W σ H Hd p) fun _ _ z => post_test z)

/-- a + b -/
def sAdd (x y : D) (O : Own) (Q : PD) : Prop := match x, y with
  | .int i, .int j => Q (.int (i + j)) O
  | .str s, .str t => s.length + t.length ≤ sizeLine ∧ Q (.str (s ++ t)) O
  | .tup xs, .tup ys => xs.length + ys.length ≤ sizeLine ∧ Q (.tup (xs ++ ys)) O
  | x, y => ∃ xs ys, asM O x = some xs ∧ asM O y = some ys ∧ xs.length + ys.length ≤ sizeLine ∧ Mk (xs ++ ys) O Q
theorem sAdd_lst {x y : D} {O : Own} {Q : PD} (h : ∃ xs ys, asM O x = some xs ∧ asM O y = some ys ∧ xs.length + ys.length ≤ sizeLine ∧ Mk (xs ++ ys) O Q) : sAdd x y O Q := by
  obtain ⟨xs, ys, h1, h2, h3⟩ := h
  unfold sAdd
  split
  · simp [asM] at h1
  · simp [asM] at h1
  · simp [asM] at h1
  · exact ⟨xs, ys, h1, h2, h3⟩
theorem rok_add : R2ok X (fun x y H Q => (∃ i j, x = .int i ∧ y = .int j ∧ Q (.int (i + j)) H) ∨ (∃ i j, x = .str i ∧ y = .str j ∧ i.length + j.length ≤ sizeLine ∧ Q (.str (i ++ j)) H) ∨ rCatN X.K x y H Q ∨ rCat x y H Q) sAdd := by
  intro x y O v u H Hd Q Q' h rx ry q k
  unfold sAdd at q
  split at q
  · cases rx; cases ry
    exact .inl ⟨_, _, rfl, rfl, k _ _ (.of h (.int _) q)⟩
  · cases rx; cases ry
    exact .inr (.inl ⟨_, _, rfl, rfl, q.1, k _ _ (.of h (.str _) q.2)⟩)
  · rename_i xs ys
    cases rx with | tup g1 r1 =>
    cases ry with | tup g2 r2 =>
    refine .inr (.inr (.inl ⟨_, _, _, _, rfl, rfl, Same.sqT h.same g1.sqT, Same.sqT h.same g2.sqT, by rw [r1.length, r2.length]; exact q.1, fun z => ?_, fun _ z => ?_, fun _ _ p o np hd => ?_⟩))
    · have e : xs = [] := r1.nil_iff.mp z
      subst e
      exact k _ _ (.of h (.tup g2 r2) (by simpa using q.2))
    · have e : ys = [] := r2.nil_iff.mp z
      subst e
      exact k _ _ (.of h (.tup g1 r1) (by simpa using q.2))
    · exact k _ _ (.mkT h np hd (r1.append r2) q.2)
  · obtain ⟨xs, ys, e1, e2, hl, q⟩ := q
    obtain ⟨a, vs, rfl, h1, r1⟩ := h.readM rx e1
    obtain ⟨b, us, rfl, h2, r2⟩ := h.readM ry e2
    exact .inr (.inr (.inr ⟨a, b, vs, us, rfl, rfl, h1, h2, by rw [r1.length, r2.length]; exact hl, fun p np => k _ _ (.mk h np (r1.append r2) q)⟩))
theorem w_add (h : WE X E a Γ O fun x O1 => WE X E b Γ O1 fun y O2 => sAdd x y O2 Q) : WE X E (.BinOp a .Add b pos) Γ O Q :=
  w_op2 (.or op_add (.or op_add_str (.or op_catN op_cat))) rok_add h
/-- a - b -/
def sSub (x y : D) (O : Own) (Q : PD) : Prop := ∃ i j, x = .int i ∧ y = .int j ∧ Q (.int (i - j)) O
theorem w_sub (h : WE X E a Γ O fun x O1 => WE X E b Γ O1 fun y O2 => sSub x y O2 Q) : WE X E (.BinOp a .Sub b pos) Γ O Q :=
  w_op2 op_sub (fun x y O v u H Hd Q Q' h rx ry q k => by
    obtain ⟨i, j, rfl, rfl, q⟩ := q
    cases rx; cases ry
    exact ⟨_, _, rfl, rfl, k _ _ (.of h (.int _) q)⟩) h
/-- a * b -/
def sMul (x y : D) (O : Own) (Q : PD) : Prop := match x, y with
  | .int i, .int j => (CMul i j ∨ CMulW i j) ∧ Q (.int (i * j)) O
  | .tup xs, .int k => xs ≠ [] ∧ 2 ≤ k ∧ k ≤ 1000 ∧ xs.length ≤ 1000 ∧ Q (.tup (List.replicate k.toNat xs).flatten) O
  | x, y => ∃ xs k, asM O x = some xs ∧ y = .int k ∧ -(2 ^ 63) ≤ k ∧ k < 2 ^ 63 ∧ xs.length * k.toNat ≤ sizeLine ∧ Mk (List.replicate k.toNat xs).flatten O Q
theorem sMul_lst {x : D} {k : Int} {xs : List D} {O : Own} {Q : PD} (h1 : asM O x = some xs) (h2 : -(2 ^ 63) ≤ k) (h3 : k < 2 ^ 63) (h4 : xs.length * k.toNat ≤ sizeLine) (h : Mk (List.replicate k.toNat xs).flatten O Q) : sMul x (.int k) O Q := by
  unfold sMul
  split
  · simp [asM] at h1
  · simp [asM] at h1
  · exact ⟨xs, k, h1, rfl, h2, h3, h4, h⟩
theorem w_mul (h : WE X E a Γ O fun x O1 => WE X E b Γ O1 fun y O2 => sMul x y O2 Q) : WE X E (.BinOp a .Mult b pos) Γ O Q :=
  w_op2 (.or op_mul (.or op_mulW (.or op_repN op_rep))) (fun x y O v u H Hd Q Q' h rx ry q k => by
    unfold sMul at q
    split at q
    · cases rx; cases ry
      obtain ⟨c, q⟩ := q
      rcases c with c | c
      · exact .inl ⟨_, _, rfl, rfl, c, k _ _ (.of h (.int _) q)⟩
      · exact .inr (.inl ⟨_, _, rfl, rfl, c, k _ _ (.of h (.int _) q)⟩)
    · obtain ⟨hne, h2, h3, h4, q⟩ := q
      cases rx with | tup g1 r1 =>
      cases ry
      exact .inr (.inr (.inl ⟨_, _, _, rfl, rfl, Same.sqT h.same g1.sqT, fun e => hne (r1.nil_iff.mp e), h2, h3, by rw [r1.length]; exact h4, fun p o np hd => k _ _ (.mkT h np hd (r1.rep _) q)⟩))
    · obtain ⟨xs, n, e1, rfl, h2, h3, h4, q⟩ := q
      cases ry
      obtain ⟨a, vs, rfl, g1, r1⟩ := h.readM rx e1
      exact .inr (.inr (.inr ⟨a, n, vs, rfl, rfl, g1, h2, h3, by rw [r1.length]; exact h4, fun p np => k _ _ (.mk h np (r1.rep _) q)⟩))) h
/-- a % b, a // b: the divisor above nought -/
def sMod (x y : D) (O : Own) (Q : PD) : Prop := ∃ i j, x = .int i ∧ y = .int j ∧ 0 < j ∧ Q (.int (i % j)) O
theorem w_mod (h : WE X E a Γ O fun x O1 => WE X E b Γ O1 fun y O2 => sMod x y O2 Q) : WE X E (.BinOp a .Mod b pos) Γ O Q :=
  w_op2 op_mod (fun x y O v u H Hd Q Q' h rx ry q k => by
    obtain ⟨i, j, rfl, rfl, c, q⟩ := q
    cases rx; cases ry
    exact ⟨_, _, rfl, rfl, c, k _ _ (.of h (.int _) q)⟩) h
def sDiv (x y : D) (O : Own) (Q : PD) : Prop := ∃ i j, x = .int i ∧ y = .int j ∧ (CDiv i j ∨ CDivW i j) ∧ Q (.int (i / j)) O
theorem w_div (h : WE X E a Γ O fun x O1 => WE X E b Γ O1 fun y O2 => sDiv x y O2 Q) : WE X E (.BinOp a .FloorDiv b pos) Γ O Q :=
  w_op2 (.or op_fdiv op_fdivW) (fun x y O v u H Hd Q Q' h rx ry q k => by
    obtain ⟨i, j, rfl, rfl, c, q⟩ := q
    cases rx; cases ry
    rcases c with c | c
    · exact .inl ⟨_, _, rfl, rfl, c, k _ _ (.of h (.int _) q)⟩
    · exact .inr ⟨_, _, rfl, rfl, c, k _ _ (.of h (.int _) q)⟩) h
/-- a ** b -/
def sPow (x y : D) (O : Own) (Q : PD) : Prop := ∃ i j, x = .int i ∧ y = .int j ∧ CPow i j ∧ Q (.int (i ^ j.toNat)) O
theorem w_pow (h : WE X E a Γ O fun x O1 => WE X E b Γ O1 fun y O2 => sPow x y O2 Q) : WE X E (.BinOp a .Pow b pos) Γ O Q :=
  w_op2 op_pow (fun x y O v u H Hd Q Q' h rx ry q k => by
    obtain ⟨i, j, rfl, rfl, c, q⟩ := q
    cases rx; cases ry
    exact ⟨_, _, rfl, rfl, c, k _ _ (.of h (.int _) q)⟩) h
theorem w_neg (h : WE X E a Γ O fun x O1 => ∃ i, x = .int i ∧ Q (.int (-i)) O1) : WE X E (.UnaryOp .USub a pos) Γ O Q := .mk fun W σ H Hd p =>
  wE_of (pe_un un_neg peW) (h.use p fun v H1 x O1 Hd1 s1 p1 r1 ⟨i, e, q⟩ => by
    subst e
    cases r1
    exact ⟨i, rfl, .lift s1 (.of p1.h (.int _) q)⟩)

/-! ### comparisons -/
def sCmpI (f : Int → Int → Bool) (x y : D) (O : Own) (Q : PD) : Prop := ∃ i j, x = .int i ∧ y = .int j ∧ Q (.bl (f i j)) O
theorem rok_cmpI {f : Int → Int → Bool} : R2ok X (rI0 fun i j => .bl (f i j)) (sCmpI f) := fun x y O v u H Hd Q Q' h rx ry q k => by
  obtain ⟨i, j, rfl, rfl, q⟩ := q
  cases rx; cases ry
  exact ⟨_, _, rfl, rfl, k _ _ (.of h (.bl _) q)⟩
abbrev fLt (i j : Int) : Bool := decide (i < j)
abbrev fLe (i j : Int) : Bool := decide (i ≤ j)
abbrev fGt (i j : Int) : Bool := decide (j < i)
abbrev fGe (i j : Int) : Bool := decide (j ≤ i)
theorem w_lt (h : WE X E a Γ O fun x O1 => WE X E b Γ O1 fun y O2 => sCmpI fLt x y O2 Q) : WE X E (.Compare a [.Lt] [b] pos) Γ O Q := w_cmp2 op_lt rok_cmpI (nomark _) h
theorem w_le (h : WE X E a Γ O fun x O1 => WE X E b Γ O1 fun y O2 => sCmpI fLe x y O2 Q) : WE X E (.Compare a [.LtE] [b] pos) Γ O Q := w_cmp2 op_le rok_cmpI (nomark _) h
theorem w_gt (h : WE X E a Γ O fun x O1 => WE X E b Γ O1 fun y O2 => sCmpI fGt x y O2 Q) : WE X E (.Compare a [.Gt] [b] pos) Γ O Q := w_cmp2 op_gt rok_cmpI (nomark _) h
theorem w_ge (h : WE X E a Γ O fun x O1 => WE X E b Γ O1 fun y O2 => sCmpI fGe x y O2 Q) : WE X E (.Compare a [.GtE] [b] pos) Γ O Q := w_cmp2 op_ge rok_cmpI (nomark _) h
theorem wt_lt {Q : Bool → Own → Prop} (h : WE X E a Γ O fun x O1 => WE X E b Γ O1 fun y O2 => sCmpI fLt x y O2 (sTest Q)) : WT X E (.Compare a [.Lt] [b] pos) Γ O Q := wt_cmp2 op_lt rok_cmpI (nomark _) h
theorem wt_le {Q : Bool → Own → Prop} (h : WE X E a Γ O fun x O1 => WE X E b Γ O1 fun y O2 => sCmpI fLe x y O2 (sTest Q)) : WT X E (.Compare a [.LtE] [b] pos) Γ O Q := wt_cmp2 op_le rok_cmpI (nomark _) h
theorem wt_gt {Q : Bool → Own → Prop} (h : WE X E a Γ O fun x O1 => WE X E b Γ O1 fun y O2 => sCmpI fGt x y O2 (sTest Q)) : WT X E (.Compare a [.Gt] [b] pos) Γ O Q := wt_cmp2 op_gt rok_cmpI (nomark _) h
theorem wt_ge {Q : Bool → Own → Prop} (h : WE X E a Γ O fun x O1 => WE X E b Γ O1 fun y O2 => sCmpI fGe x y O2 (sTest Q)) : WT X E (.Compare a [.GtE] [b] pos) Γ O Q := wt_cmp2 op_ge rok_cmpI (nomark _) h

/-! equality: flat things; data -/
def scalD : D → D → Bool
  | .non, .non => true | .non, .int _ => true | .int _, .non => true | .non, .bl _ => true | .bl _, .non => true | .non, .str _ => true | .str _, .non => true
  | .int _, .int _ => true | .bl _, .bl _ => true | .str _, .str _ => true
  | .int _, .str _ => true | .str _, .int _ => true | .bl _, .str _ => true | .str _, .bl _ => true
  | _, _ => false
def eqF : D → D → Bool
  | .non, .non => true
  | .int i, .int j => decide (i = j)
  | .bl i, .bl j => decide (i = j)
  | .str i, .str j => decide (i = j)
  | _, _ => false
theorem scalD_ok {K : PySem.W.Frag} {H : Hp} {x y : D} {v u : V} (rx : Rep K H v x) (ry : Rep K H u y) (h : scalD x y = true) : scal v u = true ∧ decide (v = u) = eqF x y := by
  cases rx <;> cases ry <;> simp_all [scalD, scal, eqF]
mutual
def toPy : D → PyData
  | .non => .none
  | .bl b => .bool b
  | .int i => .int i
  | .str x => .str x
  | .lst xs => .list (toPys xs)
  | .rol xs => .list (toPys xs)
  | .tup xs => .tuple (toPys xs)
  | _ => .dict []
def toPys : List D → List PyData
  | [] => []
  | d :: ds => toPy d :: toPys ds
end
mutual
def isPy : D → Bool
  | .non => true
  | .bl b => true
  | .int i => true
  | .str x => true
  | .lst xs => isPys xs
  | .rol xs => isPys xs
  | .tup xs => isPys xs
  | _ => false
def isPys : List D → Bool
  | [] => true
  | d :: ds => isPy d && isPys ds
end
mutual
theorem Rep.dp {K : PySem.W.Frag} {H : Hp} : ∀ {v : V} {d : D}, Rep K H v d → isPy d = true → Dp K H v (toPy d)
  | _, _, .non, _ => by simpa [toPy] using Dp.non
  | _, _, .bl b, _ => by simpa [toPy] using Dp.bl b
  | _, _, .int b, _ => by simpa [toPy] using Dp.int b
  | _, _, .str b, _ => by simpa [toPy] using Dp.str b
  | _, _, .ty b, h => by simp [isPy] at h
  | _, _, .obj b, h => by simp [isPy] at h
  | _, _, .lst g r, h => by
    simp only [isPy] at h
    simp only [toPy]
    exact .lst (.inl (.inl g)) (Reps.dp r h)
  | _, _, .rol g r, h => by
    simp only [isPy] at h
    simp only [toPy]
    exact .lst g (Reps.dp r h)
  | _, _, .tup g r, h => by
    simp only [isPy] at h
    simp only [toPy]
    exact .tup g.sqT (Reps.dp r h)
  | _, _, .pr _ _, h => by simp [isPy] at h
  | _, _, .ins _ _, h => by simp [isPy] at h
  | _, _, .xc _ _, h => by simp [isPy] at h
  | _, _, .lam _, h => by simp [isPy] at h
  | _, _, .dt _ _ _ _, h => by simp [isPy] at h
  | _, _, .dk _ _ _, h => by simp [isPy] at h
theorem Reps.dp {K : PySem.W.Frag} {H : Hp} : ∀ {v : List V} {d : List D}, Reps K H v d → isPys d = true → DpAll K H v (toPys d)
  | _, _, .nil, _ => by simpa [toPys] using DpAll.nil
  | _, _, .cons h r, g => by
    simp only [isPys, Bool.and_eq_true] at g
    simp only [toPys]
    exact .cons (Rep.dp h g.1) (Reps.dp r g.2)
end
theorem dp_mono {K : PySem.W.Frag} {H H' : Hp} (s : Same H H') {v : V} {d : D} (h : Rep K H v d) (g : isPy d = true) : Dp K H' v (toPy d) := (h.mono s).dp g
/-- what may be compared, and how: an owned list is told by its items -/
def cmpD (O : Own) (x : D) : Option D := match x with
  | .obj p => match O p with
    | some (.lst xs) => some (.lst xs)
    | _ => none
  | x => some x
def goodD (d : D) : Bool := isPy d && SeqAt.shaped (toPy d)
def eqvD (x y : D) : Bool := PyData.eqv (toPy x) (toPy y)
theorem AbsH.cmp {K : PySem.W.Frag} {H Hd : Hp} {O : Own} (h : AbsH K H Hd O) {v : V} {x y : D} (r : Rep K Hd v x) (e : cmpD O x = some y) (g : isPy y = true) : Dp K H v (toPy y) := by
  cases x with
  | obj p =>
    simp only [cmpD] at e
    split at e
    · rename_i xs z
      cases e
      cases r
      obtain ⟨_, vs, h1, h2⟩ := h.own p _ z
      simp only [isPy] at g
      simp only [toPy]
      exact .lst (.inl (.inl h1)) ((h2.mono h.same).dp g)
    · cases e
  | _ => simp only [cmpD, Option.some.injEq] at e; subst e; exact dp_mono h.same r g
def sEq (neg : Bool) (x y : D) (O : Own) (Q : PD) : Prop := (scalD x y = true ∧ Q (.bl (if neg then !eqF x y else eqF x y)) O) ∨
  ∃ x' y', cmpD O x = some x' ∧ cmpD O y = some y' ∧ goodD x' = true ∧ goodD y' = true ∧ Q (.bl (if neg then !eqvD x' y' else eqvD x' y')) O
theorem rok_eq : R2ok X (fun x y H Q => rEq x y H Q ∨ rEqD X.K x y H Q) (sEq false) := fun x y O v u H Hd Q Q' h rx ry q k => by
  rcases q with ⟨c, q⟩ | ⟨x', y', e1, e2, g1, g2, q⟩
  · obtain ⟨c1, c2⟩ := scalD_ok rx ry c
    exact .inl ⟨c1, k _ _ (.of h (.bl _) (by rw [c2]; exact q))⟩
  · simp only [goodD, Bool.and_eq_true] at g1 g2
    exact .inr ⟨_, _, h.cmp rx e1 g1.1, h.cmp ry e2 g2.1, g1.2, g2.2, k _ _ (.of h (.bl _) q)⟩
theorem rok_ne : R2ok X (fun x y H Q => rNe x y H Q ∨ rNeD X.K x y H Q) (sEq true) := fun x y O v u H Hd Q Q' h rx ry q k => by
  rcases q with ⟨c, q⟩ | ⟨x', y', e1, e2, g1, g2, q⟩
  · obtain ⟨c1, c2⟩ := scalD_ok rx ry c
    exact .inl ⟨c1, k _ _ (.of h (.bl _) (by rw [c2]; exact q))⟩
  · simp only [goodD, Bool.and_eq_true] at g1 g2
    exact .inr ⟨_, _, h.cmp rx e1 g1.1, h.cmp ry e2 g2.1, g1.2, g2.2, k _ _ (.of h (.bl _) q)⟩
theorem w_eq (hu : X.A.units + 64 < cLine) (h : WE X E a Γ O fun x O1 => WE X E b Γ O1 fun y O2 => sEq false x y O2 Q) : WE X E (.Compare a [.Eq] [b] pos) Γ O Q := w_cmp2 (.or op_eq (op_eqD hu)) rok_eq (nomark _) h
theorem w_ne (hu : X.A.units + 64 < cLine) (h : WE X E a Γ O fun x O1 => WE X E b Γ O1 fun y O2 => sEq true x y O2 Q) : WE X E (.Compare a [.NotEq] [b] pos) Γ O Q := w_cmp2 (.or op_ne (op_neD hu)) rok_ne (nomark _) h
theorem wt_eq {Q : Bool → Own → Prop} (hu : X.A.units + 64 < cLine) (h : WE X E a Γ O fun x O1 => WE X E b Γ O1 fun y O2 => sEq false x y O2 (sTest Q)) : WT X E (.Compare a [.Eq] [b] pos) Γ O Q := wt_cmp2 (.or op_eq (op_eqD hu)) rok_eq (nomark _) h
theorem wt_ne {Q : Bool → Own → Prop} (hu : X.A.units + 64 < cLine) (h : WE X E a Γ O fun x O1 => WE X E b Γ O1 fun y O2 => sEq true x y O2 (sTest Q)) : WT X E (.Compare a [.NotEq] [b] pos) Γ O Q := wt_cmp2 (.or op_ne (op_neD hu)) rok_ne (nomark _) h

/-! in -/
def flatD : D → Bool
  | .non => true | .bl _ => true | .int _ => true | .str _ => true | _ => false
def eqFV : D → D → Bool
  | .non, .non => true
  | .bl a, .bl b => a == b
  | .bl a, .int b => (if a then 1 else 0) == b
  | .int a, .bl b => a == (if b then 1 else 0)
  | .int a, .int b => a == b
  | .str a, .str b => a == b
  | _, _ => false
def inD (x : D) (xs : List D) : Bool := xs.any fun y => eqFV y x
theorem flat_ok {K : PySem.W.Frag} {H : Hp} {x : D} {v : V} (rx : Rep K H v x) (h : flatD x = true) : flatV v = true := by
  cases rx <;> simp_all [flatD, flatV]
theorem eqFV_ok {K : PySem.W.Frag} {H : Hp} {x y : D} {v u : V} (rx : Rep K H v x) (ry : Rep K H u y) (hx : flatD x = true) (hy : flatD y = true) : eqV v u = eqFV x y := by
  cases rx <;> cases ry <;> simp_all [flatD, eqV, eqFV]
theorem flats_ok {K : PySem.W.Frag} {H : Hp} : ∀ {xs : List D} {vs : List V}, Reps K H vs xs → xs.all flatD = true → vs.all flatV = true
  | [], _, .nil, _ => rfl
  | _ :: _, _, .cons r t, h => by
    simp only [List.all_cons, Bool.and_eq_true] at h ⊢
    exact ⟨flat_ok r h.1, flats_ok t h.2⟩
theorem inD_ok {K : PySem.W.Frag} {H : Hp} {x : D} {v : V} (rx : Rep K H v x) (hx : flatD x = true) : ∀ {xs : List D} {vs : List V}, Reps K H vs xs → xs.all flatD = true → inV v vs = inD x xs
  | [], _, .nil, _ => rfl
  | y :: ys, _, .cons (v := w) (vs := ws) r t, h => by
    simp only [List.all_cons, Bool.and_eq_true] at h
    have ih := inD_ok rx hx t h.2
    unfold inV inD at ih ⊢
    rw [List.any_cons, List.any_cons, ih, eqFV_ok r rx h.1 hx]
def asS (O : Own) : D → Option (List D)
  | .tup xs => some xs
  | x => asL O x
theorem AbsH.readS {K : PySem.W.Frag} {H Hd : Hp} {O : Own} (h : AbsH K H Hd O) {v : V} {x : D} {xs : List D} (r : Rep K Hd v x) (e : asS O x = some xs) : ∃ a vs, v = .ref a ∧ (SqL K H a vs ∨ SqT K H a vs) ∧ Reps K Hd vs xs := by
  cases x with
  | tup ys =>
    simp [asS] at e; subst e
    cases r with | tup g r => exact ⟨_, _, rfl, .inr (Same.sqT h.same g.sqT), r⟩
  | _ =>
    obtain ⟨a, vs, h1, h2, h3⟩ := h.readL r (show asL O _ = some xs from e)
    exact ⟨a, vs, h1, .inl h2, h3⟩
/-- x in y: a text in a text; a flat thing in a row of flat things -/
def sIn (neg : Bool) (x y : D) (O : Own) (Q : PD) : Prop := match x, y with
  | .str s, .str t => Q (.bl (if neg then !(!(Builtin.Str.occurrences t s 0 t.length 1).isEmpty) else !(Builtin.Str.occurrences t s 0 t.length 1).isEmpty)) O
  | x, y => ∃ ys, asS O y = some ys ∧ flatD x = true ∧ ys.all flatD = true ∧ Q (.bl (if neg then !inD x ys else inD x ys)) O
theorem rok_in : R2ok X (fun x y H Q => (∃ i j, x = .str i ∧ y = .str j ∧ Q (.bl (!(Builtin.Str.occurrences j i 0 j.length 1).isEmpty)) H) ∨ rIn X.K false x y H Q) (sIn false) := fun x y O v u H Hd Q Q' h rx ry q k => by
  unfold sIn at q
  split at q
  · cases rx; cases ry
    exact .inl ⟨_, _, rfl, rfl, k _ _ (.of h (.bl _) q)⟩
  · obtain ⟨ys, e, f1, f2, q⟩ := q
    obtain ⟨a, vs, rfl, g, r⟩ := h.readS ry e
    exact .inr ⟨a, vs, rfl, g, flat_ok rx f1, flats_ok r f2, k _ _ (.of h (.bl _) (by rw [inD_ok rx f1 r f2]; exact q))⟩
theorem rok_nin : R2ok X (fun x y H Q => (∃ i j, x = .str i ∧ y = .str j ∧ Q (.bl (!(!(Builtin.Str.occurrences j i 0 j.length 1).isEmpty))) H) ∨ rIn X.K true x y H Q) (sIn true) := fun x y O v u H Hd Q Q' h rx ry q k => by
  unfold sIn at q
  split at q
  · cases rx; cases ry
    exact .inl ⟨_, _, rfl, rfl, k _ _ (.of h (.bl _) q)⟩
  · obtain ⟨ys, e, f1, f2, q⟩ := q
    obtain ⟨a, vs, rfl, g, r⟩ := h.readS ry e
    exact .inr ⟨a, vs, rfl, g, flat_ok rx f1, flats_ok r f2, k _ _ (.of h (.bl _) (by rw [inD_ok rx f1 r f2]; exact q))⟩
theorem w_in (h : WE X E a Γ O fun x O1 => WE X E b Γ O1 fun y O2 => sIn false x y O2 Q) (hm : behindInMarks .In b = false := by rfl) : WE X E (.Compare a [.In] [b] pos) Γ O Q := w_cmp2 (.or op_in_str op_in_seq) rok_in hm h
theorem w_nin (h : WE X E a Γ O fun x O1 => WE X E b Γ O1 fun y O2 => sIn true x y O2 Q) (hm : behindInMarks .NotIn b = false := by rfl) : WE X E (.Compare a [.NotIn] [b] pos) Γ O Q := w_cmp2 (.or op_notin_str op_notIn_seq) rok_nin hm h
theorem wt_in {Q : Bool → Own → Prop} (h : WE X E a Γ O fun x O1 => WE X E b Γ O1 fun y O2 => sIn false x y O2 (sTest Q)) (hm : behindInMarks .In b = false := by rfl) : WT X E (.Compare a [.In] [b] pos) Γ O Q := wt_cmp2 (.or op_in_str op_in_seq) rok_in hm h
theorem wt_nin {Q : Bool → Own → Prop} (h : WE X E a Γ O fun x O1 => WE X E b Γ O1 fun y O2 => sIn true x y O2 (sTest Q)) (hm : behindInMarks .NotIn b = false := by rfl) : WT X E (.Compare a [.NotIn] [b] pos) Γ O Q := wt_cmp2 (.or op_notin_str op_notIn_seq) rok_nin hm h
/-- is None -/
def isN : D → Bool
  | .non => true
  | _ => false
theorem isN_ok {K : PySem.W.Frag} {H : Hp} {x : D} {v : V} (rx : Rep K H v x) : decide (v = .non) = isN x := by
  cases rx <;> simp [isN]
theorem w_isN {j : Nat} {pos' : Pos} (h : WE X E a Γ O fun x O1 => Q (.bl (isN x)) O1) : WE X E (.Compare a [.Is] [.Constant .none j pos'] pos) Γ O Q := .mk fun W σ H Hd p =>
  wE_of (pe_cmpR op_isN peW pe_non (nomark _)) (h.use p fun v H1 x O1 Hd1 s1 p1 r1 q => ⟨rfl, .lift s1 (.of p1.h (.bl _) (by rw [isN_ok r1]; exact q))⟩)
theorem w_notN {j : Nat} {pos' : Pos} (h : WE X E a Γ O fun x O1 => Q (.bl (!isN x)) O1) : WE X E (.Compare a [.IsNot] [.Constant .none j pos'] pos) Γ O Q := .mk fun W σ H Hd p =>
  wE_of (pe_cmpR op_notN peW pe_non (nomark _)) (h.use p fun v H1 x O1 Hd1 s1 p1 r1 q => ⟨rfl, .lift s1 (.of p1.h (.bl _) (by rw [isN_ok r1]; exact q))⟩)
theorem wt_isN {j : Nat} {pos' : Pos} {Q : Bool → Own → Prop} (h : WE X E a Γ O fun x O1 => Q (isN x) O1) : WT X E (.Compare a [.Is] [.Constant .none j pos'] pos) Γ O Q := .mk fun W σ H Hd p =>
  wT_of (pt_cmpR op_isN peW pe_non (nomark _)) (h.use p fun v H1 x O1 Hd1 s1 p1 r1 q => ⟨rfl, _, rfl, O1, Hd1, s1, p1.h, by rw [isN_ok r1]; exact q⟩)
theorem wt_notN {j : Nat} {pos' : Pos} {Q : Bool → Own → Prop} (h : WE X E a Γ O fun x O1 => Q (!isN x) O1) : WT X E (.Compare a [.IsNot] [.Constant .none j pos'] pos) Γ O Q := .mk fun W σ H Hd p =>
  wT_of (pt_cmpR op_notN peW pe_non (nomark _)) (h.use p fun v H1 x O1 Hd1 s1 p1 r1 q => ⟨rfl, _, rfl, O1, Hd1, s1, p1.h, by rw [isN_ok r1]; exact q⟩)
/-- a < b < c: two comparisons of ints -/
theorem chain_run {r r' : R2} {S S' : D → D → Own → PD → Prop} (hS : R2ok X r S) (hS' : R2ok X r' S') {c : Expr} {W : WX} {σ : L2.St} {H Hd : Hp} (p : Pre X E W σ H Hd Γ O)
    (h : WE X E a Γ O fun x O1 => WE X E b Γ O1 fun y O2 => S x y O2 (sTest fun k O3 => if k = true then WE X E c Γ O3 (fun z O4 => S' y z O4 Q) else Q (.bl false) O3)) {Q' : VK} (kk : ∀ v H', Post X.K Hd Q v H' → Q' v H') :
    tChain r r' (wE X a) (wE X b) (wE X c) σ H Q' :=
  h.use p fun v H1 x O1 Hd1 s1 p1 r1 q1 => q1.use p1 fun u H2 y O2 Hd2 s2 p2 r2 q2 => hS x y O2 v u H2 Hd2 _ _ p2.h (r1.mono s2) r2 q2 fun z H3 pz => by
    obtain ⟨k, rfl, O3, Hd3, s3, a3, q3⟩ := post_test pz
    refine ⟨k, rfl, ?_⟩
    cases k with
    | true =>
      have q3 : WE X E c Γ O3 (fun z O4 => S' y z O4 Q) := by simpa using q3
      exact q3.use (p2.go s3 a3) fun w' H4 z O4 Hd4 s4 p4 r4 q4 => hS' y z O4 u w' H4 Hd4 Q _ p4.h (r2.mono (s3.trans s4)) r4 q4 fun _ _ zz => kk _ _ (zz.lift (s1.trans (s2.trans (s3.trans s4))))
    | false => exact kk _ _ (.lift (s1.trans (s2.trans s3)) (.of a3 (.bl _) (by simpa using q3)))
theorem w_chain {op op' : CmpOp} {r r' : R2} {S S' : D → D → Own → PD → Prop} {c : Expr} (ho : OpR X (compareOp op) r) (ho' : OpR X (compareOp op') r') (hS : R2ok X r S) (hS' : R2ok X r' S') (hm : lastMarks [op, op'] [b, c] = false)
    (h : WE X E a Γ O fun x O1 => WE X E b Γ O1 fun y O2 => S x y O2 (sTest fun k O3 => if k = true then WE X E c Γ O3 (fun z O4 => S' y z O4 Q) else Q (.bl false) O3)) : WE X E (.Compare a [op, op'] [b, c] pos) Γ O Q := .mk fun W σ H Hd p =>
  wE_of (pe_chain ho ho' peW peW peW (hm := hm)) (chain_run hS hS' p h fun _ _ z => z)
theorem w_lele {c : Expr} (h : WE X E a Γ O fun x O1 => WE X E b Γ O1 fun y O2 => sCmpI fLe x y O2 (sTest fun k O3 => if k = true then WE X E c Γ O3 (fun z O4 => sCmpI fLe y z O4 Q) else Q (.bl false) O3)) (hm : lastMarks [.LtE, .LtE] [b, c] = false := by rfl) : WE X E (.Compare a [.LtE, .LtE] [b, c] pos) Γ O Q := w_chain op_le op_le rok_cmpI rok_cmpI hm h
theorem w_lelt {c : Expr} (h : WE X E a Γ O fun x O1 => WE X E b Γ O1 fun y O2 => sCmpI fLe x y O2 (sTest fun k O3 => if k = true then WE X E c Γ O3 (fun z O4 => sCmpI fLt y z O4 Q) else Q (.bl false) O3)) (hm : lastMarks [.LtE, .Lt] [b, c] = false := by rfl) : WE X E (.Compare a [.LtE, .Lt] [b, c] pos) Γ O Q := w_chain op_le op_lt rok_cmpI rok_cmpI hm h
theorem wt_chain {op op' : CmpOp} {r r' : R2} {S S' : D → D → Own → PD → Prop} {c : Expr} {Q : Bool → Own → Prop} (ho : OpR X (compareOp op) r) (ho' : OpR X (compareOp op') r') (hS : R2ok X r S) (hS' : R2ok X r' S') (hm : lastMarks [op, op'] [b, c] = false)
    (h : WE X E a Γ O fun x O1 => WE X E b Γ O1 fun y O2 => S x y O2 (sTest fun k O3 => if k = true then WE X E c Γ O3 (fun z O4 => S' y z O4 (sTest Q)) else sTest Q (.bl false) O3)) : WT X E (.Compare a [op, op'] [b, c] pos) Γ O Q := .mk fun W σ H Hd p =>
  wT_of (pt_chain ho ho' peW peW peW (hm := hm)) (chain_run hS hS' p h fun _ _ z => post_test z)
theorem wt_lele {c : Expr} {Q : Bool → Own → Prop} (h : WE X E a Γ O fun x O1 => WE X E b Γ O1 fun y O2 => sCmpI fLe x y O2 (sTest fun k O3 => if k = true then WE X E c Γ O3 (fun z O4 => sCmpI fLe y z O4 (sTest Q)) else sTest Q (.bl false) O3)) (hm : lastMarks [.LtE, .LtE] [b, c] = false := by rfl) : WT X E (.Compare a [.LtE, .LtE] [b, c] pos) Γ O Q := wt_chain op_le op_le rok_cmpI rok_cmpI hm h
theorem wt_lelt {c : Expr} {Q : Bool → Own → Prop} (h : WE X E a Γ O fun x O1 => WE X E b Γ O1 fun y O2 => sCmpI fLe x y O2 (sTest fun k O3 => if k = true then WE X E c Γ O3 (fun z O4 => sCmpI fLt y z O4 (sTest Q)) else sTest Q (.bl false) O3)) (hm : lastMarks [.LtE, .Lt] [b, c] = false := by rfl) : WT X E (.Compare a [.LtE, .Lt] [b, c] pos) Γ O Q := wt_chain op_le op_lt rok_cmpI rok_cmpI hm h

/-! ### and, or, not; if-expressions -/
variable {rest : List Expr}
theorem wt_not {Q : Bool → Own → Prop} (h : WT X E a Γ O fun b O' => Q (!b) O') : WT X E (.UnaryOp .Not a pos) Γ O Q := .mk fun W σ H Hd p =>
  wT_of (pt_not ptW) (h.use p fun b H' O' Hd' s p' q => ⟨O', Hd', s, p'.h, q⟩)
theorem ww_one {op : BoolOp} (hop : op = .And ∨ op = .Or) {Q : Bool → Own → Prop} (h : WT X E a Γ O Q) : WW X E (.BoolOp op [a] pos) Γ O Q := .mk fun W σ H Hd p => by
  rcases hop with rfl | rfl
  · exact wW_of (pw_and1 ptW) (h.run W σ H Hd p)
  · exact wW_of (pw_or1 ptW) (h.run W σ H Hd p)
theorem ww_and {Q : Bool → Own → Prop} (h : WT X E a Γ O fun k O1 => if k = true then WW X E (.BoolOp .And (b :: rest) pos) Γ O1 Q else Q false O1) : WW X E (.BoolOp .And (a :: b :: rest) pos) Γ O Q := .mk fun W σ H Hd p =>
  wW_of (pw_and ptW pwW) (h.use p fun k H' O' Hd' s p' q => by
    cases k with
    | true =>
      have q : WW X E (.BoolOp .And (b :: rest) pos) Γ O' Q := by simpa using q
      exact q.use p' fun b H2 O2 Hd2 s2 p2 q2 => ⟨O2, Hd2, s.trans s2, p2.h, q2⟩
    | false => exact ⟨O', Hd', s, p'.h, by simpa using q⟩)
theorem ww_or {Q : Bool → Own → Prop} (h : WT X E a Γ O fun k O1 => if k = true then Q true O1 else WW X E (.BoolOp .Or (b :: rest) pos) Γ O1 Q) : WW X E (.BoolOp .Or (a :: b :: rest) pos) Γ O Q := .mk fun W σ H Hd p =>
  wW_of (pw_or ptW pwW) (h.use p fun k H' O' Hd' s p' q => by
    cases k with
    | false =>
      have q : WW X E (.BoolOp .Or (b :: rest) pos) Γ O' Q := by simpa using q
      exact q.use p' fun b H2 O2 Hd2 s2 p2 q2 => ⟨O2, Hd2, s.trans s2, p2.h, q2⟩
    | true => exact ⟨O', Hd', s, p'.h, by simpa using q⟩)
theorem wt_ww {Q : Bool → Own → Prop} (h : WW X E a Γ O Q) : WT X E a Γ O Q := .mk fun W σ H Hd p => wT_W (h.run W σ H Hd p)
theorem w_one {op : BoolOp} (h : WE X E a Γ O Q) : WE X E (.BoolOp op [a] pos) Γ O Q := .mk fun W σ H Hd p => wE_of (pe_one peW) (h.run W σ H Hd p)
theorem w_and (h : WE X E a Γ O fun x O1 => ∃ k, x = .bl k ∧ if k = true then WE X E (.BoolOp .And (b :: rest) pos) Γ O1 Q else Q (.bl false) O1) : WE X E (.BoolOp .And (a :: b :: rest) pos) Γ O Q := .mk fun W σ H Hd p =>
  wE_of (pe_and peW peW) (h.use p fun v H1 x O1 Hd1 s1 p1 r1 ⟨k, e, q⟩ => by
    subst e; cases r1
    refine ⟨k, rfl, ?_⟩
    cases k with
    | true =>
      have q : WE X E (.BoolOp .And (b :: rest) pos) Γ O1 Q := by simpa using q
      exact q.use p1 fun b H2 d O2 Hd2 s2 p2 r2 q2 => .lift (s1.trans s2) (.of p2.h r2 q2)
    | false => exact .lift s1 (.of p1.h (.bl _) (by simpa using q)))
theorem w_or (h : WE X E a Γ O fun x O1 => ∃ k, x = .bl k ∧ if k = true then Q (.bl true) O1 else WE X E (.BoolOp .Or (b :: rest) pos) Γ O1 Q) : WE X E (.BoolOp .Or (a :: b :: rest) pos) Γ O Q := .mk fun W σ H Hd p =>
  wE_of (pe_or peW peW) (h.use p fun v H1 x O1 Hd1 s1 p1 r1 ⟨k, e, q⟩ => by
    subst e; cases r1
    refine ⟨k, rfl, ?_⟩
    cases k with
    | false =>
      have q : WE X E (.BoolOp .Or (b :: rest) pos) Γ O1 Q := by simpa using q
      exact q.use p1 fun b H2 d O2 Hd2 s2 p2 r2 q2 => .lift (s1.trans s2) (.of p2.h r2 q2)
    | true => exact .lift s1 (.of p1.h (.bl _) (by simpa using q)))
theorem w_not (h : WE X E a Γ O fun x O1 => ∃ k, x = .bl k ∧ Q (.bl (!k)) O1) : WE X E (.UnaryOp .Not a pos) Γ O Q := .mk fun W σ H Hd p =>
  wE_of (pe_not peW) (h.use p fun v H1 x O1 Hd1 s1 p1 r1 ⟨k, e, q⟩ => by
    subst e; cases r1
    exact ⟨k, rfl, .lift s1 (.of p1.h (.bl _) q)⟩)
theorem w_ite {c : Expr} (h : WT X E c Γ O fun k O1 => if k = true then WE X E a Γ O1 Q else WE X E b Γ O1 Q) : WE X E (.IfExp c a b pos) Γ O Q := .mk fun W σ H Hd p =>
  wE_of (pe_ifExp ptW peW peW) (h.use p fun k H1 O1 Hd1 s1 p1 q => by
    cases k with
    | true =>
      have q : WE X E a Γ O1 Q := by simpa using q
      exact q.use p1 fun b H2 d O2 Hd2 s2 p2 r2 q2 => .lift (s1.trans s2) (.of p2.h r2 q2)
    | false =>
      have q : WE X E b Γ O1 Q := by simpa using q
      exact q.use p1 fun b H2 d O2 Hd2 s2 p2 r2 q2 => .lift (s1.trans s2) (.of p2.h r2 q2))

/-! ### arguments, displays -/
variable {es : List Expr}
theorem wa_nil {Q : List D → Own → Prop} (q : Q [] O) : WA X E [] Γ O Q := .mk fun W σ H Hd p => wA_of pa_nil ⟨[], O, Hd, Same.refl _, p.h, .nil, q⟩
theorem wa_cons {Q : List D → Own → Prop} (h : WE X E e Γ O fun d O1 => WA X E es Γ O1 fun ds O2 => Q (d :: ds) O2) (hs : starEach (e :: es) X.env = (false, eval e X.env) :: starEach es X.env := by rfl) : WA X E (e :: es) Γ O Q := .mk fun W σ H Hd p =>
  wA_of (pa_cons peW paW hs) (h.use p fun v H1 d O1 Hd1 s1 p1 r1 q1 => q1.use p1 fun vs H2 ds O2 Hd2 s2 p2 r2 q2 => ⟨d :: ds, O2, Hd2, s1.trans s2, p2.h, .cons (r1.mono s2) r2, q2⟩)
theorem w_tup {x1 : Nat} (h : WA X E es Γ O fun ds O1 => ds.length ≤ sizeLine ∧ Q (.tup ds) O1) : WE X E (.Tuple es x1 pos) Γ O Q := .mk fun W σ H Hd p =>
  wE_of (pe_tupN paW) (h.use p fun vs H1 ds O1 Hd1 s1 p1 r1 q1 => ⟨by rw [r1.length]; exact q1.1, fun a o na hd => .lift s1 (.mkT p1.h na hd r1 q1.2)⟩)
theorem w_lst (h : WA X E es Γ O fun ds O1 => ds.length ≤ sizeLine ∧ Mk ds O1 Q) : WE X E (.List es pos) Γ O Q := .mk fun W σ H Hd p =>
  wE_of (pe_lst paW) (h.use p fun vs H1 ds O1 Hd1 s1 p1 r1 q1 => ⟨by rw [r1.length]; exact q1.1, fun a na => .lift s1 (.mk p1.h na r1 q1.2)⟩)

/-! ### subscripts -/
theorem atI_rep {K : PySem.W.Frag} {H : Hp} {vs : List V} {ds : List D} {i : Int} {d : D} (r : Reps K H vs ds) (h : atI ds i = some d) : ∃ v, atI vs i = some v ∧ Rep K H v d := by
  unfold atI at h ⊢
  rw [r.length]
  cases e : ixN ds.length i with
  | none => rw [e] at h; cases h
  | some j =>
    rw [e] at h
    exact r.get h
def sIx (x y : D) (O : Own) (Q : PD) : Prop := match x, y with
  | .str z, .int i => z.length ≤ sizeLine ∧ ∃ c, atI z.cps.toList i = some c ∧ Q (.str ⟨#[c]⟩) O
  | x, y => ∃ xs i d, asS O x = some xs ∧ y = .int i ∧ atI xs i = some d ∧ Q d O
theorem sIx_seq {x : D} {i : Int} {xs : List D} {d : D} {O : Own} {Q : PD} (h1 : asS O x = some xs) (h2 : atI xs i = some d) (q : Q d O) : sIx x (.int i) O Q := by
  unfold sIx
  split
  · simp [asS, asL] at h1
  · exact ⟨xs, i, d, h1, rfl, h2, q⟩
theorem w_ix (h : WE X E a Γ O fun x O1 => WE X E b Γ O1 fun y O2 => sIx x y O2 Q) (hs : PlainIx b := by exact fun _ _ => rfl) : WE X E (.Subscript a b pos) Γ O Q := .mk fun W σ H Hd p =>
  wE_of (pe_ix ix_seq peW peW hs) (R2ok.run (fun x y O v u H Hd Q Q' h rx ry q k => by
    unfold sIx at q
    split at q
    · cases rx; cases ry
      obtain ⟨hl, c, e, q⟩ := q
      exact .inr (.inr ⟨_, _, c, rfl, rfl, hl, e, k _ _ (.of h (.str _) q)⟩)
    · obtain ⟨xs, i, d, e, rfl, hd, q⟩ := q
      cases ry
      obtain ⟨a, vs, rfl, g, r⟩ := h.readS rx e
      obtain ⟨w, hw, rw'⟩ := atI_rep r hd
      rcases g with g | g
      · exact .inl ⟨a, vs, i, w, rfl, rfl, g, hw, k _ _ (.of h rw' q)⟩
      · exact .inr (.inl ⟨a, vs, i, w, rfl, rfl, g, hw, k _ _ (.of h rw' q)⟩)) p h)
end
end RW

/-! RW: statements, targets, loops, comprehensions, calls, a def's promise. -/
namespace RW
open PySem PySem.Spec PyProof.Rows L2
section
variable {X : Cx} {E : ExP} {Γ : Env'} {O : Own} {e a b : Expr} {pos : Pos} {De : EndsD} {st : Stmt} {rest : List Stmt}

/-! ### blocks -/
theorem wss_nil (h : De.nx Γ O) : WSs X E [] Γ O De := .mk fun W σ H Hd p => wSs_of pss_nil ⟨Γ, O, Hd, Same.refl _, p.g, p.h, h⟩
theorem wss_cons (h : WS X E st Γ O { De with nx := fun Γ' O' => WSs X E rest Γ' O' De }) : WSs X E (st :: rest) Γ O De := .mk fun W σ H Hd p =>
  wSs_of (pss_cons psW pssW) (wS_mono (h.run W σ H Hd p) ⟨fun σ' H' ⟨Γ', O', Hd', s, g, a, q⟩ => wSs_mono (q.run W σ' H' Hd' (p.go2 s a g)) (ends_lift s), fun _ _ z => z, fun _ _ z => z, fun _ _ z => z⟩)
theorem wss_one (h : WS X E st Γ O De) : WSs X E [st] Γ O De := .mk fun W σ H Hd p => wSs_of (pss_one psW) (h.run W σ H Hd p)
/-- between two statements: what is known is cut to a word -/
theorem wss_cut (I : Env' → Own → Prop) (h1 : WS X E st Γ O { De with nx := I }) (h2 : ∀ Γ' O', I Γ' O' → WSs X E rest Γ' O' De) : WSs X E (st :: rest) Γ O De := .mk fun W σ H Hd p =>
  wSs_of (pss_cons psW pssW) (wS_mono (h1.run W σ H Hd p) ⟨fun σ' H' ⟨Γ', O', Hd', s, g, a, q⟩ => wSs_mono ((h2 Γ' O' q).run W σ' H' Hd' (p.go2 s a g)) (ends_lift s), fun _ _ z => z, fun _ _ z => z, fun _ _ z => z⟩)
theorem WSs.monoD {De' : EndsD} {sts : List Stmt} (h : WSs X E sts Γ O De) (k1 : ∀ Γ O, De.nx Γ O → De'.nx Γ O) (k2 : ∀ d O, De.rt d O → De'.rt d O) (k3 : ∀ Γ O, De.bk Γ O → De'.bk Γ O) (k4 : ∀ Γ O, De.ct Γ O → De'.ct Γ O) : WSs X E sts Γ O De' := .mk fun W σ H Hd p =>
  wSs_mono (h.run W σ H Hd p) ⟨fun _ _ ⟨Γ', O', Hd', s, g, a, q⟩ => ⟨Γ', O', Hd', s, g, a, k1 _ _ q⟩, fun _ _ ⟨d, O', Hd', s, a, r, q⟩ => ⟨d, O', Hd', s, a, r, k2 _ _ q⟩,
    fun _ _ ⟨Γ', O', Hd', s, g, a, q⟩ => ⟨Γ', O', Hd', s, g, a, k3 _ _ q⟩, fun _ _ ⟨Γ', O', Hd', s, g, a, q⟩ => ⟨Γ', O', Hd', s, g, a, k4 _ _ q⟩⟩
/-- slots may be forgotten -/
theorem WSs.weak {Γ' : Env'} {sts : List Stmt} (hl : Γ'.length = Γ.length) (w : ∀ (i : Nat) (d : D), Γ'[i]? = some (some d) → Γ[i]? = some (some d)) (h : WSs X E sts Γ' O De) : WSs X E sts Γ O De := .mk fun W σ H Hd p =>
  h.run W σ H Hd ⟨p.tk, p.g.weak hl w, p.h, p.ex⟩

/-! ### small statements -/
theorem ws_pass (h : De.nx Γ O) : WS X E (.Pass pos) Γ O De := .mk fun W σ H Hd p => wS_of ps_pass ⟨Γ, O, Hd, Same.refl _, p.g, p.h, h⟩
theorem ws_break (h : De.bk Γ O) : WS X E (.Break pos) Γ O De := .mk fun W σ H Hd p => wS_of ps_break ⟨Γ, O, Hd, Same.refl _, p.g, p.h, h⟩
theorem ws_continue (h : De.ct Γ O) : WS X E (.Continue pos) Γ O De := .mk fun W σ H Hd p => wS_of ps_continue ⟨Γ, O, Hd, Same.refl _, p.g, p.h, h⟩
theorem ws_expr (h : WE X E e Γ O fun _ O' => De.nx Γ O') (hs : swapsWith e none pos.line X.env = pure false := by rfl) : WS X E (.Expr e pos) Γ O De := .mk fun W σ H Hd p =>
  wS_of (ps_expr peW hs) (h.use p fun v H' d O' Hd' s p' r q => ⟨Γ, O', Hd', s, p'.g, p'.h, q⟩)
theorem ws_ret (h : WE X E e Γ O De.rt) : WS X E (.Return (some e) pos) Γ O De := .mk fun W σ H Hd p => wS_of (ps_ret peW) (h.run W σ H Hd p)
/-- an owned list is told by its items when it is handed back -/
theorem WE.fixed {Q : PD} (h : WE X E e Γ O fun d O' => ∃ p ds, d = .obj p ∧ O' p = some (.lst ds) ∧ Q (.lst ds) (delO O' p)) : WE X E e Γ O Q := .mk fun W σ H Hd p =>
  h.use p fun v H' d O' Hd' s p' r ⟨q, ds, e1, e2, hq⟩ => by
    subst e1
    cases r
    obtain ⟨Hd2, s2, a2, r2⟩ := p'.h.fix e2
    exact ⟨_, _, Hd2, s.trans s2, a2, r2, hq⟩
theorem ws_retN (h : De.rt .non O) : WS X E (.Return none pos) Γ O De := .mk fun W σ H Hd p => wS_of ps_retN (.of p.h .non h)
theorem ws_if {c : Expr} {sa sb : List Stmt} (h : WT X E c Γ O fun k O' => if k = true then WSs X E sa Γ O' De else WSs X E sb Γ O' De) : WS X E (.If c sa sb pos) Γ O De := .mk fun W σ H Hd p =>
  wS_of (ps_if ptW pssW pssW) (h.use p fun k H' O' Hd' s p' q => by
    cases k with
    | true =>
      have q : WSs X E sa Γ O' De := by simpa using q
      exact wSs_mono (q.run W σ H' Hd' p') (ends_lift s)
    | false =>
      have q : WSs X E sb Γ O' De := by simpa using q
      exact wSs_mono (q.run W σ H' Hd' p') (ends_lift s))
theorem ws_set (i : Nat) {x : Str} {pos' : Pos} (hN : X.N.Nodup) (h : WE X E e Γ O fun d O' => De.nx (Γ.set i (some d)) O') (hi : X.N[i]? = some x := by rfl) (hx : Loc X.env.scope x := by first | exact Or.inl rfl | exact Or.inr rfl)
    (hs : swapsWith e (some (.Name x pos')) pos.line X.env = pure false := by rfl) (hf : X.fn x = true ∨ X.env.scope.names.lookup x = some .local := by first | exact .inl rfl | exact .inr rfl) : WS X E (.Assign [.Name x pos'] e pos) Γ O De := .mk fun W σ H Hd p =>
  wS_of (ps_set hN hi hx peW hs hf) (h.use p fun v H' d O' Hd' s p' r q => ⟨_, O', Hd', s, p'.g.set r, p'.h, q⟩)
/-- target = value, any target -/
theorem ws_asg {tg : Expr} (h : WE X E e Γ O fun d O' => WG X E tg d Γ O' De.nx) (hs : swapsWithSole [tg] e pos.line X.env = pure false := by rfl) (hw : swappedStores [tg] e X.env = pure none := by rfl)
    (h1 : (assignEach [tg] X.env).map (·.2) = [assign tg X.env] := by rfl) : WS X E (.Assign [tg] e pos) Γ O De := .mk fun W σ H Hd p =>
  wS_of (ps_asg peW pgW hs hw h1) (h.use p fun v H' d O' Hd' s p' r q => q.use p' r fun σ2 H2 Γ2 O2 Hd2 s2 p2 q2 => ⟨Γ2, O2, Hd2, s.trans s2, p2.g, p2.h, q2⟩)
/-- a, b = x, y -/
theorem ws_par (i j : Nat) {x y : Str} {px py pt pt2 : Pos} {kt k2 : Nat} (hc : X.calm = true) (hN : X.N.Nodup) (h : WA X E [a, b] Γ O fun ds O' => ∃ d1 d2, ds = [d1, d2] ∧ De.nx ((Γ.set i (some d1)).set j (some d2)) O')
    (hi : X.N[i]? = some x := by rfl) (hj : X.N[j]? = some y := by rfl) (hij : i ≠ j := by decide)
    (hx : X.env.scope.names.lookup x = some .local := by rfl) (hy : X.env.scope.names.lookup y = some .local := by rfl)
    (hw : swappedStores [.Tuple [.Name x px, .Name y py] kt pt] (.Tuple [a, b] k2 pt2) X.env = pure (some [x, y]) := by rfl)
    (hs : swapsWithSole [.Tuple [.Name x px, .Name y py] kt pt] (.Tuple [a, b] k2 pt2) pos.line X.env = pure false := by rfl) :
    WS X E (.Assign [.Tuple [.Name x px, .Name y py] kt pt] (.Tuple [a, b] k2 pt2) pos) Γ O De := .mk fun W σ H Hd p =>
  wS_of (ps_par hc hN hi hj hij hx hy paW hw hs) (h.use p fun vs H' ds O' Hd' s p' r ⟨d1, d2, e1, q⟩ => by
    subst e1
    cases r with | cons r1 r =>
    cases r with | cons r2 r =>
    cases r
    exact ⟨_, _, rfl, _, O', Hd', s, (p'.g.set r1).set r2, p'.h, q⟩)
/-- name op= e -/
def sIp (op : D → D → Own → PD → Prop) := op
theorem ws_augI (i : Nat) {x : Str} {op : Operator} {f : Int → Int → Int} {pos' : Pos} (ho : PIp X op (ipI f)) (hN : X.N.Nodup) {n : Int} (hd : Γ[i]? = some (some (.int n))) (h : WE X E e Γ O fun d O' => ∃ m, d = .int m ∧ De.nx (Γ.set i (some (.int (f n m)))) O')
    (hi : X.N[i]? = some x := by rfl) (hx : Loc X.env.scope x := by first | exact Or.inl rfl | exact Or.inr rfl) (hf : X.fn x = true ∨ X.env.scope.names.lookup x = some .local := by first | exact .inl rfl | exact .inr rfl) :
    WS X E (.AugAssign (.Name x pos') op e pos) Γ O De := .mk fun W σ H Hd p => by
  obtain ⟨v, ev, rv⟩ := p.g.2 i _ hd
  cases rv
  exact wS_of (ps_aug hN hi hx peW ho hf) ⟨.int n, ev, h.use p fun u H' d O' Hd' s p' r ⟨m, e1, q⟩ => by
    subst e1
    cases r
    exact ⟨n, m, rfl, rfl, _, O', Hd', s, p'.g.set (.int _), p'.h, q⟩⟩
theorem ws_augAdd (i : Nat) {x : Str} {pos' : Pos} (hN : X.N.Nodup) {n : Int} (hd : Γ[i]? = some (some (.int n))) (h : WE X E e Γ O fun d O' => ∃ m, d = .int m ∧ De.nx (Γ.set i (some (.int (n + m)))) O')
    (hi : X.N[i]? = some x := by rfl) (hx : Loc X.env.scope x := by first | exact Or.inl rfl | exact Or.inr rfl) (hf : X.fn x = true ∨ X.env.scope.names.lookup x = some .local := by first | exact .inl rfl | exact .inr rfl) :
    WS X E (.AugAssign (.Name x pos') .Add e pos) Γ O De := ws_augI i ip_add hN hd h hi hx hf

/-! ### targets -/
theorem wg_name (i : Nat) {x : Str} {d : D} {Q : Env' → Own → Prop} (hN : X.N.Nodup) (h : Q (Γ.set i (some d)) O) (hi : X.N[i]? = some x := by rfl) (hx : Loc X.env.scope x := by first | exact Or.inl rfl | exact Or.inr rfl)
    (hf : X.fn x = true ∨ X.env.scope.names.lookup x = some .local := by first | exact .inl rfl | exact .inr rfl) : WG X E (.Name x pos) d Γ O Q := .mk fun W σ H Hd v p r =>
  wG_of (pg_name hN hi hx hf) ⟨_, O, Hd, Same.refl _, p.g.set r, p.h, h⟩
theorem wgs_nil {Q : Env' → Own → Prop} (h : Q Γ O) : WGs X E [] [] Γ O Q := .mk fun W σ H Hd vs p r => by
  cases r
  exact wGs_of pgs_nil ⟨rfl, Γ, O, Hd, Same.refl _, p.g, p.h, h⟩
theorem wgs_cons {d : D} {ds : List D} {es : List Expr} {Q : Env' → Own → Prop} (h : WG X E e d Γ O fun Γ' O' => WGs X E es ds Γ' O' Q)
    (hs : (assignEach (e :: es) X.env).map (·.2) = assign e X.env :: (assignEach es X.env).map (·.2) := by rfl) : WGs X E (e :: es) (d :: ds) Γ O Q := .mk fun W σ H Hd vs p r => by
  cases r with | @cons v vs' _ _ r1 r2 =>
  refine wGs_of (pgs_cons pgW pgsW hs) ⟨v, vs', rfl, h.use p r1 fun σ' H' Γ' O' Hd' s p' q => ?_⟩
  exact wGs_mono (q.run W σ' H' Hd' _ p' (r2.mono s)) fun _ _ z => z.lift s
theorem wg_tup {es : List Expr} {ds : List D} {k n : Nat} {Q : Env' → Own → Prop} (hc : X.calm = true) (h : WGs X E es ds Γ O Q) (hl : ds.length = n)
    (hn : (assignEach es X.env).length = n := by rfl) (hst : (assignEach es X.env).findIdx? (·.1) = none := by rfl) : WG X E (.Tuple es k pos) (.tup ds) Γ O Q := .mk fun W σ H Hd v p r => by
  cases r with | tup g r =>
  exact wG_of (pg_tup hc pgsW hn hst) ⟨_, _, rfl, Same.sqT p.h.same g.sqT, by rw [r.length]; exact hl, h.run W σ H Hd _ p r⟩
theorem wg_pr {es : List Expr} {ds : List D} {k n : Nat} {Q : Env' → Own → Prop} (hc : X.calm = true) (h : WGs X E es ds Γ O Q) (hl : ds.length = n)
    (hn : (assignEach es X.env).length = n := by rfl) (hst : (assignEach es X.env).findIdx? (·.1) = none := by rfl) : WG X E (.Tuple es k pos) (.pr ds) Γ O Q := .mk fun W σ H Hd v p r => by
  cases r with | pr g r =>
  exact wG_of (pg_tup hc pgsW hn hst) ⟨_, _, rfl, Same.sqT p.h.same g, by rw [r.length]; exact hl, h.run W σ H Hd _ p r⟩
theorem wg_unl {es : List Expr} {d : D} {ds : List D} {k n : Nat} {Q : Env' → Own → Prop} (hc : X.calm = true) (hd : asL O d = some ds) (h : WGs X E es ds Γ O Q) (hl : ds.length = n)
    (hn : (assignEach es X.env).length = n := by rfl) (hst : (assignEach es X.env).findIdx? (·.1) = none := by rfl) : WG X E (.Tuple es k pos) d Γ O Q := .mk fun W σ H Hd v p r => by
  obtain ⟨a, vs, e1, g, r2⟩ := p.h.readL r hd
  subst e1
  exact wG_of (pg_unl hc pgsW hn hst) ⟨_, _, rfl, g, by rw [r2.length]; exact hl, h.run W σ H Hd _ p r2⟩
/-- o[i] = .. of an owned list -/
theorem wg_sub {o i : Expr} {d : D} {Q : Env' → Own → Prop} (h : WE X E o Γ O fun x O1 => WE X E i Γ O1 fun y O2 => ∃ p n ds j, x = .obj p ∧ y = .int n ∧ O2 p = some (.lst ds) ∧ ixN ds.length n = some j ∧ Q Γ (updO O2 p (.lst (ds.set j d))))
    (ha : ∀ v, assign (.Subscript o i pos) X.env v = (do
      let ov ← holding [v] (eval o X.env)
      let iv ← holding [v, ov] (eval i X.env)
      standAt pos
      holding [v, ov, iv] (setItem ov iv v)
      release [v, ov, iv] []) := by intro _; rfl) : WG X E (.Subscript o i pos) d Γ O Q := .mk fun W σ H Hd v p r =>
  wG_of (pg_sub peW peW set_list ha) (h.use p fun ov H1 x O1 Hd1 s1 p1 r1 q1 => q1.use p1 fun iv H2 y O2 Hd2 s2 p2 r2 ⟨q, n, ds, j, e1, e2, e3, e4, q2⟩ => by
    subst e1; subst e2
    cases r1; cases r2
    obtain ⟨n0, vs, h1, h2⟩ := p2.h.own q _ e3
    refine ⟨q, vs, n, j, rfl, rfl, h1, by rw [h2.length]; exact e4, Γ, _, Hd2, s1.trans s2, p.g.mono (s1.trans s2), p2.h.putL n0 (h2.set (r.mono (s1.trans s2)) j), q2⟩)

/-! ### what is walked -/
theorem itof_list {K : PySem.W.Frag} {Hd : Hp} {x : D} {ds : List D} {a : Addr} (hx : Rep K Hd (.ref a) x) : ItOf K Hd (fun O => asL O x = some ds) (Itl K a) ds := fun i H Hd1 O s h g => by
  obtain ⟨a', vs, e1, q, r⟩ := h.readL (hx.mono s) g
  cases e1
  refine ⟨fun d hd => ?_, fun hl => ⟨vs, q, by rw [r.length]; exact hl⟩⟩
  obtain ⟨v, hv, rv⟩ := r.get hd
  refine ⟨⟨vs, v, q, hv⟩, fun y H' ⟨e2, hy⟩ => ?_⟩
  subst e2
  have e3 := hy vs q
  rw [hv] at e3
  cases e3
  exact ⟨Hd1, Same.refl _, h, rv⟩
theorem wi_list {tg l : Expr} {R : (Own → Prop) → List D → Own → Prop} (h : WE X E l Γ O fun x O1 => ∃ ds, asL O1 x = some ds ∧ R (fun O => asL O x = some ds) ds O1) : WI X E tg l Γ O R := .mk fun W σ H Hd p =>
  wI_of (pi_list peW) (h.use p fun v H1 x O1 Hd1 s1 p1 r1 ⟨ds, e, q⟩ => by
    obtain ⟨a, vs, e1, g, r⟩ := p1.h.readL r1 e
    subst e1
    exact ⟨a, rfl, ⟨vs, g⟩, _, ds, O1, Hd1, s1, p1.h, itof_list r1, q⟩)
theorem wi_tup {tg l : Expr} {R : (Own → Prop) → List D → Own → Prop} (h : WE X E l Γ O fun x O1 => ∃ ds, x = .tup ds ∧ R (fun _ => True) ds O1) : WI X E tg l Γ O R := .mk fun W σ H Hd p =>
  wI_of (pi_tup peW) (h.use p fun v H1 x O1 Hd1 s1 p1 r1 ⟨ds, e, q⟩ => by
    subst e
    cases r1 with | @tup a vs _ g r =>
    refine ⟨a, rfl, ⟨vs, Same.sqT p1.h.same g.sqT⟩, _, ds, O1, Hd1, s1, p1.h, fun i H Hd2 O s h _ => ?_, q⟩
    have q2 := Same.sqT h.same (Same.sqT s g.sqT)
    have r2 := r.mono s
    refine ⟨fun d hd => ?_, fun hl => ⟨vs, q2, by rw [r.length]; exact hl⟩⟩
    obtain ⟨v, hv, rv⟩ := r2.get hd
    refine ⟨⟨vs, v, q2, hv⟩, fun y H' ⟨e2, hy⟩ => ?_⟩
    subst e2
    have e3 := hy vs q2
    rw [hv] at e3
    cases e3
    exact ⟨Hd2, Same.refl _, h, rv⟩)
def rngD (lo : Int) (n : Nat) : List D := (List.range n).map fun (k : Nat) => D.int (lo + k)
theorem rngD_len {lo : Int} {n : Nat} : (rngD lo n).length = n := by simp [rngD]
theorem rngD_get {lo : Int} {n i : Nat} {d : D} (h : (rngD lo n)[i]? = some d) : i < n ∧ d = .int (lo + i) := by
  have hl : i < n := by
    have := (List.getElem?_eq_some_iff.mp h).1
    simpa [rngD] using this
  refine ⟨hl, ?_⟩
  simp [rngD, List.getElem?_range hl] at h
  exact h.symm
theorem itof_rng {K : PySem.W.Frag} {Hd : Hp} {lo : Int} {n : Nat} : ItOf K Hd (fun _ => True) (Itr lo n) (rngD lo n) := fun i H Hd1 O s h _ => by
  refine ⟨fun d hd => ?_, fun hl => by rw [rngD_len] at hl; exact hl⟩
  obtain ⟨hi, rfl⟩ := rngD_get hd
  exact ⟨hi, fun x H' ⟨e1, e2⟩ => by subst e1; subst e2; exact ⟨Hd1, Same.refl _, h, .int _⟩⟩
theorem wi_rng1 {tg n : Expr} {p : Pos} {R : (Own → Prop) → List D → Own → Prop} (hm : X.mg "range" = none) (h : WA X E [n] Γ O fun ds O1 => ∃ j : Int, ds = [.int j] ∧ -(2 ^ 62) ≤ j ∧ j < 2 ^ 62 ∧ R (fun _ => True) (rngD 0 j.toNat) O1)
    (hg : Gl X "range" := by rfl) (hs : starEach [n] X.env = [(false, eval n X.env)] := by rfl) : WI X E tg (.Call (.Name "range" p) [n] [] pos) Γ O R := .mk fun W σ H Hd p =>
  wI_of (pi_range1 hg hm paW hs) (h.use p fun vs H1 ds O1 Hd1 s1 p1 r1 ⟨j, e, h1, h2, q⟩ => by
    subst e
    cases r1 with | cons r r' =>
    cases r; cases r'
    exact ⟨j, rfl, h1, h2, _, _, O1, Hd1, s1, p1.h, itof_rng, q⟩)
theorem wi_rng2 {tg m n : Expr} {p : Pos} {R : (Own → Prop) → List D → Own → Prop} (hm : X.mg "range" = none) (h : WA X E [m, n] Γ O fun ds O1 => ∃ i j : Int, ds = [.int i, .int j] ∧ (-(2 ^ 62) ≤ i ∧ i < 2 ^ 62 ∧ -(2 ^ 62) ≤ j ∧ j < 2 ^ 62) ∧ R (fun _ => True) (rngD i (j - i).toNat) O1)
    (hg : Gl X "range" := by rfl) (hs : starEach [m, n] X.env = [(false, eval m X.env), (false, eval n X.env)] := by rfl) (hs2 : starEach [n] X.env = [(false, eval n X.env)] := by rfl) : WI X E tg (.Call (.Name "range" p) [m, n] [] pos) Γ O R := .mk fun W σ H Hd p =>
  wI_of (pi_range2 hg hm paW hs hs2) (h.use p fun vs H1 ds O1 Hd1 s1 p1 r1 ⟨i, j, e, h1, q⟩ => by
    subst e
    cases r1 with | cons r r' =>
    cases r' with | cons r2 r' =>
    cases r; cases r2; cases r'
    exact ⟨i, j, rfl, h1, _, _, O1, Hd1, s1, p1.h, itof_rng, q⟩)
def enumD (ds : List D) : List D := ds.zipIdx.map fun p => D.pr [.int (p.2 : Nat), p.1]
theorem enumD_len {ds : List D} : (enumD ds).length = ds.length := by simp [enumD]
theorem enumD_get {ds : List D} {i : Nat} {d : D} (h : (enumD ds)[i]? = some d) : ∃ x, ds[i]? = some x ∧ d = .pr [.int i, x] := by
  unfold enumD at h
  rw [List.getElem?_map, List.getElem?_zipIdx] at h
  cases e : ds[i]? with
  | none => rw [e] at h; simp at h
  | some x =>
    rw [e] at h
    simp at h
    exact ⟨x, rfl, h.symm⟩
theorem wi_enum {l : Expr} {p : Pos} {elts : List Expr} {kk : Nat} {tpos : Pos} {R : (Own → Prop) → List D → Own → Prop} (hm : X.mg "enumerate" = none) (h : WE X E l Γ O fun x O1 => ∃ ds, asL O1 x = some ds ∧ R (fun O => asL O x = some ds) (enumD ds) O1)
    (hg : Gl X "enumerate" := by rfl) (hs : starEach [l] X.env = [(false, eval l X.env)] := by rfl) : WI X E (.Tuple elts kk tpos) (.Call (.Name "enumerate" p) [l] [] pos) Γ O R := .mk fun W σ H Hd p =>
  wI_of (pi_enum hg hm (pa_cons peW pa_nil hs) hs) (h.use p fun v H1 x O1 Hd1 s1 p1 r1 ⟨ds, e, q⟩ => by
    obtain ⟨a, vs, e1, g, r⟩ := p1.h.readL r1 e
    subst e1
    refine ⟨a, vs, rfl, g, _, _, O1, Hd1, s1, p1.h, fun i H2 Hd2 O2 s2 h2 g2 => ?_, q⟩
    obtain ⟨a', vs2, e1, q2, r2⟩ := h2.readL (r1.mono s2) g2
    cases e1
    refine ⟨fun d hd => ?_, fun hl => ⟨vs2, q2, by rw [r2.length]; rw [enumD_len] at hl; exact hl⟩⟩
    obtain ⟨x', hx, rfl⟩ := enumD_get hd
    obtain ⟨v, hv, rv⟩ := r2.get hx
    refine ⟨⟨vs2, v, q2, hv⟩, fun y H' ⟨T, z, e2, nT, e3, hz⟩ => ?_⟩
    subst e2; subst e3
    have e4 := hz vs2 q2
    rw [hv] at e4
    cases e4
    have sn := same_new (o := HO.tup [.int (i : Nat), v]) (h2.free nT)
    exact ⟨_, sn, h2.lay nT, .pr (.inl (.inl upd_same)) (.cons (.int _) (.cons (rv.mono sn) .nil))⟩)

/-! ### for -/
theorem ws_for {tg iter : Expr} {body : List Stmt} (hp : PassesOwn (model X.prog X.w) X.A X.env X.xe) (hc : X.calm = true)
    (h : WI X E tg iter Γ O fun G ds O1 => ∃ Pv : Nat → Env' → Own → Prop, Pv 0 Γ O1 ∧ (∀ i Γ2 O2, Pv i Γ2 O2 → G O2) ∧
      (∀ i d Γ2 O2, ds[i]? = some d → Pv i Γ2 O2 → WG X E tg d Γ2 O2 fun Γ3 O3 => WSs X E body Γ3 O3 { De with nx := Pv (i + 1), ct := Pv (i + 1), bk := De.nx }) ∧ (∀ Γ2 O2, Pv ds.length Γ2 O2 → De.nx Γ2 O2))
    (hs : ∀ x, foldedSetIterable iter X.env x = pure x := by intro _; rfl) : WS X E (.For tg iter body [] pos) Γ O De := .mk fun W σ H Hd p =>
  wS_of (ps_for hp hc piW pgW pssW hs) (fun pins s I => thn (h.run W σ H Hd p pins s I) fun v s1 hv => thn hv fun itv s2 ⟨it, fp, tn, J, H1, e1, I1, T, t0, fpo, G, ds, O1, Hd1, s1', a1, io, Pv, h0, hG, hs', hd⟩ => by
    refine ⟨it, fp, tn, J, H1, e1, I1, T, t0, fpo, fun i m σ2 H2 => m = ds.length - i ∧ i ≤ ds.length ∧ ∃ Γ2 O2 Hd2, Same Hd1 Hd2 ∧ AbsG X.K Hd2 σ2 Γ2 ∧ AbsH X.K H2 Hd2 O2 ∧ Pv i Γ2 O2, ⟨_, rfl, Nat.zero_le _, Γ, O1, Hd1, Same.refl _, p.g.mono s1', a1, h0⟩, ?_⟩
    rintro i m σ2 H2 ⟨rfl, hi, Γ2, O2, Hd2, s2', g2, a2, pv⟩
    have io2 := io i H2 Hd2 O2 s2' a2 (hG i Γ2 O2 pv)
    by_cases hlt : i < ds.length
    · obtain ⟨d, hd'⟩ : ∃ d, ds[i]? = some d := ⟨_, List.getElem?_eq_getElem hlt⟩
      obtain ⟨go, yl⟩ := io2.1 d hd'
      refine .inr ⟨go, fun σ3 H3 => ∃ Γ3 O3 Hd3, Same Hd1 Hd3 ∧ AbsG X.K Hd3 σ3 Γ3 ∧ AbsH X.K H3 Hd3 O3 ∧ Pv (i + 1) Γ3 O3, fun σ3 H3 ⟨Γ3, O3, Hd3, s3, g3, a3, pv3⟩ => ⟨ds.length - (i + 1), by omega, rfl, hlt, Γ3, O3, Hd3, s3, g3, a3, pv3⟩, fun x H3 hy => ?_⟩
      obtain ⟨Hd3, s3, a3, rx⟩ := yl x H3 hy
      have p3 : Pre X E W σ2 H3 Hd3 Γ2 O2 := p.go2 (s1'.trans (s2'.trans s3)) a3 (g2.mono s3)
      refine (hs' i d Γ2 O2 hd' pv).use p3 rx fun σ4 H4 Γ4 O4 Hd4 s4 p4 q4 => ?_
      have s14 := s2'.trans (s3.trans s4)
      refine wSs_mono (q4.run W σ4 H4 Hd4 p4) ⟨fun σ5 H5 ⟨Γ5, O5, Hd5, s5, g5, a5, q5⟩ => ⟨Γ5, O5, Hd5, s14.trans s5, g5, a5, q5⟩, fun v5 H5 z => z.lift (s1'.trans s14), fun σ5 H5 z => z.lift (s1'.trans s14), fun σ5 H5 ⟨Γ5, O5, Hd5, s5, g5, a5, q5⟩ => ⟨Γ5, O5, Hd5, s14.trans s5, g5, a5, q5⟩⟩
    · have e : i = ds.length := by omega
      subst e
      exact .inl ⟨io2.2 (Nat.le_refl _), Γ2, O2, Hd2, s1'.trans s2', g2, a2, hd Γ2 O2 pv⟩)
/-- while, by a word and a measure -/
theorem ws_while {c : Expr} {body : List Stmt} (hp : PassesOwn (model X.prog X.w) X.A X.env X.xe) (Pv : Nat → Env' → Own → Prop) (h0 : ∃ m, Pv m Γ O)
    (hs : ∀ m Γ2 O2, Pv m Γ2 O2 → WT X E c Γ2 O2 fun k O3 => if k = true then WSs X E body Γ2 O3 { De with nx := fun Γ4 O4 => ∃ m', m' < m ∧ Pv m' Γ4 O4, ct := fun Γ4 O4 => ∃ m', m' < m ∧ Pv m' Γ4 O4, bk := De.nx } else De.nx Γ2 O3) :
    WS X E (.While c body [] pos) Γ O De := .mk fun W σ H Hd p => by
  obtain ⟨m0, h0⟩ := h0
  refine wS_of (ps_while hp ptW pssW) ⟨fun m σ2 H2 => ∃ Γ2 O2 Hd2, Same Hd Hd2 ∧ AbsG X.K Hd2 σ2 Γ2 ∧ AbsH X.K H2 Hd2 O2 ∧ Pv m Γ2 O2, ⟨m0, Γ, O, Hd, Same.refl _, p.g, p.h, h0⟩, ?_⟩
  rintro m σ2 H2 ⟨Γ2, O2, Hd2, s2, g2, a2, pv⟩
  refine (hs m Γ2 O2 pv).use (p.go2 s2 a2 g2) fun k H3 O3 Hd3 s3 p3 q3 => ?_
  cases k with
  | true =>
    simp only [if_true] at q3
    rw [if_pos rfl]
    refine ⟨fun σ4 H4 => ∃ Γ4 O4 Hd4, Same Hd Hd4 ∧ AbsG X.K Hd4 σ4 Γ4 ∧ AbsH X.K H4 Hd4 O4 ∧ ∃ m', m' < m ∧ Pv m' Γ4 O4, fun σ4 H4 ⟨Γ4, O4, Hd4, s4, g4, a4, m', hm, pv4⟩ => ⟨m', hm, Γ4, O4, Hd4, s4, g4, a4, pv4⟩, ?_⟩
    have s13 := s2.trans s3
    exact wSs_mono (q3.run W σ2 H3 Hd3 p3) ⟨fun σ5 H5 ⟨Γ5, O5, Hd5, s5, g5, a5, q5⟩ => ⟨Γ5, O5, Hd5, s13.trans s5, g5, a5, q5⟩, fun v5 H5 z => z.lift s13, fun σ5 H5 z => z.lift s13, fun σ5 H5 ⟨Γ5, O5, Hd5, s5, g5, a5, q5⟩ => ⟨Γ5, O5, Hd5, s13.trans s5, g5, a5, q5⟩⟩
  | false =>
    rw [if_neg Bool.false_ne_true]
    exact ⟨Γ2, O3, Hd3, s2.trans s3, p3.g, p3.h, by simpa using q3⟩

/-! ### comprehensions -/
/-- a comprehension's own target -/
structure WGc (X : Cx) (vs : List Nat) (tg : Expr) (d : D) (Γ : Env') (O : Own) (Q : Env' → Own → Prop) : Prop where
  run : ∀ (σ : L2.St) (H Hd : Hp) (v : V), AbsG X.K Hd (wipe σ vs) Γ → AbsH X.K H Hd O → Rep X.K Hd v d →
  wG X tg v (wipe σ vs) H fun σ' H' => wipe σ' vs = wipe σ vs ∧ PostS X.K Hd Q σ' H'
theorem wgc_name (i : Nat) {x : Str} {d : D} {Q : Env' → Own → Prop} (hN : X.N.Nodup) (h : Q (Γ.set i (some d)) O) (hi : X.N[i]? = some x := by rfl) (hx : Loc X.env.scope x := by first | exact Or.inl rfl | exact Or.inr rfl)
    (hf : X.fn x = true ∨ X.env.scope.names.lookup x = some .local := by first | exact .inl rfl | exact .inr rfl) : WGc X [i] (.Name x pos) d Γ O Q := .mk fun σ H Hd v g a r =>
  wG_of (pg_name hN hi hx hf) ⟨by simp [wipe], _, O, Hd, Same.refl _, g.set r, a, h⟩
theorem wgc_tup2 (i j : Nat) {x y : Str} {px py : Pos} {d1 d2 : D} {k : Nat} {Q : Env' → Own → Prop} (hc : X.calm = true) (hN : X.N.Nodup) (h : Q ((Γ.set i (some d1)).set j (some d2)) O) (hi : X.N[i]? = some x := by rfl) (hj : X.N[j]? = some y := by rfl) (hij : i ≠ j := by decide)
    (hx : Loc X.env.scope x := by first | exact Or.inl rfl | exact Or.inr rfl) (hy : Loc X.env.scope y := by first | exact Or.inl rfl | exact Or.inr rfl)
    (hf : X.fn x = true ∨ X.env.scope.names.lookup x = some .local := by first | exact .inl rfl | exact .inr rfl) (hf2 : X.fn y = true ∨ X.env.scope.names.lookup y = some .local := by first | exact .inl rfl | exact .inr rfl)
    (hs1 : (assignEach [.Name x px, .Name y py] X.env).map (·.2) = assign (.Name x px) X.env :: (assignEach [.Name y py] X.env).map (·.2) := by rfl) (hs2 : (assignEach [.Name y py] X.env).map (·.2) = assign (.Name y py) X.env :: (assignEach [] X.env).map (·.2) := by rfl)
    (hn : (assignEach [.Name x px, .Name y py] X.env).length = 2 := by rfl) (hst : (assignEach [.Name x px, .Name y py] X.env).findIdx? (·.1) = none := by rfl) : WGc X [i, j] (.Tuple [.Name x px, .Name y py] k pos) (.tup [d1, d2]) Γ O Q := .mk fun σ H Hd v g a r => by
  cases r with | tup gq r =>
  cases r with | cons r1 r =>
  cases r with | cons r2 r =>
  cases r
  refine wG_of (pg_tup hc (pgs_cons (pg_name hN hi hx hf) (pgs_cons (pg_name hN hj hy hf2) pgs_nil hs2) hs1) hn hst) ⟨_, _, rfl, Same.sqT a.same gq.sqT, rfl, _, _, rfl, _, _, rfl, rfl, ?_, _, O, Hd, Same.refl _, (g.set r1).set r2, a, h⟩
  simp only [wipe]
  apply List.ext_getElem?
  intro n
  simp only [List.getElem?_set, List.length_set]
  by_cases h1 : i = n
  · simp [h1]
  · by_cases h2 : j = n
    · simp [h1, h2]
    · simp [h1, h2]
theorem wgc_pr2 (i j : Nat) {x y : Str} {px py : Pos} {d1 d2 : D} {k : Nat} {Q : Env' → Own → Prop} (hc : X.calm = true) (hN : X.N.Nodup) (h : Q ((Γ.set i (some d1)).set j (some d2)) O) (hi : X.N[i]? = some x := by rfl) (hj : X.N[j]? = some y := by rfl) (hij : i ≠ j := by decide)
    (hx : Loc X.env.scope x := by first | exact Or.inl rfl | exact Or.inr rfl) (hy : Loc X.env.scope y := by first | exact Or.inl rfl | exact Or.inr rfl)
    (hf : X.fn x = true ∨ X.env.scope.names.lookup x = some .local := by first | exact .inl rfl | exact .inr rfl) (hf2 : X.fn y = true ∨ X.env.scope.names.lookup y = some .local := by first | exact .inl rfl | exact .inr rfl)
    (hs1 : (assignEach [.Name x px, .Name y py] X.env).map (·.2) = assign (.Name x px) X.env :: (assignEach [.Name y py] X.env).map (·.2) := by rfl) (hs2 : (assignEach [.Name y py] X.env).map (·.2) = assign (.Name y py) X.env :: (assignEach [] X.env).map (·.2) := by rfl)
    (hn : (assignEach [.Name x px, .Name y py] X.env).length = 2 := by rfl) (hst : (assignEach [.Name x px, .Name y py] X.env).findIdx? (·.1) = none := by rfl) : WGc X [i, j] (.Tuple [.Name x px, .Name y py] k pos) (.pr [d1, d2]) Γ O Q := .mk fun σ H Hd v g a r => by
  cases r with | pr gq r =>
  cases r with | cons r1 r =>
  cases r with | cons r2 r =>
  cases r
  refine wG_of (pg_tup hc (pgs_cons (pg_name hN hi hx hf) (pgs_cons (pg_name hN hj hy hf2) pgs_nil hs2) hs1) hn hst) ⟨_, _, rfl, Same.sqT a.same gq, rfl, _, _, rfl, _, _, rfl, rfl, ?_, _, O, Hd, Same.refl _, (g.set r1).set r2, a, h⟩
  simp only [wipe]
  apply List.ext_getElem?
  intro n
  simp only [List.getElem?_set, List.length_set]
  by_cases h1 : i = n
  · simp [h1]
  · by_cases h2 : j = n
    · simp [h1, h2]
    · simp [h1, h2]
def wTs (X : Cx) (ifs : List Expr) : TT := fun σ H Q => ∀ (pins : List (Addr × Obj)) (s : Shared), Inv X pins σ H s → wpAny (model X.prog X.w) X.A (forIn ifs true fun c r => if r = true then do let ok ← isTrue c X.env (eval c X.env); pure (ForInStep.yield ok) else pure (ForInStep.yield r)) (TP X pins σ Q) X.xe s
theorem ptsW {X : Cx} {ifs : List Expr} : PTs X ifs (wTs X ifs) := ⟨fun pins s σ H Q I h => h pins s I⟩
structure WTs (X : Cx) (E : ExP) (ifs : List Expr) (Γ : Env') (O : Own) (Q : Bool → Own → Prop) : Prop where
  run : ∀ (W : WX) (σ : L2.St) (H Hd : Hp), Pre X E W σ H Hd Γ O → wTs X ifs σ H (PostT X.K Hd Q)
theorem wts_nil {Q : Bool → Own → Prop} (h : Q true O) : WTs X E [] Γ O Q := .mk fun W σ H Hd p pins s I => pts_nil.run pins s σ H _ I ⟨O, Hd, Same.refl _, p.h, h⟩
theorem wts_one {Q : Bool → Own → Prop} {c : Expr} (h : WT X E c Γ O Q) : WTs X E [c] Γ O Q := .mk fun W σ H Hd p pins s I => (pts_one ptW).run pins s σ H _ I (h.run W σ H Hd p)
theorem WTs.use {W : WX} {σ : L2.St} {H Hd : Hp} {ifs : List Expr} {Q : Bool → Own → Prop} (h : WTs X E ifs Γ O Q) (p : Pre X E W σ H Hd Γ O) {Q' : Bool → Hp → Prop} (k : ∀ b H' O' Hd', Same Hd Hd' → Pre X E W σ H' Hd' Γ O' → Q b O' → Q' b H') : wTs X ifs σ H Q' := fun pins s I =>
  thn (h.run W σ H Hd p pins s I) fun b s' ⟨H', I', O', Hd', s2, a, q⟩ => ⟨H', I', k b H' O' Hd' s2 (p.go s2 a) q⟩
/-- the blocks of a comprehension -/
abbrev blkX (X : Cx) (scope : Scope) (s : Shared) (H : Hp) (C : Addr) (cl : List (Str × Addr)) (fp : List Addr) : Cx := X.blk s H scope (compEnvC scope cl C X.env) fp
theorem pre0 {Y : Cx} {σ : L2.St} {H Hd : Hp} (g : AbsG Y.K Hd σ Γ) (h : AbsH Y.K H Hd O) : Pre Y noEx (fun _ _ _ _ => False) σ H Hd Γ O := ⟨takes_none5, g, h, fun _ _ _ _ _ _ _ _ _ _ _ _ z => z⟩
/-- the new list behind the comprehension: owned, or fixed -/
def EndL (p : Addr) (ds : List D) (O : Own) (Q : PD) : Prop := Q (.obj p) O ∨ Q (.lst ds) (delO O p)
section
variable {elt tg iter : Expr} {ifs : List Expr} {scope : Scope} {own : List (Str × Nat)} {Q : PD}
def LcBody (X : Cx) (Γ : Env') (elt tg : Expr) (ifs : List Expr) (scope : Scope) (vs : List Nat) (G : Own → Prop) (ds : List D) (O1 : Own) (Q : PD) : Prop :=
  ∀ p, O1 p = none → ∃ Pv : Nat → List D → Own → Prop, Pv 0 [] (updO O1 p (.lst [])) ∧ (∀ i acc O2, Pv i acc O2 → G O2 ∧ O2 p = some (.lst acc)) ∧
    (∀ i d acc O2, ds[i]? = some d → Pv i acc O2 → ∀ s H C cl fp, WGc (blkX X scope s H C cl fp) vs tg d (wipeD Γ vs) O2 fun Γ3 O3 => ∀ s H C cl fp,
      WTs (blkX X scope s H C cl fp) noEx ifs Γ3 O3 fun b O4 => if b = true then ∀ s H C cl fp, WE (blkX X scope s H C cl fp) noEx elt Γ3 O4 (fun y O5 => O5 p = some (.lst acc) ∧ acc.length < sizeLine ∧ Pv (i + 1) (acc ++ [y]) (updO O5 p (.lst (acc ++ [y])))) else Pv (i + 1) acc O4) ∧
    (∀ acc O2, Pv ds.length acc O2 → EndL p acc O2 Q)
theorem lc_run {W : WX} {σ : L2.St} {H Hd : Hp} (p : Pre X E W σ H Hd Γ O) (h : WI X E tg iter Γ O fun G ds O1 => LcBody X Γ elt tg ifs scope (own.map (·.2)) G ds O1 Q) {Q' : VK} (kk : ∀ v H', Post X.K Hd Q v H' → Q' v H') :
    tLc (wI X tg iter) (fun v σ H R => ∀ s H0 C cl fp, wG (blkX X scope s H0 C cl fp) tg v σ H R) (fun σ H R => ∀ s H0 C cl fp, wTs (blkX X scope s H0 C cl fp) ifs σ H R) (fun σ H R => ∀ s H0 C cl fp, wE (blkX X scope s H0 C cl fp) elt σ H R) (own.map (·.2)) σ H Q' := fun pins s I =>
  thn (h.run W σ H Hd p pins s I) fun v s1 hv => thn hv fun itv s2 ⟨it, fp, tn, J, H1, e1, I1, T, t0, fpo, G, ds, O1, Hd1, s1', a1, io, body⟩ => by
    refine ⟨it, fp, tn, J, H1, e1, I1, T, t0, fpo, fun P nP => ?_⟩
    obtain ⟨Pv, h0, hG, hs, hd⟩ := body P (a1.freeO nP)
    refine ⟨fun i m H2 => m = ds.length - i ∧ i ≤ ds.length ∧ ∃ acc O2 Hd2, Same Hd1 Hd2 ∧ AbsH X.K H2 Hd2 O2 ∧ Pv i acc O2, ⟨_, rfl, Nat.zero_le _, [], _, Hd1, Same.refl _, a1.putL (a1.free nP) .nil, h0⟩, ?_⟩
    rintro i m H2 ⟨rfl, hi, acc, O2, Hd2, s2', a2, pv⟩
    obtain ⟨gO, eP⟩ := hG i acc O2 pv
    have io2 := io i H2 Hd2 O2 s2' a2 gO
    by_cases hlt : i < ds.length
    · obtain ⟨d, hd'⟩ : ∃ d, ds[i]? = some d := ⟨_, List.getElem?_eq_getElem hlt⟩
      obtain ⟨go, yl⟩ := io2.1 d hd'
      refine .inr ⟨go, fun H3 => ∃ acc O3 Hd3, Same Hd1 Hd3 ∧ AbsH X.K H3 Hd3 O3 ∧ Pv (i + 1) acc O3, fun H3 ⟨acc3, O3, Hd3, s3, a3, pv3⟩ => ⟨ds.length - (i + 1), by omega, rfl, hlt, acc3, O3, Hd3, s3, a3, pv3⟩, fun x H3 hy s H0 C cl fp => ?_⟩
      obtain ⟨Hd3, s3, a3, rx⟩ := yl x H3 hy
      have g3 : AbsG X.K Hd3 (wipe σ (own.map (·.2))) (wipeD Γ (own.map (·.2))) := (p.g.mono (s1'.trans (s2'.trans s3))).wipe _
      refine wG_mono ((hs i d acc O2 hd' pv s H0 C cl fp).run σ H3 Hd3 x g3 a3 rx) fun σ4 H4 ⟨ew, Γ4, O4, Hd4, s4, g4, a4, q4⟩ => ⟨ew, fun s H0 C cl fp => ?_⟩
      refine (q4 s H0 C cl fp).use (pre0 g4 a4) fun b H5 O5 Hd5 s5 p5 q5 => ?_
      have s15 := s2'.trans (s3.trans (s4.trans s5))
      cases b with
      | false =>
        simp only [Bool.false_eq_true, if_false] at q5 ⊢
        exact ⟨acc, O5, Hd5, s15, p5.h, q5⟩
      | true =>
        simp only [if_true] at q5 ⊢
        intro s H0 C cl fp
        refine (q5 s H0 C cl fp).use (pre0 p5.g p5.h) fun y H6 d6 O6 Hd6 s6 p6 r6 ⟨e6, l6, pv6⟩ => ?_
        obtain ⟨n6, vs6, h6, r6'⟩ := p6.h.own P _ e6
        exact ⟨vs6, h6, by rw [r6'.length]; exact l6, _, _, Hd6, s15.trans s6, p6.h.putL n6 (r6'.append (.cons r6 .nil)), pv6⟩
    · have e : i = ds.length := by omega
      subst e
      refine .inl ⟨io2.2 (Nat.le_refl _), kk _ _ ?_⟩
      rcases hd acc O2 pv with q | q
      · exact ⟨_, O2, Hd2, s1'.trans s2', a2, .obj P, q⟩
      · obtain ⟨Hd3, s3, a3, r3⟩ := a2.fix eP
        exact ⟨_, _, Hd3, s1'.trans (s2'.trans s3), a3, r3, q⟩
theorem w_lc (vs : List Nat) (hc : X.calm = true) (hN : X.N.Nodup) (ok : BlkOk X.N X.env.scope scope own) (hvs : own.map (·.2) = vs) (h : WI X E tg iter Γ O fun G ds O1 => LcBody X Γ elt tg ifs scope vs G ds O1 Q) (hs : ∀ x, foldedSetIterable iter X.env x = pure x := by intro _; rfl) :
    WE X E (.ListComp elt [⟨tg, iter, ifs, 0⟩] scope pos) Γ O Q := .mk fun W σ H Hd p => by
  subst hvs
  exact wE_of (pe_lc (own := own) hc hN piW ok (fun s H C cl fp => ⟨fun pins s' σ H v u Q I r h => h s _ C cl fp pins s' u I r⟩) (fun s H C cl fp => ⟨fun pins s' σ H Q I h => h s _ C cl fp pins s' I⟩) (fun s H C cl fp => ⟨fun pins s' σ H Q I h => h s _ C cl fp pins s' I⟩) hs) (lc_run p h fun _ _ z => z)
theorem ws_lc (i : Nat) (vs : List Nat) {y : Str} {py spos : Pos} (hc : X.calm = true) (hN : X.N.Nodup) (ok : BlkOk X.N X.env.scope scope own) (hvs : own.map (·.2) = vs)
    (hsw : swapsWith (.ListComp elt [⟨tg, iter, ifs, 0⟩] scope pos) (some (.Name y py)) spos.line X.env = pure true) (h : WI X E tg iter Γ O fun G ds O1 => LcBody X Γ elt tg ifs scope vs G ds O1 fun d O' => De.nx (Γ.set i (some d)) O')
    (hy : X.N[i]? = some y := by rfl) (hyl : X.env.scope.names.lookup y = some .local := by rfl) (hs : ∀ x, foldedSetIterable iter X.env x = pure x := by intro _; rfl) :
    WS X E (.Assign [.Name y py] (.ListComp elt [⟨tg, iter, ifs, 0⟩] scope pos) spos) Γ O De := .mk fun W σ H Hd p => by
  subst hvs
  exact wS_of (ps_setLc (own := own) (i := i) hc hN hy hyl hsw piW ok (fun s H C cl fp => ⟨fun pins s' σ H v u Q I r h => h s _ C cl fp pins s' u I r⟩) (fun s H C cl fp => ⟨fun pins s' σ H Q I h => h s _ C cl fp pins s' I⟩) (fun s H C cl fp => ⟨fun pins s' σ H Q I h => h s _ C cl fp pins s' I⟩) hs)
    (lc_run p h fun v H' ⟨d, O', Hd', s, a, r, q⟩ => ⟨_, O', Hd', s, (p.g.mono s).set r, a, q⟩)
/-- every item gives an element that fits it, and leaves what is owned -/
theorem lc_all {vs : List Nat} {G : Own → Prop} {ds : List D} {O1 : Own} (P : Nat → D → D → Prop) (hl : ds.length ≤ 100000) (hG : ∀ O2, Sub O1 O2 → G O2)
    (hs : ∀ i d O2, ds[i]? = some d → Sub O1 O2 → ∀ s H C cl fp, WGc (blkX X scope s H C cl fp) vs tg d (wipeD Γ vs) O2 fun Γ3 O3 => O3 = O2 ∧ ∀ s H C cl fp, WE (blkX X scope s H C cl fp) noEx elt Γ3 O2 (fun y O5 => O5 = O2 ∧ P i d y))
    (hd : ∀ ys : List D, ys.length = ds.length → (∀ (i : Nat) d, ds[i]? = some d → ∃ y, ys[i]? = some y ∧ P i d y) → Mk ys O1 Q) : LcBody X Γ elt tg [] scope vs G ds O1 Q := fun p np => by
  refine ⟨fun i acc O2 => O2 = updO O1 p (.lst acc) ∧ acc.length = i ∧ i ≤ ds.length ∧ ∀ (j : Nat) d, j < i → ds[j]? = some d → ∃ y, acc[j]? = some y ∧ P j d y, ⟨rfl, rfl, Nat.zero_le _, fun j d hj => absurd hj (Nat.not_lt_zero _)⟩, fun i acc O2 ⟨e, _⟩ => ?_, fun i d acc O2 hd' ⟨e, el, ei, ea⟩ s H C cl fp => ?_, fun acc O2 ⟨e, el, _, ea⟩ => ?_⟩
  · subst e
    exact ⟨hG _ (Sub.new np), updO_same⟩
  · have hlt : i < ds.length := (List.getElem?_eq_some_iff.mp hd').1
    refine .mk fun σ H1 Hd v g a r => ?_
    refine wG_mono ((hs i d O2 hd' (by rw [e]; exact Sub.new np) s H C cl fp).run σ H1 Hd v g a r) fun σ' H' ⟨ew, Γ3, O3, Hd3, s3, g3, a3, e3, q3⟩ => ⟨ew, Γ3, O3, Hd3, s3, g3, a3, fun s H C cl fp => ?_⟩
    subst e3
    refine wts_nil ?_
    rw [if_pos rfl]
    intro s H C cl fp
    refine (q3 s H C cl fp).mono fun y O5 ⟨e5, py⟩ => ?_
    rw [e5, e, updO_same, updO_updO]
    refine ⟨rfl, Nat.lt_of_lt_of_le (m := 100000) (by omega) (by decide), rfl, by simp [el], hlt, fun j d' hj hd2 => ?_⟩
    by_cases hji : j = i
    · subst hji
      rw [hd'] at hd2; cases hd2
      exact ⟨y, by rw [List.getElem?_append_right (by omega)]; simp [el], py⟩
    · obtain ⟨y', h1, h2⟩ := ea j d' (by omega) hd2
      exact ⟨y', by rw [List.getElem?_append_left (by omega)]; exact h1, h2⟩
  · subst e
    rcases hd acc el fun i d h => ea i d ((List.getElem?_eq_some_iff.mp h).1) h with q | q
    · exact .inr (by rw [delO_updO np]; exact q)
    · exact .inl (q p np)
/-- .. by a function -/
theorem all_map {ds ys : List D} {f : Nat → D → D} (h1 : ys.length = ds.length) (h2 : ∀ (i : Nat) d, ds[i]? = some d → ∃ y, ys[i]? = some y ∧ y = f i d) : ys = ds.mapIdx f := by
  apply List.ext_getElem?
  intro i
  rw [List.getElem?_mapIdx]
  cases e : ds[i]? with
  | none =>
    have : ds.length ≤ i := List.getElem?_eq_none_iff.mp e
    simp [List.getElem?_eq_none_iff.mpr (by omega : ys.length ≤ i)]
  | some d =>
    obtain ⟨y, h3, h4⟩ := h2 i d e
    rw [h3, h4]
    rfl
end

/-! ### a def's promise -/
abbrev SpD := List D → Own → PD → (Ex → Own → Prop) → Prop
def spD (K : PySem.W.Frag) (S : SpD) : Sp := fun vs H Q E => ∃ ds Hd O Qd Ed, AbsH K H Hd O ∧ Reps K Hd vs ds ∧ S ds O Qd Ed ∧ (∀ v H', Post K Hd Qd v H' → Q v H') ∧
  (∀ (cls : Value) (d : Option Addr) (H' Hd' : Hp) (e : Ex) (O' : Own), Same Hd Hd' → AbsH K H' Hd' O' → ERep K H' Hd' cls d e → Ed e O' → E cls d H')
def startD (N : List Str) (ds : List D) : Env' := ds.map some ++ List.replicate (N.length - ds.length) none
theorem start_abs {K : PySem.W.Frag} {Hd : Hp} {N : List Str} {vs : List V} {ds : List D} (r : Reps K Hd vs ds) : AbsG K Hd (L2.start N vs) (startD N ds) := by
  refine ⟨by simp [L2.start, startD, r.length], fun i d h => ?_⟩
  unfold startD at h
  unfold L2.start
  by_cases hi : i < ds.length
  · rw [List.getElem?_append_left (by simpa using hi), List.getElem?_map] at h
    cases e : ds[i]? with
    | none => rw [e] at h; cases h
    | some d' =>
      rw [e] at h
      simp at h
      subst h
      obtain ⟨v, h1, h2⟩ := r.get e
      exact ⟨v, by rw [List.getElem?_append_left (by simp [r.length]; exact hi), List.getElem?_map, h1]; rfl, h2⟩
  · rw [List.getElem?_append_right (by simp; omega)] at h
    have := List.mem_of_getElem? h
    simp at this
section
variable {P : Program} {w : World} {K : PySem.W.Frag} {mg : Str → Option Value} {base : Heap}
theorem fd_ok {x qual : Str} {st : Stmt} {f : Addr} {fd : FuncData} {N ps : List Str} {k : Nat} {S : SpD} (F : Fun K x qual st f fd) (Sc : FnScope N ps (defScope st)) (hl : ∀ ds O Q E, S ds O Q E → ds.length = ps.length)
    (body : ∀ (cdv : Value) (A : Around) (outer : List Env) (s : Shared) (H : Hp) (E0 : XK), Room k (A.deeper (envOfC qual (defScope st) s.heap.objs.size f cdv)) → ∀ ds O Q E, S ds O Q E →
      WSs (cxOf (L2.CX P w) P w K mg base N qual (defScope st) f cdv A outer s H E0) (fun e _ O' => E e O') (defBody st) (startD N ds) O { nx := fun _ O' => Q .non O', rt := Q }) :
    FnOk P w K mg base (L2.CX P w) (k + 1) f fd ps (spD K S) :=
  F.okX Sc (fun vs H Q E ⟨ds, Hd, O, Qd, Ed, a, r, q, _⟩ => by rw [r.length]; exact hl _ _ _ _ q) fun cdv A outer s H vs Q E hr ⟨ds, Hd, O, Qd, Ed, a, r, q, k1, k2⟩ =>
    ⟨_, pssW, wSs_mono ((body cdv A outer s H E hr ds O Qd Ed q).run (fun cls d _ H => E cls d H) (L2.start N vs) H Hd ⟨takes_of rfl rfl rfl rfl, start_abs r, a, fun cls d σ' H' Hd' e Γ' O' s' g' a' er ee => k2 cls d H' Hd' e O' s' a' er ee⟩)
      ⟨fun σ' H' ⟨Γ', O', Hd', s', g', a', z⟩ => k1 _ _ ⟨_, O', Hd', s', a', .non, z⟩, fun v H' z => k1 _ _ z, fun _ _ ⟨_, _, _, _, _, _, z⟩ => z.elim, fun _ _ ⟨_, _, _, _, _, _, z⟩ => z.elim⟩⟩
end
/-- a def of the module, as it is called -/
structure Fd (P : Program) (w : World) (K : PySem.W.Frag) (mg : Str → Option Value) (base : Heap) (x : Str) (k : Nat) (ps : List Str) (S : SpD) : Prop where
  ex : ∃ (f : Addr) (fd : FuncData), FnOk P w K mg base (L2.CX P w) k f fd ps (spD K S) ∧ mg x = some (.ref f) ∧ PySem.W.keepIn K (.ref f) = true ∧ Binds K fd ps []
theorem w_call {x : Str} {k j : Nat} {ps : List Str} {S : SpD} {p : Pos} {es : List Expr} {Q : PD} (F : Fd X.prog X.w X.K X.mg X.base x k ps S) (hr : Room j X.A) (hkj : k ≤ j) (h : WA X E (e :: es) Γ O fun ds O' => S ds O' Q (fun ex O'' => E ex Γ O''))
    (hg : Gl X x := by rfl) (hdb : (x == ("__debug__" : Str)) = false := by decide) (he : starEach (e :: es) X.env = (false, eval e X.env) :: starEach es X.env := by rfl) (hpl : (backTo pos (starEach es X.env)).any (·.1) = false := by rfl) :
    WE X E (.Call (.Name x p) (e :: es) [] pos) Γ O Q := .mk fun W σ H Hd q => by
  obtain ⟨f, fd, F1, F2, F3, F4⟩ := F.ex
  exact wE_of (pe_callS F1 (hr.mono hkj) hg F2 F3 F4 (fun σ => passAt q.tk σ) paW hdb he hpl) (h.use q fun vs H1 ds O1 Hd1 s1 p1 r1 q1 =>
    ⟨ds, Hd1, O1, Q, _, p1.h, r1, q1, fun v H' z => z.lift s1, fun cls d H' Hd' e O' s' a er ee => p1.ex cls d σ H' Hd' e Γ O' s' (p1.g.mono s') a er ee⟩)
end
end RW

/-! RW: slices, built-ins by name, methods of lists and texts. -/
namespace RW
open PySem PySem.Spec PyProof.Rows L2
section
variable {X : Cx} {E : ExP} {Γ : Env'} {O : Own} {e a b : Expr} {pos : Pos} {Q : PD}

/-! ### slices -/
def wO (X : Cx) (e : Option Expr) : TO := fun σ H Q => ∀ (pins : List (Addr × Obj)) (s : Shared), Inv X pins σ H s → wpAny (model X.prog X.w) X.A (evalPart e X.env) (fun u s' => ∃ o H', Inv X pins σ H' s' ∧ IsPart u o ∧ Q o H') X.xe s
theorem poW {e : Option Expr} : PO X e (wO X e) := ⟨fun pins s σ H Q I h => h pins s I⟩
theorem wO_of {e : Option Expr} {t : TO} (h : PO X e t) {σ : L2.St} {H : Hp} {Q : Option Int → Hp → Prop} (q : t σ H Q) : wO X e σ H Q := fun pins s I => h.run pins s σ H Q I q
theorem wO_mono {e : Option Expr} {σ : L2.St} {H : Hp} {Q Q' : Option Int → Hp → Prop} (h : wO X e σ H Q) (k : ∀ v H', Q v H' → Q' v H') : wO X e σ H Q' := fun pins s I =>
  thn (h pins s I) fun _ _ ⟨v, H', I', r, q⟩ => ⟨v, H', I', r, k v H' q⟩
structure WO (X : Cx) (E : ExP) (e : Option Expr) (Γ : Env') (O : Own) (Q : Option Int → Own → Prop) : Prop where
  run : ∀ (W : WX) (σ : L2.St) (H Hd : Hp), Pre X E W σ H Hd Γ O → wO X e σ H fun o H' => ∃ O' Hd', Same Hd Hd' ∧ AbsH X.K H' Hd' O' ∧ Q o O'
theorem wo_none {Q : Option Int → Own → Prop} (q : Q none O) : WO X E none Γ O Q := .mk fun W σ H Hd p => wO_of po_none ⟨O, Hd, Same.refl _, p.h, q⟩
theorem wo_some {Q : Option Int → Own → Prop} (h : WE X E e Γ O fun d O1 => ∃ i, d = .int i ∧ Q (some i) O1) : WO X E (some e) Γ O Q := .mk fun W σ H Hd p =>
  wO_of (po_some peW) (h.use p fun v H1 d O1 Hd1 s1 p1 r1 ⟨i, e1, q⟩ => by
    subst e1; cases r1
    exact ⟨i, rfl, O1, Hd1, s1, p1.h, q⟩)
def cutD (xs : List D) (lo hi : Option Int) : List D := (xs.drop (HT.sIx xs.length 0 lo)).take (HT.sIx xs.length xs.length hi - HT.sIx xs.length 0 lo)
theorem cut_rep {K : PySem.W.Frag} {H : Hp} {vs : List V} {ds : List D} (r : Reps K H vs ds) (lo hi : Option Int) : Reps K H (cutV vs lo hi) (cutD ds lo hi) := by
  unfold cutV cutD
  rw [r.length]
  exact (r.drop _).take _
theorem cut_whole {xs : List D} {lo hi : Option Int} (h : HT.sIx xs.length 0 lo = 0 ∧ HT.sIx xs.length xs.length hi = xs.length) : cutD xs lo hi = xs := by
  unfold cutD
  rw [h.1, h.2]
  simp
def sSl (x : D) (lo hi : Option Int) (O : Own) (Q : PD) : Prop := match x with
  | .str z => z.length ≤ sizeLine ∧ Q (.str (cutS z lo hi)) O
  | .tup xs => Q (.tup (cutD xs lo hi)) O
  | x => ∃ xs, asL O x = some xs ∧ Mk (cutD xs lo hi) O Q
theorem w_sl {lo hi : Option Expr} {p2 : Pos} (h : WE X E e Γ O fun x O1 => WO X E lo Γ O1 fun l O2 => WO X E hi Γ O2 fun u O3 => sSl x l u O3 Q) : WE X E (.Subscript e (.Slice lo hi none p2) pos) Γ O Q := .mk fun W σ H Hd p =>
  wE_of (pe_slice (sl_list.or (sl_tupN.or sl_str)) peW poW poW) (h.use p fun v H1 x O1 Hd1 s1 p1 r1 q1 => wO_mono (q1.run W σ H1 Hd1 p1) fun l H2 ⟨O2, Hd2, s2, a2, q2⟩ => wO_mono (q2.run W σ H2 Hd2 (p1.go s2 a2)) fun u H3 ⟨O3, Hd3, s3, a3, q3⟩ => by
    have s13 := s1.trans (s2.trans s3)
    have r3 := r1.mono (s2.trans s3)
    unfold sSl at q3
    split at q3
    · cases r3
      exact .inr (.inr ⟨_, rfl, q3.1, .lift s13 (.of a3 (.str _) q3.2)⟩)
    · rename_i xs
      cases r3 with | tup g r =>
      refine .inr (.inl ⟨_, _, rfl, Same.sqT a3.same g.sqT, fun z => ?_, fun _ p o np hd => .lift s13 (.mkT a3 np hd (cut_rep r l u) q3)⟩)
      rw [r.length] at z
      rw [cut_whole z] at q3
      exact .lift s13 (.of a3 (.tup g r) q3)
    · obtain ⟨xs, e1, q3⟩ := q3
      obtain ⟨a, vs, e2, g, r⟩ := a3.readL r3 e1
      subst e2
      exact .inl ⟨a, vs, rfl, g, fun p np => .lift s13 (.mk a3 np (cut_rep r l u) q3)⟩)

/-! ### built-ins by name, one argument -/
def C1ok (X : Cx) (r : List V → Hp → VK → Prop) (S : D → Own → PD → Prop) : Prop := ∀ (x : D) (O : Own) (v : V) (H Hd : Hp) (Q : PD) (Q' : VK), AbsH X.K H Hd O → Rep X.K Hd v x → S x O Q → (∀ v H', Post X.K Hd Q v H' → Q' v H') → r [v] H Q'
theorem CallR.or {f : Value} {r r' : List V → Hp → VK → Prop} (h : CallR X f r) (h' : CallR X f r') : CallR X f (fun vs H Q => r vs H Q ∨ r' vs H Q) := by
  intro pins s σ H vs us Q I rv q
  rcases q with q | q
  · exact h pins s σ H vs us Q I rv q
  · exact h' pins s σ H vs us Q I rv q
theorem w_callB {x : Str} {id : String} {r : List V → Hp → VK → Prop} {S : D → Own → PD → Prop} {p : Pos} (hc : CallR X (.builtin id) r) (hS : C1ok X r S) (hm : X.mg x = none) (hv : bootBuiltins x = some (.builtin id)) (h : WE X E e Γ O fun d O1 => S d O1 Q)
    (hg : Gl X x) (he : starEach [e] X.env = [(false, eval e X.env)]) (hn : x ≠ "__name__" := by decide) (hdb : (x == ("__debug__" : Str)) = false := by decide) : WE X E (.Call (.Name x p) [e] [] pos) Γ O Q := .mk fun W σ H Hd q =>
  wE_of (pe_callB hc hg hm hv (pa_cons peW pa_nil he) hn hdb he (by rfl)) (h.use q fun v H1 d O1 Hd1 s1 p1 r1 q1 => hS d O1 v H1 Hd1 Q _ p1.h r1 q1 fun _ _ z => z.lift s1)
theorem w_callTy {x : Str} {T : String} {r : List V → Hp → VK → Prop} {S : D → Own → PD → Prop} {p : Pos} (hc : CallR X (.type T) r) (hS : C1ok X r S) (hm : X.mg x = none) (hv : bootBuiltins x = some (.type T)) (h : WE X E e Γ O fun d O1 => S d O1 Q)
    (hg : Gl X x) (he : starEach [e] X.env = [(false, eval e X.env)]) (hn : x ≠ "__name__" := by decide) (hdb : (x == ("__debug__" : Str)) = false := by decide) : WE X E (.Call (.Name x p) [e] [] pos) Γ O Q := .mk fun W σ H Hd q =>
  wE_of (pe_callTy hc hg hm hv (pa_cons peW pa_nil he) hn hdb he (by rfl)) (h.use q fun v H1 d O1 Hd1 s1 p1 r1 q1 => hS d O1 v H1 Hd1 Q _ p1.h r1 q1 fun _ _ z => z.lift s1)
def sLen (x : D) (O : Own) (Q : PD) : Prop := match x with
  | .str z => z.length ≤ sizeLine ∧ Q (.int z.length) O
  | x => ∃ xs, asS O x = some xs ∧ Q (.int xs.length) O
theorem w_len {p : Pos} (hm : X.mg "len" = none) (h : WE X E e Γ O fun d O1 => sLen d O1 Q) (hg : Gl X "len" := by rfl) (he : starEach [e] X.env = [(false, eval e X.env)] := by rfl) : WE X E (.Call (.Name "len" p) [e] [] pos) Γ O Q :=
  w_callB call_len (fun x O v H Hd Q Q' h r q k => by
    unfold sLen at q
    split at q
    · cases r
      exact ⟨_, _, rfl, ⟨q.1, rfl⟩, k _ _ (.of h (.int _) q.2)⟩
    · obtain ⟨xs, e1, q⟩ := q
      obtain ⟨a, vs, rfl, g, r2⟩ := h.readS r e1
      rcases g with g | g
      · exact ⟨_, _, rfl, .inl ⟨vs, g, r2.length.symm⟩, k _ _ (.of h (.int _) q)⟩
      · exact ⟨_, _, rfl, .inr ⟨vs, g, r2.length.symm⟩, k _ _ (.of h (.int _) q)⟩) hm boot_len h hg he
def sSum (x : D) (O : Own) (Q : PD) : Prop := ∃ ns : List Int, asL O x = some (ns.map .int) ∧ Q (.int ns.sum) O
theorem w_sum {p : Pos} (hc : X.calm = true) (hm : X.mg "sum" = none) (h : WE X E e Γ O fun d O1 => sSum d O1 Q) (hg : Gl X "sum" := by rfl) (he : starEach [e] X.env = [(false, eval e X.env)] := by rfl) : WE X E (.Call (.Name "sum" p) [e] [] pos) Γ O Q :=
  w_callB (cr_sum hc) (fun x O v H Hd Q Q' h r ⟨ns, e1, q⟩ k => by
    obtain ⟨a, vs, rfl, g, r2⟩ := h.readL r e1
    rw [r2.ints] at g
    exact ⟨a, ns, rfl, g, k _ _ (.of h (.int _) q)⟩) hm (by decide +kernel) h hg he
def sAll (x : D) (O : Own) (Q : PD) : Prop := ∃ bs : List Bool, asL O x = some (bs.map .bl) ∧ Q (.bl (bs.all id)) O
theorem w_all {p : Pos} (hc : X.calm = true) (hm : X.mg "all" = none) (h : WE X E e Γ O fun d O1 => sAll d O1 Q) (hg : Gl X "all" := by rfl) (he : starEach [e] X.env = [(false, eval e X.env)] := by rfl) : WE X E (.Call (.Name "all" p) [e] [] pos) Γ O Q :=
  w_callB (cr_all hc) (fun x O v H Hd Q Q' h r ⟨ns, e1, q⟩ k => by
    obtain ⟨a, vs, rfl, g, r2⟩ := h.readL r e1
    rw [r2.bls] at g
    exact ⟨a, ns, rfl, g, k _ _ (.of h (.bl _) q)⟩) hm (by decide +kernel) h hg he
def sAny (x : D) (O : Own) (Q : PD) : Prop := ∃ bs : List Bool, asL O x = some (bs.map .bl) ∧ Q (.bl (bs.any id)) O
theorem w_any {p : Pos} (hc : X.calm = true) (hm : X.mg "any" = none) (h : WE X E e Γ O fun d O1 => sAny d O1 Q) (hg : Gl X "any" := by rfl) (he : starEach [e] X.env = [(false, eval e X.env)] := by rfl) : WE X E (.Call (.Name "any" p) [e] [] pos) Γ O Q :=
  w_callB (cr_any hc) (fun x O v H Hd Q Q' h r ⟨ns, e1, q⟩ k => by
    obtain ⟨a, vs, rfl, g, r2⟩ := h.readL r e1
    rw [r2.bls] at g
    exact ⟨a, ns, rfl, g, k _ _ (.of h (.bl _) q)⟩) hm (by decide +kernel) h hg he
theorem w_abs {p : Pos} (hm : X.mg "abs" = none) (h : WE X E e Γ O fun d O1 => ∃ i, d = .int i ∧ Q (.int (if i < 0 then -i else i)) O1) (hg : Gl X "abs" := by rfl) (he : starEach [e] X.env = [(false, eval e X.env)] := by rfl) : WE X E (.Call (.Name "abs" p) [e] [] pos) Γ O Q :=
  w_callB (S := fun d O1 Q => ∃ i, d = .int i ∧ Q (.int (if i < 0 then -i else i)) O1) call_abs (fun x O v H Hd Q Q' h r ⟨i, e1, q⟩ k => by
    subst e1
    cases r
    exact ⟨i, rfl, k _ _ (.of h (.int _) q)⟩) hm PyProof.Rows.boot_abs h hg he
theorem w_list {p : Pos} (hm : X.mg "list" = none) (h : WE X E e Γ O fun d O1 => ∃ xs, asS O1 d = some xs ∧ Mk xs O1 Q) (hg : Gl X "list" := by rfl) (he : starEach [e] X.env = [(false, eval e X.env)] := by rfl) : WE X E (.Call (.Name "list" p) [e] [] pos) Γ O Q :=
  w_callTy (S := fun d O1 Q => ∃ xs, asS O1 d = some xs ∧ Mk xs O1 Q) call_list_of (fun x O v H Hd Q Q' h r ⟨xs, e1, q⟩ k => by
    obtain ⟨a, vs, rfl, g, r2⟩ := h.readS r e1
    exact ⟨a, vs, rfl, g, fun l nl => k _ _ (.mk h nl r2 q)⟩) hm PyProof.Rows.boot_list h hg he
def sTuple (x : D) (O : Own) (Q : PD) : Prop := ∃ xs, asS O x = some xs ∧ Q (.tup xs) O
theorem w_tuple {p : Pos} (hm : X.mg "tuple" = none) (h : WE X E e Γ O fun d O1 => sTuple d O1 Q) (hg : Gl X "tuple" := by rfl) (he : starEach [e] X.env = [(false, eval e X.env)] := by rfl) : WE X E (.Call (.Name "tuple" p) [e] [] pos) Γ O Q :=
  w_callTy call_tupN (fun x O v H Hd Q Q' h r ⟨xs, e1, q⟩ k => by
    obtain ⟨a, vs, rfl, g, r2⟩ := h.readS r e1
    rcases g with g | g
    · exact ⟨a, vs, rfl, .inl ⟨g, fun l o nl hd => k _ _ (.mkT h nl hd r2 q)⟩⟩
    · cases x with
      | tup ys =>
        simp [asS] at e1
        subst e1
        exact ⟨a, vs, rfl, .inr ⟨g, k _ _ (.of h r q)⟩⟩
      | lst ys =>
        cases r with | lst g1 r1 =>
        simp [asS, asL] at e1
        subst e1
        exact ⟨a, _, rfl, .inl ⟨.inl (.inl (h.same _ _ g1)), fun l o nl hd => k _ _ (.mkT h nl hd r1 q)⟩⟩
      | rol ys =>
        cases r with | rol g1 r1 =>
        simp [asS, asL] at e1
        subst e1
        exact ⟨a, _, rfl, .inl ⟨Same.sqL h.same g1, fun l o nl hd => k _ _ (.mkT h nl hd r1 q)⟩⟩
      | obj p =>
        obtain ⟨a', vs', e2, g', r3⟩ := h.readL r (show asL O _ = some xs from e1)
        cases e2
        exact ⟨a, vs', rfl, .inl ⟨g', fun l o nl hd => k _ _ (.mkT h nl hd r3 q)⟩⟩
      | _ => simp [asS, asL] at e1) hm PyProof.Rows.boot_tuple h hg he
def sInt (x : D) (O : Own) (Q : PD) : Prop := match x with
  | .int i => Q (.int i) O
  | .bl k => Q (.int (if k then 1 else 0)) O
  | .str a => ∃ n, PySem.intText? a = some n ∧ a.length ≤ 640 ∧ Q (.int n) O
  | _ => False
theorem w_toInt {p : Pos} (hm : X.mg "int" = none) (h : WE X E e Γ O fun d O1 => sInt d O1 Q) (hg : Gl X "int" := by rfl) (he : starEach [e] X.env = [(false, eval e X.env)] := by rfl) : WE X E (.Call (.Name "int" p) [e] [] pos) Γ O Q :=
  w_callTy (CallR.or call_int1 call_int_str) (fun x O v H Hd Q Q' h r q k => by
    unfold sInt at q
    split at q
    · cases r
      exact .inl (.inl ⟨_, rfl, k _ _ (.of h (.int _) q)⟩)
    · cases r
      exact .inl (.inr ⟨_, rfl, k _ _ (.of h (.int _) q)⟩)
    · cases r
      obtain ⟨n, h1, h2, q⟩ := q
      exact .inr ⟨_, n, rfl, h1, h2, k _ _ (.of h (.int _) q)⟩
    · exact q.elim) hm PyProof.Rows.boot_int h hg he
theorem w_toStr {p : Pos} (hm : X.mg "str" = none) (h : WE X E e Γ O fun d O1 => ∃ i, d = .int i ∧ i.natAbs.log2 < 1920 ∧ Q (.str (toString i)) O1) (hg : Gl X "str" := by rfl) (he : starEach [e] X.env = [(false, eval e X.env)] := by rfl) : WE X E (.Call (.Name "str" p) [e] [] pos) Γ O Q :=
  w_callTy (S := fun d O1 Q => ∃ i, d = .int i ∧ i.natAbs.log2 < 1920 ∧ Q (.str (toString i)) O1) call_str_int (fun x O v H Hd Q Q' h r ⟨i, e1, hl, q⟩ k => by
    subst e1
    cases r
    exact ⟨i, rfl, hl, k _ _ (.of h (.str _) q)⟩) hm PyProof.Rows.boot_str h hg he
/-- max(a, b), min(a, b) of ints -/
theorem w_max2 {p : Pos} (hc : X.calm = true) (hm : X.mg "max" = none) (h : WA X E [a, b] Γ O fun ds O1 => ∃ i j, ds = [.int i, .int j] ∧ Q (.int (if j > i then j else i)) O1) (hg : Gl X "max" := by rfl)
    (he : starEach [a, b] X.env = (false, eval a X.env) :: starEach [b] X.env := by rfl) (hpl : (backTo pos (starEach [b] X.env)).any (·.1) = false := by rfl) : WE X E (.Call (.Name "max" p) [a, b] [] pos) Γ O Q := .mk fun W σ H Hd q =>
  wE_of (pe_callB (call_max2 hc) hg hm (by decide +kernel) paW (by decide) (by decide) he hpl) (h.use q fun vs H1 ds O1 Hd1 s1 p1 r1 ⟨i, j, e1, q1⟩ => by
    subst e1
    cases r1 with | cons r r' =>
    cases r' with | cons r2 r' =>
    cases r; cases r2; cases r'
    exact ⟨i, j, rfl, .lift s1 (.of p1.h (.int _) q1)⟩)
theorem w_min2 {p : Pos} (hc : X.calm = true) (hm : X.mg "min" = none) (h : WA X E [a, b] Γ O fun ds O1 => ∃ i j, ds = [.int i, .int j] ∧ Q (.int (if j < i then j else i)) O1) (hg : Gl X "min" := by rfl)
    (he : starEach [a, b] X.env = (false, eval a X.env) :: starEach [b] X.env := by rfl) (hpl : (backTo pos (starEach [b] X.env)).any (·.1) = false := by rfl) : WE X E (.Call (.Name "min" p) [a, b] [] pos) Γ O Q := .mk fun W σ H Hd q =>
  wE_of (pe_callB (call_min2 hc) hg hm (by decide +kernel) paW (by decide) (by decide) he hpl) (h.use q fun vs H1 ds O1 Hd1 s1 p1 r1 ⟨i, j, e1, q1⟩ => by
    subst e1
    cases r1 with | cons r r' =>
    cases r' with | cons r2 r' =>
    cases r; cases r2; cases r'
    exact ⟨i, j, rfl, .lift s1 (.of p1.h (.int _) q1)⟩)
/-! isinstance -/
def tyD : D → Option String
  | .non => some "NoneType"
  | .bl _ => some "bool"
  | .int _ => some "int"
  | .str _ => some "str"
  | .lst _ => some "list"
  | .rol _ => some "list"
  | .tup _ => some "tuple"
  | _ => none
theorem tyD_ok {K : PySem.W.Frag} {H Hd : Hp} {O : Own} {x : D} {v : V} {n : String} (h : AbsH K H Hd O) (r : Rep K Hd v x) (e : tyD x = some n) : TyX K H v (.type n) := by
  cases r <;> simp [tyD] at e <;> subst e
  · exact .base .non
  · exact .base (.bl _)
  · exact .base (.int _)
  · exact .base (.str _)
  · rename_i g r
    exact .base (.lst (h.same _ _ g))
  · rename_i g r
    rcases Same.sqL h.same g with (g | ⟨o, g⟩) | ⟨o, its, n, g, c, _⟩
    · exact .base (.lst g)
    · exact .base (.frz g)
    · exact .kList g c
  · rename_i g r
    rcases SqN.same h.same g with ⟨o, g, _⟩ | ⟨o, its, n, g, c, _⟩
    · exact .fTuple g
    · exact .kTuple g c
/-- .. of an owned list, too -/
def tyO (O : Own) : D → Option String
  | .obj p => match O p with
    | some (.lst _) => some "list"
    | some (.any _) => some "list"
    | _ => none
  | x => tyD x
theorem tyO_ok {K : PySem.W.Frag} {H Hd : Hp} {O : Own} {x : D} {v : V} {n : String} (h : AbsH K H Hd O) (r : Rep K Hd v x) (e : tyO O x = some n) : TyX K H v (.type n) := by
  cases x with
  | obj p =>
    cases r
    simp only [tyO] at e
    split at e
    · rename_i ds z
      cases e
      obtain ⟨_, vs, h1, _⟩ := h.own p _ z
      exact .base (.lst h1)
    · rename_i ds z
      cases e
      obtain ⟨_, ds, vs, _, h1, _⟩ := h.own p _ z
      exact .base (.lst h1)
    · cases e
  | _ => exact tyD_ok h r e
theorem tyO_L {O : Own} {x : D} {xs : List D} (h : asL O x = some xs) : tyO O x = some "list" := by
  cases x with
  | obj p =>
    simp only [asL] at h
    simp only [tyO]
    split at h
    · rename_i z
      rw [z]
    · cases h
  | lst _ => rfl
  | rol _ => rfl
  | _ => simp [asL] at h
theorem sLen_L {O : Own} {x : D} {xs : List D} {Q : PD} (h : asL O x = some xs) (q : Q (.int xs.length) O) : sLen x O Q := by
  cases x <;> first | exact ⟨xs, h, q⟩ | (simp [asL] at h)
def isD (n c : String) : Bool := (kitB n c).getD false
/-- isinstance(x, T), T a name of a built-in class -/
theorem w_isi {p p1 : Pos} {T : Str} {c : String} (hm : X.mg "isinstance" = none) (hmT : X.mg T = none) (hb : bootBuiltins T = some (.type c)) (h : WE X E e Γ O fun d O1 => ∃ n k, tyO O1 d = some n ∧ kitB n c = some k ∧ Q (.bl k) O1)
    (hg : Gl X "isinstance" := by rfl) (hgT : Gl X T := by rfl) (hnT : T ≠ "__name__" := by decide) (hdT : (T == ("__debug__" : Str)) = false := by decide)
    (he : starEach [e, .Name T p1] X.env = (false, eval e X.env) :: starEach [.Name T p1] X.env := by rfl) (he2 : starEach [.Name T p1] X.env = [(false, eval (.Name T p1) X.env)] := by rfl) (hpl : (backTo pos (starEach [.Name T p1] X.env)).any (·.1) = false := by rfl) :
    WE X E (.Call (.Name "isinstance" p) [e, .Name T p1] [] pos) Γ O Q := .mk fun W σ H Hd q =>
  wE_of (pe_callB call_isi hg hm boot_isinstance (pa_cons peW (pa_cons (pe_bltn (v := .ty c) hgT hmT hb rfl hnT hdT) pa_nil he2) he) (by decide) (by decide) he hpl) (h.use q fun v H1 d O1 Hd1 s1 p1 r1 ⟨n, k, e1, e2, q1⟩ =>
    ⟨v, .ty c, _, _, k, rfl, .ty c, tyO_ok p1.h r1 e1, kit_ty e2, .lift s1 (.of p1.h (.bl _) q1)⟩)
/-- isinstance(x, (T, U)) -/
theorem w_isi2 {p p1 p2 p3 : Pos} {T U : Str} {c u : String} {kk : Nat} (hm : X.mg "isinstance" = none) (hmT : X.mg T = none) (hmU : X.mg U = none) (hb : bootBuiltins T = some (.type c)) (hbU : bootBuiltins U = some (.type u)) (h : WE X E e Γ O fun d O1 => ∃ n k1 k2, tyO O1 d = some n ∧ kitB n c = some k1 ∧ kitB n u = some k2 ∧ Q (.bl (k1 || k2)) O1)
    (hg : Gl X "isinstance" := by rfl) (hgT : Gl X T := by rfl) (hgU : Gl X U := by rfl) (hnT : T ≠ "__name__" := by decide) (hdT : (T == ("__debug__" : Str)) = false := by decide) (hnU : U ≠ "__name__" := by decide) (hdU : (U == ("__debug__" : Str)) = false := by decide)
    (he : starEach [e, .Tuple [.Name T p1, .Name U p2] kk p3] X.env = (false, eval e X.env) :: starEach [.Tuple [.Name T p1, .Name U p2] kk p3] X.env := by rfl) (he2 : starEach [.Tuple [.Name T p1, .Name U p2] kk p3] X.env = [(false, eval (.Tuple [.Name T p1, .Name U p2] kk p3) X.env)] := by rfl)
    (hT : starEach [.Name T p1, .Name U p2] X.env = (false, eval (.Name T p1) X.env) :: starEach [.Name U p2] X.env := by rfl) (hU : starEach [.Name U p2] X.env = [(false, eval (.Name U p2) X.env)] := by rfl)
    (hpl : (backTo pos (starEach [.Tuple [.Name T p1, .Name U p2] kk p3] X.env)).any (·.1) = false := by rfl) :
    WE X E (.Call (.Name "isinstance" p) [e, .Tuple [.Name T p1, .Name U p2] kk p3] [] pos) Γ O Q := .mk fun W σ H Hd q =>
  wE_of (pe_callB call_isiT hg hm boot_isinstance (pa_cons peW (pa_cons (pe_tup (pa_cons (pe_bltn (v := .ty c) hgT hmT hb rfl hnT hdT) (pa_cons (pe_bltn (v := .ty u) hgU hmU hbU rfl hnU hdU) pa_nil hU) hT)) pa_nil he2) he) (by decide) (by decide) he hpl)
    (h.use q fun v H1 d O1 Hd1 s1 p1 r1 ⟨n, k1, k2, e1, e2, e3, q1⟩ => ⟨(show 2 ≤ sizeLine by decide), fun t nt => by
      have sn := same_new (o := HO.tup [V.ty c, V.ty u]) (p1.h.free nt)
      refine ⟨v, t, [.ty c, .ty u], _, [.type c, .type u], k1 || k2, rfl, upd_same, .cons (.ty c) (.cons (.ty u) .nil), tyO_ok (p1.h.aside nt) r1 e1, ?_, .lift s1 (.of (p1.h.aside nt) (.bl _) q1)⟩
      refine kitAny_cons (b := k1) (kit_ty e2) (fun z => ?_) fun z => by rw [z]; rfl
      rw [z]
      exact kitAny_cons (b := k2) (kit_ty e3) (fun z => by rw [z]; rfl) fun z => by rw [z]; rfl⟩)

/-! ### methods -/
/-- xs.append(e) of an owned list -/
theorem w_append {o : Expr} {apos : Pos} (h : WE X E o Γ O fun x O1 => ∃ p, x = .obj p ∧ (∃ ds, O1 p = some (.lst ds)) ∧ WE X E e Γ O1 fun d O2 => ∃ ds, O2 p = some (.lst ds) ∧ ds.length < sizeLine ∧ Q .non (updO O2 p (.lst (ds ++ [d]))))
    (hbase : attributeBase o "append" X.env (eval o X.env) = eval o X.env := by rfl)
    (hfew : ((backTo pos (starEach [e] X.env)).all (fun x => !x.1) && (backToKw pos (keywordEach [] X.env)).all (fun x => x.1.isSome) && decide ([e].length + ([] : List Keyword).length + (if ([] : List Keyword).isEmpty then 0 else 1) < 30)) = true := by rfl)
    (hline : (apos.endLine == pos.line) = true := by rfl) (hs : starEach [e] X.env = [(false, eval e X.env)] := by rfl) :
    WE X E (.Call (.Attribute o "append" apos) [e] [] pos) Γ O Q := .mk fun W σ H Hd q =>
  wE_of (pe_bm PySem.F.plainAttrs_list PySem.F.slot_list_append PySem.F.type_list_append mt_append peW (pa_cons peW pa_nil hs) hbase hfew hline hs (by rfl)) (h.use q fun v H1 x O1 Hd1 s1 p1 r1 ⟨p, e1, ⟨ds0, g0⟩, q1⟩ => by
    subst e1
    cases r1
    obtain ⟨_, vs0, h0, _⟩ := p1.h.own p _ g0
    refine ⟨.inl ⟨rfl, vs0, .inl (.inl h0)⟩, q1.use p1 fun u H2 d O2 Hd2 s2 p2 r2 ⟨ds, g, hl, q2⟩ => ?_⟩
    obtain ⟨n2, vs, h2, r3⟩ := p2.h.own p _ g
    exact ⟨p, vs, u, rfl, rfl, h2, by rw [r3.length]; exact hl, .non, _, Hd2, s1.trans s2, p2.h.putL n2 (r3.append (.cons r2 .nil)), .non, q2⟩)
theorem w_extend {o : Expr} {apos : Pos} (h : WE X E o Γ O fun x O1 => ∃ p, x = .obj p ∧ (∃ ds, O1 p = some (.lst ds)) ∧ WE X E e Γ O1 fun d O2 => ∃ ds es, O2 p = some (.lst ds) ∧ asM O2 d = some es ∧ ds.length + es.length ≤ sizeLine ∧ Q .non (updO O2 p (.lst (ds ++ es))))
    (hbase : attributeBase o "extend" X.env (eval o X.env) = eval o X.env := by rfl)
    (hfew : ((backTo pos (starEach [e] X.env)).all (fun x => !x.1) && (backToKw pos (keywordEach [] X.env)).all (fun x => x.1.isSome) && decide ([e].length + ([] : List Keyword).length + (if ([] : List Keyword).isEmpty then 0 else 1) < 30)) = true := by rfl)
    (hline : (apos.endLine == pos.line) = true := by rfl) (hs : starEach [e] X.env = [(false, eval e X.env)] := by rfl) :
    WE X E (.Call (.Attribute o "extend" apos) [e] [] pos) Γ O Q := .mk fun W σ H Hd q =>
  wE_of (pe_bm PySem.F.plainAttrs_list PySem.F.slot_list_extend PySem.F.type_list_extend mt_extend peW (pa_cons peW pa_nil hs) hbase hfew hline hs (by rfl)) (h.use q fun v H1 x O1 Hd1 s1 p1 r1 ⟨p, e1, ⟨ds0, g0⟩, q1⟩ => by
    subst e1
    cases r1
    obtain ⟨_, vs0, h0, _⟩ := p1.h.own p _ g0
    refine ⟨.inl ⟨rfl, vs0, .inl (.inl h0)⟩, q1.use p1 fun u H2 d O2 Hd2 s2 p2 r2 ⟨ds, es, g, ge, hl, q2⟩ => ?_⟩
    obtain ⟨n2, vs, h2, r3⟩ := p2.h.own p _ g
    obtain ⟨b, us, rfl, h4, r4⟩ := p2.h.readM r2 ge
    exact ⟨p, b, vs, us, rfl, rfl, h2, h4, by rw [r3.length, r4.length]; exact hl, .non, _, Hd2, s1.trans s2, p2.h.putL n2 (r3.append r4), .non, q2⟩)
theorem Reps.dropLast {K : PySem.W.Frag} {H : Hp} {vs : List V} {ds : List D} (r : Reps K H vs ds) : Reps K H vs.dropLast ds.dropLast := by
  rw [List.dropLast_eq_take, List.dropLast_eq_take, r.length]
  exact r.take _
/-- xs.pop() -/
theorem w_pop {o : Expr} {apos : Pos} (h : WE X E o Γ O fun x O1 => ∃ p ds d, x = .obj p ∧ O1 p = some (.lst ds) ∧ ds[ds.length - 1]? = some d ∧ Q d (updO O1 p (.lst ds.dropLast)))
    (hbase : attributeBase o "pop" X.env (eval o X.env) = eval o X.env := by rfl) (hline : (apos.endLine == pos.line) = true := by rfl) : WE X E (.Call (.Attribute o "pop" apos) [] [] pos) Γ O Q := .mk fun W σ H Hd q =>
  wE_of (pe_bm0 PySem.F.plainAttrs_list PySem.F.slot_list_pop PySem.F.type_list_pop mt_pop peW hbase hline) (h.use q fun v H1 x O1 Hd1 s1 p1 r1 ⟨p, ds, d, e1, g, hd, q1⟩ => by
    subst e1
    cases r1
    obtain ⟨n2, vs, h2, r3⟩ := p1.h.own p _ g
    obtain ⟨w', h3, h4⟩ := r3.get hd
    exact ⟨.inl ⟨rfl, vs, .inl (.inl h2)⟩, p, vs, w', rfl, rfl, h2, by rw [r3.length]; exact h3, d, _, Hd1, s1, p1.h.putL n2 r3.dropLast, h4, q1⟩)
/-! texts -/
theorem w_m1 {o : Expr} {id : String} {name : Str} {apos : Pos} {r : V → List V → Hp → VK → Prop} {S : Str → D → Own → PD → Prop} (slot : Slot "str" name id) (ty : typeOf (.builtin id) = pure (.type "method_descriptor")) (rule : MtR X id r)
    (hS : ∀ (a : Str) (d : D) (O : Own) (u : V) (H Hd : Hp) (Q : PD) (Q' : VK), AbsH X.K H Hd O → Rep X.K Hd u d → S a d O Q → (∀ v H', Post X.K Hd Q v H' → Q' v H') → r (.str a) [u] H Q')
    (h : WE X E o Γ O fun x O1 => ∃ a, x = .str a ∧ WE X E e Γ O1 fun d O2 => S a d O2 Q)
    (hs : starEach [e] X.env = [(false, eval e X.env)]) (hbase : attributeBase o name X.env (eval o X.env) = eval o X.env) (hline : (apos.endLine == pos.line) = true) : WE X E (.Call (.Attribute o name apos) [e] [] pos) Γ O Q := .mk fun W σ H Hd q =>
  wE_of (pe_m1 slot ty rule peW peW hs hbase hline) (h.use q fun v H1 x O1 Hd1 s1 p1 r1 ⟨a, e1, q1⟩ => by
    subst e1
    cases r1
    exact ⟨⟨a, rfl⟩, q1.use p1 fun u H2 d O2 Hd2 s2 p2 r2 q2 => hS a d O2 u H2 Hd2 Q _ p2.h r2 q2 fun _ _ z => z.lift (s1.trans s2)⟩)
theorem w_startswith {o : Expr} {apos : Pos} (h : WE X E o Γ O fun x O1 => ∃ a, x = .str a ∧ WE X E e Γ O1 fun d O2 => ∃ b, d = .str b ∧ Q (.bl (Txt.startswith a b)) O2)
    (hs : starEach [e] X.env = [(false, eval e X.env)] := by rfl) (hbase : attributeBase o "startswith" X.env (eval o X.env) = eval o X.env := by rfl) (hline : (apos.endLine == pos.line) = true := by rfl) : WE X E (.Call (.Attribute o "startswith" apos) [e] [] pos) Γ O Q :=
  w_m1 (S := fun a d O2 Q => ∃ b, d = .str b ∧ Q (.bl (Txt.startswith a b)) O2) F.slot_str_startswith F.type_str_startswith mt_startswith (fun a d O u H Hd Q Q' h r ⟨b, e1, q⟩ k => by
    subst e1
    cases r
    exact ⟨a, b, rfl, rfl, k _ _ (.of h (.bl _) q)⟩) h hs hbase hline
theorem w_split {o : Expr} {apos : Pos} (h : WE X E o Γ O fun x O1 => ∃ a, x = .str a ∧ WE X E e Γ O1 fun d O2 => ∃ b, d = .str b ∧ (b.length == 0) = false ∧ a.length + 2 ≤ sizeLine ∧ Mk ((Txt.split a b).map .str) O2 Q)
    (hs : starEach [e] X.env = [(false, eval e X.env)] := by rfl) (hbase : attributeBase o "split" X.env (eval o X.env) = eval o X.env := by rfl) (hline : (apos.endLine == pos.line) = true := by rfl) : WE X E (.Call (.Attribute o "split" apos) [e] [] pos) Γ O Q :=
  w_m1 (S := fun a d O2 Q => ∃ b, d = .str b ∧ (b.length == 0) = false ∧ a.length + 2 ≤ sizeLine ∧ Mk ((Txt.split a b).map .str) O2 Q) F.slot_str_split F.type_str_split mt_split (fun a d O u H Hd Q Q' h r ⟨b, e1, h1, h2, q⟩ k => by
    subst e1
    cases r
    refine ⟨a, b, rfl, rfl, h1, h2, fun p np => k _ _ (.mk h np ?_ q)⟩
    have : ∀ ss : List Str, Reps X.K Hd (ss.map V.str) (ss.map D.str) := fun ss => by
      induction ss with
      | nil => exact .nil
      | cons s ss ih => exact .cons (.str s) ih
    exact this _) h hs hbase hline
def sJoin (a : Str) (d : D) (O : Own) (Q : PD) : Prop := ∃ ys : List Str, asS O d = some (ys.map .str) ∧ (ys.map (·.length)).sum + ys.length * a.length ≤ 16777216 ∧ Q (.str (Txt.join a ys)) O
theorem w_join {o : Expr} {apos : Pos} (h : WE X E o Γ O fun x O1 => ∃ a, x = .str a ∧ WE X E e Γ O1 fun d O2 => sJoin a d O2 Q)
    (hs : starEach [e] X.env = [(false, eval e X.env)] := by rfl) (hbase : attributeBase o "join" X.env (eval o X.env) = eval o X.env := by rfl) (hline : (apos.endLine == pos.line) = true := by rfl) : WE X E (.Call (.Attribute o "join" apos) [e] [] pos) Γ O Q :=
  w_m1 F.slot_str_join F.type_str_join mt_join (fun a d O u H Hd Q Q' h r ⟨ys, e1, h1, q⟩ k => by
    obtain ⟨p, vs, rfl, g, r2⟩ := h.readS r e1
    rw [r2.strs] at g
    exact ⟨a, p, ys, rfl, rfl, g, h1, k _ _ (.of h (.str _) q)⟩) h hs hbase hline
/-! f-strings -/
def sFmt (x : D) (O : Own) (Q : PD) : Prop := match x with
  | .str y => y.length ≤ sizeLine ∧ Q (.str y) O
  | .int i => i.natAbs.log2 < 1920 ∧ Q (.str (toString i)) O
  | _ => False
theorem w_fmt (h : WE X E e Γ O fun x O1 => sFmt x O1 Q) : WE X E (.FormattedValue e (-1) none pos) Γ O Q := .mk fun W σ H Hd p =>
  wE_of (pe_fmt peW) (h.use p fun v H1 x O1 Hd1 s1 p1 r1 q1 => by
    unfold sFmt at q1
    split at q1
    · cases r1
      exact .inl ⟨_, rfl, q1.1, .lift s1 (.of p1.h (.str _) q1.2)⟩
    · cases r1
      exact .inr ⟨_, rfl, q1.1, .lift s1 (.of p1.h (.str _) q1.2)⟩
    · exact q1.elim)
def WJ (X : Cx) (E : ExP) : List Expr → Str → Env' → Own → (Str → Own → Prop) → Prop
  | [], acc, _, O, Q => Q acc O
  | e :: es, acc, Γ, O, Q => WE X E e Γ O fun d O1 => ∃ y, d = .str y ∧ (acc ++ y).length ≤ sizeLine ∧ WJ X E es (acc ++ y) Γ O1 Q
theorem pjW : ∀ es : List Expr, PJ X es (es.map fun e => wE X e)
  | [] => .nil
  | e :: es => .cons peW (pjW es)
theorem wj_run {W : WX} {σ : L2.St} {Q : Str → Own → Prop} : ∀ (es : List Expr) (acc : Str) (O : Own) (H Hd : Hp), Pre X E W σ H Hd Γ O → WJ X E es acc Γ O Q → ∀ Q' : Str → Hp → Prop, (∀ s H' O' Hd', Same Hd Hd' → AbsH X.K H' Hd' O' → Q s O' → Q' s H') → tJs (es.map fun e => wE X e) acc σ H Q'
  | [], acc, O, H, Hd, p, h, Q', k => k acc H O Hd (Same.refl _) p.h h
  | e :: es, acc, O, H, Hd, p, h, Q', k => WE.use (Q := fun d O1 => ∃ y, d = .str y ∧ (acc ++ y).length ≤ sizeLine ∧ WJ X E es (acc ++ y) Γ O1 Q) h p fun v H1 d O1 Hd1 s1 p1 r1 ⟨y, e1, hl, q⟩ => by
    subst e1
    cases r1
    exact ⟨y, rfl, hl, wj_run es (acc ++ y) O1 H1 Hd1 p1 q Q' fun s H' O' Hd' s' => k s H' O' Hd' (s1.trans s')⟩
theorem w_joined {v1 v2 : Expr} {rest : List Expr} (h : WJ X E (v1 :: v2 :: rest) Str.empty Γ O fun s O' => Q (.str s) O') : WE X E (.JoinedStr (v1 :: v2 :: rest) pos) Γ O Q := .mk fun W σ H Hd p =>
  wE_of (pe_joined (pjW _)) (wj_run _ _ _ _ _ p h _ fun s H' O' Hd' s' a q => ⟨.str s, O', Hd', s', a, .str s, q⟩)
end
end RW

/-! RW: the steps' own ends, and the steps as tactics. -/
namespace RW
open PySem PySem.Spec PyProof.Rows L2
section
variable {O : Own} {Q : PD} {i j : Int}
theorem sAdd_int (h : Q (.int (i + j)) O) : sAdd (.int i) (.int j) O Q := h
theorem sAdd_str {s t : Str} (hl : s.length + t.length ≤ sizeLine) (h : Q (.str (s ++ t)) O) : sAdd (.str s) (.str t) O Q := ⟨hl, h⟩
theorem sAdd_tup {xs ys : List D} (hl : xs.length + ys.length ≤ sizeLine) (h : Q (.tup (xs ++ ys)) O) : sAdd (.tup xs) (.tup ys) O Q := ⟨hl, h⟩
theorem sAdd_ll {xs ys : List D} (hl : xs.length + ys.length ≤ sizeLine) (h : Mk (xs ++ ys) O Q) : sAdd (.lst xs) (.lst ys) O Q := ⟨xs, ys, rfl, rfl, hl, h⟩
theorem sSub_int (h : Q (.int (i - j)) O) : sSub (.int i) (.int j) O Q := ⟨i, j, rfl, rfl, h⟩
theorem sMul_int (hc : CMul i j ∨ CMulW i j) (h : Q (.int (i * j)) O) : sMul (.int i) (.int j) O Q := ⟨hc, h⟩
theorem sMul_ll {xs : List D} {k : Int} (h2 : -(2 ^ 63) ≤ k) (h3 : k < 2 ^ 63) (h4 : xs.length * k.toNat ≤ sizeLine) (h : Mk (List.replicate k.toNat xs).flatten O Q) : sMul (.lst xs) (.int k) O Q := ⟨xs, k, rfl, rfl, h2, h3, h4, h⟩
theorem sMod_int (hc : 0 < j) (h : Q (.int (i % j)) O) : sMod (.int i) (.int j) O Q := ⟨i, j, rfl, rfl, hc, h⟩
theorem sDiv_int (hc : CDiv i j ∨ CDivW i j) (h : Q (.int (i / j)) O) : sDiv (.int i) (.int j) O Q := ⟨i, j, rfl, rfl, hc, h⟩
theorem sPow_int (hc : CPow i j) (h : Q (.int (i ^ j.toNat)) O) : sPow (.int i) (.int j) O Q := ⟨i, j, rfl, rfl, hc, h⟩
theorem sCmp_int {f : Int → Int → Bool} (h : Q (.bl (f i j)) O) : sCmpI f (.int i) (.int j) O Q := ⟨i, j, rfl, rfl, h⟩
theorem sTest_i {Q : Bool → Own → Prop} {b : Bool} (h : Q b O) : sTest Q (.bl b) O := ⟨b, rfl, h⟩
theorem sEq_int (h : Q (.bl (decide (i = j))) O) : sEq false (.int i) (.int j) O Q := .inl ⟨rfl, h⟩
theorem sNe_int (h : Q (.bl (!decide (i = j))) O) : sEq true (.int i) (.int j) O Q := .inl ⟨rfl, h⟩
theorem sEq_str {i j : Str} (h : Q (.bl (decide (i = j))) O) : sEq false (.str i) (.str j) O Q := .inl ⟨rfl, h⟩
theorem sNe_str {i j : Str} (h : Q (.bl (!decide (i = j))) O) : sEq true (.str i) (.str j) O Q := .inl ⟨rfl, h⟩
theorem sEq_bl {i j : Bool} (h : Q (.bl (decide (i = j))) O) : sEq false (.bl i) (.bl j) O Q := .inl ⟨rfl, h⟩
theorem sNe_bl {i j : Bool} (h : Q (.bl (!decide (i = j))) O) : sEq true (.bl i) (.bl j) O Q := .inl ⟨rfl, h⟩
theorem sEq_dat {x y : D} (e1 : cmpD O x = some x) (e2 : cmpD O y = some y) (g1 : goodD x = true) (g2 : goodD y = true) (h : Q (.bl (eqvD x y)) O) : sEq false x y O Q := .inr ⟨x, y, e1, e2, g1, g2, h⟩
theorem sNe_dat {x y : D} (e1 : cmpD O x = some x) (e2 : cmpD O y = some y) (g1 : goodD x = true) (g2 : goodD y = true) (h : Q (.bl (!eqvD x y)) O) : sEq true x y O Q := .inr ⟨x, y, e1, e2, g1, g2, h⟩
theorem sIx_l {xs : List D} {d : D} (h2 : atI xs i = some d) (q : Q d O) : sIx (.lst xs) (.int i) O Q := ⟨xs, i, d, rfl, rfl, h2, q⟩
theorem sIx_t {xs : List D} {d : D} (h2 : atI xs i = some d) (q : Q d O) : sIx (.tup xs) (.int i) O Q := ⟨xs, i, d, rfl, rfl, h2, q⟩
theorem sIx_o {p : Addr} {xs : List D} {d : D} (h1 : O p = some (.lst xs)) (h2 : atI xs i = some d) (q : Q d O) : sIx (.obj p) (.int i) O Q := ⟨xs, i, d, asL_obj h1, rfl, h2, q⟩
theorem sIx_s {z : Str} {c : Nat} (hl : z.length ≤ sizeLine) (h2 : atI z.cps.toList i = some c) (q : Q (.str ⟨#[c]⟩) O) : sIx (.str z) (.int i) O Q := ⟨hl, c, h2, q⟩
theorem sLen_l {xs : List D} (q : Q (.int xs.length) O) : sLen (.lst xs) O Q := ⟨xs, rfl, q⟩
theorem sLen_t {xs : List D} (q : Q (.int xs.length) O) : sLen (.tup xs) O Q := ⟨xs, rfl, q⟩
theorem sLen_o {p : Addr} {xs : List D} (h1 : O p = some (.lst xs)) (q : Q (.int xs.length) O) : sLen (.obj p) O Q := ⟨xs, asL_obj h1, q⟩
theorem sLen_s {z : Str} (hl : z.length ≤ sizeLine) (q : Q (.int z.length) O) : sLen (.str z) O Q := ⟨hl, q⟩
theorem sSl_s {z : Str} {lo hi : Option Int} (hl : z.length ≤ sizeLine) (q : Q (.str (cutS z lo hi)) O) : sSl (.str z) lo hi O Q := ⟨hl, q⟩
theorem sSl_t {xs : List D} {lo hi : Option Int} (q : Q (.tup (cutD xs lo hi)) O) : sSl (.tup xs) lo hi O Q := q
theorem sSl_l {xs : List D} {lo hi : Option Int} (q : Mk (cutD xs lo hi) O Q) : sSl (.lst xs) lo hi O Q := ⟨xs, rfl, q⟩
theorem sSl_r {xs : List D} {lo hi : Option Int} (q : Mk (cutD xs lo hi) O Q) : sSl (.rol xs) lo hi O Q := ⟨xs, rfl, q⟩
theorem ex_int {P : Int → Prop} (h : P i) : ∃ k, D.int i = .int k ∧ P k := ⟨i, rfl, h⟩
theorem ex_str {s : Str} {P : Str → Prop} (h : P s) : ∃ k, D.str s = .str k ∧ P k := ⟨s, rfl, h⟩
theorem ex_bl {s : Bool} {P : Bool → Prop} (h : P s) : ∃ k, D.bl s = .bl k ∧ P k := ⟨s, rfl, h⟩
theorem le_lineB {n : Nat} (h : Nat.ble n 100000 = true) : n ≤ sizeLine := Nat.le_trans (Nat.le_of_ble_eq_true h) (by decide)
theorem and_line {n : Nat} {A : Prop} (h : Nat.ble n 100000 = true) (q : A) : n ≤ sizeLine ∧ A := ⟨le_lineB h, q⟩
theorem br {k : Bool} {A B : Prop} (h1 : k = true → A) (h2 : k = false → B) : if k = true then A else B := by
  cases k with
  | true => simpa using h1 rfl
  | false => simpa using h2 rfl
theorem brT {A B : Prop} (h : A) : if true = true then A else B := by simpa using h
theorem brF {A B : Prop} (h : B) : if false = true then A else B := by simpa using h
end
/-- an owned list by a word is closed behind an expression -/
theorem WE.clsP {X : Cx} {E : ExP} {e : Expr} {Γ : Env'} {O : Own} {Q : PD} {p : Addr} {Pw : List D → Prop} (h : WE X E e Γ O fun d O' => ∃ ds, O' p = some (.lst ds) ∧ Pw ds ∧ Q d (updO O' p (.any Pw))) : WE X E e Γ O Q := .mk fun W σ H Hd q =>
  h.use q fun v H' d O' Hd' s p' r ⟨ds, e1, w, hq⟩ => ⟨d, _, Hd', s, p'.h.cls e1 w, r, hq⟩

/-! rows of ints -/
abbrev rowD (ns : List Int) : D := .lst (ns.map .int)
theorem atI_of {α : Type} {xs : List α} {i : Int} {j : Nat} {v : α} (h : i = j) (hx : xs[j]? = some v) : atI xs i = some v := by
  subst h
  exact atI_nat hx
theorem row_get {ns : List Int} {j : Nat} (h : j < ns.length) : (ns.map D.int)[j]? = some (.int (ns.getD j 0)) := by
  rw [List.getElem?_map, List.getElem?_eq_getElem h]
  simp [List.getD, List.getElem?_eq_getElem h]
theorem sIx_row {ns : List Int} {i : Int} {j : Nat} {O : Own} {Q : PD} (h : i = j) (hj : j < ns.length) (q : Q (.int (ns.getD j 0)) O) : sIx (rowD ns) (.int i) O Q := sIx_l (atI_of h (row_get hj)) q
theorem sLen_row {ns : List Int} {O : Own} {Q : PD} (q : Q (.int ns.length) O) : sLen (rowD ns) O Q := ⟨ns.map .int, rfl, by rw [List.length_map]; exact q⟩
theorem sSum_row {ns : List Int} {O : Own} {Q : PD} (q : Q (.int ns.sum) O) : sSum (rowD ns) O Q := ⟨ns, rfl, q⟩
theorem toPys_ints : ∀ ns : List Int, toPys (ns.map D.int) = ns.map PyData.int
  | [] => rfl
  | n :: ns => by simp [toPys, toPy, toPys_ints ns]
theorem isPys_ints : ∀ ns : List Int, isPys (ns.map D.int) = true
  | [] => rfl
  | n :: ns => by simp [isPys, isPy, isPys_ints ns]
theorem canLay_ints : ∀ ns : List Int, PyData.canLayAll0 (ns.map PyData.int) = true
  | [] => rfl
  | n :: ns => by simp [PyData.canLayAll0, PyData.canLay0, canLay_ints ns]
theorem depth_ints : ∀ ns : List Int, PyData.depthAll (ns.map PyData.int) ≤ 1
  | [] => by simp [PyData.depthAll]
  | n :: ns => by
    have := depth_ints ns
    simp [PyData.depthAll, PyData.depth]
    omega
theorem good_row (ns : List Int) : goodD (rowD ns) = true := by
  simp only [goodD, rowD, isPy, isPys_ints, toPy, toPys_ints, Bool.true_and, SeqAt.shaped, PyData.canLay0, canLay_ints, PyData.depth, decide_eq_true_eq]
  have := depth_ints ns
  omega
theorem eqv_ints : ∀ ms ns : List Int, PyData.eqvAll (ms.map PyData.int) (ns.map PyData.int) = decide (ms = ns)
  | [], [] => by simp [PyData.eqvAll]
  | [], n :: ns => by simp [PyData.eqvAll]
  | m :: ms, [] => by simp [PyData.eqvAll]
  | m :: ms, n :: ns => by
    simp only [List.map_cons, PyData.eqvAll, PyData.eqv, eqv_ints ms ns, List.cons.injEq]
    by_cases h : m = n <;> simp [h]
theorem eqv_row (ms ns : List Int) : eqvD (rowD ms) (rowD ns) = decide (ms = ns) := by
  simp only [eqvD, rowD, toPy, toPys_ints, PyData.eqv, eqv_ints]
theorem sEq_row {ms ns : List Int} {O : Own} {Q : PD} (h : Q (.bl (decide (ms = ns))) O) : sEq false (rowD ms) (rowD ns) O Q := sEq_dat rfl rfl (good_row ms) (good_row ns) (by rw [eqv_row]; exact h)
theorem sNe_row {ms ns : List Int} {O : Own} {Q : PD} (h : Q (.bl (!decide (ms = ns))) O) : sEq true (rowD ms) (rowD ns) O Q := sNe_dat rfl rfl (good_row ms) (good_row ns) (by rw [eqv_row]; exact h)
theorem sAdd_row {ms ns : List Int} {O : Own} {Q : PD} (hl : ms.length + ns.length ≤ 100000) (h : Mk ((ms ++ ns).map .int) O Q) : sAdd (rowD ms) (rowD ns) O Q := sAdd_ll (by simp only [List.length_map]; exact Nat.le_trans hl (by decide)) (by rw [← List.map_append]; exact h)
theorem rep_map {α β : Type} (f : α → β) (xs : List α) : ∀ n : Nat, (List.replicate n (xs.map f)).flatten = ((List.replicate n xs).flatten).map f
  | 0 => rfl
  | n + 1 => by rw [List.replicate_succ, List.replicate_succ, List.flatten_cons, List.flatten_cons, rep_map f xs n, List.map_append]
theorem sMul_row {ms : List Int} {k : Int} {O : Own} {Q : PD} (h0 : 0 ≤ k) (h1 : k ≤ 100000) (hl : ms.length * k.toNat ≤ 100000) (h : Mk (((List.replicate k.toNat ms).flatten).map .int) O Q) : sMul (rowD ms) (.int k) O Q :=
  have h2 : (ms.map D.int).length * k.toNat ≤ sizeLine := by
    rw [List.length_map]
    exact Nat.le_trans hl (by decide)
  have h3 : -(2 ^ 63) ≤ k := Int.le_trans (by decide) h0
  have h4 : k < 2 ^ 63 := Int.lt_of_le_of_lt h1 (by decide)
  sMul_ll h3 h4 h2 (by rw [rep_map]; exact h)
theorem cut_row (ns : List Int) (lo hi : Option Int) : cutD (ns.map .int) lo hi = ((ns.drop (HT.sIx ns.length 0 lo)).take (HT.sIx ns.length ns.length hi - HT.sIx ns.length 0 lo)).map .int := by
  unfold cutD
  simp [List.map_drop, List.map_take]
section
variable {X : Cx} {Γ : Env'} {elt tg : Expr} {scope : Scope} {Q : PD} {vs : List Nat} {O1 : Own}
/-- a comprehension whose elements are ints -/
theorem lc_allI {G : Own → Prop} {ds : List D} (f : Nat → Int) (hn : ds.length ≤ 100000) (hG : ∀ O2, Sub O1 O2 → G O2) (hs : ∀ i d O2, ds[i]? = some d → Sub O1 O2 → ∀ s H C cl fp, WGc (blkX X scope s H C cl fp) vs tg d (wipeD Γ vs) O2 fun Γ3 O3 => O3 = O2 ∧ ∀ s H C cl fp, WE (blkX X scope s H C cl fp) noEx elt Γ3 O2 (fun y O5 => O5 = O2 ∧ y = .int (f i)))
    (hd : Mk (((List.range ds.length).map f).map D.int) O1 Q) : LcBody X Γ elt tg [] scope vs G ds O1 Q := by
  refine lc_all (fun i d y => y = .int (f i)) hn hG (fun i d O2 hd' hs' s H C cl fp => hs i d O2 hd' hs' s H C cl fp) fun ys h1 h2 => ?_
  have e := all_map (f := fun i _ => D.int (f i)) h1 h2
  have e2 : ys = ((List.range ds.length).map f).map D.int := by
    rw [e]
    apply List.ext_getElem?
    intro i
    rw [List.getElem?_mapIdx, List.getElem?_map, List.getElem?_map]
    by_cases hi : i < ds.length
    · simp [List.getElem?_range hi, List.getElem?_eq_getElem hi]
    · simp [List.getElem?_eq_none_iff.mpr (Nat.le_of_not_lt hi), List.getElem?_eq_none_iff.mpr (show (List.range ds.length).length ≤ i by simp; omega)]
  rw [e2]
  exact hd
/-- a comprehension over a range whose elements are ints -/
theorem lc_rngI {lo : Int} {n : Nat} (f : Nat → Int) (hn : n ≤ 100000) (hs : ∀ i O2, i < n → Sub O1 O2 → ∀ s H C cl fp, WGc (blkX X scope s H C cl fp) vs tg (.int (lo + (i : Nat))) (wipeD Γ vs) O2 fun Γ3 O3 => O3 = O2 ∧ ∀ s H C cl fp, WE (blkX X scope s H C cl fp) noEx elt Γ3 O2 (fun y O5 => O5 = O2 ∧ y = .int (f i)))
    (hd : Mk (((List.range n).map f).map D.int) O1 Q) : LcBody X Γ elt tg [] scope vs (fun _ => True) (rngD lo n) O1 Q := by
  refine lc_all (fun i d y => y = .int (f i)) (by rw [rngD_len]; exact hn) (fun _ _ => trivial) (fun i d O2 hd' hs' s H C cl fp => ?_) fun ys h1 h2 => ?_
  · obtain ⟨hi, rfl⟩ := rngD_get hd'
    exact hs i O2 hi hs' s H C cl fp
  · have e := all_map (f := fun i _ => D.int (f i)) h1 h2
    have e2 : ys = ((List.range n).map f).map D.int := by
      rw [e]
      apply List.ext_getElem?
      intro i
      rw [List.getElem?_mapIdx, List.getElem?_map, List.getElem?_map]
      by_cases hi : i < n
      · simp [rngD, List.getElem?_range hi]
      · simp [rngD, List.getElem?_eq_none_iff.mpr (show (List.range n).length ≤ i by simp; omega)]
    rw [e2]
    exact hd
end
theorem WE.clsP2 {X : Cx} {E : ExP} {e : Expr} {Γ : Env'} {O : Own} {Q : PD} (h : WE X E e Γ O fun d O' => ∃ p Pw ds, O' p = some (.lst ds) ∧ Pw ds ∧ Q d (updO O' p (.any Pw))) : WE X E e Γ O Q := .mk fun W σ H Hd q =>
  h.use q fun v H' d O' Hd' s p' r ⟨p, Pw, ds, e1, w, hq⟩ => ⟨d, _, Hd', s, p'.h.cls e1 w, r, hq⟩
theorem rngD_at {lo : Int} {n i : Nat} (h : i < n) : (rngD lo n)[i]? = some (.int (lo + i)) := by
  unfold rngD
  rw [List.getElem?_map, List.getElem?_range h]
  rfl
theorem ints_of {P : Int → Prop} : ∀ {n : Nat} {ys : List D}, ys.length = n → (∀ i, i < n → ∃ y, ys[i]? = some y ∧ ∃ r : Int, y = .int r ∧ P r) → ∃ r : List Int, ys = r.map .int ∧ r.length = n ∧ ∀ x ∈ r, P x
  | 0, [], _, _ => ⟨[], rfl, rfl, fun x hx => nomatch hx⟩
  | n + 1, y :: ys, hl, h => by
    obtain ⟨y', e, r, e2, p⟩ := h 0 (by omega)
    cases Option.some.inj e
    subst e2
    obtain ⟨rs, e3, h1, h2⟩ := ints_of (n := n) (ys := ys) (by simpa using hl) fun i hi => by simpa using h (i + 1) (by omega)
    subst e3
    refine ⟨r :: rs, rfl, by simp [h1], fun x hx => ?_⟩
    rcases List.mem_cons.mp hx with rfl | hx
    · exact p
    · exact h2 x hx
section
variable {X : Cx} {Γ : Env'} {elt tg : Expr} {scope : Scope} {Q : PD} {vs : List Nat} {O1 : Own}
/-- a comprehension over a range whose elements are ints of which a word holds -/
theorem lc_rngP {lo : Int} {n : Nat} (Pr : Int → Prop) (hn : n ≤ 100000) (hs : ∀ i O2, i < n → Sub O1 O2 → ∀ s H C cl fp, WGc (blkX X scope s H C cl fp) vs tg (.int (lo + (i : Nat))) (wipeD Γ vs) O2 fun Γ3 O3 => O3 = O2 ∧ ∀ s H C cl fp, WE (blkX X scope s H C cl fp) noEx elt Γ3 O2 (fun y O5 => O5 = O2 ∧ ∃ r : Int, y = .int r ∧ Pr r))
    (hd : ∀ r : List Int, r.length = n → (∀ x ∈ r, Pr x) → Mk (r.map .int) O1 Q) : LcBody X Γ elt tg [] scope vs (fun _ => True) (rngD lo n) O1 Q := by
  refine lc_all (fun _ _ y => ∃ r : Int, y = .int r ∧ Pr r) (by rw [rngD_len]; exact hn) (fun _ _ => trivial) (fun i d O2 hd' hs' s H C cl fp => ?_) fun ys h1 h2 => ?_
  · obtain ⟨hi, rfl⟩ := rngD_get hd'
    exact hs i O2 hi hs' s H C cl fp
  · obtain ⟨r, e, hr1, hr2⟩ := ints_of (n := n) (by rw [h1, rngD_len]) fun i hi => h2 i _ (rngD_at hi)
    rw [e]
    exact hd r hr1 hr2
end
/-- all slots but one are forgotten -/
theorem WSs.only {X : Cx} {E : ExP} {Γ : Env'} {O : Own} {De : EndsD} {sts : List Stmt} (n j : Nat) {x : D} (hl : Γ.length = n) (hj : Γ[j]? = some (some x)) (h : WSs X E sts ((List.replicate n none).set j (some x)) O De) : WSs X E sts Γ O De :=
  h.weak (by simp [hl]) fun i d e => by
    by_cases hi : j = i
    · subst hi
      have hjl : j < n := by rw [← hl]; exact (List.getElem?_eq_some_iff.mp hj).1
      rw [List.getElem?_set_self (by simpa using hjl)] at e
      rw [hj]
      exact e
    · rw [List.getElem?_set_ne hi, List.getElem?_replicate] at e
      split at e <;> cases e
/-! the generator of draws: what a law asks of it -/
def DrOk (ds : List D) : Prop := ∃ (ns : List Int) (i : Nat) (a s : Int), ds = [.lst (ns.map .int), .int i, .int a, .int s] ∧ -(2 ^ 31) < s ∧ s < 2 ^ 31
def spPull : SpD := fun ds O Q _ => ∃ (p : Addr) (m : Int), ds = [.obj p, .int m] ∧ O p = some (.any DrOk) ∧ 0 < m ∧ m.natAbs.log2 < 9000 ∧ ∀ r, 0 ≤ r → r < m → Q (.int r) O
def spBag : SpD := fun ds O Q _ => ∃ ns : List Int, ds = [.rol (ns.map .int)] ∧ ∀ p, O p = none → Q (.obj p) (updO O p (.any DrOk))
end RW


/-! RW: texts as rows of code points. -/
namespace RW
open PySem PySem.Spec PyProof.Rows L2
/-- the text of these code points -/
abbrev tx (l : List Nat) : D := .str (SX.S l)
theorem S_iff {a b : List Nat} : (SX.S a = SX.S b) ↔ a = b := ⟨SX.S_inj, fun h => h ▸ rfl⟩
theorem S_dec {a b : List Nat} : decide (SX.S a = SX.S b) = decide (a = b) := by
  by_cases h : a = b
  · subst h; simp
  · rw [decide_eq_false h, decide_eq_false fun e => h (SX.S_inj e)]
/-- a text is walked sign by sign -/
theorem wi_str {X : Cx} {E : ExP} {Γ : Env'} {O : Own} {tg l : Expr} {R : (Own → Prop) → List D → Own → Prop} (h : WE X E l Γ O fun x O1 => ∃ a, x = tx a ∧ R (fun _ => True) (a.map fun c => tx [c]) O1) : WI X E tg l Γ O R := .mk fun W σ H Hd p =>
  wI_of (pi_str peW) (h.use p fun v H1 x O1 Hd1 s1 p1 r1 ⟨a, e, q⟩ => by
    subst e
    cases r1
    refine ⟨SX.S a, rfl, _, _, O1, Hd1, s1, p1.h, fun i H Hd2 O s h _ => ⟨fun d hd => ?_, fun hl => ?_⟩, q⟩
    · rw [List.getElem?_map] at hd
      cases hc : a[i]? with
      | none => rw [hc] at hd; cases hd
      | some c =>
        rw [hc] at hd
        obtain rfl := Option.some.inj hd
        refine ⟨(List.getElem?_eq_some_iff.mp hc).1, fun x H' ⟨e2, c', hc', e3⟩ => ?_⟩
        subst e2
        have e4 : a[i]? = some c' := by simpa using hc'
        rw [hc] at e4
        cases e4
        subst e3
        exact ⟨Hd2, Same.refl _, h, .str _⟩
    · show (SX.S a).cps.size ≤ i
      simpa using hl)
section
variable {O : Own} {Q : PD} {a b : List Nat}
theorem len_line {n : Nat} (h : n ≤ 100000) : n ≤ sizeLine := Nat.le_trans h (by decide)
theorem sLen_tx (hl : a.length ≤ 100000) (q : Q (.int a.length) O) : sLen (tx a) O Q := ⟨by rw [SX.S_len]; exact len_line hl, by rw [SX.S_len]; exact q⟩
theorem sEq_tx (h : Q (.bl (decide (a = b))) O) : sEq false (tx a) (tx b) O Q := sEq_str (by rw [S_dec]; exact h)
theorem sNe_tx (h : Q (.bl (!decide (a = b))) O) : sEq true (tx a) (tx b) O Q := sNe_str (by rw [S_dec]; exact h)
theorem sAdd_tx (hl : a.length + b.length ≤ 100000) (h : Q (tx (a ++ b)) O) : sAdd (tx a) (tx b) O Q := sAdd_str (by rw [SX.S_len, SX.S_len]; exact len_line hl) (by rw [SX.S_cat]; exact h)
theorem sIx_tx {i : Int} {j c : Nat} (hl : a.length ≤ 100000) (hi : i = j) (h2 : a[j]? = some c) (q : Q (tx [c]) O) : sIx (tx a) (.int i) O Q :=
  sIx_s (by rw [SX.S_len]; exact len_line hl) (atI_of hi h2) q
theorem sIn_one {c : Nat} (h : Q (.bl (decide (c ∈ a))) O) : sIn false (tx [c]) (tx a) O Q := by
  show Q (.bl (!(Builtin.Str.occurrences (SX.S a) (SX.S [c]) 0 (SX.S a).length 1).isEmpty)) O
  rw [SX.in_one]; exact h
theorem sNin_one {c : Nat} (h : Q (.bl (!decide (c ∈ a))) O) : sIn true (tx [c]) (tx a) O Q := by
  show Q (.bl (!(!(Builtin.Str.occurrences (SX.S a) (SX.S [c]) 0 (SX.S a).length 1).isEmpty))) O
  rw [SX.in_one]; exact h
theorem cut_to {i : Int} (h : 0 ≤ i) : cutS (SX.S a) none (some i) = SX.S (a.take i.toNat) := by
  rw [C8.cutS_slice, SX.slice_to h]
theorem cut_from {i : Int} (h : 0 ≤ i) : cutS (SX.S a) (some i) none = SX.S (a.drop i.toNat) := by
  rw [C8.cutS_slice, SX.slice_from h]
theorem sSl_to {i : Int} (hl : a.length ≤ 100000) (h : 0 ≤ i) (q : Q (tx (a.take i.toNat)) O) : sSl (tx a) none (some i) O Q := sSl_s (by rw [SX.S_len]; exact len_line hl) (by rw [cut_to h]; exact q)
theorem sSl_from {i : Int} (hl : a.length ≤ 100000) (h : 0 ≤ i) (q : Q (tx (a.drop i.toNat)) O) : sSl (tx a) (some i) none O Q := sSl_s (by rw [SX.S_len]; exact len_line hl) (by rw [cut_from h]; exact q)
theorem starts_one (c : Nat) : Txt.startswith (SX.S a) (SX.S [c]) = decide (a.head? = some c) := by
  rw [Bool.eq_iff_iff]
  have h := PySem.StrLaws.subAt_one (SX.S a) c 0
  unfold Txt.startswith
  rw [Bool.and_eq_true, decide_eq_true_eq]
  refine h.trans ?_
  rw [decide_eq_true_eq]
  show a[0]? = some c ↔ _
  rw [List.head?_eq_getElem?]
end
theorem tx_eq (x : Str) : D.str x = tx x.cps.toList := (congrArg D.str (SX.S_tl x)).symm
/-- a written text -/
theorem w_tx {X : Cx} {E : ExP} {Γ : Env'} {O : Own} {Q : PD} {x : Str} {j : Nat} {pos : Pos} (q : Q (tx x.cps.toList) O) : WE X E (.Constant (.str x) j pos) Γ O Q := w_str (by rw [tx_eq]; exact q)
theorem w_globT {X : Cx} {E : ExP} {Γ : Env'} {O : Own} {Q : PD} {x i : Str} {t : Tok} {pos : Pos} (hm : X.mg x = some (.str i t)) (q : Q (tx i.cps.toList) O) (hg : Gl X x := by rfl) (hd : (x == ("__debug__" : Str)) = false := by decide) : WE X E (.Name x pos) Γ O Q :=
  w_globS hm (by rw [tx_eq]; exact q) hg hd
/-! decimal texts -/
def intL (i : Int) : List Nat := if i < 0 then 45 :: TL.numL i.natAbs else TL.numL i.natAbs
theorem toString_S (i : Int) : Str.ofString (toString i) = SX.S (intL i) := by
  cases i with
  | ofNat n =>
    show Str.ofString (toString ((n : Nat) : Int)) = _
    rw [SX.num_S]
    unfold intL
    rw [if_neg (by simp)]
    rfl
  | negSucc n =>
    refine TL.ext_tl ?_
    have e : toString (Int.negSucc n) = "-" ++ toString (n + 1) := rfl
    rw [e, TL.tl_ofString, String.toList_append, List.map_append, TL.tl_mk]
    unfold intL
    rw [if_pos (Int.negSucc_lt_zero n)]
    have h1 := TL.tl_num (n + 1)
    rw [TL.tl_ofString] at h1
    show _ = 45 :: TL.numL (n + 1)
    rw [← h1]
    rfl
end RW
namespace RW
open PySem PySem.Spec PyProof.Rows L2
section
variable {X : Cx} {E : ExP} {Γ : Env'} {O : Own} {e a b : Expr} {pos : Pos} {Q : PD}
/-! f-strings, str -/
theorem sFmt_i {i : Int} (h : i.natAbs.log2 < 1920) (q : Q (tx (intL i)) O) : sFmt (.int i) O Q := ⟨h, by
  show Q (.str (Str.ofString (toString i))) O
  rw [toString_S]
  exact q⟩
theorem sFmt_t {l : List Nat} (h : l.length ≤ 100000) (q : Q (tx l) O) : sFmt (tx l) O Q := ⟨by rw [SX.S_len]; exact len_line h, q⟩
theorem wj_nil {acc : List Nat} {Q : Str → Own → Prop} (q : Q (SX.S acc) O) : WJ X E [] (SX.S acc) Γ O Q := q
theorem wj_cons {es : List Expr} {acc : List Nat} {Q : Str → Own → Prop} (h : WE X E e Γ O fun d O1 => ∃ y, d = tx y ∧ acc.length + y.length ≤ 100000 ∧ WJ X E es (SX.S (acc ++ y)) Γ O1 Q) : WJ X E (e :: es) (SX.S acc) Γ O Q :=
  WE.mono h fun d O' ⟨y, e1, hl, q⟩ => ⟨SX.S y, e1, by rw [SX.S_cat, SX.S_len, List.length_append]; exact len_line hl, by rw [SX.S_cat]; exact q⟩
theorem w_joinT {v1 v2 : Expr} {rest : List Expr} (h : WJ X E (v1 :: v2 :: rest) (SX.S []) Γ O fun s O' => Q (.str s) O') : WE X E (.JoinedStr (v1 :: v2 :: rest) pos) Γ O Q := w_joined h
theorem w_strI {p : Pos} (hm : X.mg "str" = none) (h : WE X E e Γ O fun d O1 => ∃ i, d = .int i ∧ i.natAbs.log2 < 1920 ∧ Q (tx (intL i)) O1) (hg : Gl X "str" := by rfl) (he : starEach [e] X.env = [(false, eval e X.env)] := by rfl) : WE X E (.Call (.Name "str" p) [e] [] pos) Γ O Q :=
  w_toStr hm (h.mono fun d O' ⟨i, e1, hl, q⟩ => ⟨i, e1, hl, by
    show Q (.str (Str.ofString (toString i))) O'
    rw [toString_S]
    exact q⟩) hg he
theorem intL_len {i : Int} (h : i.natAbs.log2 < 1920) : (intL i).length ≤ 1921 := by
  have h1 := PyProof.Rows.int_text_len_1921 h
  rwa [toString_S, SX.S_len] at h1
/-- a text's row method: split -/
theorem w_splitT {o : Expr} {apos : Pos} (h : WE X E o Γ O fun x O1 => ∃ a, x = tx a ∧ WE X E e Γ O1 fun d O2 => ∃ b, d = tx b ∧ b ≠ [] ∧ b.all (· < 256) = true ∧ a.length ≤ 100000 ∧ Mk ((TL.spl b 0 [] a).map tx) O2 Q)
    (hs : starEach [e] X.env = [(false, eval e X.env)] := by rfl) (hbase : attributeBase o "split" X.env (eval o X.env) = eval o X.env := by rfl) (hline : (apos.endLine == pos.line) = true := by rfl) : WE X E (.Call (.Attribute o "split" apos) [e] [] pos) Γ O Q :=
  w_split (h.mono fun x O1 ⟨a, e1, h1⟩ => ⟨SX.S a, e1, h1.mono fun d O2 ⟨b, e2, h2, h3, h4, q⟩ => ⟨SX.S b, e2, by
    rw [SX.S_len]
    cases b with
    | nil => exact absurd rfl h2
    | cons c b => rfl, by rw [SX.S_len]; exact Nat.le_trans (Nat.add_le_add_right h4 2) (by decide), by rw [SX.split_S h2 h3, List.map_map]; exact q⟩⟩) hs hbase hline
theorem w_startsT {o : Expr} {apos : Pos} (h : WE X E o Γ O fun x O1 => ∃ a, x = tx a ∧ WE X E e Γ O1 fun d O2 => ∃ c, d = tx [c] ∧ Q (.bl (decide (a.head? = some c))) O2)
    (hs : starEach [e] X.env = [(false, eval e X.env)] := by rfl) (hbase : attributeBase o "startswith" X.env (eval o X.env) = eval o X.env := by rfl) (hline : (apos.endLine == pos.line) = true := by rfl) : WE X E (.Call (.Attribute o "startswith" apos) [e] [] pos) Γ O Q :=
  w_startswith (h.mono fun x O1 ⟨a, e1, h1⟩ => ⟨SX.S a, e1, h1.mono fun d O2 ⟨c, e2, q⟩ => ⟨SX.S [c], e2, by rw [starts_one]; exact q⟩⟩) hs hbase hline
theorem wt_starts {o : Expr} {apos : Pos} {Q : Bool → Own → Prop} (h : WE X E o Γ O fun x O1 => ∃ a, x = tx a ∧ WE X E e Γ O1 fun d O2 => ∃ c, d = tx [c] ∧ Q (decide (a.head? = some c)) O2)
    (hs : starEach [e] X.env = [(false, eval e X.env)] := by rfl) (hbase : attributeBase o "startswith" X.env (eval o X.env) = eval o X.env := by rfl) (hline : (apos.endLine == pos.line) = true := by rfl) : WT X E (.Call (.Attribute o "startswith" apos) [e] [] pos) Γ O Q :=
  wt_val (w_startsT (h.mono fun x O1 ⟨a, e1, h1⟩ => ⟨a, e1, h1.mono fun d O2 ⟨c, e2, q⟩ => ⟨c, e2, _, rfl, q⟩⟩) hs hbase hline)
end
end RW
namespace RW
open PySem PySem.Spec PyProof.Rows L2
theorem br_f {k : Bool} {A B : Prop} (e : k = false) (h : B) : if k = true then A else B := by subst e; simpa using h
theorem br_t {k : Bool} {A B : Prop} (e : k = true) (h : A) : if k = true then A else B := by subst e; simpa using h
theorem sIn_l {x : D} {ys : List D} {O : Own} {Q : PD} (f1 : flatD x = true) (f2 : ys.all flatD = true) (h : Q (.bl (inD x ys)) O) : sIn false x (.lst ys) O Q := by
  cases x <;> exact ⟨ys, rfl, f1, f2, h⟩
theorem sNin_l {x : D} {ys : List D} {O : Own} {Q : PD} (f1 : flatD x = true) (f2 : ys.all flatD = true) (h : Q (.bl (!inD x ys)) O) : sIn true x (.lst ys) O Q := by
  cases x <;> exact ⟨ys, rfl, f1, f2, h⟩
theorem sIn_t {x : D} {ys : List D} {O : Own} {Q : PD} (f1 : flatD x = true) (f2 : ys.all flatD = true) (h : Q (.bl (inD x ys)) O) : sIn false x (.tup ys) O Q := by
  cases x <;> exact ⟨ys, rfl, f1, f2, h⟩
theorem sNin_t {x : D} {ys : List D} {O : Own} {Q : PD} (f1 : flatD x = true) (f2 : ys.all flatD = true) (h : Q (.bl (!inD x ys)) O) : sIn true x (.tup ys) O Q := by
  cases x <;> exact ⟨ys, rfl, f1, f2, h⟩
end RW
namespace RW
open PySem PySem.Spec PyProof.Rows L2
theorem wt_bo {X : Cx} {E : ExP} {Γ : Env'} {O : Own} {op : BoolOp} {es : List Expr} {pos : Pos} {Q : Bool → Own → Prop} (h : WW X E (.BoolOp op es pos) Γ O Q) : WT X E (.BoolOp op es pos) Γ O Q := wt_ww h
end RW
namespace RW
open PySem PySem.Spec PyProof.Rows L2
/-- an item at a drawn place: any of them -/
theorem sIx_any {xs : List D} {r : Int} {O : Own} {Q : PD} (h0 : 0 ≤ r) (h1 : r < xs.length) (q : ∀ d ∈ xs, Q d O) : sIx (.lst xs) (.int r) O Q := by
  obtain ⟨j, rfl⟩ := Int.eq_ofNat_of_zero_le h0
  have hj : j < xs.length := by omega
  exact sIx_l (atI_of rfl (List.getElem?_eq_getElem hj)) (q _ (List.getElem_mem hj))
theorem all_nil {P : D → Prop} : ∀ d ∈ ([] : List D), P d := fun _ h => nomatch h
theorem all_cons {P : D → Prop} {x : D} {xs : List D} (h : P x) (t : ∀ d ∈ xs, P d) : ∀ d ∈ x :: xs, P d := fun d hd => by
  rcases List.mem_cons.mp hd with rfl | hd
  · exact h
  · exact t d hd
end RW
namespace RW
open PySem PySem.Spec PyProof.Rows L2
section
variable {X : Cx} {E : ExP} {Γ : Env'} {O : Own} {e a b : Expr} {pos : Pos} {Q : PD}
theorem sMul_tup {xs : List D} {k : Int} (h1 : xs ≠ []) (h2 : 2 ≤ k) (h3 : k ≤ 1000) (h4 : xs.length ≤ 1000) (q : Q (.tup (List.replicate k.toNat xs).flatten) O) : sMul (.tup xs) (.int k) O Q := ⟨h1, h2, h3, h4, q⟩
theorem count_rep {K : PySem.W.Frag} {H : Hp} {y : D} {u : V} (ry : Rep K H u y) (fy : flatD y = true) : ∀ {vs : List V} {ds : List D}, Reps K H vs ds → ds.all flatD = true → vs.countP (fun z => eqV z u) = ds.countP fun z => eqFV z y
  | [], _, .nil, _ => rfl
  | v :: vs, d :: ds, .cons r t, f => by
    rw [List.all_cons, Bool.and_eq_true] at f
    rw [List.countP_cons, List.countP_cons, count_rep ry fy t f.2, eqFV_ok r ry f.1 fy]
/-- t.count(e), flat items -/
theorem w_tcount {o : Expr} {apos : Pos} (h : WE X E o Γ O fun x O1 => ∃ ds, x = .tup ds ∧ WE X E e Γ O1 fun y O2 => ds.all flatD = true ∧ flatD y = true ∧ Q (.int ((ds.countP fun z => eqFV z y : Nat))) O2)
    (hbase : attributeBase o "count" X.env (eval o X.env) = eval o X.env := by rfl)
    (hfew : ((backTo pos (starEach [e] X.env)).all (fun x => !x.1) && (backToKw pos (keywordEach [] X.env)).all (fun x => x.1.isSome)
      && decide (([e] : List Expr).length + ([] : List Keyword).length + (if ([] : List Keyword).isEmpty then 0 else 1) < 30)) = true := by rfl)
    (hline : (apos.endLine == pos.line) = true := by rfl) (hs : starEach [e] X.env = [(false, eval e X.env)] := by rfl) : WE X E (.Call (.Attribute o "count" apos) [e] [] pos) Γ O Q := .mk fun W σ H Hd p =>
  wE_of (pe_tcount peW peW hbase hfew hline hs) (h.use p fun v H1 x O1 Hd1 s1 p1 r1 ⟨ds, e1, q1⟩ => by
    subst e1
    cases r1 with | tup g r =>
    refine ⟨_, _, rfl, SqN.same p1.h.same g, q1.use p1 fun u H2 y O2 Hd2 s2 p2 r2 ⟨f1, f2, q2⟩ => ?_⟩
    have r3 := r.mono s2
    exact ⟨_, SqN.same p2.h.same (SqN.same s2 g), flats_ok r3 f1, flat_ok r2 f2, .lift (s1.trans s2) (.of p2.h (.int _) (by rw [count_rep r2 f2 r3 f1]; exact q2))⟩)
/-- len(set(e)), ints: some number -/
theorem w_lenset {p p2 q : Pos} (hc : X.calm = true) (hm : X.mg "len" = none) (hm2 : X.mg "set" = none) (h : WE X E a Γ O fun x O1 => ∃ ns : List Int, asL O1 x = some (ns.map .int) ∧ ns.length < 64 ∧ ∀ n : Nat, (n = ns.length → ns.Nodup) → Q (.int n) O1) (hg : Gl X "len" := by rfl) (hg2 : Gl X "set" := by rfl)
    (na : starEach [a] X.env = (false, eval a X.env) :: starEach [] X.env := by rfl) : WE X E (.Call (.Name "len" p) [.Call (.Name "set" p2) [a] [] q] [] pos) Γ O Q := .mk fun W σ H Hd w =>
  wE_of (pe_lenSetA hc hg hm hg2 hm2 peW na) (h.use w fun v H1 x O1 Hd1 s1 p1 r1 ⟨ns, e1, hl, q1⟩ => by
    obtain ⟨l, vs, rfl, g, r⟩ := p1.h.readL r1 e1
    rw [r.ints] at g
    exact ⟨l, ns, rfl, g, hl, fun n hn => .lift s1 (.of p1.h (.int _) (q1 n hn))⟩)
/-- sorted(xs), texts -/
def sSortS (x : D) (O : Own) (Q : PD) : Prop := ∃ xs : List Str, asL O x = some (xs.map .str) ∧ xs.length < 64 ∧ ∀ ys : List Str, ys.Perm xs → sortedS ys = true → Mk (ys.map .str) O Q
theorem Reps.of_strs {K : PySem.W.Frag} {H : Hp} : ∀ ss : List Str, Reps K H (ss.map V.str) (ss.map D.str)
  | [] => .nil
  | s :: ss => .cons (.str s) (Reps.of_strs ss)
theorem w_sortS {p : Pos} (hm : X.mg "sorted" = none) (h : WE X E e Γ O fun d O1 => sSortS d O1 Q) (hg : Gl X "sorted" := by rfl) (he : starEach [e] X.env = [(false, eval e X.env)] := by rfl) : WE X E (.Call (.Name "sorted" p) [e] [] pos) Γ O Q :=
  w_callB cr_sortedS (fun x O v H Hd Q Q' h r ⟨xs, e1, hl, q⟩ k => by
    obtain ⟨a, vs, rfl, g, r2⟩ := h.readL r e1
    rw [r2.strs] at g
    exact ⟨a, xs, rfl, g, hl, fun ys p h1 h2 np => k _ _ (.mk h np (Reps.of_strs ys) (q ys h1 h2))⟩) hm (by decide +kernel) h hg he
/-- xs.reverse() of an owned list -/
theorem Reps.reverse {K : PySem.W.Frag} {H : Hp} {vs : List V} {ds : List D} (r : Reps K H vs ds) : Reps K H vs.reverse ds.reverse := by
  induction vs generalizing ds with
  | nil => cases r; exact .nil
  | cons v vs ih =>
    cases r with
    | cons r t =>
      rw [List.reverse_cons, List.reverse_cons]
      exact (ih t).append (.cons r .nil)
theorem w_reverse {o : Expr} {apos : Pos} (h : WE X E o Γ O fun x O1 => ∃ p ds, x = .obj p ∧ O1 p = some (.lst ds) ∧ Q .non (updO O1 p (.lst ds.reverse)))
    (hbase : attributeBase o "reverse" X.env (eval o X.env) = eval o X.env := by rfl) (hline : (apos.endLine == pos.line) = true := by rfl) : WE X E (.Call (.Attribute o "reverse" apos) [] [] pos) Γ O Q := .mk fun W σ H Hd q =>
  wE_of (pe_bm0 PySem.F.plainAttrs_list PySem.F.slot_list_reverse PySem.F.type_list_reverse mt_reverse peW hbase hline) (h.use q fun v H1 x O1 Hd1 s1 p1 r1 ⟨p, ds, e1, g, q1⟩ => by
    subst e1
    cases r1
    obtain ⟨n2, vs, h2, r3⟩ := p1.h.own p _ g
    exact ⟨.inl ⟨rfl, vs, .inl (.inl h2)⟩, p, vs, rfl, rfl, h2, .non, _, Hd1, s1, p1.h.putL n2 r3.reverse, .non, q1⟩)
end
end RW
namespace RW
open PySem PySem.Spec PyProof.Rows L2
section
variable {O : Own} {Q : PD} {a : List Nat}
/-- a[-1] -/
theorem sIx_last {c : Nat} (hl : a.length ≤ 99999) (q : Q (tx [c]) O) : sIx (tx (a ++ [c])) (.int (-1)) O Q := by
  refine sIx_s (c := c) (by rw [SX.S_len, List.length_append, List.length_singleton]; exact len_line (by omega)) ?_ q
  show atI (a ++ [c]) (-1) = some c
  have e : ixN (a ++ [c]).length (-1) = some a.length := by
    unfold ixN
    rw [List.length_append, List.length_singleton, if_neg (by omega), if_pos (by omega)]
    congr 1
    omega
  unfold atI
  rw [e]
  show (a ++ [c])[a.length]? = some c
  simp
/-- a[:-1] -/
theorem sSl_butlast {c : Nat} (hl : a.length ≤ 99999) (q : Q (tx a) O) : sSl (tx (a ++ [c])) none (some (-1)) O Q := by
  refine sSl_s (by rw [SX.S_len, List.length_append, List.length_singleton]; exact len_line (by omega)) ?_
  rw [C8.cutS_slice, SX.butlast_snoc]
  exact q
end
end RW
namespace RW
open PySem PySem.Spec PyProof.Rows L2
theorem WTs.mono {X : Cx} {E : ExP} {ifs : List Expr} {Γ : Env'} {O : Own} {Q Q' : Bool → Own → Prop} (h : WTs X E ifs Γ O Q) (k : ∀ b O', Q b O' → Q' b O') : WTs X E ifs Γ O Q' := .mk fun W σ H Hd p pins s I =>
  h.use p (fun b H' O' Hd' s p' q => ⟨O', Hd', s, p'.h, k b O' q⟩) pins s I
section
variable {X : Cx} {Γ : Env'} {elt tg : Expr} {ifs : List Expr} {scope : Scope} {Q : PD}
/-- a comprehension with a test: of each element a word holds -/
theorem lc_fil {vs : List Nat} {G : Own → Prop} {ds : List D} {O1 : Own} (P : D → Prop) (hl : ds.length ≤ 100000) (hG : ∀ O2, Sub O1 O2 → G O2)
    (hs : ∀ (i : Nat) (d : D) (O2 : Own), ds[i]? = some d → Sub O1 O2 → ∀ s H C cl fp, WGc (blkX X scope s H C cl fp) vs tg d (wipeD Γ vs) O2 fun Γ3 O3 => O3 = O2 ∧ ∀ s H C cl fp, WTs (blkX X scope s H C cl fp) noEx ifs Γ3 O2 fun b O4 => O4 = O2 ∧ (b = true → ∀ s H C cl fp, WE (blkX X scope s H C cl fp) noEx elt Γ3 O2 (fun y O5 => O5 = O2 ∧ P y)))
    (hd : ∀ ys : List D, ys.length ≤ ds.length → (∀ y ∈ ys, P y) → Mk ys O1 Q) : LcBody X Γ elt tg ifs scope vs G ds O1 Q := fun p np => by
  refine ⟨fun i acc O2 => O2 = updO O1 p (.lst acc) ∧ acc.length ≤ i ∧ i ≤ ds.length ∧ ∀ y ∈ acc, P y, ⟨rfl, Nat.le_refl _, Nat.zero_le _, fun y hy => nomatch hy⟩, fun i acc O2 ⟨e, _⟩ => ?_, fun i d acc O2 hd' ⟨e, el, ei, ea⟩ s H C cl fp => ?_, fun acc O2 ⟨e, el, _, ea⟩ => ?_⟩
  · subst e
    exact ⟨hG _ (Sub.new np), updO_same⟩
  · have hlt : i < ds.length := (List.getElem?_eq_some_iff.mp hd').1
    refine .mk fun σ H1 Hd v g a r => ?_
    refine wG_mono ((hs i d O2 hd' (by rw [e]; exact Sub.new np) s H C cl fp).run σ H1 Hd v g a r) fun σ' H' ⟨ew, Γ3, O3, Hd3, s3, g3, a3, e3, q3⟩ => ⟨ew, Γ3, O3, Hd3, s3, g3, a3, fun s H C cl fp => ?_⟩
    subst e3
    refine (q3 s H C cl fp).mono fun b O4 ⟨e4, q4⟩ => ?_
    subst e4
    cases b with
    | false => exact br_f rfl ⟨e, by omega, hlt, ea⟩
    | true =>
      refine br_t rfl fun s H C cl fp => ?_
      refine (q4 rfl s H C cl fp).mono fun y O5 ⟨e5, py⟩ => ?_
      rw [e5, e, updO_same, updO_updO]
      refine ⟨rfl, Nat.lt_of_lt_of_le (m := 100000) (by omega) (by decide), rfl, by simp; omega, hlt, fun z hz => ?_⟩
      rcases List.mem_append.mp hz with hz | hz
      · exact ea z hz
      · rw [List.mem_singleton.mp hz]
        exact py
  · subst e
    rcases hd acc el ea with q | q
    · exact .inr (by rw [delO_updO np]; exact q)
    · exact .inl (q p np)
end
/-- rows of texts -/
theorem txs_of {P : List Nat → Prop} : ∀ {ys : List D}, (∀ y ∈ ys, ∃ a, y = tx a ∧ P a) → ∃ as : List (List Nat), ys = as.map tx ∧ ∀ a ∈ as, P a
  | [], _ => ⟨[], rfl, fun a ha => nomatch ha⟩
  | y :: ys, h => by
    obtain ⟨a, e, pa⟩ := h y List.mem_cons_self
    obtain ⟨as, e2, h2⟩ := txs_of fun z hz => h z (List.mem_cons_of_mem _ hz)
    exact ⟨a :: as, by rw [e, e2]; rfl, fun b hb => by
      rcases List.mem_cons.mp hb with rfl | hb
      · exact pa
      · exact h2 b hb⟩
theorem sSort_tx {as : List (List Nat)} {O : Own} {Q : PD} (hl : as.length < 64) (h : ∀ bs : List (List Nat), bs.Perm as → sortedS (bs.map SX.S) = true → Mk (bs.map tx) O Q) : sSortS (.lst (as.map tx)) O Q := by
  refine ⟨as.map SX.S, by rw [List.map_map]; rfl, by rw [List.length_map]; exact hl, fun ys hp hs => ?_⟩
  have e : ys = (ys.map TL.tl).map SX.S := by
    rw [List.map_map]
    exact (List.map_id ys).symm.trans (List.map_congr_left fun y _ => (SX.S_tl y).symm)
  have hp2 : (ys.map TL.tl).Perm as := by
    have := hp.map TL.tl
    rwa [SX.map_S_tl] at this
  have := h (ys.map TL.tl) hp2 (by rw [← e]; exact hs)
  rw [e, List.map_map]
  exact this
end RW
namespace RW
open PySem PySem.Spec PyProof.Rows L2
theorem cutD_to {xs : List D} {i : Int} {n : Nat} (h : i = n) : cutD xs none (some i) = xs.take n := by
  subst h
  unfold cutD
  rw [HT.sIx_none, HT.sIx_nat, List.drop_zero, Nat.sub_zero]
  by_cases hn : n ≤ xs.length
  · rw [Nat.min_eq_left hn]
  · rw [Nat.min_eq_right (by omega), List.take_of_length_le (Nat.le_refl _), List.take_of_length_le (by omega)]
theorem cutD_from {xs : List D} {i : Int} {n : Nat} (h : i = n) : cutD xs (some i) none = xs.drop n := by
  subst h
  unfold cutD
  rw [HT.sIx_none, HT.sIx_nat]
  by_cases hn : n ≤ xs.length
  · rw [Nat.min_eq_left hn, List.take_of_length_le (by rw [List.length_drop]; exact Nat.le_refl _)]
  · rw [Nat.min_eq_right (by omega), List.drop_length, List.drop_of_length_le (by omega)]
    simp
theorem cutD_mid {xs : List D} {i j : Int} {m n : Nat} (h : i = m) (h2 : j = n) (hmn : m ≤ n) (hn : n ≤ xs.length) : cutD xs (some i) (some j) = (xs.drop m).take (n - m) := by
  subst h; subst h2
  unfold cutD
  rw [HT.sIx_nat, HT.sIx_nat, Nat.min_eq_left hn, Nat.min_eq_left (by omega)]
end RW
namespace RW
open PySem PySem.Spec PyProof.Rows L2
section
variable {X : Cx} {E : ExP} {Γ : Env'} {O : Own} {e : Expr} {pos : Pos} {Q : PD}
/-- a.join(xs), texts -/
theorem w_joinX {o : Expr} {apos : Pos} (h : WE X E o Γ O fun x O1 => ∃ a, x = tx a ∧ WE X E e Γ O1 fun d O2 => ∃ ys : List (List Nat), asS O2 d = some (ys.map tx) ∧ (ys.map List.length).sum + ys.length * a.length ≤ 16777216 ∧ Q (tx (TL.joinL a ys)) O2)
    (hs : starEach [e] X.env = [(false, eval e X.env)] := by rfl) (hbase : attributeBase o "join" X.env (eval o X.env) = eval o X.env := by rfl) (hline : (apos.endLine == pos.line) = true := by rfl) : WE X E (.Call (.Attribute o "join" apos) [e] [] pos) Γ O Q :=
  w_join (h.mono fun x O1 ⟨a, e1, h1⟩ => ⟨SX.S a, e1, h1.mono fun d O2 ⟨ys, e2, hl, q⟩ => ⟨ys.map SX.S, by rw [e2, List.map_map]; rfl, by rw [SX.lens, List.length_map, SX.S_len]; exact hl, by rw [SX.join_S]; exact q⟩⟩) hs hbase hline
end
end RW

/-! RW: gates for the steps: each lets one form of goal through. -/
namespace RW
open PySem PySem.Spec PyProof.Rows L2
section
variable {α : Type} {a0 a1 a2 a3 a4 a5 a6 a7 a8 a9 a10 a11 a12 a13 a14 a15 a16 a17 a18 a19 a20 a21 a22 a23 a24 a25 : α} {l : List α}
theorem ix0 : (a0 :: l)[0]? = some a0 := rfl
theorem ix1 : (a0 :: a1 :: l)[1]? = some a1 := rfl
theorem ix2 : (a0 :: a1 :: a2 :: l)[2]? = some a2 := rfl
theorem ix3 : (a0 :: a1 :: a2 :: a3 :: l)[3]? = some a3 := rfl
theorem ix4 : (a0 :: a1 :: a2 :: a3 :: a4 :: l)[4]? = some a4 := rfl
theorem ix5 : (a0 :: a1 :: a2 :: a3 :: a4 :: a5 :: l)[5]? = some a5 := rfl
theorem ix6 : (a0 :: a1 :: a2 :: a3 :: a4 :: a5 :: a6 :: l)[6]? = some a6 := rfl
theorem ix7 : (a0 :: a1 :: a2 :: a3 :: a4 :: a5 :: a6 :: a7 :: l)[7]? = some a7 := rfl
theorem ix8 : (a0 :: a1 :: a2 :: a3 :: a4 :: a5 :: a6 :: a7 :: a8 :: l)[8]? = some a8 := rfl
theorem ix9 : (a0 :: a1 :: a2 :: a3 :: a4 :: a5 :: a6 :: a7 :: a8 :: a9 :: l)[9]? = some a9 := rfl
theorem ix10 : (a0 :: a1 :: a2 :: a3 :: a4 :: a5 :: a6 :: a7 :: a8 :: a9 :: a10 :: l)[10]? = some a10 := rfl
theorem ix11 : (a0 :: a1 :: a2 :: a3 :: a4 :: a5 :: a6 :: a7 :: a8 :: a9 :: a10 :: a11 :: l)[11]? = some a11 := rfl
theorem ix12 : (a0 :: a1 :: a2 :: a3 :: a4 :: a5 :: a6 :: a7 :: a8 :: a9 :: a10 :: a11 :: a12 :: l)[12]? = some a12 := rfl
theorem ix13 : (a0 :: a1 :: a2 :: a3 :: a4 :: a5 :: a6 :: a7 :: a8 :: a9 :: a10 :: a11 :: a12 :: a13 :: l)[13]? = some a13 := rfl
theorem ix14 : (a0 :: a1 :: a2 :: a3 :: a4 :: a5 :: a6 :: a7 :: a8 :: a9 :: a10 :: a11 :: a12 :: a13 :: a14 :: l)[14]? = some a14 := rfl
theorem ix15 : (a0 :: a1 :: a2 :: a3 :: a4 :: a5 :: a6 :: a7 :: a8 :: a9 :: a10 :: a11 :: a12 :: a13 :: a14 :: a15 :: l)[15]? = some a15 := rfl
theorem ix16 : (a0 :: a1 :: a2 :: a3 :: a4 :: a5 :: a6 :: a7 :: a8 :: a9 :: a10 :: a11 :: a12 :: a13 :: a14 :: a15 :: a16 :: l)[16]? = some a16 := rfl
theorem ix17 : (a0 :: a1 :: a2 :: a3 :: a4 :: a5 :: a6 :: a7 :: a8 :: a9 :: a10 :: a11 :: a12 :: a13 :: a14 :: a15 :: a16 :: a17 :: l)[17]? = some a17 := rfl
theorem ix18 : (a0 :: a1 :: a2 :: a3 :: a4 :: a5 :: a6 :: a7 :: a8 :: a9 :: a10 :: a11 :: a12 :: a13 :: a14 :: a15 :: a16 :: a17 :: a18 :: l)[18]? = some a18 := rfl
theorem ix19 : (a0 :: a1 :: a2 :: a3 :: a4 :: a5 :: a6 :: a7 :: a8 :: a9 :: a10 :: a11 :: a12 :: a13 :: a14 :: a15 :: a16 :: a17 :: a18 :: a19 :: l)[19]? = some a19 := rfl
theorem ix20 : (a0 :: a1 :: a2 :: a3 :: a4 :: a5 :: a6 :: a7 :: a8 :: a9 :: a10 :: a11 :: a12 :: a13 :: a14 :: a15 :: a16 :: a17 :: a18 :: a19 :: a20 :: l)[20]? = some a20 := rfl
theorem ix21 : (a0 :: a1 :: a2 :: a3 :: a4 :: a5 :: a6 :: a7 :: a8 :: a9 :: a10 :: a11 :: a12 :: a13 :: a14 :: a15 :: a16 :: a17 :: a18 :: a19 :: a20 :: a21 :: l)[21]? = some a21 := rfl
theorem ix22 : (a0 :: a1 :: a2 :: a3 :: a4 :: a5 :: a6 :: a7 :: a8 :: a9 :: a10 :: a11 :: a12 :: a13 :: a14 :: a15 :: a16 :: a17 :: a18 :: a19 :: a20 :: a21 :: a22 :: l)[22]? = some a22 := rfl
theorem ix23 : (a0 :: a1 :: a2 :: a3 :: a4 :: a5 :: a6 :: a7 :: a8 :: a9 :: a10 :: a11 :: a12 :: a13 :: a14 :: a15 :: a16 :: a17 :: a18 :: a19 :: a20 :: a21 :: a22 :: a23 :: l)[23]? = some a23 := rfl
theorem ix24 : (a0 :: a1 :: a2 :: a3 :: a4 :: a5 :: a6 :: a7 :: a8 :: a9 :: a10 :: a11 :: a12 :: a13 :: a14 :: a15 :: a16 :: a17 :: a18 :: a19 :: a20 :: a21 :: a22 :: a23 :: a24 :: l)[24]? = some a24 := rfl
theorem ix25 : (a0 :: a1 :: a2 :: a3 :: a4 :: a5 :: a6 :: a7 :: a8 :: a9 :: a10 :: a11 :: a12 :: a13 :: a14 :: a15 :: a16 :: a17 :: a18 :: a19 :: a20 :: a21 :: a22 :: a23 :: a24 :: a25 :: l)[25]? = some a25 := rfl
end
section
variable {X : Cx} {E : ExP} {Γ : Env'} {O : Own} {e a b : Expr} {es : List Expr} {Q : PD} {pos : Pos} {QA : List D → Own → Prop} {QT : Bool → Own → Prop}
theorem w_vn {N : List Str} {x : Str} {d : D} {i : Nat} (nd : N.Nodup) (hi : N[i]? = some x) (hd : Γ[i]? = some (some d)) (hx : X.N = N) (q : Q d O) (hv : Vis X.env.scope x)
    (h1 : (x == ("__debug__" : Str)) = false := by decide) (h2 : (x == ("__classdict__" : Str)) = false := by decide) : WE X E (.Name x pos) Γ O Q := w_var i hd q (by rw [hx]; exact hi) hv h1 h2
theorem g_we (h : WE X E e Γ O Q) : WE X E e Γ O Q := h
theorem g_wa (h : WA X E es Γ O QA) : WA X E es Γ O QA := h
theorem g_wt (h : WT X E e Γ O QT) : WT X E e Γ O QT := h
theorem g_ww (h : WW X E e Γ O QT) : WW X E e Γ O QT := h
theorem g_name {x : Str} (h : WE X E (.Name x pos) Γ O Q) : WE X E (.Name x pos) Γ O Q := h
theorem g_const {c : Const} {j : Nat} (h : WE X E (.Constant c j pos) Γ O Q) : WE X E (.Constant c j pos) Γ O Q := h
theorem g_bin {op : Operator} (h : WE X E (.BinOp a op b pos) Γ O Q) : WE X E (.BinOp a op b pos) Γ O Q := h
theorem g_sub (h : WE X E (.Subscript a b pos) Γ O Q) : WE X E (.Subscript a b pos) Γ O Q := h
theorem g_cmp {ops : List CmpOp} (h : WE X E (.Compare a ops es pos) Γ O Q) : WE X E (.Compare a ops es pos) Γ O Q := h
theorem g_call {ks : List Keyword} (h : WE X E (.Call a es ks pos) Γ O Q) : WE X E (.Call a es ks pos) Γ O Q := h
theorem g_len {p : Pos} (h : WE X E (.Call (.Name "len" p) es [] pos) Γ O Q) : WE X E (.Call (.Name "len" p) es [] pos) Γ O Q := h
theorem g_lst (h : WE X E (.List es pos) Γ O Q) : WE X E (.List es pos) Γ O Q := h
theorem g_tup {k : Nat} (h : WE X E (.Tuple es k pos) Γ O Q) : WE X E (.Tuple es k pos) Γ O Q := h
theorem g_un {op : UnaryOp} (h : WE X E (.UnaryOp op e pos) Γ O Q) : WE X E (.UnaryOp op e pos) Γ O Q := h
theorem g_if {k : Bool} {A B : Prop} (h : if k = true then A else B) : if k = true then A else B := h
theorem gt_cmp {ops : List CmpOp} (h : WT X E (.Compare a ops es pos) Γ O QT) : WT X E (.Compare a ops es pos) Γ O QT := h
theorem gt_not (h : WT X E (.UnaryOp .Not e pos) Γ O QT) : WT X E (.UnaryOp .Not e pos) Γ O QT := h
theorem gt_bo {op : BoolOp} (h : WT X E (.BoolOp op es pos) Γ O QT) : WT X E (.BoolOp op es pos) Γ O QT := h
end

section
variable {X : Cx} {E : ExP} {Γ : Env'} {O : Own} {e a b : Expr} {es : List Expr} {Q : PD} {pos : Pos} {De : EndsD} {st : Stmt} {rest : List Stmt}
/-! statements, the slot found by the names' row -/
theorem ws_setn {N : List Str} {x : Str} {pos' : Pos} {i : Nat} (nd : N.Nodup) (hi : N[i]? = some x) (hx : X.N = N) (h : WE X E e Γ O fun d O' => De.nx (Γ.set i (some d)) O') (hv : Loc X.env.scope x)
    (hs : swapsWith e (some (.Name x pos')) pos.line X.env = pure false := by rfl) (hf : X.fn x = true ∨ X.env.scope.names.lookup x = some .local := by first | exact .inl rfl | exact .inr rfl) : WS X E (.Assign [.Name x pos'] e pos) Γ O De :=
  ws_set i (by rw [hx]; exact nd) h (by rw [hx]; exact hi) hv hs hf
theorem ws_augn {N : List Str} {x : Str} {pos' : Pos} {i : Nat} {n : Int} (nd : N.Nodup) (hi : N[i]? = some x) (hd : Γ[i]? = some (some (.int n))) (hx : X.N = N) (h : WE X E e Γ O fun d O' => ∃ m, d = .int m ∧ De.nx (Γ.set i (some (.int (n + m)))) O') (hv : Loc X.env.scope x)
    (hf : X.fn x = true ∨ X.env.scope.names.lookup x = some .local := by first | exact .inl rfl | exact .inr rfl) : WS X E (.AugAssign (.Name x pos') .Add e pos) Γ O De :=
  ws_augAdd i (by rw [hx]; exact nd) hd h (by rw [hx]; exact hi) hv hf
theorem ws_augSubn {N : List Str} {x : Str} {pos' : Pos} {i : Nat} {n : Int} (nd : N.Nodup) (hi : N[i]? = some x) (hd : Γ[i]? = some (some (.int n))) (hx : X.N = N) (h : WE X E e Γ O fun d O' => ∃ m, d = .int m ∧ De.nx (Γ.set i (some (.int (n - m)))) O') (hv : Loc X.env.scope x)
    (hf : X.fn x = true ∨ X.env.scope.names.lookup x = some .local := by first | exact .inl rfl | exact .inr rfl) : WS X E (.AugAssign (.Name x pos') .Sub e pos) Γ O De :=
  ws_augI i ip_sub (by rw [hx]; exact nd) hd h (by rw [hx]; exact hi) hv hf
theorem wg_namen {N : List Str} {x : Str} {d : D} {i : Nat} {Q : Env' → Own → Prop} (nd : N.Nodup) (hi : N[i]? = some x) (hx : X.N = N) (h : Q (Γ.set i (some d)) O) (hv : Loc X.env.scope x)
    (hf : X.fn x = true ∨ X.env.scope.names.lookup x = some .local := by first | exact .inl rfl | exact .inr rfl) : WG X E (.Name x pos) d Γ O Q :=
  wg_name i (by rw [hx]; exact nd) h (by rw [hx]; exact hi) hv hf
/-- an owned list is handed back: as it is, or fixed -/
theorem ws_retO {N : List Str} {x : Str} {pos' : Pos} {i : Nat} {p : Addr} {ds : List D} (nd : N.Nodup) (hi : N[i]? = some x) (hd : Γ[i]? = some (some (.obj p))) (hO : O p = some (.lst ds)) (hx : X.N = N) (h : EndL p ds O De.rt) (hv : Vis X.env.scope x)
    (h1 : (x == ("__debug__" : Str)) = false := by decide) (h2 : (x == ("__classdict__" : Str)) = false := by decide) : WS X E (.Return (some (.Name x pos')) pos) Γ O De := by
  rcases h with h | h
  · exact ws_ret (w_vn nd hi hd hx h hv h1 h2)
  · exact ws_ret (.fixed (w_vn nd hi hd hx ⟨p, ds, rfl, hO, h⟩ hv h1 h2))
theorem EndL.of {p : Addr} {ds : List D} {O0 : Own} {c : OC} (n : O0 p = none) (h : Mk ds O0 Q) (e : O = updO O0 p (.lst ds)) : EndL p ds O Q := by
  subst e
  rcases h with h | h
  · exact .inr (by rw [delO_updO n]; exact h)
  · exact .inl (h p n)
theorem endL {p : Addr} {ds : List D} {O0 : Own} (n : O0 p = none) (h : Mk ds O0 Q) : EndL p ds (updO O0 p (.lst ds)) Q := EndL.of (c := .lst []) n h rfl
/-! isinstance by the written class -/
theorem isi_int {p p1 : Pos} (hm : X.mg "isinstance" = none) (hmT : X.mg "int" = none) (h : WE X E e Γ O fun d O1 => ∃ n k, tyO O1 d = some n ∧ kitB n "int" = some k ∧ Q (.bl k) O1) (hg : Gl X "isinstance" := by rfl) (hgT : Gl X "int" := by rfl)
    (he : starEach [e, .Name "int" p1] X.env = (false, eval e X.env) :: starEach [.Name "int" p1] X.env := by rfl) : WE X E (.Call (.Name "isinstance" p) [e, .Name "int" p1] [] pos) Γ O Q := w_isi (c := "int") hm hmT (by decide +kernel) h hg hgT (he := he)
theorem isi_bool {p p1 : Pos} (hm : X.mg "isinstance" = none) (hmT : X.mg "bool" = none) (h : WE X E e Γ O fun d O1 => ∃ n k, tyO O1 d = some n ∧ kitB n "bool" = some k ∧ Q (.bl k) O1) (hg : Gl X "isinstance" := by rfl) (hgT : Gl X "bool" := by rfl)
    (he : starEach [e, .Name "bool" p1] X.env = (false, eval e X.env) :: starEach [.Name "bool" p1] X.env := by rfl) : WE X E (.Call (.Name "isinstance" p) [e, .Name "bool" p1] [] pos) Γ O Q := w_isi (c := "bool") hm hmT (by decide +kernel) h hg hgT (he := he)
theorem isi_list {p p1 : Pos} (hm : X.mg "isinstance" = none) (hmT : X.mg "list" = none) (h : WE X E e Γ O fun d O1 => ∃ n k, tyO O1 d = some n ∧ kitB n "list" = some k ∧ Q (.bl k) O1) (hg : Gl X "isinstance" := by rfl) (hgT : Gl X "list" := by rfl)
    (he : starEach [e, .Name "list" p1] X.env = (false, eval e X.env) :: starEach [.Name "list" p1] X.env := by rfl) : WE X E (.Call (.Name "isinstance" p) [e, .Name "list" p1] [] pos) Γ O Q := w_isi (c := "list") hm hmT (by decide +kernel) h hg hgT (he := he)
theorem isi_tuple {p p1 : Pos} (hm : X.mg "isinstance" = none) (hmT : X.mg "tuple" = none) (h : WE X E e Γ O fun d O1 => ∃ n k, tyO O1 d = some n ∧ kitB n "tuple" = some k ∧ Q (.bl k) O1) (hg : Gl X "isinstance" := by rfl) (hgT : Gl X "tuple" := by rfl)
    (he : starEach [e, .Name "tuple" p1] X.env = (false, eval e X.env) :: starEach [.Name "tuple" p1] X.env := by rfl) : WE X E (.Call (.Name "isinstance" p) [e, .Name "tuple" p1] [] pos) Γ O Q := w_isi (c := "tuple") hm hmT (by decide +kernel) h hg hgT (he := he)
theorem isi_dict {p p1 : Pos} (hm : X.mg "isinstance" = none) (hmT : X.mg "dict" = none) (h : WE X E e Γ O fun d O1 => ∃ n k, tyO O1 d = some n ∧ kitB n "dict" = some k ∧ Q (.bl k) O1) (hg : Gl X "isinstance" := by rfl) (hgT : Gl X "dict" := by rfl)
    (he : starEach [e, .Name "dict" p1] X.env = (false, eval e X.env) :: starEach [.Name "dict" p1] X.env := by rfl) : WE X E (.Call (.Name "isinstance" p) [e, .Name "dict" p1] [] pos) Γ O Q := w_isi (c := "dict") hm hmT (by decide +kernel) h hg hgT (he := he)
theorem isi_is {p p1 p2 p3 : Pos} {kk : Nat} (hm : X.mg "isinstance" = none) (hmT : X.mg "int" = none) (hmU : X.mg "str" = none) (h : WE X E e Γ O fun d O1 => ∃ n k1 k2, tyO O1 d = some n ∧ kitB n "int" = some k1 ∧ kitB n "str" = some k2 ∧ Q (.bl (k1 || k2)) O1) (hg : Gl X "isinstance" := by rfl) (hgT : Gl X "int" := by rfl) (hgU : Gl X "str" := by rfl)
    (he : starEach [e, .Tuple [.Name "int" p1, .Name "str" p2] kk p3] X.env = (false, eval e X.env) :: starEach [.Tuple [.Name "int" p1, .Name "str" p2] kk p3] X.env := by rfl) : WE X E (.Call (.Name "isinstance" p) [e, .Tuple [.Name "int" p1, .Name "str" p2] kk p3] [] pos) Γ O Q := w_isi2 (c := "int") (u := "str") hm hmT hmU (by decide +kernel) (by decide +kernel) h hg hgT hgU (he := he)
/-! the kit's classes -/
class KitB (n c : String) (k : outParam Bool) : Prop where
  eq : kitB n c = some k
instance : KitB "NoneType" "int" false := ⟨by decide +kernel⟩
instance : KitB "NoneType" "bool" false := ⟨by decide +kernel⟩
instance : KitB "NoneType" "str" false := ⟨by decide +kernel⟩
instance : KitB "NoneType" "list" false := ⟨by decide +kernel⟩
instance : KitB "NoneType" "tuple" false := ⟨by decide +kernel⟩
instance : KitB "NoneType" "dict" false := ⟨by decide +kernel⟩
instance : KitB "bool" "int" true := ⟨by decide +kernel⟩
instance : KitB "bool" "bool" true := ⟨by decide +kernel⟩
instance : KitB "bool" "str" false := ⟨by decide +kernel⟩
instance : KitB "bool" "list" false := ⟨by decide +kernel⟩
instance : KitB "bool" "tuple" false := ⟨by decide +kernel⟩
instance : KitB "bool" "dict" false := ⟨by decide +kernel⟩
instance : KitB "int" "int" true := ⟨by decide +kernel⟩
instance : KitB "int" "bool" false := ⟨by decide +kernel⟩
instance : KitB "int" "str" false := ⟨by decide +kernel⟩
instance : KitB "int" "list" false := ⟨by decide +kernel⟩
instance : KitB "int" "tuple" false := ⟨by decide +kernel⟩
instance : KitB "int" "dict" false := ⟨by decide +kernel⟩
instance : KitB "str" "int" false := ⟨by decide +kernel⟩
instance : KitB "str" "bool" false := ⟨by decide +kernel⟩
instance : KitB "str" "str" true := ⟨by decide +kernel⟩
instance : KitB "str" "list" false := ⟨by decide +kernel⟩
instance : KitB "str" "tuple" false := ⟨by decide +kernel⟩
instance : KitB "str" "dict" false := ⟨by decide +kernel⟩
instance : KitB "list" "int" false := ⟨by decide +kernel⟩
instance : KitB "list" "bool" false := ⟨by decide +kernel⟩
instance : KitB "list" "str" false := ⟨by decide +kernel⟩
instance : KitB "list" "list" true := ⟨by decide +kernel⟩
instance : KitB "list" "tuple" false := ⟨by decide +kernel⟩
instance : KitB "list" "dict" false := ⟨by decide +kernel⟩
instance : KitB "tuple" "int" false := ⟨by decide +kernel⟩
instance : KitB "tuple" "bool" false := ⟨by decide +kernel⟩
instance : KitB "tuple" "str" false := ⟨by decide +kernel⟩
instance : KitB "tuple" "list" false := ⟨by decide +kernel⟩
instance : KitB "tuple" "tuple" true := ⟨by decide +kernel⟩
instance : KitB "tuple" "dict" false := ⟨by decide +kernel⟩
instance : KitB "dict" "int" false := ⟨by decide +kernel⟩
instance : KitB "dict" "bool" false := ⟨by decide +kernel⟩
instance : KitB "dict" "str" false := ⟨by decide +kernel⟩
instance : KitB "dict" "list" false := ⟨by decide +kernel⟩
instance : KitB "dict" "tuple" false := ⟨by decide +kernel⟩
instance : KitB "dict" "dict" true := ⟨by decide +kernel⟩
theorem isiE {O : Own} {d : D} {n c : String} {k : Bool} {B : Bool → Prop} (h1 : tyO O d = some n) [i : KitB n c k] (q : B k) : ∃ n k, tyO O d = some n ∧ kitB n c = some k ∧ B k := ⟨n, k, h1, i.eq, q⟩
theorem isiE2 {O : Own} {d : D} {n c c2 : String} {k k2 : Bool} {B : Bool → Bool → Prop} (h1 : tyO O d = some n) [i : KitB n c k] [j : KitB n c2 k2] (q : B k k2) : ∃ n k k2, tyO O d = some n ∧ kitB n c = some k ∧ kitB n c2 = some k2 ∧ B k k2 := ⟨n, k, k2, h1, i.eq, j.eq, q⟩
/-! gates -/
theorem g_ssl {d : D} {lo hi : Option Int} (h : sSl d lo hi O Q) : sSl d lo hi O Q := h
theorem g_ws (h : WS X E st Γ O De) : WS X E st Γ O De := h
theorem g_wg {d : D} {QG : Env' → Own → Prop} (h : WG X E e d Γ O QG) : WG X E e d Γ O QG := h
theorem g_wgs {ds : List D} {QG : Env' → Own → Prop} (h : WGs X E es ds Γ O QG) : WGs X E es ds Γ O QG := h
theorem g_wss {sts : List Stmt} (h : WSs X E sts Γ O De) : WSs X E sts Γ O De := h
theorem g_and (h : WE X E (.BoolOp .And (a :: b :: es) pos) Γ O Q) : WE X E (.BoolOp .And (a :: b :: es) pos) Γ O Q := h
theorem g_or (h : WE X E (.BoolOp .Or (a :: b :: es) pos) Γ O Q) : WE X E (.BoolOp .Or (a :: b :: es) pos) Γ O Q := h
theorem g_bo1 {op : BoolOp} (h : WE X E (.BoolOp op [a] pos) Γ O Q) : WE X E (.BoolOp op [a] pos) Γ O Q := h
theorem g_ite {c : Expr} (h : WE X E (.IfExp c a b pos) Γ O Q) : WE X E (.IfExp c a b pos) Γ O Q := h
theorem g_sl {lo hi : Option Expr} {p2 : Pos} (h : WE X E (.Subscript e (.Slice lo hi none p2) pos) Γ O Q) : WE X E (.Subscript e (.Slice lo hi none p2) pos) Γ O Q := h
theorem g_not (h : WE X E (.UnaryOp .Not e pos) Γ O Q) : WE X E (.UnaryOp .Not e pos) Γ O Q := h
theorem g_callN {x : Str} {p : Pos} (h : WE X E (.Call (.Name x p) es [] pos) Γ O Q) : WE X E (.Call (.Name x p) es [] pos) Γ O Q := h
theorem g_callA {x : Str} {p : Pos} (h : WE X E (.Call (.Attribute a x p) es [] pos) Γ O Q) : WE X E (.Call (.Attribute a x p) es [] pos) Γ O Q := h
theorem g_isi {p : Pos} (h : WE X E (.Call (.Name "isinstance" p) es [] pos) Γ O Q) : WE X E (.Call (.Name "isinstance" p) es [] pos) Γ O Q := h
theorem g_wo {o : Option Expr} {QO : Option Int → Own → Prop} (h : WO X E o Γ O QO) : WO X E o Γ O QO := h
theorem g_won {QO : Option Int → Own → Prop} (h : WO X E none Γ O QO) : WO X E none Γ O QO := h
theorem gt_call {ks : List Keyword} {QT : Bool → Own → Prop} (h : WT X E (.Call a es ks pos) Γ O QT) : WT X E (.Call a es ks pos) Γ O QT := h
theorem gl_set {x : Str} {p : Pos} (h : WSs X E (.Assign [.Name x p] e pos :: rest) Γ O De) : WSs X E (.Assign [.Name x p] e pos :: rest) Γ O De := h
theorem gl_ret {e : Option Expr} (h : WSs X E (.Return e pos :: rest) Γ O De) : WSs X E (.Return e pos :: rest) Γ O De := h
theorem gl_expr (h : WSs X E (.Expr e pos :: rest) Γ O De) : WSs X E (.Expr e pos :: rest) Γ O De := h
theorem gl_if {sa sb : List Stmt} (h : WSs X E (.If e sa sb pos :: rest) Γ O De) : WSs X E (.If e sa sb pos :: rest) Γ O De := h
theorem gl_if1 {sa sb : List Stmt} (h : WSs X E [.If e sa sb pos] Γ O De) : WSs X E [.If e sa sb pos] Γ O De := h
theorem gl_aug {x : Str} {p : Pos} {op : Operator} (h : WSs X E (.AugAssign (.Name x p) op e pos :: rest) Γ O De) : WSs X E (.AugAssign (.Name x p) op e pos :: rest) Γ O De := h
theorem gl_brk (h : WSs X E (.Break pos :: rest) Γ O De) : WSs X E (.Break pos :: rest) Γ O De := h
theorem gl_cnt (h : WSs X E (.Continue pos :: rest) Γ O De) : WSs X E (.Continue pos :: rest) Γ O De := h
theorem g_s0 (h : WSs X E [] Γ O De) : WSs X E [] Γ O De := h
theorem g_s1 (h : WSs X E [st] Γ O De) : WSs X E [st] Γ O De := h
theorem g_s2 (h : WSs X E (st :: rest) Γ O De) : WSs X E (st :: rest) Γ O De := h
theorem g_body {st : Stmt} (h : WSs X E (defBody st) Γ O De) : WSs X E (defBody st) Γ O De := h
theorem gs_set {x : Str} {p : Pos} (h : WS X E (.Assign [.Name x p] e pos) Γ O De) : WS X E (.Assign [.Name x p] e pos) Γ O De := h
theorem gs_ret (h : WS X E (.Return (some e) pos) Γ O De) : WS X E (.Return (some e) pos) Γ O De := h
theorem gs_retNm {x : Str} {p : Pos} (h : WS X E (.Return (some (.Name x p)) pos) Γ O De) : WS X E (.Return (some (.Name x p)) pos) Γ O De := h
theorem gs_expr (h : WS X E (.Expr e pos) Γ O De) : WS X E (.Expr e pos) Γ O De := h
theorem gs_if {sa sb : List Stmt} (h : WS X E (.If e sa sb pos) Γ O De) : WS X E (.If e sa sb pos) Γ O De := h
theorem gs_aug {x : Str} {p : Pos} {op : Operator} (h : WS X E (.AugAssign (.Name x p) op e pos) Γ O De) : WS X E (.AugAssign (.Name x p) op e pos) Γ O De := h
theorem gs_break (h : WS X E (.Break pos) Γ O De) : WS X E (.Break pos) Γ O De := h
theorem gs_cont (h : WS X E (.Continue pos) Γ O De) : WS X E (.Continue pos) Γ O De := h
theorem gs_for {tg it : Expr} {body oe : List Stmt} (h : WS X E (.For tg it body oe pos) Γ O De) : WS X E (.For tg it body oe pos) Γ O De := h
theorem gg_name {x : Str} {d : D} {QG : Env' → Own → Prop} (h : WG X E (.Name x pos) d Γ O QG) : WG X E (.Name x pos) d Γ O QG := h
theorem gg_tup {ts : List Expr} {k : Nat} {ds : List D} {QG : Env' → Own → Prop} (h : WG X E (.Tuple ts k pos) (.tup ds) Γ O QG) : WG X E (.Tuple ts k pos) (.tup ds) Γ O QG := h
theorem gg_pr {ts : List Expr} {k : Nat} {ds : List D} {QG : Env' → Own → Prop} (h : WG X E (.Tuple ts k pos) (.pr ds) Γ O QG) : WG X E (.Tuple ts k pos) (.pr ds) Γ O QG := h
theorem gg_nil {ds : List D} {QG : Env' → Own → Prop} (h : WGs X E [] ds Γ O QG) : WGs X E [] ds Γ O QG := h
theorem gg_cons {ds : List D} {QG : Env' → Own → Prop} (h : WGs X E (a :: es) ds Γ O QG) : WGs X E (a :: es) ds Γ O QG := h
end
end RW

/-! RW: exceptions: except clauses of any form (one class or a tuple of them, with a name or without), own classes. -/
namespace RW
section
open PySem PySem.Spec PySem.Calls PyProof.Rows PySem.W
variable {M : Model} {K : Frag}
theorem loop_exc {h : Heap} {A : Around} {E : Value → Shared → Prop} {g : Array GenState} {d : Drawn} {tk : Nat} {os : OsState} {f : Value → PUnit → Sem (ForInStep PUnit)} (hf : ∀ c x, f c x = (do
    let y ← isExcClass c
    if (!y) = true then do
        rule "try.except-non-exception-class"
        raiseErrorWords "TypeError" "catching classes that do not inherit from BaseException is not allowed"
        pure (ForInStep.yield PUnit.unit)
      else pure (ForInStep.yield PUnit.unit))) : ∀ {cs : List Value} {Q : PUnit → Shared → Prop}, (∀ c ∈ cs, Looks M h (isExcClass c) true) → Q PUnit.unit ⟨h, g, d, tk, os⟩ → wpAny M A (forIn cs PUnit.unit f) Q E ⟨h, g, d, tk, os⟩
  | [], Q, _, q => by
    rw [List.forIn_nil]
    exact wpAny_pure q
  | c :: cs, Q, hc, q => by
    rw [List.forIn_cons, hf]
    refine wpAny_bind (wpAny_bind ((hc c List.mem_cons_self).at ?_))
    rw [if_neg (by decide)]
    refine wpAny_pure ?_
    exact loop_exc hf (fun c' h' => hc c' (List.mem_cons_of_mem _ h')) q
theorem loop_sub {h : Heap} {A : Around} {E : Value → Shared → Prop} {g : Array GenState} {d : Drawn} {tk : Nat} {os : OsState} {cls : Value} {f : Value → Option Bool × Unit → Sem (ForInStep (Option Bool × Unit))} (hf : ∀ c x, f c x = (do
    let y ← isSubtype cls c
    if y = true then pure (ForInStep.done (some true, ())) else pure (ForInStep.yield (none, ())))) (X : K.In h) : ∀ {cs : List Value} {b : Bool} {Q : Option Bool × Unit → Shared → Prop}, exmAny K cls cs = some b → Q (if b then some true else none, ()) ⟨h, g, d, tk, os⟩ → wpAny M A (forIn cs (none, ()) f) Q E ⟨h, g, d, tk, os⟩
  | [], b, Q, e, q => by
    rw [List.forIn_nil]
    cases (show some false = some b from e)
    exact wpAny_pure q
  | c :: cs, b, Q, e, q => by
    obtain ⟨b1, d1, x1, y1, z1⟩ := exmAny_cons e
    obtain ⟨_, S1⟩ := exm_cls (M := M) X x1
    rw [List.forIn_cons, hf]
    refine wpAny_bind (wpAny_bind (S1.at ?_))
    cases b1 with
    | true =>
      rw [if_pos rfl]
      refine wpAny_pure (wpAny_pure ?_)
      subst z1
      exact q
    | false =>
      rw [if_neg Bool.false_ne_true]
      refine wpAny_pure ?_
      subst z1
      exact loop_sub hf X y1 q
theorem exm_alls {cls : Value} {h : Heap} (X : K.In h) : ∀ {cs : List Value} {b : Bool}, exmAny K cls cs = some b → ∀ c ∈ cs, Looks M h (isExcClass c) true
  | [], _, _, _, hc => nomatch hc
  | c :: cs, b, e, c', hc => by
    obtain ⟨b1, d1, x1, y1, z1⟩ := exmAny_cons e
    rcases List.mem_cons.mp hc with rfl | hc
    · exact (exm_cls (M := M) X x1).1
    · exact exm_alls X y1 c' hc
theorem exm_tupN {cs : List Value} {cls : Value} {tp e : Addr} {b : Bool} {h : Heap} (X : K.In h) (LT : Looks M h (typeOf (.ref e)) cls) (hp : h.get? tp = some { cls := .type "tuple", data := .seq cs.toArray }) (hx : exmAny K cls cs = some b) :
    Looks M h (excMatches (.ref e) (.ref tp)) b := by
  intro A Q E s k₀ q
  obtain ⟨hh, g, d, tk, os⟩ := s
  have k : ∀ b o, h.get? b = some o → hh.get? b = some o := k₀
  have LT0 : Looks M h (isInstance (.ref tp) (.type "tuple")) true := ((Looks.ld hp).andThen .now).andThen (Looks.of_pure isSubtype_tuple_tuple)
  have LT := LT.keeps k
  have LT0 := LT0.keeps k
  have hp' := k _ _ hp
  unfold excMatches
  refine wpAny_bind (LT0.at ?_)
  dsimp only
  rw [if_pos rfl]
  first
    | refine wpAny_bind (wpAny_seqItems hp' rfl ?_)
    | refine wpAny_bind (wpAny_bind (wpAny_seqItems hp' rfl (wpAny_pure ?_)))
  dsimp only [Option.getD_some, Option.getD]
  have X' : K.In hh := X.keeps k
  refine wpAny_bind (wpAny_pure (wpAny_bind (loop_exc (fun _ _ => rfl) (exm_alls X' hx) (wpAny_bind (LT.at (wpAny_bind (loop_sub (fun _ _ => rfl) X' hx ?_)))))))
  cases b
  · exact wpAny_pure q
  · exact wpAny_pure q
end
open PySem PySem.Spec PyProof.Rows L2
/-- what an except clause asks by its class or classes -/
inductive NamesL (X : Cx) : List Expr → List Value → Prop
  | nil : NamesL X [] []
  | cons {x : Str} {np : Pos} {c : Value} {es : List Expr} {cs : List Value} (h : Names X x c) (hs : starEach (.Name x np :: es) X.env = (false, eval (.Name x np) X.env) :: starEach es X.env) (r : NamesL X es cs) : NamesL X (.Name x np :: es) (c :: cs)
inductive TstOk (X : Cx) : Expr → List Value → Prop
  | one {x : Str} {np : Pos} {c : Value} (h : Names X x c) : TstOk X (.Name x np) [c]
  | tup {es : List Expr} {cs : List Value} {k : Nat} {pos : Pos} (h : NamesL X es cs) (hl : cs.length ≤ 1000) : TstOk X (.Tuple es k pos) cs
section
variable {X : Cx} {pins : List (Addr × Obj)} {σ : L2.St} {H : Hp} {s : Shared}
theorem name_ev {E : Value → Shared → Prop} {x : Str} {np : Pos} {c : Value} {Q : Value → Shared → Prop} (hc : Names X x c) (I : Inv X pins σ H s) (q : Q c s) : wpAny (model X.prog X.w) X.A (eval (.Name x np) X.env) Q E s := by
  obtain ⟨hg, hdbg, hm | ⟨hm, hv, hnn⟩⟩ := hc
  · exact ld_glob I hg hm q hdbg
  · exact ld_blt I hg hm hv q hnn hdbg
theorem names_ev {E : Value → Shared → Prop} : ∀ {es : List Expr} {cs : List Value} {pos : Pos} {Q : List Value → Shared → Prop}, NamesL X es cs → Inv X pins σ H s → Q cs s → wpAny (model X.prog X.w) X.A (spliced (backTo pos (starEach es X.env))) Q E s
  | _, _, _, _, .nil, I, q => Calls.spliced_nil q
  | _, _, pos, _, .cons (es := es) h hs r, I, q => by
    rw [hs]
    show wpAny _ _ (spliced ((false, _) :: backTo pos (starEach es X.env))) _ _ s
    exact Calls.spliced_cons (name_ev h I (names_ev r I q))
end
theorem flyZ_keeps {B h h' : Heap} {l : List Env} {a : Addr} {Z : Obj → Prop} (x : HandSPX.FlyingZ B l a Z h) (k : ∀ b o, h.get? b = some o → h'.get? b = some o) : HandSPX.FlyingZ B l a Z h' := by
  obtain ⟨k1, k2, k3, oe, vs, T, oT, ts, he, hz, hd, h1, h2, h3, h4, h5, h6⟩ := x
  exact ⟨fun b o e => k b o (k1 b o e), k2, Heap.FunFrames.of_keeps (fun b o e _ => ⟨o, k b o e, rfl⟩) k3, oe, vs, T, oT, ts, k _ _ he, hz, hd, h1, h2, h3, k _ _ h4, h5, h6⟩
abbrev Clause := List Value × Option Nat × (Addr → Value → Option Addr → TS)
def asEnds (io : Option Nat) (De : Ends) : Ends := match io with
  | none => De
  | some i => { nx := fun σ' H' => De.nx (σ'.set i none) H', rt := De.rt, bk := fun σ' H' => De.bk (σ'.set i none) H', ct := fun σ' H' => De.ct (σ'.set i none) H' }
def asSt (io : Option Nat) (a : Addr) (σ : L2.St) : L2.St := match io with
  | none => σ
  | some i => σ.set i (some (.ref a))
/-- what the clauses wish of an exception of the body, one after the other -/
def wCl (K : PySem.W.Frag) (Wout : WX) (De : Ends) : List Clause → WX
  | [] => Wout
  | (cs, io, ts) :: r => fun cls d σ H => ∃ b, PySem.W.exmAny K cls cs = some b ∧ (b = true → ∀ a, H a = none → ts a cls d (asEnds io De) (asSt io a σ) H) ∧ (b = false → wCl K Wout De r cls d σ H)
inductive HdG (X : Cx) : List ExceptHandler → List Clause → Prop
  | nil : HdG X [] []
  | plain {t : Expr} {cs : List Value} {ts : Addr → Value → Option Addr → TS} {b₀ : Stmt} {suite : List Stmt} {pos' : Pos} {hds : List ExceptHandler} {l : List Clause} (hc : TstOk X t cs)
      (hsu : ∀ (a : Addr) (oe : Obj) (cls : Value) (d : Option Addr) (pn : List (Addr × Obj)), Zc cls d oe → (∃ vs, oe.data = .fields vs) → PSs (X.suite a ((a, oe) :: pn)) (b₀ :: suite) (ts a cls d)) (r : HdG X hds l) :
      HdG X (.ExceptHandler (some t) none (b₀ :: suite) pos' :: hds) ((cs, none, ts) :: l)
  | named {t : Expr} {cs : List Value} {n : Str} {i : Nat} {ts : Addr → Value → Option Addr → TS} {b₀ : Stmt} {suite : List Stmt} {pos' : Pos} {hds : List ExceptHandler} {l : List Clause} (hc : TstOk X t cs) (hi : X.N[i]? = some n) (hln : X.env.kindOf n = some .local)
      (hsu : ∀ (a : Addr) (oe : Obj) (cls : Value) (d : Option Addr) (pn : List (Addr × Obj)), Zc cls d oe → (∃ vs, oe.data = .fields vs) → PSs (X.suite a ((a, oe) :: pn)) (b₀ :: suite) (ts a cls d)) (r : HdG X hds l) :
      HdG X (.ExceptHandler (some t) (some n) (b₀ :: suite) pos' :: hds) ((cs, some i, ts) :: l)
section
variable {X : Cx} {body : List Stmt} {h₀ : ExceptHandler} {hds : List ExceptHandler} {l : List Clause} {pos : Pos} {tb : WX → TS} {Wout : WX}
/-- a clause's test: the exception stays in flight, the heap may have grown by the tuple of classes -/
theorem test_ok {pins : List (Addr × Obj)} {σ' : L2.St} {H' : Hp} {sI s' : Shared} {De : Ends} {B : Heap} {a : Addr} {cls : Value} {d : Option Addr} {h3 : Heap} {tk3 : Nat} {t : Expr} {cs : List Value} {b : Bool} {name : Option Str} {sbody : List Stmt} {pos' : Pos} {rest : List ExceptHandler}
    (ok : X.Ok) (J : Inv X pins σ' H' sI) (nb : ∀ b o, sI.heap.get? b = some o → b ∉ frs X.stack → B.get? b = some o) (fl3 : HandSPX.FlyingZ B (X.env :: X.outer) a (Zc cls d) h3) (up3 : sI.heap.UpToSlots h3) (os : s'.os = sI.os) (ag : AllBare s'.gens) (na : H' a = none)
    (hs : X.stack = X.env :: X.outer) (hf : X.env.frame = some X.env.locals) (hc : TstOk X t cs) (hb1 : PySem.W.exmAny X.K cls cs = some b)
    (k : ∀ h4 tk4, HandSPX.FlyingZ B (X.env :: X.outer) a (Zc cls d) h4 → sI.heap.UpToSlots h4 → if b = true then codeAny (model X.prog X.w) (X.A.mark (some (.ref a))) (.handlers (.ref a) [.ExceptHandler none name sbody pos'] X.env) (fun r s₂ => match r with
          | .ok f => (match name with
            | none => SP X pins De f s₂
            | some n => wpAny (model X.prog X.w) X.A (do bindName X.env n .none; unbindBehindTheSuite X.env n pos') (fun _ s₃ => SP X pins De f s₃) X.xe s₂)
          | .error x => cameBackBy (model X.prog X.w) X.A X.env X.xe x s₂) { s' with heap := h4, toks := tk4 } else wpAny (model X.prog X.w) X.A (handleBy (.ref a) X.env rest) (SP X pins De) X.xe { s' with heap := h4, toks := tk4 }) :
    wpAny (model X.prog X.w) X.A (handleBy (.ref a) X.env (.ExceptHandler (some t) name sbody pos' :: rest)) (SP X pins De) X.xe { s' with heap := h3, toks := tk3 } := by
  have J3 : Inv X pins σ' H' { s' with heap := h3, toks := tk3 } := J.landed nb fl3.1 up3 os ag
  obtain ⟨oe3, vs3, he3, hz3, hd3⟩ := fl3.there
  have nfr : a ∉ frs (X.env :: X.outer) := fun hm => by
    obtain ⟨_, o', e', hnf⟩ := fl3.2.2.1.mem hm
    rw [he3] at e'; cases e'
    exact hnf _ hd3
  have nL : a ≠ X.env.locals := fun z => nfr (List.mem_filterMap.mpr ⟨X.env, List.mem_cons_self, by rw [hf, z]⟩)
  have nF : a ∉ X.fs := fun hm => by
    obtain ⟨e, he, q⟩ := List.mem_filterMap.mp hm
    exact nfr (List.mem_filterMap.mpr ⟨e, List.mem_cons_of_mem _ he, q⟩)
  have S3 := J3.suite he3 hd3 na nL nF
  refine wpAny_handleBy_cons (codeAny_handlers_test ?_) (by intro q; cases q)
  have LT : ∀ hh : Heap, (∀ b o, h3.get? b = some o → hh.get? b = some o) → PySem.W.Looks (model X.prog X.w) hh (typeOf (.ref a)) cls := fun hh kk A Q E s k q => wpAny_typeOf_ref (k _ _ (kk _ _ he3)) (by rw [hz3.1]; exact q)
  cases hc with
  | @one x np c h =>
    obtain ⟨b1, d1, x1, y1, z1⟩ := PySem.W.exmAny_cons hb1
    cases (show some false = some d1 from y1)
    rw [Bool.or_false] at z1
    subst z1
    have LM := PySem.W.exm_one (M := model X.prog X.w) J3.kIn (LT h3 fun _ _ e => e) x1
    refine name_ev (X := X.suite a ((a, oe3) :: (X.pn ++ pins))) h S3 (LM.here ?_)
    have := k h3 tk3 fl3 up3
    cases b with
    | true =>
      refine codeAny_mono (by simpa using this) fun r s₂ q => ?_
      cases r with
      | ok f => cases name <;> exact q
      | error x => exact q
    | false => simpa using this
  | @tup es _ kk pt h hl =>
    have hN : NamesL (X.suite a ((a, oe3) :: (X.pn ++ pins))) es cs := by
      clear k hb1 hl
      induction h with
      | nil => exact .nil
      | cons h1 h2 r ih => exact .cons h1 h2 ih
    refine wpAny_Tuple_spliced (names_ev (X := X.suite a ((a, oe3) :: (X.pn ++ pins))) hN S3 ⟨Nat.le_trans hl (by decide), ?_⟩)
    have kp : ∀ b o, h3.get? b = some o → (h3.push { cls := .type "tuple", data := .seq cs.toArray }).get? b = some o := fun b o e => Heap.get?_push_of_some _ e
    have K4 : X.K.In (h3.push { cls := .type "tuple", data := .seq cs.toArray }) := J3.kIn.keeps kp
    have LM := exm_tupN (M := model X.prog X.w) K4 (LT _ kp) (Heap.get?_push_size _ rfl) hb1
    refine LM.here ?_
    have := k _ tk3 (flyZ_keeps fl3 kp) (up3.trans (Heap.UpToSlots.of_keeps kp))
    cases b with
    | true =>
      refine codeAny_mono (by simpa using this) fun r s₂ q => ?_
      cases r with
      | ok f => cases name <;> exact q
      | error x => exact q
    | false => simpa using this
theorem ps_try_g (hs : X.stack = X.env :: X.outer) (hf : X.env.frame = some X.env.locals) (hN : X.N.Nodup) (tk : Takes X Wout)
    (hb : ∀ (W : WX) (pn : List (Addr × Obj)) (xe : Value → Shared → Prop), Takes (X.tr pn xe) W → PassesOwn (model X.prog X.w) X.A X.env xe → PSs (X.tr pn xe) body (tb W))
    (hh : HdG X (h₀ :: hds) l) : PS X (.Try body (h₀ :: hds) [] [] pos) (fun De σ H => tb (wCl X.K Wout De l) De σ H) := by
  refine ⟨fun pins s σ H De I h => ?_⟩
  have ok := I.ok
  have hfr : X.A.frames = some (X.env :: X.outer) := by rw [ok.frames, hs]
  refine wpAny_Try_except ?_
  refine wpAny_mono ((hb (wCl X.K Wout De l) (X.pn ++ pins) (fun e s₁ => wpAny (model X.prog X.w) X.A (noteFrame e X.env) (fun _ s₂ => wpAny (model X.prog X.w) X.A (setFlight e none) (fun _ s₃ =>
    wpAny (model X.prog X.w) X.A (handleBy e X.env (h₀ :: hds)) (SP X pins De) X.xe s₃) X.xe s₂) X.xe s₁) (fun u s' xx => ?_) PassesOwn.looking).run [] s σ H De (I.toTry _) h) (fun f s1 hsp => ?_) (fun e s1 he => he)
  · obtain ⟨a, B, sI, pins', σ', H', cls, d, rfl, J', nb, up, sky, na, os, ag, w⟩ := xx
    have J : Inv X pins σ' H' sI := J'.ofTry ok
    have sky' : Sky B (X.env :: X.outer) a (Zc cls d) X.env.locals s'.heap := by rw [← hs]; exact sky
    show wpAny (model X.prog X.w) X.A (noteFrame (.ref a) X.env) _ _ _
    refine Sky.land Zc.steady hfr hf sky' fun h3 fl3 up3 => ?_
    have notFr : ∀ {h : Heap} {o : Obj} {vs : Array Value}, h.FunFrames B (X.env :: X.outer) → h.get? a = some o → o.data = .fields vs → a ∉ frs (X.env :: X.outer) := fun {h o vs} ff e dd hm => by
      obtain ⟨_, o', e', hnf⟩ := ff.mem hm
      rw [e] at e'; cases e'
      exact hnf _ dd
    have go : ∀ {hds' : List ExceptHandler} {l' : List Clause}, HdG X hds' l' → ∀ (h3 : Heap) (tk3 : Nat), HandSPX.FlyingZ B (X.env :: X.outer) a (Zc cls d) h3 → sI.heap.UpToSlots h3 → wCl X.K Wout De l' cls d σ' H' →
        wpAny (model X.prog X.w) X.A (handleBy (.ref a) X.env hds') (SP X pins De) X.xe { s' with heap := h3, toks := tk3 } := by
      intro hds' l' hk
      induction hk with
      | nil =>
        intro h3 tk3 fl3 up3 w
        refine wpAny_handleBy_nil ?_
        obtain ⟨k1, k2, k3, oe, vs, T, oT, ts', he, hz, hd, h1, hr⟩ := id fl3
        unfold PySem.passOn
        refine wpAny_bind (wpAny_field he hd h1 ?_)
        rw [if_neg (show ¬ ((Value.ref T == Value.none) = true) from by simp)]
        have fin : wpAny (model X.prog X.w) X.A (setFlight (.ref a) X.env.frame) (fun _ s4 => wpAny (model X.prog X.w) X.A (throw (.ref a) : Sem Flow) (SP X pins De) X.xe s4) X.xe { s' with heap := h3, toks := tk3 } := by
          rw [hf]
          refine HandSPX.setFlight_upZ fl3 fun h4 hh4 up4 => wpAny_throw (tk _ _ ?_)
          exact ⟨a, B, sI, pins, σ', H', cls, d, rfl, J, nb, up3.trans up4, .inr (.inr (by rw [hs]; exact hh4)), na, os, ag, w⟩
        first
          | exact wpAny_bind (wpAny_pure (wpAny_bind fin))
          | exact wpAny_bind fin
      | @plain t cs ts b₀ suite pos' hds2 l2 hc hsu r ih =>
        intro h3 tk3 fl3 up3 w
        obtain ⟨b, hb1, hyes, hno⟩ := w
        refine test_ok (De := De) ok J nb fl3 up3 os ag na hs hf hc hb1 (fun h4 tk4 fl4 up4 => ?_)
        cases b with
        | true =>
          refine codeAny_handlers_suite ?_
          refine HandSPX.lands_againZ fl4 fun h5 fl5 up5 => ?_
          have J5 : Inv X pins σ' H' { s' with heap := h5, toks := tk4 } := J.landed nb fl5.1 (up4.trans up5) os ag
          obtain ⟨oe5, vs5, he5, hz5, hd5⟩ := fl5.there
          have nfr := notFr fl5.2.2.1 he5 hd5
          have nL : a ≠ X.env.locals := fun z => nfr (List.mem_filterMap.mpr ⟨X.env, List.mem_cons_self, by rw [hf, z]⟩)
          have nF : a ∉ X.fs := fun hm => by
            obtain ⟨e, he, q⟩ := List.mem_filterMap.mp hm
            exact nfr (List.mem_filterMap.mpr ⟨e, List.mem_cons_of_mem _ he, q⟩)
          have S5 := J5.suite he5 hd5 na nL nF
          refine wpAny_mono ((hsu a oe5 cls d (X.pn ++ pins) hz5 ⟨_, hd5⟩).run [] _ _ H' _ S5 (hyes rfl a na)) (fun f s6 hsp => ?_) (fun _ _ z => False.elim z)
          cases f with
          | next =>
            obtain ⟨σ6, H6, S6, q6⟩ := hsp
            exact ⟨_, _, S6.unsuite ok, q6⟩
          | brk =>
            obtain ⟨σ6, H6, S6, q6⟩ := hsp
            exact ⟨_, _, S6.unsuite ok, q6⟩
          | cont =>
            obtain ⟨σ6, H6, S6, q6⟩ := hsp
            exact ⟨_, _, S6.unsuite ok, q6⟩
          | ret u =>
            obtain ⟨v6, σ6, H6, S6, r6, q6⟩ := hsp
            exact ⟨_, _, _, S6.unsuite ok, r6, q6⟩
        | false => exact ih h4 tk4 fl4 up4 (hno rfl)
      | @named t cs n i ts b₀ suite pos' hds2 l2 hc hi hln hsu r ih =>
        intro h3 tk3 fl3 up3 w
        obtain ⟨b, hb1, hyes, hno⟩ := w
        have hloc : Loc X.env.scope n := .inl hln
        refine test_ok (De := De) ok J nb fl3 up3 os ag na hs hf hc hb1 (fun h4 tk4 fl4 up4 => ?_)
        cases b with
        | true =>
          refine codeAny_handlers_suite_as ?_
          refine HandSPX.lands_againZ fl4 fun h5 fl5 up5 => ?_
          have J5 : Inv X pins σ' H' { s' with heap := h5, toks := tk4 } := J.landed nb fl5.1 (up4.trans up5) os ag
          obtain ⟨oe5, vs5, he5, hz5, hd5⟩ := fl5.there
          have nfr := notFr fl5.2.2.1 he5 hd5
          have nL : a ≠ X.env.locals := fun z => nfr (List.mem_filterMap.mpr ⟨X.env, List.mem_cons_self, by rw [hf, z]⟩)
          have nF : a ∉ X.fs := fun hm => by
            obtain ⟨e, he, q⟩ := List.mem_filterMap.mp hm
            exact nfr (List.mem_filterMap.mpr ⟨e, List.mem_cons_of_mem _ he, q⟩)
          have S5 := J5.suite he5 hd5 na nL nF
          refine store_ok (X := X.suite a ((a, oe5) :: (X.pn ++ pins))) (v := .ref a) S5 hN hi hloc rfl (fun s5 S6 => ?_) (.inr hln)
          refine wpAny_mono ((hsu a oe5 cls d (X.pn ++ pins) hz5 ⟨_, hd5⟩).run [] s5 _ H' _ S6 (hyes rfl a na)) (fun f s6 hsp => ?_) (fun _ _ z => False.elim z)
          have end_ : ∀ {σ6 : L2.St} {H6 : Hp} {Q : Shared → Prop}, Inv (X.suite a ((a, oe5) :: (X.pn ++ pins))) [] σ6 H6 s6 → (∀ s7, Inv X pins (σ6.set i none) H6 s7 → Q s7) →
              wpAny (model X.prog X.w) X.A (do bindName X.env n .none; unbindBehindTheSuite X.env n pos') (fun _ s7 => Q s7) X.xe s6 := fun {σ6 H6 Q} S6 hq => gone_ok (S6.unsuite ok) hN hi hln hq
          cases f with
          | next =>
            obtain ⟨σ6, H6, S6, q6⟩ := hsp
            exact end_ S6 fun s7 J7 => ⟨_, _, J7, q6⟩
          | brk =>
            obtain ⟨σ6, H6, S6, q6⟩ := hsp
            exact end_ S6 fun s7 J7 => ⟨_, _, J7, q6⟩
          | cont =>
            obtain ⟨σ6, H6, S6, q6⟩ := hsp
            exact end_ S6 fun s7 J7 => ⟨_, _, J7, q6⟩
          | ret u =>
            obtain ⟨v6, σ6, H6, S6, r6, q6⟩ := hsp
            exact end_ S6 fun s7 J7 => ⟨_, _, _, J7, r6, q6⟩
        | false => exact ih h4 tk4 fl4 up4 (hno rfl)
    exact go hh h3 _ fl3 (up.trans up3) w
  · cases f with
    | next =>
      obtain ⟨σ', H', J', q⟩ := hsp
      exact wpAny_execs_nil ⟨σ', H', J'.ofTry ok, q⟩
    | brk =>
      obtain ⟨σ', H', J', q⟩ := hsp
      exact ⟨σ', H', J'.ofTry ok, q⟩
    | cont =>
      obtain ⟨σ', H', J', q⟩ := hsp
      exact ⟨σ', H', J'.ofTry ok, q⟩
    | ret u =>
      obtain ⟨v, σ', H', J', r, q⟩ := hsp
      exact ⟨v, σ', H', J'.ofTry ok, r, q⟩
end
end RW

/-! RW: own exception classes whose __init__ tells a base class's; raise; try with several clauses; fields of what is caught. -/
namespace RW
open PySem PySem.Spec PyProof.Rows L2
/-- the def number j of the class that st is -/
def metOf (st : Stmt) (j : Nat) : Stmt := match st with
  | .ClassDef _ _ _ body _ _ _ _ _ _ _ => body.getD j (.Pass ⟨0, 0, 0, 0⟩)
  | _ => .Pass ⟨0, 0, 0, 0⟩
/-! ### B.m(e, ..), B an own class, m a def of it -/
structure CFn (K : PySem.W.Frag) (B : Addr) (mc : Value) (m : Str) (g : Addr) : Prop where
  rd : PySem.W.readsIn K B mc = true
  ga : PySem.W.specialIn K (.ref B) "__getattribute__" = some (some (.builtin "type.__getattribute__"))
  at_ : PySem.W.findCls K (.ref B) mc m = some (.val (.ref g))
  kp : PySem.W.keepIn K (.ref g) = true
section
variable {X : Cx}
theorem passesF {W : WX} (tk : Takes X W) : Passes (L2.CX X.prog X.w) X (fun _ _ _ => False) := passes_call tk fun _ _ _ _ z => z.elim
theorem pe_clsfn {W : WX} {x m : Str} {B g : Addr} {mc : Value} {k : Nat} {fd : FuncData} {qs : List Str} {sp : Sp} {e : Expr} {es : List Expr} {ta : TA} {p1 p2 pos : Pos} {pl : Sem Bool} (tk : Takes X W) (c : CFn X.K B mc m g)
    (F1 : FnOk X.prog X.w X.K X.mg X.base (L2.CX X.prog X.w) k g fd qs sp) (hr : Room k X.A) (hb : Binds X.K fd qs []) (hg : Gl X x) (hm : X.mg x = some (.ref B)) (ha : PA X (e :: es) ta)
    (ht : eval (.Call (.Attribute (.Name x p1) m p2) (e :: es) [] pos) X.env = (do
      let ov ← eval (.Name x p1) X.env
      standAt p2.atName
      let (f, first) ← holding [ov] (getMethod ov m pl)
      callWith pos f first (backTo pos (starEach (e :: es) X.env)) (backToKw pos (keywordEach [] X.env))) := by rfl)
    (hdb : (x == ("__debug__" : Str)) = false := by decide) (he : starEach (e :: es) X.env = (false, eval e X.env) :: starEach es X.env := by rfl) (hpl : (backTo pos (starEach es X.env)).any (·.1) = false := by rfl) :
    PE X (.Call (.Attribute (.Name x p1) m p2) (e :: es) [] pos) (tCall sp [] (fun _ _ _ => False) ta) := by
  refine ⟨fun pins s σ H Q I h => ?_⟩
  refine PySem.W.methodCall_KW (pl := pl) (ld_glob I hg hm ?_ hdb) ht
  refine PySem.W.method_cls I.kIn c.ga (ClX.getcval_ok I ⟨c.rd, c.ga⟩ (v := .ref g) ⟨c.at_, rfl⟩ fun s' J => ?_)
  exact PySem.W.callWith_K (first := []) (h₀ := X.base) J.ok.mod.kin c.kp (thn (ha.run pos pins s' σ H _ J h) fun us s1 ⟨vs, H1, I1, r1, q⟩ => ⟨I1.kIn, run_fn F1 hr hb .nil (passesF tk) I1 r1 q⟩) he hpl
end

/-- o.m(..) is a method's call -/
def MethEq (o : Expr) (m : Str) (apos : Pos) (args : List Expr) (pos : Pos) : Prop := ∀ env : Env, ∃ pl : Sem Bool, eval (.Call (.Attribute o m apos) args [] pos) env = (do
      let ov ← eval o env
      standAt apos.atName
      let (f, first) ← holding [ov] (getMethod ov m pl)
      callWith pos f first (backTo pos (starEach args env)) (backToKw pos (keywordEach [] env)))
/-! ### fields of an exception: arguments and written texts -/
abbrev FT := List (Str × (Nat ⊕ Str))
def ftV (F : FT) (ws : List V) : List (Str × V) := F.map fun p => (p.1, match p.2 with | .inl i => ws.getD i .non | .inr s => .str s)
def ftD (F : FT) (ds : List D) : List (Str × D) := F.map fun p => (p.1, match p.2 with | .inl i => ds.getD i .non | .inr s => .str s)
theorem ft_rep {K : PySem.W.Frag} {H : Hp} {ws : List V} {ds : List D} (r : Reps K H ws ds) : ∀ F : FT, RepF K H (ftV F ws) (ftD F ds)
  | [] => .nil
  | (f, .inr s) :: F => .cons (.str s) (ft_rep r F)
  | (f, .inl i) :: F => by
    refine .cons ?_ (ft_rep r F)
    show Rep K H (ws.getD i .non) (ds.getD i .non)
    cases e : ds[i]? with
    | some d =>
      obtain ⟨v, h1, h2⟩ := r.get e
      simp only [List.getD, h1, e, Option.getD_some]
      exact h2
    | none =>
      have hl : ds.length ≤ i := List.getElem?_eq_none_iff.mp e
      have h1 : ws[i]? = none := List.getElem?_eq_none_iff.mpr (by rw [r.length]; exact hl)
      simp only [List.getD, h1, e, Option.getD_none]
      exact .non
/-! ### the making of an exception: what its __init__ keeps -/
def spInit (K : PySem.W.Frag) (n : Nat) (F : FT) : Sp := fun vs H Q _ => ∃ (a C : Addr) (ws : List V), vs = .ref a :: ws ∧ ws.length = n ∧ OexC K C ∧ (∀ p ∈ F, PySem.W.findIn K (.ref C) p.1 = some none) ∧ H a = some (exo a C none) ∧
  ∀ dx, H dx = none → dx ≠ a → Q .non (upd (upd H dx (exd dx (ftV F ws))) a (exo a C (some dx)))
section
variable {P : Program} {w : World} {K : PySem.W.Frag} {mg : Str → Option Value} {base : Heap}
theorem upd_swap {H : Hp} {a b : Addr} {o u : HO} (h : a ≠ b) : upd (upd H a o) b u = upd (upd H b u) a o := by
  funext c
  unfold upd
  by_cases h1 : c = a
  · subst h1; rw [if_neg h, if_pos rfl, if_pos rfl]
  · by_cases h2 : c = b
    · rw [if_pos h2, if_neg h1, if_pos h2]
    · rw [if_neg h2, if_neg h1, if_neg h1, if_neg h2]
/-- __init__(self, word): ValueError.__init__(self, word); self.word = word -/
theorem ok_initB {qual : Str} {st : Stmt} {f : Addr} {fd : FuncData} {k : Nat} {p1 p2 p3 p4 p5 p6 p7 p8 p9 q1 : Pos} (F : Fun K "__init__" qual st f fd) (Sc : FnScope ["self", "word"] ["self", "word"] (defScope st))
    (hb : defBody st = [.Expr (.Call (.Attribute (.Name "ValueError" p1) "__init__" p2) [.Name "self" p3, .Name "word" p4] [] p5) p6, .Assign [.Attribute (.Name "self" p7) "word" p8] (.Name "word" p9) q1])
    (hv : (defScope st).names.lookup (Str.ofString "word") = some .local) (hvs : (defScope st).names.lookup (Str.ofString "self") = some .local) (hgl : (defScope st).names.lookup (Str.ofString "ValueError") = some .globalImplicit)
    (hme : MethEq (.Name "ValueError" p1) "__init__" p2 [.Name "self" p3, .Name "word" p4] p5) (mVE : mg "ValueError" = none) (vV : PySem.W.findCls K (.type "ValueError") (.type "type") "__init__" = some (.val (.builtin "ValueError.__init__"))) :
    FnOk P w K mg base (L2.CX P w) (k + 1) f fd ["self", "word"] (spInit K 1 [("word", .inl 0)]) := by
  refine F.okX Sc (fun vs H Q E ⟨a, C, ws, e, hl, _⟩ => by rw [e]; simp [hl]) fun cdv A outer s H vs Q E hr hsp => ?_
  obtain ⟨a, C, ws, rfl, hl, T, hf, ha, hq⟩ := hsp
  obtain ⟨y, rfl⟩ : ∃ y, ws = [y] := by
    match ws, hl with
    | [y], _ => exact ⟨y, rfl⟩
  rw [hb]
  obtain ⟨pl, hc⟩ := hme (envOfC qual (defScope st) s.heap.objs.size f cdv)
  refine ⟨_, pss_cons (ps_expr (pe_veinit hgl mVE vV (pa_cons (pv 0 rfl (.inl hvs)) (pa_cons (pv 1 rfl (.inl hv)) pa_nil)) hc)) (pss_one (ps_ost (pv 0 rfl (.inl hvs)) (pv 1 rfl (.inl hv)))), ?_⟩
  exact ⟨.ref a, rfl, y, rfl, a, C, [y], rfl, by simp, T, ha, y, rfl, .ref a, rfl, a, C, rfl, T, hf _ List.mem_cons_self, .inl ⟨ha, fun dx n ne => hq dx n ne⟩⟩
/-- __init__(self, f): B.__init__(self, 'W'); self.f = f -/
theorem ok_init1 {qual f1 BN : Str} {W0 : Str} {jj : Nat} {mc : Value} {B g : Addr} {gd : FuncData} {kk : Nat} {st : Stmt} {f : Addr} {fd : FuncData} {k : Nat} {p1 p2 p3 p4 p5 p6 p7 p8 p9 q1 : Pos} (F : Fun K "__init__" qual st f fd) (Sc : FnScope ["self", f1] ["self", f1] (defScope st))
    (hb : defBody st = [.Expr (.Call (.Attribute (.Name BN p1) "__init__" p2) [.Name "self" p3, .Constant (.str W0) jj p4] [] p5) p6, .Assign [.Attribute (.Name "self" p7) f1 p8] (.Name f1 p9) q1])
    (hv : (defScope st).names.lookup f1 = some .local) (hvs : (defScope st).names.lookup (Str.ofString "self") = some .local) (hgl : (defScope st).names.lookup BN = some .globalImplicit) (hdB : (BN == ("__debug__" : Str)) = false)
    (h1 : (f1 == ("__debug__" : Str)) = false) (h2 : (f1 == ("__classdict__" : Str)) = false) (hfw : (f1 : Str) ≠ "word")
    (hme : MethEq (.Name BN p1) "__init__" p2 [.Name "self" p3, .Constant (.str W0) jj p4] p5) (gB : mg BN = some (.ref B)) (c : CFn K B mc "__init__" g) (FB : FnOk P w K mg base (L2.CX P w) kk g gd ["self", "word"] (spInit K 1 [("word", .inl 0)])) (bB : Binds K gd ["self", "word"] []) (hk : kk ≤ k) :
    FnOk P w K mg base (L2.CX P w) (k + 1) f fd ["self", f1] (spInit K 1 [(f1, .inl 0), ("word", .inr W0)]) := by
  refine F.okX Sc (fun vs H Q E ⟨a, C, ws, e, hl, _⟩ => by rw [e]; simp [hl]) fun cdv A outer s H vs Q E hr hsp => ?_
  obtain ⟨a, C, ws, rfl, hl, T, hf, ha, hq⟩ := hsp
  obtain ⟨y, rfl⟩ : ∃ y, ws = [y] := by
    match ws, hl with
    | [y], _ => exact ⟨y, rfl⟩
  rw [hb]
  obtain ⟨pl, hc⟩ := hme (envOfC qual (defScope st) s.heap.objs.size f cdv)
  refine ⟨_, pss_cons (ps_expr (pe_clsfn (takes_of rfl rfl rfl rfl) c FB (hr.mono hk) bB hgl gB (pa_cons (pv 0 rfl (.inl hvs)) (pa_cons pe_str pa_nil)) hc hdB)) (pss_one (ps_ost (pv 0 rfl (.inl hvs)) (pv 1 rfl (.inl hv) h1 h2))), ?_⟩
  refine ⟨.ref a, rfl, a, C, [.str W0], rfl, rfl, T, fun p hp => ?_, ha, fun dx n ne => ⟨y, rfl, .ref a, rfl, a, C, rfl, T, hf _ List.mem_cons_self, .inr ⟨dx, _, upd_same, by rw [upd_ne ne, upd_same], by simp [ftV], ?_⟩⟩⟩
  · rw [List.mem_singleton.mp hp]
    exact hf ("word", .inr W0) (List.mem_cons_of_mem _ List.mem_cons_self)
  · have := hq dx n ne
    rw [upd_swap ne.symm, upd_upd]
    exact this
/-- __init__(self): B.__init__(self, 'W') -/
theorem ok_init0 {qual BN : Str} {W0 : Str} {jj : Nat} {mc : Value} {B g : Addr} {gd : FuncData} {kk : Nat} {st : Stmt} {f : Addr} {fd : FuncData} {k : Nat} {p1 p2 p3 p4 p5 p6 : Pos} (F : Fun K "__init__" qual st f fd) (Sc : FnScope ["self"] ["self"] (defScope st))
    (hb : defBody st = [.Expr (.Call (.Attribute (.Name BN p1) "__init__" p2) [.Name "self" p3, .Constant (.str W0) jj p4] [] p5) p6])
    (hvs : (defScope st).names.lookup (Str.ofString "self") = some .local) (hgl : (defScope st).names.lookup BN = some .globalImplicit) (hdB : (BN == ("__debug__" : Str)) = false)
    (hme : MethEq (.Name BN p1) "__init__" p2 [.Name "self" p3, .Constant (.str W0) jj p4] p5) (gB : mg BN = some (.ref B)) (c : CFn K B mc "__init__" g) (FB : FnOk P w K mg base (L2.CX P w) kk g gd ["self", "word"] (spInit K 1 [("word", .inl 0)])) (bB : Binds K gd ["self", "word"] []) (hk : kk ≤ k) :
    FnOk P w K mg base (L2.CX P w) (k + 1) f fd ["self"] (spInit K 0 [("word", .inr W0)]) := by
  refine F.okX Sc (fun vs H Q E ⟨a, C, ws, e, hl, _⟩ => by rw [e]; simp [hl]) fun cdv A outer s H vs Q E hr hsp => ?_
  obtain ⟨a, C, ws, rfl, hl, T, hf, ha, hq⟩ := hsp
  obtain rfl : ws = [] := List.eq_nil_of_length_eq_zero hl
  rw [hb]
  obtain ⟨pl, hc⟩ := hme (envOfC qual (defScope st) s.heap.objs.size f cdv)
  refine ⟨_, pss_one (ps_expr (pe_clsfn (takes_of rfl rfl rfl rfl) c FB (hr.mono hk) bB hgl gB (pa_cons (pv 0 rfl (.inl hvs)) (pa_cons pe_str pa_nil)) hc hdB)), ?_⟩
  refine ⟨.ref a, rfl, a, C, [.str W0], rfl, rfl, T, fun p hp => ?_, ha, fun dx n ne => hq dx n ne⟩
  rw [List.mem_singleton.mp hp]
  exact hf ("word", .inr W0) List.mem_cons_self
end

/-- an own exception class: how its instances are made, what of its fields is known -/
structure XMk (P : Program) (w : World) (K : PySem.W.Frag) (mg : Str → Option Value) (base : Heap) (x : Str) (k n : Nat) (F : FT) (C : Addr) : Prop where
  T : OexC K C
  nf : ∀ p ∈ F, PySem.W.findIn K (.ref C) p.1 = some none
  gm : mg x = some (.ref C)
  xf : XfC K C
  ini : ∃ (fI : Addr) (fd : FuncData) (qs : List Str), FnOk P w K mg base (L2.CX P w) k fI fd qs (spInit K n F) ∧ PySem.W.findIn K (.ref C) "__init__" = some (some (.ref fI)) ∧ PySem.W.typeIn K (.ref fI) = some (.type "function") ∧ L2.Binds K fd qs []
theorem made_eq {H : Hp} {a dx : Addr} {o u v z : HO} (na : H a = none) (hd : dx ≠ a) : upd (del (upd (upd (upd H a o) dx u) a v) a) dx z = upd H dx z := by
  funext c
  by_cases h1 : c = dx
  · rw [h1, upd_same, upd_same]
  · rw [upd_ne h1, upd_ne h1]
    by_cases h2 : c = a
    · rw [h2, del_same, na]
    · rw [del_ne h2, upd_ne h2, upd_ne h1, upd_ne h2]
section
variable {X : Cx}
/-- C(), C's own __init__ keeping sp -/
theorem pmk_none {W : WX} {x : Str} {C fI : Addr} {k : Nat} {fd : FuncData} {qs : List Str} {sp : Sp} {p pos : Pos} (tk : Takes X W) (T : OexC X.K C) (iC : PySem.W.findIn X.K (.ref C) "__init__" = some (some (.ref fI))) (tI : PySem.W.typeIn X.K (.ref fI) = some (.type "function"))
    (F1 : FnOk X.prog X.w X.K X.mg X.base (L2.CX X.prog X.w) k fI fd qs sp) (hr : Room (k + 1) X.A) (hb : L2.Binds X.K fd qs []) (hg : Gl X x) (hm : X.mg x = some (.ref C)) (hdb : (x == ("__debug__" : Str)) = false) :
    PMk X (.Call (.Name x p) [] [] pos) (fun _ H Q => ∀ a, H a = none → sp [.ref a] (upd H a (exo a C none))
      (fun v H2 => v = .non ∧ ∃ (d : Addr) (fs : List (Str × V)), H2 a = some (exo a C (some d)) ∧ H2 d = some (exd d fs) ∧ H d = none ∧ Q (.ref C) (some d) (upd (del H2 a) d (.xd fs))) (fun _ _ _ => False)) := by
  intro pins s σ H Q I h
  obtain ⟨nm, q0, ns0, b0, bm, s1, s2, a1, c1, d1, z0, z1, z2, z3, z5, hC, hbm⟩ := T.cls
  refine wpAny_Call_Name_kw (ld_glob I hg hm ?_ hdb)
  refine PySem.W.callWith_K0 (first := []) I.kIn T.kC ?_
  obtain ⟨hp, gs, dr, tn, os⟩ := s
  have big : hp.objs.size ≤ hp.objs.size + 1 := Nat.le_succ _
  have old : ∀ b o, hp.get? b = some o → ((hp.push (PySem.W.kdv_tup [])).push (PySem.HandSPX.excO C hp.objs.size)).get? b = some o := fun b o e =>
    Heap.get?_push_of_some _ (Heap.get?_push_of_some _ e)
  have new : ((hp.push (PySem.W.kdv_tup [])).push (PySem.HandSPX.excO C hp.objs.size)).get? (hp.objs.size + 1) = some (PySem.HandSPX.excO C hp.objs.size) := by
    heap_get
  have I2 := I.laid (t' := tn) (a := hp.objs.size + 1) (o := exo (hp.objs.size + 1) C none) (h' := (hp.push (PySem.W.kdv_tup [])).push (PySem.HandSPX.excO C hp.objs.size)) old big (exo_ok new)
  have hq := h (hp.objs.size + 1) (I.hok.fresh big)
  have r2 : Vals [V.ref (hp.objs.size + 1)] [Value.ref (hp.objs.size + 1)] := .cons rfl .nil
  have hl : [Value.ref (hp.objs.size + 1)].length = qs.length := (F1.len _ _ _ _ hq).symm ▸ rfl
  show wpAny _ _ (call (.ref C) []) _ _ _
  refine wpAny_call (PySem.HandSPX.call_own F.excBase_ValueError (fun Y => PySem.HandSPX.refsVE_contains Y bm hbm) (I.kIn _ _ hC) (PySem.W.looks_findIn I.kIn iC) (fun self => PySem.W.bind_fn I.kIn self tI) (Nat.zero_le _) ?_)
  have run := F1.run _ X.stack _ _ ⟨[Value.ref (hp.objs.size + 1)], []⟩ [Value.ref (hp.objs.size + 1)] _ _ (fun _ _ _ => False) (hr.make C [] []) (I2.env0.make C [] []) (hb _ [Value.ref (hp.objs.size + 1)] I2.kIn (by rw [List.append_nil]; exact hl)) r2 hq
  refine codeAny_mono run fun r s' hq' => ?_
  cases r with
  | error er => exact passesF tk pins σ _ _ er s' I2 hq'
  | ok fl =>
    cases fl with
    | ret u =>
      obtain ⟨v, H2, os2, bare2, un2, hok2, rv, ev, d, fs, ea, ed, hd1, q2⟩ := hq'
      cases ev
      obtain ⟨h2, g2, e2, t2, os'⟩ := s'
      exact ⟨rv, mk_end (raises_own T.exC T.tyC) I big old un2 hok2 os2 bare2 ea ed hd1 q2⟩
    | next => cases hq'
    | brk => cases hq'
    | cont => cases hq'
theorem post_made {H : Hp} {a C : Addr} {n : Nat} {F : FT} {ws : List V} {Q : XK} {E : XK} (T : OexC X.K C) (nf : ∀ p ∈ F, PySem.W.findIn X.K (.ref C) p.1 = some none) (hl : ws.length = n) (na : H a = none) (q : ∀ d, H d = none → Q (.ref C) (some d) (upd H d (.xd (ftV F ws)))) :
    spInit X.K n F (.ref a :: ws) (upd H a (exo a C none)) (fun v H2 => v = .non ∧ ∃ (d : Addr) (fs : List (Str × V)), H2 a = some (exo a C (some d)) ∧ H2 d = some (exd d fs) ∧ H d = none ∧ Q (.ref C) (some d) (upd (del H2 a) d (.xd fs))) E := by
  refine ⟨a, C, ws, rfl, hl, T, nf, upd_same, fun dx n ne => ⟨rfl, dx, _, upd_same, by rw [upd_ne ne, upd_same], ?_, ?_⟩⟩
  · rwa [upd_ne ne] at n
  · rw [made_eq na ne]
    exact q dx (by rwa [upd_ne ne] at n)
/-- C(..) -/
def tMkX (F : FT) (n : Nat) (C : Addr) (ta : TA) : L2.St → Hp → XK → Prop := fun σ H Q => ta σ H fun vs H1 => vs.length = n ∧ ∀ d, H1 d = none → Q (.ref C) (some d) (upd H1 d (.xd (ftV F vs)))
theorem pmk_x0 {W : WX} {x : Str} {k j : Nat} {F : FT} {C : Addr} {p pos : Pos} (tk : Takes X W) (M : XMk X.prog X.w X.K X.mg X.base x k 0 F C) (hr : Room j X.A) (hj : k + 1 ≤ j) (hg : Gl X x) (hdb : (x == ("__debug__" : Str)) = false) :
    PMk X (.Call (.Name x p) [] [] pos) (fun _ H Q => ∀ d, H d = none → Q (.ref C) (some d) (upd H d (.xd (ftV F [])))) := by
  obtain ⟨fI, fd, qs, F1, iC, tI, hb⟩ := M.ini
  intro pins s σ H Q I q
  exact pmk_none tk M.T iC tI F1 (hr.mono hj) hb hg M.gm hdb pins s σ H Q I fun a na => post_made M.T M.nf rfl na q
theorem pmk_x {W : WX} {x : Str} {k n j : Nat} {F : FT} {C : Addr} {e : Expr} {es : List Expr} {ta : TA} {p pos : Pos} (tk : Takes X W) (M : XMk X.prog X.w X.K X.mg X.base x k n F C) (hn : n ≤ 1000) (hr : Room j X.A) (hj : k + 1 ≤ j) (hg : Gl X x) (ha : PA X (e :: es) ta)
    (hdb : (x == ("__debug__" : Str)) = false) (he : starEach (e :: es) X.env = (false, eval e X.env) :: starEach es X.env) (hpl : (backTo pos (starEach es X.env)).any (·.1) = false) :
    PMk X (.Call (.Name x p) (e :: es) [] pos) (tMkX F n C ta) := by
  obtain ⟨fI, fd, qs, F1, iC, tI, hb⟩ := M.ini
  intro pins s σ H Q I h
  refine pmk_oex (ds := []) (dvs := []) M.T iC tI F1 (hr.mono hj) hb .nil (passesF tk) hg M.gm (ta := wA X (e :: es)) paW hdb he hpl pins s σ H Q I ?_
  refine wA_mono (wA_of ha h) fun vs H1 ⟨hl, q⟩ => ⟨by omega, fun a na => ?_⟩
  rw [List.append_nil]
  exact post_made M.T M.nf hl na q
end
/-! ### raise -/
section
variable {X : Cx} {E : ExP} {Γ : Env'} {O : Own} {De : EndsD}
theorem AbsH.xdNew {K : PySem.W.Frag} {H Hd : Hp} {O : Own} {d : Addr} {fs : List (Str × V)} (h : AbsH K H Hd O) (n : H d = none) : AbsH K (upd H d (.xd fs)) Hd O := h.aside n
theorem ws_raise {x : Str} {k n j : Nat} {F : FT} {C : Addr} {a : Expr} {es : List Expr} {p cp pos : Pos} (M : XMk X.prog X.w X.K X.mg X.base x k n F C) (hr : Room j X.A) (hj : k + 1 ≤ j) (hc : X.calm = true)
    (h : WA X E (a :: es) Γ O fun ds O' => ds.length = n ∧ E ⟨.ref C, ftD F ds⟩ Γ O') (hn : n ≤ 1000 := by decide) (hg : Gl X x := by rfl) (hdb : (x == ("__debug__" : Str)) = false := by decide)
    (he : starEach (a :: es) X.env = (false, eval a X.env) :: starEach es X.env := by rfl) (hpl : (backTo cp (starEach es X.env)).any (·.1) = false := by rfl) :
    WS X E (.Raise (some (.Call (.Name x p) (a :: es) [] cp)) none pos) Γ O De := .mk fun W σ H Hd q =>
  wS_of (ps_raise hc q.tk (pmk_x q.tk M hn hr hj hg (ta := wA X (a :: es)) paW hdb he hpl)) (h.use q fun vs H1 ds O1 Hd1 s1 p1 r1 ⟨hl, e⟩ => ⟨by rw [r1.length]; exact hl, fun d nd =>
    p1.ex _ _ σ _ Hd1 _ Γ O1 (Same.refl _) p1.g (p1.h.xdNew nd) ⟨rfl, C, d, rfl, rfl, _, upd_same, ft_rep r1 F⟩ e⟩)
theorem ws_raise0 {x : Str} {k j : Nat} {F : FT} {C : Addr} {p cp pos : Pos} (M : XMk X.prog X.w X.K X.mg X.base x k 0 F C) (hr : Room j X.A) (hj : k + 1 ≤ j) (hc : X.calm = true)
    (h : E ⟨.ref C, ftD F []⟩ Γ O) (hg : Gl X x := by rfl) (hdb : (x == ("__debug__" : Str)) = false := by decide) :
    WS X E (.Raise (some (.Call (.Name x p) [] [] cp)) none pos) Γ O De := .mk fun W σ H Hd q =>
  wS_of (ps_raise hc q.tk (pmk_x0 q.tk M hr hj hg hdb)) fun d nd => q.ex _ _ σ _ Hd _ Γ O (Same.refl _) q.g (q.h.xdNew nd) ⟨rfl, C, d, rfl, rfl, _, upd_same, ft_rep (K := X.K) (H := Hd) .nil F⟩ h
end
/-! ### try -/
section
variable {X : Cx} {E : ExP} {Γ : Env'} {O : Own} {De : EndsD}
theorem AbsH.adopt {K : PySem.W.Frag} {H Hd : Hp} {O : Own} {p : Addr} {fs : List (Str × V)} (h : AbsH K H Hd O) (e : H p = some (.xd fs)) : ∃ Hd', Same Hd Hd' ∧ AbsH K H Hd' O ∧ Hd' p = some (.xd fs) := by
  refine ⟨upd Hd p (.xd fs), fun b x q => ?_, ⟨fun b x q => ?_, fun a c q => ?_⟩, upd_same⟩
  · by_cases hb : b = p
    · subst hb
      have := h.same _ _ q
      rw [this] at e
      cases e
      exact upd_same
    · rw [upd_ne hb]; exact q
  · by_cases hb : b = p
    · subst hb; rw [upd_same] at q; cases q; exact e
    · rw [upd_ne hb] at q; exact h.same _ _ q
  · obtain ⟨h1, h2⟩ := h.own a c q
    have ne : a ≠ p := fun z => by
      subst z
      cases c with
      | lst ds => obtain ⟨_, g, _⟩ := h2; rw [g] at e; cases e
      | any P => obtain ⟨_, _, _, g, _⟩ := h2; rw [g] at e; cases e
      | ins C fs => obtain ⟨_, _, g, _⟩ := h2; rw [g] at e; cases e
      | tab q => obtain ⟨_, g, _⟩ := h2; rw [g] at e; cases e
      | dt w kvs => obtain ⟨_, _, _, g, _⟩ := h2; rw [g] at e; cases e
      | dk P w kvs => obtain ⟨_, _, _, g, _⟩ := h2; rw [g] at e; cases e
      | ex pr => rw [show H a = _ from h2] at e; cases e
    refine ⟨by rw [upd_ne ne]; exact h1, h2.mono rfl fun b x q => ?_⟩
    by_cases hb : b = p
    · subst hb
      have := h.same _ _ q
      rw [this] at e
      cases e
      exact upd_same
    · rw [upd_ne hb]; exact q
/-- a clause: its classes, its name's slot, its suite -/
abbrev ClD := List Value × Option Nat × List Stmt
def setX (io : Option Nat) (Γ : Env') (d : D) : Env' := match io with
  | none => Γ
  | some i => Γ.set i (some d)
def unsetX (io : Option Nat) (Γ : Env') : Env' := match io with
  | none => Γ
  | some i => Γ.set i none
/-- what the clauses make of an exception -/
def clE (X : Cx) (E : ExP) (De : EndsD) : List ClD → ExP
  | [] => E
  | (cs, io, sts) :: r => fun e Γ O => ∃ b, PySem.W.exmAny X.K e.cls cs = some b ∧ (b = true → ∀ (a C dd : Addr) (oe : Obj) (pn : List (Addr × Obj)), e.cls = .ref C → Zc (.ref C) (some dd) oe → (∃ vs, oe.data = .fields vs) →
      WSs (X.suite a ((a, oe) :: pn)) noEx sts (setX io Γ (.xc a C dd e.fs)) O { nx := fun Γ' O' => De.nx (unsetX io Γ') O', rt := De.rt, bk := fun Γ' O' => De.bk (unsetX io Γ') O', ct := fun Γ' O' => De.ct (unsetX io Γ') O' }) ∧ (b = false → clE X E De r e Γ O)
/-- a clause's suite's weakest reading -/
def suTS (X : Cx) (sts : List Stmt) : Addr → Value → Option Addr → TS := fun a cls d De σ H => ∀ (oe : Obj) (pn : List (Addr × Obj)), Zc cls d oe → (∃ vs, oe.data = .fields vs) → wSs (X.suite a ((a, oe) :: pn)) sts De σ H
inductive HdD (X : Cx) : List ExceptHandler → List ClD → Prop
  | nil : HdD X [] []
  | plain {t : Expr} {cs : List Value} {b₀ : Stmt} {suite : List Stmt} {pos' : Pos} {hds : List ExceptHandler} {l : List ClD} (hc : TstOk X t cs) (r : HdD X hds l) : HdD X (.ExceptHandler (some t) none (b₀ :: suite) pos' :: hds) ((cs, none, b₀ :: suite) :: l)
  | named {t : Expr} {cs : List Value} {n : Str} {i : Nat} {b₀ : Stmt} {suite : List Stmt} {pos' : Pos} {hds : List ExceptHandler} {l : List ClD} (hc : TstOk X t cs) (hi : X.N[i]? = some n) (hln : X.env.kindOf n = some .local) (r : HdD X hds l) :
      HdD X (.ExceptHandler (some t) (some n) (b₀ :: suite) pos' :: hds) ((cs, some i, b₀ :: suite) :: l)
def clH (X : Cx) : List ClD → List Clause := List.map fun p => (p.1, p.2.1, suTS X p.2.2)
theorem HdD.hdG : ∀ {hds : List ExceptHandler} {l : List ClD}, HdD X hds l → HdG X hds (clH X l)
  | _, _, .nil => .nil
  | _, _, .plain hc r => .plain hc (fun a oe cls d pn hz hf => ⟨fun pins s σ H De I h => h oe pn hz hf pins s I⟩) (HdD.hdG r)
  | _, _, .named hc hi hln r => .named hc hi hln (fun a oe cls d pn hz hf => ⟨fun pins s σ H De I h => h oe pn hz hf pins s I⟩) (HdD.hdG r)
theorem cl_run {W : WX} {Hd : Hp} (ex : ∀ (cls : Value) (d : Option Addr) (σ' : L2.St) (H' Hd' : Hp) (e : Ex) (Γ' : Env') (O' : Own), Same Hd Hd' → AbsG X.K Hd' σ' Γ' → AbsH X.K H' Hd' O' → ERep X.K H' Hd' cls d e → E e Γ' O' → W cls d σ' H') :
    ∀ (l : List ClD) (cls : Value) (d : Option Addr) (σ' : L2.St) (H' Hd' : Hp) (e : Ex) (Γ' : Env') (O' : Own), Same Hd Hd' → AbsG X.K Hd' σ' Γ' → AbsH X.K H' Hd' O' → ERep X.K H' Hd' cls d e → clE X E De l e Γ' O' → wCl X.K W (ends X.K Hd De) (clH X l) cls d σ' H'
  | [], cls, d, σ', H', Hd', e, Γ', O', s, g, a, r, q => ex cls d σ' H' Hd' e Γ' O' s g a r q
  | (cs, io, sts) :: l, cls, d, σ', H', Hd', e, Γ', O', s, g, h, r, q => by
    obtain ⟨b, e1, yes, no⟩ := q
    obtain ⟨e2, C, dx, e3, e4, vs, hx, rf⟩ := id r
    refine ⟨b, by rw [e2]; exact e1, fun hb a na oe pn hz hf => ?_, fun hb => cl_run ex l cls d σ' H' Hd' e Γ' O' s g h r (no hb)⟩
    rw [e2, e3, e4] at hz
    obtain ⟨Hd2, s2, h2, hd2⟩ := h.adopt hx
    have rx : Rep X.K Hd2 (.ref a) (.xc a C dx e.fs) := .xc hd2 (rf.mono s2)
    have gx : AbsG X.K Hd2 (asSt io a σ') (setX io Γ' (.xc a C dx e.fs)) := by
      cases io with
      | none => exact g.mono s2
      | some i => exact (g.mono s2).set rx
    refine wSs_mono ((yes hb a C dx oe pn e3 hz hf).run (fun _ _ _ _ => False) (asSt io a σ') H' Hd2 ⟨takes_none5, gx, h2, fun _ _ _ _ _ _ _ _ _ _ _ _ z => z⟩) ?_
    have ss := s.trans s2
    cases io with
    | none => exact ends_lift ss
    | some i =>
      exact ⟨fun σ5 H5 ⟨Γ5, O5, Hd5, s5, g5, a5, q5⟩ => ⟨Γ5.set i none, O5, Hd5, ss.trans s5, g5.setNone, a5, q5⟩, fun v5 H5 z => z.lift ss,
        fun σ5 H5 ⟨Γ5, O5, Hd5, s5, g5, a5, q5⟩ => ⟨Γ5.set i none, O5, Hd5, ss.trans s5, g5.setNone, a5, q5⟩, fun σ5 H5 ⟨Γ5, O5, Hd5, s5, g5, a5, q5⟩ => ⟨Γ5.set i none, O5, Hd5, ss.trans s5, g5.setNone, a5, q5⟩⟩
/-- try: body, except .. -/
theorem ws_try {body : List Stmt} {h₀ : ExceptHandler} {hds : List ExceptHandler} {l : List ClD} {pos : Pos} (hs : X.stack = X.env :: X.outer) (hf : X.env.frame = some X.env.locals) (hN : X.N.Nodup) (hh : HdD X (h₀ :: hds) l)
    (h : ∀ pn xe, PassesOwn (model X.prog X.w) X.A X.env xe → WSs (X.tr pn xe) (clE X E De l) body Γ O De) : WS X E (.Try body (h₀ :: hds) [] [] pos) Γ O De := .mk fun W σ H Hd q =>
  wS_of (ps_try_g (tb := fun W' De σ H => ∀ pn xe, Takes (X.tr pn xe) W' → PassesOwn (model X.prog X.w) X.A X.env xe → wSs (X.tr pn xe) body De σ H) hs hf hN q.tk (fun W' pn xe tk ho => ⟨fun pins s σ H De I h => h pn xe tk ho pins s I⟩) hh.hdG)
    fun pn xe tk ho => (h pn xe ho).run _ σ H Hd ⟨tk, q.g, q.h, cl_run q.ex l⟩
/-- e.f, e what was caught -/
theorem lookD {K : PySem.W.Frag} {H : Hp} {f : Str} : ∀ {fs : List (Str × V)} {ds : List (Str × D)} {d : D}, RepF K H fs ds → ds.lookup f = some d → ∃ v, fs.lookup f = some v ∧ Rep K H v d
  | _, _, d, .nil, h => by cases h
  | _, _, d, .cons (f := g) (v := v) (d := d') r t, h => by
    by_cases hg : f = g
    · subst hg
      simp only [List.lookup, beq_self_eq_true] at h ⊢
      cases h
      exact ⟨v, rfl, r⟩
    · have e : (f == g) = false := by simpa using hg
      simp only [List.lookup, e] at h ⊢
      exact lookD t h
theorem w_xf {a C : Addr} {oe : Obj} {dd : Addr} {pn : List (Addr × Obj)} {fs : List (Str × D)} {e : Expr} {n : Str} {d : D} {pos : Pos} {Q : PD} (T : XfC X.K C) (hno : PySem.W.findIn X.K (.ref C) n = some none) (hz : Zc (.ref C) (some dd) oe) (hf : ∃ vs, oe.data = .fields vs) (hl : fs.lookup n = some d)
    (h : WE (X.suite a ((a, oe) :: pn)) E e Γ O fun x O' => x = .xc a C dd fs ∧ Q d O') (hb : attributeBase e n X.env (eval e X.env) = eval e X.env := by rfl) : WE (X.suite a ((a, oe) :: pn)) E (.Attribute e n pos) Γ O Q := .mk fun W σ H Hd q =>
  wE_of (pe_xf T hno hz hf peW hb) (h.use q fun v H1 x O1 Hd1 s1 p1 r1 ⟨e1, q1⟩ => by
    subst e1
    cases r1 with
    | xc g rf =>
      obtain ⟨v, h1, h2⟩ := lookD rf hl
      exact ⟨rfl, rfl, dd, _, v, rfl, p1.h.same _ _ g, h1, .lift s1 (.of p1.h h2 q1)⟩)
end
/-! which clauses take an exception of an own class -/
section
variable {K : PySem.W.Frag} {S C : Addr} {b d : Bool} {cls c : Value} {r : List Value}
theorem exm_pair (h1 : PySem.W.subIn K (.ref C) (.type "BaseException") = some true) (h2 : PySem.W.isClsIn K C = true) (h3 : PySem.W.typeIn K (.ref C) = some (.type "type")) (h4 : PySem.W.subIn K (.ref S) (.ref C) = some b) : PySem.W.exmOne K (.ref S) (.ref C) = some b := by
  have g1 : (PySem.W.subIn K (.ref C) (.type "BaseException") == some true) = true := by
    rw [h1]
    rfl
  have g2 : ((PySem.W.clsIn K C).isSome && PySem.W.typeIn K (.ref C) == some (.type "type")) = true := by
    have k : (PySem.W.clsIn K C).isSome = true := h2
    rw [k, h3]
    rfl
  refine (if_pos g1).trans ?_
  exact (if_pos g2).trans h4
theorem exm_nil : PySem.W.exmAny K cls [] = some false := rfl
theorem exm_cons (h : PySem.W.exmOne K cls c = some b) (t : PySem.W.exmAny K cls r = some d) : PySem.W.exmAny K cls (c :: r) = some (b || d) := by
  unfold PySem.W.exmAny
  rw [h, t]
end
end RW

/-! RW: a lambda without parameters as a value; a def that is handed one and calls it. -/
namespace RW
open PySem PySem.Spec PyProof.Rows L2
/-- the function object o, as it stands at f -/
def LamO (f : Addr) (o : Obj) : HO := .ext fun h => h.get? f = some o
theorem lamO_at {P : Program} {w : World} {H : Hp} {h : Heap} {f : Addr} {o : Obj} (k : HOk P w H h) (e : H f = some (LamO f o)) : h.get? f = some o := by
  have x : ObjOk P w H h f (.ext fun h => h.get? f = some o) := k f _ e
  exact x.1
theorem codeO_at {P : Program} {w : World} {H : Hp} {h : Heap} {c : Addr} {q : Str} (k : HOk P w H h) (e : H c = some (LamX.CodeO c q)) : ∃ (oc : Obj) (vs : Array Value) (t : Tok), h.get? c = some oc ∧ oc.data = .fields vs ∧ vs[1]? = some (.str q t) := by
  have x : ObjOk P w H h c (.ext fun h => ∃ (oc : Obj) (vs : Array Value) (t : Tok), h.get? c = some oc ∧ oc.data = .fields vs ∧ vs[1]? = some (.str q t)) := k c _ e
  exact x.1
/-- what is known of a lambda's object -/
def lamObj (X : Cx) (params : Arguments) (body : Expr) (scope : Scope) (pm : Value) (c' : Addr) (ctv : Value) : Obj :=
  PySem.W.kla_obj "<lambda>" (X.env.qual ++ "<lambda>") params body scope (cloFrom X.env.cells scope.names []) pm c' ctv
section
variable {X : Cx} {pins : List (Addr × Obj)} {σ : L2.St} {H : Hp} {s : Shared}
theorem track {f : Addr} {o : Obj} {h' : Heap} {t' : Nat} (I : Inv X pins σ H s) (k : ∀ b u, s.heap.get? b = some u → h'.get? b = some u) (big : s.heap.objs.size ≤ f) (at_ : h'.get? f = some o) :
    Inv X pins σ (upd H f (LamO f o)) { s with heap := h', toks := t' } :=
  I.laid (a := f) (o := LamO f o) k big ⟨at_, ⟨o, at_⟩, fun _ _ z st => st _ z⟩
/-- the heap behind a lambda's making -/
def LamHp (G : Addr → Prop) (H : Hp) (P : Addr) (ps : Array Value) (q : Str) (f c' : Addr) (o : Obj) (H1 : Hp) : Prop :=
  (G c' ∧ H f = none ∧ H1 = upd H f (LamO f o)) ∨
  ∃ pos : Pos, H c' = none ∧ H f = none ∧ f ≠ c' ∧ TriplesOk (ps ++ #[rawInt pos.line, rawInt pos.col, .ref c']).toList ∧ (∀ p' cv, codeAmong p' (ps ++ #[rawInt pos.line, rawInt pos.col, .ref c']).toList = some cv → codeAmong p' ps.toList = some cv ∨ cv = .ref c') ∧
    H1 = upd (upd (upd H P (.tbl (ps ++ #[rawInt pos.line, rawInt pos.col, .ref c']))) c' (LamX.CodeO c' q)) f (LamO f o)
theorem lam_new {c P : Addr} {ps : Array Value} {params : Arguments} {body : Expr} {scope : Scope} {pos : Pos} {E : Value → Shared → Prop} {Q : Value → Shared → Prop} (I : Inv X pins σ H s) (TB : LamX.TabB X.base X.mg c P) (hcode : X.env.code = .ref c)
    (hP : H P = some (.tbl ps)) (ht : TriplesOk ps.toList) {G : Addr → Prop} (ha : ∀ p' cv, codeAmong p' ps.toList = some cv → ∃ c1, cv = .ref c1 ∧ G c1) (hdef : defaultsOf params X.env = ([], []))
    (hfree : ∀ y ∈ scope.names, y.2 = .free → ∃ c, X.env.cells.lookup y.1 = some c)
    (h : ∀ (f c' : Addr) (pm ctv : Value) (H1 : Hp) (s' : Shared), Inv X pins σ H1 s' → LamHp G H P ps (X.env.qual ++ "<lambda>") f c' (lamObj X params body scope pm c' ctv) H1 → Q (.ref f) s') :
    wpAny (model X.prog X.w) X.A (eval (.Lambda params body scope pos) X.env) Q E s := by
  have tb : s.heap.get? P = some { cls := .none, data := .fields ps } := I.hok P _ hP
  have kb := TB.bm.keeps I.bk
  refine PySem.W.kla_eval hdef ?_
  cases found : codeAmong pos ps.toList with
  | some cv =>
    obtain ⟨c', rfl, hco⟩ := ha pos cv found
    refine PySem.W.kla_makeFunctionHit (mg := X.mg) (c := c) (P := P) (ps := ps) (closure_ok hfree) I.ok.glob (I.mod.glob.keeps I.bk) hcode (TB.code.keeps I.bk) tb ht found kb ?_
    intro ctv h' tk old big
    exact h _ c' _ ctv _ _ (track (t' := tk) I (fun b u e => Heap.get?_push_of_some _ (old b u e)) big (Heap.get?_push_size h' rfl)) (.inl ⟨hco, I.hok.fresh big, rfl⟩)
  | none =>
    refine PySem.W.kla_makeFunction (mg := X.mg) (c := c) (P := P) (ps := ps) (closure_ok hfree) I.ok.glob (I.mod.glob.keeps I.bk) hcode (TB.code.keeps I.bk) tb ht found TB.gP kb ?_
    intro c' ctv h' tk old ge lt rec tab
    obtain ⟨c2, oc, vs, t, e2, ho, hd, hv⟩ := rec
    cases e2
    have J : Inv X pins σ (upd (upd H P (.tbl (ps ++ #[rawInt pos.line, rawInt pos.col, .ref c']))) c' (LamX.CodeO c' (X.env.qual ++ "<lambda>"))) { s with heap := h', toks := tk } :=
      LamX.inv_table (more := #[rawInt pos.line, rawInt pos.col, .ref c']) I hP old tab ge ⟨oc, vs, t, ho, hd, hv⟩
    have big : s.heap.objs.size ≤ h'.objs.size := Nat.le_trans ge (Nat.le_of_lt lt)
    have J2 := track (t' := tk) (f := h'.objs.size) (h' := h'.push (lamObj X params body scope ((X.mg "__name__").getD .none) c' ctv)) J (fun b u e => Heap.get?_push_of_some _ e) (Nat.le_refl _) (Heap.get?_push_size h' rfl)
    refine h _ c' _ ctv _ _ J2 (.inr ⟨pos, I.hok.fresh ge, I.hok.fresh big, Nat.ne_of_gt lt, ?_, fun p' cv e => ?_, rfl⟩)
    · simpa using PySem.TriplesOk_snoc _ _ _ _ ht
    · exact LamX.among_app (pos := pos) ps.toList ht (by simpa using e)
/-- what is known of a lambda that is handed on: made in X's frame -/
def LamOf (X : Cx) (B : Hp) (f : Addr) (params : Arguments) (body : Expr) (scope : Scope) : Prop :=
  ∃ (c' : Addr) (pm ctv : Value), B f = some (LamO f (lamObj X params body scope pm c' ctv)) ∧ B c' = some (LamX.CodeO c' (X.env.qual ++ "<lambda>"))
theorem lamHp_abs {K : PySem.W.Frag} {H Hd H1 : Hp} {O : Own} {P f c' : Addr} {ps : Array Value} {q : Str} {o : Obj} (h : AbsH K H Hd O) (hO : O P = some (.tab q)) (hP : H P = some (.tbl ps)) (hc : ∀ p' cv, codeAmong p' ps.toList = some cv → ∃ c1, cv = .ref c1 ∧ Hd c1 = some (LamX.CodeO c1 q))
    (k : LamHp (fun c => Hd c = some (LamX.CodeO c q)) H P ps q f c' o H1) : ∃ Hd1, Same Hd Hd1 ∧ AbsH K H1 Hd1 O ∧ Hd1 f = some (LamO f o) ∧ Hd1 c' = some (LamX.CodeO c' q) := by
  rcases k with ⟨k1, k2, rfl⟩ | ⟨pos, k1, k2, k3, k4, k5, rfl⟩
  · have s := same_new (o := LamO f o) (h.free k2)
    exact ⟨_, s, h.lay k2, upd_same, s _ _ k1⟩
  · have ne : P ≠ c' := ne_of_none hP k1
    rw [upd_swap ne]
    have h1 := h.lay (o := LamX.CodeO c' q) k1
    have s1 := same_new (o := LamX.CodeO c' q) (h.free k1)
    obtain ⟨nP, _⟩ := h1.own P _ hO
    have h2 := h1.put (o := .tbl (ps ++ #[rawInt pos.line, rawInt pos.col, .ref c'])) (c := .tab q) nP ⟨_, upd_same, k4, fun p' cv e => by
      rcases k5 p' cv e with e | e
      · obtain ⟨c1, e1, e2⟩ := hc p' cv e
        exact ⟨c1, e1, s1 _ _ e2⟩
      · exact ⟨c', e, upd_same⟩⟩
    rw [updO_self hO] at h2
    have nf : (upd (upd H c' (LamX.CodeO c' q)) P (.tbl (ps ++ #[rawInt pos.line, rawInt pos.col, .ref c']))) f = none := by
      rw [upd_ne (ne_of_none hP k2).symm, upd_ne k3]
      exact k2
    have s2 := same_new (o := LamO f o) (h2.free nf)
    exact ⟨_, s1.trans s2, h2.lay nf, upd_same, s2 _ _ upd_same⟩
theorem w_lambda {E : ExP} {Γ : Env'} {O : Own} {Q : PD} {c P : Addr} {params : Arguments} {body : Expr} {scope : Scope} {pos : Pos} (TB : LamX.TabB X.base X.mg c P) (hcode : X.env.code = .ref c) (hO : O P = some (.tab (X.env.qual ++ "<lambda>"))) (L : LamX.LamS X.env.scope scope)
    (h : ∀ f B, LamOf X B f params body scope → Q (.lam f B) O) (hdef : defaultsOf params X.env = ([], []) := by rfl) : WE X E (.Lambda params body scope pos) Γ O Q := .mk fun W σ H Hd p pins s I => by
  obtain ⟨_, ps, hP, ht, hc⟩ := p.h.own P _ hO
  refine lam_new I TB hcode hP ht hc hdef (L.has I.ok) fun f c' pm ctv H1 s' I1 k => ?_
  obtain ⟨Hd1, s1, h1, e1, e2⟩ := lamHp_abs p.h hO hP hc k
  exact ⟨.ref f, H1, I1, rfl, .lift s1 (.of h1 (.lam (Same.refl _)) (h f Hd1 ⟨c', pm, ctv, e1, e2⟩))⟩
end
/-! ### the call of what was handed in -/
section
variable {X : Cx} {pins : List (Addr × Obj)} {σ : L2.St} {H : Hp} {s : Shared}
/-- the context of the def that was handed the lambda, called from X at s, within a try -/
abbrev gotCx (X : Cx) (s : Shared) (H : Hp) (CXg : CXT) (Eg : XK) (Ng : List Str) (qg : Str) (sg : Scope) (g : Addr) (cdg : Value) (pn : List (Addr × Obj)) (xe : Value → Shared → Prop) : Cx :=
  (cxOf CXg X.prog X.w X.K X.mg X.base Ng qg sg g cdg X.A X.stack s H Eg).tr pn xe
/-- a(), in that def -/
theorem lam_act {CXg : CXT} {Eg : XK} {Ng : List Str} {qg : Str} {sg : Scope} {g : Addr} {cdg : Value} {pn : List (Addr × Obj)} {xe : Value → Shared → Prop} {E : L2.St → XK} {f c' : Addr} {pm ctv : Value} {params : Arguments} {body : Expr} {scope : Scope} {k i : Nat} {a : Str} {tb : L2.St → TE} {p1 p2 : Pos}
    (I : Inv X pins σ H s) (L : LamX.LamS X.env.scope scope)
    (hbind : bindArgs (PySem.W.kla_fn "<lambda>" (X.env.qual ++ "<lambda>") params body scope (cloFrom X.env.cells scope.names []) pm (.ref c') ctv) ⟨[], []⟩ = pure [])
    (hx : ∀ τ, PassesAt (L2.CX X.prog X.w) (gotCx X s H CXg Eg Ng qg sg g cdg pn xe) τ (E τ)) (hr : Room (k + 1) (X.A.deeper (envOfC qg sg s.heap.objs.size g cdg)))
    (hbody : ∀ (τ : L2.St) (A : Around) (outer : List Env) (s1 : Shared) (H1 : Hp), Room k (A.deeper (LamX.lamEnv X scope s1.heap.objs.size f c')) → PE (LamX.lamCx X A outer s1 H1 (E τ) scope f c') body (tb τ))
    (hN : Ng[i]? = some a) (hv : Vis sg a) (hd : (a == ("__debug__" : Str)) = false) (hcd : (a == ("__classdict__" : Str)) = false) :
    PE (gotCx X s H CXg Eg Ng qg sg g cdg pn xe) (.Call (.Name a p1) [] [] p2) (fun τ HZ Q => τ[i]? = some (some (.ref f)) ∧ HZ f = some (LamO f (lamObj X params body scope pm c' ctv)) ∧ HZ c' = some (LamX.CodeO c' (X.env.qual ++ "<lambda>")) ∧ tb τ σ HZ Q) := by
  refine ⟨fun pinsZ sZ τ HZ Q IZ h => ?_⟩
  obtain ⟨e1, e2, e3, e4⟩ := h
  have look := (pe_var (X := gotCx X s H CXg Eg Ng qg sg g cdg pn xe) (pos := p1) (i := i) hN hv hd hcd).run pinsZ sZ τ HZ (fun v HV => v = .ref f ∧ HV = HZ) IZ ⟨.ref f, e1, rfl, rfl⟩
  refine wpAny_Call_Name_kw (thn look fun u sV got => ?_)
  obtain ⟨v, HV, IV, rv, ev, eH⟩ := got
  rw [ev] at rv
  rw [eH] at IV
  cases (show u = Value.ref f from rv)
  have of1 := lamO_at IV.hok e2
  obtain ⟨oc, vs, t, c1, c2, c3⟩ := codeO_at IV.hok e3
  have un : Un (frs X.stack) [] H HZ s.heap sV.heap := IV.base
  have inner : codeAny (model X.prog X.w) (X.A.deeper (envOfC qg sg s.heap.objs.size g cdg)) (.call (.ref f) ⟨[], []⟩) (CR (L2.CX X.prog X.w) (envOfC qg sg s.heap.objs.size g cdg :: X.stack) X.prog X.w HZ sV Q (E τ)) sV := by
    refine PySem.W.kla_callFunE hr.depth of1 rfl L.co L.gen rfl ⟨c', oc, vs, t, rfl, c1, c2, c3⟩ ?_
    rw [hbind]
    refine wpAny_pure (wpAny_newFunctionEnv (fun y hy => (L.own y hy).2) (fun y hy => absurd hy (by simp)) (fun hl ns sb => ⟨IV.nolimit.fresh _ sb, ?_⟩) L.kind)
    have keepAll : ∀ b o, sV.heap.get? b = some o → hl.get? b = some o := fun b o e => sb.extBut b o (Nat.ne_of_lt (Heap.lt_size e)) (Heap.get?_push_of_some _ e)
    have J := LamX.lam_start2 (E := E τ) (f := f) (c' := c') (tk := sV.toks + ([] : List (Str × Value)).length) I L IV.env0 hr.hd un ns keepAll
    show codeAny _ _ (.expr body (LamX.lamEnv X scope sV.heap.objs.size f c')) _ _
    have ran := (hbody τ _ _ sV HZ (hr.deeper _)).run [] _ _ HZ Q J e4
    refine PySem.W.kla_codeExpr (wpAny_mono ran (fun v' s' got => ?_) fun _ _ z => z)
    obtain ⟨w', H', J', r', q'⟩ := got
    exact ⟨w', H', J'.os, J'.bare, J'.base, J'.hok, r', q'⟩
  refine PySem.W.callWith_F0 ⟨_, _, _, _, of1⟩ (wpAny_call (codeAny_mono inner fun r s' hq => ?_))
  match r, hq with
  | .error e, hq => exact hx τ pinsZ HZ sV e s' IV hq
  | .ok (.ret u), hq => exact IV.after hq
  | .ok .next, hq => exact False.elim hq
  | .ok .brk, hq => exact False.elim hq
  | .ok .cont, hq => exact False.elim hq
end
/-- what a thing does when it is called without arguments -/
abbrev Beh := Own → PD → (Ex → Own → Prop) → Prop
/-- in Z, a() does what S says, where slot 0 holds the function at f -/
def CallsD (Z : Cx) (a : Str) (f : Addr) (B : Hp) (S : Beh) : Prop := ∀ (pn : List (Addr × Obj)) (xe : Value → Shared → Prop) (p1 p2 : Pos) (E' : ExP) (Γ' : Env') (O' : Own) (Q' Q2 : PD) (E2 : Ex → Own → Prop),
  Γ'[0]? = some (some (.lam f B)) → S O' Q2 E2 → (∀ d O, Q2 d O → Q' d O) → (∀ e O, E2 e O → E' e Γ' O) → WE (Z.tr pn xe) E' (.Call (.Name a p1) [] [] p2) Γ' O' Q'
abbrev SpL := Beh → Own → PD → (Ex → Own → Prop) → Prop
/-- a def of the module that is handed a function -/
structure FdL (P : Program) (w : World) (K : PySem.W.Frag) (mg : Str → Option Value) (base : Heap) (x : Str) (k : Nat) (F : SpL) : Prop where
  ex : ∃ (st : Stmt) (g : Addr) (gd : FuncData) (N : List Str) (a : Str), Fun K x x st g gd ∧ FnScope N [a] (defScope st) ∧ N[0]? = some a ∧ Vis (defScope st) a ∧ (a == ("__debug__" : Str)) = false ∧ (a == ("__classdict__" : Str)) = false ∧ mg x = some (.ref g) ∧ L2.Binds K gd [a] [] ∧
    ∀ (cdv : Value) (A : Around) (outer : List Env) (s : Shared) (H : Hp) (E0 : XK) (f : Addr) (B : Hp) (S : Beh) (O : Own) (Q : PD) (Ee : Ex → Own → Prop), Room k (A.deeper (envOfC x (defScope st) s.heap.objs.size g cdv)) →
      CallsD (cxOf (L2.CX P w) P w K mg base N x (defScope st) g cdv A outer s H E0) a f B S → F S O Q Ee →
      WSs (cxOf (L2.CX P w) P w K mg base N x (defScope st) g cdv A outer s H E0) (fun e _ O' => Ee e O') (defBody st) (startD N [.lam f B]) O { nx := fun _ O' => Q .non O', rt := Q }
/-- what a lambda of X's frame does -/
def behOf (X : Cx) (scope : Scope) (body : Expr) (Γ : Env') (kb : Nat) (f : Addr) : Beh := fun O Q Ee => ∀ (A : Around) (outer : List Env) (s : Shared) (H : Hp) (E0 : XK) (c' : Addr), Room kb (A.deeper (LamX.lamEnv X scope s.heap.objs.size f c')) →
  WE (LamX.lamCx X A outer s H E0 scope f c') (fun e _ O' => Ee e O') body Γ O Q
theorem w_callLam {X : Cx} {E : ExP} {Γ : Env'} {O : Own} {Q : PD} {x : Str} {k j kb : Nat} {F : SpL} {params : Arguments} {body : Expr} {scope : Scope} {e : Expr} {p pos : Pos} (D : FdL X.prog X.w X.K X.mg X.base x k F) (hr : Room j X.A) (hj : k + 1 ≤ j) (hkb : kb + 2 ≤ j)
    (h : WA X E [e] Γ O fun ds O1 => ∃ f B, ds = [.lam f B] ∧ LamOf X B f params body scope ∧ F (behOf X scope body Γ kb f) O1 Q (fun ex O'' => E ex Γ O''))
    (L : LamX.LamS X.env.scope scope) (hbind : ∀ (q : Str) (cl : List (Str × Addr)) (pm cv ctv : Value), bindArgs (PySem.W.kla_fn "<lambda>" q params body scope cl pm cv ctv) ⟨[], []⟩ = pure [] := by intros; rfl)
    (hg : Gl X x := by rfl) (hdb : (x == ("__debug__" : Str)) = false := by decide) (he : starEach [e] X.env = (false, eval e X.env) :: starEach [] X.env := by rfl) : WE X E (.Call (.Name x p) [e] [] pos) Γ O Q := .mk fun W σ H Hd q => by
  obtain ⟨st, g, gd, N, a, Fg, Sg, hN0, hva, hd1, hd2, hm, hb, hbody⟩ := D.ex
  obtain ⟨oc, od, kV, doc, pm, an, cdv, ct, osl, rfl, lk, hcd⟩ := Fg.ex
  intro pins s I
  refine wpAny_Call_Name_kw (ld_glob I hg hm ?_ hdb)
  refine PySem.W.callWith_K (h₀ := X.base) (first := []) I.ok.mod.kin Fg.kp (thn (h.use q (Q' := fun vs H1 => ∃ ds O1 Hd1, Same Hd Hd1 ∧ Pre X E W σ H1 Hd1 Γ O1 ∧ Reps X.K Hd1 vs ds ∧ ∃ f B, ds = [.lam f B] ∧ LamOf X B f params body scope ∧ F (behOf X scope body Γ kb f) O1 Q (fun ex O'' => E ex Γ O''))
    (fun vs H1 ds O1 Hd1 s1 p1 r1 q1 => ⟨ds, O1, Hd1, s1, p1, r1, q1⟩) pos pins s I) fun us s1 got => ?_) he (by rfl)
  obtain ⟨vs, H1, I1, r1, ds, O1, Hd1, ss, p1, rs, f, B, rfl, hf, hF⟩ := got
  cases rs with | cons ra rn =>
  cases rn
  cases ra with | lam sB =>
  obtain ⟨c', pm', ctv', f1, f2⟩ := hf
  refine ⟨I1.kIn, ?_⟩
  show wpAny _ _ (call (.ref g) us) _ _ _
  obtain ⟨m, rfl⟩ : ∃ m, j = m + 1 := ⟨j - 1, by omega⟩
  have rc : codeAny (model X.prog X.w) X.A (.call (.ref g) ⟨us, []⟩) (CR (L2.CX X.prog X.w) X.stack X.prog X.w H1 s1 (Post X.K Hd Q) (fun cls d H' => W cls d σ H')) s1 := by
    refine LamX.run_ofS (N := N) (ps := [a]) (us := us) (vs := [.ref f]) lk hcd Sg hr I1.env0 ?_ r1 rfl fun hr' => ?_
    · have := hb s1 us I1.kIn (by rw [List.append_nil, ← r1.length]; rfl)
      rwa [List.append_nil] at this
    have hs1 : Same B Hd1 := sB
    have calls : CallsD (cxOf (L2.CX X.prog X.w) X.prog X.w X.K X.mg X.base N x (defScope st) g cdv X.A X.stack s1 H1 (fun cls d H' => W cls d σ H')) a f Hd1 (behOf X scope body Γ kb f) := by
      intro pn xe p1' p2' E' Γ' O' Q' Q2 E2 hΓ hS m1 m2
      refine .mk fun W2 τ HZ HdZ pZ => ?_
      obtain ⟨v, ev, rv⟩ := pZ.g.2 0 _ hΓ
      cases rv with | lam sZ =>
      have low := hs1.trans sZ
      refine wE_of (lam_act (i := 0) (k := kb) (E := fun τ cls d H => W2 cls d τ H) (tb := fun τ σ' H' Q'' => ∀ (A : Around) (outer : List Env) (s2 : Shared) (H2 : Hp), Room kb (A.deeper (LamX.lamEnv X scope s2.heap.objs.size f c')) → wE (LamX.lamCx X A outer s2 H2 (fun cls d H => W2 cls d τ H) scope f c') body σ' H' Q'')
        I1 L (hbind _ _ _ _ _) (fun τ => passAt pZ.tk τ) (hr'.mono (by omega)) (fun τ A outer s2 H2 hr2 => ⟨fun pins s σ H Q I h => h A outer s2 H2 hr2 pins s I⟩) hN0 hva hd1 hd2) ⟨ev, pZ.h.same _ _ (low _ _ f1), pZ.h.same _ _ (low _ _ f2), fun A outer s2 H2 hr2 => ?_⟩
      refine wE_mono ((hS A outer s2 H2 (fun cls d H => W2 cls d τ H) c' hr2).run (fun cls d _ H => W2 cls d τ H) σ HZ HdZ ⟨takes_of rfl rfl rfl rfl, p1.g.mono sZ, pZ.h, fun cls d σ' H' Hd' e Γ2 O2 s2' g2 a2 er ee => ?_⟩) fun v H' ⟨d, O5, Hd5, s5, a5, r5, q5⟩ => ⟨d, O5, Hd5, s5, a5, r5, m1 d O5 q5⟩
      exact pZ.ex cls d τ H' Hd' e Γ' O2 s2' (pZ.g.mono s2') a2 er (m2 e O2 ee)
    refine ⟨_, pssW, wSs_mono ((hbody cdv X.A X.stack s1 H1 (fun cls d H' => W cls d σ H') f Hd1 _ O1 Q _ (hr'.mono (by omega)) calls hF).run (fun cls d _ H => W cls d σ H) (L2.start N [.ref f]) H1 Hd1 ⟨takes_of rfl rfl rfl rfl, start_abs (.cons (.lam (Same.refl _)) .nil), p1.h, fun cls d σ' H' Hd' e Γ' O' s' g' a' er ee => ?_⟩) ?_⟩
    · exact p1.ex cls d σ H' Hd' e Γ O' s' (p1.g.mono s') a' er ee
    · exact ⟨fun σ' H' ⟨Γ', O', Hd', s', g', a', z⟩ => .lift ss ⟨_, O', Hd', s', a', .non, z⟩, fun v H' z => z.lift ss, fun _ _ ⟨_, _, _, _, _, _, z⟩ => z.elim, fun _ _ ⟨_, _, _, _, _, _, z⟩ => z.elim⟩
  refine wpAny_call (codeAny_mono rc fun r s2 hq => ?_)
  match r, hq with
  | .error er, hq => exact passAt q.tk σ pins H1 s1 er s2 I1 hq
  | .ok (.ret u), hq => exact I1.after hq
  | .ok .next, hq => exact False.elim hq
  | .ok .brk, hq => exact False.elim hq
  | .ok .cont, hq => exact False.elim hq
/-- the name of the lambdas of a def of the module -/
abbrev lamQ (qual : Str) : Str := (qual ++ ".<locals>.") ++ "<lambda>"
theorem lamQ_of {CX : CXT} {P : Program} {w : World} {K : PySem.W.Frag} {mg : Str → Option Value} {base : Heap} {N : List Str} {qual : Str} {scope : Scope} {f : Addr} {cdv : Value} {A : Around} {outer : List Env} {s : Shared} {H : Hp} {E0 : XK} :
    (cxOf CX P w K mg base N qual scope f cdv A outer s H E0).env.qual ++ "<lambda>" = lamQ qual := rfl
/-- x(lambda: body) -/
theorem w_lamcall {CX : CXT} {P : Program} {w : World} {K : PySem.W.Frag} {mg : Str → Option Value} {base : Heap} {N : List Str} {qual : Str} {sc : Scope} {fa : Addr} {cdv : Value} {A : Around} {outer : List Env} {s : Shared} {H : Hp} {E0 : XK}
    {E : ExP} {Γ : Env'} {O : Own} {Q : PD} {x : Str} {k j : Nat} (kb : Nat) {F : SpL} {c PT : Addr} {params : Arguments} {body : Expr} {scope : Scope} {p lpos pos : Pos} (D : FdL P w K mg base x k F) (hr : Room j (A.deeper (envOfC qual sc s.heap.objs.size fa cdv))) (hj : k + 1 ≤ j) (hkb : kb + 2 ≤ j)
    (TB : LamX.TabB base mg c PT) (hcode : cdv = .ref c) (hO : O PT = some (.tab (lamQ qual))) (h : ∀ f, F (behOf (cxOf CX P w K mg base N qual sc fa cdv A outer s H E0) scope body Γ kb f) O Q (fun ex O'' => E ex Γ O''))
    (L : LamX.LamS sc scope := by exact LamX.lamS_by (by decide +kernel)) (hdef : defaultsOf params (cxOf CX P w K mg base N qual sc fa cdv A outer s H E0).env = ([], []) := by rfl) (hbind : ∀ (q : Str) (cl : List (Str × Addr)) (pm cv ctv : Value), bindArgs (PySem.W.kla_fn "<lambda>" q params body scope cl pm cv ctv) ⟨[], []⟩ = pure [] := by intros; rfl)
    (hg : Gl (cxOf CX P w K mg base N qual sc fa cdv A outer s H E0) x := by rfl) (hdb : (x == ("__debug__" : Str)) = false := by decide) : WE (cxOf CX P w K mg base N qual sc fa cdv A outer s H E0) E (.Call (.Name x p) [.Lambda params body scope lpos] [] pos) Γ O Q :=
  w_callLam (X := cxOf CX P w K mg base N qual sc fa cdv A outer s H E0) (kb := kb) D hr hj hkb (wa_cons (w_lambda (X := cxOf CX P w K mg base N qual sc fa cdv A outer s H E0) TB hcode (by rw [lamQ_of]; exact hO) L (fun f B hl => wa_nil ⟨f, B, rfl, hl, h f⟩) hdef) rfl) L hbind hg hdb rfl
/-- fd_ok, the def's own code object told -/
theorem fd_okC {P : Program} {w : World} {K : PySem.W.Frag} {mg : Str → Option Value} {base : Heap} {x qual : Str} {st : Stmt} {f : Addr} {fd : FuncData} {N ps : List Str} {k : Nat} {S : SpD} (F : Fun K x qual st f fd) (Sc : FnScope N ps (defScope st)) (hl : ∀ ds O Q E, S ds O Q E → ds.length = ps.length)
    (body : ∀ (cdv : Value) (A : Around) (outer : List Env) (s : Shared) (H : Hp) (E0 : XK), fd.code = cdv → Room k (A.deeper (envOfC qual (defScope st) s.heap.objs.size f cdv)) → ∀ ds O Q E, S ds O Q E →
      WSs (cxOf (L2.CX P w) P w K mg base N qual (defScope st) f cdv A outer s H E0) (fun e _ O' => E e O') (defBody st) (startD N ds) O { nx := fun _ O' => Q .non O', rt := Q }) :
    FnOk P w K mg base (L2.CX P w) (k + 1) f fd ps (spD K S) := by
  obtain ⟨oc, od, kV, doc, pm, an, cdv, ct, osl, rfl, lk, hcd⟩ := F.ex
  refine fn_of lk hcd Sc (fun vs H Q E ⟨ds, Hd, O, Qd, Ed, a, r, q, _⟩ => by rw [r.length]; exact hl _ _ _ _ q) fun A outer s H vs Q E hr ⟨ds, Hd, O, Qd, Ed, a, r, q, k1, k2⟩ =>
    ⟨_, pssW, wSs_mono ((body cdv A outer s H E rfl hr ds O Qd Ed q).run (fun cls d _ H => E cls d H) (L2.start N vs) H Hd ⟨takes_of rfl rfl rfl rfl, start_abs r, a, fun cls d σ' H' Hd' e Γ' O' s' g' a' er ee => k2 cls d H' Hd' e O' s' a' er ee⟩)
      ⟨fun σ' H' ⟨Γ', O', Hd', s', g', a', z⟩ => k1 _ _ ⟨_, O', Hd', s', a', .non, z⟩, fun v H' z => k1 _ _ z, fun _ _ ⟨_, _, _, _, _, _, z⟩ => z.elim, fun _ _ ⟨_, _, _, _, _, _, z⟩ => z.elim⟩⟩
/-! ### the law's end, one table -/
theorem sqL_del {K : PySem.W.Frag} {H : Hp} {a PL : Addr} {xs : List V} (hT : H PL = some (.tbl #[])) (h : SqL K H a xs) : SqL K (fun b => if b = PL then none else H b) a xs := by
  have ne : ∀ {o : HO}, H a = some o → (∀ ps, o ≠ .tbl ps) → a ≠ PL := fun e k z => by
    rw [z, hT] at e
    exact k _ (Option.some.inj e).symm
  rcases h with (h | ⟨o, h⟩) | h
  · exact .inl (.inl ((if_neg (ne h fun ps z => nomatch z)).trans h))
  · exact .inl (.inr ⟨o, (if_neg (ne h fun ps z => nomatch z)).trans h⟩)
  · exact .inr h
theorem law_start {K : PySem.W.Frag} {H : Hp} {a PL : Addr} {ns : List Int} {q : Str} {S : SpD} {Q : VK} {E : XK} (hT : H PL = some (.tbl #[])) (hS : SqL K H a (ns.map V.int)) (h : ∀ O : Own, O PL = some (.tab q) → S [.rol (ns.map .int)] O (fun d _ => d = .bl true) (fun _ _ => False)) (k : ∀ H', Q (.bl true) H') :
    spD K S [.ref a] H Q E := by
  refine ⟨[.rol (ns.map .int)], fun b => if b = PL then none else H b, fun b => if b = PL then some (.tab q) else none, _, _, ⟨fun b o e => ?_, fun b c e => ?_⟩, .cons (.rol (sqL_del hT hS) (Reps.of_ints ns)) .nil, h _ (if_pos rfl), fun v H' ⟨d, O', Hd', _, _, r, e⟩ => ?_, fun _ _ _ _ _ _ _ _ _ z => z.elim⟩
  · by_cases hb : b = PL
    · rw [if_pos hb] at e; cases e
    · rw [if_neg hb] at e; exact e
  · by_cases hb : b = PL
    · rw [if_pos hb] at e
      cases e
      subst hb
      exact ⟨if_pos rfl, #[], hT, True.intro, fun p cv z => nomatch (show (none : Option Value) = some cv from z)⟩
    · rw [if_neg hb] at e; cases e
  · subst e
    cases r
    exact k _
theorem walk_T {l : PySem.W.OpenLaw} {q : Program} {loose : List Str} {XP : (Str → Option Value) → Heap → Prop} {YP : World → Heap → Prop} {d : DefRec} {K : Params → PySem.W.Frag} {x : Str} {k : Nat} {tq : Str} {S : Addr → SpD} (hn : l.most = some 63) (hdf : d.params.defaults = []) (hr : Room k callerA)
    (hY : ∀ (w : World) (h : Heap), YP w h → (K w.params).In h) (hS : ∀ PL (ns : List Int) (O : Own), ns.length ≤ 63 → (∀ z ∈ ns, Builtin.Int.intBits z ≤ 1048576) → O PL = some (.tab tq) → S PL [.rol (ns.map .int)] O (fun d _ => d = .bl true) (fun _ _ => False))
    (F : ∀ (w : World) (mg : Str → Option Value) (fa : Addr) (h : Heap), YP w h → (K w.params).In h → h.Ns mainGlobals mg → mg d.name = some (.ref fa) →
      ∃ (fd : FuncData) (cL PL : Addr), h.get? PL = some { cls := .none, data := .fields #[] } ∧ (K w.params).lookup PL = none ∧ PySem.W.CodeHd h cL PL ∧ (∀ (s : Shared) (u : Value), BindsTo s fd ⟨[u], []⟩ [(x, u)]) ∧
        ∀ base : Heap, (K w.params).In base → base.Ns mainGlobals mg → LamX.TabB base mg cL PL → FnOk l.prog w (K w.params) mg base (L2.CX l.prog w) k fa fd [x] (spD (K w.params) (S PL))) :
    PySem.W.WalkO q loose XP YP l.row.toRowW d [] (fun f vs => PySem.call f vs) :=
  LamX.walk_ofTs (n := 63) (k := k) (x := x) (CX := fun w => L2.CX l.prog w) hn (by decide) hdf hr hY
    (fun w mg fa h Y X G e => by
      obtain ⟨fd, cL, PL, h1, h2, h3, h4, h5⟩ := F w mg fa h Y X G e
      refine ⟨fd, [(cL, PL)], spD (K w.params) (S PL), ?_, ?_, ?_, h4, fun H a ns hl hb hT hs => law_start (hT _ List.mem_cons_self) hs (fun O hO => hS PL ns O hl hb hO) (fun _ => rfl), fun base b1 b2 b3 => h5 base b1 b2 (b3 _ List.mem_cons_self)⟩
      · intro p hp; rw [List.mem_singleton.mp hp]; exact h1
      · intro p hp; rw [List.mem_singleton.mp hp]; exact h2
      · intro p hp; rw [List.mem_singleton.mp hp]; exact h3)
    fun w H s e s' ⟨_, _, _, _, _, _, _, _, _, _, _, _, z⟩ => z
end RW

/-! RW: enumerate of a tuple. -/
namespace RW
open PySem PySem.Spec PyProof.Rows L2
open Sem (wp)
open AutoSeq1 (wpAny_loadPart')
section
abbrev tupItO (t : Addr) : Obj := { cls := .type "tuple_iterator", data := .fields #[.ref t, .int 0 0] }
abbrev enumO (it : Addr) : Obj := { cls := .type "enumerate", data := .fields #[.none, .bool false, .ref it, rawInt 0, .none, .none] }
theorem meets_enumT (t : Addr) (items : Array Value) (n : Nat) (dct : Option Addr) (sl : Array (Option Value)) :
    Meets (Builtin.«enumerate.__new__» ⟨[.type "enumerate", .ref t], []⟩) (fun _ R s => s.heap.get? t = some { cls := .type "tuple", dict := dct, data := .seq items n, slots := sl } ∧
      R (.ok (.ret (.ref (s.heap.push (tupItO t)).objs.size))) { s with heap := (s.heap.push (tupItO t)).push (enumO s.heap.objs.size) }) :=
  .of_wp fun prog w A R s both => by
    obtain ⟨hp, gs, dr, tn, os⟩ := s
    obtain ⟨at_, h⟩ := both
    have hsub := sub_enumerate
    have isT : Heap.IsTuple (Shared.heap ⟨hp, gs, dr, tn, os⟩) t items := ⟨_, at_, rfl, n, rfl⟩
    wp_walk using wpAny_loadPart' at_
    refine wpAny_stack_any fun stk => wpAny_pure ?_
    split
    · rename_i cc _ _ _ _ _
      cases (cc == Value.type "enumerate") <;>
        (wp_walk using wpAny_loadPart' at_, wpAny_pyIter_tuple isT; exact ⟨_, rfl, h⟩)
    · wp_walk using wpAny_loadPart' at_, wpAny_pyIter_tuple isT
      exact ⟨_, rfl, h⟩
end
section
variable {prog : Program} {w : World} {A : Around} {E : Value → Shared → Prop} {s : Shared}
theorem call_enumT {t : Addr} {items : Array Value} {Q : Value → Shared → Prop} (hT : s.heap.IsTuple t items)
    (h : ∀ h', IsEnum h' (s.heap.objs.size + 1) s.heap.objs.size 0 .none → h'.IsTupleIter s.heap.objs.size t 0 → (∀ b o, s.heap.get? b = some o → h'.get? b = some o) → Q (.ref (s.heap.objs.size + 1)) { s with heap := h' }) :
    wpAny (model prog w) A (call (.type "enumerate") [.ref t]) Q E s := by
  obtain ⟨⟨cl, dct, dat, sl⟩, at_, hc, n, hd⟩ := hT
  simp only at hc hd
  subst hc hd
  have size1 : (s.heap.push (tupItO t)).objs.size = s.heap.objs.size + 1 := Heap.size_push ..
  refine callType_new F.called_enumerate (by decide) (F.typeCall_enumerate_1 _) (F.newCall_enumerate_1 _) (fun obj => F.args_object_init_2 obj _) F.entry_enumerate_new (meets_enumT t items n dct sl) ⟨at_, ?_⟩
  show _ ∧ _
  rw [size1]
  have isE : IsEnum ((s.heap.push (tupItO t)).push (enumO s.heap.objs.size)) (s.heap.objs.size + 1) s.heap.objs.size 0 .none := by
    have z := Heap.get?_push_size (s.heap.push (tupItO t)) (o := enumO s.heap.objs.size) rfl
    rw [size1] at z
    exact z
  refine ⟨⟨_, isE, rfl⟩, h _ isE ⟨_, Heap.get?_push_of_some _ (Heap.get?_push_size _ rfl), rfl, rfl⟩ fun b o x => ?_⟩
  exact Heap.get?_push_of_some _ (Heap.get?_push_of_some _ x)
end
theorem end_enumT {prog : Program} {w : World} {A : Around} {E : Value → Shared → Prop} {s : Shared} {e it a : Addr} {i : Int} {j : Nat} {items : Array Value} {old : Value} {Q : Option Value → Shared → Prop} (hh : A.in1.handled = none) (he : IsEnum s.heap e it i old) (hit : s.heap.IsTupleIter it a j) (ht : s.heap.IsTuple a items) (hx : items[j]? = none)
    (hQ : ∀ h', Heap.ExtBut it s.heap h' → Q none { s with heap := h' }) : wpAny (model prog w) A (pyNext (.ref e)) Q E s := by
  have ty : s.TypeIs (.ref e) "enumerate" := ⟨_, he, rfl⟩
  unfold pyNext
  refine wpAny_bind (wpAny_attempt (wpAny_callSpecial?_slot (name := Str.ofString "__next__") ty F.slot_enumerate_next (wpAny_call_entry F.slot_enumerate_next ty F.entry_enumerate_next ?_ (F.args_enumerate_next_1 _))))
  show wpAny _ _ (field (.ref e) 2 >>= _) _ _ _
  refine wpAny_bind (wpAny_field he rfl (x := .ref it) rfl (wpAny_bind (wpAny_nextOf_tuple_end hh hit ht hx fun h' x he' hx' => ?_)))
  obtain ⟨o, ho, hc⟩ := hx'
  exact wpAny_bind (wpAny_isInstance (T := "StopIteration") (b := true) ⟨o, ho, hc⟩ isSubtype_stop (wpAny_pure (hQ _ he')))
/-- the tuple at a as it stands, the items in new pairs -/
def IteT (K : PySem.W.Frag) (a : Addr) : It where
  go := fun i H => ∃ (xs : List V) (x : V), SqT K H a xs ∧ xs[i]? = some x
  yld := fun i H v H' => ∃ T x, v = .ref T ∧ H T = none ∧ H' = upd H T (.tup [.int (i : Nat), x]) ∧ ∀ xs, SqT K H a xs → xs[i]? = some x
  stop := fun i H => ∃ xs : List V, SqT K H a xs ∧ xs.length ≤ i
theorem turn_enumT {P : Program} {w : World} {K : PySem.W.Frag} {elts : List Expr} {kk : Nat} {tpos : Pos} (a e it : Addr) (hne : e ≠ it) (nA : a ≠ it) (nE : e ≠ a) :
    Turn P w K (.Tuple elts kk tpos) (IteT K a) [e, it] e (fun i h => (∃ old, IsEnum h e it ((i : Nat) : Int) old) ∧ h.IsTupleIter it a i) where
  mem := List.mem_cons_self
  obj := fun i h st b hb => by
    obtain ⟨⟨old, he⟩, o, ho, hc, hd⟩ := st
    rcases (by simpa using hb : b = e ∨ b = it) with rfl | rfl
    · exact ⟨_, he, fun v q => nomatch q⟩
    · exact ⟨o, ho, fun v q => by rw [hd] at q; cases q⟩
  keep := fun i h h' st k => by
    obtain ⟨⟨old, he⟩, hi⟩ := st
    exact ⟨⟨old, k e List.mem_cons_self _ he⟩, hi.at fun o q => k it (by simp) o q⟩
  item := by
    intro X hP hw hK hc i pins s σ H E I hf st hg
    subst hP hw hK
    obtain ⟨⟨old, he⟩, hit⟩ := st
    obtain ⟨xs, x, hq, hx⟩ := hg
    obtain ⟨its, rv, pl, hz⟩ := I.tuple hq
    obtain ⟨u, hu, ru⟩ := rv.get hx
    have hel := Heap.lt_size he
    have hil : it < s.heap.objs.size := by
      obtain ⟨_, z, _⟩ := hit
      exact Heap.lt_size z
    have hlt : i < its.toArray.size := by
      rw [List.size_toArray]
      exact (List.getElem?_eq_some_iff.mp hu).1
    have DR := Draws.tuple (prog := X.prog) (w := X.w) (A := X.A.in1) (show X.A.in1.handled = none from I.ok.hd hc) it a nA its.toArray
    refine wpAny_pyNext_enum_itemD DR he ⟨hit, show s.heap.IsTuple a its.toArray from pl⟩ hlt hne (by simp [hne, nE]) fun x' h' tk hx' ho st' hT hsz hk => ?_
    obtain rfl : x' = u := by
      have : its.toArray[i]? = some x' := hx'
      rw [List.getElem?_toArray, hu] at this
      exact (Option.some.inj this).symm
    refine ⟨_, rfl, wpAny_letOwnedTupleGo_enum (s := { s with heap := h', toks := tk + 1 }) ho fun h'' he' sb => ?_⟩
    have T2 : h''.get? s.heap.objs.size = some { cls := .type "tuple", data := .seq #[.int i tk, x'] } := (sb.2 _ (Nat.ne_of_gt hel)).trans hT
    have new : ObjOk X.prog X.w (upd H s.heap.objs.size (.tup [.int (i : Nat), x])) h'' s.heap.objs.size (.tup [.int (i : Nat), x]) :=
      ⟨(show 2 ≤ sizeLine by decide), [.int i tk, x'], .cons ⟨_, rfl⟩ (.cons ru .nil), ⟨_, T2, rfl, _, rfl⟩⟩
    have I1 : Inv X pins σ (upd H s.heap.objs.size (.tup [.int (i : Nat), x])) { s with heap := h'', toks := tk + 1 } :=
      I.turnedNew (ch := [e, it]) (fun b ob hb q => (sb.2 b fun z => hb (by simp [z])).trans (hk b ob (fun z => hb (by simp [z])) (fun z => hb (by simp [z])) q)) hf (Nat.le_refl _) new
    refine ⟨.ref s.heap.objs.size, _, I1, rfl, ⟨_, x, rfl, I.hok.fresh (Nat.le_refl _), rfl, fun ys hy => ?_⟩, ⟨⟨x', ?_⟩, st'.1.at fun o q => (sb.2 it hne.symm).trans q⟩, fun b hb => ?_⟩
    · rw [I.tuple_inj hy hq]
      exact hx
    · rw [show ((i + 1 : Nat) : Int) = (i : Int) + 1 by omega]
      exact he'
    · have small : b < s.heap.objs.size := by
        rcases (by simpa using hb : b = e ∨ b = it) with rfl | rfl
        · exact hel
        · exact hil
      rw [upd_ne (Nat.ne_of_lt small)]
      exact (hf b hb).1
  done := by
    intro X hP hw hK hc i pins s σ H E I hf st hg
    subst hP hw hK
    obtain ⟨⟨old, he⟩, hit⟩ := st
    obtain ⟨xs, hq, hx⟩ := hg
    obtain ⟨its, rv, pl, hz⟩ := I.tuple hq
    obtain ⟨f0, f1, f2, f3, f4, f5⟩ := hf it (by simp)
    have hl := rv.length
    exact end_enumT (show X.A.in1.handled = none from I.ok.hd hc) he hit (show s.heap.IsTuple a its.toArray from pl) (by simp; omega) fun h' eb => ⟨rfl, I.turned (t' := s.toks) (fun b o hb q => eb b o hb q) f0 f1 f3 f4 f5⟩
  self := fun A i s Q E st h => by
    obtain ⟨⟨_, he⟩, _⟩ := st
    exact wpAny_pyIter_enum he h
def iEnumT (K : PySem.W.Frag) (ta : TA) : TI := fun σ H R => ta σ H fun vs H1 => ∃ a xs, vs = [.ref a] ∧ SqT K H1 a xs ∧ R (IteT K a) H1
theorem pi_enumT {X : Cx} {e : Expr} {ta : TA} {p pos tpos : Pos} {elts : List Expr} {kk : Nat} (hg : Gl X "enumerate") (hm : X.mg "enumerate" = none) (ha : PA X [e] ta) (hs : starEach [e] X.env = [(false, eval e X.env)]) :
    PI X (.Tuple elts kk tpos) (.Call (.Name "enumerate" p) [e] [] pos) (iEnumT X.K ta) := by
  refine ⟨fun pins s σ H R I h => Call_ (ld_blt I hg hm boot_enumerate (PyProof.Rows.callWith_type1 (thn (ha.run pos pins s σ H _ I h) fun us s1 got => ?_) hs rfl))⟩
  obtain ⟨vs, H1, I1, r1, a, xs, ex, hq, q⟩ := got
  subst ex
  cases r1 with
  | cons r rr =>
    cases rr
    cases r
    obtain ⟨its, rv, pl, hz⟩ := I1.tuple hq
    have isT : s1.heap.IsTuple a its.toArray := pl
    have ha' : a < s1.heap.objs.size := by
      obtain ⟨o, z, _⟩ := isT
      exact Heap.lt_size z
    refine call_enumT isT fun h' he hit hk => wpAny_pyIter_enum he ?_
    refine ⟨s1.heap.objs.size + 1, [s1.heap.objs.size + 1, s1.heap.objs.size], _, _, H1, rfl, I1.kept (t' := s1.toks) hk, turn_enumT a (s1.heap.objs.size + 1) s1.heap.objs.size (Nat.succ_ne_self _) (Nat.ne_of_lt ha') (Nat.ne_of_gt (Nat.lt_succ_of_lt ha')), ⟨⟨.none, he⟩, hit⟩, fun b hb => ?_, q⟩
    have hle : s1.heap.objs.size ≤ b := by
      rcases (by simpa using hb : b = s1.heap.objs.size + 1 ∨ b = s1.heap.objs.size) with rfl | rfl
      · exact Nat.le_succ _
      · exact Nat.le_refl _
    exact I1.fpOk hle (I1.hok.fresh hle)
/-- for i, x in enumerate(a tuple) -/
theorem wi_enumT {X : Cx} {E : ExP} {Γ : Env'} {O : Own} {l : Expr} {p pos : Pos} {elts : List Expr} {kk : Nat} {tpos : Pos} {R : (Own → Prop) → List D → Own → Prop} (hm : X.mg "enumerate" = none) (h : WE X E l Γ O fun x O1 => ∃ ds, x = .tup ds ∧ R (fun _ => True) (enumD ds) O1)
    (hg : Gl X "enumerate" := by rfl) (hs : starEach [l] X.env = [(false, eval l X.env)] := by rfl) : WI X E (.Tuple elts kk tpos) (.Call (.Name "enumerate" p) [l] [] pos) Γ O R := .mk fun W σ H Hd q =>
  wI_of (pi_enumT hg hm (pa_cons peW pa_nil hs) hs) (h.use q fun v H1 x O1 Hd1 s1 p1 r1 ⟨ds, e, q⟩ => by
    subst e
    cases r1 with | @tup a vs _ g r =>
    refine ⟨a, vs, rfl, Same.sqT p1.h.same g.sqT, _, _, O1, Hd1, s1, p1.h, fun i H2 Hd2 O2 s2 h2 g2 => ?_, q⟩
    have g3 := Same.sqT h2.same (Same.sqT s2 g.sqT)
    have r2 := r.mono s2
    refine ⟨fun d hd => ?_, fun hl => ⟨vs, g3, by rw [r2.length]; rw [enumD_len] at hl; exact hl⟩⟩
    obtain ⟨x', hx, rfl⟩ := enumD_get hd
    obtain ⟨v, hv, rv⟩ := r2.get hx
    refine ⟨⟨vs, v, g3, hv⟩, fun y H' got => ?_⟩
    obtain ⟨T, z, e2, nT, e3, hz⟩ := got
    have e4 := hz vs g3
    rw [hv] at e4
    cases e4
    subst e2 e3
    have sn := same_new (o := HO.tup [.int (i : Nat), v]) (h2.free nT)
    exact ⟨_, sn, h2.lay nT, .pr (.inl (.inl upd_same)) (.cons (.int _) (.cons (rv.mono sn) .nil))⟩)
/-! a comprehension with a test: just what comes of it -/
def filtD (P : Nat → D → Bool) (g : Nat → D → D) : Nat → List D → List D
  | _, [] => []
  | k, d :: ds => if P k d then g k d :: filtD P g (k + 1) ds else filtD P g (k + 1) ds
theorem filtD_take {P : Nat → D → Bool} {g : Nat → D → D} {d : D} : ∀ {i k : Nat} {ds : List D}, ds[i]? = some d → filtD P g k (ds.take (i + 1)) = filtD P g k (ds.take i) ++ (if P (k + i) d then [g (k + i) d] else [])
  | 0, k, x :: ds, h => by
    cases Option.some.inj (show some x = some d from h)
    simp only [List.take, filtD, List.nil_append]
    split <;> simp_all
  | i + 1, k, x :: ds, h => by
    have ih := filtD_take (P := P) (g := g) (i := i) (k := k + 1) (ds := ds) (by simpa using h)
    rw [show k + 1 + i = k + (i + 1) by omega] at ih
    simp only [List.take, filtD] at ih ⊢
    split
    · rw [ih]; rfl
    · rw [ih]
  | _, _, [], h => by simp at h
theorem filtD_len {P : Nat → D → Bool} {g : Nat → D → D} : ∀ {k : Nat} {ds : List D}, (filtD P g k ds).length ≤ ds.length
  | _, [] => Nat.le_refl _
  | k, d :: ds => by
    have := filtD_len (P := P) (g := g) (k := k + 1) (ds := ds)
    simp only [filtD]
    split
    · simp only [List.length_cons]; omega
    · simp only [List.length_cons]; omega
section
variable {X : Cx} {Γ : Env'} {elt tg : Expr} {ifs : List Expr} {scope : Scope} {Q : PD}
theorem lc_filt {vs : List Nat} {G : Own → Prop} {ds : List D} {O1 : Own} (P : Nat → D → Bool) (g : Nat → D → D) (hl : ds.length ≤ 100000) (hG : ∀ O2, Sub O1 O2 → G O2)
    (hs : ∀ (i : Nat) (d : D) (O2 : Own), ds[i]? = some d → Sub O1 O2 → ∀ s H C cl fp, WGc (blkX X scope s H C cl fp) vs tg d (wipeD Γ vs) O2 fun Γ3 O3 => O3 = O2 ∧ ∀ s H C cl fp, WTs (blkX X scope s H C cl fp) noEx ifs Γ3 O2 fun b O4 => O4 = O2 ∧ b = P i d ∧ (b = true → ∀ s H C cl fp, WE (blkX X scope s H C cl fp) noEx elt Γ3 O2 (fun y O5 => O5 = O2 ∧ y = g i d)))
    (hd : Mk (filtD P g 0 ds) O1 Q) : LcBody X Γ elt tg ifs scope vs G ds O1 Q := fun p np => by
  refine ⟨fun i acc O2 => O2 = updO O1 p (.lst acc) ∧ acc = filtD P g 0 (ds.take i) ∧ i ≤ ds.length, ⟨rfl, rfl, Nat.zero_le _⟩, fun i acc O2 ⟨e, _⟩ => ?_, fun i d acc O2 hd' ⟨e, el, ei⟩ s H C cl fp => ?_, fun acc O2 ⟨e, el, _⟩ => ?_⟩
  · subst e
    exact ⟨hG _ (Sub.new np), updO_same⟩
  · have hlt : i < ds.length := (List.getElem?_eq_some_iff.mp hd').1
    have htk := filtD_take (P := P) (g := g) (k := 0) hd'
    rw [Nat.zero_add] at htk
    refine .mk fun σ H1 Hd v gg a r => ?_
    refine wG_mono ((hs i d O2 hd' (by rw [e]; exact Sub.new np) s H C cl fp).run σ H1 Hd v gg a r) fun σ' H' ⟨ew, Γ3, O3, Hd3, s3, g3, a3, e3, q3⟩ => ⟨ew, Γ3, O3, Hd3, s3, g3, a3, fun s H C cl fp => ?_⟩
    subst e3
    refine (q3 s H C cl fp).mono fun b O4 ⟨e4, eb, q4⟩ => ?_
    subst e4
    cases b with
    | false => exact br_f rfl ⟨e, by rw [htk, ← eb, el]; simp, hlt⟩
    | true =>
      refine br_t rfl fun s H C cl fp => ?_
      refine (q4 rfl s H C cl fp).mono fun y O5 ⟨e5, ey⟩ => ?_
      rw [e5, e, updO_same, updO_updO]
      refine ⟨rfl, ?_, rfl, by rw [htk, ← eb, el, ey]; simp, hlt⟩
      rw [el]
      have := filtD_len (P := P) (g := g) (k := 0) (ds := ds.take i)
      rw [List.length_take] at this
      exact Nat.lt_of_lt_of_le (m := 100001) (by omega) (by decide)
  · subst e
    rw [List.take_length] at el
    subst el
    rcases hd with q | q
    · exact .inr (by rw [delO_updO np]; exact q)
    · exact .inl (q p np)
end
end RW

/-! RW: xs[-1] op= e, of an owned list. -/
namespace RW
open PySem PySem.Spec PyProof.Rows L2
section
variable {X : Cx} {E : ExP} {Γ : Env'} {O : Own} {e o i : Expr} {pos tpos : Pos} {De : EndsD}
def rGetN (K : PySem.W.Frag) : V → V → Hp → VK → Prop := fun o i H Q => ∃ p xs k v, o = .ref p ∧ i = .int k ∧ k < 0 ∧ SqL K H p xs ∧ atI xs k = some v ∧ Q v H
theorem get_listN : PGet X (rGetN X.K) := by
  intro pins s σ H x y v u Q I rx ry h
  obtain ⟨p, xs, i, z, rfl, rfl, hneg, hq, he, q⟩ := h
  cases rx
  obtain ⟨t, rfl⟩ := ry
  obtain ⟨its, r, pl, hz⟩ := I.list hq
  obtain ⟨j, h1, h2, h3, h4, h5⟩ := atI_get he
  obtain ⟨w, ew, rw'⟩ := r.get h2
  have hl := r.length
  have hn := line63
  have fin : EP X pins σ Q w s := ⟨z, H, I, rw', q⟩
  have hj : (i + (its.toArray.size : Int)).toNat = j := by
    rw [seqIndex_neg (by omega) h4] at h1
    rw [List.size_toArray, ← hl]
    exact Option.some.inj h1
  exact wpAny_getItem_list_neg (Q := EP X pins σ Q) pl.isList (by omega) (by rw [List.size_toArray] <;> omega) (by omega) (by rw [hj]; simpa using ew) fin
/-- xs[-n] op= e, of an owned list of ints -/
theorem ws_augIx {op : Operator} {f : Int → Int → Int} (ho : PIp X op (ipI f)) (h : WE X E o Γ O fun x O1 => WE X E i Γ O1 fun y O2 => ∃ (p : Addr) (k : Int) (ds : List D) (j : Nat) (n : Int), x = .obj p ∧ y = .int k ∧ k < 0 ∧ O2 p = some (.lst ds) ∧ ixN ds.length k = some j ∧ ds[j]? = some (.int n) ∧ WE X E e Γ O2 fun d O3 => ∃ m, d = .int m ∧ O3 p = some (.lst ds) ∧ De.nx Γ (updO O3 p (.lst (ds.set j (.int (f n m))))))
    (ha : ∀ ov iv new, augStore i ov iv new = (do holding [new, ov, iv] (setItem ov iv new); release [new, ov, iv] []; pure .next) := by intros; rfl) :
    WS X E (.AugAssign (.Subscript o i tpos) op e pos) Γ O De := .mk fun W σ H Hd p =>
  wS_of (ps_augS peW peW get_listN peW ho set_list ha) (h.use p fun ov H1 x O1 Hd1 s1 p1 r1 q1 => q1.use p1 fun iv H2 y O2 Hd2 s2 p2 r2 ⟨q, k, ds, j, n, e1, e2, e3, e4, e5, e6, q2⟩ => by
    subst e1; subst e2
    cases r1; cases r2
    obtain ⟨n0, vs, h1, h2⟩ := p2.h.own q _ e4
    obtain ⟨v, hv, rv⟩ := h2.get e6
    cases rv
    refine ⟨q, vs, k, _, rfl, rfl, e3, .inl (.inl h1), by unfold atI; rw [h2.length, e5]; exact hv, q2.use p2 fun u H3 d O3 Hd3 s3 p3 r3 ⟨m, e7, e8, q3⟩ => ?_⟩
    subst e7
    cases r3
    obtain ⟨n1, vs3, h3, h4⟩ := p3.h.own q _ e8
    exact ⟨n, m, rfl, rfl, q, vs3, k, j, rfl, rfl, h3, by rw [h4.length]; exact e5, Γ, _, Hd3, (s1.trans s2).trans s3, p3.g, p3.h.putL n1 (h4.set (.int _) j), q3⟩)
/-- a list as a test -/
theorem wt_lst {Q : Bool → Own → Prop} (h : WE X E e Γ O fun x O1 => ∃ xs, asL O1 x = some xs ∧ Q (!xs.isEmpty) O1)
    (he : ∀ whole, isTrue e X.env whole = (do let v ← whole; standAt e.pos; holding [v] (truthy v)) := by exact fun _ => rfl) : WT X E e Γ O Q := .mk fun W σ H Hd p =>
  wT_of (pt_truth peW he) (h.use p fun v H1 x O1 Hd1 s1 p1 r1 ⟨xs, e1, q⟩ => by
    obtain ⟨a, vs, rfl, g, r2⟩ := p1.h.readL r1 e1
    have e2 : vs.isEmpty = xs.isEmpty := by
      cases r2 <;> rfl
    refine ⟨!vs.isEmpty, .inl ⟨vs, g, rfl⟩, ?_⟩
    rw [e2]
    exact ⟨O1, Hd1, s1, p1.h, q⟩)
end
end RW

/-! RW: zip of two rows; tuple += tuple; xs.pop(i). -/
namespace RW
open PySem PySem.Spec PyProof.Rows L2
def zipD (xs ys : List D) : List D := List.zipWith (fun x y => D.pr [x, y]) xs ys
theorem zipD_len {xs ys : List D} : (zipD xs ys).length = min xs.length ys.length := List.length_zipWith
theorem zipD_get {xs ys : List D} {i : Nat} {d : D} (h : (zipD xs ys)[i]? = some d) : ∃ x y, xs[i]? = some x ∧ ys[i]? = some y ∧ d = .pr [x, y] := by
  unfold zipD at h
  rw [List.getElem?_zipWith] at h
  cases hx : xs[i]? with
  | none => rw [hx] at h; cases h
  | some x =>
    cases hy : ys[i]? with
    | none => rw [hx, hy] at h; cases h
    | some y =>
      rw [hx, hy] at h
      exact ⟨x, y, rfl, rfl, (Option.some.inj h).symm⟩
/-- for x, y in zip(xs, ys) -/
theorem wi_zip {X : Cx} {E : ExP} {Γ : Env'} {O : Own} {l l2 : Expr} {p pos : Pos} {elts : List Expr} {kk : Nat} {tpos : Pos} {R : (Own → Prop) → List D → Own → Prop} (hm : X.mg "zip" = none)
    (h : WA X E [l, l2] Γ O fun ds O1 => ∃ x y xs ys, ds = [x, y] ∧ asL O1 x = some xs ∧ asL O1 y = some ys ∧ R (fun O => asL O x = some xs ∧ asL O y = some ys) (zipD xs ys) O1)
    (hg : Gl X "zip" := by rfl) (hs : starEach [l, l2] X.env = (false, eval l X.env) :: starEach [l2] X.env := by rfl) (hpl : (backTo pos (starEach [l2] X.env)).any (·.1) = false := by rfl) : WI X E (.Tuple elts kk tpos) (.Call (.Name "zip" p) [l, l2] [] pos) Γ O R := .mk fun W σ H Hd q =>
  wI_of (RZ.pi_zipA hg hm paW hs hpl) (h.use q fun vs H1 ds O1 Hd1 s1 p1 r1 ⟨x, y, xs, ys, e, ex, ey, qq⟩ => by
    subst e
    cases r1 with | cons rx r1 =>
    cases r1 with | cons ry r1 =>
    cases r1
    obtain ⟨a, vx, e1, gx, rx2⟩ := p1.h.readL rx ex
    obtain ⟨b, vy, e2, gy, ry2⟩ := p1.h.readL ry ey
    subst e1 e2
    refine ⟨a, b, vx, vy, rfl, .inl ⟨gx, gy, _, _, O1, Hd1, s1, p1.h, fun i H2 Hd2 O2 s2 h2 g2 => ?_, qq⟩⟩
    obtain ⟨a', vx', e1, gx', rx'⟩ := h2.readL (rx.mono s2) g2.1
    cases e1
    obtain ⟨b', vy', e2, gy', ry'⟩ := h2.readL (ry.mono s2) g2.2
    cases e2
    refine ⟨fun d hd => ?_, fun hl => ⟨vx', vy', gx', gy', by rw [rx'.length, ry'.length]; rw [zipD_len] at hl; omega⟩⟩
    obtain ⟨x', y', hx, hy, rfl⟩ := zipD_get hd
    obtain ⟨v, hv, rv⟩ := rx'.get hx
    obtain ⟨u, hu, ru⟩ := ry'.get hy
    refine ⟨⟨vx', vy', v, u, gx', gy', hv, hu⟩, fun z H' got => ?_⟩
    obtain ⟨T, v2, u2, e2, nT, e3, hz1, hz2⟩ := got
    have e4 := hz1 vx' gx'
    rw [hv] at e4
    cases e4
    have e5 := hz2 vy' gy'
    rw [hu] at e5
    cases e5
    subst e2 e3
    have sn := same_new (o := HO.tup [v, u]) (h2.free nT)
    exact ⟨_, sn, h2.lay nT, .pr (.inl (.inl upd_same)) (.cons (rv.mono sn) (.cons (ru.mono sn) .nil))⟩)
/-! tuple += tuple -/
theorem noI_tuple_add : typeLookup (.type "tuple") (dunderI "add") = pure none := by rw [typeLookup_type, builtinLookup_eq_fast]; kernel_rfl
section
variable {prog : Program} {w : World} {A : Around} {E : Value → Shared → Prop} {s : Shared}
theorem iconcat_meets {T id : String} {B : Builtin} {a b : Value} {S : PySem.Spec} {Q : Value → Shared → Prop} (ha : s.TypeIs a T) (hb : s.TypeIs b T) (hno : typeLookup (.type T) (dunderI "add") = pure none)
    (hfill : fillsNumberSlot (.type T) "add" = pure false) (hseq : seqSlot? (.type T) "__add__" = pure (some (.builtin id))) (slot : Slot T "__add__" id)
    (entry : entryFor table id = some B) (args : argsOk id ⟨[a, b], []⟩) (g : Meets (B ⟨[a, b], []⟩) S) (h : S A (wants Q E) s) : wpAny (model prog w) A (inplaceOp .Add a b) Q E s :=
  wpAny_inplaceOp_concat ha hb hno hfill hseq (call_meets slot ha entry args g h)
open HT in
theorem icat_tup0 {t b : Addr} {ws : List Value} {Q : Value → Shared → Prop} (ht : IsTup s.heap t ([] : List Value).toArray) (hb : IsTup s.heap b ws.toArray) (h : Q (.ref b) s) : wpAny (model prog w) A (inplaceOp .Add (.ref t) (.ref b)) Q E s := by
  obtain ⟨⟨cls, dd, data, sl⟩, ho, hc, n, hd⟩ := id ht
  obtain ⟨⟨cls2, dd2, data2, sl2⟩, ho2, hc2, n2, hd2⟩ := id hb
  simp only at hc hd hc2 hd2
  subst hc hd hc2 hd2
  exact iconcat_meets ⟨_, ho, rfl⟩ ⟨_, ho2, rfl⟩ noI_tuple_add noFill_tuple_add seq_tuple_add PySem.F.slot_tuple_add PySem.F.entry_tuple_add (PySem.F.args_tuple_add_2 _ _)
    (tuple_addW0 t b ([] : List Value).toArray ws.toArray n n2 dd dd2 sl sl2 (by simp)) ⟨ho, ho2, h⟩
open HT in
theorem icat_tup {t b : Addr} {vs ws : List Value} {Q : Value → Shared → Prop} (ht : IsTup s.heap t vs.toArray) (hb : IsTup s.heap b ws.toArray) (hv : vs ≠ [])
    (h1 : ws = [] → Q (.ref t) s) (h2 : ws ≠ [] → Q (.ref s.heap.objs.size) { s with heap := s.heap.push { cls := .type "tuple", data := .seq (vs ++ ws).toArray } })
    (hsz : vs.length + ws.length ≤ sizeLine) : wpAny (model prog w) A (inplaceOp .Add (.ref t) (.ref b)) Q E s := by
  obtain ⟨⟨cls, dd, data, sl⟩, ho, hc, n, hd⟩ := id ht
  obtain ⟨⟨cls2, dd2, data2, sl2⟩, ho2, hc2, n2, hd2⟩ := id hb
  simp only at hc hd hc2 hd2
  subst hc hd hc2 hd2
  have e : vs.toArray ++ ws.toArray = (vs ++ ws).toArray := by simp
  by_cases hw : ws = []
  · exact iconcat_meets ⟨_, ho, rfl⟩ ⟨_, ho2, rfl⟩ noI_tuple_add noFill_tuple_add seq_tuple_add PySem.F.slot_tuple_add PySem.F.entry_tuple_add (PySem.F.args_tuple_add_2 _ _)
      (tuple_addW1 t b vs.toArray ws.toArray n n2 dd dd2 sl sl2 (by simpa using hv) (by simp [hw])) ⟨ho, ho2, h1 hw⟩
  · refine iconcat_meets ⟨_, ho, rfl⟩ ⟨_, ho2, rfl⟩ noI_tuple_add noFill_tuple_add seq_tuple_add PySem.F.slot_tuple_add PySem.F.entry_tuple_add (PySem.F.args_tuple_add_2 _ _)
      (tuple_addW2 t b vs.toArray ws.toArray n n2 dd dd2 sl sl2 (by simpa using hv) (by simpa using hw) (by rw [List.size_toArray, List.size_toArray]; exact hsz)) ⟨ho, ho2, ?_⟩
    rw [e]
    exact h2 hw
end
section
variable {X : Cx} {E : ExP} {Γ : Env'} {O : Own} {e o : Expr} {pos : Pos} {De : EndsD}
theorem ip_catN : PIp X .Add (rCatN X.K) := by
  intro pins s σ H x y v u Q I rx ry h
  obtain ⟨a, b, xs, ys, rfl, rfl, ha, hb, hz, q0, q1, q2⟩ := h
  cases rx
  cases ry
  obtain ⟨its, r1, p1, _⟩ := I.tuple ha
  obtain ⟨its2, r2, p2, _⟩ := I.tuple hb
  by_cases hx : xs = []
  · subst hx
    cases r1
    exact icat_tup0 p1 p2 ⟨.ref b, H, I, rfl, q0 rfl⟩
  · refine icat_tup p1 p2 (fun z => hx (r1.nil_iff.mp z)) (fun z => ⟨.ref a, H, I, rfl, q1 hx (r2.nil_iff.mp z)⟩) (fun z => ?_) (by rw [← r1.length, ← r2.length]; exact hz)
    exact lay_tup (us := its ++ its2) I (r1.append r2) (by rw [List.length_append]; exact hz) (q2 hx fun w => z (r2.nil_iff.mpr w))
/-- t += u -/
theorem ws_augT (i : Nat) {x : Str} {pos' : Pos} (hN : X.N.Nodup) {xs : List D} (hd : Γ[i]? = some (some (.tup xs))) (h : WE X E e Γ O fun d O' => ∃ ys, d = .tup ys ∧ xs.length + ys.length ≤ 100000 ∧ De.nx (Γ.set i (some (.tup (xs ++ ys)))) O')
    (hi : X.N[i]? = some x := by rfl) (hx : Loc X.env.scope x := by first | exact Or.inl rfl | exact Or.inr rfl) (hf : X.fn x = true ∨ X.env.scope.names.lookup x = some .local := by first | exact .inl rfl | exact .inr rfl) :
    WS X E (.AugAssign (.Name x pos') .Add e pos) Γ O De := .mk fun W σ H Hd p => by
  obtain ⟨v, ev, rv⟩ := p.g.2 i _ hd
  exact wS_of (ps_aug hN hi hx peW ip_catN hf) ⟨v, ev, h.use p fun u H' d O' Hd' s p' r ⟨ys, e1, hl, q⟩ => by
    subst e1
    have rv' := rv.mono s
    have rv2 := rv'
    have r2' := r
    cases rv' with | tup g1 r1 =>
    cases r with | tup g2 r2 =>
    refine ⟨_, _, _, _, rfl, rfl, Same.sqT p'.h.same g1.sqT, Same.sqT p'.h.same g2.sqT, by rw [r1.length, r2.length]; exact Nat.le_trans hl (by decide), fun z => ?_, fun _ z => ?_, fun _ _ a o np hd => ?_⟩
    · have e : xs = [] := r1.nil_iff.mp z
      subst e
      exact ⟨_, O', Hd', s, p'.g.set r2', p'.h, by simpa using q⟩
    · have e : ys = [] := r2.nil_iff.mp z
      subst e
      exact ⟨_, O', Hd', s, p'.g.set rv2, p'.h, by simpa using q⟩
    · obtain ⟨d3, O3, Hd3, s3, h3, r3, e3, e4⟩ : Post X.K Hd' (fun d O2 => d = .tup (xs ++ ys) ∧ O2 = O') (.ref a) _ := .mkT p'.h np hd (r1.append r2) ⟨rfl, rfl⟩
      subst e3 e4
      exact ⟨_, _, Hd3, s.trans s3, (p'.g.mono s3).set r3, h3, q⟩⟩
/-- a, b, c = x, y, z -/
theorem ws_par3 (i j l : Nat) {a b c : Expr} {x y z : Str} {px py pz pt pt2 : Pos} {kt k2 : Nat} (hc : X.calm = true) (hN : X.N.Nodup) (h : WA X E [a, b, c] Γ O fun ds O' => ∃ d1 d2 d3, ds = [d1, d2, d3] ∧ De.nx (((Γ.set i (some d1)).set j (some d2)).set l (some d3)) O')
    (hi : X.N[i]? = some x := by rfl) (hj : X.N[j]? = some y := by rfl) (hl : X.N[l]? = some z := by rfl) (hij : i ≠ j := by decide) (hil : i ≠ l := by decide) (hjl : j ≠ l := by decide)
    (hx : X.env.scope.names.lookup x = some .local := by rfl) (hy : X.env.scope.names.lookup y = some .local := by rfl) (hz : X.env.scope.names.lookup z = some .local := by rfl)
    (hw : swappedStores [.Tuple [.Name x px, .Name y py, .Name z pz] kt pt] (.Tuple [a, b, c] k2 pt2) X.env = pure (some [x, y, z]) := by rfl)
    (hs : swapsWithSole [.Tuple [.Name x px, .Name y py, .Name z pz] kt pt] (.Tuple [a, b, c] k2 pt2) pos.line X.env = pure false := by rfl) :
    WS X E (.Assign [.Tuple [.Name x px, .Name y py, .Name z pz] kt pt] (.Tuple [a, b, c] k2 pt2) pos) Γ O De := .mk fun W σ H Hd p =>
  wS_of (ps_par3 hc hN hi hj hl hij hil hjl hx hy hz paW hw hs) (h.use p fun vs H' ds O' Hd' s p' r ⟨d1, d2, d3, e1, q⟩ => by
    subst e1
    cases r with | cons r1 r =>
    cases r with | cons r2 r =>
    cases r with | cons r3 r =>
    cases r
    exact ⟨_, _, _, rfl, _, O', Hd', s, ((p'.g.set r1).set r2).set r3, p'.h, q⟩)
/-- xs.pop(0), of an owned list -/
theorem w_pop0 {Q : PD} {apos : Pos} (h : WE X E o Γ O fun x O1 => ∃ p, x = .obj p ∧ (∃ ds, O1 p = some (.lst ds)) ∧ WE X E e Γ O1 fun d O2 => ∃ dd ds, d = .int 0 ∧ O2 p = some (.lst (dd :: ds)) ∧ Q dd (updO O2 p (.lst ds)))
    (hbase : attributeBase o "pop" X.env (eval o X.env) = eval o X.env := by rfl)
    (hfew : ((backTo pos (starEach [e] X.env)).all (fun x => !x.1) && (backToKw pos (keywordEach [] X.env)).all (fun x => x.1.isSome) && decide ([e].length + ([] : List Keyword).length + (if ([] : List Keyword).isEmpty then 0 else 1) < 30)) = true := by rfl)
    (hline : (apos.endLine == pos.line) = true := by rfl) (hs : starEach [e] X.env = [(false, eval e X.env)] := by rfl) :
    WE X E (.Call (.Attribute o "pop" apos) [e] [] pos) Γ O Q := .mk fun W σ H Hd q =>
  wE_of (pe_bm PySem.F.plainAttrs_list PySem.F.slot_list_pop PySem.F.type_list_pop mt_popAt peW (pa_cons peW pa_nil hs) hbase hfew hline hs (by rfl)) (h.use q fun v H1 x O1 Hd1 s1 p1 r1 ⟨p, e1, ⟨ds0, g0⟩, q1⟩ => by
    subst e1
    cases r1
    obtain ⟨_, vs0, h0, _⟩ := p1.h.own p _ g0
    refine ⟨.inl ⟨rfl, vs0, .inl (.inl h0)⟩, q1.use p1 fun u H2 d O2 Hd2 s2 p2 r2 ⟨dd, ds, e2, g, q2⟩ => ?_⟩
    subst e2
    cases r2
    obtain ⟨n2, vs, h2, r3⟩ := p2.h.own p _ g
    cases r3 with | @cons y ys _ _ ry rys =>
    refine ⟨p, y :: ys, 0, 0, y, rfl, rfl, h2, by decide, by decide, ?_, rfl, dd, _, Hd2, s1.trans s2, p2.h.putL n2 rys, ry, q2⟩
    unfold seqIndex?
    simp)
end
end RW

/-! RW: a lambda whose one parameter has a written whole number as its default, handed to a def that calls it without arguments. -/
namespace RW
open PySem PySem.Spec PyProof.Rows L2
/-! ### its making -/
abbrev fnD (qual : Str) (params : Arguments) (body : Expr) (scope : Scope) (cl : List (Str × Addr)) (doc pm cdv ct dv : Value) : FuncData := PySem.W.kdv_fn "<lambda>" qual params (.expr body) scope cl dv doc pm cdv ct
abbrev tupOne (z : Int) (t : Tok) : Obj := { cls := .type "tuple", data := .seq #[.int z t] }
def lamObjD (X : Cx) (params : Arguments) (body : Expr) (scope : Scope) (doc pm : Value) (c' : Addr) (ctv : Value) (T : Addr) : Obj :=
  { cls := .type "function", data := .func (fnD (X.env.qual ++ "<lambda>") params body scope (cloFrom X.env.cells scope.names []) doc pm (.ref c') ctv (.ref T)) }
section
variable {X : Cx} {pins : List (Addr × Obj)} {σ : L2.St} {H : Hp} {s : Shared}
theorem lam_newD {c P : Addr} {ps : Array Value} {params : Arguments} {body : Expr} {scope : Scope} {pos : Pos} {z : Int} {Q : Value → Shared → Prop} (I : Inv X pins σ H s) (TB : LamX.TabB X.base X.mg c P) (hcode : X.env.code = .ref c)
    (hP : H P = some (.tbl ps)) (ht : TriplesOk ps.toList) {G : Addr → Prop} (ha : ∀ p' cv, codeAmong p' ps.toList = some cv → ∃ c1, cv = .ref c1 ∧ G c1) {de : Expr} {jz : Nat} {pz : Pos} (hde : de = .Constant (.int z) jz pz) (hdef : params.defaults = [de] ∧ params.kw_defaults = [])
    (hfree : ∀ y ∈ scope.names, y.2 = .free → ∃ c, X.env.cells.lookup y.1 = some c)
    (h : ∀ (T : Addr) (t : Tok) (HT : Hp), H T = none → HT = upd H T (LamO T (tupOne z t)) → ∀ (f c' : Addr) (doc pm ctv : Value) (H1 : Hp) (s' : Shared), Inv X pins σ H1 s' → LamHp G HT P ps (X.env.qual ++ "<lambda>") f c' (lamObjD X params body scope doc pm c' ctv T) H1 → Q (.ref f) s') :
    wpAny (model X.prog X.w) X.A (eval (.Lambda params body scope pos) X.env) Q X.xe s := by
  have h0 : wE X de σ H (fun v H1 => v = .int z ∧ H1 = H) := by
    rw [hde]
    exact wE_of pe_int ⟨rfl, rfl⟩
  obtain ⟨hd1, hd2⟩ := hdef
  refine PySem.W.kdv_lam (by rw [hd1]; rfl) hd2 ?_
  rw [hd1]
  refine PySem.W.kdv_all1 (thn (h0 pins s I) fun u s1 ⟨v, H1, I1, r1, e1, e2⟩ => PySem.W.kdv_all0 ?_)
  subst e1
  rw [e2] at I1
  obtain ⟨t, rfl⟩ : ∃ t, u = .int z t := r1
  rw [makeFunction_eq]
  simp only [List.zip_nil_right, List.filterMap_nil, List.isEmpty_nil, List.isEmpty_cons, Bool.false_eq_true, if_true, if_false, pure_bind]
  refine wpAny_bind (wpAny_newTextTuple ?_)
  have nT : H s1.heap.objs.size = none := I1.hok.fresh (Nat.le_refl _)
  have I2 : Inv X pins σ (upd H s1.heap.objs.size (LamO s1.heap.objs.size (tupOne z t))) { s1 with heap := s1.heap.push (tupOne z t) } :=
    track (t' := s1.toks) (f := s1.heap.objs.size) I1 (fun b u e => Heap.get?_push_of_some _ e) (Nat.le_refl _) (Heap.get?_push_size _ rfl)
  have h' := h _ t _ nT rfl
  generalize hHT : upd H s1.heap.objs.size (LamO s1.heap.objs.size (tupOne z t)) = HT at I2 h'
  generalize s1.heap.objs.size = T at *
  generalize hs2 : { s1 with heap := s1.heap.push (tupOne z t) } = s2 at I2 ⊢
  have hPT : HT P = some (.tbl ps) := by
    rw [← hHT, upd_ne (fun e => by rw [e] at hP; rw [hP] at nT; cases nT)]
    exact hP
  have tb : s2.heap.get? P = some { cls := .none, data := .fields ps } := I2.hok P _ hPT
  have kb := TB.bm.keeps I2.bk
  cases found : codeAmong pos ps.toList with
  | some cv =>
    obtain ⟨c', rfl, hco⟩ := ha pos cv found
    refine PySem.W.kdv_makeTailHit (mg := X.mg) (c := c) (P := P) (ps := ps) (closure_ok hfree) I2.ok.glob (I2.mod.glob.keeps I2.bk) hcode (TB.code.keeps I2.bk) tb ht found kb ?_
    intro ctv doc hh tk old big
    exact h' _ c' doc _ ctv _ _ (track (t' := tk) I2 (fun b u e => Heap.get?_push_of_some _ (old b u e)) big (Heap.get?_push_size hh rfl)) (.inl ⟨hco, I2.hok.fresh big, rfl⟩)
  | none =>
    refine PySem.W.kdv_makeTail (mg := X.mg) (c := c) (P := P) (ps := ps) (closure_ok hfree) I2.ok.glob (I2.mod.glob.keeps I2.bk) hcode (TB.code.keeps I2.bk) tb ht found TB.gP kb ?_
    intro c' ctv doc hh tk old ge lt rec tab
    obtain ⟨c2, oc, vs, tq, e2, ho, hd, hv⟩ := rec
    cases e2
    have J : Inv X pins σ (upd (upd HT P (.tbl (ps ++ #[rawInt pos.line, rawInt pos.col, .ref c']))) c' (LamX.CodeO c' (X.env.qual ++ "<lambda>"))) { s2 with heap := hh, toks := tk } :=
      LamX.inv_table (more := #[rawInt pos.line, rawInt pos.col, .ref c']) I2 hPT old tab ge ⟨oc, vs, tq, ho, hd, hv⟩
    have big : s2.heap.objs.size ≤ hh.objs.size := Nat.le_trans ge (Nat.le_of_lt lt)
    have J2 := track (t' := tk) (f := hh.objs.size) (h' := hh.push (lamObjD X params body scope doc ((X.mg "__name__").getD .none) c' ctv T)) J (fun b u e => Heap.get?_push_of_some _ e) (Nat.le_refl _) (Heap.get?_push_size hh rfl)
    refine h' _ c' doc _ ctv _ _ J2 (.inr ⟨pos, I2.hok.fresh ge, I2.hok.fresh big, Nat.ne_of_gt lt, ?_, fun p' cv e => ?_, rfl⟩)
    · simpa using PySem.TriplesOk_snoc _ _ _ _ ht
    · exact LamX.among_app (pos := pos) ps.toList ht (by simpa using e)
/-- what is known of such a lambda that is handed on -/
def LamOfD (X : Cx) (B : Hp) (f : Addr) (z : Int) (params : Arguments) (body : Expr) (scope : Scope) : Prop :=
  ∃ (T : Addr) (t : Tok) (c' : Addr) (doc pm ctv : Value), B f = some (LamO f (lamObjD X params body scope doc pm c' ctv T)) ∧ B c' = some (LamX.CodeO c' (X.env.qual ++ "<lambda>")) ∧ B T = some (LamO T (tupOne z t))
/-- no name but its parameter of its own, which the frame has not; captured ones and globals -/
structure LamSD (N : List Str) (sc scope : Scope) (a : Str) : Prop where
  kind : scope.kind = .function
  co : scope.isCoroutine = false
  gen : scope.isGenerator = false
  own : ∀ y ∈ scope.names, y.2 ≠ .cell ∧ (y.2 = .local → y.1 ∉ N)
  par : scope.names.lookup a = some .local
  free : ∀ y ∈ scope.names, y.2 = .free → sc.names.lookup y.1 = some .cell ∨ sc.names.lookup y.1 = some .free
def lamSDB (N : List Str) (sc scope : Scope) (a : Str) : Bool :=
  decide (scope.kind = .function) && !scope.isCoroutine && !scope.isGenerator && (scope.names.all fun y => !decide (y.2 = .cell) && (!decide (y.2 = .local) || !decide (y.1 ∈ N)) && (!decide (y.2 = .free) || decide (sc.names.lookup y.1 = some .cell) || decide (sc.names.lookup y.1 = some .free))) && decide (scope.names.lookup a = some .local)
theorem lamSD_by {N : List Str} {sc scope : Scope} {a : Str} (h : lamSDB N sc scope a = true) : LamSD N sc scope a := by
  unfold lamSDB at h
  simp only [Bool.and_eq_true, Bool.or_eq_true, Bool.not_eq_true', decide_eq_true_eq, decide_eq_false_iff_not, List.all_eq_true] at h
  obtain ⟨⟨⟨⟨h1, h2⟩, h3⟩, h4⟩, h5⟩ := h
  refine ⟨h1, h2, h3, fun y hy => ⟨(h4 y hy).1.1, fun e => ?_⟩, h5, fun y hy e => ?_⟩
  · rcases (h4 y hy).1.2 with z | z
    · exact absurd e z
    · exact z
  · rcases (h4 y hy).2 with (z | z) | z
    · exact absurd e z
    · exact .inl z
    · exact .inr z
theorem LamSD.has {X : Cx} {N : List Str} {scope : Scope} {a : Str} (L : LamSD N X.env.scope scope a) (ok : X.Ok) : ∀ y ∈ scope.names, y.2 = .free → ∃ c, X.env.cells.lookup y.1 = some c := fun y hy e => by
  rcases L.free y hy e with k | k
  · exact ok.has _ (.inl k)
  · exact ok.has _ (.inr k)
theorem w_lambdaD {E : ExP} {Γ : Env'} {O : Own} {Q : PD} {c P : Addr} {params : Arguments} {body : Expr} {scope : Scope} {pos : Pos} {z : Int} {a : Str} {de : Expr} {jz : Nat} {pz : Pos} (TB : LamX.TabB X.base X.mg c P) (hcode : X.env.code = .ref c) (hO : O P = some (.tab (X.env.qual ++ "<lambda>"))) (L : LamSD X.N X.env.scope scope a)
    (h : ∀ f B, LamOfD X B f z params body scope → Q (.lam f B) O) (hde : de = .Constant (.int z) jz pz) (hdef : params.defaults = [de] ∧ params.kw_defaults = []) : WE X E (.Lambda params body scope pos) Γ O Q := .mk fun W σ H Hd p pins s I => by
  obtain ⟨_, ps, hP, ht, hc⟩ := p.h.own P _ hO
  refine lam_newD I TB hcode hP ht hc hde hdef (L.has I.ok) fun T t HT nT eT f c' doc pm ctv H1 s' I1 k => ?_
  subst eT
  have sn := same_new (o := LamO T (tupOne z t)) (p.h.free nT)
  have h2 := p.h.lay (o := LamO T (tupOne z t)) nT
  have hc2 : ∀ p' cv, codeAmong p' ps.toList = some cv → ∃ c1, cv = .ref c1 ∧ (upd Hd T (LamO T (tupOne z t))) c1 = some (LamX.CodeO c1 (X.env.qual ++ "<lambda>")) := fun p' cv e => by
    obtain ⟨c1, e1, e2⟩ := hc p' cv e
    exact ⟨c1, e1, sn _ _ e2⟩
  have hPT : (upd H T (LamO T (tupOne z t))) P = some (.tbl ps) := by
    rw [upd_ne (fun e => by rw [e] at hP; rw [hP] at nT; cases nT)]
    exact hP
  have k2 : LamHp (fun c => (upd Hd T (LamO T (tupOne z t))) c = some (LamX.CodeO c (X.env.qual ++ "<lambda>"))) (upd H T (LamO T (tupOne z t))) P ps (X.env.qual ++ "<lambda>") f c' (lamObjD X params body scope doc pm c' ctv T) H1 := by
    rcases k with ⟨k1, k2, k3⟩ | k
    · exact .inl ⟨sn _ _ k1, k2, k3⟩
    · exact .inr k
  obtain ⟨Hd1, s1, h1, e1, e2⟩ := lamHp_abs h2 hO hPT hc2 k2
  exact ⟨.ref f, H1, I1, rfl, .lift (sn.trans s1) (.of h1 (.lam (Same.refl _)) (h f Hd1 ⟨T, t, c', doc, pm, ctv, e1, e2, s1 _ _ upd_same⟩))⟩
end
/-! ### its call -/
section
variable {X : Cx} {pins : List (Addr × Obj)} {σ : L2.St} {H HZ : Hp} {s s1 : Shared}
/-- the frame of such a lambda, just entered -/
theorem lam_startD {A : Around} {outer : List Env} {E : XK} {scope : Scope} {a : Str} {f c' : Addr} {hn : Heap} {k : Nat} {m0 : Str → Option Value} (I : Inv X pins σ H s) (L : LamSD X.N X.env.scope scope a) (z0 : Env0 X.prog X.w X.K X.mg X.base A outer s1 HZ) (calm : A.handled = none)
    (un : Un (frs X.stack) [] H HZ s.heap s1.heap) (fresh : hn.Ns s1.heap.objs.size m0) (keep : ∀ b o, s1.heap.get? b = some o → hn.get? b = some o) :
    Inv (LamX.lamCx X A outer s1 HZ E scope f c') [] σ HZ { s1 with heap := hn, toks := k } := by
  have caps := L.has I.ok
  have mine : ∀ {y : Str} {q : Addr}, (cloFrom X.env.cells scope.names []).lookup y = some q → X.env.cells.lookup y = some q := fun e => NdefX.clo_cm caps e
  have stays : ∀ {q : Addr} {v : Option Value}, H q = none → s.heap.IsCell q v → hn.IsCell q v := fun nq ⟨ob, e1, e2⟩ =>
    let ⟨sl, e3⟩ := un.any e1 nq (by simp)
    ⟨_, keep _ _ e3, e2⟩
  have none_ : ∀ b : Addr, b ∈ ([] : List Addr) → False := fun b hb => nomatch hb
  exact
    { ok :=
        { mod := z0.mod
          kind := L.kind
          glob := rfl
          blt := rfl
          above := Nat.le_refl _
          inj := fun x y q e1 e2 => I.ok.inj x y q (mine e1) (mine e2)
          has := fun y hy => by
            rcases (show scope.names.lookup y = some .cell ∨ scope.names.lookup y = some .free from hy) with e | e
            · exact ((L.own _ (PySem.mem_of_lookup e)).1 rfl).elim
            · obtain ⟨q, hq⟩ := caps _ (PySem.mem_of_lookup e) rfl
              exact ⟨q, NdefX.clo_has caps (PySem.mem_of_lookup e) hq⟩
          cab := fun _ _ e _ => nomatch (show false = true from e)
          hd := fun _ => calm
          frames := Around.frames_deeper z0.frames
          stk := .inr ⟨rfl, rfl⟩
          exf := fun b hb => (none_ b hb).elim
          bs := z0.bs
          bsz := z0.bsz
          noex := fun b _ _ hb => none_ b hb
          exfs := fun b hb => (none_ b hb).elim
          funs := z0.funs
          frf := z0.frf }
      os := rfl
      bare := z0.bare
      base := Un.kept keep
      loc := ⟨_, fresh, fun i y v hi hv vis => by
        rcases (show scope.names.lookup y = some .local ∨ scope.names.lookup y = some .cell ∨ scope.names.lookup y = some .free from vis) with e | e | e
        · exact ((L.own _ (PySem.mem_of_lookup e)).2 rfl (List.mem_of_getElem? hi)).elim
        · exact ((L.own _ (PySem.mem_of_lookup e)).1 rfl).elim
        · obtain ⟨m, _, look⟩ := I.loc
          have out := L.free _ (PySem.mem_of_lookup e) rfl
          obtain ⟨u, ru, lk⟩ := look i y v hi hv (out.elim (fun z => .inr (.inl z)) fun z => .inr (.inr z))
          obtain ⟨q, hq⟩ := caps _ (PySem.mem_of_lookup e) rfl
          refine ⟨u, ru, .inr ⟨.inr e, q, NdefX.clo_has caps (PySem.mem_of_lookup e) hq, ?_⟩⟩
          rcases lk with ⟨loc, _⟩ | ⟨_, q2, hq2, cell⟩
          · have loc : X.env.scope.names.lookup y = some .local := loc
            rcases out with z | z
            · cases loc.symm.trans z
            · cases loc.symm.trans z
          · obtain rfl : q2 = q := Option.some.inj (hq2.symm.trans hq)
            exact stays (I.freeC y _ hq) cell⟩
      cell := fun y q e => (I.cell y q (mine e)).elim fun v hv => ⟨v, stays (I.freeC y q (mine e)) hv⟩
      free := z0.hok.fresh (Nat.le_refl _)
      freeC := fun y q e => by
        obtain ⟨v, ob, e1, _⟩ := I.cell y q (mine e)
        exact un.free q ob e1 (I.freeC y q (mine e)) (by simp)
      pin := fun p hp => nomatch (show p ∈ ([] : List (Addr × Obj)) ++ [] from hp)
      hok := z0.hok.kept keep
      len := I.len }
/-- a(), in the def that got such a lambda -/
theorem lam_actD {CXg : CXT} {Eg : XK} {Ng : List Str} {qg : Str} {sg : Scope} {g : Addr} {cdg : Value} {pn : List (Addr × Obj)} {xe : Value → Shared → Prop} {E : L2.St → XK} {f c' T : Addr} {tz : Tok} {z : Int} {doc pm ctv : Value} {params : Arguments} {body : Expr} {scope : Scope} {k i : Nat} {a b : Str} {tb : L2.St → TE} {p1 p2 : Pos}
    (I : Inv X pins σ H s) (L : LamSD X.N X.env.scope scope b)
    (hbind : ∃ kk, bindArgs (fnD (X.env.qual ++ "<lambda>") params body scope (cloFrom X.env.cells scope.names []) doc pm (.ref c') ctv (.ref T)) ⟨[], []⟩ = seqItems? (.ref T) >>= kk ∧ ∀ v, kk (some #[v]) = pure [(b, v)])
    (hx : ∀ τ, PassesAt (L2.CX X.prog X.w) (gotCx X s H CXg Eg Ng qg sg g cdg pn xe) τ (E τ)) (hr : Room (k + 1) (X.A.deeper (envOfC qg sg s.heap.objs.size g cdg)))
    (hbody : ∀ (τ : L2.St) (A : Around) (outer : List Env) (s1 : Shared) (H1 : Hp), Room k (A.deeper (LamX.lamEnv X scope s1.heap.objs.size f c')) → PE (LamX.lamCx X A outer s1 H1 (E τ) scope f c') body (tb τ))
    (hN : Ng[i]? = some a) (hv : Vis sg a) (hd : (a == ("__debug__" : Str)) = false) (hcd : (a == ("__classdict__" : Str)) = false) :
    PE (gotCx X s H CXg Eg Ng qg sg g cdg pn xe) (.Call (.Name a p1) [] [] p2) (fun τ HZ Q => τ[i]? = some (some (.ref f)) ∧ HZ f = some (LamO f (lamObjD X params body scope doc pm c' ctv T)) ∧ HZ c' = some (LamX.CodeO c' (X.env.qual ++ "<lambda>")) ∧ HZ T = some (LamO T (tupOne z tz)) ∧ tb τ σ HZ Q) := by
  refine ⟨fun pinsZ sZ τ HZ Q IZ h => ?_⟩
  obtain ⟨e1, e2, e3, eT, e4⟩ := h
  have look := (pe_var (X := gotCx X s H CXg Eg Ng qg sg g cdg pn xe) (pos := p1) (i := i) hN hv hd hcd).run pinsZ sZ τ HZ (fun v HV => v = .ref f ∧ HV = HZ) IZ ⟨.ref f, e1, rfl, rfl⟩
  refine wpAny_Call_Name_kw (thn look fun u sV got => ?_)
  obtain ⟨v, HV, IV, rv, ev, eH⟩ := got
  rw [ev] at rv
  rw [eH] at IV
  cases (show u = Value.ref f from rv)
  have of1 := lamO_at IV.hok e2
  have ofT := lamO_at IV.hok eT
  obtain ⟨oc, vs, t, c1, c2, c3⟩ := codeO_at IV.hok e3
  have un : Un (frs X.stack) [] H HZ s.heap sV.heap := IV.base
  obtain ⟨kk, b1, b2⟩ := hbind
  have inner : codeAny (model X.prog X.w) (X.A.deeper (envOfC qg sg s.heap.objs.size g cdg)) (.call (.ref f) ⟨[], []⟩) (CR (L2.CX X.prog X.w) (envOfC qg sg s.heap.objs.size g cdg :: X.stack) X.prog X.w HZ sV Q (E τ)) sV := by
    refine PySem.W.kla_callFunE hr.depth of1 rfl L.co L.gen rfl ⟨c', oc, vs, t, rfl, c1, c2, c3⟩ ?_
    rw [b1]
    refine wpAny_bind (wpAny_seqItems ofT rfl ?_)
    rw [b2]
    refine wpAny_pure (wpAny_newFunctionEnv (fun y hy => (L.own y hy).1) (fun y hy => by rw [List.mem_singleton.mp hy]; exact L.par) (fun hl ns sb => ⟨IV.nolimit.fresh _ sb, ?_⟩) L.kind)
    have keepAll : ∀ b o, sV.heap.get? b = some o → hl.get? b = some o := fun b o e => sb.extBut b o (Nat.ne_of_lt (Heap.lt_size e)) (Heap.get?_push_of_some _ e)
    have J := lam_startD (E := E τ) (f := f) (c' := c') (k := sV.toks + ([(b, Value.int z tz)] : List (Str × Value)).length) I L IV.env0 hr.hd un ns keepAll
    show codeAny _ _ (.expr body (LamX.lamEnv X scope sV.heap.objs.size f c')) _ _
    have ran := (hbody τ _ _ sV HZ (hr.deeper _)).run [] _ _ HZ Q J e4
    refine PySem.W.kla_codeExpr (wpAny_mono ran (fun v' s' got => ?_) fun _ _ z => z)
    obtain ⟨w', H', J', r', q'⟩ := got
    exact ⟨w', H', J'.os, J'.bare, J'.base, J'.hok, r', q'⟩
  refine PySem.W.callWith_F0 ⟨_, _, _, _, of1⟩ (wpAny_call (codeAny_mono inner fun r s' hq => ?_))
  match r, hq with
  | .error e, hq => exact hx τ pinsZ HZ sV e s' IV hq
  | .ok (.ret u), hq => exact IV.after hq
  | .ok .next, hq => exact False.elim hq
  | .ok .brk, hq => exact False.elim hq
  | .ok .cont, hq => exact False.elim hq
end
theorem w_callLamD {X : Cx} {E : ExP} {Γ : Env'} {O : Own} {Q : PD} {x : Str} {k j kb : Nat} {F : SpL} {z : Int} {b : Str} {params : Arguments} {body : Expr} {scope : Scope} {e : Expr} {p pos : Pos} (D : FdL X.prog X.w X.K X.mg X.base x k F) (hr : Room j X.A) (hj : k + 1 ≤ j) (hkb : kb + 2 ≤ j)
    (h : WA X E [e] Γ O fun ds O1 => ∃ f B, ds = [.lam f B] ∧ LamOfD X B f z params body scope ∧ F (behOf X scope body Γ kb f) O1 Q (fun ex O'' => E ex Γ O''))
    (L : LamSD X.N X.env.scope scope b) (hbind : ∀ (q : Str) (cl : List (Str × Addr)) (doc pm cv ctv : Value) (T : Addr), ∃ kk, bindArgs (fnD q params body scope cl doc pm cv ctv (.ref T)) ⟨[], []⟩ = seqItems? (.ref T) >>= kk ∧ ∀ v, kk (some #[v]) = pure [(b, v)])
    (hg : Gl X x := by rfl) (hdb : (x == ("__debug__" : Str)) = false := by decide) (he : starEach [e] X.env = (false, eval e X.env) :: starEach [] X.env := by rfl) : WE X E (.Call (.Name x p) [e] [] pos) Γ O Q := .mk fun W σ H Hd q => by
  obtain ⟨st, g, gd, N, a, Fg, Sg, hN0, hva, hd1, hd2, hm, hb, hbody⟩ := D.ex
  obtain ⟨oc, od, kV, doc, pm, an, cdv, ct, osl, rfl, lk, hcd⟩ := Fg.ex
  intro pins s I
  refine wpAny_Call_Name_kw (ld_glob I hg hm ?_ hdb)
  refine PySem.W.callWith_K (h₀ := X.base) (first := []) I.ok.mod.kin Fg.kp (thn (h.use q (Q' := fun vs H1 => ∃ ds O1 Hd1, Same Hd Hd1 ∧ Pre X E W σ H1 Hd1 Γ O1 ∧ Reps X.K Hd1 vs ds ∧ ∃ f B, ds = [.lam f B] ∧ LamOfD X B f z params body scope ∧ F (behOf X scope body Γ kb f) O1 Q (fun ex O'' => E ex Γ O''))
    (fun vs H1 ds O1 Hd1 s1 p1 r1 q1 => ⟨ds, O1, Hd1, s1, p1, r1, q1⟩) pos pins s I) fun us s1 got => ?_) he (by rfl)
  obtain ⟨vs, H1, I1, r1, ds, O1, Hd1, ss, p1, rs, f, B, rfl, hf, hF⟩ := got
  cases rs with | cons ra rn =>
  cases rn
  cases ra with | lam sB =>
  obtain ⟨T, tz, c', doc', pm', ctv', f1, f2, f3⟩ := hf
  refine ⟨I1.kIn, ?_⟩
  show wpAny _ _ (call (.ref g) us) _ _ _
  obtain ⟨m, rfl⟩ : ∃ m, j = m + 1 := ⟨j - 1, by omega⟩
  have rc : codeAny (model X.prog X.w) X.A (.call (.ref g) ⟨us, []⟩) (CR (L2.CX X.prog X.w) X.stack X.prog X.w H1 s1 (Post X.K Hd Q) (fun cls d H' => W cls d σ H')) s1 := by
    refine LamX.run_ofS (N := N) (ps := [a]) (us := us) (vs := [.ref f]) lk hcd Sg hr I1.env0 ?_ r1 rfl fun hr' => ?_
    · have := hb s1 us I1.kIn (by rw [List.append_nil, ← r1.length]; rfl)
      rwa [List.append_nil] at this
    have hs1 : Same B Hd1 := sB
    have calls : CallsD (cxOf (L2.CX X.prog X.w) X.prog X.w X.K X.mg X.base N x (defScope st) g cdv X.A X.stack s1 H1 (fun cls d H' => W cls d σ H')) a f Hd1 (behOf X scope body Γ kb f) := by
      intro pn xe p1' p2' E' Γ' O' Q' Q2 E2 hΓ hS m1 m2
      refine .mk fun W2 τ HZ HdZ pZ => ?_
      obtain ⟨v, ev, rv⟩ := pZ.g.2 0 _ hΓ
      cases rv with | lam sZ =>
      have low := hs1.trans sZ
      refine wE_of (lam_actD (i := 0) (k := kb) (b := b) (E := fun τ cls d H => W2 cls d τ H) (tb := fun τ σ' H' Q'' => ∀ (A : Around) (outer : List Env) (s2 : Shared) (H2 : Hp), Room kb (A.deeper (LamX.lamEnv X scope s2.heap.objs.size f c')) → wE (LamX.lamCx X A outer s2 H2 (fun cls d H => W2 cls d τ H) scope f c') body σ' H' Q'')
        I1 L (hbind _ _ _ _ _ _ _) (fun τ => passAt pZ.tk τ) (hr'.mono (by omega)) (fun τ A outer s2 H2 hr2 => ⟨fun pins s σ H Q I h => h A outer s2 H2 hr2 pins s I⟩) hN0 hva hd1 hd2) ⟨ev, pZ.h.same _ _ (low _ _ f1), pZ.h.same _ _ (low _ _ f2), pZ.h.same _ _ (low _ _ f3), fun A outer s2 H2 hr2 => ?_⟩
      refine wE_mono ((hS A outer s2 H2 (fun cls d H => W2 cls d τ H) c' hr2).run (fun cls d _ H => W2 cls d τ H) σ HZ HdZ ⟨takes_of rfl rfl rfl rfl, p1.g.mono sZ, pZ.h, fun cls d σ' H' Hd' e Γ2 O2 s2' g2 a2 er ee => ?_⟩) fun v H' ⟨d, O5, Hd5, s5, a5, r5, q5⟩ => ⟨d, O5, Hd5, s5, a5, r5, m1 d O5 q5⟩
      exact pZ.ex cls d τ H' Hd' e Γ' O2 s2' (pZ.g.mono s2') a2 er (m2 e O2 ee)
    refine ⟨_, pssW, wSs_mono ((hbody cdv X.A X.stack s1 H1 (fun cls d H' => W cls d σ H') f Hd1 _ O1 Q _ (hr'.mono (by omega)) calls hF).run (fun cls d _ H => W cls d σ H) (L2.start N [.ref f]) H1 Hd1 ⟨takes_of rfl rfl rfl rfl, start_abs (.cons (.lam (Same.refl _)) .nil), p1.h, fun cls d σ' H' Hd' e Γ' O' s' g' a' er ee => ?_⟩) ?_⟩
    · exact p1.ex cls d σ H' Hd' e Γ O' s' (p1.g.mono s') a' er ee
    · exact ⟨fun σ' H' ⟨Γ', O', Hd', s', g', a', z⟩ => .lift ss ⟨_, O', Hd', s', a', .non, z⟩, fun v H' z => z.lift ss, fun _ _ ⟨_, _, _, _, _, _, z⟩ => z.elim, fun _ _ ⟨_, _, _, _, _, _, z⟩ => z.elim⟩
  refine wpAny_call (codeAny_mono rc fun r s2 hq => ?_)
  match r, hq with
  | .error er, hq => exact passAt q.tk σ pins H1 s1 er s2 I1 hq
  | .ok (.ret u), hq => exact I1.after hq
  | .ok .next, hq => exact False.elim hq
  | .ok .brk, hq => exact False.elim hq
  | .ok .cont, hq => exact False.elim hq
/-- x(lambda b=z: body) -/
theorem w_lamcallD {CX : CXT} {P : Program} {w : World} {K : PySem.W.Frag} {mg : Str → Option Value} {base : Heap} {N : List Str} {qual : Str} {sc : Scope} {fa : Addr} {cdv : Value} {A : Around} {outer : List Env} {s : Shared} {H : Hp} {E0 : XK}
    {E : ExP} {Γ : Env'} {O : Own} {Q : PD} {x : Str} {k j : Nat} (kb : Nat) {F : SpL} {c PT : Addr} {z : Int} {ga : Arg} {jz : Nat} {pz : Pos} {body : Expr} {scope : Scope} {p lpos pos : Pos} (D : FdL P w K mg base x k F) (hr : Room j (A.deeper (envOfC qual sc s.heap.objs.size fa cdv))) (hj : k + 1 ≤ j) (hkb : kb + 2 ≤ j)
    (TB : LamX.TabB base mg c PT) (hcode : cdv = .ref c) (hO : O PT = some (.tab (lamQ qual))) (h : ∀ f, F (behOf (cxOf CX P w K mg base N qual sc fa cdv A outer s H E0) scope body Γ kb f) O Q (fun ex O'' => E ex Γ O''))
    (L : LamSD N sc scope ga.arg := by exact lamSD_by (by decide +kernel))
    (hbind : ∀ (q : Str) (cl : List (Str × Addr)) (doc pm cv ctv : Value) (T : Addr), ∃ kk, bindArgs (fnD q ⟨[], [ga], none, [], [], none, [.Constant (.int z) jz pz]⟩ body scope cl doc pm cv ctv (.ref T)) ⟨[], []⟩ = seqItems? (.ref T) >>= kk ∧ ∀ v, kk (some #[v]) = pure [(ga.arg, v)] := by intros; exact ⟨_, rfl, fun _ => rfl⟩)
    (hg : Gl (cxOf CX P w K mg base N qual sc fa cdv A outer s H E0) x := by rfl) (hdb : (x == ("__debug__" : Str)) = false := by decide) : WE (cxOf CX P w K mg base N qual sc fa cdv A outer s H E0) E (.Call (.Name x p) [.Lambda ⟨[], [ga], none, [], [], none, [.Constant (.int z) jz pz]⟩ body scope lpos] [] pos) Γ O Q :=
  w_callLamD (X := cxOf CX P w K mg base N qual sc fa cdv A outer s H E0) (kb := kb) (b := ga.arg) (z := z) D hr hj hkb (wa_cons (w_lambdaD (X := cxOf CX P w K mg base N qual sc fa cdv A outer s H E0) (a := ga.arg) (z := z) TB hcode (by rw [lamQ_of]; exact hO) L (fun f B hl => wa_nil ⟨f, B, rfl, hl, h f⟩) rfl ⟨rfl, rfl⟩) rfl) L hbind hg hdb rfl
end RW

/-! RW: < and > of data that are alike. -/
namespace RW
open PySem PySem.Spec PyProof.Rows L2
section
variable {X : Cx} {E : ExP} {Γ : Env'} {O : Own} {a b : Expr} {pos : Pos} {Q : PD}
def rLtD (K : PySem.W.Frag) (sw : Bool) : R2 := fun x y H Q => ∃ d e, Dp K H x d ∧ Dp K H y e ∧ PySem.W.alike d e = true ∧ d ≠ .none ∧ d.depth ≤ 16 ∧ Q (.bl (if sw then PySem.W.dataLt e d else PySem.W.dataLt d e)) H
theorem op_gtD (hu : X.A.units + 64 < cLine) : OpR X (compareOp .Gt) (rLtD X.K true) := by
  intro pins s σ H x y v u Q I rx ry h
  obtain ⟨d, e, hx, hy, ha, hn, hdp, q⟩ := h
  obtain ⟨as, ra⟩ := Dp.reads I d x v hx rx
  obtain ⟨bs, rb⟩ := Dp.reads I e y u hy ry
  exact PySem.W.gt_data ra rb ha hn (by omega) ⟨.bl _, H, I, rfl, q⟩
theorem op_ltD (hu : X.A.units + 64 < cLine) : OpR X (compareOp .Lt) (rLtD X.K false) := by
  intro pins s σ H x y v u Q I rx ry h
  obtain ⟨d, e, hx, hy, ha, hn, hdp, q⟩ := h
  obtain ⟨as, ra⟩ := Dp.reads I d x v hx rx
  obtain ⟨bs, rb⟩ := Dp.reads I e y u hy ry
  exact PySem.W.lt_data ra rb ha hn (by omega) ⟨.bl _, H, I, rfl, q⟩
/-- d < e, by the model's order of data -/
abbrev dlt (x y : D) : Bool := PySem.W.dataLt (toPy x) (toPy y)
def sLtD (sw : Bool) (x y : D) (O : Own) (Q : PD) : Prop := ∃ x' y', cmpD O x = some x' ∧ cmpD O y = some y' ∧ isPy x' = true ∧ isPy y' = true ∧ PySem.W.alike (toPy x') (toPy y') = true ∧ toPy x' ≠ .none ∧ (toPy x').depth ≤ 16 ∧ Q (.bl (if sw then dlt y' x' else dlt x' y')) O
theorem rok_ltD {sw : Bool} : R2ok X (rLtD X.K sw) (sLtD sw) := fun x y O v u H Hd Q Q' h rx ry q k => by
  obtain ⟨x', y', e1, e2, p1, p2, ha, hn, hd, q⟩ := q
  exact ⟨_, _, h.cmp rx e1 p1, h.cmp ry e2 p2, ha, hn, hd, k _ _ (.of h (.bl _) q)⟩
theorem w_gtD (hu : X.A.units + 64 < cLine) (h : WE X E a Γ O fun x O1 => WE X E b Γ O1 fun y O2 => sLtD true x y O2 Q) : WE X E (.Compare a [.Gt] [b] pos) Γ O Q := w_cmp2 (op_gtD hu) rok_ltD (nomark _) h
theorem w_ltD (hu : X.A.units + 64 < cLine) (h : WE X E a Γ O fun x O1 => WE X E b Γ O1 fun y O2 => sLtD false x y O2 Q) : WE X E (.Compare a [.Lt] [b] pos) Γ O Q := w_cmp2 (op_ltD hu) rok_ltD (nomark _) h
theorem wt_gtD {Q : Bool → Own → Prop} (hu : X.A.units + 64 < cLine) (h : WE X E a Γ O fun x O1 => WE X E b Γ O1 fun y O2 => sLtD true x y O2 (sTest Q)) : WT X E (.Compare a [.Gt] [b] pos) Γ O Q := wt_cmp2 (op_gtD hu) rok_ltD (nomark _) h
theorem wt_ltD {Q : Bool → Own → Prop} (hu : X.A.units + 64 < cLine) (h : WE X E a Γ O fun x O1 => WE X E b Γ O1 fun y O2 => sLtD false x y O2 (sTest Q)) : WT X E (.Compare a [.Lt] [b] pos) Γ O Q := wt_cmp2 (op_ltD hu) rok_ltD (nomark _) h
/-! the order, by cases -/
theorem dlt_int (i j : Int) : dlt (.int i) (.int j) = decide (i < j) := PySem.W.dataLt_int i j
theorem dlt_tup_nil : dlt (.tup []) (.tup []) = false := by decide +kernel
theorem dlt_yes {x y : D} {xs ys : List D} (h : PySem.W.alike (toPy x) (toPy y) = true) (e : eqvD x y = true) : dlt (.tup (x :: xs)) (.tup (y :: ys)) = dlt (.tup xs) (.tup ys) := by
  show PySem.W.dataLt (.tuple (toPys (x :: xs))) (.tuple (toPys (y :: ys))) = PySem.W.dataLt (.tuple (toPys xs)) (.tuple (toPys ys))
  rw [PySem.W.dataLt_tuple, PySem.W.dataLt_tuple]
  exact PySem.W.dataLt_all_yes h e
theorem dlt_no {x y : D} {xs ys : List D} (h : PySem.W.alike (toPy x) (toPy y) = true) (e : eqvD x y = false) : dlt (.tup (x :: xs)) (.tup (y :: ys)) = dlt x y := by
  show PySem.W.dataLt (.tuple (toPys (x :: xs))) (.tuple (toPys (y :: ys))) = _
  rw [PySem.W.dataLt_tuple]
  exact PySem.W.dataLt_all_no h e
theorem dlt_lst (xs ys : List D) : dlt (.lst xs) (.lst ys) = dlt (.tup xs) (.tup ys) := by
  show PySem.W.dataLt (.list (toPys xs)) (.list (toPys ys)) = PySem.W.dataLt (.tuple (toPys xs)) (.tuple (toPys ys))
  rw [PySem.W.dataLt_list, PySem.W.dataLt_tuple]
/-- nothing is less than itself; of unlike signs one is less -/
theorem dlt_irr (x : D) : dlt x x = false := PyProof.Rows.lex_irrefl _
theorem dlt_tr {x y z : D} (h1 : dlt x y = true) (h2 : dlt y z = true) : dlt x z = true := PyProof.Rows.lex_trans _ _ _ h1 h2
theorem dlt_tot {x y : D} (h : PySem.W.keyToks (toPy x) ≠ PySem.W.keyToks (toPy y)) : dlt x y = !dlt y x := by
  cases h1 : dlt x y with
  | true =>
    cases h2 : dlt y x with
    | true =>
      have := dlt_tr h1 h2
      rw [dlt_irr] at this
      cases this
    | false => rfl
  | false =>
    cases h2 : dlt y x with
    | true => rfl
    | false => exact absurd (PyProof.Rows.lex_total _ _ h1 h2) h
end
end RW

/-! RW: dicts whose keys are tuples. -/
namespace RW
open PySem PySem.Spec PyProof.Rows L2
section
variable {X : Cx} {pins : List (Addr × Obj)} {σ : L2.St} {H : Hp} {s : Shared}
mutual
theorem nested_of (I : Inv X pins σ H s) : ∀ (k : NestedKey) (v : V) (u : Value), Rep X.K H v (keyD k) → RelV v u → NestedIs s.heap k u
  | .none, v, u, h, r => by
    have h : Rep X.K H v .non := h
    cases h
    obtain rfl : u = .none := r
    exact .none
  | .num i, v, u, h, r => by
    have h : Rep X.K H v (.int i) := h
    cases h
    obtain ⟨t, rfl⟩ : ∃ t, u = .int i t := r
    exact .int i t
  | .text x, v, u, h, r => by
    have h : Rep X.K H v (.str x) := h
    cases h
    obtain ⟨t, rfl⟩ : ∃ t, u = .str x t := r
    exact .text x t
  | .tup ks, v, u, h, r => by
    have h : Rep X.K H v (.tup (keyDs ks)) := h
    cases h with | tup g r2 =>
    obtain rfl : u = .ref _ := r
    obtain ⟨its, o, n, h1, h2, h3, h4, _⟩ := tupN_at I g
    exact .tup h2 h3 h4 (by simpa using nesteds_of I ks _ _ r2 h1)
theorem nesteds_of (I : Inv X pins σ H s) : ∀ (ks : List NestedKey) (vs : List V) (us : List Value), Reps X.K H vs (keyDs ks) → Vals vs us → NestedAll s.heap ks us
  | [], vs, us, h, r => by
    have h : Reps X.K H vs [] := h
    cases h
    cases r
    exact .nil
  | k :: ks, vs, us, h, r => by
    have h : Reps X.K H vs (keyD k :: keyDs ks) := h
    cases h with | cons h1 h2 =>
    cases r with | cons r1 r2 =>
    exact .cons (nested_of I k _ _ h1 r1) (nesteds_of I ks _ _ h2 r2)
end
/-- a dict at a, its keys, its values -/
structure DicAt (K : PySem.W.Frag) (H : Hp) (a : Addr) (o : Obj) (w : World) (xs : List (NestedKey × Addr × Value)) (ks : List NestedKey) (vs : List V) : Prop where
  ob : H a = some (DtO a o w xs)
  ok : DtOk a xs ks vs
  ka : Reps K H (xs.map fun x => V.ref x.2.1) (ks.map keyD)
theorem key_each {K : PySem.W.Frag} : ∀ {xs : List (NestedKey × Addr × Value)} {ks : List NestedKey}, xs.map (·.1) = ks → Reps K H (xs.map fun x => V.ref x.2.1) (ks.map keyD) → ∀ x ∈ xs, Rep K H (.ref x.2.1) (keyD x.1)
  | [], _, _, _, x, hx => by cases hx
  | y :: xs, ks, e, r, x, hx => by
    subst e
    cases r with | cons r1 r2 =>
    rcases List.mem_cons.mp hx with rfl | hx
    · exact r1
    · exact key_each rfl r2 x hx
theorem DicAt.dict (I : Inv X pins σ H s) {a : Addr} {o : Obj} {xs : List (NestedKey × Addr × Value)} {ks : List NestedKey} {vs : List V} (d : DicAt X.K H a o X.w xs ks vs) : s.heap.DictOfH (nestedKind X.prog X.w) a xs := by
  have x : ObjOk X.prog X.w H s.heap a (.ext fun h => h.get? a = some o ∧ o.ExactDict ∧ ∃ es ep, o.data = .dict es ep ∧ es.toList = xs.map fun x => ⟨x.1.hash X.w, .ref x.2.1, x.2.2⟩) := I.hok a _ d.ob
  obtain ⟨⟨h1, h2, es, ep, h3, h4⟩, _⟩ := x
  refine ⟨o, es, ep, h1, h2, h3, h4, fun x hx => ⟨nested_of I _ _ _ (key_each d.ok.keys d.ka x hx) rfl, d.ok.deep _ ?_⟩, d.ok.nd⟩
  rw [← d.ok.keys]
  exact List.mem_map_of_mem hx
theorem dtO_ok {P : Program} {w : World} {H' : Hp} {h : Heap} {a : Addr} {xs : List (NestedKey × Addr × Value)} (d : h.DictOfH (nestedKind P w) a xs) : ∃ o, ObjOk P w H' h a (DtO a o w xs) := by
  obtain ⟨o, es, ep, h1, h2, h3, h4, _⟩ := d
  exact ⟨o, ⟨h1, h2, es, ep, h3, h4⟩, ⟨o, h1⟩, fun g1 g2 ⟨h1, h2, es, ep, h3, h4⟩ k => ⟨k o h1, h2, es, ep, h3, h4⟩⟩
/-! ### contents -/
section
variable {κ α : Type} [DecidableEq κ]
def valD (kvs : List (κ × α)) (k : κ) : Option α := (kvs.find? fun p => decide (p.1 = k)).map (·.2)
def putD (kvs : List (κ × α)) (k : κ) (d : α) : List (κ × α) := if (valD kvs k).isSome then kvs.map fun p => if p.1 = k then (p.1, d) else p else kvs ++ [(k, d)]
def dropD (kvs : List (κ × α)) (k : κ) : List (κ × α) := kvs.filter fun p => decide (p.1 ≠ k)
end
/-- the rows of a dict go together -/
structure Rows3 (K : PySem.W.Frag) (H : Hp) (xs : List (NestedKey × Addr × Value)) (kvs : List (NestedKey × D)) (vs : List V) : Prop where
  keys : xs.map (·.1) = kvs.map (·.1)
  vals : Vals vs (xs.map (·.2.2))
  ka : Reps K H (xs.map fun x => V.ref x.2.1) (kvs.map fun p => keyD p.1)
  va : Reps K H vs (kvs.map (·.2))
theorem Rows3.find {K : PySem.W.Frag} (k : NestedKey) : ∀ {xs : List (NestedKey × Addr × Value)} {kvs : List (NestedKey × D)} {vs : List V}, Rows3 K H xs kvs vs →
    match valD kvs k with
    | none => atKey xs k = none
    | some d => ∃ v b u, atKey xs k = some (b, u) ∧ RelV v u ∧ Rep K H v d
  | [], [], _, _ => by simp [valD, atKey]
  | [], _ :: _, _, h => by have := h.keys; simp at this
  | _ :: _, [], _, h => by have := h.keys; simp at this
  | x :: xs, p :: kvs, vs, h => by
    obtain ⟨h1, h2, h3, h4⟩ := h
    simp only [List.map_cons] at h1 h2 h3 h4
    obtain ⟨e1, e2⟩ := List.cons.inj h1
    cases h4 with | cons r1 r2 =>
    cases h2 with | cons v1 v2 =>
    cases h3 with | cons _ k2 =>
    by_cases hk : p.1 = k
    · have : valD (p :: kvs) k = some p.2 := by simp [valD, hk]
      rw [this]
      exact ⟨_, x.2.1, x.2.2, by simp [atKey, e1, hk], v1, r1⟩
    · have a1 : valD (p :: kvs) k = valD kvs k := by simp [valD, hk]
      have a2 : atKey (x :: xs) k = atKey xs k := by simp [atKey, e1, hk]
      rw [a1, a2]
      exact Rows3.find k ⟨e2, v2, k2, r2⟩
theorem Rows3.some {K : PySem.W.Frag} {k : NestedKey} {xs : List (NestedKey × Addr × Value)} {kvs : List (NestedKey × D)} {vs : List V} (h : Rows3 K H xs kvs vs) : (atKey xs k).isSome = (valD kvs k).isSome := by
  have := h.find k
  cases e : valD kvs k with
  | none => rw [e] at this; rw [this]; rfl
  | some d => rw [e] at this; obtain ⟨_, _, _, z, _⟩ := this; rw [z]; rfl
theorem Rows3.repl {K : PySem.W.Frag} {k : NestedKey} {v : V} {u : Value} {d : D} (rv : RelV v u) (rd : Rep K H v d) : ∀ {xs : List (NestedKey × Addr × Value)} {kvs : List (NestedKey × D)} {vs : List V}, Rows3 K H xs kvs vs →
    ∃ vs', Rows3 K H (xs.map (putAt k u)) (kvs.map fun p => if p.1 = k then (p.1, d) else p) vs'
  | [], [], vs, h => ⟨vs, h⟩
  | [], _ :: _, _, h => by have := h.keys; simp at this
  | _ :: _, [], _, h => by have := h.keys; simp at this
  | x :: xs, p :: kvs, vs, h => by
    obtain ⟨h1, h2, h3, h4⟩ := h
    simp only [List.map_cons] at h1 h2 h3 h4
    obtain ⟨e1, e2⟩ := List.cons.inj h1
    cases h4 with | @cons v0 vs0 _ _ r1 r2 =>
    cases h2 with | cons v1 v2 =>
    cases h3 with | cons k1 k2 =>
    obtain ⟨vs', g1, g2, g3, g4⟩ := Rows3.repl rv rd ⟨e2, v2, k2, r2⟩
    by_cases hk : p.1 = k
    · have a1 : putAt k u x = (x.1, x.2.1, u) := by simp [putAt, e1, hk]
      refine ⟨v :: vs', ?_, ?_, ?_, ?_⟩
      · simp only [List.map_cons, a1, if_pos hk]
        rw [g1, e1]
      · simp only [List.map_cons, a1]
        exact .cons rv g2
      · simp only [List.map_cons, a1, if_pos hk]
        exact .cons k1 g3
      · simp only [List.map_cons, if_pos hk]
        exact .cons rd g4
    · have a1 : putAt k u x = x := by simp [putAt, e1, hk]
      refine ⟨v0 :: vs', ?_, ?_, ?_, ?_⟩
      · simp only [List.map_cons, a1, if_neg hk]
        rw [g1, e1]
      · simp only [List.map_cons, a1]
        exact .cons v1 g2
      · simp only [List.map_cons, a1, if_neg hk]
        exact .cons k1 g3
      · simp only [List.map_cons, if_neg hk]
        exact .cons r1 g4
theorem reps_snoc {K : PySem.W.Frag} {v : V} {d : D} (h : Rep K H v d) : ∀ {vs : List V} {ds : List D}, Reps K H vs ds → Reps K H (vs ++ [v]) (ds ++ [d])
  | _, _, .nil => .cons h .nil
  | _, _, .cons a b => .cons a (reps_snoc h b)
theorem vals_snoc {v : V} {u : Value} (h : RelV v u) : ∀ {vs : List V} {us : List Value}, Vals vs us → Vals (vs ++ [v]) (us ++ [u])
  | _, _, .nil => .cons h .nil
  | _, _, .cons a b => .cons a (vals_snoc h b)
theorem Rows3.put {K : PySem.W.Frag} {k : NestedKey} {b : Addr} {v : V} {u : Value} {d : D} {xs : List (NestedKey × Addr × Value)} {kvs : List (NestedKey × D)} {vs : List V} (h : Rows3 K H xs kvs vs) (hb : Rep K H (.ref b) (keyD k)) (rv : RelV v u) (rd : Rep K H v d) :
    ∃ vs', Rows3 K H (storedH xs k b u) (putD kvs k d) vs' := by
  unfold storedH putD
  rw [h.some]
  by_cases hs : (valD kvs k).isSome = true
  · rw [if_pos hs, if_pos hs]
    exact h.repl rv rd
  · rw [if_neg hs, if_neg hs]
    refine ⟨vs ++ [v], ?_, ?_, ?_, ?_⟩
    · rw [List.map_append, List.map_append, h.keys]; rfl
    · rw [List.map_append]; exact vals_snoc rv h.vals
    · rw [List.map_append, List.map_append]; exact reps_snoc hb h.ka
    · rw [List.map_append]; exact reps_snoc rd h.va
theorem Rows3.mono {K : PySem.W.Frag} {H H' : Hp} {xs : List (NestedKey × Addr × Value)} {kvs : List (NestedKey × D)} {vs : List V} (h : Rows3 K H xs kvs vs) (s : Same H H') : Rows3 K H' xs kvs vs := ⟨h.keys, h.vals, h.ka.mono s, h.va.mono s⟩
theorem stored_nd {k : NestedKey} {b : Addr} {u : Value} {xs : List (NestedKey × Addr × Value)} (h : (xs.map (·.1)).Nodup) : ((storedH xs k b u).map (·.1)).Nodup := by
  unfold storedH
  cases e : (atKey xs k).isSome with
  | true =>
    rw [if_pos rfl]
    have : (xs.map (putAt k u)).map (·.1) = xs.map (·.1) := by
      rw [List.map_map]
      refine List.map_congr_left fun x _ => ?_
      show (putAt k u x).1 = x.1
      unfold putAt
      split <;> rfl
    rw [this]
    exact h
  | false =>
    rw [if_neg (by decide), List.map_append]
    refine List.nodup_append.mpr ⟨h, by simp, fun a ha c hc z => ?_⟩
    simp only [List.map_cons, List.map_nil, List.mem_singleton] at hc
    subst hc
    subst z
    obtain ⟨x, hx, e1⟩ := List.mem_map.mp ha
    have : (atKey xs a).isSome = true := by
      unfold atKey
      rw [Option.isSome_map, List.find?_isSome]
      exact ⟨x, hx, decide_eq_true e1⟩
    rw [this] at e
    cases e
theorem stored_len {k : NestedKey} {b : Addr} {u : Value} {xs : List (NestedKey × Addr × Value)} : (storedH xs k b u).length ≤ xs.length + 1 := by
  unfold storedH
  split <;> simp
end
/-! ### the rules -/
section
variable {X : Cx} {pins : List (Addr × Obj)} {σ : L2.St} {H G : Hp} {s : Shared}
/-- at a a dict, that reads so -/
def NAt (X : Cx) (H G : Hp) (a : Addr) (kvs : List (NestedKey × D)) : Prop := Same G H ∧ ∃ o xs vs, H a = some (DtO a o X.w xs) ∧ DtOk a xs (kvs.map (·.1)) vs ∧ Rows3 X.K G xs kvs vs
theorem NAt.dict (I : Inv X pins σ H s) {a : Addr} {kvs : List (NestedKey × D)} (h : NAt X H G a kvs) : ∃ o xs vs, H a = some (DtO a o X.w xs) ∧ DtOk a xs (kvs.map (·.1)) vs ∧ Rows3 X.K G xs kvs vs ∧ s.heap.DictOfH (nestedKind X.prog X.w) a xs := by
  obtain ⟨sm, o, xs, vs, h1, h2, h3⟩ := h
  have d : DicAt X.K H a o X.w xs (kvs.map (·.1)) vs := ⟨h1, h2, by rw [List.map_map]; exact h3.ka.mono sm⟩
  exact ⟨o, xs, vs, h1, h2, h3, d.dict I⟩
/-- y is the key k, a tuple -/
def KAt (X : Cx) (G : Hp) (y : V) (k : NestedKey) : Prop := ∃ b, y = .ref b ∧ Rep X.K G y (keyD k) ∧ k.depth ≤ 8
theorem KAt.is (I : Inv X pins σ H s) {y : V} {u : Value} {k : NestedKey} (h : KAt X G y k) (sm : Same G H) (r : RelV y u) : ∃ b, u = .ref b ∧ y = .ref b ∧ (nestedKind X.prog X.w).is s.heap k b := by
  obtain ⟨b, rfl, h1, h2⟩ := h
  obtain rfl : u = Value.ref b := r
  exact ⟨b, rfl, rfl, nested_of I _ _ _ (h1.mono sm) rfl, h2⟩
theorem room9 (hu : X.A.units + 64 < cLine) : (nestedKind X.prog X.w).room X.A.in1 := by
  show X.A.in1.units + 8 < cLine
  have : X.A.in1.units = X.A.units + 1 := rfl
  omega
/-- d[y], there -/
def tNGet (X : Cx) (td ty : TE) : TE := fun σ H Q => td σ H fun x H1 => ty σ H1 fun y H2 => ∃ a G kvs k d, x = .ref a ∧ NAt X H2 G a kvs ∧ KAt X G y k ∧ valD kvs k = some d ∧ ∀ v, Rep X.K G v d → Q v H2
theorem pe_nget {o i : Expr} {pos : Pos} {td ty : TE} (hu : X.A.units + 64 < cLine) (ho : PE X o td) (hi : PE X i ty) (hs : NoSl i) : PE X (.Subscript o i pos) (tNGet X td ty) := by
  refine ⟨fun pins s σ H Q I h => ?_⟩
  refine subD_of PySem.F.slot_dict_getitem.lookup hs (thn (ho.run pins s σ H _ I h) fun u s1 ⟨x, H1, I1, rx, q1⟩ => thn (hi.run pins s1 σ H1 _ I1 q1) fun iv s2 ⟨y, H2, I2, ry, a, G, kvs, k, d, ex, g, gk, hv, q2⟩ => ?_)
  subst ex
  obtain rfl : u = Value.ref a := rx
  obtain ⟨b, rfl, rfl, hkey⟩ := gk.is I2 g.1 ry
  obtain ⟨o0, xs, vs, h1, h2, h3, hd⟩ := g.dict I2
  have f := h3.find k
  rw [hv] at f
  obtain ⟨v, b2, u2, f1, f2, f3⟩ := f
  exact ⟨hd.typeIs, wpAny_getItem_heap (room9 hu) hkey hd f1 ⟨v, H2, I2.tok _, f2, q2 v f3⟩⟩
/-- d[y] = v -/
def sNPut (X : Cx) (td ty tv : TE) : TS := fun De σ H => tv σ H fun v H1 => td σ H1 fun x H2 => ty σ H2 fun y H3 => ∃ a G kvs k d, x = .ref a ∧ NAt X H3 G a kvs ∧ KAt X G y k ∧ Rep X.K G v d ∧ kvs.length < sizeLine ∧
  ∀ o xs' vs', DtOk a xs' ((putD kvs k d).map (·.1)) vs' → Rows3 X.K G xs' (putD kvs k d) vs' → De.nx σ (upd H3 a (DtO a o X.w xs'))
theorem put_deep {kvs : List (NestedKey × D)} {k : NestedKey} {d : D} (h : ∀ q ∈ kvs.map (·.1), q.depth ≤ 8) (hk : k.depth ≤ 8) : ∀ q ∈ (putD kvs k d).map (·.1), q.depth ≤ 8 := by
  intro q hq
  unfold putD at hq
  split at hq
  · rw [List.map_map] at hq
    obtain ⟨p, hp, rfl⟩ := List.mem_map.mp hq
    refine h _ (List.mem_map.mpr ⟨p, hp, ?_⟩)
    show p.1 = (if p.1 = k then (p.1, d) else p).1
    split <;> rfl
  · rw [List.map_append] at hq
    rcases List.mem_append.mp hq with hq | hq
    · exact h q hq
    · simp only [List.map_cons, List.map_nil, List.mem_singleton] at hq
      rw [hq]
      exact hk
theorem ps_nput {o i value : Expr} {pos pos' : Pos} {td ty tv : TE} (hu : X.A.units + 64 < cLine) (ho : PE X o td) (hi : PE X i ty) (hv : PE X value tv) (hs : swapsWith value (some (.Subscript o i pos')) pos.line X.env = pure false) :
    PS X (.Assign [.Subscript o i pos'] value pos) (sNPut X td ty tv) := by
  refine ⟨fun pins s σ H D I h => ?_⟩
  refine wpAny_Assign_Subscript (thn (hv.run pins s σ H _ I h) fun r s1 ⟨v, H1, I1, rv, q1⟩ => thn (ho.run pins s1 σ H1 _ I1 q1) fun u s2 ⟨x, H2, I2, rx, q2⟩ => thn (hi.run pins s2 σ H2 _ I2 q2) fun iv s3 ⟨y, H3, I3, ry, a, G, kvs, k, d, ex, g, gk, rd, hl, q3⟩ => ?_) hs
  subst ex
  obtain rfl : u = Value.ref a := rx
  obtain ⟨b0, ey0, hkr, hdp⟩ := id gk
  obtain ⟨b, rfl, ey, hkey⟩ := gk.is I3 g.1 ry
  rw [ey] at hkr
  obtain ⟨o0, xs, vs, h1, h2, h3, hd⟩ := g.dict I3
  have e1 : xs.length = kvs.length := by
    have := congrArg List.length h3.keys
    simpa using this
  refine wpAny_setItem_heap (hsz := h2.len) (room9 hu) hkey hd fun h' dd' hs' => ?_
  have he : ∃ q, h'.get? a = some q := let ⟨q, _, _, hq, _⟩ := dd'; ⟨q, hq⟩
  obtain ⟨o1, ok1⟩ := dtO_ok (H' := fun b => H3 b) dd'
  have I4 := d_write (ob := DtO a o1 X.w (storedH xs k b r)) (t' := s3.toks + (nestedKind X.prog X.w).draws k) I3 (by rw [h1]; exact True.intro) hs' he ok1
  obtain ⟨vs', h5⟩ := h3.put (b := b) hkr rv rd
  exact ⟨σ, _, I4, q3 _ _ vs' ⟨h2.far, Nat.le_trans stored_len (by omega), stored_nd h2.nd, h5.keys, put_deep h2.deep hdp, h5.vals⟩ h5⟩
/-- y in d; not in -/
def tNIn (X : Cx) (neg : Bool) (ty td : TE) : TE := fun σ H Q => ty σ H fun y H1 => td σ H1 fun x H2 => ∃ a G kvs k, x = .ref a ∧ NAt X H2 G a kvs ∧ KAt X G y k ∧ Q (.bl (xor neg (valD kvs k).isSome)) H2
theorem pc_nin {o i : Expr} {td ty : TE} (hu : X.A.units + 64 < cLine) (hi : PE X i ty) (ho : PE X o td) : PC X .In i o (tNIn X false ty td) := by
  refine ⟨fun pins s σ H Q I h => ?_⟩
  refine thn (hi.run pins s σ H _ I h) fun iv s1 ⟨y, H1, I1, ry, q1⟩ => thn (ho.run pins s1 σ H1 _ I1 q1) fun u s2 ⟨x, H2, I2, rx, a, G, kvs, k, ex, g, gk, q2⟩ => ?_
  subst ex
  obtain rfl : u = Value.ref a := rx
  obtain ⟨b, rfl, rfl, hkey⟩ := gk.is I2 g.1 ry
  obtain ⟨o0, xs, vs, h1, h2, h3, hd⟩ := g.dict I2
  refine wpAny_in_heap (room9 hu) hkey h2.far hd ?_
  rw [h3.some]
  exact ⟨.bl _, H2, I2.tok _, rfl, by rw [Bool.false_xor] at q2; exact q2⟩
theorem pc_nnotin {o i : Expr} {td ty : TE} (hu : X.A.units + 64 < cLine) (hi : PE X i ty) (ho : PE X o td) : PC X .NotIn i o (tNIn X true ty td) := by
  refine ⟨fun pins s σ H Q I h => ?_⟩
  refine thn (hi.run pins s σ H _ I h) fun iv s1 ⟨y, H1, I1, ry, q1⟩ => thn (ho.run pins s1 σ H1 _ I1 q1) fun u s2 ⟨x, H2, I2, rx, a, G, kvs, k, ex, g, gk, q2⟩ => ?_
  subst ex
  obtain rfl : u = Value.ref a := rx
  obtain ⟨b, rfl, rfl, hkey⟩ := gk.is I2 g.1 ry
  obtain ⟨o0, xs, vs, h1, h2, h3, hd⟩ := g.dict I2
  refine wpAny_notIn_heap (room9 hu) hkey h2.far hd ?_
  rw [h3.some]
  exact ⟨.bl _, H2, I2.tok _, rfl, by rw [Bool.true_xor] at q2; exact q2⟩
/-- x is a dict -/
theorem NAt.at' (I : Inv X pins σ H s) {a : Addr} {kvs : List (NestedKey × D)} (h : NAt X H G a kvs) : s.TypeIs (.ref a) "dict" ∧ (∀ b, Value.ref a = .ref b → ∃ ob, s.heap.get? b = some ob ∧ ob.dict = none) := by
  obtain ⟨o0, xs, vs, h1, h2, h3, hd⟩ := h.dict I
  refine ⟨hd.typeIs, fun b q => ?_⟩
  cases q
  obtain ⟨ob, _, _, h1, h2, _⟩ := hd
  exact ⟨ob, h1, h2.2.1⟩
/-- d.get(y, z) -/
def tNGet2 (X : Cx) (td ty tx : TE) : TE := fun σ H Q => td σ H fun x H1 => ∃ a, x = .ref a ∧ (∃ G kvs, NAt X H1 G a kvs) ∧ ty σ H1 fun y H2 => tx σ H2 fun z H3 => ∃ G kvs k, NAt X H3 G a kvs ∧ KAt X G y k ∧
  (∀ d v, valD kvs k = some d → Rep X.K G v d → Q v H3) ∧ (valD kvs k = none → Q z H3)
theorem pe_nget2 {o e f : Expr} {apos cpos : Pos} {td ty tx : TE} (hu : X.A.units + 64 < cLine) (ho : PE X o td) (he : PE X e ty) (hf : PE X f tx) (m : M2 X o "get" apos e f cpos) : PE X (.Call (.Attribute o "get" apos) [e, f] [] cpos) (tNGet2 X td ty tx) := by
  refine ⟨fun pins s σ H Q I h => ?_⟩
  refine wpAny_Call_method m.base m.few m.line PySem.F.plainAttrs_dict PySem.F.slot_dict_get PySem.F.type_dict_get (thn (ho.run pins s σ H _ I h) fun u s1 ⟨x, H1, I1, rx, a, ex, ⟨G0, kvs0, g0⟩, q1⟩ => ?_)
  subst ex
  obtain rfl : u = Value.ref a := rx
  obtain ⟨t1, t2⟩ := g0.at' I1
  refine ⟨t1, t2, ?_⟩
  rw [m.trees]
  refine Calls.callWith_builtin rfl (Calls.evalArgs_plain (Calls.spliced_cons (thn (he.run pins s1 σ H1 _ I1 q1) fun iv s2 ⟨y, H2, I2, ry, q2⟩ =>
    Calls.spliced_cons (thn (hf.run pins s2 σ H2 _ I2 q2) fun fv s3 ⟨z, H3, I3, rz, G, kvs, k, g, gk, q3, q4⟩ => Calls.spliced_nil ?_))))
  obtain ⟨b, rfl, rfl, hkey⟩ := gk.is I3 g.1 ry
  obtain ⟨o0, xs, vs, h1, h2, h3, hd⟩ := g.dict I3
  refine call_meetsIn PySem.F.slot_dict_get hd.typeIs PySem.F.entry_dict_get (PySem.F.args_dict_get_3 _ _ _) (meetsH_dict_get_default (nestedKind X.prog X.w) a b h2.far fv) ⟨room9 hu, k, xs, hkey, hd, ?_⟩
  have f := h3.find k
  cases hv : valD kvs k with
  | none =>
    rw [hv] at f
    rw [f]
    exact ⟨z, H3, I3.tok _, rz, q4 hv⟩
  | some d =>
    rw [hv] at f
    obtain ⟨v, b2, u2, f1, f2, f3⟩ := f
    rw [f1]
    exact ⟨v, H3, I3.tok _, f2, q3 d v hv f3⟩
/-- d.pop(y), there -/
theorem Rows3.drop {K : PySem.W.Frag} {H : Hp} {k : NestedKey} : ∀ {xs : List (NestedKey × Addr × Value)} {kvs : List (NestedKey × D)} {vs : List V}, Rows3 K H xs kvs vs → ∃ vs', Rows3 K H (withoutH xs k) (dropD kvs k) vs'
  | [], [], vs, h => ⟨vs, h⟩
  | [], _ :: _, _, h => by have := h.keys; simp at this
  | _ :: _, [], _, h => by have := h.keys; simp at this
  | x :: xs, p :: kvs, vs, h => by
    obtain ⟨h1, h2, h3, h4⟩ := h
    simp only [List.map_cons] at h1 h2 h3 h4
    obtain ⟨e1, e2⟩ := List.cons.inj h1
    cases h4 with | @cons v0 vs0 _ _ r1 r2 =>
    cases h2 with | cons v1 v2 =>
    cases h3 with | cons k1 k2 =>
    obtain ⟨vs', g1, g2, g3, g4⟩ := Rows3.drop (k := k) ⟨e2, v2, k2, r2⟩
    by_cases hk : p.1 = k
    · have a1 : withoutH (x :: xs) k = withoutH xs k := by simp [withoutH, e1, hk]
      have a2 : dropD (p :: kvs) k = dropD kvs k := by simp [dropD, hk]
      rw [a1, a2]
      exact ⟨vs', g1, g2, g3, g4⟩
    · have a1 : withoutH (x :: xs) k = x :: withoutH xs k := by simp [withoutH, e1, hk]
      have a2 : dropD (p :: kvs) k = p :: dropD kvs k := by simp [dropD, hk]
      rw [a1, a2]
      refine ⟨v0 :: vs', ?_, ?_, ?_, ?_⟩
      · simp only [List.map_cons]; rw [g1, e1]
      · exact .cons v1 g2
      · exact .cons k1 g3
      · exact .cons r1 g4
def tNPop (X : Cx) (td ty : TE) : TE := fun σ H Q => td σ H fun x H1 => ∃ a, x = .ref a ∧ (∃ G kvs, NAt X H1 G a kvs) ∧ ty σ H1 fun y H2 => ∃ G kvs k d, NAt X H2 G a kvs ∧ KAt X G y k ∧ valD kvs k = some d ∧
  ∀ v o xs' vs', Rep X.K G v d → DtOk a xs' ((dropD kvs k).map (·.1)) vs' → Rows3 X.K G xs' (dropD kvs k) vs' → Q v (upd H2 a (DtO a o X.w xs'))
theorem pe_npop {o e : Expr} {apos cpos : Pos} {td ty : TE} (hu : X.A.units + 64 < cLine) (ho : PE X o td) (he : PE X e ty) (m : M1 X o "pop" apos e cpos) : PE X (.Call (.Attribute o "pop" apos) [e] [] cpos) (tNPop X td ty) := by
  refine ⟨fun pins s σ H Q I h => ?_⟩
  refine wpAny_Call_method m.base m.few m.line PySem.F.plainAttrs_dict PySem.F.slot_dict_pop PySem.F.type_dict_pop (thn (ho.run pins s σ H _ I h) fun u s1 ⟨x, H1, I1, rx, a, ex, ⟨G0, kvs0, g0⟩, q1⟩ => ?_)
  subst ex
  obtain rfl : u = Value.ref a := rx
  obtain ⟨t1, t2⟩ := g0.at' I1
  refine ⟨t1, t2, ?_⟩
  rw [m.trees]
  refine Calls.callWith_builtin rfl (Calls.evalArgs_plain (Calls.spliced_cons (thn (he.run pins s1 σ H1 _ I1 q1) fun iv s2 ⟨y, H2, I2, ry, G, kvs, k, d, g, gk, hv, q2⟩ => Calls.spliced_nil ?_)))
  obtain ⟨b, rfl, rfl, hkey⟩ := gk.is I2 g.1 ry
  obtain ⟨o0, xs, vs, h1, h2, h3, hd⟩ := g.dict I2
  have f := h3.find k
  rw [hv] at f
  obtain ⟨v, b2, u2, f1, f2, f3⟩ := f
  refine call_pop_heap (.inl rfl) (PySem.F.args_dict_pop_2 _ _) (room9 hu) hkey h2.far hd f1 (fun h' dd' hs' => ?_) h2.len
  have he : ∃ q, h'.get? a = some q := let ⟨q, _, _, hq, _⟩ := dd'; ⟨q, hq⟩
  obtain ⟨o1, ok1⟩ := dtO_ok (H' := fun b => H2 b) dd'
  have I4 := d_write (ob := DtO a o1 X.w (withoutH xs k)) (t' := s2.toks + (nestedKind X.prog X.w).draws k) I2 (by rw [h1]; exact True.intro) hs' he ok1
  obtain ⟨vs', h5⟩ := h3.drop (k := k)
  have hnd : ((withoutH xs k).map (·.1)).Nodup := h2.nd.sublist (List.Sublist.map _ List.filter_sublist)
  exact ⟨v, _, I4, f2, q2 v _ _ vs' f3 ⟨h2.far, Nat.le_trans (List.length_filter_le _ _) h2.len, hnd, h5.keys, fun q hq => h2.deep q ((List.filter_sublist.map _).subset hq), h5.vals⟩ h5⟩
/-- {} -/
def tNNew (X : Cx) : TE := fun _ H Q => ∀ p o, H p = none → (p == sysModules) = false → Q (.ref p) (upd H p (DtO p o X.w []))
theorem pe_nnew {pos : Pos} : PE X (.Dict [] [] pos) (tNNew X) := ⟨fun pins s σ H Q I h => by
  refine wpAny_Dict_empty ⟨.ref s.heap.objs.size, _, I.laid (a := s.heap.objs.size) (o := DtO s.heap.objs.size { cls := .type "dict", data := .dict #[] } X.w []) (t' := s.toks) (fun _ _ q => Heap.get?_push_of_some _ q) (Nat.le_refl _) ?_, rfl,
    h _ _ (I.hok.fresh (Nat.le_refl _)) (beq_eq_false_iff_ne.mpr (Ne.symm (Nat.ne_of_lt I.big)))⟩
  refine ⟨⟨Heap.get?_push_size _ rfl, ⟨rfl, rfl, rfl⟩, #[], 0, rfl, rfl⟩, ⟨_, Heap.get?_push_size _ rfl⟩, fun g1 g2 ⟨h1, h2, es, ep, h3, h4⟩ k => ⟨k _ h1, h2, es, ep, h3, h4⟩⟩⟩
/-- the keys, from the first -/
def Itn (d : Addr) (o : Obj) (w : World) (xs : List (NestedKey × Addr × Value)) : It :=
  ⟨fun i H => H d = some (DtO d o w xs) ∧ i < xs.length, fun i H x H' => H' = H ∧ ∃ p, xs[i]? = some p ∧ x = .ref p.2.1, fun i H => H d = some (DtO d o w xs) ∧ xs.length ≤ i⟩
theorem dtO_get {P : Program} {w' : World} {H : Hp} {h : Heap} {d : Addr} {o : Obj} {w : World} {xs : List (NestedKey × Addr × Value)} (k : HOk P w' H h) (e : H d = some (DtO d o w xs)) : h.get? d = some o ∧ o.ExactDict ∧ ∃ es ep, o.data = .dict es ep ∧ es.toList = xs.map fun x => (⟨x.1.hash w, .ref x.2.1, x.2.2⟩ : DictEntry) := by
  have x : ObjOk P w' H h d (.ext fun h => h.get? d = some o ∧ o.ExactDict ∧ ∃ es ep, o.data = .dict es ep ∧ es.toList = xs.map fun x => (⟨x.1.hash w, .ref x.2.1, x.2.2⟩ : DictEntry)) := k d _ e
  exact x.1
theorem turn_n {P : Program} {w w' : World} {K : PySem.W.Frag} {tg : Expr} {d : Addr} {o : Obj} {xs : List (NestedKey × Addr × Value)} {es : Array DictEntry} {ep : Nat} (it : Addr) (hod : o.data = .dict es ep) :
    Turn P w K tg (Itn d o w' xs) [it] it (fun i h => h.IsKeyIter it d i xs.length ep) where
  mem := by simp
  obj := fun i h st b hb => by
    have e : b = it := by simpa using hb
    subst e
    obtain ⟨oi, e, c, dd⟩ := st
    exact ⟨oi, e, fun v z => by rw [dd] at z; cases z⟩
  keep := fun i h h' st k => st.at fun oi e => k it (by simp) oi e
  item := by
    intro X hP hw hK hc i pins s σ H E I hf st hg
    subst hP hw hK
    obtain ⟨hd, hi⟩ := hg
    obtain ⟨f0, f1, f2, f3, f4, f5⟩ := hf it (by simp)
    obtain ⟨hgd, hx, es', ep', hdt, hes⟩ := dtO_get I.hok hd
    obtain ⟨rfl, rfl⟩ := dict_ep hod hdt
    have hsz : es'.size = xs.length := by rw [← Array.length_toList, hes, List.length_map]
    have hen : es'[i]? = some ⟨xs[i].1.hash w', .ref xs[i].2.1, xs[i].2.2⟩ := by
      rw [← Array.getElem?_toList, hes, List.getElem?_map, List.getElem?_eq_getElem hi]
      rfl
    refine next_key_item st hgd hdt hsz hen fun h' st' sb => ?_
    have I1 : Inv X pins σ H { s with heap := h' } := I.turned (t' := s.toks) (fun b ob hb e => (sb.2 b hb).trans e) f0 f1 f3 f4 f5
    obtain ⟨oi, e, c, dd⟩ := id st'
    exact ⟨.ref xs[i].2.1, rfl, go_of (s := { s with heap := h' }) e c dd (by decide) ⟨.ref xs[i].2.1, H, I1, rfl, ⟨rfl, xs[i], List.getElem?_eq_getElem hi, rfl⟩, st', fun b hb => (hf b hb).1⟩⟩
  done := by
    intro X hP hw hK hc i pins s σ H E I hf st hg
    subst hP hw hK
    obtain ⟨hd, hi⟩ := hg
    obtain ⟨f0, f1, f2, f3, f4, f5⟩ := hf it (by simp)
    obtain ⟨hgd, hx, es', ep', hdt, hes⟩ := dtO_get I.hok hd
    obtain ⟨rfl, rfl⟩ := dict_ep hod hdt
    have hsz : es'.size = xs.length := by rw [← Array.length_toList, hes, List.length_map]
    exact next_key_end (I.ok.hd hc) st hgd hdt hsz hi fun h' eb => ⟨rfl, I.turned (t' := s.toks) (fun b ob hb e => eb b ob hb e) f0 f1 f3 f4 f5⟩
  self := fun A i s Q E st h => by
    refine wpAny_pyIter_slot st.typeIs F.slot_dict_keyiterator_iter (wpAny_call_entry F.slot_dict_keyiterator_iter st.typeIs F.entry_dict_keyiterator_iter ?_ (F.args_dict_keyiterator_iter_1 _))
    show wpAny _ _ (ret (.ref it)) _ _ s
    exact wpAny_pure ⟨_, rfl, "dict_keyiterator", _, st.typeIs, F.slot_dict_keyiterator_next.lookup, h⟩
def iN (X : Cx) (td : TE) : TI := fun σ H R => td σ H fun x H1 => ∃ a o xs, x = .ref a ∧ H1 a = some (DtO a o X.w xs) ∧ (a == sysModules) = false ∧ R (Itn a o X.w xs) H1
theorem pi_n {tg e : Expr} {td : TE} (he : PE X e td) : PI X tg e (iN X td) := by
  refine ⟨fun pins s σ H R I h => ?_⟩
  refine thn (he.run pins s σ H _ I h) fun u s1 ⟨x, H1, I1, rx, a, o, xs, ex, ha, hs, q⟩ => ?_
  subst ex
  obtain rfl : u = Value.ref a := rx
  obtain ⟨hgd, hx, es, ep, hdt, hes⟩ := dtO_get I1.hok ha
  have hsz : es.size = xs.length := by rw [← Array.length_toList, hes, List.length_map]
  refine iter_keys hs hgd hx hdt (pi_one (tk := s1.toks) I1 _ (turn_n _ hdt) ⟨_, Heap.get?_push_size _ rfl, rfl, ?_⟩ q)
  rw [hsz]
  rfl
end
end RW

/-! RW: dicts whose keys are tuples: the layer's own rules. -/
namespace RW
open PySem PySem.Spec PyProof.Rows L2
/-- x is such a dict, owned or fixed -/
def IsN (w : World) (O : Own) (x : D) (kvs : List (NestedKey × D)) : Prop := x = .dt w kvs ∨ ∃ p, x = .obj p ∧ O p = some (.dt w kvs)
section
variable {X : Cx} {H Hd : Hp} {O : Own}
theorem readN (h : AbsH X.K H Hd O) {v : V} {x : D} {kvs : List (NestedKey × D)} (r : Rep X.K Hd v x) (e : IsN X.w O x kvs) : ∃ a, v = .ref a ∧ NAt X H Hd a kvs := by
  rcases e with rfl | ⟨p, rfl, e⟩
  · cases r with | dt h1 h2 h3 h4 =>
    exact ⟨_, rfl, h.same, _, _, _, h.same _ _ h1, h2, ⟨h2.keys, h2.vals, h3, h4⟩⟩
  · cases r
    obtain ⟨_, o, xs, vs, h1, h2, h3, h4⟩ := h.own p _ e
    exact ⟨p, rfl, h.same, o, xs, vs, h1, h2, ⟨h2.keys, h2.vals, h3, h4⟩⟩
theorem key_at {v : V} {ks : List NestedKey} (r : Rep X.K Hd v (keyD (.tup ks))) (dp : (NestedKey.tup ks).depth ≤ 8) : KAt X Hd v (.tup ks) := by
  have r' : Rep X.K Hd v (.tup (keyDs ks)) := r
  cases r' with | tup g r2 =>
  exact ⟨_, rfl, r, dp⟩
/-- an owned dict is fixed -/
theorem AbsH.fixN {K : PySem.W.Frag} {p : Addr} {w : World} {kvs : List (NestedKey × D)} (h : AbsH K H Hd O) (e : O p = some (.dt w kvs)) : ∃ Hd', Same Hd Hd' ∧ AbsH K H Hd' (delO O p) ∧ Rep K Hd' (.ref p) (.dt w kvs) := by
  obtain ⟨n, o, xs, vs, h1, h2, h3, h4⟩ := h.own p _ e
  have s := same_new (o := DtO p o w xs) n
  refine ⟨upd Hd p (DtO p o w xs), s, ⟨fun b x q => ?_, fun a c q => ?_⟩, .dt upd_same h2 (h3.mono s) (h4.mono s)⟩
  · by_cases hb : b = p
    · subst hb; rw [upd_same] at q; cases q; exact h1
    · rw [upd_ne hb] at q; exact h.same b x q
  · have ne : a ≠ p := fun z => by subst z; simp [delO] at q
    have q' : O a = some c := by simpa [delO, ne] using q
    obtain ⟨g1, g2⟩ := h.own a c q'
    exact ⟨by rw [upd_ne ne]; exact g1, g2.mono rfl s⟩
end
section
variable {X : Cx} {E : ExP} {Γ : Env'} {O : Own} {Q : PD} {o i e f value : Expr} {pos pos' apos : Pos} {De : EndsD}
/-- {} -/
theorem w_dnew (h : ∀ p, O p = none → Q (.obj p) (updO O p (.dt X.w []))) : WE X E (.Dict [] [] pos) Γ O Q := .mk fun W σ H Hd q =>
  wE_of pe_nnew fun p ob hp far => ⟨.obj p, updO O p (.dt X.w []), Hd, Same.refl _, q.h.put (q.h.free hp) ⟨ob, [], [], upd_same, ⟨far, Nat.zero_le _, List.nodup_nil, rfl, (fun k hk => nomatch hk), .nil⟩, .nil, .nil⟩, .obj p, h p (q.h.freeO hp)⟩
/-- d[k], there -/
theorem w_dget (hu : X.A.units + 64 < cLine) (h : WE X E o Γ O fun x O1 => WE X E i Γ O1 fun y O2 => ∃ kvs ks d, IsN X.w O2 x kvs ∧ y = keyD (.tup ks) ∧ (NestedKey.tup ks).depth ≤ 8 ∧ valD kvs (.tup ks) = some d ∧ Q d O2) (hs : NoSl i := by exact fun _ _ => rfl) :
    WE X E (.Subscript o i pos) Γ O Q := .mk fun W σ H Hd p =>
  wE_of (pe_nget hu peW peW hs) (h.use p fun v H1 x O1 Hd1 s1 p1 r1 q1 => q1.use p1 fun u H2 y O2 Hd2 s2 p2 r2 ⟨kvs, ks, d, e, ey, dp, hv, q⟩ => by
    obtain ⟨a, rfl, g⟩ := readN p2.h (r1.mono s2) e
    subst ey
    exact ⟨a, Hd2, kvs, .tup ks, d, rfl, g, key_at r2 dp, hv, fun v' rv => .lift (s1.trans s2) (.of p2.h rv q)⟩)
/-- d[k] = value -/
theorem ws_dput (hu : X.A.units + 64 < cLine) (h : WE X E value Γ O fun d O1 => WE X E o Γ O1 fun x O2 => WE X E i Γ O2 fun y O3 => ∃ p kvs ks, x = .obj p ∧ O3 p = some (.dt X.w kvs) ∧ y = keyD (.tup ks) ∧ (NestedKey.tup ks).depth ≤ 8 ∧ kvs.length < sizeLine ∧ De.nx Γ (updO O3 p (.dt X.w (putD kvs (.tup ks) d))))
    (hs : swapsWith value (some (.Subscript o i pos')) pos.line X.env = pure false := by rfl) : WS X E (.Assign [.Subscript o i pos'] value pos) Γ O De := .mk fun W σ H Hd p =>
  wS_of (ps_nput hu peW peW peW hs) (h.use p fun v H1 d O1 Hd1 s1 p1 r1 q1 => q1.use p1 fun u H2 x O2 Hd2 s2 p2 r2 q2 => q2.use p2 fun y' H3 y O3 Hd3 s3 p3 r3 ⟨pa, kvs, ks, ex, e, ey, dp, hl, q⟩ => by
    subst ex ey
    cases r2
    obtain ⟨n, _⟩ := p3.h.own pa _ e
    obtain ⟨a, ea, g⟩ := readN p3.h (.obj pa) (.inr ⟨pa, rfl, e⟩)
    cases ea
    exact ⟨pa, Hd3, kvs, .tup ks, d, rfl, g, key_at r3 dp, (r1.mono s2).mono s3, hl, fun ob xs' vs' ok rows => ⟨Γ, _, Hd3, s1.trans (s2.trans s3), p3.g, p3.h.put (c := .dt X.w (putD kvs (.tup ks) d)) n ⟨ob, xs', vs', upd_same, ok, rows.ka, rows.va⟩, q⟩⟩)
/-- k in d, k not in d -/
theorem w_din (hu : X.A.units + 64 < cLine) (h : WE X E i Γ O fun y O1 => WE X E o Γ O1 fun x O2 => ∃ kvs ks, IsN X.w O2 x kvs ∧ y = keyD (.tup ks) ∧ (NestedKey.tup ks).depth ≤ 8 ∧ Q (.bl (valD kvs (.tup ks)).isSome) O2) (hm : behindInMarks .In o = false := by rfl) :
    WE X E (.Compare i [.In] [o] pos) Γ O Q := .mk fun W σ H Hd p =>
  wE_of (pe_cmp (pc_nin hu peW peW) hm) (h.use p fun u H1 y O1 Hd1 s1 p1 r1 q1 => q1.use p1 fun v H2 x O2 Hd2 s2 p2 r2 ⟨kvs, ks, e, ey, dp, q⟩ => by
    obtain ⟨a, rfl, g⟩ := readN p2.h r2 e
    subst ey
    exact ⟨a, Hd2, kvs, .tup ks, rfl, g, key_at (r1.mono s2) dp, .lift (s1.trans s2) (.of p2.h (.bl _) (by rw [Bool.false_xor]; exact q))⟩)
theorem w_dnin (hu : X.A.units + 64 < cLine) (h : WE X E i Γ O fun y O1 => WE X E o Γ O1 fun x O2 => ∃ kvs ks, IsN X.w O2 x kvs ∧ y = keyD (.tup ks) ∧ (NestedKey.tup ks).depth ≤ 8 ∧ Q (.bl (!(valD kvs (.tup ks)).isSome)) O2) (hm : behindInMarks .NotIn o = false := by rfl) :
    WE X E (.Compare i [.NotIn] [o] pos) Γ O Q := .mk fun W σ H Hd p =>
  wE_of (pe_cmp (pc_nnotin hu peW peW) hm) (h.use p fun u H1 y O1 Hd1 s1 p1 r1 q1 => q1.use p1 fun v H2 x O2 Hd2 s2 p2 r2 ⟨kvs, ks, e, ey, dp, q⟩ => by
    obtain ⟨a, rfl, g⟩ := readN p2.h r2 e
    subst ey
    exact ⟨a, Hd2, kvs, .tup ks, rfl, g, key_at (r1.mono s2) dp, .lift (s1.trans s2) (.of p2.h (.bl _) (by rw [Bool.true_xor]; exact q))⟩)
/-- d.get(k, z) -/
theorem w_dget2 (hu : X.A.units + 64 < cLine) (h : WE X E o Γ O fun x O1 => (∃ kvs, IsN X.w O1 x kvs) ∧ WE X E e Γ O1 fun y O2 => WE X E f Γ O2 fun z O3 => ∃ kvs ks, IsN X.w O3 x kvs ∧ y = keyD (.tup ks) ∧ (NestedKey.tup ks).depth ≤ 8 ∧ Q ((valD kvs (.tup ks)).getD z) O3)
    (m : M2 X o "get" apos e f pos := by exact ⟨rfl, rfl, rfl, rfl⟩) : WE X E (.Call (.Attribute o "get" apos) [e, f] [] pos) Γ O Q := .mk fun W σ H Hd p =>
  wE_of (pe_nget2 hu peW peW peW m) (h.use p fun v H1 x O1 Hd1 s1 p1 r1 ⟨⟨kvs0, e0⟩, q1⟩ => by
    obtain ⟨a, rfl, g0⟩ := readN p1.h r1 e0
    refine ⟨a, rfl, ⟨Hd1, kvs0, g0⟩, q1.use p1 fun u H2 y O2 Hd2 s2 p2 r2 q2 => q2.use p2 fun z' H3 z O3 Hd3 s3 p3 r3 ⟨kvs, ks, e, ey, dp, q⟩ => ?_⟩
    obtain ⟨a', ea, g⟩ := readN p3.h ((r1.mono s2).mono s3) e
    cases ea
    subst ey
    refine ⟨Hd3, kvs, .tup ks, g, key_at (r2.mono s3) dp, fun d v hv rv => ?_, fun hn => ?_⟩
    · rw [hv] at q
      exact .lift (s1.trans (s2.trans s3)) (.of p3.h rv q)
    · rw [hn] at q
      exact .lift (s1.trans (s2.trans s3)) (.of p3.h r3 q))
/-- d.pop(k), there -/
theorem w_dpop (hu : X.A.units + 64 < cLine) (h : WE X E o Γ O fun x O1 => ∃ p, x = .obj p ∧ (∃ kvs, O1 p = some (.dt X.w kvs)) ∧ WE X E e Γ O1 fun y O2 => ∃ kvs ks d, O2 p = some (.dt X.w kvs) ∧ y = keyD (.tup ks) ∧ (NestedKey.tup ks).depth ≤ 8 ∧ valD kvs (.tup ks) = some d ∧ Q d (updO O2 p (.dt X.w (dropD kvs (.tup ks)))))
    (m : M1 X o "pop" apos e pos := by exact ⟨rfl, rfl, rfl, rfl⟩) : WE X E (.Call (.Attribute o "pop" apos) [e] [] pos) Γ O Q := .mk fun W σ H Hd p =>
  wE_of (pe_npop hu peW peW m) (h.use p fun v H1 x O1 Hd1 s1 p1 r1 ⟨pa, ex, ⟨kvs0, e0⟩, q1⟩ => by
    subst ex
    cases r1
    obtain ⟨a, ea, g0⟩ := readN p1.h (.obj pa) (.inr ⟨pa, rfl, e0⟩)
    cases ea
    refine ⟨pa, rfl, ⟨Hd1, kvs0, g0⟩, q1.use p1 fun u H2 y O2 Hd2 s2 p2 r2 ⟨kvs, ks, d, e, ey, dp, hv, q⟩ => ?_⟩
    subst ey
    obtain ⟨n, _⟩ := p2.h.own pa _ e
    obtain ⟨a', ea, g⟩ := readN p2.h (.obj pa) (.inr ⟨pa, rfl, e⟩)
    cases ea
    exact ⟨Hd2, kvs, .tup ks, d, g, key_at r2 dp, hv, fun v ob xs' vs' rv ok rows => ⟨d, _, Hd2, s1.trans s2, p2.h.put (c := .dt X.w (dropD kvs (.tup ks))) n ⟨ob, xs', vs', upd_same, ok, rows.ka, rows.va⟩, rv, q⟩⟩)
/-- an owned dict is told by its rows when it is handed back -/
theorem WE.fixedN (h : WE X E e Γ O fun d O' => ∃ p kvs, d = .obj p ∧ O' p = some (.dt X.w kvs) ∧ Q (.dt X.w kvs) (delO O' p)) : WE X E e Γ O Q := .mk fun W σ H Hd p =>
  h.use p fun v H' d O' Hd' s p' r ⟨q, kvs, e1, e2, hq⟩ => by
    subst e1
    cases r
    obtain ⟨Hd2, s2, a2, r2⟩ := p'.h.fixN e2
    exact ⟨_, _, Hd2, s.trans s2, a2, r2, hq⟩
/-- for k in d, d fixed -/
theorem itof_n {K : PySem.W.Frag} {Hd : Hp} {a : Addr} {ob : Obj} {w : World} {xs : List (NestedKey × Addr × Value)} {kvs : List (NestedKey × D)} (h1 : Hd a = some (DtO a ob w xs)) (ka : Reps K Hd (xs.map fun x => V.ref x.2.1) (kvs.map fun p => keyD p.1)) :
    ItOf K Hd (fun _ => True) (Itn a ob w xs) (kvs.map fun p => keyD p.1) := fun i H Hd1 O s h g => by
  have hl : xs.length = kvs.length := by have := ka.length; simpa using this
  refine ⟨fun d hd => ?_, fun hi => ⟨h.same _ _ (s _ _ h1), by rw [List.length_map] at hi; omega⟩⟩
  obtain ⟨v, hv, rv⟩ := ka.get hd
  rw [List.getElem?_map] at hv
  cases hx : xs[i]? with
  | none => rw [hx] at hv; cases hv
  | some x =>
    rw [hx] at hv
    obtain rfl := Option.some.inj hv
    refine ⟨⟨h.same _ _ (s _ _ h1), (List.getElem?_eq_some_iff.mp hx).1⟩, fun y H' ⟨e2, p, hp, ey⟩ => ?_⟩
    subst e2
    rw [hx] at hp
    cases hp
    subst ey
    exact ⟨Hd1, Same.refl _, h, rv.mono s⟩
theorem wi_n {tg l : Expr} {R : (Own → Prop) → List D → Own → Prop} (h : WE X E l Γ O fun x O1 => ∃ kvs, x = .dt X.w kvs ∧ R (fun _ => True) (kvs.map fun p => keyD p.1) O1) : WI X E tg l Γ O R := .mk fun W σ H Hd p =>
  wI_of (pi_n peW) (h.use p fun v H1 x O1 Hd1 s1 p1 r1 ⟨kvs, e, q⟩ => by
    subst e
    cases r1 with | dt h1 h2 h3 h4 =>
    exact ⟨_, _, _, rfl, p1.h.same _ _ h1, h2.far, _, _, O1, Hd1, s1, p1.h, itof_n h1 h3, q⟩)
end
end RW

/-! RW: dicts whose keys are numbers and texts. -/
namespace RW
open PySem PySem.Spec PyProof.Rows L2
theorem key_is {K : PySem.W.Frag} {H : Hp} {v : V} {u : Value} : ∀ {k : Key}, Rep K H v (kD k) → RelV v u → keyIs k u = true
  | .inl i, h, r => by
    have h : Rep K H v (.int i) := h
    cases h
    obtain ⟨t, rfl⟩ : ∃ t, u = .int i t := r
    exact decide_eq_true rfl
  | .inr x, h, r => by
    have h : Rep K H v (.str x) := h
    cases h
    obtain ⟨t, rfl⟩ : ∃ t, u = .str x t := r
    exact decide_eq_true rfl
/-- the rows of such a dict go together -/
structure Rows2 (K : PySem.W.Frag) (H : Hp) (us : List (Key × Value)) (kvs : List (Key × D)) (vs : List V) : Prop where
  keys : us.map (·.1) = kvs.map (·.1)
  vals : Vals vs (us.map (·.2))
  va : Reps K H vs (kvs.map (·.2))
section
variable {K : PySem.W.Frag} {H H' : Hp}
theorem Rows2.mono {us : List (Key × Value)} {kvs : List (Key × D)} {vs : List V} (h : Rows2 K H us kvs vs) (s : Same H H') : Rows2 K H' us kvs vs := ⟨h.keys, h.vals, h.va.mono s⟩
theorem Rows2.find (k : Key) : ∀ {us : List (Key × Value)} {kvs : List (Key × D)} {vs : List V}, Rows2 K H us kvs vs →
    match valD kvs k with
    | none => valueAt us k = none
    | some d => ∃ v u, valueAt us k = some u ∧ RelV v u ∧ Rep K H v d
  | [], [], _, _ => by simp [valD, valueAt]
  | [], _ :: _, _, h => by have := h.keys; simp at this
  | _ :: _, [], _, h => by have := h.keys; simp at this
  | x :: us, p :: kvs, vs, h => by
    obtain ⟨h1, h2, h4⟩ := h
    simp only [List.map_cons] at h1 h2 h4
    obtain ⟨e1, e2⟩ := List.cons.inj h1
    cases h4 with | cons r1 r2 =>
    cases h2 with | cons v1 v2 =>
    by_cases hk : p.1 = k
    · have : valD (p :: kvs) k = some p.2 := by simp [valD, hk]
      rw [this]
      exact ⟨_, x.2, by simp [valueAt, e1, hk], v1, r1⟩
    · have a1 : valD (p :: kvs) k = valD kvs k := by simp [valD, hk]
      have a2 : valueAt (x :: us) k = valueAt us k := by simp [valueAt, e1, hk]
      rw [a1, a2]
      exact Rows2.find k ⟨e2, v2, r2⟩
theorem Rows2.some {k : Key} {us : List (Key × Value)} {kvs : List (Key × D)} {vs : List V} (h : Rows2 K H us kvs vs) : (valueAt us k).isSome = (valD kvs k).isSome := by
  have := h.find k
  cases e : valD kvs k with
  | none => rw [e] at this; rw [this]; rfl
  | some d => rw [e] at this; obtain ⟨_, _, z, _⟩ := this; rw [z]; rfl
theorem Rows2.any {k : Key} {us : List (Key × Value)} {kvs : List (Key × D)} {vs : List V} (h : Rows2 K H us kvs vs) : (us.any fun kv => decide (kv.1 = k)) = (valD kvs k).isSome := by
  rw [← h.some, valueAt, Option.isSome_map]
  generalize us = l
  induction l with
  | nil => rfl
  | cons x l ih =>
    by_cases hk : x.1 = k
    · simp [hk]
    · simp [hk, ih]
theorem Rows2.repl {k : Key} {v : V} {u : Value} {d : D} (rv : RelV v u) (rd : Rep K H v d) : ∀ {us : List (Key × Value)} {kvs : List (Key × D)} {vs : List V}, Rows2 K H us kvs vs →
    ∃ vs', Rows2 K H (us.map fun kv => if kv.1 = k then (kv.1, u) else kv) (kvs.map fun p => if p.1 = k then (p.1, d) else p) vs'
  | [], [], vs, h => ⟨vs, h⟩
  | [], _ :: _, _, h => by have := h.keys; simp at this
  | _ :: _, [], _, h => by have := h.keys; simp at this
  | x :: us, p :: kvs, vs, h => by
    obtain ⟨h1, h2, h4⟩ := h
    simp only [List.map_cons] at h1 h2 h4
    obtain ⟨e1, e2⟩ := List.cons.inj h1
    cases h4 with | @cons v0 vs0 _ _ r1 r2 =>
    cases h2 with | cons v1 v2 =>
    obtain ⟨vs', g1, g2, g4⟩ := Rows2.repl rv rd ⟨e2, v2, r2⟩
    by_cases hk : p.1 = k
    · have hx : x.1 = k := e1.trans hk
      refine ⟨v :: vs', ?_, ?_, ?_⟩
      · simp only [List.map_cons, if_pos hk, if_pos hx]
        rw [g1, e1]
      · simp only [List.map_cons, if_pos hx]
        exact .cons rv g2
      · simp only [List.map_cons, if_pos hk]
        exact .cons rd g4
    · have hx : ¬ x.1 = k := fun z => hk (e1.symm.trans z)
      refine ⟨v0 :: vs', ?_, ?_, ?_⟩
      · simp only [List.map_cons, if_neg hk, if_neg hx]
        rw [g1, e1]
      · simp only [List.map_cons, if_neg hx]
        exact .cons v1 g2
      · simp only [List.map_cons, if_neg hk]
        exact .cons r1 g4
theorem Rows2.put {k : Key} {v : V} {u : Value} {d : D} {us : List (Key × Value)} {kvs : List (Key × D)} {vs : List V} (h : Rows2 K H us kvs vs) (rv : RelV v u) (rd : Rep K H v d) : ∃ vs', Rows2 K H (stored us k u) (putD kvs k d) vs' := by
  unfold stored putD
  rw [h.any]
  by_cases hs : (valD kvs k).isSome = true
  · rw [if_pos hs, if_pos hs]
    exact h.repl rv rd
  · rw [if_neg hs, if_neg hs]
    refine ⟨vs ++ [v], ?_, ?_, ?_⟩
    · rw [List.map_append, List.map_append, h.keys]; rfl
    · rw [List.map_append]; exact vals_snoc rv h.vals
    · rw [List.map_append]; exact reps_snoc rd h.va
theorem stored_le {k : Key} {u : Value} {us : List (Key × Value)} : (stored us k u).length ≤ us.length + 1 := by
  unfold stored
  split <;> simp
end
section
variable {X : Cx} {pins : List (Addr × Obj)} {σ : L2.St} {H G : Hp} {s : Shared}
def MAt (X : Cx) (H G : Hp) (a : Addr) (kvs : List (Key × D)) : Prop := Same G H ∧ ∃ o us vs, H a = some (DkO X.prog X.w a o us) ∧ DkOk a us (kvs.map (·.1)) vs ∧ Rows2 X.K G us kvs vs
theorem dkO_get {P P' : Program} {w w' : World} {H : Hp} {h : Heap} {d : Addr} {o : Obj} {us : List (Key × Value)} (k : HOk P' w' H h) (e : H d = some (DkO P w d o us)) : h.get? d = some o ∧ o.IsDictOf (mixKind P w) us := by
  have x : ObjOk P' w' H h d (.ext fun h => h.get? d = some o ∧ o.IsDictOf (mixKind P w) us) := k d _ e
  exact x.1
theorem MAt.dict (I : Inv X pins σ H s) {a : Addr} {kvs : List (Key × D)} (h : MAt X H G a kvs) : ∃ o us vs, H a = some (DkO X.prog X.w a o us) ∧ DkOk a us (kvs.map (·.1)) vs ∧ Rows2 X.K G us kvs vs ∧ s.heap.DictOf (mixKind X.prog X.w) a us := by
  obtain ⟨sm, o, us, vs, h1, h2, h3⟩ := h
  exact ⟨o, us, vs, h1, h2, h3, Heap.dictOf_iff.mpr ⟨o, dkO_get I.hok h1⟩⟩
theorem dkO_ok {P : Program} {w : World} {H' : Hp} {h : Heap} {a : Addr} {us : List (Key × Value)} (d : h.DictOf (mixKind P w) a us) : ∃ o, ObjOk P w H' h a (DkO P w a o us) := by
  obtain ⟨o, h1, h2⟩ := Heap.dictOf_iff.mp d
  exact ⟨o, ⟨h1, h2⟩, ⟨o, h1⟩, fun g1 g2 ⟨h1, h2⟩ k => ⟨k o h1, h2⟩⟩
/-- d[y], there -/
def tMGet (X : Cx) (td ty : TE) : TE := fun σ H Q => td σ H fun x H1 => ty σ H1 fun y H2 => ∃ a G kvs k d, x = .ref a ∧ MAt X H2 G a kvs ∧ Rep X.K G y (kD k) ∧ valD kvs k = some d ∧ ∀ v, Rep X.K G v d → Q v H2
theorem pe_mget {o i : Expr} {pos : Pos} {td ty : TE} (ho : PE X o td) (hi : PE X i ty) (hs : NoSl i) : PE X (.Subscript o i pos) (tMGet X td ty) := by
  refine ⟨fun pins s σ H Q I h => ?_⟩
  refine subD_of PySem.F.slot_dict_getitem.lookup hs (thn (ho.run pins s σ H _ I h) fun u s1 ⟨x, H1, I1, rx, q1⟩ => thn (hi.run pins s1 σ H1 _ I1 q1) fun iv s2 ⟨y, H2, I2, ry, a, G, kvs, k, d, ex, g, gk, hv, q2⟩ => ?_)
  subst ex
  obtain rfl : u = Value.ref a := rx
  obtain ⟨o0, us, vs, h1, h2, h3, hd⟩ := g.dict I2
  have f := h3.find k
  rw [hv] at f
  obtain ⟨v, u2, f1, f2, f3⟩ := f
  exact ⟨hd.typeIs, wpAny_getItem_of (show (mixKind X.prog X.w).is k iv = true from key_is gk ry) hd.mapOf f1 ⟨v, H2, I2.tok _, f2, q2 v f3⟩⟩
/-- d[y] = v -/
def sMPut (X : Cx) (td ty tv : TE) : TS := fun De σ H => tv σ H fun v H1 => td σ H1 fun x H2 => ty σ H2 fun y H3 => ∃ a G kvs k d, x = .ref a ∧ MAt X H3 G a kvs ∧ Rep X.K G y (kD k) ∧ Rep X.K G v d ∧ kvs.length < sizeLine ∧
  ∀ o us' vs', DkOk a us' ((putD kvs k d).map (·.1)) vs' → Rows2 X.K G us' (putD kvs k d) vs' → De.nx σ (upd H3 a (DkO X.prog X.w a o us'))
theorem ps_mput {o i value : Expr} {pos pos' : Pos} {td ty tv : TE} (ho : PE X o td) (hi : PE X i ty) (hv : PE X value tv) (hs : swapsWith value (some (.Subscript o i pos')) pos.line X.env = pure false) :
    PS X (.Assign [.Subscript o i pos'] value pos) (sMPut X td ty tv) := by
  refine ⟨fun pins s σ H D I h => ?_⟩
  refine wpAny_Assign_Subscript (thn (hv.run pins s σ H _ I h) fun r s1 ⟨v, H1, I1, rv, q1⟩ => thn (ho.run pins s1 σ H1 _ I1 q1) fun u s2 ⟨x, H2, I2, rx, q2⟩ => thn (hi.run pins s2 σ H2 _ I2 q2) fun iv s3 ⟨y, H3, I3, ry, a, G, kvs, k, d, ex, g, gk, rd, hl, q3⟩ => ?_) hs
  subst ex
  obtain rfl : u = Value.ref a := rx
  obtain ⟨o0, us, vs, h1, h2, h3, hd⟩ := g.dict I3
  have e1 : us.length = kvs.length := by
    have := congrArg List.length h3.keys
    simpa using this
  refine wpAny_setItem_pairs (hsz := h2.len) (show (mixKind X.prog X.w).is k iv = true from key_is gk ry) hd fun h' dd' hs' => ?_
  have he : ∃ q, h'.get? a = some q := let ⟨q, _, _, hq, _⟩ := dd'; ⟨q, hq⟩
  obtain ⟨o1, ok1⟩ := dkO_ok (H' := fun b => H3 b) dd'
  have I4 := d_write (ob := DkO X.prog X.w a o1 (stored us k r)) (t' := s3.toks + 1) I3 (by rw [h1]; exact True.intro) hs' he ok1
  obtain ⟨vs', h5⟩ := h3.put (k := k) rv rd
  exact ⟨σ, _, I4, q3 _ _ vs' ⟨h2.far, Nat.le_trans stored_le (by omega), h5.keys, h5.vals⟩ h5⟩
/-- y in d; not in -/
def tMIn (X : Cx) (neg : Bool) (ty td : TE) : TE := fun σ H Q => ty σ H fun y H1 => td σ H1 fun x H2 => ∃ a G kvs k, x = .ref a ∧ MAt X H2 G a kvs ∧ Rep X.K G y (kD k) ∧ Q (.bl (xor neg (valD kvs k).isSome)) H2
theorem pc_min {o i : Expr} {td ty : TE} (hi : PE X i ty) (ho : PE X o td) : PC X .In i o (tMIn X false ty td) := by
  refine ⟨fun pins s σ H Q I h => ?_⟩
  refine thn (hi.run pins s σ H _ I h) fun iv s1 ⟨y, H1, I1, ry, q1⟩ => thn (ho.run pins s1 σ H1 _ I1 q1) fun u s2 ⟨x, H2, I2, rx, a, G, kvs, k, ex, g, gk, q2⟩ => ?_
  subst ex
  obtain rfl : u = Value.ref a := rx
  obtain ⟨o0, us, vs, h1, h2, h3, hd⟩ := g.dict I2
  refine wpAny_in_of (show (mixKind X.prog X.w).is k iv = true from key_is gk ry) h2.far hd.mapOf ?_
  rw [h3.some]
  exact ⟨.bl _, H2, I2.tok _, rfl, by rw [Bool.false_xor] at q2; exact q2⟩
theorem pc_mnotin {o i : Expr} {td ty : TE} (hi : PE X i ty) (ho : PE X o td) : PC X .NotIn i o (tMIn X true ty td) := by
  refine ⟨fun pins s σ H Q I h => ?_⟩
  refine thn (hi.run pins s σ H _ I h) fun iv s1 ⟨y, H1, I1, ry, q1⟩ => thn (ho.run pins s1 σ H1 _ I1 q1) fun u s2 ⟨x, H2, I2, rx, a, G, kvs, k, ex, g, gk, q2⟩ => ?_
  subst ex
  obtain rfl : u = Value.ref a := rx
  obtain ⟨o0, us, vs, h1, h2, h3, hd⟩ := g.dict I2
  refine wpAny_notIn_of (show (mixKind X.prog X.w).is k iv = true from key_is gk ry) h2.far hd.mapOf ?_
  rw [h3.some]
  exact ⟨.bl _, H2, I2.tok _, rfl, by rw [Bool.true_xor] at q2; exact q2⟩
/-- {} -/
def tMNew (X : Cx) : TE := fun _ H Q => ∀ p o, H p = none → (p == sysModules) = false → Q (.ref p) (upd H p (DkO X.prog X.w p o []))
theorem pe_mnew {pos : Pos} : PE X (.Dict [] [] pos) (tMNew X) := ⟨fun pins s σ H Q I h => by
  have d := Heap.DictOf.new (knd := mixKind X.prog X.w) s.heap
  obtain ⟨o, ok⟩ := dkO_ok (H' := fun b => H b) d
  exact wpAny_Dict_empty ⟨.ref s.heap.objs.size, _, I.laid (a := s.heap.objs.size) (o := DkO X.prog X.w s.heap.objs.size o []) (t' := s.toks) (fun _ _ q => Heap.get?_push_of_some _ q) (Nat.le_refl _) ok, rfl,
    h _ _ (I.hok.fresh (Nat.le_refl _)) (beq_eq_false_iff_ne.mpr (Ne.symm (Nat.ne_of_lt I.big)))⟩⟩
/-- the keys, from the first -/
def Itm (P : Program) (w : World) (d : Addr) (o : Obj) (us : List (Key × Value)) : It :=
  ⟨fun i H => H d = some (DkO P w d o us) ∧ i < us.length, fun i H x H' => H' = H ∧ ∃ p, us[i]? = some p ∧ x = kV p.1, fun i H => H d = some (DkO P w d o us) ∧ us.length ≤ i⟩
theorem turn_m {P : Program} {w : World} {K : PySem.W.Frag} {tg : Expr} {d : Addr} {o : Obj} {us : List (Key × Value)} {es : Array DictEntry} {ep : Nat} (it : Addr) (hod : o.data = .dict es ep) :
    Turn P w K tg (Itm P w d o us) [it] it (fun i h => h.IsKeyIter it d i us.length ep) where
  mem := by simp
  obj := fun i h st b hb => by
    have e : b = it := by simpa using hb
    subst e
    obtain ⟨oi, e, c, dd⟩ := st
    exact ⟨oi, e, fun v z => by rw [dd] at z; cases z⟩
  keep := fun i h h' st k => st.at fun oi e => k it (by simp) oi e
  item := by
    intro X hP hw hK hc i pins s σ H E I hf st hg
    subst hP hw hK
    obtain ⟨hd, hi⟩ := hg
    obtain ⟨f0, f1, f2, f3, f4, f5⟩ := hf it (by simp)
    obtain ⟨hgd, es', ep', hx, hdt, r⟩ := dkO_get I.hok hd
    obtain ⟨rfl, rfl⟩ := dict_ep hod hdt
    have hm : s.heap.DictAt (mixKind X.prog X.w) d us ep' := ⟨o, es', hgd, hx, hdt, r⟩
    refine wpAny_pyNext_dict_item st hm (List.getElem?_eq_getElem hi) fun key h' hkey st' sb => ?_
    have I1 : Inv X pins σ H { s with heap := h' } := I.turned (t' := s.toks) (fun b ob hb e => (sb.2 b hb).trans e) f0 f1 f3 f4 f5
    obtain ⟨oi, e, c, dd⟩ := id st'
    exact ⟨key, rfl, go_of (s := { s with heap := h' }) e c dd (by decide) ⟨kV us[i].1, H, I1, relV_key (show keyIs us[i].1 key = true from hkey), ⟨rfl, us[i], List.getElem?_eq_getElem hi, rfl⟩, st', fun b hb => (hf b hb).1⟩⟩
  done := by
    intro X hP hw hK hc i pins s σ H E I hf st hg
    subst hP hw hK
    obtain ⟨hd, hi⟩ := hg
    obtain ⟨f0, f1, f2, f3, f4, f5⟩ := hf it (by simp)
    obtain ⟨hgd, es', ep', hx, hdt, r⟩ := dkO_get I.hok hd
    obtain ⟨rfl, rfl⟩ := dict_ep hod hdt
    have hsz : es'.size = us.length := by
      have l1 := r.2.1.length
      rw [Array.length_toList] at l1
      exact l1
    exact next_key_end (I.ok.hd hc) st hgd hdt hsz hi fun h' eb => ⟨rfl, I.turned (t' := s.toks) (fun b ob hb e => eb b ob hb e) f0 f1 f3 f4 f5⟩
  self := fun A i s Q E st h => wpAny_pyIter_keyiter st h
def iM (X : Cx) (td : TE) : TI := fun σ H R => td σ H fun x H1 => ∃ a o us, x = .ref a ∧ H1 a = some (DkO X.prog X.w a o us) ∧ (a == sysModules) = false ∧ R (Itm X.prog X.w a o us) H1
theorem pi_m {tg e : Expr} {td : TE} (he : PE X e td) : PI X tg e (iM X td) := by
  refine ⟨fun pins s σ H R I h => ?_⟩
  refine thn (he.run pins s σ H _ I h) fun u s1 ⟨x, H1, I1, rx, a, o, us, ex, ha, hs, q⟩ => ?_
  subst ex
  obtain rfl : u = Value.ref a := rx
  obtain ⟨hgd, es, ep, hx, hdt, r⟩ := dkO_get I1.hok ha
  have hsz : es.size = us.length := by
    have l1 := r.2.1.length
    rw [Array.length_toList] at l1
    exact l1
  refine iter_keys hs hgd hx hdt (pi_one (tk := s1.toks) I1 _ (turn_m _ hdt) ⟨_, Heap.get?_push_size _ rfl, rfl, ?_⟩ q)
  rw [hsz]
  rfl
end
end RW

/-! RW: dicts whose keys are numbers and texts: the layer's own rules. -/
namespace RW
open PySem PySem.Spec PyProof.Rows L2
/-- x is such a dict, owned or fixed -/
def IsM (P : Program) (w : World) (O : Own) (x : D) (kvs : List (Key × D)) : Prop := x = .dk P w kvs ∨ ∃ p, x = .obj p ∧ O p = some (.dk P w kvs)
section
variable {X : Cx} {H Hd : Hp} {O : Own}
theorem readM (h : AbsH X.K H Hd O) {v : V} {x : D} {kvs : List (Key × D)} (r : Rep X.K Hd v x) (e : IsM X.prog X.w O x kvs) : ∃ a, v = .ref a ∧ MAt X H Hd a kvs := by
  rcases e with rfl | ⟨p, rfl, e⟩
  · cases r with | dk h1 h2 h4 =>
    exact ⟨_, rfl, h.same, _, _, _, h.same _ _ h1, h2, ⟨h2.keys, h2.vals, h4⟩⟩
  · cases r
    obtain ⟨_, o, us, vs, h1, h2, h4⟩ := h.own p _ e
    exact ⟨p, rfl, h.same, o, us, vs, h1, h2, ⟨h2.keys, h2.vals, h4⟩⟩
theorem AbsH.fixM {K : PySem.W.Frag} {p : Addr} {P : Program} {w : World} {kvs : List (Key × D)} (h : AbsH K H Hd O) (e : O p = some (.dk P w kvs)) : ∃ Hd', Same Hd Hd' ∧ AbsH K H Hd' (delO O p) ∧ Rep K Hd' (.ref p) (.dk P w kvs) := by
  obtain ⟨n, o, us, vs, h1, h2, h4⟩ := h.own p _ e
  have s := same_new (o := DkO P w p o us) n
  refine ⟨upd Hd p (DkO P w p o us), s, ⟨fun b x q => ?_, fun a c q => ?_⟩, .dk upd_same h2 (h4.mono s)⟩
  · by_cases hb : b = p
    · subst hb; rw [upd_same] at q; cases q; exact h1
    · rw [upd_ne hb] at q; exact h.same b x q
  · have ne : a ≠ p := fun z => by subst z; simp [delO] at q
    have q' : O a = some c := by simpa [delO, ne] using q
    obtain ⟨g1, g2⟩ := h.own a c q'
    exact ⟨by rw [upd_ne ne]; exact g1, g2.mono rfl s⟩
end
section
variable {X : Cx} {E : ExP} {Γ : Env'} {O : Own} {Q : PD} {o i e f value : Expr} {pos pos' apos : Pos} {De : EndsD}
/-- {} -/
theorem w_mnew (h : ∀ p, O p = none → Q (.obj p) (updO O p (.dk X.prog X.w []))) : WE X E (.Dict [] [] pos) Γ O Q := .mk fun W σ H Hd q =>
  wE_of pe_mnew fun p ob hp far => ⟨.obj p, updO O p (.dk X.prog X.w []), Hd, Same.refl _, q.h.put (q.h.free hp) ⟨ob, [], [], upd_same, ⟨far, Nat.zero_le _, rfl, .nil⟩, .nil⟩, .obj p, h p (q.h.freeO hp)⟩
/-- d[k], there -/
theorem w_mget (h : WE X E o Γ O fun x O1 => WE X E i Γ O1 fun y O2 => ∃ kvs k d, IsM X.prog X.w O2 x kvs ∧ y = kD k ∧ valD kvs k = some d ∧ Q d O2) (hs : NoSl i := by exact fun _ _ => rfl) :
    WE X E (.Subscript o i pos) Γ O Q := .mk fun W σ H Hd p =>
  wE_of (pe_mget peW peW hs) (h.use p fun v H1 x O1 Hd1 s1 p1 r1 q1 => q1.use p1 fun u H2 y O2 Hd2 s2 p2 r2 ⟨kvs, k, d, e, ey, hv, q⟩ => by
    obtain ⟨a, rfl, g⟩ := readM p2.h (r1.mono s2) e
    subst ey
    exact ⟨a, Hd2, kvs, k, d, rfl, g, r2, hv, fun v' rv => .lift (s1.trans s2) (.of p2.h rv q)⟩)
/-- d[k] = value -/
theorem ws_mput (h : WE X E value Γ O fun d O1 => WE X E o Γ O1 fun x O2 => WE X E i Γ O2 fun y O3 => ∃ p kvs k, x = .obj p ∧ O3 p = some (.dk X.prog X.w kvs) ∧ y = kD k ∧ kvs.length < sizeLine ∧ De.nx Γ (updO O3 p (.dk X.prog X.w (putD kvs k d))))
    (hs : swapsWith value (some (.Subscript o i pos')) pos.line X.env = pure false := by rfl) : WS X E (.Assign [.Subscript o i pos'] value pos) Γ O De := .mk fun W σ H Hd p =>
  wS_of (ps_mput peW peW peW hs) (h.use p fun v H1 d O1 Hd1 s1 p1 r1 q1 => q1.use p1 fun u H2 x O2 Hd2 s2 p2 r2 q2 => q2.use p2 fun y' H3 y O3 Hd3 s3 p3 r3 ⟨pa, kvs, k, ex, e, ey, hl, q⟩ => by
    subst ex ey
    cases r2
    obtain ⟨n, _⟩ := p3.h.own pa _ e
    obtain ⟨a, ea, g⟩ := readM p3.h (.obj pa) (.inr ⟨pa, rfl, e⟩)
    cases ea
    exact ⟨pa, Hd3, kvs, k, d, rfl, g, r3, (r1.mono s2).mono s3, hl, fun ob us' vs' ok rows => ⟨Γ, _, Hd3, s1.trans (s2.trans s3), p3.g, p3.h.put (c := .dk X.prog X.w (putD kvs k d)) n ⟨ob, us', vs', upd_same, ok, rows.va⟩, q⟩⟩)
/-- k in d, k not in d -/
theorem w_min (h : WE X E i Γ O fun y O1 => WE X E o Γ O1 fun x O2 => ∃ kvs k, IsM X.prog X.w O2 x kvs ∧ y = kD k ∧ Q (.bl (valD kvs k).isSome) O2) (hm : behindInMarks .In o = false := by rfl) :
    WE X E (.Compare i [.In] [o] pos) Γ O Q := .mk fun W σ H Hd p =>
  wE_of (pe_cmp (pc_min peW peW) hm) (h.use p fun u H1 y O1 Hd1 s1 p1 r1 q1 => q1.use p1 fun v H2 x O2 Hd2 s2 p2 r2 ⟨kvs, k, e, ey, q⟩ => by
    obtain ⟨a, rfl, g⟩ := readM p2.h r2 e
    subst ey
    exact ⟨a, Hd2, kvs, k, rfl, g, r1.mono s2, .lift (s1.trans s2) (.of p2.h (.bl _) (by rw [Bool.false_xor]; exact q))⟩)
theorem w_mnin (h : WE X E i Γ O fun y O1 => WE X E o Γ O1 fun x O2 => ∃ kvs k, IsM X.prog X.w O2 x kvs ∧ y = kD k ∧ Q (.bl (!(valD kvs k).isSome)) O2) (hm : behindInMarks .NotIn o = false := by rfl) :
    WE X E (.Compare i [.NotIn] [o] pos) Γ O Q := .mk fun W σ H Hd p =>
  wE_of (pe_cmp (pc_mnotin peW peW) hm) (h.use p fun u H1 y O1 Hd1 s1 p1 r1 q1 => q1.use p1 fun v H2 x O2 Hd2 s2 p2 r2 ⟨kvs, k, e, ey, q⟩ => by
    obtain ⟨a, rfl, g⟩ := readM p2.h r2 e
    subst ey
    exact ⟨a, Hd2, kvs, k, rfl, g, r1.mono s2, .lift (s1.trans s2) (.of p2.h (.bl _) (by rw [Bool.true_xor]; exact q))⟩)
/-- an owned dict is told by its rows when it is handed back -/
theorem WE.fixedM (h : WE X E e Γ O fun d O' => ∃ p kvs, d = .obj p ∧ O' p = some (.dk X.prog X.w kvs) ∧ Q (.dk X.prog X.w kvs) (delO O' p)) : WE X E e Γ O Q := .mk fun W σ H Hd p =>
  h.use p fun v H' d O' Hd' s p' r ⟨q, kvs, e1, e2, hq⟩ => by
    subst e1
    cases r
    obtain ⟨Hd2, s2, a2, r2⟩ := p'.h.fixM e2
    exact ⟨_, _, Hd2, s.trans s2, a2, r2, hq⟩
theorem rep_kV {K : PySem.W.Frag} {Hd : Hp} : ∀ k : Key, Rep K Hd (kV k) (kD k)
  | .inl i => .int i
  | .inr x => .str x
/-- for k in d, d fixed -/
theorem itof_m {K : PySem.W.Frag} {Hd : Hp} {a : Addr} {ob : Obj} {P : Program} {w : World} {us : List (Key × Value)} {kvs : List (Key × D)} (h1 : Hd a = some (DkO P w a ob us)) (hk : us.map (·.1) = kvs.map (·.1)) :
    ItOf K Hd (fun _ => True) (Itm P w a ob us) (kvs.map fun p => kD p.1) := fun i H Hd1 O s h g => by
  have hl : us.length = kvs.length := by have := congrArg List.length hk; simpa using this
  refine ⟨fun d hd => ?_, fun hi => ⟨h.same _ _ (s _ _ h1), by rw [List.length_map] at hi; omega⟩⟩
  rw [List.getElem?_map] at hd
  cases hx : kvs[i]? with
  | none => rw [hx] at hd; cases hd
  | some x =>
    rw [hx] at hd
    obtain rfl := Option.some.inj hd
    have hi := (List.getElem?_eq_some_iff.mp hx).1
    refine ⟨⟨h.same _ _ (s _ _ h1), by omega⟩, fun y H' ⟨e2, p, hp, ey⟩ => ?_⟩
    subst e2 ey
    have e3 : (us.map (·.1))[i]? = (kvs.map (·.1))[i]? := by rw [hk]
    rw [List.getElem?_map, List.getElem?_map, hp, hx] at e3
    have e4 : p.1 = x.1 := Option.some.inj e3
    rw [e4]
    exact ⟨Hd1, Same.refl _, h, rep_kV _⟩
theorem wi_m {tg l : Expr} {R : (Own → Prop) → List D → Own → Prop} (h : WE X E l Γ O fun x O1 => ∃ kvs, x = .dk X.prog X.w kvs ∧ R (fun _ => True) (kvs.map fun p => kD p.1) O1) : WI X E tg l Γ O R := .mk fun W σ H Hd p =>
  wI_of (pi_m peW) (h.use p fun v H1 x O1 Hd1 s1 p1 r1 ⟨kvs, e, q⟩ => by
    subst e
    cases r1 with | dk h1 h2 h4 =>
    exact ⟨_, _, _, rfl, p1.h.same _ _ h1, h2.far, _, _, O1, Hd1, s1, p1.h, itof_m h1 h2.keys, q⟩)
/-- {k: v} -/
def tMDisp (X : Cx) (tk tv : TE) : TE := fun σ H Q => ∀ p o, H p = none → (p == sysModules) = false → tk σ (upd H p (DkO X.prog X.w p o [])) fun x H1 => tv σ H1 fun y H2 => ∃ k o2, x = kV k ∧ H2 p = some (DkO X.prog X.w p o2 []) ∧
  ∀ o' u, RelV y u → Q (.ref p) (upd H2 p (DkO X.prog X.w p o' [(k, u)]))
theorem pe_mdisp {k v : Expr} {tk tv : TE} (hk : PE X k tk) (hv : PE X v tv) : PE X (.Dict [some k] [v] pos) (tMDisp X tk tv) := by
  refine ⟨fun pins s σ H Q I q => ?_⟩
  have hn := I.hok.fresh (Nat.le_refl s.heap.objs.size)
  have far : (s.heap.objs.size == sysModules) = false := beq_eq_false_iff_ne.mpr (Ne.symm (Nat.ne_of_lt I.big))
  have d := Heap.DictOf.new (knd := mixKind X.prog X.w) s.heap
  obtain ⟨o, ok⟩ := dkO_ok (H' := fun b => H b) d
  have I1 := I.laid (a := s.heap.objs.size) (o := DkO X.prog X.w s.heap.objs.size o []) (h' := s.heap.push { cls := .type "dict", data := .dict #[] }) (t' := s.toks) (fun _ _ q => Heap.get?_push_of_some _ q) (Nat.le_refl _) ok
  refine wpAny_Dict_walk (knd := mixKind X.prog X.w) rfl rfl (fun z => nomatch z) (show 1 ≤ 15 by decide) (pairTrees_cons_walk (thn (hk.run pins _ σ _ _ I1 (q _ o hn far)) fun xk s1 ⟨x, H1, I2, rx, q1⟩ => thn (hv.run pins s1 σ H1 _ I2 q1) fun yv s2 ⟨y, H2, I3, ry, kk, o2, ex, e, q2⟩ => pairTrees_nil_walk ?_))
  subst ex
  obtain ⟨rs, c, rk⟩ := carries_of (P := X.prog) (w := X.w) (kvs := [(kk, y)]) (ws := [(xk, yv)]) (.cons ⟨rx, ry⟩ .nil)
  have dd := Heap.dictOf_iff.mpr ⟨o2, dkO_get I3.hok e⟩
  refine ⟨rs, c, dd, fun h' dd' hs => ?_⟩
  have he : ∃ q, h'.get? s.heap.objs.size = some q := let ⟨q, _, _, hq, _⟩ := dd'; ⟨q, hq⟩
  cases rk with | @cons a b l1 l2 r0 r1 =>
  cases r1
  obtain ⟨b1, b2⟩ := b
  obtain ⟨e1, e2⟩ := r0
  simp only at e1 e2
  subst e1
  have em : merged ([] : List (Key × Value)) [(kk, b2)] = [(kk, b2)] := rfl
  rw [em] at dd'
  obtain ⟨o3, ok3⟩ := dkO_ok (H' := fun b => H2 b) dd'
  exact ⟨.ref s.heap.objs.size, _, d_write (ob := DkO X.prog X.w s.heap.objs.size o3 [(kk, b2)]) I3 (by rw [e]; exact True.intro) hs he ok3, rfl, q2 o3 b2 e2⟩
theorem w_mdisp {k v : Expr} (h : ∀ p, O p = none → WE X E k Γ (updO O p (.dk X.prog X.w [])) fun x O1 => WE X E v Γ O1 fun y O2 => ∃ kk, x = kD kk ∧ O2 p = some (.dk X.prog X.w []) ∧ Q (.obj p) (updO O2 p (.dk X.prog X.w [(kk, y)]))) :
    WE X E (.Dict [some k] [v] pos) Γ O Q := .mk fun W σ H Hd q =>
  wE_of (pe_mdisp peW peW) fun p ob hp far => by
    have q1 := q.go (Same.refl _) (q.h.put (c := .dk X.prog X.w []) (o := DkO X.prog X.w p ob []) (q.h.free hp) ⟨ob, [], [], upd_same, ⟨far, Nat.zero_le _, rfl, .nil⟩, .nil⟩)
    refine (h p (q.h.freeO hp)).use q1 fun xk H1 x O1 Hd1 s1 p1 r1 q2 => q2.use p1 fun yv H2 y O2 Hd2 s2 p2 r2 ⟨kk, ex, e, qq⟩ => ?_
    subst ex
    obtain ⟨n, o2, us, vs, g1, g2, g3⟩ := p2.h.own p _ e
    have hu : us = [] := List.map_eq_nil_iff.mp g2.keys
    subst hu
    refine ⟨kk, o2, ?_, g1, fun o' u ru => ⟨.obj p, _, Hd2, s1.trans s2, p2.h.put (c := .dk X.prog X.w [(kk, y)]) n ⟨o', [(kk, u)], [yv], upd_same, ⟨far, by show 1 ≤ sizeLine; decide, rfl, .cons ru .nil⟩, .cons r2 .nil⟩, .obj p, qq⟩⟩
    cases kk with
    | inl i => cases r1; rfl
    | inr z => cases r1; rfl
end
end RW

/-! RW: a def of the module called back from within a built-in function: sorted by key. -/
namespace RW
open PySem PySem.Spec PyProof.Rows L2
theorem cx_none {P : Program} {w : World} {outer : List Env} {H : Hp} {s s' : Shared} {e : Value} (h : L2.CX P w outer H s (fun _ _ _ => False) e s') : False := by
  obtain ⟨_, _, _, _, _, _, _, _, _, _, _, _, h⟩ := h
  exact h
theorem cb_call {X : Cx} {pins : List (Addr × Obj)} {σ : L2.St} {H : Hp} {s : Shared} {f : Addr} {fd : FuncData} {k : Nat} {ps : List Str} {S : SpD} {A' : Around} {us : List Value} {vs : List V} {Q : VK} (I : Inv X pins σ H s)
    (F1 : FnOk X.prog X.w X.K X.mg X.base (L2.CX X.prog X.w) k f fd ps (spD X.K S)) (F4 : Binds X.K fd ps []) (hA : A'.frames = X.A.frames) (hr : Room k A') (r : Vals vs us) (h : spD X.K S vs H Q (fun _ _ _ => False)) :
    wpAny (model X.prog X.w) A' (call (.ref f) us) (EP X pins σ Q) (fun _ _ => False) s := by
  have e0 := I.env0
  have e1 : Env0 X.prog X.w X.K X.mg X.base A' X.stack s H := ⟨hA.trans e0.frames, e0.mod, e0.bs, e0.bsz, e0.funs, e0.frf, e0.hok, e0.bare⟩
  have hl := F1.len _ _ _ _ h
  have hb := F4 s us I.kIn (by rw [List.append_nil, ← r.length]; exact hl)
  rw [List.append_nil] at hb
  have run := F1.run A' X.stack s H ⟨us, []⟩ us vs Q (fun _ _ _ => False) hr e1 hb r h
  refine wpAny_call (codeAny_mono run fun r s' hq => ?_)
  match r, hq with
  | .error e, hq => exact cx_none hq
  | .ok (.ret u), hq => exact I.after hq
  | .ok .next, hq => exact False.elim hq
  | .ok .brk, hq => exact False.elim hq
  | .ok .cont, hq => exact False.elim hq
/-! ### the row of keys -/
/-- while a list at a is sorted: kS holds the keys that were made -/
def SAt (X : Cx) (pins : List (Addr × Obj)) (σ : L2.St) (Hd : Hp) (O : Own) (a kS : Addr) (e1 : Nat) (ks : List D) (s : Shared) : Prop :=
  ∃ (H Hd' : Hp) (kA : Array Value) (e : Nat) (kv : List V), Inv X pins σ H s ∧ Same Hd Hd' ∧ AbsH X.K H Hd' O ∧ FpOk X pins H a ∧ FpOk X pins H kS ∧ s.heap.get? kS = some (seqObj "list" kA e) ∧ s.heap.get? a = some (seqObj "list" #[] e1) ∧ Vals kv kA.toList ∧ Reps X.K Hd' kv ks
section
variable {X : Cx} {pins : List (Addr × Obj)} {σ : L2.St} {Hd : Hp} {O : Own} {a kS : Addr} {e1 : Nat} {f : Addr} {fd : FuncData} {k : Nat} {ps : List Str} {S : SpD} {A' : Around}
theorem sort_call {ks : List D} {d y : D} {v : V} {u : Value} {s : Shared} (h : SAt X pins σ Hd O a kS e1 ks s) (F1 : FnOk X.prog X.w X.K X.mg X.base (L2.CX X.prog X.w) k f fd ps (spD X.K S)) (F4 : Binds X.K fd ps []) (hA : A'.frames = X.A.frames) (hr : Room k A')
    (rd : Rep X.K Hd v d) (ru : RelV v u) (turn : S [d] O (fun z O' => z = y ∧ O' = O) (fun _ _ => False)) :
    wpAny (model X.prog X.w) A' (call (.ref f) [u]) (fun r s' => ∃ (H Hd' : Hp) (kA : Array Value) (e : Nat) (kv : List V) (yv : V), Inv X pins σ H s' ∧ Same Hd Hd' ∧ AbsH X.K H Hd' O ∧ FpOk X pins H a ∧ FpOk X pins H kS ∧ s'.heap.get? kS = some (seqObj "list" kA e) ∧ s'.heap.get? a = some (seqObj "list" #[] e1) ∧
      Vals kv kA.toList ∧ Reps X.K Hd' kv ks ∧ RelV yv r ∧ Rep X.K Hd' yv y) (fun _ _ => False) s := by
  obtain ⟨H, Hd', kA, e, kv, I, sm, ab, fa, fS, nk, na, vk, rk⟩ := h
  have I2 : Inv X (pins ++ [(kS, seqObj "list" kA e), (a, seqObj "list" #[] e1)]) σ H s := I.pins_of fun p hp => by
    rcases List.mem_append.mp hp with hp | hp
    · exact I.pin p (List.mem_append_right _ hp)
    · simp only [List.mem_cons, List.not_mem_nil, or_false] at hp
      rcases hp with rfl | rfl
      · exact ⟨nk, fS.1, fS.2.1, fS.2.2.1, fun v z => by cases z⟩
      · exact ⟨na, fa.1, fa.2.1, fa.2.2.1, fun v z => by cases z⟩
  have call := cb_call (Q := fun yv H' => ∃ Hd2, Same Hd' Hd2 ∧ AbsH X.K H' Hd2 O ∧ Rep X.K Hd2 yv y) I2 F1 F4 hA hr (.cons ru .nil) ⟨[d], Hd', O, _, _, ab, .cons (rd.mono sm) .nil, turn, (fun v' H' ⟨z, O2, Hd2, s2, a2, r2, ez, eO⟩ => by
    subst ez eO
    exact ⟨Hd2, s2, a2, r2⟩), fun _ _ _ _ _ _ _ _ _ z => z⟩
  refine wpAny_mono call (fun r s' ⟨yv, H', I3, ry, Hd2, s2, a2, r2⟩ => ?_) fun _ _ z => z
  have p1 := I3.pin (kS, seqObj "list" kA e) (List.mem_append_right _ (List.mem_append_right _ (.head _)))
  have p2 := I3.pin (a, seqObj "list" #[] e1) (List.mem_append_right _ (List.mem_append_right _ (.tail _ (.head _))))
  exact ⟨H', Hd2, kA, e, kv, yv, I3.unpinned, sm.trans s2, a2, ⟨p2.2.1, fa.2⟩, ⟨p1.2.1, fS.2⟩, p1.1, p2.1, vk, rk.mono s2, ry, r2⟩
theorem each_reads {H Hd' : Hp} {s : Shared} (I : Inv X pins σ H s) (sm : Same Hd' H) : ∀ {kv : List V} {us : List Value} {ks : List D}, Vals kv us → Reps X.K Hd' kv ks → (∀ y ∈ ks, isPy y = true) → PySem.W.EachIs (fun v d => ∃ as, Reads s.heap v d as) us (ks.map toPy)
  | _, _, _, .nil, .nil, _ => .nil
  | _, _, _, .cons rv vk, .cons rd rk, h => .cons (Dp.reads I _ _ _ (Rep.dp (rd.mono sm) (h _ (.head _))) rv) (each_reads I sm vk rk fun y hy => h y (.tail _ hy))
theorem sort_rest {ds ks : List D} {vv : List V} {vs : List Value} {b : Bool} {s : Shared} {R : PySem.Fin → Shared → Prop} {E : Value → Shared → Prop} (h : SAt X pins σ Hd O a kS e1 [] s) (h0 : s.heap.get? kS = some (seqObj "list" #[] 0))
    (F1 : FnOk X.prog X.w X.K X.mg X.base (L2.CX X.prog X.w) k f fd ps (spD X.K S)) (F4 : Binds X.K fd ps []) (hA : A'.frames = X.A.frames) (hr : Room k A') (hka : kS ≠ a)
    (rd : Reps X.K Hd vv ds) (rv : Vals vv vs) (hl : ks.length = ds.length) (hZ : vs.length ≤ sizeLine) (turn : ∀ (i : Nat) (d y : D), ds[i]? = some d → ks[i]? = some y → S [d] O (fun z O' => z = y ∧ O' = O) (fun _ _ => False))
    (hal : PySem.W.AllAlike (ks.map toPy)) (hsk : PySem.W.Sortable (ks.map toPy)) (hpy : ∀ y ∈ ks, isPy y = true) (hu : ∀ y ∈ ks, A'.units + (toPy y).depth < cLine)
    (fin : ∀ (s' : Shared) (Hj Hdj : Hp) (out : List Value) (c : Nat), Inv X pins σ Hj s' → Same Hd Hdj → AbsH X.K Hj Hdj O → FpOk X pins Hj a → s'.heap.get? a = some (seqObj "list" out.toArray c) → PySem.W.KeyedOut b (ks.map toPy) vs out → R (.done (.ret .none)) s') :
    wpAny (model X.prog X.w) A' (PyProof.Rows.ksk_rest a (.ref f) b vs.toArray e1 (.ref kS)) R E s := by
  have hlv : vv.length = vs.length := rv.length
  have hld : vv.length = ds.length := rd.length
  unfold PyProof.Rows.ksk_rest
  refine wpAny_bind (wpAny_rule ?_)
  rw [List.forIn_toArray]
  refine wpAny_bind (PyProof.Rows.ksk_fold (fun i s' => SAt X pins σ Hd O a kS e1 (ks.take i) s') vs 0 s (by rw [List.take_zero]; exact h) ?step ?done)
  case step =>
    rintro j x s' hx h'
    simp only [Nat.zero_add] at h' ⊢
    have hj : j < vs.length := (List.getElem?_eq_some_iff.mp hx).1
    obtain ⟨d, hd⟩ : ∃ d, ds[j]? = some d := ⟨_, List.getElem?_eq_getElem (by omega)⟩
    obtain ⟨y, hy⟩ : ∃ y, ks[j]? = some y := ⟨_, List.getElem?_eq_getElem (by omega)⟩
    obtain ⟨v, hv, rdv⟩ := rd.get hd
    have ru : RelV v x := by
      obtain ⟨u, e, q⟩ := paired_get rv hv
      rw [hx] at e
      cases e
      exact q
    have call := sort_call h' F1 F4 hA hr rdv ru (turn j d y hd hy)
    refine wpAny_bind (wpAny_attempt (wpAny_mono call (fun r s'' he => ?_) fun _ _ hF => hF.elim))
    obtain ⟨H, Hd', kA, e, kv, yv, I, sm, ab, fa, fS, nk, na, vk, rk, ry, ryd⟩ := he
    try dsimp only
    have hz : kA.size ≤ vs.length := by
      have h1 : kv.length = kA.size := by
        have := vk.length
        simpa using this
      have h2 : kv.length = (ks.take j).length := rk.length
      rw [List.length_take] at h2
      omega
    have s1 := Heap.SameBut.update s''.heap kS (Obj.mapSeq (·.push r))
    obtain ⟨c2, hc2⟩ : ∃ c2, (s''.heap.update kS (Obj.mapSeq (·.push r))).get? kS = some (seqObj "list" (kA.push r) c2) := ⟨_, get?_update_seq nk (·.push r)⟩
    refine wpAny_bind (listUpdate_at nk rfl ?_ (Nat.le_trans hz hZ) (Nat.le_trans (Nat.le_of_eq (Array.size_push ..)) (Nat.succ_le_succ (Nat.le_trans hz hZ))))
    have ek : ks.take (j + 1) = ks.take j ++ [y] := by rw [List.take_add_one, hy]; rfl
    have ea : (kA.push r).toList = kA.toList ++ [r] := by simp
    refine wpAny_pure ⟨rfl, H, Hd', kA.push r, c2, kv ++ [yv], I.turned (t' := s''.toks) (fun b ob hb e => (s1.2 b hb).trans e) fS.1 fS.2.1 fS.2.2.2.1 fS.2.2.2.2.1 fS.2.2.2.2.2, sm, ab, fa, fS, hc2, (s1.2 a hka.symm).trans na, ?_, ?_⟩
    · rw [ea]; exact vals_snoc ry vk
    · rw [ek]; exact reps_snoc ryd rk
  case done =>
    rintro s' h'
    rw [Nat.zero_add, List.take_of_length_le (by omega)] at h'
    try dsimp only
    obtain ⟨H, Hd', kA, e, kv, I, sm, ab, fa, fS, nk, na, vk, rk⟩ := h'
    have er := each_reads I ab.same vk rk hpy
    have hsz : kA.size = vs.length := by
      have h1 : kv.length = kA.size := by
        have := vk.length
        simpa using this
      have h2 : kv.length = ks.length := rk.length
      omega
    obtain ⟨G, g1, g2⟩ := restrict s'.heap fun b => decide (b ≠ kS)
    have hG : ∀ b o, b ≠ kS → s'.heap.get? b = some o → G.get? b = some o := fun b o hb e => by rw [g1 b (decide_eq_true hb)]; exact e
    have kp : PySem.W.KeepsBut a G s'.heap := fun b o _ e => by
      by_cases hb : b = kS
      · rw [hb, g2 kS (by simp)] at e
        cases e
      · rw [g1 b (decide_eq_true hb)] at e
        exact e
    refine wpAny_bind (listItems_at nk rfl ?_)
    refine PySem.W.keyH_end (κ := PySem.W.dataKind s'.heap (ks.map toPy)) (h₁ := G) kp (g2 kS (by simp)) nk na hka (PySem.W.SortsAt.data er hal hsk fun d hd => ?_) hsz hZ fun h3 tk3 c k3 n3 => ?_
    · obtain ⟨y, hy, rfl⟩ := List.mem_map.mp hd
      exact hu y hy
    · refine fin { s' with heap := h3, toks := tk3 } H Hd' _ c (I.turnedL (ch := [kS, a]) (fun b o hb e => ?_) fun b hb => ?_) sm ab fa n3 ⟨s'.heap, kA.toList, hal, rfl, er⟩
      · simp only [List.mem_cons, List.not_mem_nil, or_false, not_or] at hb
        exact k3 b o hb.2 (hG b o hb.1 e)
      · simp only [List.mem_cons, List.not_mem_nil, or_false] at hb
        rcases hb with rfl | rfl
        · exact fS
        · exact fa
theorem sort_tree {ds ks : List D} {vv : List V} {vs : List Value} {b : Bool} {n : Nat} {H : Hp} {s : Shared} {R : PySem.Fin → Shared → Prop} {E : Value → Shared → Prop} (I : Inv X pins σ H s) (ab : AbsH X.K H Hd O) (fa : FpOk X pins H a) (ho : s.heap.get? a = some (seqObj "list" vs.toArray n))
    (F1 : FnOk X.prog X.w X.K X.mg X.base (L2.CX X.prog X.w) k f fd ps (spD X.K S)) (F4 : Binds X.K fd ps []) (hA : A'.frames = X.A.frames) (hr : Room k A')
    (rd : Reps X.K Hd vv ds) (rv : Vals vv vs) (hl : ks.length = ds.length) (hZ : vs.length ≤ sizeLine) (turn : ∀ (i : Nat) (d y : D), ds[i]? = some d → ks[i]? = some y → S [d] O (fun z O' => z = y ∧ O' = O) (fun _ _ => False))
    (hal : PySem.W.AllAlike (ks.map toPy)) (hsk : PySem.W.Sortable (ks.map toPy)) (hpy : ∀ y ∈ ks, isPy y = true) (hu : ∀ y ∈ ks, A'.units + (toPy y).depth < cLine)
    (fin : ∀ (s' : Shared) (Hj Hdj : Hp) (out : List Value) (c : Nat), Inv X pins σ Hj s' → Same Hd Hdj → AbsH X.K Hj Hdj O → FpOk X pins Hj a → s'.heap.get? a = some (seqObj "list" out.toArray c) → PySem.W.KeyedOut b (ks.map toPy) vs out → R (.done (.ret .none)) s') :
    wpAny (model X.prog X.w) A' (PyProof.Rows.ksk_tree a (.ref f) b) R E s := by
  have ha : a < s.heap.objs.size := Heap.lt_size ho
  have s1 := Heap.SameBut.update s.heap a (Obj.mapSeq fun _ => (#[] : Array Value))
  obtain ⟨e1, ho1⟩ : ∃ e1, (s.heap.update a (Obj.mapSeq fun _ => (#[] : Array Value))).get? a = some (seqObj "list" #[] e1) := ⟨_, get?_update_seq ho fun _ => #[]⟩
  have I1 : Inv X pins σ H { s with heap := s.heap.update a (Obj.mapSeq fun _ => (#[] : Array Value)) } := I.turned (t' := s.toks) (fun b ob hb e => (s1.2 b hb).trans e) fa.1 fa.2.1 fa.2.2.2.1 fa.2.2.2.2.1 fa.2.2.2.2.2
  have I2 : Inv X pins σ H { s with heap := (s.heap.update a (Obj.mapSeq fun _ => (#[] : Array Value))).push (seqObj "tuple" vs.toArray 0) } := I1.kept (t' := s.toks) fun b o e => Heap.get?_push_of_some _ e
  have fS := I2.fpOk (Nat.le_refl _) (I2.hok.fresh (Nat.le_refl _))
  have I3 : Inv X pins σ H { s with heap := ((s.heap.update a (Obj.mapSeq fun _ => (#[] : Array Value))).push (seqObj "tuple" vs.toArray 0)).push (seqObj "list" #[] 0) } := I2.kept (t' := s.toks) fun b o e => Heap.get?_push_of_some _ e
  have hkS : ((s.heap.update a (Obj.mapSeq fun _ => (#[] : Array Value))).push (seqObj "tuple" vs.toArray 0)).objs.size = s.heap.objs.size + 1 := by rw [size_push', Heap.size_update]
  unfold PyProof.Rows.ksk_tree
  refine wpAny_bind (listItems_at ho rfl ?_)
  refine wpAny_bind (listUpdate_at ho rfl ?_ (by rw [List.size_toArray]; exact hZ) (Nat.zero_le _))
  refine wpAny_bind (seqEpoch_at ho1 rfl ?_)
  refine wpAny_bind (wpAny_newTuple ?_ (by show vs.length ≤ _; exact hZ))
  refine wpAny_bind (wpAny_newList ?_ (Nat.zero_le _))
  refine wpAny_holding ?_
  exact sort_rest (s := { s with heap := ((s.heap.update a (Obj.mapSeq fun _ => (#[] : Array Value))).push (seqObj "tuple" vs.toArray 0)).push (seqObj "list" #[] 0) }) (ks := ks) (kS := ((s.heap.update a (Obj.mapSeq fun _ => (#[] : Array Value))).push (seqObj "tuple" vs.toArray 0)).objs.size)
    ⟨H, Hd, #[], 0, [], I3, Same.refl _, ab, fa, fS, Heap.get?_push_size _ rfl, Heap.get?_push_of_some _ (Heap.get?_push_of_some _ ho1), .nil, .nil⟩ (Heap.get?_push_size _ rfl) F1 F4 hA hr (by rw [hkS]; exact Nat.ne_of_gt (Nat.lt_succ_of_lt ha)) rd rv hl hZ turn hal hsk hpy hu fin
end
/-- the items in the order of their keys -/
def sortedBy (b : Bool) (ds ks : List D) : List D := ((ds.zip ks).mergeSort (PySem.W.dataLe b fun p => toPy p.2)).map (·.1)
theorem each_zip {K : PySem.W.Frag} {Hd : Hp} : ∀ {vv : List V} {vs : List Value} {ds ks : List D}, Vals vv vs → Reps K Hd vv ds → ks.length = ds.length → PySem.W.EachIs (fun (u : Value) (p : D × D) => ∃ v, RelV v u ∧ Rep K Hd v p.1) vs (ds.zip ks)
  | _, _, _, [], .nil, .nil, _ => .nil
  | _, _, _, _ :: _, .nil, .nil, h => by simp at h
  | _, _, _, [], .cons _ _, .cons _ _, h => by simp at h
  | _, _, _, _ :: _, .cons rv vk, .cons rd rk, h => .cons ⟨_, rv, rd⟩ (each_zip vk rk (by simpa using h))
theorem each_back {K : PySem.W.Frag} {Hd : Hp} : ∀ {us : List Value} {bs : List (D × D)}, PySem.W.EachIs (fun (u : Value) (p : D × D) => ∃ v, RelV v u ∧ Rep K Hd v p.1) us bs → ∃ ov, Vals ov us ∧ Reps K Hd ov (bs.map (·.1))
  | _, _, .nil => ⟨[], .nil, .nil⟩
  | _, _, .cons ⟨v, rv, rd⟩ e => by
    obtain ⟨ov, g1, g2⟩ := each_back e
    exact ⟨v :: ov, .cons rv g1, .cons rd g2⟩
section
variable {X : Cx} {f : Addr} {fd : FuncData} {k : Nat} {ps : List Str} {S : SpD}
def rSortK (X : Cx) (f : Addr) (S : SpD) (b : Bool) : List V → List V → Hp → VK → Prop := fun xs zs H Q => ∃ (a : Addr) (vv : List V) (Hd : Hp) (O : Own) (ds ks : List D), xs = [.ref a] ∧ zs = [.ref f, .bl b] ∧ SqL X.K H a vv ∧ AbsH X.K H Hd O ∧ Reps X.K Hd vv ds ∧ ks.length = ds.length ∧
  (∀ (i : Nat) (d y : D), ds[i]? = some d → ks[i]? = some y → S [d] O (fun z O' => z = y ∧ O' = O) (fun _ _ => False)) ∧ PySem.W.AllAlike (ks.map toPy) ∧ PySem.W.Sortable (ks.map toPy) ∧ (∀ y ∈ ks, isPy y = true) ∧ (∀ y ∈ ks, (toPy y).depth ≤ 16) ∧
  ∀ (p : Addr) (Hj Hdj : Hp) (out : List V), Hj p = none → Same Hd Hdj → AbsH X.K Hj Hdj O → Reps X.K Hdj out (sortedBy b ds ks) → Q (.ref p) (upd Hj p (.lst out))
theorem cr_sortK {b : Bool} (F1 : FnOk X.prog X.w X.K X.mg X.base (L2.CX X.prog X.w) k f fd ps (spD X.K S)) (F4 : Binds X.K fd ps []) (hr : Room (k + 2) X.A) : CallRK X (.builtin "sorted") [Str.ofString "key", Str.ofString "reverse"] (rSortK X f S b) := by
  intro pins s σ H xs zs us ws Q I rx rz h
  obtain ⟨a, vv, Hd, O, ds, ks, rfl, rfl, hq, ab, rd, hl, turn, hal, hsk, hpy, hu, q⟩ := h
  cases rx with | cons r1 r2 =>
  cases r2
  cases rz with | cons z1 z2 =>
  cases z2 with | cons z2 z3 =>
  cases z3
  cases r1
  cases z1
  cases z2
  obtain ⟨its, r, pl, hz⟩ := I.list hq
  have hzl : its.length ≤ sizeLine := by rw [← r.length]; exact hz
  have I1 : Inv X pins σ H { s with heap := PySem.W.copyHeap s.heap its } := I.kept (t' := s.toks) fun b o e => PySem.W.copyHeap_old e
  have fa : FpOk X pins H (s.heap.objs.size + 1) := I.fpOk (Nat.le_succ _) (I.hok.fresh (Nat.le_succ _))
  refine PySem.W.sorted_of_sort pl.isList hzl (PyProof.Rows.ksk_s2 _ _ _) (fun x => by unfold argsOk; kernel_rfl) fun E' => ?_
  show wpAny _ _ (Builtin.«list.sort» ⟨[.ref (s.heap.objs.size + 1)], [(Str.ofString "key", .ref f), (Str.ofString "reverse", .bool b)]⟩) _ _ _
  rw [PyProof.Rows.ksk_t2]
  refine sort_tree (s := { s with heap := PySem.W.copyHeap s.heap its }) (ks := ks) I1 ab fa (PySem.W.copyHeap_at s.heap its) F1 F4 rfl hr.in1.in1 rd r hl hzl turn hal hsk hpy (fun y hy => ?_) fun s' Hj Hdj out c I' sm ab' fa' ho ko => ⟨rfl, ?_⟩
  · have := hu y hy
    have := hr.in1.in1.un
    omega
  · have ek : (ds.zip ks).map (fun p => toPy p.2) = ks.map toPy := by
      have e1 : ks = (ds.zip ks).map Prod.snd := (List.map_snd_zip (by omega)).symm
      conv => rhs; rw [e1, List.map_map]
      rfl
    have eo := PySem.W.keyedOut_each (k := fun p : D × D => toPy p.2) (by rw [ek]; exact ko) (each_zip (r) (rd.mono sm) hl)
    obtain ⟨ov, v1, v2⟩ := each_back eo
    have hol : out.length = its.length := ko.length (by rw [List.length_map, hl, ← rd.length]; exact r.length)
    exact ⟨.ref (s.heap.objs.size + 1), _, I'.take (h' := s'.heap) (t' := s'.toks) (o := .lst ov) (fun b ob _ e => e) fa' ⟨by rw [v1.length, hol]; exact hzl, out, c, v1, ho⟩, rfl, q _ _ _ ov fa'.1 sm ab' v2⟩
end
section
variable {X : Cx} {E : ExP} {Γ : Env'} {O : Own} {Q : PD} {e : Expr} {pos p p2 kp1 kp2 cp : Pos} {b : Bool} {jc : Nat} {y : Str} {k j : Nat} {ps : List Str} {S : SpD}
/-- sorted(xs, key=f, reverse=b), f a def of the module that gives data -/
theorem w_sortK (F : Fd X.prog X.w X.K X.mg X.base y k ps S) (hr : Room j X.A) (hj : k + 2 ≤ j) (hm : X.mg "sorted" = none)
    (h : WE X E e Γ O fun x O1 => ∃ ds ks, asL O1 x = some ds ∧ ks.length = ds.length ∧ (∀ (i : Nat) (d z : D), ds[i]? = some d → ks[i]? = some z → S [d] O1 (fun z' O' => z' = z ∧ O' = O1) (fun _ _ => False)) ∧
      PySem.W.AllAlike (ks.map toPy) ∧ PySem.W.Sortable (ks.map toPy) ∧ (∀ z ∈ ks, isPy z = true) ∧ (∀ z ∈ ks, (toPy z).depth ≤ 16) ∧ Mk (sortedBy b ds ks) O1 Q)
    (hg : Gl X "sorted" := by rfl) (hgy : Gl X y := by rfl) (hdy : (y == ("__debug__" : Str)) = false := by decide)
    (he : backTo pos (starEach [e] X.env) = (false, eval e X.env) :: backTo pos (starEach [] X.env) := by rfl) (hpl : (backTo pos (starEach [e] X.env)).any (·.1) = false := by rfl) (hs : starEach [e] X.env = (false, eval e X.env) :: starEach [] X.env := by rfl) :
    WE X E (.Call (.Name "sorted" p) [e] [⟨some "key", .Name y p2, kp1⟩, ⟨some "reverse", .Constant (.bool b) jc cp, kp2⟩] pos) Γ O Q := .mk fun W σ H Hd q => by
  obtain ⟨f, fd, F1, F2, F3, F4⟩ := F.ex
  have ck := cr_sortK (X := X) (b := b) F1 F4 (hr.mono hj)
  refine wE_of (pe_callBK (ks := [Str.ofString "key", Str.ofString "reverse"]) ck hg hm (by rfl) (pa_cons peW pa_nil hs) (pk_cons (pe_glob hgy F2 (v := .ref f) rfl hdy) (pk_cons pe_bl pk_nil)) (by decide) (by decide) he hpl (by rfl) (by rfl) (by rfl)) ?_
  refine h.use q fun v H1 x O1 Hd1 s1 p1 r1 ⟨ds, ks, e1, h1, h2, h3, h4, h5, h6, h7⟩ => ?_
  obtain ⟨a, vv, e2, g, r⟩ := p1.h.readL r1 e1
  subst e2
  exact ⟨a, vv, Hd1, O1, ds, ks, rfl, rfl, g, p1.h, r, h1, h2, h3, h4, h5, h6, fun pn Hj Hdj out hn sm ab ro => .lift (s1.trans sm) (.mk ab hn ro h7)⟩
/-- max(xs), min(xs), ints -/
def sMaxL (mx : Bool) (x : D) (O : Own) (Q : PD) : Prop := ∃ ns : List Int, asL O x = some (ns.map .int) ∧ 0 < ns.length ∧ ∀ m, m ∈ ns → (∀ y, y ∈ ns → if mx then y ≤ m else m ≤ y) → Q (.int m) O
theorem w_maxL {p : Pos} (hc : X.calm = true) (hm : X.mg "max" = none) (h : WE X E e Γ O fun d O1 => sMaxL true d O1 Q) (hg : Gl X "max" := by rfl) (he : starEach [e] X.env = [(false, eval e X.env)] := by rfl) : WE X E (.Call (.Name "max" p) [e] [] pos) Γ O Q :=
  w_callB (cr_max hc) (fun x O v H Hd Q Q' h r ⟨ns, e1, hl, q⟩ k => by
    obtain ⟨a, vs, rfl, g, r2⟩ := h.readL r e1
    rw [r2.ints] at g
    exact ⟨a, ns, rfl, g, hl, fun m hm hle => k _ _ (.of h (.int _) (q m hm hle))⟩) hm (by decide +kernel) h hg he
theorem w_minL {p : Pos} (hc : X.calm = true) (hm : X.mg "min" = none) (h : WE X E e Γ O fun d O1 => sMaxL false d O1 Q) (hg : Gl X "min" := by rfl) (he : starEach [e] X.env = [(false, eval e X.env)] := by rfl) : WE X E (.Call (.Name "min" p) [e] [] pos) Γ O Q :=
  w_callB (cr_min hc) (fun x O v H Hd Q Q' h r ⟨ns, e1, hl, q⟩ k => by
    obtain ⟨a, vs, rfl, g, r2⟩ := h.readL r e1
    rw [r2.ints] at g
    exact ⟨a, ns, rfl, g, hl, fun m hm hle => k _ _ (.of h (.int _) (q m hm hle))⟩) hm (by decide +kernel) h hg he
end
end RW

/-! RW: list comprehensions of two clauses. -/
namespace RW
open PySem PySem.Spec PyProof.Rows L2
theorem wI_mono {X : Cx} {tg iter : Expr} {σ : L2.St} {H : Hp} {R R' : It → Hp → Prop} (h : wI X tg iter σ H R) (k : ∀ J H', R J H' → R' J H') : wI X tg iter σ H R' := fun pins s I =>
  thn (h pins s I) fun v s1 hv => thn hv fun itv s2 ⟨it, fp, tn, J, H1, e1, I1, T, t0, fpo, r⟩ => ⟨it, fp, tn, J, H1, e1, I1, T, t0, fpo, k _ _ r⟩
theorem wipe_at (σ : L2.St) (j : Nat) : ∀ vs : List Nat, (wipe σ vs)[j]? = if j ∈ vs then (σ[j]?).map (fun _ => none) else σ[j]?
  | [] => by simp [wipe]
  | v :: vs => by
    unfold wipe
    rw [List.getElem?_set, wipe_at σ j vs, wipe_length]
    by_cases h : v = j
    · subst h
      rw [if_pos rfl, if_pos List.mem_cons_self]
      by_cases hl : v < σ.length
      · rw [if_pos hl, List.getElem?_eq_getElem hl]
        rfl
      · rw [if_neg hl, List.getElem?_eq_none_iff.mpr (by omega)]
        rfl
    · rw [if_neg h]
      by_cases h2 : j ∈ vs
      · rw [if_pos h2, if_pos (List.mem_cons_of_mem _ h2)]
      · rw [if_neg h2, if_neg (by simp; exact ⟨fun z => h z.symm, h2⟩)]
theorem wipe_back (σ : L2.St) {vs : List Nat} {i : Nat} (h : i ∈ vs) (v : Option V) : wipe ((wipe σ vs).set i v) vs = wipe σ vs := by
  apply List.ext_getElem?
  intro j
  rw [wipe_at, wipe_at σ]
  by_cases hj : j ∈ vs
  · rw [if_pos hj, if_pos hj, List.getElem?_set, wipe_length, wipe_at, if_pos hj]
    by_cases hij : i = j
    · subst hij
      rw [if_pos rfl]
      by_cases hl : i < σ.length
      · rw [if_pos hl, List.getElem?_eq_getElem hl]
        rfl
      · rw [if_neg hl, List.getElem?_eq_none_iff.mpr (by omega)]
    · rw [if_neg hij]
      cases σ[j]? <;> rfl
  · rw [if_neg hj, if_neg hj, List.getElem?_set_ne (fun z => hj (by rw [← z]; exact h)), wipe_at, if_neg hj]
/-- a target among the comprehension's own names -/
theorem wgc_in {X : Cx} {Γ : Env'} {O : Own} {pos : Pos} {vs : List Nat} (i : Nat) (hiv : i ∈ vs) {x : Str} {d : D} {Q : Env' → Own → Prop} (hN : X.N.Nodup) (h : Q (Γ.set i (some d)) O) (hi : X.N[i]? = some x := by rfl) (hx : Loc X.env.scope x := by first | exact Or.inl rfl | exact Or.inr rfl)
    (hf : X.fn x = true ∨ X.env.scope.names.lookup x = some .local := by first | exact .inl rfl | exact .inr rfl) : WGc X vs (.Name x pos) d Γ O Q := .mk fun σ H Hd v g a r =>
  wG_of (pg_name hN hi hx hf) ⟨wipe_back σ hiv _, _, O, Hd, Same.refl _, g.set r, a, h⟩
section
variable {X : Cx} {E : ExP} {Γ : Env'} {O : Own} {elt tg iter tg1 iter1 : Expr} {ifs ifs1 : List Expr} {scope : Scope} {own : List (Str × Nat)} {Q : PD} {pos : Pos} {De : EndsD}
/-- the second clause -/
def LcIn (X : Cx) (Γ3 : Env') (elt tg1 iter1 : Expr) (ifs1 : List Expr) (scope : Scope) (vs1 : List Nat) (p : Addr) (acc : List D) (O4 : Own) (Nx : List D → Own → Prop) : Prop :=
  ∀ s H C cl fp, WI (blkX X scope s H C cl fp) noEx tg1 iter1 Γ3 O4 fun G1 es O5 => ∃ Pw : Nat → List D → Own → Prop, Pw 0 acc O5 ∧ (∀ j acc O, Pw j acc O → G1 O ∧ O p = some (.lst acc)) ∧
    (∀ j e acc O6, es[j]? = some e → Pw j acc O6 → ∀ s H C cl fp, WGc (blkX X scope s H C cl fp) vs1 tg1 e (wipeD Γ3 vs1) O6 fun Γ7 O7 => ∀ s H C cl fp,
      WTs (blkX X scope s H C cl fp) noEx ifs1 Γ7 O7 fun b O8 => if b = true then ∀ s H C cl fp, WE (blkX X scope s H C cl fp) noEx elt Γ7 O8 (fun y O9 => O9 p = some (.lst acc) ∧ acc.length < sizeLine ∧ Pw (j + 1) (acc ++ [y]) (updO O9 p (.lst (acc ++ [y])))) else Pw (j + 1) acc O8) ∧
    (∀ acc O6, Pw es.length acc O6 → Nx acc O6)
def LcBody2 (X : Cx) (Γ : Env') (elt tg : Expr) (ifs : List Expr) (tg1 iter1 : Expr) (ifs1 : List Expr) (scope : Scope) (vs vs1 : List Nat) (G : Own → Prop) (ds : List D) (O1 : Own) (Q : PD) : Prop :=
  ∀ p, O1 p = none → ∃ Pv : Nat → List D → Own → Prop, Pv 0 [] (updO O1 p (.lst [])) ∧ (∀ i acc O2, Pv i acc O2 → G O2 ∧ O2 p = some (.lst acc)) ∧
    (∀ i d acc O2, ds[i]? = some d → Pv i acc O2 → ∀ s H C cl fp, WGc (blkX X scope s H C cl fp) vs tg d (wipeD Γ vs) O2 fun Γ3 O3 => ∀ s H C cl fp,
      WTs (blkX X scope s H C cl fp) noEx ifs Γ3 O3 fun b O4 => if b = true then LcIn X Γ3 elt tg1 iter1 ifs1 scope vs1 p acc O4 (fun acc O6 => Pv (i + 1) acc O6) else Pv (i + 1) acc O4) ∧
    (∀ acc O2, Pv ds.length acc O2 → EndL p acc O2 Q)
theorem lc2_run {vs1 : List Nat} {W : WX} {σ : L2.St} {H Hd : Hp} (p : Pre X E W σ H Hd Γ O) (h : WI X E tg iter Γ O fun G ds O1 => LcBody2 X Γ elt tg ifs tg1 iter1 ifs1 scope (own.map (·.2)) vs1 G ds O1 Q) {Q' : VK} (kk : ∀ v H', Post X.K Hd Q v H' → Q' v H') :
    tLc2 (wI X tg iter) (fun v σ H R => ∀ s H0 C cl fp, wG (blkX X scope s H0 C cl fp) tg v σ H R) (fun σ H R => ∀ s H0 C cl fp, wTs (blkX X scope s H0 C cl fp) ifs σ H R) (fun σ H R => ∀ s H0 C cl fp, wI (blkX X scope s H0 C cl fp) tg1 iter1 σ H R)
      (fun v σ H R => ∀ s H0 C cl fp, wG (blkX X scope s H0 C cl fp) tg1 v σ H R) (fun σ H R => ∀ s H0 C cl fp, wTs (blkX X scope s H0 C cl fp) ifs1 σ H R) (fun σ H R => ∀ s H0 C cl fp, wE (blkX X scope s H0 C cl fp) elt σ H R) (own.map (·.2)) vs1 σ H Q' := fun pins s I =>
  thn (h.run W σ H Hd p pins s I) fun v s1 hv => thn hv fun itv s2 ⟨it, fp, tn, J, H1, e1, I1, T, t0, fpo, G, ds, O1, Hd1, s1', a1, io, body⟩ => by
    refine ⟨it, fp, tn, J, H1, e1, I1, T, t0, fpo, fun P nP => ?_⟩
    obtain ⟨Pv, h0, hG, hs, hd⟩ := body P (a1.freeO nP)
    refine ⟨fun i m H2 => m = ds.length - i ∧ i ≤ ds.length ∧ ∃ acc O2 Hd2, Same Hd1 Hd2 ∧ AbsH X.K H2 Hd2 O2 ∧ Pv i acc O2, ⟨_, rfl, Nat.zero_le _, [], _, Hd1, Same.refl _, a1.putL (a1.free nP) .nil, h0⟩, ?_⟩
    rintro i m H2 ⟨rfl, hi, acc, O2, Hd2, s2', a2, pv⟩
    obtain ⟨gO, eP⟩ := hG i acc O2 pv
    have io2 := io i H2 Hd2 O2 s2' a2 gO
    by_cases hlt : i < ds.length
    · obtain ⟨d, hd'⟩ : ∃ d, ds[i]? = some d := ⟨_, List.getElem?_eq_getElem hlt⟩
      obtain ⟨go, yl⟩ := io2.1 d hd'
      refine .inr ⟨go, fun H3 => ∃ acc O3 Hd3, Same Hd1 Hd3 ∧ AbsH X.K H3 Hd3 O3 ∧ Pv (i + 1) acc O3, fun H3 ⟨acc3, O3, Hd3, s3, a3, pv3⟩ => ⟨ds.length - (i + 1), by omega, rfl, hlt, acc3, O3, Hd3, s3, a3, pv3⟩, fun x H3 hy s H0 C cl fp => ?_⟩
      obtain ⟨Hd3, s3, a3, rx⟩ := yl x H3 hy
      have g3 : AbsG X.K Hd3 (wipe σ (own.map (·.2))) (wipeD Γ (own.map (·.2))) := (p.g.mono (s1'.trans (s2'.trans s3))).wipe _
      refine wG_mono ((hs i d acc O2 hd' pv s H0 C cl fp).run σ H3 Hd3 x g3 a3 rx) fun σ4 H4 ⟨ew, Γ4, O4, Hd4, s4, g4, a4, q4⟩ => ⟨ew, fun s H0 C cl fp => ?_⟩
      refine (q4 s H0 C cl fp).use (pre0 g4 a4) fun b H5 O5 Hd5 s5 p5 q5 => ?_
      have s15 := s2'.trans (s3.trans (s4.trans s5))
      cases b with
      | false =>
        simp only [Bool.false_eq_true, if_false] at q5 ⊢
        exact ⟨acc, O5, Hd5, s15, p5.h, q5⟩
      | true =>
        simp only [if_true] at q5 ⊢
        intro s H0 C cl fp
        refine wI_mono ((q5 s H0 C cl fp).run _ σ4 H5 Hd5 (pre0 p5.g p5.h)) fun J1 H6 ⟨G1, es, O6, Hd6, s6, a6, io6, Pw, w0, wG1, ws1, wd1⟩ => ?_
        refine ⟨fun j m H7 => m = es.length - j ∧ j ≤ es.length ∧ ∃ acc O7 Hd7, Same Hd6 Hd7 ∧ AbsH X.K H7 Hd7 O7 ∧ Pw j acc O7, ⟨_, rfl, Nat.zero_le _, acc, _, Hd6, Same.refl _, a6, w0⟩, ?_⟩
        rintro j m H7 ⟨rfl, hj, acc7, O7, Hd7, s7', a7, pw⟩
        obtain ⟨gO7, eP7⟩ := wG1 j acc7 O7 pw
        have io7 := io6 j H7 Hd7 O7 s7' a7 gO7
        by_cases hlt7 : j < es.length
        · obtain ⟨e, he'⟩ : ∃ e, es[j]? = some e := ⟨_, List.getElem?_eq_getElem hlt7⟩
          obtain ⟨go7, yl7⟩ := io7.1 e he'
          refine .inr ⟨go7, fun H8 => ∃ acc O8 Hd8, Same Hd6 Hd8 ∧ AbsH X.K H8 Hd8 O8 ∧ Pw (j + 1) acc O8, fun H8 ⟨acc8, O8, Hd8, s8, a8, pw8⟩ => ⟨es.length - (j + 1), by omega, rfl, hlt7, acc8, O8, Hd8, s8, a8, pw8⟩, fun x H8 hy s H0 C cl fp => ?_⟩
          obtain ⟨Hd8, s8, a8, rx8⟩ := yl7 x H8 hy
          have g8 : AbsG X.K Hd8 (wipe σ4 vs1) (wipeD Γ4 vs1) := (p5.g.mono (s6.trans (s7'.trans s8))).wipe _
          refine wG_mono ((ws1 j e acc7 O7 he' pw s H0 C cl fp).run _ H8 Hd8 x g8 a8 rx8) fun σ9 H9 ⟨ew9, Γ9, O9, Hd9, s9, g9, a9, q9⟩ => ⟨ew9, fun s H0 C cl fp => ?_⟩
          refine (q9 s H0 C cl fp).use (pre0 g9 a9) fun b H10 O10 Hd10 s10 p10 q10 => ?_
          have s710 := s7'.trans (s8.trans (s9.trans s10))
          cases b with
          | false =>
            simp only [Bool.false_eq_true, if_false] at q10 ⊢
            exact ⟨acc7, O10, Hd10, s710, p10.h, q10⟩
          | true =>
            simp only [if_true] at q10 ⊢
            intro s H0 C cl fp
            refine (q10 s H0 C cl fp).use (pre0 p10.g p10.h) fun y H11 d11 O11 Hd11 s11 p11 r11 ⟨e11, l11, pw11⟩ => ?_
            obtain ⟨n11, vs11, h11, r11'⟩ := p11.h.own P _ e11
            exact ⟨vs11, h11, by rw [r11'.length]; exact l11, _, _, Hd11, s710.trans s11, p11.h.putL n11 (r11'.append (.cons r11 .nil)), pw11⟩
        · have e : j = es.length := by omega
          subst e
          exact .inl ⟨io7.2 (Nat.le_refl _), acc7, O7, Hd7, s15.trans (s6.trans s7'), a7, wd1 acc7 O7 pw⟩
    · have e : i = ds.length := by omega
      subst e
      refine .inl ⟨io2.2 (Nat.le_refl _), kk _ _ ?_⟩
      rcases hd acc O2 pv with q | q
      · exact ⟨_, O2, Hd2, s1'.trans s2', a2, .obj P, q⟩
      · obtain ⟨Hd3, s3, a3, r3⟩ := a2.fix eP
        exact ⟨_, _, Hd3, s1'.trans (s2'.trans s3), a3, r3, q⟩
theorem w_lc2 (vs vs1 : List Nat) (hc : X.calm = true) (hN : X.N.Nodup) (ok : BlkOk X.N X.env.scope scope own) (hvs : own.map (·.2) = vs) (hv : ∀ i ∈ vs1, i ∈ vs) (h : WI X E tg iter Γ O fun G ds O1 => LcBody2 X Γ elt tg ifs tg1 iter1 ifs1 scope vs vs1 G ds O1 Q) (hs : ∀ x, foldedSetIterable iter X.env x = pure x := by intro _; rfl) (hs1 : ∀ env x, foldedSetIterable iter1 env x = pure x := by intro _ _; rfl) :
    WE X E (.ListComp elt [⟨tg, iter, ifs, 0⟩, ⟨tg1, iter1, ifs1, 0⟩] scope pos) Γ O Q := .mk fun W σ H Hd p => by
  subst hvs
  exact wE_of (pe_lc2 (own := own) hc hN piW ok hv (fun s H C cl fp => ⟨fun pins s' σ H v u Q I r h => h s _ C cl fp pins s' u I r⟩) (fun s H C cl fp => ⟨fun pins s' σ H Q I h => h s _ C cl fp pins s' I⟩) (fun s H C cl fp => ⟨fun pins s' σ H R I h => h s _ C cl fp pins s' I⟩)
    (fun s H C cl fp => ⟨fun pins s' σ H v u Q I r h => h s _ C cl fp pins s' u I r⟩) (fun s H C cl fp => ⟨fun pins s' σ H Q I h => h s _ C cl fp pins s' I⟩) (fun s H C cl fp => ⟨fun pins s' σ H Q I h => h s _ C cl fp pins s' I⟩) hs hs1) (lc2_run p h fun _ _ z => z)
theorem ws_lc2 (i : Nat) (vs vs1 : List Nat) {y : Str} {py spos : Pos} (hc : X.calm = true) (hN : X.N.Nodup) (ok : BlkOk X.N X.env.scope scope own) (hvs : own.map (·.2) = vs) (hv : ∀ i ∈ vs1, i ∈ vs)
    (hsw : swapsWith (.ListComp elt [⟨tg, iter, ifs, 0⟩, ⟨tg1, iter1, ifs1, 0⟩] scope pos) (some (.Name y py)) spos.line X.env = pure true) (h : WI X E tg iter Γ O fun G ds O1 => LcBody2 X Γ elt tg ifs tg1 iter1 ifs1 scope vs vs1 G ds O1 fun d O' => De.nx (Γ.set i (some d)) O')
    (hy : X.N[i]? = some y := by rfl) (hyl : X.env.scope.names.lookup y = some .local := by rfl) (hs : ∀ x, foldedSetIterable iter X.env x = pure x := by intro _; rfl) (hs1 : ∀ env x, foldedSetIterable iter1 env x = pure x := by intro _ _; rfl) :
    WS X E (.Assign [.Name y py] (.ListComp elt [⟨tg, iter, ifs, 0⟩, ⟨tg1, iter1, ifs1, 0⟩] scope pos) spos) Γ O De := .mk fun W σ H Hd p => by
  subst hvs
  exact wS_of (ps_setLc2 (own := own) (i := i) hc hN hy hyl hsw piW ok hv (fun s H C cl fp => ⟨fun pins s' σ H v u Q I r h => h s _ C cl fp pins s' u I r⟩) (fun s H C cl fp => ⟨fun pins s' σ H Q I h => h s _ C cl fp pins s' I⟩) (fun s H C cl fp => ⟨fun pins s' σ H R I h => h s _ C cl fp pins s' I⟩)
    (fun s H C cl fp => ⟨fun pins s' σ H v u Q I r h => h s _ C cl fp pins s' u I r⟩) (fun s H C cl fp => ⟨fun pins s' σ H Q I h => h s _ C cl fp pins s' I⟩) (fun s H C cl fp => ⟨fun pins s' σ H Q I h => h s _ C cl fp pins s' I⟩) hs hs1)
    (lc2_run p h fun v H' ⟨d, O', Hd', s, a, r, q⟩ => ⟨_, O', Hd', s, (p.g.mono s).set r, a, q⟩)
/-- no tests, what is owned stays: for each item i of the first clause's the row f i -/
theorem lc2_all {vs vs1 : List Nat} {G : Own → Prop} {ds : List D} {O1 : Own} (f : Nat → List D) (hz : ∀ i, ((List.range i).flatMap f).length ≤ 100000 ∨ ds.length < i) (hG : ∀ O2, Sub O1 O2 → G O2)
    (hs : ∀ i d O2, ds[i]? = some d → Sub O1 O2 → ∀ s H C cl fp, WGc (blkX X scope s H C cl fp) vs tg d (wipeD Γ vs) O2 fun Γ3 O3 => O3 = O2 ∧ ∀ s H C cl fp, WI (blkX X scope s H C cl fp) noEx tg1 iter1 Γ3 O2 fun G1 (es : List D) O5 => O5 = O2 ∧ es.length = (f i).length ∧ (∀ O, Sub O1 O → G1 O) ∧
      ∀ (j : Nat) (e : D) (O6 : Own), es[j]? = some e → Sub O1 O6 → ∀ s H C cl fp, WGc (blkX X scope s H C cl fp) vs1 tg1 e (wipeD Γ3 vs1) O6 fun Γ7 O7 => O7 = O6 ∧ ∀ s H C cl fp, WE (blkX X scope s H C cl fp) noEx elt Γ7 O6 (fun y O9 => O9 = O6 ∧ (f i)[j]? = some y))
    (hd : Mk ((List.range ds.length).flatMap f) O1 Q) : LcBody2 X Γ elt tg [] tg1 iter1 [] scope vs vs1 G ds O1 Q := fun p np => by
  have hle : ∀ i, i ≤ ds.length → ((List.range i).flatMap f).length ≤ 100000 := fun i hi => by
    rcases hz i with h | h
    · exact h
    · omega
  refine ⟨fun i acc O2 => O2 = updO O1 p (.lst acc) ∧ i ≤ ds.length ∧ acc = (List.range i).flatMap f, ⟨rfl, Nat.zero_le _, rfl⟩, fun i acc O2 ⟨e, _⟩ => ?_, fun i d acc O2 hd' ⟨e, ei, ea⟩ s H C cl fp => ?_, fun acc O2 ⟨e, _, ea⟩ => ?_⟩
  · subst e
    exact ⟨hG _ (Sub.new np), updO_same⟩
  · have hlt : i < ds.length := (List.getElem?_eq_some_iff.mp hd').1
    refine .mk fun σ H1 Hd v g a r => ?_
    refine wG_mono ((hs i d O2 hd' (by rw [e]; exact Sub.new np) s H C cl fp).run σ H1 Hd v g a r) fun σ' H' ⟨ew, Γ3, O3, Hd3, s3, g3, a3, e3, q3⟩ => ⟨ew, Γ3, O3, Hd3, s3, g3, a3, fun s H C cl fp => ?_⟩
    subst e3
    refine wts_nil ?_
    rw [if_pos rfl]
    intro s H C cl fp
    refine .mk fun W σ H7 Hd pp => wI_mono ((q3 s H C cl fp).run W σ H7 Hd pp) fun J H' ⟨G1, es, O5, Hd5, s5, a5, io5, e5, hl5, hG1, q5⟩ => ⟨G1, es, O5, Hd5, s5, a5, io5, ?_⟩
    subst e5
    have hnext : (List.range (i + 1)).flatMap f = (List.range i).flatMap f ++ f i := by
      rw [List.range_succ, List.flatMap_append]
      simp
    have hb := hle (i + 1) hlt
    rw [hnext, List.length_append] at hb
    refine ⟨fun j acc7 O7 => O7 = updO O1 p (.lst acc7) ∧ j ≤ es.length ∧ acc7 = acc ++ (f i).take j, ⟨e, Nat.zero_le _, by simp⟩, fun j acc7 O7 ⟨e7, _⟩ => ?_, fun j e' acc7 O7 he' ⟨e7, ej, ea7⟩ s H C cl fp => ?_, fun acc7 O7 ⟨e7, _, ea7⟩ => ?_⟩
    · subst e7
      exact ⟨hG1 _ (Sub.new np), updO_same⟩
    · have hlt7 : j < es.length := (List.getElem?_eq_some_iff.mp he').1
      refine .mk fun σ H1 Hd v g a r => ?_
      refine wG_mono ((q5 j e' O7 he' (by rw [e7]; exact Sub.new np) s H C cl fp).run σ H1 Hd v g a r) fun σ' H' ⟨ew, Γ8, O8, Hd8, s8, g8, a8, e8, q8⟩ => ⟨ew, Γ8, O8, Hd8, s8, g8, a8, fun s H C cl fp => ?_⟩
      subst e8
      refine wts_nil ?_
      rw [if_pos rfl]
      intro s H C cl fp
      refine (q8 s H C cl fp).mono fun y O9 ⟨e9, hy⟩ => ?_
      rw [e9, e7, updO_same, updO_updO]
      refine ⟨rfl, ?_, rfl, hlt7, ?_⟩
      · rw [ea7, ea]
        refine Nat.lt_of_lt_of_le (m := 100000 + 1) ?_ (by decide)
        rw [List.length_append, List.length_take]
        omega
      · rw [ea7, List.take_succ, hy]
        simp
    · refine ⟨e7, hlt, ?_⟩
      rw [ea7, hl5, List.take_length, hnext, ea]
  · subst e
    subst ea
    rcases hd with q | q
    · exact .inr (by rw [delO_updO np]; exact q)
    · exact .inl (q p np)
end
end RW

/-! RW: what is owned is fixed, and told anew where it is named. -/
namespace RW
open PySem PySem.Spec PyProof.Rows L2
/-- q is told as d, of rows -/
inductive Tells (q : Addr) (d : D) : List D → List D → Prop
  | nil : Tells q d [] []
  | same (x : D) {xs ys : List D} : Tells q d xs ys → Tells q d (x :: xs) (x :: ys)
  | here {xs ys : List D} : Tells q d xs ys → Tells q d (.obj q :: xs) (d :: ys)
theorem Tells.refl (q : Addr) (d : D) : ∀ xs : List D, Tells q d xs xs
  | [] => .nil
  | x :: xs => .same x (Tells.refl q d xs)
theorem Tells.last (q : Addr) (d : D) (xs : List D) : Tells q d (xs ++ [.obj q]) (xs ++ [d]) := by
  induction xs with
  | nil => exact .here .nil
  | cons x xs ih => exact .same x ih
inductive TellD (q : Addr) (d : D) : D → D → Prop
  | refl (x : D) : TellD q d x x
  | here : TellD q d (.obj q) d
  | lst {xs ys : List D} : Tells q d xs ys → TellD q d (.lst xs) (.lst ys)
  | tup {xs ys : List D} : Tells q d xs ys → TellD q d (.tup xs) (.tup ys)
  | ins {C : Addr} {fs : List Str} {xs ys : List D} : Tells q d xs ys → TellD q d (.ins C (fs.zip xs)) (.ins C (fs.zip ys))
  | dk {P : Program} {w : World} {kvs kvs' : List (Key × D)} : kvs.map (·.1) = kvs'.map (·.1) → Tells q d (kvs.map (·.2)) (kvs'.map (·.2)) → TellD q d (.dk P w kvs) (.dk P w kvs')
  | dt {w : World} {kvs kvs' : List (NestedKey × D)} : kvs.map (·.1) = kvs'.map (·.1) → Tells q d (kvs.map (·.2)) (kvs'.map (·.2)) → TellD q d (.dt w kvs) (.dt w kvs')
inductive TellO (q : Addr) (d : D) : OC → OC → Prop
  | lst {xs ys : List D} : Tells q d xs ys → TellO q d (.lst xs) (.lst ys)
  | ins {C : Addr} {fs : List Str} {xs ys : List D} : Tells q d xs ys → TellO q d (.ins C (fs.zip xs)) (.ins C (fs.zip ys))
  | dk {P : Program} {w : World} {kvs kvs' : List (Key × D)} : kvs.map (·.1) = kvs'.map (·.1) → Tells q d (kvs.map (·.2)) (kvs'.map (·.2)) → TellO q d (.dk P w kvs) (.dk P w kvs')
  | dt {w : World} {kvs kvs' : List (NestedKey × D)} : kvs.map (·.1) = kvs'.map (·.1) → Tells q d (kvs.map (·.2)) (kvs'.map (·.2)) → TellO q d (.dt w kvs) (.dt w kvs')
/-- what is owned, as it is when it is fixed -/
def fixD : OC → Option D
  | .lst xs => some (.lst xs)
  | .ins C fs => some (.ins C fs)
  | .dt w kvs => some (.dt w kvs)
  | .dk P w kvs => some (.dk P w kvs)
  | _ => none
section
variable {K : PySem.W.Frag} {H Hd : Hp} {O : Own}
theorem tells_rep {q : Addr} {d : D} (r : Rep K Hd (.ref q) d) : ∀ {xs ys : List D}, Tells q d xs ys → ∀ {vs : List V}, Reps K Hd vs xs → Reps K Hd vs ys
  | _, _, .nil, _, h => h
  | _, _, .same x t, _, .cons a b => .cons a (tells_rep r t b)
  | _, _, .here t, _, .cons a b => by
    cases a
    exact .cons r (tells_rep r t b)
theorem repF_zip : ∀ {fs : List Str} {xs : List D} {vs : List (Str × V)}, RepF K Hd vs (fs.zip xs) → Reps K Hd (vs.map (·.2)) (xs.take fs.length) ∧ vs.map (·.1) = fs.take xs.length
  | [], xs, vs, h => by
    cases h
    simp
    exact .nil
  | f :: fs, [], vs, h => by
    cases h
    simp
    exact .nil
  | f :: fs, x :: xs, vs, h => by
    cases h with | cons a b =>
    obtain ⟨h1, h2⟩ := repF_zip b
    exact ⟨.cons a h1, by simp [h2]⟩
theorem zip_repF : ∀ {fs : List Str} {xs : List D} {vs : List (Str × V)}, Reps K Hd (vs.map (·.2)) (xs.take fs.length) → vs.map (·.1) = fs.take xs.length → RepF K Hd vs (fs.zip xs)
  | [], xs, vs, h, e => by
    simp at e
    subst e
    exact .nil
  | f :: fs, [], vs, h, e => by
    simp at e
    subst e
    exact .nil
  | f :: fs, x :: xs, [], h, e => by simp at e
  | f :: fs, x :: xs, (g, v) :: vs, h, e => by
    simp at e
    obtain ⟨rfl, e⟩ := e
    cases h with | cons a b =>
    exact .cons a (zip_repF b e)
theorem tells_len {q : Addr} {d : D} : ∀ {xs ys : List D}, Tells q d xs ys → xs.length = ys.length
  | _, _, .nil => rfl
  | _, _, .same x t => by simp [tells_len t]
  | _, _, .here t => by simp [tells_len t]
theorem tells_take {q : Addr} {d : D} : ∀ {n : Nat} {xs ys : List D}, Tells q d xs ys → Tells q d (xs.take n) (ys.take n)
  | 0, _, _, _ => by simp; exact .nil
  | n + 1, _, _, .nil => .nil
  | n + 1, _, _, .same x t => .same x (tells_take t)
  | n + 1, _, _, .here t => .here (tells_take t)
theorem tellF {q : Addr} {d : D} (r : Rep K Hd (.ref q) d) {fs : List Str} {xs ys : List D} (t : Tells q d xs ys) {vs : List (Str × V)} (h : RepF K Hd vs (fs.zip xs)) : RepF K Hd vs (fs.zip ys) := by
  obtain ⟨h1, h2⟩ := repF_zip h
  exact zip_repF (tells_rep r (tells_take t) h1) (by rw [h2, tells_len t])
theorem tellD_rep {q : Addr} {d x y : D} (r : Rep K Hd (.ref q) d) (t : TellD q d x y) {v : V} (h : Rep K Hd v x) : Rep K Hd v y := by
  cases t with
  | refl => exact h
  | here => cases h; exact r
  | lst t => cases h with | lst a b => exact .lst a (tells_rep r t b)
  | tup t => cases h with | tup a b => exact .tup a (tells_rep r t b)
  | ins t => cases h with | ins a b => exact .ins a (tellF r t b)
  | dk e t => cases h with | dk a b c => exact .dk a (by rw [← e]; exact b) (tells_rep r t c)
  | dt e t =>
    cases h with | dt a b k c =>
    refine .dt a (by rw [← e]; exact b) ?_ (tells_rep r t c)
    have e2 := congrArg (List.map keyD) e
    rw [List.map_map, List.map_map] at e2
    rw [show (List.map (fun p : NestedKey × D => keyD p.1) _) = _ from e2] at k
    exact k
theorem tellO_rep {H' : Hp} {q p : Addr} {d : D} {c c' : OC} (r : Rep K Hd (.ref q) d) (t : TellO q d c c') (h : OcR K H' Hd p c) : OcR K H' Hd p c' := by
  cases t with
  | lst t => obtain ⟨vs, h1, h2⟩ := h; exact ⟨vs, h1, tells_rep r t h2⟩
  | ins t => obtain ⟨dx, vs, h1, h2⟩ := h; exact ⟨dx, vs, h1, tellF r t h2⟩
  | dk e t => obtain ⟨o, us, vs, h1, h2, h3⟩ := h; exact ⟨o, us, vs, h1, by rw [← e]; exact h2, tells_rep r t h3⟩
  | dt e t =>
    obtain ⟨o, us, vs, h1, h2, k, h3⟩ := h
    refine ⟨o, us, vs, h1, by rw [← e]; exact h2, ?_, tells_rep r t h3⟩
    have e2 := congrArg (List.map keyD) e
    rw [List.map_map, List.map_map] at e2
    rw [show (List.map (fun p : NestedKey × D => keyD p.1) _) = _ from e2] at k
    exact k
theorem AbsH.fixAny {q : Addr} {c : OC} {d : D} (h : AbsH K H Hd O) (e : O q = some c) (ed : fixD c = some d) : ∃ Hd', Same Hd Hd' ∧ AbsH K H Hd' (delO O q) ∧ Rep K Hd' (.ref q) d := by
  cases c with
  | lst xs => cases ed; exact h.fix e
  | ins C fs => cases ed; exact h.fixI e
  | dt w kvs => cases ed; exact h.fixN e
  | dk P w kvs => cases ed; exact h.fixM e
  | any Pw => cases ed
  | tab q => cases ed
  | ex pr => cases ed
end
/-- what may be said of a value and of what is owned behind some fixing -/
inductive Fx : D → Own → D → Own → Prop
  | refl (x : D) (O : Own) : Fx x O x O
  | fix {x y d : D} {O : Own} {q : Addr} {c : OC} : O q = some c → fixD c = some d → TellD q d x y → Fx x O y (delO O q)
  | own {x d : D} {O : Own} {q p : Addr} {c c1 c2 : OC} : O q = some c → fixD c = some d → O p = some c1 → p ≠ q → TellO q d c1 c2 → Fx x O x (updO (delO O q) p c2)
  | sub {x : D} {O O' : Own} : Sub O' O → Fx x O x O'
  | trans {x y z : D} {O O1 O2 : Own} : Fx x O y O1 → Fx y O1 z O2 → Fx x O z O2
theorem Fx.run {K : PySem.W.Frag} {x y : D} {O O' : Own} (f : Fx x O y O') : ∀ {H Hd : Hp} {v : V}, AbsH K H Hd O → Rep K Hd v x → ∃ Hd', Same Hd Hd' ∧ AbsH K H Hd' O' ∧ Rep K Hd' v y := by
  induction f with
  | refl => exact fun h r => ⟨_, Same.refl _, h, r⟩
  | fix e ed t =>
    intro H Hd v h r
    obtain ⟨Hd', s, a, r2⟩ := h.fixAny e ed
    exact ⟨Hd', s, a, tellD_rep r2 t (r.mono s)⟩
  | @own x d O q p c c1 c2 e ed ep ne t =>
    intro H Hd v h r
    obtain ⟨Hd', s, a, r2⟩ := h.fixAny e ed
    refine ⟨Hd', s, ⟨a.same, fun b cb z => ?_⟩, r.mono s⟩
    by_cases hb : b = p
    · subst hb
      rw [updO_same] at z
      cases z
      obtain ⟨g1, g2⟩ := a.own b c1 (by unfold delO; rw [if_neg ne]; exact ep)
      exact ⟨g1, tellO_rep r2 t g2⟩
    · rw [updO_ne hb] at z
      exact a.own b cb z
  | sub s => exact fun h r => ⟨_, Same.refl _, h.sub s, r⟩
  | trans _ _ ih1 ih2 =>
    intro H Hd v h r
    obtain ⟨Hd1, s1, a1, r1⟩ := ih1 h r
    obtain ⟨Hd2, s2, a2, r2⟩ := ih2 a1 r1
    exact ⟨Hd2, s1.trans s2, a2, r2⟩
theorem Mk.fx {ds : List D} {O : Own} {Q : PD} (h : Mk ds O Q) {q : Addr} (nq : O q = none) : ∃ y O2, Fx (.obj q) (updO O q (.lst ds)) y O2 ∧ Q y O2 := by
  rcases h with h | h
  · exact ⟨_, _, .fix updO_same rfl .here, by rw [delO_updO nq]; exact h⟩
  · exact ⟨_, _, .refl _ _, h q nq⟩
section
variable {X : Cx} {E : ExP} {Γ : Env'} {O : Own} {e : Expr} {Q : PD} {De : EndsD} {st : List Stmt}
theorem WE.fx (h : WE X E e Γ O fun x O1 => ∃ y O2, Fx x O1 y O2 ∧ Q y O2) : WE X E e Γ O Q := .mk fun W σ H Hd p =>
  h.use p fun v H' d O' Hd' s p' r ⟨y, O2, f, q⟩ => by
    obtain ⟨Hd2, s2, a2, r2⟩ := f.run p'.h r
    exact ⟨_, _, Hd2, s.trans s2, a2, r2, q⟩
/-- .. ahead of a statement, at a slot -/
theorem WSs.fx {i : Nat} {x y : D} {O' : Own} (hi : Γ[i]? = some (some x)) (f : Fx x O y O') (h : WSs X E st (Γ.set i (some y)) O' De) : WSs X E st Γ O De := .mk fun W σ H Hd p => by
  obtain ⟨v, ev, rv⟩ := p.g.2 i x hi
  obtain ⟨Hd', s, a, r⟩ := f.run p.h rv
  have g : AbsG X.K Hd' σ (Γ.set i (some y)) := by
    refine ⟨by rw [List.length_set]; exact p.g.1, fun j d hj => ?_⟩
    by_cases hij : i = j
    · subst hij
      have hlt := (List.getElem?_eq_some_iff.mp hi).1
      rw [List.getElem?_set_self hlt] at hj
      cases hj
      exact ⟨v, ev, r⟩
    · rw [List.getElem?_set_ne hij] at hj
      obtain ⟨u, eu, ru⟩ := p.g.2 j d hj
      exact ⟨u, eu, ru.mono s⟩
  exact wSs_mono (h.run W σ H Hd' (p.go2 s a g)) (ends_lift s)
/-- .. of what is owned alone -/
theorem WSs.fxO {O' : Own} (f : Fx .non O .non O') (h : WSs X E st Γ O' De) : WSs X E st Γ O De := .mk fun W σ H Hd p => by
  obtain ⟨Hd', s, a, _⟩ := f.run p.h Rep.non
  exact wSs_mono (h.run W σ H Hd' (p.go2 s a (p.g.mono s))) (ends_lift s)
end
end RW
namespace RW
open PySem PySem.Spec PyProof.Rows L2
section
variable {X : Cx} {E : ExP} {Γ : Env'} {O : Own} {e : Expr} {Q : PD} {pos : Pos}
/-- d[e], d a name of a dict: fixed, owned -/
theorem w_mgetN {N : List Str} {x : Str} {p1 : Pos} {i : Nat} {kvs : List (Key × D)} (nd : N.Nodup) (hi : N[i]? = some x) (hd : Γ[i]? = some (some (.dk X.prog X.w kvs))) (hx : X.N = N) (h : WE X E e Γ O fun y O2 => ∃ k d, y = kD k ∧ valD kvs k = some d ∧ Q d O2) (hv : Vis X.env.scope x)
    (h1 : (x == ("__debug__" : Str)) = false := by decide) (h2 : (x == ("__classdict__" : Str)) = false := by decide) (hs : NoSl e := by exact fun _ _ => rfl) : WE X E (.Subscript (.Name x p1) e pos) Γ O Q :=
  w_mget (w_vn nd hi hd hx (h.mono fun y O2 ⟨k, d, e1, e2, q⟩ => ⟨kvs, k, d, .inl rfl, e1, e2, q⟩) hv h1 h2) hs
theorem w_mgetO {N : List Str} {x : Str} {p1 : Pos} {i : Nat} {p : Addr} {kvs : List (Key × D)} (nd : N.Nodup) (hi : N[i]? = some x) (hd : Γ[i]? = some (some (.obj p))) (hO : O p = some (.dk X.prog X.w kvs)) (hx : X.N = N) (h : WE X E e Γ O fun y O2 => ∃ k d, y = kD k ∧ O2 p = some (.dk X.prog X.w kvs) ∧ valD kvs k = some d ∧ Q d O2) (hv : Vis X.env.scope x)
    (h1 : (x == ("__debug__" : Str)) = false := by decide) (h2 : (x == ("__classdict__" : Str)) = false := by decide) (hs : NoSl e := by exact fun _ _ => rfl) : WE X E (.Subscript (.Name x p1) e pos) Γ O Q :=
  w_mget (w_vn nd hi hd hx (h.mono fun y O2 ⟨k, d, e1, e3, e2, q⟩ => ⟨kvs, k, d, .inr ⟨p, rfl, e3⟩, e1, e2, q⟩) hv h1 h2) hs
theorem w_dgetN {N : List Str} {x : Str} {p1 : Pos} {i : Nat} {kvs : List (NestedKey × D)} (nd : N.Nodup) (hi : N[i]? = some x) (hd : Γ[i]? = some (some (.dt X.w kvs))) (hx : X.N = N) (hu : X.A.units + 64 < cLine) (h : WE X E e Γ O fun y O2 => ∃ ks d, y = keyD (.tup ks) ∧ (NestedKey.tup ks).depth ≤ 8 ∧ valD kvs (.tup ks) = some d ∧ Q d O2) (hv : Vis X.env.scope x)
    (h1 : (x == ("__debug__" : Str)) = false := by decide) (h2 : (x == ("__classdict__" : Str)) = false := by decide) (hs : NoSl e := by exact fun _ _ => rfl) : WE X E (.Subscript (.Name x p1) e pos) Γ O Q :=
  w_dget hu (w_vn nd hi hd hx (h.mono fun y O2 ⟨ks, d, e1, e2, e3, q⟩ => ⟨kvs, ks, d, .inl rfl, e1, e2, e3, q⟩) hv h1 h2) hs
theorem w_dgetO {N : List Str} {x : Str} {p1 : Pos} {i : Nat} {p : Addr} {kvs : List (NestedKey × D)} (nd : N.Nodup) (hi : N[i]? = some x) (hd : Γ[i]? = some (some (.obj p))) (hO : O p = some (.dt X.w kvs)) (hx : X.N = N) (hu : X.A.units + 64 < cLine) (h : WE X E e Γ O fun y O2 => ∃ ks d, y = keyD (.tup ks) ∧ (NestedKey.tup ks).depth ≤ 8 ∧ O2 p = some (.dt X.w kvs) ∧ valD kvs (.tup ks) = some d ∧ Q d O2) (hv : Vis X.env.scope x)
    (h1 : (x == ("__debug__" : Str)) = false := by decide) (h2 : (x == ("__classdict__" : Str)) = false := by decide) (hs : NoSl e := by exact fun _ _ => rfl) : WE X E (.Subscript (.Name x p1) e pos) Γ O Q :=
  w_dget hu (w_vn nd hi hd hx (h.mono fun y O2 ⟨ks, d, e1, e2, e4, e3, q⟩ => ⟨kvs, ks, d, .inr ⟨p, rfl, e4⟩, e1, e2, e3, q⟩) hv h1 h2) hs
theorem g_subN {x : Str} {p1 : Pos} (h : WE X E (.Subscript (.Name x p1) e pos) Γ O Q) : WE X E (.Subscript (.Name x p1) e pos) Γ O Q := h
end
end RW
namespace RW
open PySem PySem.Spec PyProof.Rows L2
/-- f(lambda: ..) within a comprehension's block, too -/
theorem w_lamcallX {X : Cx} {E : ExP} {Γ : Env'} {O : Own} {Q : PD} {x : Str} {k j : Nat} (kb : Nat) {F : SpL} {c PT : Addr} {params : Arguments} {body : Expr} {scope : Scope} {p lpos pos : Pos} (D : FdL X.prog X.w X.K X.mg X.base x k F) (hr : Room j X.A) (hj : k + 1 ≤ j) (hkb : kb + 2 ≤ j)
    (TB : LamX.TabB X.base X.mg c PT) (hcode : X.env.code = .ref c) (hO : O PT = some (.tab (X.env.qual ++ "<lambda>"))) (h : ∀ f, F (behOf X scope body Γ kb f) O Q (fun ex O'' => E ex Γ O''))
    (L : LamX.LamS X.env.scope scope) (hdef : defaultsOf params X.env = ([], []) := by rfl) (hbind : ∀ (q : Str) (cl : List (Str × Addr)) (pm cv ctv : Value), bindArgs (PySem.W.kla_fn "<lambda>" q params body scope cl pm cv ctv) ⟨[], []⟩ = pure [] := by intros; rfl)
    (hg : Gl X x := by rfl) (hdb : (x == ("__debug__" : Str)) = false := by decide) (he : starEach [.Lambda params body scope lpos] X.env = (false, eval (.Lambda params body scope lpos) X.env) :: starEach [] X.env := by rfl) : WE X E (.Call (.Name x p) [.Lambda params body scope lpos] [] pos) Γ O Q :=
  w_callLam (kb := kb) D hr hj hkb (wa_cons (w_lambda TB hcode hO L (fun f B hl => wa_nil ⟨f, B, rfl, hl, h f⟩) hdef) he) L hbind hg hdb he
end RW

/-! RW: own classes: made, their fields, their methods. -/
namespace RW
open PySem PySem.Spec PyProof.Rows L2
section
variable {X : Cx} {CX : CXT} {k : Nat} {f C : Addr} {fd : FuncData} {ps : List Str} {sp : Sp} {dvs : List V} {ds : List Value} {E : L2.St → XK} {x m : Str} {p pos apos : Pos} {e o : Expr} {es : List Expr} {ta : TE} {t : TA}
def tMakeS (C : Addr) (sp : Sp) (dvs : List V) (E : L2.St → XK) (t : TA) : TE := fun σ H Q => t σ H fun vs H1 => ∀ x dx, H1 x = none → H1 dx = none → dx ≠ x →
  sp (.ref x :: (vs ++ dvs)) (upd (upd H1 dx (.own x)) x (.ins C dx [])) (fun v H2 => v = .non ∧ Q (.ref x) H2) (E σ)
theorem run_makeS {pins : List (Addr × Obj)} {σ : L2.St} {H : Hp} {s : Shared} {Q : VK} {us : List Value} {vs : List V} (M : L2.Mk X.K C f) (F : FnOk X.prog X.w X.K X.mg X.base CX k f fd ps sp) (hr : Room (k + 1) X.A) (hb : Binds X.K fd ps ds) (hd : Vals dvs ds)
    (hx : PassesAt CX X σ (E σ)) (I : Inv X pins σ H s) (r : Vals vs us)
    (h : ∀ x dx, H x = none → H dx = none → dx ≠ x → sp (.ref x :: (vs ++ dvs)) (upd (upd H dx (.own x)) x (.ins C dx [])) (fun v H2 => v = .non ∧ Q (.ref x) H2) (E σ)) :
    wpAny (model X.prog X.w) X.A (call (.ref C) us) (EP X pins σ Q) X.xe s := by
  have hq := h (s.heap.objs.size + 1) s.heap.objs.size (I.hok.fresh (Nat.le_succ _)) (I.hok.fresh (Nat.le_refl _)) (Nat.ne_of_lt (Nat.lt_succ_self _))
  have I2 := Inv.made (C := C) I
  have r2 : Vals (V.ref (s.heap.objs.size + 1) :: (vs ++ dvs)) (Value.ref (s.heap.objs.size + 1) :: (us ++ ds)) := .cons rfl (r.append hd)
  have hl : (Value.ref (s.heap.objs.size + 1) :: us ++ ds).length = ps.length := by
    have e := r2.length
    rw [F.len _ _ _ _ hq] at e
    exact e.symm
  refine wpAny_call (make_map (f := f) I.kIn M.makes M.init (beq_iff_eq.mp M.fn) (codeAny_mono (F.run _ X.stack _ _ ⟨Value.ref (s.heap.objs.size + 1) :: us, []⟩ (Value.ref (s.heap.objs.size + 1) :: (us ++ ds)) _ _ (E σ) (hr.make C us [])
    (I2.env0.make C us []) (hb _ (Value.ref (s.heap.objs.size + 1) :: us) I2.kIn hl) r2 hq) fun r s' hq' => ?_))
  cases r with
  | error e => exact hx pins _ _ e s' I2 hq'
  | ok fl =>
    cases fl with
    | ret u =>
      obtain ⟨v, H', I3, rv, ev, q3⟩ := I2.after hq'
      subst ev
      exact ⟨rv, ⟨V.ref (s.heap.objs.size + 1), H', I3, rfl, q3⟩⟩
    | next => exact False.elim hq'
    | brk => exact False.elim hq'
    | cont => exact False.elim hq'
theorem pe_makeS (M : L2.Mk X.K C f) (F : FnOk X.prog X.w X.K X.mg X.base CX k f fd ps sp) (hr : Room (k + 1) X.A) (hg : Gl X x) (hm : X.mg x = some (.ref C)) (hb : Binds X.K fd ps ds) (hd : Vals dvs ds) (hx : ∀ σ, PassesAt CX X σ (E σ))
    (ha : PA X (e :: es) t) (hdb : (x == ("__debug__" : Str)) = false := by decide) (he : starEach (e :: es) X.env = (false, eval e X.env) :: starEach es X.env := by rfl) (hpl : (backTo pos (starEach es X.env)).any (·.1) = false := by rfl) :
    PE X (.Call (.Name x p) (e :: es) [] pos) (tMakeS C sp dvs E t) := by
  refine ⟨fun pins s σ H Q I h => ?_⟩
  refine wpAny_Call_Name_kw (ld_glob I hg hm ?_ hdb)
  refine PySem.W.callWith_K (h₀ := X.base) I.ok.mod.kin M.kp (thn (ha.run pos pins s σ H _ I h) fun us s1 ⟨vs, H1, I1, r, q⟩ => ⟨I1.kIn, ?_⟩) he hpl
  exact run_makeS M F hr hb hd (hx σ) I1 r q
theorem pe_makeS0 (M : L2.Mk X.K C f) (F : FnOk X.prog X.w X.K X.mg X.base CX k f fd ps sp) (hr : Room (k + 1) X.A) (hg : Gl X x) (hm : X.mg x = some (.ref C)) (hb : Binds X.K fd ps ds) (hd : Vals dvs ds) (hx : ∀ σ, PassesAt CX X σ (E σ))
    (hdb : (x == ("__debug__" : Str)) = false := by decide) : PE X (.Call (.Name x p) [] [] pos) (tMakeS C sp dvs E tNil) := by
  refine ⟨fun pins s σ H Q I h => ?_⟩
  refine wpAny_Call_Name_kw (ld_glob I hg hm ?_ hdb)
  exact PySem.W.callWith_K0 I.kIn M.kp (run_makeS (us := []) M F hr hb hd (hx σ) I .nil h)
/-! o.m(e, ..), with a receiver of its own reading at the call -/
def tMethS' (C : Addr) (m : Str) (sp : Sp) (dvs : List V) (E : L2.St → XK) (ta : TE) (t : TA) : TE := fun σ H Q => ta σ H fun x H1 => ∃ a dx fs, x = .ref a ∧ H1 a = some (.ins C dx fs) ∧ fs.lookup m = none ∧
  t σ H1 fun vs H2 => sp (x :: (vs ++ dvs)) H2 Q (E σ)
theorem pe_methS' {pl : Sem Bool} (he : PE X o ta) (c : Cls X.K C) (hm : Meth X.K C m f) (F : FnOk X.prog X.w X.K X.mg X.base CX k f fd ps sp) (hr : Room k X.A) (hb : Binds X.K fd ps ds) (hd : Vals dvs ds) (hx : ∀ σ, PassesAt CX X σ (E σ)) (ha : PA X (e :: es) t)
    (hst : starEach (e :: es) X.env = (false, eval e X.env) :: starEach es X.env := by rfl) (hpl : (backTo pos (starEach es X.env)).any (·.1) = false := by rfl)
    (ht : eval (.Call (.Attribute o m apos) (e :: es) [] pos) X.env = (do
      let ov ← eval o X.env
      standAt apos.atName
      let (f, first) ← holding [ov] (getMethod ov m pl)
      callWith pos f first (backTo pos (starEach (e :: es) X.env)) (backToKw pos (keywordEach [] X.env))) := by rfl) :
    PE X (.Call (.Attribute o m apos) (e :: es) [] pos) (tMethS' C m sp dvs E ta t) := by
  refine ⟨fun pins s σ H Q I h => ?_⟩
  refine PySem.W.methodCall_KW (pl := pl) (thn (he.run pins s σ H _ I h) fun u s1 ⟨x, H1, I1, rx, a, dx, fs, ex, ea, l, q⟩ => ?_) ht
  subst ex
  obtain rfl : u = Value.ref a := rx
  refine getmeth_ok I1 ea c hm l ?_
  refine PySem.W.callWith_K (first := [.ref a]) (h₀ := X.base) I.ok.mod.kin hm.kp (thn (ha.run pos pins s1 σ H1 _ I1 q) fun us s2 ⟨vs, H2, I2, r, q2⟩ => ⟨I2.kIn, ?_⟩) hst hpl
  exact run_fnSD (us := .ref a :: us) (vs := .ref a :: vs) F hr hb hd (hx σ) I2 (.cons rfl r) q2
theorem pe_methS0 {pl : Sem Bool} (he : PE X o ta) (c : Cls X.K C) (hm : Meth X.K C m f) (F : FnOk X.prog X.w X.K X.mg X.base CX k f fd ps sp) (hr : Room k X.A) (hb : Binds X.K fd ps ds) (hd : Vals dvs ds) (hx : ∀ σ, PassesAt CX X σ (E σ))
    (ht : eval (.Call (.Attribute o m apos) [] [] pos) X.env = (do
      let ov ← eval o X.env
      standAt apos.atName
      let (f, first) ← holding [ov] (getMethod ov m pl)
      callWith pos f first (backTo pos (starEach [] X.env)) (backToKw pos (keywordEach [] X.env))) := by rfl) :
    PE X (.Call (.Attribute o m apos) [] [] pos) (tMethS' C m sp dvs E ta tNil) := by
  refine ⟨fun pins s σ H Q I h => ?_⟩
  refine PySem.W.methodCall_KW (pl := pl) (thn (he.run pins s σ H _ I h) fun u s1 ⟨x, H1, I1, rx, a, dx, fs, ex, ea, l, q⟩ => ?_) ht
  subst ex
  obtain rfl : u = Value.ref a := rx
  refine getmeth_ok I1 ea c hm l ?_
  exact PySem.W.callWith_K0 (first := [.ref a]) I1.kIn hm.kp (run_fnSD (us := [.ref a]) (vs := [.ref a]) F hr hb hd (hx σ) I1 (.cons rfl .nil) q)
end
/-! ### instances -/
def putFD (f : Str) (d : D) : List (Str × D) → List (Str × D)
  | [] => [(f, d)]
  | (g, x) :: r => if g = f then (g, d) :: r else (g, x) :: putFD f d r
/-- an instance, fixed or owned -/
def IsI (O : Own) (x : D) (C : Addr) (fs : List (Str × D)) : Prop := x = .ins C fs ∨ ∃ a, x = .obj a ∧ O a = some (.ins C fs)
section
variable {K : PySem.W.Frag} {H Hd : Hp} {O : Own}
theorem RepF.look {f : Str} : ∀ {vs : List (Str × V)} {ds : List (Str × D)}, RepF K H vs ds → (∀ d, ds.lookup f = some d → ∃ v, vs.lookup f = some v ∧ Rep K H v d) ∧ (ds.lookup f = none → vs.lookup f = none)
  | _, _, .nil => ⟨fun d h => (by cases h), fun _ => rfl⟩
  | _, _, .cons (f := g) (v := v) (d := d0) r t => by
    obtain ⟨h1, h2⟩ := RepF.look (f := f) t
    cases hb : f == g with
    | true =>
      simp only [List.lookup, hb]
      exact ⟨fun d h => ⟨v, rfl, by cases h; exact r⟩, fun h => nomatch h⟩
    | false =>
      simp only [List.lookup, hb]
      exact ⟨h1, h2⟩
theorem RepF.put {f : Str} {v : V} {d : D} (r : Rep K H v d) : ∀ {vs : List (Str × V)} {ds : List (Str × D)}, RepF K H vs ds → RepF K H (putF f v vs) (putFD f d ds)
  | _, _, .nil => .cons r .nil
  | _, _, .cons (f := g) r0 t => by
    unfold putF putFD
    by_cases h : g = f
    · rw [if_pos h, if_pos h]
      exact .cons r t
    · rw [if_neg h, if_neg h]
      exact .cons r0 (RepF.put r t)
theorem RepF.length : ∀ {vs : List (Str × V)} {ds : List (Str × D)}, RepF K H vs ds → vs.length = ds.length
  | _, _, .nil => rfl
  | _, _, .cons _ t => by simp [RepF.length t]
theorem AbsH.readI (h : AbsH K H Hd O) {v : V} {x : D} {C : Addr} {fs : List (Str × D)} (r : Rep K Hd v x) (e : IsI O x C fs) : ∃ a dx vs, v = .ref a ∧ H a = some (.ins C dx vs) ∧ RepF K Hd vs fs := by
  rcases e with rfl | ⟨a, rfl, e⟩
  · cases r with | ins g r => exact ⟨_, _, _, rfl, h.same _ _ g, r⟩
  · cases r
    obtain ⟨_, dx, vs, h1, h2⟩ := h.own a _ e
    exact ⟨a, dx, vs, rfl, h1, h2⟩
end
/-- a class: its fields -/
structure ClsD (K : PySem.W.Frag) (C : Addr) (fs : List Str) : Prop where
  cl : Cls K C
  no : ∀ f ∈ fs, NoAttr K C f
/-- a class's making by n written arguments -/
structure MkD (P : Program) (w : World) (K : PySem.W.Frag) (mg : Str → Option Value) (base : Heap) (x : Str) (C : Addr) (k : Nat) (S : SpD) (dv : List D) : Prop where
  ex : ∃ (f : Addr) (fd : FuncData) (ps : List Str) (ds : List Value) (dvs : List V), L2.Mk K C f ∧ FnOk P w K mg base (L2.CX P w) k f fd ps (spD K S) ∧ mg x = some (.ref C) ∧ Binds K fd ps ds ∧ Vals dvs ds ∧ ∀ Hd, Reps K Hd dvs dv
/-- a method -/
structure MetD (P : Program) (w : World) (K : PySem.W.Frag) (mg : Str → Option Value) (base : Heap) (C : Addr) (m : Str) (k : Nat) (S : SpD) (dv : List D) : Prop where
  ex : ∃ (f : Addr) (fd : FuncData) (ps : List Str) (ds : List Value) (dvs : List V), Cls K C ∧ Meth K C m f ∧ FnOk P w K mg base (L2.CX P w) k f fd ps (spD K S) ∧ Binds K fd ps ds ∧ Vals dvs ds ∧ ∀ Hd, Reps K Hd dvs dv
section
variable {X : Cx} {E : ExP} {Γ : Env'} {O : Own} {e o value : Expr} {es : List Expr} {Q : PD} {pos pos' apos p : Pos} {De : EndsD} {C : Addr} {k j : Nat} {S : SpD} {dv : List D} {m x f : Str}
/-- e.f -/
theorem w_fld {fds : List Str} (hC : ClsD X.K C fds) (h : WE X E e Γ O fun x O1 => ∃ fs d, IsI O1 x C fs ∧ fs.lookup f = some d ∧ Q d O1) (hf : f ∈ fds := by decide) (hb : attributeBase e f X.env (eval e X.env) = eval e X.env := by rfl) : WE X E (.Attribute e f pos) Γ O Q := .mk fun W σ H Hd q =>
  wE_of (pe_fld peW hb) (h.use q fun v H1 x O1 Hd1 s1 p1 r1 ⟨fs, d, hi, hl, q1⟩ => by
    obtain ⟨a, dx, vs, rfl, ha, rf⟩ := p1.h.readI r1 hi
    obtain ⟨v, hv, rv⟩ := rf.look.1 d hl
    exact ⟨a, C, dx, vs, v, rfl, ha, hC.cl, hC.no f hf, hv, .lift s1 (.of p1.h rv q1)⟩)
/-- o.f = value, o owned -/
theorem ws_fld {fds : List Str} (hC : ClsD X.K C fds) (h : WE X E value Γ O fun d O1 => WE X E o Γ O1 fun x O2 => ∃ a fs, x = .obj a ∧ O2 a = some (.ins C fs) ∧ fs.length < 1000 ∧ De.nx Γ (updO O2 a (.ins C (putFD f d fs)))) (hf : f ∈ fds := by decide)
    (hs : swapsWith value (some (.Attribute o f pos')) pos.line X.env = pure false := by rfl) : WS X E (.Assign [.Attribute o f pos'] value pos) Γ O De := .mk fun W σ H Hd q =>
  wS_of (ps_fld peW peW hs) (h.use q fun v H1 d O1 Hd1 s1 p1 r1 q1 => q1.use p1 fun u H2 x O2 Hd2 s2 p2 r2 ⟨a, fs, e1, hO, hlen, q2⟩ => by
    subst e1
    cases r2
    obtain ⟨n, dx, vs, h1, h2⟩ := p2.h.own a _ hO
    refine ⟨a, C, dx, vs, rfl, h1, hC.cl, hC.no f hf, by rw [h2.length]; exact hlen, Γ, _, Hd2, s1.trans s2, p2.g, p2.h.put (c := .ins C (putFD f d fs)) n ⟨dx, _, upd_same, h2.put (r1.mono s2)⟩, q2⟩)
theorem own_put {K : PySem.W.Frag} {H Hd : Hp} {O : Own} {a dx C : Addr} (h : AbsH K H Hd O) (n : H a = none) (nd : H dx = none) (ne : dx ≠ a) : AbsH K (upd (upd H dx (.own a)) a (.ins C dx [])) Hd (updO O a (.ins C [])) := by
  have h1 := h.aside (o := HO.own a) nd
  exact h1.put (c := .ins C []) (h.free n) ⟨dx, [], upd_same, .nil⟩
/-- C(e, ..) -/
theorem w_make (M : MkD X.prog X.w X.K X.mg X.base x C k S dv) (hr : Room j X.A) (hkj : k + 1 ≤ j) (h : WA X E (e :: es) Γ O fun ds O1 => ∀ a, O1 a = none → S (.obj a :: (ds ++ dv)) (updO O1 a (.ins C [])) (fun v O2 => v = .non ∧ Q (.obj a) O2) (fun ex O'' => E ex Γ O''))
    (hg : Gl X x := by rfl) (hdb : (x == ("__debug__" : Str)) = false := by decide) (he : starEach (e :: es) X.env = (false, eval e X.env) :: starEach es X.env := by rfl) (hpl : (backTo pos (starEach es X.env)).any (·.1) = false := by rfl) :
    WE X E (.Call (.Name x p) (e :: es) [] pos) Γ O Q := .mk fun W σ H Hd q => by
  obtain ⟨f, fd, ps, ds, dvs, M1, F1, F2, F4, F5, F6⟩ := M.ex
  exact wE_of (pe_makeS M1 F1 (hr.mono hkj) hg F2 F4 F5 (fun σ => passAt q.tk σ) paW hdb he hpl) (h.use q fun vs H1 ds O1 Hd1 s1 p1 r1 q1 => fun a dx na nd ne =>
    ⟨.obj a :: (ds ++ dv), Hd1, updO O1 a (.ins C []), _, _, own_put p1.h na nd ne, .cons (.obj a) (r1.append (F6 Hd1)), q1 a (p1.h.freeO na), fun v H' z => by
      obtain ⟨d, O', Hd', sm, ab, rv, ed, qd⟩ := z
      subst ed
      cases rv
      exact ⟨rfl, .obj a, O', Hd', s1.trans sm, ab, .obj a, qd⟩, fun cls d H' Hd' e O' s' ab er ee => p1.ex cls d σ H' Hd' e Γ O' s' (p1.g.mono s') ab er ee⟩)
theorem w_make0 (M : MkD X.prog X.w X.K X.mg X.base x C k S dv) (hr : Room j X.A) (hkj : k + 1 ≤ j) (h : ∀ a, O a = none → S (.obj a :: dv) (updO O a (.ins C [])) (fun v O2 => v = .non ∧ Q (.obj a) O2) (fun ex O'' => E ex Γ O''))
    (hg : Gl X x := by rfl) (hdb : (x == ("__debug__" : Str)) = false := by decide) : WE X E (.Call (.Name x p) [] [] pos) Γ O Q := .mk fun W σ H Hd q => by
  obtain ⟨f, fd, ps, ds, dvs, M1, F1, F2, F4, F5, F6⟩ := M.ex
  exact wE_of (pe_makeS0 M1 F1 (hr.mono hkj) hg F2 F4 F5 (fun σ => passAt q.tk σ) hdb) (fun a dx na nd ne =>
    ⟨.obj a :: dv, Hd, updO O a (.ins C []), _, _, own_put q.h na nd ne, .cons (.obj a) (F6 Hd), h a (q.h.freeO na), fun v H' z => by
      obtain ⟨d, O', Hd', sm, ab, rv, ed, qd⟩ := z
      subst ed
      cases rv
      exact ⟨rfl, .obj a, O', Hd', sm, ab, .obj a, qd⟩, fun cls d H' Hd' e O' s' ab er ee => q.ex cls d σ H' Hd' e Γ O' s' (q.g.mono s') ab er ee⟩)
/-- o.m(e, ..) -/
theorem w_meth (M : MetD X.prog X.w X.K X.mg X.base C m k S dv) (hr : Room j X.A) (hkj : k ≤ j) (h : WE X E o Γ O fun x O1 => ∃ fs, IsI O1 x C fs ∧ fs.lookup m = none ∧ WA X E (e :: es) Γ O1 fun ds O2 => S (x :: (ds ++ dv)) O2 Q (fun ex O'' => E ex Γ O'')) {pl : Sem Bool}
    (hst : starEach (e :: es) X.env = (false, eval e X.env) :: starEach es X.env := by rfl) (hpl : (backTo pos (starEach es X.env)).any (·.1) = false := by rfl)
    (ht : eval (.Call (.Attribute o m apos) (e :: es) [] pos) X.env = (do
      let ov ← eval o X.env
      standAt apos.atName
      let (f, first) ← holding [ov] (getMethod ov m pl)
      callWith pos f first (backTo pos (starEach (e :: es) X.env)) (backToKw pos (keywordEach [] X.env))) := by rfl) : WE X E (.Call (.Attribute o m apos) (e :: es) [] pos) Γ O Q := .mk fun W σ H Hd q => by
  obtain ⟨f, fd, ps, ds, dvs, c, hm, F1, F4, F5, F6⟩ := M.ex
  exact wE_of (pe_methS' (pl := pl) peW c hm F1 (hr.mono hkj) F4 F5 (fun σ => passAt q.tk σ) paW hst hpl ht) (h.use q fun v H1 x O1 Hd1 s1 p1 r1 ⟨fs, hi, hl, q1⟩ => by
    obtain ⟨a, dx, vs, rfl, ha, rf⟩ := p1.h.readI r1 hi
    refine ⟨a, dx, vs, rfl, ha, rf.look.2 hl, q1.use p1 fun us H2 ds O2 Hd2 s2 p2 r2 q2 => ?_⟩
    exact ⟨x :: (ds ++ dv), Hd2, O2, Q, _, p2.h, .cons (r1.mono s2) (r2.append (F6 Hd2)), q2, fun v H' z => z.lift (s1.trans s2), fun cls d H' Hd' e O' s' ab er ee => p2.ex cls d σ H' Hd' e Γ O' s' (p2.g.mono s') ab er ee⟩)
theorem w_meth0 (M : MetD X.prog X.w X.K X.mg X.base C m k S dv) (hr : Room j X.A) (hkj : k ≤ j) (h : WE X E o Γ O fun x O1 => ∃ fs, IsI O1 x C fs ∧ fs.lookup m = none ∧ S (x :: dv) O1 Q (fun ex O'' => E ex Γ O'')) {pl : Sem Bool}
    (ht : eval (.Call (.Attribute o m apos) [] [] pos) X.env = (do
      let ov ← eval o X.env
      standAt apos.atName
      let (f, first) ← holding [ov] (getMethod ov m pl)
      callWith pos f first (backTo pos (starEach [] X.env)) (backToKw pos (keywordEach [] X.env))) := by rfl) : WE X E (.Call (.Attribute o m apos) [] [] pos) Γ O Q := .mk fun W σ H Hd q => by
  obtain ⟨f, fd, ps, ds, dvs, c, hm, F1, F4, F5, F6⟩ := M.ex
  exact wE_of (pe_methS0 (pl := pl) peW c hm F1 (hr.mono hkj) F4 F5 (fun σ => passAt q.tk σ) ht) (h.use q fun v H1 x O1 Hd1 s1 p1 r1 ⟨fs, hi, hl, q1⟩ => by
    obtain ⟨a, dx, vs, rfl, ha, rf⟩ := p1.h.readI r1 hi
    refine ⟨a, dx, vs, rfl, ha, rf.look.2 hl, ?_⟩
    exact ⟨x :: dv, Hd1, O1, Q, _, p1.h, .cons r1 (F6 Hd1), q1, fun v H' z => z.lift s1, fun cls d H' Hd' e O' s' ab er ee => p1.ex cls d σ H' Hd' e Γ O' s' (p1.g.mono s') ab er ee⟩)
end
end RW
namespace RW
open PySem PySem.Spec PyProof.Rows L2
/-- a module's constant of any form -/
def GlobD (K : PySem.W.Frag) (mg : Str → Option Value) (x : Str) (d : D) : Prop := ∃ (v : V) (u : Value), mg x = some u ∧ RelV v u ∧ ∀ Hd, Rep K Hd v d
theorem w_globD {X : Cx} {E : ExP} {Γ : Env'} {O : Own} {Q : PD} {x : Str} {d : D} {pos : Pos} (g : GlobD X.K X.mg x d) (q : Q d O) (hg : Gl X x := by rfl) (hd : (x == ("__debug__" : Str)) = false := by decide) : WE X E (.Name x pos) Γ O Q := by
  obtain ⟨v, u, hm, r, rd⟩ := g
  exact w_glob hm r rd q hg hd
theorem globD_int2 {K : PySem.W.Frag} {mg : Str → Option Value} {x : Str} {T : Addr} {i j : Int} {t1 t2 : Tok} {n : Nat} {sl : Array (Option Value)} (hm : mg x = some (.ref T)) (hT : K.lookup T = some ⟨.type "tuple", none, .seq #[.int i t1, .int j t2] n, sl⟩) : GlobD K mg x (.tup [.int i, .int j]) :=
  ⟨.ref T, .ref T, hm, rfl, fun Hd => .tup (xs := [.int i, .int j]) (.inr ⟨_, _, n, hT, rfl, rfl, Nat.le_trans (m := 2) (Nat.le_refl _) (by decide), .cons ⟨t1, rfl⟩ (.cons ⟨t2, rfl⟩ .nil), rfl⟩) (.cons (.int i) (.cons (.int j) .nil))⟩
end RW
namespace RW
open PySem PySem.Spec PyProof.Rows L2
section
variable {P : Program} {w : World} {K : PySem.W.Frag} {mg : Str → Option Value} {base : Heap}
/-- fd_ok of a def with defaults -/
theorem fd_okD {x qual : Str} {params : Arguments} {body : List Stmt} {scope : Scope} {dvs : List V} {kws : List (Str × V)} {f : Addr} {fd : FuncData} {N ps : List Str} {k : Nat} {S : SpD} (F : FunD K x qual params body scope dvs kws f fd) (Sc : FnScope N ps scope) (hl : ∀ ds O Q E, S ds O Q E → ds.length = ps.length)
    (hbody : ∀ (cdv : Value) (A : Around) (outer : List Env) (s : Shared) (H : Hp) (E0 : XK), Room k (A.deeper (envOfC qual scope s.heap.objs.size f cdv)) → ∀ ds O Q E, S ds O Q E →
      WSs (cxOf (L2.CX P w) P w K mg base N qual scope f cdv A outer s H E0) (fun e _ O' => E e O') body (startD N ds) O { nx := fun _ O' => Q .non O', rt := Q }) :
    FnOk P w K mg base (L2.CX P w) (k + 1) f fd ps (spD K S) :=
  F.ok Sc (fun vs H Q E ⟨ds, Hd, O, Qd, Ed, a, r, q, _⟩ => by rw [r.length]; exact hl _ _ _ _ q) fun cdv A outer s H vs Q E hr ⟨ds, Hd, O, Qd, Ed, a, r, q, k1, k2⟩ =>
    ⟨_, pssW, wSs_mono ((hbody cdv A outer s H E hr ds O Qd Ed q).run (fun cls d _ H => E cls d H) (L2.start N vs) H Hd ⟨takes_of rfl rfl rfl rfl, start_abs r, a, fun cls d σ' H' Hd' e Γ' O' s' g' a' er ee => k2 cls d H' Hd' e O' s' a' er ee⟩)
      ⟨fun σ' H' ⟨Γ', O', Hd', s', g', a', z⟩ => k1 _ _ ⟨_, O', Hd', s', a', .non, z⟩, fun v H' z => k1 _ _ z, fun _ _ ⟨_, _, _, _, _, _, z⟩ => z.elim, fun _ _ ⟨_, _, _, _, _, _, z⟩ => z.elim⟩⟩
end
end RW

/-! RW: the lambda of RwY whose parameter has the name of a slot of the frame around: that slot is not seen within. -/
namespace RW
open PySem PySem.Spec PyProof.Rows L2
theorem get_wipe {α : Type} {xs : List (Option α)} {i j : Nat} {v : α} (h : (xs.set j none)[i]? = some (some v)) : i ≠ j ∧ xs[i]? = some (some v) := by
  by_cases e : i = j
  · subst e
    by_cases hl : i < xs.length
    · rw [List.getElem?_set_self hl] at h
      cases h
    · rw [List.getElem?_eq_none (by rw [List.length_set]; omega)] at h
      cases h
  · rw [List.getElem?_set_ne (Ne.symm e)] at h
    exact ⟨e, h⟩
theorem AbsG.hide {K : PySem.W.Frag} {Hd : Hp} {σ : L2.St} {Γ : Env'} (j : Nat) (g : AbsG K Hd σ Γ) : AbsG K Hd (σ.set j none) (Γ.set j none) := by
  refine ⟨by rw [List.length_set, List.length_set]; exact g.1, fun i d h => ?_⟩
  obtain ⟨ne, h⟩ := get_wipe h
  rw [List.getElem?_set_ne (Ne.symm ne)]
  exact g.2 i d h
/-- no name but its parameter of its own, which the frame has not; captured ones and globals -/
structure LamSW (jw : Nat) (N : List Str) (sc scope : Scope) (a : Str) : Prop where
  kind : scope.kind = .function
  co : scope.isCoroutine = false
  gen : scope.isGenerator = false
  own : ∀ y ∈ scope.names, y.2 ≠ .cell ∧ (y.2 = .local → ∀ i, N[i]? = some y.1 → i = jw)
  par : scope.names.lookup a = some .local
  free : ∀ y ∈ scope.names, y.2 = .free → sc.names.lookup y.1 = some .cell ∨ sc.names.lookup y.1 = some .free
def lamSWB (jw : Nat) (N : List Str) (sc scope : Scope) (a : Str) : Bool :=
  decide (scope.kind = .function) && !scope.isCoroutine && !scope.isGenerator && (scope.names.all fun y => !decide (y.2 = .cell) && (!decide (y.2 = .local) || (List.range N.length).all fun i => decide (i = jw) || !decide (N[i]? = some y.1)) && (!decide (y.2 = .free) || decide (sc.names.lookup y.1 = some .cell) || decide (sc.names.lookup y.1 = some .free))) && decide (scope.names.lookup a = some .local)
theorem lamSW_by {jw : Nat} {N : List Str} {sc scope : Scope} {a : Str} (h : lamSWB jw N sc scope a = true) : LamSW jw N sc scope a := by
  unfold lamSWB at h
  simp only [Bool.and_eq_true, Bool.or_eq_true, Bool.not_eq_true', decide_eq_true_eq, decide_eq_false_iff_not, List.all_eq_true] at h
  obtain ⟨⟨⟨⟨h1, h2⟩, h3⟩, h4⟩, h5⟩ := h
  refine ⟨h1, h2, h3, fun y hy => ⟨(h4 y hy).1.1, fun e i hi => ?_⟩, h5, fun y hy e => ?_⟩
  · rcases (h4 y hy).1.2 with z | z
    · exact absurd e z
    · rcases z i (List.mem_range.mpr (List.getElem?_eq_some_iff.mp hi).1) with z | z
      · exact z
      · exact absurd hi z
  · rcases (h4 y hy).2 with (z | z) | z
    · exact absurd e z
    · exact .inl z
    · exact .inr z
theorem LamSW.has {jw : Nat} {X : Cx} {N : List Str} {scope : Scope} {a : Str} (L : LamSW jw N X.env.scope scope a) (ok : X.Ok) : ∀ y ∈ scope.names, y.2 = .free → ∃ c, X.env.cells.lookup y.1 = some c := fun y hy e => by
  rcases L.free y hy e with k | k
  · exact ok.has _ (.inl k)
  · exact ok.has _ (.inr k)
section
theorem w_lambdaW {X : Cx} {jw : Nat} {E : ExP} {Γ : Env'} {O : Own} {Q : PD} {c P : Addr} {params : Arguments} {body : Expr} {scope : Scope} {pos : Pos} {z : Int} {a : Str} {de : Expr} {jz : Nat} {pz : Pos} (TB : LamX.TabB X.base X.mg c P) (hcode : X.env.code = .ref c) (hO : O P = some (.tab (X.env.qual ++ "<lambda>"))) (L : LamSW jw X.N X.env.scope scope a)
    (h : ∀ f B, LamOfD X B f z params body scope → Q (.lam f B) O) (hde : de = .Constant (.int z) jz pz) (hdef : params.defaults = [de] ∧ params.kw_defaults = []) : WE X E (.Lambda params body scope pos) Γ O Q := .mk fun W σ H Hd p pins s I => by
  obtain ⟨_, ps, hP, ht, hc⟩ := p.h.own P _ hO
  refine lam_newD I TB hcode hP ht hc hde hdef (L.has I.ok) fun T t HT nT eT f c' doc pm ctv H1 s' I1 k => ?_
  subst eT
  have sn := same_new (o := LamO T (tupOne z t)) (p.h.free nT)
  have h2 := p.h.lay (o := LamO T (tupOne z t)) nT
  have hc2 : ∀ p' cv, codeAmong p' ps.toList = some cv → ∃ c1, cv = .ref c1 ∧ (upd Hd T (LamO T (tupOne z t))) c1 = some (LamX.CodeO c1 (X.env.qual ++ "<lambda>")) := fun p' cv e => by
    obtain ⟨c1, e1, e2⟩ := hc p' cv e
    exact ⟨c1, e1, sn _ _ e2⟩
  have hPT : (upd H T (LamO T (tupOne z t))) P = some (.tbl ps) := by
    rw [upd_ne (fun e => by rw [e] at hP; rw [hP] at nT; cases nT)]
    exact hP
  have k2 : LamHp (fun c => (upd Hd T (LamO T (tupOne z t))) c = some (LamX.CodeO c (X.env.qual ++ "<lambda>"))) (upd H T (LamO T (tupOne z t))) P ps (X.env.qual ++ "<lambda>") f c' (lamObjD X params body scope doc pm c' ctv T) H1 := by
    rcases k with ⟨k1, k2, k3⟩ | k
    · exact .inl ⟨sn _ _ k1, k2, k3⟩
    · exact .inr k
  obtain ⟨Hd1, s1, h1, e1, e2⟩ := lamHp_abs h2 hO hPT hc2 k2
  exact ⟨.ref f, H1, I1, rfl, .lift (sn.trans s1) (.of h1 (.lam (Same.refl _)) (h f Hd1 ⟨T, t, c', doc, pm, ctv, e1, e2, s1 _ _ upd_same⟩))⟩
end
/-! ### its call -/
section
variable {X : Cx} {pins : List (Addr × Obj)} {σ : L2.St} {H HZ : Hp} {s s1 : Shared}
/-- the frame of such a lambda, just entered -/
theorem lam_startW {jw : Nat} {A : Around} {outer : List Env} {E : XK} {scope : Scope} {a : Str} {f c' : Addr} {hn : Heap} {k : Nat} {m0 : Str → Option Value} (I : Inv X pins σ H s) (L : LamSW jw X.N X.env.scope scope a) (z0 : Env0 X.prog X.w X.K X.mg X.base A outer s1 HZ) (calm : A.handled = none)
    (un : Un (frs X.stack) [] H HZ s.heap s1.heap) (fresh : hn.Ns s1.heap.objs.size m0) (keep : ∀ b o, s1.heap.get? b = some o → hn.get? b = some o) :
    Inv (LamX.lamCx X A outer s1 HZ E scope f c') [] (σ.set jw none) HZ { s1 with heap := hn, toks := k } := by
  have caps := L.has I.ok
  have mine : ∀ {y : Str} {q : Addr}, (cloFrom X.env.cells scope.names []).lookup y = some q → X.env.cells.lookup y = some q := fun e => NdefX.clo_cm caps e
  have stays : ∀ {q : Addr} {v : Option Value}, H q = none → s.heap.IsCell q v → hn.IsCell q v := fun nq ⟨ob, e1, e2⟩ =>
    let ⟨sl, e3⟩ := un.any e1 nq (by simp)
    ⟨_, keep _ _ e3, e2⟩
  have none_ : ∀ b : Addr, b ∈ ([] : List Addr) → False := fun b hb => nomatch hb
  exact
    { ok :=
        { mod := z0.mod
          kind := L.kind
          glob := rfl
          blt := rfl
          above := Nat.le_refl _
          inj := fun x y q e1 e2 => I.ok.inj x y q (mine e1) (mine e2)
          has := fun y hy => by
            rcases (show scope.names.lookup y = some .cell ∨ scope.names.lookup y = some .free from hy) with e | e
            · exact ((L.own _ (PySem.mem_of_lookup e)).1 rfl).elim
            · obtain ⟨q, hq⟩ := caps _ (PySem.mem_of_lookup e) rfl
              exact ⟨q, NdefX.clo_has caps (PySem.mem_of_lookup e) hq⟩
          cab := fun _ _ e _ => nomatch (show false = true from e)
          hd := fun _ => calm
          frames := Around.frames_deeper z0.frames
          stk := .inr ⟨rfl, rfl⟩
          exf := fun b hb => (none_ b hb).elim
          bs := z0.bs
          bsz := z0.bsz
          noex := fun b _ _ hb => none_ b hb
          exfs := fun b hb => (none_ b hb).elim
          funs := z0.funs
          frf := z0.frf }
      os := rfl
      bare := z0.bare
      base := Un.kept keep
      loc := ⟨_, fresh, fun i y v hi hv vis => by
        rcases (show scope.names.lookup y = some .local ∨ scope.names.lookup y = some .cell ∨ scope.names.lookup y = some .free from vis) with e | e | e
        · exact ((get_wipe hv).1 ((L.own _ (PySem.mem_of_lookup e)).2 rfl i hi)).elim
        · exact ((L.own _ (PySem.mem_of_lookup e)).1 rfl).elim
        · obtain ⟨m, _, look⟩ := I.loc
          have out := L.free _ (PySem.mem_of_lookup e) rfl
          obtain ⟨u, ru, lk⟩ := look i y v hi (get_wipe hv).2 (out.elim (fun z => .inr (.inl z)) fun z => .inr (.inr z))
          obtain ⟨q, hq⟩ := caps _ (PySem.mem_of_lookup e) rfl
          refine ⟨u, ru, .inr ⟨.inr e, q, NdefX.clo_has caps (PySem.mem_of_lookup e) hq, ?_⟩⟩
          rcases lk with ⟨loc, _⟩ | ⟨_, q2, hq2, cell⟩
          · have loc : X.env.scope.names.lookup y = some .local := loc
            rcases out with z | z
            · cases loc.symm.trans z
            · cases loc.symm.trans z
          · obtain rfl : q2 = q := Option.some.inj (hq2.symm.trans hq)
            exact stays (I.freeC y _ hq) cell⟩
      cell := fun y q e => (I.cell y q (mine e)).elim fun v hv => ⟨v, stays (I.freeC y q (mine e)) hv⟩
      free := z0.hok.fresh (Nat.le_refl _)
      freeC := fun y q e => by
        obtain ⟨v, ob, e1, _⟩ := I.cell y q (mine e)
        exact un.free q ob e1 (I.freeC y q (mine e)) (by simp)
      pin := fun p hp => nomatch (show p ∈ ([] : List (Addr × Obj)) ++ [] from hp)
      hok := z0.hok.kept keep
      len := by rw [List.length_set]; exact I.len }
/-- a(), in the def that got such a lambda -/
theorem lam_actW {jw : Nat} {CXg : CXT} {Eg : XK} {Ng : List Str} {qg : Str} {sg : Scope} {g : Addr} {cdg : Value} {pn : List (Addr × Obj)} {xe : Value → Shared → Prop} {E : L2.St → XK} {f c' T : Addr} {tz : Tok} {z : Int} {doc pm ctv : Value} {params : Arguments} {body : Expr} {scope : Scope} {k i : Nat} {a b : Str} {tb : L2.St → TE} {p1 p2 : Pos}
    (I : Inv X pins σ H s) (L : LamSW jw X.N X.env.scope scope b)
    (hbind : ∃ kk, bindArgs (fnD (X.env.qual ++ "<lambda>") params body scope (cloFrom X.env.cells scope.names []) doc pm (.ref c') ctv (.ref T)) ⟨[], []⟩ = seqItems? (.ref T) >>= kk ∧ ∀ v, kk (some #[v]) = pure [(b, v)])
    (hx : ∀ τ, PassesAt (L2.CX X.prog X.w) (gotCx X s H CXg Eg Ng qg sg g cdg pn xe) τ (E τ)) (hr : Room (k + 1) (X.A.deeper (envOfC qg sg s.heap.objs.size g cdg)))
    (hbody : ∀ (τ : L2.St) (A : Around) (outer : List Env) (s1 : Shared) (H1 : Hp), Room k (A.deeper (LamX.lamEnv X scope s1.heap.objs.size f c')) → PE (LamX.lamCx X A outer s1 H1 (E τ) scope f c') body (tb τ))
    (hN : Ng[i]? = some a) (hv : Vis sg a) (hd : (a == ("__debug__" : Str)) = false) (hcd : (a == ("__classdict__" : Str)) = false) :
    PE (gotCx X s H CXg Eg Ng qg sg g cdg pn xe) (.Call (.Name a p1) [] [] p2) (fun τ HZ Q => τ[i]? = some (some (.ref f)) ∧ HZ f = some (LamO f (lamObjD X params body scope doc pm c' ctv T)) ∧ HZ c' = some (LamX.CodeO c' (X.env.qual ++ "<lambda>")) ∧ HZ T = some (LamO T (tupOne z tz)) ∧ tb τ (σ.set jw none) HZ Q) := by
  refine ⟨fun pinsZ sZ τ HZ Q IZ h => ?_⟩
  obtain ⟨e1, e2, e3, eT, e4⟩ := h
  have look := (pe_var (X := gotCx X s H CXg Eg Ng qg sg g cdg pn xe) (pos := p1) (i := i) hN hv hd hcd).run pinsZ sZ τ HZ (fun v HV => v = .ref f ∧ HV = HZ) IZ ⟨.ref f, e1, rfl, rfl⟩
  refine wpAny_Call_Name_kw (thn look fun u sV got => ?_)
  obtain ⟨v, HV, IV, rv, ev, eH⟩ := got
  rw [ev] at rv
  rw [eH] at IV
  cases (show u = Value.ref f from rv)
  have of1 := lamO_at IV.hok e2
  have ofT := lamO_at IV.hok eT
  obtain ⟨oc, vs, t, c1, c2, c3⟩ := codeO_at IV.hok e3
  have un : Un (frs X.stack) [] H HZ s.heap sV.heap := IV.base
  obtain ⟨kk, b1, b2⟩ := hbind
  have inner : codeAny (model X.prog X.w) (X.A.deeper (envOfC qg sg s.heap.objs.size g cdg)) (.call (.ref f) ⟨[], []⟩) (CR (L2.CX X.prog X.w) (envOfC qg sg s.heap.objs.size g cdg :: X.stack) X.prog X.w HZ sV Q (E τ)) sV := by
    refine PySem.W.kla_callFunE hr.depth of1 rfl L.co L.gen rfl ⟨c', oc, vs, t, rfl, c1, c2, c3⟩ ?_
    rw [b1]
    refine wpAny_bind (wpAny_seqItems ofT rfl ?_)
    rw [b2]
    refine wpAny_pure (wpAny_newFunctionEnv (fun y hy => (L.own y hy).1) (fun y hy => by rw [List.mem_singleton.mp hy]; exact L.par) (fun hl ns sb => ⟨IV.nolimit.fresh _ sb, ?_⟩) L.kind)
    have keepAll : ∀ b o, sV.heap.get? b = some o → hl.get? b = some o := fun b o e => sb.extBut b o (Nat.ne_of_lt (Heap.lt_size e)) (Heap.get?_push_of_some _ e)
    have J := lam_startW (E := E τ) (f := f) (c' := c') (k := sV.toks + ([(b, Value.int z tz)] : List (Str × Value)).length) I L IV.env0 hr.hd un ns keepAll
    show codeAny _ _ (.expr body (LamX.lamEnv X scope sV.heap.objs.size f c')) _ _
    have ran := (hbody τ _ _ sV HZ (hr.deeper _)).run [] _ _ HZ Q J e4
    refine PySem.W.kla_codeExpr (wpAny_mono ran (fun v' s' got => ?_) fun _ _ z => z)
    obtain ⟨w', H', J', r', q'⟩ := got
    exact ⟨w', H', J'.os, J'.bare, J'.base, J'.hok, r', q'⟩
  refine PySem.W.callWith_F0 ⟨_, _, _, _, of1⟩ (wpAny_call (codeAny_mono inner fun r s' hq => ?_))
  match r, hq with
  | .error e, hq => exact hx τ pinsZ HZ sV e s' IV hq
  | .ok (.ret u), hq => exact IV.after hq
  | .ok .next, hq => exact False.elim hq
  | .ok .brk, hq => exact False.elim hq
  | .ok .cont, hq => exact False.elim hq
end
theorem w_callLamW {jw : Nat} {X : Cx} {E : ExP} {Γ : Env'} {O : Own} {Q : PD} {x : Str} {k j kb : Nat} {F : SpL} {z : Int} {b : Str} {params : Arguments} {body : Expr} {scope : Scope} {e : Expr} {p pos : Pos} (D : FdL X.prog X.w X.K X.mg X.base x k F) (hr : Room j X.A) (hj : k + 1 ≤ j) (hkb : kb + 2 ≤ j)
    (h : WA X E [e] Γ O fun ds O1 => ∃ f B, ds = [.lam f B] ∧ LamOfD X B f z params body scope ∧ F (behOf X scope body (Γ.set jw none) kb f) O1 Q (fun ex O'' => E ex Γ O''))
    (L : LamSW jw X.N X.env.scope scope b) (hbind : ∀ (q : Str) (cl : List (Str × Addr)) (doc pm cv ctv : Value) (T : Addr), ∃ kk, bindArgs (fnD q params body scope cl doc pm cv ctv (.ref T)) ⟨[], []⟩ = seqItems? (.ref T) >>= kk ∧ ∀ v, kk (some #[v]) = pure [(b, v)])
    (hg : Gl X x := by rfl) (hdb : (x == ("__debug__" : Str)) = false := by decide) (he : starEach [e] X.env = (false, eval e X.env) :: starEach [] X.env := by rfl) : WE X E (.Call (.Name x p) [e] [] pos) Γ O Q := .mk fun W σ H Hd q => by
  obtain ⟨st, g, gd, N, a, Fg, Sg, hN0, hva, hd1, hd2, hm, hb, hbody⟩ := D.ex
  obtain ⟨oc, od, kV, doc, pm, an, cdv, ct, osl, rfl, lk, hcd⟩ := Fg.ex
  intro pins s I
  refine wpAny_Call_Name_kw (ld_glob I hg hm ?_ hdb)
  refine PySem.W.callWith_K (h₀ := X.base) (first := []) I.ok.mod.kin Fg.kp (thn (h.use q (Q' := fun vs H1 => ∃ ds O1 Hd1, Same Hd Hd1 ∧ Pre X E W σ H1 Hd1 Γ O1 ∧ Reps X.K Hd1 vs ds ∧ ∃ f B, ds = [.lam f B] ∧ LamOfD X B f z params body scope ∧ F (behOf X scope body (Γ.set jw none) kb f) O1 Q (fun ex O'' => E ex Γ O''))
    (fun vs H1 ds O1 Hd1 s1 p1 r1 q1 => ⟨ds, O1, Hd1, s1, p1, r1, q1⟩) pos pins s I) fun us s1 got => ?_) he (by rfl)
  obtain ⟨vs, H1, I1, r1, ds, O1, Hd1, ss, p1, rs, f, B, rfl, hf, hF⟩ := got
  cases rs with | cons ra rn =>
  cases rn
  cases ra with | lam sB =>
  obtain ⟨T, tz, c', doc', pm', ctv', f1, f2, f3⟩ := hf
  refine ⟨I1.kIn, ?_⟩
  show wpAny _ _ (call (.ref g) us) _ _ _
  obtain ⟨m, rfl⟩ : ∃ m, j = m + 1 := ⟨j - 1, by omega⟩
  have rc : codeAny (model X.prog X.w) X.A (.call (.ref g) ⟨us, []⟩) (CR (L2.CX X.prog X.w) X.stack X.prog X.w H1 s1 (Post X.K Hd Q) (fun cls d H' => W cls d σ H')) s1 := by
    refine LamX.run_ofS (N := N) (ps := [a]) (us := us) (vs := [.ref f]) lk hcd Sg hr I1.env0 ?_ r1 rfl fun hr' => ?_
    · have := hb s1 us I1.kIn (by rw [List.append_nil, ← r1.length]; rfl)
      rwa [List.append_nil] at this
    have hs1 : Same B Hd1 := sB
    have calls : CallsD (cxOf (L2.CX X.prog X.w) X.prog X.w X.K X.mg X.base N x (defScope st) g cdv X.A X.stack s1 H1 (fun cls d H' => W cls d σ H')) a f Hd1 (behOf X scope body (Γ.set jw none) kb f) := by
      intro pn xe p1' p2' E' Γ' O' Q' Q2 E2 hΓ hS m1 m2
      refine .mk fun W2 τ HZ HdZ pZ => ?_
      obtain ⟨v, ev, rv⟩ := pZ.g.2 0 _ hΓ
      cases rv with | lam sZ =>
      have low := hs1.trans sZ
      refine wE_of (lam_actW (i := 0) (k := kb) (b := b) (E := fun τ cls d H => W2 cls d τ H) (tb := fun τ σ' H' Q'' => ∀ (A : Around) (outer : List Env) (s2 : Shared) (H2 : Hp), Room kb (A.deeper (LamX.lamEnv X scope s2.heap.objs.size f c')) → wE (LamX.lamCx X A outer s2 H2 (fun cls d H => W2 cls d τ H) scope f c') body σ' H' Q'')
        I1 L (hbind _ _ _ _ _ _ _) (fun τ => passAt pZ.tk τ) (hr'.mono (by omega)) (fun τ A outer s2 H2 hr2 => ⟨fun pins s σ H Q I h => h A outer s2 H2 hr2 pins s I⟩) hN0 hva hd1 hd2) ⟨ev, pZ.h.same _ _ (low _ _ f1), pZ.h.same _ _ (low _ _ f2), pZ.h.same _ _ (low _ _ f3), fun A outer s2 H2 hr2 => ?_⟩
      refine wE_mono ((hS A outer s2 H2 (fun cls d H => W2 cls d τ H) c' hr2).run (fun cls d _ H => W2 cls d τ H) (σ.set jw none) HZ HdZ ⟨takes_of rfl rfl rfl rfl, (p1.g.mono sZ).hide jw, pZ.h, fun cls d σ' H' Hd' e Γ2 O2 s2' g2 a2 er ee => ?_⟩) fun v H' ⟨d, O5, Hd5, s5, a5, r5, q5⟩ => ⟨d, O5, Hd5, s5, a5, r5, m1 d O5 q5⟩
      exact pZ.ex cls d τ H' Hd' e Γ' O2 s2' (pZ.g.mono s2') a2 er (m2 e O2 ee)
    refine ⟨_, pssW, wSs_mono ((hbody cdv X.A X.stack s1 H1 (fun cls d H' => W cls d σ H') f Hd1 _ O1 Q _ (hr'.mono (by omega)) calls hF).run (fun cls d _ H => W cls d σ H) (L2.start N [.ref f]) H1 Hd1 ⟨takes_of rfl rfl rfl rfl, start_abs (.cons (.lam (Same.refl _)) .nil), p1.h, fun cls d σ' H' Hd' e Γ' O' s' g' a' er ee => ?_⟩) ?_⟩
    · exact p1.ex cls d σ H' Hd' e Γ O' s' (p1.g.mono s') a' er ee
    · exact ⟨fun σ' H' ⟨Γ', O', Hd', s', g', a', z⟩ => .lift ss ⟨_, O', Hd', s', a', .non, z⟩, fun v H' z => z.lift ss, fun _ _ ⟨_, _, _, _, _, _, z⟩ => z.elim, fun _ _ ⟨_, _, _, _, _, _, z⟩ => z.elim⟩
  refine wpAny_call (codeAny_mono rc fun r s2 hq => ?_)
  match r, hq with
  | .error er, hq => exact passAt q.tk σ pins H1 s1 er s2 I1 hq
  | .ok (.ret u), hq => exact I1.after hq
  | .ok .next, hq => exact False.elim hq
  | .ok .brk, hq => exact False.elim hq
  | .ok .cont, hq => exact False.elim hq
/-- x(lambda b=z: body) -/
theorem w_lamcallW (jw : Nat) {CX : CXT} {P : Program} {w : World} {K : PySem.W.Frag} {mg : Str → Option Value} {base : Heap} {N : List Str} {qual : Str} {sc : Scope} {fa : Addr} {cdv : Value} {A : Around} {outer : List Env} {s : Shared} {H : Hp} {E0 : XK}
    {E : ExP} {Γ : Env'} {O : Own} {Q : PD} {x : Str} {k j : Nat} (kb : Nat) {F : SpL} {c PT : Addr} {z : Int} {ga : Arg} {jz : Nat} {pz : Pos} {body : Expr} {scope : Scope} {p lpos pos : Pos} (D : FdL P w K mg base x k F) (hr : Room j (A.deeper (envOfC qual sc s.heap.objs.size fa cdv))) (hj : k + 1 ≤ j) (hkb : kb + 2 ≤ j)
    (TB : LamX.TabB base mg c PT) (hcode : cdv = .ref c) (hO : O PT = some (.tab (lamQ qual))) (h : ∀ f, F (behOf (cxOf CX P w K mg base N qual sc fa cdv A outer s H E0) scope body (Γ.set jw none) kb f) O Q (fun ex O'' => E ex Γ O''))
    (L : LamSW jw N sc scope ga.arg := by exact lamSW_by (by decide +kernel))
    (hbind : ∀ (q : Str) (cl : List (Str × Addr)) (doc pm cv ctv : Value) (T : Addr), ∃ kk, bindArgs (fnD q ⟨[], [ga], none, [], [], none, [.Constant (.int z) jz pz]⟩ body scope cl doc pm cv ctv (.ref T)) ⟨[], []⟩ = seqItems? (.ref T) >>= kk ∧ ∀ v, kk (some #[v]) = pure [(ga.arg, v)] := by intros; exact ⟨_, rfl, fun _ => rfl⟩)
    (hg : Gl (cxOf CX P w K mg base N qual sc fa cdv A outer s H E0) x := by rfl) (hdb : (x == ("__debug__" : Str)) = false := by decide) : WE (cxOf CX P w K mg base N qual sc fa cdv A outer s H E0) E (.Call (.Name x p) [.Lambda ⟨[], [ga], none, [], [], none, [.Constant (.int z) jz pz]⟩ body scope lpos] [] pos) Γ O Q :=
  w_callLamW (X := cxOf CX P w K mg base N qual sc fa cdv A outer s H E0) (kb := kb) (b := ga.arg) (z := z) D hr hj hkb (wa_cons (w_lambdaW (X := cxOf CX P w K mg base N qual sc fa cdv A outer s H E0) (a := ga.arg) (z := z) TB hcode (by rw [lamQ_of]; exact hO) L (fun f B hl => wa_nil ⟨f, B, rfl, hl, h f⟩) rfl ⟨rfl, rfl⟩) rfl) L hbind hg hdb rfl
end RW

/-! RW: own classes: isinstance, ==, !=, len, repr, str by own methods. -/
namespace RW
open PySem PySem.Spec PyProof.Rows L2
/-- the type of a value, dicts of the layer too -/
def KitV (K : PySem.W.Frag) (H : Hp) (x : V) (t : Value) : Prop := TyX K H x t ∨ (t = .type "dict" ∧ ∃ a o w xs, x = .ref a ∧ H a = some (DtO a o w xs)) ∨ (t = .type "dict" ∧ ∃ a P o w us, x = .ref a ∧ H a = some (DkO P w a o us))
section
variable {X : Cx} {pins : List (Addr × Obj)} {σ : L2.St} {H : Hp} {s : Shared}
theorem kitV_of {x : V} {u t : Value} (I : Inv X pins σ H s) (rx : RelV x u) (h : KitV X.K H x t) : ∃ P : Heap → Prop, PySem.W.KitX X.K u t P ∧ P s.heap ∧ u ≠ .builtin "__main__.__loader__#opaque" := by
  rcases h with h | ⟨rfl, a, o, w, xs, rfl, ha⟩ | ⟨rfl, a, P, o, w, us, rfl, ha⟩
  · exact kit_of I rx h
  · obtain rfl : u = Value.ref a := rx
    obtain ⟨g1, g2, _⟩ := dtO_get I.hok ha
    exact ⟨_, PySem.W.kitx_dict, ⟨o, g1, g2.1⟩, fun z => nomatch z⟩
  · obtain rfl : u = Value.ref a := rx
    obtain ⟨g1, es, ep, g2, _⟩ := dkO_get I.hok ha
    exact ⟨_, PySem.W.kitx_dict, ⟨o, g1, g2.1⟩, fun z => nomatch z⟩
theorem inst_at {a C dx : Addr} {fs : List (Str × V)} (I : Inv X pins σ H s) (ha : H a = some (.ins C dx fs)) : ∃ ox od, PySem.W.InstAt s.heap a ox C (some od) := by
  obtain ⟨mA, J, _⟩ := ins_get I.hok ha
  obtain ⟨od, J, _⟩ := J.look
  exact ⟨_, _, J⟩
end
/-- what isinstance asks of the class at C -/
structure IsiC (K : PySem.W.Frag) (C : Addr) : Prop where
  cl : Cls K C
  ca : PySem.W.findIn K (.ref C) "__class__" = some (some (.builtin "object.__class__"))
  cn : PySem.W.specialIn K (.builtin "object.__class__") "__get__" = some (some (.builtin "getset_descriptor.__get__"))
  ct : PySem.W.takesIn K (.builtin "object.__class__") = some true
  cm : PySem.W.mroIn K C (.type "object") = some true
inductive TyQ (K : PySem.W.Frag) (O : Own) : D → Value → Prop
  | b {x : D} {n : String} : tyO O x = some n → TyQ K O x (.type n)
  | dt {w : World} {kvs : List (NestedKey × D)} : TyQ K O (.dt w kvs) (.type "dict")
  | dk {P : Program} {w : World} {kvs : List (Key × D)} : TyQ K O (.dk P w kvs) (.type "dict")
  | odt {p : Addr} {w : World} {kvs : List (NestedKey × D)} : O p = some (.dt w kvs) → TyQ K O (.obj p) (.type "dict")
  | odk {p : Addr} {P : Program} {w : World} {kvs : List (Key × D)} : O p = some (.dk P w kvs) → TyQ K O (.obj p) (.type "dict")
  | ins {x : D} {C : Addr} {fs : List (Str × D)} : IsI O x C fs → IsiC K C → TyQ K O x (.ref C)
theorem tyQ_v {K : PySem.W.Frag} {H Hd : Hp} {O : Own} {x : D} {v : V} {t : Value} (h : AbsH K H Hd O) (r : Rep K Hd v x) (ty : TyQ K O x t) : KitV K H v t := by
  cases ty with
  | b e => exact .inl (tyO_ok h r e)
  | dt =>
    cases r with | dt g _ _ _ => exact .inr (.inl ⟨rfl, _, _, _, _, rfl, h.same _ _ g⟩)
  | dk =>
    cases r with | dk g _ _ => exact .inr (.inr ⟨rfl, _, _, _, _, _, rfl, h.same _ _ g⟩)
  | odt e =>
    cases r
    obtain ⟨_, o, xs, vs, g, _⟩ := h.own _ _ e
    exact .inr (.inl ⟨rfl, _, _, _, _, rfl, g⟩)
  | odk e =>
    cases r
    obtain ⟨_, o, us, vs, g, _⟩ := h.own _ _ e
    exact .inr (.inr ⟨rfl, _, _, _, _, _, rfl, g⟩)
  | ins hi c =>
    obtain ⟨a, dx, vs, rfl, g, _⟩ := h.readI r hi
    exact .inl (.base (.ins g c.cl c.ca c.cn c.ct c.cm))
/-- a promise kept by a def that never raises -/
theorem spD_of {K : PySem.W.Frag} {H Hd : Hp} {O : Own} {S : SpD} {vs : List V} {ds : List D} {Qd : PD} {Q : VK} (a : AbsH K H Hd O) (r : Reps K Hd vs ds) (h : S ds O Qd (fun _ _ => False)) (k : ∀ v H', Post K Hd Qd v H' → Q v H') : spD K S vs H Q (fun _ _ _ => False) :=
  ⟨ds, Hd, O, Qd, _, a, r, h, k, fun _ _ _ _ _ _ _ _ _ z => z⟩
/-! ### at the machine's level -/
section
variable {X : Cx} {C f : Addr} {fd : FuncData} {k : Nat} {ps : List Str} {S : SpD}
def rIsiQ (K : PySem.W.Frag) (C : Addr) : List V → Hp → VK → Prop := fun xs H Q => ∃ (x : V) (t : Value) (b : Bool), xs = [x, .ref C] ∧ KitV K H x t ∧ PySem.W.kitOne K t (.ref C) = some b ∧ Q (.bl b) H
theorem cr_isiQ : CallR X (.builtin "isinstance") (rIsiQ X.K C) := by
  intro pins s σ H xs us Q I r h
  obtain ⟨x, t, b, rfl, ty, e, q⟩ := h
  obtain ⟨u1, u2, rfl, r1, r2⟩ := vals2 r
  obtain rfl : u2 = Value.ref C := r2
  obtain ⟨P, Z, p, hx⟩ := kitV_of I r1 ty
  exact PySem.W.kia_one Z I.kIn p e hx fun tk => ⟨.bl b, H, I.tok tk, rfl, q⟩
/-- x == y, x an instance -/
def rEqOwn (K : PySem.W.Frag) (C : Addr) (S : SpD) : R2 := fun x y H Q => ∃ a dx fs t, x = .ref a ∧ H a = some (.ins C dx fs) ∧ KitV K H y t ∧ PySem.W.notFirst K C t = true ∧ spD K S [x, y] H Q (fun _ _ _ => False)
theorem rc_eqOwn {A' : Around} {pins : List (Addr × Obj)} {σ : L2.St} {H : Hp} {s : Shared} {x y : V} {v u : Value} {Q : VK} (hm : Meth X.K C "__eq__" f) (F : FnOk X.prog X.w X.K X.mg X.base (L2.CX X.prog X.w) k f fd ps (spD X.K S)) (hb : Binds X.K fd ps []) (hA : A'.frames = X.A.frames) (hr : Room k A')
    (I : Inv X pins σ H s) (rx : RelV x v) (ry : RelV y u) (h : rEqOwn X.K C S x y H Q) : wpAny (model X.prog X.w) A' (richCompare .Eq v u) (EP X pins σ Q) (fun _ _ => False) s := by
  obtain ⟨a, dx, fs, t, rfl, ha, ht, hn, sp⟩ := h
  obtain rfl : v = Value.ref a := rx
  obtain ⟨ox, od, J⟩ := inst_at I ha
  obtain ⟨P, Z, p, _⟩ := kitV_of I ry ht
  obtain ⟨m, hF⟩ := I.fr
  refine PySem.W.cmp_K (op := .Eq) hr.units0 hF I.ok.mod.kin J (Z.ty _ _ I.kIn p) hn hm.at_ hm.fn ?_
  refine wpAny_mono (cb_call I F hb hA hr (.cons (show RelV (V.ref a) (Value.ref a) from rfl) (.cons ry .nil)) sp) (fun r s' z => ?_) fun _ _ z => z
  obtain ⟨z', H', I', rz, qz⟩ := z
  exact SlX.cmpback rz ⟨z', H', I', rz, qz⟩
theorem op_eqOwn (hm : Meth X.K C "__eq__" f) (F : FnOk X.prog X.w X.K X.mg X.base (L2.CX X.prog X.w) k f fd ps (spD X.K S)) (hb : Binds X.K fd ps []) (hr : Room k X.A) : OpR X (compareOp .Eq) (rEqOwn X.K C S) := by
  intro pins s σ H x y v u Q I rx ry h
  exact wpAny_mono (rc_eqOwn hm F hb rfl hr I rx ry h) (fun _ _ z => z) fun _ _ z => z.elim
/-- x != y by the same -/
def rNeOwn (K : PySem.W.Frag) (C : Addr) (S : SpD) : R2 := fun x y H Q => ∃ a dx fs t, x = .ref a ∧ H a = some (.ins C dx fs) ∧ KitV K H y t ∧ PySem.W.notFirst K C t = true ∧ spD K S [x, y] H (fun v H' => ∃ b, v = .bl b ∧ Q (.bl (!b)) H') (fun _ _ _ => False)
theorem op_neOwn (hm : Meth X.K C "__eq__" f) (hne : PySem.W.findIn X.K (.ref C) "__ne__" = some (some (.builtin "object.__ne__"))) (hmo : PySem.W.mroIn X.K C (.type "object") = some true)
    (F : FnOk X.prog X.w X.K X.mg X.base (L2.CX X.prog X.w) k f fd ps (spD X.K S)) (hb : Binds X.K fd ps []) (hr : Room (k + 1) X.A) : OpR X (compareOp .NotEq) (rNeOwn X.K C S) := by
  intro pins s σ H x y v u Q I rx ry h
  obtain ⟨a, dx, fs, t, rfl, ha, ht, hn, sp⟩ := h
  obtain rfl : v = Value.ref a := rx
  obtain ⟨ox, od, J⟩ := inst_at I ha
  obtain ⟨P, Z, p, _⟩ := kitV_of I ry ht
  obtain ⟨m, hF⟩ := I.fr
  have KI := I.kIn
  have inner : wpAny (model X.prog X.w) X.A.in1 (call (.ref f) [.ref a, u]) (fun r s' => ∃ b, r = .bool b ∧ EP X pins σ Q (.bool (!b)) s') X.xe s := by
    refine wpAny_mono (cb_call I F hb rfl hr.in1 (.cons (show RelV (V.ref a) (Value.ref a) from rfl) (.cons ry .nil)) sp) (fun r s' z => ?_) fun _ _ z => z.elim
    obtain ⟨z', H', I', rz, b, e, qz⟩ := z
    subst e
    obtain rfl : r = Value.bool b := rz
    exact ⟨b, rfl, .bl (!b), H', I', rfl, qz⟩
  have body : wpAny (model X.prog X.w) X.A (call (.builtin "object.__ne__") [.ref a, u]) (fun r s' => ∃ b, r = .bool b ∧ EP X pins σ Q r s') X.xe s := by
    refine wpAny_call (codeAny_call_builtin PySem.F.slot_object_ne.plain PySem.F.cmpEntry_ne (PySem.W.check_slot PySem.F.cmpKind_ne PySem.F.cmpSplit_ne (J.type.andThen (PySem.W.looks_mroIn KI hmo)) (PySem.F.cmpArgs_ne _ _) ?_))
    unfold Builtin.«object.__ne__»
    refine wpAny_bind (m := slotArgs "__ne__" 1 _) (wpAny_pure ?_)
    refine wpAny_bind (wpAny_cRoomFor hr.in1.units0 ?_)
    refine wpAny_bind (m := callSpecialIfBound? (.ref a) (Str.ofString "__eq__") _) (PySem.W.ifBound_K KI J hm.at_ hm.fn (wpAny_mono inner (fun r s' ⟨b, e, z⟩ => ?_) fun _ _ z => z))
    subst e
    refine wpAny_bind (wpAny_truthy_bool ?_)
    exact wpAny_pure ⟨_, rfl, z⟩
  have one : wpAny (model X.prog X.w) X.A (tryCompare (.ref a) "__ne__" u) (fun r s' => ∃ v, r = some v ∧ EP X pins σ Q v s') X.xe s := by
    unfold tryCompare
    refine wpAny_bind ?_
    simp only [callSpecialIfBound?, bindSpecialIfBound?]
    refine wpAny_holding (wpAny_bind (wpAny_bind (wpAny_bind (J.type.here ((PySem.W.looks_findIn KI hne).here ?_)))))
    have fin : wpAny (model X.prog X.w) X.A (call (.builtin "object.__ne__") ([.ref a] ++ [u]) >>= fun v => pure (some v)) (fun r s' => wpAny (model X.prog X.w) X.A (match r with
        | some .notImplemented | none => pure none
        | some v => pure (some v)) (fun r s' => ∃ v, r = some v ∧ EP X pins σ Q v s') X.xe s') X.xe s :=
      wpAny_bind (wpAny_mono body (fun r s' ⟨b, e, z⟩ => by subst e; exact wpAny_pure (wpAny_pure ⟨_, rfl, z⟩)) fun _ _ z => z)
    refine wpAny_bind (wpAny_askSetting (wpAny_ite ?_))
    split
    · exact wpAny_bind ((PySem.W.Looks.of_pure (PySem.F.slot_object_ne.bind _)).here (wpAny_pure (by exact fin)))
    · exact wpAny_tryCatch (wpAny_bind ((PySem.W.Looks.of_pure (PySem.F.slot_object_ne.bind _)).here (wpAny_pure (by exact fin))))
  refine PySem.W.cmp_ofNotEq ?_
  unfold richCompare
  simp only [oneThing_ref]
  refine wpAny_holding (wpAny_bind (wpAny_cRoomFor hr.units0 ?_))
  refine wpAny_bind (J.type.here (wpAny_bind ((Z.ty _ _ KI p).here ?_)))
  have last : wpAny (model X.prog X.w) X.A (do
      if false = true then
        if let some v ← tryCompare u "__ne__" (.ref a) then rule "compare.subclass-reflected-first"; return v
      if let some v ← tryCompare (.ref a) "__ne__" u then return v
      if !false then
        if let some v ← tryCompare u "__ne__" (.ref a) then return v
      rule "compare.ne-identity"; return .bool (!(← isSame (.ref a) u))) (EP X pins σ Q) X.xe s := by
    simp only [Bool.false_eq_true, if_false]
    refine wpAny_bind (wpAny_mono one (fun r s' ⟨v, e, z⟩ => ?_) fun _ _ z => z)
    subst e
    exact wpAny_pure z
  split
  · rename_i q
    have e : PySem.W.subIn X.K t (.ref C) = some false := by
      rcases Bool.or_eq_true_iff.mp hn with e | e
      · rw [beq_iff_eq.mp e] at q; simp at q
      · exact beq_iff_eq.mp e
    exact wpAny_bind ((PySem.W.looks_subIn KI e).here last)
  · exact wpAny_bind (wpAny_pure last)
/-- len(x), repr(x), str(x) -/
def rLenOwn (K : PySem.W.Frag) (C : Addr) (S : SpD) : List V → Hp → VK → Prop := fun xs H Q => ∃ a dx fs, xs = [.ref a] ∧ H a = some (.ins C dx fs) ∧ spD K S [.ref a] H (fun v H' => ∃ n : Int, v = .int n ∧ (0 ≤ n ∧ n < 2 ^ 63) ∧ Q (.int n) H') (fun _ _ _ => False)
theorem cr_lenOwn (hm : Meth X.K C "__len__" f) (F : FnOk X.prog X.w X.K X.mg X.base (L2.CX X.prog X.w) k f fd ps (spD X.K S)) (hb : Binds X.K fd ps []) (hr : Room (k + 1) X.A) : CallR X (.builtin "len") (rLenOwn X.K C S) := by
  intro pins s σ H xs us Q I r h
  obtain ⟨a, dx, fs, rfl, ha, sp⟩ := h
  rw [Vals.ref1 r]
  obtain ⟨ox, od, J⟩ := inst_at I ha
  obtain ⟨m, hF⟩ := I.fr
  refine PySem.W.len_K hF I.ok.mod.kin J hm.at_ hm.fn ?_
  refine wpAny_mono (cb_call I F hb rfl hr.in1 (.cons (show RelV (V.ref a) (Value.ref a) from rfl) .nil) sp) (fun r s' z => ?_) fun _ _ z => z.elim
  obtain ⟨z', H', I', rz, n, e, hn, qz⟩ := z
  subst e
  obtain ⟨t, rfl⟩ : ∃ t, r = Value.int n t := rz
  exact ⟨hn, .int n, H', I'.tok _, ⟨_, rfl⟩, qz⟩
def rStrOwn (K : PySem.W.Frag) (C : Addr) (S : SpD) : List V → Hp → VK → Prop := fun xs H Q => ∃ a dx fs, xs = [.ref a] ∧ H a = some (.ins C dx fs) ∧ spD K S [.ref a] H (fun v H' => ∃ y, v = .str y ∧ Q (.str y) H') (fun _ _ _ => False)
theorem cr_reprOwn (hm : Meth X.K C "__repr__" f) (F : FnOk X.prog X.w X.K X.mg X.base (L2.CX X.prog X.w) k f fd ps (spD X.K S)) (hb : Binds X.K fd ps []) (hr : Room (k + 1) X.A) : CallR X (.builtin "repr") (rStrOwn X.K C S) := by
  intro pins s σ H xs us Q I r h
  obtain ⟨a, dx, fs, rfl, ha, sp⟩ := h
  rw [Vals.ref1 r]
  obtain ⟨ox, od, J⟩ := inst_at I ha
  obtain ⟨m, hF⟩ := I.fr
  refine PySem.W.repr_K hr.in1.units0 hF I.ok.mod.kin J hm.at_ hm.fn ?_
  refine wpAny_mono (cb_call I F hb rfl hr.in1 (.cons (show RelV (V.ref a) (Value.ref a) from rfl) .nil) sp) (fun r s' z => ?_) fun _ _ z => z.elim
  obtain ⟨z', H', I', rz, y, e, qz⟩ := z
  subst e
  obtain ⟨t, rfl⟩ : ∃ t, r = Value.str y t := rz
  exact ⟨.str y, H', I', ⟨_, rfl⟩, qz⟩
open Builtin Builtin.Str in
theorem cr_strOwn (hm : Meth X.K C "__str__" f) (F : FnOk X.prog X.w X.K X.mg X.base (L2.CX X.prog X.w) k f fd ps (spD X.K S)) (hb : Binds X.K fd ps []) (hr : Room (k + 2) X.A) : CallR X (.type "str") (rStrOwn X.K C S) := by
  intro pins s σ H xs us Q I r h
  obtain ⟨a, dx, fs, rfl, ha, sp⟩ := h
  rw [Vals.ref1 r]
  obtain ⟨ox, od, J⟩ := inst_at I ha
  have told : wpAny (model X.prog X.w) X.A.in1.in1 (PySem.Builtin.Str.strOf (.ref a)) (fun r s' => ∃ y u, r = .str y u ∧ EP X pins σ Q r s') X.xe s := by
    unfold PySem.Builtin.Str.strOf
    rw [show isExactStr (Value.ref a) = false from rfl]
    refine wpAny_bind (wpAny_cRoomFor hr.in1.in1.units0 ?_)
    refine wpAny_bind (PySem.W.special_fn I.kIn J hm.at_ (beq_iff_eq.mp hm.fn) (wpAny_mono (cb_call I F hb rfl hr.in1.in1 (.cons (show RelV (V.ref a) (Value.ref a) from rfl) .nil) sp) (fun r s' z => ?_) fun _ _ z => z.elim))
    obtain ⟨z', H', I', rz, y, e, qz⟩ := z
    subst e
    obtain ⟨t, rfl⟩ : ∃ t, r = Value.str y t := rz
    exact wpAny_pure ⟨y, t, rfl, .str y, H', I', ⟨_, rfl⟩, qz⟩
  refine callType_codes (Bi := Builtin.«object.__init__») (Q₁ := fun r s₁ => ∃ y u, r = .str y u ∧ EP X pins σ Q r s₁) PySem.F.called_str (PySem.F.typeCall_str_1 _) PySem.F.entry_object_init (codeAny_of_tree ?_) fun obj s₁ ⟨y, u, e, hq⟩ => ?_
  · show wpAny _ X.A.in1.in1 (checkBuiltinCall "str.__new__" ⟨[.type "str", .ref a], []⟩ >>= fun _ => again (.builtin "str.__new__" ⟨[.type "str", .ref a], []⟩)) _ _ s
    have pl : plainId "str.__new__" = true := by decide +kernel
    refine wpAny_bind (wpAny_of_eq (PySem.F.newCall_str_1 _) (wpAny_pure ⟨plainId_quiet pl _, codeAny_builtin PySem.F.entry_str_new ?_⟩))
    rw [Around.under_plainId pl _, str_new_tree]
    exact wpAny_bind (wpAny_pure (wpAny_bind (wpAny_of_eq isSubtype_str_str (wpAny_bind (wpAny_mono told (fun _ _ z => wpAny_pure z) fun _ _ z => z)))))
  · subst e
    have ty := typeIs_str s₁ y u
    exact ⟨ty, PySem.F.args_object_init_2 _ _, object_init_meets PySem.F.called_str.init.lookup PySem.F.called_str.made (by decide) X.prog X.w X.A.in1 _ s₁ ⟨ty, rfl, hq⟩⟩
end
/-! ### the layer's own rules -/
section
variable {X : Cx} {E : ExP} {Γ : Env'} {O : Own} {e a b : Expr} {Q : PD} {pos p p1 : Pos} {C : Addr} {k j : Nat} {S : SpD} {x : Str}
/-- isinstance(e, C), C an own class -/
theorem w_isiC (hm : X.mg "isinstance" = none) (hC : X.mg x = some (.ref C)) (h : WE X E e Γ O fun d O1 => ∃ t i, TyQ X.K O1 d t ∧ PySem.W.kitOne X.K t (.ref C) = some i ∧ Q (.bl i) O1)
    (hg : Gl X "isinstance" := by rfl) (hgT : Gl X x := by rfl) (hdT : (x == ("__debug__" : Str)) = false := by decide)
    (he : starEach [e, .Name x p1] X.env = (false, eval e X.env) :: starEach [.Name x p1] X.env := by rfl) (he2 : starEach [.Name x p1] X.env = (false, eval (.Name x p1) X.env) :: starEach [] X.env := by rfl) (hpl : (backTo pos (starEach [.Name x p1] X.env)).any (·.1) = false := by rfl) :
    WE X E (.Call (.Name "isinstance" p) [e, .Name x p1] [] pos) Γ O Q := .mk fun W σ H Hd q =>
  wE_of (pe_callB (cr_isiQ (C := C)) hg hm boot_isinstance (pa_cons peW (pa_cons (pe_glob hgT hC (v := .ref C) rfl hdT) pa_nil he2) he) (by decide) (by decide) he hpl) (h.use q fun v H1 d O1 Hd1 s1 p1 r1 ⟨t, i, e1, e2, q1⟩ =>
    ⟨v, t, i, rfl, tyQ_v p1.h r1 e1, e2, .lift s1 (.of p1.h (.bl _) q1)⟩)
/-- a == b, a != b by an own __eq__ -/
def sEqOwn (K : PySem.W.Frag) (C : Addr) (S : SpD) (x y : D) (O : Own) (Q : PD) : Prop := ∃ fs t, IsI O x C fs ∧ TyQ K O y t ∧ PySem.W.notFirst K C t = true ∧ S [x, y] O Q (fun _ _ => False)
theorem rok_eqOwn : R2ok X (rEqOwn X.K C S) (sEqOwn X.K C S) := fun x y O v u H Hd Q Q' h rx ry ⟨fs, t, hi, ty, hn, sp⟩ kk => by
  obtain ⟨a, dx, vs, rfl, g, _⟩ := h.readI rx hi
  exact ⟨a, dx, vs, t, rfl, g, tyQ_v h ry ty, hn, spD_of h (.cons rx (.cons ry .nil)) sp kk⟩
def sNeOwn (K : PySem.W.Frag) (C : Addr) (S : SpD) (x y : D) (O : Own) (Q : PD) : Prop := ∃ fs t, IsI O x C fs ∧ TyQ K O y t ∧ PySem.W.notFirst K C t = true ∧ S [x, y] O (fun d O' => ∃ i, d = .bl i ∧ Q (.bl (!i)) O') (fun _ _ => False)
theorem rok_neOwn : R2ok X (rNeOwn X.K C S) (sNeOwn X.K C S) := fun x y O v u H Hd Q Q' h rx ry ⟨fs, t, hi, ty, hn, sp⟩ kk => by
  obtain ⟨a, dx, vs, rfl, g, _⟩ := h.readI rx hi
  refine ⟨a, dx, vs, t, rfl, g, tyQ_v h ry ty, hn, spD_of h (.cons rx (.cons ry .nil)) sp fun v' H' z => ?_⟩
  obtain ⟨d, O', Hd', s', a', r', i, e, q⟩ := z
  subst e
  cases r'
  exact ⟨i, rfl, kk _ _ ⟨_, O', Hd', s', a', .bl _, q⟩⟩
theorem w_eqOwn (M : MetD X.prog X.w X.K X.mg X.base C "__eq__" k S []) (hr : Room j X.A) (hkj : k ≤ j) (h : WE X E a Γ O fun x O1 => WE X E b Γ O1 fun y O2 => sEqOwn X.K C S x y O2 Q) : WE X E (.Compare a [.Eq] [b] pos) Γ O Q := by
  obtain ⟨f, fd, ps, ds, dvs, c, hm, F1, F4, F5, F6⟩ := M.ex
  have := F6 (fun _ => none)
  cases this
  cases F5
  exact w_cmp2 (op_eqOwn hm F1 F4 (hr.mono hkj)) rok_eqOwn (nomark _) h
theorem wt_eqOwn {Q : Bool → Own → Prop} (M : MetD X.prog X.w X.K X.mg X.base C "__eq__" k S []) (hr : Room j X.A) (hkj : k ≤ j) (h : WE X E a Γ O fun x O1 => WE X E b Γ O1 fun y O2 => sEqOwn X.K C S x y O2 (sTest Q)) : WT X E (.Compare a [.Eq] [b] pos) Γ O Q := by
  obtain ⟨f, fd, ps, ds, dvs, c, hm, F1, F4, F5, F6⟩ := M.ex
  have := F6 (fun _ => none)
  cases this
  cases F5
  exact wt_cmp2 (op_eqOwn hm F1 F4 (hr.mono hkj)) rok_eqOwn (nomark _) h
/-- what != asks besides -/
structure NeC (K : PySem.W.Frag) (C : Addr) : Prop where
  ne : PySem.W.findIn K (.ref C) "__ne__" = some (some (.builtin "object.__ne__"))
  mo : PySem.W.mroIn K C (.type "object") = some true
theorem w_neOwn (M : MetD X.prog X.w X.K X.mg X.base C "__eq__" k S []) (N : NeC X.K C) (hr : Room j X.A) (hkj : k + 1 ≤ j) (h : WE X E a Γ O fun x O1 => WE X E b Γ O1 fun y O2 => sNeOwn X.K C S x y O2 Q) : WE X E (.Compare a [.NotEq] [b] pos) Γ O Q := by
  obtain ⟨f, fd, ps, ds, dvs, c, hm, F1, F4, F5, F6⟩ := M.ex
  have := F6 (fun _ => none)
  cases this
  cases F5
  exact w_cmp2 (op_neOwn hm N.ne N.mo F1 F4 (hr.mono hkj)) rok_neOwn (nomark _) h
theorem wt_neOwn {Q : Bool → Own → Prop} (M : MetD X.prog X.w X.K X.mg X.base C "__eq__" k S []) (N : NeC X.K C) (hr : Room j X.A) (hkj : k + 1 ≤ j) (h : WE X E a Γ O fun x O1 => WE X E b Γ O1 fun y O2 => sNeOwn X.K C S x y O2 (sTest Q)) : WT X E (.Compare a [.NotEq] [b] pos) Γ O Q := by
  obtain ⟨f, fd, ps, ds, dvs, c, hm, F1, F4, F5, F6⟩ := M.ex
  have := F6 (fun _ => none)
  cases this
  cases F5
  exact wt_cmp2 (op_neOwn hm N.ne N.mo F1 F4 (hr.mono hkj)) rok_neOwn (nomark _) h
/-- len(e), repr(e), str(e) -/
theorem w_lenOwn (M : MetD X.prog X.w X.K X.mg X.base C "__len__" k S []) (hr : Room j X.A) (hkj : k + 1 ≤ j) (hm : X.mg "len" = none) (h : WE X E e Γ O fun x O1 => ∃ fs, IsI O1 x C fs ∧ S [x] O1 (fun d O' => ∃ n : Int, d = .int n ∧ (0 ≤ n ∧ n < 2 ^ 63) ∧ Q (.int n) O') (fun _ _ => False))
    (hg : Gl X "len" := by rfl) (he : starEach [e] X.env = [(false, eval e X.env)] := by rfl) : WE X E (.Call (.Name "len" p) [e] [] pos) Γ O Q := by
  obtain ⟨f, fd, ps, ds, dvs, c, hm', F1, F4, F5, F6⟩ := M.ex
  have := F6 (fun _ => none)
  cases this
  cases F5
  refine w_callB (S := fun x O Q => ∃ fs, IsI O x C fs ∧ S [x] O (fun d O' => ∃ n : Int, d = .int n ∧ (0 ≤ n ∧ n < 2 ^ 63) ∧ Q (.int n) O') (fun _ _ => False)) (cr_lenOwn hm' F1 F4 (hr.mono hkj)) (fun x O v H Hd Q Q' h r ⟨fs, hi, sp⟩ kk => ?_) hm (by decide +kernel) h hg he
  obtain ⟨a, dx, vs, rfl, g, _⟩ := h.readI r hi
  refine ⟨a, dx, vs, rfl, g, spD_of h (.cons r .nil) sp fun v' H' z => ?_⟩
  obtain ⟨d, O', Hd', s', a', r', n, e, hn, q⟩ := z
  subst e
  cases r'
  exact ⟨n, rfl, hn, kk _ _ ⟨_, O', Hd', s', a', .int _, q⟩⟩
abbrev sStrOwn (C : Addr) (S : SpD) (x : D) (O : Own) (Q : PD) : Prop := ∃ fs, IsI O x C fs ∧ S [x] O (fun d O' => ∃ y, d = .str y ∧ Q (.str y) O') (fun _ _ => False)
theorem ok1_strOwn : C1ok X (rStrOwn X.K C S) (sStrOwn C S) := fun x O v H Hd Q Q' h r ⟨fs, hi, sp⟩ kk => by
  obtain ⟨a, dx, vs, rfl, g, _⟩ := h.readI r hi
  refine ⟨a, dx, vs, rfl, g, spD_of h (.cons r .nil) sp fun v' H' z => ?_⟩
  obtain ⟨d, O', Hd', s', a', r', y, e, q⟩ := z
  subst e
  cases r'
  exact ⟨y, rfl, kk _ _ ⟨_, O', Hd', s', a', .str _, q⟩⟩
theorem w_reprOwn (M : MetD X.prog X.w X.K X.mg X.base C "__repr__" k S []) (hr : Room j X.A) (hkj : k + 1 ≤ j) (hm : X.mg "repr" = none) (h : WE X E e Γ O fun x O1 => sStrOwn C S x O1 Q)
    (hg : Gl X "repr" := by rfl) (he : starEach [e] X.env = [(false, eval e X.env)] := by rfl) : WE X E (.Call (.Name "repr" p) [e] [] pos) Γ O Q := by
  obtain ⟨f, fd, ps, ds, dvs, c, hm', F1, F4, F5, F6⟩ := M.ex
  have := F6 (fun _ => none)
  cases this
  cases F5
  exact w_callB (cr_reprOwn hm' F1 F4 (hr.mono hkj)) ok1_strOwn hm (by decide +kernel) h hg he
theorem w_strOwn (M : MetD X.prog X.w X.K X.mg X.base C "__str__" k S []) (hr : Room j X.A) (hkj : k + 2 ≤ j) (hm : X.mg "str" = none) (h : WE X E e Γ O fun x O1 => sStrOwn C S x O1 Q)
    (hg : Gl X "str" := by rfl) (he : starEach [e] X.env = [(false, eval e X.env)] := by rfl) : WE X E (.Call (.Name "str" p) [e] [] pos) Γ O Q := by
  obtain ⟨f, fd, ps, ds, dvs, c, hm', F1, F4, F5, F6⟩ := M.ex
  have := F6 (fun _ => none)
  cases this
  cases F5
  exact w_callTy (cr_strOwn hm' F1 F4 (hr.mono hkj)) ok1_strOwn hm (by decide +kernel) h hg he
end
end RW

/-! RW: dicts whose keys are tuples, further: len, list, ==, !=; a display of one row. -/
namespace RW
open PySem PySem.Spec PyProof.Rows L2
section
variable {prog : Program} {w : World} {κ : Type} [DecidableEq κ] {kk : HeapKind prog w κ} {A : Around} {E : Value → Shared → Prop} {s : Shared}
/-- the rows of one dict against another one's: res i tells of the i-th -/
theorem pairs_same {nm : String} {d1 d2 : Addr} {xs ys : List (κ × Addr × Value)} {res : Nat → Bool} {Q : Bool → Shared → Prop} (f1 : (d1 == sysModules) = false) (f2 : (d2 == sysModules) = false) (h1 : s.heap.DictOfH kk d1 xs) (h2 : s.heap.DictOfH kk d2 ys) (hu : kk.room A)
    (hit : xs.length = ys.length → ∀ (i : Nat) (x : κ × Addr × Value), xs[i]? = some x → (atKey ys x.1 = none ∧ res i = false) ∨ ∃ b y, atKey ys x.1 = some (b, y) ∧ SeqAt.EqAt A s x.2.2 y (res i)) (h : Q (xs.length == ys.length && (List.range xs.length).all res) s) :
    wpAny (model prog w) A (Builtin.Dict.samePairs nm d1 d2) Q E s := by
  obtain ⟨o1, e1, p1, g1, c1, t1, l1, k1, n1⟩ := h1
  obtain ⟨o2, e2, p2, g2, c2, t2, l2, k2, n2⟩ := h2
  have z1 : e1.size = xs.length := size_of_entries l1
  have z2 : e2.size = ys.length := size_of_entries l2
  unfold Builtin.Dict.samePairs Builtin.Dict.showsAll
  rw [if_neg (by rw [f1]; decide), if_neg (by rw [f2]; decide)]
  refine wpAny_bind (wpAny_pure (wpAny_bind (wpAny_pure (wpAny_bind (wpAny_dictEntries g1 t1 ?_)))))
  dsimp only
  refine wpAny_bind (wpAny_dictEntries g2 t2 ?_)
  by_cases hz : e1.size = e2.size
  rotate_left
  · rw [if_pos (by simpa using hz)]
    have hne : (xs.length == ys.length) = false := by rw [← z1, ← z2]; simpa using hz
    rw [hne, Bool.false_and] at h
    exact wpAny_bind (wpAny_rule (wpAny_pure h))
  have hl : xs.length = ys.length := by omega
  have hit := hit hl
  rw [hl, beq_self_eq_true, Bool.true_and, ← hl] at h
  rw [if_neg (by simp [hz])]
  refine wpAny_bind (wpAny_dictEpoch g1 t1 (wpAny_bind ?_))
  rw [Std.Legacy.Range.forIn_eq_forIn_range']
  simp only [Std.Legacy.Range.size, Nat.sub_zero, Nat.add_sub_cancel, Nat.div_one]
  have hall : ∀ n, (∀ j, j < n → res j = true) → (List.range n).all res = true := fun n q => List.all_eq_true.mpr fun j hj => q j (List.mem_range.mp hj)
  refine wpAny_forIn_list _ (fun rest q s' => s' = s ∧ q = (none, ()) ∧ ∃ i, rest = List.range' i (e1.size - i) ∧ i ≤ e1.size ∧ ∀ j, j < i → res j = true) _ ?_ ?_ _ _ ⟨rfl, rfl, 0, by simp, Nat.zero_le _, fun j hj => absurd hj (Nat.not_lt_zero _)⟩
  · rintro z rest q s' ⟨rfl, rfl, i, hr, hi, hd⟩
    have hlt : i < e1.size := by
      rcases Nat.lt_or_ge i e1.size with q | q
      · exact q
      · rw [Nat.sub_eq_zero_of_le q] at hr; cases hr
    obtain ⟨m, hm⟩ : ∃ m, e1.size - i = m + 1 := ⟨e1.size - i - 1, by omega⟩
    rw [hm, List.range'_succ] at hr
    obtain ⟨rfl, hr⟩ := List.cons.inj hr
    have hm' : m = e1.size - (z + 1) := by omega
    refine wpAny_bind (wpAny_dictEntries g1 t1 ?_)
    obtain ⟨x, hx⟩ : ∃ x, xs[z]? = some x := ⟨_, List.getElem?_eq_getElem (by omega)⟩
    rw [entry_at l1 z, hx]
    have bad : res z = false → Q false s' := fun e => by
      have : (List.range xs.length).all res = false := by
        cases c : (List.range xs.length).all res with
        | false => rfl
        | true =>
          have := List.all_eq_true.mp c z (List.mem_range.mpr (by omega))
          rw [e] at this
          cases this
      rw [this] at h
      exact h
    show wpAny _ _ (holding [.ref x.2.1, x.2.2] _ >>= _) _ _ _
    refine wpAny_bind (wpAny_holding (wpAny_bind ?_))
    have key := k1 x (List.mem_of_getElem? hx)
    refine wpAny_dictFind_heap hu key g2 t2 l2 k2 n2 (fun none_ => ?_) fun j p hj => ?_
    · have hn : res z = false := by
        rcases hit z x hx with ⟨_, q⟩ | ⟨b, y, q, _⟩
        · exact q
        · obtain ⟨⟨k', b', y'⟩, hy, e⟩ : ∃ r, (ys.find? fun r => decide (r.1 = x.1)) = some r ∧ r.2 = (b, y) := by
            unfold atKey at q
            cases c : ys.find? fun r => decide (r.1 = x.1) with
            | none => rw [c] at q; cases q
            | some r => rw [c] at q; exact ⟨r, rfl, Option.some.inj q⟩
          obtain ⟨j, hj⟩ := List.mem_iff_getElem?.mp (List.mem_of_find?_eq_some hy)
          have ek : k' = x.1 := by simpa using List.find?_some hy
          subst ek
          exact absurd hj (none_ j _)
      refine wpAny_pure ?_
      show wpAny _ _ (if (!false) = true then _ else _) _ _ _
      rw [if_pos (by decide)]
      exact wpAny_pure (wpAny_pure (bad hn))
    · refine wpAny_bind (wpAny_dictEntries g2 t2 ?_)
      rw [entry_at l2 j, hj]
      have hat : atKey ys x.1 = some p := by
        unfold atKey
        cases c : ys.find? fun r => decide (r.1 = x.1) with
        | none =>
          have := List.find?_eq_none.mp c _ (List.mem_of_getElem? hj)
          simp at this
        | some r =>
          obtain ⟨j', hj'⟩ := List.mem_iff_getElem?.mp (List.mem_of_find?_eq_some c)
          have er : r.1 = x.1 := by simpa using List.find?_some c
          have e3 : (ys.map (·.1))[j']? = some x.1 := by rw [List.getElem?_map, hj']; exact congrArg some er
          have e4 : (ys.map (·.1))[j]? = some x.1 := by rw [List.getElem?_map, hj]; rfl
          have ej : j' = j := by
            have b1 := (List.getElem?_eq_some_iff.mp e3)
            have b2 := (List.getElem?_eq_some_iff.mp e4)
            obtain ⟨b1, b3⟩ := b1
            obtain ⟨b2, b4⟩ := b2
            exact (List.getElem_inj (h₀ := b1) (h₁ := b2) n2).mp (b3.trans b4.symm)
          subst ej
          rw [hj] at hj'
          cases hj'
          rfl
      rcases hit z x hx with ⟨q, _⟩ | ⟨b, y, q, eq⟩
      · rw [hat] at q; cases q
      · rw [hat] at q
        cases q
        refine wpAny_holding (eq prog w _ _ ?_)
        cases er : res z with
        | false =>
          show wpAny _ _ (if (!false) = true then _ else _) _ _ _
          rw [if_pos (by decide)]
          exact wpAny_pure (wpAny_pure (bad er))
        | true =>
          show wpAny _ _ (if (!true) = true then _ else _) _ _ _
          rw [if_neg (by decide)]
          refine wpAny_bind (wpAny_dictEpoch g1 t1 ?_)
          rw [if_neg (by simp)]
          refine wpAny_pure ⟨rfl, rfl, z + 1, by rw [hr, hm'], hlt, fun j hj => ?_⟩
          rcases Nat.lt_or_ge j z with c | c
          · exact hd j c
          · obtain rfl : j = z := by omega
            exact er
  · rintro q s' ⟨rfl, rfl, i, hr, hi, hd⟩
    have hin : i = e1.size := by
      rcases Nat.lt_or_ge i e1.size with q | q
      · obtain ⟨m, hm⟩ : ∃ m, e1.size - i = m + 1 := ⟨e1.size - i - 1, by omega⟩
        rw [hm, List.range'_succ] at hr
        cases hr
      · omega
    subst hin
    rw [z1] at hd
    rw [hall _ hd] at h
    exact wpAny_pure h
theorem dicts_cmp {op : CmpOp} {d1 d2 : Addr} {xs ys : List (κ × Addr × Value)} {res : Nat → Bool} {Q : Value → Shared → Prop} (hop : op = .Eq ∨ op = .NotEq) (f1 : (d1 == sysModules) = false) (f2 : (d2 == sysModules) = false) (h1 : s.heap.DictOfH kk d1 xs) (h2 : s.heap.DictOfH kk d2 ys) (hu : kk.room A.in1) (hu2 : A.units < cLine)
    (hit : xs.length = ys.length → ∀ (i : Nat) (x : κ × Addr × Value), xs[i]? = some x → (atKey ys x.1 = none ∧ res i = false) ∨ ∃ b y, atKey ys x.1 = some (b, y) ∧ SeqAt.EqAt A.in1 s x.2.2 y (res i)) (h : Q (.bool (if op = .Eq then xs.length == ys.length && (List.range xs.length).all res else !(xs.length == ys.length && (List.range xs.length).all res))) s) :
    wpAny (model prog w) A (richCompare op (.ref d1) (.ref d2)) Q E s := by
  rcases hop with rfl | rfl
  · refine wpAny_richCompare_same_room (op := .Eq) h1.typeIs h2.typeIs PySem.F.slot_dict_eq (wpAny_call_entry PySem.F.slot_dict_eq h1.typeIs PySem.F.entry_dict_eq ?_ (PySem.F.args_dict_eq_2 _ _)) hu2
    show wpAny _ _ (Builtin.Dict.dictSlotArgs "__eq__" ⟨[.ref d1, .ref d2], []⟩ >>= _) _ _ s
    unfold Builtin.Dict.dictSlotArgs
    refine wpAny_bind (wpAny_bind (wpAny_notOrdered_dict h1.typeIs ?_))
    refine wpAny_bind (m := slotArgs "__eq__" 1 _) (wpAny_pure (wpAny_pure ?_))
    refine wpAny_bind (wpAny_isInstance (T := "dict") h2.typeIs PySem.F.sub_dict_dict ?_)
    rw [if_neg (by decide)]
    refine wpAny_bind (wpAny_pure (wpAny_bind (wpAny_pure (wpAny_bind (pairs_same f1 f2 h1 h2 hu hit (wpAny_pure ⟨_, rfl, (fun z => nomatch z), ?_⟩))))))
    rw [if_pos rfl] at h
    simpa using h
  · refine wpAny_richCompare_same_room (op := .NotEq) h1.typeIs h2.typeIs PySem.F.slot_dict_ne (wpAny_call_entry PySem.F.slot_dict_ne h1.typeIs PySem.F.entry_dict_ne ?_ (PySem.F.args_dict_ne_2 _ _)) hu2
    show wpAny _ _ (Builtin.Dict.dictSlotArgs "__ne__" ⟨[.ref d1, .ref d2], []⟩ >>= _) _ _ s
    unfold Builtin.Dict.dictSlotArgs
    refine wpAny_bind (wpAny_bind (wpAny_notOrdered_dict h1.typeIs ?_))
    refine wpAny_bind (m := slotArgs "__ne__" 1 _) (wpAny_pure (wpAny_pure ?_))
    refine wpAny_bind (wpAny_isInstance (T := "dict") h2.typeIs PySem.F.sub_dict_dict ?_)
    rw [if_neg (by decide)]
    refine wpAny_bind (wpAny_pure (wpAny_bind (wpAny_pure (wpAny_bind (pairs_same f1 f2 h1 h2 hu hit (wpAny_pure ⟨_, rfl, (fun z => nomatch z), ?_⟩))))))
    rw [if_neg (by decide)] at h
    simpa using h
end
/-! ### over the layer's rows -/
/-- the rows of one as the other has them -/
def eqvN (ks ls : List (NestedKey × D)) : Bool := ks.length == ls.length && ks.all fun p => (valD ls p.1).any fun d => eqvD p.2 d
section
variable {X : Cx} {pins : List (Addr × Obj)} {σ : L2.St} {H G : Hp} {s : Shared}
theorem Rows3.get {K : PySem.W.Frag} : ∀ {xs : List (NestedKey × Addr × Value)} {kvs : List (NestedKey × D)} {vs : List V} {i : Nat} {x : NestedKey × Addr × Value}, Rows3 K H xs kvs vs → xs[i]? = Option.some x → ∃ d v, kvs[i]? = Option.some (x.1, d) ∧ RelV v x.2.2 ∧ Rep K H v d
  | [], _, _, _, _, _, h => by simp at h
  | _ :: _, [], _, _, _, r, _ => by have := r.keys; simp at this
  | y :: xs, p :: kvs, vs, i, x, r, h => by
    obtain ⟨h1, h2, h3, h4⟩ := r
    simp only [List.map_cons] at h1 h2 h3 h4
    obtain ⟨e1, e2⟩ := List.cons.inj h1
    cases h4 with | cons r1 r2 =>
    cases h2 with | cons v1 v2 =>
    cases h3 with | cons _ k2 =>
    cases i with
    | zero =>
      cases h
      exact ⟨p.2, _, by rw [e1]; rfl, v1, r1⟩
    | succ i => exact Rows3.get (i := i) ⟨e2, v2, k2, r2⟩ (by simpa using h)
theorem cmp_N {op : CmpOp} {A' : Around} {a b : Addr} {ks ls : List (NestedKey × D)} {Q : Value → Shared → Prop} {E : Value → Shared → Prop} (hop : op = .Eq ∨ op = .NotEq) (I : Inv X pins σ H s) (g1 : NAt X H G a ks) (g2 : NAt X H G b ls) (gd1 : ∀ p ∈ ks, goodD p.2 = true) (gd2 : ∀ p ∈ ls, goodD p.2 = true) (hu : A'.units + 70 < cLine)
    (h : Q (.bool (if op = .Eq then eqvN ks ls else !eqvN ks ls)) s) : wpAny (model X.prog X.w) A' (richCompare op (.ref a) (.ref b)) Q E s := by
  have sm := g1.1
  obtain ⟨o1, xs, vs, a1, a2, a3, a4⟩ := g1.dict I
  obtain ⟨o2, ys, us, b1, b2, b3, b4⟩ := g2.dict I
  have lx : xs.length = ks.length := by have := congrArg List.length a3.keys; simpa using this
  have ly : ys.length = ls.length := by have := congrArg List.length b3.keys; simpa using this
  refine dicts_cmp (kk := nestedKind X.prog X.w) (res := fun i => match ks[i]? with | some p => (valD ls p.1).any fun d => eqvD p.2 d | none => true) hop a2.far b2.far a4 b4 (by show A'.in1.units + 8 < cLine; have : A'.in1.units = A'.units + 1 := rfl; omega) (by omega) (fun hl i x hx => ?_) ?_
  · obtain ⟨d, v, e1, rv, rd⟩ := a3.get hx
    have f := b3.find x.1
    rw [e1]
    cases hv : valD ls x.1 with
    | none =>
      rw [hv] at f
      exact .inl ⟨f, by simp [hv]⟩
    | some d2 =>
      rw [hv] at f
      obtain ⟨v2, b', u2, f1, f2, f3⟩ := f
      refine .inr ⟨b', u2, f1, ?_⟩
      have gd := gd1 _ (List.mem_of_getElem? e1)
      have m2 : ∃ p ∈ ls, p.2 = d2 := by
        unfold valD at hv
        cases c : ls.find? fun p => decide (p.1 = x.1) with
        | none => rw [c] at hv; cases hv
        | some p => rw [c] at hv; exact ⟨p, List.mem_of_find?_eq_some c, Option.some.inj hv⟩
      obtain ⟨p2, hp2, rfl⟩ := m2
      have ge := gd2 p2 hp2
      simp only [goodD, Bool.and_eq_true] at gd ge
      obtain ⟨as, r1⟩ := Dp.reads I _ _ _ (Rep.dp (rd.mono sm) gd.1) rv
      obtain ⟨bs, r2⟩ := Dp.reads I _ _ _ (Rep.dp (f3.mono sm) ge.1) f2
      have q := PySem.W.keq_at (A := A') r1 r2 gd.2 ge.2 (by have : A'.in1.units = A'.units + 1 := rfl; omega)
      simp only [hv, Option.any_some]
      exact q
  · have e : (xs.length == ys.length && (List.range xs.length).all fun i => match ks[i]? with | some p => (valD ls p.1).any fun d => eqvD p.2 d | none => true) = eqvN ks ls := by
      unfold eqvN
      rw [lx, ly]
      congr 1
      rw [Bool.eq_iff_iff, List.all_eq_true, List.all_eq_true]
      constructor
      · intro q p hp
        obtain ⟨i, hi⟩ := List.mem_iff_getElem?.mp hp
        have := q i (List.mem_range.mpr (List.getElem?_eq_some_iff.mp hi).1)
        rw [hi] at this
        exact this
      · intro q i hi
        cases hk : ks[i]? with
        | none => rfl
        | some p => exact q p (List.mem_of_getElem? hk)
    rw [e]
    exact h
def rCmpN (X : Cx) (neg : Bool) : R2 := fun x y H Q => ∃ a b G ks ls, x = .ref a ∧ y = .ref b ∧ NAt X H G a ks ∧ NAt X H G b ls ∧ (∀ p ∈ ks, goodD p.2 = true) ∧ (∀ p ∈ ls, goodD p.2 = true) ∧ Q (.bl (if neg then !eqvN ks ls else eqvN ks ls)) H
theorem op_eqN (hu : X.A.units + 70 < cLine) : OpR X (compareOp .Eq) (rCmpN X false) := by
  intro pins s σ H x y v u Q I rx ry h
  obtain ⟨a, b, G, ks, ls, rfl, rfl, g1, g2, d1, d2, q⟩ := h
  obtain rfl : v = Value.ref a := rx
  obtain rfl : u = Value.ref b := ry
  exact cmp_N (op := .Eq) (.inl rfl) I g1 g2 d1 d2 hu ⟨.bl _, H, I, rfl, by simpa using q⟩
theorem op_neN (hu : X.A.units + 70 < cLine) : OpR X (compareOp .NotEq) (rCmpN X true) := by
  intro pins s σ H x y v u Q I rx ry h
  obtain ⟨a, b, G, ks, ls, rfl, rfl, g1, g2, d1, d2, q⟩ := h
  obtain rfl : v = Value.ref a := rx
  obtain rfl : u = Value.ref b := ry
  exact cmp_N (op := .NotEq) (.inr rfl) I g1 g2 d1 d2 hu ⟨.bl _, H, I, rfl, by simpa using q⟩
/-- len(d) -/
def rLenN (X : Cx) : List V → Hp → VK → Prop := fun xs H Q => ∃ a G kvs, xs = [.ref a] ∧ NAt X H G a kvs ∧ Q (.int ((kvs.length : Nat) : Int)) H
theorem cr_lenN : CallR X (.builtin "len") (rLenN X) := by
  intro pins s σ H xs us Q I r h
  obtain ⟨a, G, kvs, rfl, g, q⟩ := h
  rw [Vals.ref1 r]
  obtain ⟨o0, ys, vs, h1, h2, h3, hd⟩ := g.dict I
  have e1 : ys.length = kvs.length := by
    have := congrArg List.length h3.keys
    simpa using this
  have := h2.len
  rw [sizeLine_eq] at this
  refine call_len_dictH h2.far hd (by omega) ⟨.int _, H, I.tok _, ⟨_, rfl⟩, by rw [e1]; exact q⟩
/-- list(d) -/
def rListN (X : Cx) : List V → Hp → VK → Prop := fun xs H Q => ∃ a G kvs, xs = [.ref a] ∧ NAt X H G a kvs ∧ ∀ p vs, H p = none → Reps X.K G vs (kvs.map fun z => keyD z.1) → Q (.ref p) (upd H p (.lst vs))
theorem cr_listN (hc : X.calm = true) : CallR X (.type "list") (rListN X) := by
  intro pins s σ H xs us Q I r h
  obtain ⟨a, G, kvs, rfl, g, q⟩ := h
  rw [Vals.ref1 r]
  obtain ⟨o0, ys, vs, h1, h2, h3, hd⟩ := g.dict I
  obtain ⟨o, es, ep, g1, g2, g3, g4, g5, g6⟩ := hd
  have z1 : es.size = ys.length := size_of_entries g4
  have hz := h2.len
  refine PySem.W.kdl_call (kdl_raw h2.far g2 g3) (I.ok.hd hc) g1 (by omega) fun h' tk got c' kp e it => ?_
  have eg : got.toList = (ys.map fun x => x.2.1).map Value.ref := by
    refine List.ext_getElem? fun j => ?_
    rw [List.getElem?_map, List.getElem?_map]
    have hl : got.toList.length = ys.length := by rw [Array.length_toList, it.1]; exact z1
    cases hj : got.toList[j]? with
    | none => rw [List.getElem?_eq_none (by have := List.getElem?_eq_none_iff.mp hj; omega)]; rfl
    | some v =>
      obtain ⟨en, hen, hv⟩ := it.2 j v (by rw [← Array.getElem?_toList]; exact hj)
      rw [entry_at g4 j] at hen
      cases hb : ys[j]? with
      | none => rw [hb] at hen; cases hen
      | some y =>
        rw [hb] at hen
        cases hen
        rw [hv]
        rfl
  have rv : Vals ((ys.map fun x => x.2.1).map V.ref) got.toList := by rw [eg]; exact vals_refs _
  have em : ((ys.map fun x => x.2.1).map V.ref) = ys.map fun x => V.ref x.2.1 := by rw [List.map_map]; rfl
  rw [em] at rv
  refine ⟨.ref s.heap.objs.size, _, I.laid (t' := tk) (o := .lst (ys.map fun x => V.ref x.2.1)) kp (Nat.le_refl _) ⟨by rw [List.length_map]; exact hz, got.toList, c', rv, by rw [Array.toArray_toList]; exact e⟩, rfl, q _ _ (I.hok.fresh (Nat.le_refl _)) h3.ka⟩
end
section
variable {X : Cx} {E : ExP} {Γ : Env'} {O : Own} {e a b : Expr} {Q : PD} {pos p : Pos}
def sCmpN (X : Cx) (neg : Bool) (x y : D) (O : Own) (Q : PD) : Prop := ∃ ks ls, IsN X.w O x ks ∧ IsN X.w O y ls ∧ (∀ p ∈ ks, goodD p.2 = true) ∧ (∀ p ∈ ls, goodD p.2 = true) ∧ Q (.bl (if neg then !eqvN ks ls else eqvN ks ls)) O
theorem rok_cmpN {neg : Bool} : R2ok X (rCmpN X neg) (sCmpN X neg) := fun x y O v u H Hd Q Q' h rx ry ⟨ks, ls, i1, i2, g1, g2, q⟩ kk => by
  obtain ⟨a, rfl, n1⟩ := readN h rx i1
  obtain ⟨b, rfl, n2⟩ := readN h ry i2
  exact ⟨a, b, Hd, ks, ls, rfl, rfl, n1, n2, g1, g2, kk _ _ (.of h (.bl _) q)⟩
theorem w_eqN (hu : X.A.units + 70 < cLine) (h : WE X E a Γ O fun x O1 => WE X E b Γ O1 fun y O2 => sCmpN X false x y O2 Q) : WE X E (.Compare a [.Eq] [b] pos) Γ O Q := w_cmp2 (op_eqN hu) rok_cmpN (nomark _) h
theorem w_neN (hu : X.A.units + 70 < cLine) (h : WE X E a Γ O fun x O1 => WE X E b Γ O1 fun y O2 => sCmpN X true x y O2 Q) : WE X E (.Compare a [.NotEq] [b] pos) Γ O Q := w_cmp2 (op_neN hu) rok_cmpN (nomark _) h
theorem wt_eqN {Q : Bool → Own → Prop} (hu : X.A.units + 70 < cLine) (h : WE X E a Γ O fun x O1 => WE X E b Γ O1 fun y O2 => sCmpN X false x y O2 (sTest Q)) : WT X E (.Compare a [.Eq] [b] pos) Γ O Q := wt_cmp2 (op_eqN hu) rok_cmpN (nomark _) h
theorem wt_neN {Q : Bool → Own → Prop} (hu : X.A.units + 70 < cLine) (h : WE X E a Γ O fun x O1 => WE X E b Γ O1 fun y O2 => sCmpN X true x y O2 (sTest Q)) : WT X E (.Compare a [.NotEq] [b] pos) Γ O Q := wt_cmp2 (op_neN hu) rok_cmpN (nomark _) h
theorem w_lenN (hm : X.mg "len" = none) (h : WE X E e Γ O fun x O1 => ∃ kvs, IsN X.w O1 x kvs ∧ Q (.int ((kvs.length : Nat) : Int)) O1) (hg : Gl X "len" := by rfl) (he : starEach [e] X.env = [(false, eval e X.env)] := by rfl) : WE X E (.Call (.Name "len" p) [e] [] pos) Γ O Q :=
  w_callB (S := fun x O Q => ∃ kvs, IsN X.w O x kvs ∧ Q (.int ((kvs.length : Nat) : Int)) O) cr_lenN (fun x O v H Hd Q Q' h r ⟨kvs, i, q⟩ kk => by
    obtain ⟨a, rfl, n⟩ := readN h r i
    exact ⟨a, Hd, kvs, rfl, n, kk _ _ (.of h (.int _) q)⟩) hm (by decide +kernel) h hg he
theorem w_listN (hc : X.calm = true) (hm : X.mg "list" = none) (h : WE X E e Γ O fun x O1 => ∃ kvs, IsN X.w O1 x kvs ∧ Mk (kvs.map fun z => keyD z.1) O1 Q) (hg : Gl X "list" := by rfl) (he : starEach [e] X.env = [(false, eval e X.env)] := by rfl) : WE X E (.Call (.Name "list" p) [e] [] pos) Γ O Q :=
  w_callTy (S := fun x O Q => ∃ kvs, IsN X.w O x kvs ∧ Mk (kvs.map fun z => keyD z.1) O Q) (cr_listN hc) (fun x O v H Hd Q Q' h r ⟨kvs, i, q⟩ kk => by
    obtain ⟨a, rfl, n⟩ := readN h r i
    exact ⟨a, Hd, kvs, rfl, n, fun pn vs np rk => kk _ _ (.mk h np rk q)⟩) hm (by decide +kernel) h hg he
end
theorem Room.units70 {k : Nat} {A : Around} (r : Room k A) : A.units + 70 < cLine := by have := r.un; omega
/-- d == {}, d != {} -/
theorem eqvN_nil (ks : List (NestedKey × D)) : eqvN ks [] = ks.isEmpty := by
  cases ks <;> simp [eqvN]
end RW

/-! RW: {k: v} with a tuple as its key; x in a row of rows. -/
namespace RW
open PySem PySem.Spec PyProof.Rows L2
section
variable {X : Cx} {pins : List (Addr × Obj)} {σ : L2.St} {H : Hp} {s : Shared} {pos : Pos}
/-- {k: v} -/
def tNDisp (X : Cx) (tk tv : TE) : TE := fun σ H Q => ∀ p o, H p = none → (p == sysModules) = false → tk σ (upd H p (DtO p o X.w [])) fun x H1 => tv σ H1 fun y H2 => ∃ G k o2, KAt X G x k ∧ Same G H2 ∧ H2 p = some (DtO p o2 X.w []) ∧
  ∀ o' b u, x = .ref b → RelV y u → Q (.ref p) (upd H2 p (DtO p o' X.w [(k, b, u)]))
theorem pe_ndisp {k v : Expr} {tk tv : TE} (hu : X.A.units + 64 < cLine) (hk : PE X k tk) (hv : PE X v tv) : PE X (.Dict [some k] [v] pos) (tNDisp X tk tv) := by
  refine ⟨fun pins s σ H Q I q => ?_⟩
  have hn := I.hok.fresh (Nat.le_refl s.heap.objs.size)
  have far : (s.heap.objs.size == sysModules) = false := beq_eq_false_iff_ne.mpr (Ne.symm (Nat.ne_of_lt I.big))
  have d : (s.heap.push { cls := .type "dict", data := .dict #[] }).DictOfH (nestedKind X.prog X.w) s.heap.objs.size [] := ⟨_, #[], 0, Heap.get?_push_size _ rfl, ⟨rfl, rfl, rfl⟩, rfl, rfl, (fun x hx => nomatch hx), List.nodup_nil⟩
  obtain ⟨o, ok⟩ := dtO_ok (H' := fun b => H b) d
  have I1 := I.laid (a := s.heap.objs.size) (o := DtO s.heap.objs.size o X.w []) (h' := s.heap.push { cls := .type "dict", data := .dict #[] }) (t' := s.toks) (fun _ _ q => Heap.get?_push_of_some _ q) (Nat.le_refl _) ok
  have room : (nestedKind X.prog X.w).room X.A := by
    show X.A.units + 8 < cLine
    omega
  rw [arm_eval_Dict, zip_pairTrees [some k] [v] X.env pos rfl rfl, dictDisplay_pairs (pairTrees [some k] [v] X.env pos) (fun z => nomatch z) (by show 1 < 17; decide)]
  refine wpAny_bind (wpAny_standAt (wpAny_bind (wpAny_subDictH (knd := nestedKind X.prog X.w) (Q := fun d s' => wpAny (model X.prog X.w) X.A (pure (Value.ref d)) _ _ s') room (show 1 ≤ 15 by decide) ?_)))
  refine pairTrees_cons_walk (thn (hk.run pins _ σ _ _ I1 (q _ o hn far)) fun xk s1 ⟨x, H1, I2, rx, q1⟩ => thn (hv.run pins s1 σ H1 _ I2 q1) fun yv s2 ⟨y, H2, I3, ry, G, kk, o2, gk, sm, e, q2⟩ => pairTrees_nil_walk ?_)
  obtain ⟨b, rfl, ey, hkey⟩ := gk.is I3 sm rx
  obtain ⟨o2', xs2, e2⟩ : ∃ o xs, H2 s.heap.objs.size = some (DtO s.heap.objs.size o X.w xs) := ⟨_, _, e⟩
  have dd : s2.heap.DictOfH (nestedKind X.prog X.w) s.heap.objs.size [] := by
    obtain ⟨g1, g2, es, ep, g3, g4⟩ := dtO_get I3.hok e
    exact ⟨o2, es, ep, g1, g2, g3, g4, (fun x hx => nomatch hx), List.nodup_nil⟩
  refine ⟨[(kk, b, yv)], ⟨rfl, rfl, hkey, trivial⟩, dd, fun h' tk dd' hs => ?_⟩
  have he : ∃ q, h'.get? s.heap.objs.size = some q := let ⟨q, _, _, hq, _⟩ := dd'; ⟨q, hq⟩
  have em : storedAllH ([] : List (NestedKey × Addr × Value)) [(kk, b, yv)] = [(kk, b, yv)] := rfl
  rw [em] at dd'
  obtain ⟨o3, ok3⟩ := dtO_ok (H' := fun b => H2 b) dd'
  exact wpAny_pure ⟨.ref s.heap.objs.size, _, d_write (ob := DtO s.heap.objs.size o3 X.w [(kk, b, yv)]) I3 (by rw [e]; exact True.intro) hs he ok3, rfl, q2 o3 b yv ey ry⟩
/-- x in a list or a tuple whose items are data of any depth -/
def rInQ (K : PySem.W.Frag) (neg : Bool) : R2 := fun x y H Q => ∃ d ds, Dp K H x d ∧ (Dp K H y (.list ds) ∨ Dp K H y (.tuple ds)) ∧ SeqAt.shaped d = true ∧ SeqAt.shaped (.list ds) = true ∧ Q (.bl (xor neg (ds.any fun z => PyData.eqv z d))) H
theorem op_inQ (hu : X.A.units + 65 < cLine) : OpR X (compareOp .In) (rInQ X.K false) := by
  intro pins s σ H x y v u Q I rx ry h
  obtain ⟨d, ds, hd, he, sd, se, q⟩ := h
  rw [Bool.false_xor] at q
  obtain ⟨as, r1⟩ := Dp.reads I d x v hd rx
  rcases he with he | he
  · obtain ⟨bs, r2⟩ := Dp.reads I (.list ds) y u he ry
    exact SeqAt.in_list_reads r2 r1 (SeqAt.canLay_of_shaped se) (SeqAt.canLay_of_shaped sd) (room_in_shaped sd hu) ⟨.bl _, H, I, rfl, q⟩
  · obtain ⟨bs, r2⟩ := Dp.reads I (.tuple ds) y u he ry
    exact SeqAt.in_tuple_reads r2 r1 (SeqAt.canLay_of_shaped se) (SeqAt.canLay_of_shaped sd) (room_in_shaped sd hu) ⟨.bl _, H, I, rfl, q⟩
theorem op_ninQ (hu : X.A.units + 65 < cLine) : OpR X (compareOp .NotIn) (rInQ X.K true) := by
  intro pins s σ H x y v u Q I rx ry h
  obtain ⟨d, ds, hd, he, sd, se, q⟩ := h
  rw [Bool.true_xor] at q
  obtain ⟨as, r1⟩ := Dp.reads I d x v hd rx
  rcases he with he | he
  · obtain ⟨bs, r2⟩ := Dp.reads I (.list ds) y u he ry
    exact SeqAt.notIn_list_reads r2 r1 (SeqAt.canLay_of_shaped se) (SeqAt.canLay_of_shaped sd) (room_in_shaped sd hu) ⟨.bl _, H, I, rfl, q⟩
  · obtain ⟨bs, r2⟩ := Dp.reads I (.tuple ds) y u he ry
    exact SeqAt.notIn_tuple_reads r2 r1 (SeqAt.canLay_of_shaped se) (SeqAt.canLay_of_shaped sd) (room_in_shaped sd hu) ⟨.bl _, H, I, rfl, q⟩
end
/-- equal to one of them -/
def inQ (x : D) (ys : List D) : Bool := ys.any fun z => eqvD z x
theorem inQ_py (x : D) : ∀ ys : List D, ((toPys ys).any fun z => PyData.eqv z (toPy x)) = inQ x ys
  | [] => rfl
  | y :: ys => by
    have ih := inQ_py x ys
    unfold inQ at ih ⊢
    simp only [toPys, List.any_cons, ih]
    rfl
def sInQ (neg : Bool) (x y : D) (O : Own) (Q : PD) : Prop := ∃ ys, asS O y = some ys ∧ goodD x = true ∧ goodD (.lst ys) = true ∧ Q (.bl (xor neg (inQ x ys))) O
section
variable {X : Cx} {E : ExP} {Γ : Env'} {O : Own} {Q : PD} {a b k v : Expr} {pos : Pos}
theorem rok_inQ {neg : Bool} : R2ok X (rInQ X.K neg) (sInQ neg) := fun x y O v u H Hd Q Q' h rx ry ⟨ys, e, g1, g2, q⟩ kk => by
  unfold goodD at g1 g2
  rw [Bool.and_eq_true] at g1 g2
  obtain ⟨c, vs, rfl, g, r⟩ := h.readS ry e
  have hps : isPys ys = true := g2.1
  have hda := (r.mono h.same).dp hps
  refine ⟨toPy x, toPys ys, dp_mono h.same rx g1.1, ?_, g1.2, g2.2, kk _ _ (.of h (.bl _) (by rw [inQ_py]; exact q))⟩
  rcases g with g | g
  · exact .inl (.lst g hda)
  · exact .inr (.tup g hda)
theorem w_inQ (hu : X.A.units + 65 < cLine) (h : WE X E a Γ O fun x O1 => WE X E b Γ O1 fun y O2 => sInQ false x y O2 Q) (hm : behindInMarks .In b = false := by rfl) : WE X E (.Compare a [.In] [b] pos) Γ O Q := w_cmp2 (op_inQ hu) rok_inQ hm h
theorem w_ninQ (hu : X.A.units + 65 < cLine) (h : WE X E a Γ O fun x O1 => WE X E b Γ O1 fun y O2 => sInQ true x y O2 Q) (hm : behindInMarks .NotIn b = false := by rfl) : WE X E (.Compare a [.NotIn] [b] pos) Γ O Q := w_cmp2 (op_ninQ hu) rok_inQ hm h
theorem wt_inQ {Q : Bool → Own → Prop} (hu : X.A.units + 65 < cLine) (h : WE X E a Γ O fun x O1 => WE X E b Γ O1 fun y O2 => sInQ false x y O2 (sTest Q)) (hm : behindInMarks .In b = false := by rfl) : WT X E (.Compare a [.In] [b] pos) Γ O Q := wt_cmp2 (op_inQ hu) rok_inQ hm h
theorem wt_ninQ {Q : Bool → Own → Prop} (hu : X.A.units + 65 < cLine) (h : WE X E a Γ O fun x O1 => WE X E b Γ O1 fun y O2 => sInQ true x y O2 (sTest Q)) (hm : behindInMarks .NotIn b = false := by rfl) : WT X E (.Compare a [.NotIn] [b] pos) Γ O Q := wt_cmp2 (op_ninQ hu) rok_inQ hm h
theorem w_ndisp (hu : X.A.units + 64 < cLine) (h : ∀ p, O p = none → WE X E k Γ (updO O p (.dt X.w [])) fun x O1 => WE X E v Γ O1 fun y O2 => ∃ ks, x = keyD (.tup ks) ∧ (NestedKey.tup ks).depth ≤ 8 ∧ O2 p = some (.dt X.w []) ∧ Q (.obj p) (updO O2 p (.dt X.w [(.tup ks, y)]))) :
    WE X E (.Dict [some k] [v] pos) Γ O Q := .mk fun W σ H Hd q =>
  wE_of (pe_ndisp hu peW peW) fun p ob hp far => by
    have q1 := q.go (Same.refl _) (q.h.put (c := .dt X.w []) (o := DtO p ob X.w []) (q.h.free hp) ⟨ob, [], [], upd_same, ⟨far, Nat.zero_le _, List.nodup_nil, rfl, (fun k hk => nomatch hk), .nil⟩, .nil, .nil⟩)
    refine (h p (q.h.freeO hp)).use q1 fun xk H1 x O1 Hd1 s1 p1 r1 q2 => q2.use p1 fun yv H2 y O2 Hd2 s2 p2 r2 ⟨ks, ex, dp, e, qq⟩ => ?_
    subst ex
    obtain ⟨n, o2, us, vs, g1, g2, g3, g4⟩ := p2.h.own p _ e
    have hus : us = [] := List.map_eq_nil_iff.mp g2.keys
    subst hus
    have kat := key_at (X := X) r1 dp
    refine ⟨Hd1, .tup ks, o2, kat, s2.trans p2.h.same, g1, fun o' b' u eb ru => ?_⟩
    refine ⟨.obj p, _, Hd2, s1.trans s2, p2.h.put (c := .dt X.w [(.tup ks, y)]) n ⟨o', [(.tup ks, b', u)], [yv], upd_same, ⟨far, by show 1 ≤ sizeLine; decide, by simp, rfl, (fun q hq => ?_), .cons ru .nil⟩, ?_, .cons r2 .nil⟩, .obj p, qq⟩
    · rw [List.mem_singleton.mp hq]
      exact dp
    · subst eb
      exact .cons (r1.mono s2) .nil
end
end RW

/-! RW: zip of a tuple and a list. -/
namespace RW
open PySem PySem.Spec PyProof.Rows L2
/-- the tuple at a and the list at b as they stand at each turn -/
def ItM (K : PySem.W.Frag) (a b : Addr) (m n : Nat) : It :=
  ⟨fun i H => ∃ (us vs : List V) (u v : V), SqT K H a us ∧ SqL K H b vs ∧ us.length = m ∧ vs.length = n ∧ us[i]? = some u ∧ vs[i]? = some v,
    fun i H r H' => ∃ T u v, r = .ref T ∧ H T = none ∧ H' = upd H T (.tup [u, v]) ∧ (∀ us, SqT K H a us → us[i]? = some u) ∧ ∀ vs, SqL K H b vs → vs[i]? = some v,
    fun i H => ∃ us vs : List V, SqT K H a us ∧ SqL K H b vs ∧ us.length = m ∧ vs.length = n ∧ (m ≤ i ∨ n ≤ i)⟩
def AtM (z TI TO i1 i2 a b : Addr) (m n i : Nat) (h : Heap) : Prop := (i ≤ m ∧ i ≤ n) ∧ IsZip h z TI TO .none ∧ IsTupOf2 h TI (.ref i1) (.ref i2) ∧ (∃ u v, IsTupOf2 h TO u v) ∧ h.IsTupleIter i1 a i ∧ h.IsListIter i2 b i
theorem sepM {z TI TO i1 i2 a b : Addr} (D : ZipApart z TI TO i1 i2 a b) : ZipSep2 z TI TO i1 i2 [i1, a] [i2, b] where
  TIz := D.TIz
  TOz := D.TOz
  TITO := D.TITO
  TIi1 := D.TIi1
  mem1 := by simp
  zf1 := by simp; exact ⟨D.i1z.symm, D.l1z.symm⟩
  Tf1 := by simp; exact ⟨D.TOi1, D.l1TO.symm⟩
  TIi2 := D.TIi2
  mem2 := by simp
  zf2 := by simp; exact ⟨D.i2z.symm, D.l2z.symm⟩
  Tf2 := by simp; exact ⟨D.TOi2, D.l2TO.symm⟩
  sep1_2 := by simp; exact ⟨D.i12, D.l2i1.symm⟩
  sep2_1 := by simp; exact ⟨D.i12.symm, D.l1i2.symm⟩
theorem memM {z TI TO i1 i2 c : Addr} (h : c ∈ [z, TI, TO, i1, i2]) : c = z ∨ c = TI ∨ c = TO ∨ c = i1 ∨ c = i2 := by simpa using h
theorem turn_M {P : Program} {w : World} {K : PySem.W.Frag} {elts : List Expr} {kk : Nat} {tpos : Pos} {a b z TI TO i1 i2 : Addr} {m n : Nat} (D : ZipApart z TI TO i1 i2 a b) :
    Turn P w K (.Tuple elts kk tpos) (ItM K a b m n) [z, TI, TO, i1, i2] z (AtM z TI TO i1 i2 a b m n) where
  mem := by simp
  obj := fun i h ⟨_, hZ, hIts, ⟨u, v, hOut⟩, ⟨o1, e1, _, d1⟩, ⟨o2, e2, _, d2⟩⟩ c hc => by
    rcases memM hc with rfl | rfl | rfl | rfl | rfl
    · exact ⟨_, hZ, fun v q => nomatch q⟩
    · exact ⟨_, hIts, fun v q => nomatch q⟩
    · exact ⟨_, hOut, fun v q => nomatch q⟩
    · exact ⟨o1, e1, fun v q => by rw [d1] at q; cases q⟩
    · exact ⟨o2, e2, fun v q => by rw [d2] at q; cases q⟩
  keep := fun i h h' ⟨hb, hZ, hIts, ⟨u, v, hOut⟩, n1, n2⟩ k =>
    ⟨hb, k z (by simp) _ hZ, k TI (by simp) _ hIts, ⟨u, v, k TO (by simp) _ hOut⟩, n1.at fun o q => k i1 (by simp) o q, n2.at fun o q => k i2 (by simp) o q⟩
  item := by
    intro X eP eW eK hc i pins s σ H E I hf ⟨⟨hb1, hb2⟩, hZ, hIts, ⟨u0, v0, hOut⟩, n1, n2⟩ ⟨us, vs, u, v, gU, gV, lU, lV, hu, hv⟩
    subst eP eW eK
    obtain ⟨its, rv, pU, _⟩ := I.tuple gU
    obtain ⟨its2, rv2, pV, _⟩ := I.list gV
    obtain ⟨x, hx, rx⟩ := rv.get hu
    obtain ⟨y, hy, ry⟩ := rv2.get hv
    have calm : X.A.in1.handled = none := I.ok.hd hc
    have zin : z < s.heap.objs.size := Heap.lt_size hZ
    have b1 : i < its.toArray.size := by rw [List.size_toArray]; exact (List.getElem?_eq_some_iff.mp hx).1
    have b2 : i < its2.toArray.size := by rw [List.size_toArray]; exact (List.getElem?_eq_some_iff.mp hy).1
    refine wpAny_pyNext_zipD2_item (sepM D) (Draws.tuple calm i1 a D.l1i1 its.toArray) (Draws.list calm i2 b D.l2i2 its2.toArray) hZ hIts hOut ⟨n1, pU⟩ ⟨n2, pV.isList⟩ b1 b2 fun x' y' h' tk qx qy zN oN m1 m2 new szN hk => ?_
    have ex : x' = x := by
      have qx : its.toArray[i]? = some x' := qx
      rw [List.getElem?_toArray, hx] at qx
      exact (Option.some.inj qx).symm
    have ey : y' = y := by
      have qy : its2.toArray[i]? = some y' := qy
      rw [List.getElem?_toArray, hy] at qy
      exact (Option.some.inj qy).symm
    subst ex ey
    refine ⟨_, rfl, wpAny_letOwnedTupleGo_zip (s := { s with heap := h', toks := tk }) zN fun h2 zE sb => ?_⟩
    have tE : h2.get? s.heap.objs.size = some { cls := .type "tuple", data := .seq #[x', y'] } := (sb.2 _ (Nat.ne_of_gt zin)).trans new
    have okN : ObjOk X.prog X.w (upd H s.heap.objs.size (.tup [u, v])) h2 s.heap.objs.size (.tup [u, v]) :=
      ⟨by show 2 ≤ sizeLine; decide, [x', y'], .cons rx (.cons ry .nil), ⟨_, tE, rfl, _, rfl⟩⟩
    have kN : ∀ c o, c ∉ [z, TI, TO, i1, i2] → s.heap.get? c = some o → h2.get? c = some o := fun c o nb q => by
      have nz : c ≠ z := fun e => nb (by simp [e])
      exact (sb.2 c nz).trans (hk c o nz (fun e => nb (by simp [e])) (fun e => nb (by simp [e])) (fun e => nb (by simp [e])) q)
    have IN := I.turnedNew (t' := tk) kN hf (Nat.le_refl _) okN
    refine ⟨.ref s.heap.objs.size, _, IN, rfl, ⟨_, u, v, rfl, I.hok.fresh (Nat.le_refl _), rfl, fun l hl => by rw [I.tuple_inj hl gU]; exact hu, fun l hl => by rw [I.list_inj hl gV]; exact hv⟩, ⟨⟨?_, ?_⟩, zE, ?_, ⟨x', y', ?_⟩, ?_, ?_⟩, fun c hcm => ?_⟩
    · have := (List.getElem?_eq_some_iff.mp hu).1
      omega
    · have := (List.getElem?_eq_some_iff.mp hv).1
      omega
    · exact (sb.2 _ D.TIz).trans (hk _ _ D.TIz D.TITO D.TIi1 D.TIi2 hIts)
    · exact (sb.2 _ D.TOz).trans oN
    · exact m1.1.at fun o q => (sb.2 _ D.i1z).trans q
    · exact m2.1.at fun o q => (sb.2 _ D.i2z).trans q
    · have old : c < s.heap.objs.size := by
        rcases memM hcm with rfl | rfl | rfl | rfl | rfl
        · exact zin
        · exact Heap.lt_size hIts
        · exact Heap.lt_size hOut
        · obtain ⟨_, e1, _⟩ := n1; exact Heap.lt_size e1
        · obtain ⟨_, e1, _⟩ := n2; exact Heap.lt_size e1
      rw [upd_ne (Nat.ne_of_lt old)]
      exact (hf c hcm).1
  done := by
    intro X eP eW eK hc i pins s σ H E I hf ⟨⟨hb1, hb2⟩, hZ, hIts, ⟨u0, v0, hOut⟩, n1, n2⟩ ⟨us, vs, gU, gV, lU, lV, hend⟩
    subst eP eW eK
    obtain ⟨its, rv, pU, _⟩ := I.tuple gU
    obtain ⟨its2, rv2, pV, _⟩ := I.list gV
    have calm : X.A.in1.handled = none := I.ok.hd hc
    have q1 : its.toArray.size = m := by rw [List.size_toArray, ← rv.length]; exact lU
    have q2 : its2.toArray.size = n := by rw [List.size_toArray, ← rv2.length]; exact lV
    refine wpAny_pyNext_zipD2_end (sepM D) (Draws.tuple calm i1 a D.l1i1 its.toArray) (Draws.list calm i2 b D.l2i2 its2.toArray) hZ hIts hOut ⟨n1, pU⟩ ⟨n2, pV.isList⟩ (by omega) (by omega) (by omega) fun h' tk hk => ?_
    exact ⟨rfl, I.turnedL (t' := tk) (ch := [z, TI, TO, i1, i2]) (fun c o nb q => hk c o (fun e => nb (by simp [e])) (fun e => nb (by simp [e])) (fun e => nb (by simp [e])) (fun e => nb (by simp [e])) q) hf⟩
  self := fun A i s Q E st h => wpAny_pyIter_zip st.2.1 h
def iZipM (K : PySem.W.Frag) (ta : TA) : TI := fun σ H R => ta σ H fun vs H1 => ∃ a b us ws, vs = [.ref a, .ref b] ∧ SqT K H1 a us ∧ SqL K H1 b ws ∧ R (ItM K a b us.length ws.length) H1
theorem pi_zipM {X : Cx} {e e2 : Expr} {ta : TA} {p pos tpos : Pos} {elts : List Expr} {kk : Nat} (hg : Gl X "zip") (hm : X.mg "zip" = none) (ha : PA X [e, e2] ta)
    (hs : starEach [e, e2] X.env = (false, eval e X.env) :: starEach [e2] X.env) (hpl : (backTo pos (starEach [e2] X.env)).any (·.1) = false) :
    PI X (.Tuple elts kk tpos) (.Call (.Name "zip" p) [e, e2] [] pos) (iZipM X.K ta) := by
  refine ⟨fun pins s σ H R I h => Call_ (ld_blt I hg hm PyProof.Rows.boot_zip (PyProof.Rows.callWith_type1 (thn (ha.run pos pins s σ H _ I h) fun us s1 ⟨vs, H1, I1, r1, a, b, xs, ys, ev, gU, gV, q⟩ => ?_) hs hpl))⟩
  subst ev
  cases r1 with | cons ra r1 =>
  cases r1 with | cons rb r1 =>
  cases r1
  cases ra
  cases rb
  obtain ⟨its, rv, pU, _⟩ := I1.tuple gU
  obtain ⟨its2, rv2, pV, _⟩ := I1.list gV
  obtain ⟨o1, ho1, _⟩ := id pU
  have new5 : ∀ c ∈ [s1.heap.objs.size + 4, s1.heap.objs.size + 2, s1.heap.objs.size + 3, s1.heap.objs.size, s1.heap.objs.size + 1], FpOk X pins H1 c := fun c hcm => by
    have hle : s1.heap.objs.size ≤ c := by
      rcases memM hcm with rfl | rfl | rfl | rfl | rfl <;> omega
    exact I1.fpOk hle (I1.hok.fresh hle)
  refine zip_begins2 (begins_tuple a its.toArray) (begins_list b its2.toArray) pU pV.isList fun h' hZ hIts hOut g1 g2 hsz hk => wpAny_pyIter_zip hZ ?_
  have I2 : Inv X pins σ H1 { s1 with heap := h' } := I1.kept (t' := s1.toks) hk
  exact ⟨s1.heap.objs.size + 4, _, _, _, H1, rfl, I2, turn_M (PySem.W.ktu_apart s1.heap.objs.size a b (Heap.lt_size ho1) pV.lt), ⟨⟨Nat.zero_le _, Nat.zero_le _⟩, hZ, hIts, ⟨_, _, hOut⟩, ⟨_, g1, rfl, rfl⟩, ⟨_, g2, rfl, rfl⟩⟩, new5, q⟩
/-- for x, y in zip(xs, ys), xs a tuple, ys a list -/
theorem wi_zipM {X : Cx} {E : ExP} {Γ : Env'} {O : Own} {l l2 : Expr} {p pos : Pos} {elts : List Expr} {kk : Nat} {tpos : Pos} {R : (Own → Prop) → List D → Own → Prop} (hm : X.mg "zip" = none)
    (h : WA X E [l, l2] Γ O fun ds O1 => ∃ xs y ys, ds = [.tup xs, y] ∧ asL O1 y = some ys ∧ R (fun O => asL O y = some ys) (zipD xs ys) O1)
    (hg : Gl X "zip" := by rfl) (hs : starEach [l, l2] X.env = (false, eval l X.env) :: starEach [l2] X.env := by rfl) (hpl : (backTo pos (starEach [l2] X.env)).any (·.1) = false := by rfl) : WI X E (.Tuple elts kk tpos) (.Call (.Name "zip" p) [l, l2] [] pos) Γ O R := .mk fun W σ H Hd q =>
  wI_of (pi_zipM hg hm paW hs hpl) (h.use q fun vs H1 ds O1 Hd1 s1 p1 r1 ⟨xs, y, ys, e, ey, qq⟩ => by
    subst e
    cases r1 with | cons rx r1 =>
    cases r1 with | cons ry r1 =>
    cases r1
    cases rx with | @tup a vx _ gx rx =>
    obtain ⟨b, vy, e2, gy, ry2⟩ := p1.h.readL ry ey
    subst e2
    refine ⟨a, b, vx, vy, rfl, Same.sqT p1.h.same gx.sqT, gy, _, _, O1, Hd1, s1, p1.h, fun i H2 Hd2 O2 s2 h2 g2 => ?_, qq⟩
    have gx' : SqT X.K H2 a vx := Same.sqT h2.same (Same.sqT s2 gx.sqT)
    obtain ⟨b', vy', e2, gy', ry'⟩ := h2.readL (ry.mono s2) g2
    cases e2
    have ly : vy'.length = vy.length := by rw [ry'.length, ry2.length]
    refine ⟨fun d hd => ?_, fun hl => ⟨vx, vy', gx', gy', rfl, ly, by rw [← ly, rx.length, ry'.length]; rw [zipD_len] at hl; omega⟩⟩
    obtain ⟨x', y', hx, hy, rfl⟩ := zipD_get hd
    obtain ⟨v, hv, rv⟩ := (rx.mono s2).get hx
    obtain ⟨u, hu, ru⟩ := ry'.get hy
    refine ⟨⟨vx, vy', v, u, gx', gy', rfl, ly, hv, hu⟩, fun z H' got => ?_⟩
    obtain ⟨T, v2, u2, e2, nT, e3, hz1, hz2⟩ := got
    have e4 := hz1 vx gx'
    rw [hv] at e4
    cases e4
    have e5 := hz2 vy' gy'
    rw [hu] at e5
    cases e5
    subst e2 e3
    have sn := same_new (o := HO.tup [v, u]) (h2.free nT)
    exact ⟨_, sn, h2.lay nT, .pr (.inl (.inl upd_same)) (.cons (rv.mono sn) (.cons (ru.mono sn) .nil))⟩)
end RW

/-! RW: dicts of numbers and texts: len, pop, list, sorted, a copy, two rows shown; a dict of a row of pairs; a text taken out of a list. -/
namespace RW
open PySem PySem.Spec PyProof.Rows L2
section
variable {K : PySem.W.Frag} {H : Hp}
theorem Rows2.drop {k : Key} : ∀ {us : List (Key × Value)} {kvs : List (Key × D)} {vs : List V}, Rows2 K H us kvs vs → ∃ vs', Rows2 K H (without us k) (dropD kvs k) vs'
  | [], [], vs, h => ⟨vs, h⟩
  | [], _ :: _, _, h => by have := h.keys; simp at this
  | _ :: _, [], _, h => by have := h.keys; simp at this
  | x :: us, p :: kvs, vs, h => by
    obtain ⟨h1, h2, h4⟩ := h
    simp only [List.map_cons] at h1 h2 h4
    obtain ⟨e1, e2⟩ := List.cons.inj h1
    cases h4 with | @cons v0 vs0 _ _ r1 r2 =>
    cases h2 with | cons v1 v2 =>
    obtain ⟨vs', g1, g2, g4⟩ := Rows2.drop (k := k) ⟨e2, v2, r2⟩
    by_cases hk : p.1 = k
    · have hx : x.1 = k := e1.trans hk
      refine ⟨vs', ?_⟩
      have a1 : without (x :: us) k = without us k := by simp [without, hx]
      have a2 : dropD (p :: kvs) k = dropD kvs k := by simp [dropD, hk]
      rw [a1, a2]
      exact ⟨g1, g2, g4⟩
    · have hx : ¬ x.1 = k := fun z => hk (e1.symm.trans z)
      refine ⟨v0 :: vs', ?_⟩
      have a1 : without (x :: us) k = x :: without us k := by simp [without, hx]
      have a2 : dropD (p :: kvs) k = p :: dropD kvs k := by simp [dropD, hk]
      rw [a1, a2]
      exact ⟨by simp only [List.map_cons]; rw [e1, g1], .cons v1 g2, .cons r1 g4⟩
theorem Rows2.len {us : List (Key × Value)} {kvs : List (Key × D)} {vs : List V} (h : Rows2 K H us kvs vs) : us.length = kvs.length := by
  have := congrArg List.length h.keys
  simpa using this
end
section
variable {X : Cx} {pins : List (Addr × Obj)} {σ : L2.St} {H G : Hp} {s : Shared}
theorem MAt.at' (I : Inv X pins σ H s) {a : Addr} {kvs : List (Key × D)} (h : MAt X H G a kvs) : s.TypeIs (.ref a) "dict" ∧ ∀ b, Value.ref a = .ref b → ∃ ob, s.heap.get? b = some ob ∧ ob.dict = none := by
  obtain ⟨o0, us, vs, h1, h2, h3, hd⟩ := h.dict I
  refine ⟨hd.typeIs, fun b q => ?_⟩
  cases q
  obtain ⟨ob, _, _, g1, g2, _⟩ := hd
  exact ⟨ob, g1, g2.2.1⟩
theorem key_part {k : Key} {v : V} {u : Value} (h : Rep X.K G v (kD k)) (r : RelV v u) : (keyPart u).isSome = true := by
  cases k with
  | inl i =>
    have h : Rep X.K G v (.int i) := h
    cases h
    obtain ⟨t, rfl⟩ : ∃ t, u = .int i t := r
    rfl
  | inr x =>
    have h : Rep X.K G v (.str x) := h
    cases h
    obtain ⟨t, rfl⟩ : ∃ t, u = .str x t := r
    rfl
/-- d.pop(k), there -/
def tMPop (X : Cx) (td ty : TE) : TE := fun σ H Q => td σ H fun x H1 => ∃ a, x = .ref a ∧ (∃ G kvs, MAt X H1 G a kvs) ∧ ty σ H1 fun y H2 => ∃ G kvs k d, MAt X H2 G a kvs ∧ Rep X.K G y (kD k) ∧ valD kvs k = some d ∧
  ∀ v o us' vs', Rep X.K G v d → DkOk a us' ((dropD kvs k).map (·.1)) vs' → Rows2 X.K G us' (dropD kvs k) vs' → Q v (upd H2 a (DkO X.prog X.w a o us'))
theorem pe_mpop {o e : Expr} {apos cpos : Pos} {td ty : TE} (ho : PE X o td) (he : PE X e ty) (m : M1 X o "pop" apos e cpos) : PE X (.Call (.Attribute o "pop" apos) [e] [] cpos) (tMPop X td ty) := by
  refine ⟨fun pins s σ H Q I h => ?_⟩
  refine wpAny_Call_method m.base m.few m.line PySem.F.plainAttrs_dict PySem.F.slot_dict_pop PySem.F.type_dict_pop (thn (ho.run pins s σ H _ I h) fun u s1 ⟨x, H1, I1, rx, a, ex, ⟨G0, kvs0, g0⟩, q1⟩ => ?_)
  subst ex
  obtain rfl : u = Value.ref a := rx
  obtain ⟨t1, t2⟩ := g0.at' I1
  refine ⟨t1, t2, ?_⟩
  rw [m.trees]
  refine Calls.callWith_builtin rfl (Calls.evalArgs_plain (Calls.spliced_cons (thn (he.run pins s1 σ H1 _ I1 q1) fun iv s2 ⟨y, H2, I2, ry, G, kvs, k, d, g, gk, hv, q2⟩ => Calls.spliced_nil ?_)))
  obtain ⟨o0, us, vs, h1, h2, h3, hd⟩ := g.dict I2
  have f := h3.find k
  rw [hv] at f
  obtain ⟨v, u2, f1, f2, f3⟩ := f
  refine call_meetsIn PySem.F.slot_dict_pop hd.typeIs PySem.F.entry_dict_pop (PySem.F.args_dict_pop_2 _ _) (meets_dict_pop_there (mixKind X.prog X.w) a (show (mixKind X.prog X.w).is k iv = true from key_is gk ry) [] (.inl rfl) (key_part gk ry)) ⟨us, u2, hd, h2.len, f1, fun h' dd' hs' => ?_⟩
  have he : ∃ q, h'.get? a = some q := let ⟨q, _, _, hq, _⟩ := dd'; ⟨q, hq⟩
  obtain ⟨o1, ok1⟩ := dkO_ok (H' := fun b => H2 b) dd'
  have I4 := d_write (ob := DkO X.prog X.w a o1 (without us k)) (t' := s2.toks + 1) I2 (by rw [h1]; exact True.intro) hs' he ok1
  obtain ⟨vs', h5⟩ := h3.drop (k := k)
  exact ⟨v, _, I4, f2, q2 v _ _ vs' f3 ⟨h2.far, Nat.le_trans (List.length_filter_le _ _) h2.len, h5.keys, h5.vals⟩ h5⟩
/-- len(d), list(d), sorted(d), dict(d) -/
def rLenM (X : Cx) : List V → Hp → VK → Prop := fun xs H Q => ∃ a G kvs, xs = [.ref a] ∧ MAt X H G a kvs ∧ Q (.int ((kvs.length : Nat) : Int)) H
theorem cr_lenM : CallR X (.builtin "len") (rLenM X) := by
  intro pins s σ H xs us Q I r h
  obtain ⟨a, G, kvs, rfl, g, q⟩ := h
  rw [Vals.ref1 r]
  obtain ⟨o0, ys, vs, h1, h2, h3, hd⟩ := g.dict I
  have := h2.len
  rw [sizeLine_eq] at this
  refine call_len_dict h2.far hd (by omega) ⟨.int _, H, I.tok _, ⟨_, rfl⟩, by rw [h3.len]; exact q⟩
theorem keys_vals {K : PySem.W.Frag} {us : List (Key × Value)} {kvs : List (Key × D)} {vs : List V} (h : Rows2 K G us kvs vs) : Reps K G (us.map fun p => kV p.1) (kvs.map fun p => kD p.1) := by
  have e : (us.map fun p => kV p.1) = (kvs.map (·.1)).map kV := by
    rw [← h.keys, List.map_map]
    rfl
  rw [e, show (kvs.map fun p => kD p.1) = (kvs.map (·.1)).map kD by rw [List.map_map]; rfl]
  generalize kvs.map (·.1) = ks
  induction ks with
  | nil => exact .nil
  | cons k ks ih =>
    refine .cons ?_ ih
    cases k with
    | inl i => exact .int i
    | inr x => exact .str x
def rListM (X : Cx) : List V → Hp → VK → Prop := fun xs H Q => ∃ a G kvs, xs = [.ref a] ∧ MAt X H G a kvs ∧ ∀ p vs, H p = none → Reps X.K G vs (kvs.map fun z => kD z.1) → Q (.ref p) (upd H p (.lst vs))
theorem cr_listM (hc : X.calm = true) : CallR X (.type "list") (rListM X) := by
  intro pins s σ H xs us Q I r h
  obtain ⟨a, G, kvs, rfl, g, q⟩ := h
  rw [Vals.ref1 r]
  obtain ⟨o0, ys, vs, h1, h2, h3, hd⟩ := g.dict I
  obtain ⟨ep, hat⟩ := hd.dictAt
  refine PySem.W.kdl_call (PySem.W.kdl_dict (knd := mixKind X.prog X.w) (kvs := ys) (ep := ep) h2.far) (I.ok.hd hc) hat h2.len fun h' tk acc c' hk hD hacc => ?_
  have hv : Vals (ys.map fun p => kV p.1) acc.toList := keys_at (by rw [Array.length_toList]; exact hacc.1) fun j v e => hacc.2 j v (by rw [← Array.getElem?_toList]; exact e)
  exact ⟨.ref s.heap.objs.size, _, I.laid (t' := tk) (o := .lst (ys.map fun p => kV p.1)) hk (Nat.le_refl _) ⟨by rw [List.length_map]; exact h2.len, acc.toList, c', hv, by rw [Array.toArray_toList]; exact hD⟩, rfl, q _ _ (I.hok.fresh (Nat.le_refl _)) (keys_vals h3)⟩
def rSortM (X : Cx) : List V → Hp → VK → Prop := fun xs H Q => ∃ (a : Addr) (G : Hp) (kvs : List (Key × D)) (ks : List Str), xs = [.ref a] ∧ MAt X H G a kvs ∧ kvs.map (·.1) = ks.map Sum.inr ∧ ks.length < 64 ∧
    ∀ ys p, ys.Perm ks → sortedS ys = true → H p = none → Q (.ref p) (upd H p (.lst (ys.map V.str)))
theorem cr_sortM (hc : X.calm = true) : CallR X (.builtin "sorted") (rSortM X) := by
  intro pins s σ H xs us Q I r h
  obtain ⟨a, G, kvs, ks, rfl, g, hks, h64, q⟩ := h
  rw [Vals.ref1 r]
  obtain ⟨o0, ys0, vs, h1, h2, h3, hd⟩ := g.dict I
  obtain ⟨ep, hat⟩ := hd.dictAt
  have hkeys : ys0.map (·.1) = ks.map Sum.inr := h3.keys.trans hks
  have hl : ys0.length = ks.length := by
    have e := congrArg List.length hkeys
    simpa using e
  refine Calls.call_function_entry PyProof.Rows.kind_sorted PyProof.Rows.plain_sorted PyProof.Rows.entry_sorted (PyProof.Rows.args_sorted1 _) ?_
  unfold Builtin.«sorted»
  refine wpAny_bind (m := checkCount "sorted" 1 1 _) (wpAny_pure ?_)
  refine wpAny_bind (PySem.W.kdu_collect (A := X.A.in1) (PySem.W.kdl_dict (knd := mixKind X.prog X.w) (kvs := ys0) (ep := ep) h2.far) (I.ok.hd hc) hat h2.len fun h' tk acc hk hacc => ?_)
  have hal : acc.toList.length = ks.length := by rw [Array.length_toList, hacc.1, hl]
  have hS : StrsAre acc.toList ks := strs_at hal fun j v e => by
    obtain ⟨k, x, e1, e2⟩ := hacc.2 j v (by rw [← Array.getElem?_toList]; exact e)
    have e3 : (ys0.map (·.1))[j]? = some k := by rw [List.getElem?_map, e1]; rfl
    rw [hkeys, List.getElem?_map] at e3
    obtain ⟨y, hy, rfl⟩ := Option.map_eq_some_iff.mp e3
    obtain ⟨t, ev⟩ := Value.isStrOf_shape (x := y) (v := v) e2
    exact ⟨y, t, hy, ev⟩
  have I1 : Inv X pins σ H { s with heap := h', toks := tk } := I.kept hk
  refine wpAny_bind (wpAny_newList ?_ (by rw [hal, sizeLine_eq]; omega))
  have hoL : (h'.push (seqObj "list" acc.toList.toArray 0)).get? h'.objs.size = some (seqObj "list" acc.toList.toArray 0) := Heap.get?_push_size _ rfl
  show wpAny _ _ _ _ _ { s with heap := h'.push (seqObj "list" acc.toList.toArray 0), toks := tk }
  refine wpAny_bind (wpAny_holding (wpAny_call_entry PyProof.Rows.slot_list_sort ⟨_, hoL, rfl⟩ PyProof.Rows.entry_list_sort (list_sort_treeK strKind_oneLt (s := { s with heap := h'.push (seqObj "list" acc.toList.toArray 0), toks := tk }) hoL hS.keysOf
    (fun v₁ v₂ rest e => keyKind_strs (by rw [← e]; exact hS)) (by rw [hal]; exact h64) fun st' hp hs => ⟨_, rfl, ?_⟩) (PyProof.Rows.args_list_sort _)))
  obtain ⟨ys, g1, g2, g3⟩ := sorted_out_str hS hp hs
  obtain ⟨e', he'⟩ := PyProof.Rows.sortedHeap_at (vs := acc.toList) (out := (arrOf st').map (·.2)) hoL
  have hlen : (ys.map V.str).length ≤ sizeLine := by
    rw [List.length_map, g2.length_eq]
    exact Nat.le_trans (Nat.le_of_lt h64) (by decide)
  refine wpAny_pure ⟨_, rfl, .ref h'.objs.size, _, I1.laid (t' := tk) (o := .lst (ys.map V.str)) (fun b u e => ?_) (Nat.le_refl _) ⟨hlen, ((arrOf st').map (·.2)).toList, e', vals_of_strs g1, by rw [Array.toArray_toList]; exact he'⟩, rfl, q ys _ g2 g3 (I1.hok.fresh (Nat.le_refl _))⟩
  have hb : b < h'.objs.size := Heap.lt_size e
  rw [PyProof.Rows.sortedHeap_old (Nat.ne_of_lt hb) (by rw [size_push']; exact Nat.lt_succ_of_lt hb)]
  exact Heap.get?_push_of_some _ e
def rDictM (X : Cx) : List V → Hp → VK → Prop := fun xs H Q => ∃ a G kvs, xs = [.ref a] ∧ MAt X H G a kvs ∧ ∀ p o us vs, H p = none → DkOk p us (kvs.map (·.1)) vs → Rows2 X.K G us kvs vs → Q (.ref p) (upd H p (DkO X.prog X.w p o us))
theorem cr_dictM : CallR X (.type "dict") (rDictM X) := by
  intro pins s σ H xs us Q I r h
  obtain ⟨a, G, kvs, rfl, g, q⟩ := h
  rw [Vals.ref1 r]
  obtain ⟨o0, ys, vs, h1, h2, h3, hd⟩ := g.dict I
  refine kt_call_dict h2.far hd h2.len fun h' d' hs => ?_
  have far : (s.heap.objs.size == sysModules) = false := beq_eq_false_iff_ne.mpr (Nat.ne_of_gt I.big)
  obtain ⟨o1, ok1⟩ := dkO_ok (H' := fun b => H b) d'
  refine ⟨.ref s.heap.objs.size, _, I.laid (t' := s.toks) (o := DkO X.prog X.w s.heap.objs.size o1 ys) (fun b u e => ?_) (Nat.le_refl _) ok1, rfl, q _ _ _ vs (I.hok.fresh (Nat.le_refl _)) ⟨far, h2.len, h3.keys, h3.vals⟩ h3⟩
  exact (hs.2 b (Nat.ne_of_lt (Heap.lt_size e))).trans (Heap.get?_push_of_some _ e)
/-- {k: v, m: w} -/
def tMDisp2 (X : Cx) (tk tv tm tw : TE) : TE := fun σ H Q => ∀ p o, H p = none → (p == sysModules) = false → tk σ (upd H p (DkO X.prog X.w p o [])) fun x H1 => tv σ H1 fun y H2 => tm σ H2 fun x' H3 => tw σ H3 fun y' H4 => ∃ k k' o2, x = kV k ∧ x' = kV k' ∧ k ≠ k' ∧ H4 p = some (DkO X.prog X.w p o2 []) ∧
  ∀ o' u u', RelV y u → RelV y' u' → Q (.ref p) (upd H4 p (DkO X.prog X.w p o' [(k, u), (k', u')]))
theorem pe_mdisp2 {k v m z : Expr} {tk tv tm tw : TE} {pos : Pos} (hk : PE X k tk) (hv : PE X v tv) (hm : PE X m tm) (hz : PE X z tw) : PE X (.Dict [some k, some m] [v, z] pos) (tMDisp2 X tk tv tm tw) := by
  refine ⟨fun pins s σ H Q I q => ?_⟩
  have hn := I.hok.fresh (Nat.le_refl s.heap.objs.size)
  have far : (s.heap.objs.size == sysModules) = false := beq_eq_false_iff_ne.mpr (Ne.symm (Nat.ne_of_lt I.big))
  have d := Heap.DictOf.new (knd := mixKind X.prog X.w) s.heap
  obtain ⟨o, ok⟩ := dkO_ok (H' := fun b => H b) d
  have I1 := I.laid (a := s.heap.objs.size) (o := DkO X.prog X.w s.heap.objs.size o []) (h' := s.heap.push { cls := .type "dict", data := .dict #[] }) (t' := s.toks) (fun _ _ q => Heap.get?_push_of_some _ q) (Nat.le_refl _) ok
  refine wpAny_Dict_walk (knd := mixKind X.prog X.w) rfl rfl (fun z => nomatch z) (show 2 ≤ 15 by decide) (pairTrees_cons_walk (thn (hk.run pins _ σ _ _ I1 (q _ o hn far)) fun xk s1 ⟨x, H1, I2, rx, q1⟩ => thn (hv.run pins s1 σ H1 _ I2 q1) fun yv s2 ⟨y, H2, I3, ry, q2⟩ =>
    pairTrees_cons_walk (thn (hm.run pins s2 σ H2 _ I3 q2) fun xm s3 ⟨x', H3, I4, rx', q3⟩ => thn (hz.run pins s3 σ H3 _ I4 q3) fun zv s4 ⟨y', H4, I5, ry', kk, kk', o2, ex, ex', hne, e, q4⟩ => pairTrees_nil_walk ?_)))
  subst ex ex'
  obtain ⟨rs, c, rk⟩ := carries_of (P := X.prog) (w := X.w) (kvs := [(kk, y), (kk', y')]) (ws := [(xk, yv), (xm, zv)]) (.cons ⟨rx, ry⟩ (.cons ⟨rx', ry'⟩ .nil))
  have dd := Heap.dictOf_iff.mpr ⟨o2, dkO_get I5.hok e⟩
  refine ⟨rs, c, dd, fun h' dd' hs => ?_⟩
  have he : ∃ q, h'.get? s.heap.objs.size = some q := let ⟨q, _, _, hq, _⟩ := dd'; ⟨q, hq⟩
  cases rk with | @cons a b l1 l2 r0 r1 =>
  cases r1 with | @cons a' b' l1' l2' r0' r1' =>
  cases r1'
  obtain ⟨b1, b2⟩ := b
  obtain ⟨b3, b4⟩ := b'
  obtain ⟨e1, e2⟩ := r0
  obtain ⟨e3, e4⟩ := r0'
  simp only at e1 e2 e3 e4
  subst e1 e3
  have em : merged ([] : List (Key × Value)) [(kk, b2), (kk', b4)] = [(kk, b2), (kk', b4)] := merged_nil_of_nodup _ (by simpa using hne)
  rw [em] at dd'
  obtain ⟨o3, ok3⟩ := dkO_ok (H' := fun b => H4 b) dd'
  exact ⟨.ref s.heap.objs.size, _, d_write (ob := DkO X.prog X.w s.heap.objs.size o3 [(kk, b2), (kk', b4)]) I5 (by rw [e]; exact True.intro) hs he ok3, rfl, q4 o3 b2 b4 e2 e4⟩
/-- xs.remove(x), xs a list of texts in which it is -/
theorem isStr_at (k : Str) : ∀ {vs : List Value} {ns : List Str}, StrsAre vs ns → ∀ (i : Nat) (h : i < vs.length), isStrOf k vs[i] = true ↔ ns[i]? = some k
  | _, _, .nil, i, h => absurd h (by simp)
  | _, _, .cons n t hr, 0, _ => by
    show (n == k) = true ↔ some n = some k
    rw [beq_iff_eq, Option.some_inj]
  | _, _, .cons n t hr, i + 1, h => isStr_at k hr i (Nat.lt_of_succ_lt_succ h)
theorem first_str : ∀ {ns : List Str} {k : Str}, k ∈ ns → ∃ j, j < ns.length ∧ ns[j]? = some k ∧ (∀ i, i < j → ns[i]? ≠ some k) ∧ ns.eraseIdx j = ns.erase k
  | a :: r, k, h => by
    by_cases e : a = k
    · subst e
      exact ⟨0, Nat.succ_pos _, rfl, fun i hi => absurd hi (Nat.not_lt_zero _), by simp⟩
    · obtain ⟨j, h1, h2, h3, h4⟩ := first_str ((List.mem_cons.mp h).resolve_left fun z => e z.symm)
      refine ⟨j + 1, Nat.succ_lt_succ h1, h2, fun i hi => ?_, ?_⟩
      · match i, hi with
        | 0, _ => exact fun z => e (Option.some.inj z)
        | i + 1, hi => exact h3 i (Nat.lt_of_succ_lt_succ hi)
      · rw [List.erase_cons_tail (by simpa using e), ← h4]
        rfl
def tRemS (K : PySem.W.Frag) (to te : TE) : TE := fun σ H Q => to σ H fun x H1 => tyV K "list" x H1 ∧ te σ H1 fun y H2 => ∃ (l : Addr) (ns : List Str) (k : Str), x = .ref l ∧ y = .str k ∧ H2 l = some (.lst (ns.map V.str)) ∧ k ∈ ns ∧ Q .non (upd H2 l (.lst ((ns.erase k).map V.str)))
theorem pe_remS {o e : Expr} {to te : TE} {apos cpos : Pos} (ho : PE X o to) (he : PE X e te) (hbase : attributeBase o "remove" X.env (eval o X.env) = eval o X.env)
    (hfew : ((backTo cpos (starEach [e] X.env)).all (fun x => !x.1) && (backToKw cpos (keywordEach [] X.env)).all (fun x => x.1.isSome) && decide (([e] : List Expr).length + ([] : List Keyword).length + (if ([] : List Keyword).isEmpty then 0 else 1) < 30)) = true)
    (hline : (apos.endLine == cpos.line) = true) (hs : starEach [e] X.env = (false, eval e X.env) :: starEach [] X.env) (hplain : (backTo cpos (starEach [] X.env)).any (·.1) = false) :
    PE X (.Call (.Attribute o "remove" apos) [e] [] cpos) (tRemS X.K to te) := by
  refine ⟨fun pins s σ H Q I h => ?_⟩
  refine wpAny_Call_method_late hbase hfew hline rfl (thn (ho.run pins s σ H _ I h) fun v s1 ⟨x, H1, I1, r1, ty, q1⟩ => ?_)
  obtain ⟨h1, h2⟩ := tyV_is I1 r1 ty
  refine ⟨"list", _, PySem.F.plainAttrs_list, PySem.F.slot_list_remove, PySem.F.type_list_remove, h1, h2, ?_⟩
  rw [hs]
  refine Calls.callWith_builtin (by show (false || (backTo cpos (starEach [] X.env)).any (·.1)) = false; rw [hplain]; rfl) (Calls.evalArgs_plain ?_)
  show wpAny _ _ (spliced ((false, eval e X.env) :: backTo cpos (starEach [] X.env))) _ _ s1
  refine Calls.spliced_cons (thn (he.run pins s1 σ H1 _ I1 q1) fun u s2 ⟨y, H2, I2, ry, l, ns, k, ex, ey, hH, hk, q⟩ => ?_)
  refine Calls.spliced_nil ?_
  subst ex ey
  cases (show v = Value.ref l from r1)
  obtain ⟨t, rfl⟩ := (show ∃ t, u = Value.str k t from ry)
  obtain ⟨z, its, n, r, hl, e0⟩ := I2.lstM hH
  have hi : StrsAre its ns := r.strs
  have heq := eq_isStrOf k t hi
  have hnl : ns.length = its.length := by rw [← hl, List.length_map]
  have hsz : its.toArray.size ≤ sizeLine := by rw [List.size_toArray, ← hl]; exact z
  obtain ⟨j, j1, j2, j3, j4⟩ := first_str hk
  have hj : j < its.length := by omega
  refine call_meets PySem.F.slot_list_remove ⟨_, e0, rfl⟩ PySem.F.entry_list_remove (PySem.F.args_list_remove_2 _ _)
    (MeetsSeq.list_remove l its.toArray n (.str k t) (isStrOf k) (fun y hy => heq y (by simpa using hy)) j (by rw [List.size_toArray]; exact hj) ?hit (fun i hi2 hlt => ?hno) hsz) ⟨e0, ?_⟩
  case hit =>
    show isStrOf k its[j] = true
    exact (isStr_at k hi j hj).mpr j2
  case hno =>
    have hi3 : i < its.length := by rw [List.size_toArray] at hi2; exact hi2
    show isStrOf k its[i] = false
    rw [Bool.eq_false_iff]
    exact fun w => j3 i hlt ((isStr_at k hi i hi3).mp w)
  have em : ∀ (ns : List Str) (j : Nat), (ns.map V.str).eraseIdx j = (ns.eraseIdx j).map V.str := fun ns => by
    induction ns with
    | nil => intro j; rfl
    | cons n r ih =>
      intro j
      cases j with
      | zero => rfl
      | succ j =>
        show V.str n :: (r.map V.str).eraseIdx j = V.str n :: (r.eraseIdx j).map V.str
        rw [ih j]
  have r2 : Vals ((ns.erase k).map V.str) (its.eraseIdx j) := by
    have w := r.eraseIdx j
    rw [em, j4] at w
    exact w
  refine ⟨.non, _, I2.lset (its' := its.eraseIdx j) hH e0 ?_ r2 ?_, rfl, q⟩
  · show its.toArray.eraseIdxIfInBounds j = (its.eraseIdx j).toArray
    rw [List.eraseIdxIfInBounds_toArray]
  · rw [List.length_map]
    have := List.length_erase_le (a := k) (l := ns)
    rw [List.length_map] at z
    omega
end
section
variable {X : Cx} {E : ExP} {Γ : Env'} {O : Own} {e o k v m z : Expr} {Q : PD} {pos p apos cpos : Pos}
theorem w_mpop (h : WE X E o Γ O fun x O1 => ∃ p, x = .obj p ∧ (∃ kvs, O1 p = some (.dk X.prog X.w kvs)) ∧ WE X E e Γ O1 fun y O2 => ∃ kvs k d, O2 p = some (.dk X.prog X.w kvs) ∧ y = kD k ∧ valD kvs k = some d ∧ Q d (updO O2 p (.dk X.prog X.w (dropD kvs k))))
    (m : M1 X o "pop" apos e pos := by exact ⟨rfl, rfl, rfl, rfl⟩) : WE X E (.Call (.Attribute o "pop" apos) [e] [] pos) Γ O Q := .mk fun W σ H Hd p =>
  wE_of (pe_mpop peW peW m) (h.use p fun v H1 x O1 Hd1 s1 p1 r1 ⟨pa, ex, ⟨kvs0, e0⟩, q1⟩ => by
    subst ex
    cases r1
    obtain ⟨a, ea, g0⟩ := readM p1.h (.obj pa) (.inr ⟨pa, rfl, e0⟩)
    cases ea
    refine ⟨pa, rfl, ⟨Hd1, kvs0, g0⟩, q1.use p1 fun u H2 y O2 Hd2 s2 p2 r2 ⟨kvs, k, d, e, ey, hv, q⟩ => ?_⟩
    subst ey
    obtain ⟨n, _⟩ := p2.h.own pa _ e
    obtain ⟨a', ea, g⟩ := readM p2.h (.obj pa) (.inr ⟨pa, rfl, e⟩)
    cases ea
    exact ⟨Hd2, kvs, k, d, g, r2, hv, fun v ob us' vs' rv ok rows => ⟨d, _, Hd2, s1.trans s2, p2.h.put (c := .dk X.prog X.w (dropD kvs k)) n ⟨ob, us', vs', upd_same, ok, rows.va⟩, rv, q⟩⟩)
theorem w_lenM (hm : X.mg "len" = none) (h : WE X E e Γ O fun x O1 => ∃ kvs, IsM X.prog X.w O1 x kvs ∧ Q (.int ((kvs.length : Nat) : Int)) O1) (hg : Gl X "len" := by rfl) (he : starEach [e] X.env = [(false, eval e X.env)] := by rfl) : WE X E (.Call (.Name "len" p) [e] [] pos) Γ O Q :=
  w_callB (S := fun x O Q => ∃ kvs, IsM X.prog X.w O x kvs ∧ Q (.int ((kvs.length : Nat) : Int)) O) cr_lenM (fun x O v H Hd Q Q' h r ⟨kvs, i, q⟩ kk => by
    obtain ⟨a, rfl, n⟩ := readM h r i
    exact ⟨a, Hd, kvs, rfl, n, kk _ _ (.of h (.int _) q)⟩) hm (by decide +kernel) h hg he
theorem w_listM (hc : X.calm = true) (hm : X.mg "list" = none) (h : WE X E e Γ O fun x O1 => ∃ kvs, IsM X.prog X.w O1 x kvs ∧ Mk (kvs.map fun z => kD z.1) O1 Q) (hg : Gl X "list" := by rfl) (he : starEach [e] X.env = [(false, eval e X.env)] := by rfl) : WE X E (.Call (.Name "list" p) [e] [] pos) Γ O Q :=
  w_callTy (S := fun x O Q => ∃ kvs, IsM X.prog X.w O x kvs ∧ Mk (kvs.map fun z => kD z.1) O Q) (cr_listM hc) (fun x O v H Hd Q Q' h r ⟨kvs, i, q⟩ kk => by
    obtain ⟨a, rfl, n⟩ := readM h r i
    exact ⟨a, Hd, kvs, rfl, n, fun pn vs np rk => kk _ _ (.mk h np rk q)⟩) hm (by decide +kernel) h hg he
abbrev sSortM (X : Cx) (x : D) (O : Own) (Q : PD) : Prop := ∃ (kvs : List (Key × D)) (ks : List Str), IsM X.prog X.w O x kvs ∧ kvs.map (·.1) = ks.map Sum.inr ∧ ks.length < 64 ∧ ∀ ys : List Str, ys.Perm ks → sortedS ys = true → Mk (ys.map .str) O Q
theorem w_sortM (hc : X.calm = true) (hm : X.mg "sorted" = none) (h : WE X E e Γ O fun x O1 => sSortM X x O1 Q) (hg : Gl X "sorted" := by rfl) (he : starEach [e] X.env = [(false, eval e X.env)] := by rfl) : WE X E (.Call (.Name "sorted" p) [e] [] pos) Γ O Q :=
  w_callB (S := sSortM X) (cr_sortM hc) (fun x O v H Hd Q Q' h r ⟨kvs, ks, i, e1, e2, q⟩ kk => by
    obtain ⟨a, rfl, n⟩ := readM h r i
    exact ⟨a, Hd, kvs, ks, rfl, n, e1, e2, fun ys pn h1 h2 np => kk _ _ (.mk h np (Reps.of_strs ys) (q ys h1 h2))⟩) hm (by decide +kernel) h hg he
theorem w_dictM (hm : X.mg "dict" = none) (h : WE X E e Γ O fun x O1 => ∃ kvs, IsM X.prog X.w O1 x kvs ∧ ∀ p, O1 p = none → Q (.obj p) (updO O1 p (.dk X.prog X.w kvs))) (hg : Gl X "dict" := by rfl) (he : starEach [e] X.env = [(false, eval e X.env)] := by rfl) : WE X E (.Call (.Name "dict" p) [e] [] pos) Γ O Q :=
  w_callTy (S := fun x O Q => ∃ kvs, IsM X.prog X.w O x kvs ∧ ∀ p, O p = none → Q (.obj p) (updO O p (.dk X.prog X.w kvs))) cr_dictM (fun x O v H Hd Q Q' h r ⟨kvs, i, q⟩ kk => by
    obtain ⟨a, rfl, n⟩ := readM h r i
    exact ⟨a, Hd, kvs, rfl, n, fun pn ob us vs np ok rows => kk _ _ ⟨.obj pn, _, Hd, Same.refl _, h.put (c := .dk X.prog X.w kvs) (h.free np) ⟨ob, us, vs, upd_same, ok, rows.va⟩, .obj pn, q pn (h.freeO np)⟩⟩) hm (by decide +kernel) h hg he
theorem w_mdisp2 (h : ∀ p, O p = none → WE X E k Γ (updO O p (.dk X.prog X.w [])) fun x O1 => WE X E v Γ O1 fun y O2 => WE X E m Γ O2 fun x' O3 => WE X E z Γ O3 fun y' O4 => ∃ kk kk', x = kD kk ∧ x' = kD kk' ∧ kk ≠ kk' ∧ O4 p = some (.dk X.prog X.w []) ∧ Q (.obj p) (updO O4 p (.dk X.prog X.w [(kk, y), (kk', y')]))) :
    WE X E (.Dict [some k, some m] [v, z] pos) Γ O Q := .mk fun W σ H Hd q =>
  wE_of (pe_mdisp2 peW peW peW peW) fun p ob hp far => by
    have q1 := q.go (Same.refl _) (q.h.put (c := .dk X.prog X.w []) (o := DkO X.prog X.w p ob []) (q.h.free hp) ⟨ob, [], [], upd_same, ⟨far, Nat.zero_le _, rfl, .nil⟩, .nil⟩)
    refine (h p (q.h.freeO hp)).use q1 fun xk H1 x O1 Hd1 s1 p1 r1 q2 => q2.use p1 fun yv H2 y O2 Hd2 s2 p2 r2 q3 => q3.use p2 fun xm H3 x' O3 Hd3 s3 p3 r3 q4 => q4.use p3 fun zv H4 y' O4 Hd4 s4 p4 r4 ⟨kk, kk', ex, ex', hne, e, qq⟩ => ?_
    subst ex ex'
    obtain ⟨n, o2, us, vs, g1, g2, g3⟩ := p4.h.own p _ e
    have hu : us = [] := List.map_eq_nil_iff.mp g2.keys
    subst hu
    have hkv : ∀ {G : Hp} {kk : Key} {xk : V}, Rep X.K G xk (kD kk) → xk = kV kk := fun {G kk xk} r => by
      cases kk with
      | inl i => cases r; rfl
      | inr z => cases r; rfl
    exact ⟨kk, kk', o2, hkv r1, hkv r3, hne, g1, fun o' u u' ru ru' => ⟨.obj p, _, Hd4, s1.trans (s2.trans (s3.trans s4)), p4.h.put (c := .dk X.prog X.w [(kk, y), (kk', y')]) n ⟨o', [(kk, u), (kk', u')], [yv, zv], upd_same, ⟨far, by show 2 ≤ sizeLine; decide, rfl, .cons ru (.cons ru' .nil)⟩, .cons ((r2.mono s3).mono s4) (.cons r4 .nil)⟩, .obj p, qq⟩⟩
end
end RW

namespace Tr
open PySem TL RW
abbrev Wd := List Nat
/-- an operation's word and how many things it takes -/
def Op (a : Wd) (n : Nat) : Prop := ∃ l : Wd, a = l ++ [48 + n] ∧ 2 ≤ n ∧ n ≤ 4 ∧ 1 ≤ l.length ∧ l.length ≤ 6 ∧ ∀ c ∈ l, 97 ≤ c ∧ c ≤ 122
inductive T where
  | leaf
  | node (op : Wd) (ks : List T)
mutual
def words : T → List Wd
  | .leaf => [[95]]
  | .node op ks => op :: wordsL ks
def wordsL : List T → List Wd
  | [] => []
  | t :: ts => words t ++ wordsL ts
end
mutual
def leaves : T → Nat
  | .leaf => 1
  | .node _ ks => leavesL ks
def leavesL : List T → Nat
  | [] => 0
  | t :: ts => leaves t + leavesL ts
end
mutual
def paths : T → List (List Wd)
  | .leaf => [[]]
  | .node op ks => (pathsL ks).map (op :: ·)
def pathsL : List T → List (List Wd)
  | [] => []
  | t :: ts => paths t ++ pathsL ts
end
mutual
def Wf : T → Prop
  | .leaf => True
  | .node op ks => Op op ks.length ∧ WfL ks
def WfL : List T → Prop
  | [] => True
  | t :: ts => Wf t ∧ WfL ts
end
mutual
def height : T → Nat
  | .leaf => 0
  | .node _ ks => heightL ks + 1
def heightL : List T → Nat
  | [] => 0
  | t :: ts => max (height t) (heightL ts)
end
theorem Op.len {a : Wd} {n : Nat} (h : Op a n) : 2 ≤ a.length ∧ a.length ≤ 7 := by
  obtain ⟨l, rfl, _, _, h1, h2, _⟩ := h
  rw [List.length_append, List.length_singleton]
  omega
theorem Op.ne {a : Wd} {n : Nat} (h : Op a n) : a ≠ [95] := fun e => by
  have := h.len.1
  rw [e] at this
  simp at this
theorem Op.inj {a : Wd} {n m : Nat} (h : Op a n) (g : Op a m) : n = m := by
  obtain ⟨l, rfl, _⟩ := h
  obtain ⟨k, e, _⟩ := g
  have := congrArg List.getLast? e
  simp at this
  omega
theorem wordsL_append : ∀ (xs ys : List T), wordsL (xs ++ ys) = wordsL xs ++ wordsL ys
  | [], ys => rfl
  | x :: xs, ys => by
    show words x ++ wordsL (xs ++ ys) = words x ++ wordsL xs ++ wordsL ys
    rw [wordsL_append xs ys, List.append_assoc]
theorem leavesL_append : ∀ (xs ys : List T), leavesL (xs ++ ys) = leavesL xs + leavesL ys
  | [], ys => by simp [leavesL]
  | x :: xs, ys => by
    show leaves x + leavesL (xs ++ ys) = leaves x + leavesL xs + leavesL ys
    rw [leavesL_append xs ys]
    omega
theorem WfL_append : ∀ (xs ys : List T), WfL (xs ++ ys) ↔ WfL xs ∧ WfL ys
  | [], ys => by simp [WfL]
  | x :: xs, ys => by
    show Wf x ∧ WfL (xs ++ ys) ↔ (Wf x ∧ WfL xs) ∧ WfL ys
    rw [WfL_append xs ys]
    constructor
    · rintro ⟨a, b, c⟩; exact ⟨⟨a, b⟩, c⟩
    · rintro ⟨⟨a, b⟩, c⟩; exact ⟨a, b, c⟩
theorem words_ne : ∀ t : T, words t ≠ []
  | .leaf => by simp [words]
  | .node op ks => by simp [words]
mutual
theorem leaves_pos : ∀ {t : T}, Wf t → 1 ≤ leaves t
  | .leaf, _ => Nat.le_refl 1
  | .node op [], h => by
    obtain ⟨⟨l, _, h2, _⟩, _⟩ := h
    simp at h2
  | .node op (k :: ks), h => by
    have := leaves_pos h.2.1
    show 1 ≤ leaves k + leavesL ks
    omega
end
mutual
/-- no more words than twice the leaves, less one -/
theorem words_len : ∀ {t : T}, Wf t → (words t).length + 1 ≤ 2 * leaves t
  | .leaf, _ => by simp [words, leaves]
  | .node op ks, h => by
    have h1 := wordsL_len h.2
    obtain ⟨l, _, h2, _⟩ := h.1
    show (op :: wordsL ks).length + 1 ≤ 2 * leavesL ks
    rw [List.length_cons]
    omega
theorem wordsL_len : ∀ {ts : List T}, WfL ts → (wordsL ts).length + ts.length ≤ 2 * leavesL ts
  | [], _ => by simp [wordsL, leavesL]
  | t :: ts, h => by
    have h1 := words_len h.1
    have h2 := wordsL_len h.2
    show (words t ++ wordsL ts).length + (ts.length + 1) ≤ 2 * (leaves t + leavesL ts)
    rw [List.length_append]
    omega
end
/-- a word of a tree -/
def IsW (a : Wd) : Prop := a = [95] ∨ ∃ n, Op a n
mutual
theorem words_are : ∀ {t : T}, Wf t → ∀ a ∈ words t, IsW a
  | .leaf, _, a, ha => .inl (by simpa [words] using ha)
  | .node op ks, h, a, ha => by
    rcases List.mem_cons.mp (show a ∈ op :: wordsL ks from ha) with e | ha
    · exact .inr ⟨_, e ▸ h.1⟩
    · exact wordsL_are h.2 a ha
theorem wordsL_are : ∀ {ts : List T}, WfL ts → ∀ a ∈ wordsL ts, IsW a
  | [], _, a, ha => by simp [wordsL] at ha
  | t :: ts, h, a, ha => by
    rcases List.mem_append.mp (show a ∈ words t ++ wordsL ts from ha) with ha | ha
    · exact words_are h.1 a ha
    · exact wordsL_are h.2 a ha
end
theorem IsW.len {a : Wd} (h : IsW a) : 1 ≤ a.length ∧ a.length ≤ 7 := by
  rcases h with rfl | ⟨n, h⟩
  · simp
  · have := h.len
    omega
mutual
theorem words_count : ∀ {t : T}, Wf t → (words t).countP (fun a => decide (a = [95])) = leaves t
  | .leaf, _ => rfl
  | .node op ks, h => by
    show (op :: wordsL ks).countP _ = leavesL ks
    rw [List.countP_cons, wordsL_count h.2, if_neg (by simpa using h.1.ne)]
    rfl
theorem wordsL_count : ∀ {ts : List T}, WfL ts → (wordsL ts).countP (fun a => decide (a = [95])) = leavesL ts
  | [], _ => rfl
  | t :: ts, h => by
    show (words t ++ wordsL ts).countP _ = leaves t + leavesL ts
    rw [List.countP_append, words_count h.1, wordsL_count h.2]
end
mutual
theorem paths_len : ∀ t : T, (paths t).length = leaves t
  | .leaf => rfl
  | .node op ks => by
    show ((pathsL ks).map _).length = leavesL ks
    rw [List.length_map, pathsL_len ks]
theorem pathsL_len : ∀ ts : List T, (pathsL ts).length = leavesL ts
  | [] => rfl
  | t :: ts => by
    show (paths t ++ pathsL ts).length = leaves t + leavesL ts
    rw [List.length_append, paths_len t, pathsL_len ts]
end
/-! a leaf of a tree exchanged for a tree -/
mutual
theorem graft : ∀ {t : T}, Wf t → ∀ {i : Nat} (u : T), Wf u → i < leaves t → ∃ (p q : List Wd) (t' : T), words t = p ++ [95] :: q ∧ p.countP (fun a => decide (a = [95])) = i ∧ words t' = p ++ (words u ++ q) ∧ Wf t' ∧ leaves t' + 1 = leaves t + leaves u
  | .leaf, _, i, u, hu, hi => by
    have hi : i < 1 := hi
    refine ⟨[], [], u, rfl, ?_, by simp, hu, ?_⟩
    · simp
      omega
    · show leaves u + 1 = 1 + leaves u
      omega
  | .node op ks, h, i, u, hu, hi => by
    obtain ⟨p, q, ks', e1, e2, e3, e4, e5, e6⟩ := graftL h.2 u hu (show i < leavesL ks from hi)
    refine ⟨op :: p, q, .node op ks', ?_, ?_, ?_, ⟨by rw [e6]; exact h.1, e4⟩, e5⟩
    · show op :: wordsL ks = _
      rw [e1]
      rfl
    · rw [List.countP_cons, e2, if_neg (by simpa using h.1.ne)]
      rfl
    · show op :: wordsL ks' = _
      rw [e3]
      rfl
theorem graftL : ∀ {ts : List T}, WfL ts → ∀ {i : Nat} (u : T), Wf u → i < leavesL ts → ∃ (p q : List Wd) (ts' : List T), wordsL ts = p ++ [95] :: q ∧ p.countP (fun a => decide (a = [95])) = i ∧ wordsL ts' = p ++ (words u ++ q) ∧ WfL ts' ∧ leavesL ts' + 1 = leavesL ts + leaves u ∧ ts'.length = ts.length
  | [], _, i, u, hu, hi => absurd hi (Nat.not_lt_zero _)
  | t :: ts, h, i, u, hu, hi => by
    have hi : i < leaves t + leavesL ts := hi
    by_cases hl : i < leaves t
    · obtain ⟨p, q, t', e1, e2, e3, e4, e5⟩ := graft h.1 u hu hl
      refine ⟨p, q ++ wordsL ts, t' :: ts, ?_, e2, ?_, ⟨e4, h.2⟩, ?_, rfl⟩
      · show words t ++ wordsL ts = _
        rw [e1]
        simp
      · show words t' ++ wordsL ts = _
        rw [e3]
        simp
      · show leaves t' + leavesL ts + 1 = leaves t + leavesL ts + leaves u
        omega
    · obtain ⟨p, q, ts', e1, e2, e3, e4, e5, e6⟩ := graftL h.2 (i := i - leaves t) u hu (by omega)
      refine ⟨words t ++ p, q, t :: ts', ?_, ?_, ?_, ⟨h.1, e4⟩, ?_, by simp [e6]⟩
      · show words t ++ wordsL ts = _
        rw [e1]
        simp
      · rw [List.countP_append, e2, words_count h.1]
        omega
      · show words t ++ wordsL ts' = _
        rw [e3]
        simp
      · show leaves t + leavesL ts' + 1 = leaves t + leavesL ts + leaves u
        omega
end
theorem kids_le : ∀ {ks : List T} {t : T}, t ∈ ks → WfL ks → Wf t ∧ leaves t ≤ leavesL ks ∧ height t ≤ heightL ks
  | k :: ks, t, h, hw => by
    rcases List.mem_cons.mp h with rfl | h
    · exact ⟨hw.1, by show _ ≤ leaves t + leavesL ks; omega, by show _ ≤ max (height t) (heightL ks); omega⟩
    · obtain ⟨h1, h2, h3⟩ := kids_le h hw.2
      exact ⟨h1, by show _ ≤ leaves k + leavesL ks; omega, by show _ ≤ max (height k) (heightL ks); omega⟩
mutual
theorem height_le : ∀ t : T, height t ≤ (words t).length
  | .leaf => Nat.zero_le _
  | .node op ks => by
    have := heightL_le ks
    show heightL ks + 1 ≤ (op :: wordsL ks).length
    rw [List.length_cons]
    omega
theorem heightL_le : ∀ ts : List T, heightL ts ≤ (wordsL ts).length
  | [] => Nat.zero_le _
  | t :: ts => by
    have h1 := height_le t
    have h2 := heightL_le ts
    show max (height t) (heightL ts) ≤ (words t ++ wordsL ts).length
    rw [List.length_append]
    omega
end
mutual
/-- no more leaves than words -/
theorem leaves_le : ∀ {t : T}, Wf t → leaves t ≤ (words t).length
  | .leaf, _ => Nat.le_refl 1
  | .node op ks, h => by
    have := leavesL_le h.2
    show leavesL ks ≤ (op :: wordsL ks).length
    rw [List.length_cons]
    omega
theorem leavesL_le : ∀ {ts : List T}, WfL ts → leavesL ts ≤ (wordsL ts).length
  | [], _ => Nat.zero_le _
  | t :: ts, h => by
    have h1 := leaves_le h.1
    have h2 := leavesL_le h.2
    show leaves t + leavesL ts ≤ (words t ++ wordsL ts).length
    rw [List.length_append]
    omega
end
theorem words_at : ∀ (ks : List T) (j : Nat) (u : T), ks[j]? = some u → (words u).length ≤ (wordsL ks).length
  | [], j, u, h => by simp at h
  | k :: ks, 0, u, h => by
    simp at h
    subst h
    show _ ≤ (words k ++ wordsL ks).length
    rw [List.length_append]
    omega
  | k :: ks, j + 1, u, h => by
    have := words_at ks j u (by simpa using h)
    show _ ≤ (words k ++ wordsL ks).length
    rw [List.length_append]
    omega
end Tr

namespace Tr
open PySem TL RW
/-- a word's arity, by its last sign -/
def roomF (a : Wd) : Nat := if a = [95] then 0 else a.getLast?.getD 48 - 48
abbrev isLf (a : Wd) : Bool := decide (a = [95])
/-- small letters and a figure behind -/
def opB (a : Wd) : Bool := match a.getLast? with
  | some c => decide (50 ≤ c ∧ c ≤ 52) && (decide (1 ≤ a.dropLast.length ∧ a.dropLast.length ≤ 6) && a.dropLast.all fun c => decide (97 ≤ c ∧ c ≤ 122))
  | none => false
theorem opB_op {a : Wd} (h : opB a = true) : Op a (roomF a) := by
  rcases List.eq_nil_or_concat a with e | ⟨b, c, e⟩
  · subst e; cases h
  · rw [List.concat_eq_append] at e
    subst e
    unfold opB at h
    simp only [List.getLast?_concat, List.dropLast_concat, Bool.and_eq_true, decide_eq_true_eq, List.all_eq_true] at h
    obtain ⟨h1, h2, h3⟩ := h
    have hne : b ++ [c] ≠ [95] := fun z => by
      have := congrArg List.length z
      rw [List.length_append, List.length_singleton, List.length_singleton] at this
      omega
    have er : roomF (b ++ [c]) = c - 48 := by
      unfold roomF
      rw [if_neg hne, List.getLast?_concat]
      rfl
    rw [er]
    exact ⟨b, by rw [show 48 + (c - 48) = c by omega], by omega, by omega, h2.1, h2.2, h3⟩
theorem op_opB {a : Wd} {n : Nat} (h : Op a n) : opB a = true ∧ roomF a = n := by
  obtain ⟨l, rfl, h1, h2, h3, h4, h5⟩ := h
  have hne : l ++ [48 + n] ≠ [95] := fun z => by
    have := congrArg List.length z
    rw [List.length_append, List.length_singleton, List.length_singleton] at this
    omega
  constructor
  · unfold opB
    simp only [List.getLast?_concat, List.dropLast_concat, Bool.and_eq_true, decide_eq_true_eq, List.all_eq_true]
    exact ⟨by omega, ⟨h3, h4⟩, h5⟩
  · unfold roomF
    rw [if_neg hne, List.getLast?_concat]
    show 48 + n - 48 = n
    omega
/-- words that make so many trees -/
def goF : Nat → List Wd → Bool
  | n, [] => decide (n = 0)
  | n, a :: ws => !decide (n = 0) && (isLf a || opB a) && goF (n - 1 + roomF a) ws
def isTreeB (ws : List Wd) : Bool := goF 1 ws && decide (ws.countP isLf ≤ 7)
theorem goF_trees : ∀ {ws : List Wd} {n : Nat}, goF n ws = true → ∃ ts : List T, WfL ts ∧ ts.length = n ∧ wordsL ts = ws
  | [], n, h => by
    have : n = 0 := of_decide_eq_true h
    exact ⟨[], trivial, this.symm, rfl⟩
  | a :: ws, n, h => by
    simp only [goF, Bool.and_eq_true, Bool.or_eq_true, Bool.not_eq_true', decide_eq_false_iff_not, decide_eq_true_eq] at h
    obtain ⟨⟨h1, h2⟩, h3⟩ := h
    obtain ⟨ts, g1, g2, g3⟩ := goF_trees h3
    by_cases hl : a = [95]
    · subst hl
      have hr : roomF [95] = 0 := rfl
      rw [hr] at g2
      exact ⟨.leaf :: ts, ⟨trivial, g1⟩, by simp; omega, by show [95] :: wordsL ts = _; rw [g3]⟩
    · have ho := opB_op (h2.resolve_left hl)
      have hw := g1
      rw [← List.take_append_drop (roomF a) ts] at hw
      obtain ⟨w1, w2⟩ := (WfL_append _ _).mp hw
      have hlen : (ts.take (roomF a)).length = roomF a := by rw [List.length_take]; omega
      refine ⟨.node a (ts.take (roomF a)) :: ts.drop (roomF a), ⟨⟨by rw [hlen]; exact ho, w1⟩, w2⟩, by simp; omega, ?_⟩
      show (a :: wordsL (ts.take (roomF a))) ++ wordsL (ts.drop (roomF a)) = _
      rw [List.cons_append, ← wordsL_append, List.take_append_drop, g3]
theorem trees_goF : ∀ {ts : List T}, WfL ts → ∀ (ws : List Wd) (n : Nat), goF (ts.length + n) (wordsL ts ++ ws) = goF n ws
  | [], _, ws, n => by simp [wordsL]
  | .leaf :: ts, h, ws, n => by
    have ih := trees_goF h.2 ws n
    show goF ((ts.length + 1) + n) ([95] :: (wordsL ts ++ ws)) = _
    rw [goF]
    have e : ts.length + 1 + n - 1 + roomF [95] = ts.length + n := by
      show ts.length + 1 + n - 1 + 0 = _
      omega
    rw [e, ih]
    simp
  | .node op ks :: ts, h, ws, n => by
    have h1 := trees_goF h.1.2 (wordsL ts ++ ws) (ts.length + n)
    have h2 := trees_goF h.2 ws n
    obtain ⟨h3, h4⟩ := op_opB h.1.1
    show goF ((ts.length + 1) + n) ((op :: wordsL ks ++ wordsL ts) ++ ws) = _
    rw [List.cons_append, List.cons_append, goF, h3, h4, show ts.length + 1 + n - 1 + ks.length = ks.length + (ts.length + n) by omega, List.append_assoc, h1, h2]
    simp
theorem isTreeB_good {ws : List Wd} (h : isTreeB ws = true) : ∃ t, Wf t ∧ leaves t ≤ 7 ∧ words t = ws := by
  unfold isTreeB at h
  rw [Bool.and_eq_true] at h
  obtain ⟨ts, g1, g2, g3⟩ := goF_trees h.1
  match ts, g2 with
  | [t], _ =>
    have e : words t = ws := by rw [← g3]; simp [wordsL]
    refine ⟨t, g1.1, ?_, e⟩
    rw [← words_count g1.1, e]
    exact of_decide_eq_true h.2
theorem good_isTreeB {t : T} (h : Wf t) (h7 : leaves t ≤ 7) : isTreeB (words t) = true := by
  unfold isTreeB
  have := trees_goF (ts := [t]) ⟨h, trivial⟩ [] 0
  simp only [wordsL, List.append_nil, List.length_singleton, Nat.add_zero] at this
  rw [this, words_count h, decide_eq_true h7]
  rfl
/-- what the words of this house are -/
def Ww (a : Wd) : Prop := a.length ≤ 8 ∧ ∀ c ∈ a, c < 128
theorem Op.ww {a : Wd} {n : Nat} (h : Op a n) : Ww a := by
  have hl := h.len
  obtain ⟨l, rfl, h1, h2, h3, h4, h5⟩ := h
  refine ⟨by omega, fun c hc => ?_⟩
  rcases List.mem_append.mp hc with hc | hc
  · have := h5 c hc
    omega
  · have := List.mem_singleton.mp hc
    omega
theorem words_ww {t : T} (h : Wf t) : ∀ a ∈ words t, Ww a := fun a ha => by
  rcases words_are h a ha with rfl | ⟨n, h⟩
  · exact ⟨by decide, by decide⟩
  · exact h.ww
end Tr

namespace Tr
open PySem TL RW
mutual
theorem words_inj : ∀ {t u : T}, Wf t → Wf u → ∀ {x y : List Wd}, words t ++ x = words u ++ y → t = u ∧ x = y
  | .leaf, .leaf, _, _, x, y, h => ⟨rfl, (List.cons.inj (show [95] :: x = [95] :: y from h)).2⟩
  | .leaf, .node op ks, _, hu, x, y, h => absurd (List.cons.inj (show [95] :: x = op :: (wordsL ks ++ y) from h)).1.symm hu.1.ne
  | .node op ks, .leaf, ht, _, x, y, h => absurd (List.cons.inj (show op :: (wordsL ks ++ x) = [95] :: y from h)).1 ht.1.ne
  | .node a ks, .node b js, ht, hu, x, y, h => by
    obtain ⟨h1, h2⟩ := List.cons.inj (show a :: (wordsL ks ++ x) = b :: (wordsL js ++ y) from h)
    subst h1
    obtain ⟨h3, h4⟩ := wordsL_inj ht.2 hu.2 (ht.1.inj hu.1) h2
    exact ⟨by rw [h3], h4⟩
theorem wordsL_inj : ∀ {ts us : List T}, WfL ts → WfL us → ts.length = us.length → ∀ {x y : List Wd}, wordsL ts ++ x = wordsL us ++ y → ts = us ∧ x = y
  | [], [], _, _, _, x, y, h => ⟨rfl, h⟩
  | [], _ :: _, _, _, h, _, _, _ => by simp at h
  | _ :: _, [], _, _, h, _, _, _ => by simp at h
  | t :: ts, u :: us, ht, hu, hl, x, y, h => by
    have h' : words t ++ (wordsL ts ++ x) = words u ++ (wordsL us ++ y) := by
      have : (words t ++ wordsL ts) ++ x = (words u ++ wordsL us) ++ y := h
      rwa [List.append_assoc, List.append_assoc] at this
    obtain ⟨h1, h2⟩ := words_inj ht.1 hu.1 h'
    obtain ⟨h3, h4⟩ := wordsL_inj ht.2 hu.2 (by simpa using hl) h2
    exact ⟨by rw [h1, h3], h4⟩
end
theorem words_eq {t u : T} (ht : Wf t) (hu : Wf u) (h : words t = words u) : t = u := (words_inj ht hu (x := []) (y := []) (by rw [h])).1
end Tr

namespace Tr
open PySem TL RW
mutual
/-- the part that begins at a place -/
def partAt : T → Nat → T
  | .leaf, _ => .leaf
  | .node op ks, 0 => .node op ks
  | .node _ ks, i + 1 => partAtL ks i
def partAtL : List T → Nat → T
  | [], _ => .leaf
  | t :: ts, i => if i < (words t).length then partAt t i else partAtL ts (i - (words t).length)
end
mutual
/-- a pattern stands at a tree's root -/
def holdsB : T → T → Bool
  | .leaf, _ => true
  | .node _ _, .leaf => false
  | .node a ks, .node b js => decide (a = b) && holdsBL ks js
def holdsBL : List T → List T → Bool
  | k :: ks, j :: js => holdsB k j && holdsBL ks js
  | _, _ => true
end
mutual
/-- the least tree in which two stand -/
def mergeT : T → T → Option T
  | .leaf, u => some u
  | .node a ks, .leaf => some (.node a ks)
  | .node a ks, .node b js => if a = b then (mergeL ks js).map (.node a) else none
def mergeL : List T → List T → Option (List T)
  | k :: ks, j :: js => match mergeT k j, mergeL ks js with
    | some x, some xs => some (x :: xs)
    | _, _ => none
  | _, _ => some []
end
abbrev isO (a : Wd) : Bool := !decide (a = [95])
abbrev nops (t : T) : Nat := (words t).countP isO
abbrev nopsL (ts : List T) : Nat := (wordsL ts).countP isO
theorem nops_node {op : Wd} {ks : List T} (h : op ≠ [95]) : nops (.node op ks) = nopsL ks + 1 := by
  show (op :: wordsL ks).countP isO = _
  rw [List.countP_cons, if_pos (by simpa [isO] using h)]
theorem nopsL_cons (t : T) (ts : List T) : nopsL (t :: ts) = nops t + nopsL ts := by
  show (words t ++ wordsL ts).countP isO = _
  rw [List.countP_append]
theorem wordsL_consL (t : T) (ts : List T) : (wordsL (t :: ts)).length = (words t).length + (wordsL ts).length := by
  show (words t ++ wordsL ts).length = _
  rw [List.length_append]
mutual
theorem holdsB_refl : ∀ t : T, holdsB t t = true
  | .leaf => by simp [holdsB]
  | .node a ks => by simp [holdsB, holdsBL_refl ks]
theorem holdsBL_refl : ∀ ts : List T, holdsBL ts ts = true
  | [] => by simp [holdsBL]
  | t :: ts => by simp [holdsBL, holdsB_refl t, holdsBL_refl ts]
end
theorem holdsB_leaf (u : T) : holdsB .leaf u = true := by simp [holdsB]
mutual
theorem merge_ok : ∀ {t u v : T}, Wf t → Wf u → mergeT t u = some v → Wf v ∧ holdsB t v = true ∧ holdsB u v = true ∧ (words v).length ≤ (words t).length + (words u).length ∧ nops v ≤ nops t + nops u ∧ (1 ≤ nops t → 1 ≤ nops u → nops v + 1 ≤ nops t + nops u)
  | .leaf, u, v, ht, hu, h => by
    simp only [mergeT, Option.some.injEq] at h
    subst h
    refine ⟨hu, holdsB_leaf _, holdsB_refl _, by omega, by omega, fun z => ?_⟩
    have : nops .leaf = 0 := rfl
    omega
  | .node a ks, .leaf, v, ht, hu, h => by
    simp only [mergeT, Option.some.injEq] at h
    subst h
    refine ⟨ht, holdsB_refl _, holdsB_leaf _, by omega, by omega, fun _ z => ?_⟩
    have : nops .leaf = 0 := rfl
    omega
  | .node a ks, .node b js, v, ht, hu, h => by
    simp only [mergeT] at h
    by_cases e : a = b
    · subst e
      rw [if_pos rfl] at h
      cases hm : mergeL ks js with
      | none => rw [hm] at h; cases h
      | some xs =>
        rw [hm] at h
        cases h
        have hl := ht.1.inj hu.1
        obtain ⟨h1, h2, h3, h4, h5, h6⟩ := mergeL_ok ht.2 hu.2 hl hm
        have n1 := nops_node (ks := ks) ht.1.ne
        have n2 := nops_node (ks := js) ht.1.ne
        have n3 := nops_node (ks := xs) ht.1.ne
        refine ⟨⟨by rw [h2]; exact ht.1, h1⟩, by simp [holdsB, h3], by simp [holdsB, h4], ?_, by omega, fun _ _ => by omega⟩
        show (a :: wordsL xs).length ≤ (a :: wordsL ks).length + (a :: wordsL js).length
        simp only [List.length_cons]
        omega
    · rw [if_neg e] at h
      cases h
theorem mergeL_ok : ∀ {ks js xs : List T}, WfL ks → WfL js → ks.length = js.length → mergeL ks js = some xs → WfL xs ∧ xs.length = ks.length ∧ holdsBL ks xs = true ∧ holdsBL js xs = true ∧ (wordsL xs).length ≤ (wordsL ks).length + (wordsL js).length ∧ nopsL xs ≤ nopsL ks + nopsL js
  | [], [], xs, _, _, _, h => by
    simp only [mergeL, Option.some.injEq] at h
    subst h
    exact ⟨trivial, rfl, by simp [holdsBL], by simp [holdsBL], Nat.zero_le _, Nat.zero_le _⟩
  | [], j :: js, xs, _, _, hl, h => by simp at hl
  | k :: ks, [], xs, _, _, hl, h => by simp at hl
  | k :: ks, j :: js, xs, hk, hj, hl, h => by
    simp only [mergeL] at h
    cases h1 : mergeT k j with
    | none => rw [h1] at h; cases h
    | some x =>
      cases h2 : mergeL ks js with
      | none => rw [h1, h2] at h; cases h
      | some ys =>
        rw [h1, h2] at h
        cases h
        obtain ⟨a1, a2, a3, a4, a5, _⟩ := merge_ok hk.1 hj.1 h1
        obtain ⟨b1, b2, b3, b4, b5, b6⟩ := mergeL_ok hk.2 hj.2 (by simpa using hl) h2
        have c1 := nopsL_cons x ys
        have c2 := nopsL_cons k ks
        have c3 := nopsL_cons j js
        have d1 := wordsL_consL x ys
        have d2 := wordsL_consL k ks
        have d3 := wordsL_consL j js
        exact ⟨⟨a1, b1⟩, by simp [b2], by simp [holdsBL, a2, b3], by simp [holdsBL, a3, b4], by omega, by omega⟩
end
theorem mergeL_snoc : ∀ {ks js : List T} {k j : T}, ks.length = js.length → mergeL (ks ++ [k]) (js ++ [j]) = (match mergeL ks js, mergeT k j with
    | some xs, some x => some (xs ++ [x])
    | _, _ => none)
  | [], [], k, j, _ => by
    simp only [List.nil_append, mergeL]
    cases mergeT k j <;> rfl
  | [], _ :: _, _, _, h => by simp at h
  | _ :: _, [], _, _, h => by simp at h
  | a :: ks, b :: js, k, j, h => by
    have ih := mergeL_snoc (ks := ks) (js := js) (k := k) (j := j) (by simpa using h)
    simp only [List.cons_append, mergeL, ih]
    cases mergeT a b <;> cases mergeL ks js <;> cases mergeT k j <;> rfl
theorem mergeL_app_none : ∀ {ks js ks2 js2 : List T}, ks.length = js.length → mergeL ks js = none → mergeL (ks ++ ks2) (js ++ js2) = none
  | [], [], _, _, _, h => by simp [mergeL] at h
  | [], _ :: _, _, _, h, _ => by simp at h
  | _ :: _, [], _, _, h, _ => by simp at h
  | a :: ks, b :: js, ks2, js2, hl, h => by
    simp only [mergeL] at h
    simp only [List.cons_append, mergeL]
    cases h1 : mergeT a b with
    | none => rfl
    | some x =>
      cases h2 : mergeL ks js with
      | none => rw [mergeL_app_none (by simpa using hl) h2]
      | some xs => rw [h1, h2] at h; cases h
mutual
/-- a part, and what stands in its place -/
theorem partAt_ok : ∀ {t : T}, Wf t → ∀ {i : Nat}, i < (words t).length → ∃ p q : List Wd, words t = p ++ (words (partAt t i) ++ q) ∧ p.length = i ∧ Wf (partAt t i) ∧
    ∀ v, Wf v → holdsB (partAt t i) v = true → ∃ t', Wf t' ∧ words t' = p ++ (words v ++ q) ∧ holdsB t t' = true
  | .leaf, _, i, hi => by
    have hi : i < 1 := hi
    exact ⟨[], [], by simp [partAt], by simp; omega, trivial, fun v hv h => ⟨v, hv, by simp, holdsB_leaf _⟩⟩
  | .node op ks, h, 0, _ => ⟨[], [], by simp [partAt], rfl, by simpa [partAt] using h, fun v hv h2 => ⟨v, hv, by simp, by simpa [partAt] using h2⟩⟩
  | .node op ks, h, i + 1, hi => by
    have hi : i + 1 < (wordsL ks).length + 1 := hi
    obtain ⟨p, q, e, hp, hu, hv⟩ := partAtL_ok h.2 (i := i) (by omega)
    refine ⟨op :: p, q, by show op :: wordsL ks = _; simp only [partAt]; rw [e]; rfl, by simp [hp], by simpa only [partAt] using hu, fun v hv1 hv2 => ?_⟩
    obtain ⟨ts', g1, g2, g3, g4⟩ := hv v hv1 (by simpa only [partAt] using hv2)
    exact ⟨.node op ts', ⟨by rw [g4]; exact h.1, g1⟩, by show op :: wordsL ts' = _; rw [g2]; rfl, by simp [holdsB, g3]⟩
theorem partAtL_ok : ∀ {ts : List T}, WfL ts → ∀ {i : Nat}, i < (wordsL ts).length → ∃ p q : List Wd, wordsL ts = p ++ (words (partAtL ts i) ++ q) ∧ p.length = i ∧ Wf (partAtL ts i) ∧
    ∀ v, Wf v → holdsB (partAtL ts i) v = true → ∃ ts', WfL ts' ∧ wordsL ts' = p ++ (words v ++ q) ∧ holdsBL ts ts' = true ∧ ts'.length = ts.length
  | [], _, i, hi => absurd hi (Nat.not_lt_zero _)
  | t :: ts, h, i, hi => by
    have hi : i < (words t ++ wordsL ts).length := hi
    rw [List.length_append] at hi
    by_cases hl : i < (words t).length
    · obtain ⟨p, q, e, hp, hu, hv⟩ := partAt_ok h.1 hl
      have ep : partAtL (t :: ts) i = partAt t i := by simp only [partAtL]; rw [if_pos hl]
      rw [ep]
      refine ⟨p, q ++ wordsL ts, by show words t ++ wordsL ts = _; rw (occs := .pos [1]) [e]; simp, hp, hu, fun v hv1 hv2 => ?_⟩
      obtain ⟨t', g1, g2, g3⟩ := hv v hv1 hv2
      exact ⟨t' :: ts, ⟨g1, h.2⟩, by show words t' ++ wordsL ts = _; rw [g2]; simp, by simp [holdsBL, g3, holdsBL_refl], rfl⟩
    · obtain ⟨p, q, e, hp, hu, hv⟩ := partAtL_ok h.2 (i := i - (words t).length) (by omega)
      have ep : partAtL (t :: ts) i = partAtL ts (i - (words t).length) := by simp only [partAtL]; rw [if_neg hl]
      rw [ep]
      refine ⟨words t ++ p, q, by show words t ++ wordsL ts = _; rw (occs := .pos [1]) [e]; simp, by rw [List.length_append]; omega, hu, fun v hv1 hv2 => ?_⟩
      obtain ⟨ts', g1, g2, g3, g4⟩ := hv v hv1 hv2
      exact ⟨t :: ts', ⟨h.1, g1⟩, by show words t ++ wordsL ts' = _; rw [g2]; simp, by simp [holdsBL, g3, holdsB_refl], by simp [g4]⟩
end
end Tr

namespace My
open PySem PySem.Spec PyProof.Rows L2 RW
def topS (i : Nat) : Stmt := PySem.Challenge.pw_boughlaws_k41_whole_the_machine_counts_w.main.body.getD i (.Pass ⟨0, 0, 0, 0⟩)
local macro_rules | `(tactic| walk_at "ix") => `(tactic| first
  | with_reducible exact ix0 | with_reducible exact ix1 | with_reducible exact ix2 | with_reducible exact ix3 | with_reducible exact ix4 | with_reducible exact ix5 | with_reducible exact ix6 | with_reducible exact ix7 | with_reducible exact ix8 | with_reducible exact ix9 | with_reducible exact ix10 | with_reducible exact ix11 | with_reducible exact ix12 | with_reducible exact ix13 | with_reducible exact ix14 | with_reducible exact ix15 | with_reducible exact ix16 | with_reducible exact ix17 | with_reducible exact ix18 | with_reducible exact ix19 | with_reducible exact ix20 | with_reducible exact ix21 | with_reducible exact ix22 | with_reducible exact ix23 | with_reducible exact ix24 | with_reducible exact ix25)
local macro_rules | `(tactic| walk_at "nm") => `(tactic| first
  | ((refine w_vn (i := ?i) (d := ?d) (by assumption) ?hi ?hd ?hx ?_ ?hv); (case hi => walk_at "ix"); (case hd => rfl); (case hx => rfl); (case hv => first | exact Or.inl rfl | exact Or.inr (Or.inl rfl) | exact Or.inr (Or.inr rfl)))
  | refine w_globI (by assumption) ?_ | refine w_globT (by assumption) ?_ | refine w_var 0 rfl ?_ | refine w_var 1 rfl ?_ | refine w_var 2 rfl ?_)
local macro_rules | `(tactic| walk_at "s") => `(tactic| first
  | with_reducible refine sAdd_int ?_ | with_reducible refine sSub_int ?_ | with_reducible refine sCmp_int ?_ | with_reducible refine sTest_i ?_
  | with_reducible refine sEq_bl ?_ | with_reducible refine sNe_bl ?_ | with_reducible refine sEq_int ?_ | with_reducible refine sNe_int ?_
  | with_reducible refine sEq_tx ?_ | with_reducible refine sNe_tx ?_ | with_reducible refine sIn_one ?_ | with_reducible refine sNin_one ?_
  | with_reducible refine sEq_str ?_ | with_reducible refine sNe_str ?_
  | (with_reducible refine sLen_tx ?h2 ?_); (case h2 => first | assumption | omega)
  | with_reducible refine ex_int ?_ | with_reducible refine ex_str ?_ | with_reducible refine ex_bl ?_
  | with_reducible refine sLen_row ?_ | with_reducible refine sEq_row ?_ | with_reducible refine sNe_row ?_
  | with_reducible refine sLen_l ?_ | with_reducible refine sLen_t ?_
  | (with_reducible refine and_line ?h2 ?_); (case h2 => rfl)
  | (with_reducible refine sIx_o (xs := ?xs) (d := ?d) ?h1 ?h2 ?_); (case h1 => first | exact updO_same | assumption); (case h2 => first | rfl | assumption)
  | (with_reducible refine sIx_l (d := ?d) ?h2 ?_); (case h2 => first | rfl | assumption)
  | (with_reducible refine sIx_t (d := ?d) ?h2 ?_); (case h2 => first | rfl | assumption)
  | (with_reducible refine sIn_l ?h1 ?h2 ?_); (case h1 => rfl); (case h2 => first | rfl | assumption)
  | (with_reducible refine sNin_l ?h1 ?h2 ?_); (case h1 => rfl); (case h2 => first | rfl | assumption)
  | (with_reducible refine sIn_t ?h1 ?h2 ?_); (case h1 => rfl); (case h2 => first | rfl | assumption)
  | (with_reducible refine sNin_t ?h1 ?h2 ?_); (case h1 => rfl); (case h2 => first | rfl | assumption)
  | (with_reducible refine sMul_int ?h2 ?_); (case h2 => first | exact .inl (.inl ⟨by omega, by omega⟩) | exact .inl (.inr ⟨by omega, by omega⟩))
  | (with_reducible refine sMod_int ?h2 ?_); (case h2 => omega)
  | (with_reducible refine sDiv_int ?h2 ?_); (case h2 => first | exact .inl ⟨by omega, by omega⟩ | exact .inr ⟨by omega, by assumption⟩)
  | (with_reducible refine sPow_int ?h2 ?_); (case h2 => exact ⟨by decide, by decide, by decide⟩))
local macro_rules | `(tactic| walk_at "bin") => `(tactic| first | refine w_add ?_ | refine w_sub ?_ | refine w_mul ?_ | refine w_mod ?_ | refine w_div ?_ | refine w_pow ?_)
local macro_rules | `(tactic| walk_at "cmp") => `(tactic| first
  | refine w_eq (Room.units (by assumption)) ?_ | refine w_ne (Room.units (by assumption)) ?_ | refine w_lt ?_ | refine w_le ?_ | refine w_gt ?_ | refine w_ge ?_
  | refine w_lele ?_ | refine w_lelt ?_ | refine w_in ?_ | refine w_nin ?_ | refine w_isN ?_ | refine w_notN ?_)
local macro_rules | `(tactic| walk_at "tcmp") => `(tactic| first
  | refine wt_eq (Room.units (by assumption)) ?_ | refine wt_ne (Room.units (by assumption)) ?_ | refine wt_lele ?_ | refine wt_lelt ?_
  | refine wt_lt ?_ | refine wt_le ?_ | refine wt_gt ?_ | refine wt_ge ?_ | refine wt_isN ?_ | refine wt_notN ?_ | refine wt_in ?_ | refine wt_nin ?_)
local macro_rules | `(tactic| walk_at "cst") => `(tactic| first | refine w_int ?_ | refine w_tx ?_ | refine w_str ?_ | refine w_bl ?_ | refine w_non ?_)
local macro_rules | `(tactic| walk_at "we") => `(tactic| first
  | (with_reducible refine g_name ?_); walk_at "nm"
  | (with_reducible refine g_const ?_); walk_at "cst"
  | (with_reducible refine g_bin ?_); walk_at "bin"
  | (with_reducible refine g_sub ?_); (refine w_ix ?_)
  | (with_reducible refine g_cmp ?_); walk_at "cmp"
  | (with_reducible refine g_len ?_); (refine w_len (by assumption) ?_)
  | (with_reducible refine g_lst ?_); (refine w_lst ?_)
  | (with_reducible refine g_tup ?_); (refine w_tup ?_)
  | (with_reducible refine g_un ?_); (refine w_neg ?_)
  | (with_reducible refine g_call ?_); (first | refine w_list (by assumption) ?_ | refine w_sum rfl (by assumption) ?_))
local macro_rules | `(tactic| walk_at "wt") => `(tactic| first
  | (with_reducible refine gt_cmp ?_); walk_at "tcmp"
  | (with_reducible refine gt_not ?_); (refine wt_not ?_)
  | (with_reducible refine gt_bo ?_); (refine wt_bo ?_))
local macro_rules | `(tactic| walk_at "e") => `(tactic| first
  | (with_reducible refine g_we ?_); walk_at "we"
  | (with_reducible refine g_wa ?_); (first | refine wa_cons ?_ | refine wa_nil ?_)
  | (with_reducible refine g_wt ?_); walk_at "wt"
  | (with_reducible refine g_ww ?_); (first | refine ww_and ?_ | refine ww_or ?_ | refine ww_one (.inl rfl) ?_ | refine ww_one (.inr rfl) ?_)
  | (with_reducible refine g_if ?_); (first | refine g_we ?_ | refine g_wt ?_ | refine g_ww ?_ | refine g_wa ?_)
  | (with_reducible refine g_ssl ?_); (refine g_we ?_)
  | walk_at "s")
local macro_rules | `(tactic| walk_at "isi") => `(tactic| (first
  | refine isi_bool (by assumption) (by assumption) ?_ | refine isi_list (by assumption) (by assumption) ?_ | refine isi_tuple (by assumption) (by assumption) ?_ | refine isi_int (by assumption) (by assumption) ?_ | refine isi_is (by assumption) (by assumption) (by assumption) ?_
  | refine isi_dict (by assumption) (by assumption) ?_);
  (walk_at "we"); (first | refine isiE (by rfl) ?_ | refine isiE2 (by rfl) ?_ | refine isiE (tyO_L (by assumption)) ?_ | refine isiE2 (tyO_L (by assumption)) ?_ | skip))
local macro_rules | `(tactic| walk_at "loc") => `(tactic| first | exact Or.inl rfl | exact Or.inr rfl)
local macro_rules | `(tactic| walk_at "st") => `(tactic| first
  | (with_reducible refine gs_set ?_); (refine ws_setn (i := ?i) (by assumption) ?hi ?hx ?_ ?hv); (case hi => walk_at "ix"); (case hx => rfl); (case hv => walk_at "loc")
  | (with_reducible refine gs_retNm ?_); (refine ws_retO (i := ?i) (p := ?p) (ds := ?ds) (by assumption) ?hi ?hd ?hO ?hx ?_ ?hv); (case hi => walk_at "ix"); (case hd => rfl); (case hO => first | exact updO_same | assumption); (case hx => rfl); (case hv => first | exact Or.inl rfl | exact Or.inr (Or.inl rfl) | exact Or.inr (Or.inr rfl))
  | (with_reducible refine gs_ret ?_); (refine ws_ret ?_)
  | (with_reducible refine gs_expr ?_); (refine ws_expr ?_)
  | (with_reducible refine gs_if ?_); (refine ws_if ?_)
  | (with_reducible refine gs_aug ?_); (first | refine ws_augn (i := ?i) (by assumption) ?hi ?hd ?hx ?_ ?hv | refine ws_augSubn (i := ?i) (by assumption) ?hi ?hd ?hx ?_ ?hv); (case hi => walk_at "ix"); (case hd => rfl); (case hx => rfl); (case hv => walk_at "loc")
  | (with_reducible refine gs_break ?_); (refine ws_break ?_)
  | (with_reducible refine gs_cont ?_); (refine ws_continue ?_))
local macro_rules | `(tactic| walk_at "tg") => `(tactic| first
  | (with_reducible refine gg_name ?_); (refine wg_namen (i := ?i) (by assumption) ?hi ?hx ?_ ?hv); (case hi => walk_at "ix"); (case hx => rfl); (case hv => walk_at "loc")
  | (with_reducible refine gg_tup ?_); (refine wg_tup rfl ?_ rfl)
  | (with_reducible refine gg_pr ?_); (refine wg_pr rfl ?_ rfl))
local macro_rules | `(tactic| walk_at "dix") => `(tactic| first
  | ((refine w_mgetN (i := ?i) (kvs := ?kvs) (by assumption) ?hi ?hd ?hx ?_ ?hv); (case hi => walk_at "ix"); (case hd => rfl); (case hx => rfl); (case hv => first | exact Or.inl rfl | exact Or.inr (Or.inl rfl) | exact Or.inr (Or.inr rfl)))
  | ((refine w_dgetN (i := ?i) (kvs := ?kvs) (by assumption) ?hi ?hd ?hx (Room.units (by assumption)) ?_ ?hv); (case hi => walk_at "ix"); (case hd => rfl); (case hx => rfl); (case hv => first | exact Or.inl rfl | exact Or.inr (Or.inl rfl) | exact Or.inr (Or.inr rfl)))
  | ((refine w_mgetO (i := ?i) (p := ?p) (kvs := ?kvs) (by assumption) ?hi ?hd ?hO ?hx ?_ ?hv); (case hi => walk_at "ix"); (case hd => rfl); (case hO => first | exact updO_same | assumption); (case hx => rfl); (case hv => first | exact Or.inl rfl | exact Or.inr (Or.inl rfl) | exact Or.inr (Or.inr rfl)))
  | ((refine w_dgetO (i := ?i) (p := ?p) (kvs := ?kvs) (by assumption) ?hi ?hd ?hO ?hx (Room.units (by assumption)) ?_ ?hv); (case hi => walk_at "ix"); (case hd => rfl); (case hO => first | exact updO_same | assumption); (case hx => rfl); (case hv => first | exact Or.inl rfl | exact Or.inr (Or.inl rfl) | exact Or.inr (Or.inr rfl))))
local macro_rules | `(tactic| walk_at "we2") => `(tactic| first
  | (with_reducible refine g_name ?_); walk_at "nm"
  | (with_reducible refine g_const ?_); walk_at "cst"
  | (with_reducible refine g_bin ?_); walk_at "bin"
  | (with_reducible refine g_sl ?_); (refine w_sl ?_)
  | (with_reducible refine g_subN ?_); (first | walk_at "dix" | refine w_ix ?_)
  | (with_reducible refine g_sub ?_); (refine w_ix ?_)
  | (with_reducible refine g_cmp ?_); walk_at "cmp"
  | (with_reducible refine g_isi ?_); walk_at "isi"
  | (with_reducible refine g_len ?_); (refine w_len (by assumption) ?_)
  | (with_reducible refine g_callN ?_); (first | refine w_call (by assumption) (by assumption) (by omega) ?_ | refine w_list (by assumption) ?_ | refine w_sum rfl (by assumption) ?_)
  | (with_reducible refine g_lst ?_); (refine w_lst ?_)
  | (with_reducible refine g_tup ?_); (refine w_tup ?_)
  | (with_reducible refine g_and ?_); (refine w_and ?_)
  | (with_reducible refine g_or ?_); (refine w_or ?_)
  | (with_reducible refine g_bo1 ?_); (refine w_one ?_)
  | (with_reducible refine g_ite ?_); (refine w_ite ?_)
  | (with_reducible refine g_not ?_); (refine w_not ?_)
  | (with_reducible refine g_un ?_); (refine w_neg ?_))
local macro_rules | `(tactic| walk_at "blk") => `(tactic| first
  | with_reducible refine gl_set ?_ | with_reducible refine gl_ret ?_ | with_reducible refine gl_expr ?_ | with_reducible refine gl_if1 ?_ | with_reducible refine gl_aug ?_ | with_reducible refine gl_brk ?_ | with_reducible refine gl_cnt ?_)
local macro_rules | `(tactic| walk_at "v") => `(tactic| first
  | (with_reducible refine g_we ?_); walk_at "we2"
  | (with_reducible refine g_wa ?_); (first | refine wa_cons ?_ | refine wa_nil ?_)
  | (with_reducible refine gt_call ?_); (refine wt_val ?_)
  | (with_reducible refine g_wt ?_); walk_at "wt"
  | (with_reducible refine g_ww ?_); (first | refine ww_and ?_ | refine ww_or ?_ | refine ww_one (.inl rfl) ?_ | refine ww_one (.inr rfl) ?_)
  | walk_at "blk"; (first | refine wss_one ?_ | refine wss_cons ?_)
  | (with_reducible refine g_s0 ?_); (refine wss_nil ?_)
  | (with_reducible refine g_ws ?_); walk_at "st"
  | (with_reducible refine g_wg ?_); walk_at "tg"
  | (with_reducible refine gg_nil ?_); (refine wgs_nil ?_)
  | (with_reducible refine gg_cons ?_); (refine wgs_cons ?_)
  | (with_reducible refine g_won ?_); (refine wo_none ?_)
  | (with_reducible refine g_wo ?_); (refine wo_some ?_)
  | (with_reducible refine g_if ?_); (first | refine g_we ?_ | refine g_wt ?_ | refine g_ww ?_ | refine g_wa ?_ | refine br_t (by rfl) ?_ | refine br_f (by rfl) ?_)
  | (with_reducible refine sSl_t ?_)
  | walk_at "s")
local macro_rules | `(tactic| walk_at "x") => `(tactic| first
  | (with_reducible refine g_we ?_); walk_at "we2"
  | (with_reducible refine g_wa ?_); (first | refine wa_cons ?_ | refine wa_nil ?_)
  | (with_reducible refine gt_call ?_); (refine wt_val ?_)
  | (with_reducible refine g_wt ?_); walk_at "wt"
  | (with_reducible refine g_ww ?_); (first | refine ww_and ?_ | refine ww_or ?_ | refine ww_one (.inl rfl) ?_ | refine ww_one (.inr rfl) ?_)
  | (with_reducible refine g_s0 ?_); (refine wss_nil ?_)
  | (with_reducible refine g_ws ?_); walk_at "st"
  | (with_reducible refine g_wg ?_); walk_at "tg"
  | (with_reducible refine gg_nil ?_); (refine wgs_nil ?_)
  | (with_reducible refine gg_cons ?_); (refine wgs_cons ?_)
  | (with_reducible refine g_won ?_); (refine wo_none ?_)
  | (with_reducible refine g_wo ?_); (refine wo_some ?_)
  | (with_reducible refine g_if ?_); (first | refine g_we ?_ | refine g_wt ?_ | refine g_ww ?_ | refine g_wa ?_ | refine br_t (by rfl) ?_ | refine br_f (by rfl) ?_)
  | (with_reducible refine sSl_t ?_)
  | walk_at "s")
local macro_rules | `(tactic| walk_at "w") => `(tactic| first
  | (with_reducible refine gl_if ?_); (first | refine wss_one ?_ | refine wss_cons ?_)
  | (with_reducible refine g_body ?_); (first | refine wss_one ?_ | refine wss_cons ?_)
  | walk_at "v")
section
variable {P : Program} {w : World} {K : PySem.W.Frag} {mg : Str → Option Value} {base : Heap}
/-! boughlaws.words: all_letters, is_operation, of an operation's word and of a leaf -/
open Tr
abbrev sAllLetters : Stmt := topS 9
theorem scAllLetters : FnScope ["text", "most", "sign"] ["text", "most"] (defScope sAllLetters) := ⟨rfl, rfl, rfl, by decide +kernel, rfl, by decide +kernel, by decide +kernel⟩
def lets : List Nat := [97, 98, 99, 100, 101, 102, 103, 104, 105, 106, 107, 108, 109, 110, 111, 112, 113, 114, 115, 116, 117, 118, 119, 120, 121, 122]
theorem mem_lets {c : Nat} : c ∈ lets ↔ 97 ≤ c ∧ c ≤ 122 := by
  unfold lets
  simp only [List.mem_cons, List.not_mem_nil, or_false]
  omega
/-- one to most signs, letters alone -/
def letB (a : List Nat) (most : Int) : Bool := decide (1 ≤ a.length ∧ (a.length : Int) ≤ most) && a.all (fun c => decide (c ∈ lets))
def spAllLetters : SpD := fun ds O Q _ => ∃ (a : List Nat) (most : Int), ds = [tx a, .int most] ∧ a.length ≤ 90000 ∧ Q (.bl (letB a most)) O
/-- a comprehension over a text's signs whose elements are bools -/
theorem lc_signs {X : Cx} {Γ : Env'} {elt tg : Expr} {scope : Scope} {Q : PD} {vs : List Nat} {O1 : Own} {a : List Nat} (f : Nat → Bool) (hn : a.length ≤ 100000)
    (hs : ∀ c O2, Sub O1 O2 → ∀ s H C cl fp, WGc (blkX X scope s H C cl fp) vs tg (tx [c]) (wipeD Γ vs) O2 fun Γ3 O3 => O3 = O2 ∧ ∀ s H C cl fp, WE (blkX X scope s H C cl fp) noEx elt Γ3 O2 (fun y O5 => O5 = O2 ∧ y = .bl (f c)))
    (hd : Mk ((a.map f).map D.bl) O1 Q) : LcBody X Γ elt tg [] scope vs (fun _ => True) (a.map fun c => tx [c]) O1 Q := by
  refine lc_all (fun i _ y => ∀ c, a[i]? = some c → y = .bl (f c)) (by rw [List.length_map]; exact hn) (fun _ _ => trivial) (fun i d O2 hd hs' s H C cl fp => ?_) fun ys h1 h2 => ?_
  · rw [List.getElem?_map] at hd
    cases hc : a[i]? with
    | none => rw [hc] at hd; cases hd
    | some c =>
      rw [hc] at hd
      obtain rfl := Option.some.inj hd
      refine .mk fun σ H1 Hd v g a' r => ?_
      refine wG_mono ((hs c O2 hs' s H C cl fp).run σ H1 Hd v g a' r) fun σ' H' ⟨ew, Γ3, O3, Hd3, s3, g3, a3, e3, q3⟩ => ⟨ew, Γ3, O3, Hd3, s3, g3, a3, e3, fun s H C cl fp => (q3 s H C cl fp).mono fun y O5 ⟨h5, h6⟩ => ⟨h5, fun c' e => by cases e; exact h6⟩⟩
  have e : ys = (a.map f).map D.bl := by
    apply List.ext_getElem?
    intro i
    rw [List.getElem?_map, List.getElem?_map]
    cases hc : a[i]? with
    | none =>
      have := List.getElem?_eq_none_iff.mp hc
      rw [List.getElem?_eq_none_iff.mpr (by rw [h1, List.length_map]; exact this)]
      rfl
    | some c =>
      obtain ⟨y, h3, h4⟩ := h2 i (tx [c]) (by rw [List.getElem?_map, hc]; rfl)
      rw [h3, h4 c hc]
      rfl
  rw [e]
  exact hd
theorem ok_allLetters {f : Addr} {fd : FuncData} {k : Nat} {t : Tok} (F : Fun K "all_letters" "all_letters" sAllLetters f fd) (mlen : mg "len" = none) (mall : mg "all" = none) (cL : mg "LETTERS" = some (.str "abcdefghijklmnopqrstuvwxyz" t)) :
    FnOk P w K mg base (L2.CX P w) (k + 1) f fd ["text", "most"] (spD K spAllLetters) := by
  refine fd_ok F scAllLetters (fun ds O Q E ⟨_, _, e, _⟩ => by rw [e]; rfl) (fun cdv A outer s H E0 hr ds O Q E ⟨a, m, e, ha, hQ⟩ => ?_)
  subst e
  have nd := scAllLetters.nd
  have ha2 : a.length ≤ 100000 := by omega
  have cL2 := cL
  refine wss_one (ws_ret (w_and ?_))
  repeat walk_at "e"
  refine br (fun h1 => ?_) (fun h1 => ?_)
  · have h1 := of_decide_eq_true h1
    repeat walk_at "e"
    refine br (fun h2 => ?_) (fun h2 => ?_)
    · have h2 := of_decide_eq_true h2
      refine w_one (w_all rfl mall (w_lc (own := [("sign", 2)]) [2] rfl nd (blkOk_by rfl) rfl (wi_str ?_)))
      repeat walk_at "e"
      refine ⟨a, rfl, lc_signs (fun c => decide (c ∈ lets)) ha2 (fun c O2 hs s H C cl fp => wgc_name 2 nd ⟨rfl, fun s H C cl fp => ?_⟩) (.fix ⟨_, rfl, ?_⟩)⟩
      · repeat walk_at "e"
        exact ⟨rfl, rfl⟩
      · rw [show (a.map fun c => decide (c ∈ lets)).all id = a.all (fun c => decide (c ∈ lets)) by rw [List.all_map]; rfl]
        have e : letB a m = a.all (fun c => decide (c ∈ lets)) := by
          unfold letB
          rw [decide_eq_true ⟨by omega, h2⟩, Bool.true_and]
        rw [← e]
        exact hQ
    · have h2 := of_decide_eq_false h2
      have e : letB a m = false := by
        unfold letB
        rw [decide_eq_false (fun z => h2 z.2), Bool.false_and]
      rw [e] at hQ
      exact hQ
  · have h1 := of_decide_eq_false h1
    have e : letB a m = false := by
      unfold letB
      rw [decide_eq_false (fun z => h1 (by omega)), Bool.false_and]
    rw [e] at hQ
    repeat walk_at "e"
    exact hQ
/-! is_operation -/
def ends3 : List Nat := [50, 51, 52]
def isOpB (a : List Nat) : Bool := match a.getLast? with
  | some c => decide (c ∈ ends3) && letB a.dropLast 6
  | none => false
abbrev sIsOp : Stmt := topS 10
theorem scIsOp : FnScope ["text"] ["text"] (defScope sIsOp) := ⟨rfl, rfl, rfl, by decide +kernel, rfl, by decide +kernel, by decide +kernel⟩
def spIsOp : SpD := fun ds O Q _ => ∃ a : List Nat, ds = [tx a] ∧ a.length ≤ 80000 ∧ Q (.bl (isOpB a)) O
theorem ok_isOp {f : Addr} {fd : FuncData} {k : Nat} {t t2 : Tok} (F : Fun K "is_operation" "is_operation" sIsOp f fd) (cE : mg "ENDS" = some (.str "234" t)) (cM : mg "MOST_LETTERS" = some (.int 6 t2)) (GA : Fd P w K mg base "all_letters" 1 ["text", "most"] spAllLetters) (hk : 1 ≤ k) :
    FnOk P w K mg base (L2.CX P w) (k + 1) f fd ["text"] (spD K spIsOp) := by
  refine fd_ok F scIsOp (fun ds O Q E ⟨_, e, _⟩ => by rw [e]; rfl) (fun cdv A outer s H E0 hr ds O Q E ⟨a, e, ha, hQ⟩ => ?_)
  subst e
  refine wss_one (ws_ret (w_and ?_))
  repeat walk_at "e"
  rcases List.eq_nil_or_concat a with e | ⟨b, c, e⟩
  · subst e
    exact hQ
  · rw [List.concat_eq_append] at e
    subst e
    rw [List.length_append, List.length_singleton] at ha
    refine br_t (by rw [show (Str.ofString "").cps.toList = [] from rfl]; simp) (w_and ?_)
    repeat walk_at "e"
    refine sIx_last (by omega) ?_
    repeat walk_at "e"
    have e2 : isOpB (b ++ [c]) = (decide (c ∈ ends3) && letB b 6) := by simp [isOpB]
    rw [e2] at hQ
    refine br (fun h1 => ?_) (fun h1 => ?_)
    · have h1 : decide (c ∈ ends3) = true := h1
      rw [h1, Bool.true_and] at hQ
      refine w_one (w_call GA hr (by omega) ?_)
      refine wa_cons ?_
      refine w_sl ?_
      repeat walk_at "e"
      refine wo_none (wo_some ?_)
      repeat walk_at "e"
      refine sSl_butlast (by omega) ?_
      repeat walk_at "e"
      exact ⟨b, 6, rfl, by omega, hQ⟩
    · have h1 : decide (c ∈ ends3) = false := h1
      rw [h1, Bool.false_and] at hQ
      exact hQ
theorem isOp_of {a : List Nat} {n : Nat} (h : Op a n) : isOpB a = true := by
  obtain ⟨l, rfl, h1, h2, h3, h4, h5⟩ := h
  have e : isOpB (l ++ [48 + n]) = (decide (48 + n ∈ ends3) && letB l 6) := by simp [isOpB]
  rw [e, Bool.and_eq_true]
  refine ⟨decide_eq_true ?_, ?_⟩
  · unfold ends3
    simp only [List.mem_cons, List.not_mem_nil, or_false]
    omega
  · unfold letB
    rw [decide_eq_true ⟨h3, by omega⟩, Bool.true_and, List.all_eq_true]
    exact fun c hc => decide_eq_true (mem_lets.mpr (h5 c hc))
theorem op_of_isOp {a : List Nat} (h : isOpB a = true) : ∃ n, Op a n := by
  rcases List.eq_nil_or_concat a with e | ⟨b, c, e⟩
  · subst e; cases h
  · rw [List.concat_eq_append] at e
    subst e
    have e : isOpB (b ++ [c]) = (decide (c ∈ ends3) && letB b 6) := by simp [isOpB]
    rw [e, Bool.and_eq_true] at h
    obtain ⟨h1, h2⟩ := h
    have h1 := of_decide_eq_true h1
    unfold letB at h2
    rw [Bool.and_eq_true] at h2
    obtain ⟨h3, h4⟩ := h2
    have h3 := of_decide_eq_true h3
    unfold ends3 at h1
    simp only [List.mem_cons, List.not_mem_nil, or_false] at h1
    refine ⟨c - 48, b, by congr 2; omega, by omega, by omega, h3.1, by omega, fun d hd => mem_lets.mp (of_decide_eq_true (List.all_eq_true.mp h4 d hd))⟩
theorem digit_text {n : Nat} (h : n ≤ 9) : PySem.intText? (SX.S [48 + n]) = some (n : Int) := by
  rw [SX.int_S (by simp; omega) (by simp) (by simp)]
  simp [NumText.digitsVal]
end
section
variable {P : Program} {w : World} {K : PySem.W.Frag} {mg : Str → Option Value} {base : Heap}
/-! boughlaws.trees: room_of, is_tree, look_at_trees, of trees -/
open Tr
abbrev isL (a : Wd) : Bool := decide (a = [95])
abbrev wsD (ws : List Wd) : D := .tup (ws.map tx)
abbrev treeD (t : T) : D := wsD (words t)
/-- a tree of this house: over at most seven things -/
def Good (t : T) : Prop := Wf t ∧ leaves t ≤ 7
theorem Good.len {t : T} (h : Good t) : (words t).length ≤ 13 := by
  have := words_len h.1
  have := h.2
  omega
abbrev sRoomOf : Stmt := topS 16
theorem scRoomOf : FnScope ["word"] ["word"] (defScope sRoomOf) := ⟨rfl, rfl, rfl, by decide +kernel, rfl, by decide +kernel, by decide +kernel⟩
def spRoomOf : SpD := fun ds O Q _ => ∃ (a : Wd) (n : Nat), ds = [tx a] ∧ (a = [95] ∧ n = 0 ∨ Op a n) ∧ Q (.int n) O
theorem ok_roomOf {f : Addr} {fd : FuncData} {k : Nat} {t : Tok} (F : Fun K "room_of" "room_of" sRoomOf f fd) (mint : mg "int" = none) (cL : mg "LEAF" = some (.str "_" t)) : FnOk P w K mg base (L2.CX P w) (k + 1) f fd ["word"] (spD K spRoomOf) := by
  refine fd_ok F scRoomOf (fun ds O Q E ⟨_, _, e, _⟩ => by rw [e]; rfl) (fun cdv A outer s H E0 hr ds O Q E ⟨a, n, e, ha, hQ⟩ => ?_)
  subst e
  refine wss_one (ws_ret (w_ite ?_))
  repeat walk_at "e"
  rcases ha with ⟨rfl, rfl⟩ | ha
  · refine br_t (by rfl) ?_
    repeat walk_at "e"
    exact hQ
  · refine br_f (decide_eq_false ha.ne) (w_toInt mint ?_)
    repeat walk_at "e"
    have hl := ha.len
    obtain ⟨l, rfl, h1, h2, _⟩ := ha
    rw [List.length_append, List.length_singleton] at hl
    refine sIx_last (by omega) ⟨n, digit_text (by omega), by rw [SX.S_len]; simp, hQ⟩
abbrev sIsTree : Stmt := topS 18
theorem scIsTree : FnScope ["words", "lack", "word"] ["words"] (defScope sIsTree) := ⟨rfl, rfl, rfl, by decide +kernel, rfl, by decide +kernel, by decide +kernel⟩
def spIsTree : SpD := fun ds O Q _ => ∃ t : T, ds = [treeD t] ∧ Good t ∧ Q (.bl true) O
theorem flat_txs : ∀ ws : List Wd, (ws.map tx).all flatD = true
  | [] => rfl
  | _ :: ws => by
    rw [List.map_cons, List.all_cons, flat_txs ws]
    rfl
theorem count_txs (b : Wd) : ∀ ws : List Wd, (ws.map tx).countP (fun z => eqFV z (tx b)) = ws.countP fun a => decide (a = b)
  | [] => rfl
  | a :: ws => by
    have e : eqFV (tx a) (tx b) = decide (a = b) := by
      show ((SX.S a) == (SX.S b)) = _
      rw [SX.S_beq_eq]
    rw [List.map_cons, List.countP_cons, List.countP_cons, count_txs b ws, e]
/-- the place behind the part that begins at a place -/
def spEnd : SpD := fun ds O Q _ => ∃ (pw : List Wd) (t : T) (qw : List Wd), ds = [wsD (pw ++ (words t ++ qw)), .int (pw.length : Nat)] ∧ Wf t ∧ Q (.int ((pw.length + (words t).length : Nat))) O
theorem txs_at {ws : List Wd} {i : Nat} {d : D} (h : (ws.map tx)[i]? = some d) : ∃ a, ws[i]? = some a ∧ d = tx a := by
  rw [List.getElem?_map] at h
  cases hc : ws[i]? with
  | none => rw [hc] at h; cases h
  | some a =>
    rw [hc] at h
    exact ⟨a, rfl, (Option.some.inj h).symm⟩
theorem ok_isTree {f : Addr} {fd : FuncData} {k : Nat} {t t2 : Tok} (F : Fun K "is_tree" "is_tree" sIsTree f fd) (cL : mg "LEAF" = some (.str "_" t)) (cM : mg "MOST_THINGS" = some (.int 7 t2))
    (GO : Fd P w K mg base "is_operation" 2 ["text"] spIsOp) (GR : Fd P w K mg base "room_of" 1 ["word"] spRoomOf) (hk : 2 ≤ k) : FnOk P w K mg base (L2.CX P w) (k + 1) f fd ["words"] (spD K spIsTree) := by
  refine fd_ok F scIsTree (fun ds O Q E ⟨_, e, _⟩ => by rw [e]; rfl) (fun cdv A outer s H E0 hr ds O Q E ⟨t, e, ht, hQ⟩ => ?_)
  subst e
  have nd := scIsTree.nd
  refine wss_cons (ws_set 1 nd ?_)
  repeat walk_at "e"
  refine wss_cons (ws_for (passes_of rfl) rfl (wi_tup ?_))
  repeat walk_at "e"
  refine ⟨_, rfl, fun i Γ2 O2 => ∃ (F : List T) (c : Option D), Γ2 = [some (treeD t), some (.int F.length), c] ∧ O2 = O ∧ WfL F ∧ (words t).drop i = wordsL F, ⟨[t], none, rfl, rfl, ⟨ht.1, trivial⟩, by simp [wordsL]⟩, fun _ _ _ _ => trivial, ?_, ?_⟩
  · rintro i d Γ2 O2 hd ⟨F, c, rfl, rfl, hF, hw⟩
    obtain ⟨a, ha, rfl⟩ := txs_at hd
    have hda : (words t).drop i = a :: (words t).drop (i + 1) := by
      obtain ⟨hlt, e⟩ := List.getElem?_eq_some_iff.mp ha
      rw [← e]
      exact List.drop_eq_getElem_cons hlt
    refine wg_name 2 nd ?_
    match F, hF, hw with
    | [], _, hw => rw [hda] at hw; cases hw
    | u :: F, hF, hw =>
      rw [hda] at hw
      refine wss_cons (ws_if ?_)
      repeat walk_at "e"
      cases u with
      | leaf =>
        obtain ⟨rfl, h2⟩ := List.cons.inj (show a :: _ = [95] :: wordsL F from hw)
        refine br_f (by rfl) (wss_nil (wss_one (ws_augAdd 1 nd rfl ?_)))
        repeat walk_at "e"
        refine w_call GR hr (by omega) ?_
        repeat walk_at "e"
        refine ⟨[95], 0, rfl, .inl ⟨rfl, rfl⟩, ?_⟩
        repeat walk_at "e"
        refine ⟨F, some (tx [95]), ?_, rfl, hF.2, h2⟩
        show [_, some (D.int _), _] = _
        rw [show (((T.leaf :: F).length : Nat) : Int) + (((0 : Nat) : Int) - 1) = (F.length : Int) by rw [List.length_cons]; omega]
      | node op ks =>
        obtain ⟨rfl, h2⟩ := List.cons.inj (show a :: _ = op :: (wordsL ks ++ wordsL F) from hw)
        have hop : Op a ks.length := hF.1.1
        have hl := hop.len
        refine br_t (by rw [show (Str.ofString "_").cps.toList = [95] from rfl, decide_eq_false hop.ne]; rfl) ?_
        repeat walk_at "e"
        refine wt_val (w_call GO hr (by omega) ?_)
        repeat walk_at "e"
        refine ⟨a, rfl, by omega, _, rfl, ?_⟩
        rw [isOp_of hop]
        refine wss_nil (wss_one (ws_augAdd 1 nd rfl ?_))
        repeat walk_at "e"
        refine w_call GR hr (by omega) ?_
        repeat walk_at "e"
        refine ⟨a, ks.length, rfl, .inr hop, ?_⟩
        repeat walk_at "e"
        refine ⟨ks ++ F, some (tx a), ?_, rfl, (WfL_append _ _).mpr ⟨hF.1.2, hF.2⟩, by rw [wordsL_append]; exact h2⟩
        show [_, some (D.int _), _] = _
        rw [show (((T.node a ks :: F).length : Nat) : Int) + (((ks.length : Nat) : Int) - 1) = ((ks ++ F).length : Int) by rw [List.length_cons, List.length_append]; omega]
  · rintro Γ2 O2 ⟨F, c, rfl, rfl, hF, hw⟩
    rw [List.length_map, List.drop_length] at hw
    have hF0 : F = [] := by
      cases F with
      | nil => rfl
      | cons u F => exact absurd (List.append_eq_nil_iff.mp (show words u ++ wordsL F = [] from hw.symm)).1 (words_ne u)
    subst hF0
    refine wss_one (ws_ret (w_and ?_))
    repeat walk_at "e"
    refine w_one (w_le (w_tcount ?_))
    repeat walk_at "e"
    refine ⟨_, rfl, ?_⟩
    repeat walk_at "e"
    refine ⟨flat_txs _, rfl, ?_⟩
    rw [show (Str.ofString "_").cps.toList = [95] from rfl, count_txs, words_count ht.1]
    repeat walk_at "e"
    rw [show fLe ((leaves t : Nat) : Int) 7 = true from decide_eq_true (by have := ht.2; omega)]
    exact hQ
def spLookTrees : SpD := fun ds O Q _ => ∃ ts : List T, ds = [.lst (ts.map treeD)] ∧ (∀ t ∈ ts, Good t) ∧ Q .non O
/-- tree.count(LEAF) -/
theorem w_cntLeaf {X : Cx} {E : ExP} {Γ : Env'} {O : Own} {Q : PD} {o e : Expr} {apos pos : Pos} (h : WE X E o Γ O fun x O1 => ∃ t, x = treeD t ∧ Wf t ∧ WE X E e Γ O1 fun y O2 => y = tx [95] ∧ Q (.int (leaves t : Nat)) O2)
    (hbase : attributeBase o "count" X.env (eval o X.env) = eval o X.env := by rfl)
    (hfew : ((backTo pos (starEach [e] X.env)).all (fun x => !x.1) && (backToKw pos (keywordEach [] X.env)).all (fun x => x.1.isSome)
      && decide (([e] : List Expr).length + ([] : List Keyword).length + (if ([] : List Keyword).isEmpty then 0 else 1) < 30)) = true := by rfl)
    (hline : (apos.endLine == pos.line) = true := by rfl) (hs : starEach [e] X.env = [(false, eval e X.env)] := by rfl) : WE X E (.Call (.Attribute o "count" apos) [e] [] pos) Γ O Q :=
  w_tcount (h.mono fun x O1 ⟨t, e1, ht, h1⟩ => ⟨_, e1, h1.mono fun y O2 ⟨e2, q⟩ => by
    subst e2
    refine ⟨flat_txs _, rfl, ?_⟩
    rw [count_txs, words_count ht]
    exact q⟩) hbase hfew hline hs
end
section
variable {P : Program} {w : World} {K : PySem.W.Frag} {mg : Str → Option Value} {base : Heap}
/-! rows of words and trees compared -/
open Tr
theorem op_ok {a : Wd} {n : Nat} (h : Op a n) : PyData.strOk (SX.S a) = true := by
  obtain ⟨l, rfl, h1, h2, _, _, h5⟩ := h
  unfold PyData.strOk
  rw [← Array.all_toList, List.all_eq_true]
  intro c hc
  have hc : c ∈ l ++ [48 + n] := hc
  refine decide_eq_true ?_
  rcases List.mem_append.mp hc with hc | hc
  · have := h5 c hc
    omega
  · have := List.mem_singleton.mp hc
    omega
theorem toPys_txs : ∀ ws : List Wd, toPys (ws.map tx) = ws.map fun a => PyData.str (SX.S a)
  | [] => rfl
  | n :: ns => by simp [toPys, toPy, toPys_txs ns]
theorem isPys_txs : ∀ ws : List Wd, isPys (ws.map tx) = true
  | [] => rfl
  | n :: ns => by simp [isPys, isPy, isPys_txs ns]
theorem canLay_txs : ∀ ws : List Wd, (∀ a ∈ ws, PyData.strOk (SX.S a) = true) → PyData.canLayAll0 (ws.map fun a => PyData.str (SX.S a)) = true
  | [], _ => rfl
  | n :: ns, h => by simp [PyData.canLayAll0, PyData.canLay0, canLay_txs ns fun a ha => h a (List.mem_cons_of_mem _ ha), h n List.mem_cons_self]
theorem depth_txs : ∀ ws : List Wd, PyData.depthAll (ws.map fun a => PyData.str (SX.S a)) ≤ 1
  | [] => by simp [PyData.depthAll]
  | n :: ns => by
    have := depth_txs ns
    simp [PyData.depthAll, PyData.depth]
    omega
theorem good_txs (ws : List Wd) (h : ∀ a ∈ ws, PyData.strOk (SX.S a) = true) : goodD (.lst (ws.map tx)) = true := by
  simp only [goodD, isPy, isPys_txs, toPy, toPys_txs, Bool.true_and, SeqAt.shaped, PyData.canLay0, canLay_txs ws h, PyData.depth, decide_eq_true_eq]
  have := depth_txs ws
  omega
theorem eqv_txs0 (ws : List Wd) : eqvD (.lst (ws.map tx)) (.lst []) = decide (ws = []) := by
  cases ws with
  | nil => rfl
  | cons a ws => simp [eqvD, toPy, toPys, PyData.eqv, PyData.eqvAll]
theorem isW_ok {a : Wd} (h : IsW a) : PyData.strOk (SX.S a) = true := by
  rcases h with rfl | ⟨n, h⟩
  · decide +kernel
  · exact op_ok h
theorem good_tup (ws : List Wd) (h : ∀ a ∈ ws, PyData.strOk (SX.S a) = true) : goodD (wsD ws) = true := by
  simp only [goodD, isPy, isPys_txs, toPy, toPys_txs, Bool.true_and, SeqAt.shaped, PyData.canLay0, canLay_txs ws h, PyData.depth, decide_eq_true_eq]
  have := depth_txs ws
  omega
theorem eqv_leaf (ws : List Wd) : eqvD (wsD ws) (.tup [tx [95]]) = decide (ws = [[95]]) := by
  rw [Bool.eq_iff_iff]
  match ws with
  | [] => simp [eqvD, toPy, toPys, PyData.eqv, PyData.eqvAll]
  | [a] =>
    simp [eqvD, toPy, toPys, PyData.eqv, PyData.eqvAll]
  | a :: b :: l => simp [eqvD, toPy, toPys, PyData.eqv, PyData.eqvAll]
end
section
variable {P : Program} {w : World} {K : PySem.W.Frag} {mg : Str → Option Value} {base : Heap}
/-! is_tree, look_at_trees, of any words -/
open Tr
theorem isOpB_opB (a : Wd) : isOpB a = opB a := by
  rw [Bool.eq_iff_iff]
  constructor
  · intro h
    obtain ⟨n, hn⟩ := op_of_isOp h
    exact (op_opB hn).1
  · intro h
    exact isOp_of (opB_op h)
def WsOk (ws : List Wd) : Prop := ws.length ≤ 1000 ∧ ∀ a ∈ ws, Ww a
theorem tree_wsOk {t : T} (h : Good t) : WsOk (words t) := ⟨by have := h.len; omega, words_ww h.1⟩
theorem ww_ok {a : Wd} (h : Ww a) : PyData.strOk (SX.S a) = true := by
  unfold PyData.strOk
  rw [← Array.all_toList, List.all_eq_true]
  intro c hc
  have := h.2 c hc
  exact decide_eq_true (by omega)
theorem good_words {ws : List Wd} (h : WsOk ws) : goodD (wsD ws) = true := good_tup _ fun a ha => ww_ok (h.2 a ha)
theorem isTreeB_T {ws : List Wd} (h : isTreeB ws = true) : ∃ t, Good t ∧ words t = ws := by
  obtain ⟨t, h1, h2, h3⟩ := isTreeB_good h
  exact ⟨t, ⟨h1, h2⟩, h3⟩
def spIsTreeG : SpD := fun ds O Q _ => ∃ ws : List Wd, ds = [wsD ws] ∧ WsOk ws ∧ Q (.bl (isTreeB ws)) O
abbrev sIsTreeG : Stmt := topS 18
theorem scIsTreeG : FnScope ["words", "lack", "word"] ["words"] (defScope sIsTreeG) := ⟨rfl, rfl, rfl, by decide +kernel, rfl, by decide +kernel, by decide +kernel⟩
theorem ok_isTreeG {f : Addr} {fd : FuncData} {k : Nat} {t t2 : Tok} (F : Fun K "is_tree" "is_tree" sIsTreeG f fd) (cL : mg "LEAF" = some (.str "_" t)) (cM : mg "MOST_THINGS" = some (.int 7 t2))
    (GO : Fd P w K mg base "is_operation" 2 ["text"] spIsOp) (GR : Fd P w K mg base "room_of" 1 ["word"] spRoomOf) (hk : 2 ≤ k) : FnOk P w K mg base (L2.CX P w) (k + 1) f fd ["words"] (spD K spIsTreeG) := by
  refine fd_ok F scIsTreeG (fun ds O Q E ⟨_, e, _⟩ => by rw [e]; rfl) (fun cdv A outer s H E0 hr ds O Q E ⟨ws, e, hw, hQ⟩ => ?_)
  subst e
  have nd := scIsTreeG.nd
  refine wss_cons ?_
  repeat walk_at "v"
  refine wss_cons (ws_for (passes_of rfl) rfl (wi_tup ?_))
  repeat walk_at "v"
  refine ⟨_, rfl, fun i Γ2 O2 => O2 = O ∧ ∃ (n : Nat) (c : Option D), goF 1 ws = goF n (ws.drop i) ∧ Γ2 = [some (wsD ws), some (.int (n : Nat)), c], ⟨rfl, 1, none, rfl, rfl⟩, fun _ _ _ _ => trivial, ?_, ?_⟩
  · rintro i d Γ2 O2 hd ⟨rfl, n, c, hg, rfl⟩
    obtain ⟨a, ha, rfl⟩ := txs_at hd
    have hda : ws.drop i = a :: ws.drop (i + 1) := by
      obtain ⟨hlt, e⟩ := List.getElem?_eq_some_iff.mp ha
      rw [← e]
      exact List.drop_eq_getElem_cons hlt
    rw [hda, goF] at hg
    have hwa := hw.2 a (List.mem_of_getElem? ha)
    have no : goF 1 ws = false → Q (.bl false) O2 := fun z => by
      have e : isTreeB ws = false := by unfold isTreeB; rw [z]; rfl
      rw [e] at hQ
      exact hQ
    have hlen := hwa.1
    repeat walk_at "v"
    refine wss_cut (fun Γ3 O3 => O3 = O2 ∧ Γ3 = [some (wsD ws), some (.int (n : Nat)), some (tx a)] ∧ n ≠ 0 ∧ (a = [95] ∨ opB a = true)) ?_ ?_
    · refine ws_if ?_
      repeat walk_at "v"
      refine br (fun h1 => ?_) (fun h1 => ?_)
      · have h1 : n = 0 := by have := of_decide_eq_true h1; omega
        repeat walk_at "v"
        exact no (by rw [hg, decide_eq_true h1]; rfl)
      · have h1 : n ≠ 0 := by have := of_decide_eq_false h1; omega
        repeat walk_at "v"
        rw [show (Str.ofString "_").cps.toList = [95] from rfl]
        refine br (fun h2 => ?_) (fun h2 => ?_)
        · have h2 : a ≠ [95] := by simpa using h2
          repeat walk_at "v"
          refine ⟨a, rfl, by omega, ?_⟩
          repeat walk_at "v"
          refine br (fun h3 => ?_) (fun h3 => ?_)
          · have h3 : opB a = false := by rw [← isOpB_opB]; simpa using h3
            repeat walk_at "v"
            refine no (by rw [hg, h3]; simp [h2])
          · have h3 : opB a = true := by rw [← isOpB_opB]; simpa using h3
            repeat walk_at "v"
            exact ⟨rfl, rfl, h1, .inr h3⟩
        · have h2 : a = [95] := by simpa using h2
          repeat walk_at "v"
          exact ⟨rfl, rfl, h1, .inl h2⟩
    rintro Γ3 O3 ⟨rfl, rfl, hn, hop⟩
    have hg2 : goF 1 ws = goF (n - 1 + roomF a) (ws.drop (i + 1)) := by
      rw [hg, decide_eq_false hn]
      rcases hop with h | h
      · rw [h]
        simp [isLf]
      · rw [h]
        simp
    have hroom : a = [95] ∧ roomF a = 0 ∨ Op a (roomF a) := by
      rcases hop with rfl | h
      · exact .inl ⟨rfl, rfl⟩
      · exact .inr (opB_op h)
    refine wss_one (ws_augAdd 1 nd rfl ?_)
    repeat walk_at "v"
    refine ⟨a, roomF a, rfl, hroom, ?_⟩
    repeat walk_at "v"
    refine ⟨rfl, n - 1 + roomF a, some (tx a), hg2, ?_⟩
    show [_, some (D.int _), _] = _
    rw [show ((n : Nat) : Int) + (((roomF a : Nat) : Int) - 1) = ((n - 1 + roomF a : Nat) : Int) by omega]
  · rintro Γ2 O2 ⟨rfl, n, c, hg, rfl⟩
    rw [List.length_map, List.drop_length] at hg
    have hg : goF 1 ws = decide (n = 0) := hg
    repeat walk_at "v"
    refine br (fun h1 => ?_) (fun h1 => ?_)
    · have h1 : n = 0 := by have := of_decide_eq_true h1; omega
      repeat walk_at "v"
      refine w_tcount ?_
      repeat walk_at "v"
      refine ⟨_, rfl, ?_⟩
      repeat walk_at "v"
      refine ⟨flat_txs _, rfl, ?_⟩
      rw [show (Str.ofString "_").cps.toList = [95] from rfl, count_txs]
      repeat walk_at "v"
      have e : isTreeB ws = fLe ((ws.countP fun a => decide (a = [95]) : Nat)) 7 := by
        unfold isTreeB
        rw [hg, decide_eq_true h1, Bool.true_and]
        exact decide_eq_decide.mpr ⟨fun z => by show ((ws.countP isLf : Nat) : Int) ≤ 7; omega, fun z => by have : ((ws.countP isLf : Nat) : Int) ≤ 7 := z; omega⟩
      rw [← e]
      exact hQ
    · have h1 : n ≠ 0 := by have := of_decide_eq_false h1; omega
      have e : isTreeB ws = false := by
        unfold isTreeB
        rw [hg, decide_eq_false h1]
        rfl
      rw [e] at hQ
      exact hQ
def spLookTreesG (C : Addr) : SpD := fun ds O Q Ee => ∃ wss : List (List Wd), ds = [.lst (wss.map wsD)] ∧ (∀ ws ∈ wss, WsOk ws) ∧ ((∀ ws ∈ wss, isTreeB ws = true) → Q .non O) ∧
  (∀ i ws, wss[i]? = some ws → isTreeB ws = false → (∀ j v, j < i → wss[j]? = some v → isTreeB v = true) → Ee ⟨.ref C, ftD [("at", .inl 0), ("word", .inr "BadTree")] [.int (i : Nat)]⟩ O)
abbrev ftA (x : Str) : FT := [("at", .inl 0), ("word", .inr x)]
/-- look_at_trees of two -/
theorem look_two {C : Addr} {ps ts : List Wd} {O : Own} {Q : PD} {Ee : Ex → Own → Prop} (h1 : WsOk ps) (h2 : WsOk ts) (hg : isTreeB ps = true → isTreeB ts = true → Q .non O)
    (ha : isTreeB ps = false → Ee ⟨.ref C, ftD (ftA "BadTree") [.int 0]⟩ O) (hb : isTreeB ps = true → isTreeB ts = false → Ee ⟨.ref C, ftD (ftA "BadTree") [.int 1]⟩ O) : spLookTreesG C [.lst [wsD ps, wsD ts]] O Q Ee := by
  refine ⟨[ps, ts], rfl, fun ws hw => ?_, fun h => hg (h _ List.mem_cons_self) (h _ (List.mem_cons_of_mem _ List.mem_cons_self)), fun i ws hi hf hall => ?_⟩
  · simp only [List.mem_cons, List.not_mem_nil, or_false] at hw
    rcases hw with rfl | rfl <;> assumption
  · match i, hi with
    | 0, hi => cases Option.some.inj hi; exact ha hf
    | 1, hi => cases Option.some.inj hi; exact hb (hall 0 _ (by decide) rfl) hf
    | i + 2, hi => simp at hi
end
section
variable {P : Program} {w : World} {K : PySem.W.Frag} {mg : Str → Option Value} {base : Heap}
/-! paths_of, paths -/
open Tr
abbrev pathD (p : List Wd) : D := .tup (p.map tx)
def spPaths : SpD := fun ds O Q _ => ∃ t : T, ds = [treeD t] ∧ Good t ∧ Mk ((paths t).map pathD) O Q
/-- an entry of the stack: what stands above, the trees still to come -/
abbrev En := List Wd × List T
def enD (e : En) : D := .tup [pathD e.1, .int e.2.length]
def enPaths (st : List En) : List (List Wd) := st.flatMap fun e => (pathsL e.2).map (e.1 ++ ·)
def enWords (st : List En) : List Wd := st.flatMap fun e => wordsL e.2
theorem enWords_len : ∀ {st : List En}, (∀ e ∈ st, e.2 ≠ []) → st.length ≤ (enWords st).length
  | [], _ => Nat.le_refl _
  | e :: st, h => by
    have h1 := enWords_len (st := st) fun x hx => h x (List.mem_cons_of_mem _ hx)
    have h2 : 1 ≤ (wordsL e.2).length := by
      have := h e List.mem_cons_self
      match e.2, this with
      | t :: ts, _ =>
        have := List.length_pos_iff.mpr (words_ne t)
        show 1 ≤ (words t ++ wordsL ts).length
        rw [List.length_append]
        omega
    show (e :: st).length ≤ (wordsL e.2 ++ enWords st).length
    rw [List.length_cons, List.length_append]
    omega
theorem drop_cons {α : Type} {l : List α} {i : Nat} {a : α} (h : l[i]? = some a) : l.drop i = a :: l.drop (i + 1) := by
  obtain ⟨hlt, e⟩ := List.getElem?_eq_some_iff.mp h
  rw [← e]
  exact List.drop_eq_getElem_cons hlt
end
section
variable {P : Program} {w : World} {K : PySem.W.Frag} {mg : Str → Option Value} {base : Heap}
theorem log_small {i : Nat} (h : i ≤ 100000) : i.log2 < 9000 := by
  by_cases e : i = 0
  · subst e; decide
  · exact Nat.lt_trans ((Nat.log2_lt (k := 17) e).mpr (Nat.lt_of_le_of_lt h (by decide))) (by decide)
abbrev sPull : Stmt := topS 27
theorem scPull : FnScope ["_law_dr", "_law_many", "_law_cell", "_law_got", "_law_once"] ["_law_dr", "_law_many"] (defScope sPull) := ⟨rfl, rfl, rfl, by decide +kernel, rfl, by decide +kernel, by decide +kernel⟩
theorem ok_pull {f : Addr} {fd : FuncData} {k : Nat} (F : Fun K "_law_pull" "_law_pull" sPull f fd) (mlen : mg "len" = none) : FnOk P w K mg base (L2.CX P w) (k + 1) f fd ["_law_dr", "_law_many"] (spD K spPull) := by
  refine fd_ok F scPull (fun ds O Q E ⟨p, m, e, _⟩ => by rw [e]; rfl) (fun cdv A outer s H E0 hr ds O Q E ⟨p, m, e, hO, hm, hm2, hQ⟩ => ?_)
  subst e
  refine WSs.opn hO fun ds ⟨ns, i, a, s, e, hs1, hs2⟩ => ?_
  subst e
  have nd := scPull.nd
  have il : ∀ {c : Int} {d : D}, (ns.map D.int)[i]? = some d → True := fun _ => trivial
  -- if _law_dr[2] < _law_many and _law_dr[1] < len(_law_dr[0])
  refine wss_cut (fun Γ' O' => ∃ (c : Option D) (i : Nat) (a s : Int), Γ' = [some (.obj p), some (.int m), c, none, none] ∧ -(2 ^ 31) < s ∧ s < 2 ^ 31 ∧ O' = updO O p (.lst [.lst (ns.map .int), .int i, .int a, .int s])) ?_ ?_
  · refine ws_if ?_
    repeat walk_at "e"
    refine br (fun h1 => ?_) (fun h1 => ?_)
    rotate_left
    · exact wss_nil ⟨none, i, a, s, rfl, hs1, hs2, rfl⟩
    repeat walk_at "e"
    refine br (fun h2 => ?_) (fun h2 => ?_)
    rotate_left
    · exact wss_nil ⟨none, i, a, s, rfl, hs1, hs2, rfl⟩
    have h3 := of_decide_eq_true h2
    have hi : i < ns.length := by omega
    -- _law_cell = _law_dr[0][_law_dr[1]]
    refine wss_cons (ws_set 2 nd ?_)
    repeat walk_at "e"
    refine sIx_l (atI_nat (v := D.int ns[i]) (by rw [List.getElem?_map, List.getElem?_eq_getElem hi]; rfl)) ?_
    refine wss_cons (ws_asg ?_)
    repeat walk_at "e"
    refine wg_sub ?_
    repeat walk_at "e"
    refine ⟨p, 1, _, 1, rfl, rfl, updO_same, rfl, ?_⟩
    refine wss_cons (ws_asg ?_)
    repeat walk_at "e"
    refine wg_sub ?_
    repeat walk_at "e"
    refine ⟨p, 2, _, 2, rfl, rfl, updO_same, rfl, ?_⟩
    rw [updO_updO, updO_updO]
    refine wss_cut (fun Γ' O' => ∃ (c : Int), Γ' = [some (.obj p), some (.int m), some (.int c), none, none] ∧ O' = updO O p (.lst [.lst (ns.map .int), .int (i + 1), .int 0, .int s])) ?_ ?_
    · refine ws_if ?_
      repeat walk_at "e"
      refine br (fun h1 => ?_) (fun h1 => ?_)
      · refine wss_one (ws_set 2 nd ?_)
        repeat walk_at "e"
        exact ⟨_, rfl, rfl⟩
      · exact wss_nil ⟨_, rfl, rfl⟩
    rintro Γ' O' ⟨c, rfl, rfl⟩
    refine wss_cut (fun Γ' O' => ∃ (a : Int), Γ' = [some (.obj p), some (.int m), some (.int c), none, none] ∧ O' = updO O p (.lst [.lst (ns.map .int), .int (i + 1), .int a, .int s])) ?_ ?_
    · refine ws_if ?_
      repeat walk_at "e"
      refine br (fun h1 => ?_) (fun h1 => ?_)
      · refine wss_one (ws_asg ?_)
        repeat walk_at "e"
        refine wg_sub ?_
        repeat walk_at "e"
        refine ⟨p, 2, _, 2, rfl, rfl, updO_same, rfl, ?_⟩
        rw [updO_updO]
        exact ⟨_, rfl, rfl⟩
      · exact wss_nil ⟨_, rfl, rfl⟩
    rintro Γ' O' ⟨a, rfl, rfl⟩
    refine wss_one (ws_asg ?_)
    repeat walk_at "e"
    refine wg_sub ?_
    repeat walk_at "e"
    refine ⟨p, 3, _, 3, rfl, rfl, updO_same, rfl, ?_⟩
    rw [updO_updO]
    exact ⟨_, i + 1, _, _, rfl, by omega, by omega, rfl⟩
  · rintro Γ' O' ⟨c, i, a, s, rfl, hs1, hs2, rfl⟩
    refine wss_cons (ws_if ?_)
    repeat walk_at "e"
    refine br (fun h1 => ?_) (fun h1 => ?_)
    · refine wss_cons (ws_set 3 nd ?_)
      repeat walk_at "e"
      refine wss_cons (ws_asg ?_)
      repeat walk_at "e"
      refine wg_sub ?_
      repeat walk_at "e"
      refine ⟨p, 2, _, 2, rfl, rfl, updO_same, rfl, ?_⟩
      refine WSs.cls (p := p) (Pw := DrOk) updO_same ⟨ns, i, _, s, rfl, hs1, hs2⟩ ?_
      rw [updO_updO, updO_updO, updO_self hO]
      refine wss_one (ws_ret ?_)
      repeat walk_at "e"
      exact hQ _ (Int.emod_nonneg _ (by omega)) (Int.emod_lt_of_pos _ hm)
    · refine wss_nil ?_
      refine wss_cons (ws_set 4 nd ?_)
      repeat walk_at "e"
      refine wss_cons (ws_asg ?_)
      repeat walk_at "e"
      refine wg_sub ?_
      repeat walk_at "e"
      refine ⟨p, 3, _, 3, rfl, rfl, updO_same, rfl, ?_⟩
      rw [updO_updO]
      refine wss_one (ws_ret (WE.clsP (p := p) (Pw := DrOk) ?_))
      repeat walk_at "e"
      refine ⟨_, updO_same, ⟨ns, i, a, _, rfl, by omega, by omega⟩, ?_⟩
      rw [updO_updO, updO_self hO]
      exact hQ _ (Int.emod_nonneg _ (by omega)) (Int.emod_lt_of_pos _ hm)
end
section
variable {P : Program} {w : World} {K : PySem.W.Frag} {mg : Str → Option Value} {base : Heap}
/-! _law_bag -/
abbrev sBag : Stmt := topS 26
theorem scBag : FnScope ["_law_script"] ["_law_script"] (defScope sBag) := ⟨rfl, rfl, rfl, by decide +kernel, rfl, by decide +kernel, by decide +kernel⟩
theorem cut_rolR (ns : List Int) (lo hi : Option Int) : ∃ ms : List Int, cutD (ns.map .int) lo hi = ms.map .int := ⟨_, cut_row ns lo hi⟩
theorem ok_bag {f : Addr} {fd : FuncData} {k : Nat} (F : Fun K "_law_bag" "_law_bag" sBag f fd) (mlst : mg "list" = none) : FnOk P w K mg base (L2.CX P w) (k + 1) f fd ["_law_script"] (spD K spBag) := by
  refine fd_ok F scBag (fun ds O Q E ⟨ns, e, _⟩ => by rw [e]; rfl) (fun cdv A outer s H E0 hr ds O Q E ⟨ns, e, hQ⟩ => ?_)
  subst e
  refine wss_one (ws_ret (WE.clsP2 (w_lst (wa_cons (w_list mlst (w_sl ?_))))))
  repeat walk_at "e"
  refine wo_none (wo_some ?_)
  repeat walk_at "e"
  refine sSl_r (.fix ?_)
  obtain ⟨ms, e⟩ := cut_rolR ns none (some 63)
  rw [e]
  refine ⟨_, rfl, .fix ?_⟩
  repeat walk_at "e"
  refine .own fun p np => ⟨p, DrOk, _, updO_same, ⟨ms, 0, 0, 30011, rfl, by decide, by decide⟩, ?_⟩
  rw [updO_updO]
  exact hQ p np
end
section
variable {P : Program} {w : World} {K : PySem.W.Frag} {mg : Str → Option Value} {base : Heap}
/-! _law_same: alike data are the same -/
def PlainD : Nat → D → Prop
  | _, .non => True
  | _, .bl _ => True
  | _, .int _ => True
  | _, .str _ => True
  | n + 1, .lst xs => xs.length ≤ 90000 ∧ ∀ d ∈ xs, PlainD n d
  | n + 1, .tup xs => xs.length ≤ 90000 ∧ ∀ d ∈ xs, PlainD n d
  | _, _ => False
abbrev sSame : Stmt := topS 29
theorem scSame : FnScope ["_law_found", "_law_due", "_law_k"] ["_law_found", "_law_due"] (defScope sSame) := ⟨rfl, rfl, rfl, by decide +kernel, rfl, by decide +kernel, by decide +kernel⟩
def spSame (n : Nat) : SpD := fun ds O Q _ => ∃ x y : D, ds = [y, x] ∧ PlainD n x ∧ (y = x ∨ ∃ p xs, y = .obj p ∧ x = .lst xs ∧ O p = some (.lst xs)) ∧ Q (.bl true) O
theorem all_true {ds : List D} {O : Own} {Q : PD} (hQ : Q (.bl true) O) (ys : List D) (h1 : ys.length = ds.length) (h2 : ∀ (i : Nat) d, ds[i]? = some d → ∃ y, ys[i]? = some y ∧ y = .bl true) : Mk ys O fun d O1 => sAll d O1 Q := by
  have e : ys = (List.replicate ds.length true).map D.bl := by
    apply List.ext_getElem?
    intro i
    rw [List.getElem?_map, List.getElem?_replicate]
    by_cases hi : i < ds.length
    · obtain ⟨y, h3, h4⟩ := h2 i _ (List.getElem?_eq_getElem hi)
      rw [h3, h4, if_pos hi]
      rfl
    · rw [List.getElem?_eq_none_iff.mpr (by omega), if_neg hi]
      rfl
  refine .fix ⟨_, by rw [e]; rfl, ?_⟩
  rw [show (List.replicate ds.length true).all id = true by simp]
  exact hQ
theorem ok_same {f : Addr} {fd : FuncData} {n : Nat} (F : Fun K "_law_same" "_law_same" sSame f fd) (GS : ∀ m, n = m + 1 → Fd P w K mg base "_law_same" n ["_law_found", "_law_due"] (spSame m))
    (misi : mg "isinstance" = none) (mb : mg "bool" = none) (mi : mg "int" = none) (ms : mg "str" = none) (ml : mg "list" = none) (mt : mg "tuple" = none) (mlen : mg "len" = none) (mall : mg "all" = none) (mrng : mg "range" = none) :
    FnOk P w K mg base (L2.CX P w) (n + 1) f fd ["_law_found", "_law_due"] (spD K (spSame n)) := by
  refine fd_ok F scSame (fun ds O Q E ⟨_, _, e, _⟩ => by rw [e]; rfl) (fun cdv A outer s H E0 hr ds O Q E ⟨x, y, e, hx, hy0, hQ⟩ => ?_)
  subst e
  have nd := scSame.nd
  have hQ2 : Q (.bl true) O := hQ
  have hyx : (∀ xs, x ≠ .lst xs) → y = x := fun h => by
    rcases hy0 with e | ⟨p, xs, _, e, _⟩
    · exact e
    · exact absurd e (h xs)
  match x, hx with
  | .non, _ =>
    obtain rfl := hyx fun xs h => nomatch h
    repeat walk_at "w"
    exact hQ
  | .bl b, _ =>
    obtain rfl := hyx fun xs h => nomatch h
    repeat walk_at "w"
    simpa using hQ
  | .int i, _ =>
    obtain rfl := hyx fun xs h => nomatch h
    repeat walk_at "w"
    simpa using hQ
  | .str z, _ =>
    obtain rfl := hyx fun xs h => nomatch h
    repeat walk_at "w"
    simpa using hQ
  | .lst xs, hx =>
    have hyS : ∀ O2, RW.Sub O O2 → asS O2 y = some xs := fun O2 hs => by
      rcases hy0 with e | ⟨p, xs', e1, e2, e3⟩
      · rw [e]; rfl
      · cases e2
        rw [e1]
        exact asL_obj (hs _ _ e3)
    have hy : asL O y = some xs := by
      rcases hy0 with e | ⟨p, xs', e1, e2, e3⟩
      · rw [e]; rfl
      · cases e2
        rw [e1]
        exact asL_obj e3
    obtain ⟨hl, m, hm, hall⟩ : xs.length ≤ 90000 ∧ ∃ m, n = m + 1 ∧ ∀ d ∈ xs, PlainD m d := by
      cases n with
      | zero => exact hx.elim
      | succ m => exact ⟨hx.1, m, rfl, hx.2⟩
    repeat walk_at "w"
    refine sLen_L hy ?_
    repeat walk_at "w"
    refine br_t (by simp) (w_one (w_all rfl mall ?_))
    refine w_lc (own := [("_law_k", 2)]) [2] rfl nd (blkOk_by rfl) rfl (wi_rng1 mrng ?_)
    repeat walk_at "e"
    refine ⟨_, rfl, by omega, by omega, ?_⟩
    refine lc_all (fun _ _ y => y = .bl true) (by rw [rngD_len]; omega) (fun _ _ => trivial) (fun i d O2 hd hs s H C cl fp => ?_) (all_true hQ2)
    obtain ⟨hi, rfl⟩ := rngD_get hd
    refine wgc_name 2 nd ⟨rfl, fun s H C cl fp => ?_⟩
    have hi2 : i < xs.length := by omega
    have hd2 : xs[i]? = some xs[i] := List.getElem?_eq_getElem hi2
    have hy2 : asS O2 y = some xs := hyS O2 hs
    refine w_call (GS m hm) hr (by omega) ?_
    repeat walk_at "e"
    refine sIx_seq (xs := xs) ?h1 (atI_of (j := i) (by omega) hd2) ?_
    case h1 => exact hy2
    repeat walk_at "e"
    refine sIx_l (atI_of (j := i) (by omega) hd2) ?_
    repeat walk_at "e"
    exact ⟨_, _, rfl, hall _ (List.getElem_mem hi2), .inl rfl, rfl, rfl⟩
  | .tup xs, hx =>
    obtain rfl := hyx fun xs h => nomatch h
    obtain ⟨hl, m, hm, hall⟩ : xs.length ≤ 90000 ∧ ∃ m, n = m + 1 ∧ ∀ d ∈ xs, PlainD m d := by
      cases n with
      | zero => exact hx.elim
      | succ m => exact ⟨hx.1, m, rfl, hx.2⟩
    repeat walk_at "w"
    refine br_t (by simp) (w_one (w_all rfl mall ?_))
    refine w_lc (own := [("_law_k", 2)]) [2] rfl nd (blkOk_by rfl) rfl (wi_rng1 mrng ?_)
    repeat walk_at "e"
    refine ⟨_, rfl, by omega, by omega, ?_⟩
    refine lc_all (fun _ _ y => y = .bl true) (by rw [rngD_len]; omega) (fun _ _ => trivial) (fun i d O2 hd hs s H C cl fp => ?_) (all_true hQ2)
    obtain ⟨hi, rfl⟩ := rngD_get hd
    refine wgc_name 2 nd ⟨rfl, fun s H C cl fp => ?_⟩
    have hi2 : i < xs.length := by omega
    have hd2 : xs[i]? = some xs[i] := List.getElem?_eq_getElem hi2
    refine w_call (GS m hm) hr (by omega) ?_
    repeat walk_at "e"
    refine sIx_t (atI_of (j := i) (by omega) hd2) ?_
    repeat walk_at "e"
    refine sIx_t (atI_of (j := i) (by omega) hd2) ?_
    repeat walk_at "e"
    exact ⟨_, _, rfl, hall _ (List.getElem_mem hi2), .inl rfl, rfl, rfl⟩
  | .ty z, hx => cases n <;> exact hx.elim
  | .obj z, hx => cases n <;> exact hx.elim
  | .rol z, hx => cases n <;> exact hx.elim
  | .pr z, hx => cases n <;> exact hx.elim
  | .ins _ _, hx => cases n <;> exact hx.elim
  | .xc _ _ _ _, hx => cases n <;> exact hx.elim
  | .lam _ _, hx => cases n <;> exact hx.elim
  | .dt _ _, hx => cases n <;> exact hx.elim
  | .dk _ _ _, hx => cases n <;> exact hx.elim
end
section
variable {P : Program} {w : World} {K : PySem.W.Frag} {mg : Str → Option Value} {base : Heap}
/-! _law_of -/
abbrev sOf : Stmt := topS 28
theorem scOf : FnScope ["_law_dr", "_law_some"] ["_law_dr", "_law_some"] (defScope sOf) := ⟨rfl, rfl, rfl, by decide +kernel, rfl, by decide +kernel, by decide +kernel⟩
def spOf : SpD := fun ds O Q _ => ∃ (p : Addr) (x : D) (xs : List D), ds = [.obj p, x] ∧ O p = some (.any DrOk) ∧ asS O x = some xs ∧ 0 < xs.length ∧ xs.length ≤ 100000 ∧ ∀ d ∈ xs, Q d O
theorem ok_of {f : Addr} {fd : FuncData} {k : Nat} (F : Fun K "_law_of" "_law_of" sOf f fd) (mlen : mg "len" = none) (GP : Fd P w K mg base "_law_pull" 1 ["_law_dr", "_law_many"] spPull) (hk : 1 ≤ k) : FnOk P w K mg base (L2.CX P w) (k + 1) f fd ["_law_dr", "_law_some"] (spD K spOf) := by
  refine fd_ok F scOf (fun ds O Q E ⟨_, _, _, e, _⟩ => by rw [e]; rfl) (fun cdv A outer s H E0 hr ds O Q E ⟨p, x, xs, e, hp, hx, h0, hl, hQ⟩ => ?_)
  subst e
  refine wss_one (ws_ret (w_ix ?_))
  repeat walk_at "e"
  refine w_call GP hr (by omega) ?_
  repeat walk_at "e"
  have hlen : ∀ (Q : PD), Q (.int xs.length) O → sLen x O Q := fun Q q => by
    cases x <;> first | exact ⟨xs, hx, q⟩ | (simp [asS, asL] at hx)
  refine hlen _ ?_
  repeat walk_at "e"
  refine ⟨p, _, rfl, hp, by omega, log_small (by simpa using hl), fun r hr1 hr2 => ?_⟩
  obtain ⟨j, rfl⟩ := Int.eq_ofNat_of_zero_le hr1
  have hj : j < xs.length := by omega
  exact sIx_seq hx (atI_of rfl (List.getElem?_eq_getElem hj)) (hQ _ (List.getElem_mem hj))
end
section
variable {P : Program} {w : World} {K : PySem.W.Frag} {mg : Str → Option Value} {base : Heap}
/-! the law's operations: _law_names, _law_ops, _law_wild_arities -/
open Tr
def Hd6 (a : Wd) : Prop := 1 ≤ a.length ∧ a.length ≤ 6 ∧ ∀ c ∈ a, 97 ≤ c ∧ c ≤ 122
theorem tx_inj {a b : List Nat} (h : tx a = tx b) : a = b := by
  have e := SX.S_beq_eq (a := a) (b := b)
  rw [D.str.inj h, beq_self_eq_true] at e
  exact of_decide_eq_true e.symm
def nameF (tl : Wd) (j x y k : Nat) : Wd := tl.take j ++ [97 + (x + y * k) % 26] ++ tl.drop j
theorem name_inj {tl : Wd} {j x y k l : Nat} (hy : y = 1 ∨ y = 3 ∨ y = 5 ∨ y = 7 ∨ y = 9 ∨ y = 11) (hk : k < 26) (hl : l < 26) (h : nameF tl j x y k = nameF tl j x y l) : k = l := by
  unfold nameF at h
  rw [List.append_assoc, List.append_assoc] at h
  have h2 := List.append_cancel_left h
  have h3 := (List.cons.inj (show (97 + (x + y * k) % 26) :: tl.drop j = (97 + (x + y * l) % 26) :: tl.drop j from h2)).1
  rcases hy with rfl | rfl | rfl | rfl | rfl | rfl <;> omega
theorem names_nd {tl : Wd} {j x y : Nat} (hy : y = 1 ∨ y = 3 ∨ y = 5 ∨ y = 7 ∨ y = 9 ∨ y = 11) : ∀ {n : Nat}, n ≤ 26 → ((List.range n).map (nameF tl j x y)).Nodup
  | 0, _ => List.nodup_nil
  | n + 1, hn => by
    rw [List.range_succ, List.map_append]
    refine List.nodup_append.mpr ⟨names_nd hy (by omega), by simp, fun a ha b hb => ?_⟩
    have hb : b = nameF tl j x y n := by simpa using hb
    obtain ⟨i, hi, rfl⟩ := List.mem_map.mp ha
    have hi := List.mem_range.mp hi
    intro z
    have := name_inj hy (by omega) (by omega) (z.trans hb)
    omega
abbrev sNames : Stmt := topS 30
theorem scNames : FnScope ["_law_dr", "_law_many", "_law_tail", "_law_at", "_law_start", "_law_step", "_law_signs", "_law_found", "_law_k", "_law_sign"] ["_law_dr", "_law_many"] (defScope sNames) := ⟨rfl, rfl, rfl, by decide +kernel, rfl, by decide +kernel, by decide +kernel⟩
def spNames : SpD := fun ds O Q _ => ∃ (p : Addr) (m : Nat), ds = [.obj p, .int m] ∧ O p = some (.any DrOk) ∧ m ≤ 20 ∧ ∀ hs : List Wd, hs.length = m → (∀ h ∈ hs, Hd6 h) → hs.Nodup → Mk (hs.map tx) O Q
theorem ok_names {f : Addr} {fd : FuncData} {k : Nat} (F : Fun K "_law_names" "_law_names" sNames f fd) (mlen : mg "len" = none) (mrng : mg "range" = none) (GP : Fd P w K mg base "_law_pull" 1 ["_law_dr", "_law_many"] spPull) (hk : 1 ≤ k) :
    FnOk P w K mg base (L2.CX P w) (k + 1) f fd ["_law_dr", "_law_many"] (spD K spNames) := by
  refine fd_ok F scNames (fun ds O Q E ⟨_, _, e, _⟩ => by rw [e]; rfl) (fun cdv A outer s H E0 hr ds O Q E ⟨p, m, e, hp, hm, hQ⟩ => ?_)
  subst e
  have nd := scNames.nd
  refine wss_cut (fun Γ2 O2 => ∃ tl : Wd, tl.length ≤ 5 ∧ (∀ c ∈ tl, 97 ≤ c ∧ c ≤ 122) ∧ Γ2 = [some (.obj p), some (.int m), some (tx tl), none, none, none, none, none, none, none] ∧ O2 = O) ?_ ?_
  · refine ws_set 2 nd ?_
    repeat walk_at "e"
    refine .fix ?_
    repeat walk_at "e"
    refine w_call GP hr (by omega) ?_
    repeat walk_at "e"
    refine ⟨p, _, rfl, hp, by decide, by decide, fun r a b => ?_⟩
    refine sIx_any a b (all_cons ⟨_, by decide, by decide, rfl, rfl⟩ (all_cons ⟨_, by decide, by decide, rfl, rfl⟩ (all_cons ⟨_, by decide, by decide, rfl, rfl⟩ (all_cons ⟨_, by decide, by decide, rfl, rfl⟩ (all_cons ⟨_, by decide, by decide, rfl, rfl⟩ (all_cons ⟨_, by decide, by decide, rfl, rfl⟩ all_nil))))))
  rintro Γ2 O2 ⟨tl, ht1, ht2, rfl, rfl⟩
  refine wss_cut (fun Γ3 O3 => ∃ j : Nat, Γ3 = [some (.obj p), some (.int m), some (tx tl), some (.int (j : Nat)), none, none, none, none, none, none] ∧ O3 = O2) ?_ ?_
  · refine ws_set 3 nd (w_call GP hr (by omega) ?_)
    have htl : tl.length ≤ 100000 := by omega
    repeat walk_at "e"
    refine ⟨p, _, rfl, hp, by omega, Nat.lt_of_le_of_lt (Nat.log2_le_self _) (by omega), fun r a b => by
      obtain ⟨j, rfl⟩ := Int.eq_ofNat_of_zero_le a
      exact ⟨j, rfl, rfl⟩⟩
  rintro Γ3 O3 ⟨j, rfl, rfl⟩
  refine wss_cut (fun Γ4 O4 => ∃ x : Nat, Γ4 = [some (.obj p), some (.int m), some (tx tl), some (.int (j : Nat)), some (.int (x : Nat)), none, none, none, none, none] ∧ O4 = O3) ?_ ?_
  · refine ws_set 4 nd (w_call GP hr (by omega) ?_)
    repeat walk_at "e"
    refine ⟨p, _, rfl, hp, by decide, by decide, fun r a b => by
      obtain ⟨x, rfl⟩ := Int.eq_ofNat_of_zero_le a
      exact ⟨x, rfl, rfl⟩⟩
  rintro Γ4 O4 ⟨x, rfl, rfl⟩
  refine wss_cut (fun Γ5 O5 => ∃ y : Nat, (y = 1 ∨ y = 3 ∨ y = 5 ∨ y = 7 ∨ y = 9 ∨ y = 11) ∧ Γ5 = [some (.obj p), some (.int m), some (tx tl), some (.int (j : Nat)), some (.int (x : Nat)), some (.int (y : Nat)), none, none, none, none] ∧ O5 = O4) ?_ ?_
  · refine ws_set 5 nd ?_
    repeat walk_at "e"
    refine .fix ?_
    repeat walk_at "e"
    refine w_call GP hr (by omega) ?_
    repeat walk_at "e"
    refine ⟨p, _, rfl, hp, by decide, by decide, fun r a b => ?_⟩
    refine sIx_any a b (all_cons ⟨1, by decide, rfl, rfl⟩ (all_cons ⟨3, by decide, rfl, rfl⟩ (all_cons ⟨5, by decide, rfl, rfl⟩ (all_cons ⟨7, by decide, rfl, rfl⟩ (all_cons ⟨9, by decide, rfl, rfl⟩ (all_cons ⟨11, by decide, rfl, rfl⟩ all_nil))))))
  rintro Γ5 O5 ⟨y, hy, rfl, rfl⟩
  refine wss_cons (ws_set 6 nd ?_)
  repeat walk_at "e"
  refine wss_cons (ws_set 7 nd ?_)
  repeat walk_at "e"
  refine .own fun q nq => ?_
  have hqp : p ≠ q := fun z => by rw [z, nq] at hp; cases hp
  refine wss_cons (ws_for (passes_of rfl) rfl (wi_rng1 mrng ?_))
  repeat walk_at "e"
  refine ⟨m, rfl, by omega, by omega, fun i Γ2 O2 => ∃ (hs : List Wd) (c1 c2 : Option D), hs = (List.range i).map (nameF tl j x y) ∧ (∀ h ∈ hs, Hd6 h) ∧ i ≤ m ∧ Γ2 = [some (.obj p), some (.int m), some (tx tl), some (.int (j : Nat)), some (.int (x : Nat)), some (.int (y : Nat)), some (tx (Str.ofString "abcdefghijklmnopqrstuvwxyz").cps.toList), some (.obj q), c1, c2] ∧ O2 = updO O5 q (.lst (hs.map tx)),
    ⟨[], none, none, rfl, (fun h hh => nomatch hh), Nat.zero_le _, rfl, rfl⟩, fun _ _ _ _ => trivial, ?_, ?_⟩
  · rintro i d Γ2 O2 hd ⟨hs, c1, c2, hl, hh, hi, rfl, rfl⟩
    obtain ⟨hi2, rfl⟩ := rngD_get hd
    have hi3 : i < m := by omega
    have hlen : hs.length = i := by rw [hl, List.length_map, List.length_range]
    refine wg_name 8 nd ?_
    refine wss_cut (fun Γ3 O3 => ∃ c : Nat, 97 ≤ c ∧ c ≤ 122 ∧ c = 97 + (x + y * i) % 26 ∧ Γ3 = [some (.obj p), some (.int m), some (tx tl), some (.int (j : Nat)), some (.int (x : Nat)), some (.int (y : Nat)), some (tx (Str.ofString "abcdefghijklmnopqrstuvwxyz").cps.toList), some (.obj q), some (.int (0 + (i : Nat))), some (tx [c])] ∧ O3 = updO O5 q (.lst (hs.map tx))) ?_ ?_
    · refine ws_set 9 nd ?_
      repeat walk_at "e"
      have hz : ((x : Nat) : Int) + ((y : Nat) : Int) * (0 + ((i : Nat) : Int)) = ((x + y * i : Nat) : Int) := by
        rw [Int.zero_add]
        omega
      rw [hz]
      have key : ∀ n : Nat, n < 26 → ((Str.ofString "abcdefghijklmnopqrstuvwxyz").cps.toList)[n]? = some (97 + n) := by decide
      have hn : (x + y * i) % 26 < 26 := Nat.mod_lt _ (by decide)
      refine sIx_tx (j := (x + y * i) % 26) (by decide) (by omega) (key _ hn) ⟨97 + (x + y * i) % 26, by omega, by omega, rfl, rfl, rfl⟩
    rintro Γ3 O3 ⟨c, hc1, hc2, hce, rfl, rfl⟩
    refine wss_one (ws_expr (w_append ?_))
    repeat walk_at "e"
    refine ⟨q, rfl, ⟨_, updO_same⟩, ?_⟩
    refine w_add ?_
    refine w_add (w_sl ?_)
    repeat walk_at "e"
    refine wo_none (wo_some ?_)
    repeat walk_at "e"
    have k1 : (tl.take j).length ≤ tl.length := by rw [List.length_take]; omega
    have k2 : (tl.drop j).length ≤ tl.length := by rw [List.length_drop]; omega
    refine sSl_to (by omega) (Int.natCast_nonneg j) ?_
    rw [Int.toNat_natCast]
    repeat walk_at "e"
    refine sAdd_tx (by simp; omega) (w_sl ?_)
    repeat walk_at "e"
    refine wo_some ?_
    repeat walk_at "e"
    refine wo_none (sSl_from (by omega) (Int.natCast_nonneg j) ?_)
    rw [Int.toNat_natCast]
    refine sAdd_tx (by simp; omega) ?_
    refine ⟨_, updO_same, ?_, ?_⟩
    · rw [List.length_map]
      exact Nat.lt_of_lt_of_le (m := 100) (by omega) (by decide)
    · refine ⟨hs ++ [tl.take j ++ [c] ++ tl.drop j], _, _, ?_, ?_, hi3, rfl, ?_⟩
      · rw [List.range_succ, List.map_append, hl, hce]
        rfl
      · intro h hh'
        rcases List.mem_append.mp hh' with hh' | hh'
        · exact hh h hh'
        · rw [List.mem_singleton.mp hh']
          have k3 : (tl.take j).length + (tl.drop j).length = tl.length := by rw [← List.length_append, List.take_append_drop]
          refine ⟨by simp; omega, by rw [List.length_append, List.length_append, List.length_singleton]; omega, fun d hd => ?_⟩
          rcases List.mem_append.mp hd with hd | hd
          · rcases List.mem_append.mp hd with hd | hd
            · exact ht2 d (List.mem_of_mem_take hd)
            · rw [List.mem_singleton.mp hd]; exact ⟨hc1, hc2⟩
          · exact ht2 d (List.mem_of_mem_drop hd)
      · rw [updO_updO, List.map_append]
        rfl
  · rintro Γ2 O2 ⟨hs, c1, c2, hl, hh, hi, rfl, rfl⟩
    rw [rngD_len] at hl
    have hl2 : hs.length = m := by rw [hl]; simp
    have hnd : hs.Nodup := by rw [hl]; exact names_nd hy (by omega)
    refine wss_one (ws_ret ?_)
    rcases hQ hs hl2 hh hnd with hQ | hQ
    · refine WE.fixed ?_
      repeat walk_at "e"
      refine ⟨q, _, rfl, updO_same, ?_⟩
      rw [delO_updO nq]
      exact hQ
    · repeat walk_at "e"
      exact hQ q nq
/-! _law_ops -/
abbrev sOps : Stmt := topS 31
theorem scOps : FnScope ["_law_dr", "_law_arities_here", "_law_heads", "_law_alike", "_law_k"] ["_law_dr", "_law_arities_here"] (defScope sOps) := ⟨rfl, rfl, rfl, by decide +kernel, rfl, by decide +kernel, by decide +kernel⟩
def spOps : SpD := fun ds O Q _ => ∃ (p : Addr) (ns : List Int), ds = [.obj p, rowD ns] ∧ O p = some (.any DrOk) ∧ 1 ≤ ns.length ∧ ns.length ≤ 20 ∧ (∀ n ∈ ns, 2 ≤ n ∧ n ≤ 4) ∧ ∀ os : List Wd, os.length = ns.length → (∀ o ∈ os, ∃ n, Op o n) → os.Nodup → sortedS (os.map SX.S) = true → (∀ o ∈ os, ∃ n : Nat, Op o n ∧ (n : Int) ∈ ns) → Mk (os.map tx) O Q
theorem op_make {h : Wd} {n : Int} {ns : List Int} (hh : Hd6 h) (h1 : 2 ≤ n) (h2 : n ≤ 4) (hm : n ∈ ns) : ∃ m : Nat, Op (h ++ intL n) m ∧ (m : Int) ∈ ns := by
  obtain ⟨m, rfl⟩ := Int.eq_ofNat_of_zero_le (show 0 ≤ n by omega)
  refine ⟨m, ⟨h, ?_, by omega, by omega, hh.1, hh.2.1, hh.2.2⟩, hm⟩
  unfold intL
  rw [if_neg (by omega)]
  show h ++ TL.numL m = _
  rw [TL.numL_lt (by omega)]
theorem ok_ops {f : Addr} {fd : FuncData} {k : Nat} (F : Fun K "_law_ops" "_law_ops" sOps f fd) (mlen : mg "len" = none) (mset : mg "set" = none) (mstr : mg "str" = none) (msrt : mg "sorted" = none) (mrng : mg "range" = none)
    (GP : Fd P w K mg base "_law_pull" 1 ["_law_dr", "_law_many"] spPull) (GN : Fd P w K mg base "_law_names" 2 ["_law_dr", "_law_many"] spNames) (hk : 2 ≤ k) :
    FnOk P w K mg base (L2.CX P w) (k + 1) f fd ["_law_dr", "_law_arities_here"] (spD K spOps) := by
  refine fd_ok F scOps (fun ds O Q E ⟨_, _, e, _⟩ => by rw [e]; rfl) (fun cdv A outer s H E0 hr ds O Q E ⟨p, ns, e, hp, hn1, hn2, hn, hQ⟩ => ?_)
  subst e
  have nd := scOps.nd
  refine wss_cut (fun Γ2 O2 => ∃ hs : List Wd, hs.length = ns.length ∧ (∀ h ∈ hs, Hd6 h) ∧ hs.Nodup ∧ Γ2 = [some (.obj p), some (rowD ns), some (.lst (hs.map tx)), none, none] ∧ O2 = O) ?_ ?_
  · refine ws_set 2 nd (w_call GN hr (by omega) ?_)
    repeat walk_at "e"
    exact ⟨p, ns.length, rfl, hp, hn2, fun hs h1 h2 h3 => .fix ⟨hs, h1, h2, h3, rfl, rfl⟩⟩
  rintro Γ2 O2 ⟨hs, hl, hh, hhd, rfl, rfl⟩
  refine wss_cut (fun Γ3 O3 => ∃ b : Bool, (b = true → ns.Nodup) ∧ Γ3 = [some (.obj p), some (rowD ns), some (.lst (hs.map tx)), some (.bl b), none] ∧ O3 = O2) ?_ ?_
  · refine ws_set 3 nd (w_and ?_)
    repeat walk_at "e"
    refine w_call GP hr (by omega) ?_
    repeat walk_at "e"
    refine ⟨p, _, rfl, hp, by decide, by decide, fun r a b => ?_⟩
    repeat walk_at "e"
    refine br (fun h1 => ?_) (fun h1 => ⟨false, (fun z => nomatch z), rfl, rfl⟩)
    refine w_one (w_eq (Room.units hr) (w_lenset rfl mlen mset ?_))
    repeat walk_at "e"
    refine ⟨ns, rfl, by omega, fun n hn => ?_⟩
    repeat walk_at "e"
    exact ⟨_, fun z => hn (by have := of_decide_eq_true z; omega), rfl, rfl⟩
  rintro Γ3 O3 ⟨b, hb, rfl, rfl⟩
  refine wss_one (ws_ret (w_sortS msrt (w_lc (own := [("_law_k", 4)]) [4] rfl nd (blkOk_by rfl) rfl (wi_rng1 mrng ?_))))
  repeat walk_at "e"
  refine ⟨_, rfl, by omega, by omega, ?_⟩
  refine lc_all (fun i _ y => ∃ a : Wd, y = tx a ∧ (∃ n : Nat, Op a n ∧ (n : Int) ∈ ns) ∧ a = hs.getD (if b then 0 else i) [] ++ intL (ns.getD i 0)) (by rw [rngD_len]; omega) (fun _ _ => trivial) (fun i d O2 hd hs2 s H C cl fp => ?_) (fun ys h1 h2 => ?_)
  · obtain ⟨hi, rfl⟩ := rngD_get hd
    have hi2 : i < ns.length := by omega
    refine wgc_name 4 nd ⟨rfl, fun s H C cl fp => ?_⟩
    have fin : ∀ (j : Nat), j < hs.length → ∃ h, (hs.map tx)[j]? = some (tx h) ∧ Hd6 h ∧ h = hs.getD j [] := fun j hj => ⟨hs[j], by rw [List.getElem?_map, List.getElem?_eq_getElem hj]; rfl, hh _ (List.getElem_mem hj), by simp [List.getD, List.getElem?_eq_getElem hj]⟩
    have hni := hn _ (List.getElem_mem hi2)
    have hgd : ns.getD i 0 = ns[i] := by simp [List.getD, List.getElem?_eq_getElem hi2]
    refine w_add (w_ix ?_)
    repeat walk_at "e"
    refine w_ite ?_
    refine wt_val ?_
    repeat walk_at "e"
    cases b with
    | false =>
      refine brF ?_
      repeat walk_at "e"
      obtain ⟨h, e1, e2, e3⟩ := fin i (by omega)
      refine sIx_l (atI_of (j := i) (by omega) e1) ?_
      repeat walk_at "e"
      refine w_strI mstr ?_
      repeat walk_at "e"
      refine sIx_row (j := i) (by omega) hi2 ?_
      rw [hgd]
      repeat walk_at "e"
      have hlog : (ns[i]).natAbs.log2 < 1920 := Nat.lt_of_le_of_lt (Nat.log2_le_self _) (by omega)
      have hil := intL_len hlog
      have hhl := e2.2.1
      exact ⟨hlog, sAdd_tx (by omega) ⟨rfl, _, rfl, op_make e2 hni.1 hni.2 (List.getElem_mem hi2), by rw [e3]; rfl⟩⟩
    | true =>
      refine brT ?_
      repeat walk_at "e"
      obtain ⟨h, e1, e2, e3⟩ := fin 0 (by omega)
      refine sIx_l (atI_of (j := 0) rfl e1) ?_
      repeat walk_at "e"
      refine w_strI mstr ?_
      repeat walk_at "e"
      refine sIx_row (j := i) (by omega) hi2 ?_
      rw [hgd]
      repeat walk_at "e"
      have hlog : (ns[i]).natAbs.log2 < 1920 := Nat.lt_of_le_of_lt (Nat.log2_le_self _) (by omega)
      have hil := intL_len hlog
      have hhl := e2.2.1
      exact ⟨hlog, sAdd_tx (by omega) ⟨rfl, _, rfl, op_make e2 hni.1 hni.2 (List.getElem_mem hi2), by rw [e3]; rfl⟩⟩
  · obtain ⟨as, rfl, ha⟩ := txs_of (P := fun a => ∃ n : Nat, Op a n ∧ (n : Int) ∈ ns) (ys := ys) fun y hy => by
      obtain ⟨j, hj, e⟩ := List.getElem_of_mem hy
      obtain ⟨y', h3, a, h4, h5, _⟩ := h2 j _ (List.getElem?_eq_getElem (by rw [← h1]; exact hj))
      rw [List.getElem?_eq_getElem hj, e] at h3
      rw [Option.some.inj h3]
      exact ⟨a, h4, h5⟩
    rw [List.length_map, rngD_len] at h1
    have hal : as.length = ns.length := by omega
    have hat : ∀ i, i < ns.length → as[i]? = some (hs.getD (if b then 0 else i) [] ++ intL (ns.getD i 0)) := fun i hi => by
      obtain ⟨y', h3, a, h4, _, h6⟩ := h2 i _ (List.getElem?_eq_getElem (by rw [rngD_len]; omega))
      rw [List.getElem?_map, List.getElem?_eq_getElem (by omega)] at h3
      have h3 : tx as[i] = y' := Option.some.inj h3
      rw [h4] at h3
      have h3 : as[i] = a := tx_inj h3
      rw [List.getElem?_eq_getElem (by omega), h3, h6]
    have hnd : as.Nodup := by
      refine List.pairwise_iff_getElem.mpr fun i j hi hj hij => ?_
      intro z0
      have hj : j < ns.length := by omega
      have z := hat i (by omega)
      have z' := hat j hj
      rw [List.getElem?_eq_getElem (by omega)] at z z'
      have z := (Option.some.inj z).symm.trans (z0.trans (Option.some.inj z'))
      have di : ∀ i, i < ns.length → ∃ n : Nat, 2 ≤ n ∧ n ≤ 4 ∧ ns.getD i 0 = (n : Nat) := fun i hi => by
        have hni := hn _ (List.getElem_mem hi)
        obtain ⟨n, hn⟩ := Int.eq_ofNat_of_zero_le (show 0 ≤ ns[i] by omega)
        exact ⟨n, by omega, by omega, by simp [List.getD, List.getElem?_eq_getElem hi, hn]⟩
      obtain ⟨n1, _, _, e1⟩ := di i (by omega)
      obtain ⟨n2, _, _, e2⟩ := di j hj
      have il : ∀ n : Nat, n ≤ 4 → intL (n : Nat) = [48 + n] := fun n hn => by
        unfold intL
        rw [if_neg (by omega)]
        show TL.numL n = _
        rw [TL.numL_lt (by omega)]
      rw [e1, e2, il n1 (by omega), il n2 (by omega)] at z
      obtain ⟨z1, z2⟩ := List.append_inj' z rfl
      cases b with
      | false =>
        have z1 : hs.getD i [] = hs.getD j [] := z1
        refine List.pairwise_iff_getElem.mp hhd i j (by omega) (by omega) hij ?_
        simpa [List.getD, List.getElem?_eq_getElem (show i < hs.length by omega), List.getElem?_eq_getElem (show j < hs.length by omega)] using z1
      | true =>
        have hz : n1 = n2 := by
          have := (List.cons.inj z2).1
          omega
        refine List.pairwise_iff_getElem.mp (hb rfl) i j (by omega) (by omega) hij ?_
        have e3 : ns.getD i 0 = ns.getD j 0 := by rw [e1, e2, hz]
        simpa [List.getD, List.getElem?_eq_getElem (show i < ns.length by omega), List.getElem?_eq_getElem (show j < ns.length by omega)] using e3
    refine .fix (sSort_tx (by omega) fun bs hbp hbs => hQ bs (by rw [hbp.length_eq]; omega) (fun o ho => (ha o (hbp.mem_iff.mp ho)).elim fun n h => ⟨n, h.1⟩) (hbp.nodup_iff.mpr hnd) hbs fun o ho => ha o (hbp.mem_iff.mp ho))
end
section
variable {P : Program} {w : World} {K : PySem.W.Frag} {mg : Str → Option Value} {base : Heap}
/-! _law_arities: of a table -/
open Tr
abbrev sAritT : Stmt := topS 32
theorem scAritT : FnScope ["_law_dr"] ["_law_dr"] (defScope sAritT) := ⟨rfl, rfl, rfl, by decide +kernel, rfl, by decide +kernel, by decide +kernel⟩
def spAritT : SpD := fun ds O Q _ => ∃ p : Addr, ds = [.obj p] ∧ O p = some (.any DrOk) ∧ ∀ ns : List Int, 1 ≤ ns.length → ns.length ≤ 3 → (∀ n ∈ ns, 2 ≤ n ∧ n ≤ 4) → Q (rowD ns) O
theorem ok_aritT {f : Addr} {fd : FuncData} {k : Nat} (F : Fun K "_law_arities" "_law_arities" sAritT f fd) (GP : Fd P w K mg base "_law_pull" 1 ["_law_dr", "_law_many"] spPull) (hk : 1 ≤ k) :
    FnOk P w K mg base (L2.CX P w) (k + 1) f fd ["_law_dr"] (spD K spAritT) := by
  refine fd_ok F scAritT (fun ds O Q E ⟨_, e, _⟩ => by rw [e]; rfl) (fun cdv A outer s H E0 hr ds O Q E ⟨p, e, hp, hQ⟩ => ?_)
  subst e
  have nd := scAritT.nd
  walk_at "w"
  repeat (first | walk_at "v" | refine Mk.fix ?_)
  refine ⟨p, 10, rfl, hp, by decide, by decide, fun r h0 h1 => ?_⟩
  repeat walk_at "v"
  have q := fun ns h1 h2 h3 => hQ ns h1 h2 h3
  have s1 := q [2] (by decide) (by decide) (by simp)
  have s2 := q [2, 2] (by decide) (by decide) (by simp)
  have s3 := q [2, 3] (by decide) (by decide) (by simp)
  have s4 := q [3] (by decide) (by decide) (by simp)
  have s5 := q [2, 2, 2] (by decide) (by decide) (by simp)
  have s6 := q [2, 3, 4] (by decide) (by decide) (by simp)
  have s7 := q [3, 3] (by decide) (by decide) (by simp)
  have s8 := q [4] (by decide) (by decide) (by simp)
  exact sIx_any h0 (by simpa using h1) (all_cons s1 (all_cons s1 (all_cons s2 (all_cons s3 (all_cons s4 (all_cons s1 (all_cons s5 (all_cons s6 (all_cons s7 (all_cons s8 all_nil))))))))))
end
section
variable {P : Program} {w : World} {K : PySem.W.Frag} {mg : Str → Option Value} {base : Heap}
/-! _law_graft, _law_wild -/
open Tr
abbrev sGraft : Stmt := topS 36
theorem scGraft : FnScope ["_law_tree", "_law_leaf", "_law_other", "_law_seen", "_law_at"] ["_law_tree", "_law_leaf", "_law_other"] (defScope sGraft) := ⟨rfl, rfl, rfl, by decide +kernel, rfl, by decide +kernel, by decide +kernel⟩
def spGraft : SpD := fun ds O Q _ => ∃ (pw qw us : List Wd), ds = [wsD (pw ++ [95] :: qw), .int (pw.countP isL : Nat), wsD us] ∧ pw.length + qw.length + us.length ≤ 10000 ∧ Q (wsD (pw ++ (us ++ qw))) O
theorem ok_graft {f : Addr} {fd : FuncData} {k : Nat} (F : Fun K "_law_graft" "_law_graft" sGraft f fd) (mlen : mg "len" = none) (mrng : mg "range" = none) : FnOk P w K mg base (L2.CX P w) (k + 1) f fd ["_law_tree", "_law_leaf", "_law_other"] (spD K spGraft) := by
  refine fd_ok F scGraft (fun ds O Q E ⟨_, _, _, e, _⟩ => by rw [e]; rfl) (fun cdv A outer s H E0 hr ds O Q E ⟨pw, qw, us, e, hl, hQ⟩ => ?_)
  subst e
  have nd := scGraft.nd
  have hlen : ((pw ++ [95] :: qw).map tx).length = pw.length + 1 + qw.length := by simp; omega
  refine wss_cons (ws_set 3 nd ?_)
  repeat walk_at "e"
  refine wss_cons (ws_for (passes_of rfl) rfl (wi_rng1 mrng ?_))
  repeat walk_at "e"
  refine ⟨_, rfl, by omega, by omega, fun i Γ2 O2 => ∃ c : Option D, i ≤ pw.length ∧ Γ2 = [some (wsD (pw ++ [95] :: qw)), some (.int (pw.countP isL : Nat)), some (wsD us), some (.int ((pw.take i).countP isL : Nat)), c] ∧ O2 = O, ⟨none, Nat.zero_le _, rfl, rfl⟩, fun _ _ _ _ => trivial, ?_, ?_⟩
  · rintro i d Γ2 O2 hd ⟨c, hi, rfl, rfl⟩
    obtain ⟨_, rfl⟩ := rngD_get hd
    refine wg_name 4 nd ?_
    have hat : ∀ a, (pw ++ [95] :: qw)[i]? = some a → ((pw ++ [95] :: qw).map tx)[i]? = some (tx a) := fun a h => by rw [List.getElem?_map, h]; rfl
    refine wss_cons (ws_if ?_)
    by_cases he : i = pw.length
    · repeat walk_at "e"
      refine sIx_t (atI_of (j := i) (by omega) (hat [95] (by rw [he]; simp))) ?_
      repeat walk_at "e"
      refine br_t (by rfl) (wss_cons (ws_if ?_))
      repeat walk_at "e"
      refine br_t (decide_eq_true (by rw [he, List.take_length])) (wss_one (ws_ret ?_))
      refine w_add (w_add (w_sl ?_))
      repeat walk_at "e"
      refine wo_none (wo_some ?_)
      repeat walk_at "e"
      rw [cutD_to (n := pw.length) (by omega), ← List.map_take, List.take_left]
      repeat walk_at "e"
      refine sAdd_tup (by simp; exact Nat.le_trans (m := 20000) (by omega) (by decide)) (w_sl ?_)
      repeat walk_at "e"
      refine wo_some ?_
      repeat walk_at "e"
      refine wo_none (sSl_t ?_)
      rw [cutD_from (n := pw.length + 1) (by omega), ← List.map_drop, show (pw ++ [95] :: qw).drop (pw.length + 1) = qw by rw [← List.drop_drop, List.drop_left]; rfl]
      refine sAdd_tup (by simp; exact Nat.le_trans (m := 20000) (by omega) (by decide)) ?_
      rw [← List.map_append, ← List.map_append, List.append_assoc]
      exact hQ
    · have hlt : i < pw.length := by omega
      have hpi : pw[i]? = some pw[i] := List.getElem?_eq_getElem hlt
      have htk : pw.take (i + 1) = pw.take i ++ [pw[i]] := by rw [List.take_succ, hpi]; rfl
      have hcnt : (pw.take (i + 1)).countP isL = (pw.take i).countP isL + if isL pw[i] = true then 1 else 0 := by rw [htk, List.countP_append]; simp
      have hle : (pw.take (i + 1)).countP isL ≤ pw.countP isL := (List.take_sublist _ _).countP_le
      repeat walk_at "e"
      refine sIx_t (atI_of (j := i) (by omega) (hat pw[i] (by rw [List.getElem?_append_left hlt, hpi]))) ?_
      repeat walk_at "e"
      refine br (fun h1 => ?_) (fun h1 => ?_)
      · have h1 : isL pw[i] = true := h1
        rw [h1, if_pos rfl] at hcnt
        refine wss_cons (ws_if ?_)
        repeat walk_at "e"
        refine br_f (decide_eq_false (by omega)) (wss_nil (wss_one (ws_set 3 nd ?_)))
        repeat walk_at "e"
        refine wss_nil ⟨some (.int (0 + (i : Nat))), hlt, ?_, rfl⟩
        rw [hcnt]
        rfl
      · have h1 : isL pw[i] = false := h1
        rw [h1, if_neg Bool.false_ne_true] at hcnt
        refine wss_nil (wss_nil ⟨some (.int (0 + (i : Nat))), hlt, ?_, rfl⟩)
        rw [hcnt]
        rfl
  · rintro Γ2 O2 ⟨c, hi, _⟩
    rw [rngD_len] at hi
    exfalso
    omega
theorem flatT : ∀ n : Nat, wordsL (List.replicate n T.leaf) = List.replicate n [95] ∧ leavesL (List.replicate n T.leaf) = n ∧ WfL (List.replicate n T.leaf)
  | 0 => ⟨rfl, rfl, trivial⟩
  | n + 1 => by
    obtain ⟨h1, h2, h3⟩ := flatT n
    rw [List.replicate_succ, List.replicate_succ]
    refine ⟨?_, ?_, trivial, h3⟩
    · show [95] :: wordsL _ = _
      rw [h1]
    · show 1 + leavesL _ = _
      rw [h2]
      omega
theorem rep_one (n : Nat) (d : D) : (List.replicate n [d]).flatten = List.replicate n d := by
  induction n with
  | zero => rfl
  | succ n ih => rw [List.replicate_succ, List.flatten_cons, ih, List.replicate_succ]; rfl
abbrev sWild : Stmt := topS 42
theorem scWild : FnScope ["_law_dr", "_law_ops_here", "_law_most", "_law_tree", "_law_turn", "_law_fit", "_law_op"] ["_law_dr", "_law_ops_here", "_law_most"] (defScope sWild) := ⟨rfl, rfl, rfl, by decide +kernel, rfl, by decide +kernel, by decide +kernel⟩
def spWild : SpD := fun ds O Q _ => ∃ (p : Addr) (os : List Wd) (m : Nat), ds = [.obj p, .lst (os.map tx), .int m] ∧ O p = some (.any DrOk) ∧ os.length ≤ 1000 ∧ (∀ o ∈ os, ∃ n, Op o n) ∧ 1 ≤ m ∧ m ≤ 20 ∧ ∀ t, Wf t → leaves t ≤ m → (∀ a ∈ words t, a = [95] ∨ a ∈ os) → Q (treeD t) O
theorem ok_wild {f : Addr} {fd : FuncData} {k : Nat} (F : Fun K "_law_wild" "_law_wild" sWild f fd) (mrng : mg "range" = none) (mint : mg "int" = none) (mlen : mg "len" = none) (GP : Fd P w K mg base "_law_pull" 1 ["_law_dr", "_law_many"] spPull)
    (GO : Fd P w K mg base "_law_of" 2 ["_law_dr", "_law_some"] spOf) (GG : Fd P w K mg base "_law_graft" 1 ["_law_tree", "_law_leaf", "_law_other"] spGraft) (hk : 2 ≤ k) :
    FnOk P w K mg base (L2.CX P w) (k + 1) f fd ["_law_dr", "_law_ops_here", "_law_most"] (spD K spWild) := by
  refine fd_ok F scWild (fun ds O Q E ⟨_, _, _, e, _⟩ => by rw [e]; rfl) (fun cdv A outer s H E0 hr ds O Q E ⟨p, os, m, e, hp, hol, hos, hm1, hm2, hQ⟩ => ?_)
  subst e
  have nd := scWild.nd
  refine wss_cons (ws_set 3 nd ?_)
  repeat walk_at "e"
  refine wss_cons (ws_for (passes_of rfl) rfl (wi_rng1 mrng ?_))
  repeat walk_at "e"
  refine ⟨m, rfl, by omega, by omega, fun i Γ2 O2 => ∃ (t : T) (c1 c2 c3 : Option D), Wf t ∧ leaves t ≤ m ∧ (∀ a ∈ words t, a = [95] ∨ a ∈ os) ∧ Γ2 = [some (.obj p), some (.lst (os.map tx)), some (.int m), some (treeD t), c1, c2, c3] ∧ O2 = O, ⟨.leaf, none, none, none, trivial, hm1, fun a ha => .inl (by simpa [words] using ha), rfl, rfl⟩, fun _ _ _ _ => trivial, ?_, ?_⟩
  · rintro i d Γ2 O2 hd ⟨t, c1, c2, c3, ht, hlv, hov, rfl, rfl⟩
    obtain ⟨_, rfl⟩ := rngD_get hd
    have hwl := words_len ht
    refine wg_name 4 nd ?_
    -- _law_fit
    refine wss_cut (fun Γ3 O3 => ∃ fs : List Wd, fs.length ≤ 1000 ∧ (∀ o ∈ fs, ∃ n, Op o n ∧ leaves t + n ≤ m + 1 ∧ o ∈ os) ∧ Γ3 = [some (.obj p), some (.lst (os.map tx)), some (.int m), some (treeD t), some (.int (0 + (i : Nat))), some (.lst (fs.map tx)), c3] ∧ O3 = O2) ?_ ?_
    · refine ws_lc (own := [("_law_op", 6)]) 5 [6] rfl nd (blkOk_by rfl) rfl (sw_true rfl rfl rfl (by decide +kernel)) (wi_list ?_)
      repeat walk_at "e"
      refine ⟨_, rfl, lc_fil (fun y => ∃ a : Wd, y = tx a ∧ ∃ n, Op a n ∧ leaves t + n ≤ m + 1 ∧ a ∈ os) (by simp; omega) (fun _ _ => rfl) (fun i d O3 hd hs s H C cl fp => ?_) fun ys h1 h2 => ?_⟩
      · obtain ⟨a, ha, rfl⟩ := txs_at hd
        obtain ⟨n, hop⟩ := hos a (List.mem_of_getElem? ha)
        refine wgc_name 6 nd ⟨rfl, fun s H C cl fp => wts_one ?_⟩
        refine wt_le (w_sub (w_add (w_tcount ?_)))
        repeat walk_at "e"
        refine ⟨_, rfl, ?_⟩
        repeat walk_at "e"
        refine ⟨flat_txs _, rfl, ?_⟩
        rw [show (Str.ofString "_").cps.toList = [95] from rfl, count_txs, words_count ht]
        refine w_toInt mint ?_
        repeat walk_at "e"
        have hol7 := hop.len
        have hop2 := hop
        obtain ⟨l, rfl, hn1, hn2, _⟩ := hop2
        rw [List.length_append, List.length_singleton] at hol7
        refine sIx_last (by omega) ⟨n, digit_text (by omega), by rw [SX.S_len]; simp, ?_⟩
        repeat walk_at "e"
        refine ⟨rfl, fun hb s H C cl fp => ?_⟩
        have hb := of_decide_eq_true hb
        repeat walk_at "e"
        exact ⟨rfl, _, rfl, n, hop, by omega, List.mem_of_getElem? ha⟩
      · obtain ⟨as, rfl, ha⟩ := txs_of (P := fun a => ∃ n, Op a n ∧ leaves t + n ≤ m + 1 ∧ a ∈ os) h2
        rw [List.length_map, List.length_map] at h1
        exact .fix ⟨as, by omega, ha, rfl, rfl⟩
    rintro Γ3 O3 ⟨fs, hfl, hfs, rfl, rfl⟩
    refine wss_one (ws_if ?_)
    refine wt_bo (ww_and (wt_ne (Room.units hr) ?_))
    repeat walk_at "e"
    refine .fix ?_
    refine sNe_dat rfl rfl (good_txs fs fun a ha => by
      obtain ⟨n, h, _⟩ := hfs a ha
      exact op_ok h) (by rfl) ?_
    rw [eqv_txs0]
    repeat walk_at "e"
    refine br (fun h1 => ?_) (fun h1 => ?_)
    rotate_left
    · exact brF (wss_nil ⟨t, _, _, _, ht, hlv, hov, rfl, rfl⟩)
    have hfne : fs ≠ [] := by simpa using h1
    repeat walk_at "e"
    refine w_call GP hr (by omega) ?_
    repeat walk_at "e"
    refine ⟨p, _, rfl, hp, by decide, by decide, fun r a b => ?_⟩
    repeat walk_at "e"
    refine br (fun h2 => ?_) (fun h2 => wss_nil ⟨t, _, _, _, ht, hlv, hov, rfl, rfl⟩)
    -- _law_op
    refine wss_cut (fun Γ4 O4 => ∃ (o : Wd) (n : Nat), Op o n ∧ leaves t + n ≤ m + 1 ∧ o ∈ os ∧ Γ4 = [some (.obj p), some (.lst (os.map tx)), some (.int m), some (treeD t), some (.int (0 + (i : Nat))), some (.lst (fs.map tx)), some (tx o)] ∧ O4 = O3) ?_ ?_
    · refine ws_set 6 nd (w_call GO hr (by omega) ?_)
      repeat walk_at "e"
      refine ⟨p, _, _, rfl, hp, rfl, by rw [List.length_map]; exact List.length_pos_iff.mpr hfne, by rw [List.length_map]; omega, fun d hd => ?_⟩
      obtain ⟨o, ho, rfl⟩ := List.mem_map.mp hd
      obtain ⟨n, h3, h4, h5⟩ := hfs o ho
      exact ⟨o, n, h3, h4, h5, rfl, rfl⟩
    rintro Γ4 O4 ⟨o, n, hop, hon, hoo, rfl, rfl⟩
    have hlp := leaves_pos ht
    refine wss_one (ws_set 3 nd (w_call GG hr (by omega) ?_))
    repeat walk_at "e"
    refine w_call GP hr (by omega) ?_
    repeat walk_at "e"
    refine w_tcount ?_
    repeat walk_at "e"
    refine ⟨_, rfl, ?_⟩
    repeat walk_at "e"
    refine ⟨flat_txs _, rfl, ?_⟩
    rw [show (Str.ofString "_").cps.toList = [95] from rfl, count_txs, words_count ht]
    repeat walk_at "e"
    refine ⟨p, _, rfl, hp, by omega, Nat.lt_of_le_of_lt (Nat.log2_le_self _) (by omega), fun r a b => ?_⟩
    refine wa_cons (w_add ?_)
    repeat walk_at "e"
    refine w_toInt mint ?_
    repeat walk_at "e"
    have hol7 := hop.len
    have hop2 := hop
    obtain ⟨l, e1, hn1, hn2, _⟩ := hop2
    have hll : l.length ≤ 99999 := by
      rw [e1, List.length_append] at hol7
      omega
    rw [e1]
    refine sIx_last hll ⟨n, digit_text (by omega), by rw [SX.S_len]; simp, ?_⟩
    refine sMul_tup (by simp) (by omega) (by omega) (by simp) ?_
    rw [rep_one, Int.toNat_natCast]
    refine sAdd_tup (by simp; exact Nat.le_trans (m := 100) (by omega) (by decide)) ?_
    repeat walk_at "e"
    obtain ⟨j, rfl⟩ := Int.eq_ofNat_of_zero_le a
    obtain ⟨f1, f2, f3⟩ := flatT n
    have hu : Wf (.node o (List.replicate n T.leaf)) := ⟨by rw [List.length_replicate]; exact hop, f3⟩
    obtain ⟨pw, qw, t', g1, g2, g3, g4, g5⟩ := graft ht (i := j) _ hu (by omega)
    have hlu : leaves (.node o (List.replicate n T.leaf)) = n := f2
    have hwl2 := congrArg List.length g1
    rw [List.length_append, List.length_cons] at hwl2
    refine ⟨pw, qw, words (.node o (List.replicate n T.leaf)), ?_, ?_, t', some (.int (0 + (i : Nat))), some (.lst (fs.map tx)), some (tx (l ++ [48 + n])), g4, by omega, ?_, ?_, rfl⟩
    · rw [← g1, show pw.countP isL = j from g2, ← e1]
      show _ = [_, _, wsD (o :: wordsL (List.replicate n T.leaf))]
      rw [f1]
      simp [wsD]
      exact .inr rfl
    · have hwu := words_len hu
      omega
    · intro a ha
      rw [g3] at ha
      rcases List.mem_append.mp ha with ha | ha
      · exact hov a (by rw [g1]; exact List.mem_append_left _ ha)
      rcases List.mem_append.mp ha with ha | ha
      · rcases List.mem_cons.mp (show a ∈ o :: wordsL (List.replicate n T.leaf) from ha) with rfl | ha
        · exact .inr hoo
        · rw [f1] at ha
          exact .inl (List.eq_of_mem_replicate ha)
      · exact hov a (by rw [g1]; exact List.mem_append_right _ (List.mem_cons_of_mem _ ha))
    · rw [← g3]
      rfl
  · rintro Γ2 O2 ⟨t, c1, c2, c3, ht, hlv, hov, rfl, rfl⟩
    refine wss_one (ws_ret ?_)
    repeat walk_at "e"
    exact hQ t ht hlv hov
end
section
variable {P : Program} {w : World} {K : PySem.W.Frag} {mg : Str → Option Value} {base : Heap}
/-! _law_end -/
open Tr
abbrev sEnd : Stmt := topS 34
theorem scEnd : FnScope ["_law_tree", "_law_at", "_law_lack"] ["_law_tree", "_law_at"] (defScope sEnd) := ⟨rfl, rfl, rfl, by decide +kernel, rfl, by decide +kernel, by decide +kernel⟩
theorem ok_end {f : Addr} {fd : FuncData} {k : Nat} (F : Fun K "_law_end" "_law_end" sEnd f fd) (mint : mg "int" = none) : FnOk P w K mg base (L2.CX P w) (k + 1) f fd ["_law_tree", "_law_at"] (spD K spEnd) := by
  refine fd_ok F scEnd (fun ds O Q E ⟨_, _, _, e, _⟩ => by rw [e]; rfl) (fun cdv A outer s H E0 hr ds O Q E ⟨pw, t, qw, e, ht, hQ⟩ => ?_)
  subst e
  have nd := scEnd.nd
  generalize hws : pw ++ (words t ++ qw) = ws
  refine wss_cons (ws_set 2 nd ?_)
  repeat walk_at "e"
  refine wss_cut (fun Γ2 O2 => Γ2[1]? = some (some (.int ((pw.length + (words t).length : Nat)))) ∧ Γ2.length = 3 ∧ O2 = O) ?_ ?_
  · refine ws_while (passes_of rfl) (fun m Γ2 O2 => O2 = O ∧ ∃ (G : List T) (j : Nat), m = (wordsL G).length ∧ WfL G ∧ ws.drop j = wordsL G ++ qw ∧ j + (wordsL G).length = pw.length + (words t).length ∧ Γ2 = [some (wsD ws), some (.int (j : Nat)), some (.int (G.length : Nat))]) ⟨_, rfl, [t], pw.length, rfl, ⟨ht, trivial⟩, by rw [← hws, List.drop_left]; simp [wordsL], by simp [wordsL], rfl⟩ ?_
    rintro m Γ2 O2 ⟨rfl, G, j, hm, hG, hd, hj, rfl⟩
    repeat walk_at "e"
    match G, hG, hd, hj, hm with
    | [], _, _, hj, _ =>
      refine br_f (by rfl) ⟨?_, rfl, rfl⟩
      simp [wordsL] at hj
      rw [← hj]
      rfl
    | u :: G, hG, hd, hj, hm =>
      refine br_t (decide_eq_true (by rw [List.length_cons]; omega)) ?_
      refine wss_cons (ws_set 2 nd ?_)
      repeat walk_at "e"
      refine wss_cons (ws_if ?_)
      have hhead : ∀ a l, ws.drop j = a :: l → (ws.map tx)[j]? = some (tx a) ∧ ws.drop (j + 1) = l := fun a l h => by
        have h1 : ws[j]? = some a := by
          have := congrArg (fun z => z[0]?) h
          simpa using this
        refine ⟨by rw [List.getElem?_map, h1]; rfl, ?_⟩
        rw [← List.drop_drop, h]
        rfl
      cases u with
      | leaf =>
        obtain ⟨h1, h2⟩ := hhead [95] (wordsL G ++ qw) hd
        repeat walk_at "e"
        refine sIx_t (atI_of (j := j) rfl h1) ?_
        repeat walk_at "e"
        refine br_f (by rfl) (wss_nil (wss_one (ws_set 1 nd ?_)))
        repeat walk_at "e"
        refine ⟨(wordsL G).length, by rw [hm]; show _ < ([95] :: wordsL G).length; simp, rfl, G, j + 1, rfl, hG.2, h2, ?_, ?_⟩
        · have : (wordsL (T.leaf :: G)).length = (wordsL G).length + 1 := rfl
          omega
        · rw [List.length_cons]
          show [_, some (D.int _), some (D.int _)] = _
          rw [show ((j : Nat) : Int) + 1 = ((j + 1 : Nat) : Int) by omega, show ((G.length + 1 : Nat) : Int) - 1 = (G.length : Int) by omega]
      | node op ks =>
        obtain ⟨h1, h2⟩ := hhead op (wordsL ks ++ wordsL G ++ qw) hd
        have hop : Op op ks.length := hG.1.1
        repeat walk_at "e"
        refine sIx_t (atI_of (j := j) rfl h1) ?_
        repeat walk_at "e"
        refine br_t (by rw [show (Str.ofString "_").cps.toList = [95] from rfl, decide_eq_false hop.ne]; rfl) (wss_one (ws_set 2 nd ?_))
        repeat walk_at "e"
        refine w_toInt mint ?_
        repeat walk_at "e"
        refine sIx_t (atI_of (j := j) rfl h1) ?_
        repeat walk_at "e"
        have hol := hop.len
        have hop2 := hop
        obtain ⟨l, e1, g1, g2, _⟩ := hop2
        have hll : l.length ≤ 99999 := by
          rw [e1, List.length_append] at hol
          omega
        rw [e1]
        refine sIx_last hll ⟨ks.length, digit_text (by omega), by rw [SX.S_len]; simp, ?_⟩
        repeat walk_at "e"
        refine wss_one (ws_set 1 nd ?_)
        repeat walk_at "e"
        have hl3 : (wordsL (T.node op ks :: G)).length = (wordsL (ks ++ G)).length + 1 := by
          rw [wordsL_append]
          rfl
        refine ⟨(wordsL (ks ++ G)).length, by rw [hm, hl3]; omega, rfl, ks ++ G, j + 1, rfl, (WfL_append _ _).mpr ⟨hG.1.2, hG.2⟩, by rw [wordsL_append]; exact h2, by omega, ?_⟩
        rw [List.length_cons, List.length_append]
        show [_, some (D.int _), some (D.int _)] = _
        rw [show ((j : Nat) : Int) + 1 = ((j + 1 : Nat) : Int) by omega, show ((G.length + 1 : Nat) : Int) - 1 + (ks.length : Int) = ((ks.length + G.length : Nat) : Int) by omega]
  rintro Γ2 O2 ⟨h1, h2, rfl⟩
  match Γ2, h1, h2 with
  | [_, _, _], h1, _ =>
  cases Option.some.inj h1
  refine wss_one (ws_ret ?_)
  repeat walk_at "e"
  exact hQ
end
section
variable {P : Program} {w : World} {K : PySem.W.Frag} {mg : Str → Option Value} {base : Heap}
/-! _law_kids -/
open Tr
abbrev sKids : Stmt := topS 35
theorem scKids : FnScope ["_law_tree", "_law_found", "_law_at", "_law_end_here"] ["_law_tree"] (defScope sKids) := ⟨rfl, rfl, rfl, by decide +kernel, rfl, by decide +kernel, by decide +kernel⟩
def spKids : SpD := fun ds O Q _ => ∃ (op : Wd) (ks : List T), ds = [treeD (.node op ks)] ∧ Wf (.node op ks) ∧ leavesL ks ≤ 1000 ∧ Mk (ks.map treeD) O Q
theorem ok_kids {f : Addr} {fd : FuncData} {k : Nat} (F : Fun K "_law_kids" "_law_kids" sKids f fd) (mlen : mg "len" = none) (GE : Fd P w K mg base "_law_end" 1 ["_law_tree", "_law_at"] spEnd) (hk : 1 ≤ k) : FnOk P w K mg base (L2.CX P w) (k + 1) f fd ["_law_tree"] (spD K spKids) := by
  refine fd_ok F scKids (fun ds O Q E ⟨_, _, e, _⟩ => by rw [e]; rfl) (fun cdv A outer s H E0 hr ds O Q E ⟨op, ks, e, ht, hlv, hQ⟩ => ?_)
  subst e
  have nd := scKids.nd
  have hwl := wordsL_len ht.2
  refine wss_cons (ws_set 1 nd ?_)
  repeat walk_at "e"
  refine .own fun q nq => ?_
  refine wss_cons (ws_set 2 nd ?_)
  repeat walk_at "e"
  refine wss_cut (fun Γ2 O2 => Γ2.length = 4 ∧ Γ2[1]? = some (some (.obj q)) ∧ O2 = updO O q (.lst (ks.map treeD))) ?_ ?_
  · refine ws_while (passes_of rfl) (fun m Γ2 O2 => ∃ (dn rs : List T) (c : Option D), m = rs.length ∧ ks = dn ++ rs ∧ O2 = updO O q (.lst (dn.map treeD)) ∧ Γ2 = [some (treeD (.node op ks)), some (.obj q), some (.int ((1 + (wordsL dn).length : Nat))), c]) ⟨_, [], ks, none, rfl, rfl, rfl, rfl⟩ ?_
    rintro m Γ2 O2 ⟨dn, rs, c, hm, hks, rfl, rfl⟩
    have hlen : ((words (.node op ks)).map tx).length = 1 + (wordsL dn).length + (wordsL rs).length := by
      rw [List.length_map, hks]
      show (op :: wordsL (dn ++ rs)).length = _
      rw [wordsL_append, List.length_cons, List.length_append]
      omega
    repeat walk_at "e"
    match rs, hks, hm, hlen with
    | [], hks, _, hlen =>
      have hlen : ((words (.node op ks)).map tx).length = 1 + (wordsL dn).length := hlen
      refine br_f (decide_eq_false (by omega)) ⟨rfl, rfl, ?_⟩
      rw [hks, List.append_nil]
    | u :: rs, hks, hm, hlen =>
      have hu : Wf u := by
        have := ht.2
        rw [hks] at this
        exact ((WfL_append _ _).mp this).2.1
      have hup := List.length_pos_iff.mpr (words_ne u)
      have hlen : ((words (.node op ks)).map tx).length = 1 + (wordsL dn).length + ((words u).length + (wordsL rs).length) := by
        rw [hlen, ← List.length_append]
        rfl
      have hsplit : words (.node op ks) = (op :: wordsL dn) ++ (words u ++ wordsL rs) := by
        rw [hks]
        show op :: wordsL (dn ++ u :: rs) = _
        rw [wordsL_append]
        rfl
      refine br_t (decide_eq_true (by omega)) ?_
      refine wss_cut (fun Γ3 O3 => Γ3 = [some (treeD (.node op ks)), some (.obj q), some (.int ((1 + (wordsL dn).length : Nat))), some (.int ((1 + (wordsL dn).length + (words u).length : Nat)))] ∧ O3 = updO O q (.lst (dn.map treeD))) ?_ ?_
      · refine ws_set 3 nd (w_call GE hr (by omega) ?_)
        repeat walk_at "e"
        refine ⟨op :: wordsL dn, u, wordsL rs, ?_, hu, ?_, rfl⟩
        · rw [← hsplit, List.length_cons, Nat.add_comm]
        · rw [List.length_cons, Nat.add_comm (wordsL dn).length 1]
          rfl
      rintro Γ3 O3 ⟨rfl, rfl⟩
      refine wss_cons (ws_expr (w_append ?_))
      repeat walk_at "e"
      refine ⟨q, rfl, ⟨_, updO_same⟩, w_sl ?_⟩
      repeat walk_at "e"
      refine wo_some ?_
      repeat walk_at "e"
      refine wo_some ?_
      repeat walk_at "e"
      refine sSl_t ?_
      rw [cutD_mid (m := 1 + (wordsL dn).length) (n := 1 + (wordsL dn).length + (words u).length) rfl rfl (by omega) (by omega), ← List.map_drop, ← List.map_take]
      have hcut : (List.drop (1 + (wordsL dn).length) (words (.node op ks))).take (1 + (wordsL dn).length + (words u).length - (1 + (wordsL dn).length)) = words u := by
        rw [hsplit, show 1 + (wordsL dn).length = (op :: wordsL dn).length by rw [List.length_cons, Nat.add_comm], List.drop_left, Nat.add_sub_cancel_left, List.take_left]
      rw [hcut]
      refine ⟨_, updO_same, ?_, wss_one (ws_set 2 nd ?_)⟩
      · rw [List.length_map]
        have h9 : dn.length ≤ ks.length := by rw [hks, List.length_append]; omega
        exact Nat.lt_of_lt_of_le (m := 5000) (by omega) (by decide)
      repeat walk_at "e"
      refine ⟨rs.length, by rw [hm]; simp, dn ++ [u], rs, some (.int ((1 + (wordsL dn).length + (words u).length : Nat))), rfl, by rw [hks]; simp, ?_, ?_⟩
      · rw [updO_updO, List.map_append]
        rfl
      · rw [wordsL_append]
        show [_, _, some (D.int _), _] = _
        rw [List.length_append, show (wordsL [u]).length = (words u).length by simp [wordsL], ← Nat.add_assoc]
  rintro Γ2 O2 ⟨h1, h2, rfl⟩
  match Γ2, h1, h2 with
  | [_, _, _, _], _, h2 =>
  cases Option.some.inj h2
  refine wss_one (ws_ret ?_)
  rcases hQ with hQ | hQ
  · refine WE.fixed ?_
    repeat walk_at "e"
    refine ⟨q, _, rfl, updO_same, ?_⟩
    rw [delO_updO nq]
    exact hQ
  · repeat walk_at "e"
    exact hQ q nq
end
section
variable {P : Program} {w : World} {K : PySem.W.Frag} {mg : Str → Option Value} {base : Heap}
/-! law k06 -/
open Tr
mutual
theorem paths_dep : ∀ (t : T), ∀ p ∈ paths t, p.length + 1 ≤ (words t).length
  | .leaf, p, hp => by
    rw [List.mem_singleton.mp (show p ∈ [[]] from hp)]
    simp [words]
  | .node op ks, p, hp => by
    obtain ⟨q, hq, rfl⟩ := List.mem_map.mp (show p ∈ (pathsL ks).map (op :: ·) from hp)
    have := pathsL_dep ks q hq
    show (op :: q).length + 1 ≤ (op :: wordsL ks).length
    simp
    omega
theorem pathsL_dep : ∀ (ts : List T), ∀ p ∈ pathsL ts, p.length + 1 ≤ (wordsL ts).length
  | [], p, hp => by simp [pathsL] at hp
  | t :: ts, p, hp => by
    show p.length + 1 ≤ (words t ++ wordsL ts).length
    rw [List.length_append]
    rcases List.mem_append.mp (show p ∈ paths t ++ pathsL ts from hp) with h | h
    · have := paths_dep t p h
      omega
    · have := pathsL_dep ts p h
      omega
end
abbrev sLPaths : Stmt := topS 37
theorem scLPaths : FnScope ["_law_tree", "_law_found", "_law_kid", "_law_path"] ["_law_tree"] (defScope sLPaths) := ⟨rfl, rfl, rfl, by decide +kernel, rfl, by decide +kernel, by decide +kernel⟩
def spLPaths (n : Nat) : SpD := fun ds O Q _ => ∃ t : T, ds = [treeD t] ∧ Wf t ∧ leaves t ≤ 100 ∧ height t ≤ n ∧ Q (.lst ((paths t).map pathD)) O
theorem pathsL_take : ∀ (ks : List T) (i : Nat) (t : T), ks[i]? = some t → pathsL (ks.take (i + 1)) = pathsL (ks.take i) ++ paths t
  | [], i, t, h => by simp at h
  | k :: ks, 0, t, h => by
    simp at h
    subst h
    simp [pathsL]
  | k :: ks, i + 1, t, h => by
    have ih := pathsL_take ks i t (by simpa using h)
    show paths k ++ pathsL (ks.take (i + 1)) = paths k ++ pathsL (ks.take i) ++ paths t
    rw [ih, List.append_assoc]
theorem ok_lpaths {f : Addr} {fd : FuncData} {n : Nat} (F : Fun K "_law_paths" "_law_paths" sLPaths f fd) (GS : ∀ m, n = m + 1 → Fd P w K mg base "_law_paths" (n + 2) ["_law_tree"] (spLPaths m)) (GK : Fd P w K mg base "_law_kids" 2 ["_law_tree"] spKids) :
    FnOk P w K mg base (L2.CX P w) (n + 2 + 1) f fd ["_law_tree"] (spD K (spLPaths n)) := by
  refine fd_ok F scLPaths (fun ds O Q E ⟨_, e, _⟩ => by rw [e]; rfl) (fun cdv A outer s H E0 hr ds O Q E ⟨t, e, ht, hlv, hht, hQ⟩ => ?_)
  subst e
  have nd := scLPaths.nd
  refine wss_cons (ws_if (wt_eq (Room.units hr) ?_))
  repeat walk_at "e"
  refine sEq_dat rfl rfl (good_tup _ fun a ha => isW_ok (words_are ht a ha)) (good_tup [[95]] fun a ha => isW_ok (.inl (List.mem_singleton.mp ha))) ?_
  rw [show (Str.ofString "_").cps.toList = [95] from rfl, eqv_leaf]
  repeat walk_at "e"
  cases t with
  | leaf =>
    refine br_t (by rfl) (wss_one (ws_ret ?_))
    repeat walk_at "e"
    exact .fix hQ
  | node op ks =>
    have hop : Op op ks.length := ht.1
    refine br_f (decide_eq_false fun z => hop.ne (List.cons.inj (show op :: wordsL ks = [[95]] from z)).1) (wss_nil (wss_cons (ws_set 1 nd ?_)))
    repeat walk_at "e"
    refine .fix ?_
    refine wss_cons (ws_for (passes_of rfl) rfl (wi_list (w_call GK hr (by omega) ?_)))
    repeat walk_at "e"
    refine ⟨op, ks, rfl, ht, Nat.le_trans (show leavesL ks ≤ 100 from hlv) (by omega), .fix ⟨_, rfl, fun i Γ2 O2 => ∃ c1 c2 : Option D, Γ2 = [some (treeD (.node op ks)), some (.lst ((pathsL (ks.take i)).map fun p => pathD (op :: p))), c1, c2] ∧ O2 = O, ⟨none, none, rfl, rfl⟩, fun _ _ _ _ => rfl, ?_, ?_⟩⟩
    · rintro i d Γ2 O2 hd ⟨c1, c2, rfl, rfl⟩
      rw [List.getElem?_map] at hd
      cases hc : ks[i]? with
      | none => rw [hc] at hd; cases hd
      | some u =>
        rw [hc] at hd
        obtain rfl := Option.some.inj hd
        obtain ⟨hu1, hu2, hu3⟩ := kids_le (List.mem_of_getElem? hc) ht.2
        have hpl := paths_len u
        have hlv2 : leavesL ks ≤ 100 := hlv
        obtain ⟨m, hm⟩ : ∃ m, n = m + 1 := ⟨n - 1, by have : heightL ks + 1 ≤ n := hht; omega⟩
        have hh : heightL ks + 1 ≤ n := hht
        refine wg_name 2 nd (wss_one (ws_set 1 nd (w_add ?_)))
        repeat walk_at "e"
        refine w_lc (own := [("_law_path", 3)]) [3] rfl nd (blkOk_by rfl) rfl (wi_list (w_call (GS m hm) hr (by omega) ?_))
        repeat walk_at "e"
        refine ⟨u, rfl, hu1, by omega, by omega, ⟨_, rfl, lc_all (fun j _ y => ∀ p, (paths u)[j]? = some p → y = pathD (op :: p)) (by rw [List.length_map, hpl]; omega) (fun _ _ => rfl) (fun j d O3 hd hs s H C cl fp => ?_) fun ys h1 h2 => ?_⟩⟩
        · rw [List.getElem?_map] at hd
          cases hc2 : (paths u)[j]? with
          | none => rw [hc2] at hd; cases hd
          | some pa =>
            rw [hc2] at hd
            obtain rfl := Option.some.inj hd
            refine wgc_name 3 nd ⟨rfl, fun s H C cl fp => ?_⟩
            repeat walk_at "e"
            have hdp := paths_dep u pa (List.mem_of_getElem? hc2)
            have hwu := words_len hu1
            refine sIx_t (d := tx op) (atI_of (j := 0) rfl rfl) ?_
            repeat walk_at "e"
            refine sAdd_tup ?_ ?_
            · exact Nat.le_trans (m := 1000) (by rw [List.length_map]; show 1 + _ ≤ _; omega) (by decide)
            · exact ⟨rfl, fun p e => by cases e; rfl⟩
        · have e : ys = (paths u).map fun p => pathD (op :: p) := by
            apply List.ext_getElem?
            intro j
            rw [List.getElem?_map]
            cases hc2 : (paths u)[j]? with
            | none =>
              have := List.getElem?_eq_none_iff.mp hc2
              rw [List.getElem?_eq_none_iff.mpr (by rw [h1, List.length_map]; exact this)]
              rfl
            | some pa =>
              obtain ⟨y, h3, h4⟩ := h2 j (pathD pa) (by rw [List.getElem?_map, hc2]; rfl)
              rw [h3, h4 pa hc2]
              rfl
          subst e
          refine .fix (sAdd_ll ?_ (.fix ⟨some (treeD u), c2, ?_, rfl⟩))
          · rw [List.length_map, List.length_map, ← List.length_append, ← pathsL_take ks i u hc]
            have h5 : (pathsL (ks.take (i + 1))).length ≤ leavesL ks := by
              rw [pathsL_len]
              have := leavesL_append (ks.take (i + 1)) (ks.drop (i + 1))
              rw [List.take_append_drop] at this
              omega
            exact Nat.le_trans (m := 1000) (by omega) (by decide)
          · rw [pathsL_take ks i u hc, List.map_append]
            rfl
    · rintro Γ2 O2 ⟨c1, c2, rfl, rfl⟩
      rw [List.length_map, List.take_length]
      refine wss_one (ws_ret ?_)
      repeat walk_at "e"
      have e : (paths (.node op ks)).map pathD = (pathsL ks).map fun p => pathD (op :: p) := by
        show ((pathsL ks).map (op :: ·)).map pathD = _
        rw [List.map_map]
        rfl
      rw [e] at hQ
      exact hQ
end
section
variable {P : Program} {w : World} {K : PySem.W.Frag} {mg : Str → Option Value} {base : Heap}
/-! end_of: the program's own -/
open Tr
abbrev sEndOf : Stmt := topS 17
theorem scEndOf : FnScope ["tree", "at", "lack"] ["tree", "at"] (defScope sEndOf) := ⟨rfl, rfl, rfl, by decide +kernel, rfl, by decide +kernel, by decide +kernel⟩
theorem ok_endOf {f : Addr} {fd : FuncData} {k : Nat} (F : Fun K "end_of" "end_of" sEndOf f fd) (GR : Fd P w K mg base "room_of" 1 ["word"] spRoomOf) (hk : 1 ≤ k) : FnOk P w K mg base (L2.CX P w) (k + 1) f fd ["tree", "at"] (spD K spEnd) := by
  refine fd_ok F scEndOf (fun ds O Q E ⟨_, _, _, e, _⟩ => by rw [e]; rfl) (fun cdv A outer s H E0 hr ds O Q E ⟨pw, t, qw, e, ht, hQ⟩ => ?_)
  subst e
  have nd := scEndOf.nd
  generalize hws : pw ++ (words t ++ qw) = ws
  refine wss_cons (ws_set 2 nd ?_)
  repeat walk_at "e"
  refine wss_cut (fun Γ2 O2 => Γ2[1]? = some (some (.int ((pw.length + (words t).length : Nat)))) ∧ Γ2.length = 3 ∧ O2 = O) ?_ ?_
  · refine ws_while (passes_of rfl) (fun m Γ2 O2 => O2 = O ∧ ∃ (G : List T) (j : Nat), m = (wordsL G).length ∧ WfL G ∧ ws.drop j = wordsL G ++ qw ∧ j + (wordsL G).length = pw.length + (words t).length ∧ Γ2 = [some (wsD ws), some (.int (j : Nat)), some (.int (G.length : Nat))]) ⟨_, rfl, [t], pw.length, rfl, ⟨ht, trivial⟩, by rw [← hws, List.drop_left]; simp [wordsL], by simp [wordsL], rfl⟩ ?_
    rintro m Γ2 O2 ⟨rfl, G, j, hm, hG, hd, hj, rfl⟩
    repeat walk_at "e"
    match G, hG, hd, hj, hm with
    | [], _, _, hj, _ =>
      refine br_f (by rfl) ⟨?_, rfl, rfl⟩
      simp [wordsL] at hj
      rw [← hj]
      rfl
    | u :: G, hG, hd, hj, hm =>
      refine br_t (decide_eq_true (by rw [List.length_cons]; omega)) ?_
      refine wss_cons (ws_augAdd 2 nd rfl ?_)
      have hhead : ∀ a l, ws.drop j = a :: l → (ws.map tx)[j]? = some (tx a) ∧ ws.drop (j + 1) = l := fun a l h => by
        have h1 : ws[j]? = some a := by
          have := congrArg (fun z => z[0]?) h
          simpa using this
        refine ⟨by rw [List.getElem?_map, h1]; rfl, ?_⟩
        rw [← List.drop_drop, h]
        rfl
      cases u with
      | leaf =>
        obtain ⟨h1, h2⟩ := hhead [95] (wordsL G ++ qw) hd
        repeat walk_at "e"
        refine w_call GR hr (by omega) ?_
        repeat walk_at "e"
        refine sIx_t (atI_of (j := j) rfl h1) ?_
        repeat walk_at "e"
        refine ⟨[95], 0, rfl, .inl ⟨rfl, rfl⟩, ?_⟩
        repeat walk_at "e"
        refine wss_one (ws_augAdd 1 nd rfl ?_)
        repeat walk_at "e"
        refine ⟨(wordsL G).length, by rw [hm]; show _ < ([95] :: wordsL G).length; simp, rfl, G, j + 1, rfl, hG.2, h2, ?_, ?_⟩
        · have : (wordsL (T.leaf :: G)).length = (wordsL G).length + 1 := rfl
          omega
        · rw [List.length_cons]
          show [_, some (D.int _), some (D.int _)] = _
          rw [show ((j : Nat) : Int) + 1 = ((j + 1 : Nat) : Int) by omega, show ((G.length + 1 : Nat) : Int) + (((0 : Nat) : Int) - 1) = (G.length : Int) by omega]
      | node op ks =>
        obtain ⟨h1, h2⟩ := hhead op (wordsL ks ++ wordsL G ++ qw) hd
        have hop : Op op ks.length := hG.1.1
        repeat walk_at "e"
        refine w_call GR hr (by omega) ?_
        repeat walk_at "e"
        refine sIx_t (atI_of (j := j) rfl h1) ?_
        repeat walk_at "e"
        refine ⟨op, ks.length, rfl, .inr hop, ?_⟩
        repeat walk_at "e"
        refine wss_one (ws_augAdd 1 nd rfl ?_)
        repeat walk_at "e"
        have hl3 : (wordsL (T.node op ks :: G)).length = (wordsL (ks ++ G)).length + 1 := by
          rw [wordsL_append]
          rfl
        refine ⟨(wordsL (ks ++ G)).length, by rw [hm, hl3]; omega, rfl, ks ++ G, j + 1, rfl, (WfL_append _ _).mpr ⟨hG.1.2, hG.2⟩, by rw [wordsL_append]; exact h2, by omega, ?_⟩
        rw [List.length_cons, List.length_append]
        show [_, some (D.int _), some (D.int _)] = _
        rw [show ((j : Nat) : Int) + 1 = ((j + 1 : Nat) : Int) by omega, show ((G.length + 1 : Nat) : Int) + (((ks.length : Nat) : Int) - 1) = ((ks.length + G.length : Nat) : Int) by omega]
  rintro Γ2 O2 ⟨h1, h2, rfl⟩
  match Γ2, h1, h2 with
  | [_, _, _], h1, _ =>
  cases Option.some.inj h1
  refine wss_one (ws_ret ?_)
  repeat walk_at "e"
  exact hQ
end
section
variable {P : Program} {w : World} {K : PySem.W.Frag} {mg : Str → Option Value} {base : Heap}
/-! parts_of -/
open Tr
def kidsOf : T → List T
  | .leaf => []
  | .node _ ks => ks
abbrev sPartsOf : Stmt := topS 19
theorem scPartsOf : FnScope ["tree", "at", "found", "here", "k", "end"] ["tree", "at"] (defScope sPartsOf) := ⟨rfl, rfl, rfl, by decide +kernel, rfl, by decide +kernel, by decide +kernel⟩
def spPartsOf : SpD := fun ds O Q _ => ∃ (pw : List Wd) (t : T) (qw : List Wd), ds = [wsD (pw ++ (words t ++ qw)), .int (pw.length : Nat)] ∧ Wf t ∧ pw.length + (words t).length + qw.length ≤ 5000 ∧ Mk ((kidsOf t).map treeD) O Q
theorem len_words : ∀ ts : List T, ts.length ≤ (wordsL ts).length
  | [] => Nat.le_refl _
  | t :: ts => by
    have h1 := len_words ts
    have h2 := List.length_pos_iff.mpr (words_ne t)
    show ts.length + 1 ≤ (words t ++ wordsL ts).length
    rw [List.length_append]
    omega
theorem ok_partsOf {f : Addr} {fd : FuncData} {k : Nat} (F : Fun K "parts_of" "parts_of" sPartsOf f fd) (mrng : mg "range" = none) (GR : Fd P w K mg base "room_of" 1 ["word"] spRoomOf) (GE : Fd P w K mg base "end_of" 2 ["tree", "at"] spEnd) (hk : 2 ≤ k) :
    FnOk P w K mg base (L2.CX P w) (k + 1) f fd ["tree", "at"] (spD K spPartsOf) := by
  refine fd_ok F scPartsOf (fun ds O Q E ⟨_, _, _, e, _⟩ => by rw [e]; rfl) (fun cdv A outer s H E0 hr ds O Q E ⟨pw, t, qw, e, ht, hl, hQ⟩ => ?_)
  subst e
  have nd := scPartsOf.nd
  obtain ⟨a, hat, hroom, hws⟩ : ∃ a : Wd, ((pw ++ (words t ++ qw)).map tx)[pw.length]? = some (tx a) ∧ (a = [95] ∧ (kidsOf t).length = 0 ∨ Op a (kidsOf t).length) ∧ words t = a :: wordsL (kidsOf t) := by
    cases t with
    | leaf => exact ⟨[95], by simp [words], .inl ⟨rfl, rfl⟩, rfl⟩
    | node op ks => exact ⟨op, by simp [words], .inr ht.1, rfl⟩
  have hk1 : WfL (kidsOf t) := by
    cases t with
    | leaf => exact trivial
    | node op ks => exact ht.2
  generalize hks : kidsOf t = ks at *
  have hwl := wordsL_len hk1
  refine wss_cons (ws_set 2 nd ?_)
  repeat walk_at "e"
  refine .own fun q nq => ?_
  refine wss_cons (ws_set 3 nd ?_)
  repeat walk_at "e"
  refine wss_cons (ws_for (passes_of rfl) rfl (wi_rng1 mrng ?_))
  repeat walk_at "e"
  refine w_call GR hr (by omega) ?_
  repeat walk_at "e"
  refine sIx_t (atI_of (j := pw.length) rfl hat) ?_
  repeat walk_at "e"
  refine ⟨a, ks.length, rfl, hroom, ?_⟩
  repeat walk_at "e"
  have hl5 : ks.length ≤ 5000 := by
    rw [hws, List.length_cons] at hl
    have := len_words ks
    omega
  have hlen : ((pw ++ (words t ++ qw)).map tx).length = pw.length + 1 + (wordsL ks).length + qw.length := by
    rw [List.length_map, List.length_append, List.length_append, hws, List.length_cons]
    omega
  refine ⟨ks.length, rfl, by omega, by omega, fun i Γ2 O2 => ∃ c1 c2 : Option D, i ≤ ks.length ∧ O2 = updO O q (.lst ((ks.take i).map treeD)) ∧ Γ2 = [some (wsD (pw ++ (words t ++ qw))), some (.int (pw.length : Nat)), some (.obj q), some (.int ((pw.length + 1 + (wordsL (ks.take i)).length : Nat))), c1, c2], ⟨none, none, Nat.zero_le _, rfl, rfl⟩, fun _ _ _ _ => trivial, ?_, ?_⟩
  · rintro i d Γ2 O2 hd ⟨c1, c2, hi, rfl, rfl⟩
    obtain ⟨hi2, rfl⟩ := rngD_get hd
    have hi3 : i < ks.length := by omega
    have hu0 : ks[i]? = some ks[i] := List.getElem?_eq_getElem hi3
    have hdr : ks = ks.take i ++ ks[i] :: ks.drop (i + 1) := by rw [← List.drop_eq_getElem_cons hi3, List.take_append_drop]
    have hu : Wf ks[i] := by
      have := hk1
      rw [hdr] at this
      exact ((WfL_append _ _).mp this).2.1
    have htk : ks.take (i + 1) = ks.take i ++ [ks[i]] := by rw [List.take_succ, hu0]; rfl
    have hwl2 : wordsL ks = wordsL (ks.take i) ++ (words ks[i] ++ wordsL (ks.drop (i + 1))) := by
      have := congrArg wordsL hdr
      rw [wordsL_append] at this
      exact this
    have hsplit : pw ++ (words t ++ qw) = (pw ++ a :: wordsL (ks.take i)) ++ (words ks[i] ++ (wordsL (ks.drop (i + 1)) ++ qw)) := by
      rw [hws, hwl2]
      simp
    have hpl : (pw ++ a :: wordsL (ks.take i)).length = pw.length + 1 + (wordsL (ks.take i)).length := by
      rw [List.length_append, List.length_cons]
      omega
    have hlw := congrArg List.length hwl2
    rw [List.length_append, List.length_append] at hlw
    refine wg_name 4 nd ?_
    refine wss_cut (fun Γ3 O3 => Γ3 = [some (wsD (pw ++ (words t ++ qw))), some (.int (pw.length : Nat)), some (.obj q), some (.int ((pw.length + 1 + (wordsL (ks.take i)).length : Nat))), some (.int (0 + (i : Nat))), some (.int ((pw.length + 1 + (wordsL (ks.take i)).length + (words ks[i]).length : Nat)))] ∧ O3 = updO O q (.lst ((ks.take i).map treeD))) ?_ ?_
    · refine ws_set 5 nd (w_call GE hr (by omega) ?_)
      repeat walk_at "e"
      refine ⟨pw ++ a :: wordsL (ks.take i), ks[i], wordsL (ks.drop (i + 1)) ++ qw, ?_, hu, ?_, rfl⟩
      · rw [← hsplit, hpl]
      · rw [hpl]
        rfl
    rintro Γ3 O3 ⟨rfl, rfl⟩
    refine wss_cons (ws_expr (w_append ?_))
    repeat walk_at "e"
    refine ⟨q, rfl, ⟨_, updO_same⟩, w_sl ?_⟩
    repeat walk_at "e"
    refine wo_some ?_
    repeat walk_at "e"
    refine wo_some ?_
    repeat walk_at "e"
    refine sSl_t ?_
    rw [cutD_mid (m := pw.length + 1 + (wordsL (ks.take i)).length) (n := pw.length + 1 + (wordsL (ks.take i)).length + (words ks[i]).length) rfl rfl (by omega) (by omega), ← List.map_drop, ← List.map_take]
    have hcut : (List.drop (pw.length + 1 + (wordsL (ks.take i)).length) (pw ++ (words t ++ qw))).take (pw.length + 1 + (wordsL (ks.take i)).length + (words ks[i]).length - (pw.length + 1 + (wordsL (ks.take i)).length)) = words ks[i] := by
      rw [hsplit, ← hpl, List.drop_left, Nat.add_sub_cancel_left, List.take_left]
    rw [hcut]
    refine ⟨_, updO_same, ?_, wss_one (ws_set 3 nd ?_)⟩
    · rw [List.length_map, List.length_take]
      exact Nat.lt_of_le_of_lt (m := 5000) (by omega) (by decide)
    repeat walk_at "e"
    refine ⟨some (.int (0 + (i : Nat))), some (.int ((pw.length + 1 + (wordsL (ks.take i)).length + (words ks[i]).length : Nat))), hi3, ?_, ?_⟩
    · rw [updO_updO, htk, List.map_append]
      rfl
    · rw [htk, wordsL_append]
      show [_, _, _, some (D.int _), _, _] = _
      rw [List.length_append, show (wordsL [ks[i]]).length = (words ks[i]).length by simp [wordsL], ← Nat.add_assoc]
  · rintro Γ2 O2 ⟨c1, c2, hi, rfl, rfl⟩
    rw [rngD_len, Int.toNat_natCast, List.take_length]
    refine wss_one (ws_ret ?_)
    rcases hQ with hQ | hQ
    · refine WE.fixed ?_
      repeat walk_at "e"
      refine ⟨q, _, rfl, updO_same, ?_⟩
      rw [delO_updO nq]
      exact hQ
    · repeat walk_at "e"
      exact hQ q nq
end
section
variable {P : Program} {w : World} {K : PySem.W.Frag} {mg : Str → Option Value} {base : Heap}
/-! _law_stands_at -/
open Tr
abbrev sLStands : Stmt := topS 43
theorem scLStands : FnScope ["_law_pattern", "_law_tree", "_law_at", "_law_word"] ["_law_pattern", "_law_tree", "_law_at"] (defScope sLStands) := ⟨rfl, rfl, rfl, by decide +kernel, rfl, by decide +kernel, by decide +kernel⟩
def spLStands : SpD := fun ds O Q _ => ∃ (pt : T) (pw : List Wd) (u : T) (qw : List Wd), ds = [treeD pt, wsD (pw ++ (words u ++ qw)), .int (pw.length : Nat)] ∧ Wf pt ∧ Wf u ∧ Q (.bl (holdsB pt u)) O
/-- what is left of a pattern, what is left of the parts -/
theorem holdsBL_app : ∀ {ks js : List T}, ks.length = js.length → ∀ (G U : List T), holdsBL (ks ++ G) (js ++ U) = (holdsBL ks js && holdsBL G U)
  | [], [], _, G, U => by simp [holdsBL]
  | [], _ :: _, h, _, _ => by simp at h
  | _ :: _, [], h, _, _ => by simp at h
  | k :: ks, j :: js, h, G, U => by
    simp only [List.cons_append, holdsBL, holdsBL_app (ks := ks) (js := js) (by simpa using h) G U, Bool.and_assoc]
theorem ok_lstands {f : Addr} {fd : FuncData} {k : Nat} (F : Fun K "_law_stands_at" "_law_stands_at" sLStands f fd) (GE : Fd P w K mg base "_law_end" 1 ["_law_tree", "_law_at"] spEnd) (hk : 1 ≤ k) :
    FnOk P w K mg base (L2.CX P w) (k + 1) f fd ["_law_pattern", "_law_tree", "_law_at"] (spD K spLStands) := by
  refine fd_ok F scLStands (fun ds O Q E ⟨_, _, _, _, e, _⟩ => by rw [e]; rfl) (fun cdv A outer s H E0 hr ds O Q E ⟨pt, pw, u, qw, e, hp, hu, hQ⟩ => ?_)
  subst e
  have nd := scLStands.nd
  generalize hws : pw ++ (words u ++ qw) = ws
  refine wss_cons (ws_for (passes_of rfl) rfl (wi_tup ?_))
  repeat walk_at "v"
  refine ⟨_, rfl, fun i Γ2 O2 => ∃ (G U : List T) (j : Nat) (c : Option D), WfL G ∧ WfL U ∧ G.length = U.length ∧ (words pt).drop i = wordsL G ∧ ws.drop j = wordsL U ++ qw ∧ holdsB pt u = holdsBL G U ∧ Γ2 = [some (treeD pt), some (wsD ws), some (.int (j : Nat)), c] ∧ O2 = O,
    ⟨[pt], [u], pw.length, none, ⟨hp, trivial⟩, ⟨hu, trivial⟩, rfl, by simp [wordsL], by rw [← hws, List.drop_left]; simp [wordsL], by simp [holdsBL], rfl, rfl⟩, fun _ _ _ _ => trivial, ?_, ?_⟩
  · rintro i d Γ2 O2 hd ⟨G, U, j, c, hG, hU, hl, hdp, hdw, hh, rfl, rfl⟩
    obtain ⟨a, ha, rfl⟩ := txs_at hd
    have hda : (words pt).drop i = a :: (words pt).drop (i + 1) := by
      obtain ⟨hlt, e⟩ := List.getElem?_eq_some_iff.mp ha
      rw [← e]
      exact List.drop_eq_getElem_cons hlt
    rw [hda] at hdp
    match G, U, hG, hU, hl, hdp, hdw, hh with
    | [], _, _, _, _, hdp, _, _ => cases hdp
    | _ :: _, [], _, _, hl, _, _, _ => simp at hl
    | g :: G, v :: U, hG, hU, hl, hdp, hdw, hh =>
      have hl' : G.length = U.length := by simpa using hl
      have hjl : ws = ws.take j ++ (words v ++ (wordsL U ++ qw)) := (List.take_append_drop j ws).symm.trans (by rw [hdw]; simp [wordsL])
      have hjlen : (ws.take j).length = j := by
        rw [List.length_take]
        have := congrArg List.length hdw
        rw [List.length_drop] at this
        have h1 := List.length_pos_iff.mpr (words_ne v)
        have h2 : (wordsL (v :: U) ++ qw).length = (words v).length + ((wordsL U).length + qw.length) := by simp [wordsL]
        omega
      cases g with
      | leaf =>
        obtain ⟨rfl, hdp2⟩ := List.cons.inj (show a :: _ = [95] :: wordsL G from hdp)
        repeat walk_at "v"
        refine ⟨ws.take j, v, wordsL U ++ qw, by rw [← hjl, hjlen], hU.1, ?_⟩
        refine ⟨G, U, (ws.take j).length + (words v).length, _, hG.2, hU.2, hl', hdp2, ?_, by rw [hh]; simp [holdsBL, holdsB_leaf], rfl, rfl⟩
        rw [hjlen, ← List.drop_drop, hdw]
        show ((words v ++ wordsL U) ++ qw).drop _ = _
        rw [List.append_assoc, List.drop_left]
      | node op ks =>
        have hop : Op op ks.length := hG.1.1
        obtain ⟨rfl, hdp2⟩ := List.cons.inj (show a :: _ = op :: (wordsL ks ++ wordsL G) from hdp)
        have hne := hop.ne
        obtain ⟨b, bs, hvb⟩ : ∃ b bs, words v = b :: bs := by
          cases v with
          | leaf => exact ⟨_, _, rfl⟩
          | node b js => exact ⟨_, _, rfl⟩
        have hat : (ws.map tx)[j]? = some (tx b) := by
          rw [List.getElem?_map]
          have : ws[j]? = some b := by
            have := congrArg (fun z => z[0]?) hdw
            simpa [wordsL, hvb] using this
          rw [this]
          rfl
        repeat walk_at "v"
        refine br_f (by rw [show (Str.ofString "_").cps.toList = [95] from rfl, decide_eq_false hne]) ?_
        refine wss_one (ws_if ?_)
        repeat walk_at "v"
        refine sIx_t (atI_of (j := j) rfl hat) ?_
        repeat walk_at "v"
        cases v with
        | leaf =>
          obtain ⟨rfl, _⟩ := List.cons.inj (show [95] :: [] = b :: bs from hvb)
          refine br_t (by simpa using fun z => hne z.symm) ?_
          repeat walk_at "v"
          rw [hh] at hQ
          simpa [holdsBL, holdsB] using hQ
        | node b' js =>
          obtain ⟨rfl, _⟩ := List.cons.inj (show b' :: wordsL js = b :: bs from hvb)
          by_cases hab : a = b'
          · subst hab
            have hkl := hop.inj hU.1.1
            refine br_f (by simp) ?_
            repeat walk_at "v"
            refine ⟨ks ++ G, js ++ U, j + 1, _, (WfL_append _ _).mpr ⟨hG.1.2, hG.2⟩, (WfL_append _ _).mpr ⟨hU.1.2, hU.2⟩, by simp [hkl, hl'], by rw [wordsL_append]; exact hdp2, ?_, ?_, rfl, rfl⟩
            · rw [← List.drop_drop, hdw, wordsL_append]
              simp [wordsL, words]
            · rw [hh, holdsBL_app hkl]
              simp [holdsBL, holdsB]
          · refine br_t (by simpa using fun z => hab z.symm) ?_
            repeat walk_at "v"
            rw [hh] at hQ
            simpa [holdsBL, holdsB, hab] using hQ
  · rintro Γ2 O2 ⟨G, U, j, c, hG, hU, hl, hdp, hdw, hh, rfl, rfl⟩
    rw [List.length_map, List.drop_length] at hdp
    have hG0 : G = [] := by
      cases G with
      | nil => rfl
      | cons g G => exact absurd (List.append_eq_nil_iff.mp (show words g ++ wordsL G = [] from hdp.symm)).1 (words_ne g)
    subst hG0
    repeat walk_at "v"
    rw [hh] at hQ
    simpa [holdsBL] using hQ
end
section
variable {P : Program} {w : World} {K : PySem.W.Frag} {mg : Str → Option Value} {base : Heap}
/-! _law_spots -/
open Tr
abbrev spotsD (p t : T) : List D := filtD (fun i _ => holdsB p (partAt t i)) (fun _ d => d) 0 (rngD 0 (words t).length)
abbrev sSpots : Stmt := topS 44
theorem scSpots : FnScope ["_law_pattern", "_law_tree", "_law_at"] ["_law_pattern", "_law_tree"] (defScope sSpots) := ⟨rfl, rfl, rfl, by decide +kernel, rfl, by decide +kernel, by decide +kernel⟩
def spSpots : SpD := fun ds O Q _ => ∃ p t : T, ds = [treeD p, treeD t] ∧ Good p ∧ Good t ∧ Mk (spotsD p t) O Q
theorem ok_spots {f : Addr} {fd : FuncData} {k : Nat} (F : Fun K "_law_spots" "_law_spots" sSpots f fd) (mlen : mg "len" = none) (mrng : mg "range" = none) (GT : Fd P w K mg base "_law_stands_at" 2 ["_law_pattern", "_law_tree", "_law_at"] spLStands) (hk : 2 ≤ k) :
    FnOk P w K mg base (L2.CX P w) (k + 1) f fd ["_law_pattern", "_law_tree"] (spD K spSpots) := by
  refine fd_ok F scSpots (fun ds O Q E ⟨_, _, e, _⟩ => by rw [e]; rfl) (fun cdv A outer s H E0 hr ds O Q E ⟨p, t, e, gp, gt, hQ⟩ => ?_)
  subst e
  have nd := scSpots.nd
  have hpl := gp.len
  have htl := gt.len
  refine wss_one (ws_ret (w_lc (own := [("_law_at", 2)]) [2] rfl nd (blkOk_by rfl) rfl (wi_rng1 mrng ?_)))
  repeat walk_at "v"
  refine ⟨(words t).length, by simp, by omega, by omega, ?_⟩
  refine lc_filt (fun i _ => holdsB p (partAt t i)) (fun _ d => d) (by rw [rngD_len]; omega) (fun _ _ => trivial) (fun m d O9 hd hs s H C cl fp => ?_) hQ
  obtain ⟨hm, rfl⟩ := rngD_get hd
  rw [Int.toNat_natCast] at hm
  obtain ⟨pw, qw, e, hpw, hw, _⟩ := partAt_ok gt.1 hm
  refine wgc_name 2 nd ⟨rfl, fun s H C cl fp => wts_one ?_⟩
  repeat walk_at "v"
  refine ⟨p, pw, partAt t m, qw, by rw [← e, hpw, Int.zero_add], gp.1, hw, ?_⟩
  refine ⟨_, rfl, rfl, rfl, fun _ s H C cl fp => ?_⟩
  repeat walk_at "v"
  exact ⟨rfl, rfl⟩
end
section
variable {P : Program} {w : World} {K : PySem.W.Frag} {mg : Str → Option Value} {base : Heap}
/-! rank_of, compared; _law_first -/
open Tr
abbrev rankI (p : List Wd) : D := .tup [.int (p.length : Nat), pathD p]
abbrev rankD (t : T) : D := .lst ((paths t).map rankI)
mutual
theorem path_ops : ∀ {t : T}, Wf t → ∀ p ∈ paths t, ∀ a ∈ p, ∃ n, Op a n
  | .leaf, _, p, hp, a, ha => by
    rw [List.mem_singleton.mp (show p ∈ [[]] from hp)] at ha
    cases ha
  | .node op ks, h, p, hp, a, ha => by
    obtain ⟨q, hq, rfl⟩ := List.mem_map.mp (show p ∈ (pathsL ks).map (op :: ·) from hp)
    rcases List.mem_cons.mp ha with rfl | ha
    · exact ⟨_, h.1⟩
    · exact pathsL_ops h.2 q hq a ha
theorem pathsL_ops : ∀ {ts : List T}, WfL ts → ∀ p ∈ pathsL ts, ∀ a ∈ p, ∃ n, Op a n
  | [], _, p, hp, a, ha => by simp [pathsL] at hp
  | t :: ts, h, p, hp, a, ha => by
    rcases List.mem_append.mp (show p ∈ paths t ++ pathsL ts from hp) with hp | hp
    · exact path_ops h.1 p hp a ha
    · exact pathsL_ops h.2 p hp a ha
end
theorem alike_txs : ∀ p q : List Wd, PySem.W.alikeAll (toPys (p.map tx)) (toPys (q.map tx)) = true
  | [], _ => by simp [toPys, PySem.W.alikeAll]
  | _ :: _, [] => by simp [toPys, toPy, PySem.W.alikeAll]
  | a :: p, b :: q => by
    simp only [List.map_cons, toPys, toPy, PySem.W.alikeAll, PySem.W.alike, alike_txs p q, Bool.and_self]
theorem alike_path (p q : List Wd) : PySem.W.alike (toPy (pathD p)) (toPy (pathD q)) = true := by
  simpa [toPy, PySem.W.alike] using alike_txs p q
theorem alike_rank1 (p q : List Wd) : PySem.W.alike (toPy (rankI p)) (toPy (rankI q)) = true := by
  have := alike_txs p q
  simp [toPy, toPys, PySem.W.alike, PySem.W.alikeAll, this]
theorem alike_ranks : ∀ ps qs : List (List Wd), PySem.W.alikeAll (toPys (ps.map rankI)) (toPys (qs.map rankI)) = true
  | [], _ => by simp [toPys, PySem.W.alikeAll]
  | _ :: _, [] => by simp [toPys, PySem.W.alikeAll]
  | p :: ps, q :: qs => by
    simp only [List.map_cons, toPys, PySem.W.alikeAll, alike_rank1 p q, alike_ranks ps qs, Bool.and_self]
theorem alike_rank (t u : T) : PySem.W.alike (toPy (rankD t)) (toPy (rankD u)) = true := by
  simpa [toPy, PySem.W.alike] using alike_ranks (paths t) (paths u)
theorem isPy_paths : ∀ ps : List (List Wd), isPys (ps.map rankI) = true
  | [] => rfl
  | p :: ps => by simp [isPys, isPy, isPys_txs p, isPy_paths ps]
theorem depth_rank1 (p : List Wd) : (toPy (rankI p)).depth ≤ 4 := by
  have := depth_txs p
  simp only [toPy, toPys, toPys_txs, PyData.depth, PyData.depthAll]
  omega
theorem depth_ranks : ∀ ps : List (List Wd), PyData.depthAll (toPys (ps.map rankI)) ≤ 4
  | [] => by simp [toPys, PyData.depthAll]
  | p :: ps => by
    have h1 := depth_rank1 p
    have h2 := depth_ranks ps
    simp only [List.map_cons, toPys, PyData.depthAll]
    omega
theorem depth_rank (t : T) : (toPy (rankD t)).depth ≤ 16 := by
  have := depth_ranks (paths t)
  simp only [toPy, PyData.depth]
  omega
theorem eqv_path (p q : List Wd) : eqvD (pathD p) (pathD q) = decide (p = q) := by
  have e : ∀ a b : List Wd, PyData.eqvAll (toPys (a.map tx)) (toPys (b.map tx)) = decide (a = b) := by
    intro a
    induction a with
    | nil => intro b; cases b <;> rfl
    | cons x a ih =>
      intro b
      cases b with
      | nil => rfl
      | cons y b =>
        simp only [List.map_cons, toPys, toPy, PyData.eqvAll, PyData.eqv, ih b]
        rw [Bool.eq_iff_iff]
        simp
  have := e p q
  simpa [eqvD, toPy, PyData.eqv] using this
theorem eqv_rank1 (p q : List Wd) : eqvD (rankI p) (rankI q) = decide (p = q) := by
  have h := eqv_path p q
  have h2 : PyData.eqvAll (toPys (p.map tx)) (toPys (q.map tx)) = decide (p = q) := by simpa [eqvD, toPy, PyData.eqv] using h
  by_cases hpq : p = q
  · subst hpq
    simp [eqvD, toPy, toPys, PyData.eqv, PyData.eqvAll, h2]
  · simp [eqvD, toPy, toPys, PyData.eqv, PyData.eqvAll, h2, hpq]
theorem toks_path : ∀ p q : List Wd, PySem.W.keyToks (toPy (pathD p)) = PySem.W.keyToks (toPy (pathD q)) → p = q := by
  have go : ∀ p q : List Wd, PySem.W.keyToksAll (toPys (p.map tx)) = PySem.W.keyToksAll (toPys (q.map tx)) → p = q := by
    intro p
    induction p with
    | nil =>
      intro q h
      cases q with
      | nil => rfl
      | cons b q => simp [toPys, PySem.W.keyToksAll] at h
    | cons a p ih =>
      intro q h
      cases q with
      | nil => simp [toPys, PySem.W.keyToksAll] at h
      | cons b q =>
        simp only [List.map_cons, toPys, toPy, PySem.W.keyToksAll, PySem.W.keyToks, List.cons_append, List.nil_append, List.cons.injEq, true_and] at h
        obtain ⟨h1, h2⟩ := h
        have h3 : a = b := by
          have := Sum.inr.inj h1
          exact this
        rw [h3, ih q h2]
  intro p q h
  exact go p q (by simpa [toPy, PySem.W.keyToks] using h)
/-- the order of paths: longer ones are greater, then as rows of texts -/
theorem dlt_rank1 (p q : List Wd) : dlt (rankI p) (rankI q) = if p.length = q.length then dlt (pathD p) (pathD q) else decide (p.length < q.length) := by
  by_cases hl : p.length = q.length
  · rw [if_pos hl]
    have e1 : dlt (rankI p) (rankI q) = dlt (.tup [pathD p]) (.tup [pathD q]) := dlt_yes (by simp [toPy, PySem.W.alike]) (by simp [eqvD, toPy, PyData.eqv, hl])
    rw [e1]
    by_cases hpq : p = q
    · subst hpq
      rw [dlt_irr, dlt_irr]
    · exact dlt_no (alike_path p q) (by rw [eqv_path]; exact decide_eq_false hpq)
  · rw [if_neg hl]
    have e1 : dlt (rankI p) (rankI q) = dlt (.int (p.length : Nat)) (.int (q.length : Nat)) := dlt_no (by simp [toPy, PySem.W.alike]) (by simp [eqvD, toPy, PyData.eqv]; omega)
    rw [e1, dlt_int]
    exact decide_eq_decide.mpr (by omega)
theorem dlt_path_tot {p q : List Wd} (h : p ≠ q) : dlt (pathD p) (pathD q) = !dlt (pathD q) (pathD p) := dlt_tot fun z => h (toks_path p q z)
/-- 1, 0, -1 by the first paths that differ -/
def firstC : List (List Wd) → List (List Wd) → Int
  | p :: ps, q :: qs => if p = q then firstC ps qs else if p.length ≠ q.length then (if q.length < p.length then 1 else -1) else (if dlt (pathD q) (pathD p) then 1 else -1)
  | _, _ => 0
theorem first_ranks : ∀ ps qs : List (List Wd), ps.length = qs.length →
    (if dlt (.tup (qs.map rankI)) (.tup (ps.map rankI)) then (1 : Int) else 0) - (if dlt (.tup (ps.map rankI)) (.tup (qs.map rankI)) then 1 else 0) = firstC ps qs
  | [], [], _ => by
    simp only [List.map_nil, dlt_tup_nil, firstC]
    decide
  | [], _ :: _, h => by simp at h
  | _ :: _, [], h => by simp at h
  | p :: ps, q :: qs, h => by
    have ih := first_ranks ps qs (by simpa using h)
    simp only [List.map_cons, firstC]
    by_cases hpq : p = q
    · subst hpq
      rw [if_pos rfl, dlt_yes (alike_rank1 p p) (by rw [eqv_rank1]; simp), dlt_yes (alike_rank1 p p) (by rw [eqv_rank1]; simp)]
      exact ih
    · rw [if_neg hpq, dlt_no (alike_rank1 q p) (by rw [eqv_rank1]; exact decide_eq_false (Ne.symm hpq)), dlt_no (alike_rank1 p q) (by rw [eqv_rank1]; exact decide_eq_false hpq), dlt_rank1, dlt_rank1]
      by_cases hl : p.length = q.length
      · have e1 : (if q.length = p.length then dlt (pathD q) (pathD p) else decide (q.length < p.length)) = dlt (pathD q) (pathD p) := if_pos hl.symm
        have e2 : (if p.length = q.length then dlt (pathD p) (pathD q) else decide (p.length < q.length)) = dlt (pathD p) (pathD q) := if_pos hl
        rw [e1, e2, if_neg (show ¬ p.length ≠ q.length from fun z => z hl), dlt_path_tot hpq]
        cases dlt (pathD q) (pathD p) <;> simp
      · have e1 : (if q.length = p.length then dlt (pathD q) (pathD p) else decide (q.length < p.length)) = decide (q.length < p.length) := if_neg fun z => hl z.symm
        have e2 : (if p.length = q.length then dlt (pathD p) (pathD q) else decide (p.length < q.length)) = decide (p.length < q.length) := if_neg hl
        rw [e1, e2, if_pos hl]
        by_cases h2 : q.length < p.length
        · rw [decide_eq_true h2, decide_eq_false (show ¬ p.length < q.length by omega), if_pos h2]
          rfl
        · rw [decide_eq_false h2, decide_eq_true (show p.length < q.length by omega), if_neg h2]
          rfl
def spRankOf : SpD := fun ds O Q _ => ∃ t : T, ds = [treeD t] ∧ Good t ∧ Q (rankD t) O
abbrev cmpT (t u : T) : Int := firstC (paths t) (paths u)
end
section
variable {P : Program} {w : World} {K : PySem.W.Frag} {mg : Str → Option Value} {base : Heap}
/-! _law_rank -/
open Tr
abbrev sLRank : Stmt := topS 38
theorem scLRank : FnScope ["_law_tree", "_law_path"] ["_law_tree"] (defScope sLRank) := ⟨rfl, rfl, rfl, by decide +kernel, rfl, by decide +kernel, by decide +kernel⟩
theorem ok_lrank {f : Addr} {fd : FuncData} {k : Nat} (F : Fun K "_law_rank" "_law_rank" sLRank f fd) (mlen : mg "len" = none) (GP : Fd P w K mg base "_law_paths" (13 + 2 + 1) ["_law_tree"] (spLPaths 13)) (hk : 16 ≤ k) :
    FnOk P w K mg base (L2.CX P w) (k + 1) f fd ["_law_tree"] (spD K spRankOf) := by
  refine fd_ok F scLRank (fun ds O Q E ⟨_, e, _⟩ => by rw [e]; rfl) (fun cdv A outer s H E0 hr ds O Q E ⟨t, e, ht, hQ⟩ => ?_)
  subst e
  have nd := scLRank.nd
  have hpl := paths_len t
  have h7 := ht.2
  have hht := height_le t
  have hlt := ht.len
  refine wss_one (ws_ret (w_lc (own := [("_law_path", 1)]) [1] rfl nd (blkOk_by rfl) rfl (wi_list ?_)))
  repeat walk_at "v"
  refine ⟨t, rfl, ht.1, by omega, by omega, ?_⟩
  refine ⟨_, rfl, lc_all (fun j _ y => ∀ p, (paths t)[j]? = some p → y = rankI p) (by rw [List.length_map, hpl]; omega) (fun _ _ => rfl) (fun j d O3 hd hs s H C cl fp => ?_) fun ys h1 h2 => .fix ?_⟩
  · rw [List.getElem?_map] at hd
    cases hc : (paths t)[j]? with
    | none => rw [hc] at hd; cases hd
    | some p =>
      rw [hc] at hd
      obtain rfl := Option.some.inj hd
      refine wgc_name 1 nd ⟨rfl, fun s H C cl fp => ?_⟩
      repeat walk_at "v"
      refine ⟨rfl, fun p' e => ?_⟩
      cases Option.some.inj e
      show D.tup [.int (((p.map tx).length : Nat)), _] = _
      rw [List.length_map]
  · have e : ys = (paths t).map rankI := by
      apply List.ext_getElem?
      intro i
      rw [List.getElem?_map]
      cases hc : (paths t)[i]? with
      | none =>
        have := List.getElem?_eq_none_iff.mp hc
        rw [List.getElem?_eq_none_iff.mpr (by rw [h1, List.length_map]; exact this)]
        rfl
      | some p =>
        obtain ⟨y, h3, h4⟩ := h2 i (pathD p) (by rw [List.getElem?_map, hc]; rfl)
        rw [h3, h4 p hc]
        rfl
    rw [e]
    exact hQ
end
section
variable {P : Program} {w : World} {K : PySem.W.Frag} {mg : Str → Option Value} {base : Heap}
/-! all trees over so many things, as a function -/
open Tr
abbrev Over (os : List Wd) (t : T) : Prop := ∀ a ∈ words t, a = [95] ∨ a ∈ os
abbrev OverL (os : List Wd) (ts : List T) : Prop := ∀ a ∈ wordsL ts, a = [95] ∨ a ∈ os
/-- all rows of so many trees over so many things -/
def rowsT (kn : Nat → List T) : Nat → Nat → List (List T)
  | 0, m => if m = 0 then [[]] else []
  | l + 1, m => (List.range (m - l)).flatMap fun i => (kn (i + 1)).flatMap fun t => (rowsT kn l (m - (i + 1))).map (t :: ·)
def treesT (os : List Wd) (kn : Nat → List T) (m : Nat) : List T := os.flatMap fun o => (rowsT kn (roomF o) m).map (T.node o)
def rankLe (t u : T) : Bool := PySem.W.dataLe true (fun t : T => toPy (rankD t)) t u
def sortT (ts : List T) : List T := ts.mergeSort rankLe
/-- the rows of trees over 1 to n + 1 things -/
def growF (os : List Wd) : Nat → Nat → List T
  | 0, k => if k = 1 then [.leaf] else []
  | n + 1, k => if k = n + 2 then sortT (treesT os (growF os n) (n + 2)) else growF os n k
structure KnOk (os : List Wd) (kn : Nat → List T) : Prop where
  ok : ∀ k, ∀ t ∈ kn k, Wf t ∧ leaves t = k ∧ Over os t
theorem sortT_mem {ts : List T} {t : T} : t ∈ sortT ts ↔ t ∈ ts := (List.mergeSort_perm ts rankLe).mem_iff
theorem rows_ok {os : List Wd} {kn : Nat → List T} (h : KnOk os kn) : ∀ (l m : Nat) (row : List T), row ∈ rowsT kn l m → row.length = l ∧ leavesL row = m ∧ WfL row ∧ OverL os row
  | 0, m, row, hr => by
    unfold rowsT at hr
    split at hr
    · rename_i h0
      obtain rfl := List.mem_singleton.mp hr
      subst h0
      exact ⟨rfl, rfl, trivial, fun a ha => by simp [wordsL] at ha⟩
    · cases hr
  | l + 1, m, row, hr => by
    unfold rowsT at hr
    obtain ⟨i, hi, hr⟩ := List.mem_flatMap.mp hr
    obtain ⟨t, ht, hr⟩ := List.mem_flatMap.mp hr
    obtain ⟨r, hr2, rfl⟩ := List.mem_map.mp hr
    obtain ⟨h1, h2, h3, h4⟩ := rows_ok h l _ r hr2
    obtain ⟨g1, g2, g3⟩ := h.ok _ t ht
    have hi := List.mem_range.mp hi
    refine ⟨by simp [h1], ?_, ⟨g1, h3⟩, fun a ha => ?_⟩
    · show leaves t + leavesL r = m
      omega
    · rcases List.mem_append.mp (show a ∈ words t ++ wordsL r from ha) with ha | ha
      · exact g3 a ha
      · exact h4 a ha
theorem trees_ok {os : List Wd} (hos : ∀ o ∈ os, ∃ n, Op o n) {kn : Nat → List T} (h : KnOk os kn) (m : Nat) : ∀ t ∈ treesT os kn m, Wf t ∧ leaves t = m ∧ Over os t := fun t ht => by
  obtain ⟨o, ho, ht2⟩ := List.mem_flatMap.mp ht
  obtain ⟨r, hr, rfl⟩ := List.mem_map.mp ht2
  obtain ⟨h1, h2, h3, h4⟩ := rows_ok h _ _ r hr
  obtain ⟨n, hn⟩ := hos o ho
  refine ⟨⟨by rw [h1, (op_opB hn).2]; exact hn, h3⟩, h2, fun a ha => ?_⟩
  rcases List.mem_cons.mp (show a ∈ o :: wordsL r from ha) with rfl | ha
  · exact .inr ho
  · exact h4 a ha
theorem grow_ok {os : List Wd} (hos : ∀ o ∈ os, ∃ n, Op o n) : ∀ n, KnOk os (growF os n)
  | 0 => ⟨fun k t ht => by
    unfold growF at ht
    split at ht
    · obtain rfl := List.mem_singleton.mp ht
      subst_vars
      exact ⟨trivial, rfl, fun a ha => .inl (by simpa [words] using ha)⟩
    · cases ht⟩
  | n + 1 => ⟨fun k t ht => by
    unfold growF at ht
    split at ht
    · subst_vars
      exact trees_ok hos (grow_ok hos n) _ t (sortT_mem.mp ht)
    · exact (grow_ok hos n).ok k t ht⟩
theorem grow_le {os : List Wd} : ∀ (n j k : Nat), k ≤ n + 1 → growF os (n + j) k = growF os n k
  | n, 0, k, h => rfl
  | n, j + 1, k, h => by
    rw [show n + (j + 1) = (n + j) + 1 from rfl, growF, if_neg (by omega)]
    exact grow_le n j k h
/-- .. over so many things -/
def knownT (os : List Wd) (k : Nat) : List T := growF os (k - 1) k
theorem grow_known {os : List Wd} {n k : Nat} (h1 : 1 ≤ k) (h : k ≤ n + 1) : growF os n k = knownT os k := by
  unfold knownT
  obtain ⟨j, rfl⟩ : ∃ j, n = (k - 1) + j := ⟨n - (k - 1), by omega⟩
  exact grow_le (k - 1) j k (by omega)
theorem flat_congr {α β : Type} {f g : α → List β} : ∀ {xs : List α}, (∀ x ∈ xs, f x = g x) → xs.flatMap f = xs.flatMap g
  | [], _ => rfl
  | x :: xs, h => by
    rw [List.flatMap_cons, List.flatMap_cons, h x List.mem_cons_self, flat_congr fun y hy => h y (List.mem_cons_of_mem _ hy)]
theorem rows_congr {kn kn' : Nat → List T} : ∀ (l m : Nat), (∀ k, 1 ≤ k → k + l ≤ m + 1 → kn k = kn' k) → rowsT kn l m = rowsT kn' l m
  | 0, m, h => rfl
  | l + 1, m, h => by
    unfold rowsT
    refine flat_congr fun i hi => ?_
    have hi := List.mem_range.mp hi
    rw [h (i + 1) (by omega) (by omega)]
    refine flat_congr fun t ht => ?_
    rw [rows_congr l (m - (i + 1)) fun k h1 h2 => h k h1 (by omega)]
theorem known_ok {os : List Wd} (hos : ∀ o ∈ os, ∃ n, Op o n) : KnOk os (knownT os) := ⟨fun k t ht => (grow_ok hos (k - 1)).ok k t ht⟩
theorem trees_congr {os : List Wd} (hos : ∀ o ∈ os, ∃ n, Op o n) {kn kn' : Nat → List T} {m : Nat} (h : ∀ k, 1 ≤ k → k < m → kn k = kn' k) : treesT os kn m = treesT os kn' m := by
  unfold treesT
  refine flat_congr fun o ho => ?_
  obtain ⟨n, hn⟩ := hos o ho
  have := (op_opB hn).2
  obtain ⟨_, _, h2, _⟩ := hn
  rw [rows_congr _ _ fun k h1 h3 => h k h1 (by omega)]
theorem known_succ {os : List Wd} (hos : ∀ o ∈ os, ∃ n, Op o n) (n : Nat) : knownT os (n + 2) = sortT (treesT os (knownT os) (n + 2)) := by
  show growF os (n + 1) (n + 2) = _
  rw [growF, if_pos rfl, trees_congr hos fun k h1 h2 => grow_known h1 (by omega)]
theorem known_one {os : List Wd} : knownT os 1 = [.leaf] := rfl
/-! how many there are, bounded -/
def cntR (A : Nat → Nat) : Nat → Nat → Nat
  | 0, m => if m = 0 then 1 else 0
  | l + 1, m => ((List.range (m - l)).map fun i => A (i + 1) * cntR A l (m - (i + 1))).sum
theorem sum_flat {α β : Type} (f : α → List β) : ∀ xs : List α, (xs.flatMap f).length = (xs.map fun x => (f x).length).sum
  | [] => rfl
  | x :: xs => by rw [List.flatMap_cons, List.length_append, sum_flat f xs]; rfl
theorem sum_le {α : Type} (f g : α → Nat) : ∀ xs : List α, (∀ x ∈ xs, f x ≤ g x) → (xs.map f).sum ≤ (xs.map g).sum
  | [], _ => Nat.le_refl _
  | x :: xs, h => by
    have h1 := h x List.mem_cons_self
    have h2 := sum_le f g xs fun y hy => h y (List.mem_cons_of_mem _ hy)
    simp only [List.map_cons, List.sum_cons]
    omega
theorem sum_const {α : Type} (c : Nat) : ∀ xs : List α, (xs.map fun _ => c).sum = xs.length * c
  | [] => by simp
  | x :: xs => by
    have := sum_const c xs
    simp only [List.map_cons, List.sum_cons, List.length_cons, this, Nat.succ_mul]
    omega
theorem rows_cnt {A : Nat → Nat} {kn : Nat → List T} : ∀ (l m : Nat), (∀ k, 1 ≤ k → k + l ≤ m + 1 → (kn k).length ≤ A k) → (rowsT kn l m).length ≤ cntR A l m
  | 0, m, _ => by
    unfold rowsT cntR
    split <;> simp
  | l + 1, m, h => by
    unfold rowsT cntR
    rw [sum_flat]
    refine sum_le _ _ _ fun i hi => ?_
    have hi := List.mem_range.mp hi
    rw [sum_flat]
    simp only [List.length_map]
    rw [sum_const]
    exact Nat.mul_le_mul (h (i + 1) (by omega) (by omega)) (rows_cnt l _ fun k h1 h2 => h k h1 (by omega))
theorem trees_cnt {os : List Wd} {kn : Nat → List T} {m B : Nat} (h : ∀ o ∈ os, (rowsT kn (roomF o) m).length ≤ B) : (treesT os kn m).length ≤ os.length * B := by
  unfold treesT
  rw [sum_flat]
  refine Nat.le_trans (sum_le _ (fun _ => B) _ fun o ho => by rw [List.length_map]; exact h o ho) (by rw [sum_const]; exact Nat.le_refl _)
/-- a bound: at most four operations, at most five things -/
def capA : Nat → Nat
  | 1 => 1 | 2 => 4 | 3 => 36 | 4 => 352 | 5 => 3968 | _ => 0
theorem cap_5 {os : List Wd} (hos : ∀ o ∈ os, ∃ n, Op o n) (h4 : os.length ≤ 4) : ∀ k, 1 ≤ k → k ≤ 5 → (knownT os k).length ≤ capA k := by
  have step : ∀ n, n + 2 ≤ 5 → (∀ k, 1 ≤ k → k < n + 2 → (knownT os k).length ≤ capA k) → (∀ l, 2 ≤ l → l ≤ 4 → 4 * cntR capA l (n + 2) ≤ capA (n + 2)) → (knownT os (n + 2)).length ≤ capA (n + 2) := by
    intro n hn ih hc
    rw [known_succ hos, sortT, List.length_mergeSort]
    have h0 : ∀ o ∈ os, (rowsT (knownT os) (roomF o) (n + 2)).length ≤ capA (n + 2) / 4 := fun o ho => by
      obtain ⟨j, hj⟩ := hos o ho
      have e := (op_opB hj).2
      obtain ⟨_, _, q1, q2, _⟩ := hj
      have a1 := rows_cnt (A := capA) (kn := knownT os) (roomF o) (n + 2) fun k h1 h2 => ih k h1 (by omega)
      have a2 := hc (roomF o) (by omega) (by omega)
      omega
    have a3 := trees_cnt h0
    have a4 : os.length * (capA (n + 2) / 4) ≤ 4 * (capA (n + 2) / 4) := Nat.mul_le_mul_right _ h4
    omega
  have i1 : (knownT os 1).length ≤ capA 1 := Nat.le_refl 1
  have all3 : ∀ m, (4 * cntR capA 2 m ≤ capA m ∧ 4 * cntR capA 3 m ≤ capA m ∧ 4 * cntR capA 4 m ≤ capA m) → ∀ l, 2 ≤ l → l ≤ 4 → 4 * cntR capA l m ≤ capA m := fun m ⟨a, b, c⟩ l h1 h2 => by
    rcases (by omega : l = 2 ∨ l = 3 ∨ l = 4) with rfl | rfl | rfl <;> assumption
  have i2 := step 0 (by omega) (fun k h1 h2 => by obtain rfl : k = 1 := by omega
                                                  exact i1) (all3 2 (by decide +kernel))
  have i3 := step 1 (by omega) (fun k h1 h2 => by rcases (by omega : k = 1 ∨ k = 2) with rfl | rfl <;> assumption) (all3 3 (by decide +kernel))
  have i4 := step 2 (by omega) (fun k h1 h2 => by rcases (by omega : k = 1 ∨ k = 2 ∨ k = 3) with rfl | rfl | rfl <;> assumption) (all3 4 (by decide +kernel))
  have i5 := step 3 (by omega) (fun k h1 h2 => by rcases (by omega : k = 1 ∨ k = 2 ∨ k = 3 ∨ k = 4) with rfl | rfl | rfl | rfl <;> assumption) (all3 5 (by decide +kernel))
  intro k h1 h5
  rcases (by omega : k = 1 ∨ k = 2 ∨ k = 3 ∨ k = 4 ∨ k = 5) with rfl | rfl | rfl | rfl | rfl <;> assumption
/-- .. all take four, at most seven things -/
def capB : Nat → Nat
  | 1 => 1 | 4 => 4 | 7 => 64 | _ => 0
theorem cap_7 {os : List Wd} (hos : ∀ o ∈ os, ∃ n, Op o n) (h4 : os.length ≤ 4) (ha : ∀ o ∈ os, roomF o = 4) : ∀ k, 1 ≤ k → k ≤ 7 → (knownT os k).length ≤ capB k := by
  have step : ∀ n, n + 2 ≤ 7 → (∀ k, 1 ≤ k → k < n + 2 → (knownT os k).length ≤ capB k) → 4 * cntR capB 4 (n + 2) ≤ capB (n + 2) → (knownT os (n + 2)).length ≤ capB (n + 2) := by
    intro n hn ih hc
    rw [known_succ hos, sortT, List.length_mergeSort]
    have h0 : ∀ o ∈ os, (rowsT (knownT os) (roomF o) (n + 2)).length ≤ capB (n + 2) / 4 := fun o ho => by
      have a1 := rows_cnt (A := capB) (kn := knownT os) (roomF o) (n + 2) fun k h1 h2 => ih k h1 (by have := ha o ho; omega)
      rw [ha o ho] at a1 ⊢
      omega
    have a3 := trees_cnt h0
    have a4 : os.length * (capB (n + 2) / 4) ≤ 4 * (capB (n + 2) / 4) := Nat.mul_le_mul_right _ h4
    omega
  have i1 : (knownT os 1).length ≤ capB 1 := Nat.le_refl 1
  have i2 := step 0 (by omega) (fun k h1 h2 => by obtain rfl : k = 1 := by omega
                                                  exact i1) (by decide +kernel)
  have i3 := step 1 (by omega) (fun k h1 h2 => by rcases (by omega : k = 1 ∨ k = 2) with rfl | rfl <;> assumption) (by decide +kernel)
  have i4 := step 2 (by omega) (fun k h1 h2 => by rcases (by omega : k = 1 ∨ k = 2 ∨ k = 3) with rfl | rfl | rfl <;> assumption) (by decide +kernel)
  have i5 := step 3 (by omega) (fun k h1 h2 => by rcases (by omega : k = 1 ∨ k = 2 ∨ k = 3 ∨ k = 4) with rfl | rfl | rfl | rfl <;> assumption) (by decide +kernel)
  have i6 := step 4 (by omega) (fun k h1 h2 => by rcases (by omega : k = 1 ∨ k = 2 ∨ k = 3 ∨ k = 4 ∨ k = 5) with rfl | rfl | rfl | rfl | rfl <;> assumption) (by decide +kernel)
  have i7 := step 5 (by omega) (fun k h1 h2 => by rcases (by omega : k = 1 ∨ k = 2 ∨ k = 3 ∨ k = 4 ∨ k = 5 ∨ k = 6) with rfl | rfl | rfl | rfl | rfl | rfl <;> assumption) (by decide +kernel)
  intro k h1 h5
  rcases (by omega : k = 1 ∨ k = 2 ∨ k = 3 ∨ k = 4 ∨ k = 5 ∨ k = 6 ∨ k = 7) with rfl | rfl | rfl | rfl | rfl | rfl | rfl <;> assumption
/-! sorted by rank, as data -/
theorem sorted_trees (ts : List T) : sortedBy true (ts.map treeD) (ts.map rankD) = (sortT ts).map treeD := by
  unfold sortedBy sortT
  have e : (ts.map treeD).zip (ts.map rankD) = ts.map fun t => (treeD t, rankD t) := by
    rw [List.zip_map']
  have h := List.map_mergeSort (r := rankLe) (s := PySem.W.dataLe true fun p : D × D => toPy p.2) (f := fun t : T => (treeD t, rankD t)) (l := ts) (fun a _ b _ => rfl)
  rw [e, ← h, List.map_map]
  rfl
end
section
variable {P : Program} {w : World} {K : PySem.W.Frag} {mg : Str → Option Value} {base : Heap}
/-! _law_joined, _law_lots, _law_grown -/
open Tr
abbrev trowD (row : List T) : D := .tup (row.map treeD)
abbrev sJoined : Stmt := topS 39
theorem scJoined : FnScope ["_law_row", "_law_words", "_law_tree"] ["_law_row"] (defScope sJoined) := ⟨rfl, rfl, rfl, by decide +kernel, rfl, by decide +kernel, by decide +kernel⟩
def spJoined : SpD := fun ds O Q _ => ∃ row : List T, ds = [trowD row] ∧ WfL row ∧ leavesL row ≤ 100 ∧ Q (wsD (wordsL row)) O
theorem map_at {α : Type} {f : α → D} {xs : List α} {i : Nat} {d : D} (h : (xs.map f)[i]? = some d) : ∃ a, xs[i]? = some a ∧ d = f a := by
  rw [List.getElem?_map] at h
  cases hc : xs[i]? with
  | none => rw [hc] at h; cases h
  | some a =>
    rw [hc] at h
    exact ⟨a, rfl, (Option.some.inj h).symm⟩
theorem take_at {α : Type} {xs : List α} {i : Nat} {a : α} (h : xs[i]? = some a) : xs.take (i + 1) = xs.take i ++ [a] := by
  rw [List.take_succ, h]
  rfl
/-- a row made of another one, item by item -/
theorem map_row {α : Type} {g f : α → D} {xs : List α} {ys : List D} (h1 : ys.length = (xs.map g).length) (h2 : ∀ (i : Nat) d, (xs.map g)[i]? = some d → ∃ y, ys[i]? = some y ∧ ∀ a, xs[i]? = some a → y = f a) : ys = xs.map f := by
  apply List.ext_getElem?
  intro i
  rw [List.getElem?_map]
  cases hc : xs[i]? with
  | none =>
    have := List.getElem?_eq_none_iff.mp hc
    rw [List.getElem?_eq_none_iff.mpr (by rw [h1, List.length_map]; exact this)]
    rfl
  | some a =>
    obtain ⟨y, h3, h4⟩ := h2 i (g a) (by rw [List.getElem?_map, hc]; rfl)
    rw [h3, h4 a hc]
    rfl
theorem ok_joined {f : Addr} {fd : FuncData} {k : Nat} (F : Fun K "_law_joined" "_law_joined" sJoined f fd) : FnOk P w K mg base (L2.CX P w) (k + 1) f fd ["_law_row"] (spD K spJoined) := by
  refine fd_ok F scJoined (fun ds O Q E ⟨_, e, _⟩ => by rw [e]; rfl) (fun cdv A outer s H E0 hr ds O Q E ⟨row, e, hw, hl, hQ⟩ => ?_)
  subst e
  have nd := scJoined.nd
  have hwl := wordsL_len hw
  walk_at "w"
  repeat walk_at "v"
  refine wss_cons (ws_for (passes_of rfl) rfl (wi_tup ?_))
  repeat walk_at "v"
  refine ⟨_, rfl, fun i Γ2 O2 => ∃ c : Option D, Γ2 = [some (trowD row), some (wsD (wordsL (row.take i))), c] ∧ O2 = O, ⟨none, rfl, rfl⟩, fun _ _ _ _ => trivial, ?_, ?_⟩
  · rintro i d Γ2 O2 hd ⟨c, rfl, rfl⟩
    obtain ⟨t, ht, rfl⟩ := map_at hd
    have e : wordsL (row.take (i + 1)) = wordsL (row.take i) ++ words t := by
      rw [take_at ht, wordsL_append]
      simp [wordsL]
    have hle : (wordsL (row.take (i + 1))).length ≤ (wordsL row).length := by
      have := wordsL_append (row.take (i + 1)) (row.drop (i + 1))
      rw [List.take_append_drop] at this
      rw [this, List.length_append]
      omega
    walk_at "v"
    repeat walk_at "v"
    refine sAdd_tup ?_ ?_
    · rw [e, List.length_append] at hle
      exact Nat.le_trans (m := 1000) (by rw [List.length_map, List.length_map]; omega) (by decide)
    · rw [← List.map_append, ← e]
      repeat walk_at "v"
      exact ⟨_, rfl, rfl⟩
  · rintro Γ2 O2 ⟨c, rfl, rfl⟩
    rw [List.length_map, List.take_length]
    repeat walk_at "v"
    exact hQ
abbrev sLots : Stmt := topS 40
theorem scLots : FnScope ["_law_known", "_law_lack", "_law_many", "_law_found", "_law_first", "_law_behind", "_law_tree", "_law_row"] ["_law_known", "_law_lack", "_law_many"] (defScope sLots) := ⟨rfl, rfl, rfl, by decide +kernel, rfl, by decide +kernel, by decide +kernel⟩
/-- what a dict tells of trees -/
def Knows (kvs : List (Key × D)) (kn : Nat → List T) (m : Nat) : Prop := ∀ k : Nat, 1 ≤ k → k ≤ m → valD kvs (.inl (k : Int)) = some (.lst ((kn k).map treeD))
def spLots (P : Program) (w : World) (n : Nat) : SpD := fun ds O Q _ => ∃ (p : Addr) (kvs : List (Key × D)) (kn : Nat → List T) (l m : Nat), ds = [.obj p, .int (l : Nat), .int (m : Nat)] ∧ O p = some (.dk P w kvs) ∧ (∀ k, 1 ≤ k → k + l ≤ m + 1 → valD kvs (.inl (k : Int)) = some (.lst ((kn k).map treeD))) ∧ l ≤ n ∧ n ≤ 4 ∧ m ≤ 100 ∧
  (∀ l' m', l' ≤ l → m' + (l - l') ≤ m → (rowsT kn l' m').length ≤ 90000) ∧ (∀ row ∈ rowsT kn l m, row.length = l) ∧ Q (.lst ((rowsT kn l m).map trowD)) O
theorem rows_len {kn : Nat → List T} : ∀ (l m : Nat) (row : List T), row ∈ rowsT kn l m → row.length = l
  | 0, m, row, hr => by
    unfold rowsT at hr
    split at hr
    · rw [List.mem_singleton.mp hr]; rfl
    · cases hr
  | l + 1, m, row, hr => by
    unfold rowsT at hr
    obtain ⟨i, hi, hr⟩ := List.mem_flatMap.mp hr
    obtain ⟨t, ht, hr⟩ := List.mem_flatMap.mp hr
    obtain ⟨r, hr2, rfl⟩ := List.mem_map.mp hr
    simp [rows_len l _ r hr2]
theorem flat_at {α β : Type} {f : α → List β} {xs : List α} {i : Nat} {a : α} (h : xs[i]? = some a) : (xs.take (i + 1)).flatMap f = (xs.take i).flatMap f ++ f a := by
  rw [take_at h, List.flatMap_append]
  simp
theorem flat_le {α β : Type} {f : α → List β} {xs : List α} (i : Nat) : ((xs.take i).flatMap f).length ≤ (xs.flatMap f).length := by
  conv => rhs; rw [← List.take_append_drop i xs]
  rw [List.flatMap_append, List.length_append]
  omega
theorem ok_lots {f : Addr} {fd : FuncData} {n : Nat} (F : Fun K "_law_lots" "_law_lots" sLots f fd) (GS : ∀ m, n = m + 1 → Fd P w K mg base "_law_lots" (m + 0 + 1) ["_law_known", "_law_lack", "_law_many"] (spLots P w m)) (mrng : mg "range" = none) :
    FnOk P w K mg base (L2.CX P w) (n + 0 + 1) f fd ["_law_known", "_law_lack", "_law_many"] (spD K (spLots P w n)) := by
  refine fd_ok F scLots (fun ds O Q E ⟨_, _, _, _, _, e, _⟩ => by rw [e]; rfl) (fun cdv A outer s H E0 hr ds O Q E ⟨p, kvs, kn, l, m, e, hp, hkn, hln, hn4, hm, hB, _, hQ⟩ => ?_)
  subst e
  have nd := scLots.nd
  cases l with
  | zero =>
    walk_at "w"
    repeat walk_at "v"
    refine br (fun h => ?_) (fun h => ?_)
    · have h : m = 0 := by simpa using h
      subst h
      repeat walk_at "v"
      exact .fix hQ
    · have h : m ≠ 0 := by simpa using h
      repeat walk_at "v"
      unfold rowsT at hQ
      rw [if_neg h] at hQ
      exact .fix hQ
  | succ l =>
    obtain ⟨n', rfl⟩ : ∃ n', n = n' + 1 := ⟨n - 1, by omega⟩
    have GS := GS n' rfl
    walk_at "w"
    repeat walk_at "v"
    refine .own fun q nq => ?_
    have hqp : p ≠ q := fun z => by subst z; rw [nq] at hp; cases hp
    repeat walk_at "v"
    refine wss_cons (ws_for (passes_of rfl) rfl (wi_rng2 mrng ?_))
    repeat walk_at "v"
    refine ⟨_, _, rfl, ⟨by omega, by omega, by omega, by omega⟩, fun i Γ2 O2 => ∃ c4 c5 c6 c7 : Option D, Γ2 = [some (.obj p), some (.int ((l + 1 : Nat))), some (.int (m : Nat)), some (.obj q), c4, c5, c6, c7] ∧
      O2 = updO O q (.lst (((List.range i).flatMap fun i => (kn (i + 1)).flatMap fun t => (rowsT kn l (m - (i + 1))).map (t :: ·)).map trowD)), ⟨none, none, none, none, rfl, rfl⟩, fun _ _ _ _ => trivial, ?_, ?_⟩
    · rintro i d Γ2 O2 hd ⟨c4, c5, c6, c7, rfl, rfl⟩
      obtain ⟨hi, rfl⟩ := rngD_get hd
      have hi : i < m - l := by omega
      have hfull := hB (l + 1) m (Nat.le_refl _) (by omega)
      unfold rowsT at hfull
      have hbeh := hB l (m - (i + 1)) (by omega) (by omega)
      have hsum : ((List.range (i + 1)).flatMap fun i => (kn (i + 1)).flatMap fun t => (rowsT kn l (m - (i + 1))).map (t :: ·)).length ≤ 90000 := by
        have := flat_le (f := fun i => (kn (i + 1)).flatMap fun t => (rowsT kn l (m - (i + 1))).map (t :: ·)) (xs := List.range (m - l)) (i + 1)
        rw [List.take_range, Nat.min_eq_left (by omega)] at this
        omega
      rw [List.range_succ, List.flatMap_append, List.length_append, show ([i] : List Nat).flatMap (fun i => (kn (i + 1)).flatMap fun t => (rowsT kn l (m - (i + 1))).map (t :: ·)) = (kn (i + 1)).flatMap fun t => (rowsT kn l (m - (i + 1))).map (t :: ·) by simp] at hsum
      walk_at "v"
      refine wss_cut (fun Γ3 O3 => Γ3 = [some (.obj p), some (.int ((l + 1 : Nat))), some (.int (m : Nat)), some (.obj q), some (.int ((i + 1 : Nat))), some (.lst ((rowsT kn l (m - (i + 1))).map trowD)), c6, c7] ∧
        O3 = updO O q (.lst (((List.range i).flatMap fun i => (kn (i + 1)).flatMap fun t => (rowsT kn l (m - (i + 1))).map (t :: ·)).map trowD))) ?_ ?_
      · refine ws_set 5 nd (w_call GS hr (by omega) ?_)
        repeat walk_at "v"
        refine ⟨p, kvs, kn, l, m - (i + 1), ?_, ?_, fun k h1 h2 => hkn k h1 (by omega), by omega, by omega, by omega, fun l' m' h1 h2 => hB l' m' (by omega) (by omega), fun row hr => rows_len _ _ _ hr, ?_, rfl⟩
        · show [D.obj p, D.int _, D.int _] = _
          rw [show ((l + 1 : Nat) : Int) - 1 = (l : Nat) by omega, show ((m : Nat) : Int) - (1 + (i : Nat)) = ((m - (i + 1) : Nat) : Int) by omega]
        · rw [updO_ne hqp]; exact hp
        · show [_, _, _, _, some (D.int _), _, _, _] = _
          rw [show (1 : Int) + (i : Nat) = ((i + 1 : Nat) : Int) by omega]
      rintro Γ3 O3 ⟨rfl, rfl⟩
      generalize hbase : ((List.range i).flatMap fun i => (kn (i + 1)).flatMap fun t => (rowsT kn l (m - (i + 1))).map (t :: ·)) = found at hsum ⊢
      refine wss_one (ws_for (passes_of rfl) rfl (wi_list (w_mget ?_)))
      repeat walk_at "v"
      refine ⟨kvs, .inl ((i + 1 : Nat) : Int), _, .inr ⟨p, rfl, by rw [updO_ne hqp]; exact hp⟩, rfl, hkn (i + 1) (by omega) (by omega), ?_⟩
      refine ⟨_, rfl, fun j Γ4 O4 => ∃ c6 c7 : Option D, Γ4 = [some (.obj p), some (.int ((l + 1 : Nat))), some (.int (m : Nat)), some (.obj q), some (.int ((i + 1 : Nat))), some (.lst ((rowsT kn l (m - (i + 1))).map trowD)), c6, c7] ∧
        O4 = updO O q (.lst ((found ++ ((kn (i + 1)).take j).flatMap fun t => (rowsT kn l (m - (i + 1))).map (t :: ·)).map trowD)), ⟨c6, c7, rfl, by simp⟩, fun _ _ _ _ => rfl, ?_, ?_⟩
      · rintro j d Γ4 O4 hd ⟨d6, d7, rfl, rfl⟩
        obtain ⟨t, ht, rfl⟩ := map_at hd
        have hs2 := flat_le (f := fun t => (rowsT kn l (m - (i + 1))).map (t :: ·)) (xs := kn (i + 1)) (j + 1)
        have e1 := flat_at (f := fun t => (rowsT kn l (m - (i + 1))).map (t :: ·)) ht
        rw [e1, List.length_append, List.length_map] at hs2
        walk_at "v"
        refine wss_one (ws_expr (w_extend ?_))
        repeat walk_at "v"
        refine ⟨q, rfl, ⟨_, updO_same⟩, ?_⟩
        refine w_lc (own := [("_law_row", 7)]) [7] rfl nd (blkOk_by rfl) rfl (wi_list ?_)
        repeat walk_at "v"
        refine ⟨_, rfl, lc_all (fun j _ y => ∀ r, (rowsT kn l (m - (i + 1)))[j]? = some r → y = trowD (t :: r)) (by rw [List.length_map]; omega) (fun _ _ => rfl) (fun j d O3 hd hs s H C cl fp => ?_) fun ys h1 h2 => .fix ?_⟩
        · obtain ⟨r, hr', rfl⟩ := map_at hd
          have hrl := rows_len _ _ _ (List.mem_of_getElem? hr')
          refine wgc_name 7 nd ⟨rfl, fun s H C cl fp => ?_⟩
          repeat walk_at "v"
          refine sAdd_tup (Nat.le_trans (m := 10) (by simp; omega) (by decide)) ⟨rfl, fun r' e => ?_⟩
          cases Option.some.inj (hr'.symm.trans e)
          rfl
        · obtain rfl := map_row h1 h2
          refine ⟨_, _, updO_same, rfl, ?_, ?_⟩
          · exact Nat.le_trans (m := 90000) (by rw [List.length_map, List.length_append, List.length_map]; omega) (by decide)
          · rw [updO_updO]
            refine ⟨_, _, rfl, ?_⟩
            simp only [e1, List.map_append, List.map_map, List.append_assoc]
            rfl
      · rintro Γ4 O4 ⟨d6, d7, rfl, rfl⟩
        rw [List.length_map, List.take_length]
        refine ⟨_, _, _, _, rfl, ?_⟩
        rw [List.range_succ, List.flatMap_append, hbase, show ([i] : List Nat).flatMap (fun i => (kn (i + 1)).flatMap fun t => (rowsT kn l (m - (i + 1))).map (t :: ·)) = (kn (i + 1)).flatMap fun t => (rowsT kn l (m - (i + 1))).map (t :: ·) by simp]
    · rintro Γ2 O2 ⟨c4, c5, c6, c7, rfl, rfl⟩
      rw [rngD_len]
      repeat walk_at "v"
      have e : (((m : Nat) : Int) - ((l + 1 : Nat) : Int) + 2 - 1).toNat = m - l := by omega
      rw [e]
      exact endL nq (.fix hQ)
abbrev sGrown : Stmt := topS 41
theorem scGrown : FnScope ["_law_ops_here", "_law_upto", "_law_known", "_law_many", "_law_found", "_law_op", "_law_row"] ["_law_ops_here", "_law_upto"] (defScope sGrown) := ⟨rfl, rfl, rfl, by decide +kernel, rfl, by decide +kernel, by decide +kernel⟩
/-- the dict of all trees over 1 to n things -/
def kvsG (os : List Wd) (n : Nat) : List (Key × D) := (List.range n).map fun i => (.inl ((i + 1 : Nat) : Int), .lst ((knownT os (i + 1)).map treeD))
def spGrown (P : Program) (w : World) : SpD := fun ds O Q _ => ∃ (os : List Wd) (n : Nat), ds = [.lst (os.map tx), .int (n : Nat)] ∧ os.length ≤ 4 ∧ (∀ o ∈ os, ∃ n, Op o n) ∧ 1 ≤ n ∧ n ≤ 7 ∧
  (∀ o ∈ os, ∀ l m, l ≤ roomF o → m + (roomF o - l) ≤ n → (rowsT (knownT os) l m).length ≤ 20000) ∧ Q (.dk P w (kvsG os n)) O
theorem kvsG_at {os : List Wd} : ∀ {n k : Nat}, 1 ≤ k → k ≤ n → valD (kvsG os n) (.inl (k : Int)) = some (.lst ((knownT os k).map treeD)) := by
  intro n k h1 h2
  have e : (kvsG os n).find? (fun p => decide (p.1 = (.inl (k : Int) : Key))) = some (.inl (k : Int), .lst ((knownT os k).map treeD)) := by
    rw [List.find?_eq_some_iff_getElem]
    refine ⟨by simp, k - 1, by simp [kvsG]; omega, ?_, fun j hj => ?_⟩
    · simp only [kvsG, List.getElem_map, List.getElem_range]
      rw [show k - 1 + 1 = k by omega]
    · simp only [kvsG, List.getElem_map, List.getElem_range]
      simp
      omega
  unfold valD
  rw [e]
  rfl
theorem kvsG_none {os : List Wd} {n : Nat} : valD (kvsG os n) (.inl ((n + 1 : Nat) : Int)) = none := by
  unfold valD
  rw [Option.map_eq_none_iff, List.find?_eq_none]
  intro p hp
  obtain ⟨i, hi, rfl⟩ := List.mem_map.mp hp
  have := List.mem_range.mp hi
  simp
  omega
theorem kvsG_put {os : List Wd} {n : Nat} : putD (kvsG os n) (.inl ((n + 1 : Nat) : Int)) (.lst ((knownT os (n + 1)).map treeD)) = kvsG os (n + 1) := by
  unfold putD
  rw [kvsG_none]
  simp [kvsG, List.range_succ]
theorem kvsG_len {os : List Wd} {n : Nat} : (kvsG os n).length = n := by simp [kvsG]
theorem ok_grown {f : Addr} {fd : FuncData} {k : Nat} (F : Fun K "_law_grown" "_law_grown" sGrown f fd) (mrng : mg "range" = none) (mint : mg "int" = none) (msorted : mg "sorted" = none)
    (GJ : Fd P w K mg base "_law_joined" 1 ["_law_row"] spJoined) (GL : Fd P w K mg base "_law_lots" (4 + 0 + 1) ["_law_known", "_law_lack", "_law_many"] (spLots P w 4)) (GR : Fd P w K mg base "_law_rank" 17 ["_law_tree"] spRankOf) (hk : 19 ≤ k) :
    FnOk P w K mg base (L2.CX P w) (k + 1) f fd ["_law_ops_here", "_law_upto"] (spD K (spGrown P w)) := by
  refine fd_ok F scGrown (fun ds O Q E ⟨_, _, e, _⟩ => by rw [e]; rfl) (fun cdv A outer s H E0 hr ds O Q E ⟨os, n, e, h4, hos, hn1, hn7, hB, hQ⟩ => ?_)
  subst e
  have nd := scGrown.nd
  walk_at "w"
  walk_at "v"
  refine w_mdisp fun p np => ?_
  repeat walk_at "v"
  refine .fix ⟨.inl 1, rfl, updO_same, ?_⟩
  rw [updO_updO]
  refine wss_cons (ws_for (passes_of rfl) rfl (wi_rng2 mrng ?_))
  repeat walk_at "v"
  refine ⟨_, _, rfl, ⟨by omega, by omega, by omega, by omega⟩, fun i Γ2 O2 => Sub O O2 ∧ O2 p = some (.dk P w (kvsG os (i + 1))) ∧ ∃ c3 c4 c5 c6 : Option D, Γ2 = [some (.lst (os.map tx)), some (.int (n : Nat)), some (.obj p), c3, c4, c5, c6], ⟨Sub.new np, updO_same, none, none, none, none, rfl⟩, fun _ _ _ _ => trivial, ?_, ?_⟩
  · rintro i d Γ2 O2 hd ⟨hs, hp, c3, c4, c5, c6, rfl⟩
    obtain ⟨hi, rfl⟩ := rngD_get hd
    have hi : i + 2 ≤ n := by omega
    walk_at "v"
    refine wss_cons ?_
    repeat walk_at "v"
    refine .own fun q nq => ?_
    have hqp : p ≠ q := fun z => by subst z; rw [nq] at hp; cases hp
    have nqO : O q = none := by
      cases h : O q with
      | none => rfl
      | some c => rw [hs q c h] at nq; cases nq
    repeat walk_at "v"
    have hcount : ∀ o ∈ os, (rowsT (knownT os) (roomF o) (i + 2)).length ≤ 20000 := fun o ho => hB o ho _ _ (Nat.le_refl _) (by omega)
    have htot := trees_cnt hcount
    have htot4 : os.length * 20000 ≤ 4 * 20000 := Nat.mul_le_mul_right _ h4
    refine wss_cut (fun Γ3 O3 => ∃ c5 c6 : Option D, Γ3 = [some (.lst (os.map tx)), some (.int (n : Nat)), some (.obj p), some (.int ((i + 2 : Nat))), some (.obj q), c5, c6] ∧ O3 = updO O2 q (.lst ((treesT os (knownT os) (i + 2)).map treeD))) ?_ ?_
    · refine ws_for (passes_of rfl) rfl (wi_list ?_)
      repeat walk_at "v"
      refine ⟨_, rfl, fun j Γ4 O4 => ∃ c5 c6 : Option D, Γ4 = [some (.lst (os.map tx)), some (.int (n : Nat)), some (.obj p), some (.int ((i + 2 : Nat))), some (.obj q), c5, c6] ∧ O4 = updO O2 q (.lst ((treesT (os.take j) (knownT os) (i + 2)).map treeD)), ⟨c5, c6, ?_, rfl⟩, fun _ _ _ _ => rfl, ?_, ?_⟩
      · show [_, _, _, some (D.int _), _, _, _] = _
        rw [show (2 : Int) + (i : Nat) = ((i + 2 : Nat) : Int) by omega]
      · rintro j d Γ4 O4 hd ⟨d5, d6, rfl, rfl⟩
        obtain ⟨o, ho, rfl⟩ := txs_at hd
        have hom := List.mem_of_getElem? ho
        obtain ⟨n', hop⟩ := hos o hom
        have er := (op_opB hop).2
        have e1 := flat_at (f := fun o => (rowsT (knownT os) (roomF o) (i + 2)).map (T.node o)) ho
        have hc := hcount o hom
        have h9 := flat_le (f := fun o => (rowsT (knownT os) (roomF o) (i + 2)).map (T.node o)) (xs := os) (j + 1)
        rw [e1, List.length_append, List.length_map] at h9
        have h9 : ((os.take j).flatMap fun o => (rowsT (knownT os) (roomF o) (i + 2)).map (T.node o)).length + _ ≤ (treesT os (knownT os) (i + 2)).length := h9
        walk_at "v"
        refine wss_one (ws_expr (w_extend ?_))
        repeat walk_at "v"
        refine ⟨q, rfl, ⟨_, updO_same⟩, ?_⟩
        refine w_lc (own := [("_law_row", 6)]) [6] rfl nd (blkOk_by rfl) rfl (wi_list (w_call GL hr (by omega) ?_))
        repeat walk_at "v"
        refine w_toInt mint ?_
        repeat walk_at "v"
        have hop7 := hop.len
        obtain ⟨l, e0, q1, q2, q3, _⟩ := hop
        rw [e0]
        rw [e0, List.length_append, List.length_singleton] at hop7
        refine sIx_last (by omega) ⟨n', digit_text (by omega), by rw [SX.S_len]; simp, ?_⟩
        rw [← e0]
        repeat walk_at "v"
        refine ⟨p, _, knownT os, n', i + 2, rfl, by rw [updO_ne hqp]; exact hp, fun k h1 h2 => kvsG_at h1 (by omega), by omega, by omega, by omega, fun l' m' h1 h2 => ?_, fun row hr => rows_len _ _ _ hr, ?_⟩
        · have := hB o hom l' m' (by omega) (by omega)
          omega
        rw [er] at hc
        refine ⟨_, rfl, lc_all (fun j _ y => ∀ r, (rowsT (knownT os) n' (i + 2))[j]? = some r → y = treeD (.node o r)) (by rw [List.length_map]; omega) (fun _ _ => rfl) (fun j d O3 hd hs s H C cl fp => ?_) fun ys h1 h2 => .fix ?_⟩
        · obtain ⟨r, hr', rfl⟩ := map_at hd
          obtain ⟨g1, g2, g3, g4⟩ := rows_ok (known_ok hos) _ _ r (List.mem_of_getElem? hr')
          have hwl := wordsL_len g3
          refine wgc_name 6 nd ⟨rfl, fun s H C cl fp => ?_⟩
          repeat walk_at "v"
          refine ⟨r, rfl, g3, by omega, ?_⟩
          refine sAdd_tup (Nat.le_trans (m := 100) (by simp; omega) (by decide)) ⟨rfl, fun r' e => ?_⟩
          cases Option.some.inj (hr'.symm.trans e)
          rfl
        · obtain rfl := map_row h1 h2
          refine ⟨_, _, updO_same, rfl, ?_, ?_⟩
          · refine Nat.le_trans (m := 90000) ?_ (by decide)
            rw [List.length_map, List.length_map]
            rw [er] at h9
            have : (treesT (os.take j) (knownT os) (i + 2)).length = ((os.take j).flatMap fun o => (rowsT (knownT os) (roomF o) (i + 2)).map (T.node o)).length := rfl
            omega
          · rw [updO_updO]
            refine ⟨_, _, rfl, ?_⟩
            rw [show treesT (os.take (j + 1)) (knownT os) (i + 2) = treesT (os.take j) (knownT os) (i + 2) ++ (rowsT (knownT os) (roomF o) (i + 2)).map (T.node o) from e1, er, List.map_append, List.map_map]
            rfl
      · rintro Γ4 O4 ⟨d5, d6, rfl, rfl⟩
        rw [List.length_map, List.take_length]
        exact ⟨_, _, rfl, rfl⟩
    rintro Γ3 O3 ⟨d5, d6, rfl, rfl⟩
    refine wss_one (ws_mput ?_)
    refine w_sortK GR hr (by omega) msorted ?_
    repeat walk_at "v"
    have hgood := trees_ok hos (known_ok hos) (i + 2)
    refine ⟨_, (treesT os (knownT os) (i + 2)).map rankD, asL_obj updO_same, by rw [List.length_map, List.length_map], fun j d z h1 h2 => ?_, fun d h d' h' => ?_, .inr fun d h => ?_, fun z hz => ?_, fun z hz => ?_, .fix ?_⟩
    · obtain ⟨t, ht, rfl⟩ := map_at h1
      rw [List.getElem?_map, ht] at h2
      obtain rfl := Option.some.inj h2
      obtain ⟨g1, g2, _⟩ := hgood t (List.mem_of_getElem? ht)
      exact ⟨t, rfl, ⟨g1, by omega⟩, rfl, rfl⟩
    · rw [List.map_map] at h h'
      obtain ⟨t, _, rfl⟩ := List.mem_map.mp h
      obtain ⟨u, _, rfl⟩ := List.mem_map.mp h'
      exact alike_rank t u
    · rw [List.map_map] at h
      obtain ⟨t, _, rfl⟩ := List.mem_map.mp h
      exact ⟨(fun z => nomatch z), (fun xs z => nomatch z)⟩
    · obtain ⟨t, _, rfl⟩ := List.mem_map.mp hz
      exact isPy_paths _
    · obtain ⟨t, _, rfl⟩ := List.mem_map.mp hz
      exact depth_rank t
    rw [sorted_trees]
    repeat walk_at "v"
    refine ⟨p, _, .inl ((i + 2 : Nat) : Int), rfl, by rw [updO_ne hqp]; exact hp, rfl, Nat.lt_of_lt_of_le (m := 100) (by rw [kvsG_len]; omega) (by decide), ?_⟩
    refine ⟨?_, ?_, _, _, _, _, rfl⟩
    · refine Sub.put (Sub.put hs nqO) ?_
      cases h : O p with
      | none => rfl
      | some c => rw [np] at h; cases h
    · rw [updO_same, ← known_succ hos i, kvsG_put]
      rfl
  · rintro Γ2 O2 ⟨hs, hp, c3, c4, c5, c6, rfl⟩
    rw [rngD_len] at hp
    have e : ((n : Int) + 1 - 2).toNat + 1 = n := by omega
    rw [e] at hp
    have hsub : Sub (updO O p (.dk P w (kvsG os n))) O2 := fun a c h => by
      by_cases ha : a = p
      · subst ha
        rw [updO_same] at h
        rw [hp]
        exact h
      · rw [updO_ne ha] at h
        exact hs a c h
    refine wss_one (ws_ret (WE.sub hsub (WE.fixedM ?_)))
    repeat walk_at "v"
    refine ⟨p, _, rfl, updO_same, ?_⟩
    rw [delO_updO np]
    exact hQ
end
section
variable {P : Program} {w : World} {K : PySem.W.Frag} {mg : Str → Option Value} {base : Heap}
/-! _law_reach -/
open Tr
abbrev sReach : Stmt := topS 33
theorem scReach : FnScope ["_law_ops_here", "_law_most", "_law_least", "_law_op"] ["_law_ops_here"] (defScope sReach) := ⟨rfl, rfl, rfl, by decide +kernel, rfl, by decide +kernel, by decide +kernel⟩
/-- the reach: at most five, or seven where all take four -/
def spReach : SpD := fun ds O Q _ => ∃ os : List Wd, ds = [.lst (os.map tx)] ∧ 1 ≤ os.length ∧ os.length ≤ 4 ∧ (∀ o ∈ os, ∃ n, Op o n) ∧ ∀ r : Nat, (3 ≤ r ∧ r ≤ 5 ∨ r = 7 ∧ ∀ o ∈ os, roomF o = 4) → Q (.int (r : Nat)) O
theorem ok_reach {f : Addr} {fd : FuncData} {k : Nat} (F : Fun K "_law_reach" "_law_reach" sReach f fd) (mint : mg "int" = none) (mlen : mg "len" = none) (mmax : mg "max" = none) (mmin : mg "min" = none) :
    FnOk P w K mg base (L2.CX P w) (k + 1) f fd ["_law_ops_here"] (spD K spReach) := by
  refine fd_ok F scReach (fun ds O Q E ⟨_, e, _⟩ => by rw [e]; rfl) (fun cdv A outer s H E0 hr ds O Q E ⟨os, e, h1, h4, hop, hQ⟩ => ?_)
  subst e
  have nd := scReach.nd
  have row : ∀ ys : List D, ys.length = (os.map tx).length → (∀ (i : Nat) d, (os.map tx)[i]? = some d → ∃ y, ys[i]? = some y ∧ ∀ o, os[i]? = some o → y = .int (roomF o : Nat)) → ys = (os.map fun o => ((roomF o : Nat) : Int)).map .int := fun ys g1 g2 => by
    apply List.ext_getElem?
    intro i
    rw [List.map_map, List.getElem?_map]
    cases hc : os[i]? with
    | none =>
      have := List.getElem?_eq_none_iff.mp hc
      rw [List.getElem?_eq_none_iff.mpr (by rw [g1, List.length_map]; exact this)]
      rfl
    | some o =>
      obtain ⟨y, g3, g4⟩ := g2 i (tx o) (by rw [List.getElem?_map, hc]; rfl)
      rw [g3, g4 o hc]
      rfl
  refine wss_cons (ws_par 1 2 rfl nd ?_)
  refine wa_cons (w_maxL rfl mmax ?_)
  refine w_lc (own := [("_law_op", 3)]) [3] rfl nd (blkOk_by rfl) rfl (wi_list ?_)
  repeat walk_at "v"
  refine ⟨_, rfl, lc_all (fun j _ y => ∀ o, os[j]? = some o → y = .int (roomF o : Nat)) (by rw [List.length_map]; omega) (fun _ _ => rfl) (fun j d O3 hd hs s H C cl fp => ?_) fun ys g1 g2 => .fix ?_⟩
  · obtain ⟨o, ho, rfl⟩ := txs_at hd
    refine wgc_name 3 nd ⟨rfl, fun s H C cl fp => ?_⟩
    refine w_toInt mint ?_
    repeat walk_at "v"
    obtain ⟨n, hn⟩ := hop o (List.mem_of_getElem? ho)
    have er := (op_opB hn).2
    obtain ⟨l, rfl, q1, q2, q3, _⟩ := hn
    refine sIx_last (by omega) ⟨n, digit_text (by omega), by rw [SX.S_len]; simp, ?_⟩
    refine ⟨rfl, fun o' e => ?_⟩
    cases Option.some.inj (ho.symm.trans e)
    rw [er]
  obtain rfl := row ys g1 g2
  refine ⟨_, rfl, by simp; omega, fun mx hmx hmxl => ?_⟩
  refine wa_cons (w_minL rfl mmin ?_)
  refine w_lc (own := [("_law_op", 3)]) [3] rfl nd (blkOk_by rfl) rfl (wi_list ?_)
  repeat walk_at "v"
  refine ⟨_, rfl, lc_all (fun j _ y => ∀ o, os[j]? = some o → y = .int (roomF o : Nat)) (by rw [List.length_map]; omega) (fun _ _ => rfl) (fun j d O3 hd hs s H C cl fp => ?_) fun ys g3 g4 => .fix ?_⟩
  · obtain ⟨o, ho, rfl⟩ := txs_at hd
    refine wgc_name 3 nd ⟨rfl, fun s H C cl fp => ?_⟩
    refine w_toInt mint ?_
    repeat walk_at "v"
    obtain ⟨n, hn⟩ := hop o (List.mem_of_getElem? ho)
    have er := (op_opB hn).2
    obtain ⟨l, rfl, q1, q2, q3, _⟩ := hn
    refine sIx_last (by omega) ⟨n, digit_text (by omega), by rw [SX.S_len]; simp, ?_⟩
    refine ⟨rfl, fun o' e => ?_⟩
    cases Option.some.inj (ho.symm.trans e)
    rw [er]
  obtain rfl := row ys g3 g4
  refine ⟨_, rfl, by simp; omega, fun mn hmn hmnl => ?_⟩
  repeat walk_at "v"
  refine ⟨_, _, rfl, ?_⟩
  walk_at "w"
  repeat walk_at "v"
  refine br (fun h => ?_) (fun h => ?_)
  · repeat walk_at "v"
    refine hQ 7 (.inr ⟨rfl, fun o ho => ?_⟩)
    obtain ⟨n, hn⟩ := hop o ho
    have er := (op_opB hn).2
    have n4 : n ≤ 4 := by obtain ⟨_, _, _, q, _⟩ := hn; exact q
    have hle : mn ≤ ((roomF o : Nat) : Int) := hmnl _ (List.mem_map.mpr ⟨o, ho, rfl⟩)
    have h : mn = 4 := of_decide_eq_true h
    omega
  repeat walk_at "v"
  walk_at "w"
  repeat walk_at "v"
  refine br (fun h2 => ?_) (fun h2 => ?_)
  · repeat walk_at "v"
    exact hQ 5 (.inl ⟨by omega, by omega⟩)
  repeat walk_at "v"
  refine br (fun h3 => ?_) (fun h3 => ?_)
  · repeat walk_at "v"
    exact hQ 5 (.inl ⟨by omega, by omega⟩)
  repeat walk_at "v"
  refine br (fun h5 => ?_) (fun h5 => ?_)
  · repeat walk_at "v"
    refine br (fun h6 => ?_) (fun h6 => ?_)
    · repeat walk_at "v"
      exact hQ 3 (.inl ⟨by omega, by omega⟩)
    · repeat walk_at "v"
      exact hQ 4 (.inl ⟨by omega, by omega⟩)
  · repeat walk_at "v"
    exact hQ 4 (.inl ⟨by omega, by omega⟩)
end
section
variable {P : Program} {w : World} {K : PySem.W.Frag} {mg : Str → Option Value} {base : Heap}
/-! how many trees there are: by the recurrence -/
open Tr
theorem cnt_small {A : Nat → Nat} : ∀ {l m : Nat}, m < l → cntR A l m = 0
  | 0, m, h => absurd h (Nat.not_lt_zero _)
  | l + 1, m, h => by
    unfold cntR
    rw [show m - l = 0 by omega]
    rfl
theorem sum_rev (f : Nat → Nat) (n : Nat) : ((List.range n).map f).sum = ((List.range n).map fun i => f (n - 1 - i)).sum := by
  have e : (List.range n).reverse = (List.range n).map fun i => n - 1 - i := by
    rw [List.range_eq_range', List.reverse_range', ← List.range_eq_range']
    simp
  have h := List.sum_reverse ((List.range n).map f)
  rw [← h, ← List.map_reverse, e, List.map_map]
  rfl
theorem sum_ext {f : Nat → Nat} {m n : Nat} (h : m ≤ n) (hz : ∀ i, m ≤ i → i < n → f i = 0) : ((List.range n).map f).sum = ((List.range m).map f).sum := by
  obtain ⟨d, rfl⟩ : ∃ d, n = m + d := ⟨n - m, by omega⟩
  induction d with
  | zero => rfl
  | succ d ih =>
    rw [show m + (d + 1) = (m + d) + 1 from rfl, List.range_succ, List.map_append, List.sum_append, ih (by omega) fun i h1 h2 => hz i h1 (by omega)]
    have := hz (m + d) (by omega) (by omega)
    simp [this]
theorem cnt_step {A : Nat → Nat} (l n : Nat) : ((List.range n).map fun k => cntR A l k * A (n - k)).sum = cntR A (l + 1) n := by
  rw [sum_rev]
  have e : ((List.range n).map fun i => cntR A l (n - 1 - i) * A (n - (n - 1 - i))) = (List.range n).map fun i => A (i + 1) * cntR A l (n - (i + 1)) := by
    refine List.map_congr_left fun i hi => ?_
    have hi := List.mem_range.mp hi
    rw [show n - (n - 1 - i) = i + 1 by omega, show n - 1 - i = n - (i + 1) by omega, Nat.mul_comm]
  rw [e]
  show _ = ((List.range (n - l)).map fun i => A (i + 1) * cntR A l (n - (i + 1))).sum
  refine sum_ext (by omega) fun i h1 h2 => ?_
  rw [cnt_small (by omega), Nat.mul_zero]
theorem cast_sum {α : Type} (f : α → Nat) : ∀ xs : List α, (xs.map fun x => ((f x : Nat) : Int)).sum = (((xs.map f).sum : Nat) : Int)
  | [] => rfl
  | x :: xs => by
    simp only [List.map_cons, List.sum_cons, cast_sum f xs]
    omega
theorem cnt_congr {A B : Nat → Nat} : ∀ (l m : Nat), (∀ k, 1 ≤ k → k + l ≤ m + 1 → A k = B k) → cntR A l m = cntR B l m
  | 0, m, _ => rfl
  | l + 1, m, h => by
    unfold cntR
    congr 1
    refine List.map_congr_left fun i hi => ?_
    have hi := List.mem_range.mp hi
    rw [h (i + 1) (by omega) (by omega), cnt_congr l (m - (i + 1)) fun k h1 h2 => h k h1 (by omega)]
theorem cnt_mono {A B : Nat → Nat} : ∀ (l m : Nat), (∀ k, 1 ≤ k → k + l ≤ m + 1 → A k ≤ B k) → cntR A l m ≤ cntR B l m
  | 0, m, _ => Nat.le_refl _
  | l + 1, m, h => by
    unfold cntR
    refine sum_le _ _ _ fun i hi => ?_
    have hi := List.mem_range.mp hi
    exact Nat.mul_le_mul (h (i + 1) (by omega) (by omega)) (cnt_mono l (m - (i + 1)) fun k h1 h2 => h k h1 (by omega))
theorem rows_num {kn : Nat → List T} : ∀ (l m : Nat), (rowsT kn l m).length = cntR (fun k => (kn k).length) l m
  | 0, m => by
    unfold rowsT cntR
    split <;> simp
  | l + 1, m => by
    unfold rowsT cntR
    rw [sum_flat]
    congr 1
    refine List.map_congr_left fun i hi => ?_
    rw [sum_flat]
    simp only [List.length_map]
    rw [sum_const, rows_num l]
/-- how many trees there are over so many things -/
abbrev numT (os : List Wd) (n : Nat) : Nat := (knownT os n).length
theorem num_succ {os : List Wd} (hos : ∀ o ∈ os, ∃ n, Op o n) (n : Nat) : numT os (n + 2) = (os.map fun o => cntR (numT os) (roomF o) (n + 2)).sum := by
  unfold numT
  rw [known_succ hos, sortT, List.length_mergeSort, treesT, sum_flat]
  congr 1
  refine List.map_congr_left fun o _ => ?_
  rw [List.length_map, rows_num]
theorem num_one {os : List Wd} : numT os 1 = 1 := rfl
theorem num_zero {os : List Wd} : numT os 0 = 0 := rfl
/-! bounds -/
def capL : List Nat := [0, 1, 4, 32, 320, 3584, 43008, 540672, 7028736, 93716480, 1274544128, 17611882496, 246566354944, 3489862254592, 49855175065600, 717914520944640, 10409760553697280, 151860036312760320, 2227280532587151360, 32823081532863283200, 485781606686376591360]
def capN (n : Nat) : Nat := capL.getD n 0
theorem cap_n {os : List Wd} (hos : ∀ o ∈ os, ∃ n, Op o n) (h4 : os.length ≤ 4) {cap : Nat → Nat} {u : Nat} (c1 : 1 ≤ cap 1) (hP : ∀ l ∈ os.map roomF, ∀ m, m < u → 4 * cntR cap l (m + 1) ≤ cap (m + 1) ∨ m = 0) : ∀ n, 1 ≤ n → n ≤ u → numT os n ≤ cap n := by
  intro n
  induction n using Nat.strongRecOn with
  | _ n ih =>
    intro h1 hu
    match n, h1 with
    | 1, _ => exact c1
    | n + 2, _ =>
      rw [num_succ hos]
      have h0 : ∀ o ∈ os, cntR (numT os) (roomF o) (n + 2) ≤ cap (n + 2) / 4 := fun o ho => by
        obtain ⟨j, hj⟩ := hos o ho
        have e := (op_opB hj).2
        obtain ⟨_, _, q1, q2, _⟩ := hj
        have a1 := cnt_mono (A := numT os) (B := cap) (roomF o) (n + 2) fun k h1 h2 => ih k (by omega) h1 (by omega)
        have a2 := hP (roomF o) (List.mem_map_of_mem ho) (n + 1) (by omega)
        have a2 : 4 * cntR cap (roomF o) (n + 2) ≤ cap (n + 2) := by
          rcases a2 with a2 | a2
          · exact a2
          · omega
        omega
      have a3 := sum_le _ (fun _ => cap (n + 2) / 4) os h0
      rw [sum_const] at a3
      have a4 : os.length * (cap (n + 2) / 4) ≤ 4 * (cap (n + 2) / 4) := Nat.mul_le_mul_right _ h4
      omega
theorem rooms {os : List Wd} (hos : ∀ o ∈ os, ∃ n, Op o n) {l : Nat} (h : l ∈ os.map roomF) : 2 ≤ l ∧ l ≤ 4 := by
  obtain ⟨o, ho, rfl⟩ := List.mem_map.mp h
  obtain ⟨n, hn⟩ := hos o ho
  have := (op_opB hn).2
  obtain ⟨_, _, q1, q2, _⟩ := hn
  omega
theorem num_cap {os : List Wd} (hos : ∀ o ∈ os, ∃ n, Op o n) (h4 : os.length ≤ 4) : ∀ n, 1 ≤ n → n ≤ 20 → numT os n ≤ capN n := by
  refine cap_n hos h4 (by decide) fun l hl m hm => ?_
  obtain ⟨h1, h2⟩ := rooms hos hl
  have b : ∀ l, l < 5 → 2 ≤ l → ∀ m, m < 20 → 4 * cntR capN l (m + 1) ≤ capN (m + 1) ∨ m = 0 := by decide +kernel
  exact b l (by omega) h1 m hm
/-- none takes two -/
def capC (n : Nat) : Nat := ([0, 1, 0, 4, 4, 48, 64, 768] : List Nat).getD n 0
theorem num_capC {os : List Wd} (hos : ∀ o ∈ os, ∃ n, Op o n) (h4 : os.length ≤ 4) (h2 : ∀ o ∈ os, roomF o ≠ 2) : ∀ n, 1 ≤ n → n ≤ 7 → numT os n ≤ capC n := by
  refine cap_n hos h4 (by decide) fun l hl m hm => ?_
  obtain ⟨h1, h3⟩ := rooms hos hl
  have h2 : l ≠ 2 := by
    obtain ⟨o, ho, rfl⟩ := List.mem_map.mp hl
    exact h2 o ho
  have b : ∀ l, l < 5 → 3 ≤ l → ∀ m, m < 7 → 4 * cntR capC l (m + 1) ≤ capC (m + 1) ∨ m = 0 := by decide +kernel
  exact b l (by omega) (by omega) m hm
theorem mem_sum {xs : List Nat} {x : Nat} (h : x ∈ xs) : x ≤ xs.sum := by
  induction xs with
  | nil => cases h
  | cons y ys ih =>
    rw [List.sum_cons]
    rcases List.mem_cons.mp h with rfl | h
    · omega
    · have := ih h
      omega
theorem cnt_one {A : Nat → Nat} (h1 : A 1 = 1) (l m : Nat) : cntR A l m ≤ cntR A (l + 1) (m + 1) := by
  show _ ≤ ((List.range (m + 1 - l)).map fun i => A (i + 1) * cntR A l (m + 1 - (i + 1))).sum
  by_cases hl : l ≤ m
  · refine Nat.le_trans ?_ (mem_sum (List.mem_map_of_mem (List.mem_range.mpr (show 0 < m + 1 - l by omega))))
    rw [h1]
    simp
  · rw [cnt_small (by omega)]
    omega
theorem cnt_more {A : Nat → Nat} (h1 : A 1 = 1) (l m : Nat) : ∀ d, cntR A l m ≤ cntR A (l + d) (m + d)
  | 0 => Nat.le_refl _
  | d + 1 => Nat.le_trans (cnt_more h1 l m d) (cnt_one h1 _ _)
theorem num_op {os : List Wd} (hos : ∀ o ∈ os, ∃ n, Op o n) {o : Wd} (ho : o ∈ os) (n : Nat) : cntR (numT os) (roomF o) (n + 2) ≤ numT os (n + 2) := by
  rw [num_succ hos]
  exact mem_sum (List.mem_map_of_mem (f := fun o => cntR (numT os) (roomF o) (n + 2)) ho)
/-- rows are no more than trees -/
theorem rows_num_le {os : List Wd} (hos : ∀ o ∈ os, ∃ n, Op o n) {o : Wd} (ho : o ∈ os) {l m u B : Nat} (hl : l ≤ roomF o) (hm : m + (roomF o - l) ≤ u) (hB : ∀ k, 1 ≤ k → k ≤ u → numT os k ≤ B) (hB1 : 1 ≤ B) : (rowsT (knownT os) l m).length ≤ B := by
  rw [rows_num]
  have hr := rooms hos (List.mem_map_of_mem (f := roomF) ho)
  have h1 := cnt_more (A := numT os) rfl l m (roomF o - l)
  rw [show l + (roomF o - l) = roomF o by omega] at h1
  refine Nat.le_trans h1 ?_
  by_cases h2 : 2 ≤ m + (roomF o - l)
  · obtain ⟨n, hn⟩ : ∃ n, m + (roomF o - l) = n + 2 := ⟨m + (roomF o - l) - 2, by omega⟩
    rw [hn]
    exact Nat.le_trans (num_op hos ho n) (hB (n + 2) (by omega) (by omega))
  · rw [cnt_small (by omega)]
    omega
/-- one takes two: more and more -/
theorem num_grow {os : List Wd} (hos : ∀ o ∈ os, ∃ n, Op o n) {o : Wd} (ho : o ∈ os) (h2 : roomF o = 2) {n : Nat} (h1 : 1 ≤ n) : numT os n ≤ numT os (n + 1) := by
  obtain ⟨n, rfl⟩ : ∃ m, n = m + 1 := ⟨n - 1, by omega⟩
  refine Nat.le_trans ?_ (num_op hos ho n)
  rw [h2]
  have e : cntR (numT os) 1 (n + 1) = numT os (n + 1) := by
    have := rows_num (kn := knownT os) 1 (n + 1)
    rw [← this]
    unfold rowsT
    rw [sum_flat]
    have e2 : (List.map (fun x => ((knownT os (x + 1)).flatMap fun t => (rowsT (knownT os) 0 (n + 1 - (x + 1))).map (t :: ·)).length) (List.range (n + 1 - 0))) = (List.range (n + 1)).map fun x => if x = n then numT os (n + 1) else 0 := by
      refine List.map_congr_left fun x hx => ?_
      have hx := List.mem_range.mp hx
      rw [sum_flat]
      simp only [List.length_map]
      rw [sum_const]
      unfold rowsT
      by_cases hxn : x = n
      · subst hxn
        simp
      · rw [if_neg (by omega), if_neg hxn]
        simp
    rw [e2, List.range_succ, List.map_append, List.sum_append]
    have e3 : ((List.range n).map fun x => if x = n then numT os (n + 1) else 0) = (List.range n).map fun _ => 0 := by
      refine List.map_congr_left fun x hx => ?_
      have hx := List.mem_range.mp hx
      rw [if_neg (by omega)]
    rw [e3, sum_const]
    simp
  rw [← e]
  exact cnt_one rfl 1 (n + 1)
theorem num_grows {os : List Wd} (hos : ∀ o ∈ os, ∃ n, Op o n) {o : Wd} (ho : o ∈ os) (h2 : roomF o = 2) {n : Nat} (h1 : 1 ≤ n) : ∀ d, numT os n ≤ numT os (n + d)
  | 0 => Nat.le_refl _
  | d + 1 => Nat.le_trans (num_grows hos ho h2 h1 d) (num_grow hos ho h2 (by omega))
/-- few over so many things: few over less -/
theorem num_few {os : List Wd} (hos : ∀ o ∈ os, ∃ n, Op o n) (h4 : os.length ≤ 4) {u : Nat} (hu : u ≤ 7) (h : numT os u ≤ 350) {k : Nat} (h1 : 1 ≤ k) (hk : k ≤ u) : numT os k ≤ 1000 := by
  by_cases h2 : ∃ o ∈ os, roomF o = 2
  · obtain ⟨o, ho, h2⟩ := h2
    have := num_grows hos ho h2 h1 (u - k)
    rw [show k + (u - k) = u by omega] at this
    omega
  · have := num_capC hos h4 (fun o ho z => h2 ⟨o, ho, z⟩) k h1 (by omega)
    have b : ∀ k, k < 8 → capC k ≤ 1000 := by decide +kernel
    have := b k (by omega)
    omega
theorem few_rows {os : List Wd} (hos : ∀ o ∈ os, ∃ n, Op o n) (h4 : os.length ≤ 4) {u : Nat} (hu : u ≤ 7) (h : numT os u ≤ 350) : ∀ o ∈ os, ∀ l m, l ≤ roomF o → m + (roomF o - l) ≤ u → (rowsT (knownT os) l m).length ≤ 20000 := fun o ho l m hl hm =>
  Nat.le_trans (rows_num_le hos ho hl hm (fun k h1 h2 => num_few hos h4 hu h h1 h2) (by decide)) (by decide)
end
section
variable {P : Program} {w : World} {K : PySem.W.Frag} {mg : Str → Option Value} {base : Heap}
/-! the order of trees is kept by putting in and putting round -/
open Tr
mutual
/-- a leaf exchanged for a tree, with the paths -/
theorem graftP : ∀ {t : T}, Wf t → ∀ {i : Nat} (u : T), Wf u → i < leaves t → ∃ (p q : List Wd) (t' : T) (A : List (List Wd)) (r : List Wd) (B : List (List Wd)), words t = p ++ [95] :: q ∧ p.countP (fun a => decide (a = [95])) = i ∧ words t' = p ++ (words u ++ q) ∧ Wf t' ∧ leaves t' + 1 = leaves t + leaves u ∧
    paths t = A ++ r :: B ∧ A.length = i ∧ paths t' = A ++ ((paths u).map (r ++ ·) ++ B)
  | .leaf, _, i, u, hu, hi => by
    have hi : i < 1 := hi
    refine ⟨[], [], u, [], [], [], rfl, ?_, by simp, hu, ?_, rfl, ?_, by simp⟩
    · simp
      omega
    · show leaves u + 1 = 1 + leaves u
      omega
    · simp
      omega
  | .node op ks, h, i, u, hu, hi => by
    obtain ⟨p, q, ks', A, r, B, e1, e2, e3, e4, e5, e6, e7, e8, e9⟩ := graftPL h.2 u hu (show i < leavesL ks from hi)
    refine ⟨op :: p, q, .node op ks', A.map (op :: ·), op :: r, B.map (op :: ·), ?_, ?_, ?_, ⟨by rw [e6]; exact h.1, e4⟩, e5, ?_, by simpa using e8, ?_⟩
    · show op :: wordsL ks = _
      rw [e1]
      rfl
    · rw [List.countP_cons, e2, if_neg (by simpa using h.1.ne)]
      rfl
    · show op :: wordsL ks' = _
      rw [e3]
      rfl
    · show (pathsL ks).map _ = _
      rw [e7]
      simp
    · show (pathsL ks').map _ = _
      rw [e9]
      simp
theorem graftPL : ∀ {ts : List T}, WfL ts → ∀ {i : Nat} (u : T), Wf u → i < leavesL ts → ∃ (p q : List Wd) (ts' : List T) (A : List (List Wd)) (r : List Wd) (B : List (List Wd)), wordsL ts = p ++ [95] :: q ∧ p.countP (fun a => decide (a = [95])) = i ∧ wordsL ts' = p ++ (words u ++ q) ∧ WfL ts' ∧ leavesL ts' + 1 = leavesL ts + leaves u ∧ ts'.length = ts.length ∧
    pathsL ts = A ++ r :: B ∧ A.length = i ∧ pathsL ts' = A ++ ((paths u).map (r ++ ·) ++ B)
  | [], _, i, u, hu, hi => absurd hi (Nat.not_lt_zero _)
  | t :: ts, h, i, u, hu, hi => by
    have hi : i < leaves t + leavesL ts := hi
    by_cases hl : i < leaves t
    · obtain ⟨p, q, t', A, r, B, e1, e2, e3, e4, e5, e6, e7, e8⟩ := graftP h.1 u hu hl
      refine ⟨p, q ++ wordsL ts, t' :: ts, A, r, B ++ pathsL ts, ?_, e2, ?_, ⟨e4, h.2⟩, ?_, rfl, ?_, e7, ?_⟩
      · show words t ++ wordsL ts = _
        rw [e1]
        simp
      · show words t' ++ wordsL ts = _
        rw [e3]
        simp
      · show leaves t' + leavesL ts + 1 = leaves t + leavesL ts + leaves u
        omega
      · show paths t ++ pathsL ts = _
        rw [e6]
        simp
      · show paths t' ++ pathsL ts = _
        rw [e8]
        simp
    · obtain ⟨p, q, ts', A, r, B, e1, e2, e3, e4, e5, e6, e7, e8, e9⟩ := graftPL h.2 (i := i - leaves t) u hu (by omega)
      refine ⟨words t ++ p, q, t :: ts', paths t ++ A, r, B, ?_, ?_, ?_, ⟨h.1, e4⟩, ?_, by simp [e6], ?_, ?_, ?_⟩
      · show words t ++ wordsL ts = _
        rw [e1]
        simp
      · rw [List.countP_append, e2, words_count h.1]
        omega
      · show words t ++ wordsL ts' = _
        rw [e3]
        simp
      · show leaves t + leavesL ts' + 1 = leaves t + leavesL ts + leaves u
        omega
      · show paths t ++ pathsL ts = _
        rw [e7]
        simp
      · rw [List.length_append, paths_len]
        omega
      · show paths t ++ pathsL ts' = _
        rw [e9]
        simp
end
/-! two paths -/
def cmpP (p q : List Wd) : Int := if p.length ≠ q.length then (if q.length < p.length then 1 else -1) else (if dlt (pathD q) (pathD p) then 1 else -1)
theorem firstC_cons {p q : List Wd} {ps qs : List (List Wd)} : firstC (p :: ps) (q :: qs) = if p = q then firstC ps qs else cmpP p q := by
  rw [firstC]
  rfl
theorem alike_tx (a b : Wd) : PySem.W.alike (toPy (tx a)) (toPy (tx b)) = true := by simp [toPy, PySem.W.alike]
theorem eqv_tx (a b : Wd) : eqvD (tx a) (tx b) = decide (a = b) := by
  simp [eqvD, toPy, PyData.eqv, SX.S_beq_eq]
theorem dlt_path_cons (a b : Wd) (p q : List Wd) : dlt (pathD (a :: p)) (pathD (b :: q)) = if a = b then dlt (pathD p) (pathD q) else dlt (tx a) (tx b) := by
  show dlt (.tup (tx a :: p.map tx)) (.tup (tx b :: q.map tx)) = _
  by_cases h : a = b
  · rw [if_pos h]
    exact dlt_yes (alike_tx a b) (by rw [eqv_tx]; exact decide_eq_true h)
  · rw [if_neg h]
    exact dlt_no (alike_tx a b) (by rw [eqv_tx]; exact decide_eq_false h)
theorem dlt_path_r : ∀ (p q r : List Wd), p.length = q.length → p ≠ q → dlt (pathD (p ++ r)) (pathD (q ++ r)) = dlt (pathD p) (pathD q)
  | [], [], r, _, h => absurd rfl h
  | [], _ :: _, _, hl, _ => by simp at hl
  | _ :: _, [], _, hl, _ => by simp at hl
  | a :: p, b :: q, r, hl, h => by
    rw [List.cons_append, List.cons_append, dlt_path_cons, dlt_path_cons]
    by_cases hab : a = b
    · rw [if_pos hab, if_pos hab]
      exact dlt_path_r p q r (by simpa using hl) fun z => h (by rw [hab, z])
    · rw [if_neg hab, if_neg hab]
theorem dlt_path_l : ∀ (r p q : List Wd), dlt (pathD (r ++ p)) (pathD (r ++ q)) = dlt (pathD p) (pathD q)
  | [], p, q => rfl
  | a :: r, p, q => by
    rw [List.cons_append, List.cons_append, dlt_path_cons, if_pos rfl]
    exact dlt_path_l r p q
theorem cmpP_eq {p q : List Wd} (h : p.length = q.length) : cmpP p q = if dlt (pathD q) (pathD p) then 1 else -1 := by
  unfold cmpP
  exact if_neg (fun z => z h)
theorem cmpP_gt {p q : List Wd} (h : q.length < p.length) : cmpP p q = 1 := by
  unfold cmpP
  rw [if_pos (show p.length ≠ q.length by omega), if_pos h]
theorem cmpP_lt {p q : List Wd} (h : p.length < q.length) : cmpP p q = -1 := by
  unfold cmpP
  rw [if_pos (show p.length ≠ q.length by omega), if_neg (show ¬ q.length < p.length by omega)]
theorem cmpP_r {p q : List Wd} (r : List Wd) (h : p ≠ q) : cmpP (p ++ r) (q ++ r) = cmpP p q := by
  rcases Nat.lt_trichotomy p.length q.length with hl | hl | hl
  · rw [cmpP_lt hl, cmpP_lt (by simp; omega)]
  · rw [cmpP_eq hl, cmpP_eq (by simp; omega), dlt_path_r q p r hl.symm (Ne.symm h)]
  · rw [cmpP_gt hl, cmpP_gt (by simp; omega)]
theorem cmpP_l (r : List Wd) {p q : List Wd} : cmpP (r ++ p) (r ++ q) = cmpP p q := by
  rcases Nat.lt_trichotomy p.length q.length with hl | hl | hl
  · rw [cmpP_lt hl, cmpP_lt (by simp; omega)]
  · rw [cmpP_eq hl, cmpP_eq (by simp; omega), dlt_path_l]
  · rw [cmpP_gt hl, cmpP_gt (by simp; omega)]
theorem cmpP_anti {p q : List Wd} (h : p ≠ q) : cmpP q p = -cmpP p q := by
  rcases Nat.lt_trichotomy p.length q.length with hl | hl | hl
  · rw [cmpP_lt hl, cmpP_gt hl]
    rfl
  · rw [cmpP_eq hl, cmpP_eq hl.symm, dlt_path_tot h]
    cases dlt (pathD q) (pathD p) <;> simp
  · rw [cmpP_gt hl, cmpP_lt hl]
theorem cmpP_ne (p q : List Wd) : cmpP p q ≠ 0 := by
  unfold cmpP
  split <;> split <;> decide
/-! rows of paths -/
theorem firstC_self : ∀ ps : List (List Wd), firstC ps ps = 0
  | [] => rfl
  | p :: ps => by rw [firstC_cons, if_pos rfl, firstC_self ps]
theorem firstC_anti : ∀ ps qs : List (List Wd), firstC qs ps = -firstC ps qs
  | [], [] => rfl
  | [], _ :: _ => rfl
  | _ :: _, [] => rfl
  | p :: ps, q :: qs => by
    rw [firstC_cons, firstC_cons]
    by_cases h : p = q
    · rw [if_pos h, if_pos h.symm, firstC_anti ps qs]
    · rw [if_neg h, if_neg (Ne.symm h), cmpP_anti h]
theorem firstC_zero : ∀ {ps qs : List (List Wd)}, ps.length = qs.length → firstC ps qs = 0 → ps = qs
  | [], [], _, _ => rfl
  | [], _ :: _, h, _ => by simp at h
  | _ :: _, [], h, _ => by simp at h
  | p :: ps, q :: qs, hl, h => by
    rw [firstC_cons] at h
    by_cases hpq : p = q
    · rw [if_pos hpq] at h
      rw [hpq, firstC_zero (by simpa using hl) h]
    · rw [if_neg hpq] at h
      exact absurd h (cmpP_ne p q)
theorem firstC_pre (xs : List (List Wd)) {ps qs : List (List Wd)} : firstC (xs ++ ps) (xs ++ qs) = firstC ps qs := by
  induction xs with
  | nil => rfl
  | cons x xs ih => rw [List.cons_append, List.cons_append, firstC_cons, if_pos rfl, ih]
theorem firstC_two : ∀ {A B : List (List Wd)} {xs ys : List (List Wd)}, A.length = B.length → firstC (A ++ xs) (B ++ ys) = if A = B then firstC xs ys else firstC A B
  | [], [], xs, ys, _ => by rw [if_pos rfl]; rfl
  | [], _ :: _, _, _, h => by simp at h
  | _ :: _, [], _, _, h => by simp at h
  | a :: A, b :: B, xs, ys, hl => by
    rw [List.cons_append, List.cons_append, firstC_cons, firstC_cons]
    by_cases hab : a = b
    · subst hab
      rw [if_pos rfl, if_pos rfl, firstC_two (by simpa using hl)]
      by_cases h : A = B
      · rw [if_pos h, if_pos (by rw [h])]
      · rw [if_neg h, if_neg (fun z => h (List.cons.inj z).2)]
    · rw [if_neg hab, if_neg hab, if_neg (fun z => hab (List.cons.inj z).1)]
theorem firstC_map (r : List Wd) : ∀ ps qs : List (List Wd), firstC (ps.map (r ++ ·)) (qs.map (r ++ ·)) = firstC ps qs
  | [], _ => by simp [firstC]
  | _ :: _, [] => by simp [firstC]
  | p :: ps, q :: qs => by
    rw [List.map_cons, List.map_cons, firstC_cons, firstC_cons, firstC_map r ps qs, cmpP_l]
    by_cases h : p = q
    · rw [if_pos h, if_pos (by rw [h])]
    · rw [if_neg h, if_neg (fun z => h (List.append_cancel_left z))]
/-- put in -/
theorem keep_in {A A' B B' M : List (List Wd)} {r r' : List Wd} (hA : A.length = A'.length) (hM : M ≠ []) :
    firstC (A ++ (M.map (r ++ ·) ++ B)) (A' ++ (M.map (r' ++ ·) ++ B')) = firstC (A ++ r :: B) (A' ++ r' :: B') := by
  rw [firstC_two hA, firstC_two hA]
  by_cases h : A = A'
  · rw [if_pos h, if_pos h, firstC_cons]
    by_cases hr : r = r'
    · subst hr
      rw [if_pos rfl, firstC_pre]
    · rw [if_neg hr]
      cases M with
      | nil => exact absurd rfl hM
      | cons x xs =>
        rw [List.map_cons, List.map_cons, List.cons_append, List.cons_append, firstC_cons, if_neg (fun z => hr (List.append_cancel_right z)), cmpP_r x hr]
  · rw [if_neg h, if_neg h]
/-- put round -/
theorem keep_round {A B ps qs : List (List Wd)} {r : List Wd} (hl : ps.length = qs.length) :
    firstC (A ++ (ps.map (r ++ ·) ++ B)) (A ++ (qs.map (r ++ ·) ++ B)) = firstC ps qs := by
  rw [firstC_pre, firstC_two (by rw [List.length_map, List.length_map]; exact hl), firstC_map]
  by_cases h : ps = qs
  · subst h
    rw [if_pos rfl, firstC_self, firstC_self]
  · rw [if_neg fun z => h ?_]
    exact (List.map_inj_right fun a b e => List.append_cancel_left e).mp z
/-! the paths tell the tree -/
theorem tails (op : Wd) (A : List (List Wd)) : (A.map (op :: ·)).map List.tail = A := by
  rw [List.map_map]
  conv => rhs; rw [← List.map_id A]
  rfl
mutual
theorem paths_inj : ∀ {t u : T} {R R' : List (List Wd)}, Wf t → Wf u → paths t ++ R = paths u ++ R' → t = u ∧ R = R'
  | .leaf, .leaf, R, R', _, _, h => ⟨rfl, (List.cons.inj (show [] :: R = [] :: R' from h)).2⟩
  | .leaf, .node op ks, R, R', _, hu, h => by
    exfalso
    have h : [] :: R = (pathsL ks).map (op :: ·) ++ R' := h
    have hp := paths_len (.node op ks)
    have hl := leaves_pos hu
    cases e : pathsL ks with
    | nil =>
      have : (paths (.node op ks)).length = 0 := by
        show ((pathsL ks).map _).length = 0
        rw [e]; rfl
      omega
    | cons x xs =>
      rw [e] at h
      exact absurd (List.cons.inj h).1 (by simp)
  | .node op ks, .leaf, R, R', ht, _, h => by
    exfalso
    have h : (pathsL ks).map (op :: ·) ++ R = [] :: R' := h
    have hp := paths_len (.node op ks)
    have hl := leaves_pos ht
    cases e : pathsL ks with
    | nil =>
      have : (paths (.node op ks)).length = 0 := by
        show ((pathsL ks).map _).length = 0
        rw [e]; rfl
      omega
    | cons x xs =>
      rw [e] at h
      exact absurd (List.cons.inj h).1 (by simp)
  | .node op ks, .node op' ks', R, R', ht, hu, h => by
    have h : (pathsL ks).map (op :: ·) ++ R = (pathsL ks').map (op' :: ·) ++ R' := h
    have hop : op = op' := by
      have hp := paths_len (.node op ks)
      have hl := leaves_pos ht
      have hp' := paths_len (.node op' ks')
      have hl' := leaves_pos hu
      cases e : pathsL ks with
      | nil =>
        have : (paths (.node op ks)).length = 0 := by
          show ((pathsL ks).map _).length = 0
          rw [e]; rfl
        omega
      | cons x xs =>
        cases e' : pathsL ks' with
        | nil =>
          have : (paths (.node op' ks')).length = 0 := by
            show ((pathsL ks').map _).length = 0
            rw [e']; rfl
          omega
        | cons y ys =>
          rw [e, e'] at h
          exact (List.cons.inj (List.cons.inj h).1).1
    subst hop
    have hn : ks.length = ks'.length := ht.1.inj hu.1
    have h2 := congrArg (List.map List.tail) h
    rw [List.map_append, List.map_append, tails, tails] at h2
    obtain ⟨e1, _⟩ := pathsL_inj hn ht.2 hu.2 h2
    subst e1
    exact ⟨rfl, List.append_cancel_left h⟩
theorem pathsL_inj : ∀ {ts us : List T} {R R' : List (List Wd)}, ts.length = us.length → WfL ts → WfL us → pathsL ts ++ R = pathsL us ++ R' → ts = us ∧ R = R'
  | [], [], R, R', _, _, _, h => ⟨rfl, h⟩
  | [], _ :: _, _, _, hl, _, _, _ => by simp at hl
  | _ :: _, [], _, _, hl, _, _, _ => by simp at hl
  | t :: ts, u :: us, R, R', hl, ht, hu, h => by
    have h : (paths t ++ pathsL ts) ++ R = (paths u ++ pathsL us) ++ R' := h
    rw [List.append_assoc, List.append_assoc] at h
    obtain ⟨e1, e2⟩ := paths_inj ht.1 hu.1 h
    obtain ⟨e3, e4⟩ := pathsL_inj (by simpa using hl) ht.2 hu.2 e2
    exact ⟨by rw [e1, e3], e4⟩
end
theorem cmpT_zero {t u : T} (ht : Wf t) (hu : Wf u) (hl : leaves t = leaves u) : cmpT t u = 0 ↔ t = u := by
  constructor
  · intro h
    have e := firstC_zero (by rw [paths_len, paths_len, hl]) h
    exact (paths_inj (R := []) (R' := []) ht hu (by rw [e])).1
  · rintro rfl
    exact firstC_self _
end
section
variable {P : Program} {w : World} {K : PySem.W.Frag} {mg : Str → Option Value} {base : Heap}
/-! how many things there are trees over; rows of trees compared -/
open Tr
theorem reach_rows {os : List Wd} (hos : ∀ o ∈ os, ∃ n, Op o n) (h4 : os.length ≤ 4) {r : Nat} (h : 3 ≤ r ∧ r ≤ 5 ∨ r = 7 ∧ ∀ o ∈ os, roomF o = 4) :
    ∀ o ∈ os, ∀ l m, l ≤ roomF o → m + (roomF o - l) ≤ r → (rowsT (knownT os) l m).length ≤ 20000 := fun o ho l m hl hm => by
  obtain ⟨n, hn⟩ := hos o ho
  have er := (op_opB hn).2
  have n4 : n ≤ 4 := by obtain ⟨_, _, _, q, _⟩ := hn; exact q
  cases l with
  | zero =>
    unfold rowsT
    split <;> simp
  | succ l =>
    rcases h with ⟨h1, h2⟩ | ⟨rfl, h2⟩
    · have a := rows_cnt (A := capA) (kn := knownT os) (l + 1) m fun k g1 g2 => cap_5 hos h4 k g1 (by omega)
      have b : ∀ l, l < 5 → ∀ m, m < 6 → cntR capA l m ≤ 20000 := by decide +kernel
      exact Nat.le_trans a (b (l + 1) (by omega) m (by omega))
    · have a := rows_cnt (A := capB) (kn := knownT os) (l + 1) m fun k g1 g2 => cap_7 hos h4 h2 k g1 (by omega)
      have b : ∀ l, l < 5 → ∀ m, m < 8 → cntR capB l m ≤ 20000 := by decide +kernel
      exact Nat.le_trans a (b (l + 1) (by omega) m (by omega))
theorem reach_len {os : List Wd} (hos : ∀ o ∈ os, ∃ n, Op o n) (h4 : os.length ≤ 4) {r : Nat} (h : 3 ≤ r ∧ r ≤ 5 ∨ r = 7 ∧ ∀ o ∈ os, roomF o = 4) {k : Nat} (h1 : 1 ≤ k) (hk : k ≤ r) : (knownT os k).length ≤ 4000 := by
  rcases h with ⟨_, h2⟩ | ⟨rfl, h2⟩
  · have a := cap_5 hos h4 k h1 (by omega)
    have b : ∀ k, k < 6 → capA k ≤ 4000 := by decide +kernel
    exact Nat.le_trans a (b k (by omega))
  · have a := cap_7 hos h4 h2 k h1 hk
    have b : ∀ k, k < 8 → capB k ≤ 4000 := by decide +kernel
    exact Nat.le_trans a (b k (by omega))
theorem filtD_mem {P : Nat → D → Bool} {g : Nat → D → D} : ∀ {k : Nat} {ds : List D} {y : D}, y ∈ filtD P g k ds → ∃ (i : Nat) (d : D), ds[i]? = some d ∧ P (k + i) d = true ∧ y = g (k + i) d
  | k, [], y, h => by simp [filtD] at h
  | k, d :: ds, y, h => by
    have go : y ∈ filtD P g (k + 1) ds → ∃ (i : Nat) (e : D), (d :: ds)[i]? = some e ∧ P (k + i) e = true ∧ y = g (k + i) e := fun h => by
      obtain ⟨i, e, h1, h2, h3⟩ := filtD_mem h
      exact ⟨i + 1, e, by simpa using h1, by rw [show k + (i + 1) = k + 1 + i by omega]; exact h2, by rw [show k + (i + 1) = k + 1 + i by omega]; exact h3⟩
    unfold filtD at h
    split at h
    · rename_i hp
      rcases List.mem_cons.mp h with rfl | h
      · exact ⟨0, d, rfl, hp, rfl⟩
      · exact go h
    · exact go h
/-- the counts of things over which there are trees -/
def sizeP (os : List Wd) (_ : Nat) (d : D) : Bool := match d with
  | .int k => !(knownT os k.toNat).isEmpty
  | _ => false
def sizesD (os : List Wd) (n : Nat) : List D := filtD (sizeP os) (fun _ d => d) 0 ((kvsG os n).map fun p => kD p.1)
theorem keysG {os : List Wd} {n : Nat} : ((kvsG os n).map fun p => kD p.1) = (List.range n).map fun i => D.int ((i + 1 : Nat) : Int) := by
  unfold kvsG
  rw [List.map_map]
  rfl
theorem sizes_mem {os : List Wd} {n : Nat} {y : D} (h : y ∈ sizesD os n) : ∃ m : Nat, 1 ≤ m ∧ m ≤ n ∧ knownT os m ≠ [] ∧ y = .int (m : Nat) := by
  obtain ⟨i, d, h1, h2, rfl⟩ := filtD_mem h
  rw [keysG] at h1
  obtain ⟨j, hj, rfl⟩ := map_at h1
  have hj := (List.getElem?_eq_some_iff.mp hj)
  obtain ⟨hj1, hj2⟩ := hj
  simp only [List.getElem_range, List.length_range] at hj1 hj2
  subst hj2
  refine ⟨i + 1, by omega, by omega, fun z => ?_, rfl⟩
  have h2 : (!(knownT os (i + 1)).isEmpty) = true := h2
  rw [z] at h2
  cases h2
theorem sizes_pos {os : List Wd} {n : Nat} (h : 1 ≤ n) : 0 < (sizesD os n).length := by
  unfold sizesD
  rw [keysG]
  obtain ⟨m, rfl⟩ : ∃ m, n = m + 1 := ⟨n - 1, by omega⟩
  rw [List.range_succ_eq_map, List.map_cons]
  unfold filtD
  have e : sizeP os 0 (.int ((0 + 1 : Nat) : Int)) = true := rfl
  rw [if_pos e]
  simp
/-! rows of trees as data -/
theorem toPy_tree (t : T) : toPy (treeD t) = .tuple ((words t).map fun a => PyData.str (SX.S a)) := by
  show PyData.tuple (toPys _) = _
  rw [toPys_txs]
theorem isPys_trees : ∀ ts : List T, isPys (ts.map treeD) = true
  | [] => rfl
  | t :: ts => by
    have := isPys_txs (words t)
    simp [isPys, isPy, this, isPys_trees ts]
theorem lay_trees : ∀ ts : List T, (∀ t ∈ ts, Wf t) → PyData.canLayAll0 (toPys (ts.map treeD)) = true
  | [], _ => rfl
  | t :: ts, h => by
    have h1 := lay_trees ts fun u hu => h u (List.mem_cons_of_mem _ hu)
    have h2 := canLay_txs (words t) fun a ha => isW_ok (words_are (h t List.mem_cons_self) a ha)
    simp [toPys, toPy, toPys_txs, PyData.canLayAll0, PyData.canLay0, h1, h2]
theorem depth_trees : ∀ ts : List T, PyData.depthAll (toPys (ts.map treeD)) ≤ 2
  | [] => by simp [toPys, PyData.depthAll]
  | t :: ts => by
    have h1 := depth_trees ts
    have h2 := depth_txs (words t)
    simp only [List.map_cons, toPys, toPy, toPys_txs, PyData.depthAll, PyData.depth]
    omega
theorem good_trees (ts : List T) (h : ∀ t ∈ ts, Wf t) : goodD (.lst (ts.map treeD)) = true := by
  have h1 := lay_trees ts h
  have h2 := depth_trees ts
  simp only [goodD, isPy, isPys_trees, toPy, Bool.true_and, SeqAt.shaped, PyData.canLay0, h1, PyData.depth, decide_eq_true_eq]
  omega
theorem eqv_trees0 (ts : List T) : eqvD (.lst (ts.map treeD)) (.lst []) = ts.isEmpty := by
  cases ts with
  | nil => rfl
  | cons a ws => simp [eqvD, toPy, toPys, PyData.eqv, PyData.eqvAll]
theorem eqv_wss : ∀ ws vs : List Wd, PyData.eqvAll (toPys (ws.map tx)) (toPys (vs.map tx)) = decide (ws = vs)
  | [], [] => rfl
  | [], _ :: _ => rfl
  | _ :: _, [] => rfl
  | a :: ws, b :: vs => by
    simp only [List.map_cons, toPys, toPy, PyData.eqvAll, PyData.eqv, eqv_wss ws vs]
    rw [Bool.eq_iff_iff]
    simp
theorem eqv_ws (ws vs : List Wd) : eqvD (wsD ws) (wsD vs) = decide (ws = vs) := by
  have := eqv_wss ws vs
  simpa [eqvD, toPy, PyData.eqv] using this
theorem split_uniq : ∀ {p q p' q' : List Wd}, p ++ [95] :: q = p' ++ [95] :: q' → p.countP isL = p'.countP isL → p = p' ∧ q = q'
  | [], q, [], q', h, _ => ⟨rfl, (List.cons.inj h).2⟩
  | [], q, b :: p', q', h, hc => by
    obtain ⟨rfl, _⟩ := List.cons.inj (show [95] :: q = b :: (p' ++ [95] :: q') from h)
    rw [List.countP_cons, if_pos (by rfl)] at hc
    simp at hc
  | a :: p, q, [], q', h, hc => by
    obtain ⟨rfl, _⟩ := List.cons.inj (show a :: (p ++ [95] :: q) = [95] :: q' from h)
    rw [List.countP_cons, if_pos (by rfl)] at hc
    simp at hc
  | a :: p, q, b :: p', q', h, hc => by
    obtain ⟨rfl, h2⟩ := List.cons.inj (show a :: (p ++ [95] :: q) = b :: (p' ++ [95] :: q') from h)
    rw [List.countP_cons, List.countP_cons] at hc
    obtain ⟨e1, e2⟩ := split_uniq h2 (by omega)
    exact ⟨by rw [e1], e2⟩
end
section
variable {P : Program} {w : World} {K : PySem.W.Frag} {mg : Str → Option Value} {base : Heap}
/-! look_at_operations, of any list of texts; is_name -/
open Tr
abbrev ftO : FT := [("at", .inl 0), ("word", .inr "BadOperation")]
def OpAt (ws : List Wd) (i : Nat) (a : Wd) : Prop := isOpB a = true ∧ a ∉ ws.take i
theorem inD_txs (a : Wd) : ∀ ws : List Wd, inD (tx a) (ws.map tx) = decide (a ∈ ws)
  | [] => rfl
  | b :: ws => by
    have e : eqFV (tx b) (tx a) = decide (b = a) := by
      show ((SX.S b) == (SX.S a)) = _
      rw [SX.S_beq_eq]
    have ih := inD_txs a ws
    unfold inD at ih ⊢
    rw [List.map_cons, List.any_cons, e, ih]
    rw [Bool.eq_iff_iff]
    simp only [Bool.or_eq_true, decide_eq_true_eq, List.mem_cons]
    constructor
    · rintro (h | h)
      · exact .inl h.symm
      · exact .inr h
    · rintro (h | h)
      · exact .inl h.symm
      · exact .inr h
theorem all_ops {ws : List Wd} (h : ∀ i a, ws[i]? = some a → OpAt ws i a) : ∀ o ∈ ws, ∃ n, Op o n := fun o ho => by
  obtain ⟨i, hi⟩ := List.mem_iff_getElem?.mp ho
  exact op_of_isOp (h i o hi).1
abbrev sLookOps : Stmt := topS 11
theorem scLookOps : FnScope ["operations", "at", "operation"] ["operations"] (defScope sLookOps) := ⟨rfl, rfl, rfl, by decide +kernel, rfl, by decide +kernel, by decide +kernel⟩
def spLookX (C : Addr) : SpD := fun ds O Q Ee => ∃ (x : D) (ws : List Wd), ds = [x] ∧ (x = .lst (ws.map tx) ∨ ∃ p, x = .obj p ∧ O p = some (.lst (ws.map tx))) ∧ ws.length ≤ 1000 ∧ (∀ a ∈ ws, a.length ≤ 80000) ∧ ((∀ i a, ws[i]? = some a → OpAt ws i a) → Q .non O) ∧
  (∀ i a, ws[i]? = some a → ¬ OpAt ws i a → (∀ j b, j < i → ws[j]? = some b → OpAt ws j b) → Ee ⟨.ref C, ftD ftO [.int (i : Nat)]⟩ O)
theorem asL_ofX {O : RW.Own} {x : D} {ds : List D} (h : x = .lst ds ∨ ∃ p, x = .obj p ∧ O p = some (.lst ds)) : asL O x = some ds := by
  rcases h with rfl | ⟨p, rfl, h⟩
  · rfl
  · exact asL_obj h
theorem sSl_X {O : RW.Own} {x : D} {ds : List D} {lo hi : Option Int} {Q : PD} (h : x = .lst ds ∨ ∃ p, x = .obj p ∧ O p = some (.lst ds)) (q : RW.Mk (cutD ds lo hi) O Q) : sSl x lo hi O Q := by
  have e := asL_ofX h
  rcases h with rfl | ⟨p, rfl, h⟩ <;> exact ⟨_, e, q⟩
theorem sIn_X {neg : Bool} {O : RW.Own} {a : Wd} {x : D} {ws : List Wd} {Q : PD} (h : x = .lst (ws.map tx) ∨ ∃ p, x = .obj p ∧ O p = some (.lst (ws.map tx))) (q : Q (.bl (if neg then !decide (a ∈ ws) else decide (a ∈ ws))) O) : sIn neg (tx a) x O Q := by
  have e : asS O x = some (ws.map tx) := by
    rcases h with rfl | ⟨p, rfl, h⟩
    · rfl
    · exact asL_obj h
  rw [← inD_txs] at q
  rcases h with rfl | ⟨p, rfl, h⟩ <;> exact ⟨_, e, rfl, flat_txs _, q⟩
theorem sLen_X {O : RW.Own} {x : D} {ds : List D} {Q : PD} (h : x = .lst ds ∨ ∃ p, x = .obj p ∧ O p = some (.lst ds)) (q : Q (.int ds.length) O) : sLen x O Q := by
  rcases h with rfl | ⟨p, rfl, h⟩
  · exact sLen_l q
  · exact sLen_o h q
theorem sSort_X {O : RW.Own} {x : D} {as : List Wd} {Q : PD} (hx : x = .lst (as.map tx) ∨ ∃ p, x = .obj p ∧ O p = some (.lst (as.map tx))) (hl : as.length < 64) (h : ∀ bs : List Wd, bs.Perm as → sortedS (bs.map SX.S) = true → RW.Mk (bs.map tx) O Q) : sSortS x O Q := by
  obtain ⟨xs, e1, e2, e3⟩ := sSort_tx hl h
  exact ⟨xs, (asL_ofX hx).trans e1, e2, e3⟩
theorem ok_lookX {f : Addr} {fd : FuncData} {k : Nat} {C : Addr} (F : Fun K "look_at_operations" "look_at_operations" sLookOps f fd) (menum : mg "enumerate" = none) (X1 : XMk P w K mg base "BadOperation" 2 1 ftO C) (GI : Fd P w K mg base "is_operation" 2 ["text"] spIsOp) (hk : 3 ≤ k) :
    FnOk P w K mg base (L2.CX P w) (k + 1) f fd ["operations"] (spD K (spLookX C)) := by
  refine fd_ok F scLookOps (fun ds O Q E ⟨_, _, e, _⟩ => by rw [e]; rfl) (fun cdv A outer s H E0 hr ds O Q E ⟨x, ws, e, hx, hl, hz, hQ, hE⟩ => ?_)
  subst e
  have nd := scLookOps.nd
  refine wss_one (ws_for (passes_of rfl) rfl (wi_enum menum ?_))
  repeat walk_at "v"
  refine ⟨ws.map tx, asL_ofX hx, fun i Γ2 O2 => O2 = O ∧ (∃ c1 c2 : Option D, Γ2 = [some x, c1, c2]) ∧ ∀ j b, j < i → ws[j]? = some b → OpAt ws j b, ⟨rfl, ⟨none, none, rfl⟩, fun _ _ h => absurd h (Nat.not_lt_zero _)⟩, fun i Γ2 O2 h => by rw [h.1]; exact asL_ofX hx, ?_, ?_⟩
  · rintro i d Γ2 O2 hd ⟨rfl, ⟨c1, c2, rfl⟩, hall⟩
    obtain ⟨y, hy, rfl⟩ := enumD_get hd
    obtain ⟨a, ha, rfl⟩ := txs_at hy
    have hil := (List.getElem?_eq_some_iff.mp ha).1
    repeat walk_at "v"
    refine ⟨a, rfl, hz a (List.mem_of_getElem? ha), ?_⟩
    repeat walk_at "v"
    refine br (fun h => ?_) (fun h => ?_)
    · have h : isOpB a = false := by simpa using h
      refine wss_one (ws_raise X1 hr (by omega) rfl ?_)
      repeat walk_at "v"
      exact ⟨rfl, hE i a ha (fun z => by have z1 := z.1; rw [h] at z1; cases z1) hall⟩
    · have h : isOpB a = true := by simpa using h
      repeat walk_at "v"
      refine sSl_X hx ?_
      rw [cutD_to (n := i) (by omega), ← List.map_take]
      refine .fix ?_
      refine sIn_X (.inl rfl) ?_
      repeat walk_at "v"
      refine br (fun h2 => ?_) (fun h2 => ?_)
      · have h2 : a ∈ ws.take i := by simpa using h2
        refine wss_one (ws_raise X1 hr (by omega) rfl ?_)
        repeat walk_at "v"
        exact ⟨rfl, hE i a ha (fun z => z.2 h2) hall⟩
      · have h2 : a ∉ ws.take i := by simpa using h2
        repeat walk_at "v"
        refine ⟨rfl, ⟨_, _, rfl⟩, fun j b hj hb => ?_⟩
        rcases Nat.lt_succ_iff_lt_or_eq.mp hj with hj | rfl
        · exact hall j b hj hb
        · rw [ha] at hb
          cases hb
          exact ⟨h, h2⟩
  · rintro Γ2 O2 ⟨rfl, ⟨c1, c2, rfl⟩, hall⟩
    repeat walk_at "v"
    refine hQ fun i a ha => hall i a ?_ ha
    have := (List.getElem?_eq_some_iff.mp ha).1
    rw [enumD_len, List.length_map]
    exact this
end
section
variable {P : Program} {w : World} {K : PySem.W.Frag} {mg : Str → Option Value} {base : Heap}
/-! rows of operations, bent -/
open Tr
theorem txs_plain (n : Nat) : ∀ (ws : List Wd), ∀ d ∈ ws.map tx, PlainD n d := fun ws d hd => by
  obtain ⟨a, _, rfl⟩ := List.mem_map.mp hd
  cases n <;> exact trivial
theorem ints_plain (n : Nat) (ns : List Int) (h : ns.length ≤ 90000) : PlainD (n + 1) (rowD ns) := ⟨by rw [List.length_map]; exact h, fun d hd => by
  obtain ⟨a, _, rfl⟩ := List.mem_map.mp hd
  cases n <;> exact trivial⟩
/-- the operations of the house stand -/
theorem ops_at {os : List Wd} (hos : ∀ o ∈ os, ∃ n, Op o n) (nd : os.Nodup) : ∀ i a, os[i]? = some a → OpAt os i a := fun i a ha => by
  obtain ⟨n, hn⟩ := hos a (List.mem_of_getElem? ha)
  refine ⟨isOp_of hn, fun z => ?_⟩
  obtain ⟨j, hj⟩ := List.mem_iff_getElem?.mp z
  rw [List.getElem?_take] at hj
  split at hj
  · rename_i hji
    have hi := (List.getElem?_eq_some_iff.mp ha).1
    have e1 := (List.getElem?_eq_some_iff.mp ha).2
    obtain ⟨hj1, e2⟩ := List.getElem?_eq_some_iff.mp hj
    exact List.pairwise_iff_getElem.mp nd j i hj1 hi hji (e2.trans e1.symm)
  · cases hj
theorem ops_len {os : List Wd} (hos : ∀ o ∈ os, ∃ n, Op o n) : ∀ a ∈ os, a.length ≤ 80000 := fun a ha => by
  obtain ⟨n, hn⟩ := hos a ha
  have := hn.len
  omega
/-- .. bent -/
theorem bent_ops {os : List Wd} (hos : ∀ o ∈ os, ∃ n, Op o n) (nd : os.Nodup) {z : Wd} {i : Nat} (hi : i ≤ os.length) (hz : isOpB z = false ∨ z ∈ os.take i) :
    (os.take i ++ [z] ++ os.drop i)[i]? = some z ∧ ¬ OpAt (os.take i ++ [z] ++ os.drop i) i z ∧ ∀ j b, j < i → (os.take i ++ [z] ++ os.drop i)[j]? = some b → OpAt (os.take i ++ [z] ++ os.drop i) j b := by
  have hl : (os.take i).length = i := by rw [List.length_take]; omega
  have ht : ∀ j, j ≤ i → (os.take i ++ [z] ++ os.drop i).take j = os.take j := fun j hj => by
    rw [List.append_assoc, List.take_append_of_le_length (by omega), List.take_take, Nat.min_eq_left hj]
  refine ⟨?_, fun h => ?_, fun j b hj hb => ?_⟩
  · rw [List.append_assoc, List.getElem?_append_right (by omega), hl, Nat.sub_self]
    rfl
  · rcases hz with hz | hz
    · have h1 := h.1
      rw [hz] at h1
      cases h1
    · exact h.2 (by rw [ht i (Nat.le_refl _)]; exact hz)
  · rw [List.append_assoc, List.getElem?_append_left (by omega), List.getElem?_take, if_pos hj] at hb
    have := ops_at hos nd j b hb
    exact ⟨this.1, by rw [ht j (by omega)]; exact this.2⟩
end
section
variable {P : Program} {w : World} {K : PySem.W.Frag} {mg : Str → Option Value} {base : Heap}
/-! trees and words as data -/
open Tr
theorem log_lt {x : Nat} (h : x < 2 ^ 1000) : x.log2 < 1000 := by
  by_cases h0 : x = 0
  · subst h0; decide
  · exact (Nat.log2_lt h0).mpr h
theorem eqvAll_txs2 : ∀ a b : List Wd, PyData.eqvAll (toPys (a.map tx)) (toPys (b.map tx)) = decide (a = b)
  | [], [] => rfl
  | [], _ :: _ => rfl
  | _ :: _, [] => rfl
  | x :: a, y :: b => by
    have ih := eqvAll_txs2 a b
    simp only [List.map_cons, toPys, toPy, PyData.eqvAll, PyData.eqv, ih]
    rw [Bool.eq_iff_iff]
    simp
theorem eqv_txs2 (a b : List Wd) : eqvD (wsD a) (wsD b) = decide (a = b) := by
  have := eqvAll_txs2 a b
  simpa [eqvD, toPy, PyData.eqv] using this
theorem good_tree2 {t : T} (h : Wf t) : goodD (treeD t) = true := good_tup _ fun a ha => ww_ok (words_ww h a ha)
theorem trees_lay : ∀ ts : List T, (∀ t ∈ ts, Wf t) → isPys (ts.map treeD) = true ∧ PyData.canLayAll0 (toPys (ts.map treeD)) = true ∧ PyData.depthAll (toPys (ts.map treeD)) ≤ 2
  | [], _ => ⟨rfl, rfl, by simp [toPys, PyData.depthAll]⟩
  | t :: ts, h => by
    obtain ⟨h0, h1, h3⟩ := trees_lay ts fun u hu => h u (List.mem_cons_of_mem _ hu)
    have h2 := canLay_txs (words t) fun a ha => ww_ok (words_ww (h t List.mem_cons_self) a ha)
    have h4 := depth_txs (words t)
    refine ⟨by simp [isPys, isPy, isPys_txs, h0], by simp [toPys, toPy, toPys_txs, PyData.canLayAll0, PyData.canLay0, h1, h2], ?_⟩
    simp only [List.map_cons, toPys, toPy, toPys_txs, PyData.depthAll, PyData.depth] at h3 ⊢
    omega
theorem good_trees2 {ts : List T} (h : ∀ t ∈ ts, Wf t) : goodD (.lst (ts.map treeD)) = true := by
  obtain ⟨h0, h1, h2⟩ := trees_lay ts h
  simp only [goodD, isPy, h0, toPy, Bool.true_and, SeqAt.shaped, PyData.canLay0, h1, PyData.depth, decide_eq_true_eq]
  omega
theorem lay_wss : ∀ ps : List (List Wd), (∀ p ∈ ps, WsOk p) → isPys (ps.map wsD) = true ∧ PyData.canLayAll0 (toPys (ps.map wsD)) = true ∧ PyData.depthAll (toPys (ps.map wsD)) ≤ 2
  | [], _ => ⟨rfl, rfl, by simp [toPys, PyData.depthAll]⟩
  | p :: ps, h => by
    obtain ⟨h0, h1, h3⟩ := lay_wss ps fun u hu => h u (List.mem_cons_of_mem _ hu)
    have h2 := canLay_txs p fun a ha => ww_ok ((h p List.mem_cons_self).2 a ha)
    have h4 := depth_txs p
    refine ⟨by simp [isPys, isPy, isPys_txs, h0], by simp [toPys, toPy, toPys_txs, PyData.canLayAll0, PyData.canLay0, h1, h2], ?_⟩
    simp only [List.map_cons, toPys, toPy, toPys_txs, PyData.depthAll, PyData.depth] at h3 ⊢
    omega
theorem good_wss {ps : List (List Wd)} (h : ∀ p ∈ ps, WsOk p) : goodD (.lst (ps.map wsD)) = true := by
  obtain ⟨h0, h1, h2⟩ := lay_wss ps h
  simp only [goodD, isPy, h0, toPy, Bool.true_and, SeqAt.shaped, PyData.canLay0, h1, PyData.depth, decide_eq_true_eq]
  omega
/-- as lc_all, of rows of any length -/
theorem lc_allB {X : Cx} {Γ : Env'} {elt tg : Expr} {scope : Scope} {Q : PD} {vs : List Nat} {G : RW.Own → Prop} {ds : List D} {O1 : RW.Own} (R : Nat → D → D → Prop) (hl : ds.length ≤ sizeLine) (hG : ∀ O2, Sub O1 O2 → G O2)
    (hs : ∀ i d O2, ds[i]? = some d → Sub O1 O2 → ∀ s H C cl fp, WGc (blkX X scope s H C cl fp) vs tg d (wipeD Γ vs) O2 fun Γ3 O3 => O3 = O2 ∧ ∀ s H C cl fp, WE (blkX X scope s H C cl fp) noEx elt Γ3 O2 (fun y O5 => O5 = O2 ∧ R i d y))
    (hd : ∀ ys : List D, ys.length = ds.length → (∀ (i : Nat) d, ds[i]? = some d → ∃ y, ys[i]? = some y ∧ R i d y) → Mk ys O1 Q) : LcBody X Γ elt tg [] scope vs G ds O1 Q := fun p np => by
  refine ⟨fun i acc O2 => O2 = updO O1 p (.lst acc) ∧ acc.length = i ∧ i ≤ ds.length ∧ ∀ (j : Nat) d, j < i → ds[j]? = some d → ∃ y, acc[j]? = some y ∧ R j d y, ⟨rfl, rfl, Nat.zero_le _, fun j d hj => absurd hj (Nat.not_lt_zero _)⟩, fun i acc O2 ⟨e, _⟩ => ?_, fun i d acc O2 hd' ⟨e, el, ei, ea⟩ s H C cl fp => ?_, fun acc O2 ⟨e, el, _, ea⟩ => ?_⟩
  · subst e
    exact ⟨hG _ (Sub.new np), updO_same⟩
  · have hlt : i < ds.length := (List.getElem?_eq_some_iff.mp hd').1
    refine .mk fun σ H1 Hd v g a r => ?_
    refine wG_mono ((hs i d O2 hd' (by rw [e]; exact Sub.new np) s H C cl fp).run σ H1 Hd v g a r) fun σ' H' ⟨ew, Γ3, O3, Hd3, s3, g3, a3, e3, q3⟩ => ⟨ew, Γ3, O3, Hd3, s3, g3, a3, fun s H C cl fp => ?_⟩
    subst e3
    refine wts_nil ?_
    rw [if_pos rfl]
    intro s H C cl fp
    refine (q3 s H C cl fp).mono fun y O5 ⟨e5, py⟩ => ?_
    rw [e5, e, updO_same, updO_updO]
    refine ⟨rfl, by rw [el]; exact Nat.lt_of_lt_of_le hlt hl, rfl, by simp [el], hlt, fun j d' hj hd2 => ?_⟩
    by_cases hji : j = i
    · subst hji
      rw [hd'] at hd2; cases hd2
      exact ⟨y, by rw [List.getElem?_append_right (by omega)]; simp [el], py⟩
    · obtain ⟨y', h1, h2⟩ := ea j d' (by omega) hd2
      exact ⟨y', by rw [List.getElem?_append_left (by omega)]; exact h1, h2⟩
  · subst e
    rcases hd acc el fun i d h => ea i d ((List.getElem?_eq_some_iff.mp h).1) h with q | q
    · exact .inr (by rw [delO_updO np]; exact q)
    · exact .inl (q p np)
end
section
variable {P : Program} {w : World} {K : PySem.W.Frag} {mg : Str → Option Value} {base : Heap}
/-! what machine.counted comes to (any patterns) -/
open Tr
abbrev Sd := List (List Wd)
section
variable {κ : Type} [DecidableEq κ]
/-- so often, to what is there -/
def addK : List (κ × Nat) → κ → Nat → List (κ × Nat)
  | [], k, c => [(k, c)]
  | p :: r, k, c => if p.1 = k then (p.1, p.2 + c) :: r else p :: addK r k c
def foldK (a xs : List (κ × Nat)) : List (κ × Nat) := xs.foldl (fun a p => addK a p.1 p.2) a
def getK (a : List (κ × Nat)) (k : κ) : Nat := ((a.find? fun p => decide (p.1 = k)).map (·.2)).getD 0
/-- each so often, weighed -/
def phi (h : κ → Nat) (xs : List (κ × Nat)) : Nat := (xs.map fun p => p.2 * h p.1).sum
theorem phi_nil (h : κ → Nat) : phi h [] = 0 := rfl
theorem phi_cons (h : κ → Nat) (p : κ × Nat) (xs : List (κ × Nat)) : phi h (p :: xs) = p.2 * h p.1 + phi h xs := by simp [phi]
theorem phi_app (h : κ → Nat) (xs ys : List (κ × Nat)) : phi h (xs ++ ys) = phi h xs + phi h ys := by simp [phi]
theorem phi_addK (h : κ → Nat) : ∀ (a : List (κ × Nat)) (k : κ) (c : Nat), phi h (addK a k c) = phi h a + c * h k
  | [], k, c => by simp [addK, phi]
  | p :: r, k, c => by
    unfold addK
    split
    · rename_i e
      rw [phi_cons, phi_cons, e, Nat.add_mul]
      omega
    · rw [phi_cons, phi_cons, phi_addK h r k c]
      omega
theorem phi_fold (h : κ → Nat) : ∀ (xs a : List (κ × Nat)), phi h (foldK a xs) = phi h a + phi h xs
  | [], a => by simp [foldK, phi_nil]
  | p :: xs, a => by
    show phi h (foldK (addK a p.1 p.2) xs) = _
    rw [phi_fold h xs, phi_addK, phi_cons]
    omega
theorem foldK_app (a xs ys : List (κ × Nat)) : foldK a (xs ++ ys) = foldK (foldK a xs) ys := List.foldl_append
theorem foldK_snoc (a xs : List (κ × Nat)) (p : κ × Nat) : foldK a (xs ++ [p]) = addK (foldK a xs) p.1 p.2 := by rw [foldK_app]; rfl
theorem addK_keys : ∀ (a : List (κ × Nat)) (k : κ) (c : Nat) (x : κ), x ∈ (addK a k c).map (·.1) → x ∈ a.map (·.1) ∨ x = k
  | [], k, c, x, h => .inr (by simpa [addK] using h)
  | p :: r, k, c, x, h => by
    unfold addK at h
    split at h
    · exact .inl h
    · rcases List.mem_cons.mp h with h | h
      · exact .inl (by rw [h]; exact List.mem_cons_self)
      · exact (addK_keys r k c x h).imp (List.mem_cons_of_mem _) id
theorem addK_nodup : ∀ (a : List (κ × Nat)) (k : κ) (c : Nat), (a.map (·.1)).Nodup → ((addK a k c).map (·.1)).Nodup
  | [], k, c, _ => by simp [addK]
  | p :: r, k, c, h => by
    obtain ⟨h1, h2⟩ := List.nodup_cons.mp h
    unfold addK
    split
    · exact h
    · rename_i e
      refine List.nodup_cons.mpr ⟨fun z => ?_, addK_nodup r k c h2⟩
      rcases addK_keys r k c _ z with z | z
      · exact h1 z
      · exact e z
theorem fold_keys : ∀ (xs a : List (κ × Nat)) (x : κ), x ∈ (foldK a xs).map (·.1) → x ∈ a.map (·.1) ∨ x ∈ xs.map (·.1)
  | [], _, _, h => .inl h
  | p :: xs, a, x, h => by
    rcases fold_keys xs (addK a p.1 p.2) x h with h | h
    · exact (addK_keys a p.1 p.2 x h).imp id fun e => by rw [e]; exact List.mem_cons_self
    · exact .inr (List.mem_cons_of_mem _ h)
theorem fold_nodup : ∀ (xs a : List (κ × Nat)), (a.map (·.1)).Nodup → ((foldK a xs).map (·.1)).Nodup
  | [], _, h => h
  | p :: xs, a, h => fold_nodup xs _ (addK_nodup a p.1 p.2 h)
def PosK (xs : List (κ × Nat)) : Prop := ∀ p ∈ xs, 1 ≤ p.2
theorem addK_pos : ∀ (a : List (κ × Nat)) (k : κ) (c : Nat), PosK a → 1 ≤ c → PosK (addK a k c)
  | [], k, c, _, hc => fun p hp => by
    obtain rfl := List.mem_singleton.mp (show p ∈ [(k, c)] from hp)
    exact hc
  | q :: r, k, c, h, hc => fun p hp => by
    unfold addK at hp
    split at hp
    · rcases List.mem_cons.mp hp with rfl | hp
      · have := h q List.mem_cons_self
        show 1 ≤ q.2 + c
        omega
      · exact h p (List.mem_cons_of_mem _ hp)
    · rcases List.mem_cons.mp hp with rfl | hp
      · exact h p List.mem_cons_self
      · exact addK_pos r k c (fun z hz => h z (List.mem_cons_of_mem _ hz)) hc p hp
theorem fold_pos : ∀ (xs a : List (κ × Nat)), PosK a → PosK xs → PosK (foldK a xs)
  | [], _, h, _ => h
  | p :: xs, a, h, g => fold_pos xs _ (addK_pos a _ _ h (g p List.mem_cons_self)) fun q hq => g q (List.mem_cons_of_mem _ hq)
abbrev tot (xs : List (κ × Nat)) : Nat := phi (fun _ => 1) xs
theorem len_tot : ∀ {xs : List (κ × Nat)}, PosK xs → xs.length ≤ tot xs
  | [], _ => Nat.le_refl _
  | p :: xs, h => by
    have h1 := len_tot (xs := xs) fun q hq => h q (List.mem_cons_of_mem _ hq)
    have h2 := h p List.mem_cons_self
    show xs.length + 1 ≤ phi _ (p :: xs)
    rw [phi_cons]
    simp only [tot] at h1
    omega
theorem val_tot : ∀ {xs : List (κ × Nat)} {p : κ × Nat}, p ∈ xs → p.2 ≤ tot xs
  | q :: xs, p, h => by
    show _ ≤ phi _ (q :: xs)
    rw [phi_cons]
    rcases List.mem_cons.mp h with rfl | h
    · omega
    · have := val_tot h
      simp only [tot] at this
      omega
theorem tot_prefix {xs ys : List (κ × Nat)} (h : xs <+: ys) : tot xs ≤ tot ys := by
  obtain ⟨t, rfl⟩ := h
  show phi _ xs ≤ phi _ (xs ++ t)
  rw [phi_app]
  exact Nat.le_add_right _ _
theorem get_mem {a : List (κ × Nat)} (nd : (a.map (·.1)).Nodup) {p : κ × Nat} (h : p ∈ a) : a.find? (fun q => decide (q.1 = p.1)) = some p := by
  induction a with
  | nil => cases h
  | cons q r ih =>
    obtain ⟨n1, n2⟩ := List.nodup_cons.mp nd
    rw [List.find?_cons]
    rcases List.mem_cons.mp h with rfl | h
    · simp
    · have : q.1 ≠ p.1 := fun e => n1 (by show q.1 ∈ _; rw [e]; exact List.mem_map_of_mem (f := fun q : κ × Nat => q.1) h)
      rw [decide_eq_false this]
      exact ih n2 h
end
/-! as a dict -/
section
variable {κ : Type} [DecidableEq κ]
def encK (e : κ → NestedKey) (a : List (κ × Nat)) : List (NestedKey × D) := a.map fun p => (e p.1, .int (p.2 : Nat))
theorem encK_len {e : κ → NestedKey} {a : List (κ × Nat)} : (encK e a).length = a.length := by simp [encK]
theorem enc_val {e : κ → NestedKey} (he : ∀ x y, e x = e y → x = y) : ∀ (a : List (κ × Nat)) (k : κ), valD (encK e a) (e k) = (a.find? fun p => decide (p.1 = k)).map fun p => D.int (p.2 : Nat)
  | [], k => rfl
  | p :: r, k => by
    have ih := enc_val he r k
    unfold valD encK at ih ⊢
    rw [List.map_cons, List.find?_cons, List.find?_cons]
    by_cases h : p.1 = k
    · rw [show decide ((e p.1, D.int (p.2 : Nat)).1 = e k) = true from decide_eq_true (by rw [h]), decide_eq_true h]
      rfl
    · rw [show decide ((e p.1, D.int (p.2 : Nat)).1 = e k) = false from decide_eq_false fun z => h (he _ _ z), decide_eq_false h]
      exact ih
theorem enc_get {e : κ → NestedKey} (he : ∀ x y, e x = e y → x = y) (a : List (κ × Nat)) (k : κ) : (valD (encK e a) (e k)).getD (.int 0) = .int (getK a k : Nat) := by
  rw [enc_val he]
  unfold getK
  cases a.find? fun p => decide (p.1 = k) <;> rfl
theorem enc_at {e : κ → NestedKey} (he : ∀ x y, e x = e y → x = y) {a : List (κ × Nat)} (nd : (a.map (·.1)).Nodup) {p : κ × Nat} (h : p ∈ a) : valD (encK e a) (e p.1) = some (.int (p.2 : Nat)) := by
  rw [enc_val he, get_mem nd h]
  rfl
theorem put_absent {e : κ → NestedKey} {d : D} {k : κ} : ∀ {a : List (κ × Nat)}, (∀ p ∈ a, e p.1 ≠ e k) → (encK e a).map (fun p => if p.1 = e k then (p.1, d) else p) = encK e a
  | [], _ => rfl
  | p :: r, h => by
    have ih := put_absent (d := d) (a := r) fun q hq => h q (List.mem_cons_of_mem _ hq)
    unfold encK at ih ⊢
    rw [List.map_cons, List.map_cons, ih, if_neg (h p List.mem_cons_self)]
theorem enc_put {e : κ → NestedKey} (he : ∀ x y, e x = e y → x = y) : ∀ (a : List (κ × Nat)) (k : κ) (c : Nat), (a.map (·.1)).Nodup → putD (encK e a) (e k) (.int ((getK a k + c : Nat))) = encK e (addK a k c)
  | [], k, c, _ => by
    show [(e k, D.int _)] = [(e k, D.int _)]
    simp [getK]
  | p :: r, k, c, nd => by
    obtain ⟨n1, n2⟩ := List.nodup_cons.mp nd
    have ih := enc_put he r k c n2
    unfold addK
    by_cases h : p.1 = k
    · rw [if_pos h]
      unfold putD
      have hv : valD (encK e (p :: r)) (e k) = some (.int (p.2 : Nat)) := by rw [← h, enc_at he nd List.mem_cons_self]
      rw [hv, if_pos (by rfl)]
      have hg : getK (p :: r) k = p.2 := by
        unfold getK
        rw [List.find?_cons, decide_eq_true h]
        rfl
      rw [hg]
      show (if e p.1 = e k then _ else _) :: (encK e r).map _ = _
      rw [if_pos (by rw [h]), put_absent fun q hq z => n1 (by show p.1 ∈ _; rw [h, ← he _ _ z]; exact List.mem_map_of_mem (f := fun q : κ × Nat => q.1) hq)]
      rfl
    · rw [if_neg h]
      have hg : getK (p :: r) k = getK r k := by
        unfold getK
        rw [List.find?_cons, decide_eq_false h]
      have hv : valD (encK e (p :: r)) (e k) = valD (encK e r) (e k) := by
        rw [enc_val he, enc_val he, List.find?_cons, decide_eq_false h]
      rw [hg]
      unfold putD at ih ⊢
      rw [hv]
      by_cases hs : (valD (encK e r) (e k)).isSome = true
      · rw [if_pos hs] at ih ⊢
        show (if e p.1 = e k then _ else _) :: (encK e r).map _ = _
        rw [if_neg fun z => h (he _ _ z), ih]
        rfl
      · rw [if_neg hs] at ih ⊢
        show (e p.1, D.int _) :: (encK e r ++ _) = _
        rw [ih]
        rfl
end
/-! keys: pieces, stands, rows of stands -/
def strW (a : Wd) : Str := ⟨a.toArray⟩
def pcKey (p : List Wd) : NestedKey := .tup (p.map fun a => .text (SX.S a))
def sdKey (s : Sd) : NestedKey := .tup (s.map pcKey)
def rwKey (r : List Sd) : NestedKey := .tup (r.map sdKey)
theorem SX_inj {a b : Wd} (h : SX.S a = SX.S b) : a = b := by
  have := congrArg (fun x : Str => x.cps.toList) h
  simpa [SX.S] using this
theorem map_inj' {α β : Type} {f : α → β} (hf : ∀ x y, f x = f y → x = y) : ∀ {xs ys : List α}, xs.map f = ys.map f → xs = ys
  | [], [], _ => rfl
  | [], _ :: _, h => nomatch h
  | _ :: _, [], h => nomatch h
  | x :: xs, y :: ys, h => by
    obtain ⟨h1, h2⟩ := List.cons.inj (show f x :: xs.map f = f y :: ys.map f from h)
    rw [hf _ _ h1, map_inj' hf h2]
theorem pcKey_inj (p q : List Wd) (h : pcKey p = pcKey q) : p = q :=
  map_inj' (fun _ _ e => SX_inj (NestedKey.text.inj e)) (NestedKey.tup.inj h)
theorem sdKey_inj (s t : Sd) (h : sdKey s = sdKey t) : s = t := map_inj' pcKey_inj (NestedKey.tup.inj h)
theorem rwKey_inj (r q : List Sd) (h : rwKey r = rwKey q) : r = q := map_inj' sdKey_inj (NestedKey.tup.inj h)
def sdD (s : Sd) : D := .tup (s.map wsD)
def rwD (r : List Sd) : D := .tup (r.map sdD)
theorem keyD_pc (p : List Wd) : keyD (pcKey p) = wsD p := by
  show D.tup (keyDs _) = _
  rw [keyDs_map, List.map_map]
  rfl
theorem keyD_sd (s : Sd) : keyD (sdKey s) = sdD s := by
  show D.tup (keyDs _) = _
  rw [keyDs_map, List.map_map]
  exact congrArg D.tup (List.map_congr_left fun p _ => keyD_pc p)
theorem keyD_rw (r : List Sd) : keyD (rwKey r) = rwD r := by
  show D.tup (keyDs _) = _
  rw [keyDs_map, List.map_map]
  exact congrArg D.tup (List.map_congr_left fun p _ => keyD_sd p)
theorem dep_all {n : Nat} : ∀ {ks : List NestedKey}, (∀ k ∈ ks, k.depth ≤ n) → NestedKey.depthAll ks ≤ n
  | [], _ => by simp [NestedKey.depthAll]
  | k :: ks, h => by
    have h1 := dep_all (n := n) (ks := ks) fun z hz => h z (List.mem_cons_of_mem _ hz)
    have h2 := h k List.mem_cons_self
    simp only [NestedKey.depthAll]
    omega
theorem dep_pc (p : List Wd) : (pcKey p).depth ≤ 1 := by
  have : NestedKey.depthAll (p.map fun a => NestedKey.text (SX.S a)) ≤ 0 := dep_all fun k hk => by
    obtain ⟨a, _, rfl⟩ := List.mem_map.mp hk
    simp [NestedKey.depth]
  simp only [pcKey, NestedKey.depth]
  omega
theorem dep_sd (s : Sd) : (sdKey s).depth ≤ 2 := by
  have : NestedKey.depthAll (s.map pcKey) ≤ 1 := dep_all fun k hk => by
    obtain ⟨a, _, rfl⟩ := List.mem_map.mp hk
    exact dep_pc a
  simp only [sdKey, NestedKey.depth]
  omega
theorem dep_rw (r : List Sd) : (rwKey r).depth ≤ 3 := by
  have : NestedKey.depthAll (r.map sdKey) ≤ 2 := dep_all fun k hk => by
    obtain ⟨a, _, rfl⟩ := List.mem_map.mp hk
    exact dep_sd a
  simp only [rwKey, NestedKey.depth]
  omega
theorem dep_sd8 (s : Sd) : (sdKey s).depth ≤ 8 := Nat.le_trans (dep_sd s) (by decide)
theorem dep_rw8 (r : List Sd) : (rwKey r).depth ≤ 8 := Nat.le_trans (dep_rw r) (by decide)
/-! the machine -/
def pairsR (s : Sd × Nat) (R : List (List Sd × Nat)) : List (List Sd × Nat) := R.map fun r => (s.1 :: r.1, s.2 * r.2)
def stepsR (K : Nat → List (Sd × Nat)) (R : Nat → List (List Sd × Nat)) (n : Nat) : List (List Sd × Nat) := (List.range n).flatMap fun i => (K (i + 1)).flatMap fun s => pairsR s (R i)
def rowsK (K : Nat → List (Sd × Nat)) : Nat → Nat → List (List Sd × Nat)
  | 0, m => if m = 0 then [([], 1)] else []
  | l + 1, m => foldK [] (stepsR K (fun i => rowsK K l (m - (i + 1))) (m - l))
theorem rowsK_congr {K K' : Nat → List (Sd × Nat)} : ∀ (l m : Nat), (∀ k, 1 ≤ k → k + l ≤ m + 1 → K k = K' k) → rowsK K l m = rowsK K' l m
  | 0, m, _ => rfl
  | l + 1, m, h => by
    unfold rowsK stepsR
    congr 1
    refine flat_congr fun i hi => ?_
    have hi := List.mem_range.mp hi
    show List.flatMap (fun s => pairsR s (rowsK K l (m - (i + 1)))) (K (i + 1)) = List.flatMap (fun s => pairsR s (rowsK K' l (m - (i + 1)))) (K' (i + 1))
    rw [h (i + 1) (by omega) (by omega), rowsK_congr l (m - (i + 1)) fun k h1 h2 => h k h1 (by omega)]
def fitsB (p : T) (o : Wd) (ss : List Sd) : Bool := match p with
  | .leaf => false
  | .node a ks => decide (a = o) && (ks.zip ss).all fun z => decide (words z.1 = [[95]]) || decide (words z.1 ∈ z.2)
def standK (som : List T) (o : Wd) (ss : List Sd) : Sd := (som.filter fun p => fitsB p o ss).map words
def okK (pats : List T) (s : Sd) : Bool := pats.all fun p => !decide (words p ∈ s)
def hereS (som pats : List T) (o : Wd) (r : List Sd × Nat) : List (Sd × Nat) := if okK pats (standK som o r.1) then [(standK som o r.1, r.2)] else []
def hereL (som pats : List T) (os : List Wd) (K : Nat → List (Sd × Nat)) (n : Nat) : List (Sd × Nat) := os.flatMap fun o => (rowsK K (roomF o) n).flatMap (hereS som pats o)
def machF (os : List Wd) (som pats : List T) : Nat → Nat → List (Sd × Nat)
  | 0, k => if k = 1 then [([], 1)] else []
  | n + 1, k => if k = n + 2 then foldK [] (hereL som pats os (machF os som pats n) (n + 2)) else machF os som pats n k
def machK (os : List Wd) (som pats : List T) (k : Nat) : List (Sd × Nat) := machF os som pats (k - 1) k
section
variable {os : List Wd} {som pats : List T}
theorem mach_le : ∀ (n j k : Nat), k ≤ n + 1 → machF os som pats (n + j) k = machF os som pats n k
  | n, 0, k, h => rfl
  | n, j + 1, k, h => by
    rw [show n + (j + 1) = (n + j) + 1 from rfl, machF, if_neg (by omega)]
    exact mach_le n j k h
theorem mach_known {n k : Nat} (h1 : 1 ≤ k) (h : k ≤ n + 1) : machF os som pats n k = machK os som pats k := by
  unfold machK
  obtain ⟨j, rfl⟩ : ∃ j, n = (k - 1) + j := ⟨n - (k - 1), by omega⟩
  exact mach_le (k - 1) j k (by omega)
theorem hereL_congr (hos : ∀ o ∈ os, ∃ n, Op o n) {K K' : Nat → List (Sd × Nat)} {m : Nat} (h : ∀ k, 1 ≤ k → k < m → K k = K' k) : hereL som pats os K m = hereL som pats os K' m := by
  unfold hereL
  refine flat_congr fun o ho => ?_
  obtain ⟨n, hn⟩ := hos o ho
  have := (op_opB hn).2
  obtain ⟨_, _, h2, _⟩ := hn
  rw [rowsK_congr _ _ fun k h1 h3 => h k h1 (by omega)]
theorem mach_succ (hos : ∀ o ∈ os, ∃ n, Op o n) (n : Nat) : machK os som pats (n + 2) = foldK [] (hereL som pats os (machK os som pats) (n + 2)) := by
  show machF os som pats (n + 1) (n + 2) = _
  rw [machF, if_pos rfl, hereL_congr hos fun k h1 h2 => mach_known h1 (by omega)]
theorem mach_one : machK os som pats 1 = [([], 1)] := rfl
end
/-! what stands at a tree -/
mutual
def standT (som : List T) : T → Sd
  | .leaf => []
  | .node o ks => standK som o (standTL som ks)
def standTL (som : List T) : List T → List Sd
  | [] => []
  | k :: ks => standT som k :: standTL som ks
end
mutual
def freeB (som pats : List T) : T → Bool
  | .leaf => true
  | .node o ks => okK pats (standK som o (standTL som ks)) && freeBL som pats ks
def freeBL (som pats : List T) : List T → Bool
  | [] => true
  | k :: ks => freeB som pats k && freeBL som pats ks
end
section
variable {os : List Wd} {som pats : List T}
abbrev freeT (os : List Wd) (som pats : List T) (k : Nat) : List T := (knownT os k).filter (freeB som pats)
theorem rows_filter {kn : Nat → List T} : ∀ (l m : Nat), rowsT (fun k => (kn k).filter (freeB som pats)) l m = (rowsT kn l m).filter (freeBL som pats)
  | 0, m => by
    unfold rowsT
    by_cases h : m = 0
    · rw [if_pos h, List.filter_cons, freeBL]
      rfl
    · rw [if_neg h]
      rfl
  | l + 1, m => by
    unfold rowsT
    rw [List.filter_flatMap]
    refine flat_congr fun i _ => ?_
    rw [List.filter_flatMap, rows_filter l (m - (i + 1))]
    generalize hR : rowsT kn l (m - (i + 1)) = R
    induction kn (i + 1) with
    | nil => rfl
    | cons t ts ih =>
      rw [List.filter_cons, List.flatMap_cons]
      have e : (R.map (t :: ·)).filter (freeBL som pats) = if freeB som pats t then (R.filter (freeBL som pats)).map (t :: ·) else [] := by
        clear hR ih
        induction R with
        | nil => split <;> rfl
        | cons r R ih2 =>
          rw [List.map_cons, List.filter_cons, ih2]
          by_cases h : freeB som pats t = true
          · rw [if_pos h, if_pos h, List.filter_cons, freeBL, h, Bool.true_and]
            split <;> rfl
          · have h : freeB som pats t = false := by simpa using h
            rw [freeBL, h]
            simp
      rw [e]
      by_cases h : freeB som pats t = true
      · rw [if_pos h, if_pos h, List.flatMap_cons, ih]
      · rw [if_neg h, if_neg h, ih]
        rfl
theorem sum_flatMap' {α β : Type} (g : β → Nat) (f : α → List β) : ∀ xs : List α, ((xs.flatMap f).map g).sum = (xs.map fun x => ((f x).map g).sum).sum
  | [] => rfl
  | x :: xs => by
    rw [List.flatMap_cons, List.map_append, List.sum_append, sum_flatMap' g f xs]
    rfl
theorem phi_flat {κ α : Type} (h : κ → Nat) (f : α → List (κ × Nat)) (xs : List α) : phi h (xs.flatMap f) = (xs.map fun x => phi h (f x)).sum := sum_flatMap' _ _ _
theorem sum_mul_l {α : Type} (c : Nat) (f : α → Nat) : ∀ xs : List α, (xs.map fun x => c * f x).sum = c * (xs.map f).sum
  | [] => rfl
  | x :: xs => by
    simp only [List.map_cons, List.sum_cons, sum_mul_l c f xs, Nat.mul_add]
theorem phi_pairs (h : List Sd → Nat) (s : Sd × Nat) (R : List (List Sd × Nat)) : phi h (pairsR s R) = s.2 * phi (fun r => h (s.1 :: r)) R := by
  unfold phi pairsR
  rw [List.map_map, ← sum_mul_l]
  congr 1
  exact List.map_congr_left fun r _ => Nat.mul_assoc _ _ _
theorem phi_rows {K : Nat → List (Sd × Nat)} {F : Nat → List T} : ∀ (l m : Nat) (h : List Sd → Nat), (∀ k, 1 ≤ k → k + l ≤ m + 1 → ∀ h : Sd → Nat, phi h (K k) = ((F k).map fun t => h (standT som t)).sum) →
    phi h (rowsK K l m) = ((rowsT F l m).map fun row => h (standTL som row)).sum
  | 0, m, h, _ => by
    unfold rowsK rowsT
    split
    · simp [phi, standTL]
    · rfl
  | l + 1, m, h, hK => by
    unfold rowsK rowsT stepsR
    rw [phi_fold, phi_nil, Nat.zero_add, phi_flat, sum_flatMap']
    congr 1
    refine List.map_congr_left fun i hi => ?_
    have hi := List.mem_range.mp hi
    rw [phi_flat, sum_flatMap']
    have e : ((K (i + 1)).map fun x => phi h (pairsR x (rowsK K l (m - (i + 1))))) = (K (i + 1)).map fun p => p.2 * (fun s => ((rowsT F l (m - (i + 1))).map fun row => h (s :: standTL som row)).sum) p.1 :=
      List.map_congr_left fun p _ => by rw [phi_pairs, phi_rows l (m - (i + 1)) _ fun k h1 h2 => hK k h1 (by omega)]
    rw [e]
    refine (hK (i + 1) (by omega) (by omega) fun s => ((rowsT F l (m - (i + 1))).map fun row => h (s :: standTL som row)).sum).trans ?_
    congr 1
    refine List.map_congr_left fun t _ => ?_
    rw [List.map_map]
    rfl
theorem phi_here (h : Sd → Nat) (o : Wd) (R : List (List Sd × Nat)) : phi h (R.flatMap (hereS som pats o)) = phi (fun ss => if okK pats (standK som o ss) then h (standK som o ss) else 0) R := by
  rw [phi_flat]
  unfold phi
  congr 1
  refine List.map_congr_left fun r _ => ?_
  unfold hereS
  split
  · rename_i hc
    show (r.2 * h (standK som o r.1) + 0) = r.2 * (if okK pats (standK som o r.1) then h (standK som o r.1) else 0)
    rw [if_pos hc, Nat.add_zero]
  · rename_i hc
    show 0 = r.2 * (if okK pats (standK som o r.1) then h (standK som o r.1) else 0)
    rw [if_neg hc, Nat.mul_zero]
theorem sum_filter' {α : Type} (p : α → Bool) (g : α → Nat) : ∀ xs : List α, ((xs.filter p).map g).sum = (xs.map fun x => if p x then g x else 0).sum
  | [] => rfl
  | x :: xs => by
    rw [List.filter_cons]
    by_cases h : p x = true
    · rw [if_pos h, List.map_cons, List.sum_cons, sum_filter' p g xs, List.map_cons, List.sum_cons, if_pos h]
    · rw [if_neg h, sum_filter' p g xs, List.map_cons, List.sum_cons, if_neg h, Nat.zero_add]
theorem phi_mach (hos : ∀ o ∈ os, ∃ n, Op o n) : ∀ k, 1 ≤ k → ∀ h : Sd → Nat, phi h (machK os som pats k) = ((freeT os som pats k).map fun t => h (standT som t)).sum := by
  intro k
  induction k using Nat.strongRecOn with
  | _ k ih =>
    intro h1 h
    match k, h1 with
    | 1, _ =>
      have e : freeT os som pats 1 = [.leaf] := by
        unfold freeT
        rw [known_one, List.filter_cons, freeB]
        rfl
      rw [e, mach_one]
      show phi h [([], 1)] = ([T.leaf].map fun t => h (standT som t)).sum
      simp [phi, standT]
    | n + 2, _ =>
      rw [mach_succ hos, phi_fold, phi_nil, Nat.zero_add]
      unfold hereL
      rw [phi_flat]
      have e0 : ((freeT os som pats (n + 2)).map fun t => h (standT som t)).sum = (((treesT os (knownT os) (n + 2)).filter (freeB som pats)).map fun t => h (standT som t)).sum := by
        unfold freeT
        rw [known_succ hos, sum_filter', sum_filter']
        exact List.Perm.sum_nat ((List.mergeSort_perm _ _).map _)
      rw [e0]
      unfold treesT
      rw [sum_filter', sum_flatMap']
      congr 1
      refine List.map_congr_left fun o ho => ?_
      obtain ⟨j, hj⟩ := hos o ho
      have hro := (op_opB hj).2
      have h2 : 2 ≤ roomF o := by
        rw [hro]
        obtain ⟨_, _, h2, _⟩ := hj
        exact h2
      rw [phi_here, phi_rows (F := freeT os som pats) _ _ _ fun k h3 h4 => ih k (by omega) h3, rows_filter, sum_filter', List.map_map]
      congr 1
      refine List.map_congr_left fun row _ => ?_
      show _ = if freeB som pats (.node o row) = true then h (standT som (.node o row)) else 0
      rw [freeB, standT]
      by_cases a : freeBL som pats row = true
      · rw [if_pos a, a, Bool.and_true]
      · rw [if_neg a]
        have a : freeBL som pats row = false := by simpa using a
        rw [a, Bool.and_false]
        rfl
theorem mach_tot (hos : ∀ o ∈ os, ∃ n, Op o n) {k : Nat} (h : 1 ≤ k) : tot (machK os som pats k) = (freeT os som pats k).length := by
  rw [tot, phi_mach hos k h, sum_const, Nat.mul_one]
theorem rows_tot (hos : ∀ o ∈ os, ∃ n, Op o n) (l m : Nat) : tot (rowsK (machK os som pats) l m) ≤ (rowsT (knownT os) l m).length := by
  rw [tot, phi_rows (F := freeT os som pats) _ _ _ fun k h3 _ => phi_mach hos k h3, rows_filter]
  rw [sum_const, Nat.mul_one]
  exact List.length_filter_le _ _
end
/-! all is nodup and above nought -/
theorem pairs_pos {s : Sd × Nat} {R : List (List Sd × Nat)} (h : 1 ≤ s.2) (hR : PosK R) : PosK (pairsR s R) := fun p hp => by
  obtain ⟨r, hr, rfl⟩ := List.mem_map.mp hp
  exact Nat.mul_pos h (hR r hr)
theorem steps_pos {K : Nat → List (Sd × Nat)} {R : Nat → List (List Sd × Nat)} {n : Nat} (hK : ∀ i, i < n → PosK (K (i + 1))) (hR : ∀ i, i < n → PosK (R i)) : PosK (stepsR K R n) := fun p hp => by
  obtain ⟨i, hi, hp⟩ := List.mem_flatMap.mp hp
  obtain ⟨s, hs, hp⟩ := List.mem_flatMap.mp hp
  have hi := List.mem_range.mp hi
  exact pairs_pos (hK i hi s hs) (hR i hi) p hp
theorem rows_nodup {K : Nat → List (Sd × Nat)} : ∀ (l m : Nat), ((rowsK K l m).map (·.1)).Nodup
  | 0, m => by
    unfold rowsK
    split
    · simp
    · exact List.nodup_nil
  | l + 1, m => by
    unfold rowsK
    exact fold_nodup _ [] List.nodup_nil
theorem rowsK_len {K : Nat → List (Sd × Nat)} : ∀ (l m : Nat), ∀ p ∈ rowsK K l m, p.1.length = l
  | 0, m, p, hp => by
    unfold rowsK at hp
    split at hp
    · rw [List.mem_singleton.mp hp]
      rfl
    · cases hp
  | l + 1, m, p, hp => by
    unfold rowsK at hp
    have h := (fold_keys _ [] p.1 (List.mem_map_of_mem hp)).elim (fun z => nomatch z) id
    obtain ⟨q, hq, e⟩ := List.mem_map.mp h
    obtain ⟨i, hi, hq⟩ := List.mem_flatMap.mp hq
    obtain ⟨s, hs, hq⟩ := List.mem_flatMap.mp hq
    obtain ⟨r, hr, rfl⟩ := List.mem_map.mp hq
    rw [← e]
    show (r.1.length + 1) = l + 1
    rw [rowsK_len l _ r hr]
theorem rows_pos {K : Nat → List (Sd × Nat)} : ∀ (l m : Nat), (∀ k, 1 ≤ k → k + l ≤ m + 1 → PosK (K k)) → PosK (rowsK K l m)
  | 0, m, _ => by
    unfold rowsK
    split
    · intro p hp
      obtain rfl := List.mem_singleton.mp hp
      exact Nat.le_refl _
    · intro p hp
      cases hp
  | l + 1, m, h => by
    unfold rowsK
    exact fold_pos _ [] (fun p hp => nomatch hp) (steps_pos (fun i hi => h (i + 1) (by omega) (by omega)) fun i hi => rows_pos l _ fun k h1 h2 => h k h1 (by omega))
theorem here_pos {som pats : List T} {o : Wd} {R : List (List Sd × Nat)} (h : PosK R) : PosK (R.flatMap (hereS som pats o)) := fun p hp => by
  obtain ⟨r, hr, hp⟩ := List.mem_flatMap.mp hp
  unfold hereS at hp
  split at hp
  · obtain rfl := List.mem_singleton.mp hp
    exact h r hr
  · cases hp
section
variable {os : List Wd} {som pats : List T}
theorem mach_pos (hos : ∀ o ∈ os, ∃ n, Op o n) : ∀ k, 1 ≤ k → PosK (machK os som pats k) := by
  intro k
  induction k using Nat.strongRecOn with
  | _ k ih =>
    intro h1
    match k, h1 with
    | 1, _ =>
      intro p hp
      rw [List.mem_singleton.mp (show p ∈ [(([] : Sd), 1)] from hp)]
      exact Nat.le_refl _
    | n + 2, _ =>
      rw [mach_succ hos]
      refine fold_pos _ [] (fun p hp => nomatch hp) fun p hp => ?_
      obtain ⟨o, ho, hp⟩ := List.mem_flatMap.mp hp
      obtain ⟨j, hj⟩ := hos o ho
      have hro := (op_opB hj).2
      have h2 : 2 ≤ roomF o := by
        rw [hro]
        obtain ⟨_, _, h2, _⟩ := hj
        exact h2
      exact here_pos (rows_pos _ _ fun k h3 h4 => ih k (by omega) h3) p hp
theorem mach_nodup (hos : ∀ o ∈ os, ∃ n, Op o n) {k : Nat} (h : 1 ≤ k) : ((machK os som pats k).map (·.1)).Nodup := by
  match k, h with
  | 1, _ => exact List.nodup_cons.mpr ⟨List.not_mem_nil, List.nodup_nil⟩
  | n + 2, _ =>
    rw [mach_succ hos]
    exact fold_nodup _ [] List.nodup_nil
end
end
section
variable {P : Program} {w : World} {K : PySem.W.Frag} {mg : Str → Option Value} {base : Heap}
/-! the pieces of patterns, what stands, what is free -/
open Tr
mutual
def subs : T → List T
  | .leaf => []
  | .node o ks => .node o ks :: subsL ks
def subsL : List T → List T
  | [] => []
  | k :: ks => subs k ++ subsL ks
end
def putT (f : List T) (p : T) : List T := if words p ∈ f.map words then f else f ++ [p]
def dedupT (f xs : List T) : List T := xs.foldl putT f
def piecesT (pats : List T) : List T := dedupT [] (pats.flatMap subs)
theorem dedup_app (f xs ys : List T) : dedupT f (xs ++ ys) = dedupT (dedupT f xs) ys := List.foldl_append
theorem dedup_sub : ∀ (xs f : List T) (p : T), p ∈ dedupT f xs → p ∈ f ∨ p ∈ xs
  | [], f, p, h => .inl h
  | x :: xs, f, p, h => by
    rcases dedup_sub xs (putT f x) p h with h | h
    · unfold putT at h
      split at h
      · exact .inl h
      · rcases List.mem_append.mp h with h | h
        · exact .inl h
        · exact .inr (by rw [List.mem_singleton.mp h]; exact List.mem_cons_self)
    · exact .inr (List.mem_cons_of_mem _ h)
theorem put_keep {f : List T} {x : T} {a : List Wd} (h : a ∈ f.map words) : a ∈ (putT f x).map words := by
  unfold putT
  split
  · exact h
  · rw [List.map_append]
    exact List.mem_append_left _ h
theorem put_has (f : List T) (x : T) : words x ∈ (putT f x).map words := by
  unfold putT
  split
  · assumption
  · rw [List.map_append]
    exact List.mem_append_right _ List.mem_cons_self
theorem dedup_has : ∀ (xs f : List T) (a : List Wd), a ∈ f.map words ∨ a ∈ xs.map words → a ∈ (dedupT f xs).map words
  | [], f, a, h => h.elim id fun z => nomatch z
  | x :: xs, f, a, h => by
    refine dedup_has xs (putT f x) a ?_
    rcases h with h | h
    · exact .inl (put_keep h)
    · rcases List.mem_cons.mp h with rfl | h
      · exact .inl (put_has f x)
      · exact .inr h
mutual
theorem subs_ok : ∀ {t : T}, Wf t → ∀ p ∈ subs t, Wf p ∧ p ≠ .leaf
  | .leaf, _, p, h => nomatch h
  | .node o ks, hw, p, h => by
    rcases List.mem_cons.mp h with rfl | h
    · exact ⟨hw, fun z => nomatch z⟩
    · exact subsL_ok hw.2 p h
theorem subsL_ok : ∀ {ts : List T}, WfL ts → ∀ p ∈ subsL ts, Wf p ∧ p ≠ .leaf
  | [], _, p, h => nomatch h
  | k :: ks, hw, p, h => by
    rcases List.mem_append.mp (show p ∈ subs k ++ subsL ks from h) with h | h
    · exact subs_ok hw.1 p h
    · exact subsL_ok hw.2 p h
end
theorem subsL_mem : ∀ {ks : List T} {j : T}, j ∈ ks → ∀ p ∈ subs j, p ∈ subsL ks
  | k :: ks, j, h, p, hp => by
    rcases List.mem_cons.mp h with rfl | h
    · exact List.mem_append_left _ hp
    · exact List.mem_append_right _ (subsL_mem h p hp)
theorem subs_self : ∀ j : T, j = .leaf ∨ j ∈ subs j
  | .leaf => .inl rfl
  | .node o ks => .inr List.mem_cons_self
mutual
theorem subs_kid : ∀ {t : T} {a : Wd} {js : List T}, .node a js ∈ subs t → ∀ j ∈ js, j = .leaf ∨ j ∈ subs t
  | .leaf, _, _, h, _, _ => nomatch h
  | .node o ks, a, js, h, j, hj => by
    rcases List.mem_cons.mp h with e | h
    · obtain ⟨rfl, rfl⟩ := T.node.inj e
      exact (subs_self j).imp id fun z => List.mem_cons_of_mem _ (subsL_mem hj j z)
    · exact (subsL_kid h j hj).imp id (List.mem_cons_of_mem _)
theorem subsL_kid : ∀ {ts : List T} {a : Wd} {js : List T}, .node a js ∈ subsL ts → ∀ j ∈ js, j = .leaf ∨ j ∈ subsL ts
  | [], _, _, h, _, _ => nomatch h
  | k :: ks, a, js, h, j, hj => by
    rcases List.mem_append.mp (show _ ∈ subs k ++ subsL ks from h) with h | h
    · exact (subs_kid h j hj).imp id (List.mem_append_left _)
    · exact (subsL_kid h j hj).imp id (List.mem_append_right _)
end
structure SomOk (som pats : List T) : Prop where
  wf : ∀ p ∈ som, Wf p ∧ p ≠ .leaf
  kid : ∀ a js, .node a js ∈ som → ∀ j ∈ js, j = .leaf ∨ j ∈ som
  pat : ∀ p ∈ pats, p ∈ som
theorem pieces_mem {pats : List T} (hp : ∀ p ∈ pats, Wf p) {x : T} : x ∈ piecesT pats ↔ x ∈ pats.flatMap subs := by
  have hw : ∀ x ∈ pats.flatMap subs, Wf x := fun x hx => by
    obtain ⟨p, h1, h2⟩ := List.mem_flatMap.mp hx
    exact (subs_ok (hp p h1) x h2).1
  refine ⟨fun h => (dedup_sub _ [] x h).elim (fun z => nomatch z) id, fun h => ?_⟩
  obtain ⟨y, h1, h2⟩ := List.mem_map.mp (dedup_has (pats.flatMap subs) [] (words x) (.inr (List.mem_map_of_mem h)))
  have h3 := (dedup_sub _ [] y h1).elim (fun z => nomatch z) id
  rw [← words_eq (hw y h3) (hw x h) h2]
  exact h1
theorem pieces_ok {pats : List T} (hp : ∀ p ∈ pats, Wf p ∧ p ≠ .leaf) : SomOk (piecesT pats) pats := by
  have hw : ∀ p ∈ pats, Wf p := fun p h => (hp p h).1
  refine ⟨fun x hx => ?_, fun a js hx j hj => ?_, fun p h => ?_⟩
  · obtain ⟨p, h1, h2⟩ := List.mem_flatMap.mp ((pieces_mem hw).mp hx)
    exact subs_ok (hw p h1) x h2
  · obtain ⟨p, h1, h2⟩ := List.mem_flatMap.mp ((pieces_mem hw).mp hx)
    exact (subs_kid h2 j hj).imp id fun z => (pieces_mem hw).mpr (List.mem_flatMap.mpr ⟨p, h1, z⟩)
  · exact (pieces_mem hw).mpr (List.mem_flatMap.mpr ⟨p, h, (subs_self p).resolve_left (hp p h).2⟩)
section
variable {som pats : List T}
abbrev atT (som : List T) (t : T) : Sd := (som.filter fun p => holdsB p t).map words
theorem mem_at (S : SomOk som pats) {p t : T} (hp : p ∈ som) : decide (words p ∈ atT som t) = holdsB p t := by
  cases h : holdsB p t with
  | true => exact decide_eq_true (List.mem_map_of_mem (List.mem_filter.mpr ⟨hp, h⟩))
  | false =>
    refine decide_eq_false fun z => ?_
    obtain ⟨q, h1, h2⟩ := List.mem_map.mp z
    obtain ⟨h3, h4⟩ := List.mem_filter.mp h1
    rw [words_eq (S.wf q h3).1 (S.wf p hp).1 h2, h] at h4
    cases h4
theorem word_leaf {p : T} (hw : Wf p) (hn : p ≠ .leaf) : ¬ words p = [[95]] := fun e => hn (words_eq (u := .leaf) hw trivial e)
theorem zip_holds (S : SomOk som pats) : ∀ (js ks : List T), js.length = ks.length → (∀ j ∈ js, j = .leaf ∨ j ∈ som) → ((js.zip (ks.map (atT som))).all fun z => decide (words z.1 = [[95]]) || decide (words z.1 ∈ z.2)) = holdsBL js ks
  | [], [], _, _ => by simp [holdsBL]
  | [], _ :: _, h, _ => by simp at h
  | _ :: _, [], h, _ => by simp at h
  | j :: js, k :: ks, h, hj => by
    have ih := zip_holds S js ks (by simpa using h) fun x hx => hj x (List.mem_cons_of_mem _ hx)
    rw [List.map_cons, List.zip_cons_cons, List.all_cons, ih, holdsBL]
    congr 1
    show (decide (words j = [[95]]) || decide (words j ∈ atT som k)) = holdsB j k
    rcases hj j List.mem_cons_self with rfl | hm
    · rw [holdsB_leaf]
      rfl
    · rw [decide_eq_false (word_leaf (S.wf j hm).1 (S.wf j hm).2), Bool.false_or, mem_at S hm]
theorem fits_holds (S : SomOk som pats) {p : T} (hp : p ∈ som) {o : Wd} {ks : List T} (hw : Op o ks.length) : fitsB p o (ks.map (atT som)) = holdsB p (.node o ks) := by
  match p, hp with
  | .leaf, hp => exact absurd rfl (S.wf _ hp).2
  | .node a js, hp =>
    show (decide (a = o) && _) = holdsB (.node a js) (.node o ks)
    rw [holdsB]
    by_cases h : a = o
    · subst h
      rw [zip_holds S js ks ((S.wf _ hp).1.1.inj hw) (S.kid _ _ hp)]
    · rw [decide_eq_false h]
      rfl
theorem standK_eq (S : SomOk som pats) {o : Wd} {ks : List T} (hw : Op o ks.length) : standK som o (ks.map (atT som)) = atT som (.node o ks) := by
  unfold standK atT
  congr 1
  exact List.filter_congr fun p hp => fits_holds S hp hw
mutual
theorem stand_eq (S : SomOk som pats) : ∀ {t : T}, Wf t → standT som t = atT som t
  | .leaf, _ => by
    rw [standT]
    unfold atT
    rw [List.filter_eq_nil_iff.mpr]
    · rfl
    · intro p hp
      match p, hp with
      | .leaf, hp => exact absurd rfl (S.wf _ hp).2
      | .node a js, hp => simp [holdsB]
  | .node o ks, h => by rw [standT, standL_eq S h.2, standK_eq S h.1]
theorem standL_eq (S : SomOk som pats) : ∀ {ts : List T}, WfL ts → standTL som ts = ts.map (atT som)
  | [], _ => rfl
  | k :: ks, h => by rw [standTL, stand_eq S h.1, standL_eq S h.2]; rfl
end
theorem ok_eq (S : SomOk som pats) (t : T) : okK pats (atT som t) = pats.all fun p => !holdsB p t := by
  unfold okK
  rw [Bool.eq_iff_iff, List.all_eq_true, List.all_eq_true]
  refine ⟨fun h p hp => ?_, fun h p hp => ?_⟩
  · rw [← mem_at S (S.pat p hp)]
    exact h p hp
  · rw [mem_at S (S.pat p hp)]
    exact h p hp
/-- at none of a tree's places -/
def noneAt (p t : T) : Bool := (List.range (words t).length).all fun i => !holdsB p (partAt t i)
def noneAtL (p : T) (ts : List T) : Bool := (List.range (wordsL ts).length).all fun i => !holdsB p (partAtL ts i)
theorem none_node (p : T) (o : Wd) (ks : List T) : noneAt p (.node o ks) = (!holdsB p (.node o ks) && noneAtL p ks) := by
  unfold noneAt noneAtL
  show (List.range ((wordsL ks).length + 1)).all _ = _
  rw [List.range_succ_eq_map, List.all_cons, List.all_map]
  rfl
theorem noneL_cons (p t : T) (ts : List T) : noneAtL p (t :: ts) = (noneAt p t && noneAtL p ts) := by
  unfold noneAt noneAtL
  rw [wordsL_consL, Bool.eq_iff_iff, Bool.and_eq_true, List.all_eq_true, List.all_eq_true, List.all_eq_true]
  simp only [List.mem_range]
  refine ⟨fun h => ⟨fun i hi => ?_, fun i hi => ?_⟩, fun ⟨h1, h2⟩ i hi => ?_⟩
  · have := h i (by omega)
    rw [partAtL, if_pos hi] at this
    exact this
  · have := h ((words t).length + i) (by omega)
    rw [partAtL, if_neg (by omega), Nat.add_sub_cancel_left] at this
    exact this
  · rw [partAtL]
    split
    · rename_i h
      exact h1 i h
    · exact h2 _ (by omega)
theorem all_and (f g : T → Bool) (xs : List T) : (xs.all fun p => f p && g p) = (xs.all f && xs.all g) := by
  rw [Bool.eq_iff_iff, Bool.and_eq_true, List.all_eq_true, List.all_eq_true, List.all_eq_true]
  simp only [Bool.and_eq_true]
  exact ⟨fun h => ⟨fun p hp => (h p hp).1, fun p hp => (h p hp).2⟩, fun ⟨a, b⟩ p hp => ⟨a p hp, b p hp⟩⟩
def bareB (pats : List T) (t : T) : Bool := pats.all fun p => noneAt p t
mutual
theorem free_eq (S : SomOk som pats) : ∀ {t : T}, Wf t → freeB som pats t = bareB pats t
  | .leaf, _ => by
    rw [freeB]
    unfold bareB noneAt
    symm
    rw [List.all_eq_true]
    intro p hp
    match p, S.wf p (S.pat p hp) with
    | .leaf, h => exact absurd rfl h.2
    | .node a js, h => simp [words, partAt, holdsB]
  | .node o ks, h => by
    rw [freeB, standL_eq S h.2, standK_eq S h.1, ok_eq S, freeL_eq S h.2]
    unfold bareB
    rw [← all_and]
    congr 1
    funext p
    exact (none_node p o ks).symm
theorem freeL_eq (S : SomOk som pats) : ∀ {ts : List T}, WfL ts → freeBL som pats ts = pats.all fun p => noneAtL p ts
  | [], _ => by
    rw [freeBL]
    symm
    rw [List.all_eq_true]
    intro p _
    rfl
  | k :: ks, h => by
    rw [freeBL, free_eq S h.1, freeL_eq S h.2]
    unfold bareB
    rw [← all_and]
    congr 1
    funext p
    exact (noneL_cons p k ks).symm
end
end
/-- how many trees are free -/
def freeN (os : List Wd) (pats : List T) (k : Nat) : Nat := ((knownT os k).filter (bareB pats)).length
theorem mach_free {os : List Wd} (hos : ∀ o ∈ os, ∃ n, Op o n) {pats : List T} (hp : ∀ p ∈ pats, Wf p ∧ p ≠ .leaf) {k : Nat} (h : 1 ≤ k) : tot (machK os (piecesT pats) pats k) = freeN os pats k := by
  rw [mach_tot hos h]
  unfold freeN
  congr 1
  exact List.filter_congr fun t ht => free_eq (pieces_ok hp) ((known_ok hos).ok k t ht).1
theorem free_more {os : List Wd} {pats pats' : List T} (h : ∀ p ∈ pats', p ∈ pats) (k : Nat) : freeN os pats k ≤ freeN os pats' k := by
  unfold freeN
  rw [← List.countP_eq_length_filter, ← List.countP_eq_length_filter]
  refine List.countP_mono_left fun t _ hb => ?_
  unfold bareB at hb ⊢
  rw [List.all_eq_true] at hb ⊢
  exact fun p hp => hb p (h p hp)
end
section
variable {P : Program} {w : World} {K : PySem.W.Frag} {mg : Str → Option Value} {base : Heap}
/-! rows_over, in general -/
open Tr
theorem keys_rw (a : List (List Sd × Nat)) : (encK rwKey a).map (fun p => keyD p.1) = a.map fun p => rwD p.1 := by
  unfold encK
  rw [List.map_map]
  exact List.map_congr_left fun p _ => keyD_rw p.1
theorem keys_sd (a : List (Sd × Nat)) : (encK sdKey a).map (fun p => keyD p.1) = a.map fun p => sdD p.1 := by
  unfold encK
  rw [List.map_map]
  exact List.map_congr_left fun p _ => keyD_sd p.1
abbrev sRowsOver : Stmt := topS 23
theorem scRowsOver : FnScope ["known", "lack", "many", "found", "first", "behind", "stand", "row", "key"] ["known", "lack", "many"] (defScope sRowsOver) := ⟨rfl, rfl, rfl, by decide +kernel, rfl, by decide +kernel, by decide +kernel⟩
def spRowsG (P : Program) (w : World) (n : Nat) : SpD := fun ds O Q _ => ∃ (p : Addr) (kvs : List (Key × D)) (M : Nat → List (Sd × Nat)) (l m : Nat), ds = [.obj p, .int (l : Nat), .int (m : Nat)] ∧ O p = some (.dk P w kvs) ∧ (∀ k, 1 ≤ k → k + l ≤ m + 1 → valD kvs (.inl (k : Int)) = some (.dt w (encK sdKey (M k)))) ∧ l ≤ n ∧ n ≤ 4 ∧ m ≤ 100 ∧
  (∀ k, 1 ≤ k → k + l ≤ m + 1 → PosK (M k) ∧ ((M k).map (·.1)).Nodup ∧ tot (M k) < sizeLine) ∧ (∀ l' m', l' ≤ l → m' + (l - l') ≤ m → tot (rowsK M l' m') < sizeLine) ∧ Q (.dt w (encK rwKey (rowsK M l m))) O
theorem line_log {x : Nat} (h : x < sizeLine) : x.log2 < 1000 := log_lt (Nat.lt_of_lt_of_le h (by decide +kernel))
theorem flat_prefix {α β : Type} (f : α → List β) {xs ys : List α} (h : xs <+: ys) : xs.flatMap f <+: ys.flatMap f := by
  obtain ⟨t, rfl⟩ := h
  rw [List.flatMap_append]
  exact List.prefix_append _ _
theorem range_prefix {i n : Nat} (h : i ≤ n) : List.range i <+: List.range n := by
  obtain ⟨d, rfl⟩ : ∃ d, n = i + d := ⟨n - i, by omega⟩
  rw [List.range_add]
  exact List.prefix_append _ _
/-- what is done ahead of the j-th row of the s-th stand of the i-th first -/
def preR (M : Nat → List (Sd × Nat)) (R : Nat → List (List Sd × Nat)) (i j : Nat) : List (List Sd × Nat) := stepsR M R i ++ ((M (i + 1)).take j).flatMap fun s => pairsR s (R i)
theorem pre_zero (M R i) : preR M R i 0 = stepsR M R i := by simp [preR]
theorem pre_all (M R i) : preR M R i (M (i + 1)).length = stepsR M R (i + 1) := by
  unfold preR stepsR
  rw [List.take_length, List.range_succ, List.flatMap_append]
  simp
theorem pre_succ {M : Nat → List (Sd × Nat)} {R : Nat → List (List Sd × Nat)} {i j : Nat} {s : Sd × Nat} (h : (M (i + 1))[j]? = some s) : preR M R i (j + 1) = preR M R i j ++ pairsR s (R i) := by
  unfold preR
  rw [take_at h, List.flatMap_append]
  simp
theorem pre_prefix {M : Nat → List (Sd × Nat)} {R : Nat → List (List Sd × Nat)} {i j n : Nat} (hi : i < n) (hj : j ≤ (M (i + 1)).length) : preR M R i j <+: stepsR M R n := by
  have h1 : preR M R i j <+: stepsR M R (i + 1) := by
    rw [← pre_all]
    unfold preR
    rw [List.prefix_append_right_inj, List.take_length]
    exact flat_prefix _ (List.take_prefix _ _)
  exact h1.trans (flat_prefix _ (range_prefix hi))
theorem ok_rowsG {f : Addr} {fd : FuncData} {n : Nat} (F : Fun K "rows_over" "rows_over" sRowsOver f fd) (GS : ∀ m, n = m + 1 → Fd P w K mg base "rows_over" (m + 0 + 1) ["known", "lack", "many"] (spRowsG P w m)) (mrng : mg "range" = none) :
    FnOk P w K mg base (L2.CX P w) (n + 0 + 1) f fd ["known", "lack", "many"] (spD K (spRowsG P w n)) := by
  refine fd_ok F scRowsOver (fun ds O Q E ⟨_, _, _, _, _, e, _⟩ => by rw [e]; rfl) (fun cdv A' outer s H E0 hr ds O Q E ⟨p, kvs, M, l, m, e, hp, hkn, hln, hn4, hm, hM, hB, hQ⟩ => ?_)
  subst e
  have nd := scRowsOver.nd
  cases l with
  | zero =>
    walk_at "w"
    repeat walk_at "v"
    refine br (fun h => ?_) (fun h => ?_)
    · have h : m = 0 := by simpa using h
      subst h
      refine WE.fx (w_ndisp (Room.units hr) fun q nq => ?_)
      repeat walk_at "v"
      refine ⟨[], rfl, dep_rw8 [], updO_same, .dt w [(rwKey [], .int 1)], _, .fix updO_same rfl .here, ?_⟩
      rw [updO_updO, delO_updO nq]
      exact hQ
    · have h : m ≠ 0 := by simpa using h
      refine WE.fx (w_dnew fun q nq => ⟨.dt w [], _, .fix updO_same rfl .here, ?_⟩)
      rw [delO_updO nq]
      unfold rowsK at hQ
      rw [if_neg h] at hQ
      exact hQ
  | succ l =>
    obtain ⟨n', rfl⟩ : ∃ n', n = n' + 1 := ⟨n - 1, by omega⟩
    have GS := GS n' rfl
    have hBl := hB (l + 1) m (Nat.le_refl _) (by omega)
    generalize hR : (fun i => rowsK M l (m - (i + 1))) = R
    have hRi : ∀ i, rowsK M l (m - (i + 1)) = R i := fun i => by rw [← hR]
    have hend : rowsK M (l + 1) m = foldK [] (stepsR M R (m - l)) := by rw [← hR]; rfl
    rw [hend] at hQ hBl
    rw [tot, phi_fold, phi_nil, Nat.zero_add] at hBl
    have hposM : ∀ i, i < m - l → PosK (M (i + 1)) := fun i hi => (hM (i + 1) (by omega) (by omega)).1
    have hposR : ∀ i, i < m - l → PosK (R i) := fun i hi => by
      rw [← hRi]
      exact rows_pos l _ fun k h1 h2 => (hM k h1 (by omega)).1
    have hndR : ∀ i, ((R i).map (·.1)).Nodup := fun i => by
      rw [← hRi]
      exact rows_nodup l _
    have hBR : ∀ i, i < m - l → tot (R i) < sizeLine := fun i hi => by
      rw [← hRi]
      exact hB l _ (by omega) (by omega)
    have hpre : ∀ xs : List (List Sd × Nat), xs <+: stepsR M R (m - l) → (foldK [] xs).length < sizeLine := fun xs hx => by
      have h1 : PosK (foldK [] xs) := fold_pos _ [] (fun p hp => nomatch hp) fun p hp => steps_pos hposM hposR p (hx.subset hp)
      have h2 := len_tot h1
      rw [tot, phi_fold, phi_nil, Nat.zero_add] at h2
      exact Nat.lt_of_le_of_lt (Nat.le_trans h2 (tot_prefix hx)) hBl
    walk_at "w"
    repeat walk_at "v"
    refine w_dnew fun q nq => ?_
    have hqp : p ≠ q := fun z => by subst z; rw [nq] at hp; cases hp
    refine wss_cons (ws_for (passes_of rfl) rfl (wi_rng2 mrng ?_))
    repeat walk_at "v"
    refine ⟨_, _, rfl, ⟨by omega, by omega, by omega, by omega⟩, fun i Γ2 O2 => ∃ c4 c5 c6 c7 c8 : Option D, Γ2 = [some (.obj p), some (.int ((l + 1 : Nat))), some (.int (m : Nat)), some (.obj q), c4, c5, c6, c7, c8] ∧
      O2 = updO O q (.dt w (encK rwKey (foldK [] (stepsR M R i)))), ⟨none, none, none, none, none, rfl, rfl⟩, fun _ _ _ _ => trivial, ?_, ?_⟩
    · rintro i d Γ2 O2 hd ⟨c4, c5, c6, c7, c8, rfl, rfl⟩
      obtain ⟨hi, rfl⟩ := rngD_get hd
      have hi : i < m - l := by omega
      have hMi := hM (i + 1) (by omega) (by omega)
      walk_at "v"
      refine wss_cut (fun Γ3 O3 => Γ3 = [some (.obj p), some (.int ((l + 1 : Nat))), some (.int (m : Nat)), some (.obj q), some (.int ((i + 1 : Nat))), some (.dt w (encK rwKey (R i))), c6, c7, c8] ∧
        O3 = updO O q (.dt w (encK rwKey (foldK [] (stepsR M R i))))) ?_ ?_
      · refine ws_set 5 nd (w_call GS hr (by omega) ?_)
        repeat walk_at "v"
        refine ⟨p, kvs, M, l, m - (i + 1), ?_, ?_, fun k h1 h2 => hkn k h1 (by omega), by omega, by omega, by omega, fun k h1 h2 => hM k h1 (by omega), fun l' m' h1 h2 => hB l' m' (by omega) (by omega), ?_, rfl⟩
        · show [D.obj p, D.int _, D.int _] = _
          rw [show ((l + 1 : Nat) : Int) - 1 = (l : Nat) by omega, show ((m : Nat) : Int) - (1 + (i : Nat)) = ((m - (i + 1) : Nat) : Int) by omega]
        · rw [updO_ne hqp]; exact hp
        · show [_, _, _, _, some (D.int _), _, _, _, _] = _
          rw [show (1 : Int) + (i : Nat) = ((i + 1 : Nat) : Int) by omega, hRi]
      rintro Γ3 O3 ⟨rfl, rfl⟩
      refine wss_one (ws_for (passes_of rfl) rfl (wi_n (w_mget ?_)))
      repeat walk_at "v"
      refine ⟨kvs, .inl ((i + 1 : Nat) : Int), _, .inr ⟨p, rfl, by rw [updO_ne hqp]; exact hp⟩, rfl, hkn (i + 1) (by omega) (by omega), ?_⟩
      refine ⟨_, rfl, ?_⟩
      rw [keys_sd]
      refine ⟨fun j Γ4 O4 => ∃ c6 c7 c8 : Option D, Γ4 = [some (.obj p), some (.int ((l + 1 : Nat))), some (.int (m : Nat)), some (.obj q), some (.int ((i + 1 : Nat))), some (.dt w (encK rwKey (R i))), c6, c7, c8] ∧
        O4 = updO O q (.dt w (encK rwKey (foldK [] (preR M R i j)))), ⟨_, _, _, rfl, by rw [pre_zero]⟩, fun _ _ _ _ => trivial, ?_, ?_⟩
      · rintro j d Γ4 O4 hd ⟨c6, c7, c8, rfl, rfl⟩
        obtain ⟨sc, hsc, rfl⟩ := map_at hd
        have hscm := List.mem_of_getElem? hsc
        have hjl := (List.getElem?_eq_some_iff.mp hsc).1
        have hsl := Nat.lt_of_le_of_lt (val_tot hscm) hMi.2.2
        walk_at "v"
        refine wss_one (ws_for (passes_of rfl) rfl (wi_n ?_))
        repeat walk_at "v"
        refine ⟨_, rfl, ?_⟩
        rw [keys_rw]
        refine ⟨fun j2 Γ5 O5 => ∃ c7 c8 : Option D, Γ5 = [some (.obj p), some (.int ((l + 1 : Nat))), some (.int (m : Nat)), some (.obj q), some (.int ((i + 1 : Nat))), some (.dt w (encK rwKey (R i))), some (sdD sc.1), c7, c8] ∧
          O5 = updO O q (.dt w (encK rwKey (foldK [] (preR M R i j ++ pairsR sc ((R i).take j2))))), ⟨_, _, rfl, by simp [pairsR]⟩, fun _ _ _ _ => trivial, ?_, ?_⟩
        · rintro j2 d Γ5 O5 hd ⟨c7, c8, rfl, rfl⟩
          obtain ⟨rd, hrd, rfl⟩ := map_at hd
          have hrdm := List.mem_of_getElem? hrd
          have hrl := Nat.lt_of_le_of_lt (val_tot hrdm) (hBR i hi)
          have hpx : preR M R i j ++ pairsR sc ((R i).take j2) <+: stepsR M R (m - l) := by
            refine List.IsPrefix.trans ?_ (pre_prefix (j := j + 1) hi (by omega))
            rw [pre_succ hsc, List.prefix_append_right_inj]
            unfold pairsR
            rw [List.map_take]
            exact List.take_prefix _ _
          have hlen := hpre _ hpx
          have hnd := fold_nodup (preR M R i j ++ pairsR sc ((R i).take j2)) [] List.nodup_nil
          have hnext : foldK [] (preR M R i j ++ pairsR sc ((R i).take (j2 + 1))) = addK (foldK [] (preR M R i j ++ pairsR sc ((R i).take j2))) (sc.1 :: rd.1) (sc.2 * rd.2) := by
            rw [take_at hrd]
            unfold pairsR
            rw [List.map_append, ← List.append_assoc]
            exact foldK_snoc _ _ _
          generalize hacc : foldK [] (preR M R i j ++ pairsR sc ((R i).take j2)) = acc at hlen hnd hnext ⊢
          refine wg_name 7 nd ?_
          refine wss_cut (fun Γ6 O6 => Γ6 = [some (.obj p), some (.int ((l + 1 : Nat))), some (.int (m : Nat)), some (.obj q), some (.int ((i + 1 : Nat))), some (.dt w (encK rwKey (R i))), some (sdD sc.1), some (rwD rd.1), some (rwD (sc.1 :: rd.1))] ∧ O6 = updO O q (.dt w (encK rwKey acc))) ?_ ?_
          · repeat walk_at "v"
            refine sAdd_tup ?_ ⟨?_, rfl⟩
            · have hrlen : rd.1.length = l := by
                rw [← hRi] at hrdm
                exact rowsK_len l _ rd hrdm
              exact Nat.le_trans (m := 10) (by simp; omega) (by decide)
            · rfl
          rintro Γ6 O6 ⟨rfl, rfl⟩
          have hpq : updO O q (.dt w (encK rwKey acc)) p = some (.dk P w kvs) := by rw [updO_ne hqp]; exact hp
          refine wss_one (ws_dput (Room.units hr) (w_add (w_dget2 (Room.units hr) ?_)))
          repeat walk_at "v"
          refine ⟨⟨_, .inr ⟨q, rfl, updO_same⟩⟩, ?_⟩
          repeat walk_at "v"
          refine ⟨_, _, .inr ⟨q, rfl, updO_same⟩, (keyD_rw (sc.1 :: rd.1)).symm, dep_rw8 _, ?_⟩
          rw [show (NestedKey.tup ((sc.1 :: rd.1).map sdKey)) = rwKey (sc.1 :: rd.1) from rfl, enc_get rwKey_inj]
          refine w_mul (w_dget (Room.units hr) (w_mget ?_))
          repeat walk_at "v"
          refine ⟨kvs, .inl ((i + 1 : Nat) : Int), _, .inr ⟨p, rfl, hpq⟩, rfl, hkn (i + 1) (by omega) (by omega), ?_⟩
          repeat walk_at "v"
          refine ⟨_, _, .int (sc.2 : Nat), .inl rfl, (keyD_sd sc.1).symm, dep_sd8 _, enc_at sdKey_inj hMi.2.1 hscm, ?_⟩
          repeat walk_at "v"
          refine ⟨_, .int (rd.2 : Nat), (keyD_rw rd.1).symm, dep_rw8 _, enc_at rwKey_inj (hndR i) hrdm, ?_⟩
          have b1 := line_log hsl
          have b2 := line_log hrl
          refine sMul_int (.inr (show (_ : Int).natAbs.log2 + (_ : Int).natAbs.log2 < _ by rw [Int.natAbs_natCast, Int.natAbs_natCast]; omega)) ?_
          repeat walk_at "v"
          refine ⟨q, _, _, rfl, updO_same, (keyD_rw (sc.1 :: rd.1)).symm, dep_rw8 _, by rw [encK_len]; exact hlen, ?_⟩
          refine ⟨_, _, rfl, ?_⟩
          rw [updO_updO, show ((getK acc (sc.1 :: rd.1) : Nat) : Int) + ((sc.2 : Nat) : Int) * ((rd.2 : Nat) : Int) = ((getK acc (sc.1 :: rd.1) + sc.2 * rd.2 : Nat) : Int) by simp, show (NestedKey.tup ((sc.1 :: rd.1).map sdKey)) = rwKey (sc.1 :: rd.1) from rfl, enc_put rwKey_inj _ _ _ hnd, hnext]
          rfl
        · rintro Γ5 O5 ⟨c7, c8, rfl, rfl⟩
          refine ⟨_, _, _, rfl, ?_⟩
          rw [List.length_map, List.take_length, pre_succ hsc]
      · rintro Γ4 O4 ⟨c6, c7, c8, rfl, rfl⟩
        refine ⟨_, _, _, _, _, rfl, ?_⟩
        rw [List.length_map, pre_all]
    · rintro Γ2 O2 ⟨c4, c5, c6, c7, c8, rfl, rfl⟩
      rw [rngD_len]
      refine wss_one (ws_ret (WE.fx ?_))
      repeat walk_at "v"
      refine ⟨_, _, .fix updO_same rfl .here, ?_⟩
      rw [delO_updO nq]
      have e : (((m : Nat) : Int) - ((l + 1 : Nat) : Int) + 2 - 1).toNat = m - l := by omega
      rw [e]
      exact hQ
end
section
variable {P : Program} {w : World} {K : PySem.W.Frag} {mg : Str → Option Value} {base : Heap}
/-! pieces, in general -/
open Tr
abbrev sPieces : Stmt := topS 21
theorem scPieces : FnScope ["patterns", "found", "tree", "at", "word", "piece"] ["patterns"] (defScope sPieces) := ⟨rfl, rfl, rfl, by decide +kernel, rfl, by decide +kernel, by decide +kernel⟩
def spPiecesG : SpD := fun ds O Q _ => ∃ pats : List T, ds = [.lst (pats.map treeD)] ∧ (∀ t ∈ pats, Good t) ∧ pats.length ≤ 20 ∧ Mk ((piecesT pats).map treeD) O Q
theorem inQ_trees (x : T) (f : List T) : inQ (treeD x) (f.map treeD) = decide (words x ∈ f.map words) := by
  unfold inQ
  induction f with
  | nil => rfl
  | cons y f ih =>
    rw [List.map_cons, List.any_cons, ih, show eqvD (treeD y) (treeD x) = decide (words y = words x) from eqv_txs2 _ _, List.map_cons, Bool.eq_iff_iff]
    simp only [Bool.or_eq_true, decide_eq_true_eq, List.mem_cons]
    exact ⟨fun h => h.imp Eq.symm id, fun h => h.imp Eq.symm id⟩
theorem dedup_len : ∀ (xs f : List T), (dedupT f xs).length ≤ f.length + xs.length
  | [], f => Nat.le_refl _
  | x :: xs, f => by
    have h := dedup_len xs (putT f x)
    have h2 : (putT f x).length ≤ f.length + 1 := by
      unfold putT
      split
      · omega
      · simp
    show (dedupT (putT f x) xs).length ≤ f.length + (xs.length + 1)
    omega
mutual
theorem subs_len : ∀ t : T, (subs t).length ≤ (words t).length
  | .leaf => Nat.zero_le _
  | .node o ks => by
    have := subsL_len ks
    show (subsL ks).length + 1 ≤ (wordsL ks).length + 1
    omega
theorem subsL_len : ∀ ts : List T, (subsL ts).length ≤ (wordsL ts).length
  | [] => Nat.le_refl _
  | k :: ks => by
    have h1 := subs_len k
    have h2 := subsL_len ks
    show (subs k ++ subsL ks).length ≤ (words k ++ wordsL ks).length
    rw [List.length_append, List.length_append]
    omega
end
theorem subsL_app : ∀ ks js : List T, subsL (ks ++ js) = subsL ks ++ subsL js
  | [], _ => rfl
  | k :: ks, js => by
    show subs k ++ subsL (ks ++ js) = (subs k ++ subsL ks) ++ subsL js
    rw [subsL_app ks js, List.append_assoc]
theorem flat_len {α β : Type} (f : α → List β) (c : Nat) : ∀ xs : List α, (∀ x ∈ xs, (f x).length ≤ c) → (xs.flatMap f).length ≤ xs.length * c
  | [], _ => by simp
  | x :: xs, h => by
    have h1 := flat_len f c xs fun y hy => h y (List.mem_cons_of_mem _ hy)
    have h2 := h x List.mem_cons_self
    rw [List.flatMap_cons, List.length_append, List.length_cons, Nat.succ_mul]
    omega
theorem ok_piecesG {f : Addr} {fd : FuncData} {k : Nat} {t1 : Tok} (F : Fun K "pieces" "pieces" sPieces f fd) (menum : mg "enumerate" = none) (cL : mg "LEAF" = some (.str "_" t1)) (GE : Fd P w K mg base "end_of" 2 ["tree", "at"] spEnd) (hk : 2 ≤ k) :
    FnOk P w K mg base (L2.CX P w) (k + 1) f fd ["patterns"] (spD K spPiecesG) := by
  refine fd_ok F scPieces (fun ds O Q E ⟨_, e, _⟩ => by rw [e]; rfl) (fun cdv A outer s H E0 hr ds O Q E ⟨pats, e, hgd, hl, hQ⟩ => ?_)
  subst e
  have nd := scPieces.nd
  have hw : ∀ t ∈ pats, Wf t := fun t ht => (hgd t ht).1
  have hl13 : ∀ t ∈ pats, (words t).length ≤ 13 := fun t ht => by
    have := words_len (hgd t ht).1
    have := (hgd t ht).2
    omega
  walk_at "w"
  repeat walk_at "v"
  refine .own fun q nq => ?_
  repeat walk_at "v"
  refine wss_cons (ws_for (passes_of rfl) rfl (wi_list ?_))
  repeat walk_at "v"
  refine ⟨_, rfl, fun i Γ2 O2 => ∃ c2 c3 c4 c5 : Option D, Γ2 = [some (.lst (pats.map treeD)), some (.obj q), c2, c3, c4, c5] ∧ O2 = updO O q (.lst ((dedupT [] ((pats.take i).flatMap subs)).map treeD)), ⟨none, none, none, none, rfl, rfl⟩, fun _ _ _ _ => rfl, ?_, ?_⟩
  · rintro i d Γ2 O2 hd ⟨c2, c3, c4, c5, rfl, rfl⟩
    obtain ⟨t, ht, rfl⟩ := map_at hd
    have htm := List.mem_of_getElem? ht
    have htl := hl13 t htm
    have hil := (List.getElem?_eq_some_iff.mp ht).1
    generalize hb : dedupT [] ((pats.take i).flatMap subs) = b
    have hbl : b.length ≤ 260 := by
      have h1 := dedup_len ((pats.take i).flatMap subs) []
      rw [hb] at h1
      have h2 := flat_len subs 13 (pats.take i) fun x hx => Nat.le_trans (subs_len x) (hl13 x (List.mem_of_mem_take hx))
      have h3 : (pats.take i).length ≤ 20 := by rw [List.length_take]; omega
      have h4 : (pats.take i).length * 13 ≤ 20 * 13 := Nat.mul_le_mul_right _ h3
      rw [List.length_nil, Nat.zero_add] at h1
      omega
    have hbw : ∀ x ∈ b, Wf x := fun x hx => by
      rw [← hb] at hx
      obtain ⟨y, h1, h2⟩ := List.mem_flatMap.mp ((dedup_sub _ [] x hx).elim (fun z => nomatch z) id)
      exact (subs_ok (hw y (List.mem_of_mem_take h1)) x h2).1
    walk_at "v"
    refine wss_one (ws_for (passes_of rfl) rfl (wi_enumT menum ?_))
    repeat walk_at "v"
    refine ⟨_, rfl, fun j Γ3 O3 => ∃ (c3 c4 c5 : Option D) (G pre : List T), WfL G ∧ (words t).drop j = wordsL G ∧ subs t = pre ++ subsL G ∧ Γ3 = [some (.lst (pats.map treeD)), some (.obj q), some (treeD t), c3, c4, c5] ∧ O3 = updO O q (.lst ((dedupT b pre).map treeD)), ⟨_, _, _, [t], [], ⟨hw t htm, trivial⟩, by simp [wordsL], by simp [subsL], rfl, rfl⟩, fun _ _ _ _ => trivial, ?_, ?_⟩
    · rintro j d Γ3 O3 hd ⟨c3, c4, c5, G, pre, hG, hdr, hsub, rfl, rfl⟩
      obtain ⟨x, hx, rfl⟩ := enumD_get hd
      obtain ⟨a, ha, rfl⟩ := txs_at hx
      obtain ⟨hjl, hja⟩ := List.getElem?_eq_some_iff.mp ha
      have hda : (words t).drop j = a :: (words t).drop (j + 1) := by rw [List.drop_eq_getElem_cons hjl, hja]
      have htk : ((words t).take j).length = j := by rw [List.length_take]; omega
      refine wg_pr rfl (wgs_cons (wg_name 3 nd (wgs_cons (wg_name 4 nd (wgs_nil ?_))))) rfl
      match G, hG, hdr, hsub with
      | [], _, hdr, _ => rw [hda] at hdr; cases hdr
      | g :: G, hG, hdr, hsub =>
        have hsp : words t = (words t).take j ++ (words g ++ wordsL G) := by
          rw [show words g ++ wordsL G = (words t).drop j from hdr.symm, List.take_append_drop]
        have hgl : j + (words g).length ≤ (words t).length := by
          have := congrArg List.length hdr
          rw [List.length_drop] at this
          have h2 : (wordsL (g :: G)).length = (words g).length + (wordsL G).length := wordsL_consL g G
          have h3 := List.length_pos_iff.mpr (words_ne g)
          omega
        refine wss_cut (fun Γ4 O4 => Γ4 = [some (.lst (pats.map treeD)), some (.obj q), some (treeD t), some (.int (j : Nat)), some (tx a), some (treeD g)] ∧ O4 = updO O q (.lst ((dedupT b pre).map treeD))) ?_ ?_
        · refine ws_set 5 nd (w_sl ?_)
          repeat walk_at "v"
          refine ⟨(words t).take j, g, wordsL G, ?_, hG.1, ?_⟩
          · rw [← hsp, htk]
          rw [htk]
          repeat walk_at "v"
          refine ⟨?_, rfl⟩
          have e1 : cutD ((words t).map tx) (some (j : Int)) (some (((j + (words g).length : Nat)) : Int)) = (words g).map tx := by
            rw [cutD_mid (m := j) (n := j + (words g).length) (by simp) (by simp) (by omega) (by rw [List.length_map]; omega)]
            rw [← List.map_drop, Nat.add_sub_cancel_left, ← List.map_take, hdr]
            show ((words g ++ wordsL G).take _).map tx = _
            rw [List.take_left]
          rw [e1]
          rfl
        rintro Γ4 O4 ⟨rfl, rfl⟩
        cases g with
        | leaf =>
          obtain ⟨rfl, hdp2⟩ := List.cons.inj (show a :: _ = [95] :: wordsL G from hda.symm.trans hdr)
          repeat walk_at "v"
          exact ⟨_, _, _, G, pre, hG.2, hdp2, hsub, rfl, rfl⟩
        | node o ks =>
          have hop : Op o ks.length := hG.1.1
          obtain ⟨rfl, hdp2⟩ := List.cons.inj (show a :: _ = o :: (wordsL ks ++ wordsL G) from hda.symm.trans hdr)
          have hG' : WfL (ks ++ G) := (WfL_append _ _).mpr ⟨hG.1.2, hG.2⟩
          have hdp3 : (words t).drop (j + 1) = wordsL (ks ++ G) := by rw [wordsL_append]; exact hdp2
          have hsub2 : subs t = (pre ++ [.node a ks]) ++ subsL (ks ++ G) := by
            rw [hsub, subsL_app, List.append_assoc]
            rfl
          have hpl : pre.length ≤ 13 := by
            have h1 := subs_len t
            rw [hsub, List.length_append] at h1
            omega
          have hfl : (dedupT b pre).length ≤ 273 := by
            have := dedup_len pre b
            omega
          have hfw : ∀ x ∈ dedupT b pre, Wf x := fun x hx => (dedup_sub _ _ x hx).elim (hbw x) fun z => (subs_ok (hw t htm) x (by rw [hsub]; exact List.mem_append_left _ z)).1
          have hnx : dedupT b (pre ++ [.node a ks]) = putT (dedupT b pre) (.node a ks) := by
            rw [dedup_app]
            rfl
          generalize hfd : dedupT b pre = fd0 at hfl hfw hnx ⊢
          walk_at "w"
          repeat walk_at "v"
          refine br_t (by rw [decide_eq_false (show ¬ a = (Str.ofString "_").cps.toList from hop.ne)]; rfl) ?_
          refine ww_one (.inl rfl) (wt_ninQ (Nat.lt_of_le_of_lt (Nat.add_le_add_left (by decide : 65 ≤ 70) _) (Room.units70 hr)) ?_)
          repeat walk_at "v"
          refine ⟨_, asL_obj updO_same, good_tree2 hG.1, good_trees2 hfw, ?_⟩
          rw [inQ_trees]
          by_cases hin : words (.node a ks) ∈ fd0.map words
          · rw [decide_eq_true hin]
            refine ⟨false, rfl, ?_⟩
            refine br_f (by rfl) (wss_nil ?_)
            refine ⟨_, _, _, ks ++ G, _, hG', hdp3, hsub2, rfl, ?_⟩
            rw [hnx]
            unfold putT
            rw [if_pos hin]
          · rw [decide_eq_false hin]
            refine ⟨true, rfl, ?_⟩
            refine br_t (by rfl) ?_
            repeat (first | refine w_append ?_ | walk_at "v")
            refine ⟨q, rfl, ⟨_, updO_same⟩, ?_⟩
            repeat walk_at "v"
            refine ⟨_, updO_same, Nat.lt_of_lt_of_le (m := 300) (by rw [List.length_map]; omega) (by decide), ?_⟩
            refine ⟨_, _, _, ks ++ G, _, hG', hdp3, hsub2, rfl, ?_⟩
            rw [updO_updO, hnx]
            unfold putT
            rw [if_neg hin, List.map_append]
            rfl
    · rintro Γ3 O3 ⟨c3, c4, c5, G, pre, hG, hdr, hsub, rfl, rfl⟩
      rw [enumD_len, List.length_map, List.drop_length] at hdr
      have hG0 : G = [] := by
        cases G with
        | nil => rfl
        | cons g G => exact absurd (List.append_eq_nil_iff.mp (show words g ++ wordsL G = [] from hdr.symm)).1 (words_ne g)
      subst hG0
      refine ⟨_, _, _, _, rfl, ?_⟩
      rw [take_at ht, List.flatMap_append, dedup_app, hb]
      rw [show [t].flatMap subs = subs t by simp, hsub]
      simp [subsL]
  · rintro Γ2 O2 ⟨c2, c3, c4, c5, rfl, rfl⟩
    rw [List.length_map, List.take_length]
    repeat walk_at "v"
    exact endL nq hQ
end
section
variable {P : Program} {w : World} {K : PySem.W.Frag} {mg : Str → Option Value} {base : Heap}
/-! fits_over, in general -/
open Tr
abbrev sFits : Stmt := topS 22
theorem scFits : FnScope ["piece", "operation", "stands", "stand", "below"] ["piece", "operation", "stands"] (defScope sFits) := ⟨rfl, rfl, rfl, by decide +kernel, rfl, by decide +kernel, by decide +kernel⟩
def spFitsG : SpD := fun ds O Q _ => ∃ (p : T) (o : Wd) (ss : List Sd), ds = [treeD p, tx o, rwD ss] ∧ Good p ∧ p ≠ .leaf ∧ ss.length ≤ 4 ∧ (∀ s ∈ ss, ∀ x ∈ s, WsOk x) ∧ Q (.bl (fitsB p o ss)) O
theorem inQ_wss (x : List Wd) (s : Sd) : inQ (wsD x) (s.map wsD) = decide (x ∈ s) := by
  unfold inQ
  induction s with
  | nil => rfl
  | cons y f ih =>
    rw [List.map_cons, List.any_cons, ih, show eqvD (wsD y) (wsD x) = decide (y = x) from eqv_txs2 _ _, Bool.eq_iff_iff]
    simp only [Bool.or_eq_true, decide_eq_true_eq, List.mem_cons]
    exact ⟨fun h => h.imp Eq.symm id, fun h => h.imp Eq.symm id⟩
theorem ok_fitsG {f : Addr} {fd : FuncData} {k : Nat} {t1 : Tok} (F : Fun K "fits_over" "fits_over" sFits f fd) (mall : mg "all" = none) (mzip : mg "zip" = none) (cL : mg "LEAF" = some (.str "_" t1)) (GP : Fd P w K mg base "parts_of" 3 ["tree", "at"] spPartsOf) (hk : 3 ≤ k) :
    FnOk P w K mg base (L2.CX P w) (k + 1) f fd ["piece", "operation", "stands"] (spD K spFitsG) := by
  refine fd_ok F scFits (fun ds O Q E ⟨_, _, _, e, _⟩ => by rw [e]; rfl) (fun cdv A outer s H E0 hr ds O Q E ⟨p, a, ss, e, hg, hne, hss, hso, hQ⟩ => ?_)
  subst e
  have nd := scFits.nd
  match p, hg, hne with
  | .leaf, _, hne => exact absurd rfl hne
  | .node o ks, hg, _ =>
  have hlen := words_len hg.1
  have h7 := hg.2
  have hkl : ks.length ≤ 4 := by
    obtain ⟨_, _, _, h4, _⟩ := hg.1.1
    exact h4
  have hhd : ((words (.node o ks)).map tx)[0]? = some (tx o) := rfl
  refine wss_cut (fun Γ2 O2 => o = a ∧ Γ2 = [some (treeD (.node o ks)), some (tx a), some (rwD ss), none, none] ∧ O2 = O) ?_ ?_
  · refine ws_if ?_
    repeat walk_at "v"
    refine sIx_t (atI_of (j := 0) rfl hhd) ?_
    repeat walk_at "v"
    by_cases h : o = a
    · refine br_f (by rw [decide_eq_true h]; rfl) (wss_nil ?_)
      exact ⟨h, rfl, rfl⟩
    · refine br_t (by rw [decide_eq_false h]; rfl) ?_
      repeat walk_at "v"
      rw [fitsB, decide_eq_false h, Bool.false_and] at hQ
      exact hQ
  rintro Γ2 O2 ⟨rfl, rfl, rfl⟩
  rw [fitsB, decide_eq_true rfl, Bool.true_and] at hQ
  refine wss_one (ws_ret (w_all rfl mall (w_lc [3, 4] (own := [("stand", 3), ("below", 4)]) rfl nd (blkOk_by rfl) rfl (wi_zipM mzip ?_))))
  repeat walk_at "v"
  refine ⟨[], .node o ks, [], by rw [List.nil_append, List.append_nil]; rfl, hg.1, ?_, .fix ?_⟩
  · simp
    omega
  repeat walk_at "v"
  rw [show kidsOf (.node o ks) = ks from rfl]
  refine ⟨_, _, _, rfl, rfl, lc_all (fun j _ y => ∀ s' t', ss[j]? = some s' → ks[j]? = some t' → y = .bl (decide (words t' = [[95]]) || decide (words t' ∈ s'))) (by rw [zipD_len, List.length_map, List.length_map]; omega) (fun _ _ => rfl) (fun j d O3 hd hs s H Cc cl fp => ?_) (fun ys h1 h2 => .fix ?_)⟩
  · obtain ⟨x, y, hx, hy, rfl⟩ := zipD_get hd
    obtain ⟨sj, hsj, rfl⟩ := map_at hx
    obtain ⟨t, ht, rfl⟩ := map_at hy
    have htm := List.mem_of_getElem? ht
    have hwt := (kids_le htm hg.1.2).1
    have hsm := List.mem_of_getElem? hsj
    refine wgc_pr2 3 4 rfl nd ⟨rfl, fun s H Cc cl fp => w_or (w_eq (Room.units hr) ?_)⟩
    repeat walk_at "v"
    refine sEq_dat rfl rfl (good_tree2 hwt) (by decide +kernel) ?_
    rw [show eqvD (treeD t) (.tup [tx (Str.ofString "_").cps.toList]) = decide (words t = [[95]]) from eqv_txs2 _ [[95]]]
    refine ⟨_, rfl, ?_⟩
    by_cases h : words t = [[95]]
    · rw [decide_eq_true h, if_pos rfl]
      refine ⟨rfl, fun s' t' h1 h2 => ?_⟩
      rw [ht] at h2
      rw [← Option.some.inj h2, decide_eq_true h]
      rfl
    · rw [decide_eq_false h, if_neg (by simp)]
      refine w_one (w_inQ (Nat.lt_of_le_of_lt (Nat.add_le_add_left (by decide : 65 ≤ 70) _) (Room.units70 hr)) ?_)
      repeat walk_at "v"
      refine ⟨_, rfl, good_tree2 hwt, good_wss (hso sj hsm), ?_⟩
      rw [inQ_wss, Bool.false_xor]
      refine ⟨rfl, fun s' t' h1 h2 => ?_⟩
      rw [ht] at h2
      rw [hsj] at h1
      rw [← Option.some.inj h2, ← Option.some.inj h1, decide_eq_false h]
      rfl
  · have e : ys = ((ks.zip ss).map fun z => (decide (words z.1 = [[95]]) || decide (words z.1 ∈ z.2))).map D.bl := by
      refine List.ext_getElem? fun j => ?_
      rw [List.getElem?_map, List.getElem?_map]
      cases hz : (ks.zip ss)[j]? with
      | none =>
        have := List.getElem?_eq_none_iff.mp hz
        rw [List.length_zip] at this
        exact List.getElem?_eq_none_iff.mpr (by rw [h1, zipD_len, List.length_map, List.length_map]; omega)
      | some z =>
        obtain ⟨g1, g2⟩ := List.getElem?_zip_eq_some.mp hz
        have hj1 := (List.getElem?_eq_some_iff.mp g1).1
        have hj2 := (List.getElem?_eq_some_iff.mp g2).1
        obtain ⟨y, hy, hp⟩ := h2 j _ (List.getElem?_eq_getElem (by rw [zipD_len, List.length_map, List.length_map]; omega))
        rw [hy, hp z.2 z.1 g2 g1]
        rfl
    refine ⟨_, by rw [e]; rfl, ?_⟩
    rw [List.all_map]
    exact hQ
end
section
variable {P : Program} {w : World} {K : PySem.W.Frag} {mg : Str → Option Value} {base : Heap}
/-! counted, of any good patterns -/
open Tr
abbrev ftM : FT := [("word", .inr "BadMany")]
abbrev ftT : FT := [("at", .inl 0), ("word", .inr "BadTree")]
def kvsM (w : World) (M : Nat → List (Sd × Nat)) (n : Nat) : List (Key × D) := (List.range n).map fun i => (.inl ((i + 1 : Nat) : Int), .dt w (encK sdKey (M (i + 1))))
theorem kvsM_len {w : World} {M : Nat → List (Sd × Nat)} {n : Nat} : (kvsM w M n).length = n := by simp [kvsM]
theorem kvsM_put {w : World} {M : Nat → List (Sd × Nat)} {n : Nat} {d : D} (hd : d = .dt w (encK sdKey (M (n + 1)))) (h : valD (kvsM w M n) (.inl ((n + 1 : Nat) : Int)) = none) : putD (kvsM w M n) (.inl ((n + 1 : Nat) : Int)) d = kvsM w M (n + 1) := by
  subst hd
  unfold putD
  rw [h]
  simp [kvsM, List.range_succ]
theorem kvsM_find {w : World} {M : Nat → List (Sd × Nat)} : ∀ (n k : Nat), valD (kvsM w M n) (.inl ((k + 1 : Nat) : Int)) = if k < n then some (.dt w (encK sdKey (M (k + 1)))) else none
  | 0, k => rfl
  | n + 1, k => by
    have ih := kvsM_find (w := w) (M := M) n k
    unfold valD kvsM at ih ⊢
    rw [List.range_succ, List.map_append, List.find?_append]
    by_cases h : k < n
    · rw [if_pos h] at ih
      rw [if_pos (by omega)]
      cases e : ((List.range n).map fun i => (((.inl ((i + 1 : Nat) : Int)) : Key), D.dt w (encK sdKey (M (i + 1))))).find? fun p => decide (p.1 = (.inl ((k + 1 : Nat) : Int) : Key)) with
      | none => rw [e] at ih; cases ih
      | some z => rw [e] at ih; exact ih
    · rw [if_neg h] at ih
      cases e : ((List.range n).map fun i => (((.inl ((i + 1 : Nat) : Int)) : Key), D.dt w (encK sdKey (M (i + 1))))).find? fun p => decide (p.1 = (.inl ((k + 1 : Nat) : Int) : Key)) with
      | some z => rw [e] at ih; cases ih
      | none =>
        by_cases hk : k = n
        · subst hk
          rw [if_pos (by omega)]
          simp
        · rw [if_neg (by omega)]
          simp
          omega
theorem kvsM_at {w : World} {M : Nat → List (Sd × Nat)} {n k : Nat} (h1 : 1 ≤ k) (h2 : k ≤ n) : valD (kvsM w M n) (.inl (k : Int)) = some (.dt w (encK sdKey (M k))) := by
  obtain ⟨k, rfl⟩ : ∃ j, k = j + 1 := ⟨k - 1, by omega⟩
  rw [kvsM_find, if_pos (by omega)]
theorem kvsM_none {w : World} {M : Nat → List (Sd × Nat)} {n : Nat} : valD (kvsM w M n) (.inl ((n + 1 : Nat) : Int)) = none := by
  rw [kvsM_find, if_neg (Nat.lt_irrefl n)]
theorem filt_list {α : Type} {F : α → D} {f : α → Bool} {full : List α} : ∀ (cs : List α) (k : Nat), (∀ l, full[k + l]? = cs[l]?) → filtD (fun l _ => (full[l]?.map f).getD false) (fun _ d => d) k (cs.map F) = (cs.filter f).map F
  | [], _, _ => rfl
  | b :: cs, k, h => by
    have h0 : full[k]? = some b := h 0
    have ih := filt_list (F := F) (f := f) cs (k + 1) (fun l => by rw [show k + 1 + l = k + (l + 1) by omega, h (l + 1)]; rfl)
    show filtD _ _ k (F b :: cs.map F) = _
    unfold filtD
    rw [h0, ih, List.filter_cons]
    show (if (f b) = true then _ else _) = _
    split <;> rfl
/-- what stands is pieces -/
theorem rows_in {M : Nat → List (Sd × Nat)} {S : Sd → Prop} : ∀ (l m : Nat), (∀ k, 1 ≤ k → k + l ≤ m + 1 → ∀ p ∈ M k, S p.1) → ∀ p ∈ rowsK M l m, ∀ s ∈ p.1, S s
  | 0, m, _, p, hp, s, hs => by
    unfold rowsK at hp
    split at hp
    · rw [List.mem_singleton.mp hp] at hs
      cases hs
    · cases hp
  | l + 1, m, h, p, hp, s, hs => by
    unfold rowsK at hp
    have h0 := (fold_keys _ [] p.1 (List.mem_map_of_mem hp)).elim (fun z => nomatch z) id
    obtain ⟨q, hq, e⟩ := List.mem_map.mp h0
    obtain ⟨i, hi, hq⟩ := List.mem_flatMap.mp hq
    obtain ⟨x, hx, hq⟩ := List.mem_flatMap.mp hq
    obtain ⟨r, hr, rfl⟩ := List.mem_map.mp hq
    have hi := List.mem_range.mp hi
    rw [← e] at hs
    rcases List.mem_cons.mp hs with rfl | hs
    · exact h (i + 1) (by omega) (by omega) x hx
    · exact rows_in l (m - (i + 1)) (fun k h1 h2 => h k h1 (by omega)) r hr s hs
theorem mach_in {os : List Wd} {som pats : List T} (hos : ∀ o ∈ os, ∃ n, Op o n) {k : Nat} (h : 1 ≤ k) : ∀ p ∈ machK os som pats k, ∀ x ∈ p.1, x ∈ som.map words := by
  match k, h with
  | 1, _ =>
    intro p hp x hx
    rw [List.mem_singleton.mp (show p ∈ [(([] : Sd), 1)] from hp)] at hx
    cases hx
  | n + 2, _ =>
    rw [mach_succ hos]
    intro p hp x hx
    have h0 := (fold_keys _ [] p.1 (List.mem_map_of_mem hp)).elim (fun z => nomatch z) id
    obtain ⟨q, hq, e⟩ := List.mem_map.mp h0
    obtain ⟨o, ho, hq⟩ := List.mem_flatMap.mp hq
    obtain ⟨r, hr, hq⟩ := List.mem_flatMap.mp hq
    unfold hereS at hq
    split at hq
    · rw [List.mem_singleton.mp hq] at e
      rw [← e] at hx
      obtain ⟨y, h1, rfl⟩ := List.mem_map.mp hx
      exact List.mem_map_of_mem (List.mem_filter.mp h1).1
    · cases hq
mutual
theorem subs_leaves : ∀ (t : T), ∀ p ∈ subs t, leaves p ≤ leaves t
  | .leaf, p, h => nomatch h
  | .node o ks, p, h => by
    rcases List.mem_cons.mp h with rfl | h
    · exact Nat.le_refl _
    · exact subsL_leaves ks p h
theorem subsL_leaves : ∀ (ts : List T), ∀ p ∈ subsL ts, leaves p ≤ leavesL ts
  | [], p, h => nomatch h
  | k :: ks, p, h => by
    show leaves p ≤ leaves k + leavesL ks
    rcases List.mem_append.mp (show p ∈ subs k ++ subsL ks from h) with h | h
    · have := subs_leaves k p h
      omega
    · have := subsL_leaves ks p h
      omega
end
theorem pieces_good {pats : List T} (hp : ∀ p ∈ pats, Good p) : ∀ x ∈ piecesT pats, Good x ∧ x ≠ .leaf := fun x hx => by
  obtain ⟨p, h1, h2⟩ := List.mem_flatMap.mp ((dedup_sub _ [] x hx).elim (fun z => nomatch z) id)
  obtain ⟨h3, h4⟩ := subs_ok (hp p h1).1 x h2
  exact ⟨⟨h3, Nat.le_trans (subs_leaves p x h2) (hp p h1).2⟩, h4⟩
theorem pieces_len {pats : List T} (hp : ∀ p ∈ pats, Good p) (hl : pats.length ≤ 20) : (piecesT pats).length ≤ 260 := by
  have h1 := dedup_len (pats.flatMap subs) []
  have h2 := flat_len subs 13 pats fun x hx => Nat.le_trans (subs_len x) (hp x hx).len
  have h4 : pats.length * 13 ≤ 20 * 13 := Nat.mul_le_mul_right _ hl
  unfold piecesT
  rw [List.length_nil, Nat.zero_add] at h1
  omega
theorem num_line {os : List Wd} (hos : ∀ o ∈ os, ∃ n, Op o n) (h4 : os.length ≤ 4) : ∀ n, 1 ≤ n → n ≤ 8 → numT os n ≤ 7028736 := fun n h1 h2 => by
  have a := num_cap hos h4 n h1 (by omega)
  have b : ∀ n, n < 9 → capN n ≤ 7028736 := by decide +kernel
  exact Nat.le_trans a (b n (by omega))
theorem mach_line {os : List Wd} {som pats : List T} (hos : ∀ o ∈ os, ∃ n, Op o n) (h4 : os.length ≤ 4) {n : Nat} (h1 : 1 ≤ n) (h2 : n ≤ 8) : tot (machK os som pats n) < sizeLine := by
  rw [mach_tot hos h1]
  exact Nat.lt_of_le_of_lt (Nat.le_trans (List.length_filter_le _ _) (num_line hos h4 n h1 h2)) (by decide +kernel)
theorem here_prefix {som pats : List T} {os : List Wd} {M : Nat → List (Sd × Nat)} {n j j2 : Nat} {o : Wd} (ho : os[j]? = some o) :
    (os.take j).flatMap (fun o => (rowsK M (roomF o) n).flatMap (hereS som pats o)) ++ ((rowsK M (roomF o) n).take j2).flatMap (hereS som pats o) <+: hereL som pats os M n := by
  unfold hereL
  refine List.IsPrefix.trans ?_ (flat_prefix _ (List.take_prefix (j + 1) os))
  rw [take_at ho, List.flatMap_append, List.prefix_append_right_inj]
  simp only [List.flatMap_cons, List.flatMap_nil, List.append_nil]
  exact flat_prefix _ (List.take_prefix _ _)
abbrev sCounted : Stmt := topS 24
theorem scCounted : FnScope ["operations", "patterns", "upto", "at", "tree", "some", "known", "many", "here", "operation", "rows", "stands", "stand", "piece"] ["operations", "patterns", "upto"] (defScope sCounted) := ⟨rfl, rfl, rfl, by decide +kernel, rfl, by decide +kernel, by decide +kernel⟩
def spCountedG : SpD := fun ds O Q _ => ∃ (os : List Wd) (pats : List T) (u : Nat), ds = [.lst (os.map tx), .lst (pats.map treeD), .int (u : Nat)] ∧ os.length ≤ 4 ∧ (∀ o ∈ os, ∃ n, Op o n) ∧ os.Nodup ∧ pats.length ≤ 20 ∧ (∀ p ∈ pats, Good p ∧ p ≠ .leaf) ∧ 1 ≤ u ∧ u ≤ 8 ∧
  Q (.lst (((List.range u).map fun k => ((freeN os pats (k + 1) : Nat) : Int)).map .int)) O
theorem ok_countedG {f : Addr} {fd : FuncData} {k : Nat} {C1 : Addr} {t1 t2 : Tok} (F : Fun K "counted" "counted" sCounted f fd) (menum : mg "enumerate" = none) (mrng : mg "range" = none) (msum : mg "sum" = none) (many_ : mg "any" = none) (mtup : mg "tuple" = none) (cL : mg "LEAF" = some (.str "_" t1)) (cM : mg "MOST_MANY" = some (.int 20 t2))
    (GL : Fd P w K mg base "look_at_operations" 4 ["operations"] (spLookX C1)) (GI : Fd P w K mg base "is_tree" 3 ["words"] spIsTreeG) (GP : Fd P w K mg base "pieces" 3 ["patterns"] spPiecesG)
    (GR : Fd P w K mg base "room_of" 1 ["word"] spRoomOf) (GO : Fd P w K mg base "rows_over" (4 + 0 + 1) ["known", "lack", "many"] (spRowsG P w 4)) (GF : Fd P w K mg base "fits_over" 4 ["piece", "operation", "stands"] spFitsG) (hk : 6 ≤ k) :
    FnOk P w K mg base (L2.CX P w) (k + 1) f fd ["operations", "patterns", "upto"] (spD K spCountedG) := by
  refine fd_ok F scCounted (fun ds O Q E ⟨_, _, _, e, _⟩ => by rw [e]; rfl) (fun cdv A outer s H E0 hr ds O Q E ⟨os, pats, u, e, h4, hos, hnd, hpl, hpg, hu1, hu8, hQ⟩ => ?_)
  subst e
  have nd := scCounted.nd
  have hpg1 : ∀ p ∈ pats, Good p := fun p hp => (hpg p hp).1
  walk_at "w"
  repeat walk_at "v"
  refine ⟨_, os, rfl, .inl rfl, by omega, ops_len hos, fun _ => ?_, fun i a h1 h2 _ => absurd (ops_at hos hnd i a h1) h2⟩
  refine wss_cut (fun Γ2 O2 => (∃ c3 c4 : Option D, Γ2 = [some (.lst (os.map tx)), some (.lst (pats.map treeD)), some (.int (u : Nat)), c3, c4, none, none, none, none, none, none, none, none, none]) ∧ O2 = O) ?_ ?_
  · refine ws_for (passes_of rfl) rfl (wi_enum menum ?_)
    repeat walk_at "v"
    refine ⟨_, rfl, fun i Γ2 O2 => (∃ c3 c4 : Option D, Γ2 = [some (.lst (os.map tx)), some (.lst (pats.map treeD)), some (.int (u : Nat)), c3, c4, none, none, none, none, none, none, none, none, none]) ∧ O2 = O, ⟨⟨none, none, rfl⟩, rfl⟩, fun _ _ _ _ => rfl, ?_, fun _ _ h => h⟩
    rintro i d Γ2 O2 hd ⟨⟨c3, c4, rfl⟩, rfl⟩
    obtain ⟨x, hx, rfl⟩ := enumD_get hd
    obtain ⟨t, ht, rfl⟩ := map_at hx
    have htm := List.mem_of_getElem? ht
    obtain ⟨hg, hne⟩ := hpg t htm
    repeat walk_at "v"
    refine ⟨words t, rfl, tree_wsOk hg, ?_⟩
    rw [good_isTreeB hg.1 hg.2]
    repeat walk_at "v"
    refine sEq_dat rfl rfl (good_tree2 hg.1) (by decide +kernel) ?_
    rw [show eqvD (treeD t) (.tup [tx (Str.ofString "_").cps.toList]) = decide (words t = [[95]]) from eqv_txs2 _ [[95]], decide_eq_false (word_leaf hg.1 hne)]
    repeat walk_at "v"
    exact ⟨⟨_, _, rfl⟩, rfl⟩
  rintro Γ3 O3 ⟨⟨c3, c4, rfl⟩, rfl⟩
  refine wss_cut (fun Γ4 O4 => Γ4 = [some (.lst (os.map tx)), some (.lst (pats.map treeD)), some (.int (u : Nat)), c3, c4, none, none, none, none, none, none, none, none, none] ∧ O4 = O3) ?_ ?_
  · refine ws_if ?_
    repeat walk_at "v"
    refine br (fun h1 => ?_) (fun h1 => absurd (of_decide_eq_false h1) (by omega))
    repeat walk_at "v"
    refine br (fun h2 => absurd h2 (by simp; omega)) (fun h2 => ?_)
    repeat walk_at "v"
    exact ⟨rfl, rfl⟩
  rintro Γ4 O4 ⟨rfl, rfl⟩
  refine wss_cut (fun Γ5 O5 => Γ5 = [some (.lst (os.map tx)), some (.lst (pats.map treeD)), some (.int (u : Nat)), c3, c4, some (.lst ((piecesT pats).map treeD)), none, none, none, none, none, none, none, none] ∧ O5 = O4) ?_ ?_
  · repeat walk_at "v"
    exact ⟨pats, rfl, hpg1, hpl, .fix ⟨rfl, rfl⟩⟩
  rintro Γ5 O5 ⟨rfl, rfl⟩
  have hfree : ∀ n, 1 ≤ n → tot (machK os (piecesT pats) pats n) = freeN os pats n := fun n h1 => mach_free hos (fun p hp => ⟨(hpg p hp).1.1, (hpg p hp).2⟩) h1
  have hsg := pieces_good hpg1
  have hsl := pieces_len hpg1 hpl
  generalize hsom : piecesT pats = som at hfree hsg hsl ⊢
  generalize hMM : machK os som pats = M
  have hMs : ∀ n, M (n + 2) = foldK [] (hereL som pats os M (n + 2)) := fun n => by rw [← hMM]; exact mach_succ hos n
  have hMp : ∀ n, 1 ≤ n → PosK (M n) := fun n h1 => by rw [← hMM]; exact mach_pos hos n h1
  have hMn : ∀ n, 1 ≤ n → ((M n).map (·.1)).Nodup := fun n h1 => by rw [← hMM]; exact mach_nodup hos h1
  have hMl : ∀ n, 1 ≤ n → n ≤ 8 → tot (M n) < sizeLine := fun n h1 h2 => by rw [← hMM]; exact mach_line hos h4 h1 h2
  have hMi : ∀ n, 1 ≤ n → ∀ p ∈ M n, ∀ x ∈ p.1, x ∈ som.map words := fun n h1 => by rw [← hMM]; exact mach_in hos h1
  have hMf : ∀ n, 1 ≤ n → tot (M n) = freeN os pats n := fun n h1 => by rw [← hMM]; exact hfree n h1
  have hMr : ∀ o ∈ os, ∀ l m, l ≤ roomF o → m + (roomF o - l) ≤ 8 → tot (rowsK M l m) < sizeLine := fun o ho l m h1 h2 => by
    rw [← hMM]
    exact Nat.lt_of_le_of_lt (Nat.le_trans (rows_tot hos l m) (rows_num_le hos ho h1 h2 (num_line hos h4) (by decide))) (by decide +kernel)
  have hM1 : M 1 = [([], 1)] := by rw [← hMM]; exact mach_one
  clear hMM hfree
  refine wss_cut (fun Γ6 O6 => ∃ p : Addr, O5 p = none ∧ Γ6 = [some (.lst (os.map tx)), some (.lst (pats.map treeD)), some (.int (u : Nat)), c3, c4, some (.lst (som.map treeD)), some (.obj p), none, none, none, none, none, none, none] ∧ O6 = updO O5 p (.dk P w (kvsM w M 1))) ?_ ?_
  · refine ws_set 6 nd (w_mdisp fun p np => ?_)
    repeat walk_at "v"
    refine WE.fx (w_ndisp (Room.units hr) fun q nq => ?_)
    repeat walk_at "v"
    refine ⟨[], rfl, dep_sd8 [], updO_same, .dt w [(sdKey [], .int 1)], _, .fix updO_same rfl .here, ?_⟩
    rw [updO_updO, delO_updO nq]
    refine ⟨.inl 1, rfl, updO_same, ?_⟩
    rw [updO_updO]
    refine ⟨p, np, rfl, ?_⟩
    have e1 : kvsM w M 1 = [(.inl 1, .dt w [(sdKey [], .int 1)])] := by
      show [((.inl ((0 + 1 : Nat) : Int) : Key), D.dt w (encK sdKey (M 1)))] = _
      rw [hM1]
      rfl
    rw [e1]
    rfl
  rintro Γ6 O6 ⟨p, np, rfl, rfl⟩
  refine wss_cut (fun Γ7 O7 => (∃ d7 d8 d9 d10 d11 d12 : Option D, Γ7 = [some (.lst (os.map tx)), some (.lst (pats.map treeD)), some (.int (u : Nat)), c3, c4, some (.lst (som.map treeD)), some (.obj p), d7, d8, d9, d10, d11, d12, none]) ∧ O7 = updO O5 p (.dk P w (kvsM w M u))) ?_ ?_
  · refine ws_for (passes_of rfl) rfl (wi_rng2 mrng ?_)
    repeat walk_at "v"
    refine ⟨_, _, rfl, ⟨by omega, by omega, by omega, by omega⟩, fun i Γ6 O6 => (∃ d7 d8 d9 d10 d11 d12 : Option D, Γ6 = [some (.lst (os.map tx)), some (.lst (pats.map treeD)), some (.int (u : Nat)), c3, c4, some (.lst (som.map treeD)), some (.obj p), d7, d8, d9, d10, d11, d12, none]) ∧ O6 = updO O5 p (.dk P w (kvsM w M (i + 1))), ⟨⟨none, none, none, none, none, none, rfl⟩, rfl⟩, fun _ _ _ _ => trivial, ?_, ?_⟩
    · rintro i d Γ6 O6 hd ⟨⟨d7, d8, d9, d10, d11, d12, rfl⟩, rfl⟩
      obtain ⟨hi, rfl⟩ := rngD_get hd
      have hi : i + 2 ≤ u := by omega
      walk_at "v"
      refine wss_cons (ws_set 8 nd (w_dnew fun q nq => ?_))
      have hqp : p ≠ q := fun e => by subst e; rw [updO_same] at nq; cases nq
      have hB8 := hMl (i + 2) (by omega) (by omega)
      rw [hMs i, tot, phi_fold, phi_nil, Nat.zero_add] at hB8
      have hposL : PosK (hereL som pats os M (i + 2)) := fun x hx => by
        obtain ⟨o, ho, hx⟩ := List.mem_flatMap.mp hx
        have hro := rooms hos (List.mem_map.mpr ⟨o, ho, rfl⟩)
        exact here_pos (rows_pos _ _ fun k h1 h2 => hMp k h1) x hx
      have hpre : ∀ xs : List (Sd × Nat), xs <+: hereL som pats os M (i + 2) → (foldK [] xs).length < sizeLine := fun xs hx => by
        have h1 : PosK (foldK [] xs) := fold_pos _ [] (fun p hp => nomatch hp) fun p hp => hposL p (hx.subset hp)
        have h2 := len_tot h1
        rw [tot, phi_fold, phi_nil, Nat.zero_add] at h2
        exact Nat.lt_of_le_of_lt (Nat.le_trans h2 (tot_prefix hx)) hB8
      refine wss_cut (fun Γ7 O7 => (∃ d9 d10 d11 d12 : Option D, Γ7 = [some (.lst (os.map tx)), some (.lst (pats.map treeD)), some (.int (u : Nat)), c3, c4, some (.lst (som.map treeD)), some (.obj p), some (.int ((i + 2 : Nat))), some (.obj q), d9, d10, d11, d12, none]) ∧ O7 = updO (updO O5 p (.dk P w (kvsM w M (i + 1)))) q (.dt w (encK sdKey (M (i + 2))))) ?_ ?_
      · refine ws_for (passes_of rfl) rfl (wi_list ?_)
        repeat walk_at "v"
        refine ⟨_, rfl, fun j Γ7 O7 => (∃ d9 d10 d11 d12 : Option D, Γ7 = [some (.lst (os.map tx)), some (.lst (pats.map treeD)), some (.int (u : Nat)), c3, c4, some (.lst (som.map treeD)), some (.obj p), some (.int ((i + 2 : Nat))), some (.obj q), d9, d10, d11, d12, none]) ∧ O7 = updO (updO O5 p (.dk P w (kvsM w M (i + 1)))) q (.dt w (encK sdKey (foldK [] ((os.take j).flatMap fun o => (rowsK M (roomF o) (i + 2)).flatMap (hereS som pats o))))), ⟨⟨d9, d10, d11, d12, ?_⟩, rfl⟩, fun _ _ _ _ => rfl, ?_, ?_⟩
        · show [_, _, _, _, _, _, _, some (D.int _), _, _, _, _, _, _] = _
          rw [show (2 : Int) + (i : Nat) = ((i + 2 : Nat) : Int) by omega]
        · rintro j d Γ7 O7 hd ⟨⟨d9, d10, d11, d12, rfl⟩, rfl⟩
          obtain ⟨o, ho, rfl⟩ := txs_at hd
          have hom := List.mem_of_getElem? ho
          obtain ⟨n', hop⟩ := hos o hom
          have hro := rooms hos (List.mem_map.mpr ⟨o, hom, rfl⟩)
          have hhp : ∀ j2, _ <+: hereL som pats os M (i + 2) := fun j2 => here_prefix (som := som) (pats := pats) (M := M) (n := i + 2) (j2 := j2) ho
          have hsnoc : (os.take (j + 1)).flatMap (fun o => (rowsK M (roomF o) (i + 2)).flatMap (hereS som pats o)) = (os.take j).flatMap (fun o => (rowsK M (roomF o) (i + 2)).flatMap (hereS som pats o)) ++ (rowsK M (roomF o) (i + 2)).flatMap (hereS som pats o) := by
            rw [take_at ho, List.flatMap_append]
            simp
          generalize hS : (os.take j).flatMap (fun o => (rowsK M (roomF o) (i + 2)).flatMap (hereS som pats o)) = S at hhp hsnoc ⊢
          have hpO : updO (updO O5 p (.dk P w (kvsM w M (i + 1)))) q (.dt w (encK sdKey (foldK [] S))) p = some (.dk P w (kvsM w M (i + 1))) := by
            rw [updO_ne hqp]
            exact updO_same
          walk_at "v"
          refine wss_cut (fun Γ8 O8 => Γ8 = [some (.lst (os.map tx)), some (.lst (pats.map treeD)), some (.int (u : Nat)), c3, c4, some (.lst (som.map treeD)), some (.obj p), some (.int ((i + 2 : Nat))), some (.obj q), some (tx o), some (.dt w (encK rwKey (rowsK M (roomF o) (i + 2)))), d11, d12, none] ∧ O8 = updO (updO O5 p (.dk P w (kvsM w M (i + 1)))) q (.dt w (encK sdKey (foldK [] S)))) ?_ ?_
          · refine ws_set 10 nd (w_call GO hr (by omega) ?_)
            repeat walk_at "v"
            refine ⟨o, n', rfl, .inr hop, ?_⟩
            rw [← (op_opB hop).2]
            repeat walk_at "v"
            refine ⟨p, _, M, roomF o, i + 2, rfl, hpO, fun k h1 h2 => kvsM_at h1 (by omega), by omega, by omega, by omega, fun k h1 h2 => ⟨hMp k h1, hMn k h1, hMl k h1 (by omega)⟩, fun l' m' h1 h2 => hMr o hom l' m' h1 (by omega), rfl, rfl⟩
          rintro Γ8 O8 ⟨rfl, rfl⟩
          have hRlen : ∀ r ∈ rowsK M (roomF o) (i + 2), r.1.length = roomF o := rowsK_len _ _
          have hRin : ∀ r ∈ rowsK M (roomF o) (i + 2), ∀ s ∈ r.1, ∀ x ∈ s, x ∈ som.map words := rows_in (S := fun s => ∀ x ∈ s, x ∈ som.map words) _ _ fun k h1 h2 => hMi k h1
          have hRnd : ((rowsK M (roomF o) (i + 2)).map (·.1)).Nodup := rows_nodup _ _
          generalize hR : rowsK M (roomF o) (i + 2) = R at hhp hsnoc hRlen hRin hRnd ⊢
          refine wss_one (ws_for (passes_of rfl) rfl (wi_n ?_))
          repeat walk_at "v"
          refine ⟨_, rfl, ?_⟩
          rw [keys_rw]
          refine ⟨fun j2 Γ9 O9 => (∃ e11 e12 : Option D, Γ9 = [some (.lst (os.map tx)), some (.lst (pats.map treeD)), some (.int (u : Nat)), c3, c4, some (.lst (som.map treeD)), some (.obj p), some (.int ((i + 2 : Nat))), some (.obj q), some (tx o), some (.dt w (encK rwKey R)), e11, e12, none]) ∧ O9 = updO (updO O5 p (.dk P w (kvsM w M (i + 1)))) q (.dt w (encK sdKey (foldK [] (S ++ (R.take j2).flatMap (hereS som pats o))))), ⟨⟨_, _, rfl⟩, by simp⟩, fun _ _ _ _ => trivial, ?_, ?_⟩
          · rintro j2 d Γ9 O9 hd ⟨⟨e11, e12, rfl⟩, rfl⟩
            obtain ⟨r, hr2, rfl⟩ := map_at hd
            have hrm := List.mem_of_getElem? hr2
            have hlen := hpre _ (hhp j2)
            have hacn := fold_nodup (S ++ (R.take j2).flatMap (hereS som pats o)) [] List.nodup_nil
            have hnext : foldK [] (S ++ (R.take (j2 + 1)).flatMap (hereS som pats o)) = foldK (foldK [] (S ++ (R.take j2).flatMap (hereS som pats o))) (hereS som pats o r) := by
              rw [take_at hr2, List.flatMap_append, ← List.append_assoc, foldK_app]
              simp
            generalize hacc : foldK [] (S ++ (R.take j2).flatMap (hereS som pats o)) = acc at hlen hacn hnext ⊢
            refine wg_name 11 nd ?_
            refine wss_cut (fun ΓA OA => ΓA = [some (.lst (os.map tx)), some (.lst (pats.map treeD)), some (.int (u : Nat)), c3, c4, some (.lst (som.map treeD)), some (.obj p), some (.int ((i + 2 : Nat))), some (.obj q), some (tx o), some (.dt w (encK rwKey R)), some (rwD r.1), some (sdD (standK som o r.1)), none] ∧ OA = updO (updO O5 p (.dk P w (kvsM w M (i + 1)))) q (.dt w (encK sdKey acc))) ?_ ?_
            · refine ws_set 12 nd (w_tuple mtup (w_lc [13] (own := [("piece", 13)]) rfl nd (blkOk_by rfl) rfl (wi_list ?_)))
              repeat walk_at "v"
              refine ⟨_, rfl, lc_filt (fun l _ => (som[l]?.map fun x => fitsB x o r.1).getD false) (fun _ d => d) (by rw [List.length_map]; omega) (fun _ _ => rfl) (fun l d OA hd hs s H Cc cl fp => ?_) (.fix ?_)⟩
              · obtain ⟨b, hb, rfl⟩ := map_at hd
                have hbm := List.mem_of_getElem? hb
                refine wgc_name 13 nd ⟨rfl, fun s H Cc cl fp => wts_one (wt_val (w_call GF hr (by omega) ?_))⟩
                repeat walk_at "v"
                refine ⟨b, o, r.1, rfl, (hsg b hbm).1, (hsg b hbm).2, by rw [hRlen r hrm]; omega, fun s' hs' x hx => ?_, ?_⟩
                · obtain ⟨y, h1, rfl⟩ := List.mem_map.mp (hRin r hrm s' hs' x hx)
                  exact tree_wsOk (hsg y h1).1
                refine ⟨_, rfl, rfl, by rw [hb]; rfl, fun _ s H Cc cl fp => ?_⟩
                repeat walk_at "v"
                exact ⟨rfl, rfl⟩
              · rw [filt_list som 0 fun l => by rw [Nat.zero_add]]
                refine ⟨_, rfl, ?_, rfl⟩
                unfold standK sdD
                rw [List.map_map]
                rfl
            rintro ΓA OA ⟨rfl, rfl⟩
            have hst : ∀ x ∈ standK som o r.1, WsOk x := fun x hx => by
              obtain ⟨y, h1, rfl⟩ := List.mem_map.mp hx
              exact tree_wsOk (hsg y (List.mem_filter.mp h1).1).1
            have hhs : hereS som pats o r = if okK pats (standK som o r.1) then [(standK som o r.1, r.2)] else [] := rfl
            generalize hsv : standK som o r.1 = sv at hst hhs ⊢
            refine wss_one (ws_if (wt_not (wt_val (w_any rfl many_ (w_lc [4] (own := [("tree", 4)]) rfl nd (blkOk_by rfl) rfl (wi_list ?_))))))
            repeat walk_at "v"
            refine ⟨_, rfl, lc_all (fun l _ y => ∀ b, pats[l]? = some b → y = .bl (decide (words b ∈ sv))) (by rw [List.length_map]; omega) (fun _ _ => rfl) (fun l d OA hd hs s H Cc cl fp => ?_) fun ys h1 h2 => .fix ?_⟩
            · obtain ⟨b, hb, rfl⟩ := map_at hd
              have hbm := List.mem_of_getElem? hb
              refine wgc_name 4 nd ⟨rfl, fun s H Cc cl fp => w_inQ (Nat.lt_of_le_of_lt (Nat.add_le_add_left (by decide : 65 ≤ 70) _) (Room.units70 hr)) ?_⟩
              repeat walk_at "v"
              refine ⟨_, rfl, good_tree2 (hpg1 b hbm).1, good_wss hst, ?_⟩
              rw [show inQ (treeD b) (sv.map wsD) = decide (words b ∈ sv) from inQ_wss (words b) sv, Bool.false_xor]
              refine ⟨rfl, fun b' hb' => ?_⟩
              rw [hb] at hb'
              rw [← Option.some.inj hb']
            · obtain rfl := map_row (f := fun b => D.bl (decide (words b ∈ sv))) h1 h2
              refine ⟨pats.map fun b => decide (words b ∈ sv), by rw [List.map_map]; rfl, ?_⟩
              have hok : (!((pats.map fun b => decide (words b ∈ sv)).any id)) = okK pats sv := by
                unfold okK
                rw [List.any_map, ← List.not_any_eq_all_not]
                rfl
              refine ⟨_, rfl, br (fun h => ?_) (fun h => ?_)⟩
              · rw [← hok, h, if_pos rfl] at hhs
                rw [hhs] at hnext
                refine wss_one (ws_dput (Room.units hr) (w_add (w_dget2 (Room.units hr) ?_)))
                repeat walk_at "v"
                refine ⟨⟨_, .inr ⟨q, rfl, updO_same⟩⟩, ?_⟩
                repeat walk_at "v"
                refine ⟨_, _, .inr ⟨q, rfl, updO_same⟩, (keyD_sd sv).symm, dep_sd8 _, ?_⟩
                rw [show (NestedKey.tup (sv.map pcKey)) = sdKey sv from rfl, enc_get sdKey_inj]
                repeat walk_at "v"
                refine ⟨_, .int (r.2 : Nat), (keyD_rw r.1).symm, dep_rw8 _, enc_at rwKey_inj hRnd hrm, ?_⟩
                repeat walk_at "v"
                refine ⟨q, _, _, rfl, updO_same, (keyD_sd sv).symm, dep_sd8 _, by rw [encK_len]; exact hlen, ?_⟩
                refine ⟨⟨_, _, rfl⟩, ?_⟩
                rw [updO_updO, show ((getK acc sv : Nat) : Int) + ((r.2 : Nat) : Int) = ((getK acc sv + r.2 : Nat) : Int) by simp, show (NestedKey.tup (sv.map pcKey)) = sdKey sv from rfl, enc_put sdKey_inj _ _ _ hacn, hnext]
                rfl
              · rw [← hok, h, if_neg (by simp)] at hhs
                rw [hhs] at hnext
                refine wss_nil ?_
                exact ⟨⟨_, _, rfl⟩, by rw [hnext]; rfl⟩
          · rintro Γ9 O9 ⟨⟨e11, e12, rfl⟩, rfl⟩
            refine ⟨⟨_, _, _, _, rfl⟩, ?_⟩
            rw [List.length_map, List.take_length, hsnoc]
        · rintro Γ7 O7 ⟨hΓ, rfl⟩
          refine ⟨hΓ, ?_⟩
          rw [List.length_map, List.take_length, hMs i]
          rfl
      rintro Γ7 O7 ⟨⟨d9, d10, d11, d12, rfl⟩, rfl⟩
      refine WSs.fx (i := 8) (y := .dt w (encK sdKey (M (i + 2)))) rfl (.fix updO_same rfl .here) ?_
      rw [delO_updO nq]
      refine wss_one (ws_mput ?_)
      repeat walk_at "v"
      refine ⟨p, _, .inl ((i + 2 : Nat) : Int), rfl, updO_same, rfl, Nat.lt_of_lt_of_le (m := 100) (by rw [kvsM_len]; omega) (by decide), ?_⟩
      refine ⟨⟨_, _, _, _, _, _, rfl⟩, ?_⟩
      rw [updO_updO, kvsM_put (n := i + 1) rfl kvsM_none]
      rfl
    · rintro Γ6 O6 ⟨hΓ, rfl⟩
      refine ⟨hΓ, ?_⟩
      rw [rngD_len, show (((u : Nat) : Int) + 1 - 2).toNat + 1 = u by omega]
  rintro Γ6 O6 ⟨⟨d7, d8, d9, d10, d11, d12, rfl⟩, rfl⟩
  refine wss_one (ws_ret (WE.fx (w_lc [7] (own := [("many", 7)]) rfl nd (blkOk_by rfl) rfl (wi_rng2 mrng ?_))))
  repeat walk_at "v"
  refine ⟨_, _, rfl, ⟨by omega, by omega, by omega, by omega⟩, ?_⟩
  refine lc_rngI (fun j => ((freeN os pats (j + 1) : Nat) : Int)) (by omega) (fun j O7 hj hs s H Cc cl fp => ?_) ?_
  · have hj : j + 1 ≤ u := by omega
    have hp7 := hs _ _ updO_same
    refine wgc_name 7 nd ⟨rfl, fun s H Cc cl fp => w_sum rfl msum (w_lc [12] (own := [("stand", 12)]) rfl nd (blkOk_by rfl) rfl (wi_n (w_mget ?_)))⟩
    repeat walk_at "v"
    refine ⟨_, .inl ((j + 1 : Nat) : Int), _, .inr ⟨p, rfl, hp7⟩, ?_, kvsM_at (by omega) hj, ?_⟩
    · show D.int _ = D.int _
      rw [show (1 : Int) + (j : Nat) = ((j + 1 : Nat) : Int) by omega]
    refine ⟨_, rfl, ?_⟩
    rw [keys_sd]
    have hlb : (M (j + 1)).length ≤ sizeLine := Nat.le_trans (len_tot (hMp (j + 1) (by omega))) (Nat.le_of_lt (hMl (j + 1) (by omega) (by omega)))
    refine lc_allB (fun l _ y => ∀ b, (M (j + 1))[l]? = some b → y = .int (b.2 : Nat)) (by rw [List.length_map]; exact hlb) (fun _ _ => trivial) (fun j2 d O8 hd hs2 s H Cc cl fp => ?_) fun ys h1 h2 => .fix ?_
    · obtain ⟨b, hb, rfl⟩ := map_at hd
      have hbm := List.mem_of_getElem? hb
      refine wgc_name 12 nd ⟨rfl, fun s H Cc cl fp => w_dget (Room.units hr) (w_mget ?_)⟩
      repeat walk_at "v"
      refine ⟨_, .inl ((j + 1 : Nat) : Int), _, .inr ⟨p, rfl, hs2 _ _ hp7⟩, ?_, kvsM_at (by omega) hj, ?_⟩
      · show D.int _ = D.int _
        rw [show (1 : Int) + (j : Nat) = ((j + 1 : Nat) : Int) by omega]
      repeat walk_at "v"
      refine ⟨_, _, .int (b.2 : Nat), .inl rfl, (keyD_sd b.1).symm, dep_sd8 _, enc_at sdKey_inj (hMn (j + 1) (by omega)) hbm, ?_⟩
      refine ⟨rfl, fun b' hb' => ?_⟩
      rw [hb] at hb'
      rw [← Option.some.inj hb']
    · obtain rfl := map_row (f := fun b : Sd × Nat => D.int (b.2 : Nat)) h1 h2
      have e : ((M (j + 1)).map fun b : Sd × Nat => D.int (b.2 : Nat)) = ((M (j + 1)).map fun b : Sd × Nat => ((b.2 : Nat) : Int)).map D.int := by
        rw [List.map_map]
        rfl
      rw [e]
      refine sSum_row ⟨rfl, ?_⟩
      rw [cast_sum (fun b : Sd × Nat => b.2), ← hMf (j + 1) (by omega)]
      have e2 : tot (M (j + 1)) = ((M (j + 1)).map fun b : Sd × Nat => b.2).sum := by simp [tot, phi]
      rw [e2]
  · refine .fix ⟨_, _, .sub (Sub.new np), ?_⟩
    rw [show (((u : Nat) : Int) + 1 - 1).toNat = u by omega]
    exact hQ
end
section
variable {P : Program} {w : World} {K : PySem.W.Frag} {mg : Str → Option Value} {base : Heap}
/-! law k41 -/
open Tr
def spLaw : SpD := fun ds O Q _ => ∃ ns : List Int, ds = [.rol (ns.map .int)] ∧ ∀ O', Q (.bl true) O'
abbrev sLaw : Stmt := topS 45
theorem scLaw : FnScope ["_law_script", "_law_dr", "_law_ops_here", "_law_known", "_law_turn", "_law_patterns", "_law_k", "_law_tree", "_law_due", "_law_many", "_law_free", "_law_one", "_law_far", "_law_more", "_law_fewer"] ["_law_script"] (defScope sLaw) := ⟨rfl, rfl, rfl, by decide +kernel, rfl, by decide +kernel, by decide +kernel⟩
/-! one operation: up to seven things -/
def cap1 (n : Nat) : Nat := ([0, 1, 1, 2, 5, 14, 42, 132] : List Nat).getD n 0
theorem num_cap1 {o : Wd} (ho : ∃ n, Op o n) : ∀ n, 1 ≤ n → n ≤ 7 → numT [o] n ≤ cap1 n := by
  have hos : ∀ x ∈ [o], ∃ n, Op x n := fun x hx => by rw [List.mem_singleton.mp hx]; exact ho
  obtain ⟨h2, h4⟩ := rooms hos (List.mem_map_of_mem (f := roomF) (List.mem_singleton.mpr (rfl : o = o)))
  intro n
  induction n using Nat.strongRecOn with
  | _ n ih =>
    intro h1 h7
    match n, h1 with
    | 1, _ => exact (by decide : 1 ≤ cap1 1)
    | n + 2, _ =>
      rw [num_succ hos]
      simp only [List.map_cons, List.map_nil, List.sum_cons, List.sum_nil, Nat.add_zero]
      refine Nat.le_trans (cnt_mono (B := cap1) (roomF o) (n + 2) fun k h3 h5 => ih k (by omega) h3 (by omega)) ?_
      have b : ∀ l, l < 5 → 2 ≤ l → ∀ m, m < 6 → cntR cap1 l (m + 2) ≤ cap1 (m + 2) := by decide +kernel
      exact b (roomF o) (by omega) h2 n (by omega)
theorem one_rows {os : List Wd} (hos : ∀ o ∈ os, ∃ n, Op o n) (h : os.length = 1) : numT os 7 ≤ 350 := by
  match os, h with
  | [o], _ => exact Nat.le_trans (num_cap1 (hos o List.mem_cons_self) 7 (by decide) (by decide)) (by decide)
theorem one_len {os : List Wd} (hos : ∀ o ∈ os, ∃ n, Op o n) (h : os.length = 1) {k : Nat} (h1 : 1 ≤ k) (h7 : k ≤ 7) : (knownT os k).length ≤ 4000 := by
  match os, h with
  | [o], _ =>
    have a := num_cap1 (hos o List.mem_cons_self) k h1 h7
    have b : ∀ k, k < 8 → cap1 k ≤ 4000 := by decide +kernel
    exact Nat.le_trans a (b k (by omega))
/-! rows of drawn trees -/
theorem trees_of {S : T → Prop} : ∀ {ys : List D}, (∀ y ∈ ys, ∃ t : T, y = treeD t ∧ S t) → ∃ ts : List T, ys = ts.map treeD ∧ ∀ t ∈ ts, S t
  | [], _ => ⟨[], rfl, fun t h => nomatch h⟩
  | y :: ys, h => by
    obtain ⟨t, rfl, ht⟩ := h y List.mem_cons_self
    obtain ⟨ts, rfl, hs⟩ := trees_of fun z hz => h z (List.mem_cons_of_mem _ hz)
    refine ⟨t :: ts, rfl, fun u hu => ?_⟩
    rcases List.mem_cons.mp hu with rfl | hu
    · exact ht
    · exact hs u hu
theorem all_in {ds ys : List D} {R : D → Prop} (h1 : ys.length = ds.length) (h2 : ∀ (i : Nat) d, ds[i]? = some d → ∃ y, ys[i]? = some y ∧ R y) : ∀ y ∈ ys, R y := fun y hy => by
  obtain ⟨i, hi⟩ := List.mem_iff_getElem?.mp hy
  have hl := (List.getElem?_eq_some_iff.mp hi).1
  obtain ⟨z, h3, h4⟩ := h2 i _ (List.getElem?_eq_getElem (by omega))
  rw [hi] at h3
  rw [Option.some.inj h3]
  exact h4
theorem filtD_congr {R R' : Nat → D → Bool} {g : Nat → D → D} : ∀ {k : Nat} {ds : List D}, (∀ (i : Nat) d, ds[i]? = some d → R (k + i) d = R' (k + i) d) → filtD R g k ds = filtD R' g k ds
  | _, [], _ => rfl
  | k, d :: ds, h => by
    have h0 := h 0 d rfl
    have ih := filtD_congr (R := R) (R' := R') (g := g) (k := k + 1) (ds := ds) fun i d hd => by
      have := h (i + 1) d hd
      rw [show k + (i + 1) = k + 1 + i by omega] at this
      exact this
    unfold filtD
    rw [show R k d = R' k d from h0, ih]
def spotsN (p t : T) : List Nat := (List.range (words t).length).filter fun i => holdsB p (partAt t i)
theorem spots_row (p t : T) : spotsD p t = ((spotsN p t).map fun i : Nat => (i : Int)).map D.int := by
  unfold spotsD spotsN
  have e : rngD 0 (words t).length = (List.range (words t).length).map fun i => D.int (0 + (i : Nat)) := by
    unfold rngD
    simp
  have e2 : ∀ n : Nat, filtD (fun i _ => holdsB p (partAt t i)) (fun _ d => d) 0 ((List.range n).map fun i => D.int (0 + (i : Nat))) = (((List.range n).filter fun i => holdsB p (partAt t i)).map fun i : Nat => (i : Int)).map D.int := fun n => by
    have h := filt_list (F := fun i : Nat => D.int (0 + (i : Nat))) (f := fun i => holdsB p (partAt t i)) (full := List.range n) (List.range n) 0 fun l => by rw [Nat.zero_add]
    rw [show filtD (fun i _ => holdsB p (partAt t i)) (fun _ d => d) 0 ((List.range n).map fun i => D.int (0 + (i : Nat))) = filtD (fun l _ => ((List.range n)[l]?.map fun i => holdsB p (partAt t i)).getD false) (fun _ d => d) 0 ((List.range n).map fun i => D.int (0 + (i : Nat))) from ?_, h, List.map_map]
    · refine List.map_congr_left fun i _ => ?_
      show D.int _ = D.int _
      rw [Int.zero_add]
    · refine filtD_congr fun i d hd => ?_
      have hi : i < n := by
        have := (List.getElem?_eq_some_iff.mp hd).1
        simpa using this
      rw [Nat.zero_add, List.getElem?_range hi]
      rfl
  rw [e]
  exact e2 _
theorem spots_none (p t : T) : decide (((spotsN p t).map fun i : Nat => (i : Int)) = []) = noneAt p t := by
  unfold spotsN noneAt
  rw [Bool.eq_iff_iff, decide_eq_true_iff, List.map_eq_nil_iff, List.filter_eq_nil_iff, List.all_eq_true]
  simp
theorem bare_list (pats : List T) (t : T) : (pats.filter fun p => !noneAt p t).isEmpty = bareB pats t := by
  unfold bareB
  rw [Bool.eq_iff_iff, List.isEmpty_iff, List.filter_eq_nil_iff, List.all_eq_true]
  simp
def freeI (os : List Wd) (pats : List T) (n : Nat) : List Int := (List.range n).map fun k => ((freeN os pats (k + 1) : Nat) : Int)
theorem freeI_len {os : List Wd} {pats : List T} {n : Nat} : (freeI os pats n).length = n := by simp [freeI]
theorem freeI_at {os : List Wd} {pats : List T} {n k : Nat} (h : k < n) : (freeI os pats n)[k]? = some ((freeN os pats (k + 1) : Nat) : Int) := by
  unfold freeI
  rw [List.getElem?_map, List.getElem?_range h]
  rfl
theorem freeI_take {os : List Wd} {pats : List T} {n k : Nat} (h : k ≤ n) : (freeI os pats n).take k = freeI os pats k := by
  unfold freeI
  rw [← List.map_take, List.take_range, Nat.min_eq_left h]
theorem ok_law {f : Addr} {fd : FuncData} {k : Nat} (F : Fun K "law" "law" sLaw f fd) (mrng : mg "range" = none) (mlen : mg "len" = none) (mall : mg "all" = none)
    (GB : Fd P w K mg base "_law_bag" 1 ["_law_script"] spBag) (GL : Fd P w K mg base "_law_pull" 1 ["_law_dr", "_law_many"] spPull) (GA : Fd P w K mg base "_law_arities" 2 ["_law_dr"] spAritT) (GO : Fd P w K mg base "_law_ops" 3 ["_law_dr", "_law_arities_here"] spOps)
    (GW : Fd P w K mg base "_law_wild" 3 ["_law_dr", "_law_ops_here", "_law_most"] spWild) (GR : Fd P w K mg base "_law_reach" 1 ["_law_ops_here"] spReach) (GG : Fd P w K mg base "_law_grown" 20 ["_law_ops_here", "_law_upto"] (spGrown P w))
    (GP : Fd P w K mg base "_law_spots" 3 ["_law_pattern", "_law_tree"] spSpots) (GC : Fd P w K mg base "counted" 7 ["operations", "patterns", "upto"] spCountedG) (GS : Fd P w K mg base "_law_same" (2 + 0 + 1) ["_law_found", "_law_due"] (spSame 2))
    (hk : 25 ≤ k) : FnOk P w K mg base (L2.CX P w) (k + 1) f fd ["_law_script"] (spD K spLaw) := by
  refine fd_ok F scLaw (fun ds O Q E ⟨ns, e, _⟩ => by rw [e]; rfl) (fun cdv A outer s H E0 hr ds O Q E ⟨ns, e, hQ⟩ => ?_)
  subst e
  have nd := scLaw.nd
  refine wss_cons ?_
  repeat walk_at "v"
  refine ⟨ns, rfl, fun p np => ?_⟩
  have hp : updO O p (.any DrOk) p = some (.any DrOk) := updO_same
  generalize updO O p (.any DrOk) = O1 at hp ⊢
  refine wss_cut (fun Γ2 O2 => ∃ os : List Wd, 1 ≤ os.length ∧ os.length ≤ 4 ∧ (∀ o ∈ os, ∃ n, Op o n) ∧ os.Nodup ∧ Γ2 = [some (.rol (ns.map .int)), some (.obj p), some (.lst (os.map tx)), none, none, none, none, none, none, none, none, none, none, none, none] ∧ O2 = O1) ?_ ?_
  · repeat walk_at "v"
    refine ⟨p, rfl, hp, fun ms h1 h2 h3 => ?_⟩
    repeat walk_at "v"
    exact ⟨p, ms, rfl, hp, h1, by omega, h3, fun os h4 h5 h6 h7 h8 => .fix ⟨os, by omega, by omega, h5, h6, rfl, rfl⟩⟩
  rintro Γ2 O2 ⟨os, hol1, hol, hos, hnd, rfl, rfl⟩
  refine wss_cut (fun Γ3 O3 => ∃ r : Nat, 1 ≤ r ∧ r ≤ 7 ∧ (∀ k, 1 ≤ k → k ≤ r → (knownT os k).length ≤ 4000) ∧ Γ3 = [some (.rol (ns.map .int)), some (.obj p), some (.lst (os.map tx)), some (.dk P w (kvsG os r)), none, none, none, none, none, none, none, none, none, none, none] ∧ O3 = O2) ?_ ?_
  · refine ws_set 3 nd (w_call GG hr (by omega) ?_)
    repeat walk_at "v"
    refine br (fun h => ?_) (fun h => ?_)
    · have h : os.length = 1 := by
        have h := of_decide_eq_true h
        rw [List.length_map] at h
        omega
      repeat walk_at "v"
      exact ⟨os, 7, rfl, hol, hos, by omega, by omega, few_rows hos hol (by decide) (one_rows hos h), 7, by decide, by decide, fun k h1 h2 => one_len hos h h1 h2, rfl, rfl⟩
    · repeat walk_at "v"
      refine ⟨os, rfl, hol1, hol, hos, fun r h => ?_⟩
      repeat walk_at "v"
      exact ⟨os, r, rfl, hol, hos, by omega, by omega, reach_rows hos hol h, r, by omega, by omega, fun k h1 h2 => reach_len hos hol h h1 h2, rfl, rfl⟩
  rintro Γ3 O3 ⟨r, hr1, hr7, hkl, rfl, rfl⟩
  have hgood : ∀ m, ∀ t ∈ knownT os m, Wf t ∧ leaves t = m ∧ Over os t := fun m => (known_ok hos).ok m
  refine wss_cons (ws_for (passes_of rfl) rfl (wi_rng1 mrng ?_))
  repeat walk_at "v"
  refine ⟨2, rfl, by decide, by decide, fun i Γ4 O4 => ∃ c4 c5 c6 c7 c8 c9 c10 c11 c12 c13 c14 : Option D, Γ4 = [some (.rol (ns.map .int)), some (.obj p), some (.lst (os.map tx)), some (.dk P w (kvsG os r)), c4, c5, c6, c7, c8, c9, c10, c11, c12, c13, c14] ∧ Sub O3 O4, ⟨none, none, none, none, none, none, none, none, none, none, none, rfl, Sub.refl _⟩, fun _ _ _ _ => trivial, ?_, ?_⟩
  · rintro i d Γ4 O4 hd ⟨c4, c5, c6, c7, c8, c9, c10, c11, c12, c13, c14, rfl, hs4⟩
    obtain ⟨_, rfl⟩ := rngD_get hd
    have hp4 : O4 p = some (.any DrOk) := hs4 _ _ hp
    walk_at "v"
    refine wss_cut (fun Γ5 O5 => ∃ (c6 : Option D) (ts : List T), ts.length ≤ 3 ∧ (∀ t ∈ ts, Good t) ∧ Γ5 = [some (.rol (ns.map .int)), some (.obj p), some (.lst (os.map tx)), some (.dk P w (kvsG os r)), some (.int (0 + (i : Nat))), some (.lst (ts.map treeD)), c6, c7, c8, c9, c10, c11, c12, c13, c14] ∧ O5 = O4) ?_ ?_
    · refine ws_set 5 nd (w_lc [6] (own := [("_law_k", 6)]) rfl nd (blkOk_by rfl) rfl (wi_rng1 mrng ?_))
      repeat walk_at "v"
      refine ⟨p, 4, rfl, hp4, by decide, by decide, fun r0 h1 h2 => ?_⟩
      obtain ⟨q, rfl⟩ := Int.eq_ofNat_of_zero_le h1
      repeat walk_at "v"
      refine ⟨_, rfl, by omega, by omega, lc_all (fun _ _ y => ∃ t : T, y = treeD t ∧ Good t) (by rw [rngD_len]; omega) (fun _ _ => trivial) (fun l d O6 hd hs6 s H C cl fp => ?_) fun ys h1 h2 => .fix ?_⟩
      · refine wgc_name 6 nd ⟨rfl, fun s H C cl fp => w_call GW hr (by omega) ?_⟩
        have hp6 := hs6 _ _ hp4
        repeat walk_at "v"
        refine .fix ?_
        repeat walk_at "v"
        refine ⟨p, 3, rfl, hp6, by decide, by decide, fun r1 g1 g2 => ?_⟩
        repeat walk_at "v"
        refine sIx_any g1 (by simpa using g2) (fun d hd => ?_)
        repeat walk_at "v"
        have : ∃ m : Nat, d = .int m ∧ 1 ≤ m ∧ m ≤ 7 := by
          simp only [List.mem_cons, List.not_mem_nil, or_false] at hd
          rcases hd with rfl | rfl | rfl
          · exact ⟨4, rfl, by decide, by decide⟩
          · exact ⟨4, rfl, by decide, by decide⟩
          · exact ⟨7, rfl, by decide, by decide⟩
        obtain ⟨m, rfl, m1, m7⟩ := this
        exact ⟨p, os, m, rfl, hp6, by omega, hos, m1, by omega, fun t h3 h5 _ => ⟨rfl, t, rfl, h3, by omega⟩⟩
      · obtain ⟨ts, rfl, hts⟩ := trees_of (all_in h1 h2)
        rw [List.length_map, rngD_len] at h1
        exact ⟨_, ts, by omega, hts, rfl, rfl⟩
    rintro Γ5 O5 ⟨d6, ts, htl, htg, rfl, rfl⟩
    refine wss_cut (fun Γ6 O6 => ∃ (c6 c7 : Option D) (us : List T), us.length ≤ 3 ∧ (∀ t ∈ us, Good t ∧ t ≠ .leaf) ∧ Γ6 = [some (.rol (ns.map .int)), some (.obj p), some (.lst (os.map tx)), some (.dk P w (kvsG os r)), some (.int (0 + (i : Nat))), some (.lst (us.map treeD)), c6, c7, c8, c9, c10, c11, c12, c13, c14] ∧ O6 = O5) ?_ ?_
    · refine ws_set 5 nd (w_lc [7] (own := [("_law_tree", 7)]) rfl nd (blkOk_by rfl) rfl (wi_list ?_))
      repeat walk_at "v"
      refine ⟨_, rfl, lc_filt (fun l _ => (ts[l]?.map fun t => !decide (words t = [[95]])).getD false) (fun _ d => d) (by rw [List.length_map]; omega) (fun _ _ => rfl) (fun l d O6 hd hs6 s H C cl fp => ?_) (.fix ?_)⟩
      · obtain ⟨t, ht, rfl⟩ := map_at hd
        have hg := htg t (List.mem_of_getElem? ht)
        refine wgc_name 7 nd ⟨rfl, fun s H C cl fp => wts_one (wt_ne (Room.units hr) ?_)⟩
        repeat walk_at "v"
        refine sNe_dat rfl rfl (good_tree2 hg.1) (by decide +kernel) ?_
        rw [show eqvD (treeD t) (.tup [tx (Str.ofString "_").cps.toList]) = decide (words t = [[95]]) from eqv_txs2 _ [[95]]]
        refine ⟨_, rfl, rfl, by rw [ht]; rfl, fun _ s H C cl fp => ?_⟩
        repeat walk_at "v"
        exact ⟨rfl, rfl⟩
      · rw [filt_list ts 0 fun l => by rw [Nat.zero_add]]
        refine ⟨_, _, ts.filter fun t => !decide (words t = [[95]]), Nat.le_trans (List.length_filter_le _ _) htl, fun t ht => ?_, rfl, rfl⟩
        obtain ⟨h1, h2⟩ := List.mem_filter.mp ht
        refine ⟨htg t h1, fun z => ?_⟩
        rw [z] at h2
        simp [words] at h2
    rintro Γ6 O6 ⟨e6, e7, us, hul, hug, rfl, rfl⟩
    refine wss_cut (fun Γ7 O7 => ∃ (pats : List T), pats.length ≤ 20 ∧ (∀ t ∈ pats, Good t ∧ t ≠ .leaf) ∧ Γ7 = [some (.rol (ns.map .int)), some (.obj p), some (.lst (os.map tx)), some (.dk P w (kvsG os r)), some (.int (0 + (i : Nat))), some (.lst (pats.map treeD)), e6, e7, c8, c9, c10, c11, c12, c13, c14] ∧ O7 = O6) ?_ ?_
    · repeat walk_at "v"
      refine ⟨p, 2, rfl, hp4, by decide, by decide, fun r0 h1 h2 => ?_⟩
      obtain ⟨q, rfl⟩ := Int.eq_ofNat_of_zero_le h1
      refine ⟨_, rfl, ?_⟩
      refine ⟨_, rfl, ?_⟩
      rw [cutD_to (n := q) rfl, ← List.map_take]
      refine .fix (sAdd_ll (Nat.le_trans (m := 10) (by rw [List.length_map, List.length_map, List.length_take]; omega) (by decide)) ?_)
      rw [← List.map_append]
      refine .fix ⟨us ++ us.take q, by rw [List.length_append, List.length_take]; omega, fun t ht => ?_, rfl, rfl⟩
      rcases List.mem_append.mp ht with ht | ht
      · exact hug t ht
      · exact hug t (List.mem_of_mem_take ht)
    rintro Γ7 O7 ⟨pats, hpl, hpg, rfl, rfl⟩
    refine wss_cons ?_
    repeat walk_at "v"
    refine .own fun q nq => ?_
    repeat walk_at "v"
    have hpat : (∀ p ∈ pats, Good p) := fun p h => (hpg p h).1
    refine wss_cut (fun Γ8 O8 => ∃ (c7 c9 c10 c11 : Option D), Γ8 = [some (.rol (ns.map .int)), some (.obj p), some (.lst (os.map tx)), some (.dk P w (kvsG os r)), some (.int (0 + (i : Nat))), some (.lst (pats.map treeD)), e6, c7, some (.obj q), c9, c10, c11, c12, c13, c14] ∧ O8 = updO O7 q (.lst ((freeI os pats r).map .int))) ?_ ?_
    · refine ws_for (passes_of rfl) rfl (wi_rng2 mrng ?_)
      repeat (first | refine w_lenM mlen ?_ | walk_at "v")
      refine ⟨_, .inl rfl, ?_⟩
      repeat (first | refine w_lenM mlen ?_ | walk_at "v")
      rw [kvsG_len]
      refine ⟨_, _, rfl, ⟨by omega, by omega, by omega, by omega⟩, fun l Γ8 O8 => ∃ (c7 c9 c10 c11 : Option D), Γ8 = [some (.rol (ns.map .int)), some (.obj p), some (.lst (os.map tx)), some (.dk P w (kvsG os r)), some (.int (0 + (i : Nat))), some (.lst (pats.map treeD)), e6, c7, some (.obj q), c9, c10, c11, c12, c13, c14] ∧ O8 = updO O7 q (.lst ((freeI os pats l).map .int)), ⟨_, _, _, _, rfl, rfl⟩, fun _ _ _ _ => trivial, ?_, ?_⟩
      · rintro l d Γ8 O8 hd ⟨f7, f9, f10, f11, rfl, rfl⟩
        obtain ⟨hl, rfl⟩ := rngD_get hd
        have hl : l < r := by omega
        have hkl1 := hkl (l + 1) (by omega) (by omega)
        walk_at "v"
        refine wss_cut (fun Γ9 O9 => ∃ (c7 c11 : Option D), Γ9 = [some (.rol (ns.map .int)), some (.obj p), some (.lst (os.map tx)), some (.dk P w (kvsG os r)), some (.int (0 + (i : Nat))), some (.lst (pats.map treeD)), e6, c7, some (.obj q), some (.int ((l + 1 : Nat))), some (.lst (((knownT os (l + 1)).filter (bareB pats)).map treeD)), c11, c12, c13, c14] ∧ O9 = updO O7 q (.lst ((freeI os pats l).map .int))) ?_ ?_
        · refine ws_lc 10 [7] (own := [("_law_tree", 7)]) rfl nd (blkOk_by rfl) rfl (sw_true rfl rfl rfl (by decide +kernel)) (wi_list (w_mget ?_))
          repeat walk_at "v"
          refine ⟨_, .inl ((l + 1 : Nat) : Int), _, .inl rfl, ?_, kvsG_at (by omega) (by omega), ?_⟩
          · show D.int _ = D.int _
            rw [show (1 : Int) + (l : Nat) = ((l + 1 : Nat) : Int) by omega]
          refine ⟨_, rfl, lc_filt (fun j _ => ((knownT os (l + 1))[j]?.map fun t => bareB pats t).getD false) (fun _ d => d) (by rw [List.length_map]; omega) (fun _ _ => rfl) (fun j d O9 hd hs9 s H C cl fp => ?_) (.fix ?_)⟩
          · obtain ⟨t, ht, rfl⟩ := map_at hd
            have htm := hgood _ t (List.mem_of_getElem? ht)
            have hgt : Good t := ⟨htm.1, by omega⟩
            refine wgc_name 7 nd ⟨rfl, fun s H C cl fp => wts_one (wt_eq (Room.units hr) (w_lc [11] (own := [("_law_one", 11)]) rfl nd (blkOk_by rfl) rfl (wi_list ?_)))⟩
            repeat walk_at "v"
            refine ⟨_, rfl, lc_filt (fun j _ => (pats[j]?.map fun p => !noneAt p t).getD false) (fun _ d => d) (by rw [List.length_map]; omega) (fun _ _ => rfl) (fun j2 d O10 hd hs10 s H C cl fp => ?_) (.fix ?_)⟩
            · obtain ⟨pt, hpt, rfl⟩ := map_at hd
              have hgp := hpat pt (List.mem_of_getElem? hpt)
              refine wgc_name 11 nd ⟨rfl, fun s H C cl fp => wts_one (wt_ne (Room.units hr) (w_call GP hr (by omega) ?_))⟩
              repeat walk_at "v"
              refine ⟨pt, t, rfl, hgp, hgt, .fix ?_⟩
              repeat walk_at "v"
              rw [spots_row]
              refine .fix (sNe_row (ns := []) ?_)
              rw [spots_none]
              refine ⟨_, rfl, rfl, by rw [hpt]; rfl, fun _ s H C cl fp => ?_⟩
              repeat walk_at "v"
              exact ⟨rfl, rfl⟩
            · rw [filt_list pats 0 fun l => by rw [Nat.zero_add]]
              repeat walk_at "v"
              refine .fix (sEq_dat rfl rfl (good_trees2 fun t ht => (hpat t (List.mem_filter.mp ht).1).1) (by rfl) ?_)
              rw [eqv_trees0, bare_list]
              refine ⟨_, rfl, rfl, by rw [ht]; rfl, fun _ s H C cl fp => ?_⟩
              repeat walk_at "v"
              exact ⟨rfl, rfl⟩
          · rw [filt_list (knownT os (l + 1)) 0 fun l => by rw [Nat.zero_add]]
            refine ⟨f7, f11, ?_, rfl⟩
            show [_, _, _, _, _, _, _, _, _, some (D.int _), _, _, _, _, _] = _
            rw [show (1 : Int) + (l : Nat) = ((l + 1 : Nat) : Int) by omega]
        rintro Γ9 O9 ⟨g7, g11, rfl, rfl⟩
        refine wss_one (ws_expr (w_append ?_))
        repeat walk_at "v"
        refine ⟨q, rfl, ⟨_, updO_same⟩, ?_⟩
        repeat walk_at "v"
        refine ⟨_, updO_same, Nat.lt_of_lt_of_le (m := 100) (by rw [List.length_map, freeI_len]; omega) (by decide), ?_⟩
        refine ⟨_, _, _, _, rfl, ?_⟩
        rw [updO_updO, List.length_map]
        have e : (freeI os pats l).map D.int ++ [D.int (((knownT os (l + 1)).filter (bareB pats)).length : Nat)] = (freeI os pats (l + 1)).map D.int := by
          unfold freeI
          rw [List.range_succ, List.map_append, List.map_append]
          rfl
        rw [← e]
      · rintro Γ8 O8 ⟨f7, f9, f10, f11, rfl, rfl⟩
        refine ⟨_, _, _, _, rfl, ?_⟩
        rw [rngD_len, show (((r : Nat) : Int) + 1 - 1).toNat = r by omega]
    rintro Γ8 O8 ⟨f7, f9, f10, f11, rfl, rfl⟩
    refine WSs.fx (i := 8) (y := .lst ((freeI os pats r).map .int)) rfl (.fix updO_same rfl .here) ?_
    rw [delO_updO nq]
    refine wss_cut (fun Γ9 O9 => Γ9 = [some (.rol (ns.map .int)), some (.obj p), some (.lst (os.map tx)), some (.dk P w (kvsG os r)), some (.int (0 + (i : Nat))), some (.lst (pats.map treeD)), e6, f7, some (.lst ((freeI os pats r).map .int)), f9, f10, f11, c12, c13, c14] ∧ O9 = O7) ?_ ?_
    · refine ws_if (wt_not (wt_val (w_call GS hr (by omega) (wa_cons (w_call GC hr (by omega) ?_)))))
      repeat (first | refine w_lenM mlen ?_ | walk_at "v")
      refine ⟨_, .inl rfl, ?_⟩
      repeat walk_at "v"
      rw [kvsG_len]
      refine ⟨os, pats, r, rfl, hol, hos, hnd, hpl, hpg, hr1, by omega, ?_⟩
      repeat walk_at "v"
      refine ⟨_, _, rfl, ints_plain 1 _ (by rw [freeI_len]; omega), .inl rfl, _, rfl, ?_⟩
      refine br_f (by rfl) ?_
      repeat walk_at "v"
      exact ⟨rfl, rfl⟩
    rintro Γ9 O9 ⟨rfl, rfl⟩
    refine wss_cut (fun Γ10 O10 => ∃ u : Nat, 7 ≤ u ∧ u ≤ 8 ∧ Γ10 = [some (.rol (ns.map .int)), some (.obj p), some (.lst (os.map tx)), some (.dk P w (kvsG os r)), some (.int (0 + (i : Nat))), some (.lst (pats.map treeD)), e6, f7, some (.lst ((freeI os pats r).map .int)), f9, f10, f11, some (.int (u : Nat)), c13, c14] ∧ O10 = O9) ?_ ?_
    · repeat walk_at "v"
      refine ⟨p, 2, rfl, hp4, by decide, by decide, fun r0 h1 h2 => ?_⟩
      obtain ⟨v, rfl⟩ := Int.eq_ofNat_of_zero_le h1
      repeat walk_at "v"
      exact ⟨7 + v, by omega, by omega, by simp, rfl⟩
    rintro Γ10 O10 ⟨u, hu7, hu8, rfl, rfl⟩
    refine wss_cut (fun Γ11 O11 => Γ11 = [some (.rol (ns.map .int)), some (.obj p), some (.lst (os.map tx)), some (.dk P w (kvsG os r)), some (.int (0 + (i : Nat))), some (.lst (pats.map treeD)), e6, f7, some (.lst ((freeI os pats r).map .int)), f9, f10, f11, some (.int (u : Nat)), some (.lst ((freeI os pats u).map .int)), some (.lst ((freeI os (pats.drop 1) u).map .int))] ∧ O11 = O10) ?_ ?_
    · refine ws_asg ?_
      repeat walk_at "v"
      refine ⟨os, pats, u, rfl, hol, hos, hnd, hpl, hpg, by omega, hu8, ?_⟩
      repeat walk_at "v"
      refine ⟨_, rfl, ?_⟩
      rw [cutD_from (i := 1) (n := 1) (by decide), ← List.map_drop]
      refine .fix ?_
      repeat walk_at "v"
      refine ⟨os, pats.drop 1, u, rfl, hol, hos, hnd, by rw [List.length_drop]; omega, fun x hx => hpg x (List.mem_of_mem_drop hx), by omega, hu8, ?_⟩
      repeat walk_at "v"
      exact ⟨rfl, rfl⟩
    rintro Γ11 O11 ⟨rfl, rfl⟩
    refine wss_one (ws_if ?_)
    repeat walk_at "v"
    refine ⟨_, rfl, ?_⟩
    rw [freeI_len, cutD_to (n := r) rfl, ← List.map_take, freeI_take (by omega)]
    refine .fix ?_
    repeat walk_at "v"
    refine br_f (by rw [decide_eq_true rfl]; rfl) ?_
    repeat walk_at "v"
    refine br_f (by simp [freeI_len]) ?_
    refine ww_one (.inr rfl) (wt_not (wt_val (w_all rfl mall (w_lc [6] (own := [("_law_k", 6)]) rfl nd (blkOk_by rfl) rfl (wi_rng1 mrng ?_)))))
    repeat walk_at "v"
    refine ⟨u, by rfl, by omega, by omega, lc_all (fun _ _ y => y = .bl true) (by rw [rngD_len]; omega) (fun _ _ => trivial) (fun l d O12 hd hs12 s H C cl fp => ?_) (all_true ?_)⟩
    · obtain ⟨hl, rfl⟩ := rngD_get hd
      have hl : l < u := by simpa using hl
      have e1 := freeI_at (os := os) (pats := pats) hl
      have e2 := freeI_at (os := os) (pats := pats.drop 1) hl
      have hle := free_more (os := os) (pats := pats) (pats' := pats.drop 1) (fun p hp => List.mem_of_mem_drop hp) (l + 1)
      have e1' : ((freeI os pats u).map D.int)[l]? = some (.int ((freeN os pats (l + 1) : Nat) : Int)) := by rw [List.getElem?_map, e1]; rfl
      have e2' : ((freeI os (pats.drop 1) u).map D.int)[l]? = some (.int ((freeN os (pats.drop 1) (l + 1) : Nat) : Int)) := by rw [List.getElem?_map, e2]; rfl
      refine wgc_name 6 nd ⟨rfl, fun s H C cl fp => ?_⟩
      repeat walk_at "v"
      refine sIx_l (atI_of (j := l) (Int.zero_add _) e1') ?_
      repeat walk_at "v"
      refine sIx_l (atI_of (j := l) (Int.zero_add _) e2') ?_
      repeat walk_at "v"
      refine ⟨rfl, ?_⟩
      exact congrArg D.bl (decide_eq_true (by omega))
    · refine ⟨_, rfl, br_f (by rfl) (wss_nil ?_)⟩
      exact ⟨_, _, _, _, _, _, _, _, _, _, _, rfl, hs4⟩
  rintro Γ4 O4 ⟨c4, c5, c6, c7, c8, c9, c10, c11, c12, c13, c14, rfl, hs4⟩
  repeat walk_at "v"
  exact hQ _
end
section
variable {P : Program} {w : World} {K : PySem.W.Frag} {mg : Str → Option Value} {base : Heap}
abbrev sI_BoughError : Stmt := metOf (topS 1) 0
theorem scI_BoughError : FnScope ["self", "word"] ["self", "word"] (defScope sI_BoughError) := ⟨rfl, rfl, rfl, by decide +kernel, rfl, by decide +kernel, by decide +kernel⟩
abbrev sI_BadOperation : Stmt := metOf (topS 2) 0
theorem scI_BadOperation : FnScope ["self", "at"] ["self", "at"] (defScope sI_BadOperation) := ⟨rfl, rfl, rfl, by decide +kernel, rfl, by decide +kernel, by decide +kernel⟩
theorem all_mk {l : PySem.W.OpenLaw} {w : World} {K : PySem.W.Frag} {h : Heap} {mg : Str → Option Value} {fa : Addr} {f0 : Addr} {od0 an0 : Option Addr} {sl0 : Array (Option Value)} {oc0 kV0 dc0 pm0 ct0 : Value} {cd0 : Value} {f1 : Addr} {od1 an1 : Option Addr} {sl1 : Array (Option Value)} {oc1 kV1 dc1 pm1 ct1 : Value} {cd1 : Value} {f2 : Addr} {od2 an2 : Option Addr} {sl2 : Array (Option Value)} {oc2 kV2 dc2 pm2 ct2 : Value} {cd2 : Value} {f3 : Addr} {od3 an3 : Option Addr} {sl3 : Array (Option Value)} {oc3 kV3 dc3 pm3 ct3 : Value} {cd3 : Value} {f4 : Addr} {od4 an4 : Option Addr} {sl4 : Array (Option Value)} {oc4 kV4 dc4 pm4 ct4 : Value} {cd4 : Value} {f5 : Addr} {od5 an5 : Option Addr} {sl5 : Array (Option Value)} {oc5 kV5 dc5 pm5 ct5 : Value} {cd5 : Value} {f6 : Addr} {od6 an6 : Option Addr} {sl6 : Array (Option Value)} {oc6 kV6 dc6 pm6 ct6 : Value} {cd6 : Value} {f7 : Addr} {od7 an7 : Option Addr} {sl7 : Array (Option Value)} {oc7 kV7 dc7 pm7 ct7 : Value} {cd7 : Value} {f8 : Addr} {od8 an8 : Option Addr} {sl8 : Array (Option Value)} {oc8 kV8 dc8 pm8 ct8 : Value} {cd8 : Value} {f9 : Addr} {od9 an9 : Option Addr} {sl9 : Array (Option Value)} {oc9 kV9 dc9 pm9 ct9 : Value} {cd9 : Value} {f10 : Addr} {od10 an10 : Option Addr} {sl10 : Array (Option Value)} {oc10 kV10 dc10 pm10 ct10 : Value} {cd10 : Value} {f11 : Addr} {od11 an11 : Option Addr} {sl11 : Array (Option Value)} {oc11 kV11 dc11 pm11 ct11 : Value} {cd11 : Value} {f12 : Addr} {od12 an12 : Option Addr} {sl12 : Array (Option Value)} {oc12 kV12 dc12 pm12 ct12 : Value} {cd12 : Value} {f13 : Addr} {od13 an13 : Option Addr} {sl13 : Array (Option Value)} {oc13 kV13 dc13 pm13 ct13 : Value} {cd13 : Value} {f14 : Addr} {od14 an14 : Option Addr} {sl14 : Array (Option Value)} {oc14 kV14 dc14 pm14 ct14 : Value} {cd14 : Value} {f15 : Addr} {od15 an15 : Option Addr} {sl15 : Array (Option Value)} {oc15 kV15 dc15 pm15 ct15 : Value} {cd15 : Value} {f16 : Addr} {od16 an16 : Option Addr} {sl16 : Array (Option Value)} {oc16 kV16 dc16 pm16 ct16 : Value} {cd16 : Value} {f17 : Addr} {od17 an17 : Option Addr} {sl17 : Array (Option Value)} {oc17 kV17 dc17 pm17 ct17 : Value} {cd17 : Value} {f18 : Addr} {od18 an18 : Option Addr} {sl18 : Array (Option Value)} {oc18 kV18 dc18 pm18 ct18 : Value} {cd18 : Value} {f19 : Addr} {od19 an19 : Option Addr} {sl19 : Array (Option Value)} {oc19 kV19 dc19 pm19 ct19 : Value} {cd19 : Value} {f20 : Addr} {od20 an20 : Option Addr} {sl20 : Array (Option Value)} {oc20 kV20 dc20 pm20 ct20 : Value} {cd20 : Value} {f21 : Addr} {od21 an21 : Option Addr} {sl21 : Array (Option Value)} {oc21 kV21 dc21 pm21 ct21 : Value} {cd21 : Value} {f22 : Addr} {od22 an22 : Option Addr} {sl22 : Array (Option Value)} {oc22 kV22 dc22 pm22 ct22 : Value} {cd22 : Value} {f23 : Addr} {od23 an23 : Option Addr} {sl23 : Array (Option Value)} {oc23 kV23 dc23 pm23 ct23 : Value} {cd23 : Value} {f24 : Addr} {od24 an24 : Option Addr} {sl24 : Array (Option Value)} {oc24 kV24 dc24 pm24 ct24 : Value} {cd24 : Value} {f25 : Addr} {od25 an25 : Option Addr} {sl25 : Array (Option Value)} {oc25 kV25 dc25 pm25 ct25 : Value} {cd25 : Value} {f26 : Addr} {od26 an26 : Option Addr} {sl26 : Array (Option Value)} {oc26 kV26 dc26 pm26 ct26 : Value} {cd26 : Value} {f27 : Addr} {od27 an27 : Option Addr} {sl27 : Array (Option Value)} {oc27 kV27 dc27 pm27 ct27 : Value} {cd27 : Value} {f28 : Addr} {od28 an28 : Option Addr} {sl28 : Array (Option Value)} {oc28 kV28 dc28 pm28 ct28 : Value} {cd28 : Value} {f29 : Addr} {od29 an29 : Option Addr} {sl29 : Array (Option Value)} {oc29 kV29 dc29 pm29 ct29 : Value} {cd29 : Value} {f30 : Addr} {od30 an30 : Option Addr} {sl30 : Array (Option Value)} {oc30 kV30 dc30 pm30 ct30 : Value} {cd30 : Value} {t_LETTERS : Tok} {t_ENDS : Tok} {t_MOST_LETTERS : Tok} {t_LEAF : Tok} {t_MOST_THINGS : Tok} {t_MOST_MANY : Tok} {C_BoughError : Addr} {C_BadOperation : Addr} {f_BoughError : Addr} {od_BoughError an_BoughError : Option Addr} {sl_BoughError : Array (Option Value)} {oc_BoughError kV_BoughError dc_BoughError pm_BoughError ct_BoughError : Value} {cd_BoughError : Value} {nm_BadOperation q_BadOperation : Str} {N_BadOperation : Addr} {bs_BadOperation bm_BadOperation : List Value} {sn_BadOperation : List Str} {sub_BadOperation : List Value} {ab_BadOperation : Bool} {col_BadOperation : Option Bool} {dd_BadOperation : Option Addr} {z0_BadOperation z1_BadOperation z2_BadOperation z3_BadOperation z5_BadOperation : Option Value} {f_BadOperation : Addr} {od_BadOperation an_BadOperation : Option Addr} {sl_BadOperation : Array (Option Value)} {oc_BadOperation kV_BadOperation dc_BadOperation pm_BadOperation ct_BadOperation : Value} {cd_BadOperation : Value} (X : K.In h) (G : h.Ns mainGlobals mg) (hfa : mg "law" = some (.ref fa))
    (a0 : PySem.W.nsIn K mainGlobals "all_letters" = some (some (.ref f0)))
    (l0 : K.lookup f0 = some ⟨oc0, od0, .func (PySem.W.fnOf "all_letters" "all_letters" (defArgs sAllLetters) (defBody sAllLetters) (defScope sAllLetters) .none kV0 dc0 pm0 an0 cd0 ct0), sl0⟩)
    (c0 : PySem.W.codeIn K cd0 "all_letters" = true)
    (k0 : PySem.W.keepIn K (.ref f0) = true)
    (a1 : PySem.W.nsIn K mainGlobals "is_operation" = some (some (.ref f1)))
    (l1 : K.lookup f1 = some ⟨oc1, od1, .func (PySem.W.fnOf "is_operation" "is_operation" (defArgs sIsOp) (defBody sIsOp) (defScope sIsOp) .none kV1 dc1 pm1 an1 cd1 ct1), sl1⟩)
    (c1 : PySem.W.codeIn K cd1 "is_operation" = true)
    (k1 : PySem.W.keepIn K (.ref f1) = true)
    (a2 : PySem.W.nsIn K mainGlobals "look_at_operations" = some (some (.ref f2)))
    (l2 : K.lookup f2 = some ⟨oc2, od2, .func (PySem.W.fnOf "look_at_operations" "look_at_operations" (defArgs sLookOps) (defBody sLookOps) (defScope sLookOps) .none kV2 dc2 pm2 an2 cd2 ct2), sl2⟩)
    (c2 : PySem.W.codeIn K cd2 "look_at_operations" = true)
    (k2 : PySem.W.keepIn K (.ref f2) = true)
    (a3 : PySem.W.nsIn K mainGlobals "room_of" = some (some (.ref f3)))
    (l3 : K.lookup f3 = some ⟨oc3, od3, .func (PySem.W.fnOf "room_of" "room_of" (defArgs sRoomOf) (defBody sRoomOf) (defScope sRoomOf) .none kV3 dc3 pm3 an3 cd3 ct3), sl3⟩)
    (c3 : PySem.W.codeIn K cd3 "room_of" = true)
    (k3 : PySem.W.keepIn K (.ref f3) = true)
    (a4 : PySem.W.nsIn K mainGlobals "end_of" = some (some (.ref f4)))
    (l4 : K.lookup f4 = some ⟨oc4, od4, .func (PySem.W.fnOf "end_of" "end_of" (defArgs sEndOf) (defBody sEndOf) (defScope sEndOf) .none kV4 dc4 pm4 an4 cd4 ct4), sl4⟩)
    (c4 : PySem.W.codeIn K cd4 "end_of" = true)
    (k4 : PySem.W.keepIn K (.ref f4) = true)
    (a5 : PySem.W.nsIn K mainGlobals "is_tree" = some (some (.ref f5)))
    (l5 : K.lookup f5 = some ⟨oc5, od5, .func (PySem.W.fnOf "is_tree" "is_tree" (defArgs sIsTreeG) (defBody sIsTreeG) (defScope sIsTreeG) .none kV5 dc5 pm5 an5 cd5 ct5), sl5⟩)
    (c5 : PySem.W.codeIn K cd5 "is_tree" = true)
    (k5 : PySem.W.keepIn K (.ref f5) = true)
    (a6 : PySem.W.nsIn K mainGlobals "parts_of" = some (some (.ref f6)))
    (l6 : K.lookup f6 = some ⟨oc6, od6, .func (PySem.W.fnOf "parts_of" "parts_of" (defArgs sPartsOf) (defBody sPartsOf) (defScope sPartsOf) .none kV6 dc6 pm6 an6 cd6 ct6), sl6⟩)
    (c6 : PySem.W.codeIn K cd6 "parts_of" = true)
    (k6 : PySem.W.keepIn K (.ref f6) = true)
    (a7 : PySem.W.nsIn K mainGlobals "pieces" = some (some (.ref f7)))
    (l7 : K.lookup f7 = some ⟨oc7, od7, .func (PySem.W.fnOf "pieces" "pieces" (defArgs sPieces) (defBody sPieces) (defScope sPieces) .none kV7 dc7 pm7 an7 cd7 ct7), sl7⟩)
    (c7 : PySem.W.codeIn K cd7 "pieces" = true)
    (k7 : PySem.W.keepIn K (.ref f7) = true)
    (a8 : PySem.W.nsIn K mainGlobals "fits_over" = some (some (.ref f8)))
    (l8 : K.lookup f8 = some ⟨oc8, od8, .func (PySem.W.fnOf "fits_over" "fits_over" (defArgs sFits) (defBody sFits) (defScope sFits) .none kV8 dc8 pm8 an8 cd8 ct8), sl8⟩)
    (c8 : PySem.W.codeIn K cd8 "fits_over" = true)
    (k8 : PySem.W.keepIn K (.ref f8) = true)
    (a9 : PySem.W.nsIn K mainGlobals "rows_over" = some (some (.ref f9)))
    (l9 : K.lookup f9 = some ⟨oc9, od9, .func (PySem.W.fnOf "rows_over" "rows_over" (defArgs sRowsOver) (defBody sRowsOver) (defScope sRowsOver) .none kV9 dc9 pm9 an9 cd9 ct9), sl9⟩)
    (c9 : PySem.W.codeIn K cd9 "rows_over" = true)
    (k9 : PySem.W.keepIn K (.ref f9) = true)
    (a10 : PySem.W.nsIn K mainGlobals "counted" = some (some (.ref f10)))
    (l10 : K.lookup f10 = some ⟨oc10, od10, .func (PySem.W.fnOf "counted" "counted" (defArgs sCounted) (defBody sCounted) (defScope sCounted) .none kV10 dc10 pm10 an10 cd10 ct10), sl10⟩)
    (c10 : PySem.W.codeIn K cd10 "counted" = true)
    (k10 : PySem.W.keepIn K (.ref f10) = true)
    (a11 : PySem.W.nsIn K mainGlobals "_law_bag" = some (some (.ref f11)))
    (l11 : K.lookup f11 = some ⟨oc11, od11, .func (PySem.W.fnOf "_law_bag" "_law_bag" (defArgs sBag) (defBody sBag) (defScope sBag) .none kV11 dc11 pm11 an11 cd11 ct11), sl11⟩)
    (c11 : PySem.W.codeIn K cd11 "_law_bag" = true)
    (k11 : PySem.W.keepIn K (.ref f11) = true)
    (a12 : PySem.W.nsIn K mainGlobals "_law_pull" = some (some (.ref f12)))
    (l12 : K.lookup f12 = some ⟨oc12, od12, .func (PySem.W.fnOf "_law_pull" "_law_pull" (defArgs sPull) (defBody sPull) (defScope sPull) .none kV12 dc12 pm12 an12 cd12 ct12), sl12⟩)
    (c12 : PySem.W.codeIn K cd12 "_law_pull" = true)
    (k12 : PySem.W.keepIn K (.ref f12) = true)
    (a13 : PySem.W.nsIn K mainGlobals "_law_of" = some (some (.ref f13)))
    (l13 : K.lookup f13 = some ⟨oc13, od13, .func (PySem.W.fnOf "_law_of" "_law_of" (defArgs sOf) (defBody sOf) (defScope sOf) .none kV13 dc13 pm13 an13 cd13 ct13), sl13⟩)
    (c13 : PySem.W.codeIn K cd13 "_law_of" = true)
    (k13 : PySem.W.keepIn K (.ref f13) = true)
    (a14 : PySem.W.nsIn K mainGlobals "_law_same" = some (some (.ref f14)))
    (l14 : K.lookup f14 = some ⟨oc14, od14, .func (PySem.W.fnOf "_law_same" "_law_same" (defArgs sSame) (defBody sSame) (defScope sSame) .none kV14 dc14 pm14 an14 cd14 ct14), sl14⟩)
    (c14 : PySem.W.codeIn K cd14 "_law_same" = true)
    (k14 : PySem.W.keepIn K (.ref f14) = true)
    (a15 : PySem.W.nsIn K mainGlobals "_law_names" = some (some (.ref f15)))
    (l15 : K.lookup f15 = some ⟨oc15, od15, .func (PySem.W.fnOf "_law_names" "_law_names" (defArgs sNames) (defBody sNames) (defScope sNames) .none kV15 dc15 pm15 an15 cd15 ct15), sl15⟩)
    (c15 : PySem.W.codeIn K cd15 "_law_names" = true)
    (k15 : PySem.W.keepIn K (.ref f15) = true)
    (a16 : PySem.W.nsIn K mainGlobals "_law_ops" = some (some (.ref f16)))
    (l16 : K.lookup f16 = some ⟨oc16, od16, .func (PySem.W.fnOf "_law_ops" "_law_ops" (defArgs sOps) (defBody sOps) (defScope sOps) .none kV16 dc16 pm16 an16 cd16 ct16), sl16⟩)
    (c16 : PySem.W.codeIn K cd16 "_law_ops" = true)
    (k16 : PySem.W.keepIn K (.ref f16) = true)
    (a17 : PySem.W.nsIn K mainGlobals "_law_arities" = some (some (.ref f17)))
    (l17 : K.lookup f17 = some ⟨oc17, od17, .func (PySem.W.fnOf "_law_arities" "_law_arities" (defArgs sAritT) (defBody sAritT) (defScope sAritT) .none kV17 dc17 pm17 an17 cd17 ct17), sl17⟩)
    (c17 : PySem.W.codeIn K cd17 "_law_arities" = true)
    (k17 : PySem.W.keepIn K (.ref f17) = true)
    (a18 : PySem.W.nsIn K mainGlobals "_law_reach" = some (some (.ref f18)))
    (l18 : K.lookup f18 = some ⟨oc18, od18, .func (PySem.W.fnOf "_law_reach" "_law_reach" (defArgs sReach) (defBody sReach) (defScope sReach) .none kV18 dc18 pm18 an18 cd18 ct18), sl18⟩)
    (c18 : PySem.W.codeIn K cd18 "_law_reach" = true)
    (k18 : PySem.W.keepIn K (.ref f18) = true)
    (a19 : PySem.W.nsIn K mainGlobals "_law_end" = some (some (.ref f19)))
    (l19 : K.lookup f19 = some ⟨oc19, od19, .func (PySem.W.fnOf "_law_end" "_law_end" (defArgs sEnd) (defBody sEnd) (defScope sEnd) .none kV19 dc19 pm19 an19 cd19 ct19), sl19⟩)
    (c19 : PySem.W.codeIn K cd19 "_law_end" = true)
    (k19 : PySem.W.keepIn K (.ref f19) = true)
    (a20 : PySem.W.nsIn K mainGlobals "_law_kids" = some (some (.ref f20)))
    (l20 : K.lookup f20 = some ⟨oc20, od20, .func (PySem.W.fnOf "_law_kids" "_law_kids" (defArgs sKids) (defBody sKids) (defScope sKids) .none kV20 dc20 pm20 an20 cd20 ct20), sl20⟩)
    (c20 : PySem.W.codeIn K cd20 "_law_kids" = true)
    (k20 : PySem.W.keepIn K (.ref f20) = true)
    (a21 : PySem.W.nsIn K mainGlobals "_law_graft" = some (some (.ref f21)))
    (l21 : K.lookup f21 = some ⟨oc21, od21, .func (PySem.W.fnOf "_law_graft" "_law_graft" (defArgs sGraft) (defBody sGraft) (defScope sGraft) .none kV21 dc21 pm21 an21 cd21 ct21), sl21⟩)
    (c21 : PySem.W.codeIn K cd21 "_law_graft" = true)
    (k21 : PySem.W.keepIn K (.ref f21) = true)
    (a22 : PySem.W.nsIn K mainGlobals "_law_paths" = some (some (.ref f22)))
    (l22 : K.lookup f22 = some ⟨oc22, od22, .func (PySem.W.fnOf "_law_paths" "_law_paths" (defArgs sLPaths) (defBody sLPaths) (defScope sLPaths) .none kV22 dc22 pm22 an22 cd22 ct22), sl22⟩)
    (c22 : PySem.W.codeIn K cd22 "_law_paths" = true)
    (k22 : PySem.W.keepIn K (.ref f22) = true)
    (a23 : PySem.W.nsIn K mainGlobals "_law_rank" = some (some (.ref f23)))
    (l23 : K.lookup f23 = some ⟨oc23, od23, .func (PySem.W.fnOf "_law_rank" "_law_rank" (defArgs sLRank) (defBody sLRank) (defScope sLRank) .none kV23 dc23 pm23 an23 cd23 ct23), sl23⟩)
    (c23 : PySem.W.codeIn K cd23 "_law_rank" = true)
    (k23 : PySem.W.keepIn K (.ref f23) = true)
    (a24 : PySem.W.nsIn K mainGlobals "_law_joined" = some (some (.ref f24)))
    (l24 : K.lookup f24 = some ⟨oc24, od24, .func (PySem.W.fnOf "_law_joined" "_law_joined" (defArgs sJoined) (defBody sJoined) (defScope sJoined) .none kV24 dc24 pm24 an24 cd24 ct24), sl24⟩)
    (c24 : PySem.W.codeIn K cd24 "_law_joined" = true)
    (k24 : PySem.W.keepIn K (.ref f24) = true)
    (a25 : PySem.W.nsIn K mainGlobals "_law_lots" = some (some (.ref f25)))
    (l25 : K.lookup f25 = some ⟨oc25, od25, .func (PySem.W.fnOf "_law_lots" "_law_lots" (defArgs sLots) (defBody sLots) (defScope sLots) .none kV25 dc25 pm25 an25 cd25 ct25), sl25⟩)
    (c25 : PySem.W.codeIn K cd25 "_law_lots" = true)
    (k25 : PySem.W.keepIn K (.ref f25) = true)
    (a26 : PySem.W.nsIn K mainGlobals "_law_grown" = some (some (.ref f26)))
    (l26 : K.lookup f26 = some ⟨oc26, od26, .func (PySem.W.fnOf "_law_grown" "_law_grown" (defArgs sGrown) (defBody sGrown) (defScope sGrown) .none kV26 dc26 pm26 an26 cd26 ct26), sl26⟩)
    (c26 : PySem.W.codeIn K cd26 "_law_grown" = true)
    (k26 : PySem.W.keepIn K (.ref f26) = true)
    (a27 : PySem.W.nsIn K mainGlobals "_law_wild" = some (some (.ref f27)))
    (l27 : K.lookup f27 = some ⟨oc27, od27, .func (PySem.W.fnOf "_law_wild" "_law_wild" (defArgs sWild) (defBody sWild) (defScope sWild) .none kV27 dc27 pm27 an27 cd27 ct27), sl27⟩)
    (c27 : PySem.W.codeIn K cd27 "_law_wild" = true)
    (k27 : PySem.W.keepIn K (.ref f27) = true)
    (a28 : PySem.W.nsIn K mainGlobals "_law_stands_at" = some (some (.ref f28)))
    (l28 : K.lookup f28 = some ⟨oc28, od28, .func (PySem.W.fnOf "_law_stands_at" "_law_stands_at" (defArgs sLStands) (defBody sLStands) (defScope sLStands) .none kV28 dc28 pm28 an28 cd28 ct28), sl28⟩)
    (c28 : PySem.W.codeIn K cd28 "_law_stands_at" = true)
    (k28 : PySem.W.keepIn K (.ref f28) = true)
    (a29 : PySem.W.nsIn K mainGlobals "_law_spots" = some (some (.ref f29)))
    (l29 : K.lookup f29 = some ⟨oc29, od29, .func (PySem.W.fnOf "_law_spots" "_law_spots" (defArgs sSpots) (defBody sSpots) (defScope sSpots) .none kV29 dc29 pm29 an29 cd29 ct29), sl29⟩)
    (c29 : PySem.W.codeIn K cd29 "_law_spots" = true)
    (k29 : PySem.W.keepIn K (.ref f29) = true)
    (a30 : PySem.W.nsIn K mainGlobals "law" = some (some (.ref f30)))
    (l30 : K.lookup f30 = some ⟨oc30, od30, .func (PySem.W.fnOf "law" "law" (defArgs sLaw) (defBody sLaw) (defScope sLaw) .none kV30 dc30 pm30 an30 cd30 ct30), sl30⟩)
    (c30 : PySem.W.codeIn K cd30 "law" = true)
    (k30 : PySem.W.keepIn K (.ref f30) = true)
    (n_ValueError : PySem.W.nsIn K mainGlobals "ValueError" = some none)
    (n_len : PySem.W.nsIn K mainGlobals "len" = some none)
    (n_all : PySem.W.nsIn K mainGlobals "all" = some none)
    (n_enumerate : PySem.W.nsIn K mainGlobals "enumerate" = some none)
    (n_int : PySem.W.nsIn K mainGlobals "int" = some none)
    (n_range : PySem.W.nsIn K mainGlobals "range" = some none)
    (n_zip : PySem.W.nsIn K mainGlobals "zip" = some none)
    (n_sum : PySem.W.nsIn K mainGlobals "sum" = some none)
    (n_any : PySem.W.nsIn K mainGlobals "any" = some none)
    (n_tuple : PySem.W.nsIn K mainGlobals "tuple" = some none)
    (n_list : PySem.W.nsIn K mainGlobals "list" = some none)
    (n_isinstance : PySem.W.nsIn K mainGlobals "isinstance" = some none)
    (n_bool : PySem.W.nsIn K mainGlobals "bool" = some none)
    (n_str : PySem.W.nsIn K mainGlobals "str" = some none)
    (n_set : PySem.W.nsIn K mainGlobals "set" = some none)
    (n_sorted : PySem.W.nsIn K mainGlobals "sorted" = some none)
    (n_max : PySem.W.nsIn K mainGlobals "max" = some none)
    (n_min : PySem.W.nsIn K mainGlobals "min" = some none)
    (v_LETTERS : PySem.W.nsIn K mainGlobals "LETTERS" = some (some (.str "abcdefghijklmnopqrstuvwxyz" t_LETTERS)))
    (v_ENDS : PySem.W.nsIn K mainGlobals "ENDS" = some (some (.str "234" t_ENDS)))
    (v_MOST_LETTERS : PySem.W.nsIn K mainGlobals "MOST_LETTERS" = some (some (.int 6 t_MOST_LETTERS)))
    (v_LEAF : PySem.W.nsIn K mainGlobals "LEAF" = some (some (.str "_" t_LEAF)))
    (v_MOST_THINGS : PySem.W.nsIn K mainGlobals "MOST_THINGS" = some (some (.int 7 t_MOST_THINGS)))
    (v_MOST_MANY : PySem.W.nsIn K mainGlobals "MOST_MANY" = some (some (.int 20 t_MOST_MANY)))
    (g_BoughError : PySem.W.nsIn K mainGlobals "BoughError" = some (some (.ref C_BoughError)))
    (g_BadOperation : PySem.W.nsIn K mainGlobals "BadOperation" = some (some (.ref C_BadOperation)))
    (vV : PySem.W.findCls K (.type "ValueError") (.type "type") "__init__" = some (.val (.builtin "ValueError.__init__")))
    (rd_BoughError : PySem.W.readsIn K C_BoughError (.type "type") = true)
    (gt_BoughError : PySem.W.specialIn K (.ref C_BoughError) "__getattribute__" = some (some (.builtin "type.__getattribute__")))
    (fc_BoughError : PySem.W.findCls K (.ref C_BoughError) (.type "type") "__init__" = some (.val (.ref f_BoughError)))
    (l_BoughError : K.lookup f_BoughError = some ⟨oc_BoughError, od_BoughError, .func (PySem.W.fnOf "__init__" "BoughError.__init__" (defArgs sI_BoughError) (defBody sI_BoughError) (defScope sI_BoughError) .none kV_BoughError dc_BoughError pm_BoughError an_BoughError cd_BoughError ct_BoughError), sl_BoughError⟩)
    (c_BoughError : PySem.W.codeIn K cd_BoughError "BoughError.__init__" = true)
    (k_BoughError : PySem.W.keepIn K (.ref f_BoughError) = true)
    (x_BadOperation : K.lookup C_BadOperation = some (excClassObj nm_BadOperation q_BadOperation C_BadOperation N_BadOperation bs_BadOperation bm_BadOperation true sn_BadOperation sub_BadOperation ab_BadOperation col_BadOperation dd_BadOperation z0_BadOperation z1_BadOperation z2_BadOperation z3_BadOperation z5_BadOperation "ValueError.__new__"))
    (r_BadOperation : PySem.HandSPX.refsVE bm_BadOperation = true)
    (sa_BadOperation : PySem.W.findIn K (.ref C_BadOperation) "__setattr__" = some (some (.builtin "object.__setattr__")))
    (ga_BadOperation : PySem.W.findIn K (.ref C_BadOperation) "__getattribute__" = some (some (.builtin "BaseException.__getattribute__")))
    (gg_BadOperation : PySem.W.findIn K (.ref C_BadOperation) "__getattr__" = some none)
    (nw_BadOperation : PySem.W.findIn K (.ref C_BadOperation) "word" = some none)
    (nf_BadOperation : PySem.W.findIn K (.ref C_BadOperation) "at" = some none)
    (i_BadOperation : PySem.W.findIn K (.ref C_BadOperation) "__init__" = some (some (.ref f_BadOperation)))
    (t_BadOperation : PySem.W.typeIn K (.ref f_BadOperation) = some (.type "function"))
    (l_BadOperation : K.lookup f_BadOperation = some ⟨oc_BadOperation, od_BadOperation, .func (PySem.W.fnOf "__init__" "BadOperation.__init__" (defArgs sI_BadOperation) (defBody sI_BadOperation) (defScope sI_BadOperation) .none kV_BadOperation dc_BadOperation pm_BadOperation an_BadOperation cd_BadOperation ct_BadOperation), sl_BadOperation⟩)
    (c_BadOperation : PySem.W.codeIn K cd_BadOperation "BadOperation.__init__" = true)
    (k_BadOperation : PySem.W.keepIn K (.ref f_BadOperation) = true)
    (kC_BadOperation : PySem.W.keepIn K (.ref C_BadOperation) = true)
    (eC_BadOperation : PySem.W.subIn K (.ref C_BadOperation) (.type "BaseException") = some true)
    (tC_BadOperation : PySem.W.typeIn K (.ref C_BadOperation) = some (.type "type"))
    (hC_BadOperation : PySem.W.hasDictIn K C_BadOperation = true)
    : ∃ fd : FuncData, (∀ (s : Shared) (u : Value), BindsTo s fd ⟨[u], []⟩ [("_law_script", u)]) ∧ ∀ base : Heap, K.In base → base.Ns mainGlobals mg → FnOk l.prog w K mg base (L2.CX l.prog w) 26 fa fd ["_law_script"] (spD K spLaw) := by
  have e := hfa.symm.trans (PySem.W.mg_of X G a30)
  cases e
  have m_ValueError := PySem.W.mg_none_of X G n_ValueError
  have m_len := PySem.W.mg_none_of X G n_len
  have m_all := PySem.W.mg_none_of X G n_all
  have m_enumerate := PySem.W.mg_none_of X G n_enumerate
  have m_int := PySem.W.mg_none_of X G n_int
  have m_range := PySem.W.mg_none_of X G n_range
  have m_zip := PySem.W.mg_none_of X G n_zip
  have m_sum := PySem.W.mg_none_of X G n_sum
  have m_any := PySem.W.mg_none_of X G n_any
  have m_tuple := PySem.W.mg_none_of X G n_tuple
  have m_list := PySem.W.mg_none_of X G n_list
  have m_isinstance := PySem.W.mg_none_of X G n_isinstance
  have m_bool := PySem.W.mg_none_of X G n_bool
  have m_str := PySem.W.mg_none_of X G n_str
  have m_set := PySem.W.mg_none_of X G n_set
  have m_sorted := PySem.W.mg_none_of X G n_sorted
  have m_max := PySem.W.mg_none_of X G n_max
  have m_min := PySem.W.mg_none_of X G n_min
  have w_LETTERS := PySem.W.mg_of X G v_LETTERS
  have w_ENDS := PySem.W.mg_of X G v_ENDS
  have w_MOST_LETTERS := PySem.W.mg_of X G v_MOST_LETTERS
  have w_LEAF := PySem.W.mg_of X G v_LEAF
  have w_MOST_THINGS := PySem.W.mg_of X G v_MOST_THINGS
  have w_MOST_MANY := PySem.W.mg_of X G v_MOST_MANY
  have w_BoughError := PySem.W.mg_of X G g_BoughError
  have w_BadOperation := PySem.W.mg_of X G g_BadOperation
  refine ⟨PySem.W.fnOf "law" "law" (defArgs sLaw) (defBody sLaw) (defScope sLaw) .none kV30 dc30 pm30 an30 cd30 ct30, fun s v => .of_eq rfl, fun base _ _ => ?_⟩
  have F_BoughError := fun_mk (st := sI_BoughError) l_BoughError c_BoughError k_BoughError
  have B_BoughError := F_BoughError.binds (ps := ["self", "word"]) fun _ _ _ _ _ _ us hl => match us, hl with | [_, _], _ => rfl
  have O_BoughError : FnOk l.prog w K mg base (L2.CX l.prog w) 1 f_BoughError _ ["self", "word"] (spInit K 1 [("word", .inl 0)]) := ok_initB (k := 0) F_BoughError scI_BoughError rfl rfl rfl rfl (fun env => ⟨_, rfl⟩) m_ValueError vV
  have F_BadOperation := fun_mk (st := sI_BadOperation) l_BadOperation c_BadOperation k_BadOperation
  have B_BadOperation := F_BadOperation.binds (ps := ["self", "at"]) fun _ _ _ _ _ _ us hl => match us, hl with | [_, _], _ => rfl
  have O_BadOperation : FnOk l.prog w K mg base (L2.CX l.prog w) 2 f_BadOperation _ ["self", "at"] (spInit K 1 [("at", .inl 0), ("word", .inr "BadOperation")]) := ok_init1 (k := 1) F_BadOperation scI_BadOperation rfl rfl rfl rfl (by decide) (by decide) (by decide) (by decide) (fun env => ⟨_, rfl⟩) w_BoughError ⟨rd_BoughError, gt_BoughError, fc_BoughError, k_BoughError⟩ O_BoughError B_BoughError (Nat.le_refl _)
  have V_BadOperation : ∀ p ∈ ([("at", .inl 0), ("word", .inr "BadOperation")] : FT), PySem.W.findIn K (.ref C_BadOperation) p.1 = some none := fun p hp => by
    simp only [List.mem_cons, List.not_mem_nil, or_false] at hp
    rcases hp with rfl | rfl
    · exact nf_BadOperation
    · exact nw_BadOperation
  have X_BadOperation : XMk l.prog w K mg base "BadOperation" 2 1 [("at", .inl 0), ("word", .inr "BadOperation")] C_BadOperation := ⟨⟨⟨_, _, _, _, _, _, _, _, _, _, _, _, _, _, _, x_BadOperation, r_BadOperation⟩, sa_BadOperation, eC_BadOperation, tC_BadOperation, kC_BadOperation⟩, V_BadOperation, w_BadOperation, ⟨ga_BadOperation, gg_BadOperation, eC_BadOperation, hC_BadOperation⟩, ⟨_, _, _, O_BadOperation, i_BadOperation, t_BadOperation, B_BadOperation⟩⟩
  have F0 := fun_mk (st := sAllLetters) l0 c0 k0
  have D0 : Fd l.prog w K mg base "all_letters" 1 ["text", "most"] spAllLetters := ⟨_, _, ok_allLetters (k := 0) F0 m_len m_all w_LETTERS, PySem.W.mg_of X G a0, k0, F0.binds (ps := ["text", "most"]) fun _ _ _ _ _ _ us hl => match us, hl with | [_, _], _ => rfl⟩
  have F1 := fun_mk (st := sIsOp) l1 c1 k1
  have D1 : Fd l.prog w K mg base "is_operation" 2 ["text"] spIsOp := ⟨_, _, ok_isOp (k := 1) F1 w_ENDS w_MOST_LETTERS D0 (by omega), PySem.W.mg_of X G a1, k1, F1.binds (ps := ["text"]) fun _ _ _ _ _ _ us hl => match us, hl with | [_], _ => rfl⟩
  have F2 := fun_mk (st := sLookOps) l2 c2 k2
  have D2 : Fd l.prog w K mg base "look_at_operations" 4 ["operations"] (spLookX C_BadOperation) := ⟨_, _, ok_lookX (k := 3) F2 m_enumerate X_BadOperation D1 (by omega), PySem.W.mg_of X G a2, k2, F2.binds (ps := ["operations"]) fun _ _ _ _ _ _ us hl => match us, hl with | [_], _ => rfl⟩
  have F3 := fun_mk (st := sRoomOf) l3 c3 k3
  have D3 : Fd l.prog w K mg base "room_of" 1 ["word"] spRoomOf := ⟨_, _, ok_roomOf (k := 0) F3 m_int w_LEAF, PySem.W.mg_of X G a3, k3, F3.binds (ps := ["word"]) fun _ _ _ _ _ _ us hl => match us, hl with | [_], _ => rfl⟩
  have F4 := fun_mk (st := sEndOf) l4 c4 k4
  have D4 : Fd l.prog w K mg base "end_of" 2 ["tree", "at"] spEnd := ⟨_, _, ok_endOf (k := 1) F4 D3 (by omega), PySem.W.mg_of X G a4, k4, F4.binds (ps := ["tree", "at"]) fun _ _ _ _ _ _ us hl => match us, hl with | [_, _], _ => rfl⟩
  have F5 := fun_mk (st := sIsTreeG) l5 c5 k5
  have D5 : Fd l.prog w K mg base "is_tree" 3 ["words"] spIsTreeG := ⟨_, _, ok_isTreeG (k := 2) F5 w_LEAF w_MOST_THINGS D1 D3 (by omega), PySem.W.mg_of X G a5, k5, F5.binds (ps := ["words"]) fun _ _ _ _ _ _ us hl => match us, hl with | [_], _ => rfl⟩
  have F6 := fun_mk (st := sPartsOf) l6 c6 k6
  have D6 : Fd l.prog w K mg base "parts_of" 3 ["tree", "at"] spPartsOf := ⟨_, _, ok_partsOf (k := 2) F6 m_range D3 D4 (by omega), PySem.W.mg_of X G a6, k6, F6.binds (ps := ["tree", "at"]) fun _ _ _ _ _ _ us hl => match us, hl with | [_, _], _ => rfl⟩
  have F7 := fun_mk (st := sPieces) l7 c7 k7
  have D7 : Fd l.prog w K mg base "pieces" 3 ["patterns"] spPiecesG := ⟨_, _, ok_piecesG (k := 2) F7 m_enumerate w_LEAF D4 (by omega), PySem.W.mg_of X G a7, k7, F7.binds (ps := ["patterns"]) fun _ _ _ _ _ _ us hl => match us, hl with | [_], _ => rfl⟩
  have F8 := fun_mk (st := sFits) l8 c8 k8
  have D8 : Fd l.prog w K mg base "fits_over" 4 ["piece", "operation", "stands"] spFitsG := ⟨_, _, ok_fitsG (k := 3) F8 m_all m_zip w_LEAF D6 (by omega), PySem.W.mg_of X G a8, k8, F8.binds (ps := ["piece", "operation", "stands"]) fun _ _ _ _ _ _ us hl => match us, hl with | [_, _, _], _ => rfl⟩
  have F9 := fun_mk (st := sRowsOver) l9 c9 k9
  have D9 : ∀ n : Nat, Fd l.prog w K mg base "rows_over" (n + 1) ["known", "lack", "many"] ((spRowsG l.prog w) n) := fun n => by
    induction n with
    | zero => exact ⟨_, _, ok_rowsG (n := 0) F9 (fun m e => nomatch e) m_range, PySem.W.mg_of X G a9, k9, F9.binds (ps := ["known", "lack", "many"]) fun _ _ _ _ _ _ us hl => match us, hl with | [_, _, _], _ => rfl⟩
    | succ n ih => exact ⟨_, _, ok_rowsG (n := n + 1) F9 (fun m e => by cases e; exact ih) m_range, PySem.W.mg_of X G a9, k9, F9.binds (ps := ["known", "lack", "many"]) fun _ _ _ _ _ _ us hl => match us, hl with | [_, _, _], _ => rfl⟩
  have F10 := fun_mk (st := sCounted) l10 c10 k10
  have D10 : Fd l.prog w K mg base "counted" 7 ["operations", "patterns", "upto"] spCountedG := ⟨_, _, ok_countedG (k := 6) F10 m_enumerate m_range m_sum m_any m_tuple w_LEAF w_MOST_MANY D2 D5 D7 D3 (D9 4) D8 (by omega), PySem.W.mg_of X G a10, k10, F10.binds (ps := ["operations", "patterns", "upto"]) fun _ _ _ _ _ _ us hl => match us, hl with | [_, _, _], _ => rfl⟩
  have F11 := fun_mk (st := sBag) l11 c11 k11
  have D11 : Fd l.prog w K mg base "_law_bag" 1 ["_law_script"] spBag := ⟨_, _, ok_bag (k := 0) F11 m_list, PySem.W.mg_of X G a11, k11, F11.binds (ps := ["_law_script"]) fun _ _ _ _ _ _ us hl => match us, hl with | [_], _ => rfl⟩
  have F12 := fun_mk (st := sPull) l12 c12 k12
  have D12 : Fd l.prog w K mg base "_law_pull" 1 ["_law_dr", "_law_many"] spPull := ⟨_, _, ok_pull (k := 0) F12 m_len, PySem.W.mg_of X G a12, k12, F12.binds (ps := ["_law_dr", "_law_many"]) fun _ _ _ _ _ _ us hl => match us, hl with | [_, _], _ => rfl⟩
  have F13 := fun_mk (st := sOf) l13 c13 k13
  have D13 : Fd l.prog w K mg base "_law_of" 2 ["_law_dr", "_law_some"] spOf := ⟨_, _, ok_of (k := 1) F13 m_len D12 (by omega), PySem.W.mg_of X G a13, k13, F13.binds (ps := ["_law_dr", "_law_some"]) fun _ _ _ _ _ _ us hl => match us, hl with | [_, _], _ => rfl⟩
  have F14 := fun_mk (st := sSame) l14 c14 k14
  have D14 : ∀ n : Nat, Fd l.prog w K mg base "_law_same" (n + 1) ["_law_found", "_law_due"] (spSame n) := fun n => by
    induction n with
    | zero => exact ⟨_, _, ok_same (n := 0) F14 (fun m e => nomatch e) m_isinstance m_bool m_int m_str m_list m_tuple m_len m_all m_range, PySem.W.mg_of X G a14, k14, F14.binds (ps := ["_law_found", "_law_due"]) fun _ _ _ _ _ _ us hl => match us, hl with | [_, _], _ => rfl⟩
    | succ n ih => exact ⟨_, _, ok_same (n := n + 1) F14 (fun m e => by cases e; exact ih) m_isinstance m_bool m_int m_str m_list m_tuple m_len m_all m_range, PySem.W.mg_of X G a14, k14, F14.binds (ps := ["_law_found", "_law_due"]) fun _ _ _ _ _ _ us hl => match us, hl with | [_, _], _ => rfl⟩
  have F15 := fun_mk (st := sNames) l15 c15 k15
  have D15 : Fd l.prog w K mg base "_law_names" 2 ["_law_dr", "_law_many"] spNames := ⟨_, _, ok_names (k := 1) F15 m_len m_range D12 (by omega), PySem.W.mg_of X G a15, k15, F15.binds (ps := ["_law_dr", "_law_many"]) fun _ _ _ _ _ _ us hl => match us, hl with | [_, _], _ => rfl⟩
  have F16 := fun_mk (st := sOps) l16 c16 k16
  have D16 : Fd l.prog w K mg base "_law_ops" 3 ["_law_dr", "_law_arities_here"] spOps := ⟨_, _, ok_ops (k := 2) F16 m_len m_set m_str m_sorted m_range D12 D15 (by omega), PySem.W.mg_of X G a16, k16, F16.binds (ps := ["_law_dr", "_law_arities_here"]) fun _ _ _ _ _ _ us hl => match us, hl with | [_, _], _ => rfl⟩
  have F17 := fun_mk (st := sAritT) l17 c17 k17
  have D17 : Fd l.prog w K mg base "_law_arities" 2 ["_law_dr"] spAritT := ⟨_, _, ok_aritT (k := 1) F17 D12 (by omega), PySem.W.mg_of X G a17, k17, F17.binds (ps := ["_law_dr"]) fun _ _ _ _ _ _ us hl => match us, hl with | [_], _ => rfl⟩
  have F18 := fun_mk (st := sReach) l18 c18 k18
  have D18 : Fd l.prog w K mg base "_law_reach" 1 ["_law_ops_here"] spReach := ⟨_, _, ok_reach (k := 0) F18 m_int m_len m_max m_min, PySem.W.mg_of X G a18, k18, F18.binds (ps := ["_law_ops_here"]) fun _ _ _ _ _ _ us hl => match us, hl with | [_], _ => rfl⟩
  have F19 := fun_mk (st := sEnd) l19 c19 k19
  have D19 : Fd l.prog w K mg base "_law_end" 1 ["_law_tree", "_law_at"] spEnd := ⟨_, _, ok_end (k := 0) F19 m_int, PySem.W.mg_of X G a19, k19, F19.binds (ps := ["_law_tree", "_law_at"]) fun _ _ _ _ _ _ us hl => match us, hl with | [_, _], _ => rfl⟩
  have F20 := fun_mk (st := sKids) l20 c20 k20
  have D20 : Fd l.prog w K mg base "_law_kids" 2 ["_law_tree"] spKids := ⟨_, _, ok_kids (k := 1) F20 m_len D19 (by omega), PySem.W.mg_of X G a20, k20, F20.binds (ps := ["_law_tree"]) fun _ _ _ _ _ _ us hl => match us, hl with | [_], _ => rfl⟩
  have F21 := fun_mk (st := sGraft) l21 c21 k21
  have D21 : Fd l.prog w K mg base "_law_graft" 1 ["_law_tree", "_law_leaf", "_law_other"] spGraft := ⟨_, _, ok_graft (k := 0) F21 m_len m_range, PySem.W.mg_of X G a21, k21, F21.binds (ps := ["_law_tree", "_law_leaf", "_law_other"]) fun _ _ _ _ _ _ us hl => match us, hl with | [_, _, _], _ => rfl⟩
  have F22 := fun_mk (st := sLPaths) l22 c22 k22
  have D22 : ∀ n : Nat, Fd l.prog w K mg base "_law_paths" (n + 3) ["_law_tree"] (spLPaths n) := fun n => by
    induction n with
    | zero => exact ⟨_, _, ok_lpaths (n := 0) F22 (fun m e => nomatch e) D20, PySem.W.mg_of X G a22, k22, F22.binds (ps := ["_law_tree"]) fun _ _ _ _ _ _ us hl => match us, hl with | [_], _ => rfl⟩
    | succ n ih => exact ⟨_, _, ok_lpaths (n := n + 1) F22 (fun m e => by cases e; exact ih) D20, PySem.W.mg_of X G a22, k22, F22.binds (ps := ["_law_tree"]) fun _ _ _ _ _ _ us hl => match us, hl with | [_], _ => rfl⟩
  have F23 := fun_mk (st := sLRank) l23 c23 k23
  have D23 : Fd l.prog w K mg base "_law_rank" 17 ["_law_tree"] spRankOf := ⟨_, _, ok_lrank (k := 16) F23 m_len (D22 13) (by omega), PySem.W.mg_of X G a23, k23, F23.binds (ps := ["_law_tree"]) fun _ _ _ _ _ _ us hl => match us, hl with | [_], _ => rfl⟩
  have F24 := fun_mk (st := sJoined) l24 c24 k24
  have D24 : Fd l.prog w K mg base "_law_joined" 1 ["_law_row"] spJoined := ⟨_, _, ok_joined (k := 0) F24 , PySem.W.mg_of X G a24, k24, F24.binds (ps := ["_law_row"]) fun _ _ _ _ _ _ us hl => match us, hl with | [_], _ => rfl⟩
  have F25 := fun_mk (st := sLots) l25 c25 k25
  have D25 : ∀ n : Nat, Fd l.prog w K mg base "_law_lots" (n + 1) ["_law_known", "_law_lack", "_law_many"] ((spLots l.prog w) n) := fun n => by
    induction n with
    | zero => exact ⟨_, _, ok_lots (n := 0) F25 (fun m e => nomatch e) m_range, PySem.W.mg_of X G a25, k25, F25.binds (ps := ["_law_known", "_law_lack", "_law_many"]) fun _ _ _ _ _ _ us hl => match us, hl with | [_, _, _], _ => rfl⟩
    | succ n ih => exact ⟨_, _, ok_lots (n := n + 1) F25 (fun m e => by cases e; exact ih) m_range, PySem.W.mg_of X G a25, k25, F25.binds (ps := ["_law_known", "_law_lack", "_law_many"]) fun _ _ _ _ _ _ us hl => match us, hl with | [_, _, _], _ => rfl⟩
  have F26 := fun_mk (st := sGrown) l26 c26 k26
  have D26 : Fd l.prog w K mg base "_law_grown" 20 ["_law_ops_here", "_law_upto"] (spGrown l.prog w) := ⟨_, _, ok_grown (k := 19) F26 m_range m_int m_sorted D24 (D25 4) D23 (by omega), PySem.W.mg_of X G a26, k26, F26.binds (ps := ["_law_ops_here", "_law_upto"]) fun _ _ _ _ _ _ us hl => match us, hl with | [_, _], _ => rfl⟩
  have F27 := fun_mk (st := sWild) l27 c27 k27
  have D27 : Fd l.prog w K mg base "_law_wild" 3 ["_law_dr", "_law_ops_here", "_law_most"] spWild := ⟨_, _, ok_wild (k := 2) F27 m_range m_int m_len D12 D13 D21 (by omega), PySem.W.mg_of X G a27, k27, F27.binds (ps := ["_law_dr", "_law_ops_here", "_law_most"]) fun _ _ _ _ _ _ us hl => match us, hl with | [_, _, _], _ => rfl⟩
  have F28 := fun_mk (st := sLStands) l28 c28 k28
  have D28 : Fd l.prog w K mg base "_law_stands_at" 2 ["_law_pattern", "_law_tree", "_law_at"] spLStands := ⟨_, _, ok_lstands (k := 1) F28 D19 (by omega), PySem.W.mg_of X G a28, k28, F28.binds (ps := ["_law_pattern", "_law_tree", "_law_at"]) fun _ _ _ _ _ _ us hl => match us, hl with | [_, _, _], _ => rfl⟩
  have F29 := fun_mk (st := sSpots) l29 c29 k29
  have D29 : Fd l.prog w K mg base "_law_spots" 3 ["_law_pattern", "_law_tree"] spSpots := ⟨_, _, ok_spots (k := 2) F29 m_len m_range D28 (by omega), PySem.W.mg_of X G a29, k29, F29.binds (ps := ["_law_pattern", "_law_tree"]) fun _ _ _ _ _ _ us hl => match us, hl with | [_, _], _ => rfl⟩
  have FL := fun_mk (st := sLaw) l30 c30 k30
  exact ok_law (k := 25) FL m_range m_len m_all D11 D12 D17 D16 D27 D18 D26 D29 D10 (D14 2) (by omega)
theorem walk {l : PySem.W.OpenLaw} {q : Program} {loose : List Str} {XP : (Str → Option Value) → Heap → Prop} {YP : World → Heap → Prop} {d : DefRec} {K : Params → PySem.W.Frag} (hn : l.most = some 63) (hdf : d.params.defaults = [])
    (hY : ∀ (w : World) (h : Heap), YP w h → (K w.params).In h)
    (F : ∀ (w : World) (mg : Str → Option Value) (fa : Addr) (h : Heap), (K w.params).In h → h.Ns mainGlobals mg → mg d.name = some (.ref fa) →
      ∃ fd : FuncData, (∀ (s : Shared) (u : Value), BindsTo s fd ⟨[u], []⟩ [("_law_script", u)]) ∧ ∀ base : Heap, (K w.params).In base → base.Ns mainGlobals mg → FnOk l.prog w (K w.params) mg base (L2.CX l.prog w) 26 fa fd ["_law_script"] (spD (K w.params) spLaw)) :
    PySem.W.WalkO q loose XP YP l.row.toRowW d [] (fun f vs => PySem.call f vs) :=
  L2.walk_of (n := 63) (k := 26) (x := "_law_script") (CX := fun w => L2.CX l.prog w) (sp := fun w => spD (K w.params) spLaw) hn (by decide) hdf ⟨rfl, by decide, by decide⟩ hY F
    (fun w H a ns hl _ hS => ⟨[.rol (ns.map .int)], H, fun _ => none, fun d _ => d = .bl true, fun _ _ => False, ⟨Same.refl _, fun _ _ z => nomatch z⟩, .cons (.rol hS (Reps.of_ints ns)) .nil, ⟨ns, rfl, fun _ => rfl⟩, fun v H' ⟨d, O', Hd', _, _, r, e⟩ => by subst e; cases r; rfl, fun _ _ _ _ _ _ _ _ _ z => z.elim⟩)
    fun w H s e s' ⟨_, _, _, _, _, _, _, _, _, _, _, _, z⟩ => z
end
end My
open PySem PySem.W PyProof.Rows
set_option maxRecDepth 100000 in
set_option maxHeartbeats 0 in
theorem PySem.Challenge.cw_boughlaws_k41_whole_the_machine_counts_w_holds : PySem.Challenge.rw_boughlaws_k41_whole_the_machine_counts_w.Holds := by
  w_on; o_law; k_head; (case hw => w_witness2)
  k_fill
  refine My.walk (l := PySem.Challenge.rw_boughlaws_k41_whole_the_machine_counts_w) rfl rfl (fun w h Y => PySem.W.kIn_of Y) ?F
  case F =>
    intro w mg fa h KX G hmg
    refine' My.all_mk KX G hmg ?a0 ?l0 ?c0 ?k0 ?a1 ?l1 ?c1 ?k1 ?a2 ?l2 ?c2 ?k2 ?a3 ?l3 ?c3 ?k3 ?a4 ?l4 ?c4 ?k4 ?a5 ?l5 ?c5 ?k5 ?a6 ?l6 ?c6 ?k6 ?a7 ?l7 ?c7 ?k7 ?a8 ?l8 ?c8 ?k8 ?a9 ?l9 ?c9 ?k9 ?a10 ?l10 ?c10 ?k10 ?a11 ?l11 ?c11 ?k11 ?a12 ?l12 ?c12 ?k12 ?a13 ?l13 ?c13 ?k13 ?a14 ?l14 ?c14 ?k14 ?a15 ?l15 ?c15 ?k15 ?a16 ?l16 ?c16 ?k16 ?a17 ?l17 ?c17 ?k17 ?a18 ?l18 ?c18 ?k18 ?a19 ?l19 ?c19 ?k19 ?a20 ?l20 ?c20 ?k20 ?a21 ?l21 ?c21 ?k21 ?a22 ?l22 ?c22 ?k22 ?a23 ?l23 ?c23 ?k23 ?a24 ?l24 ?c24 ?k24 ?a25 ?l25 ?c25 ?k25 ?a26 ?l26 ?c26 ?k26 ?a27 ?l27 ?c27 ?k27 ?a28 ?l28 ?c28 ?k28 ?a29 ?l29 ?c29 ?k29 ?a30 ?l30 ?c30 ?k30 ?n_ValueError ?n_len ?n_all ?n_enumerate ?n_int ?n_range ?n_zip ?n_sum ?n_any ?n_tuple ?n_list ?n_isinstance ?n_bool ?n_str ?n_set ?n_sorted ?n_max ?n_min ?v_LETTERS ?v_ENDS ?v_MOST_LETTERS ?v_LEAF ?v_MOST_THINGS ?v_MOST_MANY ?g_BoughError ?g_BadOperation ?vV ?rd_BoughError ?gt_BoughError ?fc_BoughError ?l_BoughError ?c_BoughError ?k_BoughError ?x_BadOperation ?r_BadOperation ?sa_BadOperation ?ga_BadOperation ?gg_BadOperation ?nw_BadOperation ?nf_BadOperation ?i_BadOperation ?t_BadOperation ?l_BadOperation ?c_BadOperation ?k_BadOperation ?kC_BadOperation ?eC_BadOperation ?tC_BadOperation ?hC_BadOperation
    (case a0 => k_is)
    (case l0 => k_is)
    (case c0 => k_is)
    (case k0 => k_is)
    (case a1 => k_is)
    (case l1 => k_is)
    (case c1 => k_is)
    (case k1 => k_is)
    (case a2 => k_is)
    (case l2 => k_is)
    (case c2 => k_is)
    (case k2 => k_is)
    (case a3 => k_is)
    (case l3 => k_is)
    (case c3 => k_is)
    (case k3 => k_is)
    (case a4 => k_is)
    (case l4 => k_is)
    (case c4 => k_is)
    (case k4 => k_is)
    (case a5 => k_is)
    (case l5 => k_is)
    (case c5 => k_is)
    (case k5 => k_is)
    (case a6 => k_is)
    (case l6 => k_is)
    (case c6 => k_is)
    (case k6 => k_is)
    (case a7 => k_is)
    (case l7 => k_is)
    (case c7 => k_is)
    (case k7 => k_is)
    (case a8 => k_is)
    (case l8 => k_is)
    (case c8 => k_is)
    (case k8 => k_is)
    (case a9 => k_is)
    (case l9 => k_is)
    (case c9 => k_is)
    (case k9 => k_is)
    (case a10 => k_is)
    (case l10 => k_is)
    (case c10 => k_is)
    (case k10 => k_is)
    (case a11 => k_is)
    (case l11 => k_is)
    (case c11 => k_is)
    (case k11 => k_is)
    (case a12 => k_is)
    (case l12 => k_is)
    (case c12 => k_is)
    (case k12 => k_is)
    (case a13 => k_is)
    (case l13 => k_is)
    (case c13 => k_is)
    (case k13 => k_is)
    (case a14 => k_is)
    (case l14 => k_is)
    (case c14 => k_is)
    (case k14 => k_is)
    (case a15 => k_is)
    (case l15 => k_is)
    (case c15 => k_is)
    (case k15 => k_is)
    (case a16 => k_is)
    (case l16 => k_is)
    (case c16 => k_is)
    (case k16 => k_is)
    (case a17 => k_is)
    (case l17 => k_is)
    (case c17 => k_is)
    (case k17 => k_is)
    (case a18 => k_is)
    (case l18 => k_is)
    (case c18 => k_is)
    (case k18 => k_is)
    (case a19 => k_is)
    (case l19 => k_is)
    (case c19 => k_is)
    (case k19 => k_is)
    (case a20 => k_is)
    (case l20 => k_is)
    (case c20 => k_is)
    (case k20 => k_is)
    (case a21 => k_is)
    (case l21 => k_is)
    (case c21 => k_is)
    (case k21 => k_is)
    (case a22 => k_is)
    (case l22 => k_is)
    (case c22 => k_is)
    (case k22 => k_is)
    (case a23 => k_is)
    (case l23 => k_is)
    (case c23 => k_is)
    (case k23 => k_is)
    (case a24 => k_is)
    (case l24 => k_is)
    (case c24 => k_is)
    (case k24 => k_is)
    (case a25 => k_is)
    (case l25 => k_is)
    (case c25 => k_is)
    (case k25 => k_is)
    (case a26 => k_is)
    (case l26 => k_is)
    (case c26 => k_is)
    (case k26 => k_is)
    (case a27 => k_is)
    (case l27 => k_is)
    (case c27 => k_is)
    (case k27 => k_is)
    (case a28 => k_is)
    (case l28 => k_is)
    (case c28 => k_is)
    (case k28 => k_is)
    (case a29 => k_is)
    (case l29 => k_is)
    (case c29 => k_is)
    (case k29 => k_is)
    (case a30 => k_is)
    (case l30 => k_is)
    (case c30 => k_is)
    (case k30 => k_is)
    (case n_ValueError => k_is)
    (case n_len => k_is)
    (case n_all => k_is)
    (case n_enumerate => k_is)
    (case n_int => k_is)
    (case n_range => k_is)
    (case n_zip => k_is)
    (case n_sum => k_is)
    (case n_any => k_is)
    (case n_tuple => k_is)
    (case n_list => k_is)
    (case n_isinstance => k_is)
    (case n_bool => k_is)
    (case n_str => k_is)
    (case n_set => k_is)
    (case n_sorted => k_is)
    (case n_max => k_is)
    (case n_min => k_is)
    (case v_LETTERS => k_is)
    (case v_ENDS => k_is)
    (case v_MOST_LETTERS => k_is)
    (case v_LEAF => k_is)
    (case v_MOST_THINGS => k_is)
    (case v_MOST_MANY => k_is)
    (case g_BoughError => k_is)
    (case g_BadOperation => k_is)
    (case vV => k_is)
    (case rd_BoughError => k_is)
    (case gt_BoughError => k_is)
    (case fc_BoughError => k_is)
    (case l_BoughError => k_is)
    (case c_BoughError => k_is)
    (case k_BoughError => k_is)
    (case x_BadOperation => k_is)
    (case r_BadOperation => decide +kernel)
    (case sa_BadOperation => k_is)
    (case ga_BadOperation => k_is)
    (case gg_BadOperation => k_is)
    (case nw_BadOperation => k_is)
    (case nf_BadOperation => k_is)
    (case i_BadOperation => k_is)
    (case t_BadOperation => k_is)
    (case l_BadOperation => k_is)
    (case c_BadOperation => k_is)
    (case k_BadOperation => k_is)
    (case kC_BadOperation => k_is)
    (case eC_BadOperation => k_is)
    (case tC_BadOperation => k_is)
    (case hC_BadOperation => k_is)
#print axioms PySem.Challenge.cw_boughlaws_k41_whole_the_machine_counts_w_holds
namespace My
section
end
end My

