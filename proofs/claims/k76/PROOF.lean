import PyProof.Rows.All
import Wide.All
import OpenK.AllK
import Wide.FinOn
import HandS.ForMost
import HandS.Exc
import HandS.ExcOwn
import HandS.ExcInit
import HandS.TryMany
import HandS.WordsExc
import HandS.Wide
import HandS.IsInst
import HandS.SortKw
import HandS.FStr
import HandS.NoneIn
import HandS.Flow
import HandS.TupAny
import HandS.TupMul
import HandS.TupSets
import HandS.Style
import HandS.EndBits
import HandS.Codes
import HandS.Iter
import HandS.ExcField
import HandS.Lambda
import HandS.EndTab
import HandS.Words
import HandS.ExcCtx
import HandS.Hot
import HandS.HotCalls
import HandS.Finally
import KE.KeyNested
import HandS.ExcInitHot
import HandS.ClsMeth
import KE.GoesMore
import HandS.Zip
import KE.KDflt
import HandS.Nested
import KE.DataCmp
import PyProof.DictRoadsH
import PyProof.DictMoreH
import KE.SortKeyHeap
import HandS.CallSlots
import HandS.Defaults
import KE.KExcInit
import KE.KExcIs
import KE.KStateDown
import KE.KNestM
import HandS.Head0
import HandS.Head1
import HandS.Head2
import PySem.Challenge.RW_boughlaws_k76_refusals_apart
set_option Elab.async false
set_option linter.all false
set_option maxRecDepth 100000
set_option maxHeartbeats 8000000
theorem msG {α : Type} {a b : α} : a ∈ [b] ↔ a = b := List.mem_singleton
theorem mcS {α : Type} {a : α} {l : List α} : a ∈ a :: l := List.mem_cons_self
theorem geS {α : Type} {i : Nat} {a : α} {l : List α} : l[i]? = some a ↔ ∃ h : i < l.length, l[i] = a := List.getElem?_eq_some_iff
theorem lnM {α β : Type} {as : List α} (f : α → β) : (as.map f).length = as.length := List.length_map f
theorem geG {α : Type} {l : List α} {i : Nat} (h : i < l.length) : l[i]? = some l[i] := List.getElem?_eq_getElem h
theorem mcM {α : Type} (y : α) {a : α} {l : List α} (h : a ∈ l) : a ∈ y :: l := List.mem_cons_of_mem y h
theorem geM {α β : Type} {f : α → β} {l : List α} {i : Nat} : (l.map f)[i]? = l[i]?.map f := List.getElem?_map
theorem maR {α : Type} {b : α} (as : List α) {bs : List α} (h : b ∈ bs) : b ∈ as ++ bs := List.mem_append_right as h
theorem maL {α : Type} {a : α} {as : List α} (bs : List α) (h : a ∈ as) : a ∈ as ++ bs := List.mem_append_left bs h
theorem mAq {α : Type} {a : α} {s t : List α} : a ∈ s ++ t ↔ a ∈ s ∨ a ∈ t := List.mem_append
theorem lnA {α : Type} {as bs : List α} : (as ++ bs).length = as.length + bs.length := List.length_append
theorem mgE {α : Type} {l : List α} {i : Nat} {a : α} (h : l[i]? = some a) : a ∈ l := List.mem_of_getElem? h
theorem mmP {α β : Type} {b : β} {f : α → β} {l : List α} : b ∈ l.map f ↔ ∃ a, a ∈ l ∧ f a = b := List.mem_map
theorem nmN {α : Type} {a : α} : ¬ a ∈ ([] : List α) := List.not_mem_nil
theorem mpA {α β : Type} {f : α → β} {l₁ l₂ : List α} : (l₁ ++ l₂).map f = l₁.map f ++ l₂.map f := List.map_append
theorem mCq {α : Type} {b : α} {l : List α} {a : α} : a ∈ b :: l ↔ a = b ∨ a ∈ l := List.mem_cons
theorem nLL {n m k : Nat} (h : n < m) (g : m ≤ k) : n < k := Nat.lt_of_lt_of_le h g
theorem mpC {α β : Type} {l : List α} {f g : α → β} (h : ∀ a, a ∈ l → f a = g a) : l.map f = l.map g := List.map_congr_left h
theorem apQ {α : Type} (as : List α) : as ++ [] = as := List.append_nil as
theorem oIq {α : Type} {a b : α} (h : some a = some b) : a = b := Option.some.inj h
theorem geN {α : Type} {l : List α} {i : Nat} : l[i]? = none ↔ l.length ≤ i := List.getElem?_eq_none_iff
theorem mpM {α β γ : Type} {g : β → γ} {f : α → β} {l : List α} : (l.map f).map g = l.map (g ∘ f) := List.map_map
noncomputable section
namespace HdR
open PySem PySem.W PySem.Calls PyProof.Rows HandSHeadRun
section
variable (st : SharedT → Thread → Option (SharedT × Thread)) (n0 : Nat) (ann : Option Value)
def segF : Nat → SharedT → Thread → Option (Flow × SharedT × Code × Pos)
 | 0, _, _ => none
 | m + 1, s, t => match endAt 1 t with
   | some f => some (f, s, t.code, t.pos)
   | none => match stepOk n0 ann t with
     | false => none
     | true => match st s t with
       | some (s', t') => frS s' fun s' => segF m s' t'
       | none => none
def topG : Nat → SharedT → Thread → Option (SharedT × Thread)
 | 0, s, t => some (s, t)
 | m + 1, s, t => match through t with
   | true => none
   | false => match stepOk n0 ann t with
     | false => none
     | true => match st s t with
       | some (s', t') => topG m s' t'
       | none => none
end
section
variable {tb : String → Option Builtin} {p : Program} {w : World} {n0 : Nat} {ann : Option Value}
theorem segF_ok : ∀ {m : Nat} {s s' : SharedT} {t : Thread} {f : Flow} {c : Code} {q : Pos}, segF (stepT (denote tb) p w) n0 ann m s t = some (f, s', c, q) → segRun tb p w n0 ann 1 m s.abs t = some (f, s'.abs, c, q)
 | 0, _, _, _, _, _, _, h => by cases h
 | m + 1, s, s', t, f, c, q, h => by
   unfold segF at h
   unfold segRun
   cases he : endAt 1 t with
   | some g =>
     rw [he] at h
     cases h
     rfl
   | none =>
     rw [he] at h
     cases hk : stepOk n0 ann t with
     | false =>
       rw [hk] at h
       cases h
     | true =>
       rw [hk] at h
       cases hs : stepT (denote tb) p w s t with
       | none =>
         rw [hs] at h
         cases h
       | some r =>
         obtain ⟨s2, t2⟩ := r
         rw [hs] at h
         have h3 : (frS s2 fun s' => segF (stepT (denote tb) p w) n0 ann m s' t2) = some (f, s', c, q) := h
         rw [frS_eq] at h3
         have z := segF_ok h3
         show (match step (denote tb) p w s.abs t with
          | .go s' t' => segRun tb p w n0 ann 1 m s' t'
          | .halt _ _ => none) = _
         rw [stepT_spec hs]
         exact z
theorem topG_ok : ∀ {m : Nat} {s s' : SharedT} {t t' : Thread}, topG (stepT (denote tb) p w) n0 ann m s t = some (s', t') → topGo tb p w n0 ann m s.abs t = some (s'.abs, t')
 | 0, _, _, _, _, h => by
   cases h
   rfl
 | m + 1, s, s', t, t', h => by
   unfold topG at h
   unfold topGo
   cases he : through t with
   | true =>
     rw [he] at h
     cases h
   | false =>
     rw [he] at h
     cases hk : stepOk n0 ann t with
     | false =>
       rw [hk] at h
       cases h
     | true =>
       rw [hk] at h
       cases hs : stepT (denote tb) p w s t with
       | none =>
         rw [hs] at h
         cases h
       | some r =>
         obtain ⟨s2, t2⟩ := r
         rw [hs] at h
         have z := topG_ok (show topG (stepT (denote tb) p w) n0 ann m s2 t2 = some (s', t') from h)
         show (match step (denote tb) p w s.abs t with
          | .go s' t' => topGo tb p w n0 ann m s' t'
          | .halt _ _ => none) = _
         rw [stepT_spec hs]
         exact z
end
abbrev stQ (p : Program) (w : World) : SharedT → Thread → Option (SharedT × Thread) := stepQ (denQ tabQ) p w
theorem stQ_eq (p : Program) (w : World) : stQ p w = stepT (denote treeTable) p w := by rw [stepQ_eq, denQ_eq, tabQ_eq]
theorem den_eq : denQ tabQ = denote treeTable := by rw [denQ_eq, tabQ_eq]
def bootS (w : World) (os : OsState) : SharedT := match putAll (boot_heap w.params).objs.toList .nil 0 with
 | some (t, n) => frNat n fun n0 => bootT w os (t, n0)
 | none => bootT w os (.nil, 0)
def bootN (w : World) : Nat := match putAll (boot_heap w.params).objs.toList .nil 0 with
 | some (_, n) => frNat n fun n0 => n0
 | none => 0
theorem boot_ok {w : World} {os : OsState} (h : (putAll (boot_heap w.params).objs.toList .nil 0).isSome = true) : (bootS w os).abs = ⟨boot_heap w.params, #[], boot_drawn, boot_toks, os⟩ ∧ (boot_heap w.params).objs.size = bootN w := by
 cases e : putAll (boot_heap w.params).objs.toList .nil 0 with
 | none =>
   rw [e] at h
   cases h
 | some r =>
   obtain ⟨t, n⟩ := r
   have eh := putAll_heap e
   have eS : bootS w os = bootT w os (t, n) := by
    unfold bootS
    rw [e]
    show (frNat n fun n0 => bootT w os (t, n0)) = _
    rw [frNat_eq]
   have eN : bootN w = n := by
    unfold bootN
    rw [e]
    show (frNat n fun n0 => n0) = _
    rw [frNat_eq]
   rw [eS, eN]
   refine ⟨?_, ?_⟩
   · show (⟨absHeap t n (boot_heap w.params).life, #[], boot_drawn, boot_toks, os⟩ : Shared) = _
     rw [eh]
   · rw [← eh]
     exact absHeap_size t n _
abbrev restT (p : Program) (env : Env) (qf p1 : Pos) (k : Nat) : Thread := restOf ((behindTheImports p).drop k) env (.body (behindTheImports p) env) p1 [topFrame qf]
def CutR (p : Program) (n0 : Nat) (env : Env) (qf : Pos) (k : Nat) (pos : Pos) (m : Nat) (S : World → OsState → SharedT) : Prop :=
 ∀ (w : World) (os : OsState) (N : Nat) (r : Shared), topRun treeTable p w n0 (bootAnn w) N (S w os).abs (restT p env qf pos k) = some r → topRun treeTable p w n0 (bootAnn w) (m + N) ⟨boot_heap w.params, #[], boot_drawn, boot_toks, os⟩ (topStub p) = some r
structure Pre (p : Program) (n0 : Nat) (env : Env) (qf pa : Pos) (m0 : Nat) (Sa : World → OsState → SharedT) : Prop where
 lay : ∀ w : World, (putAll (boot_heap w.params).objs.toList .nil 0).isSome = true
 num : ∀ w : World, bootN w = n0
 pre : ∀ (w : World) (os : OsState), topG (stQ p w) n0 (bootAnn w) m0 (bootS w os) (topStub p) = some (Sa w os, ⟨denQ tabQ (.body (behindTheImports p) env), .body (behindTheImports p) env, pa, [topFrame qf]⟩)
 blk : ∀ (w : World) (os : OsState), segF (stQ p w) n0 (bootAnn w) 1 (Sa w os) (blockOf (behindTheImports p) env (.body (behindTheImports p) env) pa [topFrame qf]) = some (.next, Sa w os, .body (behindTheImports p) env, pa)
section
variable {p : Program} {n0 : Nat} {env : Env} {qf pa p1 p2 : Pos} {k j m0 m n1 : Nat} {Sa S1 S2 : World → OsState → SharedT}
theorem Pre.cut (c : Pre p n0 env qf pa m0 Sa) : CutR p n0 env qf 0 pa (m0 + 1) Sa := by
 intro w os N r h
 obtain ⟨e1, _⟩ := boot_ok (os := os) (c.lay w)
 have a1 := c.pre w os
 have a2 := c.blk w os
 rw [stQ_eq] at a1 a2
 rw [den_eq] at a1
 have b1 := topG_ok a1
 have b2 := segF_ok a2
 rw [e1] at b1
 rw [Nat.add_assoc]
 exact go_top b1 (piece_block b2 h)
theorem CutR.on (c : CutR p n0 env qf k p1 m S1) (seg : ∀ (w : World) (os : OsState), segF (stQ p w) n0 (bootAnn w) n1 (S1 w os) (piecesOf (((behindTheImports p).drop k).take j) env (.body (behindTheImports p) env) p1 [topFrame qf]) = some (.next, S2 w os, .body (behindTheImports p) env, p2)) :
  CutR p n0 env qf (k + j) p2 (m + n1) S2 := by
 intro w os N r h
 have a3 := seg w os
 rw [stQ_eq] at a3
 have b3 := segF_ok a3
 rw [Nat.add_assoc]
 refine c w os (n1 + N) r ?_
 have h2 : topRun treeTable p w n0 (bootAnn w) N (S2 w os).abs (restOf (((behindTheImports p).drop k).drop j) env (.body (behindTheImports p) env) p2 [topFrame qf]) = some r := by
  rw [List.drop_drop]
  exact h
 have z := piece_app b3 h2
 rw [List.take_append_drop] at z
 exact z
theorem left_cut (c0 : Pre p n0 env qf pa m0 Sa) (c : CutR p n0 env qf k p1 m S1) {q : Program} {loose : List PySem.Str} {Xt : Shared → Bool} {K : Params → Frag} {as : List Addr} {ek : ∀ P, as = (K P).map (·.1)} {N M : Nat}
  (e : opening p = plainProg p.main.scope.names) (hN : Nat.ble 600 N = true) (f : ∀ s, fenceModules? p s = some s) (le : Nat.ble (m + M) N = true)
  (run : ∀ (w : World) (os : OsState), (goF (stQ p w) n0 (bootAnn w) M (S1 w os) (restT p env qf p1 k)).map (fun s => (looksF p (boot_heap w.params) s.abs, seenQ q loose (importedModules p.main.body) Xt s.abs, as.map (getT s))) = some (true, openGood q loose, (K w.params).map fun x => some x.2)) :
  LeftO p q loose Xt (Hook.obs (kHook K as ek)) (Hook.val (kHook K as ek)) N true := fun w => by
 obtain ⟨⟨h, gs, d, k', os⟩, a, a'⟩ := Option.map_eq_some_iff.mp (boot_open e hN f w)
 obtain ⟨rfl, rfl, rfl, rfl⟩ : h = boot_heap w.params ∧ gs = Array.mk [] ∧ d = boot_drawn ∧ k' = boot_toks := by simpa using a'
 obtain ⟨s, hs, hv⟩ := Option.map_eq_some_iff.mp (run w os)
 obtain ⟨l1, l2, l3⟩ : _ ∧ _ ∧ _ := by simpa only [Prod.mk.injEq] using hv
 rw [stQ_eq] at hs
 have r := topRun_mono (N - (m + M)) _ _ _ _ (c w os M _ (goF_ok hs))
 rw [show m + M + (N - (m + M)) = N by have := Nat.le_of_ble_eq_true le; omega] at r
 have e2 : (boot_heap w.params).objs.size = n0 := (boot_ok (os := os) (c0.lay w)).2.trans (c0.num w)
 rw [← e2] at r
 have l1' : (staticsOk (importedModules p.main.body) (boot_heap w.params) s.abs.heap && namesBound p s.abs.heap && gensDone s.abs && laidKept (boot_heap w.params) s.abs.heap) = true := l1
 have t : topFrom treeTable p w N ⟨boot_heap w.params, Array.mk [], boot_drawn, boot_toks, os⟩ = some s.abs := by
  unfold topFrom
  dsimp only
  rw [boot_ns]
  show (topRun treeTable p w (boot_heap w.params).objs.size (bootAnn w) N ⟨boot_heap w.params, #[], boot_drawn, boot_toks, os⟩ (topStub p)).bind _ = _
  rw [r]
  show (match staticsOk (importedModules p.main.body) (boot_heap w.params) s.abs.heap && namesBound p s.abs.heap && gensDone s.abs && laidKept (boot_heap w.params) s.abs.heap with | true => some s.abs | false => none) = _
  rw [l1']
 unfold openEnds
 rw [a]
 show (topFrom treeTable p w N _).map _ = _
 rw [t]
 have q1 : as.map (getT s) = Hook.obs (kHook K as ek) s.abs := mpC fun a _ => getT_eq s a
 rw [q1] at l3
 rw [← seenQ_eq] at l2
 exact congrArg some (Prod.ext l2 l3)
end
theorem head_L {r : OpenRow} {q : Program} {H : Hook} {N : Nat} {loose : List PySem.Str} {d : DefRec} {kwd : List (PySem.Str × PySem.Expr)}
  (left : LeftO r.prog q loose (fun s => xlAt q [] s && recOk r.toRowW.records s) H.obs H.val N true)
  (hdef : defOf q r.name = some (d, kwd)) (hp : r.prog.theDef r.name = some (d.params, d.body, d.scope)) (hk : kwWritten? d.params.kwonlyargs d.params.kw_defaults = some kwd)
  (hwr : (!r.writes || r.records.isEmpty) = true) (k1 : r.wellSaid = true) (ok : (chainsOk q && opensWell r.prog && (frees r.toRowW && r.within.isEmpty)) = true) (hb : r.prog.bare) (hw : r.toRowW.promised)
  (call : WalkO q loose (XL q []) H.says r.toRowW d kwd fun f vs => PySem.call f vs) : r.Holds :=
 holds_open (r := r) (q := q) (loose := loose) (XP := XL q []) (YP := H.says) (d := d) (kwd := kwd) left H.of H.keeps (fun s z => xl_of s (Bool.and_eq_true_iff.mp z).1) XL.keeps hdef hp hk (fun s z => recFacts_of (Bool.and_eq_true_iff.mp z).2) hwr k1 ok hb hw call
def insL : List (Nat × Obj) → BT → BT
 | [], t => t
 | (i, o) :: r, t => insL r (t.ins i o)
def layL : List Obj → BT → Nat → BT
 | [], t, _ => t
 | o :: r, t, n => frNat n fun n => layL r (t.ins n o) (n + 1)
def hE (w : World) (k : PySem.Str) (t : Tok) (v : Value) : DictEntry := ⟨PyData.keyHash w.params k, .str k t, v⟩
end HdR
end
section
noncomputable section
namespace Hd
open PySem PySem.W PySem.Calls PyProof.Rows HandSHeadRun HdR
set_option maxHeartbeats 0
abbrev R : OpenRow := OpenLaw.row PySem.Challenge.rw_boughlaws_k76_refusals_apart
abbrev qv : Program := view R.prog [46]
def names0 : List PySem.Str := (["BoughError", "Missing", "BadName", "BadOperation", "BadTree", "BadCount", "BadLeaf", "BadPlace", "BadMany", "BadText", "Uneven", "Strange", "Idle", "Bare", "Taken", "InUse", "Full", "Lacking", "Unlike", "Unjoined", "NotKept", "Breaks", "Wide", "NotTwos", "BadRow", "BadPlaces", "BadDeed", "Stopped", "BadPage", "NoOperation", "NoRule", "NoKind", "NoBridge", "NoWatch", "NothingLeft", "_law_bag", "_law_pull", "_law_same", "_law_flags", "_law_words"] : List String).map PySem.Str.ofString
def names1 : List PySem.Str := (["_law_early", "_law_middle", "_law_late", "_law_kinds_of"] : List String).map PySem.Str.ofString
def names : List PySem.Str := names0 ++ names1
def tS (i : Nat) : Stmt := PySem.Challenge.pw_boughlaws_k76_refusals_apart.main.body.getD i (.Pass ⟨0, 0, 0, 0⟩)
def mS (i j : Nat) : Stmt := match tS i with
 | .ClassDef _ _ _ b _ _ _ _ _ _ _ => b.getD j (.Pass ⟨0, 0, 0, 0⟩)
 | s => s
def fU (n q : PySem.Str) (df kw dc md : Value) (an : Option Addr) (cd ct : Value) (g : Addr) (cl : List (PySem.Str × Addr)) (b : Addr) (st : Stmt) : FuncData := match st with
 | .FunctionDef _ ar bd _ _ _ sc _ _ _ => ⟨n, q, ar, .stmts bd, sc, g, cl, df, kw, dc, md, an, cd, ct, b⟩
 | _ => default
def e0_0_0 (w : World) : List DictEntry := [hE w "__name__" 1 (.str "builtins" 160), hE w "__doc__" 2 (.builtin "builtins.__doc__:str#opaque"), hE w "__package__" 3 (.builtin "builtins.__package__:str#opaque"), hE w "__loader__" 4 (.builtin "builtins.__loader__:shared#opaque"), hE w "__spec__" 5 (.builtin "builtins.__spec__#opaque"), hE w "__build_class__" 6 (.builtin "__build_class__"), hE w "__import__" 7 (.builtin "__import__"), hE w "abs" 8 (.builtin "abs"), hE w "all" 9 (.builtin "all"), hE w "any" 10 (.builtin "any"), hE w "ascii" 11 (.builtin "ascii"), hE w "bin" 12 (.builtin "bin"), hE w "breakpoint" 13 (.builtin "breakpoint"), hE w "callable" 14 (.builtin "callable"), hE w "chr" 15 (.builtin "chr"), hE w "compile" 16 (.builtin "compile"), hE w "delattr" 17 (.builtin "delattr"), hE w "dir" 18 (.builtin "dir"), hE w "divmod" 19 (.builtin "divmod"), hE w "eval" 20 (.builtin "eval"), hE w "exec" 21 (.builtin "exec"), hE w "format" 22 (.builtin "format"), hE w "getattr" 23 (.builtin "getattr"), hE w "globals" 24 (.builtin "globals"), hE w "hasattr" 25 (.builtin "hasattr"), hE w "hash" 26 (.builtin "hash"), hE w "hex" 27 (.builtin "hex"), hE w "id" 28 (.builtin "id"), hE w "input" 29 (.builtin "input"), hE w "isinstance" 30 (.builtin "isinstance"), hE w "issubclass" 31 (.builtin "issubclass"), hE w "iter" 32 (.builtin "iter"), hE w "aiter" 33 (.builtin "aiter"), hE w "len" 34 (.builtin "len"), hE w "locals" 35 (.builtin "locals"), hE w "max" 36 (.builtin "max"), hE w "min" 37 (.builtin "min"), hE w "next" 38 (.builtin "next"), hE w "anext" 39 (.builtin "anext"), hE w "oct" 40 (.builtin "oct")]
def e0_0_40 (w : World) : List DictEntry := [hE w "ord" 41 (.builtin "ord"), hE w "pow" 42 (.builtin "pow"), hE w "print" 43 (.builtin "print"), hE w "repr" 44 (.builtin "repr"), hE w "round" 45 (.builtin "round"), hE w "setattr" 46 (.builtin "setattr"), hE w "sorted" 47 (.builtin "sorted"), hE w "sum" 48 (.builtin "sum"), hE w "vars" 49 (.builtin "vars"), hE w "None" 50 (.none), hE w "Ellipsis" 51 (.ellipsis), hE w "NotImplemented" 52 (.notImplemented), hE w "False" 53 (.bool false), hE w "True" 54 (.bool true), hE w "bool" 55 (.type "bool"), hE w "memoryview" 56 (.type "memoryview"), hE w "bytearray" 57 (.type "bytearray"), hE w "bytes" 58 (.type "bytes"), hE w "classmethod" 59 (.type "classmethod"), hE w "complex" 60 (.type "complex"), hE w "dict" 61 (.type "dict"), hE w "enumerate" 62 (.type "enumerate"), hE w "filter" 63 (.type "filter"), hE w "float" 64 (.type "float"), hE w "frozenset" 65 (.type "frozenset"), hE w "property" 66 (.type "property"), hE w "int" 67 (.type "int"), hE w "list" 68 (.type "list"), hE w "map" 69 (.type "map"), hE w "object" 70 (.type "object"), hE w "range" 71 (.type "range"), hE w "reversed" 72 (.type "reversed"), hE w "set" 73 (.type "set"), hE w "slice" 74 (.type "slice"), hE w "staticmethod" 75 (.type "staticmethod"), hE w "str" 76 (.type "str"), hE w "super" 77 (.type "super"), hE w "tuple" 78 (.type "tuple"), hE w "type" 79 (.type "type"), hE w "zip" 80 (.type "zip")]
def e0_0_80 (w : World) : List DictEntry := [hE w "__debug__" 81 (.bool true), hE w "BaseException" 82 (.type "BaseException"), hE w "BaseExceptionGroup" 83 (.type "BaseExceptionGroup"), hE w "Exception" 84 (.type "Exception"), hE w "GeneratorExit" 85 (.type "GeneratorExit"), hE w "KeyboardInterrupt" 86 (.type "KeyboardInterrupt"), hE w "SystemExit" 87 (.type "SystemExit"), hE w "ArithmeticError" 88 (.type "ArithmeticError"), hE w "AssertionError" 89 (.type "AssertionError"), hE w "AttributeError" 90 (.type "AttributeError"), hE w "BufferError" 91 (.type "BufferError"), hE w "EOFError" 92 (.type "EOFError"), hE w "ImportError" 93 (.type "ImportError"), hE w "LookupError" 94 (.type "LookupError"), hE w "MemoryError" 95 (.type "MemoryError"), hE w "NameError" 96 (.type "NameError"), hE w "OSError" 97 (.type "OSError"), hE w "ReferenceError" 98 (.type "ReferenceError"), hE w "RuntimeError" 99 (.type "RuntimeError"), hE w "StopAsyncIteration" 100 (.type "StopAsyncIteration"), hE w "StopIteration" 101 (.type "StopIteration"), hE w "SyntaxError" 102 (.type "SyntaxError"), hE w "SystemError" 103 (.type "SystemError"), hE w "TypeError" 104 (.type "TypeError"), hE w "ValueError" 105 (.type "ValueError"), hE w "Warning" 106 (.type "Warning"), hE w "FloatingPointError" 107 (.type "FloatingPointError"), hE w "OverflowError" 108 (.type "OverflowError"), hE w "ZeroDivisionError" 109 (.type "ZeroDivisionError"), hE w "BytesWarning" 110 (.type "BytesWarning"), hE w "DeprecationWarning" 111 (.type "DeprecationWarning"), hE w "EncodingWarning" 112 (.type "EncodingWarning"), hE w "FutureWarning" 113 (.type "FutureWarning"), hE w "ImportWarning" 114 (.type "ImportWarning"), hE w "PendingDeprecationWarning" 115 (.type "PendingDeprecationWarning"), hE w "ResourceWarning" 116 (.type "ResourceWarning"), hE w "RuntimeWarning" 117 (.type "RuntimeWarning"), hE w "SyntaxWarning" 118 (.type "SyntaxWarning"), hE w "UnicodeWarning" 119 (.type "UnicodeWarning"), hE w "UserWarning" 120 (.type "UserWarning")]
def e0_0_120 (w : World) : List DictEntry := [hE w "BlockingIOError" 121 (.type "BlockingIOError"), hE w "ChildProcessError" 122 (.type "ChildProcessError"), hE w "ConnectionError" 123 (.type "ConnectionError"), hE w "FileExistsError" 124 (.type "FileExistsError"), hE w "FileNotFoundError" 125 (.type "FileNotFoundError"), hE w "InterruptedError" 126 (.type "InterruptedError"), hE w "IsADirectoryError" 127 (.type "IsADirectoryError"), hE w "NotADirectoryError" 128 (.type "NotADirectoryError"), hE w "PermissionError" 129 (.type "PermissionError"), hE w "ProcessLookupError" 130 (.type "ProcessLookupError"), hE w "TimeoutError" 131 (.type "TimeoutError"), hE w "IndentationError" 132 (.type "IndentationError"), hE w "_IncompleteInputError" 133 (.type "_IncompleteInputError"), hE w "IndexError" 134 (.type "IndexError"), hE w "KeyError" 135 (.type "KeyError"), hE w "ModuleNotFoundError" 136 (.type "ModuleNotFoundError"), hE w "NotImplementedError" 137 (.type "NotImplementedError"), hE w "PythonFinalizationError" 138 (.type "PythonFinalizationError"), hE w "RecursionError" 139 (.type "RecursionError"), hE w "UnboundLocalError" 140 (.type "UnboundLocalError"), hE w "UnicodeError" 141 (.type "UnicodeError"), hE w "BrokenPipeError" 142 (.type "BrokenPipeError"), hE w "ConnectionAbortedError" 143 (.type "ConnectionAbortedError"), hE w "ConnectionRefusedError" 144 (.type "ConnectionRefusedError"), hE w "ConnectionResetError" 145 (.type "ConnectionResetError"), hE w "TabError" 146 (.type "TabError"), hE w "UnicodeDecodeError" 147 (.type "UnicodeDecodeError"), hE w "UnicodeEncodeError" 148 (.type "UnicodeEncodeError"), hE w "UnicodeTranslateError" 149 (.type "UnicodeTranslateError"), hE w "ExceptionGroup" 150 (.type "ExceptionGroup"), hE w "EnvironmentError" 151 (.type "OSError"), hE w "IOError" 152 (.type "OSError"), hE w "open" 153 (.builtin "open"), hE w "quit" 154 (.builtin "builtins.quit#opaque"), hE w "exit" 155 (.builtin "builtins.exit#opaque"), hE w "copyright" 156 (.builtin "builtins.copyright#opaque"), hE w "credits" 157 (.builtin "builtins.credits#opaque"), hE w "license" 158 (.builtin "builtins.license#opaque"), hE w "help" 159 (.builtin "builtins.help#opaque")]
def T0 (x0 : Nat) : Obj := ⟨.type "module", (some (x0)), .plain, #[]⟩
def T1 : Obj := ⟨.type "tuple", none, .seq #[] 0, #[]⟩
def T2 : Obj := ⟨.none, none, .fields #[], #[]⟩
def T3 (x0 : PySem.Str) (x1 x2 x3 : Nat) (x4 : Int) (x5 : Nat) (x6 : Int) (x7 : Nat) (x8 : Int) (x9 : Nat) : Obj := ⟨.type "code", none, .fields #[.str x0 x1, .str x0 x2, .str "/claim/cut.py" x3, .int (x4) 0, .int (0) 0, .int (0) 0, .int (0) 0, .int (0) 0, .ref x5, .bool false, .int (x6) 0, .ref x7, .none, .none, .none, .none, .int (x8) 0, .int (x4) 0, .str "/claim/cut.py" x9], #[]⟩
def T4 (x0 x1 : Nat) (x2 : PySem.Str) (x3 : Nat) : Obj := ⟨.type "frame", none, .plain, #[(some (.ref x0)), (some (.ref 3)), (some (.ref x1)), none, (some (.str x2 x3)), none, (some (.ref 0))]⟩
def T5 (x0 : Value) : Obj := ⟨.type "tuple", none, .seq #[x0] 0, #[]⟩
def T6 : Obj := ⟨.type "builtin_function_or_method", none, .fields #[.builtin "type.__prepare__", .type "type"], #[]⟩
def T7 (w : World) (x0 x1 : Nat) (x2 : PySem.Str) (x3 x4 : Nat) (x5 : Int) (x6 x7 x8 x9 x10 : Nat) : Obj := ⟨.type "dict", none, .dict #[hE w "__module__" x0 (.str "boughlaws.errors" 187), hE w "__qualname__" x1 (.str x2 x3), hE w "__firstlineno__" x4 (.int (x5) x6), hE w "__init__" x7 (.ref x8), hE w "__static_attributes__" x9 (.ref x10)] 5, #[]⟩
def T8 (x0 : Int) (x1 : Nat) : Obj := ⟨.none, none, .fields #[.int (x0) 0, .int (4) 0, .ref x1], #[]⟩
def T9 (x0 : PySem.Str) (x1 : Nat) (x2 : PySem.Str) (x3 : Nat) : Obj := ⟨.type "tuple", none, .seq #[.str x0 x1, .str x2 x3] 0, #[]⟩
def T10 (x0 : PySem.Str) (x1 : Stmt) : Obj := ⟨.none, none, .func (fU "__init__" x0 (.none) (.none) (.none) (.none) none (.none) (.none) 0 [] 0 x1), #[]⟩
def T11 (x0 : Nat) (x1 : PySem.Str) (x2 x3 : Nat) (x4 x5 : Int) (x6 x7 x8 x9 x10 : Nat) (x11 : Int) (x12 : Nat) : Obj := ⟨.type "code", none, .fields #[.str "__init__" x0, .str x1 x2, .str "/claim/cut.py" x3, .int (x4) 0, .int (x5) 0, .int (0) 0, .int (0) 0, .int (3) 0, .ref x6, .bool true, .int (181) 0, .ref x7, .none, .ref x8, .ref x9, .ref x10, .int (x11) 0, .int (x4) 0, .str "/claim/cut.py" x12], #[]⟩
def T12 (x0 : PySem.Str) (x1 : Nat) (x2 : Stmt) : Obj := ⟨.type "function", none, .func (fU "__init__" x0 (.none) (.none) (.none) (.str "boughlaws.errors" 187) none (.ref x1) (.none) 3 [] 0 x2), #[]⟩
def T13 (x0 : PySem.Str) (x1 : Nat) : Obj := ⟨.type "tuple", none, .seq #[.str x0 x1] 0, #[]⟩
def T14 (w : World) (x0 x1 : Nat) (x2 : Int) (x3 x4 x5 x6 x7 x8 x9 x10 : Nat) : Obj := ⟨.type "dict", none, .dict #[hE w "__module__" x0 (.str "boughlaws.errors" 187), hE w "__firstlineno__" x1 (.int (x2) x3), hE w "__init__" x4 (.ref x5), hE w "__static_attributes__" x6 (.ref x7), hE w "__weakref__" x8 (.ref x9), hE w "__doc__" x10 (.none)] 3, #[]⟩
def T15 (x0 x1 : Nat) : Obj := ⟨.type "getset_descriptor", none, .fields #[.str "__weakref__" x0, .ref x1, .builtin "ExceptionGroup.__weakref__", .none], #[]⟩
def T16 (x0 : Nat) : Obj := ⟨.type "super", none, .fields #[.ref x0, .ref x0, .ref x0], #[]⟩
def T17 (x0 : Nat) : Obj := ⟨.type "builtin_function_or_method", none, .fields #[.builtin "object.__init_subclass__", .ref x0], #[]⟩
def T18 (x0 : Nat) : Obj := ⟨.type "tuple", none, .seq #[.ref x0] 0, #[]⟩
def T19 (w : World) (x0 x1 : Nat) (x2 : Int) (x3 x4 x5 x6 x7 x8 : Nat) : Obj := ⟨.type "dict", none, .dict #[hE w "__module__" x0 (.str "boughlaws.errors" 187), hE w "__firstlineno__" x1 (.int (x2) x3), hE w "__init__" x4 (.ref x5), hE w "__static_attributes__" x6 (.ref x7), hE w "__doc__" x8 (.none)] 2, #[]⟩
def T20 (x0 : PySem.Str) (x1 x2 : Nat) (x3 : Value) (x4 x5 x6 x7 : Nat) (x8 : Value) : Obj := ⟨.type "type", none, .cls ⟨x0, [.ref x1], [.ref x2, .ref x1, x3, .type "Exception", .type "BaseException", .type "object"], x4, x0, true, [], [], false, none, false⟩, #[(some (.ref x5)), none, (some (.str x0 x6)), (some (.str x0 x7)), (some (x8)), (some (.bool true))]⟩
def env : Env := { scope := R.prog.main.scope, locals := mainNs, globals := mainNs, cells := [], code := .ref 13, frame := some 14 }
def pa : Pos := ⟨0, 0, 0, 0⟩
def qf : Pos := ⟨0, 0, 0, 0⟩
def Sa (w : World) (os : OsState) : SharedT := match topG (stQ R.prog w) 11 (bootAnn w) 12 (bootS w os) (topStub R.prog) with
 | some (s, _) => s
 | none => bootS w os
theorem pr : Pre R.prog 11 env qf pa 12 Sa := ⟨fun w => by kernel_rfl, fun w => by kernel_rfl, fun w os => by kernel_rfl, fun w os => by kernel_rfl⟩
def n0_0 (w : World) : List Obj := [⟨.type "dict", none, .dict (e0_0_0 w ++ (e0_0_40 w ++ (e0_0_80 w ++ (e0_0_120 w)))).toArray 159, #[]⟩, ⟨.type "dict", none, .dict #[hE w "builtins" 162 (.ref 4), hE w "__main__" 163 (.ref 5)] 2, #[]⟩, ⟨.none, none, .dict #[] 0, #[]⟩, ⟨.type "dict", none, .dict #[hE w "__name__" 165 (.str "boughlaws.errors" 187), hE w "__doc__" 166 (.none), hE w "__package__" 167 (.none), hE w "__loader__" 168 (.builtin "__main__.__loader__#opaque"), hE w "__spec__" 169 (.none), hE w "__annotations__" 170 (.ref 6), hE w "__builtins__" 171 (.ref 4), hE w "__file__" 173 (.str "/claim/cut.py" 172), hE w "__cached__" 174 (.none), hE w "BoughError" 215 (.ref 31), hE w "Missing" 242 (.ref 51), hE w "BadName" 267 (.ref 71), hE w "BadOperation" 292 (.ref 90), hE w "BadTree" 317 (.ref 109), hE w "BadCount" 342 (.ref 128), hE w "BadLeaf" 365 (.ref 147), hE w "BadPlace" 388 (.ref 166), hE w "BadMany" 411 (.ref 185), hE w "BadText" 436 (.ref 204), hE w "Uneven" 461 (.ref 223), hE w "Strange" 486 (.ref 242), hE w "Idle" 509 (.ref 261), hE w "Bare" 532 (.ref 280), hE w "Taken" 557 (.ref 299), hE w "InUse" 582 (.ref 318), hE w "Full" 605 (.ref 337), hE w "Lacking" 630 (.ref 356), hE w "Unlike" 655 (.ref 375)] 28, #[]⟩, T0 0, T0 3, ⟨.type "dict", none, .dict #[] 0, #[]⟩, T1, T2, T3 "<module>" 176 177 178 1 7 175 8 179 180, T4 9 3 "__main__" 164, T1, ⟨.none, none, .fields #[.int (2) 0, .int (0) 0, .ref 20, .int (7) 0, .int (0) 0, .ref 40, .int (12) 0, .int (0) 0, .ref 60, .int (17) 0, .int (0) 0, .ref 79, .int (22) 0, .int (0) 0, .ref 98, .int (27) 0, .int (0) 0, .ref 117, .int (32) 0, .int (0) 0, .ref 136, .int (36) 0, .int (0) 0, .ref 155, .int (40) 0, .int (0) 0, .ref 174, .int (44) 0, .int (0) 0, .ref 193, .int (49) 0, .int (0) 0, .ref 212, .int (54) 0, .int (0) 0, .ref 231, .int (59) 0, .int (0) 0, .ref 250, .int (63) 0, .int (0) 0, .ref 269, .int (67) 0, .int (0) 0, .ref 288, .int (72) 0, .int (0) 0, .ref 307, .int (77) 0, .int (0) 0, .ref 326, .int (81) 0, .int (0) 0, .ref 345, .int (86) 0, .int (0) 0, .ref 364], #[]⟩, T3 "<module>" 182 183 184 1 11 181 12 185 186, T4 13 3 "__main__" 164, T5 (.type "ValueError"), T6, T7 w 196 198 "BoughError" 197 200 2 199 208 28 210 29, T1, T8 4 27, T3 "BoughError" 191 192 193 2 18 181 19 194 195, T4 20 17 "boughlaws.errors" 187, T1, T2, T9 "self" 204 "word" 205, T1, T10 "BoughError.__init__" (mS 1 0), T11 201 "BoughError.__init__" 202 203 4 2 22 23 24 25 26 206 207, T12 "BoughError.__init__" 27 (mS 1 0), T13 "word" 209, T14 w 196 200 2 199 208 28 210 29 212 32 213, ⟨.type "type", none, .cls ⟨"BoughError", [.type "ValueError"], [.ref 31, .type "ValueError", .type "Exception", .type "BaseException", .type "object"], 30, "BoughError", true, [], [.ref 71, .ref 90, .ref 109, .ref 128, .ref 147, .ref 166, .ref 185, .ref 204, .ref 223, .ref 242, .ref 261, .ref 280, .ref 299, .ref 318, .ref 337, .ref 356, .ref 375], false, none, false⟩, #[(some (.ref 15)), none, (some (.str "BoughError" 189)), (some (.str "BoughError" 197)), (some (.builtin "ValueError.__new__")), (some (.bool true))]⟩, T15 211 31, T16 31, T17 31, T5 (.type "LookupError"), T6, T7 w 223 225 "Missing" 224 227 7 226 235 48 237 49, T1, T8 9 47, T3 "Missing" 218 219 220 7 38 181 39 221 222, T4 40 37 "boughlaws.errors" 187, T1, T2, T9 "self" 231 "word" 232, T1, T10 "Missing.__init__" (mS 2 0), T11 228 "Missing.__init__" 229 230 9 2 42 43 44 45 46 233 234, T12 "Missing.__init__" 47 (mS 2 0), T13 "word" 236, T14 w 223 227 7 226 235 48 237 49 239 52 240, ⟨.type "type", none, .cls ⟨"Missing", [.type "LookupError"], [.ref 51, .type "LookupError", .type "Exception", .type "BaseException", .type "object"], 50, "Missing", true, [], [], false, none, false⟩, #[(some (.ref 35)), none, (some (.str "Missing" 216)), (some (.str "Missing" 224)), (some (.builtin "LookupError.__new__")), (some (.bool true))]⟩, T15 238 51, T16 51, T17 51, T18 31, T6, T7 w 250 252 "BadName" 251 254 12 253 262 68 264 69, T1, T8 14 67]
def n0_1 (w : World) : List Obj := [T3 "BadName" 245 246 247 12 58 181 59 248 249, T4 60 57 "boughlaws.errors" 187, T1, T2, T9 "self" 258 "name" 259, T1, T10 "BadName.__init__" (mS 3 0), T11 255 "BadName.__init__" 256 257 14 2 62 63 64 65 66 260 261, T12 "BadName.__init__" 67 (mS 3 0), T13 "name" 263, T19 w 250 254 12 253 262 68 264 69 265, T20 "BadName" 31 71 (.type "ValueError") 70 55 243 251 (.builtin "ValueError.__new__"), T16 71, T17 71, T18 31, T6, T7 w 275 277 "BadOperation" 276 279 17 278 287 87 289 88, T1, T8 19 86, T3 "BadOperation" 270 271 272 17 77 181 78 273 274, T4 79 76 "boughlaws.errors" 187, T1, T2, T9 "self" 283 "at" 284, T1, T10 "BadOperation.__init__" (mS 4 0), T11 280 "BadOperation.__init__" 281 282 19 2 81 82 83 84 85 285 286, T12 "BadOperation.__init__" 86 (mS 4 0), T13 "at" 288, T19 w 275 279 17 278 287 87 289 88 290, T20 "BadOperation" 31 90 (.type "ValueError") 89 74 268 276 (.builtin "ValueError.__new__"), T16 90, T17 90, T18 31, T6, T7 w 300 302 "BadTree" 301 304 22 303 312 106 314 107, T1, T8 24 105, T3 "BadTree" 295 296 297 22 96 181 97 298 299, T4 98 95 "boughlaws.errors" 187, T1, T2, T9 "self" 308 "at" 309, T1, T10 "BadTree.__init__" (mS 5 0), T11 305 "BadTree.__init__" 306 307 24 2 100 101 102 103 104 310 311, T12 "BadTree.__init__" 105 (mS 5 0), T13 "at" 313, T19 w 300 304 22 303 312 106 314 107 315, T20 "BadTree" 31 109 (.type "ValueError") 108 93 293 301 (.builtin "ValueError.__new__"), T16 109, T17 109, T18 31, T6, T7 w 325 327 "BadCount" 326 329 27 328 337 125 339 126, T1, T8 29 124, T3 "BadCount" 320 321 322 27 115 181 116 323 324, T4 117 114 "boughlaws.errors" 187, T1]
def n0_2 (w : World) : List Obj := [T2, T9 "self" 333 "at" 334, T1, T10 "BadCount.__init__" (mS 6 0), T11 330 "BadCount.__init__" 331 332 29 2 119 120 121 122 123 335 336, T12 "BadCount.__init__" 124 (mS 6 0), T13 "at" 338, T19 w 325 329 27 328 337 125 339 126 340, T20 "BadCount" 31 128 (.type "ValueError") 127 112 318 326 (.builtin "ValueError.__new__"), T16 128, T17 128, T18 31, T6, T7 w 350 352 "BadLeaf" 351 354 32 353 361 144 362 145, T1, T8 34 143, T3 "BadLeaf" 345 346 347 32 134 181 135 348 349, T4 136 133 "boughlaws.errors" 187, T1, T2, T13 "self" 358, T1, T10 "BadLeaf.__init__" (mS 7 0), T11 355 "BadLeaf.__init__" 356 357 34 1 138 139 140 141 142 359 360, T12 "BadLeaf.__init__" 143 (mS 7 0), T1, T19 w 350 354 32 353 361 144 362 145 363, T20 "BadLeaf" 31 147 (.type "ValueError") 146 131 343 351 (.builtin "ValueError.__new__"), T16 147, T17 147, T18 31, T6, T7 w 373 375 "BadPlace" 374 377 36 376 384 163 385 164, T1, T8 38 162, T3 "BadPlace" 368 369 370 36 153 181 154 371 372, T4 155 152 "boughlaws.errors" 187, T1, T2, T13 "self" 381, T1, T10 "BadPlace.__init__" (mS 8 0), T11 378 "BadPlace.__init__" 379 380 38 1 157 158 159 160 161 382 383, T12 "BadPlace.__init__" 162 (mS 8 0), T1, T19 w 373 377 36 376 384 163 385 164 386, T20 "BadPlace" 31 166 (.type "ValueError") 165 150 366 374 (.builtin "ValueError.__new__"), T16 166, T17 166, T18 31, T6, T7 w 396 398 "BadMany" 397 400 40 399 407 182 408 183, T1, T8 42 181, T3 "BadMany" 391 392 393 40 172 181 173 394 395, T4 174 171 "boughlaws.errors" 187, T1, T2, T13 "self" 404, T1]
def n0_3 (w : World) : List Obj := [T10 "BadMany.__init__" (mS 9 0), T11 401 "BadMany.__init__" 402 403 42 1 176 177 178 179 180 405 406, T12 "BadMany.__init__" 181 (mS 9 0), T1, T19 w 396 400 40 399 407 182 408 183 409, T20 "BadMany" 31 185 (.type "ValueError") 184 169 389 397 (.builtin "ValueError.__new__"), T16 185, T17 185, T18 31, T6, T7 w 419 421 "BadText" 420 423 44 422 431 201 433 202, T1, T8 46 200, T3 "BadText" 414 415 416 44 191 181 192 417 418, T4 193 190 "boughlaws.errors" 187, T1, T2, T9 "self" 427 "at" 428, T1, T10 "BadText.__init__" (mS 10 0), T11 424 "BadText.__init__" 425 426 46 2 195 196 197 198 199 429 430, T12 "BadText.__init__" 200 (mS 10 0), T13 "at" 432, T19 w 419 423 44 422 431 201 433 202 434, T20 "BadText" 31 204 (.type "ValueError") 203 188 412 420 (.builtin "ValueError.__new__"), T16 204, T17 204, T18 31, T6, T7 w 444 446 "Uneven" 445 448 49 447 456 220 458 221, T1, T8 51 219, T3 "Uneven" 439 440 441 49 210 181 211 442 443, T4 212 209 "boughlaws.errors" 187, T1, T2, T9 "self" 452 "at" 453, T1, T10 "Uneven.__init__" (mS 11 0), T11 449 "Uneven.__init__" 450 451 51 2 214 215 216 217 218 454 455, T12 "Uneven.__init__" 219 (mS 11 0), T13 "at" 457, T19 w 444 448 49 447 456 220 458 221 459, T20 "Uneven" 31 223 (.type "ValueError") 222 207 437 445 (.builtin "ValueError.__new__"), T16 223, T17 223, T18 31, T6, T7 w 469 471 "Strange" 470 473 54 472 481 239 483 240, T1, T8 56 238, T3 "Strange" 464 465 466 54 229 181 230 467 468, T4 231 228 "boughlaws.errors" 187, T1, T2, T9 "self" 477 "operation" 478, T1, T10 "Strange.__init__" (mS 12 0), T11 474 "Strange.__init__" 475 476 56 2 233 234 235 236 237 479 480, T12 "Strange.__init__" 238 (mS 12 0)]
def n0_4 (w : World) : List Obj := [T13 "operation" 482, T19 w 469 473 54 472 481 239 483 240 484, T20 "Strange" 31 242 (.type "ValueError") 241 226 462 470 (.builtin "ValueError.__new__"), T16 242, T17 242, T18 31, T6, T7 w 494 496 "Idle" 495 498 59 497 505 258 506 259, T1, T8 61 257, T3 "Idle" 489 490 491 59 248 181 249 492 493, T4 250 247 "boughlaws.errors" 187, T1, T2, T13 "self" 502, T1, T10 "Idle.__init__" (mS 13 0), T11 499 "Idle.__init__" 500 501 61 1 252 253 254 255 256 503 504, T12 "Idle.__init__" 257 (mS 13 0), T1, T19 w 494 498 59 497 505 258 506 259 507, T20 "Idle" 31 261 (.type "ValueError") 260 245 487 495 (.builtin "ValueError.__new__"), T16 261, T17 261, T18 31, T6, T7 w 517 519 "Bare" 518 521 63 520 528 277 529 278, T1, T8 65 276, T3 "Bare" 512 513 514 63 267 181 268 515 516, T4 269 266 "boughlaws.errors" 187, T1, T2, T13 "self" 525, T1, T10 "Bare.__init__" (mS 14 0), T11 522 "Bare.__init__" 523 524 65 1 271 272 273 274 275 526 527, T12 "Bare.__init__" 276 (mS 14 0), T1, T19 w 517 521 63 520 528 277 529 278 530, T20 "Bare" 31 280 (.type "ValueError") 279 264 510 518 (.builtin "ValueError.__new__"), T16 280, T17 280, T18 31, T6, T7 w 540 542 "Taken" 541 544 67 543 552 296 554 297, T1, T8 69 295, T3 "Taken" 535 536 537 67 286 181 287 538 539, T4 288 285 "boughlaws.errors" 187, T1, T2, T9 "self" 548 "name" 549, T1, T10 "Taken.__init__" (mS 15 0), T11 545 "Taken.__init__" 546 547 69 2 290 291 292 293 294 550 551, T12 "Taken.__init__" 295 (mS 15 0), T13 "name" 553, T19 w 540 544 67 543 552 296 554 297 555, T20 "Taken" 31 299 (.type "ValueError") 298 283 533 541 (.builtin "ValueError.__new__")]
def n0_5 (w : World) : List Obj := [T16 299, T17 299, T18 31, T6, T7 w 565 567 "InUse" 566 569 72 568 577 315 579 316, T1, T8 74 314, T3 "InUse" 560 561 562 72 305 181 306 563 564, T4 307 304 "boughlaws.errors" 187, T1, T2, T9 "self" 573 "name" 574, T1, T10 "InUse.__init__" (mS 16 0), T11 570 "InUse.__init__" 571 572 74 2 309 310 311 312 313 575 576, T12 "InUse.__init__" 314 (mS 16 0), T13 "name" 578, T19 w 565 569 72 568 577 315 579 316 580, T20 "InUse" 31 318 (.type "ValueError") 317 302 558 566 (.builtin "ValueError.__new__"), T16 318, T17 318, T18 31, T6, T7 w 590 592 "Full" 591 594 77 593 601 334 602 335, T1, T8 79 333, T3 "Full" 585 586 587 77 324 181 325 588 589, T4 326 323 "boughlaws.errors" 187, T1, T2, T13 "self" 598, T1, T10 "Full.__init__" (mS 17 0), T11 595 "Full.__init__" 596 597 79 1 328 329 330 331 332 599 600, T12 "Full.__init__" 333 (mS 17 0), T1, T19 w 590 594 77 593 601 334 602 335 603, T20 "Full" 31 337 (.type "ValueError") 336 321 583 591 (.builtin "ValueError.__new__"), T16 337, T17 337, T18 31, T6, T7 w 613 615 "Lacking" 614 617 81 616 625 353 627 354, T1, T8 83 352, T3 "Lacking" 608 609 610 81 343 181 344 611 612, T4 345 342 "boughlaws.errors" 187, T1, T2, T9 "self" 621 "operation" 622, T1, T10 "Lacking.__init__" (mS 18 0), T11 618 "Lacking.__init__" 619 620 83 2 347 348 349 350 351 623 624, T12 "Lacking.__init__" 352 (mS 18 0), T13 "operation" 626, T19 w 613 617 81 616 625 353 627 354 628, T20 "Lacking" 31 356 (.type "ValueError") 355 340 606 614 (.builtin "ValueError.__new__"), T16 356, T17 356, T18 31]
def n0_6 (w : World) : List Obj := [T6, T7 w 638 640 "Unlike" 639 642 86 641 650 372 652 373, T1, T8 88 371, T3 "Unlike" 633 634 635 86 362 181 363 636 637, T4 364 361 "boughlaws.errors" 187, T1, T2, T9 "self" 646 "operation" 647, T1, T10 "Unlike.__init__" (mS 19 0), T11 643 "Unlike.__init__" 644 645 88 2 366 367 368 369 370 648 649, T12 "Unlike.__init__" 371 (mS 19 0), T13 "operation" 651, T19 w 638 642 86 641 650 372 652 373 653, T20 "Unlike" 31 375 (.type "ValueError") 374 359 631 639 (.builtin "ValueError.__new__"), T16 375, T17 375]
def tr0 (w : World) : BT := layL (n0_0 w ++ (n0_1 w ++ (n0_2 w ++ (n0_3 w ++ (n0_4 w ++ (n0_5 w ++ (n0_6 w))))))) .nil 0
def S1 (w : World) (os : OsState) : SharedT := ⟨tr0 w, 378, (boot_heap w.params).life, #[], boot_drawn, 656, os⟩
def p1 : Pos := ⟨86, 0, 90, 34⟩
theorem g0 (w : World) (os : OsState) : segF (stQ R.prog w) 11 (bootAnn w) 4599 (Sa w os) (piecesOf (((behindTheImports R.prog).drop 0).take 20) env (.body (behindTheImports R.prog) env) pa [topFrame qf]) = some (.next, S1 w os, (.body (behindTheImports R.prog) env), p1) := by
 kernel_rfl
theorem c0 : CutR R.prog 11 env qf 20 p1 4612 S1 := by
 have z := pr.cut.on (j := 20) g0
 rw [Nat.zero_add] at z
 exact z
def n1_0 (w : World) : List Obj := [T18 31, T6, T7 w 663 665 "Unjoined" 664 667 91 666 674 391 675 392, T1, T8 93 390, T3 "Unjoined" 658 659 660 91 381 181 382 661 662, T4 383 380 "boughlaws.errors" 187, T1, T2, T13 "self" 671, T1, T10 "Unjoined.__init__" (mS 20 0), T11 668 "Unjoined.__init__" 669 670 93 1 385 386 387 388 389 672 673, T12 "Unjoined.__init__" 390 (mS 20 0), T1, T19 w 663 667 91 666 674 391 675 392 676, T20 "Unjoined" 31 394 (.type "ValueError") 393 378 656 664 (.builtin "ValueError.__new__"), T16 394, T17 394, T18 31, T6, T7 w 686 688 "NotKept" 687 690 95 689 698 410 700 411, T1, T8 97 409, T3 "NotKept" 681 682 683 95 400 181 401 684 685, T4 402 399 "boughlaws.errors" 187, T1, T2, T9 "self" 694 "name" 695, T1, T10 "NotKept.__init__" (mS 21 0), T11 691 "NotKept.__init__" 692 693 97 2 404 405 406 407 408 696 697, T12 "NotKept.__init__" 409 (mS 21 0), T13 "name" 699, T19 w 686 690 95 689 698 410 700 411 701, T20 "NotKept" 31 413 (.type "ValueError") 412 397 679 687 (.builtin "ValueError.__new__"), T16 413, T17 413, T18 31, T6, T7 w 711 713 "Breaks" 712 715 100 714 723 429 725 430, T1, T8 102 428, T3 "Breaks" 706 707 708 100 419 181 420 709 710, T4 421 418 "boughlaws.errors" 187, T1, T2, T9 "self" 719 "name" 720, T1, T10 "Breaks.__init__" (mS 22 0), T11 716 "Breaks.__init__" 717 718 102 2 423 424 425 426 427 721 722, T12 "Breaks.__init__" 428 (mS 22 0), T13 "name" 724, T19 w 711 715 100 714 723 429 725 430 726, T20 "Breaks" 31 432 (.type "ValueError") 431 416 704 712 (.builtin "ValueError.__new__"), T16 432, T17 432, T18 31, T6, T7 w 736 738 "Wide" 737 740 105 739 747 448 748 449]
def n1_1 (w : World) : List Obj := [T1, T8 107 447, T3 "Wide" 731 732 733 105 438 181 439 734 735, T4 440 437 "boughlaws.errors" 187, T1, T2, T13 "self" 744, T1, T10 "Wide.__init__" (mS 23 0), T11 741 "Wide.__init__" 742 743 107 1 442 443 444 445 446 745 746, T12 "Wide.__init__" 447 (mS 23 0), T1, T19 w 736 740 105 739 747 448 748 449 749, T20 "Wide" 31 451 (.type "ValueError") 450 435 729 737 (.builtin "ValueError.__new__"), T16 451, T17 451, T18 31, T6, T7 w 759 761 "NotTwos" 760 763 109 762 770 467 771 468, T1, T8 111 466, T3 "NotTwos" 754 755 756 109 457 181 458 757 758, T4 459 456 "boughlaws.errors" 187, T1, T2, T13 "self" 767, T1, T10 "NotTwos.__init__" (mS 24 0), T11 764 "NotTwos.__init__" 765 766 111 1 461 462 463 464 465 768 769, T12 "NotTwos.__init__" 466 (mS 24 0), T1, T19 w 759 763 109 762 770 467 771 468 772, T20 "NotTwos" 31 470 (.type "ValueError") 469 454 752 760 (.builtin "ValueError.__new__"), T16 470, T17 470, T18 31, T6, T7 w 782 784 "BadRow" 783 786 113 785 794 486 796 487, T1, T8 115 485, T3 "BadRow" 777 778 779 113 476 181 477 780 781, T4 478 475 "boughlaws.errors" 187, T1, T2, T9 "self" 790 "at" 791, T1, T10 "BadRow.__init__" (mS 25 0), T11 787 "BadRow.__init__" 788 789 115 2 480 481 482 483 484 792 793, T12 "BadRow.__init__" 485 (mS 25 0), T13 "at" 795, T19 w 782 786 113 785 794 486 796 487 797, T20 "BadRow" 31 489 (.type "ValueError") 488 473 775 783 (.builtin "ValueError.__new__"), T16 489, T17 489, T18 31, T6, T7 w 807 809 "BadPlaces" 808 811 118 810 818 505 819 506, T1, T8 120 504, T3 "BadPlaces" 802 803 804 118 495 181 496 805 806]
def n1_2 (w : World) : List Obj := [T4 497 494 "boughlaws.errors" 187, T1, T2, T13 "self" 815, T1, T10 "BadPlaces.__init__" (mS 26 0), T11 812 "BadPlaces.__init__" 813 814 120 1 499 500 501 502 503 816 817, T12 "BadPlaces.__init__" 504 (mS 26 0), T1, T19 w 807 811 118 810 818 505 819 506 820, T20 "BadPlaces" 31 508 (.type "ValueError") 507 492 800 808 (.builtin "ValueError.__new__"), T16 508, T17 508, T18 31, T6, T7 w 830 832 "BadDeed" 831 834 122 833 841 524 842 525, T1, T8 124 523, T3 "BadDeed" 825 826 827 122 514 181 515 828 829, T4 516 513 "boughlaws.errors" 187, T1, T2, T13 "self" 838, T1, T10 "BadDeed.__init__" (mS 27 0), T11 835 "BadDeed.__init__" 836 837 124 1 518 519 520 521 522 839 840, T12 "BadDeed.__init__" 523 (mS 27 0), T1, T19 w 830 834 122 833 841 524 842 525 843, T20 "BadDeed" 31 527 (.type "ValueError") 526 511 823 831 (.builtin "ValueError.__new__"), T16 527, T17 527, T18 31, T6, T7 w 853 855 "Stopped" 854 857 126 856 866 543 869 544, T1, T8 128 542, T3 "Stopped" 848 849 850 126 533 181 534 851 852, T4 535 532 "boughlaws.errors" 187, T1, T2, ⟨.type "tuple", none, .seq #[.str "self" 861, .str "at" 862, .str "why" 863] 0, #[]⟩, T1, T10 "Stopped.__init__" (mS 28 0), T11 858 "Stopped.__init__" 859 860 128 3 537 538 539 540 541 864 865, T12 "Stopped.__init__" 542 (mS 28 0), T9 "at" 867 "why" 868, T19 w 853 857 126 856 866 543 869 544 870, T20 "Stopped" 31 546 (.type "ValueError") 545 530 846 854 (.builtin "ValueError.__new__"), T16 546, T17 546, T18 31, T6, T7 w 880 882 "BadPage" 881 884 132 883 892 562 894 563, T1, T8 134 561, T3 "BadPage" 875 876 877 132 552 181 553 878 879, T4 554 551 "boughlaws.errors" 187, T1, T2]
def n1_3 (w : World) : List Obj := [T9 "self" 888 "at" 889, T1, T10 "BadPage.__init__" (mS 29 0), T11 885 "BadPage.__init__" 886 887 134 2 556 557 558 559 560 890 891, T12 "BadPage.__init__" 561 (mS 29 0), T13 "at" 893, T19 w 880 884 132 883 892 562 894 563 895, T20 "BadPage" 31 565 (.type "ValueError") 564 549 873 881 (.builtin "ValueError.__new__"), T16 565, T17 565, T18 51, T6, T7 w 905 907 "NoOperation" 906 909 137 908 917 581 919 582, T1, T8 139 580, T3 "NoOperation" 900 901 902 137 571 181 572 903 904, T4 573 570 "boughlaws.errors" 187, T1, T2, T9 "self" 913 "operation" 914, T1, T10 "NoOperation.__init__" (mS 30 0), T11 910 "NoOperation.__init__" 911 912 139 2 575 576 577 578 579 915 916, T12 "NoOperation.__init__" 580 (mS 30 0), T13 "operation" 918, T19 w 905 909 137 908 917 581 919 582 920, T20 "NoOperation" 51 584 (.type "LookupError") 583 568 898 906 (.builtin "LookupError.__new__"), T16 584, T17 584, T18 51, T6, T7 w 930 932 "NoRule" 931 934 142 933 942 600 944 601, T1, T8 144 599, T3 "NoRule" 925 926 927 142 590 181 591 928 929, T4 592 589 "boughlaws.errors" 187, T1, T2, T9 "self" 938 "name" 939, T1, T10 "NoRule.__init__" (mS 31 0), T11 935 "NoRule.__init__" 936 937 144 2 594 595 596 597 598 940 941, T12 "NoRule.__init__" 599 (mS 31 0), T13 "name" 943, T19 w 930 934 142 933 942 600 944 601 945, T20 "NoRule" 51 603 (.type "LookupError") 602 587 923 931 (.builtin "LookupError.__new__"), T16 603, T17 603, T18 51, T6, T7 w 955 957 "NoKind" 956 959 147 958 967 619 969 620, T1, T8 149 618, T3 "NoKind" 950 951 952 147 609 181 610 953 954, T4 611 608 "boughlaws.errors" 187, T1, T2, T9 "self" 963 "name" 964, T1, T10 "NoKind.__init__" (mS 32 0)]
def n1_4 (w : World) : List Obj := [T11 960 "NoKind.__init__" 961 962 149 2 613 614 615 616 617 965 966, T12 "NoKind.__init__" 618 (mS 32 0), T13 "name" 968, T19 w 955 959 147 958 967 619 969 620 970, T20 "NoKind" 51 622 (.type "LookupError") 621 606 948 956 (.builtin "LookupError.__new__"), T16 622, T17 622, T18 51, T6, T7 w 980 982 "NoBridge" 981 984 152 983 992 638 994 639, T1, T8 154 637, T3 "NoBridge" 975 976 977 152 628 181 629 978 979, T4 630 627 "boughlaws.errors" 187, T1, T2, T9 "self" 988 "name" 989, T1, T10 "NoBridge.__init__" (mS 33 0), T11 985 "NoBridge.__init__" 986 987 154 2 632 633 634 635 636 990 991, T12 "NoBridge.__init__" 637 (mS 33 0), T13 "name" 993, T19 w 980 984 152 983 992 638 994 639 995, T20 "NoBridge" 51 641 (.type "LookupError") 640 625 973 981 (.builtin "LookupError.__new__"), T16 641, T17 641, T18 51, T6, T7 w 1005 1007 "NoWatch" 1006 1009 157 1008 1017 657 1019 658, T1, T8 159 656, T3 "NoWatch" 1000 1001 1002 157 647 181 648 1003 1004, T4 649 646 "boughlaws.errors" 187, T1, T2, T9 "self" 1013 "name" 1014, T1, T10 "NoWatch.__init__" (mS 34 0), T11 1010 "NoWatch.__init__" 1011 1012 159 2 651 652 653 654 655 1015 1016, T12 "NoWatch.__init__" 656 (mS 34 0), T13 "name" 1018, T19 w 1005 1009 157 1008 1017 657 1019 658 1020, T20 "NoWatch" 51 660 (.type "LookupError") 659 644 998 1006 (.builtin "LookupError.__new__"), T16 660, T17 660, T18 51, T6, T7 w 1030 1032 "NothingLeft" 1031 1034 162 1033 1041 676 1042 677, T1, T8 164 675, T3 "NothingLeft" 1025 1026 1027 162 666 181 667 1028 1029, T4 668 665 "boughlaws.errors" 187, T1, T2, T13 "self" 1038, T1, T10 "NothingLeft.__init__" (mS 35 0), T11 1035 "NothingLeft.__init__" 1036 1037 164 1 670 671 672 673 674 1039 1040, T12 "NothingLeft.__init__" 675 (mS 35 0), T1]
def n1_5 (w : World) : List Obj := [T19 w 1030 1034 162 1033 1041 676 1042 677 1043, T20 "NothingLeft" 51 679 (.type "LookupError") 678 663 1023 1031 (.builtin "LookupError.__new__"), T16 679, T17 679]
def tr1 (w : World) : BT := layL (n1_0 w ++ (n1_1 w ++ (n1_2 w ++ (n1_3 w ++ (n1_4 w ++ (n1_5 w)))))) (insL [(3, ⟨.type "dict", none, .dict #[hE w "__name__" 165 (.str "boughlaws.errors" 187), hE w "__doc__" 166 (.none), hE w "__package__" 167 (.none), hE w "__loader__" 168 (.builtin "__main__.__loader__#opaque"), hE w "__spec__" 169 (.none), hE w "__annotations__" 170 (.ref 6), hE w "__builtins__" 171 (.ref 4), hE w "__file__" 173 (.str "/claim/cut.py" 172), hE w "__cached__" 174 (.none), hE w "BoughError" 215 (.ref 31), hE w "Missing" 242 (.ref 51), hE w "BadName" 267 (.ref 71), hE w "BadOperation" 292 (.ref 90), hE w "BadTree" 317 (.ref 109), hE w "BadCount" 342 (.ref 128), hE w "BadLeaf" 365 (.ref 147), hE w "BadPlace" 388 (.ref 166), hE w "BadMany" 411 (.ref 185), hE w "BadText" 436 (.ref 204), hE w "Uneven" 461 (.ref 223), hE w "Strange" 486 (.ref 242), hE w "Idle" 509 (.ref 261), hE w "Bare" 532 (.ref 280), hE w "Taken" 557 (.ref 299), hE w "InUse" 582 (.ref 318), hE w "Full" 605 (.ref 337), hE w "Lacking" 630 (.ref 356), hE w "Unlike" 655 (.ref 375), hE w "Unjoined" 678 (.ref 394), hE w "NotKept" 703 (.ref 413), hE w "Breaks" 728 (.ref 432), hE w "Wide" 751 (.ref 451), hE w "NotTwos" 774 (.ref 470), hE w "BadRow" 799 (.ref 489), hE w "BadPlaces" 822 (.ref 508), hE w "BadDeed" 845 (.ref 527), hE w "Stopped" 872 (.ref 546), hE w "BadPage" 897 (.ref 565), hE w "NoOperation" 922 (.ref 584), hE w "NoRule" 947 (.ref 603), hE w "NoKind" 972 (.ref 622), hE w "NoBridge" 997 (.ref 641), hE w "NoWatch" 1022 (.ref 660), hE w "NothingLeft" 1045 (.ref 679)] 44, #[]⟩), (12, ⟨.none, none, .fields #[.int (2) 0, .int (0) 0, .ref 20, .int (7) 0, .int (0) 0, .ref 40, .int (12) 0, .int (0) 0, .ref 60, .int (17) 0, .int (0) 0, .ref 79, .int (22) 0, .int (0) 0, .ref 98, .int (27) 0, .int (0) 0, .ref 117, .int (32) 0, .int (0) 0, .ref 136, .int (36) 0, .int (0) 0, .ref 155, .int (40) 0, .int (0) 0, .ref 174, .int (44) 0, .int (0) 0, .ref 193, .int (49) 0, .int (0) 0, .ref 212, .int (54) 0, .int (0) 0, .ref 231, .int (59) 0, .int (0) 0, .ref 250, .int (63) 0, .int (0) 0, .ref 269, .int (67) 0, .int (0) 0, .ref 288, .int (72) 0, .int (0) 0, .ref 307, .int (77) 0, .int (0) 0, .ref 326, .int (81) 0, .int (0) 0, .ref 345, .int (86) 0, .int (0) 0, .ref 364, .int (91) 0, .int (0) 0, .ref 383, .int (95) 0, .int (0) 0, .ref 402, .int (100) 0, .int (0) 0, .ref 421, .int (105) 0, .int (0) 0, .ref 440, .int (109) 0, .int (0) 0, .ref 459, .int (113) 0, .int (0) 0, .ref 478, .int (118) 0, .int (0) 0, .ref 497, .int (122) 0, .int (0) 0, .ref 516, .int (126) 0, .int (0) 0, .ref 535, .int (132) 0, .int (0) 0, .ref 554, .int (137) 0, .int (0) 0, .ref 573, .int (142) 0, .int (0) 0, .ref 592, .int (147) 0, .int (0) 0, .ref 611, .int (152) 0, .int (0) 0, .ref 630, .int (157) 0, .int (0) 0, .ref 649, .int (162) 0, .int (0) 0, .ref 668], #[]⟩), (31, ⟨.type "type", none, .cls ⟨"BoughError", [.type "ValueError"], [.ref 31, .type "ValueError", .type "Exception", .type "BaseException", .type "object"], 30, "BoughError", true, [], [.ref 71, .ref 90, .ref 109, .ref 128, .ref 147, .ref 166, .ref 185, .ref 204, .ref 223, .ref 242, .ref 261, .ref 280, .ref 299, .ref 318, .ref 337, .ref 356, .ref 375, .ref 394, .ref 413, .ref 432, .ref 451, .ref 470, .ref 489, .ref 508, .ref 527, .ref 546, .ref 565], false, none, false⟩, #[(some (.ref 15)), none, (some (.str "BoughError" 189)), (some (.str "BoughError" 197)), (some (.builtin "ValueError.__new__")), (some (.bool true))]⟩), (51, ⟨.type "type", none, .cls ⟨"Missing", [.type "LookupError"], [.ref 51, .type "LookupError", .type "Exception", .type "BaseException", .type "object"], 50, "Missing", true, [], [.ref 584, .ref 603, .ref 622, .ref 641, .ref 660, .ref 679], false, none, false⟩, #[(some (.ref 35)), none, (some (.str "Missing" 216)), (some (.str "Missing" 224)), (some (.builtin "LookupError.__new__")), (some (.bool true))]⟩)] (tr0 w)) 378
def S2 (w : World) (os : OsState) : SharedT := ⟨tr1 w, 682, (boot_heap w.params).life, #[], boot_drawn, 1046, os⟩
def p2 : Pos := ⟨162, 0, 165, 45⟩
theorem g1 (w : World) (os : OsState) : segF (stQ R.prog w) 11 (bootAnn w) 3911 (S1 w os) (piecesOf (((behindTheImports R.prog).drop 20).take 16) env (.body (behindTheImports R.prog) env) p1 [topFrame qf]) = some (.next, S2 w os, (.body (behindTheImports R.prog) env), p2) := by
 kernel_rfl
theorem c1 : CutR R.prog 11 env qf 36 p2 8523 S2 := (c0 : CutR _ _ _ _ 20 _ _ _).on g1
end Hd
end
end
section
open PySem PySem.W PySem.Calls PyProof.Rows
set_option maxHeartbeats 0
namespace Hd
theorem f1 : opening R.prog = plainProg R.prog.main.scope.names := by
 kernel_rfl
theorem f2 : ∀ s, fenceModules? R.prog s = some s := fun s => by
 kernel_rfl
abbrev dL : DefRec := HandSHeadRun.topDef R.prog 46
theorem f3 : defOf qv R.name = some (dL, []) := by
 kernel_rfl
theorem f4 : R.prog.theDef R.name = some (dL.params, dL.body, dL.scope) := by
 kernel_rfl
theorem f5 : kwWritten? dL.params.kwonlyargs dL.params.kw_defaults = some [] := by
 kernel_rfl
theorem f6 : (chainsOk qv && opensWell R.prog && (frees R.toRowW && R.within.isEmpty)) = true := by
 decide +kernel
theorem f7 : R.prog.bare := ⟨rfl, rfl, rfl, rfl, rfl, by decide +kernel⟩
end Hd
local macro_rules | `(tactic| o_head $H) => do
 let hw := Lean.mkIdent `hw
 let hc := Lean.mkIdent `hc
 `(tactic| (refine HdR.head_L (r := OpenLaw.row PySem.Challenge.rw_boughlaws_k76_refusals_apart) (H := $H) (q := Hd.qv) (loose := Hd.names) (d := Hd.dL) (kwd := []) (N := 9588) (HdR.left_cut Hd.pr Hd.c1 (M := 365) Hd.f1 (by rfl) Hd.f2 (by rfl) ?hl) Hd.f3 Hd.f4 Hd.f5 (by rfl) (by first | assumption | decide +kernel) Hd.f6 Hd.f7 ?$hw:ident ?$hc:ident; (case hl => (intro w os; kernel_rfl))))
open_top topHead for PySem.Challenge.rw_boughlaws_k76_refusals_apart
end
namespace PySem
namespace LOE
open PySem.W PySem.Calls PyProof.Rows PySem.HandSPX
abbrev leTail : List Value := [.type "LookupError", .type "Exception", .type "BaseException", .type "object"]
def isAdr : Value → Bool
 | .ref _ => true
 | _ => false
def refsLE (l : List Value) : Bool := l.dropWhile isAdr == leTail
end LOE
end PySem
namespace RW
open PySem PySem.Spec PyProof.Rows L2
def metOf (st : Stmt) (j : Nat) : Stmt := match st with
 | .ClassDef _ _ _ body _ _ _ _ _ _ _ => body.getD j (.Pass ⟨0, 0, 0, 0⟩)
 | _ => .Pass ⟨0, 0, 0, 0⟩
section
variable {K : PySem.W.Frag}
structure GfA (K : PySem.W.Frag) (al x : Str) (st : Stmt) (f : Addr) : Prop where
 a : PySem.W.nsIn K mainGlobals al = some (some (.ref f))
 F : ∃ fd, Fun K x x st f fd
theorem GfA.of {al x : Str} {st : Stmt} {f : Addr} {oc : Value} {od an : Option Addr} {osl : Array (Option Value)} {kV doc pm cdv ct : Value} (a : PySem.W.nsIn K mainGlobals al = some (some (.ref f)))
 (l : K.lookup f = some ⟨oc, od, .func (PySem.W.fnOf x x (defArgs st) (defBody st) (defScope st) .none kV doc pm an cdv ct), osl⟩) (c : PySem.W.codeIn K cdv x = true) (k : PySem.W.keepIn K (.ref f) = true) : GfA K al x st f := ⟨a, _, fun_mk l c k⟩
structure Gfd (K : PySem.W.Frag) (al x : Str) (st : Stmt) : Prop where
 ex : ∃ f, GfA K al x st f
theorem Gfd.of {al x : Str} {st : Stmt} {f : Addr} {oc : Value} {od an : Option Addr} {osl : Array (Option Value)} {kV doc pm cdv ct : Value} (a : PySem.W.nsIn K mainGlobals al = some (some (.ref f)))
 (l : K.lookup f = some ⟨oc, od, .func (PySem.W.fnOf x x (defArgs st) (defBody st) (defScope st) .none kV doc pm an cdv ct), osl⟩) (c : PySem.W.codeIn K cdv x = true) (k : PySem.W.keepIn K (.ref f) = true) : Gfd K al x st := ⟨f, .of a l c k⟩
structure Mfd (K : PySem.W.Frag) (C : Addr) (m q : Str) (st : Stmt) : Prop where
 ex : ∃ f fd, PySem.W.findIn K (.ref C) m = some (some (.ref f)) ∧ PySem.W.isFn K (.ref f) = true ∧ Fun K m q st f fd
theorem Mfd.of {C : Addr} {m q : Str} {st : Stmt} {f : Addr} {oc : Value} {od an : Option Addr} {osl : Array (Option Value)} {kV doc pm cdv ct : Value} (a : PySem.W.findIn K (.ref C) m = some (some (.ref f)))
 (l : K.lookup f = some ⟨oc, od, .func (PySem.W.fnOf m q (defArgs st) (defBody st) (defScope st) .none kV doc pm an cdv ct), osl⟩) (i : PySem.W.isFn K (.ref f) = true) (c : PySem.W.codeIn K cdv q = true) (k : PySem.W.keepIn K (.ref f) = true) : Mfd K C m q st := ⟨f, _, a, i, fun_mk l c k⟩
inductive NfL (K : PySem.W.Frag) (C : Addr) : List Str → Prop
 | n : NfL K C []
 | c {f : Str} {r : List Str} (h : PySem.W.findIn K (.ref C) f = some none) (t : NfL K C r) : NfL K C (f :: r)
structure OwR (K : PySem.W.Frag) (x : Str) (C : Addr) (fs : List Str) : Prop where
 g : PySem.W.nsIn K mainGlobals x = some (some (.ref C))
 cl : Cls K C
 mks : PySem.W.makesIn K C = true
 kC : PySem.W.keepIn K (.ref C) = true
 nf : NfL K C fs
theorem OwR.of {x : Str} {C : Addr} {fs : List Str} (g : PySem.W.nsIn K mainGlobals x = some (some (.ref C))) (h1 : PySem.W.plainGet K C Str.empty = true) (h2 : PySem.W.hasDictIn K C = true) (h3 : PySem.W.plainOver K C = true) (h4 : PySem.W.findIn K (.ref C) "__setattr__" = some (some (.builtin "object.__setattr__")))
 (mk : PySem.W.makesIn K C = true) (kC : PySem.W.keepIn K (.ref C) = true) (nf : NfL K C fs) : OwR K x C fs := ⟨g, ⟨h1, h2, h3, h4⟩, mk, kC, nf⟩
structure CuR (K : PySem.W.Frag) (C : Addr) : Prop where
 b : PySem.W.subIn K (.ref C) (.type "BaseException") = some true
 c : PySem.W.isClsIn K C = true
 t : PySem.W.typeIn K (.ref C) = some (.type "type")
structure OexL (K : PySem.W.Frag) (C : Addr) : Prop where
 cls : ∃ nm q N bs bm sn sub ab col dd k0 k1 k2 k3 k5, K.lookup C = some (excClassObj nm q C N bs bm true sn sub ab col dd k0 k1 k2 k3 k5 "LookupError.__new__") ∧ PySem.LOE.refsLE bm = true
 sa : PySem.W.findIn K (.ref C) "__setattr__" = some (some (.builtin "object.__setattr__"))
 exC : PySem.W.subIn K (.ref C) (.type "BaseException") = some true
 tyC : PySem.W.typeIn K (.ref C) = some (.type "type")
 kC : PySem.W.keepIn K (.ref C) = true
structure ExR (K : PySem.W.Frag) (x q : Str) (st : Stmt) (C : Addr) (fs : List Str) : Prop where
 g : PySem.W.nsIn K mainGlobals x = some (some (.ref C))
 T : OexC K C
 xf : XfC K C
 nf : NfL K C fs
 i : ∃ f fd, PySem.W.findIn K (.ref C) "__init__" = some (some (.ref f)) ∧ PySem.W.typeIn K (.ref f) = some (.type "function") ∧ Fun K "__init__" q st f fd
theorem ExR.of {x q : Str} {st : Stmt} {C f N : Addr} {fs : List Str} {nm q0 : Str} {bs bm : List Value} {sn : List Str} {sub : List Value} {ab : Bool} {col : Option Bool} {dd od an : Option Addr} {z0 z1 z2 z3 z5 : Option Value} {oc kV doc pm cdv ct : Value} {osl : Array (Option Value)}
 (g : PySem.W.nsIn K mainGlobals x = some (some (.ref C))) (e : K.lookup C = some (excClassObj nm q0 C N bs bm true sn sub ab col dd z0 z1 z2 z3 z5 "ValueError.__new__")) (r : PySem.HandSPX.refsVE bm = true)
 (sa : PySem.W.findIn K (.ref C) "__setattr__" = some (some (.builtin "object.__setattr__"))) (ga : PySem.W.findIn K (.ref C) "__getattribute__" = some (some (.builtin "BaseException.__getattribute__"))) (gg : PySem.W.findIn K (.ref C) "__getattr__" = some none)
 (i : PySem.W.findIn K (.ref C) "__init__" = some (some (.ref f))) (t : PySem.W.typeIn K (.ref f) = some (.type "function")) (l : K.lookup f = some ⟨oc, od, .func (PySem.W.fnOf "__init__" q (defArgs st) (defBody st) (defScope st) .none kV doc pm an cdv ct), osl⟩)
 (c : PySem.W.codeIn K cdv q = true) (k : PySem.W.keepIn K (.ref f) = true) (kC : PySem.W.keepIn K (.ref C) = true) (eC : PySem.W.subIn K (.ref C) (.type "BaseException") = some true) (tC : PySem.W.typeIn K (.ref C) = some (.type "type")) (hC : PySem.W.hasDictIn K C = true) (nf : NfL K C fs) :
 ExR K x q st C fs := ⟨g, ⟨⟨_, _, _, _, _, _, _, _, _, _, _, _, _, _, _, e, r⟩, sa, eC, tC, kC⟩, ⟨ga, gg, eC, hC⟩, nf, f, _, i, t, fun_mk l c k⟩
structure ExRL (K : PySem.W.Frag) (x q : Str) (st : Stmt) (C : Addr) (fs : List Str) : Prop where
 g : PySem.W.nsIn K mainGlobals x = some (some (.ref C))
 T : OexL K C
 xf : XfC K C
 nf : NfL K C fs
 i : ∃ f fd, PySem.W.findIn K (.ref C) "__init__" = some (some (.ref f)) ∧ PySem.W.typeIn K (.ref f) = some (.type "function") ∧ Fun K "__init__" q st f fd
theorem ExRL.of {x q : Str} {st : Stmt} {C f N : Addr} {fs : List Str} {nm q0 : Str} {bs bm : List Value} {sn : List Str} {sub : List Value} {ab : Bool} {col : Option Bool} {dd od an : Option Addr} {z0 z1 z2 z3 z5 : Option Value} {oc kV doc pm cdv ct : Value} {osl : Array (Option Value)}
 (g : PySem.W.nsIn K mainGlobals x = some (some (.ref C))) (e : K.lookup C = some (excClassObj nm q0 C N bs bm true sn sub ab col dd z0 z1 z2 z3 z5 "LookupError.__new__")) (r : PySem.LOE.refsLE bm = true)
 (sa : PySem.W.findIn K (.ref C) "__setattr__" = some (some (.builtin "object.__setattr__"))) (ga : PySem.W.findIn K (.ref C) "__getattribute__" = some (some (.builtin "BaseException.__getattribute__"))) (gg : PySem.W.findIn K (.ref C) "__getattr__" = some none)
 (i : PySem.W.findIn K (.ref C) "__init__" = some (some (.ref f))) (t : PySem.W.typeIn K (.ref f) = some (.type "function")) (l : K.lookup f = some ⟨oc, od, .func (PySem.W.fnOf "__init__" q (defArgs st) (defBody st) (defScope st) .none kV doc pm an cdv ct), osl⟩)
 (c : PySem.W.codeIn K cdv q = true) (k : PySem.W.keepIn K (.ref f) = true) (kC : PySem.W.keepIn K (.ref C) = true) (eC : PySem.W.subIn K (.ref C) (.type "BaseException") = some true) (tC : PySem.W.typeIn K (.ref C) = some (.type "type")) (hC : PySem.W.hasDictIn K C = true) (nf : NfL K C fs) :
 ExRL K x q st C fs := ⟨g, ⟨⟨_, _, _, _, _, _, _, _, _, _, _, _, _, _, _, e, r⟩, sa, eC, tC, kC⟩, ⟨ga, gg, eC, hC⟩, nf, f, _, i, t, fun_mk l c k⟩
def xcB (K : PySem.W.Frag) (C : Addr) : Bool := decide (PySem.W.findIn K (.ref C) "__class__" = some (some (.builtin "object.__class__"))) && (decide (PySem.W.takesIn K (.builtin "object.__class__") = some true) && (decide (PySem.W.specialIn K (.builtin "object.__class__") "__get__" = some (some (.builtin "getset_descriptor.__get__"))) && decide (PySem.W.mroIn K C (.type "object") = some true)))
def exB (K : PySem.W.Frag) (CB CM C : Addr) (b : Bool) : Bool := decide (PySem.W.exmAny K (.ref C) [.ref CB] = some b) && decide (PySem.W.exmAny K (.ref C) [.ref CM] = some (!b))
def kdB (K : PySem.W.Frag) (CB CM C : Addr) (b : Bool) : Bool := decide (PySem.W.kitOne K (.ref C) (.ref CB) = some b) && (decide (PySem.W.kitOne K (.ref C) (.type "ValueError") = some b) && (decide (PySem.W.kitOne K (.ref C) (.ref CM) = some (!b)) && decide (PySem.W.kitOne K (.ref C) (.type "LookupError") = some (!b))))
def rowB (K : PySem.W.Frag) (C : Addr) (i : Nat) : List Addr → Nat → Bool
 | [], _ => true
 | D :: r, j => decide (PySem.W.kitOne K (.ref C) (.ref D) = some (j == i)) && rowB K C i r (j + 1)
def all76 (K : PySem.W.Frag) (CB CM : Addr) (cs : List Addr) : List Addr → Nat → Bool
 | [], _ => true
 | C :: r, i => (xcB K C && (exB K CB CM C (Nat.blt i 27) && (kdB K CB CM C (Nat.blt i 27) && rowB K C i cs 0))) && all76 K CB CM cs r (i + 1)
end
end RW
namespace My
open PySem PySem.Spec PyProof.Rows L2 RW
def topS (i : Nat) : Stmt := PySem.Challenge.pw_boughlaws_k76_refusals_apart.main.body.getD i (.Pass ⟨0, 0, 0, 0⟩)
abbrev sPull : Stmt := topS 38
abbrev sBag : Stmt := topS 37
abbrev sSame : Stmt := topS 39
abbrev sFlags : Stmt := topS 40
abbrev sKinds : Stmt := topS 45
abbrev sEarly : Stmt := topS 42
abbrev sMiddle : Stmt := topS 43
abbrev sLate : Stmt := topS 44
abbrev sWords : Stmt := topS 41
abbrev sLaw : Stmt := topS 46
abbrev sI_BoughError : Stmt := metOf (topS 1) 0
abbrev sI_Missing : Stmt := metOf (topS 2) 0
abbrev sI_Stopped : Stmt := metOf (topS 28) 0
inductive TopFx (w : World) (K : W.Frag) : Prop
 | mk {f9 C_BoughError C_Missing C_BadName C_BadOperation C_BadTree C_BadCount C_BadLeaf C_BadPlace C_BadMany C_BadText C_Uneven C_Strange C_Idle C_Bare C_Taken C_InUse C_Full C_Lacking C_Unlike C_Unjoined C_NotKept C_Breaks C_Wide C_NotTwos C_BadRow C_BadPlaces C_BadDeed C_Stopped C_BadPage C_NoOperation C_NoRule C_NoKind C_NoBridge C_NoWatch C_NothingLeft f_BoughError f_Missing N_Stopped f_Stopped : Addr} {od9 an9 od_BoughError an_BoughError od_Missing an_Missing dd_Stopped od_Stopped an_Stopped : Option Addr} {sl9 sl_BoughError sl_Missing sl_Stopped : Array (Option Value)} {oc9 kV9 dc9 pm9 ct9 cd9 oc_BoughError kV_BoughError dc_BoughError pm_BoughError ct_BoughError cd_BoughError oc_Missing kV_Missing dc_Missing pm_Missing ct_Missing cd_Missing oc_Stopped kV_Stopped dc_Stopped pm_Stopped ct_Stopped cd_Stopped : Value} {nm_Stopped q_Stopped : Str} {bs_Stopped bm_Stopped sub_Stopped : List Value} {sn_Stopped : List Str} {ab_Stopped : Bool} {col_Stopped : Option Bool} {z0_Stopped z1_Stopped z2_Stopped z3_Stopped z5_Stopped : Option Value}
  (d0 : Gfd K "_law_bag" "_law_bag" sBag)
  (d1 : Gfd K "_law_pull" "_law_pull" sPull)
  (d2 : Gfd K "_law_same" "_law_same" sSame)
  (d3 : Gfd K "_law_flags" "_law_flags" sFlags)
  (d4 : Gfd K "_law_kinds_of" "_law_kinds_of" sKinds)
  (d5 : Gfd K "_law_words" "_law_words" sWords)
  (d6 : Gfd K "_law_early" "_law_early" sEarly)
  (d7 : Gfd K "_law_middle" "_law_middle" sMiddle)
  (d8 : Gfd K "_law_late" "_law_late" sLate)
  (a9 : W.nsIn K mainGlobals "law" = some (some (.ref f9)))
  (l9 : K.lookup f9 = some ⟨oc9, od9, .func (W.fnOf "law" "law" (defArgs sLaw) (defBody sLaw) (defScope sLaw) .none kV9 dc9 pm9 an9 cd9 ct9), sl9⟩)
  (c9 : W.codeIn K cd9 "law" = true)
  (k9 : W.keepIn K (.ref f9) = true)
  (n_ValueError : W.nsIn K mainGlobals "ValueError" = some none)
  (n_LookupError : W.nsIn K mainGlobals "LookupError" = some none)
  (n_list : W.nsIn K mainGlobals "list" = some none)
  (n_len : W.nsIn K mainGlobals "len" = some none)
  (n_isinstance : W.nsIn K mainGlobals "isinstance" = some none)
  (n_bool : W.nsIn K mainGlobals "bool" = some none)
  (n_int : W.nsIn K mainGlobals "int" = some none)
  (n_str : W.nsIn K mainGlobals "str" = some none)
  (n_tuple : W.nsIn K mainGlobals "tuple" = some none)
  (n_all : W.nsIn K mainGlobals "all" = some none)
  (n_range : W.nsIn K mainGlobals "range" = some none)
  (g_BoughError : W.nsIn K mainGlobals "BoughError" = some (some (.ref C_BoughError)))
  (g_Missing : W.nsIn K mainGlobals "Missing" = some (some (.ref C_Missing)))
  (g_Stopped : W.nsIn K mainGlobals "Stopped" = some (some (.ref C_Stopped)))
  (vL : W.findCls K (.type "LookupError") (.type "type") "__init__" = some (.val (.builtin "LookupError.__init__")))
  (vV : W.findCls K (.type "ValueError") (.type "type") "__init__" = some (.val (.builtin "ValueError.__init__")))
  (rd_BoughError : W.readsIn K C_BoughError (.type "type") = true)
  (gt_BoughError : W.specialIn K (.ref C_BoughError) "__getattribute__" = some (some (.builtin "type.__getattribute__")))
  (fc_BoughError : W.findCls K (.ref C_BoughError) (.type "type") "__init__" = some (.val (.ref f_BoughError)))
  (l_BoughError : K.lookup f_BoughError = some ⟨oc_BoughError, od_BoughError, .func (W.fnOf "__init__" "BoughError.__init__" (defArgs sI_BoughError) (defBody sI_BoughError) (defScope sI_BoughError) .none kV_BoughError dc_BoughError pm_BoughError an_BoughError cd_BoughError ct_BoughError), sl_BoughError⟩)
  (c_BoughError : W.codeIn K cd_BoughError "BoughError.__init__" = true)
  (k_BoughError : W.keepIn K (.ref f_BoughError) = true)
  (rd_Missing : W.readsIn K C_Missing (.type "type") = true)
  (gt_Missing : W.specialIn K (.ref C_Missing) "__getattribute__" = some (some (.builtin "type.__getattribute__")))
  (fc_Missing : W.findCls K (.ref C_Missing) (.type "type") "__init__" = some (.val (.ref f_Missing)))
  (l_Missing : K.lookup f_Missing = some ⟨oc_Missing, od_Missing, .func (W.fnOf "__init__" "Missing.__init__" (defArgs sI_Missing) (defBody sI_Missing) (defScope sI_Missing) .none kV_Missing dc_Missing pm_Missing an_Missing cd_Missing ct_Missing), sl_Missing⟩)
  (c_Missing : W.codeIn K cd_Missing "Missing.__init__" = true)
  (k_Missing : W.keepIn K (.ref f_Missing) = true)
  (x_BadName : ExR K "BadName" "BadName.__init__" (metOf (topS 3) 0) C_BadName ["name", "word"])
  (x_BadOperation : ExR K "BadOperation" "BadOperation.__init__" (metOf (topS 4) 0) C_BadOperation ["at", "word"])
  (x_BadTree : ExR K "BadTree" "BadTree.__init__" (metOf (topS 5) 0) C_BadTree ["at", "word"])
  (x_BadCount : ExR K "BadCount" "BadCount.__init__" (metOf (topS 6) 0) C_BadCount ["at", "word"])
  (x_BadLeaf : ExR K "BadLeaf" "BadLeaf.__init__" (metOf (topS 7) 0) C_BadLeaf ["word"])
  (x_BadPlace : ExR K "BadPlace" "BadPlace.__init__" (metOf (topS 8) 0) C_BadPlace ["word"])
  (x_BadMany : ExR K "BadMany" "BadMany.__init__" (metOf (topS 9) 0) C_BadMany ["word"])
  (x_BadText : ExR K "BadText" "BadText.__init__" (metOf (topS 10) 0) C_BadText ["at", "word"])
  (x_Uneven : ExR K "Uneven" "Uneven.__init__" (metOf (topS 11) 0) C_Uneven ["at", "word"])
  (x_Strange : ExR K "Strange" "Strange.__init__" (metOf (topS 12) 0) C_Strange ["operation", "word"])
  (x_Idle : ExR K "Idle" "Idle.__init__" (metOf (topS 13) 0) C_Idle ["word"])
  (x_Bare : ExR K "Bare" "Bare.__init__" (metOf (topS 14) 0) C_Bare ["word"])
  (x_Taken : ExR K "Taken" "Taken.__init__" (metOf (topS 15) 0) C_Taken ["name", "word"])
  (x_InUse : ExR K "InUse" "InUse.__init__" (metOf (topS 16) 0) C_InUse ["name", "word"])
  (x_Full : ExR K "Full" "Full.__init__" (metOf (topS 17) 0) C_Full ["word"])
  (x_Lacking : ExR K "Lacking" "Lacking.__init__" (metOf (topS 18) 0) C_Lacking ["operation", "word"])
  (x_Unlike : ExR K "Unlike" "Unlike.__init__" (metOf (topS 19) 0) C_Unlike ["operation", "word"])
  (x_Unjoined : ExR K "Unjoined" "Unjoined.__init__" (metOf (topS 20) 0) C_Unjoined ["word"])
  (x_NotKept : ExR K "NotKept" "NotKept.__init__" (metOf (topS 21) 0) C_NotKept ["name", "word"])
  (x_Breaks : ExR K "Breaks" "Breaks.__init__" (metOf (topS 22) 0) C_Breaks ["name", "word"])
  (x_Wide : ExR K "Wide" "Wide.__init__" (metOf (topS 23) 0) C_Wide ["word"])
  (x_NotTwos : ExR K "NotTwos" "NotTwos.__init__" (metOf (topS 24) 0) C_NotTwos ["word"])
  (x_BadRow : ExR K "BadRow" "BadRow.__init__" (metOf (topS 25) 0) C_BadRow ["at", "word"])
  (x_BadPlaces : ExR K "BadPlaces" "BadPlaces.__init__" (metOf (topS 26) 0) C_BadPlaces ["word"])
  (x_BadDeed : ExR K "BadDeed" "BadDeed.__init__" (metOf (topS 27) 0) C_BadDeed ["word"])
  (x_Stopped : K.lookup C_Stopped = some (excClassObj nm_Stopped q_Stopped C_Stopped N_Stopped bs_Stopped bm_Stopped true sn_Stopped sub_Stopped ab_Stopped col_Stopped dd_Stopped z0_Stopped z1_Stopped z2_Stopped z3_Stopped z5_Stopped "ValueError.__new__"))
  (r_Stopped : PySem.HandSPX.refsVE bm_Stopped = true)
  (sa_Stopped : W.findIn K (.ref C_Stopped) "__setattr__" = some (some (.builtin "object.__setattr__")))
  (ga_Stopped : W.findIn K (.ref C_Stopped) "__getattribute__" = some (some (.builtin "BaseException.__getattribute__")))
  (gg_Stopped : W.findIn K (.ref C_Stopped) "__getattr__" = some none)
  (nw_Stopped : W.findIn K (.ref C_Stopped) "word" = some none)
  (nf_Stopped_at : W.findIn K (.ref C_Stopped) "at" = some none)
  (nf_Stopped_why : W.findIn K (.ref C_Stopped) "why" = some none)
  (i_Stopped : W.findIn K (.ref C_Stopped) "__init__" = some (some (.ref f_Stopped)))
  (t_Stopped : W.typeIn K (.ref f_Stopped) = some (.type "function"))
  (l_Stopped : K.lookup f_Stopped = some ⟨oc_Stopped, od_Stopped, .func (W.fnOf "__init__" "Stopped.__init__" (defArgs sI_Stopped) (defBody sI_Stopped) (defScope sI_Stopped) .none kV_Stopped dc_Stopped pm_Stopped an_Stopped cd_Stopped ct_Stopped), sl_Stopped⟩)
  (c_Stopped : W.codeIn K cd_Stopped "Stopped.__init__" = true)
  (k_Stopped : W.keepIn K (.ref f_Stopped) = true)
  (kC_Stopped : W.keepIn K (.ref C_Stopped) = true)
  (eC_Stopped : W.subIn K (.ref C_Stopped) (.type "BaseException") = some true)
  (tC_Stopped : W.typeIn K (.ref C_Stopped) = some (.type "type"))
  (hC_Stopped : W.hasDictIn K C_Stopped = true)
  (x_BadPage : ExR K "BadPage" "BadPage.__init__" (metOf (topS 29) 0) C_BadPage ["at", "word"])
  (x_NoOperation : ExRL K "NoOperation" "NoOperation.__init__" (metOf (topS 30) 0) C_NoOperation ["operation", "word"])
  (x_NoRule : ExRL K "NoRule" "NoRule.__init__" (metOf (topS 31) 0) C_NoRule ["name", "word"])
  (x_NoKind : ExRL K "NoKind" "NoKind.__init__" (metOf (topS 32) 0) C_NoKind ["name", "word"])
  (x_NoBridge : ExRL K "NoBridge" "NoBridge.__init__" (metOf (topS 33) 0) C_NoBridge ["name", "word"])
  (x_NoWatch : ExRL K "NoWatch" "NoWatch.__init__" (metOf (topS 34) 0) C_NoWatch ["name", "word"])
  (x_NothingLeft : ExRL K "NothingLeft" "NothingLeft.__init__" (metOf (topS 35) 0) C_NothingLeft ["word"])
  (cH76 : all76 K C_BoughError C_Missing [C_BadName, C_BadOperation, C_BadTree, C_BadCount, C_BadLeaf, C_BadPlace, C_BadMany, C_BadText, C_Uneven, C_Strange, C_Idle, C_Bare, C_Taken, C_InUse, C_Full, C_Lacking, C_Unlike, C_Unjoined, C_NotKept, C_Breaks, C_Wide, C_NotTwos, C_BadRow, C_BadPlaces, C_BadDeed, C_Stopped, C_BadPage, C_NoOperation, C_NoRule, C_NoKind, C_NoBridge, C_NoWatch, C_NothingLeft] [C_BadName, C_BadOperation, C_BadTree, C_BadCount, C_BadLeaf, C_BadPlace, C_BadMany, C_BadText, C_Uneven, C_Strange, C_Idle, C_Bare, C_Taken, C_InUse, C_Full, C_Lacking, C_Unlike, C_Unjoined, C_NotKept, C_Breaks, C_Wide, C_NotTwos, C_BadRow, C_BadPlaces, C_BadDeed, C_Stopped, C_BadPage, C_NoOperation, C_NoRule, C_NoKind, C_NoBridge, C_NoWatch, C_NothingLeft] 0 = true) : TopFx w K
set_option maxHeartbeats 0 in
theorem topFx (w : World) : TopFx w (topHead.heap_39 w.params) := by
 apply TopFx.mk
 all_goals (try first
 | (apply RW.Gfd.of; (case a => k_is); (case l => k_is); (case c => k_is); (case k => k_is))
 | (apply RW.GfA.of; (case a => k_is); (case l => k_is); (case c => k_is); (case k => k_is))
 | (apply RW.Mfd.of; (case a => k_is); (case l => k_is); (case i => k_is); (case c => k_is); (case k => k_is))
 | (apply RW.OwR.of; (case g => k_is); (case h1 => k_is); (case h2 => k_is); (case h3 => k_is); (case h4 => k_is); (case mk => k_is); (case kC => k_is); (case nf => repeat (first | exact RW.NfL.n | (apply RW.NfL.c; (case h => k_is)))))
 | (apply RW.CuR.mk; (case b => k_is); (case c => k_is); (case t => k_is))
 | (apply RW.ExR.of; (case g => k_is); (case e => k_is); (case r => first | k_is | decide +kernel); (case sa => k_is); (case ga => k_is); (case gg => k_is); (case i => k_is); (case t => k_is); (case l => k_is); (case c => k_is); (case k => k_is); (case kC => k_is); (case eC => k_is); (case tC => k_is); (case hC => k_is); (case nf => repeat (first | exact RW.NfL.n | (apply RW.NfL.c; (case h => k_is)))))
 | (apply RW.ExRL.of; (case g => k_is); (case e => k_is); (case r => first | k_is | decide +kernel); (case sa => k_is); (case ga => k_is); (case gg => k_is); (case i => k_is); (case t => k_is); (case l => k_is); (case c => k_is); (case k => k_is); (case kC => k_is); (case eC => k_is); (case tC => k_is); (case hC => k_is); (case nf => repeat (first | exact RW.NfL.n | (apply RW.NfL.c; (case h => k_is)))))
 | k_is | decide +kernel | kernel_rfl)
end My
namespace RW
open PySem PySem.Spec PyProof.Rows L2
def SqN (K : PySem.W.Frag) (H : Hp) (a : Addr) (xs : List V) : Prop :=
 (∃ o : Obj, H a = some (.frz o (.tup xs)) ∧ o.dict = none) ∨
  ∃ (o : Obj) (its : Array Value) (n : Nat), K.lookup a = some o ∧ o.cls = .type "tuple" ∧ o.data = .seq its n ∧ its.size ≤ sizeLine ∧ Vals xs its.toList ∧ o.dict = none
theorem SqN.sqT {K : PySem.W.Frag} {H : Hp} {a : Addr} {xs : List V} (h : SqN K H a xs) : SqT K H a xs := by
 rcases h with ⟨o, h, _⟩ | ⟨o, its, n, h1, h2, h3, h4, h5, _⟩
 · exact .inl (.inr ⟨o, h⟩)
 · exact .inr ⟨o, its, n, h1, h2, h3, h4, h5⟩
theorem SqN.same {K : PySem.W.Frag} {H H' : Hp} (s : Same H H') {a : Addr} {xs : List V} (h : SqN K H a xs) : SqN K H' a xs := by
 rcases h with ⟨o, h, e⟩ | h
 · exact .inl ⟨o, s _ _ h, e⟩
 · exact .inr h
def TNew (H : Hp) (xs : List V) (Q : VK) : Prop := ∀ (p : Addr) (o : Obj), H p = none → o.dict = none → Q (.ref p) (upd H p (.frz o (.tup xs)))
section
variable {X : Cx} {pins : List (Addr × Obj)} {σ : L2.St} {H : Hp} {s : Shared} {Q : VK} {pos : Pos} {es : List Expr} {t : TA}
theorem lay_tup {us : List Value} {xs : List V} (I : Inv X pins σ H s) (r : Vals xs us) (z : xs.length ≤ sizeLine) (q : TNew H xs Q) : EP X pins σ Q (.ref s.heap.objs.size) { s with heap := s.heap.push { cls := .type "tuple", data := .seq us.toArray } } := by
 refine ⟨.ref s.heap.objs.size, upd H s.heap.objs.size (.frz { cls := .type "tuple", data := .seq us.toArray } (.tup xs)), I.laid (t' := s.toks) (fun b u e => Heap.get?_push_of_some _ e) (Nat.le_refl _) ?_, rfl, q _ _ (I.hok.fresh (Nat.le_refl _)) rfl⟩
 exact ⟨Heap.get?_push_size _ rfl, z, us, r, ⟨_, Heap.get?_push_size _ rfl, rfl, _, rfl⟩⟩
def tTupN (t : TA) : TE := fun σ H Q => t σ H fun xs H1 => xs.length ≤ sizeLine ∧ TNew H1 xs Q
theorem pe_tupN {x1} (h : PA X es t) : PE X (.Tuple es x1 pos) (tTupN t) := by
 refine ⟨fun pins s σ H Q I hq => ?_⟩
 refine wpAny_Tuple_spliced (thn (h.run pos pins s σ H _ I hq) fun us s1 ⟨xs, H1, I1, r, z, q⟩ => ⟨by rw [← r.length]; exact z, ?_⟩)
 exact lay_tup I1 r z q
def rCatN (K : PySem.W.Frag) : R2 := fun x y H Q => ∃ a b xs ys, x = .ref a ∧ y = .ref b ∧ SqT K H a xs ∧ SqT K H b ys ∧ xs.length + ys.length ≤ sizeLine ∧
 (xs = [] → Q (.ref b) H) ∧ (xs ≠ [] → ys = [] → Q (.ref a) H) ∧ (xs ≠ [] → ys ≠ [] → TNew H (xs ++ ys) Q)
theorem op_catN : OpR X (binaryOp .Add) (rCatN X.K) := by
 intro pins s σ H x y v u Q I rx ry h
 obtain ⟨a, b, xs, ys, rfl, rfl, ha, hb, hz, q0, q1, q2⟩ := h
 cases rx
 cases ry
 obtain ⟨its, r1, p1, _⟩ := I.tuple ha
 obtain ⟨its2, r2, p2, _⟩ := I.tuple hb
 by_cases hx : xs = []
 · subst hx
   cases r1
   exact cat_tup0 p1 p2 ⟨.ref b, H, I, rfl, q0 rfl⟩
 · refine HT.cat_tup p1 p2 (fun z => hx (r1.nil_iff.mp z)) (fun z => ⟨.ref a, H, I, rfl, q1 hx (r2.nil_iff.mp z)⟩) (fun z => ?_) (by rw [← r1.length, ← r2.length]; exact hz)
   exact lay_tup (us := its ++ its2) I (r1.append r2) (by rw [lnA]; exact hz) (q2 hx fun w => z (r2.nil_iff.mpr w))
def rSlN (K : PySem.W.Frag) : V → Option Int → Option Int → Hp → VK → Prop := fun x lo hi H Q => ∃ a xs, x = .ref a ∧ SqT K H a xs ∧
 (HT.sIx xs.length 0 lo = 0 ∧ HT.sIx xs.length xs.length hi = xs.length → Q (.ref a) H) ∧ (¬ (HT.sIx xs.length 0 lo = 0 ∧ HT.sIx xs.length xs.length hi = xs.length) → TNew H (cutV xs lo hi) Q)
theorem sl_tupN : SlR X (rSlN X.K) := by
 intro pins s σ H x v vl vu lo hi sl Q I rx hs pl pu h
 obtain ⟨a, xs, rfl, hx, q1, q2⟩ := h
 cases rx
 obtain ⟨its, r, ht, hz⟩ := I.tuple hx
 have hlen : its.toArray.size = xs.length := by rw [List.size_toArray]; exact r.length.symm
 refine ⟨"tuple", _, PyProof.Rows.slot_tuple_getitem.lookup, ht.typeIs, ?_⟩
 by_cases hw : HT.sIx xs.length 0 lo = 0 ∧ HT.sIx xs.length xs.length hi = xs.length
 · exact getItem_tuple_whole ht hs pl pu (by rw [hlen]; exact hw) ⟨.ref a, H, I, rfl, q1 hw⟩
 · refine HT.getItem_tuple_cut ht hs pl pu (by rw [hlen]; exact hw) ?_ (by rw [hlen]; exact hz)
   rw [hlen]
   exact lay_tup I ((r.drop (HT.sIx xs.length 0 lo)).take (HT.sIx xs.length xs.length hi - HT.sIx xs.length 0 lo)) (Nat.le_trans (cutV_length xs lo hi) hz) (q2 hw)
def rRepN (K : PySem.W.Frag) : R2 := fun x y H Q => ∃ l k xs, x = .ref l ∧ y = .int k ∧ SqT K H l xs ∧ xs ≠ [] ∧ 2 ≤ k ∧ k ≤ 1000 ∧ xs.length ≤ 1000 ∧ TNew H (List.replicate k.toNat xs).flatten Q
theorem op_repN : OpR X (binaryOp .Mult) (rRepN X.K) := by
 intro pins s σ H x y v u Q I rx ry h
 obtain ⟨l, k, xs, rfl, rfl, hT, hne, h1, h2, hz, q⟩ := h
 cases rx
 obtain ⟨t, rfl⟩ := ry
 obtain ⟨its, r, ⟨⟨cls, dd, data, sl⟩, ho, hc, n, hd⟩, hs⟩ := I.tuple hT
 simp only at hc hd
 subst hc hd
 have hle : its.length = xs.length := r.length.symm
 have hn : its ≠ [] := fun e => hne (by
  rw [e] at hle
  exact List.eq_nil_of_length_eq_zero hle.symm)
 have hi : its.toArray.isEmpty = false := by
  cases its with
  | nil => exact absurd rfl hn
  | cons a b => rfl
 have hsz0 : its.toArray.size = xs.length := by rw [List.size_toArray, hle]
 have hm : ((its.toArray.size : Nat) : Int) * k ≤ 1000000 := by
  rw [hsz0]
  have a1 : ((xs.length : Nat) : Int) * k ≤ 1000 * k := Int.mul_le_mul_of_nonneg_right (by omega) (by omega)
  omega
 have flen : (List.replicate k.toNat its).flatten.length ≤ sizeLine := by
  rw [PyProof.Rows.lm_len_rep_flat, hle, sizeLine_eq]
  have a1 : k.toNat * xs.length ≤ 1000 * 1000 := Nat.mul_le_mul (by omega) hz
  omega
 have c0 : (decide (k < -(2 ^ 63)) || decide (k ≥ 2 ^ 63)) = false := by
  rw [decide_eq_false (by omega), decide_eq_false (by omega)] <;> rfl
 have c1 : (its.toArray.isEmpty || k == 1) = false := by
  rw [hi, Bool.false_or]
  exact beq_eq_false_iff_ne.mpr (by omega)
 have c2 : (decide (k ≤ 0) || its.toArray.isEmpty) = false := by
  rw [hi, Bool.or_false]
  exact decide_eq_false (by omega)
 have c4 : Builtin.Tuple.tupleTooMany (((its.toArray.size : Nat) : Int) * k) = false := by
  unfold Builtin.Tuple.tupleTooMany
  rw [sizeLine_eq]
  exact decide_eq_false (by omega)
 refine wpAny_binaryOp_repeat_ref (T := "tuple") (U := "int") (by decide) ⟨_, ho, rfl⟩ (fun s' => typeIs_int s' k t) noFill_tuple_mul F.fills_int_mul F.slot_int_rmul repeat_tuple F.slot_int_index.lookup
  (call_meets F.slot_int_rmul (typeIs_int s k t) F.entry_int_rmul (F.args_int_rmul_2 _ _) (int_rmul_tuple k t l its.toArray n dd sl)
   ⟨ho, rfl, ⟨_, ho, rfl⟩, call_meets F.slot_tuple_mul ⟨_, ho, rfl⟩ F.entry_tuple_mul (F.args_tuple_mul_2 _ _) (tuple_mulW l its.toArray n dd sl k t c0 c1 c2 (by omega) c4 (by rw [size_rep, List.size_toArray]; exact flen)) ⟨ho, ?_⟩⟩)
 rw [size_rep]
 exact lay_tup I (r.rep k.toNat) (by rw [PyProof.Rows.lm_len_rep_flat, sizeLine_eq]; have a1 : k.toNat * xs.length ≤ 1000 * 1000 := Nat.mul_le_mul (by omega) hz; omega) q
theorem tupN_at {a : Addr} {xs : List V} (I : Inv X pins σ H s) (h : SqN X.K H a xs) : ∃ (its : List Value) (o : Obj) (n : Nat), Vals xs its ∧ s.heap.get? a = some o ∧ o.cls = .type "tuple" ∧ o.data = .seq its.toArray n ∧ o.dict = none ∧ xs.length ≤ sizeLine := by
 rcases h with ⟨o, h, hd⟩ | ⟨o, its, n, h1, h2, h3, h4, h5, h6⟩
 · obtain ⟨e, z, its, r, o', e', hc, n, hs⟩ := I.hok a _ h
   rw [e] at e'
   cases e'
   exact ⟨its, o, n, r, e, hc, hs, hd, z⟩
 · exact ⟨its.toList, o, n, h5, I.kIn a o h1, h2, by rw [h3], h6, by rw [h5.length, Array.length_toList]; exact h4⟩
end
end RW
namespace RW
open PySem PySem.Spec PyProof.Rows L2 HotX
inductive Lnk : Value → List (Addr × Obj) → Prop
 | nil : Lnk .none []
 | cons {b : Addr} {o : Obj} {vs : Array Value} {v : Value} {l : List (Addr × Obj)} : o.data = .fields vs → vs[2]? = some v → Lnk v l → Lnk (.ref b) ((b, o) :: l)
def Chn (B : Heap) (H : Hp) (v : Value) : Prop := ∃ l, Lnk v l ∧ ∀ p ∈ l, B.get? p.1 = some p.2 ∧ H p.1 = none
theorem Lnk.data : ∀ {v : Value} {l : List (Addr × Obj)}, Lnk v l → ∀ p ∈ l, ∃ vs, p.2.data = .fields vs
 | _, _, .nil, _, h => nomatch h
 | _, _, .cons d _ r, p, h => by
   rcases mCq.mp h with e | h
   · rw [e]; exact ⟨_, d⟩
   · exact r.data p h
theorem Chn.nil {B : Heap} {H : Hp} : Chn B H .none := ⟨[], .nil, fun _ h => nomatch h⟩
def Zk (B : Heap) (H : Hp) (cls : Value) (d : Option Addr) : Obj → Prop := fun o => o.cls = cls ∧ o.dict = d ∧ ∀ vs, o.data = .fields vs → ∃ v, vs[2]? = some v ∧ Chn B H v
theorem Zk.zc {B : Heap} {H : Hp} {cls : Value} {d : Option Addr} {o : Obj} (h : Zk B H cls d o) : Zc cls d o := ⟨h.1, h.2.1⟩
theorem set1_2 (vs : Array Value) (v : Value) : (vs.setIfInBounds 1 v)[2]? = vs[2]? := by
 first
 | exact Array.getElem?_setIfInBounds_ne (by decide)
 | simp [Array.getElem?_setIfInBounds]
theorem Zk.steady {B : Heap} {H : Hp} {cls : Value} {d : Option Addr} : PXN.Steady1 (Zk B H cls d) := fun o v h =>
 ⟨PXN.steady_cls o v h.1, PXN.steady_dict o v h.2.1, by
  obtain ⟨_, _, h3⟩ := h
  obtain ⟨c, dd, dt, sl⟩ := o
  intro vs e
  cases dt with
  | fields vs0 =>
    obtain ⟨x, h1, h2⟩ := h3 vs0 rfl
    have e2 : vs0.setIfInBounds 1 v = vs := Data.fields.inj e
    exact ⟨x, by rw [← e2, set1_2]; exact h1, h2⟩
  | _ => first | exact Data.noConfusion e | cases e⟩
theorem Zk.new {B : Heap} {H : Hp} {cls : Value} {d : Option Addr} {o : Obj} (h : L2N.Zn cls d o) : Zk B H cls d o := ⟨h.1, h.2.1, fun vs e => ⟨_, h.2.2 vs e, .nil⟩⟩
def fr (X : Cx) : Addr := X.env.frame.getD X.env.locals
theorem fr_eq {X : Cx} (hf : X.env.frame = some X.env.locals) : fr X = X.env.locals := by unfold fr; rw [hf]; rfl
def XE (X : Cx) (W : WX) (u : Value) (s' : Shared) : Prop :=
 ∃ (x : Addr) (B : Heap) (s1 : Shared) (pns : List (Addr × Obj)) (τ : L2.St) (H1 : Hp) (c : Value) (dx : Option Addr),
   u = .ref x ∧ Inv X pns τ H1 s1 ∧ (∀ b o, s1.heap.get? b = some o → b ∉ frs X.stack → B.get? b = some o) ∧ s1.heap.UpToSlots s'.heap ∧
     Sky B X.stack x (Zk B H1 c dx) (fr X) s'.heap ∧ H1 x = none ∧ s'.os = s1.os ∧ AllBare s'.gens ∧ W c dx τ H1
def Takes (X : Cx) (W : WX) : Prop := ∀ u s', XE X W u s' → X.xe u s'
theorem takes_none5 {X : Cx} : Takes X (fun _ _ _ _ => False) := fun _ _ ⟨_, _, _, _, _, _, _, _, _, _, _, _, _, _, _, _, w⟩ => w.elim
def KX (P : Program) (w : World) (outer : List Env) (H : Hp) (s : Shared) (E : XK) (u : Value) (s' : Shared) : Prop :=
 ∃ (x : Addr) (B : Heap) (H1 : Hp) (c : Value) (dx : Option Addr), u = .ref x ∧ HandSPX.FlyingZ B outer x (Zk B H1 c dx) s'.heap ∧ HOk P w H1 B ∧ UB (frs outer) H H1 s.heap B s'.heap ∧ H1 x = none ∧ s'.os = s.os ∧ AllBare s'.gens ∧ E c dx H1
section
variable {X : Cx} {pins : List (Addr × Obj)} {σ : L2.St} {H : Hp} {sI s s' : Shared} {W : WX} {E : XK}
theorem XE.of_call (I : Inv X pins σ H s) (hW : ∀ cls d H', E cls d H' → W cls d σ H') {u : Value} (c : KX X.prog X.w X.stack H s E u s') : XE X W u s' := by
 obtain ⟨x, B, H1, cl, dx, rfl, fly, hok, ub, nx, os, ag, hE⟩ := c
 obtain ⟨G, inG, outG⟩ := restrict s'.heap fun b => (B.get? b).isSome || decide (b ∈ frs X.stack)
 have stays : B.StaysIn s'.heap := fly.1
 have BG : ∀ b o, B.get? b = some o → G.get? b = some o := fun b o e => by
  rw [inG b (by simp [e])]
  exact stays b o e
 have FG : ∀ b, b ∈ frs X.stack → G.get? b = s'.heap.get? b := fun b hb => inG b (by simp [hb])
 have GG : ∀ b o, G.get? b = some o → s'.heap.get? b = some o ∧ ((B.get? b).isSome = true ∨ b ∈ frs X.stack) := fun b o e => by
  cases t : ((B.get? b).isSome || decide (b ∈ frs X.stack)) with
  | false => rw [outG b t] at e; cases e
  | true =>
    rw [inG b t] at e
    exact ⟨e, by simpa [Bool.or_eq_true] using t⟩
 refine ⟨x, B, { s with heap := G, gens := s'.gens, drawn := s'.drawn, toks := s'.toks }, pins, σ, H1, cl, dx, rfl, ?_, fun b o e hb => ?_, Heap.UpToSlots.of_keeps fun b o e => (GG b o e).1, .inr (.inl fly), nx, os, ag, hW _ _ _ hE⟩
 · refine I.call (ch := []) ⟨fun b o e n hb _ => BG b o (ub.keep b o e n hb), fun b o e n hb _ => ?_, fun b o e n _ => ub.free b o e n, fun b o e _ => ?_, ub.tups, ub.frzs, ub.tbls⟩ (hok.kept BG) ag (fun _ z => nomatch z)
   · obtain ⟨sl, t⟩ := ub.slot b o e hb
     exact ⟨sl, by rw [FG b hb]; exact t⟩
   · by_cases hb : b ∈ frs X.stack
     · obtain ⟨sl, t⟩ := ub.slot b o e hb
       exact ⟨_, by rw [FG b hb]; exact t⟩
     · obtain ⟨o', t⟩ := ub.there b o e hb
       exact ⟨o', BG b o' t⟩
 · obtain ⟨e', h⟩ := GG b o e
   rcases h with h | h
   · obtain ⟨o', t⟩ := Option.isSome_iff_exists.mp h
     have z := stays b o' t
     rw [e'] at z; cases z
     exact t
   · exact absurd h hb
theorem XE.new {a : Addr} {oe : Obj} {vs : Array Value} {cls : Value} {d : Option Addr} (I : Inv X pins σ H sI) (k : ∀ b o, sI.heap.get? b = some o → s'.heap.get? b = some o) (hne : sI.heap.get? a = none) (he : s'.heap.get? a = some oe)
  (hz : Zk (PySem.W.hideAll sI.heap (frs X.stack)) H cls d oe) (hd : oe.data = .fields vs) (h1 : vs[1]? = some .none) (na : H a = none) (os : s'.os = sI.os) (ag : AllBare s'.gens) (w : W cls d σ H) : XE X W (.ref a) s' := by
 refine ⟨a, _, sI, pins, σ, H, cls, d, rfl, I, fun b o e hb => PySem.W.hideAll_get _ e hb, Heap.UpToSlots.of_keeps k, .inl ⟨fun b o e => k b o (PySem.W.of_hideAll _ e), ?_, ?_, oe, vs, he, hz, hd, h1⟩, na, os, ag, w⟩
 · cases t : (PySem.W.hideAll sI.heap (frs X.stack)).get? a with
   | none => rfl
   | some o =>
     have z := PySem.W.of_hideAll _ t
     rw [hne] at z; cases z
 · exact Heap.FunFrames.of_keeps (fun b o e _ => ⟨o, k b o e, rfl⟩) (funFrames_none I.stack fun b hb => PySem.W.hideAll_none _ hb)
theorem XE.leave (hs : X.stack = X.env :: X.outer) (hf : X.env.frame = some X.env.locals) (hex : X.ex = []) {E₁ : Value → Shared → Prop} (hW : ∀ cls d σ H, W cls d σ H → E cls d H) {u : Value} (x : XE X W u s') :
  wpAny (model X.prog X.w) X.A (leaving X.env u) (fun _ s2 => KX X.prog X.w X.outer X.H_0 X.s_0 E u s2) E₁ s' := by
 obtain ⟨a, B, s1, pns, τ, H1, cls, d, rfl, I, nb, up, sky, na, os, ag, w⟩ := x
 have fra : X.A.frames = some (X.env :: X.outer) := by rw [I.ok.frames, hs]
 have out : ∀ b o, X.s_0.heap.get? b = some o → b ∉ X.fs → b ∉ frs X.stack := fun b o e hb hm => by
  rcases mCq.mp (I.stkSub b hm) with z | z
  · have l1 := Heap.lt_size e
    have l2 := I.ok.above
    rw [z] at l1
    exact absurd (nLL l1 l2) (Nat.lt_irrefl _)
  · exact hb z
 have nex : ∀ b, b ∉ X.ex := fun b hb => by rw [hex] at hb; cases hb
 have fin : ∀ h', HandSPX.FlyingZ B X.outer a (Zk B H1 cls d) h' → s'.heap.UpToSlots h' → KX X.prog X.w X.outer X.H_0 X.s_0 E (.ref a) { s' with heap := h' } := fun h' fl up2 => by
  refine ⟨a, B, H1, cls, d, rfl, fl, I.inGround nb, ⟨fun b o e n hb => nb b o (I.base.keep b o e n hb (nex b)) (out b o e hb), fun b o e hb => ?_, fun b o e n => I.base.free b o e n (nex b), fun b o e hb => ?_, I.base.tups, I.base.frzs, I.base.tbls⟩,
   na, os.trans I.os, ag, hW _ _ _ _ w⟩
  · obtain ⟨_, o1, e1, nf⟩ := I.ok.funs.mem hb
    rw [e] at e1; cases e1
    obtain ⟨_, g1⟩ := I.base.slot b o e (I.ok.frf b hb) hb (nex b)
    obtain ⟨_, g2⟩ := up b _ g1 nf
    obtain ⟨t, g3⟩ := up2 b _ g2 nf
    exact ⟨t, g3⟩
  · obtain ⟨o', e1⟩ := I.base.there b o e (nex b)
    exact ⟨o', nb b o' e1 (out b o e hb)⟩
 rw [hs, fr_eq hf] at sky
 rcases sky with ⟨hB, hn, hl, oe, vs, he, hz, hd, h1⟩ | fl | hd
 · exact PXN.leaving_firstZ Zk.steady fra hl hf he hB hn hd h1 hz fin
 · exact PXN.leaves_onZ Zk.steady fra hf fl fin
 · exact HandSPX.leaves_heldZ hf hd fin
theorem takes_of (hs : X.stack = X.env :: X.outer) (hf : X.env.frame = some X.env.locals) (hex : X.ex = []) {E₁ : Value → Shared → Prop}
  (hx : X.xe = fun e s' => wpAny (model X.prog X.w) X.A (leaving X.env e) (fun _ s2 => KX X.prog X.w X.outer X.H_0 X.s_0 E e s2) E₁ s') : Takes X (fun cls d _ H => E cls d H) := fun u s' x => by
 rw [hx]
 exact XE.leave (W := fun cls d _ H => E cls d H) (E := E) hs hf hex (fun _ _ _ _ h => h) x
theorem passes_call (tk : Takes X W) (hW : ∀ cls d σ H, E cls d H → W cls d σ H) : Passes (KX X.prog X.w) X E :=
 fun _ σ _ _ e s' I c => tk e s' (XE.of_call I (fun cls d H' h => hW cls d σ H' h) c)
theorem passAt {X : Cx} {W : WX} (tk : Takes X W) (σ : L2.St) : PassesAt (KX X.prog X.w) X σ (WE W σ) := fun _ _ _ e s' I c => tk e s' (XE.of_call I (fun _ _ _ h => h) c)
end
abbrev MkP := @L2N.MkP
def Six (u : Value) (s' : Shared) : Prop := ∀ (a : Addr) (oe : Obj) (vs : Array Value), u = .ref a → s'.heap.get? a = some oe → oe.data = .fields vs → 4 < vs.size
abbrev PMk := @L2N.PMk
theorem ps_raise {X : Cx} {W : WX} {e : Expr} {t : L2.St → Hp → XK → Prop} {pos : Pos} (hc : X.calm = true) (tk : Takes X W) (he : PMk X e t) : PS X (.Raise (some e) none pos) (fun _ σ H => t σ H fun cls d H' => W cls d σ H') := by
 refine ⟨fun pins s σ H D I h => ?_⟩
 show wpAny _ _ (do standAt pos; raiseStmt X.env (some (do let v ← eval e X.env; standAt pos; pure v)) none) _ _ _
 refine wpAny_bind (wpAny_standAt (raise_made (I.ok.hd hc) (wpAny_bind (wpAny_mono (he pins s σ H _ I h) (fun u s1 hu => wpAny_bind (wpAny_standAt (wpAny_pure ?_))) fun _ _ x => x))))
 obtain ⟨a, oe, vs, s0, H1, cls, d, rfl, J, k, new, ha, hz, hd, h1, na, os, ag, r, q⟩ := hu
 obtain ⟨r1, r2⟩ := r (model X.prog X.w) s1.heap (J.kIn.keeps k)
 exact ⟨a, oe, vs, cls, rfl, ha, hz.1, hd, h1, r1, r2, tk _ _ (XE.new J k new ha (.new hz) hd h1 na os ag q)⟩
theorem mk_end {X : Cx} {pins : List (Addr × Obj)} {σ : L2.St} {H1 H2 : Hp} {Q : XK} {hp hp2 h2 : Heap} {g1 g2 : Array GenState} {d1 d2 : Drawn} {t1 t2 : Nat} {os1 os2 : OsState} {a C d : Addr} {fs : List (Str × V)} (T : Raises X (.ref C)) (I1 : Inv X pins σ H1 ⟨hp, g1, d1, t1, os1⟩)
  (ha : hp.objs.size ≤ a) (k : ∀ b o, hp.get? b = some o → hp2.get? b = some o) (un : Un (frs X.stack) [] (upd H1 a (exo a C none)) H2 hp2 h2) (hok : HOk X.prog X.w H2 h2) (ho : os2 = os1) (hb : AllBare g2)
  (ea : H2 a = some (exo a C (some d))) (ed : H2 d = some (exd d fs)) (hd1 : H1 d = none) (q : Q (.ref C) (some d) (upd (del H2 a) d (.xd fs))) : MkP X pins σ Q (.ref a) ⟨h2, g2, d2, t2, os2⟩ ∧ Six (.ref a) ⟨h2, g2, d2, t2, os2⟩ := by
 obtain ⟨t0, G, J, kG, ge, hoe, na⟩ := mk_end0 (d2 := d2) (t2 := t2) I1 ha k un hok ho hb ea ed hd1
 refine ⟨⟨a, _, _, ⟨G, g2, d2, t2, os2⟩, _, .ref C, some d, rfl, J, kG, ge, hoe, ⟨rfl, rfl, fun vs e => by cases e; rfl⟩, rfl, rfl, na, rfl, hb, T, q⟩, fun b oe vs e z hd => ?_⟩
 cases e
 rw [show h2.get? a = some oe from z] at hoe
 cases hoe
 cases hd
 show (4 : Nat) < 6
 decide
structure FnO (P : Program) (w : World) (K : PySem.W.Frag) (mg : Str → Option Value) (base : Heap) (CX : CXT) (k : Nat) (f : Addr) (fd : FuncData) (ps : List Str) (sp : Sp) : Prop where
 len : ∀ vs H Q E, sp vs H Q E → vs.length = ps.length
 run : ∀ (A : Around) (outer : List Env) (s : Shared) (H : Hp) (args : Args) (us : List Value) (vs : List V) (Q : VK) (E : XK), L2H.RoomH k A → Env0 P w K mg base A outer s H → BindsTo s fd args (ps.zip us) → Vals vs us → sp vs H Q E →
  codeAny (model P w) A (.call (.ref f) args) (CR CX outer P w H s Q E) s
section
variable {P : Program} {w : World} {K : PySem.W.Frag} {mg : Str → Option Value} {base : Heap} {CX : CXT} {k : Nat} {f : Addr} {fd : FuncData} {ps : List Str} {sp : Sp}
theorem FnO.ok (F : FnO P w K mg base CX k f fd ps sp) : FnOk P w K mg base CX k f fd ps sp := ⟨F.len, fun A outer s H args us vs Q E hr => F.run A outer s H args us vs Q E (L2H.roomH_of hr)⟩
theorem FnO.mono {j : Nat} (F : FnO P w K mg base CX j f fd ps sp) (h : j ≤ k) : FnO P w K mg base CX k f fd ps sp := ⟨F.len, fun A outer s H args us vs Q E hr => F.run A outer s H args us vs Q E (hr.mono h)⟩
theorem fnO_of {x qual : Str} {st : Stmt} {N : List Str} (F : Fun K x qual st f fd) (S : FnScope N ps (defScope st)) (len : ∀ vs H Q E, sp vs H Q E → vs.length = ps.length)
  (hbody : ∀ (cdv : Value) (A : Around) (outer : List Env) (s : Shared) (H : Hp) (vs : List V) (Q : VK) (E : XK) (p : Addr × Obj), L2H.RoomH k (A.deeper (envOfC qual (defScope st) s.heap.objs.size f cdv)) → sp vs H Q E →
   ∃ t, PSs (L2H.cxH CX P w K mg base N qual (defScope st) f cdv A outer s H E p) (defBody st) t ∧ t { nx := fun _ H' => Q .non H', rt := Q } (L2.start N vs) H) : FnO P w K mg base CX (k + 1) f fd ps sp := by
 obtain ⟨oc, od, kV, doc, pm, an, cdv, ct, osl, rfl, lk, hcd⟩ := F.ex
 refine ⟨len, fun A outer s H args us vs Q E hr e0 hb r hsp => ?_⟩
 have hl := len _ _ _ _ hsp
 have inS : K.In s.heap := e0.mod.kin.keeps fun b o e => (e0.bs b o e).1
 have nofr : f ∉ frs outer := fun hm => by
  have z := (e0.funs.mem hm).1
  rw [e0.mod.kin _ _ lk] at z
  cases z
 have hpin : L2H.PinOk outer H s (f, _) := ⟨inS _ _ lk, (e0.bs f _ (e0.mod.kin _ _ lk)).2, nofr, fun v z => by cases z⟩
 have lim : s.heap.NoLimit := e0.mod.nolimit.keeps fun b o e => (e0.bs b o e).1
 have hkind : ∀ y ∈ ps.zip us, (defScope st).names.lookup y.1 = some .local ∨ ((defScope st).names.lookup y.1 = some .cell ∧ ((cellsFrom (s.heap.objs.size + 1) (defScope st).names []).lookup y.1).isSome = true) := fun y hy => by
  rcases S.par y.1 (List.of_mem_zip (show (y.1, y.2) ∈ _ from hy)).1 with q | q
  · exact .inl q
  · exact .inr ⟨q, PySem.W.cellsFrom_some _ _ _ (.inl q)⟩
 refine codeAny_call_function hr.depth (inS _ _ lk) rfl S.co S.gen rfl (PySem.W.codeRec_of inS hcd) (hb _ _ _ _ ?_)
 refine wpAny_newFunctionEnv_cells S.kind hkind fun env he s1 x => ?_
 subst he
 refine ⟨lim.keeps x.toInCall.keep, codeAny_func ?_⟩
 obtain ⟨t, ht, hq⟩ := hbody cdv A outer s H vs Q E (f, _) (hr.deeper _) hsp
 refine wpAny_mono (ht.run [] s1 (L2.start N vs) H _ (L2H.inv_startH S hpin e0 hl r x) hq) (fun fl s2 hs => ?_) fun e s2 hs => hs
 cases fl with
 | ret u =>
   obtain ⟨v, σ', H', J, rv, q⟩ := hs
   exact ⟨v, H', J.os, J.bare, J.base, J.hok, rv, q⟩
 | next =>
   obtain ⟨σ', H', J, q⟩ := hs
   exact ⟨V.non, H', J.os, J.bare, J.base, J.hok, rfl, q⟩
 | brk =>
   obtain ⟨_, _, _, q⟩ := hs
   exact q.elim
 | cont =>
   obtain ⟨_, _, _, q⟩ := hs
   exact q.elim
end
theorem fun_okK {P : Program} {w : World} {K : PySem.W.Frag} {mg : Str → Option Value} {base : Heap} {x qual : Str} {st : Stmt} {f : Addr} {fd : FuncData} {N ps : List Str} {k : Nat} {sp : Sp} (F : Fun K x qual st f fd) (S : FnScope N ps (defScope st)) (len : ∀ vs H Q E, sp vs H Q E → vs.length = ps.length)
  (hbody : ∀ (cdv : Value) (A : Around) (outer : List Env) (s : Shared) (H : Hp) (vs : List V) (Q : VK) (E : XK), Room k (A.deeper (envOfC qual (defScope st) s.heap.objs.size f cdv)) → sp vs H Q E →
   ∃ t, PSs (cxOf (KX P w) P w K mg base N qual (defScope st) f cdv A outer s H E) (defBody st) t ∧ t { nx := fun _ H' => Q .non H', rt := Q } (L2.start N vs) H) : FnOk P w K mg base (KX P w) (k + 1) f fd ps sp := by
 obtain ⟨oc, od, kV, doc, pm, an, cdv, ct, osl, rfl, lk, hcd⟩ := F.ex
 exact fn_of lk hcd S len fun A outer s H vs Q E hr hsp => hbody cdv A outer s H vs Q E hr hsp
section
variable {X : Cx} {CX : CXT} {k : Nat} {f : Addr} {fd : FuncData} {ps : List Str} {sp : Sp} {E : XK}
theorem run_fnO {pins : List (Addr × Obj)} {σ : L2.St} {H : Hp} {s : Shared} {Q : VK} {us : List Value} {vs : List V} {R : Value → Shared → Prop} (F : FnO X.prog X.w X.K X.mg X.base CX k f fd ps sp) (hr : L2H.RoomH k X.A) (hb : Binds X.K fd ps []) (hx : ∀ e s', CX X.stack H s E e s' → R e s')
  (I : Inv X pins σ H s) (r : Vals vs us) (h : sp vs H Q E) : wpAny (model X.prog X.w) X.A (call (.ref f) us) (EP X pins σ Q) R s := by
 have hl : us.length = ps.length := by rw [← r.length]; exact F.len _ _ _ _ h
 have b := hb s us I.kIn (by rw [apQ]; exact hl)
 rw [apQ] at b
 refine wpAny_call (codeAny_mono (F.run X.A X.stack s H ⟨us, []⟩ us vs Q E hr I.env0 b r h) fun r s2 hq => ?_)
 cases r with
 | error e => exact hx e s2 hq
 | ok fl =>
   cases fl with
   | ret u => exact I.after hq
   | next => exact hq.elim
   | brk => exact hq.elim
   | cont => exact hq.elim
end
section
variable {prog : Program} {w : World} {A : Around} {E : Value → Shared → Prop} {s : Shared}
structure HotL (A : Around) (x1 : Addr) (h : Heap) (L : List (Addr × Obj)) : Prop where
 hd : A.handled = some (.ref x1)
 lk : Lnk (.ref x1) L
 at_ : ∀ p ∈ L, h.get? p.1 = some p.2
theorem HotL.there {x1 : Addr} {h : Heap} {L : List (Addr × Obj)} (z : HotL A x1 h L) : ∃ o1 vs, h.get? x1 = some o1 ∧ o1.data = .fields vs := by
 obtain ⟨_, lk, at_⟩ := z
 cases lk with
 | cons d _ _ => exact ⟨_, _, at_ _ mcS, d⟩
end
def HotK (X : Cx) (x1 : Addr) (c1 : Value) : Prop := X.A.handled = some (.ref x1) ∧ ∃ (o1 : Obj) (L : List (Addr × Obj)), Lnk (.ref x1) ((x1, o1) :: L) ∧ o1.cls = c1 ∧ ∀ p ∈ (x1, o1) :: L, p ∈ X.pn
def PMk6 (X : Cx) (e : Expr) (t : L2.St → Hp → XK → Prop) : Prop :=
 ∀ (pins : List (Addr × Obj)) (s : Shared) (σ : L2.St) (H : Hp) (Q : XK), Inv X pins σ H s → t σ H Q → wpAny (model X.prog X.w) X.A (eval e X.env) (fun u s' => MkP X pins σ Q u s' ∧ Six u s') X.xe s
theorem PMk6.pmk {X : Cx} {e : Expr} {t : L2.St → Hp → XK → Prop} (h : PMk6 X e t) : PMk X e t := fun pins s σ H Q I q => thn (h pins s σ H Q I q) fun _ _ x => x.1
section
variable {X : Cx} {pins : List (Addr × Obj)} {σ : L2.St} {H : Hp} {s : Shared}
theorem Inv.nostk (I : Inv X pins σ H s) {p : Addr × Obj} (hp : p ∈ X.pn ++ pins) : p.1 ∉ frs X.stack := fun hm => by
 have P := I.pin p hp
 rcases mCq.mp (I.stkSub p.1 hm) with z | z
 · exact P.2.2.1 z
 · exact P.2.2.2.1 z
end
theorem behind {X : Cx} {pins : List (Addr × Obj)} {τ : L2.St} {H1 : Hp} {s1 s' : Shared} {B h1 : Heap} {x : Addr} {c : Value} {dx : Option Addr} {L0 : Addr} (hs : X.stack = X.env :: X.outer) (hf : X.env.frame = some X.env.locals) (hex : X.ex = []) (J : Inv X pins τ H1 s1)
  (nb : ∀ b o, s1.heap.get? b = some o → b ∉ frs X.stack → B.get? b = some o) (up : s1.heap.UpToSlots h1) (os : s'.os = s1.os) (ag : AllBare s'.gens) (hh : HandSPX.HeldZ B (X.env :: X.outer) x (Zk B H1 c dx) L0 h1) (na : H1 x = none) :
  ∃ pl, Inv X (pl ++ pins) τ H1 { s' with heap := h1 } ∧ ∀ τ2 H2 s2, Inv X (pl ++ pins) τ2 H2 s2 → ∃ (B2 : Heap) (s3 : Shared), Inv X pins τ2 H2 s3 ∧ (∀ b o, s3.heap.get? b = some o → b ∉ frs X.stack → B2.get? b = some o) ∧ s3.heap.UpToSlots s2.heap ∧
    HandSPX.HeldZ B2 (X.env :: X.outer) x (Zk B2 H2 c dx) L0 s2.heap ∧ H2 x = none ∧ s2.os = s3.os ∧ AllBare s2.gens := by
 obtain ⟨k1, k2, k3, oe, vs, T, oT, ts, he, hz, hd, hv1, hnT, hTe, hT, hdT, ht3⟩ := id hh
 obtain ⟨hzc, hzd, hzk⟩ := hz
 obtain ⟨v2, hv2, l, lk, lin⟩ := hzk vs hd
 have J1 : Inv X pins τ H1 { s' with heap := h1 } := J.landed nb k1 up os ag
 have nT : H1 T = none := (J.inGround nb).gone hnT
 have notFr : ∀ (b : Addr) (o : Obj) (fv : Array Value), h1.get? b = some o → o.data = .fields fv → b ∉ frs (X.env :: X.outer) := fun b o fv e dd hm => by
  obtain ⟨_, o', e', hnf⟩ := k3.mem hm
  have eo : o = o' := oIq (e.symm.trans e')
  rw [← eo] at hnf
  exact hnf _ dd
 have locF : X.env.locals ∈ frs (X.env :: X.outer) := List.mem_filterMap.mpr ⟨X.env, mcS, hf⟩
 have fsF : ∀ b, b ∈ X.fs → b ∈ frs (X.env :: X.outer) := fun b hm => by
  obtain ⟨e, he, q⟩ := List.mem_filterMap.mp hm
  exact List.mem_filterMap.mpr ⟨e, mcM _ he, q⟩
 have lat : ∀ p ∈ l, h1.get? p.1 = some p.2 := fun p hp => k1 _ _ (lin p hp).1
 have ok1 : ∀ (b : Addr) (o : Obj) (fv : Array Value), h1.get? b = some o → o.data = .fields fv → H1 b = none → h1.get? b = some o ∧ H1 b = none ∧ b ≠ X.env.locals ∧ b ∉ X.fs ∧ ∀ v, o.data ≠ .cell v := fun b o fv e dd n =>
  ⟨e, n, fun z => notFr b o fv e dd (by rw [z]; exact locF), fun z => notFr b o fv e dd (fsF _ z), fun v z => by rw [dd] at z; cases z⟩
 have S1 : Inv X (((x, oe) :: (T, oT) :: l) ++ pins) τ H1 { s' with heap := h1 } := J1.pins_of fun p hp => by
  rcases mAq.mp hp with hp | hp
  · rcases mCq.mp hp with z | hp
    · rw [z]; exact ok1 _ _ _ he hd na
    · rcases mCq.mp hp with z | hp
      · rw [z]; exact ok1 _ _ _ hT hdT nT
      · obtain ⟨fv, dd⟩ := lk.data p hp
        exact ok1 _ _ _ (lat p hp) dd (lin p hp).2
  · exact J1.pin p (maR _ hp)
 refine ⟨(x, oe) :: (T, oT) :: l, S1, fun τ2 H2 s6 S6 => ?_⟩
 have pin6 : ∀ p ∈ (x, oe) :: (T, oT) :: l, s6.heap.get? p.1 = some p.2 ∧ H2 p.1 = none := fun p hp => by
  have z := S6.pin p (maR _ (maL _ hp))
  exact ⟨z.1, z.2.1⟩
 have J6 : Inv X pins τ2 H2 s6 := S6.pins_of fun p hp => S6.pin p (maR _ (maR _ hp))
 have gx : s6.heap.get? x = some oe := (pin6 _ mcS).1
 have gT : s6.heap.get? T = some oT := (pin6 (T, oT) (mcM _ mcS)).1
 have nx6 : H2 x = none := (pin6 _ mcS).2
 have nT6 : H2 T = none := (pin6 (T, oT) (mcM _ mcS)).2
 have fx := notFr x oe vs he hd
 have fT := notFr T oT ts hT hdT
 have far : ∀ b o, s1.heap.get? b = some o → b ≠ x ∧ b ≠ T := fun b o e => by
  by_cases hb : b ∈ frs X.stack
  · rw [hs] at hb
    exact ⟨fun z => fx (by rw [← z]; exact hb), fun z => fT (by rw [← z]; exact hb)⟩
  · have q := nb b o e hb
    refine ⟨fun z => ?_, fun z => ?_⟩
    · rw [z, k2] at q
      cases q
    · rw [z, hnT] at q
      cases q
 have far0 : ∀ b o, X.s_0.heap.get? b = some o → b ≠ x ∧ b ≠ T := fun b o e => by
  obtain ⟨o', q⟩ := J.base.there b o e (by rw [hex]; simp)
  exact far b o' q
 have farP : ∀ p ∈ X.pn ++ pins, p.1 ≠ x ∧ p.1 ≠ T := fun p hp => far p.1 p.2 (J.pin p hp).1
 have farL : ∀ p ∈ l, p.1 ≠ x ∧ p.1 ≠ T := fun p hp => by
  have q := (lin p hp).1
  refine ⟨fun z => ?_, fun z => ?_⟩
  · rw [z, k2] at q
    cases q
  · rw [z, hnT] at q
    cases q
 obtain ⟨G, g1, g2⟩ := restrict s6.heap fun b => !(decide (b = x) || decide (b = T))
 have gIn : ∀ b o, G.get? b = some o → s6.heap.get? b = some o ∧ b ≠ x ∧ b ≠ T := fun b o e => by
  cases q : (!(decide (b = x) || decide (b = T))) with
  | false =>
    rw [g2 b q] at e
    cases e
  | true =>
    rw [g1 b q] at e
    simp only [Bool.not_eq_true', Bool.or_eq_false_iff, decide_eq_false_iff_not] at q
    exact ⟨e, q.1, q.2⟩
 have gOf : ∀ b o, b ≠ x → b ≠ T → s6.heap.get? b = some o → G.get? b = some o := fun b o h1 h2 e => by
  rw [g1 b (by simp [h1, h2])]
  exact e
 have I6 : Inv X pins τ2 H2 { s6 with heap := G } := J6.less (fun b o e => (gIn b o e).1) gOf ⟨oe, vs, gx, hd⟩ ⟨oT, ts, gT, hdT⟩ nx6 nT6 far0 farP
 have Bno : ∀ b, (b = x ∨ b = T) → (PySem.W.hideAll G (frs X.stack)).get? b = none := fun b hb => by
  cases q : (PySem.W.hideAll G (frs X.stack)).get? b with
  | none => rfl
  | some o =>
    obtain ⟨_, n1, n2⟩ := gIn b o (PySem.W.of_hideAll _ q)
    rcases hb with z | z
    · exact absurd z n1
    · exact absurd z n2
 refine ⟨PySem.W.hideAll G (frs X.stack), { s6 with heap := G }, I6, fun b o e hb => PySem.W.hideAll_get _ e hb, Heap.UpToSlots.of_keeps fun b o e => (gIn b o e).1, ?_, nx6, rfl, J6.bare⟩
 refine ⟨fun b o e => (gIn b o (PySem.W.of_hideAll _ e)).1, Bno x (.inl rfl), ?_, oe, vs, T, oT, ts, gx, ⟨hzc, hzd, fun vs2 ev => ?_⟩, hd, hv1, Bno T (.inr rfl), hTe, gT, hdT, ht3⟩
 · have ff := funFrames_none (B := PySem.W.hideAll G (frs X.stack)) J6.stack fun b hb => PySem.W.hideAll_none _ hb
   rw [← hs]
   exact ff
 · rw [hd] at ev
   have ev' := Data.fields.inj ev
   refine ⟨v2, by rw [← ev']; exact hv2, l, lk, fun p hp => ?_⟩
   have z := pin6 p (mcM _ (mcM _ hp))
   have nf : p.1 ∉ frs X.stack := Inv.nostk S6 (maR _ (maL _ (mcM _ (mcM _ hp))))
   exact ⟨PySem.W.hideAll_get _ (gOf _ _ (farL p hp).1 (farL p hp).2 z.1) nf, z.2⟩
theorem Sky.held {M : Model} {A : Around} {E₁ : Value → Shared → Prop} {env : Env} {outer : List Env} {L x : Addr} {Z : Obj → Prop} {B : Heap} {s : Shared} {Q : Unit → Shared → Prop} (hZ : PXN.Steady1 Z) (hfr : A.frames = some (env :: outer)) (hf : env.frame = some L)
  (sky : Sky B (env :: outer) x Z L s.heap) (hQ : ∀ h', HandSPX.HeldZ B (env :: outer) x Z L h' → s.heap.UpToSlots h' → Q () { s with heap := h' }) : wpAny M A (noteFrame (.ref x) env) Q E₁ s := by
 rcases sky with ⟨hB, hn, hl, oe, vs, he, hz, hd, h1⟩ | fl | hh
 · exact PXN.look_newZ hZ hfr hl hf he hB hn hd h1 hz hQ
 · exact PXN.looks_onZ hZ hfr hf fl hQ
 · exact HandSPX.againZ hf hh.2.2.2 (hQ s.heap hh (Heap.UpToSlots.refl _))
theorem Sky.land {M : Model} {A : Around} {E₁ : Value → Shared → Prop} {env : Env} {outer : List Env} {L x : Addr} {Z : Obj → Prop} {B : Heap} {s : Shared} {Q : Unit → Shared → Prop} (hZ : PXN.Steady1 Z) (hfr : A.frames = some (env :: outer)) (hf : env.frame = some L)
  (sky : Sky B (env :: outer) x Z L s.heap) (hQ : ∀ h', HandSPX.FlyingZ B (env :: outer) x Z h' → s.heap.UpToSlots h' → Q () { s with heap := h' }) :
  wpAny M A (noteFrame (.ref x) env) (fun _ s₂ => wpAny M A (setFlight (.ref x) none) Q E₁ s₂) E₁ s :=
 Sky.held hZ hfr hf sky fun h1 hh up => HandSPX.landsZ hh fun h' fl up' => hQ h' fl (up.trans up')
end RW
namespace RW
open PySem PySem.Spec PyProof.Rows L2
inductive D where
 | non | bl (b : Bool) | int (i : Int) | str (x : Str) | ty (n : String) | obj (a : Addr)
 | lst (xs : List D) | rol (xs : List D) | tup (xs : List D) | pr (xs : List D) | ins (C : Addr) (fs : List (Str × D))
 | xc (a C dd : Addr) (fs : List (Str × D))
 | lam (f : Addr) (B : Hp)
 | dt (w : World) (kvs : List (NestedKey × D))
 | dk (P : Program) (w : World) (kvs : List (Key × D))
def DkO (P : Program) (w : World) (a : Addr) (o : Obj) (us : List (Key × Value)) : HO := .ext fun h => h.get? a = some o ∧ o.IsDictOf (mixKind P w) us
structure DkOk (a : Addr) (us : List (Key × Value)) (ks : List Key) (vs : List V) : Prop where
 far : (a == sysModules) = false
 len : us.length ≤ sizeLine
 keys : us.map (·.1) = ks
 vals : Vals vs (us.map (·.2))
def kD : Key → D
 | .inl i => .int i
 | .inr x => .str x
def DtO (a : Addr) (o : Obj) (w : World) (xs : List (NestedKey × Addr × Value)) : HO := .ext fun h => h.get? a = some o ∧ o.ExactDict ∧ ∃ es ep, o.data = .dict es ep ∧ es.toList = xs.map fun x => ⟨x.1.hash w, .ref x.2.1, x.2.2⟩
structure DtOk (a : Addr) (xs : List (NestedKey × Addr × Value)) (ks : List NestedKey) (vs : List V) : Prop where
 far : (a == sysModules) = false
 len : xs.length ≤ sizeLine
 nd : (xs.map (·.1)).Nodup
 keys : xs.map (·.1) = ks
 deep : ∀ k ∈ ks, k.depth ≤ 8
 vals : Vals vs (xs.map (·.2.2))
mutual
def keyD : NestedKey → D
 | .none => .non
 | .num i => .int i
 | .text x => .str x
 | .tup ks => .tup (keyDs ks)
def keyDs : List NestedKey → List D
 | [] => []
 | k :: ks => keyD k :: keyDs ks
end
mutual
inductive Rep (K : PySem.W.Frag) (H : Hp) : V → D → Prop
 | non : Rep K H .non .non
 | bl (b : Bool) : Rep K H (.bl b) (.bl b)
 | int (i : Int) : Rep K H (.int i) (.int i)
 | str (x : Str) : Rep K H (.str x) (.str x)
 | ty (n : String) : Rep K H (.ty n) (.ty n)
 | obj (a : Addr) : Rep K H (.ref a) (.obj a)
 | lst {a : Addr} {xs : List V} {ds : List D} : H a = some (.lst xs) → Reps K H xs ds → Rep K H (.ref a) (.lst ds)
 | rol {a : Addr} {xs : List V} {ds : List D} : SqL K H a xs → Reps K H xs ds → Rep K H (.ref a) (.rol ds)
 | tup {a : Addr} {xs : List V} {ds : List D} : SqN K H a xs → Reps K H xs ds → Rep K H (.ref a) (.tup ds)
 | pr {a : Addr} {xs : List V} {ds : List D} : SqT K H a xs → Reps K H xs ds → Rep K H (.ref a) (.pr ds)
 | ins {a C dx : Addr} {fs : List (Str × V)} {ds : List (Str × D)} : H a = some (.ins C dx fs) → RepF K H fs ds → Rep K H (.ref a) (.ins C ds)
 | xc {a C dd : Addr} {fs : List (Str × V)} {ds : List (Str × D)} : H dd = some (.xd fs) → RepF K H fs ds → Rep K H (.ref a) (.xc a C dd ds)
 | lam {f : Addr} {B : Hp} : Same B H → Rep K H (.ref f) (.lam f B)
 | dt {a : Addr} {o : Obj} {w : World} {xs : List (NestedKey × Addr × Value)} {vs : List V} {kvs : List (NestedKey × D)} : H a = some (DtO a o w xs) → DtOk a xs (kvs.map (·.1)) vs →
  Reps K H (xs.map fun x => V.ref x.2.1) (kvs.map fun p => keyD p.1) → Reps K H vs (kvs.map (·.2)) → Rep K H (.ref a) (.dt w kvs)
 | dk {P : Program} {a : Addr} {o : Obj} {w : World} {us : List (Key × Value)} {vs : List V} {kvs : List (Key × D)} : H a = some (DkO P w a o us) → DkOk a us (kvs.map (·.1)) vs → Reps K H vs (kvs.map (·.2)) → Rep K H (.ref a) (.dk P w kvs)
inductive Reps (K : PySem.W.Frag) (H : Hp) : List V → List D → Prop
 | nil : Reps K H [] []
 | cons {v : V} {vs : List V} {d : D} {ds : List D} : Rep K H v d → Reps K H vs ds → Reps K H (v :: vs) (d :: ds)
inductive RepF (K : PySem.W.Frag) (H : Hp) : List (Str × V) → List (Str × D) → Prop
 | nil : RepF K H [] []
 | cons {f : Str} {v : V} {vs : List (Str × V)} {d : D} {ds : List (Str × D)} : Rep K H v d → RepF K H vs ds → RepF K H ((f, v) :: vs) ((f, d) :: ds)
end
theorem Same.sqL {K : PySem.W.Frag} {H H' : Hp} (s : Same H H') {a : Addr} {xs : List V} (h : SqL K H a xs) : SqL K H' a xs := Same.seq s h
theorem Same.sqT {K : PySem.W.Frag} {H H' : Hp} (s : Same H H') {a : Addr} {xs : List V} (h : SqT K H a xs) : SqT K H' a xs := by
 rcases h with h | h
 · rcases h with h | ⟨o, h⟩
   · exact .inl (.inl (s _ _ h))
   · exact .inl (.inr ⟨o, s _ _ h⟩)
 · exact .inr h
mutual
theorem Rep.mono {K : PySem.W.Frag} {H H' : Hp} (s : Same H H') : ∀ {v : V} {d : D}, Rep K H v d → Rep K H' v d
 | _, _, .non => .non
 | _, _, .bl b => .bl b
 | _, _, .int b => .int b
 | _, _, .str b => .str b
 | _, _, .ty b => .ty b
 | _, _, .obj b => .obj b
 | _, _, .lst h r => .lst (s _ _ h) (Reps.mono s r)
 | _, _, .rol h r => .rol (Same.sqL s h) (Reps.mono s r)
 | _, _, .tup h r => .tup (SqN.same s h) (Reps.mono s r)
 | _, _, .pr h r => .pr (Same.sqT s h) (Reps.mono s r)
 | _, _, .ins h r => .ins (s _ _ h) (RepF.mono s r)
 | _, _, .xc h r => .xc (s _ _ h) (RepF.mono s r)
 | _, _, .lam h => .lam (h.trans s)
 | _, _, .dt h k r1 r2 => .dt (s _ _ h) k (Reps.mono s r1) (Reps.mono s r2)
 | _, _, .dk h k r2 => .dk (s _ _ h) k (Reps.mono s r2)
theorem Reps.mono {K : PySem.W.Frag} {H H' : Hp} (s : Same H H') : ∀ {v : List V} {d : List D}, Reps K H v d → Reps K H' v d
 | _, _, .nil => .nil
 | _, _, .cons h r => .cons (Rep.mono s h) (Reps.mono s r)
theorem RepF.mono {K : PySem.W.Frag} {H H' : Hp} (s : Same H H') : ∀ {v : List (Str × V)} {d : List (Str × D)}, RepF K H v d → RepF K H' v d
 | _, _, .nil => .nil
 | _, _, .cons h r => .cons (Rep.mono s h) (RepF.mono s r)
end
section
variable {K : PySem.W.Frag} {H : Hp}
theorem Reps.length {vs : List V} {ds : List D} (h : Reps K H vs ds) : vs.length = ds.length := by
 induction vs generalizing ds with
 | nil => cases h; rfl
 | cons v vs ih => cases h with | cons _ t => simp [ih t]
theorem Reps.get : ∀ {vs : List V} {ds : List D} {i : Nat} {d : D}, Reps K H vs ds → ds[i]? = some d → ∃ v, vs[i]? = some v ∧ Rep K H v d
 | _, _, _, _, .nil, e => by simp at e
 | _, _, 0, _, .cons r _, e => by
   simp at e; subst e; exact ⟨_, rfl, r⟩
 | _, _, i + 1, d, .cons _ t, e => by
   obtain ⟨v, h1, h2⟩ := Reps.get (i := i) (d := d) t (by simpa using e)
   exact ⟨v, by simpa using h1, h2⟩
theorem Reps.append : ∀ {vs us : List V} {ds es : List D}, Reps K H vs ds → Reps K H us es → Reps K H (vs ++ us) (ds ++ es)
 | _, _, _, _, .nil, s => s
 | _, _, _, _, .cons r t, s => .cons r (Reps.append t s)
theorem Reps.take : ∀ {vs : List V} {ds : List D} (n : Nat), Reps K H vs ds → Reps K H (vs.take n) (ds.take n)
 | _, _, 0, _ => by simp; exact .nil
 | _, _, _ + 1, .nil => by simp; exact .nil
 | _, _, n + 1, .cons r t => by simp; exact .cons r (Reps.take n t)
theorem Reps.drop : ∀ {vs : List V} {ds : List D} (n : Nat), Reps K H vs ds → Reps K H (vs.drop n) (ds.drop n)
 | _, _, 0, r => by simpa using r
 | _, _, _ + 1, .nil => by simp; exact .nil
 | _, _, n + 1, .cons _ t => by simp; exact Reps.drop n t
theorem Reps.set {v : V} {d : D} (r : Rep K H v d) : ∀ {vs : List V} {ds : List D} (i : Nat), Reps K H vs ds → Reps K H (vs.set i v) (ds.set i d)
 | _, _, _, .nil => .nil
 | _, _, 0, .cons _ t => .cons r t
 | _, _, i + 1, .cons q t => .cons q (Reps.set r i t)
theorem Reps.rep {vs : List V} {ds : List D} (r : Reps K H vs ds) : ∀ n : Nat, Reps K H (List.replicate n vs).flatten (List.replicate n ds).flatten
 | 0 => .nil
 | n + 1 => by
   simp only [List.replicate_succ, List.flatten_cons]
   exact r.append (Reps.rep r n)
theorem Reps.nil_iff {vs : List V} {ds : List D} (r : Reps K H vs ds) : vs = [] ↔ ds = [] := by
 cases r <;> simp
theorem Reps.ints : ∀ {vs : List V} {ns : List Int}, Reps K H vs (ns.map D.int) → vs = ns.map V.int
 | _, [], h => by cases h; rfl
 | _, n :: ns, h => by
   cases h with | cons r t =>
   cases r
   simp [Reps.ints t]
theorem Reps.of_ints : ∀ (ns : List Int), Reps K H (ns.map V.int) (ns.map D.int)
 | [] => .nil
 | n :: ns => .cons (.int n) (Reps.of_ints ns)
theorem Reps.bls : ∀ {vs : List V} {ns : List Bool}, Reps K H vs (ns.map D.bl) → vs = ns.map V.bl
 | _, [], h => by cases h; rfl
 | _, n :: ns, h => by
   cases h with | cons r t =>
   cases r
   simp [Reps.bls t]
end
inductive OC where
 | lst (xs : List D)
 | any (P : List D → Prop)
 | ins (C : Addr) (fs : List (Str × D))
 | tab (q : Str)
 | dt (w : World) (kvs : List (NestedKey × D))
 | dk (P : Program) (w : World) (kvs : List (Key × D))
 | ex (pr : Heap → Prop)
abbrev Own := Addr → Option OC
def updO (O : Own) (p : Addr) (c : OC) : Own := fun a => if a = p then some c else O a
def delO (O : Own) (p : Addr) : Own := fun a => if a = p then none else O a
theorem updO_same {O : Own} {p : Addr} {c : OC} : updO O p c p = some c := if_pos rfl
theorem updO_ne {O : Own} {p a : Addr} {c : OC} (h : a ≠ p) : updO O p c a = O a := if_neg h
theorem updO_updO {O : Own} {p : Addr} {c c' : OC} : updO (updO O p c) p c' = updO O p c' := by
 funext a; unfold updO; split <;> rfl
theorem updO_self {O : Own} {p : Addr} {c : OC} (h : O p = some c) : updO O p c = O := by
 funext a; unfold updO; split
 · subst_vars; exact h.symm
 · rfl
theorem delO_updO {O : Own} {p : Addr} {c : OC} (h : O p = none) : delO (updO O p c) p = O := by
 funext a; unfold delO updO; split
 · subst_vars; exact h.symm
 · rfl
def Sub (O O' : Own) : Prop := ∀ a c, O a = some c → O' a = some c
theorem Sub.refl (O : Own) : Sub O O := fun _ _ h => h
theorem Sub.trans {O O1 O2 : Own} (a : Sub O O1) (b : Sub O1 O2) : Sub O O2 := fun x c h => b x c (a x c h)
theorem Sub.new {O : Own} {p : Addr} {c : OC} (h : O p = none) : Sub O (updO O p c) := fun a x e => by
 by_cases ha : a = p
 · subst ha; rw [h] at e; cases e
 · rw [updO_ne ha]; exact e
theorem Sub.put {O O' : Own} {p : Addr} {c : OC} (s : Sub O O') (h : O p = none) : Sub O (updO O' p c) := fun a x e => by
 by_cases ha : a = p
 · subst ha; rw [h] at e; cases e
 · rw [updO_ne ha]; exact s a x e
def OcR (K : PySem.W.Frag) (H Hd : Hp) (a : Addr) : OC → Prop
 | .lst ds => ∃ vs, H a = some (.lst vs) ∧ Reps K Hd vs ds
 | .any P => ∃ ds vs, P ds ∧ H a = some (.lst vs) ∧ Reps K Hd vs ds
 | .ins C fs => ∃ dx vs, H a = some (.ins C dx vs) ∧ RepF K Hd vs fs
 | .dt w kvs => ∃ o xs vs, H a = some (DtO a o w xs) ∧ DtOk a xs (kvs.map (·.1)) vs ∧ Reps K Hd (xs.map fun x => V.ref x.2.1) (kvs.map fun p => keyD p.1) ∧ Reps K Hd vs (kvs.map (·.2))
 | .dk P w kvs => ∃ o us vs, H a = some (DkO P w a o us) ∧ DkOk a us (kvs.map (·.1)) vs ∧ Reps K Hd vs (kvs.map (·.2))
 | .ex pr => H a = some (.ext pr)
 | .tab q => ∃ ps, H a = some (.tbl ps) ∧ TriplesOk ps.toList ∧ ∀ (pos : Pos) (cv : Value), codeAmong pos ps.toList = some cv → ∃ c, cv = .ref c ∧ Hd c = some (LamX.CodeO c q)
theorem OcR.mono {K : PySem.W.Frag} {H H' Hd Hd' : Hp} {a : Addr} {c : OC} (h : OcR K H Hd a c) (e : H' a = H a) (s : Same Hd Hd') : OcR K H' Hd' a c := by
 cases c with
 | lst ds => obtain ⟨vs, h1, h2⟩ := h; exact ⟨vs, e.trans h1, h2.mono s⟩
 | any P => obtain ⟨ds, vs, p, h1, h2⟩ := h; exact ⟨ds, vs, p, e.trans h1, h2.mono s⟩
 | ins C fs => obtain ⟨dx, vs, h1, h2⟩ := h; exact ⟨dx, vs, e.trans h1, h2.mono s⟩
 | dt w kvs => obtain ⟨o, xs, vs, h1, h2, h3, h4⟩ := h; exact ⟨o, xs, vs, e.trans h1, h2, h3.mono s, h4.mono s⟩
 | dk P w kvs => obtain ⟨o, us, vs, h1, h2, h4⟩ := h; exact ⟨o, us, vs, e.trans h1, h2, h4.mono s⟩
 | ex pr => exact e.trans h
 | tab q => obtain ⟨ps, h1, h2, h3⟩ := h; exact ⟨ps, e.trans h1, h2, fun pos cv hc => let ⟨c, e1, e2⟩ := h3 pos cv hc; ⟨c, e1, s _ _ e2⟩⟩
theorem OcR.there {K : PySem.W.Frag} {H Hd : Hp} {a : Addr} {c : OC} (h : OcR K H Hd a c) : H a ≠ none := by
 cases c with
 | lst ds => obtain ⟨vs, h1, h2⟩ := h; rw [h1]; exact fun z => nomatch z
 | any P => obtain ⟨ds, vs, p, h1, h2⟩ := h; rw [h1]; exact fun z => nomatch z
 | ins C fs => obtain ⟨dx, vs, h1, h2⟩ := h; rw [h1]; exact fun z => nomatch z
 | dt w kvs => obtain ⟨o, xs, vs, h1, _⟩ := h; rw [h1]; exact fun z => nomatch z
 | dk P w kvs => obtain ⟨o, us, vs, h1, _⟩ := h; rw [h1]; exact fun z => nomatch z
 | tab q => obtain ⟨ps, h1, _⟩ := h; rw [h1]; exact fun z => nomatch z
 | ex pr => rw [show H a = _ from h]; exact fun z => nomatch z
theorem same_new {H : Hp} {p : Addr} {o : HO} (h : H p = none) : Same H (upd H p o) := fun b x e => by
 rw [upd_ne (ne_of_none e h)]; exact e
structure AbsH (K : PySem.W.Frag) (H Hd : Hp) (O : Own) : Prop where
 same : Same Hd H
 own : ∀ a c, O a = some c → Hd a = none ∧ OcR K H Hd a c
section
variable {K : PySem.W.Frag} {H Hd : Hp} {O O' : Own} {p : Addr}
theorem AbsH.free (h : AbsH K H Hd O) (n : H p = none) : Hd p = none := h.same.free n
theorem AbsH.freeO (h : AbsH K H Hd O) (n : H p = none) : O p = none := by
 cases e : O p with
 | none => rfl
 | some c => exact absurd n (h.own p c e).2.there
theorem AbsH.sub (h : AbsH K H Hd O) (s : Sub O' O) : AbsH K H Hd O' := ⟨h.same, fun a c e => h.own a c (s a c e)⟩
theorem AbsH.lay {o : HO} (h : AbsH K H Hd O) (n : H p = none) : AbsH K (upd H p o) (upd Hd p o) O := by
 have s := same_new (o := o) (h.free n)
 refine ⟨fun b x e => ?_, fun a c e => ?_⟩
 · by_cases hb : b = p
   · subst hb; rw [upd_same] at e ⊢; exact e
   · rw [upd_ne hb] at e ⊢; exact h.same b x e
 · obtain ⟨h1, h2⟩ := h.own a c e
   have ne : a ≠ p := fun z => by subst z; exact h2.there n
   exact ⟨by rw [upd_ne ne]; exact h1, h2.mono (upd_ne ne) s⟩
theorem AbsH.aside {o : HO} (h : AbsH K H Hd O) (n : H p = none) : AbsH K (upd H p o) Hd O :=
 ⟨h.same.trans (same_new n), fun a c e => by
  obtain ⟨h1, h2⟩ := h.own a c e
  have ne : a ≠ p := fun z => by subst z; exact h2.there n
  exact ⟨h1, h2.mono (upd_ne ne) (Same.refl _)⟩⟩
theorem AbsH.put {o : HO} {c : OC} (h : AbsH K H Hd O) (n : Hd p = none) (r : OcR K (upd H p o) Hd p c) : AbsH K (upd H p o) Hd (updO O p c) := by
 refine ⟨fun b x e => ?_, fun a c' e => ?_⟩
 · rw [upd_ne (ne_of_none e n)]; exact h.same b x e
 · by_cases ha : a = p
   · subst ha; rw [updO_same] at e; cases e; exact ⟨n, r⟩
   · rw [updO_ne ha] at e
     obtain ⟨h1, h2⟩ := h.own a c' e
     exact ⟨h1, h2.mono (upd_ne ha) (Same.refl _)⟩
theorem AbsH.putL {xs : List V} {ds : List D} (h : AbsH K H Hd O) (n : Hd p = none) (r : Reps K Hd xs ds) : AbsH K (upd H p (.lst xs)) Hd (updO O p (.lst ds)) :=
 h.put n ⟨xs, upd_same, r⟩
theorem AbsH.fix {ds : List D} (h : AbsH K H Hd O) (e : O p = some (.lst ds)) : ∃ Hd', Same Hd Hd' ∧ AbsH K H Hd' (delO O p) ∧ Rep K Hd' (.ref p) (.lst ds) := by
 obtain ⟨n, vs, h1, h2⟩ := h.own p _ e
 have s := same_new (o := HO.lst vs) n
 refine ⟨upd Hd p (.lst vs), s, ⟨fun b x q => ?_, fun a c q => ?_⟩, .lst upd_same (h2.mono s)⟩
 · by_cases hb : b = p
   · subst hb; rw [upd_same] at q; cases q; exact h1
   · rw [upd_ne hb] at q; exact h.same b x q
 · have ne : a ≠ p := fun z => by subst z; simp [delO] at q
   have q' : O a = some c := by simpa [delO, ne] using q
   obtain ⟨g1, g2⟩ := h.own a c q'
   exact ⟨by rw [upd_ne ne]; exact g1, g2.mono rfl s⟩
theorem AbsH.fixI {C : Addr} {fs : List (Str × D)} (h : AbsH K H Hd O) (e : O p = some (.ins C fs)) : ∃ Hd', Same Hd Hd' ∧ AbsH K H Hd' (delO O p) ∧ Rep K Hd' (.ref p) (.ins C fs) := by
 obtain ⟨n, dx, vs, h1, h2⟩ := h.own p _ e
 have s := same_new (o := HO.ins C dx vs) n
 refine ⟨upd Hd p (.ins C dx vs), s, ⟨fun b x q => ?_, fun a c q => ?_⟩, .ins upd_same (h2.mono s)⟩
 · by_cases hb : b = p
   · subst hb; rw [upd_same] at q; cases q; exact h1
   · rw [upd_ne hb] at q; exact h.same b x q
 · have ne : a ≠ p := fun z => by subst z; simp [delO] at q
   have q' : O a = some c := by simpa [delO, ne] using q
   obtain ⟨g1, g2⟩ := h.own a c q'
   exact ⟨by rw [upd_ne ne]; exact g1, g2.mono rfl s⟩
theorem AbsH.opn {Pw : List D → Prop} (h : AbsH K H Hd O) (e : O p = some (.any Pw)) : ∃ ds, Pw ds ∧ AbsH K H Hd (updO O p (.lst ds)) := by
 obtain ⟨n, ds, vs, q, h1, h2⟩ := h.own p _ e
 refine ⟨ds, q, h.same, fun a c z => ?_⟩
 by_cases ha : a = p
 · subst ha; rw [updO_same] at z; cases z; exact ⟨n, vs, h1, h2⟩
 · rw [updO_ne ha] at z; exact h.own a c z
theorem AbsH.cls {Pw : List D → Prop} {ds : List D} (h : AbsH K H Hd O) (e : O p = some (.lst ds)) (q : Pw ds) : AbsH K H Hd (updO O p (.any Pw)) := by
 obtain ⟨n, vs, h1, h2⟩ := h.own p _ e
 refine ⟨h.same, fun a c z => ?_⟩
 by_cases ha : a = p
 · subst ha; rw [updO_same] at z; cases z; exact ⟨n, ds, vs, q, h1, h2⟩
 · rw [updO_ne ha] at z; exact h.own a c z
end
def asL (O : Own) : D → Option (List D)
 | .lst xs => some xs
 | .rol xs => some xs
 | .obj p => match O p with
   | some (.lst xs) => some xs
   | _ => none
 | _ => none
theorem asL_obj {O : Own} {p : Addr} {xs : List D} (h : O p = some (.lst xs)) : asL O (.obj p) = some xs := by
 simp [asL, h]
theorem AbsH.readL {K : PySem.W.Frag} {H Hd : Hp} {O : Own} (h : AbsH K H Hd O) {v : V} {x : D} {xs : List D} (r : Rep K Hd v x) (e : asL O x = some xs) : ∃ a vs, v = .ref a ∧ SqL K H a vs ∧ Reps K Hd vs xs := by
 cases r with
 | lst g q => simp [asL] at e; subst e; exact ⟨_, _, rfl, .inl (.inl (h.same _ _ g)), q⟩
 | rol g q => simp [asL] at e; subst e; exact ⟨_, _, rfl, Same.sqL h.same g, q⟩
 | obj a =>
   simp only [asL] at e
   split at e
   · rename_i ds z
     cases e
     obtain ⟨_, vs, h1, h2⟩ := h.own a _ z
     exact ⟨a, vs, rfl, .inl (.inl h1), h2⟩
   · cases e
 | _ => simp [asL] at e
def asM (O : Own) : D → Option (List D)
 | .lst xs => some xs
 | .obj p => match O p with
   | some (.lst xs) => some xs
   | _ => none
 | _ => none
theorem AbsH.readM {K : PySem.W.Frag} {H Hd : Hp} {O : Own} (h : AbsH K H Hd O) {v : V} {x : D} {xs : List D} (r : Rep K Hd v x) (e : asM O x = some xs) : ∃ a vs, v = .ref a ∧ H a = some (.lst vs) ∧ Reps K Hd vs xs := by
 cases r with
 | lst g q => simp [asM] at e; subst e; exact ⟨_, _, rfl, h.same _ _ g, q⟩
 | obj a =>
   simp only [asM] at e
   split at e
   · rename_i ds z
     cases e
     obtain ⟨_, vs, h1, h2⟩ := h.own a _ z
     exact ⟨a, vs, rfl, h1, h2⟩
   · cases e
 | _ => simp [asM] at e
abbrev Env' := List (Option D)
def AbsG (K : PySem.W.Frag) (Hd : Hp) (σ : L2.St) (Γ : Env') : Prop := σ.length = Γ.length ∧ ∀ (i : Nat) (d : D), Γ[i]? = some (some d) → ∃ v, σ[i]? = some (some v) ∧ Rep K Hd v d
section
variable {K : PySem.W.Frag} {Hd Hd' : Hp} {σ : L2.St} {Γ : Env'}
theorem AbsG.mono (g : AbsG K Hd σ Γ) (s : Same Hd Hd') : AbsG K Hd' σ Γ := ⟨g.1, fun i d e => let ⟨v, a, b⟩ := g.2 i d e; ⟨v, a, b.mono s⟩⟩
theorem AbsG.set {i : Nat} {v : V} {d : D} (g : AbsG K Hd σ Γ) (r : Rep K Hd v d) : AbsG K Hd (σ.set i (some v)) (Γ.set i (some d)) := by
 refine ⟨by simp [g.1], fun j e h => ?_⟩
 by_cases hj : i = j
 · subst hj
   have hl : i < Γ.length := by
    have := (geS.mp h).1
    simpa using this
   rw [List.getElem?_set_self hl] at h
   cases h
   exact ⟨v, by rw [List.getElem?_set_self (by rw [g.1]; exact hl)], r⟩
 · rw [List.getElem?_set_ne hj] at h
   obtain ⟨w, h1, h2⟩ := g.2 j e h
   exact ⟨w, by rw [List.getElem?_set_ne hj]; exact h1, h2⟩
def wipeD (Γ : Env') : List Nat → Env'
 | [] => Γ
 | v :: vs => (wipeD Γ vs).set v none
theorem AbsG.setNone {i : Nat} (g : AbsG K Hd σ Γ) : AbsG K Hd (σ.set i none) (Γ.set i none) := by
 refine ⟨by simp [g.1], fun j e h => ?_⟩
 by_cases hj : i = j
 · subst hj
   have hl : i < Γ.length := by
    have := (geS.mp h).1
    simpa using this
   rw [List.getElem?_set_self hl] at h
   cases h
 · rw [List.getElem?_set_ne hj] at h
   obtain ⟨w, h1, h2⟩ := g.2 j e h
   exact ⟨w, by rw [List.getElem?_set_ne hj]; exact h1, h2⟩
theorem AbsG.wipe (g : AbsG K Hd σ Γ) : ∀ vs : List Nat, AbsG K Hd (L2.wipe σ vs) (wipeD Γ vs)
 | [] => g
 | v :: vs => (AbsG.wipe g vs).setNone
theorem AbsG.subst {p : Addr} {d : D} (g : AbsG K Hd σ Γ) (r : Rep K Hd (.ref p) d) {i : Nat} (h : Γ[i]? = some (some (.obj p))) : AbsG K Hd σ (Γ.set i (some d)) := by
 refine ⟨by simp [g.1], fun j e q => ?_⟩
 by_cases hj : i = j
 · subst hj
   have hl : i < Γ.length := (geS.mp h).1
   rw [List.getElem?_set_self hl] at q
   cases q
   obtain ⟨v, h1, h2⟩ := g.2 i _ h
   cases h2
   exact ⟨_, h1, r⟩
 · rw [List.getElem?_set_ne hj] at q
   exact g.2 j e q
end
structure Ex where
 cls : Value
 fs : List (Str × D)
def ERep (K : PySem.W.Frag) (H Hd : Hp) (cls : Value) (d : Option Addr) (e : Ex) : Prop := cls = e.cls ∧ ∃ (C dx : Addr), e.cls = .ref C ∧ d = some dx ∧ ∃ vs, H dx = some (.xd vs) ∧ RepF K Hd vs e.fs
abbrev ExP := Ex → Env' → Own → Prop
def noEx : ExP := fun _ _ _ => False
structure Pre (X : Cx) (E : ExP) (W : WX) (σ : L2.St) (H Hd : Hp) (Γ : Env') (O : Own) : Prop where
 tk : Takes X W
 g : AbsG X.K Hd σ Γ
 h : AbsH X.K H Hd O
 ex : ∀ (cls : Value) (d : Option Addr) (σ' : L2.St) (H' Hd' : Hp) (e : Ex) (Γ' : Env') (O' : Own), Same Hd Hd' → AbsG X.K Hd' σ' Γ' → AbsH X.K H' Hd' O' → ERep X.K H' Hd' cls d e → E e Γ' O' → W cls d σ' H'
section
variable {X : Cx} {E : ExP} {W : WX} {σ σ' : L2.St} {H H' Hd Hd' : Hp} {Γ Γ' : Env'} {O O' : Own}
theorem Pre.go (p : Pre X E W σ H Hd Γ O) (s : Same Hd Hd') (h : AbsH X.K H' Hd' O') : Pre X E W σ H' Hd' Γ O' :=
 ⟨p.tk, p.g.mono s, h, fun cls d σ1 H1 Hd1 e Γ1 O1 s1 => p.ex cls d σ1 H1 Hd1 e Γ1 O1 (s.trans s1)⟩
theorem Pre.go2 (p : Pre X E W σ H Hd Γ O) (s : Same Hd Hd') (h : AbsH X.K H' Hd' O') (g : AbsG X.K Hd' σ' Γ') : Pre X E W σ' H' Hd' Γ' O' :=
 ⟨p.tk, g, h, fun cls d σ1 H1 Hd1 e Γ1 O1 s1 => p.ex cls d σ1 H1 Hd1 e Γ1 O1 (s.trans s1)⟩
end
def wE (X : Cx) (e : Expr) : TE := fun σ H Q => ∀ (pins : List (Addr × Obj)) (s : Shared), Inv X pins σ H s → wpAny (model X.prog X.w) X.A (eval e X.env) (EP X pins σ Q) X.xe s
theorem peW {X : Cx} {e : Expr} : PE X e (wE X e) := ⟨fun pins s σ H Q I h => h pins s I⟩
theorem wE_of {X : Cx} {e : Expr} {t : TE} (h : PE X e t) {σ : L2.St} {H : Hp} {Q : VK} (q : t σ H Q) : wE X e σ H Q := fun pins s I => h.run pins s σ H Q I q
theorem wE_mono {X : Cx} {e : Expr} {σ : L2.St} {H : Hp} {Q Q' : VK} (h : wE X e σ H Q) (k : ∀ v H', Q v H' → Q' v H') : wE X e σ H Q' := fun pins s I =>
 thn (h pins s I) fun _ _ ⟨v, H', I', r, q⟩ => ⟨v, H', I', r, k v H' q⟩
def wT (X : Cx) (e : Expr) : TT := fun σ H Q => ∀ (pins : List (Addr × Obj)) (s : Shared), Inv X pins σ H s → wpAny (model X.prog X.w) X.A (isTrue e X.env (eval e X.env)) (TP X pins σ Q) X.xe s
theorem ptW {X : Cx} {e : Expr} : PT X e (wT X e) := ⟨fun pins s σ H Q I h => h pins s I⟩
theorem wT_of {X : Cx} {e : Expr} {t : TT} (h : PT X e t) {σ : L2.St} {H : Hp} {Q : Bool → Hp → Prop} (q : t σ H Q) : wT X e σ H Q := fun pins s I => h.run pins s σ H Q I q
theorem wT_mono {X : Cx} {e : Expr} {σ : L2.St} {H : Hp} {Q Q' : Bool → Hp → Prop} (h : wT X e σ H Q) (k : ∀ v H', Q v H' → Q' v H') : wT X e σ H Q' := fun pins s I =>
 thn (h pins s I) fun _ _ ⟨H', I', q⟩ => ⟨H', I', k _ H' q⟩
def wW (X : Cx) (e : Expr) : TT := fun σ H Q => ∀ (whole : Sem Value) (pins : List (Addr × Obj)) (s : Shared), Inv X pins σ H s → wpAny (model X.prog X.w) X.A (isTrue e X.env whole) (TP X pins σ Q) X.xe s
theorem pwW {X : Cx} {e : Expr} : PW X e (wW X e) := ⟨fun wh pins s σ H Q I h => h wh pins s I⟩
theorem wW_of {X : Cx} {e : Expr} {t : TT} (h : PW X e t) {σ : L2.St} {H : Hp} {Q : Bool → Hp → Prop} (q : t σ H Q) : wW X e σ H Q := fun wh pins s I => h.run wh pins s σ H Q I q
theorem wW_mono {X : Cx} {e : Expr} {σ : L2.St} {H : Hp} {Q Q' : Bool → Hp → Prop} (h : wW X e σ H Q) (k : ∀ v H', Q v H' → Q' v H') : wW X e σ H Q' := fun wh pins s I =>
 thn (h wh pins s I) fun _ _ ⟨H', I', q⟩ => ⟨H', I', k _ H' q⟩
theorem wT_W {X : Cx} {e : Expr} {σ : L2.St} {H : Hp} {Q : Bool → Hp → Prop} (h : wW X e σ H Q) : wT X e σ H Q := fun pins s I => h _ pins s I
def wA (X : Cx) (es : List Expr) : TA := fun σ H Q => ∀ (pos : Pos) (pins : List (Addr × Obj)) (s : Shared), Inv X pins σ H s → wpAny (model X.prog X.w) X.A (spliced (backTo pos (starEach es X.env))) (AP X pins σ Q) X.xe s
theorem paW {X : Cx} {es : List Expr} : PA X es (wA X es) := ⟨fun pos pins s σ H Q I h => h pos pins s I⟩
theorem wA_of {X : Cx} {es : List Expr} {t : TA} (h : PA X es t) {σ : L2.St} {H : Hp} {Q : List V → Hp → Prop} (q : t σ H Q) : wA X es σ H Q := fun pos pins s I => h.run pos pins s σ H Q I q
theorem wA_mono {X : Cx} {es : List Expr} {σ : L2.St} {H : Hp} {Q Q' : List V → Hp → Prop} (h : wA X es σ H Q) (k : ∀ v H', Q v H' → Q' v H') : wA X es σ H Q' := fun pos pins s I =>
 thn (h pos pins s I) fun _ _ ⟨v, H', I', r, q⟩ => ⟨v, H', I', r, k v H' q⟩
def wS (X : Cx) (st : Stmt) : TS := fun De σ H => ∀ (pins : List (Addr × Obj)) (s : Shared), Inv X pins σ H s → wpAny (model X.prog X.w) X.A (exec st X.env) (SP X pins De) X.xe s
theorem psW {X : Cx} {st : Stmt} : PS X st (wS X st) := ⟨fun pins s σ H De I h => h pins s I⟩
theorem wS_of {X : Cx} {st : Stmt} {t : TS} (h : PS X st t) {σ : L2.St} {H : Hp} {De : Ends} (q : t De σ H) : wS X st De σ H := fun pins s I => h.run pins s σ H De I q
def wSs (X : Cx) (st : List Stmt) : TS := fun De σ H => ∀ (pins : List (Addr × Obj)) (s : Shared), Inv X pins σ H s → wpAny (model X.prog X.w) X.A (execs st X.env) (SP X pins De) X.xe s
theorem pssW {X : Cx} {st : List Stmt} : PSs X st (wSs X st) := ⟨fun pins s σ H De I h => h pins s I⟩
theorem wSs_of {X : Cx} {st : List Stmt} {t : TS} (h : PSs X st t) {σ : L2.St} {H : Hp} {De : Ends} (q : t De σ H) : wSs X st De σ H := fun pins s I => h.run pins s σ H De I q
structure EndsLe (De De' : Ends) : Prop where
 nx : ∀ σ H, De.nx σ H → De'.nx σ H
 rt : ∀ v H, De.rt v H → De'.rt v H
 bk : ∀ σ H, De.bk σ H → De'.bk σ H
 ct : ∀ σ H, De.ct σ H → De'.ct σ H
theorem SP_mono {X : Cx} {pins : List (Addr × Obj)} {De De' : Ends} (k : EndsLe De De') {f : Flow} {s' : Shared} (h : SP X pins De f s') : SP X pins De' f s' := by
 cases f with
 | next => obtain ⟨σ', H', I, q⟩ := h; exact ⟨σ', H', I, k.nx _ _ q⟩
 | brk => obtain ⟨σ', H', I, q⟩ := h; exact ⟨σ', H', I, k.bk _ _ q⟩
 | cont => obtain ⟨σ', H', I, q⟩ := h; exact ⟨σ', H', I, k.ct _ _ q⟩
 | ret u => obtain ⟨v, σ', H', I, r, q⟩ := h; exact ⟨v, σ', H', I, r, k.rt _ _ q⟩
theorem wS_mono {X : Cx} {st : Stmt} {σ : L2.St} {H : Hp} {De De' : Ends} (h : wS X st De σ H) (k : EndsLe De De') : wS X st De' σ H := fun pins s I => thn (h pins s I) fun _ _ q => SP_mono k q
theorem wSs_mono {X : Cx} {st : List Stmt} {σ : L2.St} {H : Hp} {De De' : Ends} (h : wSs X st De σ H) (k : EndsLe De De') : wSs X st De' σ H := fun pins s I => thn (h pins s I) fun _ _ q => SP_mono k q
def wG (X : Cx) (tg : Expr) : TG := fun v σ H Q => ∀ (pins : List (Addr × Obj)) (s : Shared) (u : Value), Inv X pins σ H s → RelV v u → wpAny (model X.prog X.w) X.A (assign tg X.env u) (fun _ s' => ∃ σ' H', Inv X pins σ' H' s' ∧ Q σ' H') X.xe s
theorem pgW {X : Cx} {tg : Expr} : PG X tg (wG X tg) := ⟨fun pins s σ H v u Q I r h => h pins s u I r⟩
theorem wG_of {X : Cx} {tg : Expr} {t : TG} (h : PG X tg t) {v : V} {σ : L2.St} {H : Hp} {Q : L2.St → Hp → Prop} (q : t v σ H Q) : wG X tg v σ H Q := fun pins s u I r => h.run pins s σ H v u Q I r q
theorem wG_mono {X : Cx} {tg : Expr} {v : V} {σ : L2.St} {H : Hp} {Q Q' : L2.St → Hp → Prop} (h : wG X tg v σ H Q) (k : ∀ σ' H', Q σ' H' → Q' σ' H') : wG X tg v σ H Q' := fun pins s u I r =>
 thn (h pins s u I r) fun _ _ ⟨σ', H', I', q⟩ => ⟨σ', H', I', k _ _ q⟩
def wGs (X : Cx) (ts : List Expr) : TGs := fun vs σ H Q => ∀ (pins : List (Addr × Obj)) (s : Shared) (us : List Value), Inv X pins σ H s → Vals vs us → wpAny (model X.prog X.w) X.A (assignInOrder ((assignEach ts X.env).map (·.2)) us) (fun _ s' => ∃ σ' H', Inv X pins σ' H' s' ∧ Q σ' H') X.xe s
theorem pgsW {X : Cx} {ts : List Expr} : PGs X ts (wGs X ts) := ⟨fun pins s σ H v u Q I r h => h pins s u I r⟩
theorem wGs_of {X : Cx} {ts : List Expr} {t : TGs} (h : PGs X ts t) {vs : List V} {σ : L2.St} {H : Hp} {Q : L2.St → Hp → Prop} (q : t vs σ H Q) : wGs X ts vs σ H Q := fun pins s u I r => h.run pins s σ H vs u Q I r q
theorem wGs_mono {X : Cx} {ts : List Expr} {vs : List V} {σ : L2.St} {H : Hp} {Q Q' : L2.St → Hp → Prop} (h : wGs X ts vs σ H Q) (k : ∀ σ' H', Q σ' H' → Q' σ' H') : wGs X ts vs σ H Q' := fun pins s u I r =>
 thn (h pins s u I r) fun _ _ ⟨σ', H', I', q⟩ => ⟨σ', H', I', k _ _ q⟩
def wI (X : Cx) (tg iter : Expr) : TI := fun σ H R => ∀ (pins : List (Addr × Obj)) (s : Shared), Inv X pins σ H s →
    wpAny (model X.prog X.w) X.A (eval iter X.env) (fun v s1 => wpAny (model X.prog X.w) X.A (pyIter v) (PIE X pins σ tg R) X.xe s1) X.xe s
theorem piW {X : Cx} {tg iter : Expr} : PI X tg iter (wI X tg iter) := ⟨fun pins s σ H R I h => h pins s I⟩
theorem wI_of {X : Cx} {tg iter : Expr} {t : TI} (h : PI X tg iter t) {σ : L2.St} {H : Hp} {R : It → Hp → Prop} (q : t σ H R) : wI X tg iter σ H R := fun pins s I => h.run pins s σ H R I q
abbrev PD := D → Own → Prop
def Post (K : PySem.W.Frag) (Hd : Hp) (Q : PD) : VK := fun v H' => ∃ d O' Hd', Same Hd Hd' ∧ AbsH K H' Hd' O' ∧ Rep K Hd' v d ∧ Q d O'
theorem Post.lift {K : PySem.W.Frag} {Hd Hd' : Hp} {Q : PD} {v : V} {H' : Hp} (s : Same Hd Hd') (p : Post K Hd' Q v H') : Post K Hd Q v H' :=
 let ⟨d, O', Hd2, s2, h, r, q⟩ := p; ⟨d, O', Hd2, s.trans s2, h, r, q⟩
structure WE (X : Cx) (E : ExP) (e : Expr) (Γ : Env') (O : Own) (Q : PD) : Prop where
 run : ∀ (W : WX) (σ : L2.St) (H Hd : Hp), Pre X E W σ H Hd Γ O → wE X e σ H (Post X.K Hd Q)
def PostT (K : PySem.W.Frag) (Hd : Hp) (Q : Bool → Own → Prop) : Bool → Hp → Prop := fun b H' => ∃ O' Hd', Same Hd Hd' ∧ AbsH K H' Hd' O' ∧ Q b O'
structure WT (X : Cx) (E : ExP) (e : Expr) (Γ : Env') (O : Own) (Q : Bool → Own → Prop) : Prop where
 run : ∀ (W : WX) (σ : L2.St) (H Hd : Hp), Pre X E W σ H Hd Γ O → wT X e σ H (PostT X.K Hd Q)
structure WW (X : Cx) (E : ExP) (e : Expr) (Γ : Env') (O : Own) (Q : Bool → Own → Prop) : Prop where
 run : ∀ (W : WX) (σ : L2.St) (H Hd : Hp), Pre X E W σ H Hd Γ O → wW X e σ H (PostT X.K Hd Q)
def PostA (K : PySem.W.Frag) (Hd : Hp) (Q : List D → Own → Prop) : List V → Hp → Prop := fun vs H' => ∃ ds O' Hd', Same Hd Hd' ∧ AbsH K H' Hd' O' ∧ Reps K Hd' vs ds ∧ Q ds O'
structure WA (X : Cx) (E : ExP) (es : List Expr) (Γ : Env') (O : Own) (Q : List D → Own → Prop) : Prop where
 run : ∀ (W : WX) (σ : L2.St) (H Hd : Hp), Pre X E W σ H Hd Γ O → wA X es σ H (PostA X.K Hd Q)
structure EndsD where
 nx : Env' → Own → Prop
 rt : PD
 bk : Env' → Own → Prop := fun _ _ => False
 ct : Env' → Own → Prop := fun _ _ => False
def PostS (K : PySem.W.Frag) (Hd : Hp) (Q : Env' → Own → Prop) : L2.St → Hp → Prop := fun σ' H' => ∃ Γ' O' Hd', Same Hd Hd' ∧ AbsG K Hd' σ' Γ' ∧ AbsH K H' Hd' O' ∧ Q Γ' O'
theorem PostS.lift {K : PySem.W.Frag} {Hd Hd' : Hp} {Q : Env' → Own → Prop} {v : L2.St} {H' : Hp} (s : Same Hd Hd') (p : PostS K Hd' Q v H') : PostS K Hd Q v H' :=
 let ⟨d, O', Hd2, s2, h, r, q⟩ := p; ⟨d, O', Hd2, s.trans s2, h, r, q⟩
def ends (K : PySem.W.Frag) (Hd : Hp) (De : EndsD) : Ends := { nx := PostS K Hd De.nx, rt := Post K Hd De.rt, bk := PostS K Hd De.bk, ct := PostS K Hd De.ct }
theorem ends_lift {K : PySem.W.Frag} {Hd Hd' : Hp} {De : EndsD} (s : Same Hd Hd') : EndsLe (ends K Hd' De) (ends K Hd De) :=
 ⟨fun _ _ p => p.lift s, fun _ _ p => p.lift s, fun _ _ p => p.lift s, fun _ _ p => p.lift s⟩
structure WS (X : Cx) (E : ExP) (st : Stmt) (Γ : Env') (O : Own) (De : EndsD) : Prop where
 run : ∀ (W : WX) (σ : L2.St) (H Hd : Hp), Pre X E W σ H Hd Γ O → wS X st (ends X.K Hd De) σ H
structure WSs (X : Cx) (E : ExP) (st : List Stmt) (Γ : Env') (O : Own) (De : EndsD) : Prop where
 run : ∀ (W : WX) (σ : L2.St) (H Hd : Hp), Pre X E W σ H Hd Γ O → wSs X st (ends X.K Hd De) σ H
structure WG (X : Cx) (E : ExP) (tg : Expr) (d : D) (Γ : Env') (O : Own) (Q : Env' → Own → Prop) : Prop where
 run : ∀ (W : WX) (σ : L2.St) (H Hd : Hp) (v : V), Pre X E W σ H Hd Γ O → Rep X.K Hd v d → wG X tg v σ H (PostS X.K Hd Q)
structure WGs (X : Cx) (E : ExP) (ts : List Expr) (ds : List D) (Γ : Env') (O : Own) (Q : Env' → Own → Prop) : Prop where
 run : ∀ (W : WX) (σ : L2.St) (H Hd : Hp) (vs : List V), Pre X E W σ H Hd Γ O → Reps X.K Hd vs ds → wGs X ts vs σ H (PostS X.K Hd Q)
def ItOf (K : PySem.W.Frag) (Hd : Hp) (G : Own → Prop) (J : It) (ds : List D) : Prop := ∀ (i : Nat) (H Hd1 : Hp) (O : Own), Same Hd Hd1 → AbsH K H Hd1 O → G O →
 (∀ d, ds[i]? = some d → J.go i H ∧ ∀ x H', J.yld i H x H' → ∃ Hd', Same Hd1 Hd' ∧ AbsH K H' Hd' O ∧ Rep K Hd' x d) ∧ (ds.length ≤ i → J.stop i H)
structure WI (X : Cx) (E : ExP) (tg iter : Expr) (Γ : Env') (O : Own) (R : (Own → Prop) → List D → Own → Prop) : Prop where
 run : ∀ (W : WX) (σ : L2.St) (H Hd : Hp), Pre X E W σ H Hd Γ O →
 wI X tg iter σ H (fun J H' => ∃ G ds O' Hd', Same Hd Hd' ∧ AbsH X.K H' Hd' O' ∧ ItOf X.K Hd' G J ds ∧ R G ds O')
section
variable {X : Cx} {E : ExP} {W : WX} {σ : L2.St} {H Hd : Hp} {Γ : Env'} {O : Own} {e : Expr} {Q : PD}
theorem WE.use (h : WE X E e Γ O Q) (p : Pre X E W σ H Hd Γ O) {Q' : VK} (k : ∀ v H' d O' Hd', Same Hd Hd' → Pre X E W σ H' Hd' Γ O' → Rep X.K Hd' v d → Q d O' → Q' v H') : wE X e σ H Q' :=
 wE_mono (h.run W σ H Hd p) fun v H' ⟨d, O', Hd', s, a, r, q⟩ => k v H' d O' Hd' s (p.go s a) r q
theorem WT.use {Q : Bool → Own → Prop} (h : WT X E e Γ O Q) (p : Pre X E W σ H Hd Γ O) {Q' : Bool → Hp → Prop} (k : ∀ b H' O' Hd', Same Hd Hd' → Pre X E W σ H' Hd' Γ O' → Q b O' → Q' b H') : wT X e σ H Q' :=
 wT_mono (h.run W σ H Hd p) fun b H' ⟨O', Hd', s, a, q⟩ => k b H' O' Hd' s (p.go s a) q
theorem WW.use {Q : Bool → Own → Prop} (h : WW X E e Γ O Q) (p : Pre X E W σ H Hd Γ O) {Q' : Bool → Hp → Prop} (k : ∀ b H' O' Hd', Same Hd Hd' → Pre X E W σ H' Hd' Γ O' → Q b O' → Q' b H') : wW X e σ H Q' :=
 wW_mono (h.run W σ H Hd p) fun b H' ⟨O', Hd', s, a, q⟩ => k b H' O' Hd' s (p.go s a) q
theorem WA.use {es : List Expr} {Q : List D → Own → Prop} (h : WA X E es Γ O Q) (p : Pre X E W σ H Hd Γ O) {Q' : List V → Hp → Prop} (k : ∀ v H' d O' Hd', Same Hd Hd' → Pre X E W σ H' Hd' Γ O' → Reps X.K Hd' v d → Q d O' → Q' v H') : wA X es σ H Q' :=
 wA_mono (h.run W σ H Hd p) fun v H' ⟨d, O', Hd', s, a, r, q⟩ => k v H' d O' Hd' s (p.go s a) r q
theorem WG.use {tg : Expr} {d : D} {Q : Env' → Own → Prop} (h : WG X E tg d Γ O Q) (p : Pre X E W σ H Hd Γ O) {v : V} (r : Rep X.K Hd v d) {Q' : L2.St → Hp → Prop} (k : ∀ σ' H' Γ' O' Hd', Same Hd Hd' → Pre X E W σ' H' Hd' Γ' O' → Q Γ' O' → Q' σ' H') : wG X tg v σ H Q' :=
 wG_mono (h.run W σ H Hd v p r) fun σ' H' ⟨Γ', O', Hd', s, g, a, q⟩ => k σ' H' Γ' O' Hd' s (p.go2 s a g) q
theorem WE.mono {Q' : PD} (h : WE X E e Γ O Q) (k : ∀ d O', Q d O' → Q' d O') : WE X E e Γ O Q' := .mk fun W σ H Hd p =>
 h.use p fun v H' d O' Hd' s p' r q => ⟨d, O', Hd', s, p'.h, r, k d O' q⟩
theorem WT.mono {Q Q' : Bool → Own → Prop} (h : WT X E e Γ O Q) (k : ∀ d O', Q d O' → Q' d O') : WT X E e Γ O Q' := .mk fun W σ H Hd p =>
 h.use p fun v H' O' Hd' s p' q => ⟨O', Hd', s, p'.h, k v O' q⟩
theorem WE.sub {O' : Own} (s : Sub O' O) (h : WE X E e Γ O' Q) : WE X E e Γ O Q := .mk fun W σ H Hd p => h.run W σ H Hd ⟨p.tk, p.g, p.h.sub s, p.ex⟩
theorem WSs.sub {O' : Own} {st : List Stmt} {De : EndsD} (s : Sub O' O) (h : WSs X E st Γ O' De) : WSs X E st Γ O De := .mk fun W σ H Hd p => h.run W σ H Hd ⟨p.tk, p.g, p.h.sub s, p.ex⟩
theorem WSs.fix {p : Addr} {ds : List D} {st : List Stmt} {De : EndsD} {i : Nat} (hO : O p = some (.lst ds)) (hi : Γ[i]? = some (some (.obj p))) (h : WSs X E st (Γ.set i (some (.lst ds))) (delO O p) De) : WSs X E st Γ O De := .mk fun W σ H Hd q => by
 obtain ⟨Hd', s, a, r⟩ := q.h.fix hO
 exact wSs_mono (h.run W σ H Hd' (q.go2 s a ((q.g.mono s).subst r hi))) (ends_lift s)
theorem WSs.opn {p : Addr} {Pw : List D → Prop} {st : List Stmt} {De : EndsD} (hO : O p = some (.any Pw)) (h : ∀ ds, Pw ds → WSs X E st Γ (updO O p (.lst ds)) De) : WSs X E st Γ O De := .mk fun W σ H Hd q => by
 obtain ⟨ds, w, a⟩ := q.h.opn hO
 exact (h ds w).run W σ H Hd (q.go (Same.refl _) a)
theorem WSs.cls {p : Addr} {Pw : List D → Prop} {ds : List D} {st : List Stmt} {De : EndsD} (hO : O p = some (.lst ds)) (w : Pw ds) (h : WSs X E st Γ (updO O p (.any Pw)) De) : WSs X E st Γ O De := .mk fun W σ H Hd q =>
 h.run W σ H Hd (q.go (Same.refl _) (q.h.cls hO w))
end
end RW
namespace RW
open PySem PySem.Spec PyProof.Rows L2
def Mk (ds : List D) (O : Own) (Q : PD) : Prop := Q (.lst ds) O ∨ ∀ p, O p = none → Q (.obj p) (updO O p (.lst ds))
theorem Mk.fix {ds : List D} {O : Own} {Q : PD} (h : Q (.lst ds) O) : Mk ds O Q := .inl h
theorem Mk.own {ds : List D} {O : Own} {Q : PD} (h : ∀ p, O p = none → Q (.obj p) (updO O p (.lst ds))) : Mk ds O Q := .inr h
section
variable {K : PySem.W.Frag} {H Hd : Hp} {O : Own} {Q : PD}
theorem Post.of {v : V} {d : D} (h : AbsH K H Hd O) (r : Rep K Hd v d) (q : Q d O) : Post K Hd Q v H := ⟨d, O, Hd, Same.refl _, h, r, q⟩
theorem Post.mk {p : Addr} {vs : List V} {ds : List D} (h : AbsH K H Hd O) (n : H p = none) (r : Reps K Hd vs ds) (q : Mk ds O Q) : Post K Hd Q (.ref p) (upd H p (.lst vs)) := by
 rcases q with q | q
 · have s := same_new (o := HO.lst vs) (h.free n)
   exact ⟨.lst ds, O, _, s, h.lay n, .lst upd_same (r.mono s), q⟩
 · exact ⟨.obj p, _, Hd, Same.refl _, h.putL (h.free n) r, .obj p, q p (h.freeO n)⟩
theorem Post.mkT {p : Addr} {o : Obj} {vs : List V} {ds : List D} (h : AbsH K H Hd O) (n : H p = none) (hd : o.dict = none) (r : Reps K Hd vs ds) (q : Q (.tup ds) O) : Post K Hd Q (.ref p) (upd H p (.frz o (.tup vs))) := by
 have s := same_new (o := HO.frz o (.tup vs)) (h.free n)
 exact ⟨.tup ds, O, _, s, h.lay n, .tup (.inl ⟨o, upd_same, hd⟩) (r.mono s), q⟩
end
section
variable {X : Cx} {E : ExP} {Γ : Env'} {O : Own} {e a b : Expr} {Q : PD} {pos : Pos}
theorem w_var (i : Nat) {x : Str} {d : D} (hd : Γ[i]? = some (some d)) (q : Q d O) (hN : X.N[i]? = some x := by rfl) (hv : Vis X.env.scope x := by first | exact Or.inl rfl | exact Or.inr (Or.inl rfl) | exact Or.inr (Or.inr rfl))
  (h1 : (x == ("__debug__" : Str)) = false := by decide) (h2 : (x == ("__classdict__" : Str)) = false := by decide) : WE X E (.Name x pos) Γ O Q := .mk fun W σ H Hd p =>
 wE_of (pv i hN hv h1 h2) (let ⟨v, e, r⟩ := p.g.2 i d hd; ⟨v, e, .of p.h r q⟩)
theorem w_int {i : Int} {j : Nat} (q : Q (.int i) O) : WE X E (.Constant (.int i) j pos) Γ O Q := .mk fun W σ H Hd p => wE_of pe_int (.of p.h (.int i) q)
theorem w_bl {i : Bool} {j : Nat} (q : Q (.bl i) O) : WE X E (.Constant (.bool i) j pos) Γ O Q := .mk fun W σ H Hd p => wE_of pe_bl (.of p.h (.bl i) q)
theorem w_non {j : Nat} (q : Q .non O) : WE X E (.Constant .none j pos) Γ O Q := .mk fun W σ H Hd p => wE_of pe_non (.of p.h .non q)
theorem w_str {x : Str} {j : Nat} (q : Q (.str x) O) : WE X E (.Constant (.str x) j pos) Γ O Q := .mk fun W σ H Hd p => wE_of pe_str (.of p.h (.str x) q)
theorem w_glob {x : Str} {v : V} {u : Value} {d : D} (hm : X.mg x = some u) (r : RelV v u) (rd : ∀ Hd, Rep X.K Hd v d) (q : Q d O) (hg : Gl X x := by rfl) (hd : (x == ("__debug__" : Str)) = false := by decide) : WE X E (.Name x pos) Γ O Q := .mk fun W σ H Hd p =>
 wE_of (pe_glob hg hm r hd) (.of p.h (rd Hd) q)
theorem w_globI {x : Str} {i : Int} {t : Tok} (hm : X.mg x = some (.int i t)) (q : Q (.int i) O) (hg : Gl X x := by rfl) (hd : (x == ("__debug__" : Str)) = false := by decide) : WE X E (.Name x pos) Γ O Q :=
 w_glob hm (v := .int i) ⟨t, rfl⟩ (fun _ => .int i) q hg hd
theorem w_globS {x : Str} {i : Str} {t : Tok} (hm : X.mg x = some (.str i t)) (q : Q (.str i) O) (hg : Gl X x := by rfl) (hd : (x == ("__debug__" : Str)) = false := by decide) : WE X E (.Name x pos) Γ O Q :=
 w_glob hm (v := .str i) ⟨t, rfl⟩ (fun _ => .str i) q hg hd
def R2ok (X : Cx) (r : R2) (S : D → D → Own → PD → Prop) : Prop := ∀ (x y : D) (O : Own) (v u : V) (H Hd : Hp) (Q : PD) (Q' : VK), AbsH X.K H Hd O → Rep X.K Hd v x → Rep X.K Hd u y → S x y O Q → (∀ v H', Post X.K Hd Q v H' → Q' v H') → r v u H Q'
theorem R2ok.run {r : R2} {S : D → D → Own → PD → Prop} (hS : R2ok X r S) {W : WX} {σ : L2.St} {H Hd : Hp} (p : Pre X E W σ H Hd Γ O) (h : WE X E a Γ O fun x O1 => WE X E b Γ O1 fun y O2 => S x y O2 Q) : tOp r (wE X a) (wE X b) σ H (Post X.K Hd Q) :=
 h.use p fun v H1 x O1 Hd1 s1 p1 r1 q1 => q1.use p1 fun u H2 y O2 Hd2 s2 p2 r2 q2 => hS x y O2 v u H2 Hd2 Q _ p2.h (r1.mono s2) r2 q2 fun _ _ z => z.lift (s1.trans s2)
theorem w_op2 {r : R2} {S : D → D → Own → PD → Prop} {op : Operator} (ho : OpR X (binaryOp op) r) (hS : R2ok X r S) (h : WE X E a Γ O fun x O1 => WE X E b Γ O1 fun y O2 => S x y O2 Q) : WE X E (.BinOp a op b pos) Γ O Q := .mk fun W σ H Hd p =>
 wE_of (pe_op ho peW peW) (hS.run p h)
theorem w_cmp2 {r : R2} {S : D → D → Own → PD → Prop} {op : CmpOp} (ho : OpR X (compareOp op) r) (hS : R2ok X r S) (hm : behindInMarks op b = false) (h : WE X E a Γ O fun x O1 => WE X E b Γ O1 fun y O2 => S x y O2 Q) : WE X E (.Compare a [op] [b] pos) Γ O Q := .mk fun W σ H Hd p =>
 wE_of (pe_cmpR ho peW peW hm) (hS.run p h)
def sTest (Q : Bool → Own → Prop) : PD := fun d O => ∃ b, d = .bl b ∧ Q b O
theorem post_test {K : PySem.W.Frag} {Hd : Hp} {Q : Bool → Own → Prop} {v : V} {H : Hp} (h : Post K Hd (sTest Q) v H) : ∃ b, v = .bl b ∧ PostT K Hd Q b H := by
 obtain ⟨d, O, Hd', s, a, r, b, rfl, q⟩ := h
 cases r
 exact ⟨b, rfl, O, Hd', s, a, q⟩
theorem wt_cmp2 {r : R2} {S : D → D → Own → PD → Prop} {Q : Bool → Own → Prop} {op : CmpOp} (ho : OpR X (compareOp op) r) (hS : R2ok X r S) (hm : behindInMarks op b = false) (h : WE X E a Γ O fun x O1 => WE X E b Γ O1 fun y O2 => S x y O2 (sTest Q)) : WT X E (.Compare a [op] [b] pos) Γ O Q := .mk fun W σ H Hd p =>
 wT_of (pt_cmpR ho peW peW hm) (h.use p fun v H1 x O1 Hd1 s1 p1 r1 q1 => q1.use p1 fun u H2 y O2 Hd2 s2 p2 r2 q2 => hS x y O2 v u H2 Hd2 (sTest Q) _ p2.h (r1.mono s2) r2 q2 fun _ _ z => post_test (z.lift (s1.trans s2)))
theorem wt_val {Q : Bool → Own → Prop} (h : WE X E e Γ O (sTest Q)) (he : ∀ whole, isTrue e X.env whole = (do let v ← whole; standAt e.pos; holding [v] (truthy v)) := by intro _; rfl) : WT X E e Γ O Q := .mk fun W σ H Hd p =>
 wT_of (pt_val peW he) (wE_mono (h.run W σ H Hd p) fun _ _ z => post_test z)
def sAdd (x y : D) (O : Own) (Q : PD) : Prop := match x, y with
 | .int i, .int j => Q (.int (i + j)) O
 | .str s, .str t => s.length + t.length ≤ sizeLine ∧ Q (.str (s ++ t)) O
 | .tup xs, .tup ys => xs.length + ys.length ≤ sizeLine ∧ Q (.tup (xs ++ ys)) O
 | x, y => ∃ xs ys, asM O x = some xs ∧ asM O y = some ys ∧ xs.length + ys.length ≤ sizeLine ∧ Mk (xs ++ ys) O Q
theorem rok_add : R2ok X (fun x y H Q => (∃ i j, x = .int i ∧ y = .int j ∧ Q (.int (i + j)) H) ∨ (∃ i j, x = .str i ∧ y = .str j ∧ i.length + j.length ≤ sizeLine ∧ Q (.str (i ++ j)) H) ∨ rCatN X.K x y H Q ∨ rCat x y H Q) sAdd := by
 intro x y O v u H Hd Q Q' h rx ry q k
 unfold sAdd at q
 split at q
 · cases rx; cases ry
   exact .inl ⟨_, _, rfl, rfl, k _ _ (.of h (.int _) q)⟩
 · cases rx; cases ry
   exact .inr (.inl ⟨_, _, rfl, rfl, q.1, k _ _ (.of h (.str _) q.2)⟩)
 · rename_i xs ys
   cases rx with | tup g1 r1 =>
   cases ry with | tup g2 r2 =>
   refine .inr (.inr (.inl ⟨_, _, _, _, rfl, rfl, Same.sqT h.same g1.sqT, Same.sqT h.same g2.sqT, by rw [r1.length, r2.length]; exact q.1, fun z => ?_, fun _ z => ?_, fun _ _ p o np hd => ?_⟩))
   · have e : xs = [] := r1.nil_iff.mp z
     subst e
     exact k _ _ (.of h (.tup g2 r2) (by simpa using q.2))
   · have e : ys = [] := r2.nil_iff.mp z
     subst e
     exact k _ _ (.of h (.tup g1 r1) (by simpa using q.2))
   · exact k _ _ (.mkT h np hd (r1.append r2) q.2)
 · obtain ⟨xs, ys, e1, e2, hl, q⟩ := q
   obtain ⟨a, vs, rfl, h1, r1⟩ := h.readM rx e1
   obtain ⟨b, us, rfl, h2, r2⟩ := h.readM ry e2
   exact .inr (.inr (.inr ⟨a, b, vs, us, rfl, rfl, h1, h2, by rw [r1.length, r2.length]; exact hl, fun p np => k _ _ (.mk h np (r1.append r2) q)⟩))
theorem w_add (h : WE X E a Γ O fun x O1 => WE X E b Γ O1 fun y O2 => sAdd x y O2 Q) : WE X E (.BinOp a .Add b pos) Γ O Q :=
 w_op2 (.or op_add (.or op_add_str (.or op_catN op_cat))) rok_add h
def sSub (x y : D) (O : Own) (Q : PD) : Prop := ∃ i j, x = .int i ∧ y = .int j ∧ Q (.int (i - j)) O
theorem w_sub (h : WE X E a Γ O fun x O1 => WE X E b Γ O1 fun y O2 => sSub x y O2 Q) : WE X E (.BinOp a .Sub b pos) Γ O Q :=
 w_op2 op_sub (fun x y O v u H Hd Q Q' h rx ry q k => by
  obtain ⟨i, j, rfl, rfl, q⟩ := q
  cases rx; cases ry
  exact ⟨_, _, rfl, rfl, k _ _ (.of h (.int _) q)⟩) h
def sMul (x y : D) (O : Own) (Q : PD) : Prop := match x, y with
 | .int i, .int j => (CMul i j ∨ CMulW i j) ∧ Q (.int (i * j)) O
 | .tup xs, .int k => xs ≠ [] ∧ 2 ≤ k ∧ k ≤ 1000 ∧ xs.length ≤ 1000 ∧ Q (.tup (List.replicate k.toNat xs).flatten) O
 | x, y => ∃ xs k, asM O x = some xs ∧ y = .int k ∧ -(2 ^ 63) ≤ k ∧ k < 2 ^ 63 ∧ xs.length * k.toNat ≤ sizeLine ∧ Mk (List.replicate k.toNat xs).flatten O Q
theorem w_mul (h : WE X E a Γ O fun x O1 => WE X E b Γ O1 fun y O2 => sMul x y O2 Q) : WE X E (.BinOp a .Mult b pos) Γ O Q :=
 w_op2 (.or op_mul (.or op_mulW (.or op_repN op_rep))) (fun x y O v u H Hd Q Q' h rx ry q k => by
  unfold sMul at q
  split at q
  · cases rx; cases ry
    obtain ⟨c, q⟩ := q
    rcases c with c | c
    · exact .inl ⟨_, _, rfl, rfl, c, k _ _ (.of h (.int _) q)⟩
    · exact .inr (.inl ⟨_, _, rfl, rfl, c, k _ _ (.of h (.int _) q)⟩)
  · obtain ⟨hne, h2, h3, h4, q⟩ := q
    cases rx with | tup g1 r1 =>
    cases ry
    exact .inr (.inr (.inl ⟨_, _, _, rfl, rfl, Same.sqT h.same g1.sqT, fun e => hne (r1.nil_iff.mp e), h2, h3, by rw [r1.length]; exact h4, fun p o np hd => k _ _ (.mkT h np hd (r1.rep _) q)⟩))
  · obtain ⟨xs, n, e1, rfl, h2, h3, h4, q⟩ := q
    cases ry
    obtain ⟨a, vs, rfl, g1, r1⟩ := h.readM rx e1
    exact .inr (.inr (.inr ⟨a, n, vs, rfl, rfl, g1, h2, h3, by rw [r1.length]; exact h4, fun p np => k _ _ (.mk h np (r1.rep _) q)⟩))) h
def sMod (x y : D) (O : Own) (Q : PD) : Prop := ∃ i j, x = .int i ∧ y = .int j ∧ 0 < j ∧ Q (.int (i % j)) O
theorem w_mod (h : WE X E a Γ O fun x O1 => WE X E b Γ O1 fun y O2 => sMod x y O2 Q) : WE X E (.BinOp a .Mod b pos) Γ O Q :=
 w_op2 op_mod (fun x y O v u H Hd Q Q' h rx ry q k => by
  obtain ⟨i, j, rfl, rfl, c, q⟩ := q
  cases rx; cases ry
  exact ⟨_, _, rfl, rfl, c, k _ _ (.of h (.int _) q)⟩) h
def sDiv (x y : D) (O : Own) (Q : PD) : Prop := ∃ i j, x = .int i ∧ y = .int j ∧ (CDiv i j ∨ CDivW i j) ∧ Q (.int (i / j)) O
theorem w_div (h : WE X E a Γ O fun x O1 => WE X E b Γ O1 fun y O2 => sDiv x y O2 Q) : WE X E (.BinOp a .FloorDiv b pos) Γ O Q :=
 w_op2 (.or op_fdiv op_fdivW) (fun x y O v u H Hd Q Q' h rx ry q k => by
  obtain ⟨i, j, rfl, rfl, c, q⟩ := q
  cases rx; cases ry
  rcases c with c | c
  · exact .inl ⟨_, _, rfl, rfl, c, k _ _ (.of h (.int _) q)⟩
  · exact .inr ⟨_, _, rfl, rfl, c, k _ _ (.of h (.int _) q)⟩) h
def sPow (x y : D) (O : Own) (Q : PD) : Prop := ∃ i j, x = .int i ∧ y = .int j ∧ CPow i j ∧ Q (.int (i ^ j.toNat)) O
theorem w_pow (h : WE X E a Γ O fun x O1 => WE X E b Γ O1 fun y O2 => sPow x y O2 Q) : WE X E (.BinOp a .Pow b pos) Γ O Q :=
 w_op2 op_pow (fun x y O v u H Hd Q Q' h rx ry q k => by
  obtain ⟨i, j, rfl, rfl, c, q⟩ := q
  cases rx; cases ry
  exact ⟨_, _, rfl, rfl, c, k _ _ (.of h (.int _) q)⟩) h
theorem w_neg (h : WE X E a Γ O fun x O1 => ∃ i, x = .int i ∧ Q (.int (-i)) O1) : WE X E (.UnaryOp .USub a pos) Γ O Q := .mk fun W σ H Hd p =>
 wE_of (pe_un un_neg peW) (h.use p fun v H1 x O1 Hd1 s1 p1 r1 ⟨i, e, q⟩ => by
  subst e
  cases r1
  exact ⟨i, rfl, .lift s1 (.of p1.h (.int _) q)⟩)
def sCmpI (f : Int → Int → Bool) (x y : D) (O : Own) (Q : PD) : Prop := ∃ i j, x = .int i ∧ y = .int j ∧ Q (.bl (f i j)) O
theorem rok_cmpI {f : Int → Int → Bool} : R2ok X (rI0 fun i j => .bl (f i j)) (sCmpI f) := fun x y O v u H Hd Q Q' h rx ry q k => by
 obtain ⟨i, j, rfl, rfl, q⟩ := q
 cases rx; cases ry
 exact ⟨_, _, rfl, rfl, k _ _ (.of h (.bl _) q)⟩
abbrev fLt (i j : Int) : Bool := decide (i < j)
abbrev fLe (i j : Int) : Bool := decide (i ≤ j)
abbrev fGt (i j : Int) : Bool := decide (j < i)
abbrev fGe (i j : Int) : Bool := decide (j ≤ i)
theorem w_lt (h : WE X E a Γ O fun x O1 => WE X E b Γ O1 fun y O2 => sCmpI fLt x y O2 Q) : WE X E (.Compare a [.Lt] [b] pos) Γ O Q := w_cmp2 op_lt rok_cmpI (nomark _) h
theorem w_le (h : WE X E a Γ O fun x O1 => WE X E b Γ O1 fun y O2 => sCmpI fLe x y O2 Q) : WE X E (.Compare a [.LtE] [b] pos) Γ O Q := w_cmp2 op_le rok_cmpI (nomark _) h
theorem w_gt (h : WE X E a Γ O fun x O1 => WE X E b Γ O1 fun y O2 => sCmpI fGt x y O2 Q) : WE X E (.Compare a [.Gt] [b] pos) Γ O Q := w_cmp2 op_gt rok_cmpI (nomark _) h
theorem w_ge (h : WE X E a Γ O fun x O1 => WE X E b Γ O1 fun y O2 => sCmpI fGe x y O2 Q) : WE X E (.Compare a [.GtE] [b] pos) Γ O Q := w_cmp2 op_ge rok_cmpI (nomark _) h
theorem wt_lt {Q : Bool → Own → Prop} (h : WE X E a Γ O fun x O1 => WE X E b Γ O1 fun y O2 => sCmpI fLt x y O2 (sTest Q)) : WT X E (.Compare a [.Lt] [b] pos) Γ O Q := wt_cmp2 op_lt rok_cmpI (nomark _) h
theorem wt_le {Q : Bool → Own → Prop} (h : WE X E a Γ O fun x O1 => WE X E b Γ O1 fun y O2 => sCmpI fLe x y O2 (sTest Q)) : WT X E (.Compare a [.LtE] [b] pos) Γ O Q := wt_cmp2 op_le rok_cmpI (nomark _) h
theorem wt_gt {Q : Bool → Own → Prop} (h : WE X E a Γ O fun x O1 => WE X E b Γ O1 fun y O2 => sCmpI fGt x y O2 (sTest Q)) : WT X E (.Compare a [.Gt] [b] pos) Γ O Q := wt_cmp2 op_gt rok_cmpI (nomark _) h
theorem wt_ge {Q : Bool → Own → Prop} (h : WE X E a Γ O fun x O1 => WE X E b Γ O1 fun y O2 => sCmpI fGe x y O2 (sTest Q)) : WT X E (.Compare a [.GtE] [b] pos) Γ O Q := wt_cmp2 op_ge rok_cmpI (nomark _) h
def scalD : D → D → Bool
 | .non, .non => true | .non, .int _ => true | .int _, .non => true | .non, .bl _ => true | .bl _, .non => true | .non, .str _ => true | .str _, .non => true
 | .int _, .int _ => true | .bl _, .bl _ => true | .str _, .str _ => true
 | .int _, .str _ => true | .str _, .int _ => true | .bl _, .str _ => true | .str _, .bl _ => true
 | _, _ => false
def eqF : D → D → Bool
 | .non, .non => true
 | .int i, .int j => decide (i = j)
 | .bl i, .bl j => decide (i = j)
 | .str i, .str j => decide (i = j)
 | _, _ => false
theorem scalD_ok {K : PySem.W.Frag} {H : Hp} {x y : D} {v u : V} (rx : Rep K H v x) (ry : Rep K H u y) (h : scalD x y = true) : scal v u = true ∧ decide (v = u) = eqF x y := by
 cases rx <;> cases ry <;> simp_all [scalD, scal, eqF]
mutual
def toPy : D → PyData
 | .non => .none
 | .bl b => .bool b
 | .int i => .int i
 | .str x => .str x
 | .lst xs => .list (toPys xs)
 | .rol xs => .list (toPys xs)
 | .tup xs => .tuple (toPys xs)
 | _ => .dict []
def toPys : List D → List PyData
 | [] => []
 | d :: ds => toPy d :: toPys ds
end
mutual
def isPy : D → Bool
 | .non => true
 | .bl b => true
 | .int i => true
 | .str x => true
 | .lst xs => isPys xs
 | .rol xs => isPys xs
 | .tup xs => isPys xs
 | _ => false
def isPys : List D → Bool
 | [] => true
 | d :: ds => isPy d && isPys ds
end
mutual
theorem Rep.dp {K : PySem.W.Frag} {H : Hp} : ∀ {v : V} {d : D}, Rep K H v d → isPy d = true → Dp K H v (toPy d)
 | _, _, .non, _ => by simpa [toPy] using Dp.non
 | _, _, .bl b, _ => by simpa [toPy] using Dp.bl b
 | _, _, .int b, _ => by simpa [toPy] using Dp.int b
 | _, _, .str b, _ => by simpa [toPy] using Dp.str b
 | _, _, .ty b, h => by simp [isPy] at h
 | _, _, .obj b, h => by simp [isPy] at h
 | _, _, .lst g r, h => by
   simp only [isPy] at h
   simp only [toPy]
   exact .lst (.inl (.inl g)) (Reps.dp r h)
 | _, _, .rol g r, h => by
   simp only [isPy] at h
   simp only [toPy]
   exact .lst g (Reps.dp r h)
 | _, _, .tup g r, h => by
   simp only [isPy] at h
   simp only [toPy]
   exact .tup g.sqT (Reps.dp r h)
 | _, _, .pr _ _, h => by simp [isPy] at h
 | _, _, .ins _ _, h => by simp [isPy] at h
 | _, _, .xc _ _, h => by simp [isPy] at h
 | _, _, .lam _, h => by simp [isPy] at h
 | _, _, .dt _ _ _ _, h => by simp [isPy] at h
 | _, _, .dk _ _ _, h => by simp [isPy] at h
theorem Reps.dp {K : PySem.W.Frag} {H : Hp} : ∀ {v : List V} {d : List D}, Reps K H v d → isPys d = true → DpAll K H v (toPys d)
 | _, _, .nil, _ => by simpa [toPys] using DpAll.nil
 | _, _, .cons h r, g => by
   simp only [isPys, Bool.and_eq_true] at g
   simp only [toPys]
   exact .cons (Rep.dp h g.1) (Reps.dp r g.2)
end
theorem dp_mono {K : PySem.W.Frag} {H H' : Hp} (s : Same H H') {v : V} {d : D} (h : Rep K H v d) (g : isPy d = true) : Dp K H' v (toPy d) := (h.mono s).dp g
def cmpD (O : Own) (x : D) : Option D := match x with
 | .obj p => match O p with
   | some (.lst xs) => some (.lst xs)
   | _ => none
 | x => some x
def goodD (d : D) : Bool := isPy d && SeqAt.shaped (toPy d)
def eqvD (x y : D) : Bool := PyData.eqv (toPy x) (toPy y)
theorem AbsH.cmp {K : PySem.W.Frag} {H Hd : Hp} {O : Own} (h : AbsH K H Hd O) {v : V} {x y : D} (r : Rep K Hd v x) (e : cmpD O x = some y) (g : isPy y = true) : Dp K H v (toPy y) := by
 cases x with
 | obj p =>
   simp only [cmpD] at e
   split at e
   · rename_i xs z
     cases e
     cases r
     obtain ⟨_, vs, h1, h2⟩ := h.own p _ z
     simp only [isPy] at g
     simp only [toPy]
     exact .lst (.inl (.inl h1)) ((h2.mono h.same).dp g)
   · cases e
 | _ => simp only [cmpD, Option.some.injEq] at e; subst e; exact dp_mono h.same r g
def sEq (neg : Bool) (x y : D) (O : Own) (Q : PD) : Prop := (scalD x y = true ∧ Q (.bl (if neg then !eqF x y else eqF x y)) O) ∨
 ∃ x' y', cmpD O x = some x' ∧ cmpD O y = some y' ∧ goodD x' = true ∧ goodD y' = true ∧ Q (.bl (if neg then !eqvD x' y' else eqvD x' y')) O
theorem rok_eq : R2ok X (fun x y H Q => rEq x y H Q ∨ rEqD X.K x y H Q) (sEq false) := fun x y O v u H Hd Q Q' h rx ry q k => by
 rcases q with ⟨c, q⟩ | ⟨x', y', e1, e2, g1, g2, q⟩
 · obtain ⟨c1, c2⟩ := scalD_ok rx ry c
   exact .inl ⟨c1, k _ _ (.of h (.bl _) (by rw [c2]; exact q))⟩
 · simp only [goodD, Bool.and_eq_true] at g1 g2
   exact .inr ⟨_, _, h.cmp rx e1 g1.1, h.cmp ry e2 g2.1, g1.2, g2.2, k _ _ (.of h (.bl _) q)⟩
theorem rok_ne : R2ok X (fun x y H Q => rNe x y H Q ∨ rNeD X.K x y H Q) (sEq true) := fun x y O v u H Hd Q Q' h rx ry q k => by
 rcases q with ⟨c, q⟩ | ⟨x', y', e1, e2, g1, g2, q⟩
 · obtain ⟨c1, c2⟩ := scalD_ok rx ry c
   exact .inl ⟨c1, k _ _ (.of h (.bl _) (by rw [c2]; exact q))⟩
 · simp only [goodD, Bool.and_eq_true] at g1 g2
   exact .inr ⟨_, _, h.cmp rx e1 g1.1, h.cmp ry e2 g2.1, g1.2, g2.2, k _ _ (.of h (.bl _) q)⟩
theorem w_eq (hu : X.A.units + 64 < cLine) (h : WE X E a Γ O fun x O1 => WE X E b Γ O1 fun y O2 => sEq false x y O2 Q) : WE X E (.Compare a [.Eq] [b] pos) Γ O Q := w_cmp2 (.or op_eq (op_eqD hu)) rok_eq (nomark _) h
theorem w_ne (hu : X.A.units + 64 < cLine) (h : WE X E a Γ O fun x O1 => WE X E b Γ O1 fun y O2 => sEq true x y O2 Q) : WE X E (.Compare a [.NotEq] [b] pos) Γ O Q := w_cmp2 (.or op_ne (op_neD hu)) rok_ne (nomark _) h
theorem wt_eq {Q : Bool → Own → Prop} (hu : X.A.units + 64 < cLine) (h : WE X E a Γ O fun x O1 => WE X E b Γ O1 fun y O2 => sEq false x y O2 (sTest Q)) : WT X E (.Compare a [.Eq] [b] pos) Γ O Q := wt_cmp2 (.or op_eq (op_eqD hu)) rok_eq (nomark _) h
theorem wt_ne {Q : Bool → Own → Prop} (hu : X.A.units + 64 < cLine) (h : WE X E a Γ O fun x O1 => WE X E b Γ O1 fun y O2 => sEq true x y O2 (sTest Q)) : WT X E (.Compare a [.NotEq] [b] pos) Γ O Q := wt_cmp2 (.or op_ne (op_neD hu)) rok_ne (nomark _) h
def flatD : D → Bool
 | .non => true | .bl _ => true | .int _ => true | .str _ => true | _ => false
def eqFV : D → D → Bool
 | .non, .non => true
 | .bl a, .bl b => a == b
 | .bl a, .int b => (if a then 1 else 0) == b
 | .int a, .bl b => a == (if b then 1 else 0)
 | .int a, .int b => a == b
 | .str a, .str b => a == b
 | _, _ => false
def inD (x : D) (xs : List D) : Bool := xs.any fun y => eqFV y x
theorem flat_ok {K : PySem.W.Frag} {H : Hp} {x : D} {v : V} (rx : Rep K H v x) (h : flatD x = true) : flatV v = true := by
 cases rx <;> simp_all [flatD, flatV]
theorem eqFV_ok {K : PySem.W.Frag} {H : Hp} {x y : D} {v u : V} (rx : Rep K H v x) (ry : Rep K H u y) (hx : flatD x = true) (hy : flatD y = true) : eqV v u = eqFV x y := by
 cases rx <;> cases ry <;> simp_all [flatD, eqV, eqFV]
theorem flats_ok {K : PySem.W.Frag} {H : Hp} : ∀ {xs : List D} {vs : List V}, Reps K H vs xs → xs.all flatD = true → vs.all flatV = true
 | [], _, .nil, _ => rfl
 | _ :: _, _, .cons r t, h => by
   simp only [List.all_cons, Bool.and_eq_true] at h ⊢
   exact ⟨flat_ok r h.1, flats_ok t h.2⟩
theorem inD_ok {K : PySem.W.Frag} {H : Hp} {x : D} {v : V} (rx : Rep K H v x) (hx : flatD x = true) : ∀ {xs : List D} {vs : List V}, Reps K H vs xs → xs.all flatD = true → inV v vs = inD x xs
 | [], _, .nil, _ => rfl
 | y :: ys, _, .cons (v := w) (vs := ws) r t, h => by
   simp only [List.all_cons, Bool.and_eq_true] at h
   have ih := inD_ok rx hx t h.2
   unfold inV inD at ih ⊢
   rw [List.any_cons, List.any_cons, ih, eqFV_ok r rx h.1 hx]
def asS (O : Own) : D → Option (List D)
 | .tup xs => some xs
 | x => asL O x
theorem AbsH.readS {K : PySem.W.Frag} {H Hd : Hp} {O : Own} (h : AbsH K H Hd O) {v : V} {x : D} {xs : List D} (r : Rep K Hd v x) (e : asS O x = some xs) : ∃ a vs, v = .ref a ∧ (SqL K H a vs ∨ SqT K H a vs) ∧ Reps K Hd vs xs := by
 cases x with
 | tup ys =>
   simp [asS] at e; subst e
   cases r with | tup g r => exact ⟨_, _, rfl, .inr (Same.sqT h.same g.sqT), r⟩
 | _ =>
   obtain ⟨a, vs, h1, h2, h3⟩ := h.readL r (show asL O _ = some xs from e)
   exact ⟨a, vs, h1, .inl h2, h3⟩
def sIn (neg : Bool) (x y : D) (O : Own) (Q : PD) : Prop := match x, y with
 | .str s, .str t => Q (.bl (if neg then !(!(Builtin.Str.occurrences t s 0 t.length 1).isEmpty) else !(Builtin.Str.occurrences t s 0 t.length 1).isEmpty)) O
 | x, y => ∃ ys, asS O y = some ys ∧ flatD x = true ∧ ys.all flatD = true ∧ Q (.bl (if neg then !inD x ys else inD x ys)) O
theorem rok_in : R2ok X (fun x y H Q => (∃ i j, x = .str i ∧ y = .str j ∧ Q (.bl (!(Builtin.Str.occurrences j i 0 j.length 1).isEmpty)) H) ∨ rIn X.K false x y H Q) (sIn false) := fun x y O v u H Hd Q Q' h rx ry q k => by
 unfold sIn at q
 split at q
 · cases rx; cases ry
   exact .inl ⟨_, _, rfl, rfl, k _ _ (.of h (.bl _) q)⟩
 · obtain ⟨ys, e, f1, f2, q⟩ := q
   obtain ⟨a, vs, rfl, g, r⟩ := h.readS ry e
   exact .inr ⟨a, vs, rfl, g, flat_ok rx f1, flats_ok r f2, k _ _ (.of h (.bl _) (by rw [inD_ok rx f1 r f2]; exact q))⟩
theorem rok_nin : R2ok X (fun x y H Q => (∃ i j, x = .str i ∧ y = .str j ∧ Q (.bl (!(!(Builtin.Str.occurrences j i 0 j.length 1).isEmpty))) H) ∨ rIn X.K true x y H Q) (sIn true) := fun x y O v u H Hd Q Q' h rx ry q k => by
 unfold sIn at q
 split at q
 · cases rx; cases ry
   exact .inl ⟨_, _, rfl, rfl, k _ _ (.of h (.bl _) q)⟩
 · obtain ⟨ys, e, f1, f2, q⟩ := q
   obtain ⟨a, vs, rfl, g, r⟩ := h.readS ry e
   exact .inr ⟨a, vs, rfl, g, flat_ok rx f1, flats_ok r f2, k _ _ (.of h (.bl _) (by rw [inD_ok rx f1 r f2]; exact q))⟩
theorem w_in (h : WE X E a Γ O fun x O1 => WE X E b Γ O1 fun y O2 => sIn false x y O2 Q) (hm : behindInMarks .In b = false := by rfl) : WE X E (.Compare a [.In] [b] pos) Γ O Q := w_cmp2 (.or op_in_str op_in_seq) rok_in hm h
theorem w_nin (h : WE X E a Γ O fun x O1 => WE X E b Γ O1 fun y O2 => sIn true x y O2 Q) (hm : behindInMarks .NotIn b = false := by rfl) : WE X E (.Compare a [.NotIn] [b] pos) Γ O Q := w_cmp2 (.or op_notin_str op_notIn_seq) rok_nin hm h
theorem wt_in {Q : Bool → Own → Prop} (h : WE X E a Γ O fun x O1 => WE X E b Γ O1 fun y O2 => sIn false x y O2 (sTest Q)) (hm : behindInMarks .In b = false := by rfl) : WT X E (.Compare a [.In] [b] pos) Γ O Q := wt_cmp2 (.or op_in_str op_in_seq) rok_in hm h
theorem wt_nin {Q : Bool → Own → Prop} (h : WE X E a Γ O fun x O1 => WE X E b Γ O1 fun y O2 => sIn true x y O2 (sTest Q)) (hm : behindInMarks .NotIn b = false := by rfl) : WT X E (.Compare a [.NotIn] [b] pos) Γ O Q := wt_cmp2 (.or op_notin_str op_notIn_seq) rok_nin hm h
def isN : D → Bool
 | .non => true
 | _ => false
theorem isN_ok {K : PySem.W.Frag} {H : Hp} {x : D} {v : V} (rx : Rep K H v x) : decide (v = .non) = isN x := by
 cases rx <;> simp [isN]
theorem w_isN {j : Nat} {pos' : Pos} (h : WE X E a Γ O fun x O1 => Q (.bl (isN x)) O1) : WE X E (.Compare a [.Is] [.Constant .none j pos'] pos) Γ O Q := .mk fun W σ H Hd p =>
 wE_of (pe_cmpR op_isN peW pe_non (nomark _)) (h.use p fun v H1 x O1 Hd1 s1 p1 r1 q => ⟨rfl, .lift s1 (.of p1.h (.bl _) (by rw [isN_ok r1]; exact q))⟩)
theorem w_notN {j : Nat} {pos' : Pos} (h : WE X E a Γ O fun x O1 => Q (.bl (!isN x)) O1) : WE X E (.Compare a [.IsNot] [.Constant .none j pos'] pos) Γ O Q := .mk fun W σ H Hd p =>
 wE_of (pe_cmpR op_notN peW pe_non (nomark _)) (h.use p fun v H1 x O1 Hd1 s1 p1 r1 q => ⟨rfl, .lift s1 (.of p1.h (.bl _) (by rw [isN_ok r1]; exact q))⟩)
theorem wt_isN {j : Nat} {pos' : Pos} {Q : Bool → Own → Prop} (h : WE X E a Γ O fun x O1 => Q (isN x) O1) : WT X E (.Compare a [.Is] [.Constant .none j pos'] pos) Γ O Q := .mk fun W σ H Hd p =>
 wT_of (pt_cmpR op_isN peW pe_non (nomark _)) (h.use p fun v H1 x O1 Hd1 s1 p1 r1 q => ⟨rfl, _, rfl, O1, Hd1, s1, p1.h, by rw [isN_ok r1]; exact q⟩)
theorem wt_notN {j : Nat} {pos' : Pos} {Q : Bool → Own → Prop} (h : WE X E a Γ O fun x O1 => Q (!isN x) O1) : WT X E (.Compare a [.IsNot] [.Constant .none j pos'] pos) Γ O Q := .mk fun W σ H Hd p =>
 wT_of (pt_cmpR op_notN peW pe_non (nomark _)) (h.use p fun v H1 x O1 Hd1 s1 p1 r1 q => ⟨rfl, _, rfl, O1, Hd1, s1, p1.h, by rw [isN_ok r1]; exact q⟩)
theorem chain_run {r r' : R2} {S S' : D → D → Own → PD → Prop} (hS : R2ok X r S) (hS' : R2ok X r' S') {c : Expr} {W : WX} {σ : L2.St} {H Hd : Hp} (p : Pre X E W σ H Hd Γ O)
  (h : WE X E a Γ O fun x O1 => WE X E b Γ O1 fun y O2 => S x y O2 (sTest fun k O3 => if k = true then WE X E c Γ O3 (fun z O4 => S' y z O4 Q) else Q (.bl false) O3)) {Q' : VK} (kk : ∀ v H', Post X.K Hd Q v H' → Q' v H') :
  tChain r r' (wE X a) (wE X b) (wE X c) σ H Q' :=
 h.use p fun v H1 x O1 Hd1 s1 p1 r1 q1 => q1.use p1 fun u H2 y O2 Hd2 s2 p2 r2 q2 => hS x y O2 v u H2 Hd2 _ _ p2.h (r1.mono s2) r2 q2 fun z H3 pz => by
  obtain ⟨k, rfl, O3, Hd3, s3, a3, q3⟩ := post_test pz
  refine ⟨k, rfl, ?_⟩
  cases k with
  | true =>
    have q3 : WE X E c Γ O3 (fun z O4 => S' y z O4 Q) := by simpa using q3
    exact q3.use (p2.go s3 a3) fun w' H4 z O4 Hd4 s4 p4 r4 q4 => hS' y z O4 u w' H4 Hd4 Q _ p4.h (r2.mono (s3.trans s4)) r4 q4 fun _ _ zz => kk _ _ (zz.lift (s1.trans (s2.trans (s3.trans s4))))
  | false => exact kk _ _ (.lift (s1.trans (s2.trans s3)) (.of a3 (.bl _) (by simpa using q3)))
theorem w_chain {op op' : CmpOp} {r r' : R2} {S S' : D → D → Own → PD → Prop} {c : Expr} (ho : OpR X (compareOp op) r) (ho' : OpR X (compareOp op') r') (hS : R2ok X r S) (hS' : R2ok X r' S') (hm : lastMarks [op, op'] [b, c] = false)
  (h : WE X E a Γ O fun x O1 => WE X E b Γ O1 fun y O2 => S x y O2 (sTest fun k O3 => if k = true then WE X E c Γ O3 (fun z O4 => S' y z O4 Q) else Q (.bl false) O3)) : WE X E (.Compare a [op, op'] [b, c] pos) Γ O Q := .mk fun W σ H Hd p =>
 wE_of (pe_chain ho ho' peW peW peW (hm := hm)) (chain_run hS hS' p h fun _ _ z => z)
theorem w_lele {c : Expr} (h : WE X E a Γ O fun x O1 => WE X E b Γ O1 fun y O2 => sCmpI fLe x y O2 (sTest fun k O3 => if k = true then WE X E c Γ O3 (fun z O4 => sCmpI fLe y z O4 Q) else Q (.bl false) O3)) (hm : lastMarks [.LtE, .LtE] [b, c] = false := by rfl) : WE X E (.Compare a [.LtE, .LtE] [b, c] pos) Γ O Q := w_chain op_le op_le rok_cmpI rok_cmpI hm h
theorem w_lelt {c : Expr} (h : WE X E a Γ O fun x O1 => WE X E b Γ O1 fun y O2 => sCmpI fLe x y O2 (sTest fun k O3 => if k = true then WE X E c Γ O3 (fun z O4 => sCmpI fLt y z O4 Q) else Q (.bl false) O3)) (hm : lastMarks [.LtE, .Lt] [b, c] = false := by rfl) : WE X E (.Compare a [.LtE, .Lt] [b, c] pos) Γ O Q := w_chain op_le op_lt rok_cmpI rok_cmpI hm h
theorem wt_chain {op op' : CmpOp} {r r' : R2} {S S' : D → D → Own → PD → Prop} {c : Expr} {Q : Bool → Own → Prop} (ho : OpR X (compareOp op) r) (ho' : OpR X (compareOp op') r') (hS : R2ok X r S) (hS' : R2ok X r' S') (hm : lastMarks [op, op'] [b, c] = false)
  (h : WE X E a Γ O fun x O1 => WE X E b Γ O1 fun y O2 => S x y O2 (sTest fun k O3 => if k = true then WE X E c Γ O3 (fun z O4 => S' y z O4 (sTest Q)) else sTest Q (.bl false) O3)) : WT X E (.Compare a [op, op'] [b, c] pos) Γ O Q := .mk fun W σ H Hd p =>
 wT_of (pt_chain ho ho' peW peW peW (hm := hm)) (chain_run hS hS' p h fun _ _ z => post_test z)
theorem wt_lele {c : Expr} {Q : Bool → Own → Prop} (h : WE X E a Γ O fun x O1 => WE X E b Γ O1 fun y O2 => sCmpI fLe x y O2 (sTest fun k O3 => if k = true then WE X E c Γ O3 (fun z O4 => sCmpI fLe y z O4 (sTest Q)) else sTest Q (.bl false) O3)) (hm : lastMarks [.LtE, .LtE] [b, c] = false := by rfl) : WT X E (.Compare a [.LtE, .LtE] [b, c] pos) Γ O Q := wt_chain op_le op_le rok_cmpI rok_cmpI hm h
theorem wt_lelt {c : Expr} {Q : Bool → Own → Prop} (h : WE X E a Γ O fun x O1 => WE X E b Γ O1 fun y O2 => sCmpI fLe x y O2 (sTest fun k O3 => if k = true then WE X E c Γ O3 (fun z O4 => sCmpI fLt y z O4 (sTest Q)) else sTest Q (.bl false) O3)) (hm : lastMarks [.LtE, .Lt] [b, c] = false := by rfl) : WT X E (.Compare a [.LtE, .Lt] [b, c] pos) Γ O Q := wt_chain op_le op_lt rok_cmpI rok_cmpI hm h
variable {rest : List Expr}
theorem wt_not {Q : Bool → Own → Prop} (h : WT X E a Γ O fun b O' => Q (!b) O') : WT X E (.UnaryOp .Not a pos) Γ O Q := .mk fun W σ H Hd p =>
 wT_of (pt_not ptW) (h.use p fun b H' O' Hd' s p' q => ⟨O', Hd', s, p'.h, q⟩)
theorem ww_one {op : BoolOp} (hop : op = .And ∨ op = .Or) {Q : Bool → Own → Prop} (h : WT X E a Γ O Q) : WW X E (.BoolOp op [a] pos) Γ O Q := .mk fun W σ H Hd p => by
 rcases hop with rfl | rfl
 · exact wW_of (pw_and1 ptW) (h.run W σ H Hd p)
 · exact wW_of (pw_or1 ptW) (h.run W σ H Hd p)
theorem ww_and {Q : Bool → Own → Prop} (h : WT X E a Γ O fun k O1 => if k = true then WW X E (.BoolOp .And (b :: rest) pos) Γ O1 Q else Q false O1) : WW X E (.BoolOp .And (a :: b :: rest) pos) Γ O Q := .mk fun W σ H Hd p =>
 wW_of (pw_and ptW pwW) (h.use p fun k H' O' Hd' s p' q => by
  cases k with
  | true =>
    have q : WW X E (.BoolOp .And (b :: rest) pos) Γ O' Q := by simpa using q
    exact q.use p' fun b H2 O2 Hd2 s2 p2 q2 => ⟨O2, Hd2, s.trans s2, p2.h, q2⟩
  | false => exact ⟨O', Hd', s, p'.h, by simpa using q⟩)
theorem ww_or {Q : Bool → Own → Prop} (h : WT X E a Γ O fun k O1 => if k = true then Q true O1 else WW X E (.BoolOp .Or (b :: rest) pos) Γ O1 Q) : WW X E (.BoolOp .Or (a :: b :: rest) pos) Γ O Q := .mk fun W σ H Hd p =>
 wW_of (pw_or ptW pwW) (h.use p fun k H' O' Hd' s p' q => by
  cases k with
  | false =>
    have q : WW X E (.BoolOp .Or (b :: rest) pos) Γ O' Q := by simpa using q
    exact q.use p' fun b H2 O2 Hd2 s2 p2 q2 => ⟨O2, Hd2, s.trans s2, p2.h, q2⟩
  | true => exact ⟨O', Hd', s, p'.h, by simpa using q⟩)
theorem wt_ww {Q : Bool → Own → Prop} (h : WW X E a Γ O Q) : WT X E a Γ O Q := .mk fun W σ H Hd p => wT_W (h.run W σ H Hd p)
theorem w_one {op : BoolOp} (h : WE X E a Γ O Q) : WE X E (.BoolOp op [a] pos) Γ O Q := .mk fun W σ H Hd p => wE_of (pe_one peW) (h.run W σ H Hd p)
theorem w_and (h : WE X E a Γ O fun x O1 => ∃ k, x = .bl k ∧ if k = true then WE X E (.BoolOp .And (b :: rest) pos) Γ O1 Q else Q (.bl false) O1) : WE X E (.BoolOp .And (a :: b :: rest) pos) Γ O Q := .mk fun W σ H Hd p =>
 wE_of (pe_and peW peW) (h.use p fun v H1 x O1 Hd1 s1 p1 r1 ⟨k, e, q⟩ => by
  subst e; cases r1
  refine ⟨k, rfl, ?_⟩
  cases k with
  | true =>
    have q : WE X E (.BoolOp .And (b :: rest) pos) Γ O1 Q := by simpa using q
    exact q.use p1 fun b H2 d O2 Hd2 s2 p2 r2 q2 => .lift (s1.trans s2) (.of p2.h r2 q2)
  | false => exact .lift s1 (.of p1.h (.bl _) (by simpa using q)))
theorem w_or (h : WE X E a Γ O fun x O1 => ∃ k, x = .bl k ∧ if k = true then Q (.bl true) O1 else WE X E (.BoolOp .Or (b :: rest) pos) Γ O1 Q) : WE X E (.BoolOp .Or (a :: b :: rest) pos) Γ O Q := .mk fun W σ H Hd p =>
 wE_of (pe_or peW peW) (h.use p fun v H1 x O1 Hd1 s1 p1 r1 ⟨k, e, q⟩ => by
  subst e; cases r1
  refine ⟨k, rfl, ?_⟩
  cases k with
  | false =>
    have q : WE X E (.BoolOp .Or (b :: rest) pos) Γ O1 Q := by simpa using q
    exact q.use p1 fun b H2 d O2 Hd2 s2 p2 r2 q2 => .lift (s1.trans s2) (.of p2.h r2 q2)
  | true => exact .lift s1 (.of p1.h (.bl _) (by simpa using q)))
theorem w_not (h : WE X E a Γ O fun x O1 => ∃ k, x = .bl k ∧ Q (.bl (!k)) O1) : WE X E (.UnaryOp .Not a pos) Γ O Q := .mk fun W σ H Hd p =>
 wE_of (pe_not peW) (h.use p fun v H1 x O1 Hd1 s1 p1 r1 ⟨k, e, q⟩ => by
  subst e; cases r1
  exact ⟨k, rfl, .lift s1 (.of p1.h (.bl _) q)⟩)
theorem w_ite {c : Expr} (h : WT X E c Γ O fun k O1 => if k = true then WE X E a Γ O1 Q else WE X E b Γ O1 Q) : WE X E (.IfExp c a b pos) Γ O Q := .mk fun W σ H Hd p =>
 wE_of (pe_ifExp ptW peW peW) (h.use p fun k H1 O1 Hd1 s1 p1 q => by
  cases k with
  | true =>
    have q : WE X E a Γ O1 Q := by simpa using q
    exact q.use p1 fun b H2 d O2 Hd2 s2 p2 r2 q2 => .lift (s1.trans s2) (.of p2.h r2 q2)
  | false =>
    have q : WE X E b Γ O1 Q := by simpa using q
    exact q.use p1 fun b H2 d O2 Hd2 s2 p2 r2 q2 => .lift (s1.trans s2) (.of p2.h r2 q2))
variable {es : List Expr}
theorem wa_nil {Q : List D → Own → Prop} (q : Q [] O) : WA X E [] Γ O Q := .mk fun W σ H Hd p => wA_of pa_nil ⟨[], O, Hd, Same.refl _, p.h, .nil, q⟩
theorem wa_cons {Q : List D → Own → Prop} (h : WE X E e Γ O fun d O1 => WA X E es Γ O1 fun ds O2 => Q (d :: ds) O2) (hs : starEach (e :: es) X.env = (false, eval e X.env) :: starEach es X.env := by rfl) : WA X E (e :: es) Γ O Q := .mk fun W σ H Hd p =>
 wA_of (pa_cons peW paW hs) (h.use p fun v H1 d O1 Hd1 s1 p1 r1 q1 => q1.use p1 fun vs H2 ds O2 Hd2 s2 p2 r2 q2 => ⟨d :: ds, O2, Hd2, s1.trans s2, p2.h, .cons (r1.mono s2) r2, q2⟩)
theorem w_tup {x1 : Nat} (h : WA X E es Γ O fun ds O1 => ds.length ≤ sizeLine ∧ Q (.tup ds) O1) : WE X E (.Tuple es x1 pos) Γ O Q := .mk fun W σ H Hd p =>
 wE_of (pe_tupN paW) (h.use p fun vs H1 ds O1 Hd1 s1 p1 r1 q1 => ⟨by rw [r1.length]; exact q1.1, fun a o na hd => .lift s1 (.mkT p1.h na hd r1 q1.2)⟩)
theorem w_lst (h : WA X E es Γ O fun ds O1 => ds.length ≤ sizeLine ∧ Mk ds O1 Q) : WE X E (.List es pos) Γ O Q := .mk fun W σ H Hd p =>
 wE_of (pe_lst paW) (h.use p fun vs H1 ds O1 Hd1 s1 p1 r1 q1 => ⟨by rw [r1.length]; exact q1.1, fun a na => .lift s1 (.mk p1.h na r1 q1.2)⟩)
theorem atI_rep {K : PySem.W.Frag} {H : Hp} {vs : List V} {ds : List D} {i : Int} {d : D} (r : Reps K H vs ds) (h : atI ds i = some d) : ∃ v, atI vs i = some v ∧ Rep K H v d := by
 unfold atI at h ⊢
 rw [r.length]
 cases e : ixN ds.length i with
 | none => rw [e] at h; cases h
 | some j =>
   rw [e] at h
   exact r.get h
def sIx (x y : D) (O : Own) (Q : PD) : Prop := match x, y with
 | .str z, .int i => z.length ≤ sizeLine ∧ ∃ c, atI z.cps.toList i = some c ∧ Q (.str ⟨#[c]⟩) O
 | x, y => ∃ xs i d, asS O x = some xs ∧ y = .int i ∧ atI xs i = some d ∧ Q d O
theorem sIx_seq {x : D} {i : Int} {xs : List D} {d : D} {O : Own} {Q : PD} (h1 : asS O x = some xs) (h2 : atI xs i = some d) (q : Q d O) : sIx x (.int i) O Q := by
 unfold sIx
 split
 · simp [asS, asL] at h1
 · exact ⟨xs, i, d, h1, rfl, h2, q⟩
theorem w_ix (h : WE X E a Γ O fun x O1 => WE X E b Γ O1 fun y O2 => sIx x y O2 Q) (hs : PlainIx b := by exact fun _ _ => rfl) : WE X E (.Subscript a b pos) Γ O Q := .mk fun W σ H Hd p =>
 wE_of (pe_ix ix_seq peW peW hs) (R2ok.run (fun x y O v u H Hd Q Q' h rx ry q k => by
  unfold sIx at q
  split at q
  · cases rx; cases ry
    obtain ⟨hl, c, e, q⟩ := q
    exact .inr (.inr ⟨_, _, c, rfl, rfl, hl, e, k _ _ (.of h (.str _) q)⟩)
  · obtain ⟨xs, i, d, e, rfl, hd, q⟩ := q
    cases ry
    obtain ⟨a, vs, rfl, g, r⟩ := h.readS rx e
    obtain ⟨w, hw, rw'⟩ := atI_rep r hd
    rcases g with g | g
    · exact .inl ⟨a, vs, i, w, rfl, rfl, g, hw, k _ _ (.of h rw' q)⟩
    · exact .inr (.inl ⟨a, vs, i, w, rfl, rfl, g, hw, k _ _ (.of h rw' q)⟩)) p h)
end
end RW
namespace RW
open PySem PySem.Spec PyProof.Rows L2
section
variable {X : Cx} {E : ExP} {Γ : Env'} {O : Own} {e a b : Expr} {pos : Pos} {De : EndsD} {st : Stmt} {rest : List Stmt}
theorem wss_nil (h : De.nx Γ O) : WSs X E [] Γ O De := .mk fun W σ H Hd p => wSs_of pss_nil ⟨Γ, O, Hd, Same.refl _, p.g, p.h, h⟩
theorem wss_cons (h : WS X E st Γ O { De with nx := fun Γ' O' => WSs X E rest Γ' O' De }) : WSs X E (st :: rest) Γ O De := .mk fun W σ H Hd p =>
 wSs_of (pss_cons psW pssW) (wS_mono (h.run W σ H Hd p) ⟨fun σ' H' ⟨Γ', O', Hd', s, g, a, q⟩ => wSs_mono (q.run W σ' H' Hd' (p.go2 s a g)) (ends_lift s), fun _ _ z => z, fun _ _ z => z, fun _ _ z => z⟩)
theorem wss_one (h : WS X E st Γ O De) : WSs X E [st] Γ O De := .mk fun W σ H Hd p => wSs_of (pss_one psW) (h.run W σ H Hd p)
theorem wss_cut (I : Env' → Own → Prop) (h1 : WS X E st Γ O { De with nx := I }) (h2 : ∀ Γ' O', I Γ' O' → WSs X E rest Γ' O' De) : WSs X E (st :: rest) Γ O De := .mk fun W σ H Hd p =>
 wSs_of (pss_cons psW pssW) (wS_mono (h1.run W σ H Hd p) ⟨fun σ' H' ⟨Γ', O', Hd', s, g, a, q⟩ => wSs_mono ((h2 Γ' O' q).run W σ' H' Hd' (p.go2 s a g)) (ends_lift s), fun _ _ z => z, fun _ _ z => z, fun _ _ z => z⟩)
theorem ws_break (h : De.bk Γ O) : WS X E (.Break pos) Γ O De := .mk fun W σ H Hd p => wS_of ps_break ⟨Γ, O, Hd, Same.refl _, p.g, p.h, h⟩
theorem ws_continue (h : De.ct Γ O) : WS X E (.Continue pos) Γ O De := .mk fun W σ H Hd p => wS_of ps_continue ⟨Γ, O, Hd, Same.refl _, p.g, p.h, h⟩
theorem ws_expr (h : WE X E e Γ O fun _ O' => De.nx Γ O') (hs : swapsWith e none pos.line X.env = pure false := by rfl) : WS X E (.Expr e pos) Γ O De := .mk fun W σ H Hd p =>
 wS_of (ps_expr peW hs) (h.use p fun v H' d O' Hd' s p' r q => ⟨Γ, O', Hd', s, p'.g, p'.h, q⟩)
theorem ws_ret (h : WE X E e Γ O De.rt) : WS X E (.Return (some e) pos) Γ O De := .mk fun W σ H Hd p => wS_of (ps_ret peW) (h.run W σ H Hd p)
theorem WE.fixed {Q : PD} (h : WE X E e Γ O fun d O' => ∃ p ds, d = .obj p ∧ O' p = some (.lst ds) ∧ Q (.lst ds) (delO O' p)) : WE X E e Γ O Q := .mk fun W σ H Hd p =>
 h.use p fun v H' d O' Hd' s p' r ⟨q, ds, e1, e2, hq⟩ => by
  subst e1
  cases r
  obtain ⟨Hd2, s2, a2, r2⟩ := p'.h.fix e2
  exact ⟨_, _, Hd2, s.trans s2, a2, r2, hq⟩
theorem ws_if {c : Expr} {sa sb : List Stmt} (h : WT X E c Γ O fun k O' => if k = true then WSs X E sa Γ O' De else WSs X E sb Γ O' De) : WS X E (.If c sa sb pos) Γ O De := .mk fun W σ H Hd p =>
 wS_of (ps_if ptW pssW pssW) (h.use p fun k H' O' Hd' s p' q => by
  cases k with
  | true =>
    have q : WSs X E sa Γ O' De := by simpa using q
    exact wSs_mono (q.run W σ H' Hd' p') (ends_lift s)
  | false =>
    have q : WSs X E sb Γ O' De := by simpa using q
    exact wSs_mono (q.run W σ H' Hd' p') (ends_lift s))
theorem ws_set (i : Nat) {x : Str} {pos' : Pos} (hN : X.N.Nodup) (h : WE X E e Γ O fun d O' => De.nx (Γ.set i (some d)) O') (hi : X.N[i]? = some x := by rfl) (hx : Loc X.env.scope x := by first | exact Or.inl rfl | exact Or.inr rfl)
  (hs : swapsWith e (some (.Name x pos')) pos.line X.env = pure false := by rfl) (hf : X.fn x = true ∨ X.env.scope.names.lookup x = some .local := by first | exact .inl rfl | exact .inr rfl) : WS X E (.Assign [.Name x pos'] e pos) Γ O De := .mk fun W σ H Hd p =>
 wS_of (ps_set hN hi hx peW hs hf) (h.use p fun v H' d O' Hd' s p' r q => ⟨_, O', Hd', s, p'.g.set r, p'.h, q⟩)
theorem ws_asg {tg : Expr} (h : WE X E e Γ O fun d O' => WG X E tg d Γ O' De.nx) (hs : swapsWithSole [tg] e pos.line X.env = pure false := by rfl) (hw : swappedStores [tg] e X.env = pure none := by rfl)
  (h1 : (assignEach [tg] X.env).map (·.2) = [assign tg X.env] := by rfl) : WS X E (.Assign [tg] e pos) Γ O De := .mk fun W σ H Hd p =>
 wS_of (ps_asg peW pgW hs hw h1) (h.use p fun v H' d O' Hd' s p' r q => q.use p' r fun σ2 H2 Γ2 O2 Hd2 s2 p2 q2 => ⟨Γ2, O2, Hd2, s.trans s2, p2.g, p2.h, q2⟩)
theorem ws_par (i j : Nat) {x y : Str} {px py pt pt2 : Pos} {kt k2 : Nat} (hc : X.calm = true) (hN : X.N.Nodup) (h : WA X E [a, b] Γ O fun ds O' => ∃ d1 d2, ds = [d1, d2] ∧ De.nx ((Γ.set i (some d1)).set j (some d2)) O')
  (hi : X.N[i]? = some x := by rfl) (hj : X.N[j]? = some y := by rfl) (hij : i ≠ j := by decide)
  (hx : X.env.scope.names.lookup x = some .local := by rfl) (hy : X.env.scope.names.lookup y = some .local := by rfl)
  (hw : swappedStores [.Tuple [.Name x px, .Name y py] kt pt] (.Tuple [a, b] k2 pt2) X.env = pure (some [x, y]) := by rfl)
  (hs : swapsWithSole [.Tuple [.Name x px, .Name y py] kt pt] (.Tuple [a, b] k2 pt2) pos.line X.env = pure false := by rfl) :
  WS X E (.Assign [.Tuple [.Name x px, .Name y py] kt pt] (.Tuple [a, b] k2 pt2) pos) Γ O De := .mk fun W σ H Hd p =>
 wS_of (ps_par hc hN hi hj hij hx hy paW hw hs) (h.use p fun vs H' ds O' Hd' s p' r ⟨d1, d2, e1, q⟩ => by
  subst e1
  cases r with | cons r1 r =>
  cases r with | cons r2 r =>
  cases r
  exact ⟨_, _, rfl, _, O', Hd', s, (p'.g.set r1).set r2, p'.h, q⟩)
theorem ws_augI (i : Nat) {x : Str} {op : Operator} {f : Int → Int → Int} {pos' : Pos} (ho : PIp X op (ipI f)) (hN : X.N.Nodup) {n : Int} (hd : Γ[i]? = some (some (.int n))) (h : WE X E e Γ O fun d O' => ∃ m, d = .int m ∧ De.nx (Γ.set i (some (.int (f n m)))) O')
  (hi : X.N[i]? = some x := by rfl) (hx : Loc X.env.scope x := by first | exact Or.inl rfl | exact Or.inr rfl) (hf : X.fn x = true ∨ X.env.scope.names.lookup x = some .local := by first | exact .inl rfl | exact .inr rfl) :
  WS X E (.AugAssign (.Name x pos') op e pos) Γ O De := .mk fun W σ H Hd p => by
 obtain ⟨v, ev, rv⟩ := p.g.2 i _ hd
 cases rv
 exact wS_of (ps_aug hN hi hx peW ho hf) ⟨.int n, ev, h.use p fun u H' d O' Hd' s p' r ⟨m, e1, q⟩ => by
  subst e1
  cases r
  exact ⟨n, m, rfl, rfl, _, O', Hd', s, p'.g.set (.int _), p'.h, q⟩⟩
theorem ws_augAdd (i : Nat) {x : Str} {pos' : Pos} (hN : X.N.Nodup) {n : Int} (hd : Γ[i]? = some (some (.int n))) (h : WE X E e Γ O fun d O' => ∃ m, d = .int m ∧ De.nx (Γ.set i (some (.int (n + m)))) O')
 (hi : X.N[i]? = some x := by rfl) (hx : Loc X.env.scope x := by first | exact Or.inl rfl | exact Or.inr rfl) (hf : X.fn x = true ∨ X.env.scope.names.lookup x = some .local := by first | exact .inl rfl | exact .inr rfl) :
 WS X E (.AugAssign (.Name x pos') .Add e pos) Γ O De := ws_augI i ip_add hN hd h hi hx hf
theorem wg_name (i : Nat) {x : Str} {d : D} {Q : Env' → Own → Prop} (hN : X.N.Nodup) (h : Q (Γ.set i (some d)) O) (hi : X.N[i]? = some x := by rfl) (hx : Loc X.env.scope x := by first | exact Or.inl rfl | exact Or.inr rfl)
  (hf : X.fn x = true ∨ X.env.scope.names.lookup x = some .local := by first | exact .inl rfl | exact .inr rfl) : WG X E (.Name x pos) d Γ O Q := .mk fun W σ H Hd v p r =>
 wG_of (pg_name hN hi hx hf) ⟨_, O, Hd, Same.refl _, p.g.set r, p.h, h⟩
theorem wgs_nil {Q : Env' → Own → Prop} (h : Q Γ O) : WGs X E [] [] Γ O Q := .mk fun W σ H Hd vs p r => by
 cases r
 exact wGs_of pgs_nil ⟨rfl, Γ, O, Hd, Same.refl _, p.g, p.h, h⟩
theorem wgs_cons {d : D} {ds : List D} {es : List Expr} {Q : Env' → Own → Prop} (h : WG X E e d Γ O fun Γ' O' => WGs X E es ds Γ' O' Q)
  (hs : (assignEach (e :: es) X.env).map (·.2) = assign e X.env :: (assignEach es X.env).map (·.2) := by rfl) : WGs X E (e :: es) (d :: ds) Γ O Q := .mk fun W σ H Hd vs p r => by
 cases r with | @cons v vs' _ _ r1 r2 =>
 refine wGs_of (pgs_cons pgW pgsW hs) ⟨v, vs', rfl, h.use p r1 fun σ' H' Γ' O' Hd' s p' q => ?_⟩
 exact wGs_mono (q.run W σ' H' Hd' _ p' (r2.mono s)) fun _ _ z => z.lift s
theorem wg_tup {es : List Expr} {ds : List D} {k n : Nat} {Q : Env' → Own → Prop} (hc : X.calm = true) (h : WGs X E es ds Γ O Q) (hl : ds.length = n)
  (hn : (assignEach es X.env).length = n := by rfl) (hst : (assignEach es X.env).findIdx? (·.1) = none := by rfl) : WG X E (.Tuple es k pos) (.tup ds) Γ O Q := .mk fun W σ H Hd v p r => by
 cases r with | tup g r =>
 exact wG_of (pg_tup hc pgsW hn hst) ⟨_, _, rfl, Same.sqT p.h.same g.sqT, by rw [r.length]; exact hl, h.run W σ H Hd _ p r⟩
theorem wg_pr {es : List Expr} {ds : List D} {k n : Nat} {Q : Env' → Own → Prop} (hc : X.calm = true) (h : WGs X E es ds Γ O Q) (hl : ds.length = n)
  (hn : (assignEach es X.env).length = n := by rfl) (hst : (assignEach es X.env).findIdx? (·.1) = none := by rfl) : WG X E (.Tuple es k pos) (.pr ds) Γ O Q := .mk fun W σ H Hd v p r => by
 cases r with | pr g r =>
 exact wG_of (pg_tup hc pgsW hn hst) ⟨_, _, rfl, Same.sqT p.h.same g, by rw [r.length]; exact hl, h.run W σ H Hd _ p r⟩
theorem wg_sub {o i : Expr} {d : D} {Q : Env' → Own → Prop} (h : WE X E o Γ O fun x O1 => WE X E i Γ O1 fun y O2 => ∃ p n ds j, x = .obj p ∧ y = .int n ∧ O2 p = some (.lst ds) ∧ ixN ds.length n = some j ∧ Q Γ (updO O2 p (.lst (ds.set j d))))
  (ha : ∀ v, assign (.Subscript o i pos) X.env v = (do
   let ov ← holding [v] (eval o X.env)
   let iv ← holding [v, ov] (eval i X.env)
   standAt pos
   holding [v, ov, iv] (setItem ov iv v)
   release [v, ov, iv] []) := by intro _; rfl) : WG X E (.Subscript o i pos) d Γ O Q := .mk fun W σ H Hd v p r =>
 wG_of (pg_sub peW peW set_list ha) (h.use p fun ov H1 x O1 Hd1 s1 p1 r1 q1 => q1.use p1 fun iv H2 y O2 Hd2 s2 p2 r2 ⟨q, n, ds, j, e1, e2, e3, e4, q2⟩ => by
  subst e1; subst e2
  cases r1; cases r2
  obtain ⟨n0, vs, h1, h2⟩ := p2.h.own q _ e3
  refine ⟨q, vs, n, j, rfl, rfl, h1, by rw [h2.length]; exact e4, Γ, _, Hd2, s1.trans s2, p.g.mono (s1.trans s2), p2.h.putL n0 (h2.set (r.mono (s1.trans s2)) j), q2⟩)
def rngD (lo : Int) (n : Nat) : List D := (List.range n).map fun (k : Nat) => D.int (lo + k)
theorem rngD_len {lo : Int} {n : Nat} : (rngD lo n).length = n := by simp [rngD]
theorem rngD_get {lo : Int} {n i : Nat} {d : D} (h : (rngD lo n)[i]? = some d) : i < n ∧ d = .int (lo + i) := by
 have hl : i < n := by
  have := (geS.mp h).1
  simpa [rngD] using this
 refine ⟨hl, ?_⟩
 simp [rngD, List.getElem?_range hl] at h
 exact h.symm
theorem itof_rng {K : PySem.W.Frag} {Hd : Hp} {lo : Int} {n : Nat} : ItOf K Hd (fun _ => True) (Itr lo n) (rngD lo n) := fun i H Hd1 O s h _ => by
 refine ⟨fun d hd => ?_, fun hl => by rw [rngD_len] at hl; exact hl⟩
 obtain ⟨hi, rfl⟩ := rngD_get hd
 exact ⟨hi, fun x H' ⟨e1, e2⟩ => by subst e1; subst e2; exact ⟨Hd1, Same.refl _, h, .int _⟩⟩
theorem wi_rng1 {tg n : Expr} {p : Pos} {R : (Own → Prop) → List D → Own → Prop} (hm : X.mg "range" = none) (h : WA X E [n] Γ O fun ds O1 => ∃ j : Int, ds = [.int j] ∧ -(2 ^ 62) ≤ j ∧ j < 2 ^ 62 ∧ R (fun _ => True) (rngD 0 j.toNat) O1)
  (hg : Gl X "range" := by rfl) (hs : starEach [n] X.env = [(false, eval n X.env)] := by rfl) : WI X E tg (.Call (.Name "range" p) [n] [] pos) Γ O R := .mk fun W σ H Hd p =>
 wI_of (pi_range1 hg hm paW hs) (h.use p fun vs H1 ds O1 Hd1 s1 p1 r1 ⟨j, e, h1, h2, q⟩ => by
  subst e
  cases r1 with | cons r r' =>
  cases r; cases r'
  exact ⟨j, rfl, h1, h2, _, _, O1, Hd1, s1, p1.h, itof_rng, q⟩)
theorem ws_for {tg iter : Expr} {body : List Stmt} (hp : PassesOwn (model X.prog X.w) X.A X.env X.xe) (hc : X.calm = true)
  (h : WI X E tg iter Γ O fun G ds O1 => ∃ Pv : Nat → Env' → Own → Prop, Pv 0 Γ O1 ∧ (∀ i Γ2 O2, Pv i Γ2 O2 → G O2) ∧
   (∀ i d Γ2 O2, ds[i]? = some d → Pv i Γ2 O2 → WG X E tg d Γ2 O2 fun Γ3 O3 => WSs X E body Γ3 O3 { De with nx := Pv (i + 1), ct := Pv (i + 1), bk := De.nx }) ∧ (∀ Γ2 O2, Pv ds.length Γ2 O2 → De.nx Γ2 O2))
  (hs : ∀ x, foldedSetIterable iter X.env x = pure x := by intro _; rfl) : WS X E (.For tg iter body [] pos) Γ O De := .mk fun W σ H Hd p =>
 wS_of (ps_for hp hc piW pgW pssW hs) (fun pins s I => thn (h.run W σ H Hd p pins s I) fun v s1 hv => thn hv fun itv s2 ⟨it, fp, tn, J, H1, e1, I1, T, t0, fpo, G, ds, O1, Hd1, s1', a1, io, Pv, h0, hG, hs', hd⟩ => by
  refine ⟨it, fp, tn, J, H1, e1, I1, T, t0, fpo, fun i m σ2 H2 => m = ds.length - i ∧ i ≤ ds.length ∧ ∃ Γ2 O2 Hd2, Same Hd1 Hd2 ∧ AbsG X.K Hd2 σ2 Γ2 ∧ AbsH X.K H2 Hd2 O2 ∧ Pv i Γ2 O2, ⟨_, rfl, Nat.zero_le _, Γ, O1, Hd1, Same.refl _, p.g.mono s1', a1, h0⟩, ?_⟩
  rintro i m σ2 H2 ⟨rfl, hi, Γ2, O2, Hd2, s2', g2, a2, pv⟩
  have io2 := io i H2 Hd2 O2 s2' a2 (hG i Γ2 O2 pv)
  by_cases hlt : i < ds.length
  · obtain ⟨d, hd'⟩ : ∃ d, ds[i]? = some d := ⟨_, geG hlt⟩
    obtain ⟨go, yl⟩ := io2.1 d hd'
    refine .inr ⟨go, fun σ3 H3 => ∃ Γ3 O3 Hd3, Same Hd1 Hd3 ∧ AbsG X.K Hd3 σ3 Γ3 ∧ AbsH X.K H3 Hd3 O3 ∧ Pv (i + 1) Γ3 O3, fun σ3 H3 ⟨Γ3, O3, Hd3, s3, g3, a3, pv3⟩ => ⟨ds.length - (i + 1), by omega, rfl, hlt, Γ3, O3, Hd3, s3, g3, a3, pv3⟩, fun x H3 hy => ?_⟩
    obtain ⟨Hd3, s3, a3, rx⟩ := yl x H3 hy
    have p3 : Pre X E W σ2 H3 Hd3 Γ2 O2 := p.go2 (s1'.trans (s2'.trans s3)) a3 (g2.mono s3)
    refine (hs' i d Γ2 O2 hd' pv).use p3 rx fun σ4 H4 Γ4 O4 Hd4 s4 p4 q4 => ?_
    have s14 := s2'.trans (s3.trans s4)
    refine wSs_mono (q4.run W σ4 H4 Hd4 p4) ⟨fun σ5 H5 ⟨Γ5, O5, Hd5, s5, g5, a5, q5⟩ => ⟨Γ5, O5, Hd5, s14.trans s5, g5, a5, q5⟩, fun v5 H5 z => z.lift (s1'.trans s14), fun σ5 H5 z => z.lift (s1'.trans s14), fun σ5 H5 ⟨Γ5, O5, Hd5, s5, g5, a5, q5⟩ => ⟨Γ5, O5, Hd5, s14.trans s5, g5, a5, q5⟩⟩
  · have e : i = ds.length := by omega
    subst e
    exact .inl ⟨io2.2 (Nat.le_refl _), Γ2, O2, Hd2, s1'.trans s2', g2, a2, hd Γ2 O2 pv⟩)
structure WGc (X : Cx) (vs : List Nat) (tg : Expr) (d : D) (Γ : Env') (O : Own) (Q : Env' → Own → Prop) : Prop where
 run : ∀ (σ : L2.St) (H Hd : Hp) (v : V), AbsG X.K Hd (wipe σ vs) Γ → AbsH X.K H Hd O → Rep X.K Hd v d →
 wG X tg v (wipe σ vs) H fun σ' H' => wipe σ' vs = wipe σ vs ∧ PostS X.K Hd Q σ' H'
theorem wgc_name (i : Nat) {x : Str} {d : D} {Q : Env' → Own → Prop} (hN : X.N.Nodup) (h : Q (Γ.set i (some d)) O) (hi : X.N[i]? = some x := by rfl) (hx : Loc X.env.scope x := by first | exact Or.inl rfl | exact Or.inr rfl)
  (hf : X.fn x = true ∨ X.env.scope.names.lookup x = some .local := by first | exact .inl rfl | exact .inr rfl) : WGc X [i] (.Name x pos) d Γ O Q := .mk fun σ H Hd v g a r =>
 wG_of (pg_name hN hi hx hf) ⟨by simp [wipe], _, O, Hd, Same.refl _, g.set r, a, h⟩
def wTs (X : Cx) (ifs : List Expr) : TT := fun σ H Q => ∀ (pins : List (Addr × Obj)) (s : Shared), Inv X pins σ H s → wpAny (model X.prog X.w) X.A (forIn ifs true fun c r => if r = true then do let ok ← isTrue c X.env (eval c X.env); pure (ForInStep.yield ok) else pure (ForInStep.yield r)) (TP X pins σ Q) X.xe s
structure WTs (X : Cx) (E : ExP) (ifs : List Expr) (Γ : Env') (O : Own) (Q : Bool → Own → Prop) : Prop where
 run : ∀ (W : WX) (σ : L2.St) (H Hd : Hp), Pre X E W σ H Hd Γ O → wTs X ifs σ H (PostT X.K Hd Q)
theorem wts_nil {Q : Bool → Own → Prop} (h : Q true O) : WTs X E [] Γ O Q := .mk fun W σ H Hd p pins s I => pts_nil.run pins s σ H _ I ⟨O, Hd, Same.refl _, p.h, h⟩
theorem WTs.use {W : WX} {σ : L2.St} {H Hd : Hp} {ifs : List Expr} {Q : Bool → Own → Prop} (h : WTs X E ifs Γ O Q) (p : Pre X E W σ H Hd Γ O) {Q' : Bool → Hp → Prop} (k : ∀ b H' O' Hd', Same Hd Hd' → Pre X E W σ H' Hd' Γ O' → Q b O' → Q' b H') : wTs X ifs σ H Q' := fun pins s I =>
 thn (h.run W σ H Hd p pins s I) fun b s' ⟨H', I', O', Hd', s2, a, q⟩ => ⟨H', I', k b H' O' Hd' s2 (p.go s2 a) q⟩
abbrev blkX (X : Cx) (scope : Scope) (s : Shared) (H : Hp) (C : Addr) (cl : List (Str × Addr)) (fp : List Addr) : Cx := X.blk s H scope (compEnvC scope cl C X.env) fp
theorem pre0 {Y : Cx} {σ : L2.St} {H Hd : Hp} (g : AbsG Y.K Hd σ Γ) (h : AbsH Y.K H Hd O) : Pre Y noEx (fun _ _ _ _ => False) σ H Hd Γ O := ⟨takes_none5, g, h, fun _ _ _ _ _ _ _ _ _ _ _ _ z => z⟩
def EndL (p : Addr) (ds : List D) (O : Own) (Q : PD) : Prop := Q (.obj p) O ∨ Q (.lst ds) (delO O p)
section
variable {elt tg iter : Expr} {ifs : List Expr} {scope : Scope} {own : List (Str × Nat)} {Q : PD}
def LcBody (X : Cx) (Γ : Env') (elt tg : Expr) (ifs : List Expr) (scope : Scope) (vs : List Nat) (G : Own → Prop) (ds : List D) (O1 : Own) (Q : PD) : Prop :=
 ∀ p, O1 p = none → ∃ Pv : Nat → List D → Own → Prop, Pv 0 [] (updO O1 p (.lst [])) ∧ (∀ i acc O2, Pv i acc O2 → G O2 ∧ O2 p = some (.lst acc)) ∧
   (∀ i d acc O2, ds[i]? = some d → Pv i acc O2 → ∀ s H C cl fp, WGc (blkX X scope s H C cl fp) vs tg d (wipeD Γ vs) O2 fun Γ3 O3 => ∀ s H C cl fp,
    WTs (blkX X scope s H C cl fp) noEx ifs Γ3 O3 fun b O4 => if b = true then ∀ s H C cl fp, WE (blkX X scope s H C cl fp) noEx elt Γ3 O4 (fun y O5 => O5 p = some (.lst acc) ∧ acc.length < sizeLine ∧ Pv (i + 1) (acc ++ [y]) (updO O5 p (.lst (acc ++ [y])))) else Pv (i + 1) acc O4) ∧
   (∀ acc O2, Pv ds.length acc O2 → EndL p acc O2 Q)
theorem lc_run {W : WX} {σ : L2.St} {H Hd : Hp} (p : Pre X E W σ H Hd Γ O) (h : WI X E tg iter Γ O fun G ds O1 => LcBody X Γ elt tg ifs scope (own.map (·.2)) G ds O1 Q) {Q' : VK} (kk : ∀ v H', Post X.K Hd Q v H' → Q' v H') :
  tLc (wI X tg iter) (fun v σ H R => ∀ s H0 C cl fp, wG (blkX X scope s H0 C cl fp) tg v σ H R) (fun σ H R => ∀ s H0 C cl fp, wTs (blkX X scope s H0 C cl fp) ifs σ H R) (fun σ H R => ∀ s H0 C cl fp, wE (blkX X scope s H0 C cl fp) elt σ H R) (own.map (·.2)) σ H Q' := fun pins s I =>
 thn (h.run W σ H Hd p pins s I) fun v s1 hv => thn hv fun itv s2 ⟨it, fp, tn, J, H1, e1, I1, T, t0, fpo, G, ds, O1, Hd1, s1', a1, io, body⟩ => by
  refine ⟨it, fp, tn, J, H1, e1, I1, T, t0, fpo, fun P nP => ?_⟩
  obtain ⟨Pv, h0, hG, hs, hd⟩ := body P (a1.freeO nP)
  refine ⟨fun i m H2 => m = ds.length - i ∧ i ≤ ds.length ∧ ∃ acc O2 Hd2, Same Hd1 Hd2 ∧ AbsH X.K H2 Hd2 O2 ∧ Pv i acc O2, ⟨_, rfl, Nat.zero_le _, [], _, Hd1, Same.refl _, a1.putL (a1.free nP) .nil, h0⟩, ?_⟩
  rintro i m H2 ⟨rfl, hi, acc, O2, Hd2, s2', a2, pv⟩
  obtain ⟨gO, eP⟩ := hG i acc O2 pv
  have io2 := io i H2 Hd2 O2 s2' a2 gO
  by_cases hlt : i < ds.length
  · obtain ⟨d, hd'⟩ : ∃ d, ds[i]? = some d := ⟨_, geG hlt⟩
    obtain ⟨go, yl⟩ := io2.1 d hd'
    refine .inr ⟨go, fun H3 => ∃ acc O3 Hd3, Same Hd1 Hd3 ∧ AbsH X.K H3 Hd3 O3 ∧ Pv (i + 1) acc O3, fun H3 ⟨acc3, O3, Hd3, s3, a3, pv3⟩ => ⟨ds.length - (i + 1), by omega, rfl, hlt, acc3, O3, Hd3, s3, a3, pv3⟩, fun x H3 hy s H0 C cl fp => ?_⟩
    obtain ⟨Hd3, s3, a3, rx⟩ := yl x H3 hy
    have g3 : AbsG X.K Hd3 (wipe σ (own.map (·.2))) (wipeD Γ (own.map (·.2))) := (p.g.mono (s1'.trans (s2'.trans s3))).wipe _
    refine wG_mono ((hs i d acc O2 hd' pv s H0 C cl fp).run σ H3 Hd3 x g3 a3 rx) fun σ4 H4 ⟨ew, Γ4, O4, Hd4, s4, g4, a4, q4⟩ => ⟨ew, fun s H0 C cl fp => ?_⟩
    refine (q4 s H0 C cl fp).use (pre0 g4 a4) fun b H5 O5 Hd5 s5 p5 q5 => ?_
    have s15 := s2'.trans (s3.trans (s4.trans s5))
    cases b with
    | false =>
      simp only [Bool.false_eq_true, if_false] at q5 ⊢
      exact ⟨acc, O5, Hd5, s15, p5.h, q5⟩
    | true =>
      simp only [if_true] at q5 ⊢
      intro s H0 C cl fp
      refine (q5 s H0 C cl fp).use (pre0 p5.g p5.h) fun y H6 d6 O6 Hd6 s6 p6 r6 ⟨e6, l6, pv6⟩ => ?_
      obtain ⟨n6, vs6, h6, r6'⟩ := p6.h.own P _ e6
      exact ⟨vs6, h6, by rw [r6'.length]; exact l6, _, _, Hd6, s15.trans s6, p6.h.putL n6 (r6'.append (.cons r6 .nil)), pv6⟩
  · have e : i = ds.length := by omega
    subst e
    refine .inl ⟨io2.2 (Nat.le_refl _), kk _ _ ?_⟩
    rcases hd acc O2 pv with q | q
    · exact ⟨_, O2, Hd2, s1'.trans s2', a2, .obj P, q⟩
    · obtain ⟨Hd3, s3, a3, r3⟩ := a2.fix eP
      exact ⟨_, _, Hd3, s1'.trans (s2'.trans s3), a3, r3, q⟩
theorem w_lc (vs : List Nat) (hc : X.calm = true) (hN : X.N.Nodup) (ok : BlkOk X.N X.env.scope scope own) (hvs : own.map (·.2) = vs) (h : WI X E tg iter Γ O fun G ds O1 => LcBody X Γ elt tg ifs scope vs G ds O1 Q) (hs : ∀ x, foldedSetIterable iter X.env x = pure x := by intro _; rfl) :
  WE X E (.ListComp elt [⟨tg, iter, ifs, 0⟩] scope pos) Γ O Q := .mk fun W σ H Hd p => by
 subst hvs
 exact wE_of (pe_lc (own := own) hc hN piW ok (fun s H C cl fp => ⟨fun pins s' σ H v u Q I r h => h s _ C cl fp pins s' u I r⟩) (fun s H C cl fp => ⟨fun pins s' σ H Q I h => h s _ C cl fp pins s' I⟩) (fun s H C cl fp => ⟨fun pins s' σ H Q I h => h s _ C cl fp pins s' I⟩) hs) (lc_run p h fun _ _ z => z)
theorem lc_all {vs : List Nat} {G : Own → Prop} {ds : List D} {O1 : Own} (P : Nat → D → D → Prop) (hl : ds.length ≤ 100000) (hG : ∀ O2, Sub O1 O2 → G O2)
  (hs : ∀ i d O2, ds[i]? = some d → Sub O1 O2 → ∀ s H C cl fp, WGc (blkX X scope s H C cl fp) vs tg d (wipeD Γ vs) O2 fun Γ3 O3 => O3 = O2 ∧ ∀ s H C cl fp, WE (blkX X scope s H C cl fp) noEx elt Γ3 O2 (fun y O5 => O5 = O2 ∧ P i d y))
  (hd : ∀ ys : List D, ys.length = ds.length → (∀ (i : Nat) d, ds[i]? = some d → ∃ y, ys[i]? = some y ∧ P i d y) → Mk ys O1 Q) : LcBody X Γ elt tg [] scope vs G ds O1 Q := fun p np => by
 refine ⟨fun i acc O2 => O2 = updO O1 p (.lst acc) ∧ acc.length = i ∧ i ≤ ds.length ∧ ∀ (j : Nat) d, j < i → ds[j]? = some d → ∃ y, acc[j]? = some y ∧ P j d y, ⟨rfl, rfl, Nat.zero_le _, fun j d hj => absurd hj (Nat.not_lt_zero _)⟩, fun i acc O2 ⟨e, _⟩ => ?_, fun i d acc O2 hd' ⟨e, el, ei, ea⟩ s H C cl fp => ?_, fun acc O2 ⟨e, el, _, ea⟩ => ?_⟩
 · subst e
   exact ⟨hG _ (Sub.new np), updO_same⟩
 · have hlt : i < ds.length := (geS.mp hd').1
   refine .mk fun σ H1 Hd v g a r => ?_
   refine wG_mono ((hs i d O2 hd' (by rw [e]; exact Sub.new np) s H C cl fp).run σ H1 Hd v g a r) fun σ' H' ⟨ew, Γ3, O3, Hd3, s3, g3, a3, e3, q3⟩ => ⟨ew, Γ3, O3, Hd3, s3, g3, a3, fun s H C cl fp => ?_⟩
   subst e3
   refine wts_nil ?_
   rw [if_pos rfl]
   intro s H C cl fp
   refine (q3 s H C cl fp).mono fun y O5 ⟨e5, py⟩ => ?_
   rw [e5, e, updO_same, updO_updO]
   refine ⟨rfl, nLL (m := 100000) (by omega) (by decide), rfl, by simp [el], hlt, fun j d' hj hd2 => ?_⟩
   by_cases hji : j = i
   · subst hji
     rw [hd'] at hd2; cases hd2
     exact ⟨y, by rw [List.getElem?_append_right (by omega)]; simp [el], py⟩
   · obtain ⟨y', h1, h2⟩ := ea j d' (by omega) hd2
     exact ⟨y', by rw [List.getElem?_append_left (by omega)]; exact h1, h2⟩
 · subst e
   rcases hd acc el fun i d h => ea i d ((geS.mp h).1) h with q | q
   · exact .inr (by rw [delO_updO np]; exact q)
   · exact .inl (q p np)
end
abbrev SpD := List D → Own → PD → (Ex → Own → Prop) → Prop
def spD (K : PySem.W.Frag) (S : SpD) : Sp := fun vs H Q E => ∃ ds Hd O Qd Ed, AbsH K H Hd O ∧ Reps K Hd vs ds ∧ S ds O Qd Ed ∧ (∀ v H', Post K Hd Qd v H' → Q v H') ∧
 (∀ (cls : Value) (d : Option Addr) (H' Hd' : Hp) (e : Ex) (O' : Own), Same Hd Hd' → AbsH K H' Hd' O' → ERep K H' Hd' cls d e → Ed e O' → E cls d H')
def startD (N : List Str) (ds : List D) : Env' := ds.map some ++ List.replicate (N.length - ds.length) none
theorem start_abs {K : PySem.W.Frag} {Hd : Hp} {N : List Str} {vs : List V} {ds : List D} (r : Reps K Hd vs ds) : AbsG K Hd (L2.start N vs) (startD N ds) := by
 refine ⟨by simp [L2.start, startD, r.length], fun i d h => ?_⟩
 unfold startD at h
 unfold L2.start
 by_cases hi : i < ds.length
 · rw [List.getElem?_append_left (by simpa using hi), geM] at h
   cases e : ds[i]? with
   | none => rw [e] at h; cases h
   | some d' =>
     rw [e] at h
     simp at h
     subst h
     obtain ⟨v, h1, h2⟩ := r.get e
     exact ⟨v, by rw [List.getElem?_append_left (by simp [r.length]; exact hi), geM, h1]; rfl, h2⟩
 · rw [List.getElem?_append_right (by simp; omega)] at h
   have := mgE h
   simp at this
section
variable {P : Program} {w : World} {K : PySem.W.Frag} {mg : Str → Option Value} {base : Heap}
theorem fd_ok {x qual : Str} {st : Stmt} {f : Addr} {fd : FuncData} {N ps : List Str} {k : Nat} {S : SpD} (F : Fun K x qual st f fd) (Sc : FnScope N ps (defScope st)) (hl : ∀ ds O Q E, S ds O Q E → ds.length = ps.length)
  (body : ∀ (cdv : Value) (A : Around) (outer : List Env) (s : Shared) (H : Hp) (E0 : XK), Room k (A.deeper (envOfC qual (defScope st) s.heap.objs.size f cdv)) → ∀ ds O Q E, S ds O Q E →
   WSs (cxOf (KX P w) P w K mg base N qual (defScope st) f cdv A outer s H E0) (fun e _ O' => E e O') (defBody st) (startD N ds) O { nx := fun _ O' => Q .non O', rt := Q }) :
  FnOk P w K mg base (KX P w) (k + 1) f fd ps (spD K S) :=
 fun_okK F Sc (fun vs H Q E ⟨ds, Hd, O, Qd, Ed, a, r, q, _⟩ => by rw [r.length]; exact hl _ _ _ _ q) fun cdv A outer s H vs Q E hr ⟨ds, Hd, O, Qd, Ed, a, r, q, k1, k2⟩ =>
  ⟨_, pssW, wSs_mono ((body cdv A outer s H E hr ds O Qd Ed q).run (fun cls d _ H => E cls d H) (L2.start N vs) H Hd ⟨takes_of rfl rfl rfl rfl, start_abs r, a, fun cls d σ' H' Hd' e Γ' O' s' g' a' er ee => k2 cls d H' Hd' e O' s' a' er ee⟩)
   ⟨fun σ' H' ⟨Γ', O', Hd', s', g', a', z⟩ => k1 _ _ ⟨_, O', Hd', s', a', .non, z⟩, fun v H' z => k1 _ _ z, fun _ _ ⟨_, _, _, _, _, _, z⟩ => z.elim, fun _ _ ⟨_, _, _, _, _, _, z⟩ => z.elim⟩⟩
end
structure Fd (P : Program) (w : World) (K : PySem.W.Frag) (mg : Str → Option Value) (base : Heap) (x : Str) (k : Nat) (ps : List Str) (S : SpD) : Prop where
 ex : ∃ (f : Addr) (fd : FuncData), FnOk P w K mg base (KX P w) k f fd ps (spD K S) ∧ mg x = some (.ref f) ∧ PySem.W.keepIn K (.ref f) = true ∧ Binds K fd ps []
theorem w_call {x : Str} {k j : Nat} {ps : List Str} {S : SpD} {p : Pos} {es : List Expr} {Q : PD} (F : Fd X.prog X.w X.K X.mg X.base x k ps S) (hr : Room j X.A) (hkj : k ≤ j) (h : WA X E (e :: es) Γ O fun ds O' => S ds O' Q (fun ex O'' => E ex Γ O''))
  (hg : Gl X x := by rfl) (hdb : (x == ("__debug__" : Str)) = false := by decide) (he : starEach (e :: es) X.env = (false, eval e X.env) :: starEach es X.env := by rfl) (hpl : (backTo pos (starEach es X.env)).any (·.1) = false := by rfl) :
  WE X E (.Call (.Name x p) (e :: es) [] pos) Γ O Q := .mk fun W σ H Hd q => by
 obtain ⟨f, fd, F1, F2, F3, F4⟩ := F.ex
 exact wE_of (pe_callS F1 (hr.mono hkj) hg F2 F3 F4 (fun σ => passAt q.tk σ) paW hdb he hpl) (h.use q fun vs H1 ds O1 Hd1 s1 p1 r1 q1 =>
  ⟨ds, Hd1, O1, Q, _, p1.h, r1, q1, fun v H' z => z.lift s1, fun cls d H' Hd' e O' s' a er ee => p1.ex cls d σ H' Hd' e Γ O' s' (p1.g.mono s') a er ee⟩)
end
end RW
namespace RW
open PySem PySem.Spec PyProof.Rows L2
section
variable {X : Cx} {E : ExP} {Γ : Env'} {O : Own} {e a b : Expr} {pos : Pos} {Q : PD}
def wO (X : Cx) (e : Option Expr) : TO := fun σ H Q => ∀ (pins : List (Addr × Obj)) (s : Shared), Inv X pins σ H s → wpAny (model X.prog X.w) X.A (evalPart e X.env) (fun u s' => ∃ o H', Inv X pins σ H' s' ∧ IsPart u o ∧ Q o H') X.xe s
theorem poW {e : Option Expr} : PO X e (wO X e) := ⟨fun pins s σ H Q I h => h pins s I⟩
theorem wO_of {e : Option Expr} {t : TO} (h : PO X e t) {σ : L2.St} {H : Hp} {Q : Option Int → Hp → Prop} (q : t σ H Q) : wO X e σ H Q := fun pins s I => h.run pins s σ H Q I q
theorem wO_mono {e : Option Expr} {σ : L2.St} {H : Hp} {Q Q' : Option Int → Hp → Prop} (h : wO X e σ H Q) (k : ∀ v H', Q v H' → Q' v H') : wO X e σ H Q' := fun pins s I =>
 thn (h pins s I) fun _ _ ⟨v, H', I', r, q⟩ => ⟨v, H', I', r, k v H' q⟩
structure WO (X : Cx) (E : ExP) (e : Option Expr) (Γ : Env') (O : Own) (Q : Option Int → Own → Prop) : Prop where
 run : ∀ (W : WX) (σ : L2.St) (H Hd : Hp), Pre X E W σ H Hd Γ O → wO X e σ H fun o H' => ∃ O' Hd', Same Hd Hd' ∧ AbsH X.K H' Hd' O' ∧ Q o O'
theorem wo_none {Q : Option Int → Own → Prop} (q : Q none O) : WO X E none Γ O Q := .mk fun W σ H Hd p => wO_of po_none ⟨O, Hd, Same.refl _, p.h, q⟩
theorem wo_some {Q : Option Int → Own → Prop} (h : WE X E e Γ O fun d O1 => ∃ i, d = .int i ∧ Q (some i) O1) : WO X E (some e) Γ O Q := .mk fun W σ H Hd p =>
 wO_of (po_some peW) (h.use p fun v H1 d O1 Hd1 s1 p1 r1 ⟨i, e1, q⟩ => by
  subst e1; cases r1
  exact ⟨i, rfl, O1, Hd1, s1, p1.h, q⟩)
def cutD (xs : List D) (lo hi : Option Int) : List D := (xs.drop (HT.sIx xs.length 0 lo)).take (HT.sIx xs.length xs.length hi - HT.sIx xs.length 0 lo)
theorem cut_rep {K : PySem.W.Frag} {H : Hp} {vs : List V} {ds : List D} (r : Reps K H vs ds) (lo hi : Option Int) : Reps K H (cutV vs lo hi) (cutD ds lo hi) := by
 unfold cutV cutD
 rw [r.length]
 exact (r.drop _).take _
theorem cut_whole {xs : List D} {lo hi : Option Int} (h : HT.sIx xs.length 0 lo = 0 ∧ HT.sIx xs.length xs.length hi = xs.length) : cutD xs lo hi = xs := by
 unfold cutD
 rw [h.1, h.2]
 simp
def sSl (x : D) (lo hi : Option Int) (O : Own) (Q : PD) : Prop := match x with
 | .str z => z.length ≤ sizeLine ∧ Q (.str (cutS z lo hi)) O
 | .tup xs => Q (.tup (cutD xs lo hi)) O
 | x => ∃ xs, asL O x = some xs ∧ Mk (cutD xs lo hi) O Q
theorem w_sl {lo hi : Option Expr} {p2 : Pos} (h : WE X E e Γ O fun x O1 => WO X E lo Γ O1 fun l O2 => WO X E hi Γ O2 fun u O3 => sSl x l u O3 Q) : WE X E (.Subscript e (.Slice lo hi none p2) pos) Γ O Q := .mk fun W σ H Hd p =>
 wE_of (pe_slice (sl_list.or (sl_tupN.or sl_str)) peW poW poW) (h.use p fun v H1 x O1 Hd1 s1 p1 r1 q1 => wO_mono (q1.run W σ H1 Hd1 p1) fun l H2 ⟨O2, Hd2, s2, a2, q2⟩ => wO_mono (q2.run W σ H2 Hd2 (p1.go s2 a2)) fun u H3 ⟨O3, Hd3, s3, a3, q3⟩ => by
  have s13 := s1.trans (s2.trans s3)
  have r3 := r1.mono (s2.trans s3)
  unfold sSl at q3
  split at q3
  · cases r3
    exact .inr (.inr ⟨_, rfl, q3.1, .lift s13 (.of a3 (.str _) q3.2)⟩)
  · rename_i xs
    cases r3 with | tup g r =>
    refine .inr (.inl ⟨_, _, rfl, Same.sqT a3.same g.sqT, fun z => ?_, fun _ p o np hd => .lift s13 (.mkT a3 np hd (cut_rep r l u) q3)⟩)
    rw [r.length] at z
    rw [cut_whole z] at q3
    exact .lift s13 (.of a3 (.tup g r) q3)
  · obtain ⟨xs, e1, q3⟩ := q3
    obtain ⟨a, vs, e2, g, r⟩ := a3.readL r3 e1
    subst e2
    exact .inl ⟨a, vs, rfl, g, fun p np => .lift s13 (.mk a3 np (cut_rep r l u) q3)⟩)
def C1ok (X : Cx) (r : List V → Hp → VK → Prop) (S : D → Own → PD → Prop) : Prop := ∀ (x : D) (O : Own) (v : V) (H Hd : Hp) (Q : PD) (Q' : VK), AbsH X.K H Hd O → Rep X.K Hd v x → S x O Q → (∀ v H', Post X.K Hd Q v H' → Q' v H') → r [v] H Q'
theorem CallR.or {f : Value} {r r' : List V → Hp → VK → Prop} (h : CallR X f r) (h' : CallR X f r') : CallR X f (fun vs H Q => r vs H Q ∨ r' vs H Q) := by
 intro pins s σ H vs us Q I rv q
 rcases q with q | q
 · exact h pins s σ H vs us Q I rv q
 · exact h' pins s σ H vs us Q I rv q
theorem w_callB {x : Str} {id : String} {r : List V → Hp → VK → Prop} {S : D → Own → PD → Prop} {p : Pos} (hc : CallR X (.builtin id) r) (hS : C1ok X r S) (hm : X.mg x = none) (hv : bootBuiltins x = some (.builtin id)) (h : WE X E e Γ O fun d O1 => S d O1 Q)
  (hg : Gl X x) (he : starEach [e] X.env = [(false, eval e X.env)]) (hn : x ≠ "__name__" := by decide) (hdb : (x == ("__debug__" : Str)) = false := by decide) : WE X E (.Call (.Name x p) [e] [] pos) Γ O Q := .mk fun W σ H Hd q =>
 wE_of (pe_callB hc hg hm hv (pa_cons peW pa_nil he) hn hdb he (by rfl)) (h.use q fun v H1 d O1 Hd1 s1 p1 r1 q1 => hS d O1 v H1 Hd1 Q _ p1.h r1 q1 fun _ _ z => z.lift s1)
theorem w_callTy {x : Str} {T : String} {r : List V → Hp → VK → Prop} {S : D → Own → PD → Prop} {p : Pos} (hc : CallR X (.type T) r) (hS : C1ok X r S) (hm : X.mg x = none) (hv : bootBuiltins x = some (.type T)) (h : WE X E e Γ O fun d O1 => S d O1 Q)
  (hg : Gl X x) (he : starEach [e] X.env = [(false, eval e X.env)]) (hn : x ≠ "__name__" := by decide) (hdb : (x == ("__debug__" : Str)) = false := by decide) : WE X E (.Call (.Name x p) [e] [] pos) Γ O Q := .mk fun W σ H Hd q =>
 wE_of (pe_callTy hc hg hm hv (pa_cons peW pa_nil he) hn hdb he (by rfl)) (h.use q fun v H1 d O1 Hd1 s1 p1 r1 q1 => hS d O1 v H1 Hd1 Q _ p1.h r1 q1 fun _ _ z => z.lift s1)
def sLen (x : D) (O : Own) (Q : PD) : Prop := match x with
 | .str z => z.length ≤ sizeLine ∧ Q (.int z.length) O
 | x => ∃ xs, asS O x = some xs ∧ Q (.int xs.length) O
theorem w_len {p : Pos} (hm : X.mg "len" = none) (h : WE X E e Γ O fun d O1 => sLen d O1 Q) (hg : Gl X "len" := by rfl) (he : starEach [e] X.env = [(false, eval e X.env)] := by rfl) : WE X E (.Call (.Name "len" p) [e] [] pos) Γ O Q :=
 w_callB call_len (fun x O v H Hd Q Q' h r q k => by
  unfold sLen at q
  split at q
  · cases r
    exact ⟨_, _, rfl, ⟨q.1, rfl⟩, k _ _ (.of h (.int _) q.2)⟩
  · obtain ⟨xs, e1, q⟩ := q
    obtain ⟨a, vs, rfl, g, r2⟩ := h.readS r e1
    rcases g with g | g
    · exact ⟨_, _, rfl, .inl ⟨vs, g, r2.length.symm⟩, k _ _ (.of h (.int _) q)⟩
    · exact ⟨_, _, rfl, .inr ⟨vs, g, r2.length.symm⟩, k _ _ (.of h (.int _) q)⟩) hm boot_len h hg he
def sSum (x : D) (O : Own) (Q : PD) : Prop := ∃ ns : List Int, asL O x = some (ns.map .int) ∧ Q (.int ns.sum) O
theorem w_sum {p : Pos} (hc : X.calm = true) (hm : X.mg "sum" = none) (h : WE X E e Γ O fun d O1 => sSum d O1 Q) (hg : Gl X "sum" := by rfl) (he : starEach [e] X.env = [(false, eval e X.env)] := by rfl) : WE X E (.Call (.Name "sum" p) [e] [] pos) Γ O Q :=
 w_callB (cr_sum hc) (fun x O v H Hd Q Q' h r ⟨ns, e1, q⟩ k => by
  obtain ⟨a, vs, rfl, g, r2⟩ := h.readL r e1
  rw [r2.ints] at g
  exact ⟨a, ns, rfl, g, k _ _ (.of h (.int _) q)⟩) hm (by decide +kernel) h hg he
def sAll (x : D) (O : Own) (Q : PD) : Prop := ∃ bs : List Bool, asL O x = some (bs.map .bl) ∧ Q (.bl (bs.all id)) O
theorem w_all {p : Pos} (hc : X.calm = true) (hm : X.mg "all" = none) (h : WE X E e Γ O fun d O1 => sAll d O1 Q) (hg : Gl X "all" := by rfl) (he : starEach [e] X.env = [(false, eval e X.env)] := by rfl) : WE X E (.Call (.Name "all" p) [e] [] pos) Γ O Q :=
 w_callB (cr_all hc) (fun x O v H Hd Q Q' h r ⟨ns, e1, q⟩ k => by
  obtain ⟨a, vs, rfl, g, r2⟩ := h.readL r e1
  rw [r2.bls] at g
  exact ⟨a, ns, rfl, g, k _ _ (.of h (.bl _) q)⟩) hm (by decide +kernel) h hg he
theorem w_list {p : Pos} (hm : X.mg "list" = none) (h : WE X E e Γ O fun d O1 => ∃ xs, asS O1 d = some xs ∧ Mk xs O1 Q) (hg : Gl X "list" := by rfl) (he : starEach [e] X.env = [(false, eval e X.env)] := by rfl) : WE X E (.Call (.Name "list" p) [e] [] pos) Γ O Q :=
 w_callTy (S := fun d O1 Q => ∃ xs, asS O1 d = some xs ∧ Mk xs O1 Q) call_list_of (fun x O v H Hd Q Q' h r ⟨xs, e1, q⟩ k => by
  obtain ⟨a, vs, rfl, g, r2⟩ := h.readS r e1
  exact ⟨a, vs, rfl, g, fun l nl => k _ _ (.mk h nl r2 q)⟩) hm PyProof.Rows.boot_list h hg he
def tyD : D → Option String
 | .non => some "NoneType"
 | .bl _ => some "bool"
 | .int _ => some "int"
 | .str _ => some "str"
 | .lst _ => some "list"
 | .rol _ => some "list"
 | .tup _ => some "tuple"
 | _ => none
theorem tyD_ok {K : PySem.W.Frag} {H Hd : Hp} {O : Own} {x : D} {v : V} {n : String} (h : AbsH K H Hd O) (r : Rep K Hd v x) (e : tyD x = some n) : TyX K H v (.type n) := by
 cases r <;> simp [tyD] at e <;> subst e
 · exact .base .non
 · exact .base (.bl _)
 · exact .base (.int _)
 · exact .base (.str _)
 · rename_i g r
   exact .base (.lst (h.same _ _ g))
 · rename_i g r
   rcases Same.sqL h.same g with (g | ⟨o, g⟩) | ⟨o, its, n, g, c, _⟩
   · exact .base (.lst g)
   · exact .base (.frz g)
   · exact .kList g c
 · rename_i g r
   rcases SqN.same h.same g with ⟨o, g, _⟩ | ⟨o, its, n, g, c, _⟩
   · exact .fTuple g
   · exact .kTuple g c
def tyO (O : Own) : D → Option String
 | .obj p => match O p with
   | some (.lst _) => some "list"
   | some (.any _) => some "list"
   | _ => none
 | x => tyD x
theorem tyO_ok {K : PySem.W.Frag} {H Hd : Hp} {O : Own} {x : D} {v : V} {n : String} (h : AbsH K H Hd O) (r : Rep K Hd v x) (e : tyO O x = some n) : TyX K H v (.type n) := by
 cases x with
 | obj p =>
   cases r
   simp only [tyO] at e
   split at e
   · rename_i ds z
     cases e
     obtain ⟨_, vs, h1, _⟩ := h.own p _ z
     exact .base (.lst h1)
   · rename_i ds z
     cases e
     obtain ⟨_, ds, vs, _, h1, _⟩ := h.own p _ z
     exact .base (.lst h1)
   · cases e
 | _ => exact tyD_ok h r e
theorem tyO_L {O : Own} {x : D} {xs : List D} (h : asL O x = some xs) : tyO O x = some "list" := by
 cases x with
 | obj p =>
   simp only [asL] at h
   simp only [tyO]
   split at h
   · rename_i z
     rw [z]
   · cases h
 | lst _ => rfl
 | rol _ => rfl
 | _ => simp [asL] at h
theorem sLen_L {O : Own} {x : D} {xs : List D} {Q : PD} (h : asL O x = some xs) (q : Q (.int xs.length) O) : sLen x O Q := by
 cases x <;> first | exact ⟨xs, h, q⟩ | (simp [asL] at h)
theorem w_isi {p p1 : Pos} {T : Str} {c : String} (hm : X.mg "isinstance" = none) (hmT : X.mg T = none) (hb : bootBuiltins T = some (.type c)) (h : WE X E e Γ O fun d O1 => ∃ n k, tyO O1 d = some n ∧ kitB n c = some k ∧ Q (.bl k) O1)
  (hg : Gl X "isinstance" := by rfl) (hgT : Gl X T := by rfl) (hnT : T ≠ "__name__" := by decide) (hdT : (T == ("__debug__" : Str)) = false := by decide)
  (he : starEach [e, .Name T p1] X.env = (false, eval e X.env) :: starEach [.Name T p1] X.env := by rfl) (he2 : starEach [.Name T p1] X.env = [(false, eval (.Name T p1) X.env)] := by rfl) (hpl : (backTo pos (starEach [.Name T p1] X.env)).any (·.1) = false := by rfl) :
  WE X E (.Call (.Name "isinstance" p) [e, .Name T p1] [] pos) Γ O Q := .mk fun W σ H Hd q =>
 wE_of (pe_callB call_isi hg hm boot_isinstance (pa_cons peW (pa_cons (pe_bltn (v := .ty c) hgT hmT hb rfl hnT hdT) pa_nil he2) he) (by decide) (by decide) he hpl) (h.use q fun v H1 d O1 Hd1 s1 p1 r1 ⟨n, k, e1, e2, q1⟩ =>
  ⟨v, .ty c, _, _, k, rfl, .ty c, tyO_ok p1.h r1 e1, kit_ty e2, .lift s1 (.of p1.h (.bl _) q1)⟩)
theorem w_isi2 {p p1 p2 p3 : Pos} {T U : Str} {c u : String} {kk : Nat} (hm : X.mg "isinstance" = none) (hmT : X.mg T = none) (hmU : X.mg U = none) (hb : bootBuiltins T = some (.type c)) (hbU : bootBuiltins U = some (.type u)) (h : WE X E e Γ O fun d O1 => ∃ n k1 k2, tyO O1 d = some n ∧ kitB n c = some k1 ∧ kitB n u = some k2 ∧ Q (.bl (k1 || k2)) O1)
  (hg : Gl X "isinstance" := by rfl) (hgT : Gl X T := by rfl) (hgU : Gl X U := by rfl) (hnT : T ≠ "__name__" := by decide) (hdT : (T == ("__debug__" : Str)) = false := by decide) (hnU : U ≠ "__name__" := by decide) (hdU : (U == ("__debug__" : Str)) = false := by decide)
  (he : starEach [e, .Tuple [.Name T p1, .Name U p2] kk p3] X.env = (false, eval e X.env) :: starEach [.Tuple [.Name T p1, .Name U p2] kk p3] X.env := by rfl) (he2 : starEach [.Tuple [.Name T p1, .Name U p2] kk p3] X.env = [(false, eval (.Tuple [.Name T p1, .Name U p2] kk p3) X.env)] := by rfl)
  (hT : starEach [.Name T p1, .Name U p2] X.env = (false, eval (.Name T p1) X.env) :: starEach [.Name U p2] X.env := by rfl) (hU : starEach [.Name U p2] X.env = [(false, eval (.Name U p2) X.env)] := by rfl)
  (hpl : (backTo pos (starEach [.Tuple [.Name T p1, .Name U p2] kk p3] X.env)).any (·.1) = false := by rfl) :
  WE X E (.Call (.Name "isinstance" p) [e, .Tuple [.Name T p1, .Name U p2] kk p3] [] pos) Γ O Q := .mk fun W σ H Hd q =>
 wE_of (pe_callB call_isiT hg hm boot_isinstance (pa_cons peW (pa_cons (pe_tup (pa_cons (pe_bltn (v := .ty c) hgT hmT hb rfl hnT hdT) (pa_cons (pe_bltn (v := .ty u) hgU hmU hbU rfl hnU hdU) pa_nil hU) hT)) pa_nil he2) he) (by decide) (by decide) he hpl)
  (h.use q fun v H1 d O1 Hd1 s1 p1 r1 ⟨n, k1, k2, e1, e2, e3, q1⟩ => ⟨(show 2 ≤ sizeLine by decide), fun t nt => by
   have sn := same_new (o := HO.tup [V.ty c, V.ty u]) (p1.h.free nt)
   refine ⟨v, t, [.ty c, .ty u], _, [.type c, .type u], k1 || k2, rfl, upd_same, .cons (.ty c) (.cons (.ty u) .nil), tyO_ok (p1.h.aside nt) r1 e1, ?_, .lift s1 (.of (p1.h.aside nt) (.bl _) q1)⟩
   refine kitAny_cons (b := k1) (kit_ty e2) (fun z => ?_) fun z => by rw [z]; rfl
   rw [z]
   exact kitAny_cons (b := k2) (kit_ty e3) (fun z => by rw [z]; rfl) fun z => by rw [z]; rfl⟩)
theorem w_append {o : Expr} {apos : Pos} (h : WE X E o Γ O fun x O1 => ∃ p, x = .obj p ∧ (∃ ds, O1 p = some (.lst ds)) ∧ WE X E e Γ O1 fun d O2 => ∃ ds, O2 p = some (.lst ds) ∧ ds.length < sizeLine ∧ Q .non (updO O2 p (.lst (ds ++ [d]))))
  (hbase : attributeBase o "append" X.env (eval o X.env) = eval o X.env := by rfl)
  (hfew : ((backTo pos (starEach [e] X.env)).all (fun x => !x.1) && (backToKw pos (keywordEach [] X.env)).all (fun x => x.1.isSome) && decide ([e].length + ([] : List Keyword).length + (if ([] : List Keyword).isEmpty then 0 else 1) < 30)) = true := by rfl)
  (hline : (apos.endLine == pos.line) = true := by rfl) (hs : starEach [e] X.env = [(false, eval e X.env)] := by rfl) :
  WE X E (.Call (.Attribute o "append" apos) [e] [] pos) Γ O Q := .mk fun W σ H Hd q =>
 wE_of (pe_bm PySem.F.plainAttrs_list PySem.F.slot_list_append PySem.F.type_list_append mt_append peW (pa_cons peW pa_nil hs) hbase hfew hline hs (by rfl)) (h.use q fun v H1 x O1 Hd1 s1 p1 r1 ⟨p, e1, ⟨ds0, g0⟩, q1⟩ => by
  subst e1
  cases r1
  obtain ⟨_, vs0, h0, _⟩ := p1.h.own p _ g0
  refine ⟨.inl ⟨rfl, vs0, .inl (.inl h0)⟩, q1.use p1 fun u H2 d O2 Hd2 s2 p2 r2 ⟨ds, g, hl, q2⟩ => ?_⟩
  obtain ⟨n2, vs, h2, r3⟩ := p2.h.own p _ g
  exact ⟨p, vs, u, rfl, rfl, h2, by rw [r3.length]; exact hl, .non, _, Hd2, s1.trans s2, p2.h.putL n2 (r3.append (.cons r2 .nil)), .non, q2⟩)
theorem w_extend {o : Expr} {apos : Pos} (h : WE X E o Γ O fun x O1 => ∃ p, x = .obj p ∧ (∃ ds, O1 p = some (.lst ds)) ∧ WE X E e Γ O1 fun d O2 => ∃ ds es, O2 p = some (.lst ds) ∧ asM O2 d = some es ∧ ds.length + es.length ≤ sizeLine ∧ Q .non (updO O2 p (.lst (ds ++ es))))
  (hbase : attributeBase o "extend" X.env (eval o X.env) = eval o X.env := by rfl)
  (hfew : ((backTo pos (starEach [e] X.env)).all (fun x => !x.1) && (backToKw pos (keywordEach [] X.env)).all (fun x => x.1.isSome) && decide ([e].length + ([] : List Keyword).length + (if ([] : List Keyword).isEmpty then 0 else 1) < 30)) = true := by rfl)
  (hline : (apos.endLine == pos.line) = true := by rfl) (hs : starEach [e] X.env = [(false, eval e X.env)] := by rfl) :
  WE X E (.Call (.Attribute o "extend" apos) [e] [] pos) Γ O Q := .mk fun W σ H Hd q =>
 wE_of (pe_bm PySem.F.plainAttrs_list PySem.F.slot_list_extend PySem.F.type_list_extend mt_extend peW (pa_cons peW pa_nil hs) hbase hfew hline hs (by rfl)) (h.use q fun v H1 x O1 Hd1 s1 p1 r1 ⟨p, e1, ⟨ds0, g0⟩, q1⟩ => by
  subst e1
  cases r1
  obtain ⟨_, vs0, h0, _⟩ := p1.h.own p _ g0
  refine ⟨.inl ⟨rfl, vs0, .inl (.inl h0)⟩, q1.use p1 fun u H2 d O2 Hd2 s2 p2 r2 ⟨ds, es, g, ge, hl, q2⟩ => ?_⟩
  obtain ⟨n2, vs, h2, r3⟩ := p2.h.own p _ g
  obtain ⟨b, us, rfl, h4, r4⟩ := p2.h.readM r2 ge
  exact ⟨p, b, vs, us, rfl, rfl, h2, h4, by rw [r3.length, r4.length]; exact hl, .non, _, Hd2, s1.trans s2, p2.h.putL n2 (r3.append r4), .non, q2⟩)
theorem w_m1 {o : Expr} {id : String} {name : Str} {apos : Pos} {r : V → List V → Hp → VK → Prop} {S : Str → D → Own → PD → Prop} (slot : Slot "str" name id) (ty : typeOf (.builtin id) = pure (.type "method_descriptor")) (rule : MtR X id r)
  (hS : ∀ (a : Str) (d : D) (O : Own) (u : V) (H Hd : Hp) (Q : PD) (Q' : VK), AbsH X.K H Hd O → Rep X.K Hd u d → S a d O Q → (∀ v H', Post X.K Hd Q v H' → Q' v H') → r (.str a) [u] H Q')
  (h : WE X E o Γ O fun x O1 => ∃ a, x = .str a ∧ WE X E e Γ O1 fun d O2 => S a d O2 Q)
  (hs : starEach [e] X.env = [(false, eval e X.env)]) (hbase : attributeBase o name X.env (eval o X.env) = eval o X.env) (hline : (apos.endLine == pos.line) = true) : WE X E (.Call (.Attribute o name apos) [e] [] pos) Γ O Q := .mk fun W σ H Hd q =>
 wE_of (pe_m1 slot ty rule peW peW hs hbase hline) (h.use q fun v H1 x O1 Hd1 s1 p1 r1 ⟨a, e1, q1⟩ => by
  subst e1
  cases r1
  exact ⟨⟨a, rfl⟩, q1.use p1 fun u H2 d O2 Hd2 s2 p2 r2 q2 => hS a d O2 u H2 Hd2 Q _ p2.h r2 q2 fun _ _ z => z.lift (s1.trans s2)⟩)
theorem w_split {o : Expr} {apos : Pos} (h : WE X E o Γ O fun x O1 => ∃ a, x = .str a ∧ WE X E e Γ O1 fun d O2 => ∃ b, d = .str b ∧ (b.length == 0) = false ∧ a.length + 2 ≤ sizeLine ∧ Mk ((Txt.split a b).map .str) O2 Q)
  (hs : starEach [e] X.env = [(false, eval e X.env)] := by rfl) (hbase : attributeBase o "split" X.env (eval o X.env) = eval o X.env := by rfl) (hline : (apos.endLine == pos.line) = true := by rfl) : WE X E (.Call (.Attribute o "split" apos) [e] [] pos) Γ O Q :=
 w_m1 (S := fun a d O2 Q => ∃ b, d = .str b ∧ (b.length == 0) = false ∧ a.length + 2 ≤ sizeLine ∧ Mk ((Txt.split a b).map .str) O2 Q) F.slot_str_split F.type_str_split mt_split (fun a d O u H Hd Q Q' h r ⟨b, e1, h1, h2, q⟩ k => by
  subst e1
  cases r
  refine ⟨a, b, rfl, rfl, h1, h2, fun p np => k _ _ (.mk h np ?_ q)⟩
  have : ∀ ss : List Str, Reps X.K Hd (ss.map V.str) (ss.map D.str) := fun ss => by
   induction ss with
   | nil => exact .nil
   | cons s ss ih => exact .cons (.str s) ih
  exact this _) h hs hbase hline
end
end RW
namespace RW
open PySem PySem.Spec PyProof.Rows L2
section
variable {O : Own} {Q : PD} {i j : Int}
theorem sAdd_int (h : Q (.int (i + j)) O) : sAdd (.int i) (.int j) O Q := h
theorem sAdd_str {s t : Str} (hl : s.length + t.length ≤ sizeLine) (h : Q (.str (s ++ t)) O) : sAdd (.str s) (.str t) O Q := ⟨hl, h⟩
theorem sAdd_ll {xs ys : List D} (hl : xs.length + ys.length ≤ sizeLine) (h : Mk (xs ++ ys) O Q) : sAdd (.lst xs) (.lst ys) O Q := ⟨xs, ys, rfl, rfl, hl, h⟩
theorem sSub_int (h : Q (.int (i - j)) O) : sSub (.int i) (.int j) O Q := ⟨i, j, rfl, rfl, h⟩
theorem sMul_int (hc : CMul i j ∨ CMulW i j) (h : Q (.int (i * j)) O) : sMul (.int i) (.int j) O Q := ⟨hc, h⟩
theorem sMul_ll {xs : List D} {k : Int} (h2 : -(2 ^ 63) ≤ k) (h3 : k < 2 ^ 63) (h4 : xs.length * k.toNat ≤ sizeLine) (h : Mk (List.replicate k.toNat xs).flatten O Q) : sMul (.lst xs) (.int k) O Q := ⟨xs, k, rfl, rfl, h2, h3, h4, h⟩
theorem sMod_int (hc : 0 < j) (h : Q (.int (i % j)) O) : sMod (.int i) (.int j) O Q := ⟨i, j, rfl, rfl, hc, h⟩
theorem sDiv_int (hc : CDiv i j ∨ CDivW i j) (h : Q (.int (i / j)) O) : sDiv (.int i) (.int j) O Q := ⟨i, j, rfl, rfl, hc, h⟩
theorem sPow_int (hc : CPow i j) (h : Q (.int (i ^ j.toNat)) O) : sPow (.int i) (.int j) O Q := ⟨i, j, rfl, rfl, hc, h⟩
theorem sCmp_int {f : Int → Int → Bool} (h : Q (.bl (f i j)) O) : sCmpI f (.int i) (.int j) O Q := ⟨i, j, rfl, rfl, h⟩
theorem sTest_i {Q : Bool → Own → Prop} {b : Bool} (h : Q b O) : sTest Q (.bl b) O := ⟨b, rfl, h⟩
theorem sEq_int (h : Q (.bl (decide (i = j))) O) : sEq false (.int i) (.int j) O Q := .inl ⟨rfl, h⟩
theorem sNe_int (h : Q (.bl (!decide (i = j))) O) : sEq true (.int i) (.int j) O Q := .inl ⟨rfl, h⟩
theorem sEq_str {i j : Str} (h : Q (.bl (decide (i = j))) O) : sEq false (.str i) (.str j) O Q := .inl ⟨rfl, h⟩
theorem sNe_str {i j : Str} (h : Q (.bl (!decide (i = j))) O) : sEq true (.str i) (.str j) O Q := .inl ⟨rfl, h⟩
theorem sEq_bl {i j : Bool} (h : Q (.bl (decide (i = j))) O) : sEq false (.bl i) (.bl j) O Q := .inl ⟨rfl, h⟩
theorem sNe_bl {i j : Bool} (h : Q (.bl (!decide (i = j))) O) : sEq true (.bl i) (.bl j) O Q := .inl ⟨rfl, h⟩
theorem sEq_dat {x y : D} (e1 : cmpD O x = some x) (e2 : cmpD O y = some y) (g1 : goodD x = true) (g2 : goodD y = true) (h : Q (.bl (eqvD x y)) O) : sEq false x y O Q := .inr ⟨x, y, e1, e2, g1, g2, h⟩
theorem sNe_dat {x y : D} (e1 : cmpD O x = some x) (e2 : cmpD O y = some y) (g1 : goodD x = true) (g2 : goodD y = true) (h : Q (.bl (!eqvD x y)) O) : sEq true x y O Q := .inr ⟨x, y, e1, e2, g1, g2, h⟩
theorem sIx_l {xs : List D} {d : D} (h2 : atI xs i = some d) (q : Q d O) : sIx (.lst xs) (.int i) O Q := ⟨xs, i, d, rfl, rfl, h2, q⟩
theorem sIx_t {xs : List D} {d : D} (h2 : atI xs i = some d) (q : Q d O) : sIx (.tup xs) (.int i) O Q := ⟨xs, i, d, rfl, rfl, h2, q⟩
theorem sIx_o {p : Addr} {xs : List D} {d : D} (h1 : O p = some (.lst xs)) (h2 : atI xs i = some d) (q : Q d O) : sIx (.obj p) (.int i) O Q := ⟨xs, i, d, asL_obj h1, rfl, h2, q⟩
theorem sLen_l {xs : List D} (q : Q (.int xs.length) O) : sLen (.lst xs) O Q := ⟨xs, rfl, q⟩
theorem sLen_t {xs : List D} (q : Q (.int xs.length) O) : sLen (.tup xs) O Q := ⟨xs, rfl, q⟩
theorem sSl_t {xs : List D} {lo hi : Option Int} (q : Q (.tup (cutD xs lo hi)) O) : sSl (.tup xs) lo hi O Q := q
theorem sSl_r {xs : List D} {lo hi : Option Int} (q : Mk (cutD xs lo hi) O Q) : sSl (.rol xs) lo hi O Q := ⟨xs, rfl, q⟩
theorem ex_int {P : Int → Prop} (h : P i) : ∃ k, D.int i = .int k ∧ P k := ⟨i, rfl, h⟩
theorem ex_str {s : Str} {P : Str → Prop} (h : P s) : ∃ k, D.str s = .str k ∧ P k := ⟨s, rfl, h⟩
theorem ex_bl {s : Bool} {P : Bool → Prop} (h : P s) : ∃ k, D.bl s = .bl k ∧ P k := ⟨s, rfl, h⟩
theorem le_lineB {n : Nat} (h : Nat.ble n 100000 = true) : n ≤ sizeLine := Nat.le_trans (Nat.le_of_ble_eq_true h) (by decide)
theorem and_line {n : Nat} {A : Prop} (h : Nat.ble n 100000 = true) (q : A) : n ≤ sizeLine ∧ A := ⟨le_lineB h, q⟩
theorem br {k : Bool} {A B : Prop} (h1 : k = true → A) (h2 : k = false → B) : if k = true then A else B := by
 cases k with
 | true => simpa using h1 rfl
 | false => simpa using h2 rfl
end
theorem WE.clsP {X : Cx} {E : ExP} {e : Expr} {Γ : Env'} {O : Own} {Q : PD} {p : Addr} {Pw : List D → Prop} (h : WE X E e Γ O fun d O' => ∃ ds, O' p = some (.lst ds) ∧ Pw ds ∧ Q d (updO O' p (.any Pw))) : WE X E e Γ O Q := .mk fun W σ H Hd q =>
 h.use q fun v H' d O' Hd' s p' r ⟨ds, e1, w, hq⟩ => ⟨d, _, Hd', s, p'.h.cls e1 w, r, hq⟩
abbrev rowD (ns : List Int) : D := .lst (ns.map .int)
theorem atI_of {α : Type} {xs : List α} {i : Int} {j : Nat} {v : α} (h : i = j) (hx : xs[j]? = some v) : atI xs i = some v := by
 subst h
 exact atI_nat hx
theorem sLen_row {ns : List Int} {O : Own} {Q : PD} (q : Q (.int ns.length) O) : sLen (rowD ns) O Q := ⟨ns.map .int, rfl, by rw [lnM]; exact q⟩
theorem toPys_ints : ∀ ns : List Int, toPys (ns.map D.int) = ns.map PyData.int
 | [] => rfl
 | n :: ns => by simp [toPys, toPy, toPys_ints ns]
theorem isPys_ints : ∀ ns : List Int, isPys (ns.map D.int) = true
 | [] => rfl
 | n :: ns => by simp [isPys, isPy, isPys_ints ns]
theorem canLay_ints : ∀ ns : List Int, PyData.canLayAll0 (ns.map PyData.int) = true
 | [] => rfl
 | n :: ns => by simp [PyData.canLayAll0, PyData.canLay0, canLay_ints ns]
theorem depth_ints : ∀ ns : List Int, PyData.depthAll (ns.map PyData.int) ≤ 1
 | [] => by simp [PyData.depthAll]
 | n :: ns => by
   have := depth_ints ns
   simp [PyData.depthAll, PyData.depth]
   omega
theorem good_row (ns : List Int) : goodD (rowD ns) = true := by
 simp only [goodD, rowD, isPy, isPys_ints, toPy, toPys_ints, Bool.true_and, SeqAt.shaped, PyData.canLay0, canLay_ints, PyData.depth, decide_eq_true_eq]
 have := depth_ints ns
 omega
theorem eqv_ints : ∀ ms ns : List Int, PyData.eqvAll (ms.map PyData.int) (ns.map PyData.int) = decide (ms = ns)
 | [], [] => by simp [PyData.eqvAll]
 | [], n :: ns => by simp [PyData.eqvAll]
 | m :: ms, [] => by simp [PyData.eqvAll]
 | m :: ms, n :: ns => by
   simp only [List.map_cons, PyData.eqvAll, PyData.eqv, eqv_ints ms ns, List.cons.injEq]
   by_cases h : m = n <;> simp [h]
theorem eqv_row (ms ns : List Int) : eqvD (rowD ms) (rowD ns) = decide (ms = ns) := by
 simp only [eqvD, rowD, toPy, toPys_ints, PyData.eqv, eqv_ints]
theorem sEq_row {ms ns : List Int} {O : Own} {Q : PD} (h : Q (.bl (decide (ms = ns))) O) : sEq false (rowD ms) (rowD ns) O Q := sEq_dat rfl rfl (good_row ms) (good_row ns) (by rw [eqv_row]; exact h)
theorem sNe_row {ms ns : List Int} {O : Own} {Q : PD} (h : Q (.bl (!decide (ms = ns))) O) : sEq true (rowD ms) (rowD ns) O Q := sNe_dat rfl rfl (good_row ms) (good_row ns) (by rw [eqv_row]; exact h)
theorem cut_row (ns : List Int) (lo hi : Option Int) : cutD (ns.map .int) lo hi = ((ns.drop (HT.sIx ns.length 0 lo)).take (HT.sIx ns.length ns.length hi - HT.sIx ns.length 0 lo)).map .int := by
 unfold cutD
 simp [List.map_drop, List.map_take]
theorem WE.clsP2 {X : Cx} {E : ExP} {e : Expr} {Γ : Env'} {O : Own} {Q : PD} (h : WE X E e Γ O fun d O' => ∃ p Pw ds, O' p = some (.lst ds) ∧ Pw ds ∧ Q d (updO O' p (.any Pw))) : WE X E e Γ O Q := .mk fun W σ H Hd q =>
 h.use q fun v H' d O' Hd' s p' r ⟨p, Pw, ds, e1, w, hq⟩ => ⟨d, _, Hd', s, p'.h.cls e1 w, r, hq⟩
theorem rngD_at {lo : Int} {n i : Nat} (h : i < n) : (rngD lo n)[i]? = some (.int (lo + i)) := by
 unfold rngD
 rw [geM, List.getElem?_range h]
 rfl
def DrOk (ds : List D) : Prop := ∃ (ns : List Int) (i : Nat) (a s : Int), ds = [.lst (ns.map .int), .int i, .int a, .int s] ∧ -(2 ^ 31) < s ∧ s < 2 ^ 31
def spPull : SpD := fun ds O Q _ => ∃ (p : Addr) (m : Int), ds = [.obj p, .int m] ∧ O p = some (.any DrOk) ∧ 0 < m ∧ m.natAbs.log2 < 9000 ∧ ∀ r, 0 ≤ r → r < m → Q (.int r) O
def spBag : SpD := fun ds O Q _ => ∃ ns : List Int, ds = [.rol (ns.map .int)] ∧ ∀ p, O p = none → Q (.obj p) (updO O p (.any DrOk))
end RW
namespace RW
open PySem PySem.Spec PyProof.Rows L2
abbrev tx (l : List Nat) : D := .str (SX.S l)
theorem S_dec {a b : List Nat} : decide (SX.S a = SX.S b) = decide (a = b) := by
 by_cases h : a = b
 · subst h; simp
 · rw [decide_eq_false h, decide_eq_false fun e => h (SX.S_inj e)]
section
variable {O : Own} {Q : PD} {a b : List Nat}
theorem len_line {n : Nat} (h : n ≤ 100000) : n ≤ sizeLine := Nat.le_trans h (by decide)
theorem sLen_tx (hl : a.length ≤ 100000) (q : Q (.int a.length) O) : sLen (tx a) O Q := ⟨by rw [SX.S_len]; exact len_line hl, by rw [SX.S_len]; exact q⟩
theorem sEq_tx (h : Q (.bl (decide (a = b))) O) : sEq false (tx a) (tx b) O Q := sEq_str (by rw [S_dec]; exact h)
theorem sNe_tx (h : Q (.bl (!decide (a = b))) O) : sEq true (tx a) (tx b) O Q := sNe_str (by rw [S_dec]; exact h)
theorem sAdd_tx (hl : a.length + b.length ≤ 100000) (h : Q (tx (a ++ b)) O) : sAdd (tx a) (tx b) O Q := sAdd_str (by rw [SX.S_len, SX.S_len]; exact len_line hl) (by rw [SX.S_cat]; exact h)
theorem sIn_one {c : Nat} (h : Q (.bl (decide (c ∈ a))) O) : sIn false (tx [c]) (tx a) O Q := by
 show Q (.bl (!(Builtin.Str.occurrences (SX.S a) (SX.S [c]) 0 (SX.S a).length 1).isEmpty)) O
 rw [SX.in_one]; exact h
theorem sNin_one {c : Nat} (h : Q (.bl (!decide (c ∈ a))) O) : sIn true (tx [c]) (tx a) O Q := by
 show Q (.bl (!(!(Builtin.Str.occurrences (SX.S a) (SX.S [c]) 0 (SX.S a).length 1).isEmpty))) O
 rw [SX.in_one]; exact h
end
theorem tx_eq (x : Str) : D.str x = tx x.cps.toList := (congrArg D.str (SX.S_tl x)).symm
theorem w_tx {X : Cx} {E : ExP} {Γ : Env'} {O : Own} {Q : PD} {x : Str} {j : Nat} {pos : Pos} (q : Q (tx x.cps.toList) O) : WE X E (.Constant (.str x) j pos) Γ O Q := w_str (by rw [tx_eq]; exact q)
theorem w_globT {X : Cx} {E : ExP} {Γ : Env'} {O : Own} {Q : PD} {x i : Str} {t : Tok} {pos : Pos} (hm : X.mg x = some (.str i t)) (q : Q (tx i.cps.toList) O) (hg : Gl X x := by rfl) (hd : (x == ("__debug__" : Str)) = false := by decide) : WE X E (.Name x pos) Γ O Q :=
 w_globS hm (by rw [tx_eq]; exact q) hg hd
end RW
namespace RW
open PySem PySem.Spec PyProof.Rows L2
section
variable {X : Cx} {E : ExP} {Γ : Env'} {O : Own} {e a b : Expr} {pos : Pos} {Q : PD}
theorem w_splitT {o : Expr} {apos : Pos} (h : WE X E o Γ O fun x O1 => ∃ a, x = tx a ∧ WE X E e Γ O1 fun d O2 => ∃ b, d = tx b ∧ b ≠ [] ∧ b.all (· < 256) = true ∧ a.length ≤ 100000 ∧ Mk ((TL.spl b 0 [] a).map tx) O2 Q)
  (hs : starEach [e] X.env = [(false, eval e X.env)] := by rfl) (hbase : attributeBase o "split" X.env (eval o X.env) = eval o X.env := by rfl) (hline : (apos.endLine == pos.line) = true := by rfl) : WE X E (.Call (.Attribute o "split" apos) [e] [] pos) Γ O Q :=
 w_split (h.mono fun x O1 ⟨a, e1, h1⟩ => ⟨SX.S a, e1, h1.mono fun d O2 ⟨b, e2, h2, h3, h4, q⟩ => ⟨SX.S b, e2, by
  rw [SX.S_len]
  cases b with
  | nil => exact absurd rfl h2
  | cons c b => rfl, by rw [SX.S_len]; exact Nat.le_trans (Nat.add_le_add_right h4 2) (by decide), by rw [SX.split_S h2 h3, mpM]; exact q⟩⟩) hs hbase hline
end
end RW
namespace RW
open PySem PySem.Spec PyProof.Rows L2
theorem br_f {k : Bool} {A B : Prop} (e : k = false) (h : B) : if k = true then A else B := by subst e; simpa using h
theorem br_t {k : Bool} {A B : Prop} (e : k = true) (h : A) : if k = true then A else B := by subst e; simpa using h
theorem sIn_l {x : D} {ys : List D} {O : Own} {Q : PD} (f1 : flatD x = true) (f2 : ys.all flatD = true) (h : Q (.bl (inD x ys)) O) : sIn false x (.lst ys) O Q := by
 cases x <;> exact ⟨ys, rfl, f1, f2, h⟩
theorem sNin_l {x : D} {ys : List D} {O : Own} {Q : PD} (f1 : flatD x = true) (f2 : ys.all flatD = true) (h : Q (.bl (!inD x ys)) O) : sIn true x (.lst ys) O Q := by
 cases x <;> exact ⟨ys, rfl, f1, f2, h⟩
theorem sIn_t {x : D} {ys : List D} {O : Own} {Q : PD} (f1 : flatD x = true) (f2 : ys.all flatD = true) (h : Q (.bl (inD x ys)) O) : sIn false x (.tup ys) O Q := by
 cases x <;> exact ⟨ys, rfl, f1, f2, h⟩
theorem sNin_t {x : D} {ys : List D} {O : Own} {Q : PD} (f1 : flatD x = true) (f2 : ys.all flatD = true) (h : Q (.bl (!inD x ys)) O) : sIn true x (.tup ys) O Q := by
 cases x <;> exact ⟨ys, rfl, f1, f2, h⟩
end RW
namespace RW
open PySem PySem.Spec PyProof.Rows L2
theorem wt_bo {X : Cx} {E : ExP} {Γ : Env'} {O : Own} {op : BoolOp} {es : List Expr} {pos : Pos} {Q : Bool → Own → Prop} (h : WW X E (.BoolOp op es pos) Γ O Q) : WT X E (.BoolOp op es pos) Γ O Q := wt_ww h
end RW
namespace RW
open PySem PySem.Spec PyProof.Rows L2
theorem all_cons {P : D → Prop} {x : D} {xs : List D} (h : P x) (t : ∀ d ∈ xs, P d) : ∀ d ∈ x :: xs, P d := fun d hd => by
 rcases mCq.mp hd with rfl | hd
 · exact h
 · exact t d hd
end RW
namespace RW
open PySem PySem.Spec PyProof.Rows L2
end RW
namespace RW
open PySem PySem.Spec PyProof.Rows L2
end RW
namespace RW
open PySem PySem.Spec PyProof.Rows L2
theorem WTs.mono {X : Cx} {E : ExP} {ifs : List Expr} {Γ : Env'} {O : Own} {Q Q' : Bool → Own → Prop} (h : WTs X E ifs Γ O Q) (k : ∀ b O', Q b O' → Q' b O') : WTs X E ifs Γ O Q' := .mk fun W σ H Hd p pins s I =>
 h.use p (fun b H' O' Hd' s p' q => ⟨O', Hd', s, p'.h, k b O' q⟩) pins s I
end RW
namespace RW
open PySem PySem.Spec PyProof.Rows L2
end RW
namespace RW
open PySem PySem.Spec PyProof.Rows L2
end RW
namespace RW
open PySem PySem.Spec PyProof.Rows L2
section
variable {α : Type} {a0 a1 a2 a3 a4 a5 a6 a7 a8 a9 a10 a11 a12 a13 a14 a15 a16 a17 a18 a19 a20 a21 a22 a23 a24 a25 : α} {l : List α}
theorem ix0 : (a0 :: l)[0]? = some a0 := rfl
theorem ix1 : (a0 :: a1 :: l)[1]? = some a1 := rfl
theorem ix2 : (a0 :: a1 :: a2 :: l)[2]? = some a2 := rfl
theorem ix3 : (a0 :: a1 :: a2 :: a3 :: l)[3]? = some a3 := rfl
theorem ix4 : (a0 :: a1 :: a2 :: a3 :: a4 :: l)[4]? = some a4 := rfl
theorem ix5 : (a0 :: a1 :: a2 :: a3 :: a4 :: a5 :: l)[5]? = some a5 := rfl
theorem ix6 : (a0 :: a1 :: a2 :: a3 :: a4 :: a5 :: a6 :: l)[6]? = some a6 := rfl
theorem ix7 : (a0 :: a1 :: a2 :: a3 :: a4 :: a5 :: a6 :: a7 :: l)[7]? = some a7 := rfl
theorem ix8 : (a0 :: a1 :: a2 :: a3 :: a4 :: a5 :: a6 :: a7 :: a8 :: l)[8]? = some a8 := rfl
theorem ix9 : (a0 :: a1 :: a2 :: a3 :: a4 :: a5 :: a6 :: a7 :: a8 :: a9 :: l)[9]? = some a9 := rfl
theorem ix10 : (a0 :: a1 :: a2 :: a3 :: a4 :: a5 :: a6 :: a7 :: a8 :: a9 :: a10 :: l)[10]? = some a10 := rfl
theorem ix11 : (a0 :: a1 :: a2 :: a3 :: a4 :: a5 :: a6 :: a7 :: a8 :: a9 :: a10 :: a11 :: l)[11]? = some a11 := rfl
theorem ix12 : (a0 :: a1 :: a2 :: a3 :: a4 :: a5 :: a6 :: a7 :: a8 :: a9 :: a10 :: a11 :: a12 :: l)[12]? = some a12 := rfl
theorem ix13 : (a0 :: a1 :: a2 :: a3 :: a4 :: a5 :: a6 :: a7 :: a8 :: a9 :: a10 :: a11 :: a12 :: a13 :: l)[13]? = some a13 := rfl
theorem ix14 : (a0 :: a1 :: a2 :: a3 :: a4 :: a5 :: a6 :: a7 :: a8 :: a9 :: a10 :: a11 :: a12 :: a13 :: a14 :: l)[14]? = some a14 := rfl
theorem ix15 : (a0 :: a1 :: a2 :: a3 :: a4 :: a5 :: a6 :: a7 :: a8 :: a9 :: a10 :: a11 :: a12 :: a13 :: a14 :: a15 :: l)[15]? = some a15 := rfl
theorem ix16 : (a0 :: a1 :: a2 :: a3 :: a4 :: a5 :: a6 :: a7 :: a8 :: a9 :: a10 :: a11 :: a12 :: a13 :: a14 :: a15 :: a16 :: l)[16]? = some a16 := rfl
theorem ix17 : (a0 :: a1 :: a2 :: a3 :: a4 :: a5 :: a6 :: a7 :: a8 :: a9 :: a10 :: a11 :: a12 :: a13 :: a14 :: a15 :: a16 :: a17 :: l)[17]? = some a17 := rfl
theorem ix18 : (a0 :: a1 :: a2 :: a3 :: a4 :: a5 :: a6 :: a7 :: a8 :: a9 :: a10 :: a11 :: a12 :: a13 :: a14 :: a15 :: a16 :: a17 :: a18 :: l)[18]? = some a18 := rfl
theorem ix19 : (a0 :: a1 :: a2 :: a3 :: a4 :: a5 :: a6 :: a7 :: a8 :: a9 :: a10 :: a11 :: a12 :: a13 :: a14 :: a15 :: a16 :: a17 :: a18 :: a19 :: l)[19]? = some a19 := rfl
theorem ix20 : (a0 :: a1 :: a2 :: a3 :: a4 :: a5 :: a6 :: a7 :: a8 :: a9 :: a10 :: a11 :: a12 :: a13 :: a14 :: a15 :: a16 :: a17 :: a18 :: a19 :: a20 :: l)[20]? = some a20 := rfl
theorem ix21 : (a0 :: a1 :: a2 :: a3 :: a4 :: a5 :: a6 :: a7 :: a8 :: a9 :: a10 :: a11 :: a12 :: a13 :: a14 :: a15 :: a16 :: a17 :: a18 :: a19 :: a20 :: a21 :: l)[21]? = some a21 := rfl
theorem ix22 : (a0 :: a1 :: a2 :: a3 :: a4 :: a5 :: a6 :: a7 :: a8 :: a9 :: a10 :: a11 :: a12 :: a13 :: a14 :: a15 :: a16 :: a17 :: a18 :: a19 :: a20 :: a21 :: a22 :: l)[22]? = some a22 := rfl
theorem ix23 : (a0 :: a1 :: a2 :: a3 :: a4 :: a5 :: a6 :: a7 :: a8 :: a9 :: a10 :: a11 :: a12 :: a13 :: a14 :: a15 :: a16 :: a17 :: a18 :: a19 :: a20 :: a21 :: a22 :: a23 :: l)[23]? = some a23 := rfl
theorem ix24 : (a0 :: a1 :: a2 :: a3 :: a4 :: a5 :: a6 :: a7 :: a8 :: a9 :: a10 :: a11 :: a12 :: a13 :: a14 :: a15 :: a16 :: a17 :: a18 :: a19 :: a20 :: a21 :: a22 :: a23 :: a24 :: l)[24]? = some a24 := rfl
theorem ix25 : (a0 :: a1 :: a2 :: a3 :: a4 :: a5 :: a6 :: a7 :: a8 :: a9 :: a10 :: a11 :: a12 :: a13 :: a14 :: a15 :: a16 :: a17 :: a18 :: a19 :: a20 :: a21 :: a22 :: a23 :: a24 :: a25 :: l)[25]? = some a25 := rfl
end
section
variable {X : Cx} {E : ExP} {Γ : Env'} {O : Own} {e a b : Expr} {es : List Expr} {Q : PD} {pos : Pos} {QA : List D → Own → Prop} {QT : Bool → Own → Prop}
theorem w_vn {N : List Str} {x : Str} {d : D} {i : Nat} (nd : N.Nodup) (hi : N[i]? = some x) (hd : Γ[i]? = some (some d)) (hx : X.N = N) (q : Q d O) (hv : Vis X.env.scope x)
 (h1 : (x == ("__debug__" : Str)) = false := by decide) (h2 : (x == ("__classdict__" : Str)) = false := by decide) : WE X E (.Name x pos) Γ O Q := w_var i hd q (by rw [hx]; exact hi) hv h1 h2
theorem g_we (h : WE X E e Γ O Q) : WE X E e Γ O Q := h
theorem g_wa (h : WA X E es Γ O QA) : WA X E es Γ O QA := h
theorem g_wt (h : WT X E e Γ O QT) : WT X E e Γ O QT := h
theorem g_ww (h : WW X E e Γ O QT) : WW X E e Γ O QT := h
theorem g_name {x : Str} (h : WE X E (.Name x pos) Γ O Q) : WE X E (.Name x pos) Γ O Q := h
theorem g_const {c : Const} {j : Nat} (h : WE X E (.Constant c j pos) Γ O Q) : WE X E (.Constant c j pos) Γ O Q := h
theorem g_bin {op : Operator} (h : WE X E (.BinOp a op b pos) Γ O Q) : WE X E (.BinOp a op b pos) Γ O Q := h
theorem g_sub (h : WE X E (.Subscript a b pos) Γ O Q) : WE X E (.Subscript a b pos) Γ O Q := h
theorem g_cmp {ops : List CmpOp} (h : WE X E (.Compare a ops es pos) Γ O Q) : WE X E (.Compare a ops es pos) Γ O Q := h
theorem g_call {ks : List Keyword} (h : WE X E (.Call a es ks pos) Γ O Q) : WE X E (.Call a es ks pos) Γ O Q := h
theorem g_len {p : Pos} (h : WE X E (.Call (.Name "len" p) es [] pos) Γ O Q) : WE X E (.Call (.Name "len" p) es [] pos) Γ O Q := h
theorem g_lst (h : WE X E (.List es pos) Γ O Q) : WE X E (.List es pos) Γ O Q := h
theorem g_tup {k : Nat} (h : WE X E (.Tuple es k pos) Γ O Q) : WE X E (.Tuple es k pos) Γ O Q := h
theorem g_un {op : UnaryOp} (h : WE X E (.UnaryOp op e pos) Γ O Q) : WE X E (.UnaryOp op e pos) Γ O Q := h
theorem g_if {k : Bool} {A B : Prop} (h : if k = true then A else B) : if k = true then A else B := h
theorem gt_cmp {ops : List CmpOp} (h : WT X E (.Compare a ops es pos) Γ O QT) : WT X E (.Compare a ops es pos) Γ O QT := h
theorem gt_not (h : WT X E (.UnaryOp .Not e pos) Γ O QT) : WT X E (.UnaryOp .Not e pos) Γ O QT := h
theorem gt_bo {op : BoolOp} (h : WT X E (.BoolOp op es pos) Γ O QT) : WT X E (.BoolOp op es pos) Γ O QT := h
end
section
variable {X : Cx} {E : ExP} {Γ : Env'} {O : Own} {e a b : Expr} {es : List Expr} {Q : PD} {pos : Pos} {De : EndsD} {st : Stmt} {rest : List Stmt}
theorem ws_setn {N : List Str} {x : Str} {pos' : Pos} {i : Nat} (nd : N.Nodup) (hi : N[i]? = some x) (hx : X.N = N) (h : WE X E e Γ O fun d O' => De.nx (Γ.set i (some d)) O') (hv : Loc X.env.scope x)
  (hs : swapsWith e (some (.Name x pos')) pos.line X.env = pure false := by rfl) (hf : X.fn x = true ∨ X.env.scope.names.lookup x = some .local := by first | exact .inl rfl | exact .inr rfl) : WS X E (.Assign [.Name x pos'] e pos) Γ O De :=
 ws_set i (by rw [hx]; exact nd) h (by rw [hx]; exact hi) hv hs hf
theorem ws_augn {N : List Str} {x : Str} {pos' : Pos} {i : Nat} {n : Int} (nd : N.Nodup) (hi : N[i]? = some x) (hd : Γ[i]? = some (some (.int n))) (hx : X.N = N) (h : WE X E e Γ O fun d O' => ∃ m, d = .int m ∧ De.nx (Γ.set i (some (.int (n + m)))) O') (hv : Loc X.env.scope x)
  (hf : X.fn x = true ∨ X.env.scope.names.lookup x = some .local := by first | exact .inl rfl | exact .inr rfl) : WS X E (.AugAssign (.Name x pos') .Add e pos) Γ O De :=
 ws_augAdd i (by rw [hx]; exact nd) hd h (by rw [hx]; exact hi) hv hf
theorem ws_augSubn {N : List Str} {x : Str} {pos' : Pos} {i : Nat} {n : Int} (nd : N.Nodup) (hi : N[i]? = some x) (hd : Γ[i]? = some (some (.int n))) (hx : X.N = N) (h : WE X E e Γ O fun d O' => ∃ m, d = .int m ∧ De.nx (Γ.set i (some (.int (n - m)))) O') (hv : Loc X.env.scope x)
  (hf : X.fn x = true ∨ X.env.scope.names.lookup x = some .local := by first | exact .inl rfl | exact .inr rfl) : WS X E (.AugAssign (.Name x pos') .Sub e pos) Γ O De :=
 ws_augI i ip_sub (by rw [hx]; exact nd) hd h (by rw [hx]; exact hi) hv hf
theorem wg_namen {N : List Str} {x : Str} {d : D} {i : Nat} {Q : Env' → Own → Prop} (nd : N.Nodup) (hi : N[i]? = some x) (hx : X.N = N) (h : Q (Γ.set i (some d)) O) (hv : Loc X.env.scope x)
  (hf : X.fn x = true ∨ X.env.scope.names.lookup x = some .local := by first | exact .inl rfl | exact .inr rfl) : WG X E (.Name x pos) d Γ O Q :=
 wg_name i (by rw [hx]; exact nd) h (by rw [hx]; exact hi) hv hf
theorem ws_retO {N : List Str} {x : Str} {pos' : Pos} {i : Nat} {p : Addr} {ds : List D} (nd : N.Nodup) (hi : N[i]? = some x) (hd : Γ[i]? = some (some (.obj p))) (hO : O p = some (.lst ds)) (hx : X.N = N) (h : EndL p ds O De.rt) (hv : Vis X.env.scope x)
  (h1 : (x == ("__debug__" : Str)) = false := by decide) (h2 : (x == ("__classdict__" : Str)) = false := by decide) : WS X E (.Return (some (.Name x pos')) pos) Γ O De := by
 rcases h with h | h
 · exact ws_ret (w_vn nd hi hd hx h hv h1 h2)
 · exact ws_ret (.fixed (w_vn nd hi hd hx ⟨p, ds, rfl, hO, h⟩ hv h1 h2))
theorem EndL.of {p : Addr} {ds : List D} {O0 : Own} {c : OC} (n : O0 p = none) (h : Mk ds O0 Q) (e : O = updO O0 p (.lst ds)) : EndL p ds O Q := by
 subst e
 rcases h with h | h
 · exact .inr (by rw [delO_updO n]; exact h)
 · exact .inl (h p n)
theorem endL {p : Addr} {ds : List D} {O0 : Own} (n : O0 p = none) (h : Mk ds O0 Q) : EndL p ds (updO O0 p (.lst ds)) Q := EndL.of (c := .lst []) n h rfl
theorem isi_int {p p1 : Pos} (hm : X.mg "isinstance" = none) (hmT : X.mg "int" = none) (h : WE X E e Γ O fun d O1 => ∃ n k, tyO O1 d = some n ∧ kitB n "int" = some k ∧ Q (.bl k) O1) (hg : Gl X "isinstance" := by rfl) (hgT : Gl X "int" := by rfl)
 (he : starEach [e, .Name "int" p1] X.env = (false, eval e X.env) :: starEach [.Name "int" p1] X.env := by rfl) : WE X E (.Call (.Name "isinstance" p) [e, .Name "int" p1] [] pos) Γ O Q := w_isi (c := "int") hm hmT (by decide +kernel) h hg hgT (he := he)
theorem isi_bool {p p1 : Pos} (hm : X.mg "isinstance" = none) (hmT : X.mg "bool" = none) (h : WE X E e Γ O fun d O1 => ∃ n k, tyO O1 d = some n ∧ kitB n "bool" = some k ∧ Q (.bl k) O1) (hg : Gl X "isinstance" := by rfl) (hgT : Gl X "bool" := by rfl)
 (he : starEach [e, .Name "bool" p1] X.env = (false, eval e X.env) :: starEach [.Name "bool" p1] X.env := by rfl) : WE X E (.Call (.Name "isinstance" p) [e, .Name "bool" p1] [] pos) Γ O Q := w_isi (c := "bool") hm hmT (by decide +kernel) h hg hgT (he := he)
theorem isi_list {p p1 : Pos} (hm : X.mg "isinstance" = none) (hmT : X.mg "list" = none) (h : WE X E e Γ O fun d O1 => ∃ n k, tyO O1 d = some n ∧ kitB n "list" = some k ∧ Q (.bl k) O1) (hg : Gl X "isinstance" := by rfl) (hgT : Gl X "list" := by rfl)
 (he : starEach [e, .Name "list" p1] X.env = (false, eval e X.env) :: starEach [.Name "list" p1] X.env := by rfl) : WE X E (.Call (.Name "isinstance" p) [e, .Name "list" p1] [] pos) Γ O Q := w_isi (c := "list") hm hmT (by decide +kernel) h hg hgT (he := he)
theorem isi_tuple {p p1 : Pos} (hm : X.mg "isinstance" = none) (hmT : X.mg "tuple" = none) (h : WE X E e Γ O fun d O1 => ∃ n k, tyO O1 d = some n ∧ kitB n "tuple" = some k ∧ Q (.bl k) O1) (hg : Gl X "isinstance" := by rfl) (hgT : Gl X "tuple" := by rfl)
 (he : starEach [e, .Name "tuple" p1] X.env = (false, eval e X.env) :: starEach [.Name "tuple" p1] X.env := by rfl) : WE X E (.Call (.Name "isinstance" p) [e, .Name "tuple" p1] [] pos) Γ O Q := w_isi (c := "tuple") hm hmT (by decide +kernel) h hg hgT (he := he)
theorem isi_dict {p p1 : Pos} (hm : X.mg "isinstance" = none) (hmT : X.mg "dict" = none) (h : WE X E e Γ O fun d O1 => ∃ n k, tyO O1 d = some n ∧ kitB n "dict" = some k ∧ Q (.bl k) O1) (hg : Gl X "isinstance" := by rfl) (hgT : Gl X "dict" := by rfl)
 (he : starEach [e, .Name "dict" p1] X.env = (false, eval e X.env) :: starEach [.Name "dict" p1] X.env := by rfl) : WE X E (.Call (.Name "isinstance" p) [e, .Name "dict" p1] [] pos) Γ O Q := w_isi (c := "dict") hm hmT (by decide +kernel) h hg hgT (he := he)
theorem isi_is {p p1 p2 p3 : Pos} {kk : Nat} (hm : X.mg "isinstance" = none) (hmT : X.mg "int" = none) (hmU : X.mg "str" = none) (h : WE X E e Γ O fun d O1 => ∃ n k1 k2, tyO O1 d = some n ∧ kitB n "int" = some k1 ∧ kitB n "str" = some k2 ∧ Q (.bl (k1 || k2)) O1) (hg : Gl X "isinstance" := by rfl) (hgT : Gl X "int" := by rfl) (hgU : Gl X "str" := by rfl)
 (he : starEach [e, .Tuple [.Name "int" p1, .Name "str" p2] kk p3] X.env = (false, eval e X.env) :: starEach [.Tuple [.Name "int" p1, .Name "str" p2] kk p3] X.env := by rfl) : WE X E (.Call (.Name "isinstance" p) [e, .Tuple [.Name "int" p1, .Name "str" p2] kk p3] [] pos) Γ O Q := w_isi2 (c := "int") (u := "str") hm hmT hmU (by decide +kernel) (by decide +kernel) h hg hgT hgU (he := he)
class KitB (n c : String) (k : outParam Bool) : Prop where
 eq : kitB n c = some k
instance : KitB "NoneType" "int" false := ⟨by decide +kernel⟩
instance : KitB "NoneType" "bool" false := ⟨by decide +kernel⟩
instance : KitB "NoneType" "str" false := ⟨by decide +kernel⟩
instance : KitB "NoneType" "list" false := ⟨by decide +kernel⟩
instance : KitB "NoneType" "tuple" false := ⟨by decide +kernel⟩
instance : KitB "NoneType" "dict" false := ⟨by decide +kernel⟩
instance : KitB "bool" "int" true := ⟨by decide +kernel⟩
instance : KitB "bool" "bool" true := ⟨by decide +kernel⟩
instance : KitB "bool" "str" false := ⟨by decide +kernel⟩
instance : KitB "bool" "list" false := ⟨by decide +kernel⟩
instance : KitB "bool" "tuple" false := ⟨by decide +kernel⟩
instance : KitB "bool" "dict" false := ⟨by decide +kernel⟩
instance : KitB "int" "int" true := ⟨by decide +kernel⟩
instance : KitB "int" "bool" false := ⟨by decide +kernel⟩
instance : KitB "int" "str" false := ⟨by decide +kernel⟩
instance : KitB "int" "list" false := ⟨by decide +kernel⟩
instance : KitB "int" "tuple" false := ⟨by decide +kernel⟩
instance : KitB "int" "dict" false := ⟨by decide +kernel⟩
instance : KitB "str" "int" false := ⟨by decide +kernel⟩
instance : KitB "str" "bool" false := ⟨by decide +kernel⟩
instance : KitB "str" "str" true := ⟨by decide +kernel⟩
instance : KitB "str" "list" false := ⟨by decide +kernel⟩
instance : KitB "str" "tuple" false := ⟨by decide +kernel⟩
instance : KitB "str" "dict" false := ⟨by decide +kernel⟩
instance : KitB "list" "int" false := ⟨by decide +kernel⟩
instance : KitB "list" "bool" false := ⟨by decide +kernel⟩
instance : KitB "list" "str" false := ⟨by decide +kernel⟩
instance : KitB "list" "list" true := ⟨by decide +kernel⟩
instance : KitB "list" "tuple" false := ⟨by decide +kernel⟩
instance : KitB "list" "dict" false := ⟨by decide +kernel⟩
instance : KitB "tuple" "int" false := ⟨by decide +kernel⟩
instance : KitB "tuple" "bool" false := ⟨by decide +kernel⟩
instance : KitB "tuple" "str" false := ⟨by decide +kernel⟩
instance : KitB "tuple" "list" false := ⟨by decide +kernel⟩
instance : KitB "tuple" "tuple" true := ⟨by decide +kernel⟩
instance : KitB "tuple" "dict" false := ⟨by decide +kernel⟩
instance : KitB "dict" "int" false := ⟨by decide +kernel⟩
instance : KitB "dict" "bool" false := ⟨by decide +kernel⟩
instance : KitB "dict" "str" false := ⟨by decide +kernel⟩
instance : KitB "dict" "list" false := ⟨by decide +kernel⟩
instance : KitB "dict" "tuple" false := ⟨by decide +kernel⟩
instance : KitB "dict" "dict" true := ⟨by decide +kernel⟩
theorem isiE {O : Own} {d : D} {n c : String} {k : Bool} {B : Bool → Prop} (h1 : tyO O d = some n) [i : KitB n c k] (q : B k) : ∃ n k, tyO O d = some n ∧ kitB n c = some k ∧ B k := ⟨n, k, h1, i.eq, q⟩
theorem isiE2 {O : Own} {d : D} {n c c2 : String} {k k2 : Bool} {B : Bool → Bool → Prop} (h1 : tyO O d = some n) [i : KitB n c k] [j : KitB n c2 k2] (q : B k k2) : ∃ n k k2, tyO O d = some n ∧ kitB n c = some k ∧ kitB n c2 = some k2 ∧ B k k2 := ⟨n, k, k2, h1, i.eq, j.eq, q⟩
theorem g_ssl {d : D} {lo hi : Option Int} (h : sSl d lo hi O Q) : sSl d lo hi O Q := h
theorem g_ws (h : WS X E st Γ O De) : WS X E st Γ O De := h
theorem g_wg {d : D} {QG : Env' → Own → Prop} (h : WG X E e d Γ O QG) : WG X E e d Γ O QG := h
theorem g_and (h : WE X E (.BoolOp .And (a :: b :: es) pos) Γ O Q) : WE X E (.BoolOp .And (a :: b :: es) pos) Γ O Q := h
theorem g_or (h : WE X E (.BoolOp .Or (a :: b :: es) pos) Γ O Q) : WE X E (.BoolOp .Or (a :: b :: es) pos) Γ O Q := h
theorem g_bo1 {op : BoolOp} (h : WE X E (.BoolOp op [a] pos) Γ O Q) : WE X E (.BoolOp op [a] pos) Γ O Q := h
theorem g_ite {c : Expr} (h : WE X E (.IfExp c a b pos) Γ O Q) : WE X E (.IfExp c a b pos) Γ O Q := h
theorem g_sl {lo hi : Option Expr} {p2 : Pos} (h : WE X E (.Subscript e (.Slice lo hi none p2) pos) Γ O Q) : WE X E (.Subscript e (.Slice lo hi none p2) pos) Γ O Q := h
theorem g_not (h : WE X E (.UnaryOp .Not e pos) Γ O Q) : WE X E (.UnaryOp .Not e pos) Γ O Q := h
theorem g_callN {x : Str} {p : Pos} (h : WE X E (.Call (.Name x p) es [] pos) Γ O Q) : WE X E (.Call (.Name x p) es [] pos) Γ O Q := h
theorem g_isi {p : Pos} (h : WE X E (.Call (.Name "isinstance" p) es [] pos) Γ O Q) : WE X E (.Call (.Name "isinstance" p) es [] pos) Γ O Q := h
theorem g_wo {o : Option Expr} {QO : Option Int → Own → Prop} (h : WO X E o Γ O QO) : WO X E o Γ O QO := h
theorem g_won {QO : Option Int → Own → Prop} (h : WO X E none Γ O QO) : WO X E none Γ O QO := h
theorem gt_call {ks : List Keyword} {QT : Bool → Own → Prop} (h : WT X E (.Call a es ks pos) Γ O QT) : WT X E (.Call a es ks pos) Γ O QT := h
theorem gl_set {x : Str} {p : Pos} (h : WSs X E (.Assign [.Name x p] e pos :: rest) Γ O De) : WSs X E (.Assign [.Name x p] e pos :: rest) Γ O De := h
theorem gl_ret {e : Option Expr} (h : WSs X E (.Return e pos :: rest) Γ O De) : WSs X E (.Return e pos :: rest) Γ O De := h
theorem gl_expr (h : WSs X E (.Expr e pos :: rest) Γ O De) : WSs X E (.Expr e pos :: rest) Γ O De := h
theorem gl_if {sa sb : List Stmt} (h : WSs X E (.If e sa sb pos :: rest) Γ O De) : WSs X E (.If e sa sb pos :: rest) Γ O De := h
theorem gl_if1 {sa sb : List Stmt} (h : WSs X E [.If e sa sb pos] Γ O De) : WSs X E [.If e sa sb pos] Γ O De := h
theorem gl_aug {x : Str} {p : Pos} {op : Operator} (h : WSs X E (.AugAssign (.Name x p) op e pos :: rest) Γ O De) : WSs X E (.AugAssign (.Name x p) op e pos :: rest) Γ O De := h
theorem gl_brk (h : WSs X E (.Break pos :: rest) Γ O De) : WSs X E (.Break pos :: rest) Γ O De := h
theorem gl_cnt (h : WSs X E (.Continue pos :: rest) Γ O De) : WSs X E (.Continue pos :: rest) Γ O De := h
theorem g_s0 (h : WSs X E [] Γ O De) : WSs X E [] Γ O De := h
theorem g_body {st : Stmt} (h : WSs X E (defBody st) Γ O De) : WSs X E (defBody st) Γ O De := h
theorem gs_set {x : Str} {p : Pos} (h : WS X E (.Assign [.Name x p] e pos) Γ O De) : WS X E (.Assign [.Name x p] e pos) Γ O De := h
theorem gs_ret (h : WS X E (.Return (some e) pos) Γ O De) : WS X E (.Return (some e) pos) Γ O De := h
theorem gs_retNm {x : Str} {p : Pos} (h : WS X E (.Return (some (.Name x p)) pos) Γ O De) : WS X E (.Return (some (.Name x p)) pos) Γ O De := h
theorem gs_expr (h : WS X E (.Expr e pos) Γ O De) : WS X E (.Expr e pos) Γ O De := h
theorem gs_if {sa sb : List Stmt} (h : WS X E (.If e sa sb pos) Γ O De) : WS X E (.If e sa sb pos) Γ O De := h
theorem gs_aug {x : Str} {p : Pos} {op : Operator} (h : WS X E (.AugAssign (.Name x p) op e pos) Γ O De) : WS X E (.AugAssign (.Name x p) op e pos) Γ O De := h
theorem gs_break (h : WS X E (.Break pos) Γ O De) : WS X E (.Break pos) Γ O De := h
theorem gs_cont (h : WS X E (.Continue pos) Γ O De) : WS X E (.Continue pos) Γ O De := h
theorem gg_name {x : Str} {d : D} {QG : Env' → Own → Prop} (h : WG X E (.Name x pos) d Γ O QG) : WG X E (.Name x pos) d Γ O QG := h
theorem gg_tup {ts : List Expr} {k : Nat} {ds : List D} {QG : Env' → Own → Prop} (h : WG X E (.Tuple ts k pos) (.tup ds) Γ O QG) : WG X E (.Tuple ts k pos) (.tup ds) Γ O QG := h
theorem gg_pr {ts : List Expr} {k : Nat} {ds : List D} {QG : Env' → Own → Prop} (h : WG X E (.Tuple ts k pos) (.pr ds) Γ O QG) : WG X E (.Tuple ts k pos) (.pr ds) Γ O QG := h
theorem gg_nil {ds : List D} {QG : Env' → Own → Prop} (h : WGs X E [] ds Γ O QG) : WGs X E [] ds Γ O QG := h
theorem gg_cons {ds : List D} {QG : Env' → Own → Prop} (h : WGs X E (a :: es) ds Γ O QG) : WGs X E (a :: es) ds Γ O QG := h
end
end RW
namespace RW
section
open PySem PySem.Spec PySem.Calls PyProof.Rows PySem.W
variable {M : Model} {K : Frag}
theorem loop_exc {h : Heap} {A : Around} {E : Value → Shared → Prop} {g : Array GenState} {d : Drawn} {tk : Nat} {os : OsState} {f : Value → PUnit → Sem (ForInStep PUnit)} (hf : ∀ c x, f c x = (do
  let y ← isExcClass c
  if (!y) = true then do
      rule "try.except-non-exception-class"
      raiseErrorWords "TypeError" "catching classes that do not inherit from BaseException is not allowed"
      pure (ForInStep.yield PUnit.unit)
   else pure (ForInStep.yield PUnit.unit))) : ∀ {cs : List Value} {Q : PUnit → Shared → Prop}, (∀ c ∈ cs, Looks M h (isExcClass c) true) → Q PUnit.unit ⟨h, g, d, tk, os⟩ → wpAny M A (forIn cs PUnit.unit f) Q E ⟨h, g, d, tk, os⟩
 | [], Q, _, q => by
   rw [List.forIn_nil]
   exact wpAny_pure q
 | c :: cs, Q, hc, q => by
   rw [List.forIn_cons, hf]
   refine wpAny_bind (wpAny_bind ((hc c mcS).at ?_))
   rw [if_neg (by decide)]
   refine wpAny_pure ?_
   exact loop_exc hf (fun c' h' => hc c' (mcM _ h')) q
theorem loop_sub {h : Heap} {A : Around} {E : Value → Shared → Prop} {g : Array GenState} {d : Drawn} {tk : Nat} {os : OsState} {cls : Value} {f : Value → Option Bool × Unit → Sem (ForInStep (Option Bool × Unit))} (hf : ∀ c x, f c x = (do
  let y ← isSubtype cls c
  if y = true then pure (ForInStep.done (some true, ())) else pure (ForInStep.yield (none, ())))) (X : K.In h) : ∀ {cs : List Value} {b : Bool} {Q : Option Bool × Unit → Shared → Prop}, exmAny K cls cs = some b → Q (if b then some true else none, ()) ⟨h, g, d, tk, os⟩ → wpAny M A (forIn cs (none, ()) f) Q E ⟨h, g, d, tk, os⟩
 | [], b, Q, e, q => by
   rw [List.forIn_nil]
   cases (show some false = some b from e)
   exact wpAny_pure q
 | c :: cs, b, Q, e, q => by
   obtain ⟨b1, d1, x1, y1, z1⟩ := exmAny_cons e
   obtain ⟨_, S1⟩ := exm_cls (M := M) X x1
   rw [List.forIn_cons, hf]
   refine wpAny_bind (wpAny_bind (S1.at ?_))
   cases b1 with
   | true =>
     rw [if_pos rfl]
     refine wpAny_pure (wpAny_pure ?_)
     subst z1
     exact q
   | false =>
     rw [if_neg Bool.false_ne_true]
     refine wpAny_pure ?_
     subst z1
     exact loop_sub hf X y1 q
theorem exm_alls {cls : Value} {h : Heap} (X : K.In h) : ∀ {cs : List Value} {b : Bool}, exmAny K cls cs = some b → ∀ c ∈ cs, Looks M h (isExcClass c) true
 | [], _, _, _, hc => nomatch hc
 | c :: cs, b, e, c', hc => by
   obtain ⟨b1, d1, x1, y1, z1⟩ := exmAny_cons e
   rcases mCq.mp hc with rfl | hc
   · exact (exm_cls (M := M) X x1).1
   · exact exm_alls X y1 c' hc
theorem exm_tupN {cs : List Value} {cls : Value} {tp e : Addr} {b : Bool} {h : Heap} (X : K.In h) (LT : Looks M h (typeOf (.ref e)) cls) (hp : h.get? tp = some { cls := .type "tuple", data := .seq cs.toArray }) (hx : exmAny K cls cs = some b) :
  Looks M h (excMatches (.ref e) (.ref tp)) b := by
 intro A Q E s k₀ q
 obtain ⟨hh, g, d, tk, os⟩ := s
 have k : ∀ b o, h.get? b = some o → hh.get? b = some o := k₀
 have LT0 : Looks M h (isInstance (.ref tp) (.type "tuple")) true := ((Looks.ld hp).andThen .now).andThen (Looks.of_pure isSubtype_tuple_tuple)
 have LT := LT.keeps k
 have LT0 := LT0.keeps k
 have hp' := k _ _ hp
 unfold excMatches
 refine wpAny_bind (LT0.at ?_)
 dsimp only
 rw [if_pos rfl]
 first
  | refine wpAny_bind (wpAny_seqItems hp' rfl ?_)
  | refine wpAny_bind (wpAny_bind (wpAny_seqItems hp' rfl (wpAny_pure ?_)))
 dsimp only [Option.getD_some, Option.getD]
 have X' : K.In hh := X.keeps k
 refine wpAny_bind (wpAny_pure (wpAny_bind (loop_exc (fun _ _ => rfl) (exm_alls X' hx) (wpAny_bind (LT.at (wpAny_bind (loop_sub (fun _ _ => rfl) X' hx ?_)))))))
 cases b
 · exact wpAny_pure q
 · exact wpAny_pure q
end
open PySem PySem.Spec PyProof.Rows L2
inductive NamesL (X : Cx) : List Expr → List Value → Prop
 | nil : NamesL X [] []
 | cons {x : Str} {np : Pos} {c : Value} {es : List Expr} {cs : List Value} (h : Names X x c) (hs : starEach (.Name x np :: es) X.env = (false, eval (.Name x np) X.env) :: starEach es X.env) (r : NamesL X es cs) : NamesL X (.Name x np :: es) (c :: cs)
inductive TstOk (X : Cx) : Expr → List Value → Prop
 | one {x : Str} {np : Pos} {c : Value} (h : Names X x c) : TstOk X (.Name x np) [c]
 | tup {es : List Expr} {cs : List Value} {k : Nat} {pos : Pos} (h : NamesL X es cs) (hl : cs.length ≤ 1000) : TstOk X (.Tuple es k pos) cs
section
variable {X : Cx} {pins : List (Addr × Obj)} {σ : L2.St} {H : Hp} {s : Shared}
theorem name_ev {E : Value → Shared → Prop} {x : Str} {np : Pos} {c : Value} {Q : Value → Shared → Prop} (hc : Names X x c) (I : Inv X pins σ H s) (q : Q c s) : wpAny (model X.prog X.w) X.A (eval (.Name x np) X.env) Q E s := by
 obtain ⟨hg, hdbg, hm | ⟨hm, hv, hnn⟩⟩ := hc
 · exact ld_glob I hg hm q hdbg
 · exact ld_blt I hg hm hv q hnn hdbg
theorem names_ev {E : Value → Shared → Prop} : ∀ {es : List Expr} {cs : List Value} {pos : Pos} {Q : List Value → Shared → Prop}, NamesL X es cs → Inv X pins σ H s → Q cs s → wpAny (model X.prog X.w) X.A (spliced (backTo pos (starEach es X.env))) Q E s
 | _, _, _, _, .nil, I, q => Calls.spliced_nil q
 | _, _, pos, _, .cons (es := es) h hs r, I, q => by
   rw [hs]
   show wpAny _ _ (spliced ((false, _) :: backTo pos (starEach es X.env))) _ _ s
   exact Calls.spliced_cons (name_ev h I (names_ev r I q))
end
theorem flyZ_keeps {B h h' : Heap} {l : List Env} {a : Addr} {Z : Obj → Prop} (x : HandSPX.FlyingZ B l a Z h) (k : ∀ b o, h.get? b = some o → h'.get? b = some o) : HandSPX.FlyingZ B l a Z h' := by
 obtain ⟨k1, k2, k3, oe, vs, T, oT, ts, he, hz, hd, h1, h2, h3, h4, h5, h6⟩ := x
 exact ⟨fun b o e => k b o (k1 b o e), k2, Heap.FunFrames.of_keeps (fun b o e _ => ⟨o, k b o e, rfl⟩) k3, oe, vs, T, oT, ts, k _ _ he, hz, hd, h1, h2, h3, k _ _ h4, h5, h6⟩
abbrev Clause := List Value × Option Nat × (Addr → Value → Option Addr → TS)
def asEnds (io : Option Nat) (De : Ends) : Ends := match io with
 | none => De
 | some i => { nx := fun σ' H' => De.nx (σ'.set i none) H', rt := De.rt, bk := fun σ' H' => De.bk (σ'.set i none) H', ct := fun σ' H' => De.ct (σ'.set i none) H' }
def asSt (io : Option Nat) (a : Addr) (σ : L2.St) : L2.St := match io with
 | none => σ
 | some i => σ.set i (some (.ref a))
def wCl (K : PySem.W.Frag) (Wout : WX) (De : Ends) : List Clause → WX
 | [] => Wout
 | (cs, io, ts) :: r => fun cls d σ H => ∃ b, PySem.W.exmAny K cls cs = some b ∧ (b = true → ∀ a, H a = none → ts a cls d (asEnds io De) (asSt io a σ) H) ∧ (b = false → wCl K Wout De r cls d σ H)
abbrev hotCx (X : Cx) (a : Addr) (pn : List (Addr × Obj)) (xe : Value → Shared → Prop) : Cx := { X with A := X.A.mark (some (.ref a)), calm := false, pn := pn, xe := xe }
def backW (io : Option Nat) (Wout : WX) : WX := match io with
 | none => Wout
 | some i => fun cls d σ H => Wout cls d (σ.set i none) H
def SuOk (X : Cx) (Wout : WX) (io : Option Nat) (sts : List Stmt) (ts : Addr → Value → Option Addr → TS) : Prop :=
 ∀ (a : Addr) (oe : Obj) (cls : Value) (d : Option Addr) (pn : List (Addr × Obj)) (xe : Value → Shared → Prop), Zc cls d oe → (∃ vs, oe.data = .fields vs) → Takes (hotCx X a ((a, oe) :: pn) xe) (backW io Wout) → HotK (hotCx X a ((a, oe) :: pn) xe) a cls →
   PSs (hotCx X a ((a, oe) :: pn) xe) sts (ts a cls d)
inductive HdG (X : Cx) (Wout : WX) : List ExceptHandler → List Clause → Prop
 | nil : HdG X Wout [] []
 | plain {t : Expr} {cs : List Value} {ts : Addr → Value → Option Addr → TS} {b₀ : Stmt} {suite : List Stmt} {pos' : Pos} {hds : List ExceptHandler} {l : List Clause} (hc : TstOk X t cs) (hsu : SuOk X Wout none (b₀ :: suite) ts) (r : HdG X Wout hds l) :
  HdG X Wout (.ExceptHandler (some t) none (b₀ :: suite) pos' :: hds) ((cs, none, ts) :: l)
 | named {t : Expr} {cs : List Value} {n : Str} {i : Nat} {ts : Addr → Value → Option Addr → TS} {b₀ : Stmt} {suite : List Stmt} {pos' : Pos} {hds : List ExceptHandler} {l : List Clause} (hc : TstOk X t cs) (hi : X.N[i]? = some n) (hln : X.env.kindOf n = some .local)
  (hsu : SuOk X Wout (some i) (b₀ :: suite) ts) (r : HdG X Wout hds l) : HdG X Wout (.ExceptHandler (some t) (some n) (b₀ :: suite) pos' :: hds) ((cs, some i, ts) :: l)
section
variable {X : Cx} {pins : List (Addr × Obj)} {σ : L2.St} {H : Hp} {s : Shared}
theorem hot_ok (ok : X.Ok) (a : Addr) (pn : List (Addr × Obj)) (xe : Value → Shared → Prop) : (hotCx X a pn xe).Ok := (ok.suite a pn).wish xe
def PinAt (X : Cx) (H : Hp) (s : Shared) (p : Addr × Obj) : Prop := s.heap.get? p.1 = some p.2 ∧ H p.1 = none ∧ p.1 ≠ X.env.locals ∧ p.1 ∉ X.fs ∧ ∀ v, p.2.data ≠ .cell v
theorem inv_hot {a : Addr} {pl : List (Addr × Obj)} {xe : Value → Shared → Prop} (J : Inv X pins σ H s) (hpl : ∀ p ∈ pl, PinAt X H s p) : Inv (hotCx X a (pl ++ (X.pn ++ pins)) xe) [] σ H s :=
 ⟨hot_ok J.ok _ _ _, J.os, J.bare, J.base, J.loc, J.cell, J.free, J.freeC, fun p hp => by
  rw [apQ] at hp
  rcases mAq.mp (show p ∈ pl ++ (X.pn ++ pins) from hp) with h | h
  · exact hpl p h
  · exact J.pin p h, J.hok, J.len⟩
theorem inv_unhot {a : Addr} {pl pn' : List (Addr × Obj)} {xe : Value → Shared → Prop} (I : Inv (hotCx X a (pl ++ (X.pn ++ pins)) xe) pn' σ H s) (ok : X.Ok) : Inv X pins σ H s :=
 ⟨ok, I.os, I.bare, I.base, I.loc, I.cell, I.free, I.freeC, fun p hp => I.pin p (maL _ (maR _ hp)), I.hok, I.len⟩
end
section
variable {M : Model} {A : Around} {env : Env} {lf : List Env} {L x : Addr} {Z : Obj → Prop} {B : Heap} {s : Shared}
theorem came_back {E : Value → Shared → Prop} (hf : env.frame = some L) (hh : HandSPX.HeldZ B lf x Z L s.heap) (k : ∀ h', HandSPX.HeldZ B lf x Z L h' → s.heap.UpToSlots h' → E (.ref x) { s with heap := h' }) : cameBackBy M A env E (.ref x) s := by
 obtain ⟨k1, k2, k3, oe, vs, T, oT, ts, he, hz, hd, h1, hr⟩ := id hh
 show wpAny M A (do
  if (← field (.ref x) 1) == .none then unsupported "frame.own-activation:exception-without-traceback"
  setFlight (.ref x) env.frame) _ _ s
 refine wpAny_bind (wpAny_field he hd h1 ?_)
 rw [if_neg (show ¬ ((Value.ref T == Value.none) = true) from by simp)]
 have fin : wpAny M A (setFlight (.ref x) env.frame) (fun _ s'' => E (.ref x) s'') E s := by
  rw [hf]
  exact HandSPX.setFlight_onZ hh k
 first
 | exact fin
 | exact wpAny_bind (wpAny_pure fin)
theorem pass_on {α : Type} {tag : String} {E : Value → Shared → Prop} {Q : α → Shared → Prop} (hf : env.frame = some L) (hh : HandSPX.HeldZ B lf x Z L s.heap) (k : ∀ h', HandSPX.HeldZ B lf x Z L h' → s.heap.UpToSlots h' → E (.ref x) { s with heap := h' }) : wpAny M A (PySem.passOn tag (.ref x) env : Sem α) Q E s := by
 obtain ⟨k1, k2, k3, oe, vs, T, oT, ts, he, hz, hd, h1, hr⟩ := id hh
 unfold PySem.passOn
 refine wpAny_bind (wpAny_field he hd h1 ?_)
 rw [if_neg (show ¬ ((Value.ref T == Value.none) = true) from by simp)]
 have fin : wpAny M A (setFlight (.ref x) env.frame) (fun _ s4 => wpAny M A (throw (.ref x) : Sem α) Q E s4) E s := by
  rw [hf]
  exact HandSPX.setFlight_onZ hh fun h4 hh4 up4 => wpAny_throw (k h4 hh4 up4)
 first
 | exact wpAny_bind (wpAny_pure (wpAny_bind fin))
 | exact wpAny_bind fin
end
section
variable {X : Cx} {body : List Stmt} {h₀ : ExceptHandler} {hds : List ExceptHandler} {l : List Clause} {pos : Pos} {tb : WX → TS} {Wout : WX}
theorem test_ok {pins : List (Addr × Obj)} {σ' : L2.St} {H' : Hp} {sI s' : Shared} {De : Ends} {B : Heap} {a : Addr} {cls : Value} {d : Option Addr} {h3 : Heap} {tk3 : Nat} {t : Expr} {cs : List Value} {b : Bool} {name : Option Str} {sbody : List Stmt} {pos' : Pos} {rest : List ExceptHandler}
  (ok : X.Ok) (J : Inv X pins σ' H' sI) (nb : ∀ b o, sI.heap.get? b = some o → b ∉ frs X.stack → B.get? b = some o) (fl3 : HandSPX.FlyingZ B (X.env :: X.outer) a (Zk B H' cls d) h3) (up3 : sI.heap.UpToSlots h3) (os : s'.os = sI.os) (ag : AllBare s'.gens) (na : H' a = none)
  (hs : X.stack = X.env :: X.outer) (hf : X.env.frame = some X.env.locals) (hc : TstOk X t cs) (hb1 : PySem.W.exmAny X.K cls cs = some b)
  (k : ∀ h4 tk4, HandSPX.FlyingZ B (X.env :: X.outer) a (Zk B H' cls d) h4 → sI.heap.UpToSlots h4 → if b = true then codeAny (model X.prog X.w) (X.A.mark (some (.ref a))) (.handlers (.ref a) [.ExceptHandler none name sbody pos'] X.env) (fun r s₂ => match r with
   | .ok f => (match name with
     | none => SP X pins De f s₂
     | some n => wpAny (model X.prog X.w) X.A (do bindName X.env n .none; unbindBehindTheSuite X.env n pos') (fun _ s₃ => SP X pins De f s₃) X.xe s₂)
   | .error x => cameBackBy (model X.prog X.w) X.A X.env X.xe x s₂) { s' with heap := h4, toks := tk4 } else wpAny (model X.prog X.w) X.A (handleBy (.ref a) X.env rest) (SP X pins De) X.xe { s' with heap := h4, toks := tk4 }) :
  wpAny (model X.prog X.w) X.A (handleBy (.ref a) X.env (.ExceptHandler (some t) name sbody pos' :: rest)) (SP X pins De) X.xe { s' with heap := h3, toks := tk3 } := by
 have J3 : Inv X pins σ' H' { s' with heap := h3, toks := tk3 } := J.landed nb fl3.1 up3 os ag
 obtain ⟨oe3, vs3, he3, hz3, hd3⟩ := fl3.there
 have nfr : a ∉ frs (X.env :: X.outer) := fun hm => by
  obtain ⟨_, o', e', hnf⟩ := fl3.2.2.1.mem hm
  rw [he3] at e'; cases e'
  exact hnf _ hd3
 have nL : a ≠ X.env.locals := fun z => nfr (List.mem_filterMap.mpr ⟨X.env, mcS, by rw [hf, z]⟩)
 have nF : a ∉ X.fs := fun hm => by
  obtain ⟨e, he, q⟩ := List.mem_filterMap.mp hm
  exact nfr (List.mem_filterMap.mpr ⟨e, mcM _ he, q⟩)
 have S3 := J3.suite he3 hd3 na nL nF
 refine wpAny_handleBy_cons (codeAny_handlers_test ?_) (by intro q; cases q)
 have LT : ∀ hh : Heap, (∀ b o, h3.get? b = some o → hh.get? b = some o) → PySem.W.Looks (model X.prog X.w) hh (typeOf (.ref a)) cls := fun hh kk A Q E s k q => wpAny_typeOf_ref (k _ _ (kk _ _ he3)) (by rw [hz3.1]; exact q)
 cases hc with
 | @one x np c h =>
   obtain ⟨b1, d1, x1, y1, z1⟩ := PySem.W.exmAny_cons hb1
   cases (show some false = some d1 from y1)
   rw [Bool.or_false] at z1
   subst z1
   have LM := PySem.W.exm_one (M := model X.prog X.w) J3.kIn (LT h3 fun _ _ e => e) x1
   refine name_ev (X := X.suite a ((a, oe3) :: (X.pn ++ pins))) h S3 (LM.here ?_)
   have := k h3 tk3 fl3 up3
   cases b with
   | true =>
     refine codeAny_mono (by simpa using this) fun r s₂ q => ?_
     cases r with
     | ok f => cases name <;> exact q
     | error x => exact q
   | false => simpa using this
 | @tup es _ kk pt h hl =>
   have hN : NamesL (X.suite a ((a, oe3) :: (X.pn ++ pins))) es cs := by
    clear k hb1 hl
    induction h with
    | nil => exact .nil
    | cons h1 h2 r ih => exact .cons h1 h2 ih
   refine wpAny_Tuple_spliced (names_ev (X := X.suite a ((a, oe3) :: (X.pn ++ pins))) hN S3 ⟨Nat.le_trans hl (by decide), ?_⟩)
   have kp : ∀ b o, h3.get? b = some o → (h3.push { cls := .type "tuple", data := .seq cs.toArray }).get? b = some o := fun b o e => Heap.get?_push_of_some _ e
   have K4 : X.K.In (h3.push { cls := .type "tuple", data := .seq cs.toArray }) := J3.kIn.keeps kp
   have LM := exm_tupN (M := model X.prog X.w) K4 (LT _ kp) (Heap.get?_push_size _ rfl) hb1
   refine LM.here ?_
   have := k _ tk3 (flyZ_keeps fl3 kp) (up3.trans (Heap.UpToSlots.of_keeps kp))
   cases b with
   | true =>
     refine codeAny_mono (by simpa using this) fun r s₂ q => ?_
     cases r with
     | ok f => cases name <;> exact q
     | error x => exact q
   | false => simpa using this
theorem out_plain {pins : List (Addr × Obj)} {a : Addr} {pl : List (Addr × Obj)} {xe : Value → Shared → Prop} (ok : X.Ok) (hs : X.stack = X.env :: X.outer) (hf : X.env.frame = some X.env.locals) (tk : Takes X Wout) {u : Value} {s3 : Shared} (xx : XE (hotCx X a (pl ++ (X.pn ++ pins)) xe) (backW none Wout) u s3) :
  notedBy (model X.prog X.w) (X.A.mark (some (.ref a))) X.env (cameBackBy (model X.prog X.w) X.A X.env X.xe) u s3 := by
 obtain ⟨x, B, s1, pns, τ, H1, c, dx, rfl, I, nb, up, sky, na, os, ag, w⟩ := xx
 have J := inv_unhot I ok
 have fra : (X.A.mark (some (.ref a))).frames = some (X.env :: X.outer) := (show X.A.frames = _ from by rw [ok.frames, hs])
 have sky' : Sky B (X.env :: X.outer) x (Zk B H1 c dx) X.env.locals s3.heap := by
  have z : Sky B X.stack x (Zk B H1 c dx) (fr X) s3.heap := sky
  rw [hs, fr_eq hf] at z
  exact z
 show wpAny _ _ (noteFrame (.ref x) X.env) _ _ s3
 refine Sky.held Zk.steady fra hf sky' fun h1 hh up1 => ?_
 refine came_back (s := { s3 with heap := h1 }) hf hh fun h2 hh2 up2 => tk _ _ ?_
 exact ⟨x, B, s1, pins, τ, H1, c, dx, rfl, J, nb, (up.trans up1).trans up2, .inr (.inr (by rw [hs, fr_eq hf]; exact hh2)), na, os, ag, w⟩
theorem out_named {pins : List (Addr × Obj)} {a : Addr} {pl : List (Addr × Obj)} {xe : Value → Shared → Prop} {n : Str} {i : Nat} {pos' : Pos} (ok : X.Ok) (hs : X.stack = X.env :: X.outer) (hf : X.env.frame = some X.env.locals) (hex : X.ex = []) (hN : X.N.Nodup) (hi : X.N[i]? = some n) (hln : X.env.kindOf n = some .local)
  (tk : Takes X Wout) {u : Value} {s3 : Shared} (xx : XE (hotCx X a (pl ++ (X.pn ++ pins)) xe) (backW (some i) Wout) u s3) :
  wpAny (model X.prog X.w) (X.A.mark (some (.ref a))) (noteFrame u X.env) (fun _ s4 => wpAny (model X.prog X.w) (X.A.mark (some (.ref a))) (do bindName X.env n .none; unbindBehindTheSuite X.env n pos')
   (fun _ s5 => wpAny (model X.prog X.w) (X.A.mark (some (.ref a))) (PySem.passOn "try.except-as" u X.env : Sem Flow) (fun _ _ => False) (notedBy (model X.prog X.w) (X.A.mark (some (.ref a))) X.env (cameBackBy (model X.prog X.w) X.A X.env X.xe)) s5)
   (fun y s5 => wpAny (model X.prog X.w) (X.A.mark (some (.ref a))) (setFlight u none) (fun _ s6 => notedBy (model X.prog X.w) (X.A.mark (some (.ref a))) X.env (cameBackBy (model X.prog X.w) X.A X.env X.xe) y s6) (notedBy (model X.prog X.w) (X.A.mark (some (.ref a))) X.env (cameBackBy (model X.prog X.w) X.A X.env X.xe)) s5) s4)
   (notedBy (model X.prog X.w) (X.A.mark (some (.ref a))) X.env (cameBackBy (model X.prog X.w) X.A X.env X.xe)) s3 := by
 obtain ⟨x, B, s1, pns, τ, H1, c, dx, rfl, I, nb, up, sky, na, os, ag, w⟩ := xx
 have J := inv_unhot I ok
 have fra : (X.A.mark (some (.ref a))).frames = some (X.env :: X.outer) := (show X.A.frames = _ from by rw [ok.frames, hs])
 have sky' : Sky B (X.env :: X.outer) x (Zk B H1 c dx) X.env.locals s3.heap := by
  have z : Sky B X.stack x (Zk B H1 c dx) (fr X) s3.heap := sky
  rw [hs, fr_eq hf] at z
  exact z
 refine Sky.held Zk.steady fra hf sky' fun h1 hh up1 => ?_
 obtain ⟨pl2, S, goOn⟩ := behind (s' := s3) hs hf hex J nb (up.trans up1) os ag hh na
 refine gone_ok S hN hi hln fun s5 S5 => ?_
 obtain ⟨B2, s6, I6, nb6, up6, hh6, na6, os6, ag6⟩ := goOn _ _ _ S5
 refine pass_on hf hh6 fun h7 hh7 up7 => ?_
 show wpAny _ _ (noteFrame (.ref x) X.env) _ _ _
 refine HandSPX.againZ hf hh7.2.2.2 ?_
 refine came_back (s := { s5 with heap := h7 }) hf hh7 fun h8 hh8 up8 => tk _ _ ?_
 exact ⟨x, B2, s6, pins, τ.set i none, H1, c, dx, rfl, I6, nb6, (up6.trans up7).trans up8, .inr (.inr (by rw [hs, fr_eq hf]; exact hh8)), na6, os6, ag6, w⟩
theorem try_run {pins : List (Addr × Obj)} {s : Shared} {σ : L2.St} {H : Hp} {De : Ends} (hs : X.stack = X.env :: X.outer) (hf : X.env.frame = some X.env.locals) (hex : X.ex = []) (hN : X.N.Nodup) (tk : Takes X Wout)
  (hb : ∀ (W : WX) (pn : List (Addr × Obj)) (xe : Value → Shared → Prop), Takes (X.tr pn xe) W → PassesOwn (model X.prog X.w) X.A X.env xe → PSs (X.tr pn xe) body (tb W))
  (hh : HdG X Wout (h₀ :: hds) l) (I : Inv X pins σ H s) (h : tb (wCl X.K Wout De l) De σ H) :
  wpAny (model X.prog X.w) X.A (execs body X.env) (fun f s₁ => match f with | .next => wpAny (model X.prog X.w) X.A (execs [] X.env) (SP X pins De) X.xe s₁ | f => SP X pins De f s₁)
   (fun e s₁ => wpAny (model X.prog X.w) X.A (noteFrame e X.env) (fun _ s₂ => wpAny (model X.prog X.w) X.A (setFlight e none) (fun _ s₃ => wpAny (model X.prog X.w) X.A (handleBy e X.env (h₀ :: hds)) (SP X pins De) X.xe s₃) X.xe s₂) X.xe s₁) s := by
 have ok := I.ok
 have hfr : X.A.frames = some (X.env :: X.outer) := by rw [ok.frames, hs]
 refine wpAny_mono ((hb (wCl X.K Wout De l) (X.pn ++ pins) (fun e s₁ => wpAny (model X.prog X.w) X.A (noteFrame e X.env) (fun _ s₂ => wpAny (model X.prog X.w) X.A (setFlight e none) (fun _ s₃ =>
  wpAny (model X.prog X.w) X.A (handleBy e X.env (h₀ :: hds)) (SP X pins De) X.xe s₃) X.xe s₂) X.xe s₁) (fun u s' xx => ?_) PassesOwn.looking).run [] s σ H De (I.toTry _) h) (fun f s1 hsp => ?_) (fun e s1 he => he)
 · obtain ⟨a, B, sI, pins', σ', H', cls, d, rfl, J', nb, up, sky, na, os, ag, w⟩ := xx
   have J : Inv X pins σ' H' sI := J'.ofTry ok
   have sky' : Sky B (X.env :: X.outer) a (Zk B H' cls d) X.env.locals s'.heap := by
    have z : Sky B X.stack a (Zk B H' cls d) (fr X) s'.heap := sky
    rw [hs, fr_eq hf] at z
    exact z
   show wpAny (model X.prog X.w) X.A (noteFrame (.ref a) X.env) _ _ _
   refine Sky.land Zk.steady hfr hf sky' fun h3 fl3 up3 => ?_
   have notFr : ∀ {h : Heap} {o : Obj} {vs : Array Value}, h.FunFrames B (X.env :: X.outer) → h.get? a = some o → o.data = .fields vs → a ∉ frs (X.env :: X.outer) := fun {h o vs} ff e dd hm => by
    obtain ⟨_, o', e', hnf⟩ := ff.mem hm
    rw [e] at e'; cases e'
    exact hnf _ dd
   have chainOf : ∀ {h5 : Heap} {oe5 : Obj} {vs5 : Array Value}, HandSPX.FlyingZ B (X.env :: X.outer) a (Zk B H' cls d) h5 → Zk B H' cls d oe5 → h5.get? a = some oe5 → oe5.data = .fields vs5 → ∃ lc : List (Addr × Obj), (∀ xe, HotK (hotCx X a ((a, oe5) :: (lc ++ (X.pn ++ pins))) xe) a cls) ∧
     ∀ (tk5 : Nat), ∀ p ∈ (a, oe5) :: lc, PinAt X H' { s' with heap := h5, toks := tk5 } p := by
    intro h5 oe5 vs5 fl5 hz5 he5 hd5
    obtain ⟨v, hv, lc, lk, lin⟩ := hz5.2.2 vs5 hd5
    have locF : X.env.locals ∈ frs (X.env :: X.outer) := List.mem_filterMap.mpr ⟨X.env, mcS, hf⟩
    have fsF : ∀ b, b ∈ X.fs → b ∈ frs (X.env :: X.outer) := fun b hm => by
     obtain ⟨e, he, q⟩ := List.mem_filterMap.mp hm
     exact List.mem_filterMap.mpr ⟨e, mcM _ he, q⟩
    have one : ∀ (tk5 : Nat) (p : Addr × Obj) (fv : Array Value), h5.get? p.1 = some p.2 → p.2.data = .fields fv → H' p.1 = none → PinAt X H' { s' with heap := h5, toks := tk5 } p := fun tk5 p fv e dd n => by
     have nf : p.1 ∉ frs (X.env :: X.outer) := fun hm => by
      obtain ⟨_, o', e', hnf⟩ := fl5.2.2.1.mem hm
      rw [e] at e'; cases e'
      exact hnf _ dd
     exact ⟨e, n, fun z => nf (by rw [z]; exact locF), fun z => nf (fsF _ z), fun v z => by rw [dd] at z; cases z⟩
    refine ⟨lc, fun xe => ⟨rfl, oe5, lc, .cons hd5 hv lk, hz5.1, fun p hp => ?_⟩, fun tk5 p hp => ?_⟩
    · rcases mCq.mp hp with e | h
      · rw [e]; exact mcS
      · exact mcM _ (maL _ h)
    · rcases mCq.mp hp with e | h
      · rw [e]; exact one tk5 (a, oe5) _ he5 hd5 na
      · obtain ⟨fv, dd⟩ := lk.data p h
        exact one tk5 p fv (fl5.1 _ _ (lin p h).1) dd (lin p h).2
   have go : ∀ {hds' : List ExceptHandler} {l' : List Clause}, HdG X Wout hds' l' → ∀ (h3 : Heap) (tk3 : Nat), HandSPX.FlyingZ B (X.env :: X.outer) a (Zk B H' cls d) h3 → sI.heap.UpToSlots h3 → wCl X.K Wout De l' cls d σ' H' →
     wpAny (model X.prog X.w) X.A (handleBy (.ref a) X.env hds') (SP X pins De) X.xe { s' with heap := h3, toks := tk3 } := by
    intro hds' l' hk
    induction hk with
    | nil =>
      intro h3 tk3 fl3 up3 w
      refine wpAny_handleBy_nil ?_
      obtain ⟨k1, k2, k3, oe, vs, T, oT, ts', he, hz, hd, h1, hr⟩ := id fl3
      unfold PySem.passOn
      refine wpAny_bind (wpAny_field he hd h1 ?_)
      rw [if_neg (show ¬ ((Value.ref T == Value.none) = true) from by simp)]
      have fin : wpAny (model X.prog X.w) X.A (setFlight (.ref a) X.env.frame) (fun _ s4 => wpAny (model X.prog X.w) X.A (throw (.ref a) : Sem Flow) (SP X pins De) X.xe s4) X.xe { s' with heap := h3, toks := tk3 } := by
       rw [hf]
       refine HandSPX.setFlight_upZ fl3 fun h4 hh4 up4 => wpAny_throw (tk _ _ ?_)
       exact ⟨a, B, sI, pins, σ', H', cls, d, rfl, J, nb, up3.trans up4, .inr (.inr (by rw [hs, fr_eq hf]; exact hh4)), na, os, ag, w⟩
      first
       | exact wpAny_bind (wpAny_pure (wpAny_bind fin))
       | exact wpAny_bind fin
    | @plain t cs ts b₀ suite pos' hds2 l2 hc hsu r ih =>
      intro h3 tk3 fl3 up3 w
      obtain ⟨b, hb1, hyes, hno⟩ := w
      refine test_ok (De := De) ok J nb fl3 up3 os ag na hs hf hc hb1 (fun h4 tk4 fl4 up4 => ?_)
      cases b with
      | true =>
        refine codeAny_handlers_suite ?_
        refine HandSPX.lands_againZ fl4 fun h5 fl5 up5 => ?_
        have J5 : Inv X pins σ' H' { s' with heap := h5, toks := tk4 } := J.landed nb fl5.1 (up4.trans up5) os ag
        obtain ⟨oe5, vs5, he5, hz5, hd5⟩ := fl5.there
        have nfr := notFr fl5.2.2.1 he5 hd5
        have nL : a ≠ X.env.locals := fun z => nfr (List.mem_filterMap.mpr ⟨X.env, mcS, by rw [hf, z]⟩)
        have nF : a ∉ X.fs := fun hm => by
         obtain ⟨e, he, q⟩ := List.mem_filterMap.mp hm
         exact nfr (List.mem_filterMap.mpr ⟨e, mcM _ he, q⟩)
        obtain ⟨lc, hk5, pl5⟩ := chainOf fl5 hz5 he5 hd5
        have S5 := inv_hot (a := a) (xe := notedBy (model X.prog X.w) (X.A.mark (some (.ref a))) X.env (cameBackBy (model X.prog X.w) X.A X.env X.xe)) J5 (pl5 _)
        refine wpAny_mono ((hsu a oe5 cls d (lc ++ (X.pn ++ pins)) _ hz5.zc ⟨_, hd5⟩ (fun u5 s5 x5 => out_plain (pl := (a, oe5) :: lc) ok hs hf tk x5) (hk5 _)).run [] _ _ H' _ S5 (hyes rfl a na)) (fun f s6 hsp => ?_) (fun _ _ z => z)
        cases f with
        | next =>
          obtain ⟨σ6, H6, S6, q6⟩ := hsp
          exact ⟨_, _, inv_unhot (pl := (a, oe5) :: lc) S6 ok, q6⟩
        | brk =>
          obtain ⟨σ6, H6, S6, q6⟩ := hsp
          exact ⟨_, _, inv_unhot (pl := (a, oe5) :: lc) S6 ok, q6⟩
        | cont =>
          obtain ⟨σ6, H6, S6, q6⟩ := hsp
          exact ⟨_, _, inv_unhot (pl := (a, oe5) :: lc) S6 ok, q6⟩
        | ret u =>
          obtain ⟨v6, σ6, H6, S6, r6, q6⟩ := hsp
          exact ⟨_, _, _, inv_unhot (pl := (a, oe5) :: lc) S6 ok, r6, q6⟩
      | false => exact ih h4 tk4 fl4 up4 (hno rfl)
    | @named t cs n i ts b₀ suite pos' hds2 l2 hc hi hln hsu r ih =>
      intro h3 tk3 fl3 up3 w
      obtain ⟨b, hb1, hyes, hno⟩ := w
      have hloc : Loc X.env.scope n := .inl hln
      refine test_ok (De := De) ok J nb fl3 up3 os ag na hs hf hc hb1 (fun h4 tk4 fl4 up4 => ?_)
      cases b with
      | true =>
        refine codeAny_handlers_suite_as ?_
        refine HandSPX.lands_againZ fl4 fun h5 fl5 up5 => ?_
        have J5 : Inv X pins σ' H' { s' with heap := h5, toks := tk4 } := J.landed nb fl5.1 (up4.trans up5) os ag
        obtain ⟨oe5, vs5, he5, hz5, hd5⟩ := fl5.there
        have nfr := notFr fl5.2.2.1 he5 hd5
        have nL : a ≠ X.env.locals := fun z => nfr (List.mem_filterMap.mpr ⟨X.env, mcS, by rw [hf, z]⟩)
        have nF : a ∉ X.fs := fun hm => by
         obtain ⟨e, he, q⟩ := List.mem_filterMap.mp hm
         exact nfr (List.mem_filterMap.mpr ⟨e, mcM _ he, q⟩)
        obtain ⟨lc, hk5, pl5⟩ := chainOf fl5 hz5 he5 hd5
        obtain ⟨xe5, hxe⟩ : ∃ xe5 : Value → Shared → Prop, xe5 = fun u5 s5 => wpAny (model X.prog X.w) (X.A.mark (some (.ref a))) (noteFrame u5 X.env) (fun _ s4 => wpAny (model X.prog X.w) (X.A.mark (some (.ref a))) (do bindName X.env n .none; unbindBehindTheSuite X.env n pos')
         (fun _ s6 => wpAny (model X.prog X.w) (X.A.mark (some (.ref a))) (PySem.passOn "try.except-as" u5 X.env : Sem Flow) (fun _ _ => False) (notedBy (model X.prog X.w) (X.A.mark (some (.ref a))) X.env (cameBackBy (model X.prog X.w) X.A X.env X.xe)) s6)
         (fun y s6 => wpAny (model X.prog X.w) (X.A.mark (some (.ref a))) (setFlight u5 none) (fun _ s7 => notedBy (model X.prog X.w) (X.A.mark (some (.ref a))) X.env (cameBackBy (model X.prog X.w) X.A X.env X.xe) y s7) (notedBy (model X.prog X.w) (X.A.mark (some (.ref a))) X.env (cameBackBy (model X.prog X.w) X.A X.env X.xe)) s6) s4)
         (notedBy (model X.prog X.w) (X.A.mark (some (.ref a))) X.env (cameBackBy (model X.prog X.w) X.A X.env X.xe)) s5 := ⟨_, rfl⟩
        have S5 := inv_hot (a := a) (xe := xe5) J5 (pl5 _)
        refine store_ok (X := hotCx X a ((a, oe5) :: (lc ++ (X.pn ++ pins))) xe5) (v := .ref a) S5 hN hi hloc rfl (fun s5 S6 => ?_) (.inr hln)
        refine wpAny_mono ((hsu a oe5 cls d (lc ++ (X.pn ++ pins)) xe5 hz5.zc ⟨_, hd5⟩ (fun u5 s5 x5 => by
         show xe5 u5 s5
         rw [hxe]
         exact out_named (pl := (a, oe5) :: lc) ok hs hf hex hN hi hln tk x5) (hk5 _)).run [] s5 _ H' _ S6 (hyes rfl a na)) (fun f s6 hsp => ?_) (fun u5 s5 z => by
          have z' : xe5 u5 s5 := z
          rw [hxe] at z'
          exact z')
        have end_ : ∀ {σ6 : L2.St} {H6 : Hp} {Q : Shared → Prop}, Inv (hotCx X a ((a, oe5) :: (lc ++ (X.pn ++ pins))) xe5) [] σ6 H6 s6 → (∀ s7, Inv X pins (σ6.set i none) H6 s7 → Q s7) →
         wpAny (model X.prog X.w) X.A (do bindName X.env n .none; unbindBehindTheSuite X.env n pos') (fun _ s7 => Q s7) X.xe s6 := fun {σ6 H6 Q} S6 hq => gone_ok (inv_unhot (pl := (a, oe5) :: lc) S6 ok) hN hi hln hq
        cases f with
        | next =>
          obtain ⟨σ6, H6, S6, q6⟩ := hsp
          exact end_ S6 fun s7 J7 => ⟨_, _, J7, q6⟩
        | brk =>
          obtain ⟨σ6, H6, S6, q6⟩ := hsp
          exact end_ S6 fun s7 J7 => ⟨_, _, J7, q6⟩
        | cont =>
          obtain ⟨σ6, H6, S6, q6⟩ := hsp
          exact end_ S6 fun s7 J7 => ⟨_, _, J7, q6⟩
        | ret u =>
          obtain ⟨v6, σ6, H6, S6, r6, q6⟩ := hsp
          exact end_ S6 fun s7 J7 => ⟨_, _, _, J7, r6, q6⟩
      | false => exact ih h4 tk4 fl4 up4 (hno rfl)
   exact go hh h3 _ fl3 (up.trans up3) w
 · cases f with
   | next =>
     obtain ⟨σ', H', J', q⟩ := hsp
     exact wpAny_execs_nil ⟨σ', H', J'.ofTry ok, q⟩
   | brk =>
     obtain ⟨σ', H', J', q⟩ := hsp
     exact ⟨σ', H', J'.ofTry ok, q⟩
   | cont =>
     obtain ⟨σ', H', J', q⟩ := hsp
     exact ⟨σ', H', J'.ofTry ok, q⟩
   | ret u =>
     obtain ⟨v, σ', H', J', r, q⟩ := hsp
     exact ⟨v, σ', H', J'.ofTry ok, r, q⟩
theorem ps_try_g (hs : X.stack = X.env :: X.outer) (hf : X.env.frame = some X.env.locals) (hex : X.ex = []) (hN : X.N.Nodup) (tk : Takes X Wout)
  (hb : ∀ (W : WX) (pn : List (Addr × Obj)) (xe : Value → Shared → Prop), Takes (X.tr pn xe) W → PassesOwn (model X.prog X.w) X.A X.env xe → PSs (X.tr pn xe) body (tb W))
  (hh : HdG X Wout (h₀ :: hds) l) : PS X (.Try body (h₀ :: hds) [] [] pos) (fun De σ H => tb (wCl X.K Wout De l) De σ H) := by
 exact ⟨fun pins s σ H De I h => wpAny_Try_except (try_run hs hf hex hN tk hb hh I h)⟩
end
end RW
namespace RW
open PySem PySem.Spec PyProof.Rows L2
structure CFn (K : PySem.W.Frag) (B : Addr) (mc : Value) (m : Str) (g : Addr) : Prop where
 rd : PySem.W.readsIn K B mc = true
 ga : PySem.W.specialIn K (.ref B) "__getattribute__" = some (some (.builtin "type.__getattribute__"))
 at_ : PySem.W.findCls K (.ref B) mc m = some (.val (.ref g))
 kp : PySem.W.keepIn K (.ref g) = true
section
variable {X : Cx}
theorem passesF {W : WX} (tk : Takes X W) : Passes (KX X.prog X.w) X (fun _ _ _ => False) := passes_call tk fun _ _ _ _ z => z.elim
theorem pe_clsfn {W : WX} {x m : Str} {B g : Addr} {mc : Value} {k : Nat} {fd : FuncData} {qs : List Str} {sp : Sp} {e : Expr} {es : List Expr} {ta : TA} {p1 p2 pos : Pos} {pl : Sem Bool} (tk : Takes X W) (c : CFn X.K B mc m g)
  (F1 : FnO X.prog X.w X.K X.mg X.base (KX X.prog X.w) k g fd qs sp) (hr : L2H.RoomH k X.A) (hb : Binds X.K fd qs []) (hg : Gl X x) (hm : X.mg x = some (.ref B)) (ha : PA X (e :: es) ta)
  (ht : eval (.Call (.Attribute (.Name x p1) m p2) (e :: es) [] pos) X.env = (do
   let ov ← eval (.Name x p1) X.env
   standAt p2.atName
   let (f, first) ← holding [ov] (getMethod ov m pl)
   callWith pos f first (backTo pos (starEach (e :: es) X.env)) (backToKw pos (keywordEach [] X.env))) := by rfl)
  (hdb : (x == ("__debug__" : Str)) = false := by decide) (he : starEach (e :: es) X.env = (false, eval e X.env) :: starEach es X.env := by rfl) (hpl : (backTo pos (starEach es X.env)).any (·.1) = false := by rfl) :
  PE X (.Call (.Attribute (.Name x p1) m p2) (e :: es) [] pos) (tCall sp [] (fun _ _ _ => False) ta) := by
 refine ⟨fun pins s σ H Q I h => ?_⟩
 refine PySem.W.methodCall_KW (pl := pl) (ld_glob I hg hm ?_ hdb) ht
 refine PySem.W.method_cls I.kIn c.ga (ClX.getcval_ok I ⟨c.rd, c.ga⟩ (v := .ref g) ⟨c.at_, rfl⟩ fun s' J => ?_)
 exact PySem.W.callWith_K (first := []) (h₀ := X.base) J.ok.mod.kin c.kp (thn (ha.run pos pins s' σ H _ J h) fun us s1 ⟨vs, H1, I1, r1, q⟩ => ⟨I1.kIn, run_fnO F1 hr hb (fun e s' c => passesF tk pins σ _ _ e s' I1 c) I1 r1 (by simpa using q)⟩) he hpl
end
def MethEq (o : Expr) (m : Str) (apos : Pos) (args : List Expr) (pos : Pos) : Prop := ∀ env : Env, ∃ pl : Sem Bool, eval (.Call (.Attribute o m apos) args [] pos) env = (do
 let ov ← eval o env
 standAt apos.atName
 let (f, first) ← holding [ov] (getMethod ov m pl)
 callWith pos f first (backTo pos (starEach args env)) (backToKw pos (keywordEach [] env)))
abbrev FT := List (Str × (Nat ⊕ Str))
def ftV (F : FT) (ws : List V) : List (Str × V) := F.map fun p => (p.1, match p.2 with | .inl i => ws.getD i .non | .inr s => .str s)
def ftD (F : FT) (ds : List D) : List (Str × D) := F.map fun p => (p.1, match p.2 with | .inl i => ds.getD i .non | .inr s => .str s)
theorem ft_rep {K : PySem.W.Frag} {H : Hp} {ws : List V} {ds : List D} (r : Reps K H ws ds) : ∀ F : FT, RepF K H (ftV F ws) (ftD F ds)
 | [] => .nil
 | (f, .inr s) :: F => .cons (.str s) (ft_rep r F)
 | (f, .inl i) :: F => by
   refine .cons ?_ (ft_rep r F)
   show Rep K H (ws.getD i .non) (ds.getD i .non)
   cases e : ds[i]? with
   | some d =>
     obtain ⟨v, h1, h2⟩ := r.get e
     simp only [List.getD, h1, e, Option.getD_some]
     exact h2
   | none =>
     have hl : ds.length ≤ i := geN.mp e
     have h1 : ws[i]? = none := geN.mpr (by rw [r.length]; exact hl)
     simp only [List.getD, h1, e, Option.getD_none]
     exact .non
def spInit (K : PySem.W.Frag) (n : Nat) (F : FT) : Sp := fun vs H Q _ => ∃ (a C : Addr) (ws : List V), vs = .ref a :: ws ∧ ws.length = n ∧ OexC K C ∧ (∀ p ∈ F, PySem.W.findIn K (.ref C) p.1 = some none) ∧ H a = some (exo a C none) ∧
 ∀ dx, H dx = none → dx ≠ a → Q .non (upd (upd H dx (exd dx (ftV F ws))) a (exo a C (some dx)))
section
variable {P : Program} {w : World} {K : PySem.W.Frag} {mg : Str → Option Value} {base : Heap}
theorem upd_swap {H : Hp} {a b : Addr} {o u : HO} (h : a ≠ b) : upd (upd H a o) b u = upd (upd H b u) a o := by
 funext c
 unfold upd
 by_cases h1 : c = a
 · subst h1; rw [if_neg h, if_pos rfl, if_pos rfl]
 · by_cases h2 : c = b
   · rw [if_pos h2, if_neg h1, if_pos h2]
   · rw [if_neg h2, if_neg h1, if_neg h1, if_neg h2]
theorem ok_initB {qual : Str} {st : Stmt} {f : Addr} {fd : FuncData} {k : Nat} {p1 p2 p3 p4 p5 p6 p7 p8 p9 q1 : Pos} (F : Fun K "__init__" qual st f fd) (Sc : FnScope ["self", "word"] ["self", "word"] (defScope st))
  (hb : defBody st = [.Expr (.Call (.Attribute (.Name "ValueError" p1) "__init__" p2) [.Name "self" p3, .Name "word" p4] [] p5) p6, .Assign [.Attribute (.Name "self" p7) "word" p8] (.Name "word" p9) q1])
  (hv : (defScope st).names.lookup (Str.ofString "word") = some .local) (hvs : (defScope st).names.lookup (Str.ofString "self") = some .local) (hgl : (defScope st).names.lookup (Str.ofString "ValueError") = some .globalImplicit)
  (hme : MethEq (.Name "ValueError" p1) "__init__" p2 [.Name "self" p3, .Name "word" p4] p5) (mVE : mg "ValueError" = none) (vV : PySem.W.findCls K (.type "ValueError") (.type "type") "__init__" = some (.val (.builtin "ValueError.__init__"))) :
  FnO P w K mg base (KX P w) (k + 1) f fd ["self", "word"] (spInit K 1 [("word", .inl 0)]) := by
 refine fnO_of F Sc (fun vs H Q E ⟨a, C, ws, e, hl, _⟩ => by rw [e]; simp [hl]) fun cdv A outer s H vs Q E p hr hsp => ?_
 obtain ⟨a, C, ws, rfl, hl, T, hf, ha, hq⟩ := hsp
 obtain ⟨y, rfl⟩ : ∃ y, ws = [y] := by
  match ws, hl with
  | [y], _ => exact ⟨y, rfl⟩
 rw [hb]
 obtain ⟨pl, hc⟩ := hme (envOfC qual (defScope st) s.heap.objs.size f cdv)
 refine ⟨_, pss_cons (ps_expr (pe_veinit hgl mVE vV (pa_cons (pv 0 rfl (.inl hvs)) (pa_cons (pv 1 rfl (.inl hv)) pa_nil)) hc)) (pss_one (ps_ost (pv 0 rfl (.inl hvs)) (pv 1 rfl (.inl hv)))), ?_⟩
 exact ⟨.ref a, rfl, y, rfl, a, C, [y], rfl, by simp, T, ha, y, rfl, .ref a, rfl, a, C, rfl, T, hf _ mcS, .inl ⟨ha, fun dx n ne => hq dx n ne⟩⟩
theorem ok_init1 {qual f1 BN : Str} {W0 : Str} {jj : Nat} {mc : Value} {B g : Addr} {gd : FuncData} {kk : Nat} {st : Stmt} {f : Addr} {fd : FuncData} {k : Nat} {p1 p2 p3 p4 p5 p6 p7 p8 p9 q1 : Pos} (F : Fun K "__init__" qual st f fd) (Sc : FnScope ["self", f1] ["self", f1] (defScope st))
  (hb : defBody st = [.Expr (.Call (.Attribute (.Name BN p1) "__init__" p2) [.Name "self" p3, .Constant (.str W0) jj p4] [] p5) p6, .Assign [.Attribute (.Name "self" p7) f1 p8] (.Name f1 p9) q1])
  (hv : (defScope st).names.lookup f1 = some .local) (hvs : (defScope st).names.lookup (Str.ofString "self") = some .local) (hgl : (defScope st).names.lookup BN = some .globalImplicit) (hdB : (BN == ("__debug__" : Str)) = false)
  (h1 : (f1 == ("__debug__" : Str)) = false) (h2 : (f1 == ("__classdict__" : Str)) = false) (hfw : (f1 : Str) ≠ "word")
  (hme : MethEq (.Name BN p1) "__init__" p2 [.Name "self" p3, .Constant (.str W0) jj p4] p5) (gB : mg BN = some (.ref B)) (c : CFn K B mc "__init__" g) (FB : FnO P w K mg base (KX P w) kk g gd ["self", "word"] (spInit K 1 [("word", .inl 0)])) (bB : Binds K gd ["self", "word"] []) (hk : kk ≤ k) :
  FnO P w K mg base (KX P w) (k + 1) f fd ["self", f1] (spInit K 1 [(f1, .inl 0), ("word", .inr W0)]) := by
 refine fnO_of F Sc (fun vs H Q E ⟨a, C, ws, e, hl, _⟩ => by rw [e]; simp [hl]) fun cdv A outer s H vs Q E p hr hsp => ?_
 obtain ⟨a, C, ws, rfl, hl, T, hf, ha, hq⟩ := hsp
 obtain ⟨y, rfl⟩ : ∃ y, ws = [y] := by
  match ws, hl with
  | [y], _ => exact ⟨y, rfl⟩
 rw [hb]
 obtain ⟨pl, hc⟩ := hme (envOfC qual (defScope st) s.heap.objs.size f cdv)
 refine ⟨_, pss_cons (ps_expr (pe_clsfn (takes_of rfl rfl rfl rfl) c FB (hr.mono hk) bB hgl gB (pa_cons (pv 0 rfl (.inl hvs)) (pa_cons pe_str pa_nil)) hc hdB)) (pss_one (ps_ost (pv 0 rfl (.inl hvs)) (pv 1 rfl (.inl hv) h1 h2))), ?_⟩
 refine ⟨.ref a, rfl, a, C, [.str W0], rfl, rfl, T, fun p hp => ?_, ha, fun dx n ne => ⟨y, rfl, .ref a, rfl, a, C, rfl, T, hf _ mcS, .inr ⟨dx, _, upd_same, by rw [upd_ne ne, upd_same], by simp [ftV], ?_⟩⟩⟩
 · rw [msG.mp hp]
   exact hf ("word", .inr W0) (mcM _ mcS)
 · have := hq dx n ne
   rw [upd_swap ne.symm, upd_upd]
   exact this
theorem ok_init0 {qual BN : Str} {W0 : Str} {jj : Nat} {mc : Value} {B g : Addr} {gd : FuncData} {kk : Nat} {st : Stmt} {f : Addr} {fd : FuncData} {k : Nat} {p1 p2 p3 p4 p5 p6 : Pos} (F : Fun K "__init__" qual st f fd) (Sc : FnScope ["self"] ["self"] (defScope st))
  (hb : defBody st = [.Expr (.Call (.Attribute (.Name BN p1) "__init__" p2) [.Name "self" p3, .Constant (.str W0) jj p4] [] p5) p6])
  (hvs : (defScope st).names.lookup (Str.ofString "self") = some .local) (hgl : (defScope st).names.lookup BN = some .globalImplicit) (hdB : (BN == ("__debug__" : Str)) = false)
  (hme : MethEq (.Name BN p1) "__init__" p2 [.Name "self" p3, .Constant (.str W0) jj p4] p5) (gB : mg BN = some (.ref B)) (c : CFn K B mc "__init__" g) (FB : FnO P w K mg base (KX P w) kk g gd ["self", "word"] (spInit K 1 [("word", .inl 0)])) (bB : Binds K gd ["self", "word"] []) (hk : kk ≤ k) :
  FnO P w K mg base (KX P w) (k + 1) f fd ["self"] (spInit K 0 [("word", .inr W0)]) := by
 refine fnO_of F Sc (fun vs H Q E ⟨a, C, ws, e, hl, _⟩ => by rw [e]; simp [hl]) fun cdv A outer s H vs Q E p hr hsp => ?_
 obtain ⟨a, C, ws, rfl, hl, T, hf, ha, hq⟩ := hsp
 obtain rfl : ws = [] := List.eq_nil_of_length_eq_zero hl
 rw [hb]
 obtain ⟨pl, hc⟩ := hme (envOfC qual (defScope st) s.heap.objs.size f cdv)
 refine ⟨_, pss_one (ps_expr (pe_clsfn (takes_of rfl rfl rfl rfl) c FB (hr.mono hk) bB hgl gB (pa_cons (pv 0 rfl (.inl hvs)) (pa_cons pe_str pa_nil)) hc hdB)), ?_⟩
 refine ⟨.ref a, rfl, a, C, [.str W0], rfl, rfl, T, fun p hp => ?_, ha, fun dx n ne => hq dx n ne⟩
 rw [msG.mp hp]
 exact hf ("word", .inr W0) mcS
end
structure XMk (P : Program) (w : World) (K : PySem.W.Frag) (mg : Str → Option Value) (base : Heap) (x : Str) (k n : Nat) (F : FT) (C : Addr) : Prop where
 T : OexC K C
 nf : ∀ p ∈ F, PySem.W.findIn K (.ref C) p.1 = some none
 gm : mg x = some (.ref C)
 xf : XfC K C
 ini : ∃ (fI : Addr) (fd : FuncData) (qs : List Str), FnO P w K mg base (KX P w) k fI fd qs (spInit K n F) ∧ PySem.W.findIn K (.ref C) "__init__" = some (some (.ref fI)) ∧ PySem.W.typeIn K (.ref fI) = some (.type "function") ∧ L2.Binds K fd qs []
theorem made_eq {H : Hp} {a dx : Addr} {o u v z : HO} (na : H a = none) (hd : dx ≠ a) : upd (del (upd (upd (upd H a o) dx u) a v) a) dx z = upd H dx z := by
 funext c
 by_cases h1 : c = dx
 · rw [h1, upd_same, upd_same]
 · rw [upd_ne h1, upd_ne h1]
   by_cases h2 : c = a
   · rw [h2, del_same, na]
   · rw [del_ne h2, upd_ne h2, upd_ne h1, upd_ne h2]
section
variable {X : Cx}
theorem post_made {H : Hp} {a C : Addr} {n : Nat} {F : FT} {ws : List V} {Q : XK} {E : XK} (T : OexC X.K C) (nf : ∀ p ∈ F, PySem.W.findIn X.K (.ref C) p.1 = some none) (hl : ws.length = n) (na : H a = none) (q : ∀ d, H d = none → Q (.ref C) (some d) (upd H d (.xd (ftV F ws)))) :
  spInit X.K n F (.ref a :: ws) (upd H a (exo a C none)) (fun v H2 => v = .non ∧ ∃ (d : Addr) (fs : List (Str × V)), H2 a = some (exo a C (some d)) ∧ H2 d = some (exd d fs) ∧ H d = none ∧ Q (.ref C) (some d) (upd (del H2 a) d (.xd fs))) E := by
 refine ⟨a, C, ws, rfl, hl, T, nf, upd_same, fun dx n ne => ⟨rfl, dx, _, upd_same, by rw [upd_ne ne, upd_same], ?_, ?_⟩⟩
 · rwa [upd_ne ne] at n
 · rw [made_eq na ne]
   exact q dx (by rwa [upd_ne ne] at n)
def tMkX (F : FT) (n : Nat) (C : Addr) (ta : TA) : L2.St → Hp → XK → Prop := fun σ H Q => ta σ H fun vs H1 => vs.length = n ∧ ∀ d, H1 d = none → Q (.ref C) (some d) (upd H1 d (.xd (ftV F vs)))
theorem mk_runV {W : WX} {C fI : Addr} {k n : Nat} {fd : FuncData} {qs : List Str} {F : FT} {pins : List (Addr × Obj)} {σ : L2.St} {H1 : Hp} {s1 : Shared} {us : List Value} {vs : List V} {Q : XK} (tk : Takes X W) (T : OexC X.K C) (nf : ∀ p ∈ F, PySem.W.findIn X.K (.ref C) p.1 = some none) (iC : PySem.W.findIn X.K (.ref C) "__init__" = some (some (.ref fI)))
  (tI : PySem.W.typeIn X.K (.ref fI) = some (.type "function")) (F1 : FnO X.prog X.w X.K X.mg X.base (KX X.prog X.w) k fI fd qs (spInit X.K n F)) (hr : L2H.RoomH (k + 1) X.A) (hb : L2.Binds X.K fd qs []) (I1 : Inv X pins σ H1 s1) (r1 : Vals vs us) (hn : n ≤ 1000) (hl : vs.length = n)
  (q : ∀ d, H1 d = none → Q (.ref C) (some d) (upd H1 d (.xd (ftV F vs)))) : wpAny (model X.prog X.w) X.A (call (.ref C) us) (fun u s' => MkP X pins σ Q u s' ∧ Six u s') X.xe s1 := by
 obtain ⟨nm, q0, ns0, b0, bm, s1', s2, a1, c1, d1, z0, z1, z2, z3, z5, hC, hbm⟩ := T.cls
 obtain ⟨hp, gs, dr, tn, os⟩ := s1
 have big : hp.objs.size ≤ hp.objs.size + 1 := Nat.le_succ _
 have old : ∀ b o, hp.get? b = some o → ((hp.push (PySem.W.kdv_tup us)).push (PySem.HandSPX.excO C hp.objs.size)).get? b = some o := fun b o e =>
  Heap.get?_push_of_some _ (Heap.get?_push_of_some _ e)
 have new : ((hp.push (PySem.W.kdv_tup us)).push (PySem.HandSPX.excO C hp.objs.size)).get? (hp.objs.size + 1) = some (PySem.HandSPX.excO C hp.objs.size) := by
  heap_get
 have I2 := I1.laid (t' := tn) (a := hp.objs.size + 1) (o := exo (hp.objs.size + 1) C none) (h' := (hp.push (PySem.W.kdv_tup us)).push (PySem.HandSPX.excO C hp.objs.size)) old big (exo_ok new)
 have hq := post_made (E := fun _ _ _ => False) T nf hl (I1.hok.fresh big) q
 have r2 : Vals (V.ref (hp.objs.size + 1) :: vs) (Value.ref (hp.objs.size + 1) :: us) := .cons rfl r1
 have hlen : (Value.ref (hp.objs.size + 1) :: us).length = qs.length := by
  have e := r2.length
  rw [F1.len _ _ _ _ hq] at e
  exact e.symm
 have hus : us.length ≤ sizeLine := by
  rw [← Paired.length r1, sizeLine_eq]
  omega
 refine wpAny_call (PySem.HandSPX.call_own PySem.F.excBase_ValueError (fun Y => PySem.HandSPX.refsVE_contains Y bm hbm) (I1.kIn _ _ hC) (PySem.W.looks_findIn I1.kIn iC) (fun self => PySem.W.bind_fn I1.kIn self tI) hus ?_)
 have run := F1.run _ X.stack _ _ ⟨Value.ref (hp.objs.size + 1) :: us, []⟩ (Value.ref (hp.objs.size + 1) :: us) _ _ (fun _ _ _ => False) (hr.make C us []) (I2.env0.make C us []) (by
  have := hb ⟨(hp.push (PySem.W.kdv_tup us)).push (PySem.HandSPX.excO C hp.objs.size), gs, dr, tn, os⟩ (Value.ref (hp.objs.size + 1) :: us) I2.kIn (by rw [apQ]; exact hlen)
  rw [apQ] at this
  exact this) r2 hq
 refine codeAny_mono run fun r s' hq' => ?_
 cases r with
 | error er => exact passesF tk pins σ _ _ er s' I2 hq'
 | ok fl =>
   cases fl with
   | ret u =>
     obtain ⟨v, H2, os2, bare2, un2, hok2, rv, ev, d, fs, ea, ed, hd1, q2⟩ := hq'
     cases ev
     obtain ⟨h2, g2, e2, t2, os'⟩ := s'
     exact ⟨rv, mk_end (raises_own T.exC T.tyC) I1 big old un2 hok2 os2 bare2 ea ed hd1 q2⟩
   | next => cases hq'
   | brk => cases hq'
   | cont => cases hq'
theorem pmk_x0 {W : WX} {x : Str} {k j : Nat} {F : FT} {C : Addr} {p pos : Pos} (tk : Takes X W) (M : XMk X.prog X.w X.K X.mg X.base x k 0 F C) (hr : L2H.RoomH j X.A) (hj : k + 1 ≤ j) (hg : Gl X x) (hdb : (x == ("__debug__" : Str)) = false) :
  PMk6 X (.Call (.Name x p) [] [] pos) (fun _ H Q => ∀ d, H d = none → Q (.ref C) (some d) (upd H d (.xd (ftV F [])))) := by
 obtain ⟨fI, fd, qs, F1, iC, tI, hb⟩ := M.ini
 intro pins s σ H Q I q
 refine wpAny_Call_Name_kw (ld_glob I hg M.gm ?_ hdb)
 refine PySem.W.callWith_K0 (first := []) I.kIn M.T.kC ?_
 exact mk_runV tk M.T M.nf iC tI F1 (hr.mono hj) hb I .nil (by decide) rfl q
theorem pmk_x {W : WX} {x : Str} {k n j : Nat} {F : FT} {C : Addr} {e : Expr} {es : List Expr} {ta : TA} {p pos : Pos} (tk : Takes X W) (M : XMk X.prog X.w X.K X.mg X.base x k n F C) (hn : n ≤ 1000) (hr : L2H.RoomH j X.A) (hj : k + 1 ≤ j) (hg : Gl X x) (ha : PA X (e :: es) ta)
  (hdb : (x == ("__debug__" : Str)) = false) (he : starEach (e :: es) X.env = (false, eval e X.env) :: starEach es X.env) (hpl : (backTo pos (starEach es X.env)).any (·.1) = false) :
  PMk6 X (.Call (.Name x p) (e :: es) [] pos) (tMkX F n C ta) := by
 obtain ⟨fI, fd, qs, F1, iC, tI, hb⟩ := M.ini
 intro pins s σ H Q I h
 refine wpAny_Call_Name_kw (ld_glob I hg M.gm ?_ hdb)
 refine PySem.W.callWith_K (h₀ := X.base) I.ok.mod.kin M.T.kC (thn (ha.run pos pins s σ H _ I h) fun us s1 ⟨vs, H1, I1, r1, hz, q1⟩ => ⟨I1.kIn, ?_⟩) he hpl
 exact mk_runV tk M.T M.nf iC tI F1 (hr.mono hj) hb I1 r1 hn hz q1
end
section
variable {X : Cx} {E : ExP} {Γ : Env'} {O : Own} {De : EndsD}
theorem AbsH.xdNew {K : PySem.W.Frag} {H Hd : Hp} {O : Own} {d : Addr} {fs : List (Str × V)} (h : AbsH K H Hd O) (n : H d = none) : AbsH K (upd H d (.xd fs)) Hd O := h.aside n
theorem ws_raise {x : Str} {k n j : Nat} {F : FT} {C : Addr} {a : Expr} {es : List Expr} {p cp pos : Pos} (M : XMk X.prog X.w X.K X.mg X.base x k n F C) (hr : Room j X.A) (hj : k + 1 ≤ j) (hc : X.calm = true)
  (h : WA X E (a :: es) Γ O fun ds O' => ds.length = n ∧ E ⟨.ref C, ftD F ds⟩ Γ O') (hn : n ≤ 1000 := by decide) (hg : Gl X x := by rfl) (hdb : (x == ("__debug__" : Str)) = false := by decide)
  (he : starEach (a :: es) X.env = (false, eval a X.env) :: starEach es X.env := by rfl) (hpl : (backTo cp (starEach es X.env)).any (·.1) = false := by rfl) :
  WS X E (.Raise (some (.Call (.Name x p) (a :: es) [] cp)) none pos) Γ O De := .mk fun W σ H Hd q =>
 wS_of (ps_raise hc q.tk (PMk6.pmk (pmk_x q.tk M hn (L2H.roomH_of hr) hj hg (ta := wA X (a :: es)) paW hdb he hpl))) (h.use q fun vs H1 ds O1 Hd1 s1 p1 r1 ⟨hl, e⟩ => ⟨by rw [r1.length]; exact hl, fun d nd =>
  p1.ex _ _ σ _ Hd1 _ Γ O1 (Same.refl _) p1.g (p1.h.xdNew nd) ⟨rfl, C, d, rfl, rfl, _, upd_same, ft_rep r1 F⟩ e⟩)
theorem ws_raise0 {x : Str} {k j : Nat} {F : FT} {C : Addr} {p cp pos : Pos} (M : XMk X.prog X.w X.K X.mg X.base x k 0 F C) (hr : Room j X.A) (hj : k + 1 ≤ j) (hc : X.calm = true)
  (h : E ⟨.ref C, ftD F []⟩ Γ O) (hg : Gl X x := by rfl) (hdb : (x == ("__debug__" : Str)) = false := by decide) :
  WS X E (.Raise (some (.Call (.Name x p) [] [] cp)) none pos) Γ O De := .mk fun W σ H Hd q =>
 wS_of (ps_raise hc q.tk (PMk6.pmk (pmk_x0 q.tk M (L2H.roomH_of hr) hj hg hdb))) fun d nd => q.ex _ _ σ _ Hd _ Γ O (Same.refl _) q.g (q.h.xdNew nd) ⟨rfl, C, d, rfl, rfl, _, upd_same, ft_rep (K := X.K) (H := Hd) .nil F⟩ h
end
section
variable {X : Cx} {E : ExP} {Γ : Env'} {O : Own} {De : EndsD}
theorem AbsH.adopt {K : PySem.W.Frag} {H Hd : Hp} {O : Own} {p : Addr} {fs : List (Str × V)} (h : AbsH K H Hd O) (e : H p = some (.xd fs)) : ∃ Hd', Same Hd Hd' ∧ AbsH K H Hd' O ∧ Hd' p = some (.xd fs) := by
 refine ⟨upd Hd p (.xd fs), fun b x q => ?_, ⟨fun b x q => ?_, fun a c q => ?_⟩, upd_same⟩
 · by_cases hb : b = p
   · subst hb
     have := h.same _ _ q
     rw [this] at e
     cases e
     exact upd_same
   · rw [upd_ne hb]; exact q
 · by_cases hb : b = p
   · subst hb; rw [upd_same] at q; cases q; exact e
   · rw [upd_ne hb] at q; exact h.same _ _ q
 · obtain ⟨h1, h2⟩ := h.own a c q
   have ne : a ≠ p := fun z => by
    subst z
    cases c with
    | lst ds => obtain ⟨_, g, _⟩ := h2; rw [g] at e; cases e
    | any P => obtain ⟨_, _, _, g, _⟩ := h2; rw [g] at e; cases e
    | ins C fs => obtain ⟨_, _, g, _⟩ := h2; rw [g] at e; cases e
    | tab q => obtain ⟨_, g, _⟩ := h2; rw [g] at e; cases e
    | dt w kvs => obtain ⟨_, _, _, g, _⟩ := h2; rw [g] at e; cases e
    | dk P w kvs => obtain ⟨_, _, _, g, _⟩ := h2; rw [g] at e; cases e
    | ex pr => rw [show H a = _ from h2] at e; cases e
   refine ⟨by rw [upd_ne ne]; exact h1, h2.mono rfl fun b x q => ?_⟩
   by_cases hb : b = p
   · subst hb
     have := h.same _ _ q
     rw [this] at e
     cases e
     exact upd_same
   · rw [upd_ne hb]; exact q
abbrev ClD := List Value × Option Nat × List Stmt
def setX (io : Option Nat) (Γ : Env') (d : D) : Env' := match io with
 | none => Γ
 | some i => Γ.set i (some d)
def unsetX (io : Option Nat) (Γ : Env') : Env' := match io with
 | none => Γ
 | some i => Γ.set i none
def clX (X : Cx) (E : ExP) (De : EndsD) : List ClD → ExP
 | [] => E
 | (cs, io, sts) :: r => fun e Γ O => ∃ b, PySem.W.exmAny X.K e.cls cs = some b ∧ (b = true → ∀ (a C dd : Addr) (oe : Obj) (pn : List (Addr × Obj)) (xe : Value → Shared → Prop), e.cls = .ref C → Zc (.ref C) (some dd) oe → (∃ vs, oe.data = .fields vs) → HotK (hotCx X a ((a, oe) :: pn) xe) a (.ref C) →
  WSs (hotCx X a ((a, oe) :: pn) xe) (fun e' Γ' O' => E e' (unsetX io Γ') O') sts (setX io Γ (.xc a C dd e.fs)) O { nx := fun Γ' O' => De.nx (unsetX io Γ') O', rt := De.rt, bk := fun Γ' O' => De.bk (unsetX io Γ') O', ct := fun Γ' O' => De.ct (unsetX io Γ') O' }) ∧ (b = false → clX X E De r e Γ O)
def clE (X : Cx) (E : ExP) (De : EndsD) : List ClD → ExP
 | [] => E
 | (cs, io, sts) :: r => fun e Γ O => ∃ b, PySem.W.exmAny X.K e.cls cs = some b ∧ (b = true → ∀ (a C dd : Addr) (oe : Obj) (pn : List (Addr × Obj)), e.cls = .ref C → Zc (.ref C) (some dd) oe → (∃ vs, oe.data = .fields vs) →
  WSs (X.suite a ((a, oe) :: pn)) noEx sts (setX io Γ (.xc a C dd e.fs)) O { nx := fun Γ' O' => De.nx (unsetX io Γ') O', rt := De.rt, bk := fun Γ' O' => De.bk (unsetX io Γ') O', ct := fun Γ' O' => De.ct (unsetX io Γ') O' }) ∧ (b = false → clE X E De r e Γ O)
theorem WSs.ofCalm {a : Addr} {pn : List (Addr × Obj)} {xe : Value → Shared → Prop} {sts : List Stmt} {E1 : ExP} (h : WSs (X.suite a pn) noEx sts Γ O De) : WSs (hotCx X a pn xe) E1 sts Γ O De := .mk fun W σ H Hd q pins s I => by
 have J : Inv (X.suite a pn) pins σ H s := Inv.wish (X := hotCx X a pn xe) I (fun _ _ => False)
 refine wpAny_mono (h.run (fun _ _ _ _ => False) σ H Hd ⟨takes_none5, q.g, q.h, fun _ _ _ _ _ _ _ _ _ _ _ _ z => z⟩ pins s J) (fun f s1 z => ?_) fun _ _ z => z.elim
 exact SP.unwish (X := hotCx X a pn xe) (E := fun _ _ => False) z
theorem clE_X : ∀ {l : List ClD} {e : Ex} {Γ : Env'} {O : Own}, clE X E De l e Γ O → clX X E De l e Γ O
 | [], _, _, _, h => h
 | (cs, io, sts) :: r, e, Γ, O, ⟨b, h1, h2, h3⟩ => ⟨b, h1, fun hb a C dd oe pn xe e1 e2 e3 _ => (h2 hb a C dd oe pn e1 e2 e3).ofCalm, fun hb => clE_X (h3 hb)⟩
def suTS (X : Cx) (Wout : WX) (io : Option Nat) (sts : List Stmt) : Addr → Value → Option Addr → TS := fun a cls d De σ H => ∀ (oe : Obj) (pn : List (Addr × Obj)) (xe : Value → Shared → Prop), Zc cls d oe → (∃ vs, oe.data = .fields vs) → Takes (hotCx X a ((a, oe) :: pn) xe) (backW io Wout) → HotK (hotCx X a ((a, oe) :: pn) xe) a cls →
 wSs (hotCx X a ((a, oe) :: pn) xe) sts De σ H
theorem su_ok {Wout : WX} {io : Option Nat} {sts : List Stmt} : SuOk X Wout io sts (suTS X Wout io sts) := fun a oe cls d pn xe hz hf tk hk => ⟨fun pins s σ H De I h => h oe pn xe hz hf tk hk pins s I⟩
inductive HdD (X : Cx) : List ExceptHandler → List ClD → Prop
 | nil : HdD X [] []
 | plain {t : Expr} {cs : List Value} {b₀ : Stmt} {suite : List Stmt} {pos' : Pos} {hds : List ExceptHandler} {l : List ClD} (hc : TstOk X t cs) (r : HdD X hds l) : HdD X (.ExceptHandler (some t) none (b₀ :: suite) pos' :: hds) ((cs, none, b₀ :: suite) :: l)
 | named {t : Expr} {cs : List Value} {n : Str} {i : Nat} {b₀ : Stmt} {suite : List Stmt} {pos' : Pos} {hds : List ExceptHandler} {l : List ClD} (hc : TstOk X t cs) (hi : X.N[i]? = some n) (hln : X.env.kindOf n = some .local) (r : HdD X hds l) :
  HdD X (.ExceptHandler (some t) (some n) (b₀ :: suite) pos' :: hds) ((cs, some i, b₀ :: suite) :: l)
def clH (X : Cx) (Wout : WX) : List ClD → List Clause := List.map fun p => (p.1, p.2.1, suTS X Wout p.2.1 p.2.2)
theorem HdD.hdG {Wout : WX} : ∀ {hds : List ExceptHandler} {l : List ClD}, HdD X hds l → HdG X Wout hds (clH X Wout l)
 | _, _, .nil => .nil
 | _, _, .plain hc r => .plain hc su_ok (HdD.hdG r)
 | _, _, .named hc hi hln r => .named hc hi hln su_ok (HdD.hdG r)
theorem cl_run {W : WX} {Hd : Hp} (ex : ∀ (cls : Value) (d : Option Addr) (σ' : L2.St) (H' Hd' : Hp) (e : Ex) (Γ' : Env') (O' : Own), Same Hd Hd' → AbsG X.K Hd' σ' Γ' → AbsH X.K H' Hd' O' → ERep X.K H' Hd' cls d e → E e Γ' O' → W cls d σ' H') :
  ∀ (l : List ClD) (cls : Value) (d : Option Addr) (σ' : L2.St) (H' Hd' : Hp) (e : Ex) (Γ' : Env') (O' : Own), Same Hd Hd' → AbsG X.K Hd' σ' Γ' → AbsH X.K H' Hd' O' → ERep X.K H' Hd' cls d e → clX X E De l e Γ' O' → wCl X.K W (ends X.K Hd De) (clH X W l) cls d σ' H'
 | [], cls, d, σ', H', Hd', e, Γ', O', s, g, a, r, q => ex cls d σ' H' Hd' e Γ' O' s g a r q
 | (cs, io, sts) :: l, cls, d, σ', H', Hd', e, Γ', O', s, g, h, r, q => by
   obtain ⟨b, e1, yes, no⟩ := q
   obtain ⟨e2, C, dx, e3, e4, vs, hx, rf⟩ := id r
   refine ⟨b, by rw [e2]; exact e1, fun hb a na oe pn xe hz hf tk hk => ?_, fun hb => cl_run ex l cls d σ' H' Hd' e Γ' O' s g h r (no hb)⟩
   rw [e2, e3, e4] at hz
   rw [e2, e3] at hk
   obtain ⟨Hd2, s2, h2, hd2⟩ := h.adopt hx
   have rx : Rep X.K Hd2 (.ref a) (.xc a C dx e.fs) := .xc hd2 (rf.mono s2)
   have gx : AbsG X.K Hd2 (asSt io a σ') (setX io Γ' (.xc a C dx e.fs)) := by
    cases io with
    | none => exact g.mono s2
    | some i => exact (g.mono s2).set rx
   have ss := s.trans s2
   have exS : ∀ (cls : Value) (d : Option Addr) (σ' : L2.St) (H' Hd' : Hp) (e : Ex) (Γ' : Env') (O' : Own), Same Hd2 Hd' → AbsG X.K Hd' σ' Γ' → AbsH X.K H' Hd' O' → ERep X.K H' Hd' cls d e → E e (unsetX io Γ') O' → backW io W cls d σ' H' := by
    intro cls d σ5 H5 Hd5 e5 Γ5 O5 s5 g5 a5 r5 q5
    cases io with
    | none => exact ex cls d σ5 H5 Hd5 e5 Γ5 O5 (ss.trans s5) g5 a5 r5 q5
    | some i => exact ex cls d _ H5 Hd5 e5 _ O5 (ss.trans s5) g5.setNone a5 r5 q5
   refine wSs_mono ((yes hb a C dx oe pn xe e3 hz hf hk).run (backW io W) (asSt io a σ') H' Hd2 ⟨tk, gx, h2, exS⟩) ?_
   cases io with
   | none => exact ends_lift ss
   | some i =>
     exact ⟨fun σ5 H5 ⟨Γ5, O5, Hd5, s5, g5, a5, q5⟩ => ⟨Γ5.set i none, O5, Hd5, ss.trans s5, g5.setNone, a5, q5⟩, fun v5 H5 z => z.lift ss,
      fun σ5 H5 ⟨Γ5, O5, Hd5, s5, g5, a5, q5⟩ => ⟨Γ5.set i none, O5, Hd5, ss.trans s5, g5.setNone, a5, q5⟩, fun σ5 H5 ⟨Γ5, O5, Hd5, s5, g5, a5, q5⟩ => ⟨Γ5.set i none, O5, Hd5, ss.trans s5, g5.setNone, a5, q5⟩⟩
theorem ws_tryX {body : List Stmt} {h₀ : ExceptHandler} {hds : List ExceptHandler} {l : List ClD} {pos : Pos} (hs : X.stack = X.env :: X.outer) (hf : X.env.frame = some X.env.locals) (hN : X.N.Nodup) (hh : HdD X (h₀ :: hds) l)
  (h : ∀ pn xe, PassesOwn (model X.prog X.w) X.A X.env xe → WSs (X.tr pn xe) (clX X E De l) body Γ O De) (hex : X.ex = [] := by rfl) : WS X E (.Try body (h₀ :: hds) [] [] pos) Γ O De := .mk fun W σ H Hd q =>
 wS_of (ps_try_g (tb := fun W' De σ H => ∀ pn xe, Takes (X.tr pn xe) W' → PassesOwn (model X.prog X.w) X.A X.env xe → wSs (X.tr pn xe) body De σ H) hs hf hex hN q.tk (fun W' pn xe tk ho => ⟨fun pins s σ H De I h => h pn xe tk ho pins s I⟩) hh.hdG)
  fun pn xe tk ho => (h pn xe ho).run _ σ H Hd ⟨tk, q.g, q.h, cl_run q.ex l⟩
theorem WSs.exMono {st : List Stmt} {E E' : ExP} (h : WSs X E st Γ O De) (k : ∀ e Γ' O', E e Γ' O' → E' e Γ' O') : WSs X E' st Γ O De := .mk fun W σ H Hd q => h.run W σ H Hd ⟨q.tk, q.g, q.h, fun cls d σ' H' Hd' e Γ' O' s g a r z => q.ex cls d σ' H' Hd' e Γ' O' s g a r (k e Γ' O' z)⟩
theorem ws_try {body : List Stmt} {h₀ : ExceptHandler} {hds : List ExceptHandler} {l : List ClD} {pos : Pos} (hs : X.stack = X.env :: X.outer) (hf : X.env.frame = some X.env.locals) (hN : X.N.Nodup) (hh : HdD X (h₀ :: hds) l)
  (h : ∀ pn xe, PassesOwn (model X.prog X.w) X.A X.env xe → WSs (X.tr pn xe) (clE X E De l) body Γ O De) (hex : X.ex = [] := by rfl) : WS X E (.Try body (h₀ :: hds) [] [] pos) Γ O De :=
 ws_tryX hs hf hN hh (fun pn xe ho => (h pn xe ho).exMono fun _ _ _ z => clE_X z) hex
theorem lookD {K : PySem.W.Frag} {H : Hp} {f : Str} : ∀ {fs : List (Str × V)} {ds : List (Str × D)} {d : D}, RepF K H fs ds → ds.lookup f = some d → ∃ v, fs.lookup f = some v ∧ Rep K H v d
 | _, _, d, .nil, h => by cases h
 | _, _, d, .cons (f := g) (v := v) (d := d') r t, h => by
   by_cases hg : f = g
   · subst hg
     simp only [List.lookup, beq_self_eq_true] at h ⊢
     cases h
     exact ⟨v, rfl, r⟩
   · have e : (f == g) = false := by simpa using hg
     simp only [List.lookup, e] at h ⊢
     exact lookD t h
theorem w_xf {a C : Addr} {oe : Obj} {dd : Addr} {pn : List (Addr × Obj)} {fs : List (Str × D)} {e : Expr} {n : Str} {d : D} {pos : Pos} {Q : PD} (T : XfC X.K C) (hno : PySem.W.findIn X.K (.ref C) n = some none) (hz : Zc (.ref C) (some dd) oe) (hf : ∃ vs, oe.data = .fields vs) (hl : fs.lookup n = some d)
  (h : WE (X.suite a ((a, oe) :: pn)) E e Γ O fun x O' => x = .xc a C dd fs ∧ Q d O') (hb : attributeBase e n X.env (eval e X.env) = eval e X.env := by rfl) : WE (X.suite a ((a, oe) :: pn)) E (.Attribute e n pos) Γ O Q := .mk fun W σ H Hd q =>
 wE_of (pe_xf T hno hz hf peW hb) (h.use q fun v H1 x O1 Hd1 s1 p1 r1 ⟨e1, q1⟩ => by
  subst e1
  cases r1 with
  | xc g rf =>
    obtain ⟨v, h1, h2⟩ := lookD rf hl
    exact ⟨rfl, rfl, dd, _, v, rfl, p1.h.same _ _ g, h1, .lift s1 (.of p1.h h2 q1)⟩)
end
section
variable {K : PySem.W.Frag} {S C : Addr} {b d : Bool} {cls c : Value} {r : List Value}
theorem exm_pair (h1 : PySem.W.subIn K (.ref C) (.type "BaseException") = some true) (h2 : PySem.W.isClsIn K C = true) (h3 : PySem.W.typeIn K (.ref C) = some (.type "type")) (h4 : PySem.W.subIn K (.ref S) (.ref C) = some b) : PySem.W.exmOne K (.ref S) (.ref C) = some b := by
 have g1 : (PySem.W.subIn K (.ref C) (.type "BaseException") == some true) = true := by
  rw [h1]
  rfl
 have g2 : ((PySem.W.clsIn K C).isSome && PySem.W.typeIn K (.ref C) == some (.type "type")) = true := by
  have k : (PySem.W.clsIn K C).isSome = true := h2
  rw [k, h3]
  rfl
 refine (if_pos g1).trans ?_
 exact (if_pos g2).trans h4
theorem exm_cons (h : PySem.W.exmOne K cls c = some b) (t : PySem.W.exmAny K cls r = some d) : PySem.W.exmAny K cls (c :: r) = some (b || d) := by
 unfold PySem.W.exmAny
 rw [h, t]
end
end RW
namespace RW
open PySem PySem.Spec PyProof.Rows L2
end RW
namespace RW
open PySem PySem.Spec PyProof.Rows L2
open Sem (wp)
open AutoSeq1 (wpAny_loadPart')
end RW
namespace RW
open PySem PySem.Spec PyProof.Rows L2
end RW
namespace RW
open PySem PySem.Spec PyProof.Rows L2
end RW
namespace RW
open PySem PySem.Spec PyProof.Rows L2
section
variable {X : Cx} {pins : List (Addr × Obj)} {σ : L2.St} {H : Hp} {s : Shared}
structure LamSD (N : List Str) (sc scope : Scope) (a : Str) : Prop where
 kind : scope.kind = .function
 co : scope.isCoroutine = false
 gen : scope.isGenerator = false
 own : ∀ y ∈ scope.names, y.2 ≠ .cell ∧ (y.2 = .local → y.1 ∉ N)
 par : scope.names.lookup a = some .local
 free : ∀ y ∈ scope.names, y.2 = .free → sc.names.lookup y.1 = some .cell ∨ sc.names.lookup y.1 = some .free
theorem LamSD.has {X : Cx} {N : List Str} {scope : Scope} {a : Str} (L : LamSD N X.env.scope scope a) (ok : X.Ok) : ∀ y ∈ scope.names, y.2 = .free → ∃ c, X.env.cells.lookup y.1 = some c := fun y hy e => by
 rcases L.free y hy e with k | k
 · exact ok.has _ (.inl k)
 · exact ok.has _ (.inr k)
end
end RW
namespace RW
open PySem PySem.Spec PyProof.Rows L2
end RW
namespace RW
open PySem PySem.Spec PyProof.Rows L2
section
variable {X : Cx} {pins : List (Addr × Obj)} {σ : L2.St} {H : Hp} {s : Shared}
mutual
theorem nested_of (I : Inv X pins σ H s) : ∀ (k : NestedKey) (v : V) (u : Value), Rep X.K H v (keyD k) → RelV v u → NestedIs s.heap k u
 | .none, v, u, h, r => by
   have h : Rep X.K H v .non := h
   cases h
   obtain rfl : u = .none := r
   exact .none
 | .num i, v, u, h, r => by
   have h : Rep X.K H v (.int i) := h
   cases h
   obtain ⟨t, rfl⟩ : ∃ t, u = .int i t := r
   exact .int i t
 | .text x, v, u, h, r => by
   have h : Rep X.K H v (.str x) := h
   cases h
   obtain ⟨t, rfl⟩ : ∃ t, u = .str x t := r
   exact .text x t
 | .tup ks, v, u, h, r => by
   have h : Rep X.K H v (.tup (keyDs ks)) := h
   cases h with | tup g r2 =>
   obtain rfl : u = .ref _ := r
   obtain ⟨its, o, n, h1, h2, h3, h4, _⟩ := tupN_at I g
   exact .tup h2 h3 h4 (by simpa using nesteds_of I ks _ _ r2 h1)
theorem nesteds_of (I : Inv X pins σ H s) : ∀ (ks : List NestedKey) (vs : List V) (us : List Value), Reps X.K H vs (keyDs ks) → Vals vs us → NestedAll s.heap ks us
 | [], vs, us, h, r => by
   have h : Reps X.K H vs [] := h
   cases h
   cases r
   exact .nil
 | k :: ks, vs, us, h, r => by
   have h : Reps X.K H vs (keyD k :: keyDs ks) := h
   cases h with | cons h1 h2 =>
   cases r with | cons r1 r2 =>
   exact .cons (nested_of I k _ _ h1 r1) (nesteds_of I ks _ _ h2 r2)
end
structure DicAt (K : PySem.W.Frag) (H : Hp) (a : Addr) (o : Obj) (w : World) (xs : List (NestedKey × Addr × Value)) (ks : List NestedKey) (vs : List V) : Prop where
 ob : H a = some (DtO a o w xs)
 ok : DtOk a xs ks vs
 ka : Reps K H (xs.map fun x => V.ref x.2.1) (ks.map keyD)
theorem key_each {K : PySem.W.Frag} : ∀ {xs : List (NestedKey × Addr × Value)} {ks : List NestedKey}, xs.map (·.1) = ks → Reps K H (xs.map fun x => V.ref x.2.1) (ks.map keyD) → ∀ x ∈ xs, Rep K H (.ref x.2.1) (keyD x.1)
 | [], _, _, _, x, hx => by cases hx
 | y :: xs, ks, e, r, x, hx => by
   subst e
   cases r with | cons r1 r2 =>
   rcases mCq.mp hx with rfl | hx
   · exact r1
   · exact key_each rfl r2 x hx
theorem DicAt.dict (I : Inv X pins σ H s) {a : Addr} {o : Obj} {xs : List (NestedKey × Addr × Value)} {ks : List NestedKey} {vs : List V} (d : DicAt X.K H a o X.w xs ks vs) : s.heap.DictOfH (nestedKind X.prog X.w) a xs := by
 have x : ObjOk X.prog X.w H s.heap a (.ext fun h => h.get? a = some o ∧ o.ExactDict ∧ ∃ es ep, o.data = .dict es ep ∧ es.toList = xs.map fun x => ⟨x.1.hash X.w, .ref x.2.1, x.2.2⟩) := I.hok a _ d.ob
 obtain ⟨⟨h1, h2, es, ep, h3, h4⟩, _⟩ := x
 refine ⟨o, es, ep, h1, h2, h3, h4, fun x hx => ⟨nested_of I _ _ _ (key_each d.ok.keys d.ka x hx) rfl, d.ok.deep _ ?_⟩, d.ok.nd⟩
 rw [← d.ok.keys]
 exact List.mem_map_of_mem hx
section
variable {κ α : Type} [DecidableEq κ]
def valD (kvs : List (κ × α)) (k : κ) : Option α := (kvs.find? fun p => decide (p.1 = k)).map (·.2)
def putD (kvs : List (κ × α)) (k : κ) (d : α) : List (κ × α) := if (valD kvs k).isSome then kvs.map fun p => if p.1 = k then (p.1, d) else p else kvs ++ [(k, d)]
def dropD (kvs : List (κ × α)) (k : κ) : List (κ × α) := kvs.filter fun p => decide (p.1 ≠ k)
end
structure Rows3 (K : PySem.W.Frag) (H : Hp) (xs : List (NestedKey × Addr × Value)) (kvs : List (NestedKey × D)) (vs : List V) : Prop where
 keys : xs.map (·.1) = kvs.map (·.1)
 vals : Vals vs (xs.map (·.2.2))
 ka : Reps K H (xs.map fun x => V.ref x.2.1) (kvs.map fun p => keyD p.1)
 va : Reps K H vs (kvs.map (·.2))
theorem Rows3.find {K : PySem.W.Frag} (k : NestedKey) : ∀ {xs : List (NestedKey × Addr × Value)} {kvs : List (NestedKey × D)} {vs : List V}, Rows3 K H xs kvs vs →
  match valD kvs k with
  | none => atKey xs k = none
  | some d => ∃ v b u, atKey xs k = some (b, u) ∧ RelV v u ∧ Rep K H v d
 | [], [], _, _ => by simp [valD, atKey]
 | [], _ :: _, _, h => by have := h.keys; simp at this
 | _ :: _, [], _, h => by have := h.keys; simp at this
 | x :: xs, p :: kvs, vs, h => by
   obtain ⟨h1, h2, h3, h4⟩ := h
   simp only [List.map_cons] at h1 h2 h3 h4
   obtain ⟨e1, e2⟩ := List.cons.inj h1
   cases h4 with | cons r1 r2 =>
   cases h2 with | cons v1 v2 =>
   cases h3 with | cons _ k2 =>
   by_cases hk : p.1 = k
   · have : valD (p :: kvs) k = some p.2 := by simp [valD, hk]
     rw [this]
     exact ⟨_, x.2.1, x.2.2, by simp [atKey, e1, hk], v1, r1⟩
   · have a1 : valD (p :: kvs) k = valD kvs k := by simp [valD, hk]
     have a2 : atKey (x :: xs) k = atKey xs k := by simp [atKey, e1, hk]
     rw [a1, a2]
     exact Rows3.find k ⟨e2, v2, k2, r2⟩
theorem Rows3.some {K : PySem.W.Frag} {k : NestedKey} {xs : List (NestedKey × Addr × Value)} {kvs : List (NestedKey × D)} {vs : List V} (h : Rows3 K H xs kvs vs) : (atKey xs k).isSome = (valD kvs k).isSome := by
 have := h.find k
 cases e : valD kvs k with
 | none => rw [e] at this; rw [this]; rfl
 | some d => rw [e] at this; obtain ⟨_, _, _, z, _⟩ := this; rw [z]; rfl
theorem Rows3.repl {K : PySem.W.Frag} {k : NestedKey} {v : V} {u : Value} {d : D} (rv : RelV v u) (rd : Rep K H v d) : ∀ {xs : List (NestedKey × Addr × Value)} {kvs : List (NestedKey × D)} {vs : List V}, Rows3 K H xs kvs vs →
  ∃ vs', Rows3 K H (xs.map (putAt k u)) (kvs.map fun p => if p.1 = k then (p.1, d) else p) vs'
 | [], [], vs, h => ⟨vs, h⟩
 | [], _ :: _, _, h => by have := h.keys; simp at this
 | _ :: _, [], _, h => by have := h.keys; simp at this
 | x :: xs, p :: kvs, vs, h => by
   obtain ⟨h1, h2, h3, h4⟩ := h
   simp only [List.map_cons] at h1 h2 h3 h4
   obtain ⟨e1, e2⟩ := List.cons.inj h1
   cases h4 with | @cons v0 vs0 _ _ r1 r2 =>
   cases h2 with | cons v1 v2 =>
   cases h3 with | cons k1 k2 =>
   obtain ⟨vs', g1, g2, g3, g4⟩ := Rows3.repl rv rd ⟨e2, v2, k2, r2⟩
   by_cases hk : p.1 = k
   · have a1 : putAt k u x = (x.1, x.2.1, u) := by simp [putAt, e1, hk]
     refine ⟨v :: vs', ?_, ?_, ?_, ?_⟩
     · simp only [List.map_cons, a1, if_pos hk]
       rw [g1, e1]
     · simp only [List.map_cons, a1]
       exact .cons rv g2
     · simp only [List.map_cons, a1, if_pos hk]
       exact .cons k1 g3
     · simp only [List.map_cons, if_pos hk]
       exact .cons rd g4
   · have a1 : putAt k u x = x := by simp [putAt, e1, hk]
     refine ⟨v0 :: vs', ?_, ?_, ?_, ?_⟩
     · simp only [List.map_cons, a1, if_neg hk]
       rw [g1, e1]
     · simp only [List.map_cons, a1]
       exact .cons v1 g2
     · simp only [List.map_cons, a1, if_neg hk]
       exact .cons k1 g3
     · simp only [List.map_cons, if_neg hk]
       exact .cons r1 g4
theorem reps_snoc {K : PySem.W.Frag} {v : V} {d : D} (h : Rep K H v d) : ∀ {vs : List V} {ds : List D}, Reps K H vs ds → Reps K H (vs ++ [v]) (ds ++ [d])
 | _, _, .nil => .cons h .nil
 | _, _, .cons a b => .cons a (reps_snoc h b)
theorem vals_snoc {v : V} {u : Value} (h : RelV v u) : ∀ {vs : List V} {us : List Value}, Vals vs us → Vals (vs ++ [v]) (us ++ [u])
 | _, _, .nil => .cons h .nil
 | _, _, .cons a b => .cons a (vals_snoc h b)
theorem Rows3.put {K : PySem.W.Frag} {k : NestedKey} {b : Addr} {v : V} {u : Value} {d : D} {xs : List (NestedKey × Addr × Value)} {kvs : List (NestedKey × D)} {vs : List V} (h : Rows3 K H xs kvs vs) (hb : Rep K H (.ref b) (keyD k)) (rv : RelV v u) (rd : Rep K H v d) :
  ∃ vs', Rows3 K H (storedH xs k b u) (putD kvs k d) vs' := by
 unfold storedH putD
 rw [h.some]
 by_cases hs : (valD kvs k).isSome = true
 · rw [if_pos hs, if_pos hs]
   exact h.repl rv rd
 · rw [if_neg hs, if_neg hs]
   refine ⟨vs ++ [v], ?_, ?_, ?_, ?_⟩
   · rw [mpA, mpA, h.keys]; rfl
   · rw [mpA]; exact vals_snoc rv h.vals
   · rw [mpA, mpA]; exact reps_snoc hb h.ka
   · rw [mpA]; exact reps_snoc rd h.va
theorem Rows3.mono {K : PySem.W.Frag} {H H' : Hp} {xs : List (NestedKey × Addr × Value)} {kvs : List (NestedKey × D)} {vs : List V} (h : Rows3 K H xs kvs vs) (s : Same H H') : Rows3 K H' xs kvs vs := ⟨h.keys, h.vals, h.ka.mono s, h.va.mono s⟩
end
section
variable {X : Cx} {pins : List (Addr × Obj)} {σ : L2.St} {H G : Hp} {s : Shared}
def NAt (X : Cx) (H G : Hp) (a : Addr) (kvs : List (NestedKey × D)) : Prop := Same G H ∧ ∃ o xs vs, H a = some (DtO a o X.w xs) ∧ DtOk a xs (kvs.map (·.1)) vs ∧ Rows3 X.K G xs kvs vs
theorem NAt.dict (I : Inv X pins σ H s) {a : Addr} {kvs : List (NestedKey × D)} (h : NAt X H G a kvs) : ∃ o xs vs, H a = some (DtO a o X.w xs) ∧ DtOk a xs (kvs.map (·.1)) vs ∧ Rows3 X.K G xs kvs vs ∧ s.heap.DictOfH (nestedKind X.prog X.w) a xs := by
 obtain ⟨sm, o, xs, vs, h1, h2, h3⟩ := h
 have d : DicAt X.K H a o X.w xs (kvs.map (·.1)) vs := ⟨h1, h2, by rw [mpM]; exact h3.ka.mono sm⟩
 exact ⟨o, xs, vs, h1, h2, h3, d.dict I⟩
def KAt (X : Cx) (G : Hp) (y : V) (k : NestedKey) : Prop := ∃ b, y = .ref b ∧ Rep X.K G y (keyD k) ∧ k.depth ≤ 8
theorem KAt.is (I : Inv X pins σ H s) {y : V} {u : Value} {k : NestedKey} (h : KAt X G y k) (sm : Same G H) (r : RelV y u) : ∃ b, u = .ref b ∧ y = .ref b ∧ (nestedKind X.prog X.w).is s.heap k b := by
 obtain ⟨b, rfl, h1, h2⟩ := h
 obtain rfl : u = Value.ref b := r
 exact ⟨b, rfl, rfl, nested_of I _ _ _ (h1.mono sm) rfl, h2⟩
theorem room9 (hu : X.A.units + 64 < cLine) : (nestedKind X.prog X.w).room X.A.in1 := by
 show X.A.in1.units + 8 < cLine
 have : X.A.in1.units = X.A.units + 1 := rfl
 omega
def tNGet (X : Cx) (td ty : TE) : TE := fun σ H Q => td σ H fun x H1 => ty σ H1 fun y H2 => ∃ a G kvs k d, x = .ref a ∧ NAt X H2 G a kvs ∧ KAt X G y k ∧ valD kvs k = some d ∧ ∀ v, Rep X.K G v d → Q v H2
theorem pe_nget {o i : Expr} {pos : Pos} {td ty : TE} (hu : X.A.units + 64 < cLine) (ho : PE X o td) (hi : PE X i ty) (hs : NoSl i) : PE X (.Subscript o i pos) (tNGet X td ty) := by
 refine ⟨fun pins s σ H Q I h => ?_⟩
 refine subD_of PySem.F.slot_dict_getitem.lookup hs (thn (ho.run pins s σ H _ I h) fun u s1 ⟨x, H1, I1, rx, q1⟩ => thn (hi.run pins s1 σ H1 _ I1 q1) fun iv s2 ⟨y, H2, I2, ry, a, G, kvs, k, d, ex, g, gk, hv, q2⟩ => ?_)
 subst ex
 obtain rfl : u = Value.ref a := rx
 obtain ⟨b, rfl, rfl, hkey⟩ := gk.is I2 g.1 ry
 obtain ⟨o0, xs, vs, h1, h2, h3, hd⟩ := g.dict I2
 have f := h3.find k
 rw [hv] at f
 obtain ⟨v, b2, u2, f1, f2, f3⟩ := f
 exact ⟨hd.typeIs, wpAny_getItem_heap (room9 hu) hkey hd f1 ⟨v, H2, I2.tok _, f2, q2 v f3⟩⟩
theorem Rows3.drop {K : PySem.W.Frag} {H : Hp} {k : NestedKey} : ∀ {xs : List (NestedKey × Addr × Value)} {kvs : List (NestedKey × D)} {vs : List V}, Rows3 K H xs kvs vs → ∃ vs', Rows3 K H (withoutH xs k) (dropD kvs k) vs'
 | [], [], vs, h => ⟨vs, h⟩
 | [], _ :: _, _, h => by have := h.keys; simp at this
 | _ :: _, [], _, h => by have := h.keys; simp at this
 | x :: xs, p :: kvs, vs, h => by
   obtain ⟨h1, h2, h3, h4⟩ := h
   simp only [List.map_cons] at h1 h2 h3 h4
   obtain ⟨e1, e2⟩ := List.cons.inj h1
   cases h4 with | @cons v0 vs0 _ _ r1 r2 =>
   cases h2 with | cons v1 v2 =>
   cases h3 with | cons k1 k2 =>
   obtain ⟨vs', g1, g2, g3, g4⟩ := Rows3.drop (k := k) ⟨e2, v2, k2, r2⟩
   by_cases hk : p.1 = k
   · have a1 : withoutH (x :: xs) k = withoutH xs k := by simp [withoutH, e1, hk]
     have a2 : dropD (p :: kvs) k = dropD kvs k := by simp [dropD, hk]
     rw [a1, a2]
     exact ⟨vs', g1, g2, g3, g4⟩
   · have a1 : withoutH (x :: xs) k = x :: withoutH xs k := by simp [withoutH, e1, hk]
     have a2 : dropD (p :: kvs) k = p :: dropD kvs k := by simp [dropD, hk]
     rw [a1, a2]
     refine ⟨v0 :: vs', ?_, ?_, ?_, ?_⟩
     · simp only [List.map_cons]; rw [g1, e1]
     · exact .cons v1 g2
     · exact .cons k1 g3
     · exact .cons r1 g4
end
end RW
namespace RW
open PySem PySem.Spec PyProof.Rows L2
def IsN (w : World) (O : Own) (x : D) (kvs : List (NestedKey × D)) : Prop := x = .dt w kvs ∨ ∃ p, x = .obj p ∧ O p = some (.dt w kvs)
section
variable {X : Cx} {H Hd : Hp} {O : Own}
theorem readN (h : AbsH X.K H Hd O) {v : V} {x : D} {kvs : List (NestedKey × D)} (r : Rep X.K Hd v x) (e : IsN X.w O x kvs) : ∃ a, v = .ref a ∧ NAt X H Hd a kvs := by
 rcases e with rfl | ⟨p, rfl, e⟩
 · cases r with | dt h1 h2 h3 h4 =>
   exact ⟨_, rfl, h.same, _, _, _, h.same _ _ h1, h2, ⟨h2.keys, h2.vals, h3, h4⟩⟩
 · cases r
   obtain ⟨_, o, xs, vs, h1, h2, h3, h4⟩ := h.own p _ e
   exact ⟨p, rfl, h.same, o, xs, vs, h1, h2, ⟨h2.keys, h2.vals, h3, h4⟩⟩
theorem key_at {v : V} {ks : List NestedKey} (r : Rep X.K Hd v (keyD (.tup ks))) (dp : (NestedKey.tup ks).depth ≤ 8) : KAt X Hd v (.tup ks) := by
 have r' : Rep X.K Hd v (.tup (keyDs ks)) := r
 cases r' with | tup g r2 =>
 exact ⟨_, rfl, r, dp⟩
theorem AbsH.fixN {K : PySem.W.Frag} {p : Addr} {w : World} {kvs : List (NestedKey × D)} (h : AbsH K H Hd O) (e : O p = some (.dt w kvs)) : ∃ Hd', Same Hd Hd' ∧ AbsH K H Hd' (delO O p) ∧ Rep K Hd' (.ref p) (.dt w kvs) := by
 obtain ⟨n, o, xs, vs, h1, h2, h3, h4⟩ := h.own p _ e
 have s := same_new (o := DtO p o w xs) n
 refine ⟨upd Hd p (DtO p o w xs), s, ⟨fun b x q => ?_, fun a c q => ?_⟩, .dt upd_same h2 (h3.mono s) (h4.mono s)⟩
 · by_cases hb : b = p
   · subst hb; rw [upd_same] at q; cases q; exact h1
   · rw [upd_ne hb] at q; exact h.same b x q
 · have ne : a ≠ p := fun z => by subst z; simp [delO] at q
   have q' : O a = some c := by simpa [delO, ne] using q
   obtain ⟨g1, g2⟩ := h.own a c q'
   exact ⟨by rw [upd_ne ne]; exact g1, g2.mono rfl s⟩
end
section
variable {X : Cx} {E : ExP} {Γ : Env'} {O : Own} {Q : PD} {o i e f value : Expr} {pos pos' apos : Pos} {De : EndsD}
theorem w_dget (hu : X.A.units + 64 < cLine) (h : WE X E o Γ O fun x O1 => WE X E i Γ O1 fun y O2 => ∃ kvs ks d, IsN X.w O2 x kvs ∧ y = keyD (.tup ks) ∧ (NestedKey.tup ks).depth ≤ 8 ∧ valD kvs (.tup ks) = some d ∧ Q d O2) (hs : NoSl i := by exact fun _ _ => rfl) :
  WE X E (.Subscript o i pos) Γ O Q := .mk fun W σ H Hd p =>
 wE_of (pe_nget hu peW peW hs) (h.use p fun v H1 x O1 Hd1 s1 p1 r1 q1 => q1.use p1 fun u H2 y O2 Hd2 s2 p2 r2 ⟨kvs, ks, d, e, ey, dp, hv, q⟩ => by
  obtain ⟨a, rfl, g⟩ := readN p2.h (r1.mono s2) e
  subst ey
  exact ⟨a, Hd2, kvs, .tup ks, d, rfl, g, key_at r2 dp, hv, fun v' rv => .lift (s1.trans s2) (.of p2.h rv q)⟩)
end
end RW
namespace RW
open PySem PySem.Spec PyProof.Rows L2
theorem key_is {K : PySem.W.Frag} {H : Hp} {v : V} {u : Value} : ∀ {k : Key}, Rep K H v (kD k) → RelV v u → keyIs k u = true
 | .inl i, h, r => by
   have h : Rep K H v (.int i) := h
   cases h
   obtain ⟨t, rfl⟩ : ∃ t, u = .int i t := r
   exact decide_eq_true rfl
 | .inr x, h, r => by
   have h : Rep K H v (.str x) := h
   cases h
   obtain ⟨t, rfl⟩ : ∃ t, u = .str x t := r
   exact decide_eq_true rfl
structure Rows2 (K : PySem.W.Frag) (H : Hp) (us : List (Key × Value)) (kvs : List (Key × D)) (vs : List V) : Prop where
 keys : us.map (·.1) = kvs.map (·.1)
 vals : Vals vs (us.map (·.2))
 va : Reps K H vs (kvs.map (·.2))
section
variable {K : PySem.W.Frag} {H H' : Hp}
theorem Rows2.mono {us : List (Key × Value)} {kvs : List (Key × D)} {vs : List V} (h : Rows2 K H us kvs vs) (s : Same H H') : Rows2 K H' us kvs vs := ⟨h.keys, h.vals, h.va.mono s⟩
theorem Rows2.find (k : Key) : ∀ {us : List (Key × Value)} {kvs : List (Key × D)} {vs : List V}, Rows2 K H us kvs vs →
  match valD kvs k with
  | none => valueAt us k = none
  | some d => ∃ v u, valueAt us k = some u ∧ RelV v u ∧ Rep K H v d
 | [], [], _, _ => by simp [valD, valueAt]
 | [], _ :: _, _, h => by have := h.keys; simp at this
 | _ :: _, [], _, h => by have := h.keys; simp at this
 | x :: us, p :: kvs, vs, h => by
   obtain ⟨h1, h2, h4⟩ := h
   simp only [List.map_cons] at h1 h2 h4
   obtain ⟨e1, e2⟩ := List.cons.inj h1
   cases h4 with | cons r1 r2 =>
   cases h2 with | cons v1 v2 =>
   by_cases hk : p.1 = k
   · have : valD (p :: kvs) k = some p.2 := by simp [valD, hk]
     rw [this]
     exact ⟨_, x.2, by simp [valueAt, e1, hk], v1, r1⟩
   · have a1 : valD (p :: kvs) k = valD kvs k := by simp [valD, hk]
     have a2 : valueAt (x :: us) k = valueAt us k := by simp [valueAt, e1, hk]
     rw [a1, a2]
     exact Rows2.find k ⟨e2, v2, r2⟩
theorem Rows2.some {k : Key} {us : List (Key × Value)} {kvs : List (Key × D)} {vs : List V} (h : Rows2 K H us kvs vs) : (valueAt us k).isSome = (valD kvs k).isSome := by
 have := h.find k
 cases e : valD kvs k with
 | none => rw [e] at this; rw [this]; rfl
 | some d => rw [e] at this; obtain ⟨_, _, z, _⟩ := this; rw [z]; rfl
theorem Rows2.any {k : Key} {us : List (Key × Value)} {kvs : List (Key × D)} {vs : List V} (h : Rows2 K H us kvs vs) : (us.any fun kv => decide (kv.1 = k)) = (valD kvs k).isSome := by
 rw [← h.some, valueAt, Option.isSome_map]
 generalize us = l
 induction l with
 | nil => rfl
 | cons x l ih =>
   by_cases hk : x.1 = k
   · simp [hk]
   · simp [hk, ih]
theorem Rows2.repl {k : Key} {v : V} {u : Value} {d : D} (rv : RelV v u) (rd : Rep K H v d) : ∀ {us : List (Key × Value)} {kvs : List (Key × D)} {vs : List V}, Rows2 K H us kvs vs →
  ∃ vs', Rows2 K H (us.map fun kv => if kv.1 = k then (kv.1, u) else kv) (kvs.map fun p => if p.1 = k then (p.1, d) else p) vs'
 | [], [], vs, h => ⟨vs, h⟩
 | [], _ :: _, _, h => by have := h.keys; simp at this
 | _ :: _, [], _, h => by have := h.keys; simp at this
 | x :: us, p :: kvs, vs, h => by
   obtain ⟨h1, h2, h4⟩ := h
   simp only [List.map_cons] at h1 h2 h4
   obtain ⟨e1, e2⟩ := List.cons.inj h1
   cases h4 with | @cons v0 vs0 _ _ r1 r2 =>
   cases h2 with | cons v1 v2 =>
   obtain ⟨vs', g1, g2, g4⟩ := Rows2.repl rv rd ⟨e2, v2, r2⟩
   by_cases hk : p.1 = k
   · have hx : x.1 = k := e1.trans hk
     refine ⟨v :: vs', ?_, ?_, ?_⟩
     · simp only [List.map_cons, if_pos hk, if_pos hx]
       rw [g1, e1]
     · simp only [List.map_cons, if_pos hx]
       exact .cons rv g2
     · simp only [List.map_cons, if_pos hk]
       exact .cons rd g4
   · have hx : ¬ x.1 = k := fun z => hk (e1.symm.trans z)
     refine ⟨v0 :: vs', ?_, ?_, ?_⟩
     · simp only [List.map_cons, if_neg hk, if_neg hx]
       rw [g1, e1]
     · simp only [List.map_cons, if_neg hx]
       exact .cons v1 g2
     · simp only [List.map_cons, if_neg hk]
       exact .cons r1 g4
theorem Rows2.put {k : Key} {v : V} {u : Value} {d : D} {us : List (Key × Value)} {kvs : List (Key × D)} {vs : List V} (h : Rows2 K H us kvs vs) (rv : RelV v u) (rd : Rep K H v d) : ∃ vs', Rows2 K H (stored us k u) (putD kvs k d) vs' := by
 unfold stored putD
 rw [h.any]
 by_cases hs : (valD kvs k).isSome = true
 · rw [if_pos hs, if_pos hs]
   exact h.repl rv rd
 · rw [if_neg hs, if_neg hs]
   refine ⟨vs ++ [v], ?_, ?_, ?_⟩
   · rw [mpA, mpA, h.keys]; rfl
   · rw [mpA]; exact vals_snoc rv h.vals
   · rw [mpA]; exact reps_snoc rd h.va
end
section
variable {X : Cx} {pins : List (Addr × Obj)} {σ : L2.St} {H G : Hp} {s : Shared}
def MAt (X : Cx) (H G : Hp) (a : Addr) (kvs : List (Key × D)) : Prop := Same G H ∧ ∃ o us vs, H a = some (DkO X.prog X.w a o us) ∧ DkOk a us (kvs.map (·.1)) vs ∧ Rows2 X.K G us kvs vs
theorem dkO_get {P P' : Program} {w w' : World} {H : Hp} {h : Heap} {d : Addr} {o : Obj} {us : List (Key × Value)} (k : HOk P' w' H h) (e : H d = some (DkO P w d o us)) : h.get? d = some o ∧ o.IsDictOf (mixKind P w) us := by
 have x : ObjOk P' w' H h d (.ext fun h => h.get? d = some o ∧ o.IsDictOf (mixKind P w) us) := k d _ e
 exact x.1
theorem MAt.dict (I : Inv X pins σ H s) {a : Addr} {kvs : List (Key × D)} (h : MAt X H G a kvs) : ∃ o us vs, H a = some (DkO X.prog X.w a o us) ∧ DkOk a us (kvs.map (·.1)) vs ∧ Rows2 X.K G us kvs vs ∧ s.heap.DictOf (mixKind X.prog X.w) a us := by
 obtain ⟨sm, o, us, vs, h1, h2, h3⟩ := h
 exact ⟨o, us, vs, h1, h2, h3, Heap.dictOf_iff.mpr ⟨o, dkO_get I.hok h1⟩⟩
def tMGet (X : Cx) (td ty : TE) : TE := fun σ H Q => td σ H fun x H1 => ty σ H1 fun y H2 => ∃ a G kvs k d, x = .ref a ∧ MAt X H2 G a kvs ∧ Rep X.K G y (kD k) ∧ valD kvs k = some d ∧ ∀ v, Rep X.K G v d → Q v H2
theorem pe_mget {o i : Expr} {pos : Pos} {td ty : TE} (ho : PE X o td) (hi : PE X i ty) (hs : NoSl i) : PE X (.Subscript o i pos) (tMGet X td ty) := by
 refine ⟨fun pins s σ H Q I h => ?_⟩
 refine subD_of PySem.F.slot_dict_getitem.lookup hs (thn (ho.run pins s σ H _ I h) fun u s1 ⟨x, H1, I1, rx, q1⟩ => thn (hi.run pins s1 σ H1 _ I1 q1) fun iv s2 ⟨y, H2, I2, ry, a, G, kvs, k, d, ex, g, gk, hv, q2⟩ => ?_)
 subst ex
 obtain rfl : u = Value.ref a := rx
 obtain ⟨o0, us, vs, h1, h2, h3, hd⟩ := g.dict I2
 have f := h3.find k
 rw [hv] at f
 obtain ⟨v, u2, f1, f2, f3⟩ := f
 exact ⟨hd.typeIs, wpAny_getItem_of (show (mixKind X.prog X.w).is k iv = true from key_is gk ry) hd.mapOf f1 ⟨v, H2, I2.tok _, f2, q2 v f3⟩⟩
end
end RW
namespace RW
open PySem PySem.Spec PyProof.Rows L2
def IsM (P : Program) (w : World) (O : Own) (x : D) (kvs : List (Key × D)) : Prop := x = .dk P w kvs ∨ ∃ p, x = .obj p ∧ O p = some (.dk P w kvs)
section
variable {X : Cx} {H Hd : Hp} {O : Own}
theorem readM (h : AbsH X.K H Hd O) {v : V} {x : D} {kvs : List (Key × D)} (r : Rep X.K Hd v x) (e : IsM X.prog X.w O x kvs) : ∃ a, v = .ref a ∧ MAt X H Hd a kvs := by
 rcases e with rfl | ⟨p, rfl, e⟩
 · cases r with | dk h1 h2 h4 =>
   exact ⟨_, rfl, h.same, _, _, _, h.same _ _ h1, h2, ⟨h2.keys, h2.vals, h4⟩⟩
 · cases r
   obtain ⟨_, o, us, vs, h1, h2, h4⟩ := h.own p _ e
   exact ⟨p, rfl, h.same, o, us, vs, h1, h2, ⟨h2.keys, h2.vals, h4⟩⟩
theorem AbsH.fixM {K : PySem.W.Frag} {p : Addr} {P : Program} {w : World} {kvs : List (Key × D)} (h : AbsH K H Hd O) (e : O p = some (.dk P w kvs)) : ∃ Hd', Same Hd Hd' ∧ AbsH K H Hd' (delO O p) ∧ Rep K Hd' (.ref p) (.dk P w kvs) := by
 obtain ⟨n, o, us, vs, h1, h2, h4⟩ := h.own p _ e
 have s := same_new (o := DkO P w p o us) n
 refine ⟨upd Hd p (DkO P w p o us), s, ⟨fun b x q => ?_, fun a c q => ?_⟩, .dk upd_same h2 (h4.mono s)⟩
 · by_cases hb : b = p
   · subst hb; rw [upd_same] at q; cases q; exact h1
   · rw [upd_ne hb] at q; exact h.same b x q
 · have ne : a ≠ p := fun z => by subst z; simp [delO] at q
   have q' : O a = some c := by simpa [delO, ne] using q
   obtain ⟨g1, g2⟩ := h.own a c q'
   exact ⟨by rw [upd_ne ne]; exact g1, g2.mono rfl s⟩
end
section
variable {X : Cx} {E : ExP} {Γ : Env'} {O : Own} {Q : PD} {o i e f value : Expr} {pos pos' apos : Pos} {De : EndsD}
theorem w_mget (h : WE X E o Γ O fun x O1 => WE X E i Γ O1 fun y O2 => ∃ kvs k d, IsM X.prog X.w O2 x kvs ∧ y = kD k ∧ valD kvs k = some d ∧ Q d O2) (hs : NoSl i := by exact fun _ _ => rfl) :
  WE X E (.Subscript o i pos) Γ O Q := .mk fun W σ H Hd p =>
 wE_of (pe_mget peW peW hs) (h.use p fun v H1 x O1 Hd1 s1 p1 r1 q1 => q1.use p1 fun u H2 y O2 Hd2 s2 p2 r2 ⟨kvs, k, d, e, ey, hv, q⟩ => by
  obtain ⟨a, rfl, g⟩ := readM p2.h (r1.mono s2) e
  subst ey
  exact ⟨a, Hd2, kvs, k, d, rfl, g, r2, hv, fun v' rv => .lift (s1.trans s2) (.of p2.h rv q)⟩)
end
end RW
namespace RW
open PySem PySem.Spec PyProof.Rows L2
end RW
namespace RW
open PySem PySem.Spec PyProof.Rows L2
end RW
namespace RW
open PySem PySem.Spec PyProof.Rows L2
inductive Tells (q : Addr) (d : D) : List D → List D → Prop
 | nil : Tells q d [] []
 | same (x : D) {xs ys : List D} : Tells q d xs ys → Tells q d (x :: xs) (x :: ys)
 | here {xs ys : List D} : Tells q d xs ys → Tells q d (.obj q :: xs) (d :: ys)
theorem Tells.refl (q : Addr) (d : D) : ∀ xs : List D, Tells q d xs xs
 | [] => .nil
 | x :: xs => .same x (Tells.refl q d xs)
inductive TellD (q : Addr) (d : D) : D → D → Prop
 | refl (x : D) : TellD q d x x
 | here : TellD q d (.obj q) d
 | lst {xs ys : List D} : Tells q d xs ys → TellD q d (.lst xs) (.lst ys)
 | tup {xs ys : List D} : Tells q d xs ys → TellD q d (.tup xs) (.tup ys)
 | ins {C : Addr} {fs : List Str} {xs ys : List D} : Tells q d xs ys → TellD q d (.ins C (fs.zip xs)) (.ins C (fs.zip ys))
 | dk {P : Program} {w : World} {kvs kvs' : List (Key × D)} : kvs.map (·.1) = kvs'.map (·.1) → Tells q d (kvs.map (·.2)) (kvs'.map (·.2)) → TellD q d (.dk P w kvs) (.dk P w kvs')
 | dt {w : World} {kvs kvs' : List (NestedKey × D)} : kvs.map (·.1) = kvs'.map (·.1) → Tells q d (kvs.map (·.2)) (kvs'.map (·.2)) → TellD q d (.dt w kvs) (.dt w kvs')
inductive TellO (q : Addr) (d : D) : OC → OC → Prop
 | lst {xs ys : List D} : Tells q d xs ys → TellO q d (.lst xs) (.lst ys)
 | ins {C : Addr} {fs : List Str} {xs ys : List D} : Tells q d xs ys → TellO q d (.ins C (fs.zip xs)) (.ins C (fs.zip ys))
 | dk {P : Program} {w : World} {kvs kvs' : List (Key × D)} : kvs.map (·.1) = kvs'.map (·.1) → Tells q d (kvs.map (·.2)) (kvs'.map (·.2)) → TellO q d (.dk P w kvs) (.dk P w kvs')
 | dt {w : World} {kvs kvs' : List (NestedKey × D)} : kvs.map (·.1) = kvs'.map (·.1) → Tells q d (kvs.map (·.2)) (kvs'.map (·.2)) → TellO q d (.dt w kvs) (.dt w kvs')
def fixD : OC → Option D
 | .lst xs => some (.lst xs)
 | .ins C fs => some (.ins C fs)
 | .dt w kvs => some (.dt w kvs)
 | .dk P w kvs => some (.dk P w kvs)
 | _ => none
section
variable {K : PySem.W.Frag} {H Hd : Hp} {O : Own}
theorem tells_rep {q : Addr} {d : D} (r : Rep K Hd (.ref q) d) : ∀ {xs ys : List D}, Tells q d xs ys → ∀ {vs : List V}, Reps K Hd vs xs → Reps K Hd vs ys
 | _, _, .nil, _, h => h
 | _, _, .same x t, _, .cons a b => .cons a (tells_rep r t b)
 | _, _, .here t, _, .cons a b => by
   cases a
   exact .cons r (tells_rep r t b)
theorem repF_zip : ∀ {fs : List Str} {xs : List D} {vs : List (Str × V)}, RepF K Hd vs (fs.zip xs) → Reps K Hd (vs.map (·.2)) (xs.take fs.length) ∧ vs.map (·.1) = fs.take xs.length
 | [], xs, vs, h => by
   cases h
   simp
   exact .nil
 | f :: fs, [], vs, h => by
   cases h
   simp
   exact .nil
 | f :: fs, x :: xs, vs, h => by
   cases h with | cons a b =>
   obtain ⟨h1, h2⟩ := repF_zip b
   exact ⟨.cons a h1, by simp [h2]⟩
theorem zip_repF : ∀ {fs : List Str} {xs : List D} {vs : List (Str × V)}, Reps K Hd (vs.map (·.2)) (xs.take fs.length) → vs.map (·.1) = fs.take xs.length → RepF K Hd vs (fs.zip xs)
 | [], xs, vs, h, e => by
   simp at e
   subst e
   exact .nil
 | f :: fs, [], vs, h, e => by
   simp at e
   subst e
   exact .nil
 | f :: fs, x :: xs, [], h, e => by simp at e
 | f :: fs, x :: xs, (g, v) :: vs, h, e => by
   simp at e
   obtain ⟨rfl, e⟩ := e
   cases h with | cons a b =>
   exact .cons a (zip_repF b e)
theorem tells_len {q : Addr} {d : D} : ∀ {xs ys : List D}, Tells q d xs ys → xs.length = ys.length
 | _, _, .nil => rfl
 | _, _, .same x t => by simp [tells_len t]
 | _, _, .here t => by simp [tells_len t]
theorem tells_take {q : Addr} {d : D} : ∀ {n : Nat} {xs ys : List D}, Tells q d xs ys → Tells q d (xs.take n) (ys.take n)
 | 0, _, _, _ => by simp; exact .nil
 | n + 1, _, _, .nil => .nil
 | n + 1, _, _, .same x t => .same x (tells_take t)
 | n + 1, _, _, .here t => .here (tells_take t)
theorem tellF {q : Addr} {d : D} (r : Rep K Hd (.ref q) d) {fs : List Str} {xs ys : List D} (t : Tells q d xs ys) {vs : List (Str × V)} (h : RepF K Hd vs (fs.zip xs)) : RepF K Hd vs (fs.zip ys) := by
 obtain ⟨h1, h2⟩ := repF_zip h
 exact zip_repF (tells_rep r (tells_take t) h1) (by rw [h2, tells_len t])
theorem tellD_rep {q : Addr} {d x y : D} (r : Rep K Hd (.ref q) d) (t : TellD q d x y) {v : V} (h : Rep K Hd v x) : Rep K Hd v y := by
 cases t with
 | refl => exact h
 | here => cases h; exact r
 | lst t => cases h with | lst a b => exact .lst a (tells_rep r t b)
 | tup t => cases h with | tup a b => exact .tup a (tells_rep r t b)
 | ins t => cases h with | ins a b => exact .ins a (tellF r t b)
 | dk e t => cases h with | dk a b c => exact .dk a (by rw [← e]; exact b) (tells_rep r t c)
 | dt e t =>
   cases h with | dt a b k c =>
   refine .dt a (by rw [← e]; exact b) ?_ (tells_rep r t c)
   have e2 := congrArg (List.map keyD) e
   rw [mpM, mpM] at e2
   rw [show (List.map (fun p : NestedKey × D => keyD p.1) _) = _ from e2] at k
   exact k
theorem tellO_rep {H' : Hp} {q p : Addr} {d : D} {c c' : OC} (r : Rep K Hd (.ref q) d) (t : TellO q d c c') (h : OcR K H' Hd p c) : OcR K H' Hd p c' := by
 cases t with
 | lst t => obtain ⟨vs, h1, h2⟩ := h; exact ⟨vs, h1, tells_rep r t h2⟩
 | ins t => obtain ⟨dx, vs, h1, h2⟩ := h; exact ⟨dx, vs, h1, tellF r t h2⟩
 | dk e t => obtain ⟨o, us, vs, h1, h2, h3⟩ := h; exact ⟨o, us, vs, h1, by rw [← e]; exact h2, tells_rep r t h3⟩
 | dt e t =>
   obtain ⟨o, us, vs, h1, h2, k, h3⟩ := h
   refine ⟨o, us, vs, h1, by rw [← e]; exact h2, ?_, tells_rep r t h3⟩
   have e2 := congrArg (List.map keyD) e
   rw [mpM, mpM] at e2
   rw [show (List.map (fun p : NestedKey × D => keyD p.1) _) = _ from e2] at k
   exact k
theorem AbsH.fixAny {q : Addr} {c : OC} {d : D} (h : AbsH K H Hd O) (e : O q = some c) (ed : fixD c = some d) : ∃ Hd', Same Hd Hd' ∧ AbsH K H Hd' (delO O q) ∧ Rep K Hd' (.ref q) d := by
 cases c with
 | lst xs => cases ed; exact h.fix e
 | ins C fs => cases ed; exact h.fixI e
 | dt w kvs => cases ed; exact h.fixN e
 | dk P w kvs => cases ed; exact h.fixM e
 | any Pw => cases ed
 | tab q => cases ed
 | ex pr => cases ed
end
inductive Fx : D → Own → D → Own → Prop
 | refl (x : D) (O : Own) : Fx x O x O
 | fix {x y d : D} {O : Own} {q : Addr} {c : OC} : O q = some c → fixD c = some d → TellD q d x y → Fx x O y (delO O q)
 | own {x d : D} {O : Own} {q p : Addr} {c c1 c2 : OC} : O q = some c → fixD c = some d → O p = some c1 → p ≠ q → TellO q d c1 c2 → Fx x O x (updO (delO O q) p c2)
 | sub {x : D} {O O' : Own} : Sub O' O → Fx x O x O'
 | trans {x y z : D} {O O1 O2 : Own} : Fx x O y O1 → Fx y O1 z O2 → Fx x O z O2
theorem Fx.run {K : PySem.W.Frag} {x y : D} {O O' : Own} (f : Fx x O y O') : ∀ {H Hd : Hp} {v : V}, AbsH K H Hd O → Rep K Hd v x → ∃ Hd', Same Hd Hd' ∧ AbsH K H Hd' O' ∧ Rep K Hd' v y := by
 induction f with
 | refl => exact fun h r => ⟨_, Same.refl _, h, r⟩
 | fix e ed t =>
   intro H Hd v h r
   obtain ⟨Hd', s, a, r2⟩ := h.fixAny e ed
   exact ⟨Hd', s, a, tellD_rep r2 t (r.mono s)⟩
 | @own x d O q p c c1 c2 e ed ep ne t =>
   intro H Hd v h r
   obtain ⟨Hd', s, a, r2⟩ := h.fixAny e ed
   refine ⟨Hd', s, ⟨a.same, fun b cb z => ?_⟩, r.mono s⟩
   by_cases hb : b = p
   · subst hb
     rw [updO_same] at z
     cases z
     obtain ⟨g1, g2⟩ := a.own b c1 (by unfold delO; rw [if_neg ne]; exact ep)
     exact ⟨g1, tellO_rep r2 t g2⟩
   · rw [updO_ne hb] at z
     exact a.own b cb z
 | sub s => exact fun h r => ⟨_, Same.refl _, h.sub s, r⟩
 | trans _ _ ih1 ih2 =>
   intro H Hd v h r
   obtain ⟨Hd1, s1, a1, r1⟩ := ih1 h r
   obtain ⟨Hd2, s2, a2, r2⟩ := ih2 a1 r1
   exact ⟨Hd2, s1.trans s2, a2, r2⟩
end RW
namespace RW
open PySem PySem.Spec PyProof.Rows L2
section
variable {X : Cx} {E : ExP} {Γ : Env'} {O : Own} {e : Expr} {Q : PD} {pos : Pos}
theorem w_mgetN {N : List Str} {x : Str} {p1 : Pos} {i : Nat} {kvs : List (Key × D)} (nd : N.Nodup) (hi : N[i]? = some x) (hd : Γ[i]? = some (some (.dk X.prog X.w kvs))) (hx : X.N = N) (h : WE X E e Γ O fun y O2 => ∃ k d, y = kD k ∧ valD kvs k = some d ∧ Q d O2) (hv : Vis X.env.scope x)
  (h1 : (x == ("__debug__" : Str)) = false := by decide) (h2 : (x == ("__classdict__" : Str)) = false := by decide) (hs : NoSl e := by exact fun _ _ => rfl) : WE X E (.Subscript (.Name x p1) e pos) Γ O Q :=
 w_mget (w_vn nd hi hd hx (h.mono fun y O2 ⟨k, d, e1, e2, q⟩ => ⟨kvs, k, d, .inl rfl, e1, e2, q⟩) hv h1 h2) hs
theorem w_mgetO {N : List Str} {x : Str} {p1 : Pos} {i : Nat} {p : Addr} {kvs : List (Key × D)} (nd : N.Nodup) (hi : N[i]? = some x) (hd : Γ[i]? = some (some (.obj p))) (hO : O p = some (.dk X.prog X.w kvs)) (hx : X.N = N) (h : WE X E e Γ O fun y O2 => ∃ k d, y = kD k ∧ O2 p = some (.dk X.prog X.w kvs) ∧ valD kvs k = some d ∧ Q d O2) (hv : Vis X.env.scope x)
  (h1 : (x == ("__debug__" : Str)) = false := by decide) (h2 : (x == ("__classdict__" : Str)) = false := by decide) (hs : NoSl e := by exact fun _ _ => rfl) : WE X E (.Subscript (.Name x p1) e pos) Γ O Q :=
 w_mget (w_vn nd hi hd hx (h.mono fun y O2 ⟨k, d, e1, e3, e2, q⟩ => ⟨kvs, k, d, .inr ⟨p, rfl, e3⟩, e1, e2, q⟩) hv h1 h2) hs
theorem w_dgetN {N : List Str} {x : Str} {p1 : Pos} {i : Nat} {kvs : List (NestedKey × D)} (nd : N.Nodup) (hi : N[i]? = some x) (hd : Γ[i]? = some (some (.dt X.w kvs))) (hx : X.N = N) (hu : X.A.units + 64 < cLine) (h : WE X E e Γ O fun y O2 => ∃ ks d, y = keyD (.tup ks) ∧ (NestedKey.tup ks).depth ≤ 8 ∧ valD kvs (.tup ks) = some d ∧ Q d O2) (hv : Vis X.env.scope x)
  (h1 : (x == ("__debug__" : Str)) = false := by decide) (h2 : (x == ("__classdict__" : Str)) = false := by decide) (hs : NoSl e := by exact fun _ _ => rfl) : WE X E (.Subscript (.Name x p1) e pos) Γ O Q :=
 w_dget hu (w_vn nd hi hd hx (h.mono fun y O2 ⟨ks, d, e1, e2, e3, q⟩ => ⟨kvs, ks, d, .inl rfl, e1, e2, e3, q⟩) hv h1 h2) hs
theorem w_dgetO {N : List Str} {x : Str} {p1 : Pos} {i : Nat} {p : Addr} {kvs : List (NestedKey × D)} (nd : N.Nodup) (hi : N[i]? = some x) (hd : Γ[i]? = some (some (.obj p))) (hO : O p = some (.dt X.w kvs)) (hx : X.N = N) (hu : X.A.units + 64 < cLine) (h : WE X E e Γ O fun y O2 => ∃ ks d, y = keyD (.tup ks) ∧ (NestedKey.tup ks).depth ≤ 8 ∧ O2 p = some (.dt X.w kvs) ∧ valD kvs (.tup ks) = some d ∧ Q d O2) (hv : Vis X.env.scope x)
  (h1 : (x == ("__debug__" : Str)) = false := by decide) (h2 : (x == ("__classdict__" : Str)) = false := by decide) (hs : NoSl e := by exact fun _ _ => rfl) : WE X E (.Subscript (.Name x p1) e pos) Γ O Q :=
 w_dget hu (w_vn nd hi hd hx (h.mono fun y O2 ⟨ks, d, e1, e2, e4, e3, q⟩ => ⟨kvs, ks, d, .inr ⟨p, rfl, e4⟩, e1, e2, e3, q⟩) hv h1 h2) hs
theorem g_subN {x : Str} {p1 : Pos} (h : WE X E (.Subscript (.Name x p1) e pos) Γ O Q) : WE X E (.Subscript (.Name x p1) e pos) Γ O Q := h
end
end RW
namespace RW
open PySem PySem.Spec PyProof.Rows L2
end RW
namespace RW
open PySem PySem.Spec PyProof.Rows L2
def putFD (f : Str) (d : D) : List (Str × D) → List (Str × D)
 | [] => [(f, d)]
 | (g, x) :: r => if g = f then (g, d) :: r else (g, x) :: putFD f d r
section
variable {K : PySem.W.Frag} {H Hd : Hp} {O : Own}
theorem RepF.put {f : Str} {v : V} {d : D} (r : Rep K H v d) : ∀ {vs : List (Str × V)} {ds : List (Str × D)}, RepF K H vs ds → RepF K H (putF f v vs) (putFD f d ds)
 | _, _, .nil => .cons r .nil
 | _, _, .cons (f := g) r0 t => by
   unfold putF putFD
   by_cases h : g = f
   · rw [if_pos h, if_pos h]
     exact .cons r t
   · rw [if_neg h, if_neg h]
     exact .cons r0 (RepF.put r t)
theorem RepF.length : ∀ {vs : List (Str × V)} {ds : List (Str × D)}, RepF K H vs ds → vs.length = ds.length
 | _, _, .nil => rfl
 | _, _, .cons _ t => by simp [RepF.length t]
end
end RW
namespace RW
open PySem PySem.Spec PyProof.Rows L2
end RW
namespace RW
open PySem PySem.Spec PyProof.Rows L2
end RW
namespace PySem
namespace LOE
open PySem.W PySem.Calls PyProof.Rows PySem.HandSPX
theorem le_split {l : List Value} (h : refsLE l = true) : ∃ cs : List Addr, l = cs.map Value.ref ++ leTail := by
 have h2 : l.dropWhile isAdr = leTail := beq_iff_eq.mp h
 have key : ∀ l : List Value, ∃ cs : List Addr, l.takeWhile isAdr = cs.map Value.ref := fun l => by
  induction l with
  | nil => exact ⟨[], rfl⟩
  | cons v r ih =>
    obtain ⟨cs, e⟩ := ih
    cases v with
    | ref a => exact ⟨a :: cs, by rw [List.takeWhile_cons, if_pos (show isAdr (Value.ref a) = true from rfl), e]; rfl⟩
    | _ => exact ⟨[], rfl⟩
 obtain ⟨cs, e⟩ := key l
 exact ⟨cs, by rw [← List.takeWhile_append_dropWhile (p := isAdr) (l := l), e, h2]⟩
open Builtin Builtin.ObjectAttr in
theorem le_pass (self : Value) {l : List Value} (h : refsLE l = true) : refuseLoop self "__setattr__" l = pure () := by
 obtain ⟨cs, rfl⟩ := le_split h
 induction cs with
 | nil => exact F.store_LookupError.passes self
 | cons c cs ih =>
   show refuseLoop self "__setattr__" (.ref c :: (cs.map Value.ref ++ leTail)) = _
   rw [refuseLoop_ref]
   exact ih (by unfold refsLE; exact beq_iff_eq.mpr (by clear ih h; induction cs with | nil => rfl | cons d cs ih => exact ih))
theorem le_has (X : String) {l : List Value} (h : refsLE l = true) : l.contains (.type X) = leTail.contains (.type X) := by
 obtain ⟨cs, rfl⟩ := le_split h
 clear h
 induction cs with
 | nil => rfl
 | cons c cs ih =>
   show (Value.ref c :: (cs.map Value.ref ++ leTail)).contains _ = _
   rw [List.contains_cons, ih]
   rfl
theorem le_ne {l : List Value} (h : refsLE l = true) : l.isEmpty = false := by
 obtain ⟨cs, rfl⟩ := le_split h
 cases cs <;> rfl
section
open Builtin Builtin.ObjectAttr
variable {prog : Program} {w : World} {A : Around} {R : Result → Shared → Prop} {hp : Heap} {g : Array GenState} {dr : Drawn} {t : Nat} {os : OsState} {K : W.Frag} {name : Str} {tk : Tok} {v : Value} {x C dx : Addr} {fv : Array Value} {cd : ClassData}
theorem le_obj (X : K.In hp) (hcd : W.clsIn K C = some cd) (hm : refsLE cd.mro = true) : W.mroIn K C (.type "object") = some true := by
 have h : cd.mro.contains (.type "object") = true := (le_has "object" hm).trans (by decide +kernel)
 unfold W.mroIn
 rw [hcd, Option.bind_some, if_neg (by rw [le_ne hm]; decide), h]
theorem le_first (X : K.In hp) (hx : hp.get? x = some { cls := .ref C, data := .fields fv }) (hcd : W.clsIn K C = some cd) (hm : refsLE cd.mro = true) (hh : cd.hasDict = true) (ha : W.findIn K (.ref C) name = some none)
  (hq : ∀ h' tk' dx, (∀ b o, b ≠ x → hp.get? b = some o → h'.get? b = some o) → hp.objs.size ≤ dx → dx ≠ x → h'.get? x = some { cls := .ref C, dict := some dx, data := .fields fv } → h'.Ns1 dx (fun y => if y = name then some v else none) → R (.ok (.ret .none)) ⟨h', g, dr, tk', os⟩) :
  codeAny (model prog w) A (.call (.builtin "object.__setattr__") ⟨[.ref x, .str name tk, v], []⟩) R ⟨hp, g, dr, t, os⟩ := by
 have hxs : x ≠ hp.objs.size := Nat.ne_of_lt (Heap.lt_size hx)
 have I : W.InstAt hp x { cls := .ref C, data := .fields fv } C none := ⟨hx, rfl, rfl, trivial⟩
 have S := F.store_object
 have sub : W.Looks (model prog w) hp (isInstance (.ref x) (.type "object")) true := I.type.andThen (W.looks_mroIn X (le_obj X hcd hm))
 refine codeAny_call_builtin S.slot.plain S.entry (@W.check_slot (model prog w) _ _ ⟨hp, g, dr, t, os⟩ "object.__setattr__" "object" "__setattr__" (.ref x) [.str name tk, v] [] _ S.kind S.split sub (S.args (.ref x) (.str name tk) v) ?_)
 have hcl := W.looks_clsIn (M := model prog w) X hcd
 have hmr : W.Looks (model prog w) hp (mroOf (.ref C)) cd.mro := hcl.andThen .now
 have hno : W.Looks (model prog w) hp (storeTaker? none) none := .now
 have hcls : W.Looks (model prog w) hp (classData C) cd := hcl
 rw [W.osa_eq, refuse_eq]
 refine wpAny_bind (wpAny_bind (I.type.at (wpAny_bind (hmr.at ?_))))
 rw [le_pass _ hm]
 refine wpAny_pure (wpAny_bind (I.type.at (wpAny_bind ((W.looks_findIn X ha).at (wpAny_bind (hno.at ?_))))))
 obtain ⟨c1, c2, c3, c4, c5, hd, c7, c8, c9, c10, c11⟩ := cd
 have hh : hd = true := hh
 subst hh
 show wpAny _ _ (storeInOwnDict (.ref x) (.ref C) (.str name tk) name v false) _ _ _
 unfold storeInOwnDict ownDictForStores
 repeat (first | with_reducible refine store_in_new ?_ ?_ | with_reducible refine wpAny_loadPart_at hx ?_ | with_reducible refine hcls.at ?_ | wp_step)
 · exact ⟨_, #[], _, Eq.trans (Heap.get?_update_ne _ _ _ _ (Ne.symm hxs)) (Heap.get?_push_at rfl rfl), rfl, fun e he => absurd he (by simp), fun _ => rfl⟩
 · intro h' tk' hn sb
   have hx1 : (hp.push { cls := .type "dict", data := .dict #[] }).get? x = some { cls := .ref C, data := .fields fv } := Heap.get?_push_of_some _ hx
   refine hq h' tk' hp.objs.size (fun b o hb ho => ?_) (Nat.le_refl _) hxs.symm ?_ hn
   · rw [sb.2 b (Nat.ne_of_lt (Heap.lt_size ho)), Heap.get?_update_ne _ _ _ _ hb]
     exact Heap.get?_push_of_some _ ho
   · rw [sb.2 x hxs]
     exact Heap.get?_update_self _ hx1 rfl
theorem le_next {m0 : Str → Option Value} {nl : List Str} (X : K.In hp) (hx : hp.get? x = some { cls := .ref C, dict := some dx, data := .fields fv }) (hns : hp.Ns1 dx m0) (hw : Within m0 nl) (hz : nl.length ≤ 1000) (hcd : W.clsIn K C = some cd) (hm : refsLE cd.mro = true) (hh : cd.hasDict = true)
  (ha : W.findIn K (.ref C) name = some none)
  (hq : ∀ h' tk', (∀ b o, b ≠ dx → hp.get? b = some o → h'.get? b = some o) → h'.Ns1 dx (fun y => if y = name then some v else m0 y) → R (.ok (.ret .none)) ⟨h', g, dr, tk', os⟩) :
  codeAny (model prog w) A (.call (.builtin "object.__setattr__") ⟨[.ref x, .str name tk, v], []⟩) R ⟨hp, g, dr, t, os⟩ := by
 obtain ⟨od, _, _, hod, _, _⟩ := hns.count hw
 have I : W.InstAt hp x { cls := .ref C, dict := some dx, data := .fields fv } C (some od) := ⟨hx, rfl, rfl, hod⟩
 have S := F.store_object
 have sub : W.Looks (model prog w) hp (isInstance (.ref x) (.type "object")) true := I.type.andThen (W.looks_mroIn X (le_obj X hcd hm))
 refine codeAny_call_builtin S.slot.plain S.entry (@W.check_slot (model prog w) _ _ ⟨hp, g, dr, t, os⟩ "object.__setattr__" "object" "__setattr__" (.ref x) [.str name tk, v] [] _ S.kind S.split sub (S.args (.ref x) (.str name tk) v) ?_)
 have hcl := W.looks_clsIn (M := model prog w) X hcd
 have hmr : W.Looks (model prog w) hp (mroOf (.ref C)) cd.mro := hcl.andThen .now
 have hno : W.Looks (model prog w) hp (storeTaker? none) none := .now
 have hcls : W.Looks (model prog w) hp (classData C) cd := hcl
 rw [W.osa_eq, refuse_eq]
 refine wpAny_bind (wpAny_bind (I.type.at (wpAny_bind (hmr.at ?_))))
 rw [le_pass _ hm]
 refine wpAny_pure (wpAny_bind (I.type.at (wpAny_bind ((W.looks_findIn X ha).at (wpAny_bind (hno.at ?_))))))
 obtain ⟨c1, c2, c3, c4, c5, hd, c7, c8, c9, c10, c11⟩ := cd
 have hh : hd = true := hh
 subst hh
 show wpAny _ _ (storeInOwnDict (.ref x) (.ref C) (.str name tk) name v false) _ _ _
 unfold storeInOwnDict ownDictForStores
 repeat (first | with_reducible refine OEX.store_in_old hns hw hz ?_ | with_reducible refine wpAny_loadPart_at hx ?_ | with_reducible refine hcls.at ?_ | wp_step)
 intro h' tk' hn sb
 exact hq h' tk' (fun b o hb ho => (sb.2 b hb).trans ho) hn
end
theorem typ_LE : typeOf (.type "LookupError") = pure (.type "type") := by kernel_rfl
end LOE
end PySem
namespace RW
open PySem PySem.Spec PyProof.Rows L2
theorem le_cons {C : Addr} {bm : List Value} (h : PySem.LOE.refsLE bm = true) : PySem.LOE.refsLE (.ref C :: bm) = true := by
 unfold PySem.LOE.refsLE at h ⊢
 rw [List.dropWhile_cons, if_pos (show PySem.LOE.isAdr (Value.ref C) = true from rfl)]
 exact h
section
variable {X : Cx} {pins : List (Addr × Obj)} {σ : L2.St} {H : Hp} {s : Shared} {a C dx : Addr} {f : Str} {y : V} {u : Value} {fs : List (Str × V)} {E : Value → Shared → Prop} {A : Around}
theorem lst_new {Q : Unit → Shared → Prop} (T : OexL X.K C) (I : Inv X pins σ H s) (e : H a = some (exo a C none)) (hno : PySem.W.findIn X.K (.ref C) f = some none) (ry : RelV y u)
  (h : ∀ dx s', H dx = none → dx ≠ a → Inv X pins σ (upd (upd H dx (exd dx [(f, y)])) a (exo a C (some dx))) s' → Q () s') : wpAny (model X.prog X.w) A (setAttr (.ref a) f u) Q E s := by
 obtain ⟨nm, q, N, bs, bm, sn, sub, ab, col, dd, k0, k1, k2, k3, k5, hC, hbm⟩ := T.cls
 have hcl : PySem.W.clsIn X.K C = some { name := nm, bases := bs, mro := .ref C :: bm, ns := N, qualname := q, hasDict := true, slotNames := sn, subclasses := sub, abstract := ab, collection := col, hasDel := false } := by
  unfold PySem.W.clsIn
  rw [hC] <;> rfl
 obtain ⟨t1, ho⟩ := exo_at I.hok e
 obtain ⟨hp, g, d, t, os⟩ := s
 refine PySem.W.set_plain I.kIn (ox := { cls := .ref C, dict := none, data := .fields #[.ref t1, .none, .none, .none, .bool false, .none] }) (od := none) ⟨ho, rfl, rfl, trivial⟩ T.sa ?_
 refine PySem.LOE.le_first I.kIn ho hcl (le_cons hbm) rfl hno fun h' tk' dx k dn dne hx hn => ?_
 have free : H dx = none := I.hok.fresh dn
 have olddx : ∀ {b : Addr} {o : Obj}, hp.get? b = some o → b ≠ dx := fun {b o} q => Nat.ne_of_lt (nLL (Heap.lt_size q) dn)
 have nota : ∀ {b : Addr}, H b = none → b ≠ a := fun {b} n z => by
  subst z
  rw [e] at n
  cases n
 have un : Un X.fs [] H (upd (upd H dx (exd dx [(f, y)])) a (exo a C (some dx))) hp h' := by
  refine ⟨fun b o q n _ _ => k b o (nota n) q, fun b o q n _ _ => ⟨o.slots, k b o (nota n) q⟩, fun b o q n _ => ?_, fun b o q _ => ?_, fun b xs q => ?_, fun b o v q => ?_, fun b ps q => ⟨#[], ?_⟩⟩
  · rw [upd_ne (nota n), upd_ne (olddx q)]
    exact n
  · by_cases hb : b = a
    · subst hb
      exact ⟨_, hx⟩
    · exact ⟨o, k b o hb q⟩
  · rw [upd_ne (at_ne e q exo_tup), upd_ne (ne_of_none q free)]
    exact q
  · rw [upd_ne (at_ne e q exo_frz), upd_ne (ne_of_none q free)]
    exact q
  · rw [upd_ne (at_ne e q exo_tbl), upd_ne (ne_of_none q free), q]
    simp
 refine h dx _ free dne (I.un (t' := tk') un fun b o q => ?_)
 by_cases hb : b = a
 · subst hb
   rw [upd_same] at q
   cases q
   exact exo_ok hx
 rw [upd_ne hb] at q
 by_cases hd : b = dx
 · subst hd
   rw [upd_same] at q
   cases q
   exact exd_ok hn (relO_put (fs := []) ry fun g => True.intro)
 rw [upd_ne hd] at q
 refine (I.hok b o q).stay (fun c v hc z => k c v ?_ z) (fun c hc => ?_) (fun c xs hc => ?_)
 · rcases hc with hc | hc
   · rw [hc]
     exact hb
   · exact at_ne e hc exo_own
 · rw [upd_ne (at_ne e hc exo_own), upd_ne (ne_of_none hc free)]
   exact hc
 · rw [upd_ne (at_ne e hc exo_tup), upd_ne (ne_of_none hc free)]
   exact hc
theorem lst_old {Q : Unit → Shared → Prop} (T : OexL X.K C) (I : Inv X pins σ H s) (e : H a = some (exo a C (some dx))) (ed : H dx = some (exd dx fs)) (hl : fs.length ≤ 900) (hno : PySem.W.findIn X.K (.ref C) f = some none) (ry : RelV y u)
  (h : ∀ s', Inv X pins σ (upd H dx (exd dx ((f, y) :: fs))) s' → Q () s') : wpAny (model X.prog X.w) A (setAttr (.ref a) f u) Q E s := by
 obtain ⟨nm, q, N, bs, bm, sn, sub, ab, col, dd, k0, k1, k2, k3, k5, hC, hbm⟩ := T.cls
 have hcl : PySem.W.clsIn X.K C = some { name := nm, bases := bs, mro := .ref C :: bm, ns := N, qualname := q, hasDict := true, slotNames := sn, subclasses := sub, abstract := ab, collection := col, hasDel := false } := by
  unfold PySem.W.clsIn
  rw [hC] <;> rfl
 obtain ⟨t1, ho⟩ := exo_at I.hok e
 obtain ⟨mA, hns, rel⟩ := exd_at I.hok ed
 have hw := within_of rel
 obtain ⟨hp, g, d, t, os⟩ := s
 obtain ⟨od, _, _, hod, _, _⟩ := hns.count hw
 refine PySem.W.set_plain I.kIn (ox := { cls := .ref C, dict := some dx, data := .fields #[.ref t1, .none, .none, .none, .bool false, .none] }) (od := some od) ⟨ho, rfl, rfl, hod⟩ T.sa ?_
 refine PySem.LOE.le_next I.kIn ho hns hw (by rw [lnM]; omega) hcl (le_cons hbm) rfl hno fun h' tk' k hn => ?_
 have hd : ∃ o, h'.get? dx = some o := by
  obtain ⟨o, _, _, e', _⟩ := hn
  exact ⟨o, e'⟩
 refine h _ (I.write (t' := tk') (x := dx) (e := dx) (o := exd dx ((f, y) :: fs)) ?_ (.inl rfl) k hd (exd_ok hn (relO_put ry rel)))
 rw [ed]
 exact True.intro
theorem linit_ok {us : List Value} {Q : Value → Shared → Prop} (T : OexL X.K C) (I : Inv X pins σ H s) (e : H a = some (exo a C none)) (hl : us.length ≤ sizeLine) (h : ∀ s', Inv X pins σ H s' → Q .none s') :
  wpAny (model X.prog X.w) A (call (.builtin "LookupError.__init__") (.ref a :: us)) Q E s := by
 obtain ⟨nm, q, N, bs, bm, sn, sub, ab, col, dd, k0, k1, k2, k3, k5, hC, hbm⟩ := T.cls
 obtain ⟨t1, ho⟩ := exo_at I.hok e
 obtain ⟨hp, g, d, t, os⟩ := s
 refine wpAny_call (PySem.HandSPX.init_base F.excBase_LookupError (fun Y => PySem.LOE.le_has Y hbm) (I.kIn _ _ hC) ho hl fun h' t2 k hx => ?_)
 have J := I.write (t' := t) (x := a) (e := a) (o := exo a C none) (by rw [e]; exact True.intro) (.inl rfl) k ⟨_, hx⟩ (exo_ok hx)
 have eu : upd H a (exo a C none) = H := by
  funext b
  by_cases hb : b = a
  · subst hb
    rw [upd_same, e]
  · exact upd_ne hb
 rw [eu] at J
 exact h _ J
end
def tLeI (K : PySem.W.Frag) (ta : TA) : TE := fun σ H Q => ta σ H fun vs H1 => ∃ (a C : Addr) (ws : List V), vs = .ref a :: ws ∧ ws.length ≤ 1000 ∧ OexL K C ∧ H1 a = some (exo a C none) ∧ Q .non H1
def tLst (K : PySem.W.Frag) (f : Str) (to te : TE) : TS := fun D σ H => te σ H fun y H1 => to σ H1 fun x H2 => ∃ a C : Addr, x = .ref a ∧ OexL K C ∧ PySem.W.findIn K (.ref C) f = some none ∧
 ((H2 a = some (exo a C none) ∧ ∀ dx, H2 dx = none → dx ≠ a → D.nx σ (upd (upd H2 dx (exd dx [(f, y)])) a (exo a C (some dx)))) ∨
   ∃ (dx : Addr) (fs : List (Str × V)), H2 a = some (exo a C (some dx)) ∧ H2 dx = some (exd dx fs) ∧ fs.length ≤ 900 ∧ D.nx σ (upd H2 dx (exd dx ((f, y) :: fs))))
section
variable {X : Cx} {o e : Expr} {es : List Expr} {to te : TE} {ta : TA} {f : Str} {p p' p1 p2 pos : Pos}
theorem pe_leinit {pl : Sem Bool} (hg : Gl X "LookupError") (hm : X.mg "LookupError" = none) (vV : PySem.W.findCls X.K (.type "LookupError") (.type "type") "__init__" = some (.val (.builtin "LookupError.__init__"))) (ha : PA X (e :: es) ta)
  (hc : eval (.Call (.Attribute (.Name "LookupError" p1) "__init__" p2) (e :: es) [] pos) X.env = (do
   let ov ← eval (.Name "LookupError" p1) X.env
   standAt p2.atName
   let (f, first) ← holding [ov] (getMethod ov "__init__" pl)
   callWith pos f first (backTo pos (starEach (e :: es) X.env)) (backToKw pos (keywordEach [] X.env))) := by rfl)
  (he : starEach (e :: es) X.env = (false, eval e X.env) :: starEach es X.env := by rfl) (hpl : (backTo pos (starEach es X.env)).any (·.1) = false := by rfl) :
  PE X (.Call (.Attribute (.Name "LookupError" p1) "__init__" p2) (e :: es) [] pos) (tLeI X.K ta) := by
 refine ⟨fun pins s σ H Q I h => ?_⟩
 refine PySem.W.methodCall_KW (ld_blt I hg hm PyProof.Rows.Boot.«LookupError» ?_ (by decide) (by decide)) hc
 obtain ⟨m, fr⟩ := I.fr
 refine PySem.W.method_type fr I.ok.mod.kin PySem.LOE.typ_LE (by decide +kernel) vV (by decide +kernel) ?_
 show wpAny _ _ (callWith pos (Value.builtin "LookupError.__init__") [] (backTo pos (starEach (e :: es) X.env)) []) _ _ _
 refine PyProof.Rows.callWith_method1 (thn (ha.run pos pins _ σ H _ (I.tok _) h) fun us s1 ⟨vs, H1, I1, r1, a, C, ws, ev, hl, T, ea, q⟩ => ?_) he hpl
 subst ev
 cases r1 with
 | @cons _ u0 _ ur ra rw' =>
   have e0 : u0 = Value.ref a := ra
   subst e0
   refine linit_ok T I1 ea ?_ fun s' J => ⟨.non, H1, J, rfl, q⟩
   rw [← Paired.length rw', sizeLine_eq]
   omega
theorem ps_lst (ho : PE X o to) (he : PE X e te) (hs : swapsWith e (some (.Attribute o f p')) pos.line X.env = pure false := by rfl) : PS X (.Assign [.Attribute o f p'] e pos) (tLst X.K f to te) := by
 refine ⟨fun pins s σ H D I h => ?_⟩
 refine plainObj_wpAny_Assign_Attribute (thn (he.run pins s σ H _ I h) fun v s1 ⟨y, H1, I1, r1, q1⟩ => thn (ho.run pins s1 σ H1 _ I1 q1) fun u s2 ⟨x, H2, I2, r2, a, C, ex, T, hno, q⟩ => ?_) hs
 subst ex
 have eu : u = Value.ref a := r2
 subst eu
 rcases q with ⟨ea, q⟩ | ⟨dx, fs, ea, ed, hl, q⟩
 · exact lst_new T I2 ea hno r1 fun dx s' n ne J => ⟨σ, _, J, q dx n ne⟩
 · exact lst_old T I2 ea ed hl hno r1 fun s' J => ⟨σ, _, J, q⟩
end
def spInitL (K : PySem.W.Frag) (n : Nat) (F : FT) : Sp := fun vs H Q _ => ∃ (a C : Addr) (ws : List V), vs = .ref a :: ws ∧ ws.length = n ∧ OexL K C ∧ (∀ p ∈ F, PySem.W.findIn K (.ref C) p.1 = some none) ∧ H a = some (exo a C none) ∧
 ∀ dx, H dx = none → dx ≠ a → Q .non (upd (upd H dx (exd dx (ftV F ws))) a (exo a C (some dx)))
section
variable {P : Program} {w : World} {K : PySem.W.Frag} {mg : Str → Option Value} {base : Heap}
theorem ok_initBL {qual : Str} {st : Stmt} {f : Addr} {fd : FuncData} {k : Nat} {p1 p2 p3 p4 p5 p6 p7 p8 p9 q1 : Pos} (F : Fun K "__init__" qual st f fd) (Sc : FnScope ["self", "word"] ["self", "word"] (defScope st))
  (hb : defBody st = [.Expr (.Call (.Attribute (.Name "LookupError" p1) "__init__" p2) [.Name "self" p3, .Name "word" p4] [] p5) p6, .Assign [.Attribute (.Name "self" p7) "word" p8] (.Name "word" p9) q1])
  (hv : (defScope st).names.lookup (Str.ofString "word") = some .local) (hvs : (defScope st).names.lookup (Str.ofString "self") = some .local) (hgl : (defScope st).names.lookup (Str.ofString "LookupError") = some .globalImplicit)
  (hme : MethEq (.Name "LookupError" p1) "__init__" p2 [.Name "self" p3, .Name "word" p4] p5) (mVE : mg "LookupError" = none) (vV : PySem.W.findCls K (.type "LookupError") (.type "type") "__init__" = some (.val (.builtin "LookupError.__init__"))) :
  FnO P w K mg base (KX P w) (k + 1) f fd ["self", "word"] (spInitL K 1 [("word", .inl 0)]) := by
 refine fnO_of F Sc (fun vs H Q E ⟨a, C, ws, e, hl, _⟩ => by rw [e]; simp [hl]) fun cdv A outer s H vs Q E p hr hsp => ?_
 obtain ⟨a, C, ws, rfl, hl, T, hf, ha, hq⟩ := hsp
 obtain ⟨y, rfl⟩ : ∃ y, ws = [y] := by
  match ws, hl with
  | [y], _ => exact ⟨y, rfl⟩
 rw [hb]
 obtain ⟨pl, hc⟩ := hme (envOfC qual (defScope st) s.heap.objs.size f cdv)
 refine ⟨_, pss_cons (ps_expr (pe_leinit hgl mVE vV (pa_cons (pv 0 rfl (.inl hvs)) (pa_cons (pv 1 rfl (.inl hv)) pa_nil)) hc)) (pss_one (ps_lst (pv 0 rfl (.inl hvs)) (pv 1 rfl (.inl hv)))), ?_⟩
 exact ⟨.ref a, rfl, y, rfl, a, C, [y], rfl, by simp, T, ha, y, rfl, .ref a, rfl, a, C, rfl, T, hf _ mcS, .inl ⟨ha, fun dx n ne => hq dx n ne⟩⟩
theorem ok_init1L {qual f1 BN : Str} {W0 : Str} {jj : Nat} {mc : Value} {B g : Addr} {gd : FuncData} {kk : Nat} {st : Stmt} {f : Addr} {fd : FuncData} {k : Nat} {p1 p2 p3 p4 p5 p6 p7 p8 p9 q1 : Pos} (F : Fun K "__init__" qual st f fd) (Sc : FnScope ["self", f1] ["self", f1] (defScope st))
  (hb : defBody st = [.Expr (.Call (.Attribute (.Name BN p1) "__init__" p2) [.Name "self" p3, .Constant (.str W0) jj p4] [] p5) p6, .Assign [.Attribute (.Name "self" p7) f1 p8] (.Name f1 p9) q1])
  (hv : (defScope st).names.lookup f1 = some .local) (hvs : (defScope st).names.lookup (Str.ofString "self") = some .local) (hgl : (defScope st).names.lookup BN = some .globalImplicit) (hdB : (BN == ("__debug__" : Str)) = false)
  (h1 : (f1 == ("__debug__" : Str)) = false) (h2 : (f1 == ("__classdict__" : Str)) = false) (hfw : (f1 : Str) ≠ "word")
  (hme : MethEq (.Name BN p1) "__init__" p2 [.Name "self" p3, .Constant (.str W0) jj p4] p5) (gB : mg BN = some (.ref B)) (c : CFn K B mc "__init__" g) (FB : FnO P w K mg base (KX P w) kk g gd ["self", "word"] (spInitL K 1 [("word", .inl 0)])) (bB : Binds K gd ["self", "word"] []) (hk : kk ≤ k) :
  FnO P w K mg base (KX P w) (k + 1) f fd ["self", f1] (spInitL K 1 [(f1, .inl 0), ("word", .inr W0)]) := by
 refine fnO_of F Sc (fun vs H Q E ⟨a, C, ws, e, hl, _⟩ => by rw [e]; simp [hl]) fun cdv A outer s H vs Q E p hr hsp => ?_
 obtain ⟨a, C, ws, rfl, hl, T, hf, ha, hq⟩ := hsp
 obtain ⟨y, rfl⟩ : ∃ y, ws = [y] := by
  match ws, hl with
  | [y], _ => exact ⟨y, rfl⟩
 rw [hb]
 obtain ⟨pl, hc⟩ := hme (envOfC qual (defScope st) s.heap.objs.size f cdv)
 refine ⟨_, pss_cons (ps_expr (pe_clsfn (takes_of rfl rfl rfl rfl) c FB (hr.mono hk) bB hgl gB (pa_cons (pv 0 rfl (.inl hvs)) (pa_cons pe_str pa_nil)) hc hdB)) (pss_one (ps_lst (pv 0 rfl (.inl hvs)) (pv 1 rfl (.inl hv) h1 h2))), ?_⟩
 refine ⟨.ref a, rfl, a, C, [.str W0], rfl, rfl, T, fun p hp => ?_, ha, fun dx n ne => ⟨y, rfl, .ref a, rfl, a, C, rfl, T, hf _ mcS, .inr ⟨dx, _, upd_same, by rw [upd_ne ne, upd_same], by simp [ftV], ?_⟩⟩⟩
 · rw [msG.mp hp]
   exact hf ("word", .inr W0) (mcM _ mcS)
 · have := hq dx n ne
   rw [upd_swap ne.symm, upd_upd]
   exact this
theorem ok_init0L {qual BN : Str} {W0 : Str} {jj : Nat} {mc : Value} {B g : Addr} {gd : FuncData} {kk : Nat} {st : Stmt} {f : Addr} {fd : FuncData} {k : Nat} {p1 p2 p3 p4 p5 p6 : Pos} (F : Fun K "__init__" qual st f fd) (Sc : FnScope ["self"] ["self"] (defScope st))
  (hb : defBody st = [.Expr (.Call (.Attribute (.Name BN p1) "__init__" p2) [.Name "self" p3, .Constant (.str W0) jj p4] [] p5) p6])
  (hvs : (defScope st).names.lookup (Str.ofString "self") = some .local) (hgl : (defScope st).names.lookup BN = some .globalImplicit) (hdB : (BN == ("__debug__" : Str)) = false)
  (hme : MethEq (.Name BN p1) "__init__" p2 [.Name "self" p3, .Constant (.str W0) jj p4] p5) (gB : mg BN = some (.ref B)) (c : CFn K B mc "__init__" g) (FB : FnO P w K mg base (KX P w) kk g gd ["self", "word"] (spInitL K 1 [("word", .inl 0)])) (bB : Binds K gd ["self", "word"] []) (hk : kk ≤ k) :
  FnO P w K mg base (KX P w) (k + 1) f fd ["self"] (spInitL K 0 [("word", .inr W0)]) := by
 refine fnO_of F Sc (fun vs H Q E ⟨a, C, ws, e, hl, _⟩ => by rw [e]; simp [hl]) fun cdv A outer s H vs Q E p hr hsp => ?_
 obtain ⟨a, C, ws, rfl, hl, T, hf, ha, hq⟩ := hsp
 obtain rfl : ws = [] := List.eq_nil_of_length_eq_zero hl
 rw [hb]
 obtain ⟨pl, hc⟩ := hme (envOfC qual (defScope st) s.heap.objs.size f cdv)
 refine ⟨_, pss_one (ps_expr (pe_clsfn (takes_of rfl rfl rfl rfl) c FB (hr.mono hk) bB hgl gB (pa_cons (pv 0 rfl (.inl hvs)) (pa_cons pe_str pa_nil)) hc hdB)), ?_⟩
 refine ⟨.ref a, rfl, a, C, [.str W0], rfl, rfl, T, fun p hp => ?_, ha, fun dx n ne => hq dx n ne⟩
 rw [msG.mp hp]
 exact hf ("word", .inr W0) mcS
end
structure XML (P : Program) (w : World) (K : PySem.W.Frag) (mg : Str → Option Value) (base : Heap) (x : Str) (k n : Nat) (F : FT) (C : Addr) : Prop where
 T : OexL K C
 nf : ∀ p ∈ F, PySem.W.findIn K (.ref C) p.1 = some none
 gm : mg x = some (.ref C)
 xf : XfC K C
 ini : ∃ (fI : Addr) (fd : FuncData) (qs : List Str), FnO P w K mg base (KX P w) k fI fd qs (spInitL K n F) ∧ PySem.W.findIn K (.ref C) "__init__" = some (some (.ref fI)) ∧ PySem.W.typeIn K (.ref fI) = some (.type "function") ∧ L2.Binds K fd qs []
section
variable {X : Cx}
theorem post_madeL {H : Hp} {a C : Addr} {n : Nat} {F : FT} {ws : List V} {Q : XK} {E : XK} (T : OexL X.K C) (nf : ∀ p ∈ F, PySem.W.findIn X.K (.ref C) p.1 = some none) (hl : ws.length = n) (na : H a = none) (q : ∀ d, H d = none → Q (.ref C) (some d) (upd H d (.xd (ftV F ws)))) :
  spInitL X.K n F (.ref a :: ws) (upd H a (exo a C none)) (fun v H2 => v = .non ∧ ∃ (d : Addr) (fs : List (Str × V)), H2 a = some (exo a C (some d)) ∧ H2 d = some (exd d fs) ∧ H d = none ∧ Q (.ref C) (some d) (upd (del H2 a) d (.xd fs))) E := by
 refine ⟨a, C, ws, rfl, hl, T, nf, upd_same, fun dx n ne => ⟨rfl, dx, _, upd_same, by rw [upd_ne ne, upd_same], ?_, ?_⟩⟩
 · rwa [upd_ne ne] at n
 · rw [made_eq na ne]
   exact q dx (by rwa [upd_ne ne] at n)
theorem mk_runL {W : WX} {C fI : Addr} {k n : Nat} {fd : FuncData} {qs : List Str} {F : FT} {pins : List (Addr × Obj)} {σ : L2.St} {H1 : Hp} {s1 : Shared} {us : List Value} {vs : List V} {Q : XK} (tk : Takes X W) (T : OexL X.K C) (nf : ∀ p ∈ F, PySem.W.findIn X.K (.ref C) p.1 = some none) (iC : PySem.W.findIn X.K (.ref C) "__init__" = some (some (.ref fI)))
  (tI : PySem.W.typeIn X.K (.ref fI) = some (.type "function")) (F1 : FnO X.prog X.w X.K X.mg X.base (KX X.prog X.w) k fI fd qs (spInitL X.K n F)) (hr : L2H.RoomH (k + 1) X.A) (hb : L2.Binds X.K fd qs []) (I1 : Inv X pins σ H1 s1) (r1 : Vals vs us) (hn : n ≤ 1000) (hl : vs.length = n)
  (q : ∀ d, H1 d = none → Q (.ref C) (some d) (upd H1 d (.xd (ftV F vs)))) : wpAny (model X.prog X.w) X.A (call (.ref C) us) (fun u s' => MkP X pins σ Q u s' ∧ Six u s') X.xe s1 := by
 obtain ⟨nm, q0, ns0, b0, bm, s1', s2, a1, c1, d1, z0, z1, z2, z3, z5, hC, hbm⟩ := T.cls
 obtain ⟨hp, gs, dr, tn, os⟩ := s1
 have big : hp.objs.size ≤ hp.objs.size + 1 := Nat.le_succ _
 have old : ∀ b o, hp.get? b = some o → ((hp.push (PySem.W.kdv_tup us)).push (PySem.HandSPX.excO C hp.objs.size)).get? b = some o := fun b o e =>
  Heap.get?_push_of_some _ (Heap.get?_push_of_some _ e)
 have new : ((hp.push (PySem.W.kdv_tup us)).push (PySem.HandSPX.excO C hp.objs.size)).get? (hp.objs.size + 1) = some (PySem.HandSPX.excO C hp.objs.size) := by
  heap_get
 have I2 := I1.laid (t' := tn) (a := hp.objs.size + 1) (o := exo (hp.objs.size + 1) C none) (h' := (hp.push (PySem.W.kdv_tup us)).push (PySem.HandSPX.excO C hp.objs.size)) old big (exo_ok new)
 have hq := post_madeL (E := fun _ _ _ => False) T nf hl (I1.hok.fresh big) q
 have r2 : Vals (V.ref (hp.objs.size + 1) :: vs) (Value.ref (hp.objs.size + 1) :: us) := .cons rfl r1
 have hlen : (Value.ref (hp.objs.size + 1) :: us).length = qs.length := by
  have e := r2.length
  rw [F1.len _ _ _ _ hq] at e
  exact e.symm
 have hus : us.length ≤ sizeLine := by
  rw [← Paired.length r1, sizeLine_eq]
  omega
 refine wpAny_call (PySem.HandSPX.call_own PySem.F.excBase_LookupError (fun Y => PySem.LOE.le_has Y hbm) (I1.kIn _ _ hC) (PySem.W.looks_findIn I1.kIn iC) (fun self => PySem.W.bind_fn I1.kIn self tI) hus ?_)
 have run := F1.run _ X.stack _ _ ⟨Value.ref (hp.objs.size + 1) :: us, []⟩ (Value.ref (hp.objs.size + 1) :: us) _ _ (fun _ _ _ => False) (hr.make C us []) (I2.env0.make C us []) (by
  have := hb ⟨(hp.push (PySem.W.kdv_tup us)).push (PySem.HandSPX.excO C hp.objs.size), gs, dr, tn, os⟩ (Value.ref (hp.objs.size + 1) :: us) I2.kIn (by rw [apQ]; exact hlen)
  rw [apQ] at this
  exact this) r2 hq
 refine codeAny_mono run fun r s' hq' => ?_
 cases r with
 | error er => exact passesF tk pins σ _ _ er s' I2 hq'
 | ok fl =>
   cases fl with
   | ret u =>
     obtain ⟨v, H2, os2, bare2, un2, hok2, rv, ev, d, fs, ea, ed, hd1, q2⟩ := hq'
     cases ev
     obtain ⟨h2, g2, e2, t2, os'⟩ := s'
     exact ⟨rv, mk_end (raises_own T.exC T.tyC) I1 big old un2 hok2 os2 bare2 ea ed hd1 q2⟩
   | next => cases hq'
   | brk => cases hq'
   | cont => cases hq'
theorem pmk_l0 {W : WX} {x : Str} {k j : Nat} {F : FT} {C : Addr} {p pos : Pos} (tk : Takes X W) (M : XML X.prog X.w X.K X.mg X.base x k 0 F C) (hr : L2H.RoomH j X.A) (hj : k + 1 ≤ j) (hg : Gl X x) (hdb : (x == ("__debug__" : Str)) = false) :
  PMk6 X (.Call (.Name x p) [] [] pos) (fun _ H Q => ∀ d, H d = none → Q (.ref C) (some d) (upd H d (.xd (ftV F [])))) := by
 obtain ⟨fI, fd, qs, F1, iC, tI, hb⟩ := M.ini
 intro pins s σ H Q I q
 refine wpAny_Call_Name_kw (ld_glob I hg M.gm ?_ hdb)
 refine PySem.W.callWith_K0 (first := []) I.kIn M.T.kC ?_
 exact mk_runL tk M.T M.nf iC tI F1 (hr.mono hj) hb I .nil (by decide) rfl q
theorem pmk_l {W : WX} {x : Str} {k n j : Nat} {F : FT} {C : Addr} {e : Expr} {es : List Expr} {ta : TA} {p pos : Pos} (tk : Takes X W) (M : XML X.prog X.w X.K X.mg X.base x k n F C) (hn : n ≤ 1000) (hr : L2H.RoomH j X.A) (hj : k + 1 ≤ j) (hg : Gl X x) (ha : PA X (e :: es) ta)
  (hdb : (x == ("__debug__" : Str)) = false) (he : starEach (e :: es) X.env = (false, eval e X.env) :: starEach es X.env) (hpl : (backTo pos (starEach es X.env)).any (·.1) = false) :
  PMk6 X (.Call (.Name x p) (e :: es) [] pos) (tMkX F n C ta) := by
 obtain ⟨fI, fd, qs, F1, iC, tI, hb⟩ := M.ini
 intro pins s σ H Q I h
 refine wpAny_Call_Name_kw (ld_glob I hg M.gm ?_ hdb)
 refine PySem.W.callWith_K (h₀ := X.base) I.ok.mod.kin M.T.kC (thn (ha.run pos pins s σ H _ I h) fun us s1 ⟨vs, H1, I1, r1, hz, q1⟩ => ⟨I1.kIn, ?_⟩) he hpl
 exact mk_runL tk M.T M.nf iC tI F1 (hr.mono hj) hb I1 r1 hn hz q1
variable {E : ExP} {Γ : Env'} {O : Own} {De : EndsD}
theorem ws_raiseL {x : Str} {k n j : Nat} {F : FT} {C : Addr} {a : Expr} {es : List Expr} {p cp pos : Pos} (M : XML X.prog X.w X.K X.mg X.base x k n F C) (hr : Room j X.A) (hj : k + 1 ≤ j) (hc : X.calm = true)
  (h : WA X E (a :: es) Γ O fun ds O' => ds.length = n ∧ E ⟨.ref C, ftD F ds⟩ Γ O') (hn : n ≤ 1000 := by decide) (hg : Gl X x := by rfl) (hdb : (x == ("__debug__" : Str)) = false := by decide)
  (he : starEach (a :: es) X.env = (false, eval a X.env) :: starEach es X.env := by rfl) (hpl : (backTo cp (starEach es X.env)).any (·.1) = false := by rfl) :
  WS X E (.Raise (some (.Call (.Name x p) (a :: es) [] cp)) none pos) Γ O De := .mk fun W σ H Hd q =>
 wS_of (ps_raise hc q.tk (PMk6.pmk (pmk_l q.tk M hn (L2H.roomH_of hr) hj hg (ta := wA X (a :: es)) paW hdb he hpl))) (h.use q fun vs H1 ds O1 Hd1 s1 p1 r1 ⟨hl, e⟩ => ⟨by rw [r1.length]; exact hl, fun d nd =>
  p1.ex _ _ σ _ Hd1 _ Γ O1 (Same.refl _) p1.g (p1.h.xdNew nd) ⟨rfl, C, d, rfl, rfl, _, upd_same, ft_rep r1 F⟩ e⟩)
theorem ws_raiseL0 {x : Str} {k j : Nat} {F : FT} {C : Addr} {p cp pos : Pos} (M : XML X.prog X.w X.K X.mg X.base x k 0 F C) (hr : Room j X.A) (hj : k + 1 ≤ j) (hc : X.calm = true)
  (h : E ⟨.ref C, ftD F []⟩ Γ O) (hg : Gl X x := by rfl) (hdb : (x == ("__debug__" : Str)) = false := by decide) :
  WS X E (.Raise (some (.Call (.Name x p) [] [] cp)) none pos) Γ O De := .mk fun W σ H Hd q =>
 wS_of (ps_raise hc q.tk (PMk6.pmk (pmk_l0 q.tk M (L2H.roomH_of hr) hj hg hdb))) fun d nd => q.ex _ _ σ _ Hd _ Γ O (Same.refl _) q.g (q.h.xdNew nd) ⟨rfl, C, d, rfl, rfl, _, upd_same, ft_rep (K := X.K) (H := Hd) .nil F⟩ h
end
end RW
namespace RW
open PySem PySem.Spec PyProof.Rows L2
section
variable {P : Program} {w : World} {K : PySem.W.Frag} {mg : Str → Option Value} {base h : Heap}
abbrev BndT (x q : Str) (st : Stmt) (ps : List Str) : Prop := ∀ (kV doc pm : Value) (an : Option Addr) (cdv ct : Value) (us : List Value), us.length = ps.length → bindArgs (PySem.W.fnOf x q (defArgs st) (defBody st) (defScope st) .none kV doc pm an cdv ct) ⟨us, []⟩ = pure (ps.zip us)
theorem Gfd.fd (P : Program) (w : World) (base : Heap) (X : K.In h) (G : h.Ns mainGlobals mg) {al x : Str} {st : Stmt} {ps : List Str} {k : Nat} {S : SpD} (d : Gfd K al x st) (ok : ∀ f fd, Fun K x x st f fd → FnOk P w K mg base (KX P w) k f fd ps (spD K S)) (b : BndT x x st ps) :
  Fd P w K mg base al k ps S := by
 obtain ⟨f, a, fd, F⟩ := d
 exact ⟨f, fd, ok f fd F, PySem.W.mg_of X G a, F.kp, F.binds b⟩
theorem NfL.all {C : Addr} {fs : List Str} (h : NfL K C fs) : ∀ f ∈ fs, PySem.W.findIn K (.ref C) f = some none := by
 induction h with
 | n => exact fun _ z => nomatch z
 | c h _ ih =>
   intro g hg
   rcases mCq.mp hg with e | e
   · rw [e]; exact h
   · exact ih g e
theorem CuR.cons {S C : Addr} {b d : Bool} {r : List Value} (u : CuR K C) (p : PySem.W.subIn K (.ref S) (.ref C) = some b) (t : PySem.W.exmAny K (.ref S) r = some d) : PySem.W.exmAny K (.ref S) (.ref C :: r) = some (b || d) := exm_cons (exm_pair u.b u.c u.t p) t
structure BsR (P : Program) (w : World) (K : PySem.W.Frag) (mg : Str → Option Value) (base : Heap) (BN : Str) (sp : Sp) : Prop where
 nd : (BN == ("__debug__" : Str)) = false
 ex : ∃ (B g : Addr) (mc : Value) (gd : FuncData), mg BN = some (.ref B) ∧ CFn K B mc "__init__" g ∧ FnO P w K mg base (KX P w) 1 g gd ["self", "word"] sp ∧ Binds K gd ["self", "word"] []
def fOk (f : Str) : Prop := (f == ("__debug__" : Str)) = false ∧ (f == ("__classdict__" : Str)) = false ∧ (f : Str) ≠ "word"
instance (f : Str) : Decidable (fOk f) := inferInstanceAs (Decidable (_ ∧ _ ∧ _))
abbrev InS (st : Stmt) (ps : List Str) : Prop := FnScope ps ps (defScope st)
theorem ExR.x0 (X : K.In h) (G : h.Ns mainGlobals mg) {x q BN : Str} {st : Stmt} {C : Addr} {jj : Nat} {p1 p2 p3 p4 p5 p6 : Pos} (d : ExR K x q st C ["word"]) (B : BsR P w K mg base BN (spInit K 1 [("word", .inl 0)])) (Sc : InS st ["self"])
  (hb : defBody st = [.Expr (.Call (.Attribute (.Name BN p1) "__init__" p2) [.Name "self" p3, .Constant (.str x) jj p4] [] p5) p6])
  (hvs : (defScope st).names.lookup (Str.ofString "self") = some .local) (hgl : (defScope st).names.lookup BN = some .globalImplicit)
  (hme : MethEq (.Name BN p1) "__init__" p2 [.Name "self" p3, .Constant (.str x) jj p4] p5) (bd : BndT "__init__" q st ["self"]) : XMk P w K mg base x 2 0 [("word", .inr x)] C := by
 obtain ⟨g, T, xf, nf, f, fd, i, t, F⟩ := d
 obtain ⟨hdB, B0, g0, mc, gd, gB, c, FB, bB⟩ := B
 exact ⟨T, fun p hp => nf.all _ (by rw [msG.mp hp]; exact mcS), PySem.W.mg_of X G g, xf, f, fd, _, ok_init0 (k := 1) F Sc hb hvs hgl hdB hme gB c FB bB (Nat.le_refl _), i, t, F.binds bd⟩
theorem ExR.x1 (X : K.In h) (G : h.Ns mainGlobals mg) {x q BN f1 : Str} {st : Stmt} {C : Addr} {jj : Nat} {p1 p2 p3 p4 p5 p6 p7 p8 p9 q1 : Pos} (d : ExR K x q st C [f1, "word"]) (B : BsR P w K mg base BN (spInit K 1 [("word", .inl 0)])) (Sc : InS st ["self", f1])
  (hb : defBody st = [.Expr (.Call (.Attribute (.Name BN p1) "__init__" p2) [.Name "self" p3, .Constant (.str x) jj p4] [] p5) p6, .Assign [.Attribute (.Name "self" p7) f1 p8] (.Name f1 p9) q1])
  (hv : (defScope st).names.lookup f1 = some .local) (hvs : (defScope st).names.lookup (Str.ofString "self") = some .local) (hgl : (defScope st).names.lookup BN = some .globalImplicit)
  (hme : MethEq (.Name BN p1) "__init__" p2 [.Name "self" p3, .Constant (.str x) jj p4] p5) (bd : BndT "__init__" q st ["self", f1]) (fo : fOk f1 := by decide) : XMk P w K mg base x 2 1 [(f1, .inl 0), ("word", .inr x)] C := by
 obtain ⟨g, T, xf, nf, f, fd, i, t, F⟩ := d
 obtain ⟨hdB, B0, g0, mc, gd, gB, c, FB, bB⟩ := B
 refine ⟨T, fun p hp => nf.all _ ?_, PySem.W.mg_of X G g, xf, f, fd, _, ok_init1 (k := 1) F Sc hb hv hvs hgl hdB fo.1 fo.2.1 fo.2.2 hme gB c FB bB (Nat.le_refl _), i, t, F.binds bd⟩
 rcases mCq.mp hp with e | e
 · rw [e]; exact mcS
 · rw [msG.mp e]; exact mcM _ mcS
theorem ExRL.x0 (X : K.In h) (G : h.Ns mainGlobals mg) {x q BN : Str} {st : Stmt} {C : Addr} {jj : Nat} {p1 p2 p3 p4 p5 p6 : Pos} (d : ExRL K x q st C ["word"]) (B : BsR P w K mg base BN (spInitL K 1 [("word", .inl 0)])) (Sc : InS st ["self"])
  (hb : defBody st = [.Expr (.Call (.Attribute (.Name BN p1) "__init__" p2) [.Name "self" p3, .Constant (.str x) jj p4] [] p5) p6])
  (hvs : (defScope st).names.lookup (Str.ofString "self") = some .local) (hgl : (defScope st).names.lookup BN = some .globalImplicit)
  (hme : MethEq (.Name BN p1) "__init__" p2 [.Name "self" p3, .Constant (.str x) jj p4] p5) (bd : BndT "__init__" q st ["self"]) : XML P w K mg base x 2 0 [("word", .inr x)] C := by
 obtain ⟨g, T, xf, nf, f, fd, i, t, F⟩ := d
 obtain ⟨hdB, B0, g0, mc, gd, gB, c, FB, bB⟩ := B
 exact ⟨T, fun p hp => nf.all _ (by rw [msG.mp hp]; exact mcS), PySem.W.mg_of X G g, xf, f, fd, _, ok_init0L (k := 1) F Sc hb hvs hgl hdB hme gB c FB bB (Nat.le_refl _), i, t, F.binds bd⟩
theorem ExRL.x1 (X : K.In h) (G : h.Ns mainGlobals mg) {x q BN f1 : Str} {st : Stmt} {C : Addr} {jj : Nat} {p1 p2 p3 p4 p5 p6 p7 p8 p9 q1 : Pos} (d : ExRL K x q st C [f1, "word"]) (B : BsR P w K mg base BN (spInitL K 1 [("word", .inl 0)])) (Sc : InS st ["self", f1])
  (hb : defBody st = [.Expr (.Call (.Attribute (.Name BN p1) "__init__" p2) [.Name "self" p3, .Constant (.str x) jj p4] [] p5) p6, .Assign [.Attribute (.Name "self" p7) f1 p8] (.Name f1 p9) q1])
  (hv : (defScope st).names.lookup f1 = some .local) (hvs : (defScope st).names.lookup (Str.ofString "self") = some .local) (hgl : (defScope st).names.lookup BN = some .globalImplicit)
  (hme : MethEq (.Name BN p1) "__init__" p2 [.Name "self" p3, .Constant (.str x) jj p4] p5) (bd : BndT "__init__" q st ["self", f1]) (fo : fOk f1 := by decide) : XML P w K mg base x 2 1 [(f1, .inl 0), ("word", .inr x)] C := by
 obtain ⟨g, T, xf, nf, f, fd, i, t, F⟩ := d
 obtain ⟨hdB, B0, g0, mc, gd, gB, c, FB, bB⟩ := B
 refine ⟨T, fun p hp => nf.all _ ?_, PySem.W.mg_of X G g, xf, f, fd, _, ok_init1L (k := 1) F Sc hb hv hvs hgl hdB fo.1 fo.2.1 fo.2.2 hme gB c FB bB (Nat.le_refl _), i, t, F.binds bd⟩
 rcases mCq.mp hp with e | e
 · rw [e]; exact mcS
 · rw [msG.mp e]; exact mcM _ mcS
end
end RW
namespace RW
open PySem PySem.Spec PyProof.Rows L2
structure IsxC (K : PySem.W.Frag) (C : Addr) : Prop where
 x : XfC K C
 ca : PySem.W.findIn K (.ref C) "__class__" = some (some (.builtin "object.__class__"))
 cn : PySem.W.specialIn K (.builtin "object.__class__") "__get__" = some (some (.builtin "getset_descriptor.__get__"))
 ct : PySem.W.takesIn K (.builtin "object.__class__") = some true
 cm : PySem.W.mroIn K C (.type "object") = some true
theorem IsxC.cl {K : PySem.W.Frag} {C : Addr} (T : IsxC K C) : (PySem.W.clsIn K C).isSome = true := by
 have h : PySem.W.hasDictIn K C = true := T.x.hdC
 unfold PySem.W.hasDictIn at h
 cases e : PySem.W.clsIn K C with
 | none => rw [e] at h; cases h
 | some cd => rfl
theorem pe_nam {X : Cx} {x : Str} {np : Pos} {c : Value} {cV : V} (h : Names X x c) (r : RelV cV c) : PE X (.Name x np) (fun _ H Q => Q cV H) := ⟨fun pins s σ H Q I q => name_ev h I ⟨cV, H, I, r, q⟩⟩
theorem inst_x {X : Cx} {pins : List (Addr × Obj)} {σ : L2.St} {H : Hp} {s : Shared} {a C dd : Addr} {oe : Obj} {fs : List (Str × V)} (J : HOk X.prog X.w H s.heap) (ha : s.heap.get? a = some oe) (hz : Zc (.ref C) (some dd) oe) (hf : ∃ vs, oe.data = .fields vs) (hd : H dd = some (.xd fs)) :
  ∃ od, PySem.W.InstAt s.heap a oe C (some od) := by
 have hx : ObjOk X.prog X.w H s.heap dd (.xd fs) := J dd _ hd
 obtain ⟨mA, hns, hr⟩ := hx
 obtain ⟨od, ho, hl⟩ := lookIn_ns hns
 obtain ⟨vs, hdt⟩ := hf
 exact ⟨od, ha, hz.1, by unfold PySem.W.notCls; rw [hdt] <;> rfl, by rw [hz.2]; exact ho⟩
def rIsX (K : PySem.W.Frag) (a C dd : Addr) : List V → Hp → VK → Prop := fun xs H Q => ∃ (fs : List (Str × V)) (c : V) (cv : Value) (b : Bool), xs = [.ref a, c] ∧ (∀ u, RelV c u → u = cv) ∧ H dd = some (.xd fs) ∧ PySem.W.kitOne K (.ref C) cv = some b ∧ Q (.bl b) H
theorem cr_isX {X : Cx} {a C dd : Addr} {oe : Obj} (hp : (a, oe) ∈ X.pn) (T : IsxC X.K C) (hz : Zc (.ref C) (some dd) oe) (hf : ∃ vs, oe.data = .fields vs) : CallR X (.builtin "isinstance") (rIsX X.K a C dd) := by
 intro pins s σ H xs us Q I r h
 obtain ⟨fs, c, cv, b, rfl, hc, hd, e, q⟩ := h
 obtain ⟨u1, u2, rfl, r1, r2⟩ := vals2 r
 obtain rfl := hc _ r2
 obtain rfl : u1 = Value.ref a := r1
 obtain ⟨ha, _⟩ := I.pin (a, oe) (maL _ hp)
 obtain ⟨od, J⟩ := inst_x (pins := pins) (σ := σ) (s := s) I.hok ha hz hf hd
 exact PySem.W.kia_one (PySem.W.kitx_exc T.cl T.x.ga T.x.gg T.x.exC T.ca T.cn T.ct T.cm) I.kIn J e (fun z => nomatch z) fun tk => ⟨.bl b, H, I.tok tk, rfl, q⟩
section
variable {X : Cx} {E : ExP} {Γ : Env'} {O : Own} {e : Expr} {Q : PD} {pos p p1 : Pos} {x : Str}
theorem w_isX {a C dd : Addr} {oe : Obj} {cV : V} {cv : Value} (hp : (a, oe) ∈ X.pn) (T : IsxC X.K C) (hz : Zc (.ref C) (some dd) oe) (hf : ∃ vs, oe.data = .fields vs) (hm : X.mg "isinstance" = none) (hn : Names X x cv) (hr : RelV cV cv) (h1 : ∀ u, RelV cV u → u = cv)
  (h : WE X E e Γ O fun d O1 => ∃ fs b, d = .xc a C dd fs ∧ PySem.W.kitOne X.K (.ref C) cv = some b ∧ Q (.bl b) O1) (hg : Gl X "isinstance" := by rfl)
  (he : starEach [e, .Name x p1] X.env = (false, eval e X.env) :: starEach [.Name x p1] X.env := by rfl) (he2 : starEach [.Name x p1] X.env = (false, eval (.Name x p1) X.env) :: starEach [] X.env := by rfl) (hpl : (backTo pos (starEach [.Name x p1] X.env)).any (·.1) = false := by rfl) :
  WE X E (.Call (.Name "isinstance" p) [e, .Name x p1] [] pos) Γ O Q := .mk fun W σ H Hd q =>
 wE_of (pe_callB (cr_isX hp T hz hf) hg hm boot_isinstance (pa_cons peW (pa_cons (pe_nam hn hr) pa_nil he2) he) (by decide) (by decide) he hpl) (h.use q fun v H1 d O1 Hd1 s1 p1 r1 ⟨fs, b, e1, e2, q1⟩ => by
  subst e1
  cases r1 with
  | xc g rf => exact ⟨_, cV, cv, b, rfl, h1, p1.h.same _ _ g, e2, .lift s1 (.of p1.h (.bl _) q1)⟩)
end
theorem w_call0 {X : Cx} {E : ExP} {Γ : Env'} {O : Own} {Q : PD} {pos p : Pos} {x : Str} {k j : Nat} {S : SpD} (F : Fd X.prog X.w X.K X.mg X.base x k [] S) (hr : Room j X.A) (hkj : k ≤ j) (h : S [] O Q (fun _ _ => False)) (hg : Gl X x := by rfl) (hdb : (x == ("__debug__" : Str)) = false := by decide) :
  WE X E (.Call (.Name x p) [] [] pos) Γ O Q := .mk fun W σ H Hd q => by
 obtain ⟨f, fd, F1, F2, F3, F4⟩ := F.ex
 intro pins s I
 exact (pe_call0 (dvs := []) (E := fun _ _ _ => False) F1 (hr.mono hkj) hg F2 F3 F4 .nil (passesF q.tk) hdb).run pins s σ H _ I ⟨[], Hd, O, Q, _, q.h, .nil, h, fun v H' z => z, fun _ _ _ _ _ _ _ _ _ z => z⟩
structure FnE (P : Program) (w : World) (K : PySem.W.Frag) (mg : Str → Option Value) (base : Heap) (k : Nat) (f : Addr) (fd : FuncData) (y : Str) (S : D → Own → PD → Prop) : Prop where
 run : ∀ (A : Around) (outer : List Env) (s : Shared) (H : Hp) (args : Args) (a C dd : Addr) (oe : Obj) (fs : List (Str × D)) (Q : VK), L2H.RoomH k A → Env0 P w K mg base A outer s H → L2H.PinOk outer H s (a, oe) → Zc (.ref C) (some dd) oe → (∃ vs, oe.data = .fields vs) →
  BindsTo s fd args ([y].zip [.ref a]) → (∃ (Hd : Hp) (O : Own) (Qd : PD), AbsH K H Hd O ∧ Rep K Hd (.ref a) (.xc a C dd fs) ∧ S (.xc a C dd fs) O Qd ∧ ∀ v H', Post K Hd Qd v H' → Q v H') →
  codeAny (model P w) A (.call (.ref f) args) (CR (KX P w) outer P w H s Q (fun _ _ _ => False)) s
def cxE (P : Program) (w : World) (K : PySem.W.Frag) (mg : Str → Option Value) (base : Heap) (N : List Str) (qual : Str) (scope : Scope) (f : Addr) (cd : Value) (A : Around) (outer : List Env) (s : Shared) (H : Hp) (p q : Addr × Obj) : Cx :=
 { cxOf (KX P w) P w K mg base N qual scope f cd A outer s H (fun _ _ _ => False) with calm := false, pn := [q, p] }
section
variable {P : Program} {w : World} {K : PySem.W.Frag} {mg : Str → Option Value} {base : Heap}
theorem fnE_of {x qual : Str} {st : Stmt} {f : Addr} {fd : FuncData} {N : List Str} {y : Str} {k : Nat} {S : D → Own → PD → Prop} (F : Fun K x qual st f fd) (Sc : FnScope N [y] (defScope st))
  (body : ∀ (cdv : Value) (A : Around) (outer : List Env) (s : Shared) (H : Hp) (p : Addr × Obj) (a C dd : Addr) (oe : Obj) (fs : List (Str × D)), L2H.RoomH k (A.deeper (envOfC qual (defScope st) s.heap.objs.size f cdv)) → Zc (.ref C) (some dd) oe → (∃ vs, oe.data = .fields vs) → ∀ O Q, S (.xc a C dd fs) O Q →
   WSs (cxE P w K mg base N qual (defScope st) f cdv A outer s H p (a, oe)) noEx (defBody st) (startD N [.xc a C dd fs]) O { nx := fun _ O' => Q .non O', rt := Q }) : FnE P w K mg base (k + 1) f fd y S := by
 obtain ⟨oc, od, kV, doc, pm, an, cdv, ct, osl, rfl, lk, hcd⟩ := F.ex
 refine ⟨fun A outer s H args a C dd oe fs Q hr e0 hpa hz hf hb hsp => ?_⟩
 obtain ⟨Hd, O, Qd, ab, rp, hS, k1⟩ := hsp
 have inS : K.In s.heap := e0.mod.kin.keeps fun b o e => (e0.bs b o e).1
 have nofr : f ∉ frs outer := fun hm => by
  have z := (e0.funs.mem hm).1
  rw [e0.mod.kin _ _ lk] at z
  cases z
 have hpin : L2H.PinOk outer H s (f, _) := ⟨inS _ _ lk, (e0.bs f _ (e0.mod.kin _ _ lk)).2, nofr, fun v z => by cases z⟩
 have lim : s.heap.NoLimit := e0.mod.nolimit.keeps fun b o e => (e0.bs b o e).1
 have r : Vals [V.ref a] [Value.ref a] := .cons rfl .nil
 have hkind : ∀ z ∈ [y].zip [Value.ref a], (defScope st).names.lookup z.1 = some .local ∨ ((defScope st).names.lookup z.1 = some .cell ∧ ((cellsFrom (s.heap.objs.size + 1) (defScope st).names []).lookup z.1).isSome = true) := fun z hz => by
  rcases Sc.par z.1 (List.of_mem_zip (show (z.1, z.2) ∈ _ from hz)).1 with q | q
  · exact .inl q
  · exact .inr ⟨q, PySem.W.cellsFrom_some _ _ _ (.inl q)⟩
 refine codeAny_call_function hr.depth (inS _ _ lk) rfl Sc.co Sc.gen rfl (PySem.W.codeRec_of inS hcd) (hb _ _ _ _ ?_)
 refine wpAny_newFunctionEnv_cells Sc.kind hkind fun env he s1 x => ?_
 subst he
 refine ⟨lim.keeps x.toInCall.keep, codeAny_func ?_⟩
 have J1 := L2H.inv_startH (CX := KX P w) (E := fun _ _ _ => False) Sc hpin e0 rfl r x
 have J2 := L2H.inv_startH (CX := KX P w) (E := fun _ _ _ => False) Sc hpa e0 rfl r x
 have J : Inv (cxE P w K mg base N qual (defScope st) f cdv A outer s H (f, _) (a, oe)) [] (L2.start N [V.ref a]) H s1 :=
  ⟨⟨J1.ok.mod, J1.ok.kind, J1.ok.glob, J1.ok.blt, J1.ok.above, J1.ok.inj, J1.ok.has, J1.ok.cab, J1.ok.hd, J1.ok.frames, J1.ok.stk, J1.ok.exf, J1.ok.bs, J1.ok.bsz, J1.ok.noex, J1.ok.exfs, J1.ok.funs, J1.ok.frf⟩, J1.os, J1.bare, J1.base, J1.loc, J1.cell, J1.free, J1.freeC, fun q hq => by
    rcases mCq.mp hq with h | h
    · rw [h]; exact J2.pin _ mcS
    · exact J1.pin q h, J1.hok, J1.len⟩
 have run := (body cdv A outer s H (f, _) a C dd oe fs (hr.deeper _) hz hf O Qd hS).run (fun _ _ _ _ => False) (L2.start N [V.ref a]) H Hd ⟨takes_none5, start_abs (.cons rp .nil), ab, fun _ _ _ _ _ _ _ _ _ _ _ _ z => z⟩ [] s1 J
 refine wpAny_mono run (fun fl s2 hs => ?_) fun e s2 hs => hs
 cases fl with
 | ret u =>
   obtain ⟨v, σ', H', J, rv, q⟩ := hs
   exact ⟨v, H', J.os, J.bare, J.base, J.hok, rv, k1 _ _ q⟩
 | next =>
   obtain ⟨σ', H', J, Γ', O', Hd', s', g', a', z⟩ := hs
   exact ⟨V.non, H', J.os, J.bare, J.base, J.hok, rfl, k1 _ _ ⟨_, O', Hd', s', a', .non, z⟩⟩
 | brk =>
   obtain ⟨_, _, _, _, _, _, _, _, _, q⟩ := hs
   exact q.elim
 | cont =>
   obtain ⟨_, _, _, _, _, _, _, _, _, q⟩ := hs
   exact q.elim
end
structure FdE (P : Program) (w : World) (K : PySem.W.Frag) (mg : Str → Option Value) (base : Heap) (x : Str) (k : Nat) (S : D → Own → PD → Prop) : Prop where
 ex : ∃ (f : Addr) (fd : FuncData) (y : Str), FnE P w K mg base k f fd y S ∧ mg x = some (.ref f) ∧ PySem.W.keepIn K (.ref f) = true ∧ Binds K fd [y] []
section
variable {X : Cx} {E : ExP} {Γ : Env'} {O : Own} {e : Expr} {es : List Expr} {Q : PD} {pos p cp : Pos} {x : Str}
theorem w_callE {k j : Nat} {S : D → Own → PD → Prop} {a C dd : Addr} {oe : Obj} (F : FdE X.prog X.w X.K X.mg X.base x k S) (hr : L2H.RoomH j X.A) (hkj : k ≤ j) (hp : (a, oe) ∈ X.pn) (hz : Zc (.ref C) (some dd) oe) (hf : ∃ vs, oe.data = .fields vs)
  (h : WA X E [e] Γ O fun ds O' => ∃ fs, ds = [.xc a C dd fs] ∧ S (.xc a C dd fs) O' Q) (hg : Gl X x := by rfl) (hdb : (x == ("__debug__" : Str)) = false := by decide) (he : starEach [e] X.env = (false, eval e X.env) :: starEach [] X.env := by rfl) (hpl : (backTo pos (starEach [] X.env)).any (·.1) = false := by rfl) :
  WE X E (.Call (.Name x p) [e] [] pos) Γ O Q := .mk fun W σ H Hd q => by
 obtain ⟨f, fd, y, F1, F2, F3, F4⟩ := F.ex
 intro pins s I
 refine wpAny_Call_Name_kw (ld_glob I hg F2 ?_ hdb)
 refine PySem.W.callWith_K (h₀ := X.base) I.ok.mod.kin F3 (thn (h.run W σ H Hd q pos pins s I) fun us s1 ⟨vs, H1, I1, r1, ds, O1, Hd1, s1', a1, rp, fs, e1, hS⟩ => ⟨I1.kIn, ?_⟩) he hpl
 subst e1
 cases rp with
 | cons rv rt =>
 cases rt
 cases rv with
 | xc g rf =>
 have eu := Vals.ref1 r1
 subst eu
 have pa : L2H.PinOk X.stack H1 s1 (a, oe) := by
  obtain ⟨g1, n, nl, nf, nc⟩ := I1.pin (a, oe) (maL _ hp)
  exact ⟨g1, n, fun hm => (mCq.mp (I1.stkSub _ hm)).elim nl nf, nc⟩
 have b := F4 s1 [.ref a] I1.kIn rfl
 refine wpAny_call (codeAny_mono (F1.run X.A X.stack s1 H1 ⟨[.ref a], []⟩ a C dd oe fs _ (hr.mono hkj) I1.env0 pa hz hf b ⟨Hd1, O1, Q, a1, .xc g rf, hS, fun v H' z => z.lift s1'⟩) fun r s2 hq => ?_)
 cases r with
 | error er =>
   obtain ⟨_, _, _, _, _, _, _, _, _, _, _, _, z⟩ := hq
   exact z.elim
 | ok fl =>
   cases fl with
   | ret u => exact I1.after hq
   | next => exact hq.elim
   | brk => exact hq.elim
   | cont => exact hq.elim
theorem w_mkf {n : Nat} {F : FT} {C : Addr} {f : Str} {Kx : L2.St → Hp → XK → Prop} (hk : ∀ W, Takes X W → PMk6 X (.Call (.Name x p) es [] cp) Kx) (T : XfC X.K C) (hno : PySem.W.findIn X.K (.ref C) f = some none)
  (hK : ∀ σ H Qx, wA X es σ H (fun vs H1 => vs.length = n ∧ ∀ d, H1 d = none → Qx (.ref C) (some d) (upd H1 d (.xd (ftV F vs)))) → Kx σ H Qx)
  (h : WA X E es Γ O fun ds O' => ds.length = n ∧ ∃ d, (ftD F ds).lookup f = some d ∧ Q d O') (hb : attributeBase (.Call (.Name x p) es [] cp) f X.env (eval (.Call (.Name x p) es [] cp) X.env) = eval (.Call (.Name x p) es [] cp) X.env := by rfl) :
  WE X E (.Attribute (.Call (.Name x p) es [] cp) f pos) Γ O Q := .mk fun W σ H Hd q => by
 intro pins s I
 refine attr_of hb (wpAny_mono (hk W q.tk pins s σ H (fun cls d H' => cls = .ref C ∧ ∃ dd fs v, d = some dd ∧ H' dd = some (.xd fs) ∧ fs.lookup f = some v ∧ Post X.K Hd Q v H') I (hK _ _ _ (h.use q fun vs H1 ds O1 Hd1 s1 p1 r1 ⟨hl, d, hd, e⟩ => ⟨by rw [r1.length]; exact hl, fun dn nd => ?_⟩))) (fun u s1 hu => ?_) fun _ _ x => x)
 · obtain ⟨v, h1, h2⟩ := lookD (ft_rep r1 F) hd
   exact ⟨rfl, dn, _, v, rfl, upd_same, h1, d, O1, Hd1, s1, p1.h.xdNew nd, h2, e⟩
 · obtain ⟨⟨a, oe, vs, s0, H1, cls, d, rfl, J, k, new, ha, hz, hd, h1, na, os, ag, r, rfl, dd, fs, v, rfl, hx, hl, post⟩, _⟩ := hu
   obtain ⟨hp, g, dr, tk, os1⟩ := s1
   obtain rfl : os1 = s0.os := os
   have I1 : Inv X pins σ H1 ⟨hp, g, dr, tk, s0.os⟩ := J.call (h' := hp) (g' := g) (d' := dr) (t' := tk) (ch := []) (Un.kept k) (J.hok.kept k) ag fun _ z => nomatch z
   obtain ⟨mA, hns, hr⟩ := (show ObjOk X.prog X.w H1 hp dd (.xd fs) from I1.hok dd _ hx)
   obtain ⟨od, ho, hlk⟩ := lookIn_ns hns
   obtain ⟨u, hu, ru⟩ := RelO.some_of (v := v) (o := mA f) (by rw [← hl]; exact hr f)
   have JI : PySem.W.InstAt hp a oe C (some od) := ⟨ha, hz.1, by unfold PySem.W.notCls; rw [hd] <;> rfl, by rw [hz.2.1]; exact ho⟩
   exact HandSPX.exc_get I1.kIn JI T.ga T.gg T.exC (PySem.W.findObj_own T.hdC hno rfl (by rw [hlk, hu])) (handed_of ru) ⟨v, H1, I1.tok _, ru, post⟩
end
end RW
namespace My
open PySem PySem.Spec PyProof.Rows L2 RW
local macro_rules | `(tactic| walk_at "ix") => `(tactic| first
 | with_reducible exact ix0 | with_reducible exact ix1 | with_reducible exact ix2 | with_reducible exact ix3 | with_reducible exact ix4 | with_reducible exact ix5 | with_reducible exact ix6 | with_reducible exact ix7 | with_reducible exact ix8 | with_reducible exact ix9 | with_reducible exact ix10 | with_reducible exact ix11 | with_reducible exact ix12 | with_reducible exact ix13 | with_reducible exact ix14 | with_reducible exact ix15 | with_reducible exact ix16 | with_reducible exact ix17 | with_reducible exact ix18 | with_reducible exact ix19 | with_reducible exact ix20 | with_reducible exact ix21 | with_reducible exact ix22 | with_reducible exact ix23 | with_reducible exact ix24 | with_reducible exact ix25)
local macro_rules | `(tactic| walk_at "nm") => `(tactic| first
 | ((refine w_vn (i := ?i) (d := ?d) (by assumption) ?hi ?hd ?hx ?_ ?hv); (case hi => walk_at "ix"); (case hd => rfl); (case hx => rfl); (case hv => first | exact Or.inl rfl | exact Or.inr (Or.inl rfl) | exact Or.inr (Or.inr rfl)))
 | refine w_globI (by assumption) ?_ | refine w_globT (by assumption) ?_ | refine w_var 0 rfl ?_ | refine w_var 1 rfl ?_ | refine w_var 2 rfl ?_)
local macro_rules | `(tactic| walk_at "s") => `(tactic| first
 | with_reducible refine sAdd_int ?_ | with_reducible refine sSub_int ?_ | with_reducible refine sCmp_int ?_ | with_reducible refine sTest_i ?_
 | with_reducible refine sEq_bl ?_ | with_reducible refine sNe_bl ?_ | with_reducible refine sEq_int ?_ | with_reducible refine sNe_int ?_
 | with_reducible refine sEq_tx ?_ | with_reducible refine sNe_tx ?_ | with_reducible refine sIn_one ?_ | with_reducible refine sNin_one ?_
 | with_reducible refine sEq_str ?_ | with_reducible refine sNe_str ?_
 | (with_reducible refine sLen_tx ?h2 ?_); (case h2 => first | assumption | omega)
 | with_reducible refine ex_int ?_ | with_reducible refine ex_str ?_ | with_reducible refine ex_bl ?_
 | with_reducible refine sLen_row ?_ | with_reducible refine sEq_row ?_ | with_reducible refine sNe_row ?_
 | with_reducible refine sLen_l ?_ | with_reducible refine sLen_t ?_
 | (with_reducible refine and_line ?h2 ?_); (case h2 => rfl)
 | (with_reducible refine sIx_o (xs := ?xs) (d := ?d) ?h1 ?h2 ?_); (case h1 => first | exact updO_same | assumption); (case h2 => first | rfl | assumption)
 | (with_reducible refine sIx_l (d := ?d) ?h2 ?_); (case h2 => first | rfl | assumption)
 | (with_reducible refine sIx_t (d := ?d) ?h2 ?_); (case h2 => first | rfl | assumption)
 | (with_reducible refine sIn_l ?h1 ?h2 ?_); (case h1 => rfl); (case h2 => first | rfl | assumption)
 | (with_reducible refine sNin_l ?h1 ?h2 ?_); (case h1 => rfl); (case h2 => first | rfl | assumption)
 | (with_reducible refine sIn_t ?h1 ?h2 ?_); (case h1 => rfl); (case h2 => first | rfl | assumption)
 | (with_reducible refine sNin_t ?h1 ?h2 ?_); (case h1 => rfl); (case h2 => first | rfl | assumption)
 | (with_reducible refine sMul_int ?h2 ?_); (case h2 => first | exact .inl (.inl ⟨by omega, by omega⟩) | exact .inl (.inr ⟨by omega, by omega⟩))
 | (with_reducible refine sMod_int ?h2 ?_); (case h2 => omega)
 | (with_reducible refine sDiv_int ?h2 ?_); (case h2 => first | exact .inl ⟨by omega, by omega⟩ | exact .inr ⟨by omega, by assumption⟩)
 | (with_reducible refine sPow_int ?h2 ?_); (case h2 => exact ⟨by decide, by decide, by decide⟩))
local macro_rules | `(tactic| walk_at "bin") => `(tactic| first | refine w_add ?_ | refine w_sub ?_ | refine w_mul ?_ | refine w_mod ?_ | refine w_div ?_ | refine w_pow ?_)
local macro_rules | `(tactic| walk_at "cmp") => `(tactic| first
 | refine w_eq (Room.units (by assumption)) ?_ | refine w_ne (Room.units (by assumption)) ?_ | refine w_lt ?_ | refine w_le ?_ | refine w_gt ?_ | refine w_ge ?_
 | refine w_lele ?_ | refine w_lelt ?_ | refine w_in ?_ | refine w_nin ?_ | refine w_isN ?_ | refine w_notN ?_)
local macro_rules | `(tactic| walk_at "tcmp") => `(tactic| first
 | refine wt_eq (Room.units (by assumption)) ?_ | refine wt_ne (Room.units (by assumption)) ?_ | refine wt_lele ?_ | refine wt_lelt ?_
 | refine wt_lt ?_ | refine wt_le ?_ | refine wt_gt ?_ | refine wt_ge ?_ | refine wt_isN ?_ | refine wt_notN ?_ | refine wt_in ?_ | refine wt_nin ?_)
local macro_rules | `(tactic| walk_at "cst") => `(tactic| first | refine w_int ?_ | refine w_tx ?_ | refine w_str ?_ | refine w_bl ?_ | refine w_non ?_)
local macro_rules | `(tactic| walk_at "we") => `(tactic| first
 | (with_reducible refine g_name ?_); walk_at "nm"
 | (with_reducible refine g_const ?_); walk_at "cst"
 | (with_reducible refine g_bin ?_); walk_at "bin"
 | (with_reducible refine g_sub ?_); (refine w_ix ?_)
 | (with_reducible refine g_cmp ?_); walk_at "cmp"
 | (with_reducible refine g_len ?_); (refine w_len (by assumption) ?_)
 | (with_reducible refine g_lst ?_); (refine w_lst ?_)
 | (with_reducible refine g_tup ?_); (refine w_tup ?_)
 | (with_reducible refine g_un ?_); (refine w_neg ?_)
 | (with_reducible refine g_call ?_); (first | refine w_list (by assumption) ?_ | refine w_sum rfl (by assumption) ?_))
local macro_rules | `(tactic| walk_at "wt") => `(tactic| first
 | (with_reducible refine gt_cmp ?_); walk_at "tcmp"
 | (with_reducible refine gt_not ?_); (refine wt_not ?_)
 | (with_reducible refine gt_bo ?_); (refine wt_bo ?_))
local macro_rules | `(tactic| walk_at "e") => `(tactic| first
 | (with_reducible refine g_we ?_); walk_at "we"
 | (with_reducible refine g_wa ?_); (first | refine wa_cons ?_ | refine wa_nil ?_)
 | (with_reducible refine g_wt ?_); walk_at "wt"
 | (with_reducible refine g_ww ?_); (first | refine ww_and ?_ | refine ww_or ?_ | refine ww_one (.inl rfl) ?_ | refine ww_one (.inr rfl) ?_)
 | (with_reducible refine g_if ?_); (first | refine g_we ?_ | refine g_wt ?_ | refine g_ww ?_ | refine g_wa ?_)
 | (with_reducible refine g_ssl ?_); (refine g_we ?_)
 | walk_at "s")
local macro_rules | `(tactic| walk_at "isi") => `(tactic| (first
 | refine isi_bool (by assumption) (by assumption) ?_ | refine isi_list (by assumption) (by assumption) ?_ | refine isi_tuple (by assumption) (by assumption) ?_ | refine isi_int (by assumption) (by assumption) ?_ | refine isi_is (by assumption) (by assumption) (by assumption) ?_
 | refine isi_dict (by assumption) (by assumption) ?_);
 (walk_at "we"); (first | refine isiE (by rfl) ?_ | refine isiE2 (by rfl) ?_ | refine isiE (tyO_L (by assumption)) ?_ | refine isiE2 (tyO_L (by assumption)) ?_ | skip))
local macro_rules | `(tactic| walk_at "loc") => `(tactic| first | exact Or.inl rfl | exact Or.inr rfl)
local macro_rules | `(tactic| walk_at "st") => `(tactic| first
 | (with_reducible refine gs_set ?_); (refine ws_setn (i := ?i) (by assumption) ?hi ?hx ?_ ?hv); (case hi => walk_at "ix"); (case hx => rfl); (case hv => walk_at "loc")
 | (with_reducible refine gs_retNm ?_); (refine ws_retO (i := ?i) (p := ?p) (ds := ?ds) (by assumption) ?hi ?hd ?hO ?hx ?_ ?hv); (case hi => walk_at "ix"); (case hd => rfl); (case hO => first | exact updO_same | assumption); (case hx => rfl); (case hv => first | exact Or.inl rfl | exact Or.inr (Or.inl rfl) | exact Or.inr (Or.inr rfl))
 | (with_reducible refine gs_ret ?_); (refine ws_ret ?_)
 | (with_reducible refine gs_expr ?_); (refine ws_expr ?_)
 | (with_reducible refine gs_if ?_); (refine ws_if ?_)
 | (with_reducible refine gs_aug ?_); (first | refine ws_augn (i := ?i) (by assumption) ?hi ?hd ?hx ?_ ?hv | refine ws_augSubn (i := ?i) (by assumption) ?hi ?hd ?hx ?_ ?hv); (case hi => walk_at "ix"); (case hd => rfl); (case hx => rfl); (case hv => walk_at "loc")
 | (with_reducible refine gs_break ?_); (refine ws_break ?_)
 | (with_reducible refine gs_cont ?_); (refine ws_continue ?_))
local macro_rules | `(tactic| walk_at "tg") => `(tactic| first
 | (with_reducible refine gg_name ?_); (refine wg_namen (i := ?i) (by assumption) ?hi ?hx ?_ ?hv); (case hi => walk_at "ix"); (case hx => rfl); (case hv => walk_at "loc")
 | (with_reducible refine gg_tup ?_); (refine wg_tup rfl ?_ rfl)
 | (with_reducible refine gg_pr ?_); (refine wg_pr rfl ?_ rfl))
local macro_rules | `(tactic| walk_at "dix") => `(tactic| first
 | ((refine w_mgetN (i := ?i) (kvs := ?kvs) (by assumption) ?hi ?hd ?hx ?_ ?hv); (case hi => walk_at "ix"); (case hd => rfl); (case hx => rfl); (case hv => first | exact Or.inl rfl | exact Or.inr (Or.inl rfl) | exact Or.inr (Or.inr rfl)))
 | ((refine w_dgetN (i := ?i) (kvs := ?kvs) (by assumption) ?hi ?hd ?hx (Room.units (by assumption)) ?_ ?hv); (case hi => walk_at "ix"); (case hd => rfl); (case hx => rfl); (case hv => first | exact Or.inl rfl | exact Or.inr (Or.inl rfl) | exact Or.inr (Or.inr rfl)))
 | ((refine w_mgetO (i := ?i) (p := ?p) (kvs := ?kvs) (by assumption) ?hi ?hd ?hO ?hx ?_ ?hv); (case hi => walk_at "ix"); (case hd => rfl); (case hO => first | exact updO_same | assumption); (case hx => rfl); (case hv => first | exact Or.inl rfl | exact Or.inr (Or.inl rfl) | exact Or.inr (Or.inr rfl)))
 | ((refine w_dgetO (i := ?i) (p := ?p) (kvs := ?kvs) (by assumption) ?hi ?hd ?hO ?hx (Room.units (by assumption)) ?_ ?hv); (case hi => walk_at "ix"); (case hd => rfl); (case hO => first | exact updO_same | assumption); (case hx => rfl); (case hv => first | exact Or.inl rfl | exact Or.inr (Or.inl rfl) | exact Or.inr (Or.inr rfl))))
local macro_rules | `(tactic| walk_at "we2") => `(tactic| first
 | (with_reducible refine g_name ?_); walk_at "nm"
 | (with_reducible refine g_const ?_); walk_at "cst"
 | (with_reducible refine g_bin ?_); walk_at "bin"
 | (with_reducible refine g_sl ?_); (refine w_sl ?_)
 | (with_reducible refine g_subN ?_); (first | walk_at "dix" | refine w_ix ?_)
 | (with_reducible refine g_sub ?_); (refine w_ix ?_)
 | (with_reducible refine g_cmp ?_); walk_at "cmp"
 | (with_reducible refine g_isi ?_); walk_at "isi"
 | (with_reducible refine g_len ?_); (refine w_len (by assumption) ?_)
 | (with_reducible refine g_callN ?_); (first | refine w_call (by assumption) (by assumption) (by omega) ?_ | refine w_list (by assumption) ?_ | refine w_sum rfl (by assumption) ?_)
 | (with_reducible refine g_lst ?_); (refine w_lst ?_)
 | (with_reducible refine g_tup ?_); (refine w_tup ?_)
 | (with_reducible refine g_and ?_); (refine w_and ?_)
 | (with_reducible refine g_or ?_); (refine w_or ?_)
 | (with_reducible refine g_bo1 ?_); (refine w_one ?_)
 | (with_reducible refine g_ite ?_); (refine w_ite ?_)
 | (with_reducible refine g_not ?_); (refine w_not ?_)
 | (with_reducible refine g_un ?_); (refine w_neg ?_))
local macro_rules | `(tactic| walk_at "blk") => `(tactic| first
 | with_reducible refine gl_set ?_ | with_reducible refine gl_ret ?_ | with_reducible refine gl_expr ?_ | with_reducible refine gl_if1 ?_ | with_reducible refine gl_aug ?_ | with_reducible refine gl_brk ?_ | with_reducible refine gl_cnt ?_)
local macro_rules | `(tactic| walk_at "v") => `(tactic| first
 | (with_reducible refine g_we ?_); walk_at "we2"
 | (with_reducible refine g_wa ?_); (first | refine wa_cons ?_ | refine wa_nil ?_)
 | (with_reducible refine gt_call ?_); (refine wt_val ?_)
 | (with_reducible refine g_wt ?_); walk_at "wt"
 | (with_reducible refine g_ww ?_); (first | refine ww_and ?_ | refine ww_or ?_ | refine ww_one (.inl rfl) ?_ | refine ww_one (.inr rfl) ?_)
 | walk_at "blk"; (first | refine wss_one ?_ | refine wss_cons ?_)
 | (with_reducible refine g_s0 ?_); (refine wss_nil ?_)
 | (with_reducible refine g_ws ?_); walk_at "st"
 | (with_reducible refine g_wg ?_); walk_at "tg"
 | (with_reducible refine gg_nil ?_); (refine wgs_nil ?_)
 | (with_reducible refine gg_cons ?_); (refine wgs_cons ?_)
 | (with_reducible refine g_won ?_); (refine wo_none ?_)
 | (with_reducible refine g_wo ?_); (refine wo_some ?_)
 | (with_reducible refine g_if ?_); (first | refine g_we ?_ | refine g_wt ?_ | refine g_ww ?_ | refine g_wa ?_ | refine br_t (by rfl) ?_ | refine br_f (by rfl) ?_)
 | (with_reducible refine sSl_t ?_)
 | walk_at "s")
local macro_rules | `(tactic| walk_at "x") => `(tactic| first
 | (with_reducible refine g_we ?_); walk_at "we2"
 | (with_reducible refine g_wa ?_); (first | refine wa_cons ?_ | refine wa_nil ?_)
 | (with_reducible refine gt_call ?_); (refine wt_val ?_)
 | (with_reducible refine g_wt ?_); walk_at "wt"
 | (with_reducible refine g_ww ?_); (first | refine ww_and ?_ | refine ww_or ?_ | refine ww_one (.inl rfl) ?_ | refine ww_one (.inr rfl) ?_)
 | (with_reducible refine g_s0 ?_); (refine wss_nil ?_)
 | (with_reducible refine g_ws ?_); walk_at "st"
 | (with_reducible refine g_wg ?_); walk_at "tg"
 | (with_reducible refine gg_nil ?_); (refine wgs_nil ?_)
 | (with_reducible refine gg_cons ?_); (refine wgs_cons ?_)
 | (with_reducible refine g_won ?_); (refine wo_none ?_)
 | (with_reducible refine g_wo ?_); (refine wo_some ?_)
 | (with_reducible refine g_if ?_); (first | refine g_we ?_ | refine g_wt ?_ | refine g_ww ?_ | refine g_wa ?_ | refine br_t (by rfl) ?_ | refine br_f (by rfl) ?_)
 | (with_reducible refine sSl_t ?_)
 | walk_at "s")
local macro_rules | `(tactic| walk_at "w") => `(tactic| first
 | (with_reducible refine gl_if ?_); (first | refine wss_one ?_ | refine wss_cons ?_)
 | (with_reducible refine g_body ?_); (first | refine wss_one ?_ | refine wss_cons ?_)
 | walk_at "v")
local macro_rules | `(tactic| walk_at "sc") => `(tactic| exact ⟨rfl, rfl, rfl, by decide +kernel, rfl, by decide +kernel, by decide +kernel⟩)
local macro_rules | `(tactic| walk_at "r") => `(tactic| repeat walk_at "v")
section
variable {P : Program} {w : World} {K : PySem.W.Frag} {mg : Str → Option Value} {base : Heap}
theorem scPull : FnScope ["_law_dr", "_law_many", "_law_cell", "_law_got", "_law_once"] ["_law_dr", "_law_many"] (defScope sPull) := by walk_at "sc"
theorem ok_pull {f : Addr} {fd : FuncData} {k : Nat} (F : Fun K "_law_pull" "_law_pull" sPull f fd) (mlen : mg "len" = none) : FnOk P w K mg base (KX P w) (k + 1) f fd ["_law_dr", "_law_many"] (spD K spPull) := by
 refine fd_ok F scPull (fun ds O Q E ⟨p, m, e, _⟩ => by rw [e]; rfl) (fun cdv A outer s H E0 hr ds O Q E ⟨p, m, e, hO, hm, hm2, hQ⟩ => ?_)
 subst e
 refine WSs.opn hO fun ds ⟨ns, i, a, s, e, hs1, hs2⟩ => ?_
 subst e
 have nd := scPull.nd
 have il : ∀ {c : Int} {d : D}, (ns.map D.int)[i]? = some d → True := fun _ => trivial
 -- if _law_dr[2] < _law_many and _law_dr[1] < len(_law_dr[0])
 refine wss_cut (fun Γ' O' => ∃ (c : Option D) (i : Nat) (a s : Int), Γ' = [some (.obj p), some (.int m), c, none, none] ∧ -(2 ^ 31) < s ∧ s < 2 ^ 31 ∧ O' = updO O p (.lst [.lst (ns.map .int), .int i, .int a, .int s])) ?_ ?_
 · refine ws_if ?_
   repeat walk_at "e"
   refine br (fun h1 => ?_) (fun h1 => ?_)
   rotate_left
   · exact wss_nil ⟨none, i, a, s, rfl, hs1, hs2, rfl⟩
   repeat walk_at "e"
   refine br (fun h2 => ?_) (fun h2 => ?_)
   rotate_left
   · exact wss_nil ⟨none, i, a, s, rfl, hs1, hs2, rfl⟩
   have h3 := of_decide_eq_true h2
   have hi : i < ns.length := by omega
   -- _law_cell = _law_dr[0][_law_dr[1]]
   refine wss_cons (ws_set 2 nd ?_)
   repeat walk_at "e"
   refine sIx_l (atI_nat (v := D.int ns[i]) (by rw [geM, geG hi]; rfl)) ?_
   refine wss_cons (ws_asg ?_)
   repeat walk_at "e"
   refine wg_sub ?_
   repeat walk_at "e"
   refine ⟨p, 1, _, 1, rfl, rfl, updO_same, rfl, ?_⟩
   refine wss_cons (ws_asg ?_)
   repeat walk_at "e"
   refine wg_sub ?_
   repeat walk_at "e"
   refine ⟨p, 2, _, 2, rfl, rfl, updO_same, rfl, ?_⟩
   rw [updO_updO, updO_updO]
   refine wss_cut (fun Γ' O' => ∃ (c : Int), Γ' = [some (.obj p), some (.int m), some (.int c), none, none] ∧ O' = updO O p (.lst [.lst (ns.map .int), .int (i + 1), .int 0, .int s])) ?_ ?_
   · refine ws_if ?_
     repeat walk_at "e"
     refine br (fun h1 => ?_) (fun h1 => ?_)
     · refine wss_one (ws_set 2 nd ?_)
       repeat walk_at "e"
       exact ⟨_, rfl, rfl⟩
     · exact wss_nil ⟨_, rfl, rfl⟩
   rintro Γ' O' ⟨c, rfl, rfl⟩
   refine wss_cut (fun Γ' O' => ∃ (a : Int), Γ' = [some (.obj p), some (.int m), some (.int c), none, none] ∧ O' = updO O p (.lst [.lst (ns.map .int), .int (i + 1), .int a, .int s])) ?_ ?_
   · refine ws_if ?_
     repeat walk_at "e"
     refine br (fun h1 => ?_) (fun h1 => ?_)
     · refine wss_one (ws_asg ?_)
       repeat walk_at "e"
       refine wg_sub ?_
       repeat walk_at "e"
       refine ⟨p, 2, _, 2, rfl, rfl, updO_same, rfl, ?_⟩
       rw [updO_updO]
       exact ⟨_, rfl, rfl⟩
     · exact wss_nil ⟨_, rfl, rfl⟩
   rintro Γ' O' ⟨a, rfl, rfl⟩
   refine wss_one (ws_asg ?_)
   repeat walk_at "e"
   refine wg_sub ?_
   repeat walk_at "e"
   refine ⟨p, 3, _, 3, rfl, rfl, updO_same, rfl, ?_⟩
   rw [updO_updO]
   exact ⟨_, i + 1, _, _, rfl, by omega, by omega, rfl⟩
 · rintro Γ' O' ⟨c, i, a, s, rfl, hs1, hs2, rfl⟩
   refine wss_cons (ws_if ?_)
   repeat walk_at "e"
   refine br (fun h1 => ?_) (fun h1 => ?_)
   · refine wss_cons (ws_set 3 nd ?_)
     repeat walk_at "e"
     refine wss_cons (ws_asg ?_)
     repeat walk_at "e"
     refine wg_sub ?_
     repeat walk_at "e"
     refine ⟨p, 2, _, 2, rfl, rfl, updO_same, rfl, ?_⟩
     refine WSs.cls (p := p) (Pw := DrOk) updO_same ⟨ns, i, _, s, rfl, hs1, hs2⟩ ?_
     rw [updO_updO, updO_updO, updO_self hO]
     refine wss_one (ws_ret ?_)
     repeat walk_at "e"
     exact hQ _ (Int.emod_nonneg _ (by omega)) (Int.emod_lt_of_pos _ hm)
   · refine wss_nil ?_
     refine wss_cons (ws_set 4 nd ?_)
     repeat walk_at "e"
     refine wss_cons (ws_asg ?_)
     repeat walk_at "e"
     refine wg_sub ?_
     repeat walk_at "e"
     refine ⟨p, 3, _, 3, rfl, rfl, updO_same, rfl, ?_⟩
     rw [updO_updO]
     refine wss_one (ws_ret (WE.clsP (p := p) (Pw := DrOk) ?_))
     repeat walk_at "e"
     refine ⟨_, updO_same, ⟨ns, i, a, _, rfl, by omega, by omega⟩, ?_⟩
     rw [updO_updO, updO_self hO]
     exact hQ _ (Int.emod_nonneg _ (by omega)) (Int.emod_lt_of_pos _ hm)
end
section
variable {P : Program} {w : World} {K : PySem.W.Frag} {mg : Str → Option Value} {base : Heap}
theorem scBag : FnScope ["_law_script"] ["_law_script"] (defScope sBag) := by walk_at "sc"
theorem cut_rolR (ns : List Int) (lo hi : Option Int) : ∃ ms : List Int, cutD (ns.map .int) lo hi = ms.map .int := ⟨_, cut_row ns lo hi⟩
theorem ok_bag {f : Addr} {fd : FuncData} {k : Nat} (F : Fun K "_law_bag" "_law_bag" sBag f fd) (mlst : mg "list" = none) : FnOk P w K mg base (KX P w) (k + 1) f fd ["_law_script"] (spD K spBag) := by
 refine fd_ok F scBag (fun ds O Q E ⟨ns, e, _⟩ => by rw [e]; rfl) (fun cdv A outer s H E0 hr ds O Q E ⟨ns, e, hQ⟩ => ?_)
 subst e
 refine wss_one (ws_ret (WE.clsP2 (w_lst (wa_cons (w_list mlst (w_sl ?_))))))
 repeat walk_at "e"
 refine wo_none (wo_some ?_)
 repeat walk_at "e"
 refine sSl_r (.fix ?_)
 obtain ⟨ms, e⟩ := cut_rolR ns none (some 63)
 rw [e]
 refine ⟨_, rfl, .fix ?_⟩
 repeat walk_at "e"
 refine .own fun p np => ⟨p, DrOk, _, updO_same, ⟨ms, 0, 0, 30011, rfl, by decide, by decide⟩, ?_⟩
 rw [updO_updO]
 exact hQ p np
end
section
variable {P : Program} {w : World} {K : PySem.W.Frag} {mg : Str → Option Value} {base : Heap}
def PlainD : Nat → D → Prop
 | _, .non => True
 | _, .bl _ => True
 | _, .int _ => True
 | _, .str _ => True
 | n + 1, .lst xs => xs.length ≤ 90000 ∧ ∀ d ∈ xs, PlainD n d
 | n + 1, .tup xs => xs.length ≤ 90000 ∧ ∀ d ∈ xs, PlainD n d
 | _, _ => False
theorem scSame : FnScope ["_law_found", "_law_due", "_law_k"] ["_law_found", "_law_due"] (defScope sSame) := by walk_at "sc"
def spSame (n : Nat) : SpD := fun ds O Q _ => ∃ x y : D, ds = [y, x] ∧ PlainD n x ∧ (y = x ∨ ∃ p xs, y = .obj p ∧ x = .lst xs ∧ O p = some (.lst xs)) ∧ Q (.bl true) O
theorem all_true {ds : List D} {O : Own} {Q : PD} (hQ : Q (.bl true) O) (ys : List D) (h1 : ys.length = ds.length) (h2 : ∀ (i : Nat) d, ds[i]? = some d → ∃ y, ys[i]? = some y ∧ y = .bl true) : Mk ys O fun d O1 => sAll d O1 Q := by
 have e : ys = (List.replicate ds.length true).map D.bl := by
  apply List.ext_getElem?
  intro i
  rw [geM, List.getElem?_replicate]
  by_cases hi : i < ds.length
  · obtain ⟨y, h3, h4⟩ := h2 i _ (geG hi)
    rw [h3, h4, if_pos hi]
    rfl
  · rw [geN.mpr (by omega), if_neg hi]
    rfl
 refine .fix ⟨_, by rw [e]; rfl, ?_⟩
 rw [show (List.replicate ds.length true).all id = true by simp]
 exact hQ
theorem ok_same {f : Addr} {fd : FuncData} {n : Nat} (F : Fun K "_law_same" "_law_same" sSame f fd) (GS : ∀ m, n = m + 1 → Fd P w K mg base "_law_same" n ["_law_found", "_law_due"] (spSame m))
  (misi : mg "isinstance" = none) (mb : mg "bool" = none) (mi : mg "int" = none) (ms : mg "str" = none) (ml : mg "list" = none) (mt : mg "tuple" = none) (mlen : mg "len" = none) (mall : mg "all" = none) (mrng : mg "range" = none) :
  FnOk P w K mg base (KX P w) (n + 1) f fd ["_law_found", "_law_due"] (spD K (spSame n)) := by
 refine fd_ok F scSame (fun ds O Q E ⟨_, _, e, _⟩ => by rw [e]; rfl) (fun cdv A outer s H E0 hr ds O Q E ⟨x, y, e, hx, hy0, hQ⟩ => ?_)
 subst e
 have nd := scSame.nd
 have hQ2 : Q (.bl true) O := hQ
 have hyx : (∀ xs, x ≠ .lst xs) → y = x := fun h => by
  rcases hy0 with e | ⟨p, xs, _, e, _⟩
  · exact e
  · exact absurd e (h xs)
 match x, hx with
 | .non, _ =>
   obtain rfl := hyx fun xs h => nomatch h
   repeat walk_at "w"
   exact hQ
 | .bl b, _ =>
   obtain rfl := hyx fun xs h => nomatch h
   repeat walk_at "w"
   simpa using hQ
 | .int i, _ =>
   obtain rfl := hyx fun xs h => nomatch h
   repeat walk_at "w"
   simpa using hQ
 | .str z, _ =>
   obtain rfl := hyx fun xs h => nomatch h
   repeat walk_at "w"
   simpa using hQ
 | .lst xs, hx =>
   have hyS : ∀ O2, RW.Sub O O2 → asS O2 y = some xs := fun O2 hs => by
    rcases hy0 with e | ⟨p, xs', e1, e2, e3⟩
    · rw [e]; rfl
    · cases e2
      rw [e1]
      exact asL_obj (hs _ _ e3)
   have hy : asL O y = some xs := by
    rcases hy0 with e | ⟨p, xs', e1, e2, e3⟩
    · rw [e]; rfl
    · cases e2
      rw [e1]
      exact asL_obj e3
   obtain ⟨hl, m, hm, hall⟩ : xs.length ≤ 90000 ∧ ∃ m, n = m + 1 ∧ ∀ d ∈ xs, PlainD m d := by
    cases n with
    | zero => exact hx.elim
    | succ m => exact ⟨hx.1, m, rfl, hx.2⟩
   repeat walk_at "w"
   refine sLen_L hy ?_
   repeat walk_at "w"
   refine br_t (by simp) (w_one (w_all rfl mall ?_))
   refine w_lc (own := [("_law_k", 2)]) [2] rfl nd (blkOk_by rfl) rfl (wi_rng1 mrng ?_)
   repeat walk_at "e"
   refine ⟨_, rfl, by omega, by omega, ?_⟩
   refine lc_all (fun _ _ y => y = .bl true) (by rw [rngD_len]; omega) (fun _ _ => trivial) (fun i d O2 hd hs s H C cl fp => ?_) (all_true hQ2)
   obtain ⟨hi, rfl⟩ := rngD_get hd
   refine wgc_name 2 nd ⟨rfl, fun s H C cl fp => ?_⟩
   have hi2 : i < xs.length := by omega
   have hd2 : xs[i]? = some xs[i] := geG hi2
   have hy2 : asS O2 y = some xs := hyS O2 hs
   refine w_call (GS m hm) hr (by omega) ?_
   repeat walk_at "e"
   refine sIx_seq (xs := xs) ?h1 (atI_of (j := i) (by omega) hd2) ?_
   case h1 => exact hy2
   repeat walk_at "e"
   refine sIx_l (atI_of (j := i) (by omega) hd2) ?_
   repeat walk_at "e"
   exact ⟨_, _, rfl, hall _ (List.getElem_mem hi2), .inl rfl, rfl, rfl⟩
 | .tup xs, hx =>
   obtain rfl := hyx fun xs h => nomatch h
   obtain ⟨hl, m, hm, hall⟩ : xs.length ≤ 90000 ∧ ∃ m, n = m + 1 ∧ ∀ d ∈ xs, PlainD m d := by
    cases n with
    | zero => exact hx.elim
    | succ m => exact ⟨hx.1, m, rfl, hx.2⟩
   repeat walk_at "w"
   refine br_t (by simp) (w_one (w_all rfl mall ?_))
   refine w_lc (own := [("_law_k", 2)]) [2] rfl nd (blkOk_by rfl) rfl (wi_rng1 mrng ?_)
   repeat walk_at "e"
   refine ⟨_, rfl, by omega, by omega, ?_⟩
   refine lc_all (fun _ _ y => y = .bl true) (by rw [rngD_len]; omega) (fun _ _ => trivial) (fun i d O2 hd hs s H C cl fp => ?_) (all_true hQ2)
   obtain ⟨hi, rfl⟩ := rngD_get hd
   refine wgc_name 2 nd ⟨rfl, fun s H C cl fp => ?_⟩
   have hi2 : i < xs.length := by omega
   have hd2 : xs[i]? = some xs[i] := geG hi2
   refine w_call (GS m hm) hr (by omega) ?_
   repeat walk_at "e"
   refine sIx_t (atI_of (j := i) (by omega) hd2) ?_
   repeat walk_at "e"
   refine sIx_t (atI_of (j := i) (by omega) hd2) ?_
   repeat walk_at "e"
   exact ⟨_, _, rfl, hall _ (List.getElem_mem hi2), .inl rfl, rfl, rfl⟩
 | .ty z, hx => cases n <;> exact hx.elim
 | .obj z, hx => cases n <;> exact hx.elim
 | .rol z, hx => cases n <;> exact hx.elim
 | .pr z, hx => cases n <;> exact hx.elim
 | .ins _ _, hx => cases n <;> exact hx.elim
 | .xc _ _ _ _, hx => cases n <;> exact hx.elim
 | .lam _ _, hx => cases n <;> exact hx.elim
 | .dt _ _, hx => cases n <;> exact hx.elim
 | .dk _ _ _, hx => cases n <;> exact hx.elim
end
section
variable {P : Program} {w : World} {K : PySem.W.Frag} {mg : Str → Option Value} {base : Heap}
section
theorem ok_init2 {qual f1 f2 BN : Str} {W0 : Str} {jj : Nat} {mc : Value} {B g : Addr} {gd : FuncData} {kk : Nat} {st : Stmt} {f : Addr} {fd : FuncData} {k : Nat} {p1 p2 p3 p4 p5 p6 p7 p8 p9 q1 p10 p11 p12 q2 : Pos} (F : Fun K "__init__" qual st f fd) (Sc : FnScope ["self", f1, f2] ["self", f1, f2] (defScope st))
  (hb : defBody st = [.Expr (.Call (.Attribute (.Name BN p1) "__init__" p2) [.Name "self" p3, .Constant (.str W0) jj p4] [] p5) p6, .Assign [.Attribute (.Name "self" p7) f1 p8] (.Name f1 p9) q1, .Assign [.Attribute (.Name "self" p10) f2 p11] (.Name f2 p12) q2])
  (hv : (defScope st).names.lookup f1 = some .local) (hv2 : (defScope st).names.lookup f2 = some .local) (hvs : (defScope st).names.lookup (Str.ofString "self") = some .local) (hgl : (defScope st).names.lookup BN = some .globalImplicit) (hdB : (BN == ("__debug__" : Str)) = false)
  (h1 : (f1 == ("__debug__" : Str)) = false) (h2 : (f1 == ("__classdict__" : Str)) = false) (h3 : (f2 == ("__debug__" : Str)) = false) (h4 : (f2 == ("__classdict__" : Str)) = false)
  (hme : MethEq (.Name BN p1) "__init__" p2 [.Name "self" p3, .Constant (.str W0) jj p4] p5) (gB : mg BN = some (.ref B)) (c : CFn K B mc "__init__" g) (FB : FnO P w K mg base (KX P w) kk g gd ["self", "word"] (spInit K 1 [("word", .inl 0)])) (bB : Binds K gd ["self", "word"] []) (hk : kk ≤ k) :
  FnO P w K mg base (KX P w) (k + 1) f fd ["self", f1, f2] (spInit K 2 [(f2, .inl 1), (f1, .inl 0), ("word", .inr W0)]) := by
 refine fnO_of F Sc (fun vs H Q E ⟨a, C, ws, e, hl, _⟩ => by rw [e]; simp [hl]) fun cdv A outer s H vs Q E p hr hsp => ?_
 obtain ⟨a, C, ws, rfl, hl, T, hf, ha, hq⟩ := hsp
 obtain ⟨y, y2, rfl⟩ : ∃ y y2, ws = [y, y2] := by
  match ws, hl with
  | [y, y2], _ => exact ⟨y, y2, rfl⟩
 rw [hb]
 obtain ⟨pl, hc⟩ := hme (envOfC qual (defScope st) s.heap.objs.size f cdv)
 refine ⟨_, pss_cons (ps_expr (pe_clsfn (takes_of rfl rfl rfl rfl) c FB (hr.mono hk) bB hgl gB (pa_cons (pv 0 rfl (.inl hvs)) (pa_cons pe_str pa_nil)) hc hdB)) (pss_cons (ps_ost (pv 0 rfl (.inl hvs)) (pv 1 rfl (.inl hv) h1 h2)) (pss_one (ps_ost (pv 0 rfl (.inl hvs)) (pv 2 rfl (.inl hv2) h3 h4)))), ?_⟩
 refine ⟨.ref a, rfl, a, C, [.str W0], rfl, rfl, T, fun p hp => ?_, ha, fun dx n ne => ⟨y, rfl, .ref a, rfl, a, C, rfl, T, hf (f1, .inl 0) (by simp), .inr ⟨dx, _, upd_same, by rw [upd_ne ne, upd_same], by simp [ftV], ?_⟩⟩⟩
 · rw [msG.mp hp]
   exact hf ("word", .inr W0) (by simp)
 · refine ⟨y2, rfl, .ref a, rfl, a, C, rfl, T, hf (f2, .inl 1) mcS, .inr ⟨dx, _, by rw [upd_ne ne.symm, upd_same], upd_same, by simp [ftV], ?_⟩⟩
   have := hq dx n ne
   rw [upd_upd, upd_swap ne.symm, upd_upd]
   exact this
end
end
section
variable {P : Program} {w : World} {K : PySem.W.Frag} {mg : Str → Option Value} {base : Heap}
def wd76 : List Str := (["BadName", "BadOperation", "BadTree", "BadCount", "BadLeaf", "BadPlace", "BadMany", "BadText", "Uneven", "Strange", "Idle", "Bare", "Taken", "InUse", "Full", "Lacking", "Unlike", "Unjoined", "NotKept", "Breaks", "Wide", "NotTwos", "BadRow", "BadPlaces", "BadDeed", "Stopped", "BadPage", "NoOperation", "NoRule", "NoKind", "NoBridge", "NoWatch", "NothingLeft"] : List String).map Str.ofString
def wdD (i : Nat) : D := .str (wd76.getD i Str.empty)
theorem rowB_at {K : PySem.W.Frag} {C : Addr} {i : Nat} : ∀ {l : List Addr} {k j : Nat} {D : Addr}, rowB K C i l k = true → l[j]? = some D → PySem.W.kitOne K (.ref C) (.ref D) = some (k + j == i)
 | [], _, _, _, _, e => by simp at e
 | D :: r, k, 0, D', h, e => by
   simp at e
   subst e
   exact of_decide_eq_true (Bool.and_eq_true_iff.mp h).1
 | D :: r, k, j + 1, D', h, e => by
   have := rowB_at (j := j) (Bool.and_eq_true_iff.mp h).2 (by simpa using e)
   rw [this]
   congr 2
   omega
structure At76 (K : PySem.W.Frag) (CB CM : Addr) (cs : List Addr) (C : Addr) (i : Nat) : Prop where
 xc : xcB K C = true
 ex : exB K CB CM C (Nat.blt i 27) = true
 kd : kdB K CB CM C (Nat.blt i 27) = true
 row : ∀ (j : Nat) (D : Addr), cs[j]? = some D → PySem.W.kitOne K (.ref C) (.ref D) = some (j == i)
theorem all76_at {K : PySem.W.Frag} {CB CM : Addr} {cs : List Addr} : ∀ {l : List Addr} {k i : Nat} {C : Addr}, all76 K CB CM cs l k = true → l[i]? = some C → At76 K CB CM cs C (k + i)
 | [], _, _, _, _, e => by simp at e
 | D :: r, k, 0, C, h, e => by
   simp at e
   subst e
   obtain ⟨h1, h2, h3, h4⟩ := (by simpa [Bool.and_eq_true] using (Bool.and_eq_true_iff.mp h).1 : xcB K D = true ∧ exB K CB CM D (Nat.blt k 27) = true ∧ kdB K CB CM D (Nat.blt k 27) = true ∧ rowB K D k cs 0 = true)
   exact ⟨h1, h2, h3, fun j D' e => by have := rowB_at h4 e; rwa [Nat.zero_add] at this⟩
 | D :: r, k, i + 1, C, h, e => by
   have := all76_at (i := i) (Bool.and_eq_true_iff.mp h).2 (by simpa using e)
   rwa [show k + 1 + i = k + (i + 1) by omega] at this
theorem At76.isx {K : PySem.W.Frag} {CB CM : Addr} {cs : List Addr} {C : Addr} {i : Nat} (h : At76 K CB CM cs C i) (x : XfC K C) : IsxC K C := by
 obtain ⟨h1, h2⟩ := Bool.and_eq_true_iff.mp h.xc
 obtain ⟨h2, h3⟩ := Bool.and_eq_true_iff.mp h2
 obtain ⟨h3, h4⟩ := Bool.and_eq_true_iff.mp h3
 exact ⟨x, of_decide_eq_true h1, of_decide_eq_true h3, of_decide_eq_true h2, of_decide_eq_true h4⟩
def NmL (mg : Str → Option Value) : List Str → List Addr → Prop
 | x :: xs, C :: cs => mg x = some (.ref C) ∧ NmL mg xs cs
 | [], _ => True
 | _ :: _, [] => False
theorem NmL.n : NmL mg [] [] := trivial
theorem NmL.c {x : Str} {xs : List Str} {C : Addr} {cs : List Addr} (h : mg x = some (.ref C)) (t : NmL mg xs cs) : NmL mg (x :: xs) (C :: cs) := ⟨h, t⟩
theorem NmL.at : ∀ {xs : List Str} {cs : List Addr} {i : Nat} {x : Str}, NmL mg xs cs → xs[i]? = some x → ∃ D : Addr, cs[i]? = some D ∧ mg x = some (.ref D)
 | [], _, _, _, _, e => by simp at e
 | x :: xs, C :: cs, 0, y, h, e => by
   simp at e
   subst e
   exact ⟨C, rfl, h.1⟩
 | x :: xs, C :: cs, i + 1, y, h, e => by
   obtain ⟨D, h1, h2⟩ := NmL.at (i := i) h.2 (by simpa using e)
   exact ⟨D, by simpa using h1, h2⟩
def XfL (K : PySem.W.Frag) : List Addr → Prop
 | [] => True
 | C :: cs => (XfC K C ∧ PySem.W.findIn K (.ref C) "word" = some none) ∧ XfL K cs
theorem XfL.n : XfL K [] := trivial
theorem XfL.k {x : Str} {n : Nat} {F : FT} {C : Addr} {cs : List Addr} (M : XMk P w K mg base x 2 n F C) (t : XfL K cs) (h : ((Str.ofString "word", Sum.inr x) : Str × (Nat ⊕ Str)) ∈ F := by simp) : XfL K (C :: cs) := ⟨⟨M.xf, M.nf _ h⟩, t⟩
theorem XfL.l {x : Str} {n : Nat} {F : FT} {C : Addr} {cs : List Addr} (M : XML P w K mg base x 2 n F C) (t : XfL K cs) (h : ((Str.ofString "word", Sum.inr x) : Str × (Nat ⊕ Str)) ∈ F := by simp) : XfL K (C :: cs) := ⟨⟨M.xf, M.nf _ h⟩, t⟩
theorem XfL.at : ∀ {cs : List Addr} {i : Nat} {C : Addr}, XfL K cs → cs[i]? = some C → XfC K C ∧ PySem.W.findIn K (.ref C) "word" = some none
 | [], _, _, _, e => by simp at e
 | C :: cs, 0, y, h, e => by
   simp at e
   subst e
   exact h.1
 | C :: cs, i + 1, y, h, e => XfL.at (i := i) h.2 (by simpa using e)
structure Cls76 (K : PySem.W.Frag) (mg : Str → Option Value) (CB CM : Addr) (cs : List Addr) : Prop where
 nm : ∀ (i : Nat) (x : Str), wd76[i]? = some x → ∃ D : Addr, cs[i]? = some D ∧ mg x = some (.ref D)
 all : all76 K CB CM cs cs 0 = true
 xf : ∀ (i : Nat) (C : Addr), cs[i]? = some C → XfC K C ∧ PySem.W.findIn K (.ref C) "word" = some none
 bB : mg "BoughError" = some (.ref CB)
 bM : mg "Missing" = some (.ref CM)
 bV : mg "ValueError" = none
 bL : mg "LookupError" = none
 bI : mg "isinstance" = none
theorem Cls76.at {CB CM : Addr} {cs : List Addr} {i : Nat} {C : Addr} (h : Cls76 K mg CB CM cs) (e : cs[i]? = some C) : At76 K CB CM cs C i := by
 have := all76_at h.all e
 rwa [Nat.zero_add] at this
def fl76 (i : Nat) : D := .lst ((List.range 33).map fun j => .bl (j == i))
def spFlags (cs : List Addr) : D → RW.Own → PD → Prop := fun d O Q => ∃ a C dd fs i, d = .xc a C dd fs ∧ cs[i]? = some C ∧ Q (fl76 i) O
theorem scFlags : FnScope ["_law_e", "_law_row"] ["_law_e"] (defScope sFlags) := by walk_at "sc"
theorem ok_flags {f CB CM : Addr} {cs : List Addr} {fd : FuncData} {k : Nat} (F : Fun K "_law_flags" "_law_flags" sFlags f fd) (T : Cls76 K mg CB CM cs) : FnE P w K mg base (k + 1) f fd "_law_e" (spFlags cs) := by
 refine fnE_of F scFlags fun cdv A outer s H p a C dd oe fs hr hz hf O Q ⟨a', C', dd', fs', i, e, hC, hQ⟩ => ?_
 cases e
 have nd := scFlags.nd
 have I := T.at hC
 have TX := I.isx (T.xf i C hC).1
 have mi := T.bI
 obtain ⟨D0, d0, m0⟩ := T.nm 0 "BadName" rfl
 obtain ⟨D1, d1, m1⟩ := T.nm 1 "BadOperation" rfl
 obtain ⟨D2, d2, m2⟩ := T.nm 2 "BadTree" rfl
 obtain ⟨D3, d3, m3⟩ := T.nm 3 "BadCount" rfl
 obtain ⟨D4, d4, m4⟩ := T.nm 4 "BadLeaf" rfl
 obtain ⟨D5, d5, m5⟩ := T.nm 5 "BadPlace" rfl
 obtain ⟨D6, d6, m6⟩ := T.nm 6 "BadMany" rfl
 obtain ⟨D7, d7, m7⟩ := T.nm 7 "BadText" rfl
 obtain ⟨D8, d8, m8⟩ := T.nm 8 "Uneven" rfl
 obtain ⟨D9, d9, m9⟩ := T.nm 9 "Strange" rfl
 obtain ⟨D10, d10, m10⟩ := T.nm 10 "Idle" rfl
 obtain ⟨D11, d11, m11⟩ := T.nm 11 "Bare" rfl
 obtain ⟨D12, d12, m12⟩ := T.nm 12 "Taken" rfl
 obtain ⟨D13, d13, m13⟩ := T.nm 13 "InUse" rfl
 obtain ⟨D14, d14, m14⟩ := T.nm 14 "Full" rfl
 obtain ⟨D15, d15, m15⟩ := T.nm 15 "Lacking" rfl
 obtain ⟨D16, d16, m16⟩ := T.nm 16 "Unlike" rfl
 obtain ⟨D17, d17, m17⟩ := T.nm 17 "Unjoined" rfl
 obtain ⟨D18, d18, m18⟩ := T.nm 18 "NotKept" rfl
 obtain ⟨D19, d19, m19⟩ := T.nm 19 "Breaks" rfl
 obtain ⟨D20, d20, m20⟩ := T.nm 20 "Wide" rfl
 obtain ⟨D21, d21, m21⟩ := T.nm 21 "NotTwos" rfl
 obtain ⟨D22, d22, m22⟩ := T.nm 22 "BadRow" rfl
 obtain ⟨D23, d23, m23⟩ := T.nm 23 "BadPlaces" rfl
 obtain ⟨D24, d24, m24⟩ := T.nm 24 "BadDeed" rfl
 obtain ⟨D25, d25, m25⟩ := T.nm 25 "Stopped" rfl
 obtain ⟨D26, d26, m26⟩ := T.nm 26 "BadPage" rfl
 obtain ⟨D27, d27, m27⟩ := T.nm 27 "NoOperation" rfl
 obtain ⟨D28, d28, m28⟩ := T.nm 28 "NoRule" rfl
 obtain ⟨D29, d29, m29⟩ := T.nm 29 "NoKind" rfl
 obtain ⟨D30, d30, m30⟩ := T.nm 30 "NoBridge" rfl
 obtain ⟨D31, d31, m31⟩ := T.nm 31 "NoWatch" rfl
 obtain ⟨D32, d32, m32⟩ := T.nm 32 "NothingLeft" rfl
 refine wss_cons ?_
 walk_at "r"
 refine .own fun p np => ?_
 walk_at "r"
 refine w_extend ?_
 walk_at "r"
 refine ⟨p, rfl, ⟨_, updO_same⟩, w_lst ?_⟩
 refine wa_cons (w_isX mcS TX hz hf mi ⟨rfl, by decide, .inl m0⟩ (cV := .ref D0) rfl (fun _ z => z) (w_vn (i := 0) nd rfl rfl rfl ⟨_, _, rfl, I.row 0 D0 d0, ?_⟩ (.inl rfl)))
 refine wa_cons (w_isX mcS TX hz hf mi ⟨rfl, by decide, .inl m1⟩ (cV := .ref D1) rfl (fun _ z => z) (w_vn (i := 0) nd rfl rfl rfl ⟨_, _, rfl, I.row 1 D1 d1, ?_⟩ (.inl rfl)))
 refine wa_cons (w_isX mcS TX hz hf mi ⟨rfl, by decide, .inl m2⟩ (cV := .ref D2) rfl (fun _ z => z) (w_vn (i := 0) nd rfl rfl rfl ⟨_, _, rfl, I.row 2 D2 d2, ?_⟩ (.inl rfl)))
 refine wa_nil ?_
 walk_at "r"
 refine .fix ⟨_, _, updO_same, rfl, by simp [sizeLine_eq], ?_⟩
 rw [updO_updO]
 walk_at "r"
 refine w_extend ?_
 walk_at "r"
 refine ⟨p, rfl, ⟨_, updO_same⟩, w_lst ?_⟩
 refine wa_cons (w_isX mcS TX hz hf mi ⟨rfl, by decide, .inl m3⟩ (cV := .ref D3) rfl (fun _ z => z) (w_vn (i := 0) nd rfl rfl rfl ⟨_, _, rfl, I.row 3 D3 d3, ?_⟩ (.inl rfl)))
 refine wa_cons (w_isX mcS TX hz hf mi ⟨rfl, by decide, .inl m4⟩ (cV := .ref D4) rfl (fun _ z => z) (w_vn (i := 0) nd rfl rfl rfl ⟨_, _, rfl, I.row 4 D4 d4, ?_⟩ (.inl rfl)))
 refine wa_cons (w_isX mcS TX hz hf mi ⟨rfl, by decide, .inl m5⟩ (cV := .ref D5) rfl (fun _ z => z) (w_vn (i := 0) nd rfl rfl rfl ⟨_, _, rfl, I.row 5 D5 d5, ?_⟩ (.inl rfl)))
 refine wa_nil ?_
 walk_at "r"
 refine .fix ⟨_, _, updO_same, rfl, by simp [sizeLine_eq], ?_⟩
 rw [updO_updO]
 walk_at "r"
 refine w_extend ?_
 walk_at "r"
 refine ⟨p, rfl, ⟨_, updO_same⟩, w_lst ?_⟩
 refine wa_cons (w_isX mcS TX hz hf mi ⟨rfl, by decide, .inl m6⟩ (cV := .ref D6) rfl (fun _ z => z) (w_vn (i := 0) nd rfl rfl rfl ⟨_, _, rfl, I.row 6 D6 d6, ?_⟩ (.inl rfl)))
 refine wa_cons (w_isX mcS TX hz hf mi ⟨rfl, by decide, .inl m7⟩ (cV := .ref D7) rfl (fun _ z => z) (w_vn (i := 0) nd rfl rfl rfl ⟨_, _, rfl, I.row 7 D7 d7, ?_⟩ (.inl rfl)))
 refine wa_cons (w_isX mcS TX hz hf mi ⟨rfl, by decide, .inl m8⟩ (cV := .ref D8) rfl (fun _ z => z) (w_vn (i := 0) nd rfl rfl rfl ⟨_, _, rfl, I.row 8 D8 d8, ?_⟩ (.inl rfl)))
 refine wa_nil ?_
 walk_at "r"
 refine .fix ⟨_, _, updO_same, rfl, by simp [sizeLine_eq], ?_⟩
 rw [updO_updO]
 walk_at "r"
 refine w_extend ?_
 walk_at "r"
 refine ⟨p, rfl, ⟨_, updO_same⟩, w_lst ?_⟩
 refine wa_cons (w_isX mcS TX hz hf mi ⟨rfl, by decide, .inl m9⟩ (cV := .ref D9) rfl (fun _ z => z) (w_vn (i := 0) nd rfl rfl rfl ⟨_, _, rfl, I.row 9 D9 d9, ?_⟩ (.inl rfl)))
 refine wa_cons (w_isX mcS TX hz hf mi ⟨rfl, by decide, .inl m10⟩ (cV := .ref D10) rfl (fun _ z => z) (w_vn (i := 0) nd rfl rfl rfl ⟨_, _, rfl, I.row 10 D10 d10, ?_⟩ (.inl rfl)))
 refine wa_cons (w_isX mcS TX hz hf mi ⟨rfl, by decide, .inl m11⟩ (cV := .ref D11) rfl (fun _ z => z) (w_vn (i := 0) nd rfl rfl rfl ⟨_, _, rfl, I.row 11 D11 d11, ?_⟩ (.inl rfl)))
 refine wa_nil ?_
 walk_at "r"
 refine .fix ⟨_, _, updO_same, rfl, by simp [sizeLine_eq], ?_⟩
 rw [updO_updO]
 walk_at "r"
 refine w_extend ?_
 walk_at "r"
 refine ⟨p, rfl, ⟨_, updO_same⟩, w_lst ?_⟩
 refine wa_cons (w_isX mcS TX hz hf mi ⟨rfl, by decide, .inl m12⟩ (cV := .ref D12) rfl (fun _ z => z) (w_vn (i := 0) nd rfl rfl rfl ⟨_, _, rfl, I.row 12 D12 d12, ?_⟩ (.inl rfl)))
 refine wa_cons (w_isX mcS TX hz hf mi ⟨rfl, by decide, .inl m13⟩ (cV := .ref D13) rfl (fun _ z => z) (w_vn (i := 0) nd rfl rfl rfl ⟨_, _, rfl, I.row 13 D13 d13, ?_⟩ (.inl rfl)))
 refine wa_cons (w_isX mcS TX hz hf mi ⟨rfl, by decide, .inl m14⟩ (cV := .ref D14) rfl (fun _ z => z) (w_vn (i := 0) nd rfl rfl rfl ⟨_, _, rfl, I.row 14 D14 d14, ?_⟩ (.inl rfl)))
 refine wa_nil ?_
 walk_at "r"
 refine .fix ⟨_, _, updO_same, rfl, by simp [sizeLine_eq], ?_⟩
 rw [updO_updO]
 walk_at "r"
 refine w_extend ?_
 walk_at "r"
 refine ⟨p, rfl, ⟨_, updO_same⟩, w_lst ?_⟩
 refine wa_cons (w_isX mcS TX hz hf mi ⟨rfl, by decide, .inl m15⟩ (cV := .ref D15) rfl (fun _ z => z) (w_vn (i := 0) nd rfl rfl rfl ⟨_, _, rfl, I.row 15 D15 d15, ?_⟩ (.inl rfl)))
 refine wa_cons (w_isX mcS TX hz hf mi ⟨rfl, by decide, .inl m16⟩ (cV := .ref D16) rfl (fun _ z => z) (w_vn (i := 0) nd rfl rfl rfl ⟨_, _, rfl, I.row 16 D16 d16, ?_⟩ (.inl rfl)))
 refine wa_cons (w_isX mcS TX hz hf mi ⟨rfl, by decide, .inl m17⟩ (cV := .ref D17) rfl (fun _ z => z) (w_vn (i := 0) nd rfl rfl rfl ⟨_, _, rfl, I.row 17 D17 d17, ?_⟩ (.inl rfl)))
 refine wa_nil ?_
 walk_at "r"
 refine .fix ⟨_, _, updO_same, rfl, by simp [sizeLine_eq], ?_⟩
 rw [updO_updO]
 walk_at "r"
 refine w_extend ?_
 walk_at "r"
 refine ⟨p, rfl, ⟨_, updO_same⟩, w_lst ?_⟩
 refine wa_cons (w_isX mcS TX hz hf mi ⟨rfl, by decide, .inl m18⟩ (cV := .ref D18) rfl (fun _ z => z) (w_vn (i := 0) nd rfl rfl rfl ⟨_, _, rfl, I.row 18 D18 d18, ?_⟩ (.inl rfl)))
 refine wa_cons (w_isX mcS TX hz hf mi ⟨rfl, by decide, .inl m19⟩ (cV := .ref D19) rfl (fun _ z => z) (w_vn (i := 0) nd rfl rfl rfl ⟨_, _, rfl, I.row 19 D19 d19, ?_⟩ (.inl rfl)))
 refine wa_cons (w_isX mcS TX hz hf mi ⟨rfl, by decide, .inl m20⟩ (cV := .ref D20) rfl (fun _ z => z) (w_vn (i := 0) nd rfl rfl rfl ⟨_, _, rfl, I.row 20 D20 d20, ?_⟩ (.inl rfl)))
 refine wa_nil ?_
 walk_at "r"
 refine .fix ⟨_, _, updO_same, rfl, by simp [sizeLine_eq], ?_⟩
 rw [updO_updO]
 walk_at "r"
 refine w_extend ?_
 walk_at "r"
 refine ⟨p, rfl, ⟨_, updO_same⟩, w_lst ?_⟩
 refine wa_cons (w_isX mcS TX hz hf mi ⟨rfl, by decide, .inl m21⟩ (cV := .ref D21) rfl (fun _ z => z) (w_vn (i := 0) nd rfl rfl rfl ⟨_, _, rfl, I.row 21 D21 d21, ?_⟩ (.inl rfl)))
 refine wa_cons (w_isX mcS TX hz hf mi ⟨rfl, by decide, .inl m22⟩ (cV := .ref D22) rfl (fun _ z => z) (w_vn (i := 0) nd rfl rfl rfl ⟨_, _, rfl, I.row 22 D22 d22, ?_⟩ (.inl rfl)))
 refine wa_cons (w_isX mcS TX hz hf mi ⟨rfl, by decide, .inl m23⟩ (cV := .ref D23) rfl (fun _ z => z) (w_vn (i := 0) nd rfl rfl rfl ⟨_, _, rfl, I.row 23 D23 d23, ?_⟩ (.inl rfl)))
 refine wa_nil ?_
 walk_at "r"
 refine .fix ⟨_, _, updO_same, rfl, by simp [sizeLine_eq], ?_⟩
 rw [updO_updO]
 walk_at "r"
 refine w_extend ?_
 walk_at "r"
 refine ⟨p, rfl, ⟨_, updO_same⟩, w_lst ?_⟩
 refine wa_cons (w_isX mcS TX hz hf mi ⟨rfl, by decide, .inl m24⟩ (cV := .ref D24) rfl (fun _ z => z) (w_vn (i := 0) nd rfl rfl rfl ⟨_, _, rfl, I.row 24 D24 d24, ?_⟩ (.inl rfl)))
 refine wa_cons (w_isX mcS TX hz hf mi ⟨rfl, by decide, .inl m25⟩ (cV := .ref D25) rfl (fun _ z => z) (w_vn (i := 0) nd rfl rfl rfl ⟨_, _, rfl, I.row 25 D25 d25, ?_⟩ (.inl rfl)))
 refine wa_cons (w_isX mcS TX hz hf mi ⟨rfl, by decide, .inl m26⟩ (cV := .ref D26) rfl (fun _ z => z) (w_vn (i := 0) nd rfl rfl rfl ⟨_, _, rfl, I.row 26 D26 d26, ?_⟩ (.inl rfl)))
 refine wa_nil ?_
 walk_at "r"
 refine .fix ⟨_, _, updO_same, rfl, by simp [sizeLine_eq], ?_⟩
 rw [updO_updO]
 walk_at "r"
 refine w_extend ?_
 walk_at "r"
 refine ⟨p, rfl, ⟨_, updO_same⟩, w_lst ?_⟩
 refine wa_cons (w_isX mcS TX hz hf mi ⟨rfl, by decide, .inl m27⟩ (cV := .ref D27) rfl (fun _ z => z) (w_vn (i := 0) nd rfl rfl rfl ⟨_, _, rfl, I.row 27 D27 d27, ?_⟩ (.inl rfl)))
 refine wa_cons (w_isX mcS TX hz hf mi ⟨rfl, by decide, .inl m28⟩ (cV := .ref D28) rfl (fun _ z => z) (w_vn (i := 0) nd rfl rfl rfl ⟨_, _, rfl, I.row 28 D28 d28, ?_⟩ (.inl rfl)))
 refine wa_cons (w_isX mcS TX hz hf mi ⟨rfl, by decide, .inl m29⟩ (cV := .ref D29) rfl (fun _ z => z) (w_vn (i := 0) nd rfl rfl rfl ⟨_, _, rfl, I.row 29 D29 d29, ?_⟩ (.inl rfl)))
 refine wa_nil ?_
 walk_at "r"
 refine .fix ⟨_, _, updO_same, rfl, by simp [sizeLine_eq], ?_⟩
 rw [updO_updO]
 walk_at "r"
 refine w_extend ?_
 walk_at "r"
 refine ⟨p, rfl, ⟨_, updO_same⟩, w_lst ?_⟩
 refine wa_cons (w_isX mcS TX hz hf mi ⟨rfl, by decide, .inl m30⟩ (cV := .ref D30) rfl (fun _ z => z) (w_vn (i := 0) nd rfl rfl rfl ⟨_, _, rfl, I.row 30 D30 d30, ?_⟩ (.inl rfl)))
 refine wa_cons (w_isX mcS TX hz hf mi ⟨rfl, by decide, .inl m31⟩ (cV := .ref D31) rfl (fun _ z => z) (w_vn (i := 0) nd rfl rfl rfl ⟨_, _, rfl, I.row 31 D31 d31, ?_⟩ (.inl rfl)))
 refine wa_cons (w_isX mcS TX hz hf mi ⟨rfl, by decide, .inl m32⟩ (cV := .ref D32) rfl (fun _ z => z) (w_vn (i := 0) nd rfl rfl rfl ⟨_, _, rfl, I.row 32 D32 d32, ?_⟩ (.inl rfl)))
 refine wa_nil ?_
 walk_at "r"
 refine .fix ⟨_, _, updO_same, rfl, by simp [sizeLine_eq], ?_⟩
 rw [updO_updO]
 walk_at "r"
 refine endL np (.fix ?_)
 exact hQ
def kd76 (i : Nat) : D := .lst [.bl (Nat.blt i 27), .bl (Nat.blt i 27), .bl (!Nat.blt i 27), .bl (!Nat.blt i 27)]
def spKinds (cs : List Addr) : D → RW.Own → PD → Prop := fun d O Q => ∃ a C dd fs i, d = .xc a C dd fs ∧ cs[i]? = some C ∧ Q (kd76 i) O
theorem scKinds : FnScope ["_law_e", "_law_found"] ["_law_e"] (defScope sKinds) := by walk_at "sc"
theorem ok_kinds {f CB CM : Addr} {cs : List Addr} {fd : FuncData} {k : Nat} (F : Fun K "_law_kinds_of" "_law_kinds_of" sKinds f fd) (T : Cls76 K mg CB CM cs) : FnE P w K mg base (k + 1) f fd "_law_e" (spKinds cs) := by
 refine fnE_of F scKinds fun cdv A outer s H p a C dd oe fs hr hz hf O Q ⟨a', C', dd', fs', i, e, hC, hQ⟩ => ?_
 cases e
 have nd := scKinds.nd
 have I := T.at hC
 have TX := I.isx (T.xf i C hC).1
 have mi := T.bI
 obtain ⟨k1, k2⟩ := Bool.and_eq_true_iff.mp I.kd
 obtain ⟨k2, k3⟩ := Bool.and_eq_true_iff.mp k2
 obtain ⟨k3, k4⟩ := Bool.and_eq_true_iff.mp k3
 refine wss_cons (ws_set 1 nd (w_lst ?_))
 refine wa_cons (w_isX mcS TX hz hf mi ⟨rfl, by decide, .inl T.bB⟩ (cV := .ref CB) rfl (fun _ z => z) (w_vn (i := 0) nd rfl rfl rfl ⟨_, _, rfl, of_decide_eq_true k1, ?_⟩ (.inl rfl)))
 refine wa_cons (w_isX mcS TX hz hf mi ⟨rfl, by decide, .inr ⟨T.bV, by decide +kernel, by decide⟩⟩ (cV := .ty "ValueError") rfl (fun _ z => z) (w_vn (i := 0) nd rfl rfl rfl ⟨_, _, rfl, of_decide_eq_true k2, ?_⟩ (.inl rfl)))
 refine wa_cons (w_isX mcS TX hz hf mi ⟨rfl, by decide, .inl T.bM⟩ (cV := .ref CM) rfl (fun _ z => z) (w_vn (i := 0) nd rfl rfl rfl ⟨_, _, rfl, of_decide_eq_true k3, ?_⟩ (.inl rfl)))
 refine wa_nil ?_
 walk_at "r"
 refine .fix ?_
 walk_at "r"
 refine w_isX mcS TX hz hf mi ⟨rfl, by decide, .inr ⟨T.bL, by decide +kernel, by decide⟩⟩ (cV := .ty "LookupError") rfl (fun _ z => z) (w_vn (i := 0) nd rfl rfl rfl ⟨_, _, rfl, of_decide_eq_true k4, ?_⟩ (.inl rfl))
 refine wa_nil ?_
 walk_at "r"
 refine .fix ?_
 refine sAdd_ll (by simp [sizeLine_eq]) (.fix ?_)
 exact hQ
def spWords : SpD := fun ds O Q _ => ds = [] ∧ Q (.lst (wd76.map .str)) O
def spRaise (lo hi : Nat) (cs : List Addr) : SpD := fun ds O Q E => ∃ (i : Nat) (a b : Int), ds = [.int i, .int a, .int b] ∧ (lo ≤ i → i < hi → ∀ (C : Addr) (fs : List (Str × D)), cs[i]? = some C → fs.lookup (Str.ofString "word") = some (wdD i) → E ⟨.ref C, fs⟩ O) ∧ (¬ (lo ≤ i ∧ i < hi) → Q .non O)
theorem scEarly : FnScope ["_law_at", "_law_a", "_law_b"] ["_law_at", "_law_a", "_law_b"] (defScope sEarly) := by walk_at "sc"
theorem ok_early {f D0 D1 D2 D3 D4 D5 D6 D7 D8 D9 D10 : Addr} {cs : List Addr} {fd : FuncData} {k : Nat} (F : Fun K "_law_early" "_law_early" sEarly f fd)
  (X0 : XMk P w K mg base "BadName" 2 1 [("name", .inl 0), ("word", .inr "BadName")] D0) (h0 : cs[0]? = some D0)
  (X1 : XMk P w K mg base "BadOperation" 2 1 [("at", .inl 0), ("word", .inr "BadOperation")] D1) (h1 : cs[1]? = some D1)
  (X2 : XMk P w K mg base "BadTree" 2 1 [("at", .inl 0), ("word", .inr "BadTree")] D2) (h2 : cs[2]? = some D2)
  (X3 : XMk P w K mg base "BadCount" 2 1 [("at", .inl 0), ("word", .inr "BadCount")] D3) (h3 : cs[3]? = some D3)
  (X4 : XMk P w K mg base "BadLeaf" 2 0 [("word", .inr "BadLeaf")] D4) (h4 : cs[4]? = some D4)
  (X5 : XMk P w K mg base "BadPlace" 2 0 [("word", .inr "BadPlace")] D5) (h5 : cs[5]? = some D5)
  (X6 : XMk P w K mg base "BadMany" 2 0 [("word", .inr "BadMany")] D6) (h6 : cs[6]? = some D6)
  (X7 : XMk P w K mg base "BadText" 2 1 [("at", .inl 0), ("word", .inr "BadText")] D7) (h7 : cs[7]? = some D7)
  (X8 : XMk P w K mg base "Uneven" 2 1 [("at", .inl 0), ("word", .inr "Uneven")] D8) (h8 : cs[8]? = some D8)
  (X9 : XMk P w K mg base "Strange" 2 1 [("operation", .inl 0), ("word", .inr "Strange")] D9) (h9 : cs[9]? = some D9)
  (X10 : XMk P w K mg base "Idle" 2 0 [("word", .inr "Idle")] D10) (h10 : cs[10]? = some D10)
  (hk : 3 ≤ k) : FnOk P w K mg base (KX P w) (k + 1) f fd ["_law_at", "_law_a", "_law_b"] (spD K (spRaise 0 11 cs)) := by
 refine fd_ok F scEarly (fun ds O Q E ⟨_, _, _, e, _⟩ => by rw [e]; rfl) (fun cdv A outer s H E0 hr ds O Q E ⟨i, a, b, e, hE, hQ⟩ => ?_)
 subst e
 have nd := scEarly.nd
 repeat walk_at "w"
 refine br (fun h => ?_) (fun n0 => ?_)
 · obtain rfl : i = 0 := by have := of_decide_eq_true h; omega
   refine wss_one (ws_raise X0 hr (by omega) rfl ?_)
   walk_at "r"
   exact ⟨rfl, hE (by omega) (by omega) _ _ h0 rfl⟩
 replace n0 := of_decide_eq_false n0
 repeat walk_at "w"
 refine br (fun h => ?_) (fun n1 => ?_)
 · obtain rfl : i = 1 := by have := of_decide_eq_true h; omega
   refine wss_one (ws_raise X1 hr (by omega) rfl ?_)
   walk_at "r"
   exact ⟨rfl, hE (by omega) (by omega) _ _ h1 rfl⟩
 replace n1 := of_decide_eq_false n1
 repeat walk_at "w"
 refine br (fun h => ?_) (fun n2 => ?_)
 · obtain rfl : i = 2 := by have := of_decide_eq_true h; omega
   refine wss_one (ws_raise X2 hr (by omega) rfl ?_)
   walk_at "r"
   exact ⟨rfl, hE (by omega) (by omega) _ _ h2 rfl⟩
 replace n2 := of_decide_eq_false n2
 repeat walk_at "w"
 refine br (fun h => ?_) (fun n3 => ?_)
 · obtain rfl : i = 3 := by have := of_decide_eq_true h; omega
   refine wss_one (ws_raise X3 hr (by omega) rfl ?_)
   walk_at "r"
   exact ⟨rfl, hE (by omega) (by omega) _ _ h3 rfl⟩
 replace n3 := of_decide_eq_false n3
 repeat walk_at "w"
 refine br (fun h => ?_) (fun n4 => ?_)
 · obtain rfl : i = 4 := by have := of_decide_eq_true h; omega
   refine wss_one (ws_raise0 X4 hr (by omega) rfl ?_)
   exact hE (by omega) (by omega) _ _ h4 rfl
 replace n4 := of_decide_eq_false n4
 repeat walk_at "w"
 refine br (fun h => ?_) (fun n5 => ?_)
 · obtain rfl : i = 5 := by have := of_decide_eq_true h; omega
   refine wss_one (ws_raise0 X5 hr (by omega) rfl ?_)
   exact hE (by omega) (by omega) _ _ h5 rfl
 replace n5 := of_decide_eq_false n5
 repeat walk_at "w"
 refine br (fun h => ?_) (fun n6 => ?_)
 · obtain rfl : i = 6 := by have := of_decide_eq_true h; omega
   refine wss_one (ws_raise0 X6 hr (by omega) rfl ?_)
   exact hE (by omega) (by omega) _ _ h6 rfl
 replace n6 := of_decide_eq_false n6
 repeat walk_at "w"
 refine br (fun h => ?_) (fun n7 => ?_)
 · obtain rfl : i = 7 := by have := of_decide_eq_true h; omega
   refine wss_one (ws_raise X7 hr (by omega) rfl ?_)
   walk_at "r"
   exact ⟨rfl, hE (by omega) (by omega) _ _ h7 rfl⟩
 replace n7 := of_decide_eq_false n7
 repeat walk_at "w"
 refine br (fun h => ?_) (fun n8 => ?_)
 · obtain rfl : i = 8 := by have := of_decide_eq_true h; omega
   refine wss_one (ws_raise X8 hr (by omega) rfl ?_)
   walk_at "r"
   exact ⟨rfl, hE (by omega) (by omega) _ _ h8 rfl⟩
 replace n8 := of_decide_eq_false n8
 repeat walk_at "w"
 refine br (fun h => ?_) (fun n9 => ?_)
 · obtain rfl : i = 9 := by have := of_decide_eq_true h; omega
   refine wss_one (ws_raise X9 hr (by omega) rfl ?_)
   walk_at "r"
   exact ⟨rfl, hE (by omega) (by omega) _ _ h9 rfl⟩
 replace n9 := of_decide_eq_false n9
 repeat walk_at "w"
 refine br (fun h => ?_) (fun n10 => ?_)
 · obtain rfl : i = 10 := by have := of_decide_eq_true h; omega
   refine wss_one (ws_raise0 X10 hr (by omega) rfl ?_)
   exact hE (by omega) (by omega) _ _ h10 rfl
 replace n10 := of_decide_eq_false n10
 refine wss_nil (hQ ?_)
 omega
theorem scMiddle : FnScope ["_law_at", "_law_a", "_law_b"] ["_law_at", "_law_a", "_law_b"] (defScope sMiddle) := by walk_at "sc"
theorem ok_middle {f D11 D12 D13 D14 D15 D16 D17 D18 D19 D20 D21 : Addr} {cs : List Addr} {fd : FuncData} {k : Nat} (F : Fun K "_law_middle" "_law_middle" sMiddle f fd)
  (X11 : XMk P w K mg base "Bare" 2 0 [("word", .inr "Bare")] D11) (h11 : cs[11]? = some D11)
  (X12 : XMk P w K mg base "Taken" 2 1 [("name", .inl 0), ("word", .inr "Taken")] D12) (h12 : cs[12]? = some D12)
  (X13 : XMk P w K mg base "InUse" 2 1 [("name", .inl 0), ("word", .inr "InUse")] D13) (h13 : cs[13]? = some D13)
  (X14 : XMk P w K mg base "Full" 2 0 [("word", .inr "Full")] D14) (h14 : cs[14]? = some D14)
  (X15 : XMk P w K mg base "Lacking" 2 1 [("operation", .inl 0), ("word", .inr "Lacking")] D15) (h15 : cs[15]? = some D15)
  (X16 : XMk P w K mg base "Unlike" 2 1 [("operation", .inl 0), ("word", .inr "Unlike")] D16) (h16 : cs[16]? = some D16)
  (X17 : XMk P w K mg base "Unjoined" 2 0 [("word", .inr "Unjoined")] D17) (h17 : cs[17]? = some D17)
  (X18 : XMk P w K mg base "NotKept" 2 1 [("name", .inl 0), ("word", .inr "NotKept")] D18) (h18 : cs[18]? = some D18)
  (X19 : XMk P w K mg base "Breaks" 2 1 [("name", .inl 0), ("word", .inr "Breaks")] D19) (h19 : cs[19]? = some D19)
  (X20 : XMk P w K mg base "Wide" 2 0 [("word", .inr "Wide")] D20) (h20 : cs[20]? = some D20)
  (X21 : XMk P w K mg base "NotTwos" 2 0 [("word", .inr "NotTwos")] D21) (h21 : cs[21]? = some D21)
  (hk : 3 ≤ k) : FnOk P w K mg base (KX P w) (k + 1) f fd ["_law_at", "_law_a", "_law_b"] (spD K (spRaise 11 22 cs)) := by
 refine fd_ok F scMiddle (fun ds O Q E ⟨_, _, _, e, _⟩ => by rw [e]; rfl) (fun cdv A outer s H E0 hr ds O Q E ⟨i, a, b, e, hE, hQ⟩ => ?_)
 subst e
 have nd := scMiddle.nd
 repeat walk_at "w"
 refine br (fun h => ?_) (fun n11 => ?_)
 · obtain rfl : i = 11 := by have := of_decide_eq_true h; omega
   refine wss_one (ws_raise0 X11 hr (by omega) rfl ?_)
   exact hE (by omega) (by omega) _ _ h11 rfl
 replace n11 := of_decide_eq_false n11
 repeat walk_at "w"
 refine br (fun h => ?_) (fun n12 => ?_)
 · obtain rfl : i = 12 := by have := of_decide_eq_true h; omega
   refine wss_one (ws_raise X12 hr (by omega) rfl ?_)
   walk_at "r"
   exact ⟨rfl, hE (by omega) (by omega) _ _ h12 rfl⟩
 replace n12 := of_decide_eq_false n12
 repeat walk_at "w"
 refine br (fun h => ?_) (fun n13 => ?_)
 · obtain rfl : i = 13 := by have := of_decide_eq_true h; omega
   refine wss_one (ws_raise X13 hr (by omega) rfl ?_)
   walk_at "r"
   exact ⟨rfl, hE (by omega) (by omega) _ _ h13 rfl⟩
 replace n13 := of_decide_eq_false n13
 repeat walk_at "w"
 refine br (fun h => ?_) (fun n14 => ?_)
 · obtain rfl : i = 14 := by have := of_decide_eq_true h; omega
   refine wss_one (ws_raise0 X14 hr (by omega) rfl ?_)
   exact hE (by omega) (by omega) _ _ h14 rfl
 replace n14 := of_decide_eq_false n14
 repeat walk_at "w"
 refine br (fun h => ?_) (fun n15 => ?_)
 · obtain rfl : i = 15 := by have := of_decide_eq_true h; omega
   refine wss_one (ws_raise X15 hr (by omega) rfl ?_)
   walk_at "r"
   exact ⟨rfl, hE (by omega) (by omega) _ _ h15 rfl⟩
 replace n15 := of_decide_eq_false n15
 repeat walk_at "w"
 refine br (fun h => ?_) (fun n16 => ?_)
 · obtain rfl : i = 16 := by have := of_decide_eq_true h; omega
   refine wss_one (ws_raise X16 hr (by omega) rfl ?_)
   walk_at "r"
   exact ⟨rfl, hE (by omega) (by omega) _ _ h16 rfl⟩
 replace n16 := of_decide_eq_false n16
 repeat walk_at "w"
 refine br (fun h => ?_) (fun n17 => ?_)
 · obtain rfl : i = 17 := by have := of_decide_eq_true h; omega
   refine wss_one (ws_raise0 X17 hr (by omega) rfl ?_)
   exact hE (by omega) (by omega) _ _ h17 rfl
 replace n17 := of_decide_eq_false n17
 repeat walk_at "w"
 refine br (fun h => ?_) (fun n18 => ?_)
 · obtain rfl : i = 18 := by have := of_decide_eq_true h; omega
   refine wss_one (ws_raise X18 hr (by omega) rfl ?_)
   walk_at "r"
   exact ⟨rfl, hE (by omega) (by omega) _ _ h18 rfl⟩
 replace n18 := of_decide_eq_false n18
 repeat walk_at "w"
 refine br (fun h => ?_) (fun n19 => ?_)
 · obtain rfl : i = 19 := by have := of_decide_eq_true h; omega
   refine wss_one (ws_raise X19 hr (by omega) rfl ?_)
   walk_at "r"
   exact ⟨rfl, hE (by omega) (by omega) _ _ h19 rfl⟩
 replace n19 := of_decide_eq_false n19
 repeat walk_at "w"
 refine br (fun h => ?_) (fun n20 => ?_)
 · obtain rfl : i = 20 := by have := of_decide_eq_true h; omega
   refine wss_one (ws_raise0 X20 hr (by omega) rfl ?_)
   exact hE (by omega) (by omega) _ _ h20 rfl
 replace n20 := of_decide_eq_false n20
 repeat walk_at "w"
 refine br (fun h => ?_) (fun n21 => ?_)
 · obtain rfl : i = 21 := by have := of_decide_eq_true h; omega
   refine wss_one (ws_raise0 X21 hr (by omega) rfl ?_)
   exact hE (by omega) (by omega) _ _ h21 rfl
 replace n21 := of_decide_eq_false n21
 refine wss_nil (hQ ?_)
 omega
theorem scLate : FnScope ["_law_at", "_law_a", "_law_b"] ["_law_at", "_law_a", "_law_b"] (defScope sLate) := by walk_at "sc"
theorem ok_late {f D22 D23 D24 D25 D26 D27 D28 D29 D30 D31 D32 : Addr} {cs : List Addr} {fd : FuncData} {k : Nat} (F : Fun K "_law_late" "_law_late" sLate f fd)
  (X22 : XMk P w K mg base "BadRow" 2 1 [("at", .inl 0), ("word", .inr "BadRow")] D22) (h22 : cs[22]? = some D22)
  (X23 : XMk P w K mg base "BadPlaces" 2 0 [("word", .inr "BadPlaces")] D23) (h23 : cs[23]? = some D23)
  (X24 : XMk P w K mg base "BadDeed" 2 0 [("word", .inr "BadDeed")] D24) (h24 : cs[24]? = some D24)
  (X25 : XMk P w K mg base "Stopped" 2 2 [("why", .inl 1), ("at", .inl 0), ("word", .inr "Stopped")] D25) (h25 : cs[25]? = some D25)
  (X26 : XMk P w K mg base "BadPage" 2 1 [("at", .inl 0), ("word", .inr "BadPage")] D26) (h26 : cs[26]? = some D26)
  (X27 : XML P w K mg base "NoOperation" 2 1 [("operation", .inl 0), ("word", .inr "NoOperation")] D27) (h27 : cs[27]? = some D27)
  (X28 : XML P w K mg base "NoRule" 2 1 [("name", .inl 0), ("word", .inr "NoRule")] D28) (h28 : cs[28]? = some D28)
  (X29 : XML P w K mg base "NoKind" 2 1 [("name", .inl 0), ("word", .inr "NoKind")] D29) (h29 : cs[29]? = some D29)
  (X30 : XML P w K mg base "NoBridge" 2 1 [("name", .inl 0), ("word", .inr "NoBridge")] D30) (h30 : cs[30]? = some D30)
  (X31 : XML P w K mg base "NoWatch" 2 1 [("name", .inl 0), ("word", .inr "NoWatch")] D31) (h31 : cs[31]? = some D31)
  (X32 : XML P w K mg base "NothingLeft" 2 0 [("word", .inr "NothingLeft")] D32) (h32 : cs[32]? = some D32)
  (hk : 3 ≤ k) : FnOk P w K mg base (KX P w) (k + 1) f fd ["_law_at", "_law_a", "_law_b"] (spD K (spRaise 22 33 cs)) := by
 refine fd_ok F scLate (fun ds O Q E ⟨_, _, _, e, _⟩ => by rw [e]; rfl) (fun cdv A outer s H E0 hr ds O Q E ⟨i, a, b, e, hE, hQ⟩ => ?_)
 subst e
 have nd := scLate.nd
 repeat walk_at "w"
 refine br (fun h => ?_) (fun n22 => ?_)
 · obtain rfl : i = 22 := by have := of_decide_eq_true h; omega
   refine wss_one (ws_raise X22 hr (by omega) rfl ?_)
   walk_at "r"
   exact ⟨rfl, hE (by omega) (by omega) _ _ h22 rfl⟩
 replace n22 := of_decide_eq_false n22
 repeat walk_at "w"
 refine br (fun h => ?_) (fun n23 => ?_)
 · obtain rfl : i = 23 := by have := of_decide_eq_true h; omega
   refine wss_one (ws_raise0 X23 hr (by omega) rfl ?_)
   exact hE (by omega) (by omega) _ _ h23 rfl
 replace n23 := of_decide_eq_false n23
 repeat walk_at "w"
 refine br (fun h => ?_) (fun n24 => ?_)
 · obtain rfl : i = 24 := by have := of_decide_eq_true h; omega
   refine wss_one (ws_raise0 X24 hr (by omega) rfl ?_)
   exact hE (by omega) (by omega) _ _ h24 rfl
 replace n24 := of_decide_eq_false n24
 repeat walk_at "w"
 refine br (fun h => ?_) (fun n25 => ?_)
 · obtain rfl : i = 25 := by have := of_decide_eq_true h; omega
   refine wss_one (ws_raise X25 hr (by omega) rfl ?_)
   walk_at "r"
   exact ⟨rfl, hE (by omega) (by omega) _ _ h25 rfl⟩
 replace n25 := of_decide_eq_false n25
 repeat walk_at "w"
 refine br (fun h => ?_) (fun n26 => ?_)
 · obtain rfl : i = 26 := by have := of_decide_eq_true h; omega
   refine wss_one (ws_raise X26 hr (by omega) rfl ?_)
   walk_at "r"
   exact ⟨rfl, hE (by omega) (by omega) _ _ h26 rfl⟩
 replace n26 := of_decide_eq_false n26
 repeat walk_at "w"
 refine br (fun h => ?_) (fun n27 => ?_)
 · obtain rfl : i = 27 := by have := of_decide_eq_true h; omega
   refine wss_one (ws_raiseL X27 hr (by omega) rfl ?_)
   walk_at "r"
   exact ⟨rfl, hE (by omega) (by omega) _ _ h27 rfl⟩
 replace n27 := of_decide_eq_false n27
 repeat walk_at "w"
 refine br (fun h => ?_) (fun n28 => ?_)
 · obtain rfl : i = 28 := by have := of_decide_eq_true h; omega
   refine wss_one (ws_raiseL X28 hr (by omega) rfl ?_)
   walk_at "r"
   exact ⟨rfl, hE (by omega) (by omega) _ _ h28 rfl⟩
 replace n28 := of_decide_eq_false n28
 repeat walk_at "w"
 refine br (fun h => ?_) (fun n29 => ?_)
 · obtain rfl : i = 29 := by have := of_decide_eq_true h; omega
   refine wss_one (ws_raiseL X29 hr (by omega) rfl ?_)
   walk_at "r"
   exact ⟨rfl, hE (by omega) (by omega) _ _ h29 rfl⟩
 replace n29 := of_decide_eq_false n29
 repeat walk_at "w"
 refine br (fun h => ?_) (fun n30 => ?_)
 · obtain rfl : i = 30 := by have := of_decide_eq_true h; omega
   refine wss_one (ws_raiseL X30 hr (by omega) rfl ?_)
   walk_at "r"
   exact ⟨rfl, hE (by omega) (by omega) _ _ h30 rfl⟩
 replace n30 := of_decide_eq_false n30
 repeat walk_at "w"
 refine br (fun h => ?_) (fun n31 => ?_)
 · obtain rfl : i = 31 := by have := of_decide_eq_true h; omega
   refine wss_one (ws_raiseL X31 hr (by omega) rfl ?_)
   walk_at "r"
   exact ⟨rfl, hE (by omega) (by omega) _ _ h31 rfl⟩
 replace n31 := of_decide_eq_false n31
 repeat walk_at "w"
 refine br (fun h => ?_) (fun n32 => ?_)
 · obtain rfl : i = 32 := by have := of_decide_eq_true h; omega
   refine wss_one (ws_raiseL0 X32 hr (by omega) rfl ?_)
   exact hE (by omega) (by omega) _ _ h32 rfl
 replace n32 := of_decide_eq_false n32
 refine wss_nil (hQ ?_)
 omega
end
section
variable {P : Program} {w : World} {K : PySem.W.Frag} {mg : Str → Option Value} {base : Heap}
theorem scWords : FnScope ["_law_words_here"] [] (defScope sWords) := by walk_at "sc"
theorem ok_words {f : Addr} {fd : FuncData} {k : Nat} (F : Fun K "_law_words" "_law_words" sWords f fd) : FnOk P w K mg base (KX P w) (k + 1) f fd [] (spD K spWords) := by
 refine fd_ok F scWords (fun ds O Q E ⟨e, _⟩ => by rw [e]; rfl) (fun cdv A outer s H E0 hr ds O Q E ⟨e, hQ⟩ => ?_)
 subst e
 have nd := scWords.nd
 repeat walk_at "w"
 refine sAdd_tx (by decide +kernel) ?_
 repeat walk_at "w"
 refine sAdd_tx (by decide +kernel) ?_
 repeat walk_at "w"
 refine sAdd_tx (by decide +kernel) ?_
 repeat walk_at "w"
 refine sAdd_tx (by decide +kernel) ?_
 repeat walk_at "w"
 refine w_splitT ?_
 repeat walk_at "w"
 refine ⟨_, rfl, ?_⟩
 repeat walk_at "w"
 refine ⟨[32], rfl, by decide, by decide, by decide +kernel, .fix ?_⟩
 refine Eq.mp (congrArg (fun z => Q (.lst z) O) ?_) hQ
 refine (congrArg (List.map D.str) (?_ : wd76 = List.map SX.S (TL.spl [32] 0 [] _))).trans mpM
 decide +kernel
end
section
variable {P : Program} {w : World} {K : PySem.W.Frag} {mg : Str → Option Value} {base : Heap}
section
variable {X : Cx} {E : ExP} {Γ : Env'} {O : RW.Own} {Q : PD} {pos p cp : Pos} {x : Str} {e : Expr} {es : List Expr}
theorem mkf_k {k n j : Nat} {F : FT} {C : Addr} {f : Str} (M : XMk X.prog X.w X.K X.mg X.base x k n F C) (hr : Room j X.A) (hj : k + 1 ≤ j) (hf : ∃ i, (f, i) ∈ F) (h : WA X E (e :: es) Γ O fun ds O' => ds.length = n ∧ ∃ d, (ftD F ds).lookup f = some d ∧ Q d O') (hn : n ≤ 1000 := by decide) (hg : Gl X x := by rfl) (hdb : (x == ("__debug__" : Str)) = false := by decide)
  (he : starEach (e :: es) X.env = (false, eval e X.env) :: starEach es X.env := by rfl) (hpl : (backTo cp (starEach es X.env)).any (·.1) = false := by rfl) (hb : attributeBase (.Call (.Name x p) (e :: es) [] cp) f X.env (eval (.Call (.Name x p) (e :: es) [] cp) X.env) = eval (.Call (.Name x p) (e :: es) [] cp) X.env := by rfl) :
  WE X E (.Attribute (.Call (.Name x p) (e :: es) [] cp) f pos) Γ O Q :=
 w_mkf (fun W tk => pmk_x tk M hn (L2H.roomH_of hr) hj hg (ta := wA X (e :: es)) paW hdb he hpl) M.xf (hf.elim fun i hi => M.nf _ hi) (fun _ _ _ q => q) h hb
theorem mkf_l {k n j : Nat} {F : FT} {C : Addr} {f : Str} (M : XML X.prog X.w X.K X.mg X.base x k n F C) (hr : Room j X.A) (hj : k + 1 ≤ j) (hf : ∃ i, (f, i) ∈ F) (h : WA X E (e :: es) Γ O fun ds O' => ds.length = n ∧ ∃ d, (ftD F ds).lookup f = some d ∧ Q d O') (hn : n ≤ 1000 := by decide) (hg : Gl X x := by rfl) (hdb : (x == ("__debug__" : Str)) = false := by decide)
  (he : starEach (e :: es) X.env = (false, eval e X.env) :: starEach es X.env := by rfl) (hpl : (backTo cp (starEach es X.env)).any (·.1) = false := by rfl) (hb : attributeBase (.Call (.Name x p) (e :: es) [] cp) f X.env (eval (.Call (.Name x p) (e :: es) [] cp) X.env) = eval (.Call (.Name x p) (e :: es) [] cp) X.env := by rfl) :
  WE X E (.Attribute (.Call (.Name x p) (e :: es) [] cp) f pos) Γ O Q :=
 w_mkf (fun W tk => pmk_l tk M hn (L2H.roomH_of hr) hj hg (ta := wA X (e :: es)) paW hdb he hpl) M.xf (hf.elim fun i hi => M.nf _ hi) (fun _ _ _ q => q) h hb
end
theorem scLaw : FnScope ["_law_script", "_law_dr", "_law_a", "_law_b", "_law_start", "_law_step", "_law_at", "_law_found", "_law_e", "_law_early_here", "_law_due", "_law_k", "_law_some"] ["_law_script"] (defScope sLaw) := by walk_at "sc"
def spLaw : SpD := fun ds O Q _ => ∃ ns : List Int, ds = [.rol (ns.map .int)] ∧ ∀ O', Q (.bl true) O'
theorem blt_27 {n : Nat} : (decide ((n : Int) < 27)) = Nat.blt n 27 := by
 rw [Bool.eq_iff_iff]
 simp [Nat.blt_eq]
 omega
theorem ok_law {f CB CM D0 D1 D2 D3 D7 D8 D9 D12 D13 D15 D16 D18 D19 D22 D25 D26 D27 D28 D29 D30 D31 : Addr} {cs : List Addr} {fd : FuncData} {k : Nat} (F : Fun K "law" "law" sLaw f fd) (mrng : mg "range" = none) (T : Cls76 K mg CB CM cs)
  (X0 : XMk P w K mg base "BadName" 2 1 [("name", .inl 0), ("word", .inr "BadName")] D0)
  (X1 : XMk P w K mg base "BadOperation" 2 1 [("at", .inl 0), ("word", .inr "BadOperation")] D1)
  (X2 : XMk P w K mg base "BadTree" 2 1 [("at", .inl 0), ("word", .inr "BadTree")] D2)
  (X3 : XMk P w K mg base "BadCount" 2 1 [("at", .inl 0), ("word", .inr "BadCount")] D3)
  (X7 : XMk P w K mg base "BadText" 2 1 [("at", .inl 0), ("word", .inr "BadText")] D7)
  (X8 : XMk P w K mg base "Uneven" 2 1 [("at", .inl 0), ("word", .inr "Uneven")] D8)
  (X9 : XMk P w K mg base "Strange" 2 1 [("operation", .inl 0), ("word", .inr "Strange")] D9)
  (X12 : XMk P w K mg base "Taken" 2 1 [("name", .inl 0), ("word", .inr "Taken")] D12)
  (X13 : XMk P w K mg base "InUse" 2 1 [("name", .inl 0), ("word", .inr "InUse")] D13)
  (X15 : XMk P w K mg base "Lacking" 2 1 [("operation", .inl 0), ("word", .inr "Lacking")] D15)
  (X16 : XMk P w K mg base "Unlike" 2 1 [("operation", .inl 0), ("word", .inr "Unlike")] D16)
  (X18 : XMk P w K mg base "NotKept" 2 1 [("name", .inl 0), ("word", .inr "NotKept")] D18)
  (X19 : XMk P w K mg base "Breaks" 2 1 [("name", .inl 0), ("word", .inr "Breaks")] D19)
  (X22 : XMk P w K mg base "BadRow" 2 1 [("at", .inl 0), ("word", .inr "BadRow")] D22)
  (X25 : XMk P w K mg base "Stopped" 2 2 [("why", .inl 1), ("at", .inl 0), ("word", .inr "Stopped")] D25)
  (X26 : XMk P w K mg base "BadPage" 2 1 [("at", .inl 0), ("word", .inr "BadPage")] D26)
  (X27 : XML P w K mg base "NoOperation" 2 1 [("operation", .inl 0), ("word", .inr "NoOperation")] D27)
  (X28 : XML P w K mg base "NoRule" 2 1 [("name", .inl 0), ("word", .inr "NoRule")] D28)
  (X29 : XML P w K mg base "NoKind" 2 1 [("name", .inl 0), ("word", .inr "NoKind")] D29)
  (X30 : XML P w K mg base "NoBridge" 2 1 [("name", .inl 0), ("word", .inr "NoBridge")] D30)
  (X31 : XML P w K mg base "NoWatch" 2 1 [("name", .inl 0), ("word", .inr "NoWatch")] D31)
  (GB : Fd P w K mg base "_law_bag" 1 ["_law_script"] spBag) (GP : Fd P w K mg base "_law_pull" 1 ["_law_dr", "_law_many"] spPull) (GS : Fd P w K mg base "_law_same" (4 + 0 + 1) ["_law_found", "_law_due"] (spSame 4))
  (GF : FdE P w K mg base "_law_flags" 1 (spFlags cs)) (GK : FdE P w K mg base "_law_kinds_of" 1 (spKinds cs)) (GW : Fd P w K mg base "_law_words" 1 [] spWords)
  (GE : Fd P w K mg base "_law_early" 4 ["_law_at", "_law_a", "_law_b"] (spRaise 0 11 cs)) (GM : Fd P w K mg base "_law_middle" 4 ["_law_at", "_law_a", "_law_b"] (spRaise 11 22 cs)) (GL : Fd P w K mg base "_law_late" 4 ["_law_at", "_law_a", "_law_b"] (spRaise 22 33 cs))
  (hk : 8 ≤ k) : FnOk P w K mg base (KX P w) (k + 1) f fd ["_law_script"] (spD K spLaw) := by
 refine fd_ok F scLaw (fun ds O Q E ⟨ns, e, _⟩ => by rw [e]; rfl) (fun cdv A outer s H E0 hr ds O Q E ⟨ns, e, hQ⟩ => ?_)
 subst e
 have nd := scLaw.nd
 refine wss_cons ?_
 walk_at "r"
 refine ⟨ns, rfl, fun p np => ?_⟩
 have hp : updO O p (.any DrOk) p = some (.any DrOk) := updO_same
 generalize updO O p (.any DrOk) = O1 at hp ⊢
 refine wss_cons (ws_par 2 3 rfl nd ?_)
 walk_at "r"
 refine ⟨p, _, rfl, hp, by decide, by decide, fun a ha0 ha1 => ?_⟩
 walk_at "r"
 refine ⟨p, _, rfl, hp, by decide, by decide, fun b hb0 hb1 => ?_⟩
 walk_at "r"
 refine ⟨_, _, rfl, ?_⟩
 walk_at "r"
 refine ⟨p, 33, rfl, hp, by decide, by decide, fun r hr0 hr1 => ?_⟩
 refine wss_cons (ws_for (passes_of rfl) rfl (wi_rng1 mrng ?_))
 walk_at "r"
 refine ⟨33, rfl, by decide, by decide, fun i Γ2 O2 => O2 = O1 ∧ ∃ c5 c6 c7 c8 c9 c10 c11 c12 : Option D, Γ2 = [some (.rol (ns.map .int)), some (.obj p), some (.int a), some (.int b), some (.int r), c5, c6, c7, c8, c9, c10, c11, c12], ⟨rfl, _, _, _, _, _, _, _, _, rfl⟩, fun _ _ _ _ => trivial, ?_, ?_⟩
 · rintro i d Γ2 O2 hd ⟨rfl, c5, c6, c7, c8, c9, c10, c11, c12, rfl⟩
   obtain ⟨hi, rfl⟩ := rngD_get hd
   walk_at "r"
   obtain ⟨n, hn, hn33⟩ : ∃ n : Nat, (r + 5 * (0 + (i : Nat) : Int)) % 33 = (n : Nat) ∧ n < 33 := ⟨((r + 5 * (0 + (i : Nat) : Int)) % 33).toNat, by omega, by omega⟩
   obtain ⟨C, hC⟩ : ∃ C, cs[n]? = some C := by
    obtain ⟨C, h, _⟩ := T.nm n (wd76.getD n Str.empty) (by
     have hl : wd76.length = 33 := by decide +kernel
     rw [geG (by omega), List.getD_eq_getElem?_getD, geG (by omega)]; rfl)
    exact ⟨C, h⟩
   have At := T.at hC
   obtain ⟨xf, nw⟩ := T.xf n C hC
   obtain ⟨ex1, ex2⟩ := Bool.and_eq_true_iff.mp At.ex
   replace ex1 := of_decide_eq_true ex1
   replace ex2 := of_decide_eq_true ex2
   rw [hn]
   refine .fix ?_
   refine wss_cut (fun Γ3 O3 => O3 = O2 ∧ Γ3 = [some (.rol (ns.map .int)), some (.obj p), some (.int a), some (.int b), some (.int r), some (.int (0 + (i : Nat))), some (.int (n : Nat)), some (.lst [fl76 n, wdD n, kd76 n]), none, c9, c10, c11, c12]) ?_ ?_
   · refine ws_try (l := [([.ref CB], some 8, _), ([.ref CM], some 8, _)]) rfl rfl nd (.named (.one ⟨rfl, by decide, .inl T.bB⟩) rfl rfl (.named (.one ⟨rfl, by decide, .inl T.bM⟩) rfl rfl .nil)) fun pn xe ho => ?_
     refine WSs.exMono (E := fun e Γ' O' => ∃ fs, e = ⟨.ref C, fs⟩ ∧ fs.lookup (Str.ofString "word") = some (wdD n) ∧ Γ' = [some (.rol (ns.map .int)), some (.obj p), some (.int a), some (.int b), some (.int r), some (.int (0 + (i : Nat))), some (.int (n : Nat)), some (.lst []), c8, c9, c10, c11, c12] ∧ O' = O2) ?_ ?_
     · refine wss_cons (ws_expr (w_call GE hr (by omega) ?_))
       walk_at "r"
       refine ⟨n, a, b, rfl, fun h1 h2 C' fs hC' hw => ⟨fs, by rw [hC] at hC'; cases hC'; rfl, hw, rfl, rfl⟩, fun h1 => ?_⟩
       refine wss_cons (ws_expr (w_call GM hr (by omega) ?_))
       walk_at "r"
       refine ⟨n, a, b, rfl, fun h1 h2 C' fs hC' hw => ⟨fs, by rw [hC] at hC'; cases hC'; rfl, hw, rfl, rfl⟩, fun h2 => ?_⟩
       refine wss_one (ws_expr (w_call GL hr (by omega) ?_))
       walk_at "r"
       refine ⟨n, a, b, rfl, fun h1 h2 C' fs hC' hw => ⟨fs, by rw [hC] at hC'; cases hC'; rfl, hw, rfl, rfl⟩, fun h3 => ?_⟩
       exact absurd (show (0 ≤ n ∧ n < 11) ∨ (11 ≤ n ∧ n < 22) ∨ (22 ≤ n ∧ n < 33) by omega) (fun z => z.elim h1 fun z => z.elim h2 h3)
     · rintro e Γ' O' ⟨fs, rfl, hw, rfl, rfl⟩
       have suite : True := trivial
       cases hb : Nat.blt n 27 with
       | true =>
         rw [hb] at ex1
         refine ⟨true, ex1, fun _ a' C' dd oe pn' e1 hz hf => ?_, fun z => nomatch z⟩
         obtain rfl : C = C' := by cases e1; rfl
         refine wss_one (ws_set 7 nd (w_lst (wa_cons (w_callE GF (L2H.roomH_mark hr _) (by omega) mcS hz hf ?_))))
         walk_at "r"
         refine ⟨fs, rfl, _, _, _, _, n, rfl, hC, ?_⟩
         refine wa_cons (w_xf xf nw hz hf hw ?_)
         walk_at "r"
         refine ⟨rfl, wa_cons (w_callE GK (L2H.roomH_mark hr _) (by omega) mcS hz hf ?_)⟩
         walk_at "r"
         refine ⟨fs, rfl, _, _, _, _, n, rfl, hC, ?_⟩
         walk_at "r"
         exact .fix ⟨rfl, rfl⟩
       | false =>
         rw [hb] at ex1 ex2
         refine ⟨false, ex1, (fun z => nomatch z), fun _ => ⟨true, ex2, fun _ a' C' dd oe pn' e1 hz hf => ?_, fun z => nomatch z⟩⟩
         obtain rfl : C = C' := by cases e1; rfl
         refine wss_one (ws_set 7 nd (w_lst (wa_cons (w_callE GF (L2H.roomH_mark hr _) (by omega) mcS hz hf ?_))))
         walk_at "r"
         refine ⟨fs, rfl, _, _, _, _, n, rfl, hC, ?_⟩
         refine wa_cons (w_xf xf nw hz hf hw ?_)
         walk_at "r"
         refine ⟨rfl, wa_cons (w_callE GK (L2H.roomH_mark hr _) (by omega) mcS hz hf ?_)⟩
         walk_at "r"
         refine ⟨fs, rfl, _, _, _, _, n, rfl, hC, ?_⟩
         walk_at "r"
         exact .fix ⟨rfl, rfl⟩
   rintro Γ3 O3 ⟨rfl, rfl⟩
   walk_at "r"
   refine w_lc [11] (own := [("_law_k", 11)]) rfl nd (blkOk_by rfl) rfl (wi_rng1 mrng ?_)
   walk_at "r"
   refine ⟨33, rfl, by decide, by decide, lc_all (fun k _ y => y = .bl (k == n)) (by rw [rngD_len]; decide) (fun _ _ => trivial) (fun k d O4 hd4 hs4 s H Cc cl fp => ?_) fun ys h1 h2 => ?_⟩
   · obtain ⟨hk4, rfl⟩ := rngD_get hd4
     refine wgc_name 11 nd ⟨rfl, fun s H Cc cl fp => ?_⟩
     walk_at "r"
     refine ⟨rfl, congrArg D.bl ?_⟩
     rw [Bool.eq_iff_iff]
     simp
     omega
   have ey : ys = (List.range 33).map fun j => D.bl (j == n) := by
    rw [rngD_len] at h1
    refine List.ext_getElem? fun j => ?_
    rw [geM]
    by_cases hj : j < 33
    · obtain ⟨y, e1, e2⟩ := h2 j _ (rngD_at (lo := 0) (n := Int.toNat 33) hj)
      rw [e1, e2, List.getElem?_range hj]
      rfl
    · rw [geN.mpr (by rw [h1]; exact Nat.le_of_not_lt hj), geN.mpr (by rw [List.length_range]; omega)]
      rfl
   subst ey
   refine .fix ?_
   refine wa_cons (w_ix (w_call0 GW hr (by omega) ⟨rfl, ?_⟩))
   walk_at "r"
   have hl : wd76.length = 33 := by decide +kernel
   refine sIx_l (d := wdD n) (atI_nat (by rw [geM, geG (by omega)]; unfold wdD; rw [List.getD_eq_getElem?_getD, geG (by omega)]; rfl)) ?_
   walk_at "r"
   refine .own fun p2 np2 => ?_
   have hp2 : updO O3 p2 (.lst [.lst ((List.range 33).map fun j => D.bl (j == n)), wdD n]) p = some (.any DrOk) := Sub.new np2 _ _ hp
   walk_at "r"
   refine w_append ?_
   walk_at "r"
   refine ⟨p2, rfl, ⟨_, updO_same⟩, ?_⟩
   walk_at "r"
   refine .fix ⟨_, updO_same, by simp [sizeLine_eq], ?_⟩
   rw [updO_updO]
   refine WSs.fix (p := p2) (i := 10) updO_same rfl ?_
   rw [delO_updO np2]
   repeat walk_at "w"
   refine ⟨_, _, rfl, ?_, .inl ?_, ?_⟩
   rotate_left 2
   · walk_at "r"
     exact ⟨rfl, _, _, _, _, _, _, _, _, rfl⟩
   · have pl : ∀ (m : Nat) (xs : List Bool), xs.length ≤ 90000 → PlainD (m + 2) (.lst (xs.map .bl)) := fun m xs hx => ⟨by rw [lnM]; exact hx, fun d hd => by
      obtain ⟨b, _, rfl⟩ := mmP.mp hd
      exact trivial⟩
     refine ⟨by simp, fun d hd => ?_⟩
     have hd' : d = .lst (((List.range 33).map fun j => (j == n)).map .bl) ∨ d = wdD n ∨ d = .lst ([fLt (n : Int) 27, fLt (n : Int) 27, !fLt (n : Int) 27, !fLt (n : Int) 27].map .bl) := by
      simpa [mpM, Function.comp_def] using hd
     rcases hd' with rfl | rfl | rfl
     · exact pl 1 _ (by simp)
     · exact trivial
     · exact pl 1 _ (by simp)
   · show D.lst [fl76 n, wdD n, kd76 n] = _
     rw [show kd76 n = .lst [.bl (fLt (n : Int) 27), .bl (fLt (n : Int) 27), .bl (!fLt (n : Int) 27), .bl (!fLt (n : Int) 27)] from by unfold kd76; rw [← blt_27]]
     rfl
 · rintro Γ2 O2 ⟨rfl, c5, c6, c7, c8, c9, c10, c11, c12, rfl⟩
   walk_at "r"
   refine mkf_k X0 hr (by omega) ⟨_, mcS⟩ ?_
   walk_at "r"
   refine ⟨rfl, _, rfl, ?_⟩
   walk_at "r"
   refine mkf_k X1 hr (by omega) ⟨_, mcS⟩ ?_
   walk_at "r"
   refine ⟨rfl, _, rfl, ?_⟩
   walk_at "r"
   refine mkf_k X2 hr (by omega) ⟨_, mcS⟩ ?_
   walk_at "r"
   refine ⟨rfl, _, rfl, ?_⟩
   walk_at "r"
   refine mkf_k X3 hr (by omega) ⟨_, mcS⟩ ?_
   walk_at "r"
   refine ⟨rfl, _, rfl, ?_⟩
   walk_at "r"
   refine mkf_k X7 hr (by omega) ⟨_, mcS⟩ ?_
   walk_at "r"
   refine ⟨rfl, _, rfl, ?_⟩
   walk_at "r"
   refine .fix ?_
   walk_at "r"
   refine mkf_k X8 hr (by omega) ⟨_, mcS⟩ ?_
   walk_at "r"
   refine ⟨rfl, _, rfl, ?_⟩
   walk_at "r"
   refine mkf_k X9 hr (by omega) ⟨_, mcS⟩ ?_
   walk_at "r"
   refine ⟨rfl, _, rfl, ?_⟩
   walk_at "r"
   refine mkf_k X12 hr (by omega) ⟨_, mcS⟩ ?_
   walk_at "r"
   refine ⟨rfl, _, rfl, ?_⟩
   walk_at "r"
   refine mkf_k X13 hr (by omega) ⟨_, mcS⟩ ?_
   walk_at "r"
   refine ⟨rfl, _, rfl, ?_⟩
   walk_at "r"
   refine .fix ?_
   refine sAdd_ll (by simp [sizeLine_eq]) (.fix ?_)
   walk_at "r"
   refine mkf_k X15 hr (by omega) ⟨_, mcS⟩ ?_
   walk_at "r"
   refine ⟨rfl, _, rfl, ?_⟩
   walk_at "r"
   refine mkf_k X16 hr (by omega) ⟨_, mcS⟩ ?_
   walk_at "r"
   refine ⟨rfl, _, rfl, ?_⟩
   walk_at "r"
   refine mkf_k X18 hr (by omega) ⟨_, mcS⟩ ?_
   walk_at "r"
   refine ⟨rfl, _, rfl, ?_⟩
   walk_at "r"
   refine mkf_k X19 hr (by omega) ⟨_, mcS⟩ ?_
   walk_at "r"
   refine ⟨rfl, _, rfl, ?_⟩
   walk_at "r"
   refine .fix ?_
   refine sAdd_ll (by simp [sizeLine_eq]) (.fix ?_)
   walk_at "r"
   refine mkf_k X22 hr (by omega) ⟨_, mcS⟩ ?_
   walk_at "r"
   refine ⟨rfl, _, rfl, ?_⟩
   walk_at "r"
   refine mkf_k X25 hr (by omega) ⟨_, mcM _ mcS⟩ ?_
   walk_at "r"
   refine ⟨rfl, _, rfl, ?_⟩
   walk_at "r"
   refine mkf_k X26 hr (by omega) ⟨_, mcS⟩ ?_
   walk_at "r"
   refine ⟨rfl, _, rfl, ?_⟩
   walk_at "r"
   refine mkf_l X27 hr (by omega) ⟨_, mcS⟩ ?_
   walk_at "r"
   refine ⟨rfl, _, rfl, ?_⟩
   walk_at "r"
   refine .fix ?_
   refine sAdd_ll (by simp [sizeLine_eq]) (.fix ?_)
   walk_at "r"
   refine mkf_l X28 hr (by omega) ⟨_, mcS⟩ ?_
   walk_at "r"
   refine ⟨rfl, _, rfl, ?_⟩
   walk_at "r"
   refine mkf_l X29 hr (by omega) ⟨_, mcS⟩ ?_
   walk_at "r"
   refine ⟨rfl, _, rfl, ?_⟩
   walk_at "r"
   refine mkf_l X30 hr (by omega) ⟨_, mcS⟩ ?_
   walk_at "r"
   refine ⟨rfl, _, rfl, ?_⟩
   walk_at "r"
   refine mkf_l X31 hr (by omega) ⟨_, mcS⟩ ?_
   walk_at "r"
   refine ⟨rfl, _, rfl, ?_⟩
   walk_at "r"
   refine .fix ?_
   refine sAdd_ll (by simp [sizeLine_eq]) (.fix ?_)
   walk_at "r"
   refine .fix ?_
   walk_at "r"
   refine sMul_ll (xs := [.int a]) (k := 21) (by decide) (by decide) (by simp [sizeLine_eq]) (.fix ?_)
   refine sEq_row (ms := List.replicate 21 a) (ns := List.replicate 21 a) ?_
   refine ⟨_, rfl, br_t (by simp) ?_⟩
   walk_at "r"
   refine mkf_k X25 hr (by omega) ⟨_, mcS⟩ ?_
   walk_at "r"
   refine ⟨rfl, _, rfl, ?_⟩
   walk_at "r"
   show sEq false (.int b) (.int b) O2 _
   refine sEq_int ?_
   have e : (.bl true : D) = .bl (decide (b = b)) := by simp
   exact e ▸ hQ _
end
section
variable {P : Program} {w : World} {K : PySem.W.Frag} {mg : Str → Option Value} {base : Heap}
local macro_rules | `(tactic| walk_at "bd") => `(tactic| (intro _ _ _ _ _ _ us hl; first | exact (match us, hl with | [_], _ => rfl) | exact (match us, hl with | [_, _], _ => rfl) | exact (match us, hl with | [_, _, _], _ => rfl) | exact (match us, hl with | [_, _, _, _], _ => rfl) | exact (match us, hl with | [], _ => rfl)))
theorem scI_BoughError : FnScope ["self", "word"] ["self", "word"] (defScope sI_BoughError) := by walk_at "sc"
theorem scI_Missing : FnScope ["self", "word"] ["self", "word"] (defScope sI_Missing) := by walk_at "sc"
theorem scI_Stopped : FnScope ["self", "at", "why"] ["self", "at", "why"] (defScope sI_Stopped) := by walk_at "sc"
theorem all_mk {l : W.OpenLaw} {w : World} {K : W.Frag} {h : Heap} {mg : Str → Option Value} {fa : Addr} (fx : TopFx w K) (X : K.In h) (G : h.Ns mainGlobals mg) (hfa : mg "law" = some (.ref fa)) 
  : ∃ fd : FuncData, (∀ (s : Shared) (u : Value), BindsTo s fd ⟨[u], []⟩ [("_law_script", u)]) ∧ ∀ base : Heap, K.In base → base.Ns mainGlobals mg → FnOk l.prog w K mg base (KX l.prog w) 9 fa fd ["_law_script"] (spD K spLaw) := by
 cases fx with | @mk _ C_BoughError C_Missing C_BadName C_BadOperation C_BadTree C_BadCount C_BadLeaf C_BadPlace C_BadMany C_BadText C_Uneven C_Strange C_Idle C_Bare C_Taken C_InUse C_Full C_Lacking C_Unlike C_Unjoined C_NotKept C_Breaks C_Wide C_NotTwos C_BadRow C_BadPlaces C_BadDeed C_Stopped C_BadPage C_NoOperation C_NoRule C_NoKind C_NoBridge C_NoWatch C_NothingLeft f_BoughError f_Missing _ f_Stopped _ an9 _ _ _ _ _ _ _ _ _ _ _ _ kV9 dc9 pm9 ct9 cd9 _ _ _ _ _ _ _ _ _ _ _ _ _ _ _ _ _ _ _ _ _ _ _ _ _ _ _ _ _ _ _ d0 d1 d2 d3 d4 d5 d6 d7 d8 a9 l9 c9 k9 n_ValueError n_LookupError n_list n_len n_isinstance n_bool n_int n_str n_tuple n_all n_range g_BoughError g_Missing g_Stopped vL vV rd_BoughError gt_BoughError fc_BoughError l_BoughError c_BoughError k_BoughError rd_Missing gt_Missing fc_Missing l_Missing c_Missing k_Missing x_BadName x_BadOperation x_BadTree x_BadCount x_BadLeaf x_BadPlace x_BadMany x_BadText x_Uneven x_Strange x_Idle x_Bare x_Taken x_InUse x_Full x_Lacking x_Unlike x_Unjoined x_NotKept x_Breaks x_Wide x_NotTwos x_BadRow x_BadPlaces x_BadDeed x_Stopped r_Stopped sa_Stopped ga_Stopped gg_Stopped nw_Stopped nf_Stopped_at nf_Stopped_why i_Stopped t_Stopped l_Stopped c_Stopped k_Stopped kC_Stopped eC_Stopped tC_Stopped hC_Stopped x_BadPage x_NoOperation x_NoRule x_NoKind x_NoBridge x_NoWatch x_NothingLeft cH76 =>
 have e := hfa.symm.trans (W.mg_of X G a9)
 cases e
 have m_ValueError := W.mg_none_of X G n_ValueError
 have m_LookupError := W.mg_none_of X G n_LookupError
 have m_list := W.mg_none_of X G n_list
 have m_len := W.mg_none_of X G n_len
 have m_isinstance := W.mg_none_of X G n_isinstance
 have m_bool := W.mg_none_of X G n_bool
 have m_int := W.mg_none_of X G n_int
 have m_str := W.mg_none_of X G n_str
 have m_tuple := W.mg_none_of X G n_tuple
 have m_all := W.mg_none_of X G n_all
 have m_range := W.mg_none_of X G n_range
 have w_BoughError := W.mg_of X G g_BoughError
 have w_Missing := W.mg_of X G g_Missing
 have w_BadName := W.mg_of X G x_BadName.g
 have w_BadOperation := W.mg_of X G x_BadOperation.g
 have w_BadTree := W.mg_of X G x_BadTree.g
 have w_BadCount := W.mg_of X G x_BadCount.g
 have w_BadLeaf := W.mg_of X G x_BadLeaf.g
 have w_BadPlace := W.mg_of X G x_BadPlace.g
 have w_BadMany := W.mg_of X G x_BadMany.g
 have w_BadText := W.mg_of X G x_BadText.g
 have w_Uneven := W.mg_of X G x_Uneven.g
 have w_Strange := W.mg_of X G x_Strange.g
 have w_Idle := W.mg_of X G x_Idle.g
 have w_Bare := W.mg_of X G x_Bare.g
 have w_Taken := W.mg_of X G x_Taken.g
 have w_InUse := W.mg_of X G x_InUse.g
 have w_Full := W.mg_of X G x_Full.g
 have w_Lacking := W.mg_of X G x_Lacking.g
 have w_Unlike := W.mg_of X G x_Unlike.g
 have w_Unjoined := W.mg_of X G x_Unjoined.g
 have w_NotKept := W.mg_of X G x_NotKept.g
 have w_Breaks := W.mg_of X G x_Breaks.g
 have w_Wide := W.mg_of X G x_Wide.g
 have w_NotTwos := W.mg_of X G x_NotTwos.g
 have w_BadRow := W.mg_of X G x_BadRow.g
 have w_BadPlaces := W.mg_of X G x_BadPlaces.g
 have w_BadDeed := W.mg_of X G x_BadDeed.g
 have w_Stopped := W.mg_of X G g_Stopped
 have w_BadPage := W.mg_of X G x_BadPage.g
 have w_NoOperation := W.mg_of X G x_NoOperation.g
 have w_NoRule := W.mg_of X G x_NoRule.g
 have w_NoKind := W.mg_of X G x_NoKind.g
 have w_NoBridge := W.mg_of X G x_NoBridge.g
 have w_NoWatch := W.mg_of X G x_NoWatch.g
 have w_NothingLeft := W.mg_of X G x_NothingLeft.g
 refine ⟨W.fnOf "law" "law" (defArgs sLaw) (defBody sLaw) (defScope sLaw) .none kV9 dc9 pm9 an9 cd9 ct9, fun s v => .of_eq rfl, fun base _ _ => ?_⟩
 have F_BoughError := fun_mk (st := sI_BoughError) l_BoughError c_BoughError k_BoughError
 have B_BoughError := F_BoughError.binds (ps := ["self", "word"]) fun _ _ _ _ _ _ us hl => match us, hl with | [_, _], _ => rfl
 have O_BoughError : FnO l.prog w K mg base (KX l.prog w) 1 f_BoughError _ ["self", "word"] (spInit K 1 [("word", .inl 0)]) := ok_initB (k := 0) F_BoughError scI_BoughError rfl rfl rfl rfl (fun env => ⟨_, rfl⟩) m_ValueError vV
 have BS_BoughError : BsR l.prog w K mg base "BoughError" (spInit K 1 [("word", .inl 0)]) := ⟨by decide, _, _, _, _, w_BoughError, ⟨rd_BoughError, gt_BoughError, fc_BoughError, k_BoughError⟩, O_BoughError, B_BoughError⟩
 have F_Missing := fun_mk (st := sI_Missing) l_Missing c_Missing k_Missing
 have B_Missing := F_Missing.binds (ps := ["self", "word"]) fun _ _ _ _ _ _ us hl => match us, hl with | [_, _], _ => rfl
 have O_Missing : FnO l.prog w K mg base (KX l.prog w) 1 f_Missing _ ["self", "word"] (spInitL K 1 [("word", .inl 0)]) := ok_initBL (k := 0) F_Missing scI_Missing rfl rfl rfl rfl (fun env => ⟨_, rfl⟩) m_LookupError vL
 have BS_Missing : BsR l.prog w K mg base "Missing" (spInitL K 1 [("word", .inl 0)]) := ⟨by decide, _, _, _, _, w_Missing, ⟨rd_Missing, gt_Missing, fc_Missing, k_Missing⟩, O_Missing, B_Missing⟩
 have X_BadName := x_BadName.x1 X G BS_BoughError (by walk_at "sc") rfl rfl rfl rfl (fun env => ⟨_, rfl⟩) (by walk_at "bd")
 have X_BadOperation := x_BadOperation.x1 X G BS_BoughError (by walk_at "sc") rfl rfl rfl rfl (fun env => ⟨_, rfl⟩) (by walk_at "bd")
 have X_BadTree := x_BadTree.x1 X G BS_BoughError (by walk_at "sc") rfl rfl rfl rfl (fun env => ⟨_, rfl⟩) (by walk_at "bd")
 have X_BadCount := x_BadCount.x1 X G BS_BoughError (by walk_at "sc") rfl rfl rfl rfl (fun env => ⟨_, rfl⟩) (by walk_at "bd")
 have X_BadLeaf := x_BadLeaf.x0 X G BS_BoughError (by walk_at "sc") rfl rfl rfl (fun env => ⟨_, rfl⟩) (by walk_at "bd")
 have X_BadPlace := x_BadPlace.x0 X G BS_BoughError (by walk_at "sc") rfl rfl rfl (fun env => ⟨_, rfl⟩) (by walk_at "bd")
 have X_BadMany := x_BadMany.x0 X G BS_BoughError (by walk_at "sc") rfl rfl rfl (fun env => ⟨_, rfl⟩) (by walk_at "bd")
 have X_BadText := x_BadText.x1 X G BS_BoughError (by walk_at "sc") rfl rfl rfl rfl (fun env => ⟨_, rfl⟩) (by walk_at "bd")
 have X_Uneven := x_Uneven.x1 X G BS_BoughError (by walk_at "sc") rfl rfl rfl rfl (fun env => ⟨_, rfl⟩) (by walk_at "bd")
 have X_Strange := x_Strange.x1 X G BS_BoughError (by walk_at "sc") rfl rfl rfl rfl (fun env => ⟨_, rfl⟩) (by walk_at "bd")
 have X_Idle := x_Idle.x0 X G BS_BoughError (by walk_at "sc") rfl rfl rfl (fun env => ⟨_, rfl⟩) (by walk_at "bd")
 have X_Bare := x_Bare.x0 X G BS_BoughError (by walk_at "sc") rfl rfl rfl (fun env => ⟨_, rfl⟩) (by walk_at "bd")
 have X_Taken := x_Taken.x1 X G BS_BoughError (by walk_at "sc") rfl rfl rfl rfl (fun env => ⟨_, rfl⟩) (by walk_at "bd")
 have X_InUse := x_InUse.x1 X G BS_BoughError (by walk_at "sc") rfl rfl rfl rfl (fun env => ⟨_, rfl⟩) (by walk_at "bd")
 have X_Full := x_Full.x0 X G BS_BoughError (by walk_at "sc") rfl rfl rfl (fun env => ⟨_, rfl⟩) (by walk_at "bd")
 have X_Lacking := x_Lacking.x1 X G BS_BoughError (by walk_at "sc") rfl rfl rfl rfl (fun env => ⟨_, rfl⟩) (by walk_at "bd")
 have X_Unlike := x_Unlike.x1 X G BS_BoughError (by walk_at "sc") rfl rfl rfl rfl (fun env => ⟨_, rfl⟩) (by walk_at "bd")
 have X_Unjoined := x_Unjoined.x0 X G BS_BoughError (by walk_at "sc") rfl rfl rfl (fun env => ⟨_, rfl⟩) (by walk_at "bd")
 have X_NotKept := x_NotKept.x1 X G BS_BoughError (by walk_at "sc") rfl rfl rfl rfl (fun env => ⟨_, rfl⟩) (by walk_at "bd")
 have X_Breaks := x_Breaks.x1 X G BS_BoughError (by walk_at "sc") rfl rfl rfl rfl (fun env => ⟨_, rfl⟩) (by walk_at "bd")
 have X_Wide := x_Wide.x0 X G BS_BoughError (by walk_at "sc") rfl rfl rfl (fun env => ⟨_, rfl⟩) (by walk_at "bd")
 have X_NotTwos := x_NotTwos.x0 X G BS_BoughError (by walk_at "sc") rfl rfl rfl (fun env => ⟨_, rfl⟩) (by walk_at "bd")
 have X_BadRow := x_BadRow.x1 X G BS_BoughError (by walk_at "sc") rfl rfl rfl rfl (fun env => ⟨_, rfl⟩) (by walk_at "bd")
 have X_BadPlaces := x_BadPlaces.x0 X G BS_BoughError (by walk_at "sc") rfl rfl rfl (fun env => ⟨_, rfl⟩) (by walk_at "bd")
 have X_BadDeed := x_BadDeed.x0 X G BS_BoughError (by walk_at "sc") rfl rfl rfl (fun env => ⟨_, rfl⟩) (by walk_at "bd")
 have F_Stopped := fun_mk (st := sI_Stopped) l_Stopped c_Stopped k_Stopped
 have B_Stopped := F_Stopped.binds (ps := ["self", "at", "why"]) fun _ _ _ _ _ _ us hl => match us, hl with | [_, _, _], _ => rfl
 have O_Stopped : FnO l.prog w K mg base (KX l.prog w) 2 f_Stopped _ ["self", "at", "why"] (spInit K 2 [("why", .inl 1), ("at", .inl 0), ("word", .inr "Stopped")]) := ok_init2 (k := 1) F_Stopped scI_Stopped rfl rfl rfl rfl rfl (by decide) (by decide) (by decide) (by decide) (by decide) (fun env => ⟨_, rfl⟩) w_BoughError ⟨rd_BoughError, gt_BoughError, fc_BoughError, k_BoughError⟩ O_BoughError B_BoughError (Nat.le_refl _)
 have V_Stopped : ∀ p ∈ ([("why", .inl 1), ("at", .inl 0), ("word", .inr "Stopped")] : FT), W.findIn K (.ref C_Stopped) p.1 = some none := fun p hp => by
  simp only [mCq, nmN, or_false] at hp
  rcases hp with rfl | rfl | rfl
  · exact nf_Stopped_why
  · exact nf_Stopped_at
  · exact nw_Stopped
 have X_Stopped : XMk l.prog w K mg base "Stopped" 2 2 [("why", .inl 1), ("at", .inl 0), ("word", .inr "Stopped")] C_Stopped := ⟨⟨⟨_, _, _, _, _, _, _, _, _, _, _, _, _, _, _, x_Stopped, r_Stopped⟩, sa_Stopped, eC_Stopped, tC_Stopped, kC_Stopped⟩, V_Stopped, w_Stopped, ⟨ga_Stopped, gg_Stopped, eC_Stopped, hC_Stopped⟩, ⟨_, _, _, O_Stopped, i_Stopped, t_Stopped, B_Stopped⟩⟩
 have X_BadPage := x_BadPage.x1 X G BS_BoughError (by walk_at "sc") rfl rfl rfl rfl (fun env => ⟨_, rfl⟩) (by walk_at "bd")
 have X_NoOperation := x_NoOperation.x1 X G BS_Missing (by walk_at "sc") rfl rfl rfl rfl (fun env => ⟨_, rfl⟩) (by walk_at "bd")
 have X_NoRule := x_NoRule.x1 X G BS_Missing (by walk_at "sc") rfl rfl rfl rfl (fun env => ⟨_, rfl⟩) (by walk_at "bd")
 have X_NoKind := x_NoKind.x1 X G BS_Missing (by walk_at "sc") rfl rfl rfl rfl (fun env => ⟨_, rfl⟩) (by walk_at "bd")
 have X_NoBridge := x_NoBridge.x1 X G BS_Missing (by walk_at "sc") rfl rfl rfl rfl (fun env => ⟨_, rfl⟩) (by walk_at "bd")
 have X_NoWatch := x_NoWatch.x1 X G BS_Missing (by walk_at "sc") rfl rfl rfl rfl (fun env => ⟨_, rfl⟩) (by walk_at "bd")
 have X_NothingLeft := x_NothingLeft.x0 X G BS_Missing (by walk_at "sc") rfl rfl rfl (fun env => ⟨_, rfl⟩) (by walk_at "bd")
 have N76 : NmL mg wd76 [C_BadName, C_BadOperation, C_BadTree, C_BadCount, C_BadLeaf, C_BadPlace, C_BadMany, C_BadText, C_Uneven, C_Strange, C_Idle, C_Bare, C_Taken, C_InUse, C_Full, C_Lacking, C_Unlike, C_Unjoined, C_NotKept, C_Breaks, C_Wide, C_NotTwos, C_BadRow, C_BadPlaces, C_BadDeed, C_Stopped, C_BadPage, C_NoOperation, C_NoRule, C_NoKind, C_NoBridge, C_NoWatch, C_NothingLeft] := (NmL.c w_BadName (NmL.c w_BadOperation (NmL.c w_BadTree (NmL.c w_BadCount (NmL.c w_BadLeaf (NmL.c w_BadPlace (NmL.c w_BadMany (NmL.c w_BadText (NmL.c w_Uneven (NmL.c w_Strange (NmL.c w_Idle (NmL.c w_Bare (NmL.c w_Taken (NmL.c w_InUse (NmL.c w_Full (NmL.c w_Lacking (NmL.c w_Unlike (NmL.c w_Unjoined (NmL.c w_NotKept (NmL.c w_Breaks (NmL.c w_Wide (NmL.c w_NotTwos (NmL.c w_BadRow (NmL.c w_BadPlaces (NmL.c w_BadDeed (NmL.c w_Stopped (NmL.c w_BadPage (NmL.c w_NoOperation (NmL.c w_NoRule (NmL.c w_NoKind (NmL.c w_NoBridge (NmL.c w_NoWatch (NmL.c w_NothingLeft NmL.n)))))))))))))))))))))))))))))))))
 have F76 : XfL K [C_BadName, C_BadOperation, C_BadTree, C_BadCount, C_BadLeaf, C_BadPlace, C_BadMany, C_BadText, C_Uneven, C_Strange, C_Idle, C_Bare, C_Taken, C_InUse, C_Full, C_Lacking, C_Unlike, C_Unjoined, C_NotKept, C_Breaks, C_Wide, C_NotTwos, C_BadRow, C_BadPlaces, C_BadDeed, C_Stopped, C_BadPage, C_NoOperation, C_NoRule, C_NoKind, C_NoBridge, C_NoWatch, C_NothingLeft] := (XfL.k X_BadName (XfL.k X_BadOperation (XfL.k X_BadTree (XfL.k X_BadCount (XfL.k X_BadLeaf (XfL.k X_BadPlace (XfL.k X_BadMany (XfL.k X_BadText (XfL.k X_Uneven (XfL.k X_Strange (XfL.k X_Idle (XfL.k X_Bare (XfL.k X_Taken (XfL.k X_InUse (XfL.k X_Full (XfL.k X_Lacking (XfL.k X_Unlike (XfL.k X_Unjoined (XfL.k X_NotKept (XfL.k X_Breaks (XfL.k X_Wide (XfL.k X_NotTwos (XfL.k X_BadRow (XfL.k X_BadPlaces (XfL.k X_BadDeed (XfL.k X_Stopped (XfL.k X_BadPage (XfL.l X_NoOperation (XfL.l X_NoRule (XfL.l X_NoKind (XfL.l X_NoBridge (XfL.l X_NoWatch (XfL.l X_NothingLeft XfL.n)))))))))))))))))))))))))))))))))
 have T76 : Cls76 K mg C_BoughError C_Missing [C_BadName, C_BadOperation, C_BadTree, C_BadCount, C_BadLeaf, C_BadPlace, C_BadMany, C_BadText, C_Uneven, C_Strange, C_Idle, C_Bare, C_Taken, C_InUse, C_Full, C_Lacking, C_Unlike, C_Unjoined, C_NotKept, C_Breaks, C_Wide, C_NotTwos, C_BadRow, C_BadPlaces, C_BadDeed, C_Stopped, C_BadPage, C_NoOperation, C_NoRule, C_NoKind, C_NoBridge, C_NoWatch, C_NothingLeft] := ⟨fun _ _ e => N76.at e, cH76, fun _ _ e => F76.at e, w_BoughError, w_Missing, m_ValueError, m_LookupError, m_isinstance⟩
 have D0 := d0.fd (S := spBag) l.prog w base X G (fun _ _ F => ok_bag (k := 0) F m_list) (by walk_at "bd")
 have D1 := d1.fd (S := spPull) l.prog w base X G (fun _ _ F => ok_pull (k := 0) F m_len) (by walk_at "bd")
 obtain ⟨f2, a2, fd2, F2⟩ := d2
 have D2 : ∀ n : Nat, Fd l.prog w K mg base "_law_same" (n + 1) ["_law_found", "_law_due"] (spSame n) := fun n => by
  induction n with
  | zero => exact ⟨_, _, ok_same (n := 0) F2 (fun m e => nomatch e) m_isinstance m_bool m_int m_str m_list m_tuple m_len m_all m_range, W.mg_of X G a2, F2.kp, F2.binds (by walk_at "bd")⟩
  | succ n ih => exact ⟨_, _, ok_same (n := n + 1) F2 (fun m e => by cases e; exact ih) m_isinstance m_bool m_int m_str m_list m_tuple m_len m_all m_range, W.mg_of X G a2, F2.kp, F2.binds (by walk_at "bd")⟩
 obtain ⟨f3, a3, fd3, F3⟩ := d3
 have D3 : FdE l.prog w K mg base "_law_flags" 1 (spFlags [C_BadName, C_BadOperation, C_BadTree, C_BadCount, C_BadLeaf, C_BadPlace, C_BadMany, C_BadText, C_Uneven, C_Strange, C_Idle, C_Bare, C_Taken, C_InUse, C_Full, C_Lacking, C_Unlike, C_Unjoined, C_NotKept, C_Breaks, C_Wide, C_NotTwos, C_BadRow, C_BadPlaces, C_BadDeed, C_Stopped, C_BadPage, C_NoOperation, C_NoRule, C_NoKind, C_NoBridge, C_NoWatch, C_NothingLeft]) := ⟨f3, fd3, "_law_e", ok_flags (k := 0) F3 T76, W.mg_of X G a3, F3.kp, F3.binds (by walk_at "bd")⟩
 obtain ⟨f4, a4, fd4, F4⟩ := d4
 have D4 : FdE l.prog w K mg base "_law_kinds_of" 1 (spKinds [C_BadName, C_BadOperation, C_BadTree, C_BadCount, C_BadLeaf, C_BadPlace, C_BadMany, C_BadText, C_Uneven, C_Strange, C_Idle, C_Bare, C_Taken, C_InUse, C_Full, C_Lacking, C_Unlike, C_Unjoined, C_NotKept, C_Breaks, C_Wide, C_NotTwos, C_BadRow, C_BadPlaces, C_BadDeed, C_Stopped, C_BadPage, C_NoOperation, C_NoRule, C_NoKind, C_NoBridge, C_NoWatch, C_NothingLeft]) := ⟨f4, fd4, "_law_e", ok_kinds (k := 0) F4 T76, W.mg_of X G a4, F4.kp, F4.binds (by walk_at "bd")⟩
 have D5 := d5.fd (S := spWords) l.prog w base X G (fun _ _ F => ok_words (k := 0) F ) (by walk_at "bd")
 have D6 := d6.fd (S := (spRaise 0 11 [C_BadName, C_BadOperation, C_BadTree, C_BadCount, C_BadLeaf, C_BadPlace, C_BadMany, C_BadText, C_Uneven, C_Strange, C_Idle, C_Bare, C_Taken, C_InUse, C_Full, C_Lacking, C_Unlike, C_Unjoined, C_NotKept, C_Breaks, C_Wide, C_NotTwos, C_BadRow, C_BadPlaces, C_BadDeed, C_Stopped, C_BadPage, C_NoOperation, C_NoRule, C_NoKind, C_NoBridge, C_NoWatch, C_NothingLeft])) l.prog w base X G (fun _ _ F => ok_early (k := 3) F X_BadName rfl X_BadOperation rfl X_BadTree rfl X_BadCount rfl X_BadLeaf rfl X_BadPlace rfl X_BadMany rfl X_BadText rfl X_Uneven rfl X_Strange rfl X_Idle rfl (by omega)) (by walk_at "bd")
 have D7 := d7.fd (S := (spRaise 11 22 [C_BadName, C_BadOperation, C_BadTree, C_BadCount, C_BadLeaf, C_BadPlace, C_BadMany, C_BadText, C_Uneven, C_Strange, C_Idle, C_Bare, C_Taken, C_InUse, C_Full, C_Lacking, C_Unlike, C_Unjoined, C_NotKept, C_Breaks, C_Wide, C_NotTwos, C_BadRow, C_BadPlaces, C_BadDeed, C_Stopped, C_BadPage, C_NoOperation, C_NoRule, C_NoKind, C_NoBridge, C_NoWatch, C_NothingLeft])) l.prog w base X G (fun _ _ F => ok_middle (k := 3) F X_Bare rfl X_Taken rfl X_InUse rfl X_Full rfl X_Lacking rfl X_Unlike rfl X_Unjoined rfl X_NotKept rfl X_Breaks rfl X_Wide rfl X_NotTwos rfl (by omega)) (by walk_at "bd")
 have D8 := d8.fd (S := (spRaise 22 33 [C_BadName, C_BadOperation, C_BadTree, C_BadCount, C_BadLeaf, C_BadPlace, C_BadMany, C_BadText, C_Uneven, C_Strange, C_Idle, C_Bare, C_Taken, C_InUse, C_Full, C_Lacking, C_Unlike, C_Unjoined, C_NotKept, C_Breaks, C_Wide, C_NotTwos, C_BadRow, C_BadPlaces, C_BadDeed, C_Stopped, C_BadPage, C_NoOperation, C_NoRule, C_NoKind, C_NoBridge, C_NoWatch, C_NothingLeft])) l.prog w base X G (fun _ _ F => ok_late (k := 3) F X_BadRow rfl X_BadPlaces rfl X_BadDeed rfl X_Stopped rfl X_BadPage rfl X_NoOperation rfl X_NoRule rfl X_NoKind rfl X_NoBridge rfl X_NoWatch rfl X_NothingLeft rfl (by omega)) (by walk_at "bd")
 have FL := fun_mk (st := sLaw) l9 c9 k9
 exact ok_law (k := 8) FL m_range T76 X_BadName X_BadOperation X_BadTree X_BadCount X_BadText X_Uneven X_Strange X_Taken X_InUse X_Lacking X_Unlike X_NotKept X_Breaks X_BadRow X_Stopped X_BadPage X_NoOperation X_NoRule X_NoKind X_NoBridge X_NoWatch D0 D1 (D2 4) D3 D4 D5 D6 D7 D8 (by omega)
theorem walk {l : W.OpenLaw} {q : Program} {loose : List Str} {XP : (Str → Option Value) → Heap → Prop} {YP : World → Heap → Prop} {d : DefRec} {K : Params → W.Frag} (hn : l.most = some 63) (hdf : d.params.defaults = [])
  (hY : ∀ (w : World) (h : Heap), YP w h → (K w.params).In h)
  (F : ∀ (w : World) (mg : Str → Option Value) (fa : Addr) (h : Heap), (K w.params).In h → h.Ns mainGlobals mg → mg d.name = some (.ref fa) →
   ∃ fd : FuncData, (∀ (s : Shared) (u : Value), BindsTo s fd ⟨[u], []⟩ [("_law_script", u)]) ∧ ∀ base : Heap, (K w.params).In base → base.Ns mainGlobals mg → FnOk l.prog w (K w.params) mg base (KX l.prog w) 9 fa fd ["_law_script"] (spD (K w.params) spLaw)) :
  W.WalkO q loose XP YP l.row.toRowW d [] (fun f vs => PySem.call f vs) :=
 L2.walk_of (n := 63) (k := 9) (x := "_law_script") (CX := fun w => KX l.prog w) (sp := fun w => spD (K w.params) spLaw) hn (by decide) hdf ⟨rfl, by decide, by decide⟩ hY F
  (fun w H a ns hl _ hS => ⟨[.rol (ns.map .int)], H, fun _ => none, fun d _ => d = .bl true, fun _ _ => False, ⟨Same.refl _, fun _ _ z => nomatch z⟩, .cons (.rol hS (Reps.of_ints ns)) .nil, ⟨ns, rfl, fun _ => rfl⟩, fun v H' ⟨d, O', Hd', _, _, r, e⟩ => by subst e; cases r; rfl, fun _ _ _ _ _ _ _ _ _ z => z.elim⟩)
  fun w H s e s' ⟨_, _, _, _, _, _, _, _, _, _, _, _, z⟩ => z
end
end My
open PySem PySem.W PyProof.Rows
set_option maxRecDepth 100000 in
set_option maxHeartbeats 0 in
theorem PySem.Challenge.cw_boughlaws_k76_refusals_apart_holds : PySem.Challenge.rw_boughlaws_k76_refusals_apart.Holds := by
 refine topHead ?_
 k_fill
 refine My.walk (l := PySem.Challenge.rw_boughlaws_k76_refusals_apart) rfl rfl (fun w h Y => PySem.W.kIn_of Y) ?F
 case F =>
  intro w mg fa h KX G hmg
  exact My.all_mk (My.topFx w) KX G hmg
#print axioms PySem.Challenge.cw_boughlaws_k76_refusals_apart_holds
