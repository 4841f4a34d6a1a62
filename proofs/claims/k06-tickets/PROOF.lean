import PyProof.Rows.All
import Wide.All
import OpenK.AllK
import Wide.FinOn
import HandS.Head2
import HandS.Words
import PySem.Challenge.RW_pawnkept_k06_whole_tickets
import HandS.ForMost
import HandS.HeadHook2
import PyProof.StrBlock2
import KE.KLam
import HandS.Lambda
import HandS.EndTab
import HandS.HeadHook4
import KE.SortData
import KE.SortKeyHeap
import HandS.Style
import HandS.TupAny
import HandS.Deep
import HandS.IsInst
import HandS.More
import KE.KTupSum
import HandS.Flow
import HandS.CallSlots
import HandS.ExcOwn
import KE.GoesEnum
import HandS.Zip
import HandS.Comp
import HandS.Iter
import HandS.TryOnly
import HandS.Small
import KE.KExcSuper
import HandS.ExcInit
import HandS.ExcSuper
import HandS.TryMany
import HandS.ExcField
import KE.KExcIs
import HandS.HeadEnd
import KE.DataMinMax
import PyProof.InstNe
import KE.GoesRaise
import HandS.Exc
import HandS.Conv
import HandS.SortKw
import HandS.ExcValue
import HandS.SetFor
import HandS.Strs
import KE.OsSort
import HandS.SetBool
import HandS.EndBits
import KE.GoesZip
import KE.GoesMore
import HandS.Dict
import HandS.SetKeys
import HandS.DictComp
import HandS.ListItems
import KE.KDictList
import HandS.TupSets
import KE.KEqDict
import KE.KDictDisplayH
import PyProof.Rows.TupDisplay
import HandS.MakeKw
import KE.KDictPairs
import PyProof.ToksMono
import PyProof.Runs
import HandS.Text
import HandS.Replace
import PyProof.FString3
import PyProof.StrLawsFirst
import KE.IntTextLaws
import PyProof.StrBlockL
import KE.KIntText
import PyProof.Rows.StrJoinRep
set_option Elab.async false
set_option linter.all false
set_option maxRecDepth 100000
noncomputable section
namespace HandSCut
open PySem PySem.W PySem.Calls PyProof.Rows HandSHeadRun
section
variable (st : SharedT → Thread → Option (SharedT × Thread)) (n0 : Nat) (ann : Option Value)
def segF : Nat → SharedT → Thread → Option (Flow × SharedT × Code × Pos)
  | 0, _, _ => none
  | m + 1, s, t => match endAt 1 t with
    | some f => some (f, s, t.code, t.pos)
    | none => match stepOk n0 ann t with
      | false => none
      | true => match st s t with
        | some (s', t') => frS s' fun s' => segF m s' t'
        | none => none
def goP : Nat → SharedT → Thread → Option (SharedT × Thread)
  | 0, s, t => some (s, t)
  | m + 1, s, t => match through t with
    | true => none
    | false => match stepOk n0 ann t with
      | false => none
      | true => match st s t with
        | some (s', t') => frS s' fun s' => goP m s' t'
        | none => none
end
theorem segF_ok {tb : String → Option Builtin} {p : Program} {w : World} {n0 : Nat} {ann : Option Value} : ∀ {m : Nat} {s s' : SharedT} {t : Thread} {f : Flow} {c : Code} {q : Pos}, segF (stepT (denote tb) p w) n0 ann m s t = some (f, s', c, q) → segRun tb p w n0 ann 1 m s.abs t = some (f, s'.abs, c, q)
  | 0, _, _, _, _, _, _, h => by cases h
  | m + 1, s, s', t, f, c, q, h => by
    unfold segF at h
    unfold segRun
    cases he : endAt 1 t with
    | some x => rw [he] at h; cases h; rfl
    | none =>
      rw [he] at h
      cases hk : stepOk n0 ann t with
      | false => rw [hk] at h; cases h
      | true =>
        rw [hk] at h
        cases hs : stepT (denote tb) p w s t with
        | none => rw [hs] at h; cases h
        | some r =>
          obtain ⟨s2, t2⟩ := r
          rw [hs] at h
          have h3 : (frS s2 fun s' => segF (stepT (denote tb) p w) n0 ann m s' t2) = some (f, s', c, q) := h
          rw [frS_eq] at h3
          rw [stepT_spec hs]
          exact segF_ok h3
theorem goP_ok {tb : String → Option Builtin} {p : Program} {w : World} {n0 : Nat} {ann : Option Value} : ∀ {m : Nat} {s s' : SharedT} {t t' : Thread}, goP (stepT (denote tb) p w) n0 ann m s t = some (s', t') → topGo tb p w n0 ann m s.abs t = some (s'.abs, t')
  | 0, s, s', t, t', h => by cases h; rfl
  | m + 1, s, s', t, t', h => by
    unfold goP at h
    unfold topGo
    cases he : through t with
    | true => rw [he] at h; cases h
    | false =>
      rw [he] at h
      cases hk : stepOk n0 ann t with
      | false => rw [hk] at h; cases h
      | true =>
        rw [hk] at h
        cases hs : stepT (denote tb) p w s t with
        | none => rw [hs] at h; cases h
        | some r =>
          obtain ⟨s2, t2⟩ := r
          rw [hs] at h
          have h3 : (frS s2 fun s' => goP (stepT (denote tb) p w) n0 ann m s' t2) = some (s', t') := h
          rw [frS_eq] at h3
          rw [stepT_spec hs]
          exact goP_ok h3
def insL (P : Params) : List (Nat × (Params → Obj)) → BT → BT
  | [], t => t
  | (a, o) :: r, t => insL P r (t.ins a (o P))
structure Cut where
  tree : Params → BT
  n : Nat
  toks : Nat
  pos : Pos
def Cut.st (c : Cut) (w : World) (os : OsState) : SharedT := ⟨c.tree w.params, c.n, (boot_heap w.params).life, #[], boot_drawn, c.toks, os⟩
def bootTree (P : Params) : BT := match putAll (boot_heap P).objs.toList .nil 0 with
  | some (t, _) => t
  | none => .nil
def cutB (n0 : Nat) : Cut := ⟨bootTree, n0, boot_toks, default⟩
/-- what the cuts of a top share -/
structure Com where
  p : Program
  env : Env
  q : Pos
  n0 : Nat
  ann : Option Value
abbrev Com.bd (k : Com) : List Stmt := behindTheImports k.p
abbrev Com.code (k : Com) : Code := .body k.bd k.env
/-- the statements i.. as many as k, from the cut a to the cut b, in fewer than m steps -/
def SegEq (k : Com) (i j m : Nat) (a b : Cut) : Prop := ∀ (w : World) (os : OsState),
  segF (stepQ (denQ tabQ) k.p w) k.n0 k.ann m (a.st w os) (piecesOf ((k.bd.drop i).take j) k.env k.code a.pos [topFrame k.q]) = some (.next, b.st w os, k.code, b.pos)
/-- from behind i statements to the end -/
def Ends (k : Com) (i M : Nat) (a z : Cut) : Prop := ∀ (w : World) (os : OsState),
  topRun treeTable k.p w k.n0 k.ann M (a.st w os).abs (restOf (k.bd.drop i) k.env k.code a.pos [topFrame k.q]) = some (z.st w os).abs
theorem stQ (p : Program) (w : World) : stepT (denote treeTable) p w = stepQ (denQ tabQ) p w := by
  rw [stepQ_eq, denQ_eq, tabQ_eq]
theorem Ends.seg {k : Com} {i j m M : Nat} {a b z : Cut} (h : SegEq k i j m a b) (e : Ends k (i + j) M b z) : Ends k i (m + M) a z := fun w os => by
  have h1 := h w os
  rw [← stQ] at h1
  have h2 := piece_app (rest := k.bd.drop (i + j)) (segF_ok h1) (e w os)
  rw [← List.drop_drop, List.take_append_drop] at h2
  exact h2
/-- the end: no statement is left -/
theorem Ends.nil {k : Com} {i M : Nat} {z : Cut} (h : k.bd.drop i = []) (e : ∀ w os, goF (stepQ (denQ tabQ) k.p w) k.n0 k.ann M (z.st w os) ⟨doneF .next, k.code, z.pos, [topFrame k.q]⟩ = some (z.st w os)) : Ends k i M z z := fun w os => by
  rw [h]
  have h1 := e w os
  rw [← stQ] at h1
  exact piece_nil (goF_ok h1)
/-- the body's begin -/
theorem Ends.block {k : Com} {m M : Nat} {a b z : Cut} (h : ∀ w os, segF (stepQ (denQ tabQ) k.p w) k.n0 k.ann m (a.st w os) (blockOf k.bd k.env k.code a.pos [topFrame k.q]) = some (.next, b.st w os, k.code, b.pos)) (e : Ends k 0 M b z) (w : World) (os : OsState) :
    topRun treeTable k.p w k.n0 k.ann (m + M) (a.st w os).abs ⟨denote treeTable k.code, k.code, a.pos, [topFrame k.q]⟩ = some (z.st w os).abs := by
  have h1 := h w os
  rw [← stQ] at h1
  exact piece_block (segF_ok h1) (by have := e w os; rwa [List.drop_zero] at this)
/-- the whole top -/
def Whole (k : Com) (M : Nat) (z : Cut) : Prop := ∀ (w : World) (os : OsState),
  topRun treeTable k.p w k.n0 k.ann M ((cutB k.n0).st w os).abs (topStub k.p) = some (z.st w os).abs
theorem whole_of {k : Com} {m m' M : Nat} {a b z : Cut} (h0 : ∀ w os, goP (stepQ (denQ tabQ) k.p w) k.n0 k.ann m' ((cutB k.n0).st w os) (topStub k.p) = some (a.st w os, ⟨denQ tabQ k.code, k.code, a.pos, [topFrame k.q]⟩))
    (h : ∀ w os, segF (stepQ (denQ tabQ) k.p w) k.n0 k.ann m (a.st w os) (blockOf k.bd k.env k.code a.pos [topFrame k.q]) = some (.next, b.st w os, k.code, b.pos)) (e : Ends k 0 M b z) : Whole k (m' + (m + M)) z := fun w os => by
  have h1 := h0 w os
  rw [← stQ, ← denQ_eq, ← tabQ_eq] at h1
  exact go_top (goP_ok h1) (Ends.block h e w os)
/-- LeftO from the cuts -/
theorem left_of {k : Com} {q : Program} {loose : List Str} {Xt : Shared → Bool} {α : Type} {Yf : Shared → α} {Ya : World → α} {M : Nat} {z : Cut}
    (run : Whole k M z) (e : opening k.p = plainProg k.p.main.scope.names) (f : ∀ s, fenceModules? k.p s = some s)
    (hb : ∀ w : World, (putAll (boot_heap w.params).objs.toList .nil 0).map (·.2) = some k.n0)
    (ha : ∀ w : World, (boot_heap w.params).nsMap mainGlobals "__annotations__" = k.ann)
    (l1 : ∀ w os, looksF k.p (boot_heap w.params) (z.st w os).abs = true)
    (l2 : ∀ w os, openSeen q loose (importedModules k.p.main.body) Xt true (z.st w os).abs = openGood q loose)
    (l3 : ∀ w os, Yf (z.st w os).abs = Ya w) : LeftO k.p q loose Xt Yf Ya (M + 600) true := fun w => by
  obtain ⟨⟨h, gs, d, kk, os⟩, a, a'⟩ := Option.map_eq_some_iff.mp (boot_open (N := M + 600) e (Nat.ble_eq_true_of_le (by omega)) f w)
  obtain ⟨rfl, rfl, rfl, rfl⟩ : h = boot_heap w.params ∧ gs = Array.mk [] ∧ d = boot_drawn ∧ kk = boot_toks := by simpa using a'
  have hB : ((cutB k.n0).st w os).abs = ⟨boot_heap w.params, Array.mk [], boot_drawn, boot_toks, os⟩ := by
    obtain ⟨r, hr, hn⟩ := Option.map_eq_some_iff.mp (hb w)
    obtain ⟨t, n⟩ := r
    have hn' : n = k.n0 := hn
    subst hn'
    have et : bootTree w.params = t := by unfold bootTree; rw [hr]
    show (⟨absHeap (bootTree w.params) k.n0 (boot_heap w.params).life, #[], boot_drawn, boot_toks, os⟩ : Shared) = _
    rw [et, putAll_heap hr]
  have hsz : (boot_heap w.params).objs.size = k.n0 := by
    obtain ⟨r, hr, hn⟩ := Option.map_eq_some_iff.mp (hb w)
    obtain ⟨t, n⟩ := r
    have hn' : n = k.n0 := hn
    subst hn'
    rw [← putAll_heap hr]
    exact absHeap_size t k.n0 _
  have r := topRun_mono 600 _ _ _ _ (run w os)
  rw [hB] at r
  have l1' : (staticsOk (importedModules k.p.main.body) (boot_heap w.params) (z.st w os).abs.heap && namesBound k.p (z.st w os).abs.heap && gensDone (z.st w os).abs && laidKept (boot_heap w.params) (z.st w os).abs.heap) = true := l1 w os
  have t : topFrom treeTable k.p w (M + 600) ⟨boot_heap w.params, Array.mk [], boot_drawn, boot_toks, os⟩ = some (z.st w os).abs := by
    unfold topFrom
    dsimp only
    rw [boot_ns, hsz, ha]
    show (topRun treeTable k.p w k.n0 k.ann (M + 600) ⟨boot_heap w.params, #[], boot_drawn, boot_toks, os⟩ (topStub k.p)).bind _ = _
    rw [r]
    show (match staticsOk (importedModules k.p.main.body) (boot_heap w.params) (z.st w os).abs.heap && namesBound k.p (z.st w os).abs.heap && gensDone (z.st w os).abs && laidKept (boot_heap w.params) (z.st w os).abs.heap with | true => some (z.st w os).abs | false => none) = _
    rw [l1']
  unfold openEnds
  rw [a]
  show (topFrom treeTable k.p w (M + 600) _).map _ = _
  rw [t]
  exact congrArg some (Prod.ext (l2 w os) (l3 w os))
/-- the law from the cuts -/
theorem head_cut {r : OpenRow} {k : Com} {q : Program} {H : Hook} {M : Nat} {loose : List PySem.Str} {d : DefRec} {kwd : List (PySem.Str × PySem.Expr)} {z : Cut}
    (run : Whole k M z) (hp0 : r.prog = k.p) (e : opening k.p = plainProg k.p.main.scope.names) (f : ∀ s, fenceModules? k.p s = some s)
    (hb : ∀ w : World, (putAll (boot_heap w.params).objs.toList .nil 0).map (·.2) = some k.n0)
    (ha : ∀ w : World, (boot_heap w.params).nsMap mainGlobals "__annotations__" = k.ann)
    (l1 : ∀ w os, looksF k.p (boot_heap w.params) (z.st w os).abs = true)
    (l2 : ∀ w os, seenQ q loose (importedModules k.p.main.body) (fun s => xlAt q [] s && recOk r.toRowW.records s) (z.st w os).abs = openGood q loose)
    (l3 : ∀ w os, H.obs (z.st w os).abs = H.val w)
    (hdef : defOf q r.name = some (d, kwd)) (hp : r.prog.theDef r.name = some (d.params, d.body, d.scope)) (hk : kwWritten? d.params.kwonlyargs d.params.kw_defaults = some kwd)
    (hwr : (!r.writes || r.records.isEmpty) = true) (k1 : r.wellSaid = true) (ok : (chainsOk q && opensWell r.prog && (frees r.toRowW && r.within.isEmpty)) = true) (hbr : r.prog.bare) (hw : r.toRowW.promised)
    (call : WalkO q loose (XL q []) H.says r.toRowW d kwd fun f vs => PySem.call f vs) : r.Holds := by
  have left : LeftO r.prog q loose (fun s => xlAt q [] s && recOk r.toRowW.records s) H.obs H.val (M + 600) true := by
    rw [hp0]
    exact left_of run e f hb ha l1 (fun w os => (seenQ_eq q loose _ _ _).trans (l2 w os)) l3
  exact holds_open (r := r) (q := q) (loose := loose) (XP := XL q []) (YP := H.says) (d := d) (kwd := kwd) left H.of H.keeps (fun s z => xl_of s (Bool.and_eq_true_iff.mp z).1) XL.keeps hdef hp hk (fun s z => recFacts_of (Bool.and_eq_true_iff.mp z).2) hwr k1 ok hbr hw call
end HandSCut
end
set_option Elab.async false
set_option linter.all false
set_option maxRecDepth 100000
set_option maxHeartbeats 0
noncomputable section
namespace HandSCut
open PySem PySem.W PySem.Calls PyProof.Rows HandSHeadRun
def top (i : Nat) : Stmt := PySem.Challenge.pw_pawnkept_k06_whole_tickets.main.body.getD i (.Pass ⟨0, 0, 0, 0⟩)
def sub (s : Stmt) (j : Nat) : Stmt := match s with | .ClassDef _ _ _ b _ _ _ _ _ _ _ => b.getD j (.Pass ⟨0, 0, 0, 0⟩) | s => s
abbrev OB := Params → Obj
def rf (a : Addr) : Value := .ref a
def iz (n : Int) : Value := .int n 0
def kv (P : Params) (s : Str) (t : Nat) (v : Value) : DictEntry := ⟨PyData.keyHash P s, .str s t, v⟩
def tp (l : List Value) : Obj := ⟨.type "tuple", none, .seq ⟨l⟩ 0, ⟨[]⟩⟩
def fl (l : List Value) : Obj := ⟨.none, none, .fields ⟨l⟩, ⟨[]⟩⟩
def cd (l : List Value) : Obj := ⟨.type "code", none, .fields ⟨l⟩, ⟨[]⟩⟩
def fo (c : Value) (n q : Str) (s : Stmt) (g : Addr) (d k c' m : Value) (a : Option Addr) (o t : Value) (b : Addr) : Obj := ⟨c, none, .func ⟨n, q, L2.defArgs s, .stmts (L2.defBody s), L2.defScope s, g, [], d, k, c', m, a, o, t, b⟩, ⟨[]⟩⟩
abbrev cenv : Env := { scope := PySem.Challenge.pw_pawnkept_k06_whole_tickets.main.scope, locals := mainNs, globals := mainNs, cells := [], code := (.ref 13), frame := some 14 }
abbrev com : Com := ⟨PySem.Challenge.pw_pawnkept_k06_whole_tickets, cenv, ⟨0, 0, 0, 0⟩, 11, some (.ref 6)⟩
def o0_11 : OB := fun P => tp []
def o0_12 : OB := fun P => fl []
def o0_13 : OB := fun P => cd [(.str "<module>" 182), (.str "<module>" 183), (.str "/claim/cut.py" 184), (iz 1), (iz 0), (iz 0), (iz 0), (iz 0), (rf 11), (.bool false), (iz 181), (rf 12), .none, .none, .none, .none, (iz 185), (iz 1), (.str "/claim/cut.py" 186)]
def o0_14 : OB := fun P => ⟨(.type "frame"), none, .plain, ⟨[(some (rf 13)), (some (rf 3)), (some (rf 3)), none, (some (.str "__main__" 164)), none, (some (rf 0))]⟩⟩
def l0 : List (Nat × OB) := [(11, o0_11), (12, o0_12), (13, o0_13), (14, o0_14)]
def t0 (P : Params) : BT := insL P l0 (bootTree P)
def c0 : Cut := ⟨t0, 15, 187, ⟨0, 0, 0, 0⟩⟩
theorem r_pre : ∀ w os, goP (stepQ (denQ tabQ) com.p w) com.n0 com.ann 12 ((cutB com.n0).st w os) (topStub com.p) = some (c0.st w os, ⟨denQ tabQ com.code, com.code, c0.pos, [topFrame com.q]⟩) := by
  intro w os
  kernel_rfl
theorem r_block : ∀ w os, segF (stepQ (denQ tabQ) com.p w) com.n0 com.ann 1 (c0.st w os) (blockOf com.bd com.env com.code c0.pos [topFrame com.q]) = some (.next, c0.st w os, com.code, c0.pos) := by
  intro w os
  kernel_rfl
def o1_3 : OB := fun P => ⟨(.type "dict"), none, (.dict ⟨[kv P "__name__" 165 (.str "law_pawnkept_k06_whole_tickets" 238), kv P "__doc__" 166 .none, kv P "__package__" 167 .none, kv P "__loader__" 168 (.builtin "__main__.__loader__#opaque"), kv P "__spec__" 169 .none, kv P "__annotations__" 170 (rf 6), kv P "__builtins__" 171 (rf 4), kv P "__file__" 173 (.str "/claim/cut.py" 172), kv P "__cached__" 174 .none, kv P "FIGURES" 188 (.str "0123456789" 187), kv P "PRIME" 192 (.int 11 191), kv P "LAST" 194 (.str "x" 193), kv P "check_sign" 200 (rf 19), kv P "ticket" 208 (rf 26), kv P "is_ticket" 214 (rf 31), kv P "number_of" 221 (rf 38), kv P "restored" 231 (rf 45), kv P "near_tickets" 237 (rf 50), kv P "_law_taken" 249 (rf 57), kv P "_law_pick" 257 (rf 64), kv P "_law_alike" 263 (rf 69), kv P "_law_sign" 269 (rf 74), kv P "_law_is_ticket" 275 (rf 79), kv P "law" 281 (rf 84)]⟩ 24), ⟨[]⟩⟩
def o1_12 : OB := fun P => fl [(iz 5), (iz 0), (rf 18), (iz 9), (iz 0), (rf 25), (iz 12), (iz 0), (rf 30), (iz 16), (iz 0), (rf 37), (iz 18), (iz 0), (rf 44), (iz 25), (iz 0), (rf 49), (iz 34), (iz 0), (rf 56), (iz 48), (iz 0), (rf 63), (iz 50), (iz 0), (rf 68), (iz 60), (iz 0), (rf 73), (iz 66), (iz 0), (rf 78), (iz 70), (iz 0), (rf 83)]
def o1_15 : OB := fun P => tp []
def o1_16 : OB := fun P => fl []
def o1_17 : OB := fun P => fo .none "check_sign" "check_sign" (top 4) 0 .none .none .none .none none .none .none 0
def o1_18 : OB := fun P => cd [(.str "check_sign" 195), (.str "check_sign" 196), (.str "/claim/cut.py" 197), (iz 5), (iz 1), (iz 0), (iz 0), (iz 3), (rf 15), (.bool true), (iz 181), (rf 16), .none, .none, .none, (rf 17), (iz 198), (iz 5), (.str "/claim/cut.py" 199)]
def o1_19 : OB := fun P => fo (.type "function") "check_sign" "check_sign" (top 4) 3 .none .none .none (.str "pawnkept.tickets" 189) none (rf 18) .none 0
def o1_20 : OB := fun P => tp []
def o1_21 : OB := fun P => fl []
def o1_22 : OB := fun P => tp [(.str "number" 204), (.str "figures" 205)]
def o1_23 : OB := fun P => tp []
def o1_24 : OB := fun P => fo .none "ticket" "ticket" (top 5) 0 .none .none .none .none none .none .none 0
def o1_25 : OB := fun P => cd [(.str "ticket" 201), (.str "ticket" 202), (.str "/claim/cut.py" 203), (iz 9), (iz 1), (iz 0), (iz 0), (iz 3), (rf 20), (.bool true), (iz 181), (rf 21), .none, (rf 22), (rf 23), (rf 24), (iz 206), (iz 9), (.str "/claim/cut.py" 207)]
def o1_26 : OB := fun P => fo (.type "function") "ticket" "ticket" (top 5) 3 .none .none .none (.str "pawnkept.tickets" 189) none (rf 25) .none 0
def o1_27 : OB := fun P => tp []
def o1_28 : OB := fun P => fl []
def o1_29 : OB := fun P => fo .none "is_ticket" "is_ticket" (top 6) 0 .none .none .none .none none .none .none 0
def o1_30 : OB := fun P => cd [(.str "is_ticket" 209), (.str "is_ticket" 210), (.str "/claim/cut.py" 211), (iz 12), (iz 1), (iz 0), (iz 0), (iz 3), (rf 27), (.bool true), (iz 181), (rf 28), .none, .none, .none, (rf 29), (iz 212), (iz 12), (.str "/claim/cut.py" 213)]
def o1_31 : OB := fun P => fo (.type "function") "is_ticket" "is_ticket" (top 6) 3 .none .none .none (.str "pawnkept.tickets" 189) none (rf 30) .none 0
def o1_32 : OB := fun P => tp []
def o1_33 : OB := fun P => fl []
def o1_34 : OB := fun P => tp [(.str "value" 218)]
def o1_35 : OB := fun P => tp []
def o1_36 : OB := fun P => fo .none "number_of" "number_of" (top 7) 0 .none .none .none .none none .none .none 0
def o1_37 : OB := fun P => cd [(.str "number_of" 215), (.str "number_of" 216), (.str "/claim/cut.py" 217), (iz 16), (iz 1), (iz 0), (iz 0), (iz 3), (rf 32), (.bool true), (iz 181), (rf 33), .none, (rf 34), (rf 35), (rf 36), (iz 219), (iz 16), (.str "/claim/cut.py" 220)]
def o1_38 : OB := fun P => fo (.type "function") "number_of" "number_of" (top 7) 3 .none .none .none (.str "pawnkept.tickets" 189) none (rf 37) .none 0
def o1_39 : OB := fun P => tp []
def o1_40 : OB := fun P => fl []
def o1_41 : OB := fun P => tp [(.str "value" 225), (.str "found" 226), (.str "sign" 227), (.str "text" 228)]
def o1_42 : OB := fun P => tp []
def o1_43 : OB := fun P => fo .none "restored" "restored" (top 8) 0 .none .none .none .none none .none .none 0
def o1_44 : OB := fun P => cd [(.str "restored" 222), (.str "restored" 223), (.str "/claim/cut.py" 224), (iz 18), (iz 1), (iz 0), (iz 0), (iz 3), (rf 39), (.bool true), (iz 181), (rf 40), .none, (rf 41), (rf 42), (rf 43), (iz 229), (iz 18), (.str "/claim/cut.py" 230)]
def o1_45 : OB := fun P => fo (.type "function") "restored" "restored" (top 8) 3 .none .none .none (.str "pawnkept.tickets" 189) none (rf 44) .none 0
def o1_46 : OB := fun P => tp []
def o1_47 : OB := fun P => fl []
def o1_48 : OB := fun P => fo .none "near_tickets" "near_tickets" (top 9) 0 .none .none .none .none none .none .none 0
def o1_49 : OB := fun P => cd [(.str "near_tickets" 232), (.str "near_tickets" 233), (.str "/claim/cut.py" 234), (iz 25), (iz 1), (iz 0), (iz 0), (iz 3), (rf 46), (.bool true), (iz 181), (rf 47), .none, .none, .none, (rf 48), (iz 235), (iz 25), (.str "/claim/cut.py" 236)]
def o1_50 : OB := fun P => fo (.type "function") "near_tickets" "near_tickets" (top 9) 3 .none .none .none (.str "pawnkept.tickets" 189) none (rf 49) .none 0
def o1_51 : OB := fun P => tp []
def o1_52 : OB := fun P => fl []
def o1_53 : OB := fun P => tp [(.str "row" 243), (.str "many" 244), (.str "found" 245), (.str "cell" 246)]
def o1_54 : OB := fun P => tp []
def o1_55 : OB := fun P => fo .none "_law_taken" "_law_taken" (top 11) 0 .none .none .none .none none .none .none 0
def o1_56 : OB := fun P => cd [(.str "_law_taken" 240), (.str "_law_taken" 241), (.str "/claim/cut.py" 242), (iz 34), (iz 2), (iz 0), (iz 0), (iz 3), (rf 51), (.bool true), (iz 181), (rf 52), .none, (rf 53), (rf 54), (rf 55), (iz 247), (iz 34), (.str "/claim/cut.py" 248)]
def o1_57 : OB := fun P => fo (.type "function") "_law_taken" "_law_taken" (top 11) 3 .none .none .none (.str "law_pawnkept_k06_whole_tickets" 238) none (rf 56) .none 0
def o1_58 : OB := fun P => tp []
def o1_59 : OB := fun P => fl []
def o1_60 : OB := fun P => tp [(.str "row" 253), (.str "kinds" 254)]
def o1_61 : OB := fun P => tp []
def o1_62 : OB := fun P => fo .none "_law_pick" "_law_pick" (top 12) 0 .none .none .none .none none .none .none 0
def o1_63 : OB := fun P => cd [(.str "_law_pick" 250), (.str "_law_pick" 251), (.str "/claim/cut.py" 252), (iz 48), (iz 2), (iz 0), (iz 0), (iz 3), (rf 58), (.bool true), (iz 181), (rf 59), .none, (rf 60), (rf 61), (rf 62), (iz 255), (iz 48), (.str "/claim/cut.py" 256)]
def o1_64 : OB := fun P => fo (.type "function") "_law_pick" "_law_pick" (top 12) 3 .none .none .none (.str "law_pawnkept_k06_whole_tickets" 238) none (rf 63) .none 0
def o1_65 : OB := fun P => tp []
def o1_66 : OB := fun P => fl []
def o1_67 : OB := fun P => fo .none "_law_alike" "_law_alike" (top 13) 0 .none .none .none .none none .none .none 0
def o1_68 : OB := fun P => cd [(.str "_law_alike" 258), (.str "_law_alike" 259), (.str "/claim/cut.py" 260), (iz 50), (iz 2), (iz 0), (iz 0), (iz 3), (rf 65), (.bool true), (iz 181), (rf 66), .none, .none, .none, (rf 67), (iz 261), (iz 50), (.str "/claim/cut.py" 262)]
def o1_69 : OB := fun P => fo (.type "function") "_law_alike" "_law_alike" (top 13) 3 .none .none .none (.str "law_pawnkept_k06_whole_tickets" 238) none (rf 68) .none 0
def o1_70 : OB := fun P => tp []
def o1_71 : OB := fun P => fl []
def o1_72 : OB := fun P => fo .none "_law_sign" "_law_sign" (top 14) 0 .none .none .none .none none .none .none 0
def o1_73 : OB := fun P => cd [(.str "_law_sign" 264), (.str "_law_sign" 265), (.str "/claim/cut.py" 266), (iz 60), (iz 1), (iz 0), (iz 0), (iz 3), (rf 70), (.bool true), (iz 181), (rf 71), .none, .none, .none, (rf 72), (iz 267), (iz 60), (.str "/claim/cut.py" 268)]
def o1_74 : OB := fun P => fo (.type "function") "_law_sign" "_law_sign" (top 14) 3 .none .none .none (.str "law_pawnkept_k06_whole_tickets" 238) none (rf 73) .none 0
def o1_75 : OB := fun P => tp []
def o1_76 : OB := fun P => fl []
def o1_77 : OB := fun P => fo .none "_law_is_ticket" "_law_is_ticket" (top 15) 0 .none .none .none .none none .none .none 0
def o1_78 : OB := fun P => cd [(.str "_law_is_ticket" 270), (.str "_law_is_ticket" 271), (.str "/claim/cut.py" 272), (iz 66), (iz 1), (iz 0), (iz 0), (iz 3), (rf 75), (.bool true), (iz 181), (rf 76), .none, .none, .none, (rf 77), (iz 273), (iz 66), (.str "/claim/cut.py" 274)]
def o1_79 : OB := fun P => fo (.type "function") "_law_is_ticket" "_law_is_ticket" (top 15) 3 .none .none .none (.str "law_pawnkept_k06_whole_tickets" 238) none (rf 78) .none 0
def o1_80 : OB := fun P => tp []
def o1_81 : OB := fun P => fl []
def o1_82 : OB := fun P => fo .none "law" "law" (top 16) 0 .none .none .none .none none .none .none 0
def o1_83 : OB := fun P => cd [(.str "law" 276), (.str "law" 277), (.str "/claim/cut.py" 278), (iz 70), (iz 1), (iz 0), (iz 0), (iz 3), (rf 80), (.bool true), (iz 181), (rf 81), .none, .none, .none, (rf 82), (iz 279), (iz 70), (.str "/claim/cut.py" 280)]
def o1_84 : OB := fun P => fo (.type "function") "law" "law" (top 16) 3 .none .none .none (.str "law_pawnkept_k06_whole_tickets" 238) none (rf 83) .none 0
def l1 : List (Nat × OB) := [(3, o1_3), (12, o1_12), (15, o1_15), (16, o1_16), (17, o1_17), (18, o1_18), (19, o1_19), (20, o1_20), (21, o1_21), (22, o1_22), (23, o1_23), (24, o1_24), (25, o1_25), (26, o1_26), (27, o1_27), (28, o1_28), (29, o1_29), (30, o1_30), (31, o1_31), (32, o1_32), (33, o1_33), (34, o1_34), (35, o1_35), (36, o1_36), (37, o1_37), (38, o1_38), (39, o1_39), (40, o1_40), (41, o1_41), (42, o1_42), (43, o1_43), (44, o1_44), (45, o1_45), (46, o1_46), (47, o1_47), (48, o1_48), (49, o1_49), (50, o1_50), (51, o1_51), (52, o1_52), (53, o1_53), (54, o1_54), (55, o1_55), (56, o1_56), (57, o1_57), (58, o1_58), (59, o1_59), (60, o1_60), (61, o1_61), (62, o1_62), (63, o1_63), (64, o1_64), (65, o1_65), (66, o1_66), (67, o1_67), (68, o1_68), (69, o1_69), (70, o1_70), (71, o1_71), (72, o1_72), (73, o1_73), (74, o1_74), (75, o1_75), (76, o1_76), (77, o1_77), (78, o1_78), (79, o1_79), (80, o1_80), (81, o1_81), (82, o1_82), (83, o1_83), (84, o1_84)]
def t1 (P : Params) : BT := insL P l1 (t0 P)
def c1 : Cut := ⟨t1, 85, 282, ⟨70, 0, 107, 15⟩⟩
theorem seg1 : SegEq com 0 17 381 c0 c1 := by
  intro w os
  kernel_rfl
theorem e1 : Ends com 17 3 c1 c1 := Ends.nil (by kernel_rfl) (by intro w os; kernel_rfl)
theorem e0 : Ends com 0 (381 + 3) c0 c1 := Ends.seg (i := 0) (j := 17) seg1 e1
theorem whole : Whole com 397 c1 := whole_of r_pre r_block e0
abbrev cz : Cut := c1
def KLG (P : Params) : Frag := [(2, boot_o_2 P), (3, o1_3 P), (6, boot_o_6 P), (4, boot_o_4 P), (19, o1_19 P), (26, o1_26 P), (31, o1_31 P), (38, o1_38 P), (45, o1_45 P), (50, o1_50 P), (57, o1_57 P), (64, o1_64 P), (69, o1_69 P), (74, o1_74 P), (79, o1_79 P), (84, o1_84 P), (0, boot_o_0 P), (18, o1_18 P), (25, o1_25 P), (30, o1_30 P), (37, o1_37 P), (44, o1_44 P), (49, o1_49 P), (56, o1_56 P), (63, o1_63 P), (68, o1_68 P), (73, o1_73 P), (78, o1_78 P), (83, o1_83 P), (15, o1_15 P), (16, o1_16 P), (17, o1_17 P), (20, o1_20 P), (21, o1_21 P), (22, o1_22 P), (23, o1_23 P), (24, o1_24 P), (27, o1_27 P), (28, o1_28 P), (29, o1_29 P), (32, o1_32 P), (33, o1_33 P), (34, o1_34 P), (35, o1_35 P), (36, o1_36 P), (39, o1_39 P), (40, o1_40 P), (41, o1_41 P), (42, o1_42 P), (43, o1_43 P), (46, o1_46 P), (47, o1_47 P), (48, o1_48 P), (51, o1_51 P), (52, o1_52 P), (53, o1_53 P), (54, o1_54 P), (55, o1_55 P), (58, o1_58 P), (59, o1_59 P), (60, o1_60 P), (61, o1_61 P), (62, o1_62 P), (65, o1_65 P), (66, o1_66 P), (67, o1_67 P), (70, o1_70 P), (71, o1_71 P), (72, o1_72 P), (75, o1_75 P), (76, o1_76 P), (77, o1_77 P), (80, o1_80 P), (81, o1_81 P), (82, o1_82 P)]
def as1 : List Addr := [3, 6, 4, 19, 26, 31, 38, 45, 50, 57, 64, 69, 74, 79, 84]
def as2 : List Addr := [3, 6, 4, 19, 26, 31, 38, 45, 50, 57, 64, 69, 74, 79, 84, 0, 18, 25, 30, 37, 44, 49, 56, 63, 68, 73, 78, 83]
def as3 : List Addr := [3, 6, 4, 19, 26, 31, 38, 45, 50, 57, 64, 69, 74, 79, 84, 0, 18, 25, 30, 37, 44, 49, 56, 63, 68, 73, 78, 83, 15, 16, 17, 20, 21, 22, 23, 24, 27, 28, 29, 32, 33, 34, 35, 36, 39, 40, 41, 42, 43, 46, 47, 48, 51, 52, 53, 54, 55, 58, 59, 60, 61, 62, 65, 66, 67, 70, 71, 72, 75, 76, 77, 80, 81, 82]
def as4 : List Addr := [3, 6, 4, 19, 26, 31, 38, 45, 50, 57, 64, 69, 74, 79, 84, 0, 18, 25, 30, 37, 44, 49, 56, 63, 68, 73, 78, 83, 15, 16, 17, 20, 21, 22, 23, 24, 27, 28, 29, 32, 33, 34, 35, 36, 39, 40, 41, 42, 43, 46, 47, 48, 51, 52, 53, 54, 55, 58, 59, 60, 61, 62, 65, 66, 67, 70, 71, 72, 75, 76, 77, 80, 81, 82]
def as5 : List Addr := [3, 6, 4, 19, 26, 31, 38, 45, 50, 57, 64, 69, 74, 79, 84, 0, 18, 25, 30, 37, 44, 49, 56, 63, 68, 73, 78, 83, 15, 16, 17, 20, 21, 22, 23, 24, 27, 28, 29, 32, 33, 34, 35, 36, 39, 40, 41, 42, 43, 46, 47, 48, 51, 52, 53, 54, 55, 58, 59, 60, 61, 62, 65, 66, 67, 70, 71, 72, 75, 76, 77, 80, 81, 82]
theorem boot_n : ∀ w : World, (putAll (boot_heap w.params).objs.toList .nil 0).map (·.2) = some com.n0 := by intro w; kernel_rfl
theorem boot_a : ∀ w : World, (boot_heap w.params).nsMap mainGlobals "__annotations__" = com.ann := by intro w; kernel_rfl
theorem look1 : ∀ w os, looksF com.p (boot_heap w.params) (cz.st w os).abs = true := by intro w os; kernel_rfl
end HandSCut
end
set_option Elab.async false
set_option linter.all false
set_option maxRecDepth 100000
namespace Eng
open PySem PySem.Spec PyProof.Rows L2
/-- plain data; obj n: the n-th object of the store (it may change); fn x: a def of the module; dcz: a dict that may be walked -/
inductive D where
  | non | bl (b : Bool) | int (i : Int) | str (x : Str)
  | tup (ds : List D) | lst (ds : List D)
  | dic (ks : List Key) (ds : List D)
  | dcz (ks : List Key) (ds : List D)
  | ins (c : Str) (ks : List Str) (ds : List D)
  | obj (n : Nat)
  | fn (x : Str)
  | scr (ns : List Int)
  | tab (p : Str × Option Str) (q : Str)
  | dtt (z : Bool) (ks : List (List Int)) (ds : List D)
  | tupx (ds : List D)
  deriving Inhabited
abbrev Store := List D
/-- keys that are rows of ints -/
abbrev kT (ks : List (List Int)) : List (List Key) := ks.map fun k => k.map .inl
mutual
inductive Rep (K : PySem.W.Frag) (F : Hp) (T : List Addr) : V → D → Prop
  | non : Rep K F T .non .non
  | bl (b : Bool) : Rep K F T (.bl b) (.bl b)
  | int (i : Int) : Rep K F T (.int i) (.int i)
  | str (x : Str) : Rep K F T (.str x) (.str x)
  | tup {a : Addr} {xs : List V} {ds : List D} : SqT K F a xs → Reps K F T xs ds → Rep K F T (.ref a) (.tup ds)
  | lst {a : Addr} {xs : List V} {ds : List D} : F a = some (.lst xs) → Reps K F T xs ds → Rep K F T (.ref a) (.lst ds)
  | dic {a : Addr} {kvs : List (Key × V)} {ks : List Key} {ds : List D} : F a = some (.dK kvs) → kvs.map (·.1) = ks → Reps K F T (kvs.map (·.2)) ds → Rep K F T (.ref a) (.dic ks ds)
  | dcz {a : Addr} {o : Obj} {kvs : List (Key × V)} {ks : List Key} {ds : List D} : F a = some (.frz o (.dK kvs)) → kvs.map (·.1) = ks → Reps K F T (kvs.map (·.2)) ds → Rep K F T (.ref a) (.dcz ks ds)
  | ins {a dx : Addr} {c : Str} {fs : List (Str × V)} {ks : List Str} {ds : List D} : F a = some (.ins (He.ga K c) dx fs) → fs.map (·.1) = ks → Reps K F T (fs.map (·.2)) ds → Rep K F T (.ref a) (.ins c ks ds)
  | obj {n : Nat} {a : Addr} : T[n]? = some a → Rep K F T (.ref a) (.obj n)
  | fn {x : Str} : Rep K F T (.ref (He.ga K x)) (.fn x)
  | scr {a : Addr} {ns : List Int} : SqL K F a (ns.map V.int) → Rep K F T (.ref a) (.scr ns)
  | dto {a : Addr} {kvs : List (List Key × V)} {ks : List (List Int)} {ds : List D} : F a = some (.dT kvs) → kvs.map (·.1) = kT ks → Reps K F T (kvs.map (·.2)) ds → Rep K F T (.ref a) (.dtt false ks ds)
  | dtz {a : Addr} {o : Obj} {kvs : List (List Key × V)} {ks : List (List Int)} {ds : List D} : F a = some (.frz o (.dT kvs)) → kvs.map (·.1) = kT ks → Reps K F T (kvs.map (·.2)) ds → Rep K F T (.ref a) (.dtt true ks ds)
  | tpx {a : Addr} {o : Obj} {xs : List V} {ds : List D} : F a = some (.frz o (.tup xs)) → o.dict = none → Reps K F T xs ds → Rep K F T (.ref a) (.tupx ds)
inductive Reps (K : PySem.W.Frag) (F : Hp) (T : List Addr) : List V → List D → Prop
  | nil : Reps K F T [] []
  | cons {v : V} {vs : List V} {d : D} {ds : List D} : Rep K F T v d → Reps K F T vs ds → Reps K F T (v :: vs) (d :: ds)
end
def Pre (T T' : List Addr) : Prop := ∀ (n : Nat) (a : Addr), T[n]? = some a → T'[n]? = some a
theorem Pre.refl (T : List Addr) : Pre T T := fun _ _ h => h
theorem Pre.trans {A B C : List Addr} (h : Pre A B) (k : Pre B C) : Pre A C := fun n a e => k n a (h n a e)
theorem Pre.snoc (T : List Addr) (a : Addr) : Pre T (T ++ [a]) := fun n b e => by
  have h : n < T.length := (List.getElem?_eq_some_iff.mp e).1
  rw [List.getElem?_append_left h]; exact e
theorem Pre.len {A B : List Addr} (h : Pre A B) : A.length ≤ B.length := by
  by_cases q : A.length ≤ B.length
  · exact q
  · have e : A[B.length]? = some (A[B.length]'(by omega)) := by simp
    have := h _ _ e
    rw [List.getElem?_eq_none (Nat.le_refl _)] at this; cases this
theorem sqT_mono {K : PySem.W.Frag} {H H' : Hp} {a : Addr} {xs : List V} (e : Same H H') (h : SqT K H a xs) : SqT K H' a xs := by
  rcases h with (h | ⟨o, h⟩) | h
  · exact .inl (.inl (e _ _ h))
  · exact .inl (.inr ⟨o, e _ _ h⟩)
  · exact .inr h
mutual
theorem Rep.mono {K : PySem.W.Frag} {F F' : Hp} {T T' : List Addr} (hF : Same F F') (hT : Pre T T') : ∀ {v : V} {d : D}, Rep K F T v d → Rep K F' T' v d
  | _, .non, h => by cases h; exact .non
  | _, .bl _, h => by cases h; exact .bl _
  | _, .int _, h => by cases h; exact .int _
  | _, .str _, h => by cases h; exact .str _
  | _, .tup ds, h => by cases h with | tup q r => exact .tup (sqT_mono hF q) (Reps.mono hF hT r)
  | _, .lst ds, h => by cases h with | lst q r => exact .lst (hF _ _ q) (Reps.mono hF hT r)
  | _, .dic ks ds, h => by cases h with | dic q e r => exact .dic (hF _ _ q) e (Reps.mono hF hT r)
  | _, .dcz ks ds, h => by cases h with | dcz q e r => exact .dcz (hF _ _ q) e (Reps.mono hF hT r)
  | _, .ins c ks ds, h => by cases h with | ins q e r => exact .ins (hF _ _ q) e (Reps.mono hF hT r)
  | _, .obj n, h => by cases h with | obj q => exact .obj (hT _ _ q)
  | _, .fn x, h => by cases h; exact .fn
  | _, .scr ns, h => by cases h with | scr q => exact .scr (hF.seq q)
  | _, .tab _ _, h => by cases h
  | _, .dtt z ks ds, h => by cases h with
    | dto q e r => exact .dto (hF _ _ q) e (Reps.mono hF hT r)
    | dtz q e r => exact .dtz (hF _ _ q) e (Reps.mono hF hT r)
  | _, .tupx ds, h => by cases h with | tpx q c r => exact .tpx (hF _ _ q) c (Reps.mono hF hT r)
theorem Reps.mono {K : PySem.W.Frag} {F F' : Hp} {T T' : List Addr} (hF : Same F F') (hT : Pre T T') : ∀ {vs : List V} {ds : List D}, Reps K F T vs ds → Reps K F' T' vs ds
  | _, [], h => by cases h; exact .nil
  | _, d :: ds, h => by cases h with | cons a b => exact .cons (Rep.mono hF hT a) (Reps.mono hF hT b)
end
section
variable {K : PySem.W.Frag} {F : Hp} {T : List Addr}
theorem Reps.length : ∀ {vs : List V} {ds : List D}, Reps K F T vs ds → vs.length = ds.length
  | _, _, .nil => rfl
  | _, _, .cons _ r => congrArg Nat.succ r.length
theorem Reps.get : ∀ {vs : List V} {ds : List D} {i : Nat} {d : D}, Reps K F T vs ds → ds[i]? = some d → ∃ v, vs[i]? = some v ∧ Rep K F T v d
  | _, _, _, _, .nil, e => by simp at e
  | _, _, 0, _, .cons r _, e => by simp at e; subst e; exact ⟨_, rfl, r⟩
  | _, _, i + 1, d, .cons _ t, e => by
    obtain ⟨u, h1, h2⟩ := Reps.get (i := i) (d := d) t (by simpa using e)
    exact ⟨u, by simpa using h1, h2⟩
theorem Reps.append : ∀ {vs ws : List V} {ds es : List D}, Reps K F T vs ds → Reps K F T ws es → Reps K F T (vs ++ ws) (ds ++ es)
  | _, _, _, _, .nil, s => s
  | _, _, _, _, .cons r t, s => .cons r (t.append s)
theorem Reps.take : ∀ {vs : List V} {ds : List D} (n : Nat), Reps K F T vs ds → Reps K F T (vs.take n) (ds.take n)
  | _, _, 0, _ => .nil
  | _, _, _ + 1, .nil => .nil
  | _, _, n + 1, .cons r t => .cons r (t.take n)
theorem Reps.drop : ∀ {vs : List V} {ds : List D} (n : Nat), Reps K F T vs ds → Reps K F T (vs.drop n) (ds.drop n)
  | _, _, 0, r => r
  | _, _, _ + 1, .nil => .nil
  | _, _, n + 1, .cons _ t => t.drop n
theorem Reps.set {v : V} {d : D} (r : Rep K F T v d) : ∀ {vs : List V} {ds : List D} (i : Nat), Reps K F T vs ds → Reps K F T (vs.set i v) (ds.set i d)
  | _, _, _, .nil => .nil
  | _, _, 0, .cons _ t => .cons r t
  | _, _, i + 1, .cons q t => .cons q (t.set r i)
theorem Reps.one {v : V} {d : D} (r : Rep K F T v d) : Reps K F T [v] [d] := .cons r .nil
theorem Reps.reverse : ∀ {vs : List V} {ds : List D}, Reps K F T vs ds → Reps K F T vs.reverse ds.reverse
  | _, _, .nil => .nil
  | _, _, .cons r t => by rw [List.reverse_cons, List.reverse_cons]; exact t.reverse.append (.one r)
theorem Reps.rep {vs : List V} {ds : List D} (h : Reps K F T vs ds) : ∀ k : Nat, Reps K F T (List.replicate k vs).flatten (List.replicate k ds).flatten
  | 0 => .nil
  | k + 1 => by rw [List.replicate_succ, List.replicate_succ, List.flatten_cons, List.flatten_cons]; exact h.append (h.rep k)
end
/-- an object that may change: at a stands d, its parts frozen -/
def RepTop (K : PySem.W.Frag) (F : Hp) (T : List Addr) (H : Hp) (a : Addr) : D → Prop
  | .lst ds => ∃ xs, H a = some (.lst xs) ∧ Reps K F T xs ds
  | .dic ks ds => ∃ kvs, H a = some (.dK kvs) ∧ kvs.map (·.1) = ks ∧ Reps K F T (kvs.map (·.2)) ds
  | .ins c ks ds => ∃ dx fs, H a = some (.ins (He.ga K c) dx fs) ∧ fs.map (·.1) = ks ∧ Reps K F T (fs.map (·.2)) ds
  | .tab p q => a = (He.cT K p).2 ∧ ∃ ps : Array Value, H a = some (.tbl ps) ∧ PySem.TriplesOk ps.toList ∧ ∀ (pos : Pos) (cv : Value), PySem.codeAmong pos ps.toList = some cv → ∃ c, cv = .ref c ∧ F c = some (LamX.CodeO c q)
  | .dtt false ks ds => ∃ kvs, H a = some (.dT kvs) ∧ kvs.map (·.1) = kT ks ∧ Reps K F T (kvs.map (·.2)) ds
  | _ => False
theorem RepTop.there {K : PySem.W.Frag} {F : Hp} {T : List Addr} {H : Hp} {a : Addr} {d : D} (h : RepTop K F T H a d) : ∃ o, H a = some o := by
  cases d with
  | lst ds => obtain ⟨xs, e, _⟩ := h; exact ⟨_, e⟩
  | dic ks ds => obtain ⟨xs, e, _⟩ := h; exact ⟨_, e⟩
  | ins c ks ds => obtain ⟨dx, xs, e, _⟩ := h; exact ⟨_, e⟩
  | tab p q => obtain ⟨_, xs, e, _⟩ := h; exact ⟨_, e⟩
  | dtt z ks ds => cases z with
    | false => obtain ⟨xs, e, _⟩ := h; exact ⟨_, e⟩
    | true => exact h.elim
  | _ => exact h.elim
theorem RepTop.mono {K : PySem.W.Frag} {F F' : Hp} {T T' : List Addr} {H H' : Hp} {a : Addr} {d : D} (hF : Same F F') (hT : Pre T T') (hH : ∀ o, H a = some o → H' a = some o) (h : RepTop K F T H a d) : RepTop K F' T' H' a d := by
  cases d with
  | lst ds => obtain ⟨xs, e, r⟩ := h; exact ⟨xs, hH _ e, r.mono hF hT⟩
  | dic ks ds => obtain ⟨xs, e, k, r⟩ := h; exact ⟨xs, hH _ e, k, r.mono hF hT⟩
  | ins c ks ds => obtain ⟨dx, xs, e, k, r⟩ := h; exact ⟨dx, xs, hH _ e, k, r.mono hF hT⟩
  | tab p q => obtain ⟨ep, xs, e, k, r⟩ := h; exact ⟨ep, xs, hH _ e, k, fun pos cv hc => (r pos cv hc).imp fun c z => ⟨z.1, hF _ _ z.2⟩⟩
  | dtt z ks ds => cases z with
    | false => obtain ⟨xs, e, k, r⟩ := h; exact ⟨xs, hH _ e, k, r.mono hF hT⟩
    | true => exact h.elim
  | _ => exact h.elim
theorem top_nt {K : PySem.W.Frag} {F : Hp} {T : List Addr} {H : Hp} {a : Addr} {d : D} (r : RepTop K F T H a d) : ∀ xs, H a ≠ some (.tup xs) := fun xs e => by
  cases d with
  | lst ds => obtain ⟨xs, h, _⟩ := r; rw [e] at h; cases h
  | dic ks ds => obtain ⟨xs, h, _⟩ := r; rw [e] at h; cases h
  | ins c ks ds => obtain ⟨dx, xs, h, _⟩ := r; rw [e] at h; cases h
  | tab p q => obtain ⟨_, xs, h, _⟩ := r; rw [e] at h; cases h
  | dtt z ks ds => cases z with
    | false => obtain ⟨xs, h, _⟩ := r; rw [e] at h; cases h
    | true => exact r.elim
  | _ => exact r.elim
/-- frozen now -/
theorem RepTop.rep {K : PySem.W.Frag} {F G : Hp} {T : List Addr} {H : Hp} {a : Addr} {d : D} (h : RepTop K F T H a d) (hn : ∀ p q, d ≠ .tab p q) (hF : Same F G) (hG : ∀ o, H a = some o → G a = some o) : Rep K G T (.ref a) d := by
  cases d with
  | lst ds => obtain ⟨xs, e, r⟩ := h; exact .lst (hG _ e) (r.mono hF (.refl _))
  | dic ks ds => obtain ⟨xs, e, k, r⟩ := h; exact .dic (hG _ e) k (r.mono hF (.refl _))
  | ins c ks ds => obtain ⟨dx, xs, e, k, r⟩ := h; exact .ins (hG _ e) k (r.mono hF (.refl _))
  | tab p q => exact (hn p q rfl).elim
  | dtt z ks ds => cases z with
    | false => obtain ⟨xs, e, k, r⟩ := h; exact .dto (hG _ e) k (r.mono hF (.refl _))
    | true => exact h.elim
  | _ => exact h.elim
/-- the heap's ghost: F frozen, T the store's addresses -/
structure WF (K : PySem.W.Frag) (F : Hp) (T : List Addr) (st : Store) (H : Hp) : Prop where
  fr : Same F H
  len : st.length = T.length
  nd : T.Nodup
  nf : ∀ a ∈ T, F a = none
  at_ : ∀ (n : Nat) (d : D), st[n]? = some d → ∃ a, T[n]? = some a ∧ RepTop K F T H a d
  tp : ∀ a xs, H a = some (.tup xs) → F a = some (.tup xs)
/-- from (F, T, H) on -/
structure Ext (F : Hp) (T : List Addr) (H : Hp) (F' : Hp) (T' : List Addr) (H' : Hp) : Prop where
  fr : Same F F'
  pre : Pre T T'
  newF : ∀ b, F b = none → H b ≠ none → F' b = none
  newT : ∀ b ∈ T', b ∉ T → H b = none
  keep : ∀ b o, H b = some o → b ∉ T → H' b = some o
  there : ∀ b o, H b = some o → ∃ o', H' b = some o'
theorem Ext.refl (F : Hp) (T : List Addr) (H : Hp) : Ext F T H F T H := ⟨.refl _, .refl _, fun _ h _ => h, fun b h n => absurd h n, fun _ _ h _ => h, fun _ o h => ⟨o, h⟩⟩
theorem Ext.trans {F F1 F2 H H1 H2 : Hp} {T T1 T2 : List Addr} (a : Ext F T H F1 T1 H1) (b : Ext F1 T1 H1 F2 T2 H2) : Ext F T H F2 T2 H2 where
  fr := a.fr.trans b.fr
  pre := a.pre.trans b.pre
  newF := fun x h n => by
    obtain ⟨o, e⟩ := Option.ne_none_iff_exists'.mp n
    obtain ⟨o1, e1⟩ := a.there x o e
    exact b.newF x (a.newF x h n) (by rw [e1]; simp)
  newT := fun x h n => by
    by_cases h1 : x ∈ T1
    · exact a.newT x h1 n
    · have z := b.newT x h h1
      cases q : H x with
      | none => rfl
      | some o =>
        obtain ⟨o1, e1⟩ := a.there x o q
        rw [e1] at z; cases z
  keep := fun x o e n => by
    have e1 := a.keep x o e n
    refine b.keep x o e1 fun h1 => ?_
    have z := a.newT x h1 n
    rw [e] at z; cases z
  there := fun x o e => by
    obtain ⟨o1, e1⟩ := a.there x o e
    exact b.there x o1 e1
section
variable {K : PySem.W.Frag} {F F' H H' : Hp} {T T' : List Addr} {st : Store}
/-- a new object at p, frozen at once -/
theorem Ext.new (w : WF K F T st H) {p : Addr} {o : HO} (hp : H p = none) : Ext F T H (upd F p o) T (upd H p o) := by
  have fp : F p = none := by
    cases q : F p with
    | none => rfl
    | some u => rw [w.fr p u q] at hp; cases hp
  have np : ∀ {b : Addr} {u : HO}, H b = some u → b ≠ p := fun e => ne_of_none e hp
  exact ⟨fun b u e => by rw [upd_ne (ne_of_none e fp)]; exact e, .refl _, fun b e n => by
      by_cases q : b = p
      · subst q; exact absurd hp n
      · rw [upd_ne q]; exact e, fun b h n => absurd h n, fun b u e _ => by rw [upd_ne (np e)]; exact e, fun b u e => ⟨u, by rw [upd_ne (np e)]; exact e⟩⟩
theorem WF.new (w : WF K F T st H) {p : Addr} {o : HO} (hp : H p = none) : WF K (upd F p o) T st (upd H p o) := by
  have x := Ext.new w (o := o) hp
  have np : ∀ {b : Addr} {u : HO}, H b = some u → b ≠ p := fun e => ne_of_none e hp
  refine ⟨fun b u e => ?_, w.len, w.nd, fun a ha => ?_, fun n d e => ?_, fun b u e => ?_⟩
  · by_cases q : b = p
    · subst q; rw [upd_same] at e; rw [upd_same]; exact e
    · rw [upd_ne q] at e; rw [upd_ne q]; exact w.fr b u e
  · obtain ⟨n, hn⟩ := List.mem_iff_getElem?.mp ha
    have hl : n < T.length := (List.getElem?_eq_some_iff.mp hn).1
    obtain ⟨d, hd⟩ : ∃ d, st[n]? = some d := ⟨st[n]'(by rw [w.len]; exact hl), by simp [w.len, hl]⟩
    obtain ⟨a', h1, h2⟩ := w.at_ n d hd
    rw [hn] at h1; cases h1
    obtain ⟨o', ho⟩ := h2.there
    rw [upd_ne (np ho)]; exact w.nf a ha
  · obtain ⟨a, h1, h2⟩ := w.at_ n d e
    obtain ⟨o', ho⟩ := h2.there
    exact ⟨a, h1, h2.mono x.fr (.refl _) fun o'' e'' => by rw [upd_ne (np e'')]; exact e''⟩
  · by_cases q : b = p
    · subst q; rw [upd_same] at e; rw [upd_same]; exact e
    · rw [upd_ne q] at e; rw [upd_ne q]; exact w.tp b u e
/-- a new object at p that is not frozen -/
theorem Ext.newO {p : Addr} {o : HO} (hp : H p = none) : Ext F T H F T (upd H p o) := by
  have np : ∀ {b : Addr} {u : HO}, H b = some u → b ≠ p := fun e => ne_of_none e hp
  exact ⟨.refl _, .refl _, fun _ h _ => h, fun b h n => absurd h n, fun b u e _ => by rw [upd_ne (np e)]; exact e, fun b u e => ⟨u, by rw [upd_ne (np e)]; exact e⟩⟩
theorem WF.newO (w : WF K F T st H) {p : Addr} {o : HO} (hp : H p = none) (ht : ∀ xs, o ≠ .tup xs := by intro xs h; cases h) : WF K F T st (upd H p o) := by
  have np : ∀ {b : Addr} {u : HO}, H b = some u → b ≠ p := fun e => ne_of_none e hp
  exact ⟨fun b u e => by rw [upd_ne (np (w.fr b u e))]; exact w.fr b u e, w.len, w.nd, w.nf, fun n d e => by
    obtain ⟨a, h1, h2⟩ := w.at_ n d e
    exact ⟨a, h1, h2.mono (.refl _) (.refl _) fun o'' e'' => by rw [upd_ne (np e'')]; exact e''⟩, fun b u e => by
    by_cases q : b = p
    · subst q; rw [upd_same] at e; exact (ht u (Option.some.inj e)).elim
    · rw [upd_ne q] at e; exact w.tp b u e⟩
theorem WF.inT (w : WF K F T st H) {a : Addr} (h : a ∈ T) : ∃ o, H a = some o := by
  obtain ⟨n, hn⟩ := List.mem_iff_getElem?.mp h
  have hl : n < T.length := (List.getElem?_eq_some_iff.mp hn).1
  obtain ⟨d, hd⟩ : ∃ d, st[n]? = some d := ⟨st[n]'(by rw [w.len]; exact hl), by simp [w.len, hl]⟩
  obtain ⟨a', h1, h2⟩ := w.at_ n d hd
  rw [hn] at h1; cases h1
  exact h2.there
/-- an object that is tracked, not frozen, not of the store, is frozen -/
theorem Ext.freeze {p : Addr} {o : HO} (hp : H p = some o) (hF : F p = none) (hT : p ∉ T) {F0 H0 : Hp} {T0 : List Addr} (x : Ext F0 T0 H0 F T H) (h0 : H0 p = none) : Ext F0 T0 H0 (upd F p o) T H := by
  refine ⟨fun b u e => ?_, x.pre, fun b e n => ?_, x.newT, x.keep, x.there⟩
  · have := x.fr b u e
    rw [upd_ne (ne_of_none this hF)]; exact this
  · by_cases q : b = p
    · subst q; exact absurd h0 n
    · rw [upd_ne q]; exact x.newF b e n
theorem WF.freeze (w : WF K F T st H) {p : Addr} {o : HO} (hp : H p = some o) (hF : F p = none) (hT : p ∉ T) : WF K (upd F p o) T st H := by
  have sm : Same F (upd F p o) := fun b u e => by rw [upd_ne (ne_of_none e hF)]; exact e
  refine ⟨fun b u e => ?_, w.len, w.nd, fun a ha => ?_, fun n d e => ?_, fun b u e => sm b _ (w.tp b u e)⟩
  · by_cases q : b = p
    · subst q; rw [upd_same] at e; rw [hp]; exact e
    · rw [upd_ne q] at e; exact w.fr b u e
  · rw [upd_ne (fun q : a = p => hT (by rw [← q]; exact ha))]; exact w.nf a ha
  · obtain ⟨a, h1, h2⟩ := w.at_ n d e
    exact ⟨a, h1, h2.mono sm (.refl _) fun _ z => z⟩
end
end Eng
set_option Elab.async false
set_option linter.all false
set_option maxRecDepth 100000
namespace Eng
open PySem PySem.Spec PyProof.Rows L2
mutual
/-- an expression -/
inductive E where
  | var (i : Nat)
  | c (d : D)
  | gl (x : Str) (d : D)
  | fn (x : Str)
  | bin (op : Operator) (a b : E)
  | neg (a : E)
  | not (a : E)
  | cmp (op : CmpOp) (a b : E)
  | cmp2 (op op' : CmpOp) (a b c : E)
  | and (es : Es) | or (es : Es)
  | ife (c a b : E)
  | tup (es : Es) | lst (es : Es) | dnew
  | ix (a i : E)
  | sl (a : E) (lo hi : Op)
  | rev (a : E)
  | call (f : Nat) (es : Es)
  | callv (i : Nat) (fs : List (Str × Nat)) (es : Es)
  | attr (o : E) (c f : Str)
  | meth (o : E) (c m : Str) (f : Nat) (es : Es)
  | eqo (neg : Bool) (a : E) (c : Str) (f : Nat) (b : E)
  | ino (neg : Bool) (a : E) (c : Str) (f : Nat) (b : E)
  | dcz0
  | dnt
  | dlt (ks : Es) (v : E)
  | nez (a b : E)
  | xf (i : Nat) (al : List Str) (f : Str)
  | xkw (c : Str) (ks : List Str) (es : Es) (f : Str)
  | xis (i : Nat) (al cs : List Str)
  | bi (b : String) (es : Es)
  | bid (b : String) (a d : E)
  | dget (o k d : E)
  | sset (a : E)
  | isi (a : E) (ts : List String)
  | isc (a : E) (c : Str)
  | isiO (a : E) (ts : List String) (cs : List Str)
  | me (m : String) (o : E) (es : Es)
  | fmt (a : E)
  | lc (elt : E) (tg : Tg) (it : It) (ifs : Op) (ws : List Nat)
  | lcx (elt : E) (tg : Tg) (it : It) (ifs : Op) (ws : List Nat)
  | lc2 (elt : E) (tg : Tg) (it : It) (ifs : Op) (tg1 : Tg) (it1 : It) (ifs1 : Op) (ws ws1 : List Nat)
  | ssc (elt : E) (tg : Tg) (it : It) (ifs : Op) (ws : List Nat)
  | lset (a : E)
  | sst (a : E)
  | ssct (elt : E) (tg : Tg) (it : It) (ifs : Op) (ws : List Nat)
  | sstt (a : E)
  | dc (kx vx : E) (tg : Tg) (it : It) (ifs : Op) (ws : List Nat)
  | dcp (a : E)
  | dvl (a : E)
  | dil (a : E)
  | rpr (a : E)
  | srtk (p : Str × Option Str) (q : Str) (i : Nat) (key a : E)
  | srtr (p : Str × Option Str) (q : Str) (i : Nat) (key a : E)
  | tx (a : E)
  | dcx (a : E)
  | rep (a : E) (y : Str) (b : E)
inductive Es where
  | nil | cons (e : E) (es : Es)
inductive Op where
  | no | so (e : E)
/-- what a for or a comprehension walks -/
inductive It where
  | seq (a : E)
  | rng (es : Es)
  | enum (a : E)
  | zip (a b : E)
  | keys (i : Nat)
  | dk (a : E)
  | dv (a : E)
  | di (a : E)
  | rgc (i j c : Int) (n : Nat)
inductive Tg where
  | v (i : Nat)
  | t (ts : Tgs)
inductive Tgs where
  | nil | cons (t : Tg) (ts : Tgs)
end
/-- parallel targets: fresh things of the frame's own, or values -/
inductive Ps where
  | nil | cons (own : Bool) (i : Nat) (e : E) (r : Ps)
mutual
inductive S where
  | asg (fz : List Nat) (tg : Tg) (e : E)
  | own (i : Nat) (e : E)
  | obj (i : Nat) (e : E)
  | par (fz : List Nat) (ps : Ps)
  | aug (i : Nat) (op : Operator) (e : E)
  | app (fz : List Nat) (i : Nat) (e : E)
  | augI (i : Nat) (op : Operator) (k e : E)
  | setI (fz : List Nat) (i : Nat) (k e : E)
  | setT (fz : List Nat) (i : Nat) (ks : Es) (e : E)
  | ex (e : E)
  | ret (fz : List Nat) (e : E)
  | ifs (c : E) (a b : Ss)
  | for_ (fz : List Nat) (tg : Tg) (it : It) (body : Ss)
  | whl (n : Nat) (c : E) (body : Ss)
  | fld (fz : List Nat) (i : Nat) (c f : Str) (e : E)
  | rais (c : Str) (ks : List Str) (es : Es)
  | try_ (ws : List Nat) (body : Ss) (hs : Hs)
  | pass | brk | cont
  | lck (i : Nat)
  | fldA (i : Nat) (c f : Str) (op : Operator) (e : E)
inductive Ss where
  | nil | cons (s : S) (ss : Ss)
/-- clauses: the classes that it takes, the slot of its name -/
inductive Hs where
  | nil | cons (al cs : List Str) (i : Option Nat) (suite : Ss) (hs : Hs)
end
inductive Out (α : Type) where
  | ok (a : α) (st : Store)
  | ex (c : Str) (ks : List Str) (ds : List D) (st : Store)
  | bad
  deriving Inhabited
def Out.bnd {α β : Type} (o : Out α) (f : α → Store → Out β) : Out β := match o with
  | .ok a st => f a st
  | .ex c ks ds st => .ex c ks ds st
  | .bad => .bad
@[simp] theorem Out.bnd_ok {α β : Type} (a : α) (st : Store) (f : α → Store → Out β) : (Out.ok a st).bnd f = f a st := rfl
@[simp] theorem Out.bnd_ex {α β : Type} (c : Str) (ks : List Str) (ds : List D) (st : Store) (f : α → Store → Out β) : (Out.ex c ks ds st).bnd f = .ex c ks ds st := rfl
@[simp] theorem Out.bnd_bad {α β : Type} (f : α → Store → Out β) : (Out.bad : Out α).bnd f = .bad := rfl
/-- a value that may fail -/
def ofO {α : Type} (o : Option α) (st : Store) : Out α := match o with
  | some a => .ok a st
  | none => .bad
@[simp] theorem ofO_some {α : Type} (a : α) (st : Store) : ofO (some a) st = .ok a st := rfl
@[simp] theorem ofO_none {α : Type} (st : Store) : ofO (none : Option α) st = .bad := rfl
/-- no exception may leave -/
def Out.nox {α : Type} (o : Out α) : Out α := match o with
  | .ex _ _ _ _ => .bad
  | o => o
def chkO {α : Type} (c : Bool) (o : Out α) : Out α := match c with
  | true => o
  | false => .bad
@[simp] theorem chkO_true {α : Type} (o : Out α) : chkO true o = o := rfl
inductive Sl where
  | no
  | val (d : D)
  | own (d : D)
  | xc (c : Str) (ks : List Str) (ds : List D)
  deriving Inhabited
abbrev Env := List Sl
/-- the defs by number -/
abbrev Calls := Nat → List D → Store → Out D
mutual
/-- data of depth below n -/
def dataD : Nat → D → Bool
  | _, .non => true
  | _, .bl _ => true
  | _, .int _ => true
  | _, .str x => PyData.strOk x
  | 0, .tup _ => false
  | 0, .lst _ => false
  | n + 1, .tup ds => dataDs n ds
  | n + 1, .lst ds => dataDs n ds
  | _, .dic _ _ => false
  | _, .dcz _ _ => false
  | _, .ins _ _ _ => false
  | _, .obj _ => false
  | _, .fn _ => false
  | _, .scr _ => false
  | _, .tab _ _ => false
  | _, .dtt _ _ _ => false
  | _, .tupx _ => false
def dataDs : Nat → List D → Bool
  | _, [] => true
  | n, d :: ds => dataD n d && dataDs n ds
end
mutual
/-- data of depth below n, its texts of any signs -/
def dataF : Nat → D → Bool
  | _, .non => true
  | _, .bl _ => true
  | _, .int _ => true
  | _, .str _ => true
  | 0, .tup _ => false
  | 0, .lst _ => false
  | n + 1, .tup ds => dataFs n ds
  | n + 1, .lst ds => dataFs n ds
  | _, _ => false
def dataFs : Nat → List D → Bool
  | _, [] => true
  | n, d :: ds => dataF n d && dataFs n ds
end
mutual
def py : D → PyData
  | .non => .none
  | .bl b => .bool b
  | .int i => .int i
  | .str x => .str x
  | .tup ds => .tuple (pys ds)
  | .lst ds => .list (pys ds)
  | _ => .none
def pys : List D → List PyData
  | [] => []
  | d :: ds => py d :: pys ds
end
mutual
def eqD : D → D → Bool
  | .non, .non => true
  | .bl a, .bl b => a == b
  | .bl a, .int j => (if a then 1 else 0) == j
  | .int i, .bl b => i == (if b then 1 else 0)
  | .int i, .int j => decide (i = j)
  | .str x, .str y => decide (x = y)
  | .lst xs, .lst ys => eqDs xs ys
  | .tup xs, .tup ys => eqDs xs ys
  | _, _ => false
def eqDs : List D → List D → Bool
  | [], [] => true
  | x :: xs, y :: ys => eqD x y && eqDs xs ys
  | _, _ => false
end
def flatD : D → Bool
  | .non => true
  | .bl _ => true
  | .int _ => true
  | .str _ => true
  | _ => false
/-- the scalars that == tells apart -/
def scalD : D → D → Bool
  | .bl _, .int _ => false
  | .int _, .bl _ => false
  | x, y => flatD x && flatD y
def eqO : D → D → Option Bool
  | .lst xs, .lst [] => some xs.isEmpty
  | x, y => if scalD x y = true then some (eqD x y) else if (dataD 20 x && dataD 20 y) = true then some (eqD x y) else none
def lenD : D → Option Nat
  | .scr ns => some ns.length
  | .str x => if x.length ≤ sizeLine then some x.length else none
  | .tup ds => some ds.length
  | .lst ds => some ds.length
  | .dic ks _ => some ks.length
  | .dcz ks _ => some ks.length
  | _ => none
def truthD : D → Option Bool
  | .non => some false
  | .bl b => some b
  | .int i => some (i != 0)
  | .str x => if x.length ≤ sizeLine then some (x.length != 0) else none
  | .tup ds => some (!ds.isEmpty)
  | .lst ds => some (!ds.isEmpty)
  | _ => none
/-- a key -/
def keyD : D → Option Key
  | .int i => some (.inl i)
  | .str x => some (.inr x)
  | _ => none
def dicGet (ks : List Key) (ds : List D) (k : Key) : Option D := ((ks.zip ds).find? fun kv => decide (kv.1 = k)).map (·.2)
def dicPut (ks : List Key) (ds : List D) (k : Key) (d : D) : List Key × List D :=
  if (ks.any fun q => decide (q = k)) = true then (ks, List.zipWith (fun q e => if q = k then d else e) ks ds) else (ks ++ [k], ds ++ [d])
def binD : Operator → D → D → Option D
  | .Add, .int i, .int j => some (.int (i + j))
  | .Add, .str x, .str y => if x.length + y.length ≤ sizeLine then some (.str (x ++ y)) else none
  | .Add, .lst xs, .lst ys => if xs.length + ys.length ≤ sizeLine then some (.lst (xs ++ ys)) else none
  | .Add, .tup xs, .tup ys => if xs.length + ys.length ≤ sizeLine then some (.tup (xs ++ ys)) else none
  | .Sub, .int i, .int j => some (.int (i - j))
  | .Mult, .int i, .int j => if (-(2 ^ 64) < i ∧ i < 2 ^ 64) ∨ (-(2 ^ 64) < j ∧ j < 2 ^ 64) then some (.int (i * j)) else none
  | .Mult, .lst xs, .int k => if -(2 ^ 63) ≤ k ∧ k < 2 ^ 63 ∧ xs.length * k.toNat ≤ sizeLine then some (.lst (List.replicate k.toNat xs).flatten) else none
  | .Mult, .str x, .int k => if -(2 ^ 63) ≤ k ∧ k < 2 ^ 63 ∧ x.length * k.toNat ≤ sizeLine then some (.str (Txt.mul x k)) else none
  | .FloorDiv, .int i, .int j => if j ≠ 0 ∧ j.natAbs < 1073741824 then some (.int (i.fdiv j)) else none
  | .Mod, .int i, .int j => if j ≠ 0 then some (.int (i.fmod j)) else none
  | .Pow, .int i, .int j => if 0 ≤ j ∧ j ≤ 1000000 ∧ i.natAbs < 2 ^ 64 then some (.int (i ^ j.toNat)) else none
  | _, _, _ => none
def inD (x : D) : D → Option Bool
  | .str z => (match x with
    | .str y => (match y.cps.toList with
      | [c] => some (decide (c ∈ z.cps.toList))
      | _ => none)
    | _ => none)
  | .lst ds => if (flatD x && ds.all flatD) = true then some (ds.any fun z => eqD z x) else if (dataD 20 x && dataDs 20 ds) = true then some (ds.any fun z => eqD z x) else none
  | .tup ds => if (flatD x && ds.all flatD) = true then some (ds.any fun z => eqD z x) else none
  | .dic ks _ => (keyD x).map fun k => ks.any fun q => decide (q = k)
  | .dcz ks _ => (keyD x).map fun k => ks.any fun q => decide (q = k)
  | _ => none
def isNone : D → Bool
  | .non => true
  | _ => false
def cmpD : CmpOp → D → D → Option Bool
  | .Eq, x, y => eqO x y
  | .NotEq, x, y => (eqO x y).map (!·)
  | .Lt, .int i, .int j => some (decide (i < j))
  | .LtE, .int i, .int j => some (decide (i ≤ j))
  | .Gt, .int i, .int j => some (decide (j < i))
  | .GtE, .int i, .int j => some (decide (j ≤ i))
  | .In, x, y => inD x y
  | .NotIn, x, y => (inD x y).map (!·)
  | .Is, x, .non => some (isNone x)
  | .IsNot, x, .non => some (!isNone x)
  | .Is, .bl a, .bl b => some (decide (a = b))
  | .IsNot, .bl a, .bl b => some (!decide (a = b))
  | _, _, _ => none
/-- an index of any sign -/
def ixS (x : D) (i : D) : Option D := match i with
  | .int k => (match x with
    | .lst ds => atI ds k
    | .tup ds => atI ds k
    | .scr ns => (atI ns k).map .int
    | .str z => if z.length ≤ sizeLine then (atI z.cps.toList k).map fun c => .str ⟨#[c]⟩ else none
    | .dic ks ds => dicGet ks ds (.inl k)
    | .dcz ks ds => dicGet ks ds (.inl k)
    | _ => none)
  | .str z => (match x with
    | .dic ks ds => dicGet ks ds (.inr z)
    | .dcz ks ds => dicGet ks ds (.inr z)
    | _ => none)
  | _ => none
def cutD {α : Type} (xs : List α) (lo hi : Option Int) : List α := (xs.drop (HT.sIx xs.length 0 lo)).take (HT.sIx xs.length xs.length hi - HT.sIx xs.length 0 lo)
def slD (x : D) (lo hi : Option Int) : Option D := match x with
  | .lst ds => some (.lst (cutD ds lo hi))
  | .tup ds => some (.tup (cutD ds lo hi))
  | .str z => if z.length ≤ sizeLine then some (.str (cutS z lo hi)) else none
  | _ => none
def revD : D → Option D
  | .lst ds => some (.lst ds.reverse)
  | .str z => if z.length ≤ sizeLine then some (.str ⟨z.cps.toList.reverse.toArray⟩) else none
  | _ => none
def intsD : List D → Option (List Int)
  | [] => some []
  | .int i :: ds => (intsD ds).map (i :: ·)
  | _ :: _ => none
def strsD : List D → Option (List Str)
  | [] => some []
  | .str i :: ds => (strsD ds).map (i :: ·)
  | _ :: _ => none
def blsD : List D → Option (List Bool)
  | [] => some []
  | .bl i :: ds => (blsD ds).map (i :: ·)
  | _ :: _ => none
def seqD : D → Option (List D)
  | .lst ds => some ds
  | .tup ds => some ds
  | _ => none
/-- the order of data of one kind -/
def leD : D → D → Bool := PySem.W.dataLe false py
def isCont : D → Bool
  | .lst _ => true
  | .dic _ _ => true
  | .dtt false _ _ => true
  | _ => false
def isTup1 : D → Bool
  | .tup (_ :: _) => true
  | _ => false
def isTupN : D → Bool
  | .tup _ => true
  | .non => true
  | _ => false
def sortOk (ds : List D) : Bool := ds.all (dataF 20) && (ds.all fun d => ds.all fun e => PySem.W.alike (py d) (py e)) && (ds.all isTup1 || ds.all fun d => !isTupN d)
def sortedD (ds : List D) : Option D := if sortOk ds = true then some (.lst (ds.mergeSort leD)) else none
/-- sorted(.., key=..): the items by their keys -/
def sortK (ds ks : List D) : Option D := if (decide (ds.length = ks.length) && sortOk ks) = true then some (.lst (((ds.zip ks).mergeSort fun a b => leD a.2 b.2).map (·.1))) else none
/-- a table of code objects is at hand -/
def hasTab (p : Str × Option Str) (q : Str) (st : Store) : Bool := st.any fun d => match d with
  | .tab p' q' => decide (p' = p) && decide (q' = q)
  | _ => false
def lstD : D → Option (List D)
  | .lst ds => some ds
  | _ => none
/-- range(n) as a list -/
def rngOf : D → Option (List D)
  | .int n => if 0 ≤ n ∧ n ≤ 100000 then some ((List.range n.toNat).map fun k => .int (k : Nat)) else none
  | _ => none
def sortS (xs : List Str) : List Str := xs.mergeSort fun x y => decide (x.cps.toList ≤ y.cps.toList)
/-- the first of the greatest, of the least -/
def topI (f : Int → Int → Int) : List Int → Option Int
  | [] => none
  | x :: xs => some (xs.foldl f x)
/-- data that max and min compare -/
def ordOk (ds : List D) : Bool := ds.all (dataF 20) && (ds.all fun d => ds.all fun e => PySem.W.alike (py d) (py e)) && ds.all fun d => !isNone d && !isCont d
def topD (f : D → D → Bool) : List D → Option D
  | [] => none
  | x :: xs => some (xs.foldl (fun a y => if f y a = true then y else a) x)
def ltD (x y : D) : Bool := PySem.W.dataLt (py x) (py y)
/-- sorted(set(..)) -/
def ssetD (ds : List D) : Option D := match intsD ds with
  | some ns => if ns.length < 64 then some (.lst ((ns.eraseDups.mergeSort fun x y => decide (x ≤ y)).map .int)) else none
  | none => none
def lsetD (ds : List D) : Option D := match intsD ds with
  | some ns => if ns.length < 4000 then some (.int (ns.eraseDups.length : Nat)) else none
  | none => (match strsD ds with
    | some xs => if xs.length < 4000 then some (.int (xs.eraseDups.length : Nat)) else none
    | none => none)
/-- a key as a thing -/
def kD : Key → D
  | .inl i => .int i
  | .inr x => .str x
/-- what list(..) takes -/
def listD : D → Option (List D)
  | .dic ks _ => some (ks.map kD)
  | .dcz ks _ => some (ks.map kD)
  | x => seqD x
def isDic : D → Bool
  | .dic _ _ => true
  | .dcz _ _ => true
  | _ => false
/-- d.get(k, z) -/
def dgetD (x k z : D) : Option D := match x with
  | .dic ks ds => (keyD k).map fun q => (dicGet ks ds q).getD z
  | .dcz ks ds => (keyD k).map fun q => (dicGet ks ds q).getD z
  | _ => none
/-- pairs as keys and things -/
def pairsD : List D → Option (List (Key × D))
  | [] => some []
  | .tup [k, v] :: ds => (keyD k).bind fun q => (pairsD ds).map fun r => (q, v) :: r
  | _ :: _ => none
def dicOf (kvs : List (Key × D)) (acc : List Key × List D) : List Key × List D := kvs.foldl (fun acc kv => dicPut acc.1 acc.2 kv.1 kv.2) acc
/-- sorted(set(..)) of texts -/
def sstD (ds : List D) : Option D := (strsD ds).bind fun xs => if xs.length < 4000 then some (.lst ((sortS xs.eraseDups).map .str)) else none
/-- rows of three small numbers in order, each once -/
def rowsT : List D → Option (List (List Int))
  | [] => some []
  | .tup ds :: r => (intsD ds).bind fun k => (rowsT r).map (k :: ·)
  | _ :: _ => none
def codeT : List Int → Int
  | [] => 0
  | d :: r => d * 1048576 ^ r.length + codeT r
def ok3 (k : List Int) : Bool := decide (k.length = 3) && k.all fun n => decide (0 ≤ n) && decide (n < 1048576)
def tsetD (ds : List D) : Option D := (rowsT ds).bind fun ts => if (decide (ts.length < 64) && ts.all ok3) = true then some (.lst ((ts.eraseDups.mergeSort fun a b => decide (codeT a ≤ codeT b)).map fun k => .tup (k.map .int))) else none
/-- a dict's keys, things, pairs -/
def dkD : D → Option (List D)
  | .dcz ks _ => if ks.length ≤ sizeLine then some (ks.map kD) else none
  | .dtt true ks _ => if ks.length ≤ sizeLine then some (ks.map fun k => D.tup (k.map .int)) else none
  | _ => none
def dvD : D → Option (List D)
  | .dcz ks ds => if ks.length ≤ sizeLine then some ds else none
  | _ => none
def diD : D → Option (List D)
  | .dcz ks ds => if ks.length ≤ sizeLine then some (List.zipWith (fun k d => D.tup [kD k, d]) ks ds) else none
  | _ => none
/-- != of two dicts, where they are equal in the same sequence of keys -/
def neZ : D → D → Option D
  | .dcz ks ds, .dcz ls es => if ks = ls ∧ ks.Nodup ∧ (intsD ds).isSome = true ∧ intsD ds = intsD es then some (.bl false) else none
  | _, _ => none
/-- a key that is a row of ints -/
def ttPut (ks : List (List Int)) (ds : List D) (k : List Int) (d : D) : List (List Int) × List D :=
  if (ks.any fun q => decide (q = k)) = true then (ks, List.zipWith (fun q e => if q = k then d else e) ks ds) else (ks ++ [k], ds ++ [d])
/-- what dict(..) makes -/
def dcpD : D → Option D
  | .dcz ks ds => some (.dcz ks ds)
  | .lst ds => (pairsD ds).map fun r => .dcz (dicOf r ([], [])).1 (dicOf r ([], [])).2
  | _ => none
/-- a.replace(y, b, 1) -/
def rep1 (a y b : Str) : Str := if (Builtin.Str.occurrences a y 0 a.length 1).isEmpty = true then a else Builtin.Str.glued b (Builtin.Str.partsBetween a (Builtin.Str.occurrences a y 0 a.length 1) y.length)
def repD (x : D) (y : Str) (z : D) : Option D := match x, z with
  | .str a, .str b => if 1 ≤ y.length ∧ (y == b) = false ∧ a.length + b.length ≤ 16777216 ∧ (rep1 a y b).length ≤ sizeLine then some (.str (rep1 a y b)) else none
  | _, _ => none
/-- an exact tuple as any tuple -/
def unx : D → D
  | .tupx ds => .tup ds
  | d => d
/-- dict(..) of an exact tuple of pairs -/
def dcxD : D → Option D
  | .tupx ds => (pairsD ds).map fun r => .dcz (dicOf r ([], [])).1 (dicOf r ([], [])).2
  | _ => none
def rprD : D → Option D
  | .non => some (.str "None")
  | .bl true => some (.str "True")
  | .bl false => some (.str "False")
  | .int i => if i.natAbs.log2 < 1920 then some (.str (toString i)) else none
  | _ => none
/-- built-in functions of values -/
def biD (b : String) (ds : List D) : Option D := match b, ds with
  | "len", [x] => (lenD x).map fun (n : Nat) => .int (n : Int)
  | "sum", [.lst ds] => (intsD ds).map fun ns => .int ns.sum
  | "sum", [.tup ds] => (intsD ds).map fun ns => .int ns.sum
  | "int", [.int i] => some (.int i)
  | "int", [.bl b] => some (.int (if b then 1 else 0))
  | "int", [.str x] => if x.length ≤ 640 then (PySem.intText? x).map .int else none
  | "str", [.int i] => if i.natAbs.log2 < 1920 then some (.str (toString i)) else none
  | "abs", [.int i] => some (.int (if i < 0 then -i else i))
  | "all", [.lst ds] => (blsD ds).map fun bs => .bl (bs.all id)
  | "any", [.lst ds] => (blsD ds).map fun bs => .bl (bs.any id)
  | "max2", [.int i, .int j] => some (.int (if j > i then j else i))
  | "min2", [.int i, .int j] => some (.int (if j < i then j else i))
  | "max", [.lst ds] => (match intsD ds with
    | some ns => (topI (fun x y => if x < y then y else x) ns).map .int
    | none => if ordOk ds = true then topD (fun x y => ltD y x) ds else none)
  | "min", [.lst ds] => (match intsD ds with
    | some ns => (topI (fun x y => if y < x then y else x) ns).map .int
    | none => if ordOk ds = true then topD ltD ds else none)
  | "max", [.tup ds] => if ordOk ds = true then topD (fun x y => ltD y x) ds else none
  | "min", [.tup ds] => if ordOk ds = true then topD ltD ds else none
  | "list", [x] => (listD x).map .lst
  | "tuple", [x] => (seqD x).map .tup
  | "tuplex", [.lst ds] => some (.tupx ds)
  | "sorted", [.lst ds] => sortedD ds
  | "sorted", [.tup ds] => sortedD ds
  | "dict", [.lst ds] => (pairsD ds).map fun r => .dic (dicOf r ([], [])).1 (dicOf r ([], [])).2
  | "dict", [.dcz ks ds] => some (.dic ks ds)
  | _, _ => none
/-- max, min with default= -/
def bidD (b : String) (x d : D) : Option D := match x with
  | .lst [] => some d
  | .lst (y :: ys) => if ordOk (y :: ys) = true then (if b = "max" then topD (fun x y => ltD y x) (y :: ys) else topD ltD (y :: ys)) else none
  | _ => none
/-- the type's name by which isinstance finds a value; a bool is an int -/
def tyN : D → Option String
  | .non => some "NoneType"
  | .bl _ => some "bool"
  | .int _ => some "int"
  | .str _ => some "str"
  | .tup _ => some "tuple"
  | .lst _ => some "list"
  | .dic _ _ => some "dict"
  | .dcz _ _ => some "dict"
  | _ => none
def tyIs (a t : String) : Bool := a == t || (a == "bool" && t == "int")
def isTys (ts : List String) (d : D) : Option Bool := (tyN d).map fun a => ts.any (tyIs a)
/-- isinstance of types, of an instance of some classes too -/
def isTysO (ts : List String) (cs : List Str) : D → Option Bool
  | .ins c _ _ => if c ∈ cs then some false else none
  | d => isTys ts d
def isCls (c : Str) : D → Option Bool
  | .ins c' _ _ => if c' = c then some true else none
  | .obj _ => none
  | .fn _ => none
  | .scr _ => none
  | .tab _ _ => none
  | .dtt _ _ _ => none
  | .tupx _ => none
  | _ => some false
def isMe (m : String) : D → Bool
  | .lst _ => m == "index"
  | .str _ => m == "join"
  | _ => false
def meD (m : String) (o : D) (ds : List D) : Option D := match m, o, ds with
  | "index", .lst xs, [.int i] => (intsD xs).bind fun ns => (ns.findIdx? fun n => decide (n = i)).map fun (k : Nat) => .int (k : Int)
  | "join", .str s, [x] => (seqD x).bind fun xs => (strsD xs).bind fun ys => if (ys.map (·.length)).sum + ys.length * s.length ≤ 16777216 then some (.str (Txt.join s ys)) else none
  | _, _, _ => none
/-- an int's eight figures -/
def fmt8 (i : Int) : Str := ⟨(List.replicate (8 - (toString i : String).toList.length) 48 ++ (toString i : String).toList.map Char.toNat).toArray⟩
def fmtD : D → Option D
  | .int i => if 0 ≤ i ∧ i < 10 ^ 8 then some (.str (fmt8 i)) else none
  | _ => none
def getV (env : Env) (i : Nat) : Option D := match env[i]? with
  | some (.val d) => some d
  | _ => none
/-- to be looked at for a moment -/
def getB (env : Env) (i : Nat) : Option D := match env[i]? with
  | some (.val d) => some d
  | some (.own d) => some d
  | _ => none
def deref (st : Store) : D → Option D
  | .obj n => st[n]?
  | d => some d
def freeze1 : Sl → Sl
  | .own (.tab _ _) => .no
  | .own d => .val d
  | s => s
def freeze (env : Env) : List Nat → Env
  | [] => env
  | i :: is => (freeze env is).modify i freeze1
def wipeE (env : Env) : List Nat → Env
  | [] => env
  | i :: is => (wipeE env is).set i .no
/-- nothing of the frame's own -/
def noOwn (env : Env) : Bool := env.all fun s => match s with
  | .no => true
  | .val _ => true
  | _ => false
mutual
def bind1 : Tg → D → Env → Option Env
  | .v i, d, env => some (env.set i (.val d))
  | .t ts, .tup ds, env => binds ts ds env
  | .t ts, .lst ds, env => binds ts ds env
  | .t _, _, _ => none
def binds : Tgs → List D → Env → Option Env
  | .nil, [], env => some env
  | .cons t ts, d :: ds, env => (bind1 t d env).bind fun env' => binds ts ds env'
  | _, _, _ => none
end
def rngD : List D → Option (List D)
  | [.int n] => if -(2 ^ 62) ≤ n ∧ n ≤ sizeLine then some ((List.range n.toNat).map fun (k : Nat) => D.int (0 + k)) else none
  | [.int a, .int b] => if -(2 ^ 62) ≤ a ∧ a < 2 ^ 62 ∧ b - a ≤ sizeLine ∧ -(2 ^ 62) ≤ b ∧ b < 2 ^ 62 then some ((List.range (b - a).toNat).map fun (k : Nat) => D.int (a + k)) else none
  | _ => none
def itemsD : D → Option (List D)
  | .lst ds => some ds
  | .tup ds => some ds
  | .str z => if z.length ≤ sizeLine then some (z.cps.toList.map fun c => D.str ⟨#[c]⟩) else none
  | _ => none
def enumD : D → Option (List D)
  | x => (itemsD x).map fun ds => (List.range ds.length).zipWith (fun (k : Nat) d => D.tup [.int k, d]) ds
def zipD : D → D → Option (List D)
  | .lst xs, .lst ys => some (List.zipWith (fun a b => D.tup [a, b]) xs ys)
  | .tup xs, .tup ys => some (List.zipWith (fun a b => D.tup [a, b]) xs ys)
  | .lst xs, .tup ys => some (List.zipWith (fun a b => D.tup [a, b]) xs ys)
  | .tup xs, .lst ys => some (List.zipWith (fun a b => D.tup [a, b]) xs ys)
  | _, _ => none
/-- a comprehension's turns -/
def lcGo (step : D → Store → Out (Option D)) : List D → Store → Out (List D)
  | [], st => .ok [] st
  | d :: ds, st => ((step d st).nox).bnd fun r st1 => (lcGo step ds st1).bnd fun acc st2 => .ok (match r with | some y => y :: acc | none => acc) st2
/-- .. of two clauses -/
def lc2Go (step : D → Store → Out (List D)) : List D → Store → Out (List D)
  | [], st => .ok [] st
  | d :: ds, st => ((step d st).nox).bnd fun r st1 => (lc2Go step ds st1).bnd fun acc st2 => .ok (r ++ acc) st2
/-- .. that may raise -/
def lcGoX (step : D → Store → Out (Option D)) : List D → Store → Out (List D)
  | [], st => .ok [] st
  | d :: ds, st => (step d st).bnd fun r st1 => (lcGoX step ds st1).bnd fun acc st2 => .ok (match r with | some y => y :: acc | none => acc) st2
/-- a dict comprehension's turns -/
def dcGo (step : D → Store → Out (Option (Key × D))) : List D → List Key × List D → Store → Out (List Key × List D)
  | [], acc, st => .ok acc st
  | d :: ds, acc, st => ((step d st).nox).bnd fun r st1 => (match r with
    | some kv => chkO (decide (acc.1.length < sizeLine)) (dcGo step ds (dicPut acc.1 acc.2 kv.1 kv.2) st1)
    | none => dcGo step ds acc st1)
def fnIx (fs : List (Str × Nat)) : D → Option Nat
  | .fn f => fs.lookup f
  | _ => none
/-- the attribute f of an instance of the class c -/
def fldD (f : Str) : List Str → List D → Option D
  | k :: ks, d :: ds => if k = f then some d else fldD f ks ds
  | _, _ => none
def attrD (c f : Str) : D → Option D
  | .ins c' ks ds => if c' = c then fldD f ks ds else none
  | _ => none
/-- an instance of c without an attribute m -/
def insIs (c m : Str) : D → Bool
  | .ins c' ks _ => decide (c' = c) && !ks.contains m
  | _ => false
/-- what may stand right of == of an instance of c -/
def eqR (c : Str) : D → Bool
  | .ins c' _ _ => decide (c' = c)
  | .non => true
  | .bl _ => true
  | .int _ => true
  | .str _ => true
  | .tup _ => true
  | .lst _ => true
  | _ => false
def putFld (f : Str) (d : D) : List Str → List D → List Str × List D
  | k :: ks, e :: es => if k = f then (k :: ks, d :: es) else (k :: (putFld f d ks es).1, e :: (putFld f d ks es).2)
  | _, _ => ([f], [d])
/-- an operand that is looked at only -/
def bor (env : Env) (e : E) (m : Store → Out D) : Store → Out D := fun st => match e with
  | .var i => ofO (getB env i) st
  | _ => m st
/-- as a test -/
def tst (m : Store → Out D) : Store → Out Bool := fun st => (m st).bnd fun d st => ofO (truthD d) st
abbrev Ev : Type := (Store → Out D) × (Store → Out Bool)
abbrev mkV (m : Store → Out D) : Ev := (m, tst m)
mutual
def evP (C : Calls) (env : Env) : E → Ev
  | .var i => mkV fun st => ofO (getV env i) st
  | .c d => mkV fun st => .ok d st
  | .gl _ d => mkV fun st => .ok d st
  | .fn x => mkV fun st => .ok (.fn x) st
  | .bin op a b => mkV fun st => (bor env a (evP C env a).1 st).bnd fun x st => (bor env b (evP C env b).1 st).bnd fun y st => ofO (binD op x y) st
  | .neg a => mkV fun st => ((evP C env a).1 st).bnd fun x st => (match x with | .int i => .ok (.int (-i)) st | _ => .bad)
  | .not a => (fun st => ((evP C env a).1 st).bnd fun d st => (ofO (truthD d) st).bnd fun b st => .ok (.bl (!b)) st, fun st => ((evP C env a).2 st).bnd fun b st => .ok (!b) st)
  | .cmp op a b => mkV fun st => (bor env a (evP C env a).1 st).bnd fun x st => (bor env b (evP C env b).1 st).bnd fun y st => ofO ((cmpD op x y).map .bl) st
  | .cmp2 op op' a b c => mkV fun st => ((evP C env a).1 st).bnd fun x st => ((evP C env b).1 st).bnd fun y st => (ofO (cmpD op x y) st).bnd fun r st => (match r with
    | true => ((evP C env c).1 st).bnd fun z st => ofO ((cmpD op' y z).map .bl) st
    | false => .ok (.bl false) st)
  | .and es => (evAnd C env es, evTAnd C env es)
  | .or es => (evOr C env es, evTOr C env es)
  | .ife c a b => mkV fun st => ((evP C env c).2 st).bnd fun r st => (match r with | true => (evP C env a).1 st | false => (evP C env b).1 st)
  | .tup es => mkV fun st => (evEs C env es st).bnd fun ds st => chkO (decide (ds.length ≤ sizeLine)) (.ok (.tup ds) st)
  | .lst es => mkV fun st => (evEs C env es st).bnd fun ds st => chkO (decide (ds.length ≤ sizeLine)) (.ok (.lst ds) st)
  | .dnew => mkV fun st => .ok (.dic [] []) st
  | .ix a i => mkV fun st => (bor env a (evP C env a).1 st).bnd fun x st => ((evP C env i).1 st).bnd fun k st => ofO ((deref st x).bind fun x => ixS x k) st
  | .sl a lo hi => mkV fun st => (bor env a (evP C env a).1 st).bnd fun x st => (evO C env lo st).bnd fun l st => (evO C env hi st).bnd fun h st => ofO (slD x l h) st
  | .rev a => mkV fun st => (bor env a (evP C env a).1 st).bnd fun x st => ofO (revD x) st
  | .call f es => mkV fun st => (evEs C env es st).bnd fun ds st => C f ds st
  | .callv i fs es => mkV fun st => (ofO ((getV env i).bind (fnIx fs)) st).bnd fun n st => (evEs C env es st).bnd fun ds st => C n ds st
  | .attr o c f => mkV fun st => (bor env o (evP C env o).1 st).bnd fun x st => ofO ((deref st x).bind (attrD c f)) st
  | .meth o c m f es => mkV fun st => ((evP C env o).1 st).bnd fun x st => (ofO (deref st x) st).bnd fun y st => chkO (insIs c m y) ((evEs C env es st).bnd fun ds st => C f (x :: ds) st)
  | .eqo neg a c f b => mkV fun st => ((evP C env a).1 st).bnd fun x st => ((evP C env b).1 st).bnd fun y st => chkO (insIs c "__eq__" x && eqR c y) (((C f [x, y] st).nox).bnd fun r st => (match r with | .bl k => .ok (.bl (if neg = true then !k else k)) st | _ => .bad))
  | .ino neg a c f b => mkV fun st => ((evP C env a).1 st).bnd fun x st => ((evP C env b).1 st).bnd fun y st => (ofO (deref st y) st).bnd fun z st => chkO (insIs c "__contains__" z) (((C f [y, x] st).nox).bnd fun r st => (match r with | .bl k => .ok (.bl (if neg = true then !k else k)) st | _ => .bad))
  | .dcz0 => mkV fun st => .ok (.dcz [] []) st
  | .dnt => mkV fun st => .ok (.dtt false [] []) st
  | .dlt ks v => mkV fun st => (evEs C env ks st).nox.bnd fun ds st => chkO (decide (ds.length ≤ sizeLine)) ((((evP C env v).1 st).nox).bnd fun d st => ofO ((intsD ds).map fun k => .dtt true [k] [d]) st)
  | .nez a b => mkV fun st => (bor env a (evP C env a).1 st).bnd fun x st => (bor env b (evP C env b).1 st).bnd fun y st => ofO (neZ x y) st
  | .xf i al f => mkV fun st => (match env[i]? with | some (.xc c ks ds) => chkO (decide (c ∈ al)) (ofO (fldD f ks ds) st) | _ => .bad)
  | .xkw _ ks es f => mkV fun st => (evEs C env es st).bnd fun ds st => ofO (fldD f ks ds) st
  | .xis i al cs => mkV fun st => (match env[i]? with | some (.xc c _ _) => chkO (decide (c ∈ al)) (.ok (.bl (decide (c ∈ cs))) st) | _ => .bad)
  | .bi b es => mkV fun st => (evBs C env es st).bnd fun ds st => ofO (biD b ds) st
  | .bid b a e => mkV fun st => (bor env a (evP C env a).1 st).bnd fun x st => ((evP C env e).1 st).bnd fun y st => ofO (bidD b x y) st
  | .dget o k d => mkV fun st => (bor env o (evP C env o).1 st).bnd fun x st => chkO (isDic x) (((evP C env k).1 st).bnd fun kk st => ((evP C env d).1 st).bnd fun z st => ofO (dgetD x kk z) st)
  | .sset a => mkV fun st => (bor env a (evP C env a).1 st).bnd fun x st => ofO ((seqD x).bind ssetD) st
  | .sst a => mkV fun st => (bor env a (evP C env a).1 st).bnd fun x st => ofO ((lstD x).bind sstD) st
  | .dc kx vx tg it ifs ws => mkV fun st => (evIt C env it st).bnd fun ds st => (dcGo (fun d st => (ofO (bind1 tg d (wipeE env ws)) st).bnd fun env' st => (evIf C env' ifs st).bnd fun r st => (match r with
      | true => ((evP C env' kx).1 st).bnd fun k st => (ofO (keyD k) st).bnd fun q st => ((evP C env' vx).1 st).bnd fun y st => .ok (some (q, y)) st
      | false => .ok none st)) ds ([], []) st).bnd fun acc st => .ok (.dcz acc.1 acc.2) st
  | .ssct elt tg it ifs ws => mkV fun st => (evIt C env it st).bnd fun ds st => chkO (decide (ds.length < 63)) ((lcGo (fun d st => (ofO (bind1 tg d (wipeE env ws)) st).bnd fun env' st => (evIf C env' ifs st).bnd fun r st => (match r with
      | true => ((evP C env' elt).1 st).bnd fun y st => .ok (some y) st
      | false => .ok none st)) ds st).bnd fun ys st => ofO (tsetD ys) st)
  | .sstt a => mkV fun st => (bor env a (evP C env a).1 st).bnd fun x st => ofO ((lstD x).bind tsetD) st
  | .dcp a => mkV fun st => (bor env a (evP C env a).1 st).bnd fun x st => ofO (dcpD x) st
  | .dvl a => mkV fun st => (bor env a (evP C env a).1 st).bnd fun x st => ofO ((dvD x).map .lst) st
  | .dil a => mkV fun st => (bor env a (evP C env a).1 st).bnd fun x st => ofO ((diD x).map .lst) st
  | .rpr a => mkV fun st => (bor env a (evP C env a).1 st).bnd fun x st => ofO (rprD x) st
  | .lset a => mkV fun st => (bor env a (evP C env a).1 st).bnd fun x st => ofO ((seqD x).bind lsetD) st
  | .isi a ts => mkV fun st => (bor env a (evP C env a).1 st).bnd fun x st => ofO ((isTys ts x).map .bl) st
  | .isiO a ts cs => mkV fun st => (bor env a (evP C env a).1 st).bnd fun x st => ofO ((isTysO ts cs x).map .bl) st
  | .isc a c => mkV fun st => (bor env a (evP C env a).1 st).bnd fun x st => ofO ((isCls c x).map .bl) st
  | .me m o es => mkV fun st => (bor env o (evP C env o).1 st).bnd fun x st => chkO (isMe m x) ((evBs C env es st).bnd fun ds st => ofO (meD m x ds) st)
  | .fmt a => mkV fun st => ((evP C env a).1 st).bnd fun x st => ofO (fmtD x) st
  | .lc elt tg it ifs ws => mkV fun st => (evIt C env it st).bnd fun ds st => (lcGo (fun d st => (ofO (bind1 tg d (wipeE env ws)) st).bnd fun env' st => (evIf C env' ifs st).bnd fun r st => (match r with
      | true => ((evP C env' elt).1 st).bnd fun y st => .ok (some y) st
      | false => .ok none st)) ds st).bnd fun ys st => .ok (.lst ys) st
  | .lcx elt tg it ifs ws => mkV fun st => (evIt C env it st).bnd fun ds st => (lcGoX (fun d st => (ofO (bind1 tg d (wipeE env ws)) st).bnd fun env' st => (evIf C env' ifs st).bnd fun r st => (match r with
      | true => ((evP C env' elt).1 st).bnd fun y st => .ok (some y) st
      | false => .ok none st)) ds st).bnd fun ys st => .ok (.lst ys) st
  | .lc2 elt tg it ifs tg1 it1 ifs1 ws ws1 => mkV fun st => (evIt C env it st).bnd fun ds st => (lc2Go (fun d st => (ofO (bind1 tg d (wipeE env ws)) st).bnd fun env' st => (evIf C env' ifs st).bnd fun r st => (match r with
      | true => chkO (noOwn env') ((evItW C env' it1 st).bnd fun ds1 st => lcGo (fun d st => (ofO (bind1 tg1 d (wipeE env' ws1)) st).bnd fun env2 st => (evIf C env2 ifs1 st).bnd fun r st => (match r with
        | true => ((evP C env2 elt).1 st).bnd fun y st => .ok (some y) st
        | false => .ok none st)) ds1 st)
      | false => .ok [] st)) ds st).bnd fun ys st => chkO (decide (ys.length ≤ sizeLine)) (.ok (.lst ys) st)
  | .ssc elt tg it ifs ws => mkV fun st => (evIt C env it st).bnd fun ds st => chkO (decide (ds.length < 4000)) ((lcGo (fun d st => (ofO (bind1 tg d (wipeE env ws)) st).bnd fun env' st => (evIf C env' ifs st).bnd fun r st => (match r with
      | true => ((evP C env' elt).1 st).bnd fun y st => .ok (some y) st
      | false => .ok none st)) ds st).bnd fun ys st => ofO (ssetD ys) st)
  | .srtk p q i key a => mkV fun st => (bor env a (evP C env a).1 st).bnd fun x st => (ofO (lstD x) st).bnd fun ds st => chkO (hasTab p q st) ((lcGo (fun d st => ((evP C (env.set i (.val d)) key).1 st).bnd fun y st => .ok (some y) st) ds st).bnd fun ks st => ofO (sortK ds ks) st)
  | .srtr p q i key a => mkV fun st => ((evP C env a).1 st).bnd fun x st => (ofO (rngOf x) st).bnd fun ds st => chkO (hasTab p q st) ((lcGo (fun d st => ((evP C (env.set i (.val d)) key).1 st).bnd fun y st => .ok (some y) st) ds st).bnd fun ks st => ofO (sortK ds ks) st)
  | .tx a => mkV fun st => ((evP C env a).1 st).bnd fun x st => .ok (unx x) st
  | .dcx a => mkV fun st => ((evP C env a).1 st).bnd fun x st => ofO (dcxD x) st
  | .rep a y b => mkV fun st => ((evP C env a).1 st).bnd fun x st => ((evP C env b).1 st).bnd fun z st => ofO (repD x y z) st
def evEs (C : Calls) (env : Env) : Es → Store → Out (List D)
  | .nil => fun st => .ok [] st
  | .cons e es => fun st => ((evP C env e).1 st).bnd fun d st => (evEs C env es st).bnd fun ds st => .ok (d :: ds) st
def evBs (C : Calls) (env : Env) : Es → Store → Out (List D)
  | .nil => fun st => .ok [] st
  | .cons e es => fun st => (bor env e (evP C env e).1 st).bnd fun d st => (evBs C env es st).bnd fun ds st => .ok (d :: ds) st
def evAnd (C : Calls) (env : Env) : Es → Store → Out D
  | .nil => fun _ => .bad
  | .cons e es => fun st => ((evP C env e).1 st).bnd fun d st => (match es with
    | .nil => .ok d st
    | .cons _ _ => (ofO (truthD d) st).bnd fun r st => (match r with | true => evAnd C env es st | false => .ok d st))
def evOr (C : Calls) (env : Env) : Es → Store → Out D
  | .nil => fun _ => .bad
  | .cons e es => fun st => ((evP C env e).1 st).bnd fun d st => (match es with
    | .nil => .ok d st
    | .cons _ _ => (ofO (truthD d) st).bnd fun r st => (match r with | true => .ok d st | false => evOr C env es st))
def evO (C : Calls) (env : Env) : Op → Store → Out (Option Int)
  | .no => fun st => .ok none st
  | .so e => fun st => ((evP C env e).1 st).bnd fun d st => (match d with | .int i => .ok (some i) st | _ => .bad)
def evIf (C : Calls) (env : Env) : Op → Store → Out Bool
  | .no => fun st => .ok true st
  | .so e => (evP C env e).2
def evIt (C : Calls) (env : Env) : It → Store → Out (List D)
  | .seq a => fun st => (bor env a (evP C env a).1 st).bnd fun x st => ofO (itemsD x) st
  | .rng es => fun st => (evEs C env es st).bnd fun ds st => ofO (rngD ds) st
  | .enum a => fun st => (bor env a (evP C env a).1 st).bnd fun x st => ofO (enumD x) st
  | .zip a b => fun st => (bor env a (evP C env a).1 st).bnd fun x st => (bor env b (evP C env b).1 st).bnd fun y st => ofO (zipD x y) st
  | .keys i => fun st => (match env[i]? with
    | some (.own (.dic ks _)) => .ok (ks.map fun k => match k with | .inl i => D.int i | .inr x => D.str x) st
    | _ => .bad)
  | .dk a => fun st => (bor env a (evP C env a).1 st).bnd fun x st => ofO (dkD x) st
  | .dv a => fun st => (bor env a (evP C env a).1 st).bnd fun x st => ofO (dvD x) st
  | .di a => fun st => (bor env a (evP C env a).1 st).bnd fun x st => ofO (diD x) st
  | .rgc i _ c n => fun st => chkO (decide (n ≤ sizeLine)) (.ok ((List.range n).map fun (k : Nat) => D.int (i + (k : Nat) * c)) st)
def evItW (C : Calls) (env : Env) : It → Store → Out (List D)
  | .seq a => fun st => ((evP C env a).1 st).bnd fun x st => ofO (itemsD x) st
  | .rng es => fun st => (evEs C env es st).bnd fun ds st => ofO (rngD ds) st
  | .enum a => fun st => ((evP C env a).1 st).bnd fun x st => ofO (enumD x) st
  | .zip a b => fun st => ((evP C env a).1 st).bnd fun x st => ((evP C env b).1 st).bnd fun y st => ofO (zipD x y) st
  | .keys _ => fun _ => .bad
  | .dk a => fun st => ((evP C env a).1 st).bnd fun x st => ofO (dkD x) st
  | .dv _ => fun _ => .bad
  | .di _ => fun _ => .bad
  | .rgc i _ c n => fun st => chkO (decide (n ≤ sizeLine)) (.ok ((List.range n).map fun (k : Nat) => D.int (i + (k : Nat) * c)) st)
def evTAnd (C : Calls) (env : Env) : Es → Store → Out Bool
  | .nil => fun _ => .bad
  | .cons e es => fun st => ((evP C env e).2 st).bnd fun r st => (match es with
    | .nil => .ok r st
    | .cons _ _ => (match r with | true => evTAnd C env es st | false => .ok false st))
def evTOr (C : Calls) (env : Env) : Es → Store → Out Bool
  | .nil => fun _ => .bad
  | .cons e es => fun st => ((evP C env e).2 st).bnd fun r st => (match es with
    | .nil => .ok r st
    | .cons _ _ => (match r with | true => .ok true st | false => evTOr C env es st))
end
abbrev evE (C : Calls) (env : Env) (e : E) : Store → Out D := (evP C env e).1
abbrev evT (C : Calls) (env : Env) (e : E) : Store → Out Bool := (evP C env e).2
/-- what a for goes through: things that stay -/
def evItV (C : Calls) (env : Env) : It → Store → Out (List D)
  | .seq a => fun st => (evE C env a st).bnd fun x st => ofO (itemsD x) st
  | .rng es => fun st => (evEs C env es st).bnd fun ds st => ofO (rngD ds) st
  | .enum a => fun st => (evE C env a st).bnd fun x st => ofO (enumD x) st
  | .zip a b => fun st => (evE C env a st).bnd fun x st => (evE C env b st).bnd fun y st => ofO (zipD x y) st
  | .keys _ => fun _ => .bad
  | .dk a => fun st => (evE C env a st).bnd fun x st => ofO (dkD x) st
  | .dv _ => fun _ => .bad
  | .di _ => fun _ => .bad
  | .rgc i _ c n => fun st => chkO (decide (n ≤ sizeLine)) (.ok ((List.range n).map fun (k : Nat) => D.int (i + (k : Nat) * c)) st)
inductive Fl where
  | nx (env : Env)
  | rt (d : D)
  | bk (env : Env)
  | ct (env : Env)
/-- the turns of a for -/
def forGo (turn : D → Env → Store → Out Fl) : List D → Env → Store → Out Fl
  | [], env, st => .ok (.nx env) st
  | d :: ds, env, st => (turn d env st).bnd fun f st1 => (match f with
    | .nx env1 => forGo turn ds env1 st1
    | .ct env1 => forGo turn ds env1 st1
    | .bk env1 => .ok (.nx env1) st1
    | .rt d => .ok (.rt d) st1)
/-- the turns of a while -/
def whlGo (c : Env → Store → Out Bool) (body : Env → Store → Out Fl) : Nat → Env → Store → Out Fl
  | 0, _, _ => .bad
  | n + 1, env, st => (c env st).bnd fun b st1 => (match b with
    | false => .ok (.nx env) st1
    | true => (body env st1).bnd fun f st2 => (match f with
      | .nx env1 => whlGo c body n env1 st2
      | .ct env1 => whlGo c body n env1 st2
      | .bk env1 => .ok (.nx env1) st2
      | .rt d => .ok (.rt d) st2))
/-- o[k] = v of a changeable thing -/
def putD (o k v : D) : Option D := match o with
  | .lst ds => (match k with
    | .int i => (ixN ds.length i).map fun j => .lst (ds.set j v)
    | _ => none)
  | .dic ks ds => (keyD k).bind fun k => if ks.length < sizeLine then some (.dic (dicPut ks ds k v).1 (dicPut ks ds k v).2) else none
  | _ => none
def setIx (env : Env) (i : Nat) (k v : D) (st : Store) : Out Env := match env[i]? with
  | some (.own d) => (ofO (putD d k v) st).bnd fun d' st => .ok (env.set i (.own d')) st
  | some (.val (.obj n)) => (match st[n]? with
    | some d => (ofO (putD d k v) st).bnd fun d' st => .ok env (st.set n d')
    | none => .bad)
  | _ => .bad
/-- a list of the frame's own -/
def ownL (env : Env) (i : Nat) : Option (List D) := match env[i]? with
  | some (.own (.lst ds)) => some ds
  | _ => none
/-- a thing that may be changed -/
def isPut (env : Env) (i : Nat) : Bool := match env[i]? with
  | some (.own _) => true
  | some (.val (.obj _)) => true
  | _ => false
def augD : Operator → D → D → Option D
  | .Add, .int i, .int j => some (.int (i + j))
  | .Sub, .int i, .int j => some (.int (i - j))
  | .Mult, .int i, .int j => if (-(2 ^ 64) < i ∧ i < 2 ^ 64) ∨ (-(2 ^ 64) < j ∧ j < 2 ^ 64) then some (.int (i * j)) else none
  | .Add, .str x, .str y => if x.length + y.length ≤ sizeLine then some (.str (x ++ y)) else none
  | _, _, _ => none
/-- self.f = v, of an instance of the class c -/
def fldPut (c f : Str) (v : D) : D → Option D
  | .ins c' ks ds => if c' = c ∧ ks.length < 1000 then some (.ins c' (putFld f v ks ds).1 (putFld f v ks ds).2) else none
  | _ => none
def setFld (env : Env) (i : Nat) (c f : Str) (v : D) (st : Store) : Out Env := match env[i]? with
  | some (.own d) => (ofO (fldPut c f v d) st).bnd fun d' st => .ok (env.set i (.own d')) st
  | some (.val (.obj n)) => (match st[n]? with
    | some d => (ofO (fldPut c f v d) st).bnd fun d' st => .ok env (st.set n d')
    | none => .bad)
  | _ => .bad
/-- the values of parallel targets -/
def evPs (C : Calls) (env : Env) : Ps → Store → Out (List D)
  | .nil => fun st => .ok [] st
  | .cons _ _ e r => fun st => (evE C env e st).bnd fun d st => (evPs C env r st).bnd fun ds st => .ok (d :: ds) st
def setPs : Ps → List D → Env → Option Env
  | .nil, [], env => some env
  | .cons own i _ r, d :: ds, env => (match own with
    | true => if isCont d = true then setPs r ds (env.set i (.own d)) else none
    | false => setPs r ds (env.set i (.val d)))
  | _, _, _ => none
/-- no exception is held any more -/
def dropX : Env → Env
  | [] => []
  | .xc _ _ _ :: r => .no :: dropX r
  | s :: r => s :: dropX r
mutual
def evS (C : Calls) : S → Env → Store → Out Fl
  | .asg fz tg e => fun env st => (evE C (freeze env fz) e st).bnd fun d st => (ofO (bind1 tg d (freeze env fz)) st).bnd fun env' st => .ok (.nx env') st
  | .own i e => fun env st => (evE C env e st).bnd fun d st => chkO (isCont d) (.ok (.nx (env.set i (.own d))) st)
  | .obj i e => fun env st => (evE C env e st).bnd fun d st => chkO (isCont d) (.ok (.nx (env.set i (.val (.obj st.length)))) (st ++ [d]))
  | .par fz ps => fun env st => (evPs C (freeze env fz) ps st).bnd fun ds st => (ofO (setPs ps ds (freeze env fz)) st).bnd fun env' st => .ok (.nx env') st
  | .aug i op e => fun env st => (ofO (getV env i) st).bnd fun x st => (evE C env e st).bnd fun y st => (ofO (augD op x y) st).bnd fun z st => .ok (.nx (env.set i (.val z))) st
  | .app fz i e => fun env st => (ofO (ownL (freeze env fz) i) st).bnd fun ds st => (evE C (freeze env fz) e st).bnd fun d st => chkO (decide (ds.length < sizeLine)) (.ok (.nx ((freeze env fz).set i (.own (.lst (ds ++ [d]))))) st)
  | .augI i op k e => fun env st => (ofO (ownL env i) st).bnd fun ds st => (evE C env k st).bnd fun x st => (ofO (ixS (.lst ds) x) st).bnd fun old st => (evE C env e st).bnd fun y st => (ofO (augD op old y) st).bnd fun z st => (ofO (putD (.lst ds) x z) st).bnd fun d' st => .ok (.nx (env.set i (.own d'))) st
  | .setI fz i k e => fun env st => (evE C (freeze env fz) e st).bnd fun d st => chkO (isPut (freeze env fz) i) ((evE C (freeze env fz) k st).bnd fun x st => (setIx (freeze env fz) i x d st).bnd fun env' st => .ok (.nx env') st)
  | .setT fz i ks e => fun env st => (evE C (freeze env fz) e st).bnd fun d st => (match (freeze env fz)[i]? with
    | some (.own (.dtt false qs ds)) => (evEs C (freeze env fz) ks st).bnd fun xs st => (ofO (intsD xs) st).bnd fun k st => chkO (decide (qs.length < sizeLine) && decide (k.length ≤ sizeLine)) (.ok (.nx ((freeze env fz).set i (.own (.dtt false (ttPut qs ds k d).1 (ttPut qs ds k d).2)))) st)
    | _ => .bad)
  | .ex e => fun env st => (evE C env e st).bnd fun _ st => .ok (.nx env) st
  | .ret fz e => fun env st => (evE C (freeze env fz) e st).bnd fun d st => .ok (.rt d) st
  | .ifs c a b => fun env st => (evT C env c st).bnd fun r st => (match r with | true => evSs C a env st | false => evSs C b env st)
  | .for_ fz tg it body => fun env st => (evItV C (freeze env fz) it st).bnd fun ds st => forGo (fun d env st => (ofO (bind1 tg d env) st).bnd fun env' st => evSs C body env' st) ds (freeze env fz) st
  | .whl n c body => fun env st => whlGo (fun env st => evT C env c st) (evSs C body) n env st
  | .fld fz i c f e => fun env st => (evE C (freeze env fz) e st).bnd fun d st => (setFld (freeze env fz) i c f d st).bnd fun env' st => .ok (.nx env') st
  | .rais c ks es => fun env st => (evEs C env es st).bnd fun ds st => chkO (decide (ks.length = ds.length)) (.ex c ks ds.reverse st)
  | .try_ ws body hs => fun env st => (match evSs C body env st with
    | .ex c ks ds st1 => evHs C hs c ks ds (wipeE env ws) st1
    | o => o)
  | .pass => fun env st => .ok (.nx env) st
  | .brk => fun env st => .ok (.bk env) st
  | .cont => fun env st => .ok (.ct env) st
  | .lck i => fun env st => (match env[i]? with
    | some (.own (.dic ks ds)) => .ok (.nx (env.set i (.val (.dcz ks ds)))) st
    | some (.own (.dtt false ks ds)) => .ok (.nx (env.set i (.val (.dtt true ks ds)))) st
    | _ => .bad)
  | .fldA i c f op e => fun env st => (match env[i]? with
    | some (.val (.obj n)) => (ofO ((st[n]?).bind (attrD c f)) st).bnd fun x st => (evE C env e st).bnd fun y st => (ofO (augD op x y) st).bnd fun z st => (setFld env i c f z st).bnd fun env' st => .ok (.nx env') st
    | _ => .bad)
def evSs (C : Calls) : Ss → Env → Store → Out Fl
  | .nil => fun env st => .ok (.nx env) st
  | .cons s ss => fun env st => (evS C s env st).bnd fun f st => (match f with
    | .nx env' => evSs C ss env' st
    | .rt d => .ok (.rt d) st
    | .bk env => .ok (.bk env) st
    | .ct env => .ok (.ct env) st)
def evHs (C : Calls) : Hs → Str → List Str → List D → Env → Store → Out Fl
  | .nil => fun c ks ds _ st => .ex c ks ds st
  | .cons al cs i suite hs => fun c ks ds env st => chkO (decide (c ∈ al)) (match decide (c ∈ cs) with
    | false => evHs C hs c ks ds env st
    | true => (match i with
      | none => evSs C suite env st
      | some i => (evSs C suite (env.set i (.xc c ks ds)) st).bnd fun f st => (match f with
        | .nx env' => .ok (.nx ((dropX env').set i .no)) st
        | .rt d => .ok (.rt d) st
        | .bk env' => .ok (.bk ((dropX env').set i .no)) st
        | .ct env' => .ok (.ct ((dropX env').set i .no)) st)))
end
/-- a def: how many parameters, how many names, its body; the class whose instance it makes, whether it changes later -/
structure FnI where
  ps : Nat
  ns : Nat
  body : Ss
  ini : Option (Str × Bool) := none
def endD (o : Out Fl) : Out D := o.bnd fun f st => (match f with
  | .nx _ => .ok .non st
  | .rt d => .ok d st
  | _ => .bad)
def own0 : Env → Option D
  | .own (.ins c ks ds) :: _ => some (.ins c ks ds)
  | _ => none
def endI (m : Bool) (o : Out Fl) : Out D := o.bnd fun f st => (match f with
  | .nx env => (ofO (own0 env) st).bnd fun d st => (match m with
    | true => .ok (.obj st.length) (st ++ [d])
    | false => .ok d st)
  | _ => .bad)
def runF (C : Calls) (fi : FnI) (ds : List D) (st : Store) : Out D := match decide (ds.length = fi.ps) with
  | true => (match fi.ini with
    | none => endD (evSs C fi.body (ds.map .val ++ List.replicate (fi.ns - fi.ps) .no) st)
    | some (c, m) => endI m (evSs C fi.body (.own (.ins c [] []) :: (ds.map .val ++ List.replicate (fi.ns - fi.ps) .no)) st))
  | false => .bad
def callN (tab : List FnI) : Nat → Calls
  | 0 => fun _ _ _ => .bad
  | n + 1 => fun f ds st => (match tab[f]? with
    | some fi => runF (callN tab n) fi ds st
    | none => .bad)
end Eng
set_option Elab.async false
set_option linter.all false
set_option maxRecDepth 100000
namespace Eng
open PySem PySem.Spec PyProof.Rows L2
/-- the exception that a suite holds: where it is, its class, its dict -/
structure XI where
  a : Addr
  cls : Value
  dx : Option Addr
/-- how a def was entered -/
structure Bs where
  F : Hp := fun _ => none
  T : List Addr := []
  H : Hp := fun _ => none
  me : Option Addr := none
/-- the exception that is held; the heap at the def's entry; the instance that is made -/
structure XB where
  x : Option XI
  H0 : Hp
  me : Option Addr
def isInsD : D → Bool
  | .ins _ _ _ => true
  | _ => false
/-- a thing of the frame's own, at a -/
structure OwnAt (H0 : Hp) (me : Option Addr) (a : Addr) (d : D) : Prop where
  h0 : H0 a = none
  me : isInsD d = true → me = some a
abbrev XB.At (xi : XB) (a : Addr) (d : D) : Prop := OwnAt xi.H0 xi.me a d
/-- what is wished of what is raised; the exception that is held; how the def was entered; whether a clause looks at the slots -/
structure WW where
  W : WX
  x : Option XI := none
  B : Bs := {}
  sv : Bool := false
abbrev WW.xi (W : WW) : XB := ⟨W.x, W.B.H, W.B.me⟩
instance : CoeFun WW (fun _ => WX) := ⟨WW.W⟩
/-- an exception's own dict -/
def XRep (K : PySem.W.Frag) (F : Hp) (T : List Addr) (H : Hp) (ks : List Str) (ds : List D) (dx : Option Addr) : Prop :=
  (ks = [] ∧ ds = [] ∧ dx = none) ∨ ∃ a fs, dx = some a ∧ H a = some (.xd fs) ∧ a ∉ T ∧ fs.map (·.1) = ks ∧ Reps K F T (fs.map (·.2)) ds
def SlOk (K : PySem.W.Frag) (xi : XB) (F : Hp) (T : List Addr) (H : Hp) (s : Sl) (o : Option (Option V)) : Prop := match s with
  | .no => True
  | .val d => ∃ v, o = some (some v) ∧ Rep K F T v d
  | .own d => ∃ a, o = some (some (.ref a)) ∧ RepTop K F T H a d ∧ F a = none ∧ a ∉ T ∧ xi.At a d
  | .xc c ks ds => ∃ x, xi.x = some x ∧ o = some (some (.ref x.a)) ∧ x.cls = .ref (He.ga K c) ∧ XRep K F T H ks ds x.dx
structure EnvOk (K : PySem.W.Frag) (xi : XB) (F : Hp) (T : List Addr) (H : Hp) (env : Env) (σ : L2.St) : Prop where
  at_ : ∀ (i : Nat) (s : Sl), env[i]? = some s → SlOk K xi F T H s σ[i]?
  len : env.length ≤ σ.length
  apart : ∀ (i j : Nat) (d d' : D) (a : Addr), i ≠ j → env[i]? = some (.own d) → env[j]? = some (.own d') → σ[i]? = some (some (.ref a)) → σ[j]? = some (some (.ref a)) → False
section
variable {K : PySem.W.Frag} {F F' H H' : Hp} {T T' : List Addr} {st : Store} {env : Env} {σ : L2.St}
theorem Ext.own (x : Ext F T H F' T' H') {a : Addr} {d : D} (h : RepTop K F T H a d) (f : F a = none) (n : a ∉ T) : RepTop K F' T' H' a d ∧ F' a = none ∧ a ∉ T' := by
  obtain ⟨o, ho⟩ := h.there
  refine ⟨h.mono x.fr x.pre fun o' e => x.keep a o' e n, x.newF a f (by rw [ho]; simp), fun m => ?_⟩
  rw [x.newT a m n] at ho; cases ho
theorem XRep.ext {ks : List Str} {ds : List D} {dx : Option Addr} (h : XRep K F T H ks ds dx) (x : Ext F T H F' T' H') : XRep K F' T' H' ks ds dx := by
  rcases h with h | ⟨a, fs, e, ha, n, k, r⟩
  · exact .inl h
  · refine .inr ⟨a, fs, e, x.keep a _ ha n, fun m => ?_, k, r.mono x.fr x.pre⟩
    have z := x.newT a m n
    rw [ha] at z; cases z
theorem SlOk.ext {s : Sl} {o : Option (Option V)} {xi : XB} (h : SlOk K xi F T H s o) (x : Ext F T H F' T' H') : SlOk K xi F' T' H' s o := by
  cases s with
  | no => trivial
  | val d => obtain ⟨v, e, r⟩ := h; exact ⟨v, e, r.mono x.fr x.pre⟩
  | own d => obtain ⟨a, e, r, f, n, z⟩ := h; obtain ⟨r', f', n'⟩ := x.own r f n; exact ⟨a, e, r', f', n', z⟩
  | xc c ks ds => obtain ⟨y, e1, e2, e3, r⟩ := h; exact ⟨y, e1, e2, e3, r.ext x⟩
theorem EnvOk.ext {xi : XB} (h : EnvOk K xi F T H env σ) (x : Ext F T H F' T' H') : EnvOk K xi F' T' H' env σ := ⟨fun i s e => (h.at_ i s e).ext x, h.len, h.apart⟩
/-- a value that is looked at: it is frozen, or an object of the frame's own -/
def Bor (K : PySem.W.Frag) (F : Hp) (T : List Addr) (H : Hp) (v : V) (d : D) : Prop := Rep K F T v d ∨ ∃ a, v = .ref a ∧ RepTop K F T H a d ∧ F a = none ∧ a ∉ T
theorem Bor.ext {v : V} {d : D} (h : Bor K F T H v d) (x : Ext F T H F' T' H') : Bor K F' T' H' v d := by
  rcases h with h | ⟨a, e, r, f, n⟩
  · exact .inl (h.mono x.fr x.pre)
  · obtain ⟨r', f', n'⟩ := x.own r f n
    exact .inr ⟨a, e, r', f', n'⟩
theorem Bor.lst (w : WF K F T st H) {v : V} {ds : List D} (h : Bor K F T H v (.lst ds)) : ∃ a xs, v = .ref a ∧ H a = some (.lst xs) ∧ Reps K F T xs ds := by
  rcases h with h | ⟨a, e, ⟨xs, e2, r⟩, _⟩
  · cases h with | lst q r => exact ⟨_, _, rfl, w.fr _ _ q, r⟩
  · exact ⟨a, xs, e, e2, r⟩
theorem Bor.tup (w : WF K F T st H) {v : V} {ds : List D} (h : Bor K F T H v (.tup ds)) : ∃ a xs, v = .ref a ∧ SqT K H a xs ∧ Reps K F T xs ds := by
  rcases h with h | ⟨a, e, r, _⟩
  · cases h with | tup q r => exact ⟨_, _, rfl, sqT_mono w.fr q, r⟩
  · exact r.elim
theorem Bor.dic (w : WF K F T st H) {v : V} {ks : List Key} {ds : List D} (h : Bor K F T H v (.dic ks ds)) : ∃ a kvs, v = .ref a ∧ H a = some (.dK kvs) ∧ kvs.map (·.1) = ks ∧ Reps K F T (kvs.map (·.2)) ds := by
  rcases h with h | ⟨a, e, ⟨kvs, e2, k, r⟩, _⟩
  · cases h with | dic q e r => exact ⟨_, _, rfl, w.fr _ _ q, e, r⟩
  · exact ⟨a, kvs, e, e2, k, r⟩
theorem Bor.dcz (w : WF K F T st H) {v : V} {ks : List Key} {ds : List D} (h : Bor K F T H v (.dcz ks ds)) : ∃ a o kvs, v = .ref a ∧ H a = some (.frz o (.dK kvs)) ∧ kvs.map (·.1) = ks ∧ Reps K F T (kvs.map (·.2)) ds := by
  rcases h with h | ⟨a, e, r, _⟩
  · cases h with | dcz q e r => exact ⟨_, _, _, rfl, w.fr _ _ q, e, r⟩
  · exact r.elim
theorem DGet.z {H : Hp} {a : Addr} {o : Obj} {kvs : List (Key × V)} {k : Key} (e : H a = some (.frz o (.dK kvs))) : DGet H a (kV k) (valV kvs k) := .inl ⟨kvs, k, .inr ⟨o, e⟩, rfl, rfl⟩
theorem Bor.scr (w : WF K F T st H) {v : V} {ns : List Int} (h : Bor K F T H v (.scr ns)) : ∃ a, v = .ref a ∧ SqL K H a (ns.map V.int) := by
  rcases h with h | ⟨a, e, r, _⟩
  · cases h with | scr q => exact ⟨_, rfl, w.fr.seq q⟩
  · exact r.elim
theorem Bor.non {v : V} (h : Bor K F T H v .non) : v = .non := by
  rcases h with h | ⟨a, e, r, _⟩
  · cases h; rfl
  · exact r.elim
theorem Bor.bl {v : V} {b : Bool} (h : Bor K F T H v (.bl b)) : v = .bl b := by
  rcases h with h | ⟨a, e, r, _⟩
  · cases h; rfl
  · exact r.elim
theorem Bor.int {v : V} {b : Int} (h : Bor K F T H v (.int b)) : v = .int b := by
  rcases h with h | ⟨a, e, r, _⟩
  · cases h; rfl
  · exact r.elim
theorem Bor.str {v : V} {b : Str} (h : Bor K F T H v (.str b)) : v = .str b := by
  rcases h with h | ⟨a, e, r, _⟩
  · cases h; rfl
  · exact r.elim
end
/-- a result's relation: the heap ahead, the ghost and heap behind, the data, the thing -/
abbrev RR (α β : Type) := Hp → Hp → List Addr → Hp → α → β → Prop
def Sh {α β : Type} (R : RR α β) : Prop := ∀ (H H1 F : Hp) (T : List Addr) (H' : Hp) (a : α) (b : β), (∀ p, H1 p = none → H p = none) → R H1 F T H' a b → R H F T H' a b
def Post {α β : Type} (K : PySem.W.Frag) (W : WW) (σ : L2.St) (F : Hp) (T : List Addr) (H : Hp) (R : RR α β) (o : Out α) (Q : β → Hp → Prop) : Prop := match o with
  | .ok a st' => ∀ b F' T' H', Ext F T H F' T' H' → WF K F' T' st' H' → R H F' T' H' a b → Q b H'
  | .ex c ks ds st' => ∀ dx F' T' H', Ext F T H F' T' H' → WF K F' T' st' H' → XRep K F' T' H' ks ds dx → W (.ref (He.ga K c)) dx σ H'
  | .bad => False
section
variable {α β γ δ : Type} {K : PySem.W.Frag} {W : WW} {σ : L2.St} {F F1 H H1 : Hp} {T T1 : List Addr} {R : RR α β} {R1 : RR γ δ}
theorem Ext.none (x : Ext F T H F1 T1 H1) : ∀ p, H1 p = none → H p = none := fun p e => by
  cases q : H p with
  | none => rfl
  | some o => obtain ⟨o', e'⟩ := x.there p o q; rw [e] at e'; cases e'
theorem Post.shift {o : Out α} {Q : β → Hp → Prop} (sh : Sh R) (x : Ext F T H F1 T1 H1) (h : Post K W σ F T H R o Q) : Post K W σ F1 T1 H1 R o Q := by
  cases o with
  | bad => exact h
  | ok a st => exact fun b F' T' H' y w r => h b F' T' H' (x.trans y) w (sh _ _ _ _ _ _ _ x.none r)
  | ex c ks ds st => exact fun dx F' T' H' y w r => h dx F' T' H' (x.trans y) w r
theorem Post.mono {o : Out α} {Q Q' : β → Hp → Prop} (h : Post K W σ F T H R o Q) (q : ∀ b H', Q b H' → Q' b H') : Post K W σ F T H R o Q' := by
  cases o with
  | bad => exact h
  | ok a st => exact fun b F' T' H' y w r => q _ _ (h b F' T' H' y w r)
  | ex c ks ds st => exact h
theorem Post.bnd {o : Out γ} {f : γ → Store → Out α} {Q : β → Hp → Prop} (sh : Sh R) (h : Post K W σ F T H R (o.bnd f) Q) :
    Post K W σ F T H R1 o fun b H1 => ∃ F1 T1 st1 a, Ext F T H F1 T1 H1 ∧ WF K F1 T1 st1 H1 ∧ R1 H F1 T1 H1 a b ∧ Post K W σ F1 T1 H1 R (f a st1) Q := by
  cases o with
  | bad => exact h
  | ok a st => exact fun b F' T' H' y w r => ⟨F', T', st, a, y, w, r, Post.shift sh y h⟩
  | ex c ks ds st => exact h
end
def rV (K : PySem.W.Frag) : RR D V := fun _ F T _ d v => Rep K F T v d
def rVs (K : PySem.W.Frag) : RR (List D) (List V) := fun _ F T _ ds vs => Reps K F T vs ds
def rBo (K : PySem.W.Frag) : RR D V := fun _ F T H d v => Bor K F T H v d
inductive Bors (K : PySem.W.Frag) (F : Hp) (T : List Addr) (H : Hp) : List V → List D → Prop
  | nil : Bors K F T H [] []
  | cons {v : V} {vs : List V} {d : D} {ds : List D} : Bor K F T H v d → Bors K F T H vs ds → Bors K F T H (v :: vs) (d :: ds)
theorem Bors.ext {K : PySem.W.Frag} {F F' H H' : Hp} {T T' : List Addr} (x : Ext F T H F' T' H') : ∀ {vs : List V} {ds : List D}, Bors K F T H vs ds → Bors K F' T' H' vs ds
  | _, _, .nil => .nil
  | _, _, .cons a b => .cons (a.ext x) (b.ext x)
def rBs (K : PySem.W.Frag) : RR (List D) (List V) := fun _ F T H ds vs => Bors K F T H vs ds
def rEq {α : Type} : RR α α := fun _ _ _ _ a b => a = b
def Fresh (K : PySem.W.Frag) (H F : Hp) (T : List Addr) (H' : Hp) (d : D) (v : V) : Prop := ∃ a, v = .ref a ∧ RepTop K F T H' a d ∧ F a = none ∧ a ∉ T ∧ H a = none
/-- a container that is new, any other thing frozen -/
def rD (K : PySem.W.Frag) : RR D V := fun H F T H' d v => if isCont d = true then Fresh K H F T H' d v else Rep K F T v d
theorem sh_V {K : PySem.W.Frag} : Sh (rV K) := fun _ _ _ _ _ _ _ _ h => h
theorem sh_Vs {K : PySem.W.Frag} : Sh (rVs K) := fun _ _ _ _ _ _ _ _ h => h
theorem sh_Bs {K : PySem.W.Frag} : Sh (rBs K) := fun _ _ _ _ _ _ _ _ h => h
theorem sh_Eq {α : Type} : Sh (rEq (α := α)) := fun _ _ _ _ _ _ _ _ h => h
theorem Fresh.sh {K : PySem.W.Frag} {H H1 F H' : Hp} {T : List Addr} {d : D} {v : V} (h : ∀ p, H1 p = none → H p = none) (x : Fresh K H1 F T H' d v) : Fresh K H F T H' d v := by
  obtain ⟨a, e, r, f, n, z⟩ := x
  exact ⟨a, e, r, f, n, h a z⟩
theorem sh_D {K : PySem.W.Frag} : Sh (rD K) := fun H H1 F T H' d v h x => by
  unfold rD at x ⊢
  split at x <;> rename_i c
  · rw [if_pos c]; exact x.sh h
  · rw [if_neg c]; exact x
/-- the reading of an evaluator m -/
def tX {α β : Type} (K : PySem.W.Frag) (W : WW) (R : RR α β) (m : Env → Store → Out α) : L2.St → Hp → (β → Hp → Prop) → Prop := fun σ H Q =>
  ∃ F T st env, WF K F T st H ∧ EnvOk K W.xi F T H env σ ∧ Post K W σ F T H R (m env st) Q
section
variable {α β γ δ : Type} {K : PySem.W.Frag} {W : WW} {σ : L2.St} {H : Hp} {R : RR α β} {R1 : RR γ δ}
theorem tX.bnd {m : Env → Store → Out γ} {f : Env → γ → Store → Out α} {Q : β → Hp → Prop} (sh : Sh R) (h : tX K W R (fun env st => (m env st).bnd (f env)) σ H Q) :
    tX K W R1 m σ H fun b H1 => ∃ F1 T1 st1 env a, (∀ p, H1 p = none → H p = none) ∧ WF K F1 T1 st1 H1 ∧ EnvOk K W.xi F1 T1 H1 env σ ∧ R1 H F1 T1 H1 a b ∧ Post K W σ F1 T1 H1 R (f env a st1) Q := by
  obtain ⟨F, T, st, env, w, eo, p⟩ := h
  refine ⟨F, T, st, env, w, eo, ?_⟩
  exact (p.bnd (R1 := R1) sh).mono fun b H1 ⟨F1, T1, st1, a, x, w1, r1, p1⟩ => ⟨F1, T1, st1, env, a, x.none, w1, eo.ext x, r1, p1⟩
end
abbrev tE (K : PySem.W.Frag) (W : WW) (C : Calls) (e : E) : TE := tX K W (rV K) fun env => evE C env e
abbrev tB (K : PySem.W.Frag) (W : WW) (C : Calls) (e : E) : TE := tX K W (rBo K) fun env => bor env e (evE C env e)
abbrev tDr (K : PySem.W.Frag) (W : WW) (C : Calls) (e : E) : TE := tX K W (rD K) fun env => evE C env e
abbrev tT (K : PySem.W.Frag) (W : WW) (C : Calls) (e : E) : TT := tX K W rEq fun env => evT C env e
abbrev tEs (K : PySem.W.Frag) (W : WW) (C : Calls) (es : Es) : TA := tX K W (rVs K) fun env => evEs C env es
abbrev tBs (K : PySem.W.Frag) (W : WW) (C : Calls) (es : Es) : TA := tX K W (rBs K) fun env => evBs C env es
abbrev tOp (K : PySem.W.Frag) (W : WW) (C : Calls) (o : Op) : TO := tX K W rEq fun env => evO C env o
theorem impE {X : Cx} {e : Expr} {t t' : TE} (h : PE X e t) (i : ∀ σ H Q, t' σ H Q → t σ H Q) : PE X e t' := ⟨fun pins s σ H Q I q => h.run pins s σ H Q I (i σ H Q q)⟩
theorem impT {X : Cx} {e : Expr} {t t' : TT} (h : PT X e t) (i : ∀ σ H Q, t' σ H Q → t σ H Q) : PT X e t' := ⟨fun pins s σ H Q I q => h.run pins s σ H Q I (i σ H Q q)⟩
theorem impW {X : Cx} {e : Expr} {t t' : TT} (h : PW X e t) (i : ∀ σ H Q, t' σ H Q → t σ H Q) : PW X e t' := ⟨fun wh pins s σ H Q I q => h.run wh pins s σ H Q I (i σ H Q q)⟩
theorem impA {X : Cx} {e : List Expr} {t t' : TA} (h : PA X e t) (i : ∀ σ H Q, t' σ H Q → t σ H Q) : PA X e t' := ⟨fun pos pins s σ H Q I q => h.run pos pins s σ H Q I (i σ H Q q)⟩
theorem impO {X : Cx} {e : Option Expr} {t t' : TO} (h : PO X e t) (i : ∀ σ H Q, t' σ H Q → t σ H Q) : PO X e t' := ⟨fun pins s σ H Q I q => h.run pins s σ H Q I (i σ H Q q)⟩
theorem impS {X : Cx} {e : Stmt} {t t' : TS} (h : PS X e t) (i : ∀ D σ H, t' D σ H → t D σ H) : PS X e t' := ⟨fun pins s σ H D I q => h.run pins s σ H D I (i D σ H q)⟩
theorem impSs {X : Cx} {e : List Stmt} {t t' : TS} (h : PSs X e t) (i : ∀ D σ H, t' D σ H → t D σ H) : PSs X e t' := ⟨fun pins s σ H D I q => h.run pins s σ H D I (i D σ H q)⟩
section
variable {X : Cx} {W : WW} {C : Calls} {ast : Expr} {e : E}
/-- a fresh thing frozen -/
theorem rD_rV {K : PySem.W.Frag} {F F' H H' : Hp} {T T' : List Addr} {st' : Store} {d : D} {v : V} (x : Ext F T H F' T' H') (w : WF K F' T' st' H') (r : rD K H F' T' H' d v) :
    ∃ F2, Ext F T H F2 T' H' ∧ WF K F2 T' st' H' ∧ Rep K F2 T' v d := by
  unfold rD at r
  split at r <;> rename_i c
  · obtain ⟨a, e, rt, f, n, z⟩ := r
    subst e
    obtain ⟨o, ho⟩ := rt.there
    refine ⟨upd F' a o, Ext.freeze ho f n x z, w.freeze ho f n, rt.rep (fun p q z => by rw [z] at c; cases c) (fun b u e => by rw [upd_ne (ne_of_none e f)]; exact e) fun o' e' => ?_⟩
    rw [upd_same, ← e', ho]
  · exact ⟨F', x, w, r⟩
theorem pe_ofD (h : PE X ast (tDr X.K W C e)) : PE X ast (tE X.K W C e) := impE h fun σ H Q ⟨F, T, st, env, w, eo, p⟩ => by
  refine ⟨F, T, st, env, w, eo, ?_⟩
  have p : Post X.K W σ F T H (rV X.K) (evE C env e st) Q := p
  show Post X.K W σ F T H (rD X.K) (evE C env e st) Q
  revert p
  cases evE C env e st with
  | bad => exact id
  | ex c ks ds st => exact id
  | ok d st' =>
    intro p v F' T' H' x w' r
    obtain ⟨F2, x2, w2, r2⟩ := rD_rV x w' r
    exact p v F2 T' H' x2 w2 r2
end
end Eng
set_option Elab.async false
set_option linter.all false
set_option maxRecDepth 100000
namespace Eng
open PySem PySem.Spec PyProof.Rows L2
section
variable {K : PySem.W.Frag} {F H : Hp} {T : List Addr} {st : Store}
theorem WF.free (w : WF K F T st H) {p : Addr} (h : H p = none) : F p = none ∧ p ∉ T := by
  refine ⟨?_, fun m => ?_⟩
  · cases q : F p with
    | none => rfl
    | some o => rw [w.fr p o q] at h; cases h
  · obtain ⟨o, e⟩ := w.inT m
    rw [h] at e; cases e
/-- what follows an operation -/
abbrev Cont (K : PySem.W.Frag) (F : Hp) (T : List Addr) (st : Store) (H : Hp) (R : RR D V) (d : D) (Q : VK) : Prop :=
  ∀ v F' T' H', Ext F T H F' T' H' → WF K F' T' st H' → R H F' T' H' d v → Q v H'
theorem rD_c {H F' H' : Hp} {T' : List Addr} {d : D} {v : V} (h : isCont d = true) (r : Fresh K H F' T' H' d v) : rD K H F' T' H' d v := by
  unfold rD; rw [if_pos h]; exact r
theorem rD_n {H F' H' : Hp} {T' : List Addr} {d : D} {v : V} (h : isCont d = false) (r : Rep K F' T' v d) : rD K H F' T' H' d v := by
  unfold rD; rw [if_neg (by rw [h]; exact Bool.false_ne_true)]; exact r
theorem Cont.flat (w : WF K F T st H) {d : D} {v : V} {Q : VK} (c : Cont K F T st H (rD K) d Q) (h : isCont d = false) (r : Rep K F T v d) : Q v H :=
  c v F T H (.refl _ _ _) w (rD_n h r)
theorem Cont.flatV (w : WF K F T st H) {d : D} {v : V} {Q : VK} (c : Cont K F T st H (rV K) d Q) (r : Rep K F T v d) : Q v H :=
  c v F T H (.refl _ _ _) w r
theorem Cont.lst (w : WF K F T st H) {ds : List D} {xs : List V} {Q : VK} (c : Cont K F T st H (rD K) (.lst ds) Q) (r : Reps K F T xs ds) {p : Addr} (hp : H p = none) : Q (.ref p) (upd H p (.lst xs)) := by
  obtain ⟨f, n⟩ := w.free hp
  refine c _ F T _ (Ext.newO hp) (w.newO hp) (rD_c rfl ?_)
  exact ⟨p, rfl, ⟨xs, upd_same, r⟩, f, n, hp⟩
theorem Cont.dic (w : WF K F T st H) {ks : List Key} {ds : List D} {kvs : List (Key × V)} {Q : VK} (c : Cont K F T st H (rD K) (.dic ks ds) Q) (e : kvs.map (·.1) = ks) (r : Reps K F T (kvs.map (·.2)) ds) {p : Addr} (hp : H p = none) : Q (.ref p) (upd H p (.dK kvs)) := by
  obtain ⟨f, n⟩ := w.free hp
  refine c _ F T _ (Ext.newO hp) (w.newO hp) (rD_c rfl ?_)
  exact ⟨p, rfl, ⟨kvs, upd_same, e, r⟩, f, n, hp⟩
theorem new_tup (w : WF K F T st H) {ds : List D} {xs : List V} (r : Reps K F T xs ds) {p : Addr} (hp : H p = none) : Rep K (upd F p (.tup xs)) T (.ref p) (.tup ds) :=
  .tup (.of upd_same) (r.mono (Ext.new w hp).fr (.refl _))
theorem Cont.tup (w : WF K F T st H) {ds : List D} {xs : List V} {Q : VK} (c : Cont K F T st H (rD K) (.tup ds) Q) (r : Reps K F T xs ds) {p : Addr} (hp : H p = none) : Q (.ref p) (upd H p (.tup xs)) := by
  exact c _ (upd F p (.tup xs)) T _ (Ext.new w hp) (w.new hp) (rD_n rfl (new_tup w r hp))
end
def rOp2 (K : PySem.W.Frag) (g : D → D → Option D) (R : RR D V) : R2 := fun x y H Q => ∃ F T st dx dy d, WF K F T st H ∧ Bor K F T H x dx ∧ Bor K F T H y dy ∧ g dx dy = some d ∧ Cont K F T st H R d Q
section
variable {X : Cx}
theorem mulok_str {x : Str} {k : Int} (h1 : -(2 ^ 63) ≤ k) (h2 : k < 2 ^ 63) (h3 : x.length * k.toNat ≤ sizeLine) : MulOk x k := by
  have sz := sizeLine_eq
  refine ⟨?_, fun h4 _ h5 => ?_, fun _ _ => ?_⟩
  · have a : ¬ k < -(2 ^ 63 : Int) := by omega
    have b : ¬ k ≥ 2 ^ 63 := by omega
    rw [decide_eq_false a, decide_eq_false b]; rfl
  · have hk : (0 : Int) < k := by omega
    have e : (x.length : Int) * k ≤ 16777216 := by
      have : ((x.length * k.toNat : Nat) : Int) ≤ (16777216 : Nat) := by exact_mod_cast (sz ▸ h3)
      rw [Int.natCast_mul, Int.toNat_of_nonneg (by omega)] at this
      exact this
    have q : (x.length : Int) ≤ (2 ^ 63 - 1) / k := (Int.le_ediv_iff_mul_le hk).mpr (by omega)
    omega
  · show Builtin.Str.tooLong _ = false
    unfold Builtin.Str.tooLong
    exact decide_eq_false (by omega)
theorem op_bin {op : Operator} : OpR X (binaryOp op) (rOp2 X.K (binD op) (rD X.K)) := by
  intro pins s σ H x y v u Q I rx ry h
  obtain ⟨F, T, st, dx, dy, d, w, bx, by_, e, c⟩ := h
  have stuck : (none : Option D) = some d → wpAny (model X.prog X.w) X.A (binaryOp op v u) (EP X pins σ Q) X.xe s := fun z => by cases z
  cases dx with
  | int i =>
    cases bx.int
    cases dy with
    | int j =>
      cases by_.int
      cases op with
      | Add => cases e; exact op_add pins s σ H _ _ v u Q I rx ry ⟨i, j, rfl, rfl, c.flat w rfl (.int _)⟩
      | Sub => cases e; exact op_sub pins s σ H _ _ v u Q I rx ry ⟨i, j, rfl, rfl, c.flat w rfl (.int _)⟩
      | Mult =>
        simp only [binD] at e
        split at e <;> rename_i q <;> cases e
        exact op_mul pins s σ H _ _ v u Q I rx ry ⟨i, j, rfl, rfl, q, c.flat w rfl (.int _)⟩
      | FloorDiv =>
        simp only [binD] at e
        split at e <;> rename_i q <;> cases e
        exact op_fdivN pins s σ H _ _ v u Q I rx ry ⟨i, j, rfl, rfl, q, c.flat w rfl (.int _)⟩
      | Mod =>
        simp only [binD] at e
        split at e <;> rename_i q <;> cases e
        exact op_modN pins s σ H _ _ v u Q I rx ry ⟨i, j, rfl, rfl, q, c.flat w rfl (.int _)⟩
      | Pow =>
        simp only [binD] at e
        split at e <;> rename_i q <;> cases e
        exact op_pow pins s σ H _ _ v u Q I rx ry ⟨i, j, rfl, rfl, q, c.flat w rfl (.int _)⟩
      | _ => exact stuck e
    | _ => cases op <;> exact stuck e
  | str i =>
    cases bx.str
    cases dy with
    | str j =>
      cases by_.str
      cases op with
      | Add =>
        simp only [binD] at e
        split at e <;> rename_i q <;> cases e
        exact op_add_str pins s σ H _ _ v u Q I rx ry ⟨i, j, rfl, rfl, q, c.flat w rfl (.str _)⟩
      | _ => exact stuck e
    | int k =>
      cases by_.int
      cases op with
      | Mult =>
        simp only [binD] at e
        split at e <;> rename_i q <;> cases e
        obtain ⟨t, rfl⟩ := rx
        obtain ⟨t', rfl⟩ := ry
        exact SB.mul (mulok_str q.1 q.2.1 q.2.2) fun t2 k2 => ⟨.str _, H, I.tok _, ⟨_, rfl⟩, c.flat w rfl (.str _)⟩
      | _ => exact stuck e
    | _ => cases op <;> exact stuck e
  | lst xs =>
    obtain ⟨a, vs, ea, ha, ra⟩ := bx.lst w
    subst ea
    cases dy with
    | lst ys =>
      obtain ⟨b, ws, eb, hb, rb⟩ := by_.lst w
      subst eb
      cases op with
      | Add =>
        simp only [binD] at e
        split at e <;> rename_i q <;> cases e
        exact op_cat pins s σ H _ _ v u Q I rx ry ⟨a, b, vs, ws, rfl, rfl, ha, hb, by rw [ra.length, rb.length]; exact q, fun p hp => c.lst w (ra.append rb) hp⟩
      | _ => exact stuck e
    | int k =>
      cases by_.int
      cases op with
      | Mult =>
        simp only [binD] at e
        split at e <;> rename_i q <;> cases e
        exact op_rep pins s σ H _ _ v u Q I rx ry ⟨a, k, vs, rfl, rfl, ha, q.1, q.2.1, by rw [ra.length]; exact q.2.2, fun p hp => c.lst w (ra.rep _) hp⟩
      | _ => exact stuck e
    | _ => cases op <;> exact stuck e
  | tup xs =>
    obtain ⟨a, vs, ea, ha, ra⟩ := bx.tup w
    subst ea
    cases dy with
    | tup ys =>
      obtain ⟨b, ws, eb, hb, rb⟩ := by_.tup w
      subst eb
      cases op with
      | Add =>
        simp only [binD] at e
        split at e <;> rename_i q <;> cases e
        refine op_catA pins s σ H _ _ v u Q I rx ry ⟨a, b, vs, ws, rfl, rfl, ha, hb, by rw [ra.length, rb.length]; exact q, fun z => ?_, fun z1 z2 => ?_, fun _ _ p hp => c.tup w (ra.append rb) hp⟩
        · subst z
          cases ra
          rcases by_ with k | ⟨_, _, k, _⟩
          · exact c.flat w rfl k
          · exact k.elim
        · subst z2
          cases rb
          rw [List.append_nil] at c
          rcases bx with k | ⟨_, _, k, _⟩
          · exact c.flat w rfl k
          · exact k.elim
      | _ => exact stuck e
    | _ => cases op <;> exact stuck e
  | _ => cases op <;> cases dy <;> exact stuck e
mutual
theorem eqv_py : ∀ (n : Nat) (d e : D), dataD n d = true → dataD n e = true → PyData.eqv (py d) (py e) = eqD d e
  | n, d, e, hd, he => by
    cases d with
    | non => cases e <;> first | rfl | (simp [py, PyData.eqv, eqD]; done) | (cases n <;> cases he)
    | bl b => cases e <;> first | rfl | (simp [py, PyData.eqv, eqD]; done) | (cases n <;> cases he)
    | int b => cases e <;> first | rfl | (simp [py, PyData.eqv, eqD]; done) | (cases n <;> cases he)
    | str b => cases e <;> first | rfl | (simp [py, PyData.eqv, eqD]; done) | (cases n <;> cases he)
    | lst xs =>
      cases n with
      | zero => cases hd
      | succ n =>
        cases e with
        | lst ys => rw [py, py, PyData.eqv, eqD]; exact eqv_pys n xs ys hd he
        | _ => first | rfl | (simp [py, PyData.eqv, eqD]; done) | cases he
    | tup xs =>
      cases n with
      | zero => cases hd
      | succ n =>
        cases e with
        | tup ys => rw [py, py, PyData.eqv, eqD]; exact eqv_pys n xs ys hd he
        | _ => first | rfl | (simp [py, PyData.eqv, eqD]; done) | cases he
    | _ => cases n <;> cases hd
theorem eqv_pys : ∀ (n : Nat) (ds es : List D), dataDs n ds = true → dataDs n es = true → PyData.eqvAll (pys ds) (pys es) = eqDs ds es
  | n, [], [], _, _ => rfl
  | n, [], _ :: _, _, _ => rfl
  | n, _ :: _, [], _, _ => rfl
  | n, d :: ds, e :: es, hd, he => by
    have a := He.ba (show (dataD n d && dataDs n ds) = true from hd)
    have b := He.ba (show (dataD n e && dataDs n es) = true from he)
    rw [pys, pys, PyData.eqvAll, eqDs, eqv_py n d e a.1 b.1, eqv_pys n ds es a.2 b.2]
end
mutual
theorem lay_py : ∀ (n : Nat) (d : D), dataD n d = true → (py d).canLay0 = true ∧ (py d).depth ≤ n + 1
  | n, d, hd => by
    cases d with
    | str x => exact ⟨by simp only [py, PyData.canLay0]; cases n <;> exact hd, by simp [py, PyData.depth]⟩
    | lst xs =>
      cases n with
      | zero => cases hd
      | succ n =>
        obtain ⟨a, b⟩ := lay_pys n xs hd
        exact ⟨by simpa [py, PyData.canLay0] using a, by simp only [py, PyData.depth]; omega⟩
    | tup xs =>
      cases n with
      | zero => cases hd
      | succ n =>
        obtain ⟨a, b⟩ := lay_pys n xs hd
        exact ⟨by simpa [py, PyData.canLay0] using a, by simp only [py, PyData.depth]; omega⟩
    | _ => exact ⟨by simp [py, PyData.canLay0], by simp [py, PyData.depth]⟩
theorem lay_pys : ∀ (n : Nat) (ds : List D), dataDs n ds = true → PyData.canLayAll0 (pys ds) = true ∧ PyData.depthAll (pys ds) ≤ n + 1
  | n, [], _ => ⟨by simp [pys, PyData.canLayAll0], by simp [pys, PyData.depthAll]⟩
  | n, d :: ds, hd => by
    have a := He.ba (show (dataD n d && dataDs n ds) = true from hd)
    obtain ⟨l1, p1⟩ := lay_py n d a.1
    obtain ⟨l2, p2⟩ := lay_pys n ds a.2
    exact ⟨by simp [pys, PyData.canLayAll0, l1, l2], by simp only [pys, PyData.depthAll]; omega⟩
end
theorem shaped_py {n : Nat} {d : D} (h : dataD n d = true) (hn : n ≤ 60 := by decide) : SeqAt.shaped (py d) = true := by
  obtain ⟨a, b⟩ := lay_py n d h
  unfold SeqAt.shaped
  rw [a, decide_eq_true (by omega)]; rfl
mutual
theorem dataD_F : ∀ (n : Nat) (d : D), dataD n d = true → dataF n d = true
  | n, d, h => by
    cases d with
    | lst xs =>
      cases n with
      | zero => cases h
      | succ n => exact dataDs_F n xs h
    | tup xs =>
      cases n with
      | zero => cases h
      | succ n => exact dataDs_F n xs h
    | _ => cases n <;> first | rfl | cases h
theorem dataDs_F : ∀ (n : Nat) (ds : List D), dataDs n ds = true → dataFs n ds = true
  | n, [], _ => by cases n <;> rfl
  | n, d :: ds, h => by
    have a := He.ba (show (dataD n d && dataDs n ds) = true from h)
    show (dataF n d && dataFs n ds) = true
    rw [dataD_F n d a.1, dataDs_F n ds a.2]; rfl
end
mutual
theorem dp_repF {K : PySem.W.Frag} {F H : Hp} {T : List Addr} (sm : Same F H) : ∀ (n : Nat) (d : D) (v : V), dataF n d = true → Rep K F T v d → Dp K H v (py d)
  | n, d, v, hd, r => by
    cases d with
    | non => cases r; exact .non
    | bl b => cases r; exact .bl b
    | int b => cases r; exact .int b
    | str b => cases r; exact .str b
    | lst xs =>
      cases n with
      | zero => cases hd
      | succ n => cases r with | lst q r => exact .lst (.of (sm _ _ q)) (dp_repsF sm n xs _ hd r)
    | tup xs =>
      cases n with
      | zero => cases hd
      | succ n => cases r with | tup q r => exact .tup (sqT_mono sm q) (dp_repsF sm n xs _ hd r)
    | _ => cases n <;> cases hd
theorem dp_repsF {K : PySem.W.Frag} {F H : Hp} {T : List Addr} (sm : Same F H) : ∀ (n : Nat) (ds : List D) (vs : List V), dataFs n ds = true → Reps K F T vs ds → DpAll K H vs (pys ds)
  | n, [], _, _, r => by cases r; exact .nil
  | n, d :: ds, _, hd, r => by
    have a := He.ba (show (dataF n d && dataFs n ds) = true from hd)
    cases r with | cons r1 r2 => exact .cons (dp_repF sm n d _ a.1 r1) (dp_repsF sm n ds _ a.2 r2)
end
theorem dp_rep {K : PySem.W.Frag} {F H : Hp} {T : List Addr} (sm : Same F H) (n : Nat) (d : D) (v : V) (h : dataD n d = true) (r : Rep K F T v d) : Dp K H v (py d) := dp_repF sm n d v (dataD_F n d h) r
theorem dp_reps {K : PySem.W.Frag} {F H : Hp} {T : List Addr} (sm : Same F H) (n : Nat) (ds : List D) (vs : List V) (h : dataDs n ds = true) (r : Reps K F T vs ds) : DpAll K H vs (pys ds) := dp_repsF sm n ds vs (dataDs_F n ds h) r
theorem depth_pyF : ∀ (n : Nat) (d : D), dataF n d = true → (py d).depth ≤ n + 1 := by
  intro n d
  induction n generalizing d with
  | zero =>
    intro h
    cases d <;> first | (simp [py, PyData.depth]; done) | cases h
  | succ n ih =>
    have all : ∀ ds : List D, dataFs n ds = true → PyData.depthAll (pys ds) ≤ n + 1 := by
      intro ds
      induction ds with
      | nil => intro _; simp [pys, PyData.depthAll]
      | cons d ds ih2 =>
        intro h
        have a := He.ba (show (dataF n d && dataFs n ds) = true from h)
        have := ih d a.1
        have := ih2 a.2
        simp only [pys, PyData.depthAll]; omega
    intro h
    cases d with
    | lst xs => have := all xs h; simp only [py, PyData.depth]; omega
    | tup xs => have := all xs h; simp only [py, PyData.depth]; omega
    | _ => simp [py, PyData.depth]
theorem dp_bor {K : PySem.W.Frag} {F H : Hp} {T : List Addr} {st : Store} (w : WF K F T st H) {n : Nat} {d : D} {v : V} (hd : dataD n d = true) (b : Bor K F T H v d) : Dp K H v (py d) := by
  rcases b with r | ⟨a, e, r, _⟩
  · exact dp_rep w.fr n d v hd r
  · subst e
    cases d with
    | lst xs =>
      obtain ⟨vs, e, r⟩ := r
      cases n with
      | zero => cases hd
      | succ n => exact .lst (.of e) (dp_reps w.fr n xs _ hd r)
    | dic _ _ => cases n <;> cases hd
    | ins _ _ _ => cases n <;> cases hd
    | tab _ _ => cases n <;> cases hd
    | dtt _ _ _ => cases n <;> cases hd
    | tupx _ => cases n <;> cases hd
    | _ => exact r.elim
end
end Eng
set_option Elab.async false
set_option linter.all false
set_option maxRecDepth 100000
namespace Eng
open PySem PySem.Spec PyProof.Rows L2
section
variable {X : Cx}
theorem bor_flat {K : PySem.W.Frag} {F H : Hp} {T : List Addr} {d : D} {v : V} (h : flatD d = true) (b : Bor K F T H v d) : flatV v = true ∧ (v = match d with | .non => .non | .bl b => .bl b | .int i => .int i | .str x => .str x | _ => .non) := by
  cases d with
  | non => cases b.non; exact ⟨rfl, rfl⟩
  | bl _ => cases b.bl; exact ⟨rfl, rfl⟩
  | int _ => cases b.int; exact ⟨rfl, rfl⟩
  | str _ => cases b.str; exact ⟨rfl, rfl⟩
  | _ => cases h
theorem scal_of {K : PySem.W.Frag} {F H : Hp} {T : List Addr} {d e : D} {v u : V} (h : scalD d e = true) (b : Bor K F T H v d) (c : Bor K F T H u e) : scal v u = true ∧ decide (v = u) = eqD d e := by
  cases d with
  | non => cases b.non; cases e with
    | non => cases c.non; exact ⟨rfl, rfl⟩
    | bl _ => cases c.bl; exact ⟨rfl, by simp [eqD]⟩
    | int _ => cases c.int; exact ⟨rfl, by simp [eqD]⟩
    | str _ => cases c.str; exact ⟨rfl, by simp [eqD]⟩
    | _ => cases h
  | bl _ => cases b.bl; cases e with
    | non => cases c.non; exact ⟨rfl, by simp [eqD]⟩
    | bl _ => cases c.bl; exact ⟨rfl, by simp only [eqD]; exact dec_bl⟩
    | str _ => cases c.str; exact ⟨rfl, by simp [eqD]⟩
    | _ => cases h
  | int _ => cases b.int; cases e with
    | non => cases c.non; exact ⟨rfl, by simp [eqD]⟩
    | int _ => cases c.int; exact ⟨rfl, by simp [eqD]⟩
    | str _ => cases c.str; exact ⟨rfl, by simp [eqD]⟩
    | _ => cases h
  | str _ => cases b.str; cases e with
    | non => cases c.non; exact ⟨rfl, by simp [eqD]⟩
    | bl _ => cases c.bl; exact ⟨rfl, by simp [eqD]⟩
    | int _ => cases c.int; exact ⟨rfl, by simp [eqD]⟩
    | str _ => cases c.str; exact ⟨rfl, by simp [eqD]⟩
    | _ => cases h
  | _ => cases e <;> cases h
/-- == of a list and an empty one -/
theorem eq_nil {pins : List (Addr × Obj)} {σ : L2.St} {H : Hp} {s : Shared} {a b : Addr} {xs : List V} {E Q : Value → Shared → Prop} (I : Inv X pins σ H s) (hu : X.A.units < cLine) (ha : H a = some (.lst xs)) (hb : H b = some (.lst [])) (h : Q (.bool xs.isEmpty) s) :
    wpAny (model X.prog X.w) X.A (compareOp .Eq (.ref a) (.ref b)) Q E s := by
  obtain ⟨its, r, p, _⟩ := I.list (.of ha)
  obtain ⟨its2, r2, p2, _⟩ := I.list (.of hb)
  cases r2
  have hl := r.length
  show wpAny (model X.prog X.w) X.A (richCompare .Eq (.ref a) (.ref b)) Q E s
  cases xs with
  | nil =>
    cases r
    exact SeqAt.RcAt.lists (e := fun _ => true) p.isList p2.isList rfl hu (fun j h1 _ => by simp at h1) X.prog X.w E Q h
  | cons x xs =>
    refine SeqAt.RcAt.lists_lengths p.isList p2.isList ?_ hu X.prog X.w E Q h
    simp only [List.size_toArray, ← hl]; simp
theorem ne_nil {pins : List (Addr × Obj)} {σ : L2.St} {H : Hp} {s : Shared} {a b : Addr} {xs : List V} {E Q : Value → Shared → Prop} (I : Inv X pins σ H s) (hu : X.A.units < cLine) (ha : H a = some (.lst xs)) (hb : H b = some (.lst [])) (h : Q (.bool (!xs.isEmpty)) s) :
    wpAny (model X.prog X.w) X.A (compareOp .NotEq (.ref a) (.ref b)) Q E s := by
  obtain ⟨its, r, p, _⟩ := I.list (.of ha)
  obtain ⟨its2, r2, p2, _⟩ := I.list (.of hb)
  cases r2
  have hl := r.length
  show wpAny (model X.prog X.w) X.A (richCompare .NotEq (.ref a) (.ref b)) Q E s
  cases xs with
  | nil =>
    cases r
    exact SeqAt.RcNeAt.lists (e := fun _ => true) p.isList p2.isList rfl hu (fun j h1 _ => by simp at h1) X.prog X.w E Q h
  | cons x xs =>
    refine SeqAt.RcNeAt.lists_lengths p.isList p2.isList ?_ hu X.prog X.w E Q h
    simp only [List.size_toArray, ← hl]; simp
theorem reps_empty {K : PySem.W.Frag} {F : Hp} {T : List Addr} {vs : List V} {ds : List D} (r : Reps K F T vs ds) : vs.isEmpty = ds.isEmpty := by cases r <;> rfl
theorem eqO_cases {x y : D} {b : Bool} (h : eqO x y = some b) : (∃ xs, x = .lst xs ∧ y = .lst [] ∧ b = xs.isEmpty) ∨ (scalD x y = true ∧ b = eqD x y) ∨ (dataD 20 x = true ∧ dataD 20 y = true ∧ b = eqD x y) := by
  unfold eqO at h
  split at h
  · cases h; exact .inl ⟨_, rfl, rfl, rfl⟩
  · split at h
    · rename_i c; cases h; exact .inr (.inl ⟨c, rfl⟩)
    · split at h
      · rename_i c; cases h
        obtain ⟨c1, c2⟩ := He.ba c
        exact .inr (.inr ⟨c1, c2, rfl⟩)
      · cases h
theorem op_eqG_ (hu : X.A.units + 64 < cLine) : OpR X (compareOp .Eq) (rOp2 X.K (fun x y => (eqO x y).map .bl) (rV X.K)) := by
  intro pins s σ H x y v u Q I rx ry h
  obtain ⟨F, T, st, dx, dy, d, w, bx, by_, e, c⟩ := h
  obtain ⟨b, e1, e2⟩ := Option.map_eq_some_iff.mp e
  subst e2
  rcases eqO_cases e1 with ⟨xs, rfl, rfl, rfl⟩ | ⟨k, rfl⟩ | ⟨k1, k2, rfl⟩
  · obtain ⟨a, vs, rfl, ha, ra⟩ := bx.lst w
    obtain ⟨b, ws, rfl, hb, rb⟩ := by_.lst w
    cases rb
    cases rx
    cases ry
    exact eq_nil I (by omega) ha hb ⟨.bl _, H, I, rfl, by rw [reps_empty ra]; exact c.flatV w (.bl _)⟩
  · obtain ⟨k1, k2⟩ := scal_of k bx by_
    exact op_eq pins s σ H x y v u Q I rx ry ⟨k1, by rw [k2]; exact c.flatV w (.bl _)⟩
  · exact op_eqD hu pins s σ H x y v u Q I rx ry ⟨py dx, py dy, dp_bor w k1 bx, dp_bor w k2 by_, shaped_py k1, shaped_py k2, by rw [eqv_py 20 dx dy k1 k2]; exact c.flatV w (.bl _)⟩
theorem op_neG (hu : X.A.units + 64 < cLine) : OpR X (compareOp .NotEq) (rOp2 X.K (fun x y => ((eqO x y).map (!·)).map .bl) (rV X.K)) := by
  intro pins s σ H x y v u Q I rx ry h
  obtain ⟨F, T, st, dx, dy, d, w, bx, by_, e, c⟩ := h
  obtain ⟨b', e1', e2'⟩ := Option.map_eq_some_iff.mp e
  obtain ⟨b, e1, rfl⟩ := Option.map_eq_some_iff.mp e1'
  subst e2'
  rcases eqO_cases e1 with ⟨xs, rfl, rfl, rfl⟩ | ⟨k, rfl⟩ | ⟨k1, k2, rfl⟩
  · obtain ⟨a, vs, rfl, ha, ra⟩ := bx.lst w
    obtain ⟨b, ws, rfl, hb, rb⟩ := by_.lst w
    cases rb
    cases rx
    cases ry
    exact ne_nil I (by omega) ha hb ⟨.bl _, H, I, rfl, by rw [reps_empty ra]; exact c.flatV w (.bl _)⟩
  · obtain ⟨k1, k2⟩ := scal_of k bx by_
    exact op_ne pins s σ H x y v u Q I rx ry ⟨k1, by rw [k2]; exact c.flatV w (.bl _)⟩
  · exact op_neD hu pins s σ H x y v u Q I rx ry ⟨py dx, py dy, dp_bor w k1 bx, dp_bor w k2 by_, shaped_py k1, shaped_py k2, by rw [eqv_py 20 dx dy k1 k2]; exact c.flatV w (.bl _)⟩
theorem flat_eqV {K : PySem.W.Frag} {F H : Hp} {T : List Addr} {d e : D} {v u : V} (h1 : flatD d = true) (h2 : flatD e = true) (b : Bor K F T H v d) (c : Bor K F T H u e) : eqV v u = eqD d e := by
  cases d with
  | non => cases b.non; cases e with
    | non => cases c.non; rfl
    | bl _ => cases c.bl; rfl
    | int _ => cases c.int; rfl
    | str _ => cases c.str; rfl
    | _ => cases h2
  | bl _ => cases b.bl; cases e with
    | non => cases c.non; rfl
    | bl _ => cases c.bl; rfl
    | int _ => cases c.int; rfl
    | str _ => cases c.str; rfl
    | _ => cases h2
  | int _ => cases b.int; cases e with
    | non => cases c.non; rfl
    | bl _ => cases c.bl; rfl
    | int _ => cases c.int; exact Bool.beq_eq_decide_eq _ _
    | str _ => cases c.str; rfl
    | _ => cases h2
  | str _ => cases b.str; cases e with
    | non => cases c.non; rfl
    | bl _ => cases c.bl; rfl
    | int _ => cases c.int; rfl
    | str _ => cases c.str; exact Bool.beq_eq_decide_eq _ _
    | _ => cases h2
  | _ => cases h1
theorem in_flat {K : PySem.W.Frag} {F H : Hp} {T : List Addr} {d : D} {v : V} (h : flatD d = true) (b : Bor K F T H v d) : ∀ {vs : List V} {ds : List D}, Reps K F T vs ds → ds.all flatD = true → vs.all flatV = true ∧ inV v vs = ds.any fun z => eqD z d
  | _, _, .nil, _ => ⟨rfl, rfl⟩
  | _, _, .cons (v := u) (d := e) r rs, hs => by
    simp only [List.all_cons, Bool.and_eq_true] at hs
    obtain ⟨a1, a2⟩ := in_flat h b rs hs.2
    obtain ⟨f, _⟩ := bor_flat (H := H) hs.1 (.inl r)
    refine ⟨by simp only [List.all_cons, f, a1, Bool.and_self], ?_⟩
    unfold inV at a2 ⊢
    rw [List.any_cons, List.any_cons, a2, flat_eqV hs.1 h (H := H) (.inl r) b]
theorem any_py {x : D} (hx : dataD 20 x = true) : ∀ {ds : List D}, dataDs 20 ds = true → ((pys ds).any fun z => PyData.eqv z (py x)) = ds.any fun z => eqD z x
  | [], _ => rfl
  | d :: ds, h => by
    have a := He.ba (show (dataD 20 d && dataDs 20 ds) = true from h)
    rw [pys, List.any_cons, List.any_cons, any_py hx a.2, eqv_py 20 d x a.1 hx]
theorem one_sign {y : Str} {c : Nat} (h : y.cps.toList = [c]) : y = ⟨#[c]⟩ := by
  obtain ⟨a⟩ := y
  have : a = #[c] := by
    have := congrArg List.toArray h
    simpa using this
  rw [this]
theorem zip_find {k : Key} : ∀ {kvs : List (Key × V)} , ((kvs.find? fun kv => decide (kv.1 = k)).map (·.2)).isSome = (kvs.map (·.1)).any fun q => decide (q = k)
  | [] => rfl
  | kv :: kvs => by
    have ih := zip_find (k := k) (kvs := kvs)
    rw [List.find?_cons, List.map_cons, List.any_cons]
    by_cases h : kv.1 = k
    · simp [h]
    · simp only [h, decide_false, Bool.false_or]; exact ih
theorem inD_ok (hu : X.A.units + 65 < cLine) {neg : Bool} {op : CmpOp} (hop : op = if neg then .NotIn else .In) :
    OpR X (compareOp op) (rOp2 X.K (fun x y => ((inD x y).map fun b => if neg then !b else b).map .bl) (rV X.K)) := by
  intro pins s σ H x y v u Q I rx ry h
  obtain ⟨F, T, st, dx, dy, d, w, bx, by_, e, c⟩ := h
  obtain ⟨b', e1', e2'⟩ := Option.map_eq_some_iff.mp e
  obtain ⟨b, e1, e3⟩ := Option.map_eq_some_iff.mp e1'
  subst e2'
  have fin : Q (.bl (if neg then !b else b)) H := by rw [e3]; exact c.flatV w (.bl _)
  clear c e e1' e3
  cases dy with
  | str z =>
    cases by_.str
    cases dx with
    | str q =>
      cases bx.str
      simp only [inD] at e1
      split at e1
      · rename_i cc ec
        cases e1
        cases one_sign ec
        cases neg with
        | true => subst hop; exact op_notIn_sign pins s σ H _ _ v u Q I rx ry ⟨cc, z, rfl, rfl, fin⟩
        | false => subst hop; exact op_in_sign pins s σ H _ _ v u Q I rx ry ⟨cc, z, rfl, rfl, fin⟩
      · cases e1
    | _ => cases e1
  | lst ds =>
    obtain ⟨a, vs, ea, ha, ra⟩ := by_.lst w
    subst ea
    simp only [inD] at e1
    split at e1
    · rename_i q
      obtain ⟨q1, q2⟩ := He.ba q
      cases e1
      obtain ⟨f1, f2⟩ := in_flat q1 bx ra q2
      obtain ⟨f3, _⟩ := bor_flat q1 bx
      cases neg with
      | true => subst hop; exact op_notIn_seq pins s σ H _ _ v u Q I rx ry ⟨a, vs, rfl, .inl (.of ha), f3, f1, by rw [f2]; exact fin⟩
      | false => subst hop; exact op_in_seq pins s σ H _ _ v u Q I rx ry ⟨a, vs, rfl, .inl (.of ha), f3, f1, by rw [f2]; exact fin⟩
    · split at e1
      · rename_i q
        obtain ⟨q1, q2⟩ := He.ba q
        cases e1
        have dd : Dp X.K H (.ref a) (.list (pys ds)) := .lst (.of ha) (dp_reps w.fr 20 ds vs q2 ra)
        have sh : SeqAt.shaped (.list (pys ds)) = true := shaped_py (n := 21) (d := .lst ds) q2
        have d1 := dp_bor w q1 bx
        cases neg with
        | true => subst hop; exact op_notInD hu pins s σ H _ _ v u Q I rx ry ⟨py dx, pys ds, d1, dd, shaped_py q1, sh, by rw [any_py q1 q2]; exact fin⟩
        | false => subst hop; exact op_inD hu pins s σ H _ _ v u Q I rx ry ⟨py dx, pys ds, d1, dd, shaped_py q1, sh, by rw [any_py q1 q2]; exact fin⟩
      · cases e1
  | tup ds =>
    obtain ⟨a, vs, ea, ha, ra⟩ := by_.tup w
    subst ea
    simp only [inD] at e1
    split at e1
    · rename_i q
      obtain ⟨q1, q2⟩ := He.ba q
      cases e1
      obtain ⟨f1, f2⟩ := in_flat q1 bx ra q2
      obtain ⟨f3, _⟩ := bor_flat q1 bx
      cases neg with
      | true => subst hop; exact op_notIn_seq pins s σ H _ _ v u Q I rx ry ⟨a, vs, rfl, .inr ha, f3, f1, by rw [f2]; exact fin⟩
      | false => subst hop; exact op_in_seq pins s σ H _ _ v u Q I rx ry ⟨a, vs, rfl, .inr ha, f3, f1, by rw [f2]; exact fin⟩
    · cases e1
  | dic ks ds =>
    obtain ⟨a, kvs, ea, ha, hk, ra⟩ := by_.dic w
    subst ea
    simp only [inD] at e1
    obtain ⟨k, k1, rfl⟩ := Option.map_eq_some_iff.mp e1
    have ek : x = kV k := by
      cases dx with
      | int i => cases bx.int; cases k1; rfl
      | str i => cases bx.str; cases k1; rfl
      | _ => cases k1
    subst ek
    cases ry
    have g : DGet H a (kV k) (valV kvs k) := .k ha
    have es : (valV kvs k).isSome = ks.any fun q => decide (q = k) := by rw [← hk]; exact zip_find
    cases neg with
    | true => subst hop; exact d_notIn (by omega) I g rx fun s' I' => ⟨.bl _, H, I', rfl, by rw [es]; exact fin⟩
    | false => subst hop; exact d_in (by omega) I g rx fun s' I' => ⟨.bl _, H, I', rfl, by rw [es]; exact fin⟩
  | dcz ks ds =>
    obtain ⟨a, o, kvs, ea, ha, hk, ra⟩ := by_.dcz w
    subst ea
    simp only [inD] at e1
    obtain ⟨k, k1, rfl⟩ := Option.map_eq_some_iff.mp e1
    have ek : x = kV k := by
      cases dx with
      | int i => cases bx.int; cases k1; rfl
      | str i => cases bx.str; cases k1; rfl
      | _ => cases k1
    subst ek
    cases ry
    have g : DGet H a (kV k) (valV kvs k) := DGet.z ha
    have es : (valV kvs k).isSome = ks.any fun q => decide (q = k) := by rw [← hk]; exact zip_find
    cases neg with
    | true => subst hop; exact d_notIn (by omega) I g rx fun s' I' => ⟨.bl _, H, I', rfl, by rw [es]; exact fin⟩
    | false => subst hop; exact d_in (by omega) I g rx fun s' I' => ⟨.bl _, H, I', rfl, by rw [es]; exact fin⟩
  | _ => cases e1
theorem isn {K : PySem.W.Frag} {F H : Hp} {T : List Addr} {d : D} {v : V} (b : Bor K F T H v d) : decide (v = .non) = isNone d := by
  rcases b with r | ⟨a, e, r, _⟩
  · cases r <;> rfl
  · subst e
    cases d <;> first | rfl | exact r.elim
theorem op_cmpD (hu : X.A.units + 65 < cLine) {op : CmpOp} : OpR X (compareOp op) (rOp2 X.K (fun x y => (cmpD op x y).map .bl) (rV X.K)) := by
  cases op with
  | Eq => exact op_eqG_ (by omega)
  | NotEq => exact op_neG (by omega)
  | In =>
    have h := inD_ok (X := X) hu (neg := false) rfl
    have e : (fun x y => (cmpD .In x y).map D.bl) = fun x y => ((inD x y).map fun b => if false then !b else b).map D.bl := by
      funext x y
      show (inD x y).map D.bl = _
      cases inD x y <;> rfl
    rw [e]; exact h
  | NotIn => exact inD_ok hu (neg := true) rfl
  | Lt =>
    intro pins s σ H x y v u Q I rx ry h
    obtain ⟨F, T, st, dx, dy, d, w, bx, by_, e, c⟩ := h
    cases dy with
    | int j =>
      cases dx with
      | int i =>
        cases bx.int; cases by_.int; cases e
        exact op_lt pins s σ H _ _ v u Q I rx ry ⟨i, j, rfl, rfl, c.flatV w (.bl _)⟩
      | _ => cases e
    | _ => cases dx <;> cases e
  | LtE =>
    intro pins s σ H x y v u Q I rx ry h
    obtain ⟨F, T, st, dx, dy, d, w, bx, by_, e, c⟩ := h
    cases dy with
    | int j =>
      cases dx with
      | int i =>
        cases bx.int; cases by_.int; cases e
        exact op_le pins s σ H _ _ v u Q I rx ry ⟨i, j, rfl, rfl, c.flatV w (.bl _)⟩
      | _ => cases e
    | _ => cases dx <;> cases e
  | Gt =>
    intro pins s σ H x y v u Q I rx ry h
    obtain ⟨F, T, st, dx, dy, d, w, bx, by_, e, c⟩ := h
    cases dy with
    | int j =>
      cases dx with
      | int i =>
        cases bx.int; cases by_.int; cases e
        exact op_gt pins s σ H _ _ v u Q I rx ry ⟨i, j, rfl, rfl, c.flatV w (.bl _)⟩
      | _ => cases e
    | _ => cases dx <;> cases e
  | GtE =>
    intro pins s σ H x y v u Q I rx ry h
    obtain ⟨F, T, st, dx, dy, d, w, bx, by_, e, c⟩ := h
    cases dy with
    | int j =>
      cases dx with
      | int i =>
        cases bx.int; cases by_.int; cases e
        exact op_ge pins s σ H _ _ v u Q I rx ry ⟨i, j, rfl, rfl, c.flatV w (.bl _)⟩
      | _ => cases e
    | _ => cases dx <;> cases e
  | Is =>
    intro pins s σ H x y v u Q I rx ry h
    obtain ⟨F, T, st, dx, dy, d, w, bx, by_, e, c⟩ := h
    cases dy with
    | non =>
      cases by_.non
      cases e
      exact op_isN pins s σ H _ _ v u Q I rx ry ⟨rfl, by rw [isn bx]; exact c.flatV w (.bl _)⟩
    | bl b =>
      cases by_.bl
      cases dx with
      | bl a =>
        cases bx.bl
        cases e; exact op_isBl pins s σ H _ _ v u Q I rx ry ⟨a, b, rfl, rfl, c.flatV w (.bl _)⟩
      | _ => cases e
    | _ => cases dx <;> cases e
  | IsNot =>
    intro pins s σ H x y v u Q I rx ry h
    obtain ⟨F, T, st, dx, dy, d, w, bx, by_, e, c⟩ := h
    cases dy with
    | non =>
      cases by_.non
      cases e
      exact op_notN pins s σ H _ _ v u Q I rx ry ⟨rfl, by rw [isn bx]; exact c.flatV w (.bl _)⟩
    | bl b =>
      cases by_.bl
      cases dx with
      | bl a =>
        cases bx.bl
        cases e; exact op_notBl pins s σ H _ _ v u Q I rx ry ⟨a, b, rfl, rfl, c.flatV w (.bl _)⟩
      | _ => cases e
    | _ => cases dx <;> cases e
theorem reps_at {K : PySem.W.Frag} {F : Hp} {T : List Addr} {vs : List V} {ds : List D} (r : Reps K F T vs ds) {k : Int} {d : D} (h : atI ds k = some d) : ∃ v, atI vs k = some v ∧ Rep K F T v d := by
  unfold atI at h ⊢
  rw [r.length]
  cases e : ixN ds.length k with
  | none => rw [e] at h; cases h
  | some j => rw [e] at h; exact r.get h
theorem atI_map {α β : Type} (f : α → β) (xs : List α) (k : Int) : atI (xs.map f) k = (atI xs k).map f := by
  unfold atI
  rw [List.length_map]
  cases ixN xs.length k with
  | none => rfl
  | some j => simp
theorem find_kvs {K : PySem.W.Frag} {F : Hp} {T : List Addr} {k : Key} : ∀ {kvs : List (Key × V)} {ds : List D} {d : D}, Reps K F T (kvs.map (·.2)) ds → dicGet (kvs.map (·.1)) ds k = some d → ∃ v, valV kvs k = some v ∧ Rep K F T v d
  | [], _, _, _, h => by simp [dicGet] at h
  | kv :: kvs, _, d, .cons (d := e) r rs, h => by
    unfold dicGet at h
    rw [List.map_cons, List.zip_cons_cons, List.find?_cons] at h
    unfold valV
    rw [List.find?_cons]
    by_cases q : kv.1 = k
    · simp only [q, decide_true, Option.map_some] at h ⊢
      cases h
      exact ⟨_, rfl, r⟩
    · simp only [q, decide_false] at h ⊢
      exact find_kvs rs h
/-- x[k] by data, the store's objects behind their numbers -/
def rIxD (K : PySem.W.Frag) : R2 := fun x y H Q => ∃ F T st dx dx' dy d, WF K F T st H ∧ Bor K F T H x dx ∧ Bor K F T H y dy ∧ deref st dx = some dx' ∧ ixS dx' dy = some d ∧ Cont K F T st H (rV K) d Q
theorem bor_deref {K : PySem.W.Frag} {F H : Hp} {T : List Addr} {st : Store} (w : WF K F T st H) {v : V} {d d' : D} (b : Bor K F T H v d) (e : deref st d = some d') : Bor K F T H v d' ∨ ∃ a, v = .ref a ∧ RepTop K F T H a d' := by
  cases d with
  | obj n =>
    rcases b with r | ⟨_, _, r, _⟩
    · cases r with
      | obj q =>
        obtain ⟨a, h1, h2⟩ := w.at_ n d' e
        rw [q] at h1; cases h1
        exact .inr ⟨_, rfl, h2⟩
    · exact r.elim
  | _ => cases e; exact .inl b
theorem ix_D (hu : X.A.units + 1 < cLine) : IxR X (rIxD X.K) := by
  intro value slice pins s σ H x y v u Q I rx ry h hs
  obtain ⟨F, T, st, dx, dx', dy, d, w, bx, by_, e1, e2, c⟩ := h
  have bx' := bor_deref w bx e1
  cases dy with
  | int k =>
    cases by_.int
    cases dx' with
    | lst ds =>
      obtain ⟨a, vs, rfl, ha, ra⟩ : ∃ a xs, x = .ref a ∧ H a = some (.lst xs) ∧ Reps X.K F T xs ds := by
        rcases bx' with b | ⟨a, rfl, xs, e, r⟩
        · exact b.lst w
        · exact ⟨a, xs, rfl, e, r⟩
      obtain ⟨z, e3, r3⟩ := reps_at ra e2
      exact ix_list value slice pins s σ H _ _ v u Q I rx ry ⟨a, vs, k, z, rfl, rfl, .of ha, e3, c.flatV w r3⟩ hs
    | tup ds =>
      obtain ⟨a, vs, rfl, ha, ra⟩ : ∃ a xs, x = .ref a ∧ SqT X.K H a xs ∧ Reps X.K F T xs ds := by
        rcases bx' with b | ⟨a, rfl, r⟩
        · exact b.tup w
        · exact r.elim
      obtain ⟨z, e3, r3⟩ := reps_at ra e2
      exact ix_tup value slice pins s σ H _ _ v u Q I rx ry ⟨a, vs, k, z, rfl, rfl, ha, e3, c.flatV w r3⟩ hs
    | scr ns =>
      obtain ⟨a, rfl, ha⟩ : ∃ a, x = .ref a ∧ SqL X.K H a (ns.map V.int) := by
        rcases bx' with b | ⟨a, rfl, r⟩
        · exact b.scr w
        · exact r.elim
      obtain ⟨i, e3, rfl⟩ := Option.map_eq_some_iff.mp e2
      exact ix_list value slice pins s σ H _ _ v u Q I rx ry ⟨a, _, k, .int i, rfl, rfl, ha, by rw [atI_map, e3]; rfl, c.flatV w (.int _)⟩ hs
    | str z =>
      have ex : x = .str z := by
        rcases bx' with b | ⟨a, _, r⟩
        · exact b.str
        · exact r.elim
      subst ex
      simp only [ixS] at e2
      split at e2
      · rename_i q
        obtain ⟨cc, e3, rfl⟩ := Option.map_eq_some_iff.mp e2
        exact ix_str value slice pins s σ H _ _ v u Q I rx ry ⟨z, k, cc, rfl, rfl, q, e3, c.flatV w (.str _)⟩ hs
      · cases e2
    | dic ks ds =>
      obtain ⟨a, kvs, rfl, ha, hk, ra⟩ : ∃ a kvs, x = .ref a ∧ H a = some (.dK kvs) ∧ kvs.map (·.1) = ks ∧ Reps X.K F T (kvs.map (·.2)) ds := by
        rcases bx' with b | ⟨a, rfl, xs, e, k, r⟩
        · exact b.dic w
        · exact ⟨a, xs, rfl, e, k, r⟩
      subst hk
      obtain ⟨z, e3, r3⟩ := find_kvs ra e2
      cases rx
      have g : DGet H a (kV (.inl k)) (some z) := by rw [← e3]; exact .k ha
      exact tail_any (dict_typeIs I g) PySem.F.slot_dict_getitem.lookup (d_getItem hu I g ry fun w' s' I' rw' => ⟨z, H, I', rw', c.flatV w r3⟩) hs
    | dcz ks ds =>
      obtain ⟨a, o, kvs, rfl, ha, hk, ra⟩ : ∃ a o kvs, x = .ref a ∧ H a = some (.frz o (.dK kvs)) ∧ kvs.map (·.1) = ks ∧ Reps X.K F T (kvs.map (·.2)) ds := by
        rcases bx' with b | ⟨a, rfl, r⟩
        · exact b.dcz w
        · exact r.elim
      subst hk
      obtain ⟨z, e3, r3⟩ := find_kvs ra e2
      cases rx
      have g : DGet H a (kV (.inl k)) (some z) := by rw [← e3]; exact DGet.z ha
      exact tail_any (dict_typeIs I g) PySem.F.slot_dict_getitem.lookup (d_getItem hu I g ry fun w' s' I' rw' => ⟨z, H, I', rw', c.flatV w r3⟩) hs
    | _ => cases e2
  | str k =>
    cases by_.str
    cases dx' with
    | dic ks ds =>
      obtain ⟨a, kvs, rfl, ha, hk, ra⟩ : ∃ a kvs, x = .ref a ∧ H a = some (.dK kvs) ∧ kvs.map (·.1) = ks ∧ Reps X.K F T (kvs.map (·.2)) ds := by
        rcases bx' with b | ⟨a, rfl, xs, e, k, r⟩
        · exact b.dic w
        · exact ⟨a, xs, rfl, e, k, r⟩
      subst hk
      obtain ⟨z, e3, r3⟩ := find_kvs ra e2
      cases rx
      have g : DGet H a (kV (.inr k)) (some z) := by rw [← e3]; exact .k ha
      exact tail_any (dict_typeIs I g) PySem.F.slot_dict_getitem.lookup (d_getItem hu I g ry fun w' s' I' rw' => ⟨z, H, I', rw', c.flatV w r3⟩) hs
    | dcz ks ds =>
      obtain ⟨a, o, kvs, rfl, ha, hk, ra⟩ : ∃ a o kvs, x = .ref a ∧ H a = some (.frz o (.dK kvs)) ∧ kvs.map (·.1) = ks ∧ Reps X.K F T (kvs.map (·.2)) ds := by
        rcases bx' with b | ⟨a, rfl, r⟩
        · exact b.dcz w
        · exact r.elim
      subst hk
      obtain ⟨z, e3, r3⟩ := find_kvs ra e2
      cases rx
      have g : DGet H a (kV (.inr k)) (some z) := by rw [← e3]; exact DGet.z ha
      exact tail_any (dict_typeIs I g) PySem.F.slot_dict_getitem.lookup (d_getItem hu I g ry fun w' s' I' rw' => ⟨z, H, I', rw', c.flatV w r3⟩) hs
    | _ => cases e2
  | _ => cases dx' <;> cases e2
theorem cut_same {α β : Type} {xs : List α} {ys : List β} (h : xs.length = ys.length) {lo hi : Option Int} (c : HT.sIx xs.length 0 lo = 0 ∧ HT.sIx xs.length xs.length hi = xs.length) : cutD ys lo hi = ys := by
  unfold cutD
  rw [← h, c.1, c.2]
  simp [h]
theorem reps_cut {K : PySem.W.Frag} {F : Hp} {T : List Addr} {vs : List V} {ds : List D} (r : Reps K F T vs ds) (lo hi : Option Int) : Reps K F T (cutV vs lo hi) (cutD ds lo hi) := by
  unfold cutV cutD
  rw [r.length]
  exact (r.drop _).take _
def rSlD (K : PySem.W.Frag) : V → Option Int → Option Int → Hp → VK → Prop := fun x lo hi H Q => ∃ F T st dx d, WF K F T st H ∧ Bor K F T H x dx ∧ slD dx lo hi = some d ∧ Cont K F T st H (rD K) d Q
theorem sl_D : SlR X (rSlD X.K) := by
  intro pins s σ H x v vl vu lo hi sl Q I rx hs pl pu h
  obtain ⟨F, T, st, dx, d, w, bx, e, c⟩ := h
  cases dx with
  | lst ds =>
    obtain ⟨a, vs, rfl, ha, ra⟩ := bx.lst w
    cases e
    exact sl_list pins s σ H _ v vl vu lo hi sl Q I rx hs pl pu ⟨a, vs, rfl, .of ha, fun p hp => c.lst w (reps_cut ra lo hi) hp⟩
  | tup ds =>
    obtain ⟨a, vs, rfl, ha, ra⟩ := bx.tup w
    cases e
    refine sl_tupA pins s σ H _ v vl vu lo hi sl Q I rx hs pl pu ⟨a, vs, rfl, ha, fun z => ?_, fun _ p hp => c.tup w (reps_cut ra lo hi) hp⟩
    rw [cut_same ra.length z] at c
    rcases bx with k | ⟨_, _, k, _⟩
    · exact c.flat w rfl k
    · exact k.elim
  | str z =>
    cases bx.str
    simp only [slD] at e
    split at e
    · rename_i q
      cases e
      exact sl_str pins s σ H _ v vl vu lo hi sl Q I rx hs pl pu ⟨z, rfl, q, c.flat w rfl (.str _)⟩
    · cases e
  | _ => cases e
theorem tru_D {K : PySem.W.Frag} {F H : Hp} {T : List Addr} {st : Store} (w : WF K F T st H) {v : V} {d : D} {b : Bool} (r : Rep K F T v d) (h : truthD d = some b) : TruV K v H b := by
  cases r with
  | non => cases h; rfl
  | bl k => cases h; rfl
  | int i => cases h; rfl
  | str x =>
    simp only [truthD] at h
    split at h
    · rename_i q
      cases h
      refine ⟨q, ?_⟩
      rw [Bool.eq_iff_iff]; simp
    · cases h
  | tup q r => cases h; exact .inr (.inl ⟨_, sqT_mono w.fr q, by rw [reps_empty r]⟩)
  | lst q r => cases h; exact .inl ⟨_, .of (w.fr _ _ q), by rw [reps_empty r]⟩
  | _ => cases h
end
end Eng
set_option Elab.async false
set_option linter.all false
set_option maxRecDepth 100000
namespace Eng
open PySem PySem.Spec PyProof.Rows L2
section
variable {K : PySem.W.Frag} {F H : Hp} {T : List Addr} {st : Store}
theorem bors1 {vs : List V} {d : D} (h : Bors K F T H vs [d]) : ∃ v, vs = [v] ∧ Bor K F T H v d := by
  cases h with | cons a b => cases b; exact ⟨_, rfl, a⟩
theorem Bor.seq (w : WF K F T st H) {v : V} {d : D} {ds : List D} (h : Bor K F T H v d) (e : seqD d = some ds) : ∃ a xs, v = .ref a ∧ (SqL K H a xs ∨ SqT K H a xs) ∧ Reps K F T xs ds := by
  cases d with
  | lst xs => cases e; obtain ⟨a, vs, e, h, r⟩ := h.lst w; exact ⟨a, vs, e, .inl (.of h), r⟩
  | tup xs => cases e; obtain ⟨a, vs, e, h, r⟩ := h.tup w; exact ⟨a, vs, e, .inr h, r⟩
  | _ => cases e
theorem intsD_ok : ∀ {ds : List D} {ns : List Int}, intsD ds = some ns → ds = ns.map .int
  | [], _, h => by cases h; rfl
  | d :: ds, ns, h => by
    cases d with
    | int i =>
      obtain ⟨m, e, rfl⟩ := Option.map_eq_some_iff.mp (show (intsD ds).map (i :: ·) = some ns from h)
      rw [intsD_ok e]; rfl
    | _ => cases h
theorem strsD_ok : ∀ {ds : List D} {ns : List Str}, strsD ds = some ns → ds = ns.map .str
  | [], _, h => by cases h; rfl
  | d :: ds, ns, h => by
    cases d with
    | str i =>
      obtain ⟨m, e, rfl⟩ := Option.map_eq_some_iff.mp (show (strsD ds).map (i :: ·) = some ns from h)
      rw [strsD_ok e]; rfl
    | _ => cases h
theorem blsD_ok : ∀ {ds : List D} {ns : List Bool}, blsD ds = some ns → ds = ns.map .bl
  | [], _, h => by cases h; rfl
  | d :: ds, ns, h => by
    cases d with
    | bl i =>
      obtain ⟨m, e, rfl⟩ := Option.map_eq_some_iff.mp (show (blsD ds).map (i :: ·) = some ns from h)
      rw [blsD_ok e]; rfl
    | _ => cases h
theorem reps_ints : ∀ {ns : List Int} {vs : List V}, Reps K F T vs (ns.map .int) → vs = ns.map .int
  | [], _, h => by cases h; rfl
  | n :: ns, _, h => by cases h with | cons a b => cases a; rw [reps_ints b]; rfl
theorem reps_strs : ∀ {ns : List Str} {vs : List V}, Reps K F T vs (ns.map .str) → vs = ns.map .str
  | [], _, h => by cases h; rfl
  | n :: ns, _, h => by cases h with | cons a b => cases a; rw [reps_strs b]; rfl
theorem reps_bls : ∀ {ns : List Bool} {vs : List V}, Reps K F T vs (ns.map .bl) → vs = ns.map .bl
  | [], _, h => by cases h; rfl
  | n :: ns, _, h => by cases h with | cons a b => cases a; rw [reps_bls b]; rfl
theorem of_strs : ∀ (ns : List Str), Reps K F T (ns.map .str) (ns.map .str)
  | [] => .nil
  | _ :: ns => .cons (.str _) (of_strs ns)
end
/-- a built-in function by data -/
def rBi (K : PySem.W.Frag) (b : String) : List V → Hp → VK → Prop := fun vs H Q => ∃ F T st ds d, WF K F T st H ∧ Bors K F T H vs ds ∧ biD b ds = some d ∧ Cont K F T st H (rD K) d Q
section
variable {X : Cx}
theorem bi_len : CallR X (.builtin "len") (rBi X.K "len") := by
  intro pins s σ H vs us Q I r h
  obtain ⟨F, T, st, ds, d, w, bs, e, c⟩ := h
  match ds, bs, e with
  | [x], bs, e =>
    obtain ⟨v, rfl, b⟩ := bors1 bs
    obtain ⟨n, e1, rfl⟩ := Option.map_eq_some_iff.mp (show (lenD x).map (fun (n : Nat) => D.int (n : Int)) = some d from e)
    have fin : Q (.int (n : Nat)) H := c.flat w rfl (.int _)
    cases x with
    | str z =>
      cases b.str
      simp only [lenD] at e1
      split at e1
      · rename_i q; cases e1; exact call_len_str pins s σ H _ us Q I r ⟨z, rfl, q, fin⟩
      · cases e1
    | lst xs => cases e1; obtain ⟨a, ws, rfl, ha, ra⟩ := b.lst w; exact call_len_seq pins s σ H _ us Q I r ⟨a, ws, rfl, .inl (.of ha), by rw [ra.length]; exact fin⟩
    | tup xs => cases e1; obtain ⟨a, ws, rfl, ha, ra⟩ := b.tup w; exact call_len_seq pins s σ H _ us Q I r ⟨a, ws, rfl, .inr ha, by rw [ra.length]; exact fin⟩
    | scr ns => cases e1; obtain ⟨a, rfl, ha⟩ := b.scr w; exact call_len_seq pins s σ H _ us Q I r ⟨a, _, rfl, .inl ha, by rw [List.length_map]; exact fin⟩
    | dic ks xs =>
      cases e1
      obtain ⟨a, kvs, rfl, ha, hk, ra⟩ := b.dic w
      exact call_lenD pins s σ H _ us Q I r ⟨a, kvs, rfl, ha, by rw [← hk, List.length_map] at fin; exact fin⟩
    | dcz ks xs =>
      cases e1
      obtain ⟨a, o, kvs, rfl, ha, hk, ra⟩ := b.dcz w
      obtain ⟨u, rfl, ru⟩ := vals1 r
      cases ru
      rw [← hk, List.length_map] at fin
      exact d_len I (.inr ⟨o, ha⟩) fun t s' I' => ⟨.int kvs.length, H, I', ⟨t, rfl⟩, fin⟩
    | _ => cases e1
theorem cr_sumT (hc : X.calm = true) : CallR X (.builtin "sum") (fun vs H Q => ∃ (a : Addr) (ns : List Int), vs = [V.ref a] ∧ SqT X.K H a (ns.map V.int) ∧ Q (.int ns.sum) H) := by
  intro pins s σ H vs us Q I r h
  obtain ⟨a, ns, rfl, hs, q⟩ := h
  obtain ⟨its, rv, hl, _⟩ := I.tuple hs
  rw [Vals.ref1 r]
  have hi := rv.ints
  obtain ⟨xs, e⟩ := hi.allInts.items
  have hn : numsOf (intItems xs).toList = ns := by rw [← e]; exact hi.numsOf
  rw [nums_intItems] at hn
  have hl : s.heap.IsTuple a its.toArray := hl
  rw [e] at hl
  refine PySem.W.ktm_sumG (I.ok.hd hc) hl fun h' tk t' hk => ?_
  rw [preSum_eq, List.take_of_length_le (by simp), hn]
  exact ⟨.int _, H, I.kept hk, ⟨_, rfl⟩, q⟩
theorem bi_sum (hc : X.calm = true) : CallR X (.builtin "sum") (rBi X.K "sum") := by
  intro pins s σ H vs us Q I r h
  obtain ⟨F, T, st, ds, d, w, bs, e, c⟩ := h
  match ds, bs, e with
  | [.lst xs], bs, e =>
    obtain ⟨v, rfl, b⟩ := bors1 bs
    obtain ⟨ns, e1, rfl⟩ := Option.map_eq_some_iff.mp (show (intsD xs).map (fun ns => D.int ns.sum) = some d from e)
    cases intsD_ok e1
    obtain ⟨a, ws, rfl, ha, ra⟩ := b.lst w
    cases reps_ints ra
    exact cr_sum hc pins s σ H _ us Q I r ⟨a, ns, rfl, .of ha, c.flat w rfl (.int _)⟩
  | [.tup xs], bs, e =>
    obtain ⟨v, rfl, b⟩ := bors1 bs
    obtain ⟨ns, e1, rfl⟩ := Option.map_eq_some_iff.mp (show (intsD xs).map (fun ns => D.int ns.sum) = some d from e)
    cases intsD_ok e1
    obtain ⟨a, ws, rfl, ha, ra⟩ := b.tup w
    cases reps_ints ra
    exact cr_sumT hc pins s σ H _ us Q I r ⟨a, ns, rfl, ha, c.flat w rfl (.int _)⟩
theorem bi_int : CallR X (.type "int") (rBi X.K "int") := by
  intro pins s σ H vs us Q I r h
  obtain ⟨F, T, st, ds, d, w, bs, e, c⟩ := h
  match ds, bs, e with
  | [.int i], bs, e =>
    obtain ⟨v, rfl, b⟩ := bors1 bs
    cases b.int; cases e
    exact call_int1 pins s σ H _ us Q I r (.inl ⟨i, rfl, c.flat w rfl (.int _)⟩)
  | [.bl k], bs, e =>
    obtain ⟨v, rfl, b⟩ := bors1 bs
    cases b.bl; cases e
    exact call_int1 pins s σ H _ us Q I r (.inr ⟨k, rfl, c.flat w rfl (.int _)⟩)
  | [.str x], bs, e =>
    obtain ⟨v, rfl, b⟩ := bors1 bs
    cases b.str
    have e : (if x.length ≤ 640 then (PySem.intText? x).map D.int else none) = some d := e
    split at e
    · rename_i q
      obtain ⟨n, e1, rfl⟩ := Option.map_eq_some_iff.mp e
      exact call_int_str pins s σ H _ us Q I r ⟨x, n, rfl, e1, q, c.flat w rfl (.int _)⟩
    · cases e
theorem bi_str : CallR X (.type "str") (rBi X.K "str") := by
  intro pins s σ H vs us Q I r h
  obtain ⟨F, T, st, ds, d, w, bs, e, c⟩ := h
  match ds, bs, e with
  | [.int i], bs, e =>
    obtain ⟨v, rfl, b⟩ := bors1 bs
    cases b.int
    have e : (if i.natAbs.log2 < 1920 then some (D.str (toString i)) else none) = some d := e
    split at e
    · rename_i q
      cases e
      exact call_str_int pins s σ H _ us Q I r ⟨i, rfl, q, c.flat w rfl (.str _)⟩
    · cases e
theorem bi_all (hc : X.calm = true) : CallR X (.builtin "all") (rBi X.K "all") := by
  intro pins s σ H vs us Q I r h
  obtain ⟨F, T, st, ds, d, w, bs, e, c⟩ := h
  match ds, bs, e with
  | [.lst xs], bs, e =>
    obtain ⟨v, rfl, b⟩ := bors1 bs
    obtain ⟨ns, e1, rfl⟩ := Option.map_eq_some_iff.mp (show (blsD xs).map (fun bs => D.bl (bs.all id)) = some d from e)
    cases blsD_ok e1
    obtain ⟨a, ws, rfl, ha, ra⟩ := b.lst w
    cases reps_bls ra
    exact cr_all hc pins s σ H _ us Q I r ⟨a, ns, rfl, .of ha, c.flat w rfl (.bl _)⟩
theorem bi_tuple : CallR X (.type "tuple") (rBi X.K "tuple") := by
  intro pins s σ H vs us Q I r h
  obtain ⟨F, T, st, ds, d, w, bs, e, c⟩ := h
  match ds, bs, e with
  | [x], bs, e =>
    obtain ⟨v, rfl, b⟩ := bors1 bs
    obtain ⟨xs, e1, rfl⟩ := Option.map_eq_some_iff.mp (show (seqD x).map .tup = some d from e)
    cases x with
    | lst ys =>
      cases e1
      obtain ⟨a, ws, rfl, ha, ra⟩ := b.lst w
      exact call_tuple_of pins s σ H _ us Q I r ⟨a, ws, rfl, .inl ⟨.of ha, fun l hl => c.tup w ra hl⟩⟩
    | tup ys =>
      cases e1
      obtain ⟨a, ws, rfl, ha, ra⟩ := b.tup w
      refine call_tuple_of pins s σ H _ us Q I r ⟨a, ws, rfl, .inr ⟨ha, ?_⟩⟩
      rcases b with k | ⟨_, _, k, _⟩
      · exact c.flat w rfl k
      · exact k.elim
    | _ => cases e1
/-- a value that stands for data -/
def Sees (K : PySem.W.Frag) (F : Hp) (T : List Addr) (u : Value) (d : D) : Prop := ∃ v, RelV v u ∧ Rep K F T v d
theorem sees_each {F : Hp} {T : List Addr} : ∀ {vs : List V} {us : List Value} {ds : List D}, Vals vs us → Reps X.K F T vs ds → PySem.W.EachIs (Sees X.K F T) us ds
  | _, _, _, .nil, .nil => .nil
  | _, _, _, .cons r rs, .cons p ps => .cons ⟨_, r, p⟩ (sees_each rs ps)
theorem each_sees {F : Hp} {T : List Addr} : ∀ {us : List Value} {ds : List D}, PySem.W.EachIs (Sees X.K F T) us ds → ∃ vs, Vals vs us ∧ Reps X.K F T vs ds
  | _, _, .nil => ⟨[], .nil, .nil⟩
  | _, _, .cons ⟨v, r, p⟩ e => by
    obtain ⟨vs, rs, ps⟩ := each_sees e
    exact ⟨v :: vs, .cons r rs, .cons p ps⟩
theorem sees_reads {pins : List (Addr × Obj)} {σ : L2.St} {H : Hp} {s : Shared} {F : Hp} {T : List Addr} (I : Inv X pins σ H s) (sm : Same F H) : ∀ {us : List Value} {ds : List D}, PySem.W.EachIs (Sees X.K F T) us ds → ds.all (dataF 20) = true →
    PySem.W.EachIs (fun v b => ∃ as, Reads s.heap v (py b) as) us ds
  | _, _, .nil, _ => .nil
  | _, _, .cons (b := d) ⟨v, r, p⟩ e, h => by
    simp only [List.all_cons, Bool.and_eq_true] at h
    exact .cons (Dp.reads I _ _ _ (dp_repF sm 20 d v h.1 p) r) (sees_reads I sm e h.2)
end
section
variable {prog : Program} {w : World} {A : Around} {E : Value → Shared → Prop} {s : Shared} {β : Type} {vs : List Value} {bs : List β} {enc : β → PyData} {R : Value → β → Prop}
theorem collect_tup {l : Addr} {Q : List Value → Shared → Prop} (hl : s.heap.IsTuple l vs.toArray)
    (h : Q vs { s with heap := (s.heap.push (seqObj "list" #[] 0)).update s.heap.objs.size (Obj.mapSeq (· ++ vs.toArray)) }) (hsz : vs.length ≤ sizeLine) :
    wpAny (model prog w) A (collect (.ref l)) Q E s := by
  obtain ⟨o, ho, hc, n, hd⟩ := id hl
  unfold collect
  refine wpAny_bind (wpAny_runValue (codeAny_builtin entry_proto_collect' ?_))
  show wpAny _ _ (do again (.builtin "list.__iadd__" ⟨[← newList [], .ref l], []⟩)) _ _ s
  refine wpAny_bind (wpAny_newList (wpAny_pure ⟨Code.quiet_builtin _ (by decide +kernel), codeAny_builtin entry_list_iadd' ?_⟩))
  show wpAny _ _ (Builtin.List.listExtendWith (.ref s.heap.objs.size) (.ref l) (.ref s.heap.objs.size)) _ _ { s with heap := s.heap.push (seqObj "list" #[] 0) }
  unfold Builtin.List.listExtendWith
  have ho' : (s.heap.push (seqObj "list" #[] 0)).get? l = some o := Heap.get?_push_of_some _ ho
  refine wpAny_bind (wpAny_typeOf (T := "tuple") ⟨o, ho', hc⟩ ?_)
  have ht : (Value.type "tuple" == Value.type "tuple") = true := by rfl
  rw [if_pos (by rw [ht]; simp)]
  refine wpAny_bind (listItems_at ho' hd ?_)
  refine wpAny_bind (listItems_at (xs := #[]) (n := 0) (Heap.get?_push_size _ rfl) rfl ?_)
  rw [if_neg (by simp)]
  refine wpAny_bind (listUpdate_at (xs := #[]) (n := 0) (Heap.get?_push_size _ rfl) rfl ?_ (Nat.zero_le _) (by show (#[] ++ vs.toArray).size ≤ sizeLine + 1; simp only [Array.size_append, List.size_toArray, List.length_nil]; omega))
  refine wpAny_pure ?_
  show wpAny (model prog w) A (do
      let o ← load s.heap.objs.size
      match o.data with
      | .seq xs _ => pure xs.toList
      | _ => unsupported "internal:collect") Q E { s with heap := (s.heap.push (seqObj "list" #[] 0)).update s.heap.objs.size (Obj.mapSeq (· ++ vs.toArray)) }
  refine wpAny_bind (wpAny_load (get?_update_seq (Heap.get?_push_size _ rfl) _) ?_)
  show wpAny _ _ (pure ((#[] : Array Value) ++ vs.toArray).toList) Q E _
  rw [show ((#[] : Array Value) ++ vs.toArray).toList = vs by simp]
  exact wpAny_pure h
theorem sorted_ofT {l : Addr} {kw : List (Str × Value)} {Q : Value → Shared → Prop} (hl : s.heap.IsTuple l vs.toArray) (hL : vs.length ≤ sizeLine) (ha1 : argsOk "sorted" ⟨[.ref l], kw⟩) (ha2 : ∀ x, argsOk "list.sort" ⟨[.ref x], kw⟩)
    (body : ∀ E' : Value → Shared → Prop, wpAny (model prog w) A.in1.in1 (Builtin.«list.sort» ⟨[.ref (s.heap.objs.size + 1)], kw⟩) (fun f s' => f = .done (.ret .none) ∧ Q (.ref (s.heap.objs.size + 1)) s') E' { s with heap := PySem.W.copyHeap s.heap vs }) :
    wpAny (model prog w) A (call (.builtin "sorted") [.ref l] kw) Q E s := by
  refine call_function_entry_kw kind_sorted plain_sorted entry_sorted ha1 ?_
  unfold Builtin.«sorted»
  refine wpAny_bind (m := checkCount "sorted" 1 1 _) (wpAny_pure ?_)
  refine wpAny_bind (collect_tup hl ?_ hL)
  refine wpAny_bind (wpAny_newList ?_ hL)
  have hsz : ((s.heap.push (seqObj "list" #[] 0)).update s.heap.objs.size (Obj.mapSeq (· ++ vs.toArray))).objs.size = s.heap.objs.size + 1 := by
    rw [Heap.size_update, size_push']
  show wpAny _ _ _ _ _ { s with heap := PySem.W.copyHeap s.heap vs }
  rw [hsz]
  refine wpAny_bind (wpAny_holding (wpAny_call_entry_kw slot_list_sort ⟨_, PySem.W.copyHeap_at s.heap vs, rfl⟩ entry_list_sort ?body (ha2 _)))
  case body =>
    show wpAny (model prog w) A.in1.in1 (Builtin.«list.sort» ⟨[.ref (s.heap.objs.size + 1)], kw⟩) _ _ _
    refine wpAny_mono (body _) (fun f s' hf => ?_) fun _ _ e => e
    obtain ⟨rfl, hq⟩ := hf
    exact ⟨_, rfl, wpAny_pure ⟨_, rfl, hq⟩⟩
/-- sorted(xs) of a tuple -/
theorem sorted_dataT {l : Addr} {Q : Value → Shared → Prop} (hl : s.heap.IsTuple l vs.toArray) (e : PySem.W.EachIs R vs bs) (er : PySem.W.EachIs (fun v b => ∃ as, Reads s.heap v (enc b) as) vs bs) (hal : PySem.W.AllAlike (bs.map enc)) (hk : PySem.W.Sortable (bs.map enc)) (hL : bs.length ≤ sizeLine)
    (hu : ∀ b, b ∈ bs → A.units + 2 + (enc b).depth < cLine) (h : ∀ out, out.length = bs.length → PySem.W.EachIs R out (bs.mergeSort (PySem.W.dataLe false enc)) → Q (.ref (s.heap.objs.size + 1)) { s with heap := sortedAll s.heap vs (List.toArray out) }) :
    wpAny (model prog w) A (call (.builtin "sorted") [.ref l]) Q E s := by
  have er' : PySem.W.EachIs (fun v b => ∃ as, Reads (PySem.W.sortingHeap (PySem.W.copyHeap s.heap vs) (s.heap.objs.size + 1) vs) v (enc b) as) vs bs := er.mono fun _ _ ⟨as, r⟩ => ⟨as, PyProof.Rows.Reads.keeps (fun _ _ => PySem.W.sorting_copy_old) r⟩
  have S := PySem.W.SortsAt.data (prog := prog) (w := w) (A := A.in1.in1) (s := { s with heap := PySem.W.sortingHeap (PySem.W.copyHeap s.heap vs) (s.heap.objs.size + 1) vs }) (PySem.W.each_map (R := fun v d => ∃ as, Reads (PySem.W.sortingHeap (PySem.W.copyHeap s.heap vs) (s.heap.objs.size + 1) vs) v d as) enc er') hal hk (PySem.W.bound_map hu)
  exact sorted_ofT hl (by rw [e.length]; exact hL) (args_sorted1 _) (fun _ => args_list_sort _) fun _ => PySem.W.list_sort_vals (s := { s with heap := PySem.W.copyHeap s.heap vs }) (PySem.W.copyHeap_at s.heap vs) S (by rw [e.length]; exact hL)
    ⟨rfl, h _ (by rw [PySem.W.sortVals_length false rfl]; exact e.length) (PySem.W.sortVals_data false e er' hal)⟩
end
section
variable {X : Cx}
theorem bi_sorted (hu : X.A.units + 64 < cLine) : CallR X (.builtin "sorted") (rBi X.K "sorted") := by
  intro pins s σ H vs us Q I r h
  obtain ⟨F, T, st, ds, d, w, bs, e, c⟩ := h
  match ds, bs, e with
  | [.lst xs], bs, e =>
    obtain ⟨v, rfl, b⟩ := bors1 bs
    obtain ⟨a, ws, rfl, ha, ra⟩ := b.lst w
    have e : (if sortOk xs = true then some (D.lst (xs.mergeSort leD)) else none) = some d := e
    split at e
    · rename_i q
      cases e
      unfold sortOk at q
      simp only [Bool.and_eq_true, Bool.or_eq_true] at q
      obtain ⟨⟨q1, q2⟩, q3⟩ := q
      obtain ⟨its, rv, pl, hz⟩ := I.list (.of ha)
      rw [Vals.ref1 r]
      have es := sees_each rv ra
      have hl : xs.length ≤ sizeLine := by rw [← ra.length]; exact hz
      refine PySem.W.sorted_data (enc := py) (R := Sees X.K F T) pl.isList es (sees_reads I w.fr es q1) ?_ ?_ hl (fun b hb => ?_) fun out ho eo => ?_
      · intro d1 h1 d2 h2
        obtain ⟨a1, m1, rfl⟩ := List.mem_map.mp h1
        obtain ⟨a2, m2, rfl⟩ := List.mem_map.mp h2
        exact List.all_eq_true.mp (List.all_eq_true.mp q2 a1 m1) a2 m2
      · rcases q3 with q3 | q3
        · refine .inl fun d1 h1 => ?_
          obtain ⟨a1, m1, rfl⟩ := List.mem_map.mp h1
          have z := List.all_eq_true.mp q3 a1 m1
          cases a1 with
          | tup ys =>
            cases ys with
            | nil => cases z
            | cons y ys => exact ⟨py y, pys ys, by rw [py, pys]⟩
          | _ => cases z
        · refine .inr fun d1 h1 => ?_
          obtain ⟨a1, m1, rfl⟩ := List.mem_map.mp h1
          have z := List.all_eq_true.mp q3 a1 m1
          have z1 := List.all_eq_true.mp q1 a1 m1
          cases a1 <;> first | (simp [py]; done) | (cases z; done) | (cases z1; done)
      · have := depth_pyF 20 b (List.all_eq_true.mp q1 b hb); omega
      · obtain ⟨ws', rv', ra'⟩ := each_sees eo
        obtain ⟨ep, he'⟩ := PyProof.Rows.sortedAll_at s.heap its out.toArray
        have hlen : ws'.length ≤ sizeLine := by rw [rv'.length, ho]; exact hl
        exact ⟨.ref _, upd H (s.heap.objs.size + 1) (.lst ws'), I.laid (t' := s.toks) (fun _ _ => PyProof.Rows.sortedAll_old) (Nat.le_succ _) ⟨hlen, out, ep, rv', he'⟩, rfl, c.lst w ra' (I.hok.fresh (Nat.le_succ _))⟩
    · cases e
  | [.tup xs], bs, e =>
    obtain ⟨v, rfl, b⟩ := bors1 bs
    obtain ⟨a, ws, rfl, ha, ra⟩ := b.tup w
    have e : (if sortOk xs = true then some (D.lst (xs.mergeSort leD)) else none) = some d := e
    split at e
    · rename_i q
      cases e
      unfold sortOk at q
      simp only [Bool.and_eq_true, Bool.or_eq_true] at q
      obtain ⟨⟨q1, q2⟩, q3⟩ := q
      obtain ⟨its, rv, pl, hz⟩ := I.tuple ha
      rw [Vals.ref1 r]
      have es := sees_each rv ra
      have hl : xs.length ≤ sizeLine := by rw [← ra.length]; exact hz
      refine sorted_dataT (enc := py) (R := Sees X.K F T) pl es (sees_reads I w.fr es q1) ?_ ?_ hl (fun b hb => ?_) fun out ho eo => ?_
      · intro d1 h1 d2 h2
        obtain ⟨a1, m1, rfl⟩ := List.mem_map.mp h1
        obtain ⟨a2, m2, rfl⟩ := List.mem_map.mp h2
        exact List.all_eq_true.mp (List.all_eq_true.mp q2 a1 m1) a2 m2
      · rcases q3 with q3 | q3
        · refine .inl fun d1 h1 => ?_
          obtain ⟨a1, m1, rfl⟩ := List.mem_map.mp h1
          have z := List.all_eq_true.mp q3 a1 m1
          cases a1 with
          | tup ys =>
            cases ys with
            | nil => cases z
            | cons y ys => exact ⟨py y, pys ys, by rw [py, pys]⟩
          | _ => cases z
        · refine .inr fun d1 h1 => ?_
          obtain ⟨a1, m1, rfl⟩ := List.mem_map.mp h1
          have z := List.all_eq_true.mp q3 a1 m1
          have z1 := List.all_eq_true.mp q1 a1 m1
          cases a1 <;> first | (simp [py]; done) | (cases z; done) | (cases z1; done)
      · have := depth_pyF 20 b (List.all_eq_true.mp q1 b hb); omega
      · obtain ⟨ws', rv', ra'⟩ := each_sees eo
        obtain ⟨ep, he'⟩ := PyProof.Rows.sortedAll_at s.heap its out.toArray
        have hlen : ws'.length ≤ sizeLine := by rw [rv'.length, ho]; exact hl
        exact ⟨.ref _, upd H (s.heap.objs.size + 1) (.lst ws'), I.laid (t' := s.toks) (fun _ _ => PyProof.Rows.sortedAll_old) (Nat.le_succ _) ⟨hlen, out, ep, rv', he'⟩, rfl, c.lst w ra' (I.hok.fresh (Nat.le_succ _))⟩
    · cases e
end
end Eng
set_option Elab.async false
set_option linter.all false
set_option maxRecDepth 100000
namespace Eng
open PySem PySem.Spec PyProof.Rows L2
/-- an ordinary operand -/
def okA : Expr → Bool
  | .Starred _ _ => false
  | .Set _ _ _ => false
  | .Slice _ _ _ _ => false
  | _ => true
/-- a test that is its value's truth -/
def okT : Expr → Bool
  | .UnaryOp .Not _ _ => false
  | .BoolOp _ _ _ => false
  | .IfExp _ _ _ _ => false
  | .Compare _ _ _ _ => false
  | _ => true
theorem okA_star {e : Expr} {es : List Expr} {env : PySem.Env} (h : okA e = true) : starEach (e :: es) env = (false, eval e env) :: starEach es env := by
  cases e <;> first | rfl | cases h
theorem okA_behind {e : Expr} {op : CmpOp} (h : okA e = true) : behindInMarks op e = false := by
  cases e <;> first | rfl | cases h
theorem okA_ix {e : Expr} (h : okA e = true) : PlainIx e := by
  intro o i
  cases e <;> first | rfl | cases h
theorem okT_plain {e : Expr} {env : PySem.Env} (h : okT e = true) (whole : Sem Value) : isTrue e env whole = (do let v ← whole; standAt e.pos; holding [v] (truthy v)) := by
  cases e with
  | UnaryOp op x p => cases op <;> first | rfl | cases h
  | _ => first | rfl | cases h
def okAs : List Expr → Bool
  | [] => true
  | e :: es => okA e && okAs es
theorem okAs_plain {env : PySem.Env} {pos : Pos} : ∀ {es : List Expr}, okAs es = true → (backTo pos (starEach es env)).any (·.1) = false
  | [], _ => rfl
  | e :: es, h => by
    obtain ⟨h1, h2⟩ := He.ba (show (okA e && okAs es) = true from h)
    rw [okA_star h1]
    show (false || (backTo pos (starEach es env)).any (·.1)) = false
    rw [okAs_plain h2]; rfl
theorem tX.imp {α β : Type} {K : PySem.W.Frag} {W : WW} {R R' : RR α β} {m : Env → Store → Out α} {σ : L2.St} {H : Hp} {Q : β → Hp → Prop} (h : tX K W R m σ H Q) (i : ∀ H F T H' a b, R' H F T H' a b → R H F T H' a b) : tX K W R' m σ H Q := by
  obtain ⟨F, T, st, env, w, eo, p⟩ := h
  refine ⟨F, T, st, env, w, eo, ?_⟩
  revert p
  cases m env st with
  | bad => exact id
  | ex c ks ds st => exact id
  | ok d st' => exact fun p b F' T' H' x w r => p b F' T' H' x w (i _ _ _ _ _ _ r)
section
variable {X : Cx} {W : WW} {C : Calls}
theorem bor_val {env : Env} {e : E} {m : Store → Out D} {st : Store} (h : ∀ i, e ≠ .var i) : bor env e m st = m st := by
  cases e <;> first | rfl | exact absurd rfl (h _)
/-- an operand of any kind that is no name -/
theorem s_bor {a : Expr} {e : E} (h : PE X a (tE X.K W C e)) (n : ∀ i, e ≠ .var i) : PE X a (tB X.K W C e) := impE h fun σ H Q ⟨F, T, st, env, w, eo, p⟩ => by
  refine ⟨F, T, st, env, w, eo, ?_⟩
  have p : Post X.K W σ F T H (rBo X.K) (bor env e (evE C env e) st) Q := p
  rw [bor_val n] at p
  show Post X.K W σ F T H (rV X.K) (evE C env e st) Q
  revert p
  cases evE C env e st with
  | bad => exact id
  | ex c ks ds st => exact id
  | ok d st' => exact fun p b F' T' H' x w r => p b F' T' H' x w (.inl r)
theorem getV_some {env : Env} {i : Nat} {d : D} (h : getV env i = some d) : env[i]? = some (.val d) := by
  unfold getV at h
  split at h
  · rename_i e; cases h; exact e
  · cases h
theorem s_var {i : Nat} {y : Str} {pos : Pos} (hN : X.N[i]? = some y) (hv : Vis X.env.scope y) (hd : (y == ("__debug__" : Str)) = false) (hcd : (y == ("__classdict__" : Str)) = false) : PE X (.Name y pos) (tE X.K W C (.var i)) :=
  impE (pe_var hN hv hd hcd) fun σ H Q ⟨F, T, st, env, w, eo, p⟩ => by
    have p : Post X.K W σ F T H (rV X.K) (ofO (getV env i) st) Q := p
    cases e : getV env i with
    | none => rw [e] at p; exact p.elim
    | some d =>
      rw [e] at p
      obtain ⟨v, e1, r⟩ := eo.at_ i _ (getV_some e)
      exact ⟨v, e1, p v F T H (.refl _ _ _) w r⟩
theorem s_varB {i : Nat} {y : Str} {pos : Pos} (hN : X.N[i]? = some y) (hv : Vis X.env.scope y) (hd : (y == ("__debug__" : Str)) = false) (hcd : (y == ("__classdict__" : Str)) = false) : PE X (.Name y pos) (tB X.K W C (.var i)) :=
  impE (pe_var hN hv hd hcd) fun σ H Q ⟨F, T, st, env, w, eo, p⟩ => by
    have p : Post X.K W σ F T H (rBo X.K) (ofO (getB env i) st) Q := p
    cases e : getB env i with
    | none => rw [e] at p; exact p.elim
    | some d =>
      rw [e] at p
      unfold getB at e
      split at e
      · rename_i q
        cases e
        obtain ⟨v, e1, r⟩ := eo.at_ i _ q
        exact ⟨v, e1, p v F T H (.refl _ _ _) w (.inl r)⟩
      · rename_i q
        cases e
        obtain ⟨a, e1, r, f, n, _⟩ := eo.at_ i _ q
        exact ⟨.ref a, e1, p _ F T H (.refl _ _ _) w (.inr ⟨a, rfl, r, f, n⟩)⟩
      · cases e
/-- a flat value as a V -/
def vOf : D → Option V
  | .non => some .non
  | .bl b => some (.bl b)
  | .int i => some (.int i)
  | .str x => some (.str x)
  | _ => none
theorem vOf_rep {K : PySem.W.Frag} {F : Hp} {T : List Addr} {d : D} {v : V} (h : vOf d = some v) : Rep K F T v d := by
  cases d <;> first | (cases h; constructor) | cases h
theorem s_const {e : Expr} {ir : E} {d : D} {v : V} (he : PE X e (tC v)) (h : vOf d = some v) (hi : ∀ env st, evE C env ir st = .ok d st) : PE X e (tE X.K W C ir) :=
  impE he fun σ H Q ⟨F, T, st, env, w, eo, p⟩ => by
    have p : Post X.K W σ F T H (rV X.K) (evE C env ir st) Q := p
    rw [hi] at p
    exact p v F T H (.refl _ _ _) w (vOf_rep h)
/-- behind two operands -/
theorem two {ea eb : E} {α β : Type} {R : RR α β} {f : Env → D → D → Store → Out α} {σ : L2.St} {H : Hp} {Q : β → Hp → Prop} (sh : Sh R)
    (h : tX X.K W R (fun env st => (bor env ea (evE C env ea) st).bnd fun x st => (bor env eb (evE C env eb) st).bnd fun y st => f env x y st) σ H Q) :
    tB X.K W C ea σ H fun x H1 => tB X.K W C eb σ H1 fun y H2 => ∃ F T st env dx dy, WF X.K F T st H2 ∧ EnvOk X.K W.xi F T H2 env σ ∧ Bor X.K F T H2 x dx ∧ Bor X.K F T H2 y dy ∧ Post X.K W σ F T H2 R (f env dx dy st) Q := by
  obtain ⟨F, T, st, env, w, eo, p⟩ := h
  refine ⟨F, T, st, env, w, eo, ?_⟩
  refine (Post.bnd (R1 := rBo X.K) sh p).mono fun x H1 ⟨F1, T1, st1, dx, x1, w1, r1, p1⟩ => ?_
  refine ⟨F1, T1, st1, env, w1, eo.ext x1, ?_⟩
  refine (Post.bnd (R1 := rBo X.K) sh p1).mono fun y H2 ⟨F2, T2, st2, dy, x2, w2, r2, p2⟩ => ?_
  exact ⟨F2, T2, st2, env, dx, dy, w2, (eo.ext x1).ext x2, Bor.ext r1 x2, r2, p2⟩
theorem cont_of {F H : Hp} {T : List Addr} {st : Store} {R : RR D V} {o : Option D} {σ : L2.St} {Q : VK} (p : Post X.K W σ F T H R (ofO o st) Q) : ∃ d, o = some d ∧ Cont X.K F T st H R d Q := by
  cases o with
  | none => exact p.elim
  | some d => exact ⟨d, rfl, p⟩
theorem s_bin {op : Operator} {a b : Expr} {ea eb : E} {pos : Pos} (ha : PE X a (tB X.K W C ea)) (hb : PE X b (tB X.K W C eb)) : PE X (.BinOp a op b pos) (tDr X.K W C (.bin op ea eb)) :=
  impE (pe_op op_bin ha hb) fun σ H Q h => by
    obtain ⟨F, T, st, env, w, eo, p⟩ := two (f := fun env x y st => ofO (binD op x y) st) sh_D h
    refine ⟨F, T, st, env, w, eo, p.mono fun x H1 ⟨F1, T1, st1, env1, w1, eo1, p1⟩ => ⟨F1, T1, st1, env1, w1, eo1, p1.mono fun y H2 ⟨F2, T2, st2, env2, dx, dy, w2, eo2, bx, by_, p2⟩ => ?_⟩⟩
    obtain ⟨d, e, c⟩ := cont_of p2
    exact ⟨F2, T2, st2, dx, dy, d, w2, bx, by_, e, c⟩
theorem two_r2 {ea eb : E} {g : D → D → Option D} {R : RR D V} (sh : Sh R) {σ : L2.St} {H : Hp} {Q : VK}
    (h : tX X.K W R (fun env st => (bor env ea (evE C env ea) st).bnd fun x st => (bor env eb (evE C env eb) st).bnd fun y st => ofO (g x y) st) σ H Q) : L2.tOp (rOp2 X.K g R) (tB X.K W C ea) (tB X.K W C eb) σ H Q := by
  obtain ⟨F, T, st, env, w, eo, p⟩ := two (f := fun env x y st => ofO (g x y) st) sh h
  refine ⟨F, T, st, env, w, eo, p.mono fun x H1 ⟨F1, T1, st1, env1, w1, eo1, p1⟩ => ⟨F1, T1, st1, env1, w1, eo1, p1.mono fun y H2 ⟨F2, T2, st2, env2, dx, dy, w2, eo2, bx, by_, p2⟩ => ?_⟩⟩
  obtain ⟨d, e, c⟩ := cont_of p2
  exact ⟨F2, T2, st2, dx, dy, d, w2, bx, by_, e, c⟩
theorem s_cmp (hu : X.A.units + 65 < cLine) {op : CmpOp} {a b : Expr} {ea eb : E} {pos : Pos} (ha : PE X a (tB X.K W C ea)) (hb : PE X b (tB X.K W C eb)) (ok : okA b = true) : PE X (.Compare a [op] [b] pos) (tE X.K W C (.cmp op ea eb)) :=
  impE (pe_cmpR (op_cmpD hu) ha hb (okA_behind ok)) fun σ H Q h => two_r2 sh_V h
theorem bl_of {x y : D} {op : CmpOp} {d : D} (h : (cmpD op x y).map D.bl = some d) : ∃ b, d = .bl b := by
  obtain ⟨b, _, rfl⟩ := Option.map_eq_some_iff.mp h
  exact ⟨b, rfl⟩
theorem s_cmpT (hu : X.A.units + 65 < cLine) {op : CmpOp} {a b : Expr} {ea eb : E} {pos : Pos} (ha : PE X a (tB X.K W C ea)) (hb : PE X b (tB X.K W C eb)) (ok : okA b = true) : PT X (.Compare a [op] [b] pos) (tT X.K W C (.cmp op ea eb)) :=
  impT (pt_cmpR (op_cmpD hu) ha hb (okA_behind ok)) fun σ H Q ⟨F, T, st, env, w, eo, p⟩ => by
    refine two_r2 (Q := fun x H' => ∃ k, x = .bl k ∧ Q k H') sh_V ⟨F, T, st, env, w, eo, ?_⟩
    have p : Post X.K W σ F T H rEq (((bor env ea (evE C env ea) st).bnd fun x st => (bor env eb (evE C env eb) st).bnd fun y st => ofO ((cmpD op x y).map .bl) st).bnd fun d st => ofO (truthD d) st) Q := p
    show Post X.K W σ F T H (rV X.K) ((bor env ea (evE C env ea) st).bnd fun x st => (bor env eb (evE C env eb) st).bnd fun y st => ofO ((cmpD op x y).map .bl) st) _
    revert p
    cases bor env ea (evE C env ea) st with
    | bad => exact id
    | ex c ks ds st => exact id
    | ok x st1 =>
      rw [Out.bnd_ok]
      cases bor env eb (evE C env eb) st1 with
      | bad => exact id
      | ex c ks ds st => exact id
      | ok y st2 =>
        rw [Out.bnd_ok]
        cases e : (cmpD op x y).map D.bl with
        | none => exact id
        | some d =>
          obtain ⟨b, rfl⟩ := bl_of e
          intro p v F' T' H' x w r
          cases r
          exact ⟨b, rfl, p b F' T' H' x w rfl⟩
end
end Eng
set_option Elab.async false
set_option linter.all false
set_option maxRecDepth 100000
namespace Eng
open PySem PySem.Spec PyProof.Rows L2
section
variable {X : Cx} {W : WW} {C : Calls}
/-- one step of an evaluation -/
theorem one {α β γ δ : Type} {R : RR α β} {R1 : RR γ δ} {m : Env → Store → Out γ} {f : Env → γ → Store → Out α} {σ : L2.St} {H : Hp} {Q : β → Hp → Prop} (sh : Sh R)
    (h : tX X.K W R (fun env st => (m env st).bnd fun x st => f env x st) σ H Q) :
    tX X.K W R1 m σ H fun b H1 => ∃ F T st env a, (∀ p, H1 p = none → H p = none) ∧ WF X.K F T st H1 ∧ EnvOk X.K W.xi F T H1 env σ ∧ R1 H F T H1 a b ∧ Post X.K W σ F T H1 R (f env a st) Q :=
  tX.bnd (f := f) sh h
theorem truth_of {F H : Hp} {T : List Addr} {st : Store} {d : D} {v : V} {σ : L2.St} {Q : Bool → Hp → Prop} (w : WF X.K F T st H) (r : Rep X.K F T v d) (p : Post X.K W σ F T H rEq (ofO (truthD d) st) Q) : ∃ k, TruV X.K v H k ∧ Q k H := by
  cases e : truthD d with
  | none => rw [e] at p; exact p.elim
  | some k => rw [e] at p; exact ⟨k, tru_D w r e, p k F T H (.refl _ _ _) w rfl⟩
theorem s_truth {a : Expr} {e : E} (h : PE X a (tE X.K W C e)) (ok : okT a = true) (he : ∀ env, evT C env e = tst (evE C env e)) : PT X a (tT X.K W C e) :=
  impT (pt_truth h (okT_plain ok)) fun σ H Q ⟨F, T, st, env, w, eo, p⟩ => by
    have p : Post X.K W σ F T H rEq (evT C env e st) Q := p
    rw [he] at p
    refine ⟨F, T, st, env, w, eo, (Post.bnd (R1 := rV X.K) sh_Eq p).mono fun x H1 ⟨F1, T1, st1, d, x1, w1, r1, p1⟩ => truth_of w1 r1 p1⟩
theorem s_notT {a : Expr} {e : E} {pos : Pos} (h : PT X a (tT X.K W C e)) : PT X (.UnaryOp .Not a pos) (tT X.K W C (.not e)) :=
  impT (pt_not h) fun σ H Q ⟨F, T, st, env, w, eo, p⟩ => by
    have p : Post X.K W σ F T H rEq ((evT C env e st).bnd fun b st => .ok (!b) st) Q := p
    refine ⟨F, T, st, env, w, eo, (Post.bnd (R1 := rEq) sh_Eq p).mono fun x H1 ⟨F1, T1, st1, d, x1, w1, r1, p1⟩ => ?_⟩
    have r1 : d = x := r1
    subst r1
    exact p1 _ F1 T1 H1 (.refl _ _ _) w1 rfl
theorem s_neg {a : Expr} {e : E} {pos : Pos} (h : PE X a (tE X.K W C e)) : PE X (.UnaryOp .USub a pos) (tE X.K W C (.neg e)) :=
  impE (pe_un un_neg h) fun σ H Q ⟨F, T, st, env, w, eo, p⟩ => by
    have p : Post X.K W σ F T H (rV X.K) ((evE C env e st).bnd fun x st => (match x with | .int i => .ok (.int (-i)) st | _ => .bad)) Q := p
    refine ⟨F, T, st, env, w, eo, (Post.bnd (R1 := rV X.K) sh_V p).mono fun x H1 ⟨F1, T1, st1, d, x1, w1, r1, p1⟩ => ?_⟩
    cases d with
    | int i => cases r1; exact ⟨i, rfl, p1 _ F1 T1 H1 (.refl _ _ _) w1 (.int _)⟩
    | _ => exact p1.elim
theorem s_ife {c a b : Expr} {ec ea eb : E} {pos : Pos} (hc : PT X c (tT X.K W C ec)) (ha : PE X a (tE X.K W C ea)) (hb : PE X b (tE X.K W C eb)) : PE X (.IfExp c a b pos) (tE X.K W C (.ife ec ea eb)) :=
  impE (pe_ifExp hc ha hb) fun σ H Q ⟨F, T, st, env, w, eo, p⟩ => by
    have p : Post X.K W σ F T H (rV X.K) ((evT C env ec st).bnd fun r st => (match r with | true => evE C env ea st | false => evE C env eb st)) Q := p
    refine ⟨F, T, st, env, w, eo, (Post.bnd (R1 := rEq) sh_V p).mono fun x H1 ⟨F1, T1, st1, d, x1, w1, r1, p1⟩ => ?_⟩
    have r1 : d = x := r1
    subst r1
    cases d with
    | true => exact iteT ⟨F1, T1, st1, env, w1, eo.ext x1, p1⟩
    | false => exact iteF ⟨F1, T1, st1, env, w1, eo.ext x1, p1⟩
theorem s_one {op : BoolOp} {a : Expr} {e : E} {pos : Pos} (h : PE X a (tE X.K W C e)) (f : Es → E) (hf : ∀ env, evE C env (f (.cons e .nil)) = fun st => (evE C env e st).bnd fun d st => .ok d st) : PE X (.BoolOp op [a] pos) (tE X.K W C (f (.cons e .nil))) :=
  impE (pe_one h) fun σ H Q ⟨F, T, st, env, w, eo, p⟩ => by
    refine ⟨F, T, st, env, w, eo, ?_⟩
    have p : Post X.K W σ F T H (rV X.K) (evE C env (f (.cons e .nil)) st) Q := p
    rw [hf] at p
    show Post X.K W σ F T H (rV X.K) (evE C env e st) Q
    have p : Post X.K W σ F T H (rV X.K) ((evE C env e st).bnd fun d st => Out.ok d st) Q := p
    revert p
    cases evE C env e st <;> exact fun p => p
theorem s_and {a b : Expr} {rest : List Expr} {ea eb : E} {es : Es} {pos : Pos} (ha : PE X a (tE X.K W C ea)) (hb : PE X (.BoolOp .And (b :: rest) pos) (tE X.K W C (.and (.cons eb es)))) :
    PE X (.BoolOp .And (a :: b :: rest) pos) (tE X.K W C (.and (.cons ea (.cons eb es)))) :=
  impE (pe_andT ha hb) fun σ H Q ⟨F, T, st, env, w, eo, p⟩ => by
    have p : Post X.K W σ F T H (rV X.K) ((evE C env ea st).bnd fun d st => (ofO (truthD d) st).bnd fun r st => (match r with | true => evE C env (.and (.cons eb es)) st | false => .ok d st)) Q := p
    refine ⟨F, T, st, env, w, eo, (Post.bnd (R1 := rV X.K) sh_V p).mono fun x H1 ⟨F1, T1, st1, d, x1, w1, r1, p1⟩ => ?_⟩
    cases q : truthD d with
    | none => rw [q] at p1; exact p1.elim
    | some k =>
      rw [q] at p1
      refine ⟨k, tru_D w1 r1 q, ?_⟩
      cases k with
      | true => exact iteT ⟨F1, T1, st1, env, w1, eo.ext x1, p1⟩
      | false => exact iteF (p1 _ F1 T1 H1 (.refl _ _ _) w1 r1)
/-- as tests -/
theorem w_and1 {a : Expr} {e : E} {pos : Pos} (h : PT X a (tT X.K W C e)) : PW X (.BoolOp .And [a] pos) (tT X.K W C (.and (.cons e .nil))) :=
  impW (pw_and1 h) fun σ H Q ⟨F, T, st, env, w, eo, p⟩ => by
    refine ⟨F, T, st, env, w, eo, ?_⟩
    have p : Post X.K W σ F T H rEq ((evT C env e st).bnd fun r st => .ok r st) Q := p
    show Post X.K W σ F T H rEq (evT C env e st) Q
    revert p
    cases evT C env e st <;> exact id
theorem w_or1 {a : Expr} {e : E} {pos : Pos} (h : PT X a (tT X.K W C e)) : PW X (.BoolOp .Or [a] pos) (tT X.K W C (.or (.cons e .nil))) :=
  impW (pw_or1 h) fun σ H Q ⟨F, T, st, env, w, eo, p⟩ => by
    refine ⟨F, T, st, env, w, eo, ?_⟩
    have p : Post X.K W σ F T H rEq ((evT C env e st).bnd fun r st => .ok r st) Q := p
    show Post X.K W σ F T H rEq (evT C env e st) Q
    revert p
    cases evT C env e st <;> exact id
theorem w_and {a b : Expr} {rest : List Expr} {ea eb : E} {es : Es} {pos : Pos} (ha : PT X a (tT X.K W C ea)) (hb : PW X (.BoolOp .And (b :: rest) pos) (tT X.K W C (.and (.cons eb es)))) :
    PW X (.BoolOp .And (a :: b :: rest) pos) (tT X.K W C (.and (.cons ea (.cons eb es)))) :=
  impW (pw_and ha hb) fun σ H Q ⟨F, T, st, env, w, eo, p⟩ => by
    have p : Post X.K W σ F T H rEq ((evT C env ea st).bnd fun r st => (match r with | true => evT C env (.and (.cons eb es)) st | false => .ok false st)) Q := p
    refine ⟨F, T, st, env, w, eo, (Post.bnd (R1 := rEq) sh_Eq p).mono fun x H1 ⟨F1, T1, st1, d, x1, w1, r1, p1⟩ => ?_⟩
    have r1 : d = x := r1
    subst r1
    cases d with
    | true => exact iteT ⟨F1, T1, st1, env, w1, eo.ext x1, p1⟩
    | false => exact iteF (p1 _ F1 T1 H1 (.refl _ _ _) w1 rfl)
theorem w_or {a b : Expr} {rest : List Expr} {ea eb : E} {es : Es} {pos : Pos} (ha : PT X a (tT X.K W C ea)) (hb : PW X (.BoolOp .Or (b :: rest) pos) (tT X.K W C (.or (.cons eb es)))) :
    PW X (.BoolOp .Or (a :: b :: rest) pos) (tT X.K W C (.or (.cons ea (.cons eb es)))) :=
  impW (pw_or ha hb) fun σ H Q ⟨F, T, st, env, w, eo, p⟩ => by
    have p : Post X.K W σ F T H rEq ((evT C env ea st).bnd fun r st => (match r with | true => .ok true st | false => evT C env (.or (.cons eb es)) st)) Q := p
    refine ⟨F, T, st, env, w, eo, (Post.bnd (R1 := rEq) sh_Eq p).mono fun x H1 ⟨F1, T1, st1, d, x1, w1, r1, p1⟩ => ?_⟩
    have r1 : d = x := r1
    subst r1
    cases d with
    | true => exact iteT (p1 _ F1 T1 H1 (.refl _ _ _) w1 rfl)
    | false => exact iteF ⟨F1, T1, st1, env, w1, eo.ext x1, p1⟩
theorem s_nil : PA X [] (tEs X.K W C .nil) := impA pa_nil fun σ H Q ⟨F, T, st, env, w, eo, p⟩ => p _ F T H (.refl _ _ _) w .nil
theorem s_cons {a : Expr} {as : List Expr} {e : E} {es : Es} (ha : PE X a (tE X.K W C e)) (hr : PA X as (tEs X.K W C es)) (ok : okA a = true) : PA X (a :: as) (tEs X.K W C (.cons e es)) :=
  impA (pa_cons ha hr (okA_star ok)) fun σ H Q ⟨F, T, st, env, w, eo, p⟩ => by
    have p : Post X.K W σ F T H (rVs X.K) ((evE C env e st).bnd fun d st => (evEs C env es st).bnd fun ds st => .ok (d :: ds) st) Q := p
    refine ⟨F, T, st, env, w, eo, (Post.bnd (R1 := rV X.K) sh_Vs p).mono fun x H1 ⟨F1, T1, st1, d, x1, w1, r1, p1⟩ => ?_⟩
    refine ⟨F1, T1, st1, env, w1, eo.ext x1, (Post.bnd (R1 := rVs X.K) sh_Vs p1).mono fun xs H2 ⟨F2, T2, st2, ds, x2, w2, r2, p2⟩ => ?_⟩
    exact p2 _ F2 T2 H2 (.refl _ _ _) w2 (.cons (Rep.mono x2.fr x2.pre r1) r2)
theorem b_nil : PA X [] (tBs X.K W C .nil) := impA pa_nil fun σ H Q ⟨F, T, st, env, w, eo, p⟩ => p _ F T H (.refl _ _ _) w .nil
theorem b_cons {a : Expr} {as : List Expr} {e : E} {es : Es} (ha : PE X a (tB X.K W C e)) (hr : PA X as (tBs X.K W C es)) (ok : okA a = true) : PA X (a :: as) (tBs X.K W C (.cons e es)) :=
  impA (pa_cons ha hr (okA_star ok)) fun σ H Q ⟨F, T, st, env, w, eo, p⟩ => by
    have p : Post X.K W σ F T H (rBs X.K) ((bor env e (evE C env e) st).bnd fun d st => (evBs C env es st).bnd fun ds st => .ok (d :: ds) st) Q := p
    refine ⟨F, T, st, env, w, eo, (Post.bnd (R1 := rBo X.K) sh_Bs p).mono fun x H1 ⟨F1, T1, st1, d, x1, w1, r1, p1⟩ => ?_⟩
    refine ⟨F1, T1, st1, env, w1, eo.ext x1, (Post.bnd (R1 := rBs X.K) sh_Bs p1).mono fun xs H2 ⟨F2, T2, st2, ds, x2, w2, r2, p2⟩ => ?_⟩
    exact p2 _ F2 T2 H2 (.refl _ _ _) w2 (.cons (Bor.ext r1 x2) r2)
theorem chk_ok {α : Type} {b : Bool} {a : α} {st : Store} {o : Out α} {β : Type} {R : RR α β} {F H : Hp} {T : List Addr} {σ : L2.St} {Q : β → Hp → Prop} (p : Post X.K W σ F T H R (chkO b o) Q) : b = true ∧ Post X.K W σ F T H R o Q := by
  cases b with
  | true => exact ⟨rfl, p⟩
  | false => exact p.elim
theorem s_tup {as : List Expr} {es : Es} {k : Nat} {pos : Pos} (ha : PA X as (tEs X.K W C es)) : PE X (.Tuple as k pos) (tE X.K W C (.tup es)) :=
  impE (pe_tup ha) fun σ H Q ⟨F, T, st, env, w, eo, p⟩ => by
    have p : Post X.K W σ F T H (rV X.K) ((evEs C env es st).bnd fun ds st => chkO (decide (ds.length ≤ sizeLine)) (.ok (.tup ds) st)) Q := p
    refine ⟨F, T, st, env, w, eo, (Post.bnd (R1 := rVs X.K) sh_V p).mono fun xs H1 ⟨F1, T1, st1, ds, x1, w1, r1, p1⟩ => ?_⟩
    obtain ⟨c, p1⟩ := chk_ok (a := D.non) (st := st) p1
    have r1 : Reps X.K F1 T1 xs ds := r1
    exact ⟨by rw [r1.length]; exact of_decide_eq_true c, fun q hq => p1 _ _ _ _ (Ext.new w1 hq) (w1.new hq) (new_tup w1 r1 hq)⟩
theorem s_lst {as : List Expr} {es : Es} {pos : Pos} (ha : PA X as (tEs X.K W C es)) : PE X (.List as pos) (tDr X.K W C (.lst es)) :=
  impE (pe_lst ha) fun σ H Q ⟨F, T, st, env, w, eo, p⟩ => by
    have p : Post X.K W σ F T H (rD X.K) ((evEs C env es st).bnd fun ds st => chkO (decide (ds.length ≤ sizeLine)) (.ok (.lst ds) st)) Q := p
    refine ⟨F, T, st, env, w, eo, (Post.bnd (R1 := rVs X.K) sh_D p).mono fun xs H1 ⟨F1, T1, st1, ds, x1, w1, r1, p1⟩ => ?_⟩
    obtain ⟨c, p1⟩ := chk_ok (a := D.non) (st := st) p1
    have r1 : Reps X.K F1 T1 xs ds := r1
    exact ⟨by rw [r1.length]; exact of_decide_eq_true c, fun q hq => Cont.lst w1 p1 r1 hq⟩
theorem s_ix (hu : X.A.units + 1 < cLine) {a i : Expr} {ea ei : E} {pos : Pos} (ha : PE X a (tB X.K W C ea)) (hi : PE X i (tE X.K W C ei)) (ok : okA i = true) : PE X (.Subscript a i pos) (tE X.K W C (.ix ea ei)) :=
  impE (pe_ix (ix_D hu) ha hi (okA_ix ok)) fun σ H Q ⟨F, T, st, env, w, eo, p⟩ => by
    have p : Post X.K W σ F T H (rV X.K) ((bor env ea (evE C env ea) st).bnd fun x st => (evE C env ei st).bnd fun k st => ofO ((deref st x).bind fun x => ixS x k) st) Q := p
    refine ⟨F, T, st, env, w, eo, (Post.bnd (R1 := rBo X.K) sh_V p).mono fun x H1 ⟨F1, T1, st1, dx, x1, w1, r1, p1⟩ => ?_⟩
    refine ⟨F1, T1, st1, env, w1, eo.ext x1, (Post.bnd (R1 := rV X.K) sh_V p1).mono fun y H2 ⟨F2, T2, st2, dy, x2, w2, r2, p2⟩ => ?_⟩
    obtain ⟨d, e, c⟩ := cont_of p2
    obtain ⟨dx', e1, e2⟩ := Option.bind_eq_some_iff.mp e
    exact ⟨F2, T2, st2, dx, dx', dy, d, w2, Bor.ext r1 x2, .inl r2, e1, e2, c⟩
theorem o_none : PO X none (tOp X.K W C .no) := impO po_none fun σ H Q ⟨F, T, st, env, w, eo, p⟩ => p _ F T H (.refl _ _ _) w rfl
theorem o_some {a : Expr} {e : E} (h : PE X a (tE X.K W C e)) : PO X (some a) (tOp X.K W C (.so e)) :=
  impO (po_some h) fun σ H Q ⟨F, T, st, env, w, eo, p⟩ => by
    have p : Post X.K W σ F T H rEq ((evE C env e st).bnd fun d st => (match d with | .int i => .ok (some i) st | _ => .bad)) Q := p
    refine ⟨F, T, st, env, w, eo, (Post.bnd (R1 := rV X.K) sh_Eq p).mono fun x H1 ⟨F1, T1, st1, d, x1, w1, r1, p1⟩ => ?_⟩
    cases d with
    | int i => cases r1; exact ⟨i, rfl, p1 _ F1 T1 H1 (.refl _ _ _) w1 rfl⟩
    | _ => exact p1.elim
theorem s_sl {a : Expr} {lo hi : Option Expr} {ea : E} {el eh : Op} {p2 pos : Pos} (ha : PE X a (tB X.K W C ea)) (hl : PO X lo (tOp X.K W C el)) (hh : PO X hi (tOp X.K W C eh)) : PE X (.Subscript a (.Slice lo hi none p2) pos) (tDr X.K W C (.sl ea el eh)) :=
  impE (pe_slice sl_D ha hl hh) fun σ H Q ⟨F, T, st, env, w, eo, p⟩ => by
    have p : Post X.K W σ F T H (rD X.K) ((bor env ea (evE C env ea) st).bnd fun x st => (evO C env el st).bnd fun l st => (evO C env eh st).bnd fun h st => ofO (slD x l h) st) Q := p
    refine ⟨F, T, st, env, w, eo, (Post.bnd (R1 := rBo X.K) sh_D p).mono fun x H1 ⟨F1, T1, st1, dx, x1, w1, r1, p1⟩ => ?_⟩
    refine ⟨F1, T1, st1, env, w1, eo.ext x1, (Post.bnd (R1 := rEq) sh_D p1).mono fun l H2 ⟨F2, T2, st2, l', x2, w2, r2, p2⟩ => ?_⟩
    have r2 : l' = l := r2
    subst r2
    refine ⟨F2, T2, st2, env, w2, (eo.ext x1).ext x2, (Post.bnd (R1 := rEq) sh_D p2).mono fun h H3 ⟨F3, T3, st3, h', x3, w3, r3, p3⟩ => ?_⟩
    have r3 : h' = h := r3
    subst r3
    obtain ⟨d, e, c⟩ := cont_of p3
    exact ⟨F3, T3, st3, dx, d, w3, (Bor.ext r1 x2).ext x3, e, c⟩
theorem s_bi {b : String} {f : Str} {id : String} {a : Expr} {as : List Expr} {es : Es} {p pos : Pos} (hc : CallR X (.builtin id) (rBi X.K b)) (hg : Gl X f) (hm : X.mg f = none) (hv : bootBuiltins f = some (.builtin id)) (ha : PA X (a :: as) (tBs X.K W C es))
    (ok : okA a = true) (oks : okAs as = true) (hn : f ≠ "__name__") (hd : (f == ("__debug__" : Str)) = false) : PE X (.Call (.Name f p) (a :: as) [] pos) (tDr X.K W C (.bi b es)) :=
  impE (pe_callB hc hg hm hv ha hn hd (okA_star ok) (okAs_plain oks)) fun σ H Q ⟨F, T, st, env, w, eo, p⟩ => by
    have p : Post X.K W σ F T H (rD X.K) ((evBs C env es st).bnd fun ds st => ofO (biD b ds) st) Q := p
    refine ⟨F, T, st, env, w, eo, (Post.bnd (R1 := rBs X.K) sh_D p).mono fun vs H1 ⟨F1, T1, st1, ds, x1, w1, r1, p1⟩ => ?_⟩
    obtain ⟨d, e, c⟩ := cont_of p1
    exact ⟨F1, T1, st1, ds, d, w1, r1, e, c⟩
theorem s_biT {b : String} {f : Str} {id : String} {a : Expr} {as : List Expr} {es : Es} {p pos : Pos} (hc : CallR X (.type id) (rBi X.K b)) (hg : Gl X f) (hm : X.mg f = none) (hv : bootBuiltins f = some (.type id)) (ha : PA X (a :: as) (tBs X.K W C es))
    (ok : okA a = true) (oks : okAs as = true) (hn : f ≠ "__name__") (hd : (f == ("__debug__" : Str)) = false) : PE X (.Call (.Name f p) (a :: as) [] pos) (tDr X.K W C (.bi b es)) :=
  impE (pe_callTy hc hg hm hv ha hn hd (okA_star ok) (okAs_plain oks)) fun σ H Q ⟨F, T, st, env, w, eo, p⟩ => by
    have p : Post X.K W σ F T H (rD X.K) ((evBs C env es st).bnd fun ds st => ofO (biD b ds) st) Q := p
    refine ⟨F, T, st, env, w, eo, (Post.bnd (R1 := rBs X.K) sh_D p).mono fun vs H1 ⟨F1, T1, st1, ds, x1, w1, r1, p1⟩ => ?_⟩
    obtain ⟨d, e, c⟩ := cont_of p1
    exact ⟨F1, T1, st1, ds, d, w1, r1, e, c⟩
end
end Eng
set_option Elab.async false
set_option linter.all false
set_option maxRecDepth 100000
namespace Eng
open PySem PySem.Spec PyProof.Rows L2
def iAny (K : PySem.W.Frag) (te : TE) : TI := fun σ H R => te σ H fun x H1 =>
  (∃ a xs, x = .ref a ∧ SqL K H1 a xs ∧ (xs.length ≤ sizeLine → R (Itl K a) H1)) ∨ (∃ a xs, x = .ref a ∧ SqT K H1 a xs ∧ (xs.length ≤ sizeLine → R (Itt K a) H1)) ∨ ∃ z, x = .str z ∧ R (Its z) H1
section
variable {X : Cx} {tg : Expr}
theorem pi_any {e : Expr} {te : TE} (he : PE X e te) : PI X tg e (iAny X.K te) := by
  refine ⟨fun pins s σ H R I h => thn (he.run pins s σ H _ I h) fun u s1 ⟨x, H1, I1, rx, q⟩ => ?_⟩
  rcases q with ⟨a, xs, rfl, hq, q⟩ | ⟨a, xs, rfl, hq, q⟩ | ⟨z, rfl, q⟩
  · obtain rfl : u = Value.ref a := rx
    obtain ⟨its, _, pl, hz⟩ := I1.list hq
    exact wpAny_pyIter_list pl.isList (pi_one (tk := s1.toks) I1 _ (turn_list a _) ⟨_, Heap.get?_push_size _ rfl, rfl, rfl⟩ (q hz))
  · obtain rfl : u = Value.ref a := rx
    obtain ⟨its, _, pt, hz⟩ := I1.tuple hq
    have pt' : s1.heap.IsTuple a its.toArray := pt
    exact wpAny_pyIter_tuple pt' (pi_one (tk := s1.toks) I1 _ (turn_tuple a _) ⟨_, Heap.get?_push_size _ rfl, rfl, rfl⟩ (q hz))
  · obtain ⟨t, rfl⟩ : ∃ t, u = Value.str z t := rx
    by_cases low : z.cps.all (· < 128) = true
    · exact wpAny_pyIter_ascii low (pi_one (tk := s1.toks) I1 _ (turn_str _ z t _ (.inl rfl)) ⟨_, Heap.get?_push_size _ rfl, rfl, rfl⟩ q)
    · exact wpAny_pyIter_wide (by simpa using low) (pi_one (tk := s1.toks) I1 _ (turn_str _ z t _ (.inr rfl)) ⟨_, Heap.get?_push_size _ rfl, rfl, rfl⟩ q)
end
section
set_option maxHeartbeats 1000000
theorem new_enum_of {v : Value} {o : Obj} {G : Heap → Prop} (B : Begins v o G) :
    Meets (Builtin.«enumerate.__new__» ⟨[.type "enumerate", v], []⟩) (fun _ R s => G s.heap ∧
      R (.ok (.ret (.ref (s.heap.push o).objs.size))) { s with heap := (s.heap.push o).push { cls := .type "enumerate", data := .fields #[.none, .bool false, .ref s.heap.objs.size, rawInt 0, .none, .none] } }) := by
  refine .of_wp fun prog w A R s hyp => ?_
  obtain ⟨hp, gs, dr, tk, os⟩ := s
  obtain ⟨g, hyp⟩ := hyp
  have sub := sub_enumerate
  have begin_ : ∀ {A' : Around} {E : Value → Shared → Prop} {Q : Value → Shared → Prop}, Q (.ref hp.objs.size) ⟨hp.push o, gs, dr, tk, os⟩ → wpAny (model prog w) A' (pyIter v) Q E ⟨hp, gs, dr, tk, os⟩ := fun q => B.iter prog w _ _ ⟨hp, gs, dr, tk, os⟩ _ g q
  wp_walk using begin_
  refine wpAny_stack_any fun st => wpAny_pure ?_
  split
  · rename_i cl _ _ _ _ _
    cases (cl == Value.type "enumerate") <;> (wp_walk using begin_; exact ⟨_, rfl, hyp⟩)
  · wp_walk using begin_
    exact ⟨_, rfl, hyp⟩
end
section
variable {prog : Program} {w : World} {A : Around} {E : Value → Shared → Prop} {s : Shared}
theorem call_enum_of {v : Value} {o : Obj} {G : Heap → Prop} {Q : Value → Shared → Prop} (B : Begins v o G) (g : G s.heap)
    (h : ∀ h', IsEnum h' (s.heap.objs.size + 1) s.heap.objs.size 0 .none → h'.get? s.heap.objs.size = some o → (∀ b u, s.heap.get? b = some u → h'.get? b = some u) → Q (.ref (s.heap.objs.size + 1)) { s with heap := h' }) :
    wpAny (model prog w) A (call (.type "enumerate") [v]) Q E s := by
  refine callType_new F.called_enumerate (by decide) (F.typeCall_enumerate_1 _) (F.newCall_enumerate_1 _) (fun ob => F.args_object_init_2 ob _) F.entry_enumerate_new (new_enum_of B) ⟨g, ?_⟩
  have hz : (s.heap.push o).objs.size = s.heap.objs.size + 1 := Heap.size_push ..
  have en : IsEnum ((s.heap.push o).push { cls := .type "enumerate", data := .fields #[.none, .bool false, .ref s.heap.objs.size, rawInt 0, .none, .none] }) (s.heap.objs.size + 1) s.heap.objs.size 0 .none := by
    unfold IsEnum
    rw [← hz]
    exact Heap.get?_push_size _ rfl
  show _ ∧ _
  rw [hz]
  exact ⟨⟨_, en, rfl⟩, h _ en (Heap.get?_push_of_some _ (Heap.get?_push_size _ B.free)) fun b u e => Heap.get?_push_of_some _ (Heap.get?_push_of_some _ e)⟩
end
/-- the tuple at a, each item in a new pair -/
def IteT (K : PySem.W.Frag) (a : Addr) : L2.It where
  go := fun i H => ∃ (xs : List V) (x : V), SqT K H a xs ∧ xs[i]? = some x
  yld := fun i H v H' => ∃ T x, v = .ref T ∧ H T = none ∧ H' = upd H T (.tup [.int (i : Nat), x]) ∧ ∀ xs, SqT K H a xs → xs[i]? = some x
  stop := fun i H => ∃ xs : List V, SqT K H a xs ∧ xs.length = i
/-- the text z, each sign in a new pair -/
def IteS (z : Str) : L2.It where
  go := fun i _ => i < z.cps.size
  yld := fun i H v H' => ∃ T c, v = .ref T ∧ H T = none ∧ H' = upd H T (.tup [.int (i : Nat), .str ⟨#[c]⟩]) ∧ z.cps[i]? = some c
  stop := fun i _ => z.cps.size = i
theorem apart_tup {h : Heap} {a it : Addr} {its : Array Value} {i : Nat} (p : h.IsTuple a its) (st : h.IsTupleIter it a i) : a ≠ it := by
  obtain ⟨o, e, c, _⟩ := p
  obtain ⟨o', e', c', _⟩ := st
  rintro rfl
  rw [e] at e'
  cases e'
  rw [c] at c'
  exact absurd c' (by decide)
section
variable {X : Cx} {pins : List (Addr × Obj)} {σ : L2.St} {H : Hp} {s : Shared}
/-- one turn of an enumerate -/
theorem enum_item {elts : List Expr} {kk : Nat} {tpos : Pos} {e it : Addr} {fp : List Addr} {n i : Nat} {P : Nat → Value → Prop} {St : Nat → Heap → Prop} {old : Value} {E : Value → Shared → Prop} {tn : Heap → Prop} {R : V → Hp → Prop}
    (I : Inv X pins σ H s) (hf : ∀ b ∈ [e, it], FpOk X pins H b) (D : Draws X.prog X.w X.A.in1 it fp n P St) (he : IsEnum s.heap e it ((i : Nat) : Int) old) (hst : St i s.heap) (hlt : i < n) (hne : e ≠ it) (hef : e ∉ fp)
    (q : ∀ u, P i u → ∃ x, RelV x u ∧ ∀ T, H T = none → R (.ref T) (upd H T (.tup [.int (i : Nat), x]))) (ht : ∀ h' old', IsEnum h' e it (((i + 1 : Nat)) : Int) old' → St (i + 1) h' → tn h') :
    wpAny (model X.prog X.w) X.A (pyNext (.ref e)) (fun r s1 => ∃ u, r = some u ∧
      wpAny (model X.prog X.w) X.A (letOwnedTupleGo (.Tuple elts kk tpos) (.ref e) u) (fun _ s2 => ∃ x H', Inv X pins σ H' s2 ∧ RelV x u ∧ R x H' ∧ tn s2.heap ∧ ∀ b ∈ [e, it], H' b = none) E s1) E s := by
  have eL : e < s.heap.objs.size := Heap.lt_size he
  have iL : it < s.heap.objs.size := by
    obtain ⟨_, y⟩ := D.live _ _ hst
    exact Heap.lt_size y
  refine wpAny_pyNext_enum_itemC D he hst hlt hne hef fun x h' tk px out st' hT sz kp => ⟨_, rfl, ?_⟩
  obtain ⟨xv, rx, qx⟩ := q x px
  refine wpAny_letOwnedTupleGo_enum (s := { s with heap := h', toks := tk + 1 }) out fun h2 en sb => ?_
  have hT2 : h2.get? s.heap.objs.size = some { cls := .type "tuple", data := .seq #[.int i tk, x] } := by
    rw [sb.2 _ (Nat.ne_of_gt eL)]
    exact hT
  have new : ObjOk X.prog X.w (upd H s.heap.objs.size (.tup [.int (i : Nat), xv])) h2 s.heap.objs.size (.tup [.int (i : Nat), xv]) := by
    refine ⟨?_, [.int i tk, x], ?_, _, hT2, rfl, _, rfl⟩
    · show 2 ≤ sizeLine
      rw [sizeLine_eq]
      omega
    · exact .cons ⟨_, rfl⟩ (.cons rx .nil)
  have hN : H s.heap.objs.size = none := I.hok.fresh (Nat.le_refl _)
  refine ⟨.ref s.heap.objs.size, _, I.turnedNew (ch := [e, it]) (fun b o hb y => ?_) hf (Nat.le_refl _) new, rfl, qx _ hN, ?_, fun b hb => ?_⟩
  · have b1 : b ≠ e := fun z => hb (by rw [z]; exact List.mem_cons_self)
    have b2 : b ≠ it := fun z => hb (by rw [z]; exact List.mem_cons_of_mem _ List.mem_cons_self)
    rw [sb.2 b b1]
    exact kp b o b1 b2 y
  · refine ht _ _ (by rw [show (((i + 1 : Nat)) : Int) = (i : Int) + 1 by omega]; exact en) (D.frame _ _ _ st' fun b hb o y => ?_)
    rw [sb.2 b (fun z => hef (z ▸ hb))]
    exact y
  · have lt : b < s.heap.objs.size := by
      rcases List.mem_cons.mp hb with z | z
      · rw [z]; exact eL
      · rw [List.mem_singleton.mp z]; exact iL
    rw [upd_ne (Nat.ne_of_lt lt)]
    exact (hf b hb).1
end
theorem mem2 {a b c : Addr} (h : c ∈ [a, b]) : c = a ∨ c = b := by simpa using h
theorem turn_enumT {P : Program} {w : World} {K : PySem.W.Frag} {elts : List Expr} {kk : Nat} {tpos : Pos} (a e it : Addr) :
    Turn P w K (.Tuple elts kk tpos) (IteT K a) [e, it] e (fun i h => (∃ old, IsEnum h e it ((i : Nat) : Int) old) ∧ h.IsTupleIter it a i ∧ e ≠ it) where
  mem := List.mem_cons_self
  obj := fun i h ⟨⟨old, en⟩, ⟨o, ho, _, hd⟩, _⟩ b hb => by
    rcases mem2 hb with rfl | rfl
    · exact ⟨_, en, fun v z => by cases (show Data.fields _ = Data.cell v from z)⟩
    · exact ⟨o, ho, fun v z => by rw [hd] at z; cases z⟩
  keep := fun i h h' ⟨⟨old, en⟩, ti, ne⟩ kp => ⟨⟨old, kp e List.mem_cons_self _ en⟩, ti.at fun o y => kp it (List.mem_cons_of_mem _ List.mem_cons_self) o y, ne⟩
  item := by
    intro X hP hw hK hc i pins s σ H E I hf st hg
    subst hP hw hK
    obtain ⟨⟨old, en⟩, ti, ne⟩ := st
    obtain ⟨xs, x, hq, hx⟩ := hg
    obtain ⟨its, rv, pt, _⟩ := I.tuple hq
    have pt' : s.heap.IsTuple a its.toArray := pt
    have hh : X.A.in1.handled = none := I.ok.hd hc
    have hz : i < its.toArray.size := by
      have := (List.getElem?_eq_some_iff.mp hx).1
      have := rv.length
      rw [List.size_toArray]
      omega
    have ea : e ≠ a := by
      rintro rfl
      obtain ⟨o, y, c, _⟩ := pt'
      rw [en] at y
      cases y
      exact absurd (show Value.type "enumerate" = Value.type "tuple" from c) (by decide)
    obtain ⟨u0, hu0, ru0⟩ := rv.get hx
    refine enum_item (R := (IteT X.K a).yld i H) (tn := fun h => (∃ old, IsEnum h e it (((i + 1 : Nat)) : Int) old) ∧ h.IsTupleIter it a (i + 1) ∧ e ≠ it) I hf (Draws.tuple hh it a (apart_tup pt' ti) its.toArray) en ⟨ti, pt'⟩ hz ne ?_ (fun u hu => ?_) fun h' old' en' st' => ⟨⟨_, en'⟩, st'.1, ne⟩
    · intro z
      rcases mem2 z with z | z
      · exact ne z
      · exact ea z
    · have e1 : u = u0 := by
        have hu : its.toArray[i]? = some u := hu
        rw [List.getElem?_toArray, hu0] at hu
        exact (Option.some.inj hu).symm
      subst e1
      exact ⟨x, ru0, fun T hT => ⟨T, x, rfl, hT, rfl, fun ys hy => by rw [I.tuple_inj hy hq]; exact hx⟩⟩
  done := by
    intro X hP hw hK hc i pins s σ H E I hf st hg
    subst hP hw hK
    obtain ⟨⟨old, en⟩, ti, ne⟩ := st
    obtain ⟨xs, hq, hx⟩ := hg
    obtain ⟨its, rv, pt, _⟩ := I.tuple hq
    have pt' : s.heap.IsTuple a its.toArray := pt
    have hh : X.A.in1.handled = none := I.ok.hd hc
    have hz : i = its.toArray.size := by
      have := rv.length
      rw [List.size_toArray]
      omega
    subst hz
    refine wpAny_pyNext_enum_endD (Draws.tuple hh it a (apart_tup pt' ti) its.toArray) en ⟨ti, pt'⟩ fun h' eb => ⟨rfl, ?_⟩
    obtain ⟨f0, f1, f2, f3, f4, f5⟩ := hf it (List.mem_cons_of_mem _ List.mem_cons_self)
    exact I.turned (t' := s.toks) (fun b o hb y => eb b o hb y) f0 f1 f3 f4 f5
  self := fun A i s Q E ⟨⟨_, en⟩, _⟩ h => wpAny_pyIter_enum en h
/-- enumerate of a text -/
theorem turn_enumS {P : Program} {w : World} {K : PySem.W.Frag} {elts : List Expr} {kk : Nat} {tpos : Pos} (z : Str) (t : Tok) (e it : Addr) :
    Turn P w K (.Tuple elts kk tpos) (IteS z) [e, it] e (fun i h => (∃ old, IsEnum h e it ((i : Nat) : Int) old) ∧ h.IsStrIter it (strIterType z) z t i ∧ e ≠ it) where
  mem := List.mem_cons_self
  obj := fun i h ⟨⟨old, en⟩, ⟨o, ho, _, hd⟩, _⟩ b hb => by
    rcases mem2 hb with rfl | rfl
    · exact ⟨_, en, fun v z => by cases (show Data.fields _ = Data.cell v from z)⟩
    · exact ⟨o, ho, fun v z => by rw [hd] at z; cases z⟩
  keep := fun i h h' ⟨⟨old, en⟩, ⟨o, ho, r⟩, ne⟩ kp => ⟨⟨old, kp e List.mem_cons_self _ en⟩, ⟨o, kp it (List.mem_cons_of_mem _ List.mem_cons_self) o ho, r⟩, ne⟩
  item := by
    intro X hP hw hK hc i pins s σ H E I hf st hg
    subst hP hw hK
    obtain ⟨⟨old, en⟩, ti, ne⟩ := st
    have hh : X.A.in1.handled = none := I.ok.hd hc
    have hz : i < z.cps.size := hg
    refine enum_item (R := (IteS z).yld i H) (tn := fun h => (∃ old, IsEnum h e it (((i + 1 : Nat)) : Int) old) ∧ h.IsStrIter it (strIterType z) z t (i + 1) ∧ e ≠ it) I hf (Draws.text hh it z t) en ti hz ne (fun q => ne (List.mem_singleton.mp q)) (fun u hu => ?_) fun h' old' en' st' => ⟨⟨_, en'⟩, st', ne⟩
    obtain ⟨c, tk, hc', rfl⟩ := hu
    exact ⟨.str ⟨#[c]⟩, ⟨tk, rfl⟩, fun T hT => ⟨T, c, rfl, hT, rfl, hc'⟩⟩
  done := by
    intro X hP hw hK hc i pins s σ H E I hf st hg
    subst hP hw hK
    obtain ⟨⟨old, en⟩, ti, ne⟩ := st
    have hh : X.A.in1.handled = none := I.ok.hd hc
    have hz : z.cps.size = i := hg
    subst hz
    refine wpAny_pyNext_enum_endD (Draws.text hh it z t) en ti fun h' eb => ⟨rfl, ?_⟩
    obtain ⟨f0, f1, f2, f3, f4, f5⟩ := hf it (List.mem_cons_of_mem _ List.mem_cons_self)
    exact I.turned (t' := s.toks) (fun b o hb y => eb b o hb y) f0 f1 f3 f4 f5
  self := fun A i s Q E ⟨⟨_, en⟩, _⟩ h => wpAny_pyIter_enum en h
def iEnumA (K : PySem.W.Frag) (ta : TA) : TI := fun σ H R => ta σ H fun vs H1 =>
  (∃ a xs, vs = [.ref a] ∧ SqL K H1 a xs ∧ (xs.length ≤ sizeLine → R (Ite K a) H1)) ∨ (∃ a xs, vs = [.ref a] ∧ SqT K H1 a xs ∧ (xs.length ≤ sizeLine → R (IteT K a) H1)) ∨ ∃ z, vs = [.str z] ∧ R (IteS z) H1
theorem fp_two {X : Cx} {pins : List (Addr × Obj)} {σ : L2.St} {H : Hp} {s : Shared} (I : Inv X pins σ H s) : ∀ b ∈ [s.heap.objs.size + 1, s.heap.objs.size], FpOk X pins H b := fun b hb => by
  have le : s.heap.objs.size ≤ b := by
    rcases mem2 hb with q | q
    · rw [q]; exact Nat.le_add_right _ _
    · rw [q]; exact Nat.le_refl _
  exact I.fpOk le (I.hok.fresh le)
theorem begins_text (z : Str) (t : Tok) : Begins (.str z t) { cls := .type (strIterType z), data := .fields #[.str z t, .int 0 0] } fun _ => True := ⟨fun _ _ _ _ _ _ _ q => wpAny_pyIter_strU q, fun _ _ _ _ => trivial, rfl⟩
theorem pi_enumA {X : Cx} {e : Expr} {ta : TA} {p pos tpos : Pos} {elts : List Expr} {kk : Nat} (hg : Gl X "enumerate") (hm : X.mg "enumerate" = none) (ha : PA X [e] ta) (hs : starEach [e] X.env = [(false, eval e X.env)]) :
    PI X (.Tuple elts kk tpos) (.Call (.Name "enumerate" p) [e] [] pos) (iEnumA X.K ta) := by
  refine ⟨fun pins s σ H R I h => Call_ (ld_blt I hg hm boot_enumerate (PyProof.Rows.callWith_type1 (thn (ha.run pos pins s σ H _ I h) fun us s1 ⟨vs, H1, I1, r1, q1⟩ => ?_) hs rfl))⟩
  rcases q1 with ⟨a, xs, rfl, hq, q⟩ | ⟨a, xs, rfl, hq, q⟩ | ⟨z, rfl, q⟩
  · obtain ⟨u, rfl, ru⟩ := vals1 r1
    obtain rfl : u = Value.ref a := ru
    obtain ⟨its, _, pl, hz⟩ := I1.list hq
    refine call_enumerate_list pl.isList fun h' en ti _ kp => wpAny_pyIter_enum en ?_
    exact ⟨s1.heap.objs.size + 1, _, _, Ite X.K a, H1, rfl, I1.kept (t' := s1.toks) kp, turn_enum a _ s1.heap.objs.size, ⟨⟨_, en⟩, ti, Nat.succ_ne_self _⟩, fp_two I1, q hz⟩
  · obtain ⟨u, rfl, ru⟩ := vals1 r1
    obtain rfl : u = Value.ref a := ru
    obtain ⟨its, _, pt, hz⟩ := I1.tuple hq
    have pt' : s1.heap.IsTuple a its.toArray := pt
    refine call_enum_of (begins_tuple a its.toArray) pt' fun h' en ti kp => wpAny_pyIter_enum en ?_
    exact ⟨s1.heap.objs.size + 1, _, _, IteT X.K a, H1, rfl, I1.kept (t' := s1.toks) kp, turn_enumT a _ s1.heap.objs.size, ⟨⟨_, en⟩, ⟨_, ti, rfl, rfl⟩, Nat.succ_ne_self _⟩, fp_two I1, q hz⟩
  · obtain ⟨u, rfl, ru⟩ := vals1 r1
    obtain ⟨t, rfl⟩ : ∃ t, u = Value.str z t := ru
    refine call_enum_of (begins_text z t) trivial fun h' en ti kp => wpAny_pyIter_enum en ?_
    exact ⟨s1.heap.objs.size + 1, _, _, IteS z, H1, rfl, I1.kept (t' := s1.toks) kp, turn_enumS z t _ s1.heap.objs.size, ⟨⟨_, en⟩, ⟨_, ti, rfl, rfl⟩, Nat.succ_ne_self _⟩, fp_two I1, q⟩
def Gives (K : PySem.W.Frag) (P : Hp → List Addr → Hp → Prop) (ds : List D) (J : L2.It) : Prop := ∀ F T st H, P F T H → WF K F T st H → ∀ i,
  (∀ d, ds[i]? = some d → J.go i H ∧ ∀ x H', J.yld i H x H' → ∃ F', Ext F T H F' T H' ∧ WF K F' T st H' ∧ Rep K F' T x d) ∧ (ds.length = i → J.stop i H)
def SrcL (K : PySem.W.Frag) (P : Hp → List Addr → Hp → Prop) (a : Addr) (ds : List D) : Prop := ∀ F T st H, P F T H → WF K F T st H → ∃ xs, SqL K H a xs ∧ Reps K F T xs ds
def SrcT (K : PySem.W.Frag) (P : Hp → List Addr → Hp → Prop) (a : Addr) (ds : List D) : Prop := ∀ F T st H, P F T H → WF K F T st H → ∃ xs, SqT K H a xs ∧ Reps K F T xs ds
section
variable {K : PySem.W.Frag} {P : Hp → List Addr → Hp → Prop} {a : Addr} {ds : List D}
theorem SrcL.gives (h : SrcL K P a ds) : Gives K P ds (Itl K a) := fun F T st H p w i => by
  obtain ⟨xs, hq, r⟩ := h F T st H p w
  refine ⟨fun d hd => ?_, fun hl => ⟨xs, hq, by rw [r.length]; omega⟩⟩
  obtain ⟨v, hv, rv⟩ := r.get hd
  refine ⟨⟨xs, v, hq, hv⟩, fun x H' ⟨e, hx⟩ => ?_⟩
  subst e
  have := hx xs hq
  rw [hv] at this
  cases this
  exact ⟨F, .refl _ _ _, w, rv⟩
theorem SrcT.gives (h : SrcT K P a ds) : Gives K P ds (Itt K a) := fun F T st H p w i => by
  obtain ⟨xs, hq, r⟩ := h F T st H p w
  refine ⟨fun d hd => ?_, fun hl => ⟨xs, hq, by rw [r.length]; omega⟩⟩
  obtain ⟨v, hv, rv⟩ := r.get hd
  refine ⟨⟨xs, v, hq, hv⟩, fun x H' ⟨e, hx⟩ => ?_⟩
  subst e
  have := hx xs hq
  rw [hv] at this
  cases this
  exact ⟨F, .refl _ _ _, w, rv⟩
theorem gives_str (z : Str) : Gives K P (z.cps.toList.map fun c => D.str ⟨#[c]⟩) (Its z) := fun F T st H p w i => by
  refine ⟨fun d hd => ?_, fun hl => ?_⟩
  · rw [List.getElem?_map] at hd
    obtain ⟨c, hc, rfl⟩ := Option.map_eq_some_iff.mp hd
    have hc' : z.cps[i]? = some c := by simpa using hc
    refine ⟨(Array.getElem?_eq_some_iff.mp hc').1, fun x H' ⟨e, c', h', hx⟩ => ?_⟩
    subst e hx
    rw [hc'] at h'
    cases h'
    exact ⟨F, .refl _ _ _, w, .str _⟩
  · show z.cps.size ≤ i
    rw [List.length_map, Array.length_toList] at hl
    omega
def numD (ds : List D) : List D := (List.range ds.length).zipWith (fun (k : Nat) d => D.tup [.int k, d]) ds
theorem numD_get {i : Nat} {d : D} (h : (numD ds)[i]? = some d) : ∃ d', ds[i]? = some d' ∧ d = .tup [.int (i : Nat), d'] := by
  unfold numD at h
  rw [List.getElem?_zipWith] at h
  cases e : ds[i]? with
  | none => rw [e] at h; cases h2 : (List.range ds.length)[i]? <;> rw [h2] at h <;> cases h
  | some d' =>
    have lt : i < ds.length := (List.getElem?_eq_some_iff.mp e).1
    rw [e, List.getElem?_range lt] at h
    cases h
    exact ⟨d', rfl, rfl⟩
theorem numD_length : (numD ds).length = ds.length := by
  unfold numD
  rw [List.length_zipWith, List.length_range, Nat.min_self]
theorem pair_new {F H : Hp} {T : List Addr} {st : Store} (w : WF K F T st H) {i : Nat} {v : V} {d : D} (r : Rep K F T v d) {p : Addr} (hp : H p = none) :
    ∃ F', Ext F T H F' T (upd H p (.tup [.int (i : Nat), v])) ∧ WF K F' T st (upd H p (.tup [.int (i : Nat), v])) ∧ Rep K F' T (.ref p) (.tup [.int (i : Nat), d]) :=
  ⟨_, Ext.new w hp, w.new hp, new_tup w (.cons (.int _) (.cons r .nil)) hp⟩
theorem SrcL.nums (h : SrcL K P a ds) : Gives K P (numD ds) (Ite K a) := fun F T st H p w i => by
  obtain ⟨xs, hq, r⟩ := h F T st H p w
  refine ⟨fun d hd => ?_, fun hl => ⟨xs, hq, by rw [r.length, ← hl, numD_length]; exact Nat.le_refl _⟩⟩
  obtain ⟨d', hd', rfl⟩ := numD_get hd
  obtain ⟨v, hv, rv⟩ := r.get hd'
  refine ⟨⟨xs, v, hq, hv⟩, fun x H' ⟨T', y, e1, e2, e3, hx⟩ => ?_⟩
  subst e1 e3
  have := hx xs hq
  rw [hv] at this
  cases this
  exact pair_new w rv e2
theorem SrcT.nums (h : SrcT K P a ds) : Gives K P (numD ds) (IteT K a) := fun F T st H p w i => by
  obtain ⟨xs, hq, r⟩ := h F T st H p w
  refine ⟨fun d hd => ?_, fun hl => ⟨xs, hq, by rw [r.length, ← hl, numD_length]⟩⟩
  obtain ⟨d', hd', rfl⟩ := numD_get hd
  obtain ⟨v, hv, rv⟩ := r.get hd'
  refine ⟨⟨xs, v, hq, hv⟩, fun x H' ⟨T', y, e1, e2, e3, hx⟩ => ?_⟩
  subst e1 e3
  have := hx xs hq
  rw [hv] at this
  cases this
  exact pair_new w rv e2
theorem nums_str (z : Str) : Gives K P (numD (z.cps.toList.map fun c => D.str ⟨#[c]⟩)) (IteS z) := fun F T st H p w i => by
  refine ⟨fun d hd => ?_, fun hl => ?_⟩
  · obtain ⟨d', hd', rfl⟩ := numD_get hd
    rw [List.getElem?_map] at hd'
    obtain ⟨c, hc, rfl⟩ := Option.map_eq_some_iff.mp hd'
    have hc' : z.cps[i]? = some c := by simpa using hc
    refine ⟨(Array.getElem?_eq_some_iff.mp hc').1, fun x H' ⟨T', c', e1, e2, e3, h'⟩ => ?_⟩
    subst e1 e3
    rw [hc'] at h'
    cases h'
    exact pair_new w (.str _) e2
  · rw [numD_length, List.length_map, Array.length_toList] at hl
    exact hl
theorem gives_rng (lo : Int) (n : Nat) : Gives K P ((List.range n).map fun (k : Nat) => D.int (lo + k)) (Itr lo n) := fun F T st H p w i => by
  refine ⟨fun d hd => ?_, fun hl => ?_⟩
  · rw [List.getElem?_map] at hd
    obtain ⟨k, hk, rfl⟩ := Option.map_eq_some_iff.mp hd
    obtain ⟨lt, e⟩ := List.getElem?_eq_some_iff.mp hk
    rw [List.getElem_range] at e
    subst e
    rw [List.length_range] at lt
    refine ⟨lt, fun x H' ⟨e, hx⟩ => ?_⟩
    subst e hx
    exact ⟨F, .refl _ _ _, w, .int _⟩
  · rw [List.length_map, List.length_range] at hl
    show n ≤ i
    omega
end
/-- frozen things -/
def PF (F0 : Hp) (T0 : List Addr) : Hp → List Addr → Hp → Prop := fun F T _ => Same F0 F ∧ Pre T0 T
def PX (F0 : Hp) (T0 : List Addr) (H0 : Hp) : Hp → List Addr → Hp → Prop := fun F T H => Ext F0 T0 H0 F T H
section
variable {K : PySem.W.Frag} {F H : Hp} {T : List Addr} {v : V} {ds : List D} {st : Store}
theorem srcL_rep (r : Rep K F T v (.lst ds)) : ∃ a, v = .ref a ∧ SrcL K (PF F T) a ds := by
  cases r with
  | lst q r => exact ⟨_, rfl, fun F' T' st H' ⟨sm, pr⟩ w => ⟨_, .inl (.inl (w.fr _ _ (sm _ _ q))), r.mono sm pr⟩⟩
theorem srcT_rep (r : Rep K F T v (.tup ds)) : ∃ a, v = .ref a ∧ SrcT K (PF F T) a ds := by
  cases r with
  | tup q r => exact ⟨_, rfl, fun F' T' st H' ⟨sm, pr⟩ w => ⟨_, sqT_mono w.fr (sqT_mono sm q), r.mono sm pr⟩⟩
theorem Gives.imp {P P' : Hp → List Addr → Hp → Prop} {J : L2.It} (h : Gives K P ds J) (i : ∀ F T H, P' F T H → P F T H) : Gives K P' ds J := fun F T st H p w => h F T st H (i _ _ _ p) w
theorem px_pf {F' H' : Hp} {T' : List Addr} (x : PX F T H F' T' H') : PF F T F' T' H' := ⟨x.fr, x.pre⟩
theorem srcL_bor (r : Bor K F T H v (.lst ds)) : ∃ a, v = .ref a ∧ SrcL K (PX F T H) a ds := by
  rcases r with r | ⟨a, e, ⟨xs, e2, r⟩, f, n⟩
  · obtain ⟨a, e, s⟩ := srcL_rep r
    exact ⟨a, e, fun F' T' st H' x w => s F' T' st H' (px_pf x) w⟩
  · exact ⟨a, e, fun F' T' st H' x w => ⟨xs, .inl (.inl (x.keep a _ e2 n)), r.mono x.fr x.pre⟩⟩
theorem srcT_bor (r : Bor K F T H v (.tup ds)) : ∃ a, v = .ref a ∧ SrcT K (PX F T H) a ds := by
  rcases r with r | ⟨a, e, r, f, n⟩
  · obtain ⟨a, e, s⟩ := srcT_rep r
    exact ⟨a, e, fun F' T' st H' x w => s F' T' st H' (px_pf x) w⟩
  · exact r.elim
end
end Eng
set_option Elab.async false
set_option linter.all false
set_option maxRecDepth 100000
namespace Eng
open PySem PySem.Spec PyProof.Rows L2
/-- behind an iterator's making: what it gives, as long as nothing is changed -/
def rIt (K : PySem.W.Frag) : RR (List D) L2.It := fun _ F T H ds J => Gives K (PX F T H) ds J ∧ ds.length ≤ sizeLine
/-- the same of things that stay -/
def rItF (K : PySem.W.Frag) : RR (List D) L2.It := fun _ F T _ ds J => Gives K (PF F T) ds J ∧ ds.length ≤ sizeLine
theorem sh_It {K : PySem.W.Frag} : Sh (rIt K) := fun _ _ _ _ _ _ _ _ h => h
theorem sh_ItF {K : PySem.W.Frag} : Sh (rItF K) := fun _ _ _ _ _ _ _ _ h => h
abbrev tI (K : PySem.W.Frag) (W : WW) (C : Calls) (it : It) : TI := tX K W (rIt K) fun env => evIt C env it
abbrev tIF (K : PySem.W.Frag) (W : WW) (C : Calls) (it : It) : TI := tX K W (rItF K) fun env => evItV C env it
theorem impI {X : Cx} {tg e : Expr} {t t' : TI} (h : PI X tg e t) (i : ∀ σ H R, t' σ H R → t σ H R) : PI X tg e t' := ⟨fun pins s σ H R I q => h.run pins s σ H R I (i σ H R q)⟩
theorem items_str {z : Str} (c : z.length ≤ sizeLine) : itemsD (.str z) = some (z.cps.toList.map fun c => D.str ⟨#[c]⟩) := if_pos c
theorem items_str' {z : Str} (c : ¬ z.length ≤ sizeLine) : itemsD (.str z) = none := if_neg c
theorem len_str (z : Str) : (z.cps.toList.map fun c => D.str ⟨#[c]⟩).length = z.length := by rw [List.length_map, Array.length_toList]; rfl
section
variable {K : PySem.W.Frag} {W : WW} {σ : L2.St} {F H : Hp} {T : List Addr} {st : Store} {R : L2.It → Hp → Prop}
/-- what any sequence gives -/
theorem any_px (w : WF K F T st H) {v : V} {d : D} (b : Bor K F T H v d) (p : Post K W σ F T H (rIt K) (ofO (itemsD d) st) R) :
    (∃ a xs, v = .ref a ∧ SqL K H a xs ∧ (xs.length ≤ sizeLine → R (Itl K a) H)) ∨ (∃ a xs, v = .ref a ∧ SqT K H a xs ∧ (xs.length ≤ sizeLine → R (Itt K a) H)) ∨ ∃ z, v = .str z ∧ R (Its z) H := by
  cases d with
  | lst ds =>
    obtain ⟨a, rfl, s⟩ := srcL_bor b
    obtain ⟨xs, q, r⟩ := s _ _ _ _ (.refl _ _ _) w
    exact .inl ⟨a, xs, rfl, q, fun hz => p _ F T H (.refl _ _ _) w ⟨s.gives, by rw [← r.length]; exact hz⟩⟩
  | tup ds =>
    obtain ⟨a, rfl, s⟩ := srcT_bor b
    obtain ⟨xs, q, r⟩ := s _ _ _ _ (.refl _ _ _) w
    exact .inr (.inl ⟨a, xs, rfl, q, fun hz => p _ F T H (.refl _ _ _) w ⟨s.gives, by rw [← r.length]; exact hz⟩⟩)
  | str z =>
    have e := b.str
    subst e
    refine .inr (.inr ⟨z, rfl, ?_⟩)
    by_cases c : z.length ≤ sizeLine
    · rw [items_str c] at p
      exact p _ F T H (.refl _ _ _) w ⟨gives_str z, by rw [len_str]; exact c⟩
    · rw [items_str' c] at p
      exact p.elim
  | _ => exact p.elim
theorem any_pf (w : WF K F T st H) {v : V} {d : D} (b : Rep K F T v d) (p : Post K W σ F T H (rItF K) (ofO (itemsD d) st) R) :
    (∃ a xs, v = .ref a ∧ SqL K H a xs ∧ (xs.length ≤ sizeLine → R (Itl K a) H)) ∨ (∃ a xs, v = .ref a ∧ SqT K H a xs ∧ (xs.length ≤ sizeLine → R (Itt K a) H)) ∨ ∃ z, v = .str z ∧ R (Its z) H := by
  cases d with
  | lst ds =>
    obtain ⟨a, rfl, s⟩ := srcL_rep b
    obtain ⟨xs, q, r⟩ := s _ _ _ _ ⟨.refl _, .refl _⟩ w
    exact .inl ⟨a, xs, rfl, q, fun hz => p _ F T H (.refl _ _ _) w ⟨s.gives, by rw [← r.length]; exact hz⟩⟩
  | tup ds =>
    obtain ⟨a, rfl, s⟩ := srcT_rep b
    obtain ⟨xs, q, r⟩ := s _ _ _ _ ⟨.refl _, .refl _⟩ w
    exact .inr (.inl ⟨a, xs, rfl, q, fun hz => p _ F T H (.refl _ _ _) w ⟨s.gives, by rw [← r.length]; exact hz⟩⟩)
  | str z =>
    cases b
    refine .inr (.inr ⟨z, rfl, ?_⟩)
    by_cases c : z.length ≤ sizeLine
    · rw [items_str c] at p
      exact p _ F T H (.refl _ _ _) w ⟨gives_str z, by rw [len_str]; exact c⟩
    · rw [items_str' c] at p
      exact p.elim
  | _ => exact p.elim
theorem enum_items {d : D} : enumD d = (itemsD d).map numD := rfl
theorem enum_px (w : WF K F T st H) {v : V} {d : D} (b : Bor K F T H v d) (p : Post K W σ F T H (rIt K) (ofO (enumD d) st) R) :
    (∃ a xs, [v] = [.ref a] ∧ SqL K H a xs ∧ (xs.length ≤ sizeLine → R (Ite K a) H)) ∨ (∃ a xs, [v] = [.ref a] ∧ SqT K H a xs ∧ (xs.length ≤ sizeLine → R (IteT K a) H)) ∨ ∃ z, [v] = [.str z] ∧ R (IteS z) H := by
  rw [enum_items] at p
  cases d with
  | lst ds =>
    obtain ⟨a, rfl, s⟩ := srcL_bor b
    obtain ⟨xs, q, r⟩ := s _ _ _ _ (.refl _ _ _) w
    exact .inl ⟨a, xs, rfl, q, fun hz => p _ F T H (.refl _ _ _) w ⟨s.nums, by rw [numD_length, ← r.length]; exact hz⟩⟩
  | tup ds =>
    obtain ⟨a, rfl, s⟩ := srcT_bor b
    obtain ⟨xs, q, r⟩ := s _ _ _ _ (.refl _ _ _) w
    exact .inr (.inl ⟨a, xs, rfl, q, fun hz => p _ F T H (.refl _ _ _) w ⟨s.nums, by rw [numD_length, ← r.length]; exact hz⟩⟩)
  | str z =>
    have e := b.str
    subst e
    refine .inr (.inr ⟨z, rfl, ?_⟩)
    by_cases c : z.length ≤ sizeLine
    · rw [items_str c] at p
      exact p _ F T H (.refl _ _ _) w ⟨nums_str z, by rw [numD_length, len_str]; exact c⟩
    · rw [items_str' c] at p
      exact p.elim
  | _ => exact p.elim
end
section
variable {X : Cx} {W : WW} {C : Calls} {tg : Expr}
theorem i_seq {a : Expr} {ea : E} (ha : PE X a (tB X.K W C ea)) : PI X tg a (tI X.K W C (.seq ea)) :=
  impI (pi_any ha) fun σ H R ⟨F, T, st, env, w, eo, p⟩ => by
    have p : Post X.K W σ F T H (rIt X.K) ((bor env ea (evE C env ea) st).bnd fun x st => ofO (itemsD x) st) R := p
    exact ⟨F, T, st, env, w, eo, (Post.bnd (R1 := rBo X.K) sh_It p).mono fun x H1 ⟨F1, T1, st1, dx, x1, w1, r1, p1⟩ => any_px w1 r1 p1⟩
theorem i_seqF {a : Expr} {ea : E} (ha : PE X a (tE X.K W C ea)) : PI X tg a (tIF X.K W C (.seq ea)) :=
  impI (pi_any ha) fun σ H R ⟨F, T, st, env, w, eo, p⟩ => by
    have p : Post X.K W σ F T H (rItF X.K) ((evE C env ea st).bnd fun x st => ofO (itemsD x) st) R := p
    exact ⟨F, T, st, env, w, eo, (Post.bnd (R1 := rV X.K) sh_ItF p).mono fun x H1 ⟨F1, T1, st1, dx, x1, w1, r1, p1⟩ => any_pf w1 r1 p1⟩
theorem i_enum {a : Expr} {ea : E} {p pos tpos : Pos} {elts : List Expr} {kk : Nat} (hg : Gl X "enumerate") (hm : X.mg "enumerate" = none) (ha : PE X a (tB X.K W C ea)) (ok : okA a = true) :
    PI X (.Tuple elts kk tpos) (.Call (.Name "enumerate" p) [a] [] pos) (tI X.K W C (.enum ea)) :=
  impI (pi_enumA hg hm (pa_cons ha pa_nil (okA_star ok)) (okA_star ok)) fun σ H R ⟨F, T, st, env, w, eo, p⟩ => by
    have p : Post X.K W σ F T H (rIt X.K) ((bor env ea (evE C env ea) st).bnd fun x st => ofO (enumD x) st) R := p
    exact ⟨F, T, st, env, w, eo, (Post.bnd (R1 := rBo X.K) sh_It p).mono fun x H1 ⟨F1, T1, st1, dx, x1, w1, r1, p1⟩ => enum_px w1 r1 p1⟩
theorem rng_cases {ds is : List D} (h : rngD ds = some is) : (∃ n : Int, ds = [.int n] ∧ -(2 ^ 62) ≤ n ∧ n < 2 ^ 62 ∧ is.length ≤ sizeLine ∧ is = (List.range n.toNat).map fun (k : Nat) => D.int (0 + k)) ∨
    ∃ a b : Int, ds = [.int a, .int b] ∧ (-(2 ^ 62) ≤ a ∧ a < 2 ^ 62 ∧ -(2 ^ 62) ≤ b ∧ b < 2 ^ 62) ∧ is.length ≤ sizeLine ∧ is = (List.range (b - a).toNat).map fun (k : Nat) => D.int (a + k) := by
  have sl := sizeLine_eq
  unfold rngD at h
  split at h
  · split at h <;> rename_i c
    · cases h
      refine .inl ⟨_, rfl, c.1, by omega, ?_, rfl⟩
      rw [List.length_map, List.length_range]
      omega
    · cases h
  · split at h <;> rename_i c
    · cases h
      refine .inr ⟨_, _, rfl, ⟨c.1, c.2.1, c.2.2.2⟩, ?_, rfl⟩
      rw [List.length_map, List.length_range]
      omega
    · cases h
  · cases h
theorem i_rng1 {a : Expr} {es : Es} {p pos : Pos} (hg : Gl X "range") (hm : X.mg "range" = none) (ha : PA X [a] (tEs X.K W C es)) (ok : okA a = true) (h1 : ∀ env st ds st', evEs C env es st = .ok ds st' → ds.length = 1) : PI X tg (.Call (.Name "range" p) [a] [] pos) (tX X.K W (rItF X.K) fun env st => (evEs C env es st).bnd fun ds st => ofO (rngD ds) st) :=
  impI (pi_range1 hg hm ha (okA_star ok)) fun σ H R ⟨F, T, st, env, w, eo, p⟩ => by
    refine ⟨F, T, st, env, w, eo, ?_⟩
    have p : Post X.K W σ F T H (rItF X.K) ((evEs C env es st).bnd fun ds st => ofO (rngD ds) st) R := p
    have l := h1 env st
    show Post X.K W σ F T H (rVs X.K) (evEs C env es st) _
    revert p l
    cases evEs C env es st with
    | bad => exact fun p _ => p
    | ex c ks ds st => exact fun p _ => p
    | ok ds st' =>
      intro p l vs F1 T1 H1 x1 w1 r1
      have l := l _ _ rfl
      rw [Out.bnd_ok] at p
      cases e : rngD ds with
      | none => rw [e] at p; exact p.elim
      | some is =>
        rw [e] at p
        rcases rng_cases e with ⟨n, e1, h1, h2, h3, e2⟩ | ⟨a, b, e1, _⟩
        · subst e1 e2
          cases r1 with
          | cons r rr =>
            cases rr
            cases r
            exact ⟨n, rfl, h1, h2, p _ F1 T1 H1 x1 w1 ⟨gives_rng 0 n.toNat, h3⟩⟩
        · rw [e1] at l
          exact absurd l (by simp)
/-- what stays is also what stays while nothing is changed -/
theorem i_ofF {e : Expr} {m : Env → Store → Out (List D)} (h : PI X tg e (tX X.K W (rItF X.K) m)) : PI X tg e (tX X.K W (rIt X.K) m) :=
  impI h fun σ H R ⟨F, T, st, env, w, eo, p⟩ => by
    refine ⟨F, T, st, env, w, eo, ?_⟩
    have p : Post X.K W σ F T H (rIt X.K) (m env st) R := p
    show Post X.K W σ F T H (rItF X.K) (m env st) R
    revert p
    cases m env st with
    | bad => exact id
    | ex c ks ds st => exact id
    | ok ds st' => exact fun p J F1 T1 H1 x1 w1 ⟨g, l⟩ => p J F1 T1 H1 x1 w1 ⟨g.imp fun _ _ _ x => px_pf x, l⟩
end
def Es.len : Es → Nat
  | .nil => 0
  | .cons _ es => es.len + 1
theorem evEs_len {C : Calls} {env : Env} : ∀ (es : Es) {st : Store} {ds : List D} {st' : Store}, evEs C env es st = .ok ds st' → ds.length = es.len
  | .nil, st, ds, st', h => by
    have h : Out.ok [] st = Out.ok ds st' := h
    cases h
    rfl
  | .cons e es, st, ds, st', h => by
    have h : ((evE C env e st).bnd fun d st => (evEs C env es st).bnd fun ds st => .ok (d :: ds) st) = .ok ds st' := h
    cases q : evE C env e st with
    | bad => rw [q] at h; cases h
    | ex c ks ds st => rw [q] at h; cases h
    | ok d st1 =>
      rw [q, Out.bnd_ok] at h
      cases q2 : evEs C env es st1 with
      | bad => rw [q2] at h; cases h
      | ex c ks ds st => rw [q2] at h; cases h
      | ok ds2 st2 =>
        rw [q2, Out.bnd_ok] at h
        cases h
        rw [List.length_cons, evEs_len es q2]
        rfl
end Eng
set_option Elab.async false
set_option linter.all false
set_option maxRecDepth 100000
namespace Eng
open PySem PySem.Spec PyProof.Rows L2
/-- a, b, .. = a tuple or a list of that length -/
def gSeq (K : PySem.W.Frag) (n : Nat) (t : TGs) : TG := fun v σ H Q => ∃ a xs, v = .ref a ∧ (SqT K H a xs ∨ SqL K H a xs) ∧ xs.length = n ∧ t xs σ H Q
theorem pg_seq {X : Cx} {pos : Pos} {es : List Expr} {k : Nat} {t : TGs} {n : Nat} (hc : X.calm = true) (h : PGs X es t) (hn : (assignEach es X.env).length = n) (hst : (assignEach es X.env).findIdx? (·.1) = none) : PG X (.Tuple es k pos) (gSeq X.K n t) := by
  refine ⟨fun pins s σ H v u Q I r ⟨a, xs, e1, hq, hl, hw⟩ => ?_⟩
  rcases hq with hq | hq
  · exact (pg_tup (pos := pos) (k := k) hc h hn hst).run pins s σ H v u Q I r ⟨a, xs, e1, hq, hl, hw⟩
  · exact (pg_lst (pos := pos) (k := k) hc h hn hst).run pins s σ H v u Q I r ⟨a, xs, e1, hq, hl, hw⟩
mutual
def gT (K : PySem.W.Frag) : Tg → TG
  | .v i => gName i
  | .t ts => gSeq K (lenT ts) (gTs K ts)
def gTs (K : PySem.W.Frag) : Tgs → TGs
  | .nil => gNil
  | .cons t ts => gCons (gT K t) (gTs K ts)
def lenT : Tgs → Nat
  | .nil => 0
  | .cons _ ts => lenT ts + 1
end
mutual
def ixT : Tg → List Nat
  | .v i => [i]
  | .t ts => ixTs ts
def ixTs : Tgs → List Nat
  | .nil => []
  | .cons t ts => ixT t ++ ixTs ts
end
/-- alike but at is -/
def Agr (is : List Nat) (σ σ' : L2.St) : Prop := σ'.length = σ.length ∧ ∀ j, j ∉ is → σ'[j]? = σ[j]?
theorem Agr.refl (is : List Nat) (σ : L2.St) : Agr is σ σ := ⟨rfl, fun _ _ => rfl⟩
theorem Agr.trans {is : List Nat} {a b c : L2.St} (h : Agr is a b) (k : Agr is b c) : Agr is a c := ⟨k.1.trans h.1, fun j hj => (k.2 j hj).trans (h.2 j hj)⟩
theorem Agr.mono {is js : List Nat} {a b : L2.St} (h : Agr is a b) (k : ∀ i ∈ is, i ∈ js) : Agr js a b := ⟨h.1, fun j hj => h.2 j fun z => hj (k j z)⟩
theorem Agr.set (i : Nat) (o : Option V) (σ : L2.St) : Agr [i] σ (σ.set i o) := ⟨List.length_set, fun j hj => List.getElem?_set_ne (fun e => hj (by simp [e]))⟩
theorem Agr.wipe {is vs : List Nat} {σ σ' : L2.St} (h : Agr is σ σ') (k : ∀ i ∈ is, i ∈ vs) : L2.wipe σ' vs = L2.wipe σ vs := by
  apply List.ext_getElem?
  intro j
  have key : ∀ (vs : List Nat) (τ : L2.St), (L2.wipe τ vs)[j]? = if j ∈ vs ∧ j < τ.length then some none else τ[j]? := by
    intro vs
    induction vs with
    | nil => intro τ; simp [L2.wipe]
    | cons v vs ih =>
      intro τ
      unfold L2.wipe
      rw [List.getElem?_set, L2.wipe_length, ih τ]
      by_cases e : v = j
      · subst e
        by_cases l : v < τ.length
        · simp [l]
        · simp [l]
      · have e' : j ≠ v := fun z => e z.symm
        simp [e, e']
  rw [key, key, h.1]
  by_cases m : j ∈ vs ∧ j < σ.length
  · rw [if_pos m, if_pos m]
  · rw [if_neg m, if_neg m]
    by_cases hj : j ∈ is
    · have : ¬ j < σ.length := fun l => m ⟨k j hj, l⟩
      rw [List.getElem?_eq_none (by rw [h.1]; omega), List.getElem?_eq_none (by omega)]
    · exact h.2 j hj
theorem agr_wipe (σ : L2.St) : ∀ vs : List Nat, Agr vs σ (L2.wipe σ vs)
  | [] => .refl _ _
  | v :: vs => by
    unfold L2.wipe
    exact ((agr_wipe σ vs).mono fun i hi => List.mem_cons_of_mem _ hi).trans ((Agr.set v none _).mono fun i hi => by rw [List.mem_singleton.mp hi]; exact List.mem_cons_self)
section
variable {K : PySem.W.Frag} {xi : XB} {F H : Hp} {T : List Addr} {st : Store}
theorem EnvOk.set {env : Env} {σ : L2.St} (eo : EnvOk K xi F T H env σ) (i : Nat) {d : D} {v : V} (r : Rep K F T v d) : EnvOk K xi F T H (env.set i (.val d)) (σ.set i (some v)) := by
  refine ⟨fun j s hs => ?_, by rw [List.length_set, List.length_set]; exact eo.len, fun a b d1 d2 p ne h1 h2 h3 h4 => ?_⟩
  · rw [List.getElem?_set] at hs
    split at hs <;> rename_i c
    · subst c
      split at hs <;> rename_i l
      · cases hs
        rw [List.getElem?_set_self (Nat.lt_of_lt_of_le l eo.len)]
        exact ⟨v, rfl, r⟩
      · cases hs
    · rw [List.getElem?_set_ne c]
      exact eo.at_ j s hs
  · have ha : a ≠ i := by
      rintro rfl
      rw [List.getElem?_set] at h1
      simp only [if_true] at h1
      split at h1 <;> cases h1
    have hb : b ≠ i := by
      rintro rfl
      rw [List.getElem?_set] at h2
      simp only [if_true] at h2
      split at h2 <;> cases h2
    rw [List.getElem?_set_ne (fun z => ha z.symm)] at h1 h3
    rw [List.getElem?_set_ne (fun z => hb z.symm)] at h2 h4
    exact eo.apart a b d1 d2 p ne h1 h2 h3 h4
/-- forgotten slots -/
theorem EnvOk.wipe {env : Env} {σ : L2.St} (eo : EnvOk K xi F T H env σ) : ∀ vs : List Nat, EnvOk K xi F T H (wipeE env vs) (L2.wipe σ vs)
  | [] => eo
  | i :: vs => by
    have h := eo.wipe vs
    refine ⟨fun j s hs => ?_, ?_, fun a b d1 d2 p ne h1 h2 h3 h4 => ?_⟩
    · unfold wipeE at hs
      unfold L2.wipe
      rw [List.getElem?_set] at hs
      split at hs <;> rename_i c
      · split at hs
        · cases hs; trivial
        · cases hs
      · rw [List.getElem?_set_ne c]
        exact h.at_ j s hs
    · unfold wipeE L2.wipe
      rw [List.length_set, List.length_set]
      exact h.len
    · unfold wipeE at h1 h2
      unfold L2.wipe at h3 h4
      have ha : a ≠ i := by
        rintro rfl
        rw [List.getElem?_set] at h1
        simp only [if_true] at h1
        split at h1 <;> cases h1
      have hb : b ≠ i := by
        rintro rfl
        rw [List.getElem?_set] at h2
        simp only [if_true] at h2
        split at h2 <;> cases h2
      rw [List.getElem?_set_ne (fun z => ha z.symm)] at h1 h3
      rw [List.getElem?_set_ne (fun z => hb z.symm)] at h2 h4
      exact h.apart a b d1 d2 p ne h1 h2 h3 h4
theorem binds_len : ∀ {ts : Tgs} {ds : List D} {env env' : Env}, binds ts ds env = some env' → ds.length = lenT ts
  | .nil, [], _, _, _ => rfl
  | .nil, _ :: _, _, _, h => by cases h
  | .cons _ _, [], _, _, h => by cases h
  | .cons t ts, d :: ds, env, env', h => by
    obtain ⟨e1, _, h2⟩ := Option.bind_eq_some_iff.mp h
    rw [List.length_cons, binds_len h2]
    rfl
mutual
theorem bind_ok (w : WF K F T st H) : ∀ {t : Tg} {d : D} {x : V} {env env' : Env} {σ : L2.St} {k : L2.St → Hp → Prop}, Rep K F T x d → EnvOk K xi F T H env σ → bind1 t d env = some env' → (∀ σ', EnvOk K xi F T H env' σ' → Agr (ixT t) σ σ' → k σ' H) → gT K t x σ H k
  | .v i, d, x, env, env', σ, k, r, eo, e, h => by
    have e : some (env.set i (.val d)) = some env' := e
    cases e
    exact h _ (eo.set i r) (Agr.set i _ σ)
  | .t ts, .tup ds, x, env, env', σ, k, r, eo, e, h => by
    have e : binds ts ds env = some env' := e
    cases r with
    | @tup a xs _ q r => exact ⟨a, xs, rfl, .inl (sqT_mono w.fr q), by rw [r.length, binds_len e], binds_ok w r eo e h⟩
  | .t ts, .lst ds, x, env, env', σ, k, r, eo, e, h => by
    have e : binds ts ds env = some env' := e
    cases r with
    | @lst a xs _ q r => exact ⟨a, xs, rfl, .inr (.of (w.fr _ _ q)), by rw [r.length, binds_len e], binds_ok w r eo e h⟩
  | .t _, .non, _, _, _, _, _, _, _, e, _ => by cases e
  | .t _, .bl _, _, _, _, _, _, _, _, e, _ => by cases e
  | .t _, .int _, _, _, _, _, _, _, _, e, _ => by cases e
  | .t _, .str _, _, _, _, _, _, _, _, e, _ => by cases e
  | .t _, .dic _ _, _, _, _, _, _, _, _, e, _ => by cases e
  | .t _, .ins _ _ _, _, _, _, _, _, _, _, e, _ => by cases e
  | .t _, .obj _, _, _, _, _, _, _, _, e, _ => by cases e
  | .t _, .fn _, _, _, _, _, _, _, _, e, _ => by cases e
  | .t _, .scr _, _, _, _, _, _, _, _, e, _ => by cases e
  | .t _, .tab _ _, _, _, _, _, _, _, _, e, _ => by cases e
theorem binds_ok (w : WF K F T st H) : ∀ {ts : Tgs} {ds : List D} {xs : List V} {env env' : Env} {σ : L2.St} {k : L2.St → Hp → Prop}, Reps K F T xs ds → EnvOk K xi F T H env σ → binds ts ds env = some env' → (∀ σ', EnvOk K xi F T H env' σ' → Agr (ixTs ts) σ σ' → k σ' H) → gTs K ts xs σ H k
  | .nil, [], _, env, env', σ, k, r, eo, e, h => by
    have e : some env = some env' := e
    cases e
    cases r
    exact ⟨rfl, h _ eo (.refl _ _)⟩
  | .nil, _ :: _, _, _, _, _, _, _, _, e, _ => by cases e
  | .cons _ _, [], _, _, _, _, _, _, _, e, _ => by cases e
  | .cons t ts, d :: ds, _, env, env', σ, k, r, eo, e, h => by
    obtain ⟨e1, h1, h2⟩ := Option.bind_eq_some_iff.mp (show ((bind1 t d env).bind fun env' => binds ts ds env') = some env' from e)
    cases r with
    | cons r rs =>
      refine ⟨_, _, rfl, bind_ok w r eo h1 fun σ1 eo1 a1 => binds_ok w rs eo1 h2 fun σ2 eo2 a2 => h σ2 eo2 ?_⟩
      exact (a1.mono fun i hi => List.mem_append_left _ hi).trans (a2.mono fun i hi => List.mem_append_right _ hi)
end
end
section
variable {K : PySem.W.Frag} {F H F0 H0 : Hp} {T T0 : List Addr} {st : Store} {p : Addr} {o : HO}
theorem wf_upd (w : WF K F T st H) (hF : F p = none) (hT : p ∉ T) (ht : ∀ xs, o ≠ .tup xs := by intro xs h; cases h) : WF K F T st (upd H p o) := by
  refine ⟨fun b u e => ?_, w.len, w.nd, w.nf, fun n d e => ?_, fun b u e => ?_⟩
  · rw [upd_ne (ne_of_none e hF)]
    exact w.fr b u e
  · obtain ⟨a, h1, h2⟩ := w.at_ n d e
    refine ⟨a, h1, h2.mono (.refl _) (.refl _) fun o' e' => ?_⟩
    rw [upd_ne (fun z : a = p => hT (z ▸ List.mem_iff_getElem?.mpr ⟨n, h1⟩))]
    exact e'
  · by_cases q : b = p
    · subst q; rw [upd_same] at e; exact (ht u (Option.some.inj e)).elim
    · rw [upd_ne q] at e; exact w.tp b u e
theorem ext_upd (x : Ext F0 T0 H0 F T H) (h0 : H0 p = none) : Ext F0 T0 H0 F T (upd H p o) := by
  refine ⟨x.fr, x.pre, x.newF, x.newT, fun b u e n => ?_, fun b u e => ?_⟩
  · rw [upd_ne (ne_of_none e h0)]
    exact x.keep b u e n
  · obtain ⟨u', e'⟩ := x.there b u e
    exact ⟨u', by rw [upd_ne (ne_of_none e h0)]; exact e'⟩
end
/-- nothing may be raised -/
def noW (W : WW) : WW := ⟨fun _ _ _ _ => False, W.x, W.B, false⟩
theorem Out.nox_bnd {α β : Type} {o : Out α} {f : α → Store → Out β} : (o.bnd f).nox = o.nox.bnd fun a st => (f a st).nox := by cases o <;> rfl
theorem Out.bnd_assoc {α β γ : Type} {o : Out α} {f : α → Store → Out β} {g : β → Store → Out γ} : (o.bnd f).bnd g = o.bnd fun a st => (f a st).bnd g := by cases o <;> rfl
section
variable {α β γ δ : Type} {K : PySem.W.Frag} {W : WW} {σ σ2 : L2.St} {F0 H0 F H : Hp} {T0 T : List Addr} {R : RR α β} {R1 : RR γ δ} {Q : β → Hp → Prop}
/-- the next step of an evaluation in which nothing may be raised; what is to come keeps its base -/
theorem Post.nox {o : Out γ} {f : γ → Store → Out α} (h : Post K W σ F0 T0 H0 R (o.nox.bnd f) Q) :
    Post K (noW W) σ2 F T H R1 o fun b H1 => ∃ F1 T1 st1 a, Ext F T H F1 T1 H1 ∧ WF K F1 T1 st1 H1 ∧ R1 H F1 T1 H1 a b ∧ Post K W σ F0 T0 H0 R (f a st1) Q := by
  cases o with
  | bad => exact h
  | ok a st => exact fun b F' T' H' y w r => ⟨F', T', st, a, y, w, r, h⟩
  | ex c ks ds st => exact h.elim
end
section
variable {X : Cx} {W : WW} {C : Calls}
/-- no test, or one -/
abbrev tIf (K : PySem.W.Frag) (W : WW) (C : Calls) (o : Op) : TT := tX K W rEq fun env => evIf C env o
theorem if_none : PTs X [] (tIf X.K W C .no) := ⟨fun pins s σ H Q I ⟨F, T, st, env, w, eo, p⟩ => pts_nil.run pins s σ H Q I (p true F T H (.refl _ _ _) w rfl)⟩
theorem if_one {c : Expr} {e : E} (h : PT X c (tT X.K W C e)) : PTs X [c] (tIf X.K W C (.so e)) := pts_one h
theorem lc_rd {elt : E} {tg : Tg} {it : It} {ifs : Op} {ws : List Nat} (hw : ∀ i ∈ ixT tg, i ∈ ws) {σ : L2.St} {H : Hp} {Q : VK} (h : tDr X.K W C (.lc elt tg it ifs ws) σ H Q) :
    tLc (tI X.K W C it) (gT X.K tg) (tIf X.K (noW W) C ifs) (tE X.K (noW W) C elt) ws σ H Q := by
  obtain ⟨F, T, st, env, w, eo, p⟩ := h
  have p : Post X.K W σ F T H (rD X.K) ((evIt C env it st).bnd fun ds st => (lcGo (fun d st => (ofO (bind1 tg d (wipeE env ws)) st).bnd fun env' st => (evIf C env' ifs st).bnd fun r st => (match r with
      | true => (evE C env' elt st).bnd fun y st => .ok (some y) st
      | false => .ok none st)) ds st).bnd fun ys st => .ok (.lst ys) st) Q := p
  refine ⟨F, T, st, env, w, eo, (Post.bnd (R1 := rIt X.K) sh_D p).mono fun J H1 ⟨F1, T1, st1, ds, x1, w1, ⟨gv, hlen⟩, p1⟩ => ?_⟩
  generalize hs : (fun d st => (ofO (bind1 tg d (wipeE env ws)) st).bnd fun env' st => (evIf C env' ifs st).bnd fun r st => (match r with
      | true => (evE C env' elt st).bnd fun y st => .ok (some y) st
      | false => .ok none st)) = step at p1
  have eo1 := eo.ext x1
  intro L hD
  obtain ⟨fD, tD⟩ := w1.free hD
  refine ⟨fun i m H2 => m = ds.length - i ∧ i ≤ ds.length ∧ ∃ F2 T2 st2 acc accD, Ext F1 T1 H1 F2 T2 H2 ∧ WF X.K F2 T2 st2 H2 ∧ H2 L = some (.lst acc) ∧ F2 L = none ∧ L ∉ T2 ∧ Reps X.K F2 T2 acc accD ∧ acc.length ≤ i ∧
      Post X.K W σ F1 T1 H1 (rD X.K) ((lcGo step (ds.drop i) st2).bnd fun ys st => .ok (.lst (accD ++ ys)) st) Q, ⟨ds.length, rfl, Nat.zero_le _, F1, T1, st1, [], [], Ext.newO hD, w1.newO hD, upd_same, fD, tD, .nil, Nat.le_refl _, ?_⟩, ?_⟩
  · exact p1
  · rintro i m H2 ⟨em, le, F2, T2, st2, acc, accD, x2, w2, h2, f2, t2, r2, l2, p2⟩
    have g := gv F2 T2 st2 H2 x2 w2 i
    by_cases e : i = ds.length
    · subst e
      rw [List.drop_length] at p2
      have p2 : Post X.K W σ F1 T1 H1 (rD X.K) (.ok (.lst (accD ++ [])) st2) Q := p2
      rw [List.append_nil] at p2
      exact .inl ⟨g.2 rfl, p2 _ F2 T2 H2 x2 w2 (rD_c rfl ⟨L, rfl, ⟨acc, h2, r2⟩, f2, t2, hD⟩)⟩
    · have lt : i < ds.length := by omega
      obtain ⟨d, hd⟩ : ∃ d, ds[i]? = some d := ⟨_, List.getElem?_eq_getElem lt⟩
      obtain ⟨go, yl⟩ := g.1 d hd
      have ed : ds.drop i = d :: ds.drop (i + 1) := by
        have := List.getElem?_eq_some_iff.mp hd
        obtain ⟨l, e⟩ := this
        rw [← e]
        exact List.drop_eq_getElem_cons l
      rw [ed] at p2
      have p2 : Post X.K W σ F1 T1 H1 (rD X.K) ((((step d st2).nox).bnd fun r st1 => (lcGo step (ds.drop (i + 1)) st1).bnd fun acc st2 => .ok (match r with | some y => y :: acc | none => acc) st2).bnd fun ys st => .ok (.lst (accD ++ ys)) st) Q := p2
      rw [Out.bnd_assoc, ← hs] at p2
      rw [hs] at p2
      refine .inr ⟨go, fun H' => ∃ m', m' < m ∧ (m' = ds.length - (i + 1) ∧ i + 1 ≤ ds.length ∧ ∃ F2 T2 st2 acc accD, Ext F1 T1 H1 F2 T2 H' ∧ WF X.K F2 T2 st2 H' ∧ H' L = some (.lst acc) ∧ F2 L = none ∧ L ∉ T2 ∧ Reps X.K F2 T2 acc accD ∧ acc.length ≤ i + 1 ∧
          Post X.K W σ F1 T1 H1 (rD X.K) ((lcGo step (ds.drop (i + 1)) st2).bnd fun ys st => .ok (.lst (accD ++ ys)) st) Q), fun H' h => h, fun x H3 hy => ?_⟩
      obtain ⟨F3, x3, w3, r3⟩ := yl x H3 hy
      have x13 := x2.trans x3
      have eo3 := (eo1.ext x13).wipe ws
      have p3 : Post X.K W σ F1 T1 H1 (rD X.K) (((ofO (bind1 tg d (wipeE env ws)) st2).nox.bnd fun env' st => ((evIf C env' ifs st).nox.bnd fun r st => ((match r with
          | true => (evE C env' elt st).bnd fun y st => .ok (some y) st
          | false => .ok none st) : Out (Option D)).nox)).bnd fun r st1 => ((lcGo step (ds.drop (i + 1)) st1).bnd fun acc st2 => .ok (match r with | some y => y :: acc | none => acc) st2).bnd fun ys st => .ok (.lst (accD ++ ys)) st) Q := by
        have e1 : (step d st2).nox = ((ofO (bind1 tg d (wipeE env ws)) st2).nox.bnd fun env' st => ((evIf C env' ifs st).nox.bnd fun r st => ((match r with
          | true => (evE C env' elt st).bnd fun y st => .ok (some y) st
          | false => .ok none st) : Out (Option D)).nox)) := by
          rw [← hs]
          show Out.nox (Out.bnd _ _) = _
          rw [Out.nox_bnd]
          congr 1
          funext env' st
          rw [Out.nox_bnd]
        rw [← e1]
        exact p2
      cases eb : bind1 tg d (wipeE env ws) with
      | none => rw [eb] at p3; exact p3.elim
      | some env' =>
        rw [eb] at p3
        have p3 : Post X.K W σ F1 T1 H1 (rD X.K) (((evIf C env' ifs st2).nox.bnd fun r st => ((match r with
          | true => (evE C env' elt st).bnd fun y st => .ok (some y) st
          | false => .ok none st) : Out (Option D)).nox).bnd fun r st1 => ((lcGo step (ds.drop (i + 1)) st1).bnd fun acc st2 => .ok (match r with | some y => y :: acc | none => acc) st2).bnd fun ys st => .ok (.lst (accD ++ ys)) st) Q := p3
        rw [Out.bnd_assoc] at p3
        refine bind_ok w3 r3 eo3 eb fun σ2 eo4 ag => ⟨(ag.wipe hw).trans ((agr_wipe σ ws).wipe fun _ h => h), ?_⟩
        refine ⟨F3, T2, st2, env', w3, eo4, (Post.nox (R1 := rEq) p3).mono fun b H4 ⟨F4, T4, st4, b', x4, w4, rb, p4⟩ => ?_⟩
        have rb : b' = b := rb
        subst rb
        have d4 : H4 L = some (.lst acc) := x4.keep L _ (x3.keep L _ h2 t2) (by exact t2)
        have o4 := (x3.trans x4).own (d := .lst accD) ⟨acc, h2, r2⟩ f2 t2
        cases b' with
        | false =>
          simp only [Bool.false_eq_true, if_false]
          refine ⟨ds.length - (i + 1), by omega, rfl, by omega, F4, T4, st4, acc, accD, x13.trans x4, w4, d4, o4.2.1, o4.2.2, r2.mono (x3.trans x4).fr (x3.trans x4).pre, by omega, ?_⟩
          have p4 : Post X.K W σ F1 T1 H1 (rD X.K) (((lcGo step (ds.drop (i + 1)) st4).bnd fun acc st2 => .ok acc st2).bnd fun ys st => .ok (.lst (accD ++ ys)) st) Q := p4
          rw [Out.bnd_assoc] at p4
          exact p4
        | true =>
          simp only [if_true]
          have p4 : Post X.K W σ F1 T1 H1 (rD X.K) (((evE C env' elt st4).bnd fun y st => .ok (some y) st).nox.bnd fun r st1 => ((lcGo step (ds.drop (i + 1)) st1).bnd fun acc st2 => .ok (match r with | some y => y :: acc | none => acc) st2).bnd fun ys st => .ok (.lst (accD ++ ys)) st) Q := p4
          rw [Out.nox_bnd, Out.bnd_assoc] at p4
          refine ⟨F4, T4, st4, env', w4, eo4.ext x4, (Post.nox (R1 := rV X.K) p4).mono fun y H5 ⟨F5, T5, st5, dy, x5, w5, ry, p5⟩ => ?_⟩
          have ry : Rep X.K F5 T5 y dy := ry
          have o5 := ((x3.trans x4).trans x5).own (d := .lst accD) ⟨acc, h2, r2⟩ f2 t2
          have d5 : H5 L = some (.lst acc) := x5.keep L _ d4 o4.2.2
          refine ⟨acc, d5, by omega, ds.length - (i + 1), by omega, rfl, by omega, F5, T5, st5, acc ++ [y], accD ++ [dy], ext_upd ((x13.trans x4).trans x5) hD, wf_upd w5 o5.2.1 o5.2.2, upd_same, o5.2.1, o5.2.2, (r2.mono ((x3.trans x4).trans x5).fr ((x3.trans x4).trans x5).pre).append (.one ry), by rw [List.length_append]; exact Nat.succ_le_succ l2, ?_⟩
          have p5 : Post X.K W σ F1 T1 H1 (rD X.K) (((lcGo step (ds.drop (i + 1)) st5).bnd fun acc st2 => .ok (dy :: acc) st2).bnd fun ys st => .ok (.lst (accD ++ ys)) st) Q := p5
          rw [Out.bnd_assoc] at p5
          have e5 : (fun (ys : List D) (st : Store) => (Out.ok (.lst ((accD ++ [dy]) ++ ys)) st : Out D)) = fun ys st => (Out.ok (dy :: ys) st).bnd fun ys st => .ok (.lst (accD ++ ys)) st := by
            funext ys st
            show Out.ok (D.lst ((accD ++ [dy]) ++ ys)) st = Out.ok (.lst (accD ++ (dy :: ys))) st
            rw [List.append_assoc]
            rfl
          rw [e5]
          exact p5
end
end Eng
set_option Elab.async false
set_option linter.all false
set_option maxRecDepth 100000
namespace Eng
open PySem PySem.Spec PyProof.Rows L2
section
variable {X : Cx} {W : WW} {C : Calls}
theorem s_gl {x : Str} {d : D} {v : V} {u : Value} {pos : Pos} (hg : Gl X x) (hm : X.mg x = some u) (r : RelV v u) (h : vOf d = some v) (hd : (x == ("__debug__" : Str)) = false) : PE X (.Name x pos) (tE X.K W C (.gl x d)) :=
  s_const (pe_glob hg hm r hd) h fun _ _ => rfl
theorem s_glS {x : Str} {z : Str} {pos : Pos} (hg : Gl X x) (hm : ∃ t, X.mg x = some (.str z t)) (hd : (x == ("__debug__" : Str)) = false) : PE X (.Name x pos) (tE X.K W C (.gl x (.str z))) := by
  obtain ⟨t, hm⟩ := hm
  exact s_gl (v := .str z) hg hm ⟨t, rfl⟩ rfl hd
def tyNames : List String := ["NoneType", "bool", "int", "str", "tuple", "list", "dict"]
def tyAsk : List String := ["bool", "int", "str", "tuple", "list", "dict"]
theorem kit_tab : (tyNames.all fun a => tyAsk.all fun t => decide (kitB a t = some (tyIs a t))) = true := by decide +kernel
theorem kit_of_tab {K : PySem.W.Frag} {a t : String} (ha : a ∈ tyNames) (ht : t ∈ tyAsk) : PySem.W.kitOne K (.type a) (.type t) = some (tyIs a t) :=
  kit_ty (of_decide_eq_true (List.all_eq_true.mp (List.all_eq_true.mp kit_tab a ha) t ht))
theorem kitAny_tab {K : PySem.W.Frag} {a : String} (ha : a ∈ tyNames) : ∀ {ts : List String}, (∀ t ∈ ts, t ∈ tyAsk) → PySem.W.kitAny K (.type a) (ts.map .type) = some (ts.any (tyIs a))
  | [], _ => rfl
  | t :: ts, h => by
    refine kitAny_cons (kit_of_tab ha (h t List.mem_cons_self)) (fun e => ?_) fun e => ?_
    · rw [kitAny_tab ha fun t ht => h t (List.mem_cons_of_mem _ ht), List.any_cons, e]
      rfl
    · rw [List.any_cons, e]
      rfl
theorem tyx_bor {K : PySem.W.Frag} {F H : Hp} {T : List Addr} {st : Store} (w : WF K F T st H) {d : D} {v : V} {n : String} (h : tyN d = some n) (b : Bor K F T H v d) : n ∈ tyNames ∧ TyX K H v (.type n) := by
  cases d with
  | non => cases h; rw [b.non]; exact ⟨by decide, .base .non⟩
  | bl k => cases h; rw [b.bl]; exact ⟨by decide, .base (.bl _)⟩
  | int k => cases h; rw [b.int]; exact ⟨by decide, .base (.int _)⟩
  | str k => cases h; rw [b.str]; exact ⟨by decide, .base (.str _)⟩
  | tup ds =>
    cases h
    obtain ⟨a, xs, rfl, q, _⟩ := b.tup w
    rcases q with (q | ⟨o, q⟩) | ⟨o, its, n, hk, hc, _⟩
    · exact ⟨by decide, .base (.tup q)⟩
    · exact ⟨by decide, .fTuple q⟩
    · exact ⟨by decide, .kTuple hk hc⟩
  | lst ds =>
    cases h
    obtain ⟨a, xs, rfl, q, _⟩ := b.lst w
    exact ⟨by decide, .base (.lst q)⟩
  | dic ks ds =>
    cases h
    obtain ⟨a, xs, rfl, q, _⟩ := b.dic w
    exact ⟨by decide, .base (.dK q)⟩
  | dcz ks ds =>
    cases h
    obtain ⟨a, o, xs, rfl, q, _⟩ := b.dcz w
    exact ⟨by decide, .fDict q⟩
  | _ => cases h
theorem isTys_of {ts : List String} {d : D} {r : Bool} (h : isTys ts d = some r) : ∃ n, tyN d = some n ∧ r = ts.any (tyIs n) := by
  obtain ⟨n, e, rfl⟩ := Option.map_eq_some_iff.mp h
  exact ⟨n, e, rfl⟩
theorem isi_post {K : PySem.W.Frag} {σ : L2.St} {F H : Hp} {T : List Addr} {st : Store} {o : Option Bool} {Q : VK} (p : Post K W σ F T H (rV K) (ofO (o.map .bl) st) Q) :
    ∃ b, o = some b ∧ ∀ F' T' H', Ext F T H F' T' H' → WF K F' T' st H' → Q (.bl b) H' := by
  cases o with
  | none => exact p.elim
  | some b => exact ⟨b, rfl, fun F' T' H' x w => p _ F' T' H' x w (.bl b)⟩
theorem boot_isi : bootBuiltins "isinstance" = some (.builtin "isinstance") := by decide +kernel
theorem s_isi {a b : Expr} {ea : E} {t : String} {p pos : Pos} (hg : Gl X "isinstance") (hm : X.mg "isinstance" = none) (ha : PE X a (tB X.K W C ea)) (ok : okA a = true) (hb : PE X b (tC (.ty t))) (ok2 : okA b = true) (ht : t ∈ tyAsk) :
    PE X (.Call (.Name "isinstance" p) [a, b] [] pos) (tE X.K W C (.isi ea [t])) :=
  impE (pe_callB call_isi hg hm boot_isi (pa_cons ha (pa_cons hb pa_nil (okA_star ok2)) (okA_star ok)) (by decide) (by decide) (okA_star ok) (by rw [okA_star ok2]; rfl)) fun σ H Q ⟨F, T, st, env, w, eo, p⟩ => by
    have p : Post X.K W σ F T H (rV X.K) ((bor env ea (evE C env ea) st).bnd fun x st => ofO ((isTys [t] x).map .bl) st) Q := p
    refine ⟨F, T, st, env, w, eo, (Post.bnd (R1 := rBo X.K) sh_V p).mono fun x H1 ⟨F1, T1, st1, d, x1, w1, r1, p1⟩ => ?_⟩
    obtain ⟨b, e, q⟩ := isi_post p1
    obtain ⟨n, en, er⟩ := isTys_of e
    obtain ⟨hn, ty⟩ := tyx_bor w1 en r1
    refine ⟨x, .ty t, .type n, .type t, b, rfl, .ty t, ty, ?_, q F1 T1 H1 (.refl _ _ _) w1⟩
    rw [er, kit_of_tab hn ht]
    simp
/-- names of types -/
inductive TyNs (X : Cx) : List Expr → List String → Prop
  | nil : TyNs X [] []
  | cons {e : Expr} {es : List Expr} {t : String} {ts : List String} : PE X e (tC (.ty t)) → okA e = true → TyNs X es ts → TyNs X (e :: es) (t :: ts)
theorem TyNs.pa : ∀ {es : List Expr} {ts : List String}, TyNs X es ts → PA X es (fun _ H Q => Q (ts.map .ty) H)
  | _, _, .nil => pa_nil
  | _, _, .cons h ok r => pa_cons h r.pa (okA_star ok)
theorem cls_tys : ∀ ts : List String, Paired ClsV (ts.map .ty) (ts.map .type)
  | [] => .nil
  | t :: ts => .cons (.ty t) (cls_tys ts)
theorem s_isiT {a : Expr} {es : List Expr} {k : Nat} {tpos : Pos} {ea : E} {ts : List String} {p pos : Pos} (hg : Gl X "isinstance") (hm : X.mg "isinstance" = none) (ha : PE X a (tB X.K W C ea)) (ok : okA a = true) (hb : TyNs X es ts) (ht : ∀ t ∈ ts, t ∈ tyAsk) (hl : ts.length ≤ sizeLine) :
    PE X (.Call (.Name "isinstance" p) [a, .Tuple es k tpos] [] pos) (tE X.K W C (.isi ea ts)) :=
  impE (pe_callB call_isiT hg hm boot_isi (pa_cons ha (pa_cons (pe_tup hb.pa) pa_nil rfl) (okA_star ok)) (by decide) (by decide) (okA_star ok) rfl) fun σ H Q ⟨F, T, st, env, w, eo, p⟩ => by
    have p : Post X.K W σ F T H (rV X.K) ((bor env ea (evE C env ea) st).bnd fun x st => ofO ((isTys ts x).map .bl) st) Q := p
    refine ⟨F, T, st, env, w, eo, (Post.bnd (R1 := rBo X.K) sh_V p).mono fun x H1 ⟨F1, T1, st1, d, x1, w1, r1, p1⟩ => ?_⟩
    obtain ⟨b, e, q⟩ := isi_post p1
    obtain ⟨n, en, er⟩ := isTys_of e
    refine ⟨by rw [List.length_map]; exact hl, fun L hL => ?_⟩
    have x2 := Ext.new w1 (o := .tup (ts.map .ty)) hL
    have w2 := w1.new (o := .tup (ts.map .ty)) hL
    obtain ⟨hn, ty⟩ := tyx_bor w2 en (r1.ext x2)
    refine ⟨x, L, ts.map .ty, .type n, ts.map .type, b, rfl, upd_same, cls_tys ts, ty, ?_, q _ T1 _ x2 w2⟩
    rw [er, kitAny_tab hn ht]
end
/-- what a def promises, by the evaluator -/
def spN (K : PySem.W.Frag) (C : Calls) (n : Nat) : Sp := fun vs H Q E => ∃ F T st ds, WF K F T st H ∧ Reps K F T vs ds ∧ Post K ⟨fun c d _ H => E c d H, none, {}, false⟩ [] F T H (rV K) (C n ds st) Q
structure DefOk (P : Program) (w : World) (K : PySem.W.Frag) (mg : Str → Option Value) (base : Heap) (k : Nat) (C : Calls) (f : Str) (n : Nat) : Prop where
  fn : ∃ fd ps, FnOk P w K mg base (L2.CX P w) k (He.ga K f) fd ps (spN K C n) ∧ Binds K fd ps []
  mg : mg f = some (.ref (He.ga K f))
  kp : PySem.W.keepIn K (.ref (He.ga K f)) = true
section
variable {X : Cx} {W : WW} {C : Calls}
theorem post_call {K : PySem.W.Frag} {α β : Type} {R : RR α β} {σ : L2.St} {F H : Hp} {T : List Addr} {o : Out α} {Q : β → Hp → Prop} (p : Post K W σ F T H R o Q) : Post K ⟨fun c d _ H => WE W σ c d H, none, {}, false⟩ [] F T H R o Q := by
  cases o with
  | ok a st => exact p
  | ex c ks ds st => exact p
  | bad => exact p
theorem s_call {k n : Nat} {f : Str} {a : Expr} {as : List Expr} {es : Es} {p pos : Pos} (h : DefOk X.prog X.w X.K X.mg X.base k C f n) (hr : Room k X.A) (hg : Gl X f) (tk : Takes X W) (ha : PA X (a :: as) (tEs X.K W C es)) (ok : okA a = true) (oks : okAs as = true) (hd : (f == ("__debug__" : Str)) = false) :
    PE X (.Call (.Name f p) (a :: as) [] pos) (tE X.K W C (.call n es)) := by
  obtain ⟨fd, ps, F, b⟩ := h.fn
  refine impE (pe_callSD (E := fun σ => WE W σ) F hr hg h.mg h.kp b .nil (passAt tk) ha hd (okA_star ok) (okAs_plain oks)) fun σ H Q ⟨F, T, st, env, w, eo, p⟩ => ?_
  have p : Post X.K W σ F T H (rV X.K) ((evEs C env es st).bnd fun ds st => C n ds st) Q := p
  refine ⟨F, T, st, env, w, eo, (Post.bnd (R1 := rVs X.K) sh_V p).mono fun vs H1 ⟨F1, T1, st1, ds, x1, w1, r1, p1⟩ => ?_⟩
  exact ⟨F1, T1, st1, ds, w1, by rw [List.append_nil]; exact r1, post_call p1⟩
end
end Eng
set_option Elab.async false
set_option linter.all false
set_option maxRecDepth 100000
namespace Eng
open PySem PySem.Spec PyProof.Rows L2
/-- where a statement's flow is wished -/
def PostF (K : PySem.W.Frag) (xi : XB) (F : Hp) (T : List Addr) (H : Hp) (σ : L2.St) (D : Ends) : Fl → Prop
  | .nx e => EnvOk K xi F T H e σ → D.nx σ H
  | .bk e => EnvOk K xi F T H e σ → D.bk σ H
  | .ct e => EnvOk K xi F T H e σ → D.ct σ H
  | .rt d => ∀ v, Rep K F T v d → D.rt v H
/-- behind a statement: from the ghost (F, T) on; env is what a clause may look at -/
def PostS (K : PySem.W.Frag) (W : WW) (F : Hp) (T : List Addr) (env : Env) (o : Out Fl) (D : Ends) : Prop := match o with
  | .ok f st' => ∀ F' T' H' σ', Same F F' → Pre T T' → Ext W.B.F W.B.T W.B.H F' T' H' → WF K F' T' st' H' → PostF K W.xi F' T' H' σ' D f
  | .ex c ks ds st' => ∀ dx F' T' H' σ', Same F F' → Pre T T' → Ext W.B.F W.B.T W.B.H F' T' H' → WF K F' T' st' H' → XRep K F' T' H' ks ds dx → (W.sv = true → EnvOk K W.xi F' T' H' env σ') → W (.ref (He.ga K c)) dx σ' H'
  | .bad => False
/-- a statement's reading, by the evaluator -/
def tS (K : PySem.W.Frag) (W : WW) (m : Env → Store → Out Fl) : TS := fun D σ H => ∃ F T st env, Ext W.B.F W.B.T W.B.H F T H ∧ WF K F T st H ∧ EnvOk K W.xi F T H env σ ∧ PostS K W F T env (m env st) D
section
variable {α β : Type} {K : PySem.W.Frag} {W : WW} {F F1 H : Hp} {T T1 : List Addr} {st : Store} {env : Env} {σ : L2.St} {D : Ends}
theorem PostS.shift {o : Out Fl} (p : PostS K W F T env o D) (hF : Same F F1) (hT : Pre T T1) : PostS K W F1 T1 env o D := by
  cases o with
  | bad => exact p
  | ok f st => exact fun F' T' H' σ' a b => p F' T' H' σ' (hF.trans a) (hT.trans b)
  | ex c ks ds st => exact fun dx F' T' H' σ' a b => p dx F' T' H' σ' (hF.trans a) (hT.trans b)
/-- the first step of a statement is an evaluation -/
theorem PostS.step {R1 : RR α β} {o : Out α} {f : α → Store → Out Fl} (x : Ext W.B.F W.B.T W.B.H F T H) (eo : W.sv = true → EnvOk K W.xi F T H env σ) (p : PostS K W F T env (o.bnd f) D) :
    Post K W σ F T H R1 o fun b H1 => ∃ F1 T1 st1 a, Ext F T H F1 T1 H1 ∧ WF K F1 T1 st1 H1 ∧ R1 H F1 T1 H1 a b ∧ PostS K W F1 T1 env (f a st1) D := by
  cases o with
  | bad => exact p
  | ok a st => exact fun b F' T' H' y w r => ⟨F', T', st, a, y, w, r, p.shift y.fr y.pre⟩
  | ex c ks ds st => exact fun dx F' T' H' y w r => p dx F' T' H' σ y.fr y.pre (x.trans y) w r fun h => (eo h).ext y
/-- the first step of a statement is a statement -/
theorem PostS.bnd {o : Out Fl} {f : Fl → Store → Out Fl} {D' : Ends} (p : PostS K W F T env (o.bnd f) D)
    (h : ∀ F' T' H' σ' g st', Same F F' → Pre T T' → Ext W.B.F W.B.T W.B.H F' T' H' → WF K F' T' st' H' → o = .ok g st' → PostS K W F' T' env (f g st') D → PostF K W.xi F' T' H' σ' D' g) : PostS K W F T env o D' := by
  cases o with
  | bad => exact p
  | ok g st => exact fun F' T' H' σ' a b x w => h F' T' H' σ' g st a b x w rfl (p.shift a b)
  | ex c ks ds st => exact p
end
section
variable {K : PySem.W.Frag} {xi : XB} {F H : Hp} {T : List Addr} {st : Store} {env : Env} {σ : L2.St} {F0 : Hp} {T0 : List Addr}
theorem freeze_one (i : Nat) (x : Ext F0 T0 xi.H0 F T H) (w : WF K F T st H) (eo : EnvOk K xi F T H env σ) : ∃ F1, Same F F1 ∧ Ext F0 T0 xi.H0 F1 T H ∧ WF K F1 T st H ∧ EnvOk K xi F1 T H (env.modify i freeze1) σ := by
  have same : (∀ d, env[i]? ≠ some (.own d)) → env.modify i freeze1 = env := fun h => by
    apply List.ext_getElem?
    intro j
    rw [List.getElem?_modify]
    cases e : env[j]? with
    | none => rfl
    | some s =>
      show some (if i = j then freeze1 s else s) = some s
      by_cases c : i = j
      · subst c
        rw [if_pos rfl]
        cases s with
        | own d => exact absurd e (h d)
        | _ => rfl
      · rw [if_neg c]
  by_cases hi : ∃ d, env[i]? = some (.own d)
  · obtain ⟨d, hd⟩ := hi
    obtain ⟨a, e1, r, f, n, z⟩ := eo.at_ i _ hd
    obtain ⟨o, ho⟩ := r.there
    have sm : Same F (L2.upd F a o) := fun b u e => by rw [upd_ne (ne_of_none e f)]; exact e
    refine ⟨L2.upd F a o, sm, Ext.freeze ho f n x z.h0, w.freeze ho f n, ⟨fun j s hs => ?_, by rw [List.length_modify]; exact eo.len, fun j l d1 d2 p ne h1 h2 h3 h4 => ?_⟩⟩
    · rw [List.getElem?_modify] at hs
      cases e : env[j]? with
      | none => rw [e] at hs; cases hs
      | some s0 =>
        rw [e] at hs
        have hs : some (if i = j then freeze1 s0 else s0) = some s := hs
        by_cases c : i = j
        · subst c
          rw [if_pos rfl] at hs
          rw [hd] at e
          cases e
          cases hs
          cases d with
          | tab p q => trivial
          | _ => exact ⟨.ref a, e1, r.rep (fun p q z => by cases z) sm fun o' e' => by rw [upd_same, ← e', ho]⟩
        · rw [if_neg c] at hs
          cases hs
          have q := eo.at_ j s e
          cases s with
          | no => trivial
          | val d' => obtain ⟨v, h1, h2⟩ := q; exact ⟨v, h1, h2.mono sm (.refl _)⟩
          | own d' =>
            obtain ⟨b, h1, h2, h3, h4, h5⟩ := q
            have nb : b ≠ a := fun z => eo.apart i j d d' a c hd e e1 (by rw [← z]; exact h1)
            exact ⟨b, h1, h2.mono sm (.refl _) fun _ h => h, by rw [upd_ne nb]; exact h3, h4, h5⟩
          | xc c' ks ds =>
            obtain ⟨y, h1, h2, h3, h4⟩ := q
            refine ⟨y, h1, h2, h3, ?_⟩
            rcases h4 with h4 | ⟨b, fs, g1, g2, g3, g4, g5⟩
            · exact .inl h4
            · exact .inr ⟨b, fs, g1, g2, g3, g4, g5.mono sm (.refl _)⟩
    · have own_of : ∀ {j : Nat} {d1 : D}, (env.modify i freeze1)[j]? = some (.own d1) → env[j]? = some (.own d1) := fun {j d1} h => by
        rw [List.getElem?_modify] at h
        cases e : env[j]? with
        | none => rw [e] at h; cases h
        | some s0 =>
          rw [e] at h
          have h : some (if i = j then freeze1 s0 else s0) = some (Sl.own d1) := h
          by_cases c : i = j
          · rw [if_pos c] at h
            cases s0 with
            | own d0 => cases d0 <;> cases h
            | _ => cases h
          · rw [if_neg c] at h
            exact h
      exact eo.apart j l d1 d2 p ne (own_of h1) (own_of h2) h3 h4
  · rw [same fun d h => hi ⟨d, h⟩]
    exact ⟨F, .refl _, x, w, eo⟩
theorem freeze_ok (x : Ext F0 T0 xi.H0 F T H) (w : WF K F T st H) (eo : EnvOk K xi F T H env σ) : ∀ fz : List Nat, ∃ F1, Same F F1 ∧ Ext F0 T0 xi.H0 F1 T H ∧ WF K F1 T st H ∧ EnvOk K xi F1 T H (freeze env fz) σ
  | [] => ⟨F, .refl _, x, w, eo⟩
  | i :: fz => by
    obtain ⟨F1, a1, x1, w1, e1⟩ := freeze_ok x w eo fz
    obtain ⟨F2, a2, x2, w2, e2⟩ := freeze_one i x1 w1 e1
    exact ⟨F2, a1.trans a2, x2, w2, e2⟩
end
section
variable {X : Cx} {W : WW} {C : Calls}
abbrev tSt (K : PySem.W.Frag) (W : WW) (C : Calls) (s : S) : TS := tS K W (evS C s)
abbrev tSs (K : PySem.W.Frag) (W : WW) (C : Calls) (ss : Ss) : TS := tS K W (evSs C ss)
theorem ss_nil : PSs X [] (tSs X.K W C .nil) := impSs pss_nil fun D σ H ⟨F, T, st, env, x, w, eo, p⟩ => p F T H σ (.refl _) (.refl _) x w eo
theorem ss_rd {s : S} {ss : Ss} (hsv : W.sv = false ∨ ∀ env st env' st', evS C s env st = .ok (.nx env') st' → env' = env) {D : Ends} {σ : L2.St} {H : Hp} (h : tSs X.K W C (.cons s ss) D σ H) : tSeq (tSt X.K W C s) (tSs X.K W C ss) D σ H := by
  obtain ⟨F, T, st, env, x, w, eo, p⟩ := h
  have p : PostS X.K W F T env ((evS C s env st).bnd fun f st => (match f with
    | .nx env' => evSs C ss env' st
    | .rt d => .ok (.rt d) st
    | .bk env => .ok (.bk env) st
    | .ct env => .ok (.ct env) st)) D := p
  refine ⟨F, T, st, env, x, w, eo, p.bnd fun F' T' H' σ' g st' a b x' w' e p' => ?_⟩
  cases g with
  | nx env' =>
    intro eo'
    refine ⟨F', T', st', env', x', w', eo', ?_⟩
    have p' : PostS X.K W F' T' env (evSs C ss env' st') D := p'
    rcases hsv with hsv | hsv
    · revert p'
      cases evSs C ss env' st' with
      | bad => exact id
      | ok f st => exact id
      | ex c ks ds st => exact fun p' dx F' T' H' σ' a b x w r _ => p' dx F' T' H' σ' a b x w r fun h => by rw [hsv] at h; cases h
    · rw [hsv _ _ _ _ e]
      rw [hsv _ _ _ _ e] at p'
      exact p'
  | rt d => exact p' F' T' H' σ' (.refl _) (.refl _) x' w'
  | bk env' => exact p' F' T' H' σ' (.refl _) (.refl _) x' w'
  | ct env' => exact p' F' T' H' σ' (.refl _) (.refl _) x' w'
theorem ss_cons {a : Stmt} {as : List Stmt} {s : S} {ss : Ss} (hsv : W.sv = false ∨ ∀ env st env' st', evS C s env st = .ok (.nx env') st' → env' = env) (h : PS X a (tSt X.K W C s)) (hs : PSs X as (tSs X.K W C ss)) : PSs X (a :: as) (tSs X.K W C (.cons s ss)) :=
  impSs (pss_cons h hs) fun D σ H h => ss_rd hsv h
/-- the ghost, after things have been frozen ahead of a statement -/
theorem fz_go {fz : List Nat} (hz : W.sv = false ∨ fz = []) {F H : Hp} {T : List Addr} {st : Store} {env : Env} {σ : L2.St} {o : Out Fl} {D : Ends} (x : Ext W.B.F W.B.T W.B.H F T H) (w : WF X.K F T st H) (eo : EnvOk X.K W.xi F T H env σ)
    (p : PostS X.K W F T env o D) : ∃ F1, Ext W.B.F W.B.T W.B.H F1 T H ∧ WF X.K F1 T st H ∧ EnvOk X.K W.xi F1 T H (freeze env fz) σ ∧ (W.sv = true → EnvOk X.K W.xi F1 T H env σ) ∧ PostS X.K W F1 T env o D := by
  obtain ⟨F1, a, x1, w1, e1⟩ := freeze_ok x w eo fz
  refine ⟨F1, x1, w1, e1, fun h => ?_, p.shift a (.refl _)⟩
  rcases hz with hz | hz
  · rw [hz] at h; cases h
  · subst hz
    exact e1
theorem ss_ret {e : Expr} {ir : E} {fz : List Nat} {pos : Pos} (hz : W.sv = false ∨ fz = []) (he : PE X e (tE X.K W C ir)) : PS X (.Return (some e) pos) (tSt X.K W C (.ret fz ir)) :=
  impS (ps_ret he) fun D σ H ⟨F, T, st, env, x, w, eo, p⟩ => by
    have p : PostS X.K W F T env ((evE C (freeze env fz) ir st).bnd fun d st => .ok (.rt d) st) D := p
    obtain ⟨F1, x1, w1, eo1, es1, p1⟩ := fz_go hz x w eo p
    refine ⟨F1, T, st, _, w1, eo1, (p1.step (R1 := rV X.K) x1 es1).mono fun v H2 ⟨F2, T2, st2, d, x2, w2, r2, p2⟩ => ?_⟩
    exact p2 F2 T2 H2 σ (.refl _) (.refl _) (x1.trans x2) w2 v r2
theorem ss_if {c : Expr} {a b : List Stmt} {ic : E} {ia ib : Ss} {pos : Pos} (hc : PT X c (tT X.K W C ic)) (ha : PSs X a (tSs X.K W C ia)) (hb : PSs X b (tSs X.K W C ib)) : PS X (.If c a b pos) (tSt X.K W C (.ifs ic ia ib)) :=
  impS (ps_if hc ha hb) fun D σ H ⟨F, T, st, env, x, w, eo, p⟩ => by
    have p : PostS X.K W F T env ((evT C env ic st).bnd fun r st => (match r with | true => evSs C ia env st | false => evSs C ib env st)) D := p
    refine ⟨F, T, st, env, w, eo, (p.step (R1 := rEq) x fun _ => eo).mono fun r H2 ⟨F2, T2, st2, d, x2, w2, r2, p2⟩ => ?_⟩
    have r2 : d = r := r2
    subst r2
    cases d with
    | true => simp only [if_true]; exact ⟨F2, T2, st2, env, x.trans x2, w2, eo.ext x2, p2⟩
    | false => simp only [Bool.false_eq_true, if_false]; exact ⟨F2, T2, st2, env, x.trans x2, w2, eo.ext x2, p2⟩
theorem asg_rd {fz : List Nat} {tg : Tg} {ir : E} (hz : W.sv = false ∨ fz = []) {D : Ends} {σ : L2.St} {H : Hp} (h : tSt X.K W C (.asg fz tg ir) D σ H) : tAsg (tE X.K W C ir) (gT X.K tg) D σ H := by
  obtain ⟨F, T, st, env, x, w, eo, p⟩ := h
  have p : PostS X.K W F T env ((evE C (freeze env fz) ir st).bnd fun d st => (ofO (bind1 tg d (freeze env fz)) st).bnd fun env' st => .ok (.nx env') st) D := p
  obtain ⟨F1, x1, w1, eo1, es1, p1⟩ := fz_go hz x w eo p
  refine ⟨F1, T, st, _, w1, eo1, (p1.step (R1 := rV X.K) x1 es1).mono fun v H2 ⟨F2, T2, st2, d, x2, w2, r2, p2⟩ => ?_⟩
  cases e : bind1 tg d (freeze env fz) with
  | none => rw [e] at p2; exact p2.elim
  | some env' =>
    rw [e] at p2
    exact bind_ok w2 r2 (eo1.ext x2) e fun σ' eo' _ => p2 F2 T2 H2 σ' (.refl _) (.refl _) (x1.trans x2) w2 eo'
theorem ss_set {i : Nat} {y : Str} {e : Expr} {ir : E} {fz : List Nat} {pos pos' : Pos} (hz : W.sv = false ∨ fz = []) (hN : X.N.Nodup) (hi : X.N[i]? = some y) (hx : Loc X.env.scope y) (he : PE X e (tE X.K W C ir)) (hs : swapsWith e (some (.Name y pos')) pos.line X.env = pure false)
    (hf : X.fn y = true ∨ X.env.scope.names.lookup y = some .local) : PS X (.Assign [.Name y pos'] e pos) (tSt X.K W C (.asg fz (.v i) ir)) :=
  impS (ps_set hN hi hx he hs hf) fun D σ H h => asg_rd hz h
theorem ss_asg {tg e : Expr} {tgI : Tg} {ir : E} {fz : List Nat} {pos : Pos} (hz : W.sv = false ∨ fz = []) (he : PE X e (tE X.K W C ir)) (hg : PG X tg (gT X.K tgI)) (hs : swapsWithSole [tg] e pos.line X.env = pure false) (hw : swappedStores [tg] e X.env = pure none)
    (h1 : (assignEach [tg] X.env).map (·.2) = [assign tg X.env]) : PS X (.Assign [tg] e pos) (tSt X.K W C (.asg fz tgI ir)) :=
  impS (ps_asg he hg hs hw h1) fun D σ H h => asg_rd hz h
theorem g_v {i : Nat} {y : Str} {pos : Pos} (hN : X.N.Nodup) (hi : X.N[i]? = some y) (hx : Loc X.env.scope y) (hf : X.fn y = true ∨ X.env.scope.names.lookup y = some .local) : PG X (.Name y pos) (gT X.K (.v i)) := pg_name hN hi hx hf
theorem g_nil : PGs X [] (gTs X.K .nil) := pgs_nil
theorem g_cons {e : Expr} {es : List Expr} {t : Tg} {ts : Tgs} (h1 : PG X e (gT X.K t)) (h2 : PGs X es (gTs X.K ts)) (hs : (assignEach (e :: es) X.env).map (·.2) = assign e X.env :: (assignEach es X.env).map (·.2)) : PGs X (e :: es) (gTs X.K (.cons t ts)) := pgs_cons h1 h2 hs
theorem g_t {es : List Expr} {k : Nat} {ts : Tgs} {pos : Pos} (hc : X.calm = true) (h : PGs X es (gTs X.K ts)) (hn : (assignEach es X.env).length = lenT ts) (hst : (assignEach es X.env).findIdx? (·.1) = none) : PG X (.Tuple es k pos) (gT X.K (.t ts)) := pg_seq hc h hn hst
theorem fresh_of {K : PySem.W.Frag} {H F H' : Hp} {T : List Addr} {d : D} {v : V} (c : isCont d = true) (r : rD K H F T H' d v) : Fresh K H F T H' d v := by
  unfold rD at r
  rw [if_pos c] at r
  exact r
theorem EnvOk.setOwn {xi : XB} {K : PySem.W.Frag} {F H : Hp} {T : List Addr} {env : Env} {σ : L2.St} (eo : EnvOk K xi F T H env σ) (i : Nat) {d : D} {a : Addr} (r : RepTop K F T H a d) (f : F a = none) (n : a ∉ T) (z : xi.At a d)
    (ap : ∀ j d', env[j]? = some (.own d') → σ[j]? = some (some (.ref a)) → j = i) : EnvOk K xi F T H (env.set i (.own d)) (σ.set i (some (.ref a))) := by
  refine ⟨fun j s hs => ?_, by rw [List.length_set, List.length_set]; exact eo.len, fun j l d1 d2 p ne h1 h2 h3 h4 => ?_⟩
  · rw [List.getElem?_set] at hs
    split at hs <;> rename_i c
    · subst c
      split at hs <;> rename_i l
      · cases hs
        rw [List.getElem?_set_self (Nat.lt_of_lt_of_le l eo.len)]
        exact ⟨a, rfl, r, f, n, z⟩
      · cases hs
    · rw [List.getElem?_set_ne c]
      exact eo.at_ j s hs
  · by_cases c : i = j
    · subst c
      have c2 : i ≠ l := ne
      rw [List.getElem?_set_ne c2] at h2 h4
      have li : i < σ.length := by
        by_cases q : i < σ.length
        · exact q
        · rw [List.getElem?_eq_none (by rw [List.length_set]; omega)] at h3
          cases h3
      rw [List.getElem?_set_self li] at h3
      cases h3
      exact c2 (ap l d2 h2 h4).symm
    · rw [List.getElem?_set_ne c] at h1 h3
      by_cases c2 : i = l
      · subst c2
        have li : i < σ.length := by
          by_cases q : i < σ.length
          · exact q
          · rw [List.getElem?_eq_none (by rw [List.length_set]; omega)] at h4
            cases h4
        rw [List.getElem?_set_self li] at h4
        cases h4
        exact c (ap j d1 h1 h3).symm
      · rw [List.getElem?_set_ne c2] at h2 h4
        exact eo.apart j l d1 d2 p ne h1 h2 h3 h4
/-- nothing stands at a new address -/
theorem no_old {xi : XB} {K : PySem.W.Frag} {F H : Hp} {T : List Addr} {env : Env} {σ : L2.St} (eo : EnvOk K xi F T H env σ) {a : Addr} (h : H a = none) (i : Nat) : ∀ j d', env[j]? = some (.own d') → σ[j]? = some (some (.ref a)) → j = i := fun j d' h1 h2 => by
  obtain ⟨b, e1, r, _⟩ := eo.at_ j _ h1
  rw [h2] at e1
  cases e1
  obtain ⟨o, ho⟩ := r.there
  rw [h] at ho
  cases ho
theorem cont_noIns {d : D} (c : isCont d = true) : isInsD d = false := by
  cases d <;> first | rfl | cases c
theorem own_rd {i : Nat} {ir : E} {te : TE} (hte : ∀ σ H Q, tDr X.K W C ir σ H Q → te σ H Q) {D : Ends} {σ : L2.St} {H : Hp} (h : tSt X.K W C (.own i ir) D σ H) : tAsg te (gName i) D σ H := by
  obtain ⟨F, T, st, env, x, w, eo, p⟩ := h
  have p : PostS X.K W F T env ((evE C env ir st).bnd fun d st => chkO (isCont d) (.ok (.nx (env.set i (.own d))) st)) D := p
  refine hte σ H _ ⟨F, T, st, env, w, eo, (p.step (R1 := rD X.K) x fun _ => eo).mono fun v H2 ⟨F2, T2, st2, d, x2, w2, r2, p2⟩ => ?_⟩
  cases c : isCont d with
  | false => rw [c] at p2; exact p2.elim
  | true =>
    rw [c] at p2
    obtain ⟨a, e, rt, f, n, z⟩ := fresh_of c r2
    subst e
    exact p2 F2 T2 H2 _ (.refl _) (.refl _) (x.trans x2) w2 ((eo.ext x2).setOwn i rt f n ⟨x.none a z, fun h => by rw [cont_noIns c] at h; cases h⟩ fun j d' h1 h2 => no_old eo z i j d' h1 h2)
theorem ss_own {i : Nat} {y : Str} {e : Expr} {ir : E} {pos pos' : Pos} (hN : X.N.Nodup) (hi : X.N[i]? = some y) (hx : Loc X.env.scope y) (he : PE X e (tDr X.K W C ir)) (hs : swapsWith e (some (.Name y pos')) pos.line X.env = pure false)
    (hf : X.fn y = true ∨ X.env.scope.names.lookup y = some .local) : PS X (.Assign [.Name y pos'] e pos) (tSt X.K W C (.own i ir)) :=
  impS (ps_set hN hi hx he hs hf) fun D σ H h => own_rd (fun _ _ _ h => h) h
end
end Eng
set_option Elab.async false
set_option linter.all false
set_option maxRecDepth 100000
namespace Eng
open PySem PySem.Spec PyProof.Rows L2
theorem putD_noIns {o k v d' : D} (h : putD o k v = some d') : isInsD d' = false := by
  cases o with
  | lst ds =>
    cases k with
    | int i =>
      obtain ⟨j, _, e⟩ := Option.map_eq_some_iff.mp (show (ixN ds.length i).map (fun j => D.lst (ds.set j v)) = some d' from h)
      rw [← e]
      rfl
    | _ => cases h
  | dic ks ds =>
    obtain ⟨j, _, e⟩ := Option.bind_eq_some_iff.mp (show (keyD k).bind (fun k => if ks.length < sizeLine then some (D.dic (dicPut ks ds k v).1 (dicPut ks ds k v).2) else none) = some d' from h)
    split at e
    · cases e
      rfl
    · cases e
  | _ => cases h
section
variable {K : PySem.W.Frag} {xi : XB} {F H F0 : Hp} {T T0 : List Addr} {st : Store} {env : Env} {σ : L2.St} {a : Addr} {o : HO}
/-- a fresh thing comes into the store -/
theorem wf_track (w : WF K F T st H) {d : D} (r : RepTop K F T H a d) (f : F a = none) (n : a ∉ T) : WF K F (T ++ [a]) (st ++ [d]) H := by
  refine ⟨w.fr, by rw [List.length_append, List.length_append, w.len]; rfl, ?_, fun b hb => ?_, fun i d' e => ?_, w.tp⟩
  · rw [List.nodup_append]
    refine ⟨w.nd, List.pairwise_singleton _ _, fun x hx y hy => ?_⟩
    rw [List.mem_singleton.mp hy]
    exact fun z => n (z ▸ hx)
  · rcases List.mem_append.mp hb with h | h
    · exact w.nf b h
    · rw [List.mem_singleton.mp h]
      exact f
  · by_cases c : i < st.length
    · rw [List.getElem?_append_left c] at e
      obtain ⟨b, h1, h2⟩ := w.at_ i d' e
      exact ⟨b, Pre.snoc T a i b h1, h2.mono (.refl _) (Pre.snoc T a) fun _ h => h⟩
    · rw [List.getElem?_append_right (by omega)] at e
      have ei : i = st.length := by
        by_cases q : i - st.length = 0
        · omega
        · rw [List.getElem?_eq_none (by simp; omega)] at e
          cases e
      subst ei
      rw [Nat.sub_self] at e
      cases e
      refine ⟨a, ?_, r.mono (.refl _) (Pre.snoc T a) fun _ h => h⟩
      rw [w.len, List.getElem?_append_right (Nat.le_refl _), Nat.sub_self]
      rfl
theorem ext_track {H0 : Hp} (x : Ext F0 T0 H0 F T H) (z : H0 a = none) : Ext F0 T0 H0 F (T ++ [a]) H := by
  refine ⟨x.fr, x.pre.trans (Pre.snoc T a), x.newF, fun b hb nb => ?_, x.keep, x.there⟩
  rcases List.mem_append.mp hb with h | h
  · exact x.newT b h nb
  · rw [List.mem_singleton.mp h]
    exact z
theorem env_track (eo : EnvOk K xi F T H env σ) (n : ∀ (j : Nat) (d' : D), env[j]? = some (Sl.own d') → σ[j]? ≠ some (some (V.ref a))) (nx : ∀ fs, H a ≠ some (.xd fs)) : EnvOk K xi F (T ++ [a]) H env σ := by
  refine ⟨fun j s e => ?_, eo.len, eo.apart⟩
  have q := eo.at_ j s e
  cases s with
  | no => trivial
  | val d => obtain ⟨v, h1, h2⟩ := q; exact ⟨v, h1, h2.mono (.refl _) (Pre.snoc T a)⟩
  | own d =>
    obtain ⟨b, h1, h2, h3, h4, h5⟩ := q
    refine ⟨b, h1, h2.mono (.refl _) (Pre.snoc T a) fun _ h => h, h3, fun m => ?_, h5⟩
    rcases List.mem_append.mp m with h | h
    · exact h4 h
    · rw [List.mem_singleton.mp h] at h1
      exact n j d e h1
  | xc c ks ds =>
    obtain ⟨y, h1, h2, h3, h4⟩ := q
    refine ⟨y, h1, h2, h3, ?_⟩
    rcases h4 with h4 | ⟨b, fs, g1, g2, g3, g4, g5⟩
    · exact .inl h4
    · refine .inr ⟨b, fs, g1, g2, fun m => ?_, g4, g5.mono (.refl _) (Pre.snoc T a)⟩
      rcases List.mem_append.mp m with h | h
      · exact g3 h
      · rw [List.mem_singleton.mp h] at g2
        exact nx fs g2
/-- a thing of the frame's own is changed -/
theorem env_updOwn (eo : EnvOk K xi F T H env σ) {i : Nat} {d d' : D} (hi : env[i]? = some (.own d)) (ha : σ[i]? = some (some (.ref a))) (r : RepTop K F T (L2.upd H a o) a d') (nx : ∀ fs, H a ≠ some (.xd fs)) (ii : isInsD d' = true → isInsD d = true) :
    EnvOk K xi F T (L2.upd H a o) (env.set i (.own d')) σ := by
  obtain ⟨a', e1, r0, f, n, z⟩ := eo.at_ i _ hi
  rw [ha] at e1
  cases e1
  refine ⟨fun j s e => ?_, by rw [List.length_set]; exact eo.len, fun j l d1 d2 p ne h1 h2 h3 h4 => ?_⟩
  · rw [List.getElem?_set] at e
    split at e <;> rename_i c
    · subst c
      split at e
      · cases e
        exact ⟨a, ha, r, f, n, z.h0, fun h => z.me (ii h)⟩
      · cases e
    · have q := eo.at_ j s e
      cases s with
      | no => trivial
      | val d => exact q
      | own d2 =>
        obtain ⟨b, h1, h2, h3, h4, h5⟩ := q
        have nb : b ≠ a := fun z => eo.apart i j _ _ a c hi e ha (by rw [← z]; exact h1)
        exact ⟨b, h1, h2.mono (.refl _) (.refl _) fun o' e' => by
          by_cases q : b = a
          · exact absurd q nb
          · rw [upd_ne q]; exact e', h3, h4, h5⟩
      | xc c ks ds =>
        obtain ⟨y, h1, h2, h3, h4⟩ := q
        refine ⟨y, h1, h2, h3, ?_⟩
        rcases h4 with h4 | ⟨b, fs, g1, g2, g3, g4, g5⟩
        · exact .inl h4
        · refine .inr ⟨b, fs, g1, ?_, g3, g4, g5⟩
          rw [upd_ne (fun z => nx fs (by rw [← z]; exact g2))]
          exact g2
  · have own_of : ∀ {k : Nat} {d3 : D}, (env.set i (.own d'))[k]? = some (.own d3) → ∃ d4, env[k]? = some (.own d4) := fun {k d3} h => by
      rw [List.getElem?_set] at h
      split at h <;> rename_i c
      · subst c
        exact ⟨d, hi⟩
      · exact ⟨d3, h⟩
    obtain ⟨d3, q1⟩ := own_of h1
    obtain ⟨d4, q2⟩ := own_of h2
    exact eo.apart j l d3 d4 p ne q1 q2 h3 h4
/-- a thing of the store is changed -/
theorem wf_updT (w : WF K F T st H) {n : Nat} {d' : D} (hn : T[n]? = some a) (r : RepTop K F T (L2.upd H a o) a d') : WF K F T (st.set n d') (L2.upd H a o) := by
  have ht : ∀ xs, o ≠ .tup xs := fun xs e => top_nt r xs (by rw [upd_same, e])
  have mem : a ∈ T := List.mem_iff_getElem?.mpr ⟨n, hn⟩
  refine ⟨fun b u e => ?_, by rw [List.length_set]; exact w.len, w.nd, w.nf, fun i d e => ?_, fun b u e => by
    by_cases q : b = a
    · subst q; rw [upd_same] at e; exact (ht u (Option.some.inj e)).elim
    · rw [upd_ne q] at e; exact w.tp b u e⟩
  · rw [upd_ne (ne_of_none e (w.nf a mem))]
    exact w.fr b u e
  · rw [List.getElem?_set] at e
    split at e <;> rename_i c
    · subst c
      split at e
      · cases e
        exact ⟨a, hn, r⟩
      · cases e
    · obtain ⟨b, h1, h2⟩ := w.at_ i d e
      have nb : b ≠ a := fun z => by
        subst z
        have l1 := List.getElem?_eq_some_iff.mp hn
        have l2 := List.getElem?_eq_some_iff.mp h1
        obtain ⟨l1, e1⟩ := l1
        obtain ⟨l2, e2⟩ := l2
        exact c ((List.getElem_inj w.nd).mp (e1.trans e2.symm))
      exact ⟨b, h1, h2.mono (.refl _) (.refl _) fun o' e' => by
          by_cases q : b = a
          · exact absurd q nb
          · rw [upd_ne q]; exact e'⟩
theorem ext_updT {H0 : Hp} (x : Ext F0 T0 H0 F T H) (m : a ∈ T) (h : H a ≠ none) : Ext F0 T0 H0 F T (L2.upd H a o) := by
  refine ⟨x.fr, x.pre, x.newF, x.newT, fun b u e n => ?_, fun b u e => ?_⟩
  · have nb : b ≠ a := fun z => by
      subst z
      have := x.newT b m n
      rw [e] at this
      cases this
    rw [upd_ne nb]
    exact x.keep b u e n
  · by_cases q : b = a
    · subst q
      exact ⟨o, upd_same⟩
    · obtain ⟨u', e'⟩ := x.there b u e
      exact ⟨u', by rw [upd_ne q]; exact e'⟩
theorem env_updT (eo : EnvOk K xi F T H env σ) (m : a ∈ T) : EnvOk K xi F T (L2.upd H a o) env σ := by
  refine ⟨fun j s e => ?_, eo.len, eo.apart⟩
  have q := eo.at_ j s e
  cases s with
  | no => trivial
  | val d => exact q
  | own d2 =>
    obtain ⟨b, h1, h2, h3, h4, h5⟩ := q
    have nb : b ≠ a := fun z => h4 (z ▸ m)
    exact ⟨b, h1, h2.mono (.refl _) (.refl _) fun o' e' => by rw [upd_ne nb]; exact e', h3, h4, h5⟩
  | xc c ks ds =>
    obtain ⟨y, h1, h2, h3, h4⟩ := q
    refine ⟨y, h1, h2, h3, ?_⟩
    rcases h4 with h4 | ⟨b, fs, g1, g2, g3, g4, g5⟩
    · exact .inl h4
    · refine .inr ⟨b, fs, g1, ?_, g3, g4, g5⟩
      have nb : b ≠ a := fun z => g3 (z ▸ m)
      rw [upd_ne nb]
      exact g2
theorem ext_own {H0 : Hp} (x : Ext F0 T0 H0 F T H) (z : H0 a = none) : Ext F0 T0 H0 F T (L2.upd H a o) := ext_upd x z
end
section
variable {X : Cx} {W : WW} {C : Calls}
theorem top_nx {K : PySem.W.Frag} {F H : Hp} {T : List Addr} {a : Addr} {d : D} (r : RepTop K F T H a d) : ∀ fs, H a ≠ some (.xd fs) := fun fs e => by
  cases d with
  | lst ds => obtain ⟨xs, h, _⟩ := r; rw [e] at h; cases h
  | dic ks ds => obtain ⟨xs, h, _⟩ := r; rw [e] at h; cases h
  | ins c ks ds => obtain ⟨dx, xs, h, _⟩ := r; rw [e] at h; cases h
  | tab p q => obtain ⟨_, xs, h, _⟩ := r; rw [e] at h; cases h
  | dtt z ks ds => cases z with
    | false => obtain ⟨xs, h, _⟩ := r; rw [e] at h; cases h
    | true => exact r.elim
  | _ => exact r.elim
theorem ss_obj {i : Nat} {y : Str} {e : Expr} {ir : E} {pos pos' : Pos} (hN : X.N.Nodup) (hi : X.N[i]? = some y) (hx : Loc X.env.scope y) (he : PE X e (tDr X.K W C ir)) (hs : swapsWith e (some (.Name y pos')) pos.line X.env = pure false)
    (hf : X.fn y = true ∨ X.env.scope.names.lookup y = some .local) : PS X (.Assign [.Name y pos'] e pos) (tSt X.K W C (.obj i ir)) :=
  impS (ps_set hN hi hx he hs hf) fun D σ H ⟨F, T, st, env, x, w, eo, p⟩ => by
    have p : PostS X.K W F T env ((evE C env ir st).bnd fun d st => chkO (isCont d) (.ok (.nx (env.set i (.val (.obj st.length)))) (st ++ [d]))) D := p
    refine ⟨F, T, st, env, w, eo, (p.step (R1 := rD X.K) x fun _ => eo).mono fun v H2 ⟨F2, T2, st2, d, x2, w2, r2, p2⟩ => ?_⟩
    cases c : isCont d with
    | false => rw [c] at p2; exact p2.elim
    | true =>
      rw [c] at p2
      obtain ⟨a, e, rt, f, n, z⟩ := fresh_of c r2
      subst e
      have w3 := wf_track w2 rt f n
      have eo3 : EnvOk X.K W.xi F2 (T2 ++ [a]) H2 env σ := env_track (eo.ext x2) (fun j d' h1 h2 => by
        obtain ⟨b, e1, r, _⟩ := eo.at_ j _ h1
        rw [h2] at e1
        cases e1
        obtain ⟨o, ho⟩ := r.there
        rw [z] at ho
        cases ho) (top_nx rt)
      have ro : Rep X.K F2 (T2 ++ [a]) (.ref a) (.obj st2.length) := .obj (by
        rw [w2.len, List.getElem?_append_right (Nat.le_refl _), Nat.sub_self]
        rfl)
      exact p2 F2 (T2 ++ [a]) H2 _ (.refl _) (Pre.snoc T2 a) (ext_track (x.trans x2) (x.none a z)) w3 (eo3.set i ro)
theorem ownL_some {env : Env} {i : Nat} {ds : List D} (h : ownL env i = some ds) : env[i]? = some (.own (.lst ds)) := by
  unfold ownL at h
  split at h
  · rename_i e; cases h; exact e
  · cases h
theorem ss_app {i : Nat} {y : Str} {e : Expr} {ir : E} {fz : List Nat} {p1 apos cpos pos : Pos} (hz : W.sv = false) (hN : X.N[i]? = some y) (hv : Vis X.env.scope y) (hd : (y == ("__debug__" : Str)) = false) (hcd : (y == ("__classdict__" : Str)) = false) (he : PE X e (tE X.K W C ir)) (ok : okA e = true)
    (hline : (apos.endLine == cpos.line) = true) (hs : swapsWith (.Call (.Attribute (.Name y p1) "append" apos) [e] [] cpos) none pos.line X.env = pure false) :
    PS X (.Expr (.Call (.Attribute (.Name y p1) "append" apos) [e] [] cpos) pos) (tSt X.K W C (.app fz i ir)) :=
  impS (ps_expr (pe_bm PySem.F.plainAttrs_list PySem.F.slot_list_append PySem.F.type_list_append mt_append (pe_var hN hv hd hcd) (pa_cons he pa_nil (okA_star ok)) rfl (by rw [okA_star ok]; rfl) hline (okA_star ok) rfl) hs) fun D σ H ⟨F, T, st, env, x, w, eo, p⟩ => by
    have p : PostS X.K W F T env ((ofO (ownL (freeze env fz) i) st).bnd fun ds st => (evE C (freeze env fz) ir st).bnd fun d st => chkO (decide (ds.length < sizeLine)) (.ok (.nx ((freeze env fz).set i (.own (.lst (ds ++ [d]))))) st)) D := p
    obtain ⟨F1, x1, w1, eo1, _, p1⟩ := fz_go (.inl hz) x w eo p
    cases eg : ownL (freeze env fz) i with
    | none => rw [eg] at p1; exact p1.elim
    | some ds =>
      rw [eg] at p1
      have p1 : PostS X.K W F1 T env ((evE C (freeze env fz) ir st).bnd fun d st => chkO (decide (ds.length < sizeLine)) (.ok (.nx ((freeze env fz).set i (.own (.lst (ds ++ [d]))))) st)) D := p1
      have ei := ownL_some eg
      obtain ⟨a, e1, ⟨xs, hxs, rs⟩, f, n, z⟩ := eo1.at_ i _ ei
      refine ⟨.ref a, e1, .inl ⟨rfl, _, .inl (.inl hxs)⟩, F1, T, st, _, w1, eo1, (p1.step (R1 := rV X.K) x1 fun h => by rw [hz] at h; cases h).mono fun u H2 ⟨F2, T2, st2, dy, x2, w2, r2, p2⟩ => ?_⟩
      obtain ⟨o2, f2, n2⟩ := x2.own (d := .lst ds) ⟨xs, hxs, rs⟩ f n
      obtain ⟨xs', hxs', rs'⟩ := o2
      have p2 : PostS X.K W F2 T2 env (chkO (decide (ds.length < sizeLine)) (.ok (.nx ((freeze env fz).set i (.own (.lst (ds ++ [dy]))))) st2)) D := p2
      cases c : decide (ds.length < sizeLine) with
      | false => rw [c] at p2; exact p2.elim
      | true =>
        rw [c] at p2
        refine ⟨a, xs', u, rfl, rfl, hxs', by rw [rs'.length]; exact of_decide_eq_true c, ?_⟩
        have r3 : RepTop X.K F2 T2 (L2.upd H2 a (.lst (xs' ++ [u]))) a (.lst (ds ++ [dy])) := ⟨_, upd_same, rs'.append (.one r2)⟩
        exact p2 F2 T2 _ σ (.refl _) (.refl _) (ext_own (x1.trans x2) z.h0) (wf_upd w2 f2 n2) (env_updOwn (eo1.ext x2) ei e1 r3 (top_nx (d := .lst ds) ⟨xs', hxs', rs'⟩) (fun h => by cases h))
def rSetA (K : PySem.W.Frag) : TSet := fun o i v H Q => rSetL o i v H Q ∨ rSetD o i v H Q
theorem set_any (hu : X.A.units + 1 < cLine) : PSet X (rSetA X.K) := by
  intro pins s σ H o i v ov iv u Q I ro ri rv h
  rcases h with h | h
  · exact set_list pins s σ H o i v ov iv u Q I ro ri rv h
  · exact set_dict hu pins s σ H o i v ov iv u Q I ro ri rv h
end
end Eng
set_option Elab.async false
set_option linter.all false
set_option maxRecDepth 100000
namespace Eng
open PySem PySem.Spec PyProof.Rows L2
section
variable {X : Cx} {W : WW} {C : Calls}
theorem isPut_cases {env : Env} {i : Nat} (h : isPut env i = true) : (∃ d, env[i]? = some (.own d)) ∨ ∃ n, env[i]? = some (.val (.obj n)) := by
  unfold isPut at h
  split at h
  · rename_i d e; exact .inl ⟨d, e⟩
  · rename_i n e; exact .inr ⟨n, e⟩
  · cases h
theorem putD_lst {o k v d' : D} {ds : List D} (eo : o = .lst ds) (h : putD o k v = some d') : ∃ i j, k = .int i ∧ ixN ds.length i = some j ∧ d' = .lst (ds.set j v) := by
  subst eo
  cases k with
  | int i =>
    have h : (ixN ds.length i).map (fun j => D.lst (ds.set j v)) = some d' := h
    obtain ⟨j, e, rfl⟩ := Option.map_eq_some_iff.mp h
    exact ⟨i, j, rfl, e, rfl⟩
  | _ => cases h
theorem dicPut_rep {K : PySem.W.Frag} {F : Hp} {T : List Addr} {k : Key} {v : V} {d : D} (r : Rep K F T v d) {kvs : List (Key × V)} {ds : List D} (rs : Reps K F T (kvs.map (·.2)) ds) :
    (putK kvs k v).map (·.1) = (dicPut (kvs.map (·.1)) ds k d).1 ∧ Reps K F T ((putK kvs k v).map (·.2)) (dicPut (kvs.map (·.1)) ds k d).2 := by
  have ea : (kvs.any fun kv => decide (kv.1 = k)) = ((kvs.map (·.1)).any fun q => decide (q = k)) := by rw [List.any_map]; rfl
  unfold putK dicPut
  rw [← ea]
  by_cases c : (kvs.any fun kv => decide (kv.1 = k)) = true
  · rw [if_pos c, if_pos c]
    refine ⟨?_, ?_⟩
    · show List.map (fun x => x.fst) (List.map (fun kv => if kv.fst = k then (kv.fst, v) else kv) kvs) = List.map (fun x => x.fst) kvs
      rw [List.map_map]
      apply List.map_congr_left
      intro kv _
      show (if kv.fst = k then (kv.fst, v) else kv).1 = kv.1
      split <;> rfl
    · show Reps K F T (List.map (fun x => x.snd) (List.map (fun kv => if kv.fst = k then (kv.fst, v) else kv) kvs)) (List.zipWith (fun q e => if q = k then d else e) (List.map (fun x => x.fst) kvs) ds)
      clear c ea
      induction kvs generalizing ds with
      | nil => cases rs; exact .nil
      | cons kv kvs ih =>
        cases rs with
        | cons r1 rs =>
          refine .cons ?_ (ih rs)
          show Rep K F T (if kv.fst = k then (kv.fst, v) else kv).2 (if kv.fst = k then d else _)
          by_cases q : kv.fst = k
          · rw [if_pos q, if_pos q]; exact r
          · rw [if_neg q, if_neg q]; exact r1
  · rw [if_neg c, if_neg c]
    refine ⟨by rw [List.map_append]; rfl, ?_⟩
    rw [List.map_append]
    exact rs.append (.one r)
/-- a container's part set, by the heap -/
theorem put_top {F T H} {a : Addr} {o k v d' : D} {x y : V} (rt : RepTop X.K F T H a o) (rk : Rep X.K F T x k) (rv : Rep X.K F T y v) (h : putD o k v = some d') {Q : Hp → Prop}
    (q : ∀ u, RepTop X.K F T (L2.upd H a u) a d' → Q (L2.upd H a u)) : rSetA X.K (.ref a) x y H Q := by
  cases o with
  | lst ds =>
    obtain ⟨i, j, rfl, hj, rfl⟩ := putD_lst rfl h
    obtain ⟨xs, hx, rs⟩ := rt
    cases rk
    exact .inl ⟨a, xs, i, j, rfl, rfl, hx, by rw [rs.length]; exact hj, q _ ⟨_, upd_same, rs.set rv j⟩⟩
  | dic ks ds =>
    have h : ((keyD k).bind fun k => if ks.length < sizeLine then some (D.dic (dicPut ks ds k v).1 (dicPut ks ds k v).2) else none) = some d' := h
    obtain ⟨kk, ek, h⟩ := Option.bind_eq_some_iff.mp h
    split at h <;> rename_i c
    · cases h
      obtain ⟨kvs, hk, e, rs⟩ := rt
      subst e
      have ex : x = kV kk := by
        cases k with
        | int i => cases ek; cases rk; rfl
        | str z => cases ek; cases rk; rfl
        | _ => cases ek
      subst ex
      obtain ⟨e1, e2⟩ := dicPut_rep rv (k := kk) rs
      exact .inr ⟨a, _, rfl, .inl ⟨kvs, kk, hk, rfl, by rw [List.length_map] at c; exact c, rfl⟩, q _ ⟨_, upd_same, e1, e2⟩⟩
    · cases h
  | _ => cases h
theorem ss_setI {i : Nat} {y : Str} {k e : Expr} {ik ir : E} {fz : List Nat} {p1 sp pos : Pos} (hu : X.A.units + 1 < cLine) (hz : W.sv = false) (hN : X.N[i]? = some y) (hv : Vis X.env.scope y) (hd : (y == ("__debug__" : Str)) = false) (hcd : (y == ("__classdict__" : Str)) = false)
    (hk : PE X k (tE X.K W C ik)) (he : PE X e (tE X.K W C ir)) (hs : swapsWithSole [.Subscript (.Name y p1) k sp] e pos.line X.env = pure false) (hw : swappedStores [.Subscript (.Name y p1) k sp] e X.env = pure none)
    (h1 : (assignEach [.Subscript (.Name y p1) k sp] X.env).map (·.2) = [assign (.Subscript (.Name y p1) k sp) X.env])
    (ha : ∀ v, assign (.Subscript (.Name y p1) k sp) X.env v = (do
      let ov ← holding [v] (eval (.Name y p1) X.env)
      let iv ← holding [v, ov] (eval k X.env)
      standAt sp
      holding [v, ov, iv] (setItem ov iv v)
      release [v, ov, iv] [])) :
    PS X (.Assign [.Subscript (.Name y p1) k sp] e pos) (tSt X.K W C (.setI fz i ik ir)) :=
  impS (ps_asg he (pg_sub (pe_var hN hv hd hcd) hk (set_any hu) ha) hs hw h1) fun D σ H ⟨F, T, st, env, x, w, eo, p⟩ => by
    have p : PostS X.K W F T env ((evE C (freeze env fz) ir st).bnd fun d st => chkO (isPut (freeze env fz) i) ((evE C (freeze env fz) ik st).bnd fun x st => (setIx (freeze env fz) i x d st).bnd fun env' st => .ok (.nx env') st)) D := p
    obtain ⟨F1, x1, w1, eo1, _, p1⟩ := fz_go (.inl hz) x w eo p
    have nosv : ∀ {P : Prop}, W.sv = true → P := fun h => by rw [hz] at h; cases h
    refine ⟨F1, T, st, _, w1, eo1, (p1.step (R1 := rV X.K) x1 nosv).mono fun u H2 ⟨F2, T2, st2, d, x2, w2, r2, p2⟩ => ?_⟩
    have r2 : Rep X.K F2 T2 u d := r2
    cases c : isPut (freeze env fz) i with
    | false => rw [c] at p2; exact p2.elim
    | true =>
      rw [c] at p2
      have p2 : PostS X.K W F2 T2 env ((evE C (freeze env fz) ik st2).bnd fun x st => (setIx (freeze env fz) i x d st).bnd fun env' st => .ok (.nx env') st) D := p2
      have eo2 := eo1.ext x2
      have x12 := x1.trans x2
      rcases isPut_cases c with ⟨o, ei⟩ | ⟨n, ei⟩
      · obtain ⟨a, e1, rt, f, nt, z⟩ := eo2.at_ i _ ei
        refine ⟨.ref a, e1, F2, T2, st2, _, w2, eo2, (p2.step (R1 := rV X.K) x12 nosv).mono fun kx H3 ⟨F3, T3, st3, dk, x3, w3, r3, p3⟩ => ?_⟩
        obtain ⟨rt3, f3, nt3⟩ := x3.own rt f nt
        have p3 : PostS X.K W F3 T3 env ((setIx (freeze env fz) i dk d st3).bnd fun env' st => .ok (.nx env') st) D := p3
        unfold setIx at p3
        rw [ei] at p3
        have p3 : PostS X.K W F3 T3 env (((ofO (putD o dk d) st3).bnd fun d' st => .ok ((freeze env fz).set i (.own d')) st).bnd fun env' st => .ok (.nx env') st) D := p3
        cases ep : putD o dk d with
        | none => rw [ep] at p3; exact p3.elim
        | some d' =>
          rw [ep] at p3
          refine put_top rt3 r3 (r2.mono x3.fr x3.pre) ep fun u rt4 => ?_
          exact p3 F3 T3 _ σ (.refl _) (.refl _) (ext_own (x12.trans x3) z.h0) (wf_upd w3 f3 nt3 fun xs e => top_nt rt4 xs (by rw [upd_same, e])) (env_updOwn (eo2.ext x3) ei e1 rt4 (top_nx rt3) (fun h => by rw [putD_noIns ep] at h; cases h))
      · obtain ⟨v, e1, rv⟩ := eo2.at_ i _ ei
        cases rv with
        | @obj _ a ha =>
          refine ⟨.ref a, e1, F2, T2, st2, _, w2, eo2, (p2.step (R1 := rV X.K) x12 nosv).mono fun kx H3 ⟨F3, T3, st3, dk, x3, w3, r3, p3⟩ => ?_⟩
          have ha3 : T3[n]? = some a := x3.pre n a ha
          have p3 : PostS X.K W F3 T3 env ((setIx (freeze env fz) i dk d st3).bnd fun env' st => .ok (.nx env') st) D := p3
          unfold setIx at p3
          rw [ei] at p3
          have p3 : PostS X.K W F3 T3 env ((match st3[n]? with
            | some o => (ofO (putD o dk d) st3).bnd fun d' st => .ok (freeze env fz) (st.set n d')
            | none => Out.bad).bnd fun env' st => .ok (.nx env') st) D := p3
          cases es : st3[n]? with
          | none => rw [es] at p3; exact p3.elim
          | some o =>
            rw [es] at p3
            have p3 : PostS X.K W F3 T3 env (((ofO (putD o dk d) st3).bnd fun d' st => .ok (freeze env fz) (st.set n d')).bnd fun env' st => .ok (.nx env') st) D := p3
            obtain ⟨a', h1, rt3⟩ := w3.at_ n o es
            rw [ha3] at h1
            cases h1
            have mem : a ∈ T3 := List.mem_iff_getElem?.mpr ⟨n, ha3⟩
            cases ep : putD o dk d with
            | none => rw [ep] at p3; exact p3.elim
            | some d' =>
              rw [ep] at p3
              refine put_top rt3 r3 (r2.mono x3.fr x3.pre) ep fun u rt4 => ?_
              have hne : H3 a ≠ none := by
                obtain ⟨o', ho⟩ := rt3.there
                rw [ho]
                exact fun h => nomatch h
              exact p3 F3 T3 _ σ (.refl _) (.refl _) (ext_updT (x12.trans x3) mem hne) (wf_updT w3 ha3 rt4) (env_updT (eo2.ext x3) mem)
theorem E_to_D {e : E} {σ : L2.St} {H : Hp} {Q : VK} (h : tE X.K W C e σ H Q) : tDr X.K W C e σ H Q := by
  obtain ⟨F, T, st, env, w, eo, p⟩ := h
  refine ⟨F, T, st, env, w, eo, ?_⟩
  have p : Post X.K W σ F T H (rV X.K) (evE C env e st) Q := p
  show Post X.K W σ F T H (rD X.K) (evE C env e st) Q
  revert p
  cases evE C env e st with
  | bad => exact id
  | ex c ks ds st => exact id
  | ok d st' =>
    intro p v F' T' H' x w' r
    obtain ⟨F2, x2, w2, r2⟩ := rD_rV x w' r
    exact p v F2 T' H' x2 w2 r2
/-- the parts of a comprehension's block -/
structure LcOk (X : Cx) (W : WW) (C : Calls) (tg : Expr) (ifs : List Expr) (elt : Expr) (scope : Scope) (tgI : Tg) (ifI : Op) (eI : E) : Prop where
  g : ∀ (s : Shared) (H : Hp) (c : Addr) (cl : List (Str × Addr)) (fp : List Addr), PG (X.blk s H scope (compEnvC scope cl c X.env) fp) tg (gT X.K tgI)
  t : ∀ (s : Shared) (H : Hp) (c : Addr) (cl : List (Str × Addr)) (fp : List Addr), PTs (X.blk s H scope (compEnvC scope cl c X.env) fp) ifs (tIf X.K (noW W) C ifI)
  e : ∀ (s : Shared) (H : Hp) (c : Addr) (cl : List (Str × Addr)) (fp : List Addr), PE (X.blk s H scope (compEnvC scope cl c X.env) fp) elt (tE X.K (noW W) C eI)
theorem s_lc {elt tg iter : Expr} {ifs : List Expr} {scope : Scope} {own : List (Str × Nat)} {pos : Pos} {tgI : Tg} {ifI : Op} {eI : E} {it : It} {ws : List Nat} (hc : X.calm = true) (hN : X.N.Nodup) (hi : PI X tg iter (tI X.K W C it)) (ok : blkC X.N X.env.scope scope own = true)
    (hw : own.map (·.2) = ws) (hws : ∀ i ∈ ixT tgI, i ∈ ws) (l : LcOk X W C tg ifs elt scope tgI ifI eI) (hs : ∀ x, foldedSetIterable iter X.env x = pure x) : PE X (.ListComp elt [⟨tg, iter, ifs, 0⟩] scope pos) (tDr X.K W C (.lc eI tgI it ifI ws)) := by
  subst hw
  exact impE (pe_lc hc hN hi (blkOk_by ok) l.g l.t l.e hs) fun σ H Q h => lc_rd hws h
theorem ss_setLc {fz : List Nat} {i : Nat} {y : Str} {py : Pos} {elt tg iter : Expr} {ifs : List Expr} {scope : Scope} {own : List (Str × Nat)} {pos spos : Pos} {tgI : Tg} {ifI : Op} {eI : E} {it : It} {ws : List Nat} (hz : W.sv = false ∨ fz = []) (hc : X.calm = true) (hN : X.N.Nodup) (hy : X.N[i]? = some y) (hyl : X.env.scope.names.lookup y = some .local)
    (hsw : swapsWith (.ListComp elt [⟨tg, iter, ifs, 0⟩] scope pos) (some (.Name y py)) spos.line X.env = pure true) (hi : PI X tg iter (tI X.K W C it)) (ok : blkC X.N X.env.scope scope own = true)
    (hw : own.map (·.2) = ws) (hws : ∀ i ∈ ixT tgI, i ∈ ws) (l : LcOk X W C tg ifs elt scope tgI ifI eI) (hs : ∀ x, foldedSetIterable iter X.env x = pure x) :
    PS X (.Assign [.Name y py] (.ListComp elt [⟨tg, iter, ifs, 0⟩] scope pos) spos) (tSt X.K W C (.asg fz (.v i) (.lc eI tgI it ifI ws))) := by
  subst hw
  refine impS (ps_setLc hc hN hy hyl hsw hi (blkOk_by ok) l.g l.t l.e hs) fun D σ H h => ?_
  exact lc_rd hws (E_to_D (asg_rd hz h))
theorem for_rd {tgI : Tg} {it : It} {ib : Ss} {fz : List Nat} (hz : W.sv = false) : ∀ (D : Ends) (σ : L2.St) (H : Hp), tSt X.K W C (.for_ fz tgI it ib) D σ H → tFor (tIF X.K W C it) (gT X.K tgI) (tSs X.K W C ib) D σ H :=
  fun D σ H ⟨F, T, st, env, x, w, eo, p⟩ => by
    have p : PostS X.K W F T env ((evItV C (freeze env fz) it st).bnd fun ds st => forGo (fun d env st => (ofO (bind1 tgI d env) st).bnd fun env' st => evSs C ib env' st) ds (freeze env fz) st) D := p
    have nosv : ∀ {P : Prop}, W.sv = true → P := fun h => by rw [hz] at h; cases h
    obtain ⟨F1, x1, w1, eo1, _, p1⟩ := fz_go (.inl hz) x w eo p
    refine ⟨F1, T, st, _, w1, eo1, (p1.step (R1 := rItF X.K) x1 nosv).mono fun J H2 ⟨F2, T2, st2, ds, x2, w2, ⟨gv, hlen⟩, p2⟩ => ?_⟩
    have eo2 := eo1.ext x2
    have x12 := x1.trans x2
    refine ⟨fun i m σ3 H3 => m = ds.length - i ∧ i ≤ ds.length ∧ ∃ F3 T3 st3 env3, Same F2 F3 ∧ Pre T2 T3 ∧ Ext W.B.F W.B.T W.B.H F3 T3 H3 ∧ WF X.K F3 T3 st3 H3 ∧ EnvOk X.K W.xi F3 T3 H3 env3 σ3 ∧
      PostS X.K W F3 T3 env (forGo (fun d env st => (ofO (bind1 tgI d env) st).bnd fun env' st => evSs C ib env' st) (ds.drop i) env3 st3) D, ⟨ds.length, rfl, Nat.zero_le _, F2, T2, st2, _, .refl _, .refl _, x12, w2, eo2, p2⟩, ?_⟩
    rintro i m σ3 H3 ⟨em, le, F3, T3, st3, env3, sm, pr, x3, w3, eo3, p3⟩
    have g := gv F3 T3 st3 H3 ⟨sm, pr⟩ w3 i
    by_cases e : i = ds.length
    · subst e
      rw [List.drop_length] at p3
      exact .inl ⟨g.2 rfl, p3 F3 T3 H3 σ3 (.refl _) (.refl _) x3 w3 eo3⟩
    · have lt : i < ds.length := by omega
      obtain ⟨d, hd⟩ : ∃ d, ds[i]? = some d := ⟨_, List.getElem?_eq_getElem lt⟩
      obtain ⟨go, yl⟩ := g.1 d hd
      have ed : ds.drop i = d :: ds.drop (i + 1) := by
        obtain ⟨l, e⟩ := List.getElem?_eq_some_iff.mp hd
        rw [← e]
        exact List.drop_eq_getElem_cons l
      rw [ed] at p3
      have p3 : PostS X.K W F3 T3 env (((ofO (bind1 tgI d env3) st3).bnd fun env' st => evSs C ib env' st).bnd fun f st1 => (match f with
        | .nx env1 => forGo (fun d env st => (ofO (bind1 tgI d env) st).bnd fun env' st => evSs C ib env' st) (ds.drop (i + 1)) env1 st1
        | .ct env1 => forGo (fun d env st => (ofO (bind1 tgI d env) st).bnd fun env' st => evSs C ib env' st) (ds.drop (i + 1)) env1 st1
        | .bk env1 => .ok (.nx env1) st1
        | .rt d => .ok (.rt d) st1)) D := p3
      refine .inr ⟨go, fun σ4 H4 => ∃ m', m' < m ∧ (m' = ds.length - (i + 1) ∧ i + 1 ≤ ds.length ∧ ∃ F3 T3 st3 env3, Same F2 F3 ∧ Pre T2 T3 ∧ Ext W.B.F W.B.T W.B.H F3 T3 H4 ∧ WF X.K F3 T3 st3 H4 ∧ EnvOk X.K W.xi F3 T3 H4 env3 σ4 ∧
        PostS X.K W F3 T3 env (forGo (fun d env st => (ofO (bind1 tgI d env) st).bnd fun env' st => evSs C ib env' st) (ds.drop (i + 1)) env3 st3) D), fun σ' H' h => h, fun y H4 hy => ?_⟩
      obtain ⟨F4, x4, w4, r4⟩ := yl y H4 hy
      cases eb : bind1 tgI d env3 with
      | none => rw [eb] at p3; exact p3.elim
      | some env4 =>
        rw [eb] at p3
        have p3 : PostS X.K W F3 T3 env ((evSs C ib env4 st3).bnd fun f st1 => (match f with
          | .nx env1 => forGo (fun d env st => (ofO (bind1 tgI d env) st).bnd fun env' st => evSs C ib env' st) (ds.drop (i + 1)) env1 st1
          | .ct env1 => forGo (fun d env st => (ofO (bind1 tgI d env) st).bnd fun env' st => evSs C ib env' st) (ds.drop (i + 1)) env1 st1
          | .bk env1 => .ok (.nx env1) st1
          | .rt d => .ok (.rt d) st1)) D := p3
        refine bind_ok w4 r4 (eo3.ext x4) eb fun σ5 eo5 _ => ⟨F4, T3, st3, env4, x3.trans x4, w4, eo5, ?_⟩
        have p4 := (p3.shift x4.fr x4.pre).bnd (D' := { D with nx := fun σ4 H4 => ∃ m', m' < m ∧ (m' = ds.length - (i + 1) ∧ i + 1 ≤ ds.length ∧ ∃ F3 T3 st3 env3, Same F2 F3 ∧ Pre T2 T3 ∧ Ext W.B.F W.B.T W.B.H F3 T3 H4 ∧ WF X.K F3 T3 st3 H4 ∧ EnvOk X.K W.xi F3 T3 H4 env3 σ4 ∧
          PostS X.K W F3 T3 env (forGo (fun d env st => (ofO (bind1 tgI d env) st).bnd fun env' st => evSs C ib env' st) (ds.drop (i + 1)) env3 st3) D), ct := fun σ4 H4 => ∃ m', m' < m ∧ (m' = ds.length - (i + 1) ∧ i + 1 ≤ ds.length ∧ ∃ F3 T3 st3 env3, Same F2 F3 ∧ Pre T2 T3 ∧ Ext W.B.F W.B.T W.B.H F3 T3 H4 ∧ WF X.K F3 T3 st3 H4 ∧ EnvOk X.K W.xi F3 T3 H4 env3 σ4 ∧
          PostS X.K W F3 T3 env (forGo (fun d env st => (ofO (bind1 tgI d env) st).bnd fun env' st => evSs C ib env' st) (ds.drop (i + 1)) env3 st3) D), bk := D.nx }) fun F6 T6 H6 σ6 f st6 a6 b6 x6 w6 e6 p6 => ?_
        · revert p4
          cases evSs C ib env4 st3 with
          | bad => exact id
          | ok f st => exact id
          | ex c ks ds st => exact fun p4 dx F' T' H' σ' a b x w r _ => p4 dx F' T' H' σ' a b x w r nosv
        · cases f with
          | nx env6 => exact fun eo6 => ⟨ds.length - (i + 1), by omega, rfl, by omega, F6, T6, st6, env6, sm.trans (x4.fr.trans a6), pr.trans (x4.pre.trans b6), x6, w6, eo6, p6⟩
          | ct env6 => exact fun eo6 => ⟨ds.length - (i + 1), by omega, rfl, by omega, F6, T6, st6, env6, sm.trans (x4.fr.trans a6), pr.trans (x4.pre.trans b6), x6, w6, eo6, p6⟩
          | bk env6 => exact p6 F6 T6 H6 σ6 (.refl _) (.refl _) x6 w6
          | rt d => exact p6 F6 T6 H6 σ6 (.refl _) (.refl _) x6 w6
theorem ss_for {tg iter : Expr} {body : List Stmt} {tgI : Tg} {it : It} {ib : Ss} {fz : List Nat} {pos : Pos} (hz : W.sv = false) (hp : PassesOwn (model X.prog X.w) X.A X.env X.xe) (hc : X.calm = true) (hi : PI X tg iter (tIF X.K W C it)) (hg : PG X tg (gT X.K tgI)) (hb : PSs X body (tSs X.K W C ib))
    (hs : ∀ x, foldedSetIterable iter X.env x = pure x) : PS X (.For tg iter body [] pos) (tSt X.K W C (.for_ fz tgI it ib)) :=
  impS (ps_for hp hc hi hg hb hs) (for_rd hz)
end
end Eng
set_option Elab.async false
set_option linter.all false
set_option maxRecDepth 100000
set_option maxHeartbeats 2000000
namespace Eng
open PySem PySem.Spec PySem.W PySem.Calls PyProof.Rows PySem.HandSPX
/-- what the module says of super -/
structure SupG (h : Heap) (mg mb : Str → Option Value) : Prop where
  g : h.Ns mainGlobals mg
  b : h.Ns builtinsNs mb
  mg : mg "super" = none
  mb : mb "super" = some (.type "super")
end Eng
set_option Elab.async false
set_option linter.all false
set_option maxRecDepth 100000
set_option maxHeartbeats 2000000
namespace Eng
open PySem PySem.Spec PySem.W PySem.Calls PyProof.Rows PySem.HandSPX
end Eng
set_option Elab.async false
set_option linter.all false
set_option maxRecDepth 100000
set_option maxHeartbeats 2000000
namespace Eng
open PySem PySem.Spec PySem.W PySem.Calls PyProof.Rows PySem.HandSPX
theorem SupG.keeps {h h' : Heap} {mg mb : Str → Option Value} (G : SupG h mg mb) (k : ∀ b o, h.get? b = some o → h'.get? b = some o) : SupG h' mg mb := ⟨G.g.keeps k, G.b.keeps k, G.mg, G.mb⟩
end Eng
set_option Elab.async false
set_option linter.all false
set_option maxRecDepth 100000
set_option maxHeartbeats 2000000
namespace Eng
open PySem PySem.Spec PyProof.Rows L2
end Eng
set_option Elab.async false
set_option linter.all false
set_option maxRecDepth 100000
set_option maxHeartbeats 2000000
namespace Eng
open PySem PySem.Spec PyProof.Rows L2
section
variable {X : Cx} {W : WW} {C : Calls}
/-- within a clause -/
def suW (W : WW) (a : Addr) (cls : Value) (d : Option Addr) : WW := ⟨W.W, some ⟨a, cls, d⟩, W.B, false⟩
theorem env_hold {K : PySem.W.Frag} {W : WW} (hx : W.x = none) {a : Addr} {c : Str} {cls : Value} {dx : Option Addr} (ec : cls = .ref (He.ga K c)) {F H : Hp} {T : List Addr} {env : Env} {σ : L2.St} {i : Nat} {ks : List Str} {ds : List D} (eo : EnvOk K W.xi F T H env σ) (r : XRep K F T H ks ds dx) :
    EnvOk K (suW W a cls dx).xi F T H (env.set i (.xc c ks ds)) (σ.set i (some (.ref a))) := by
  refine ⟨fun j s hs => ?_, by rw [List.length_set, List.length_set]; exact eo.len, fun j l d1 d2 p ne h1 h2 h3 h4 => ?_⟩
  · rw [List.getElem?_set] at hs
    split at hs <;> rename_i q
    · subst q
      split at hs <;> rename_i l
      · cases hs
        exact ⟨⟨a, cls, dx⟩, rfl, List.getElem?_set_self (Nat.lt_of_lt_of_le l eo.len), ec, r⟩
      · cases hs
    · rw [List.getElem?_set_ne q]
      have z := eo.at_ j s hs
      cases s with
      | no => trivial
      | val d => exact z
      | own d => exact z
      | xc c ks ds =>
        obtain ⟨y, h1, _⟩ := z
        have h1 : W.x = some y := h1
        rw [hx] at h1
        cases h1
  · have own_of : ∀ {k : Nat} {d3 : D}, (env.set i (.xc c ks ds))[k]? = some (.own d3) → env[k]? = some (.own d3) ∧ i ≠ k := fun {k d3} h => by
      rw [List.getElem?_set] at h
      split at h <;> rename_i q
      · split at h <;> cases h
      · exact ⟨h, q⟩
    obtain ⟨e1, n1⟩ := own_of h1
    obtain ⟨e2, n2⟩ := own_of h2
    rw [List.getElem?_set_ne n1] at h3
    rw [List.getElem?_set_ne n2] at h4
    exact eo.apart j l d1 d2 p ne e1 e2 h3 h4
theorem dropX_get : ∀ {env : Env} {j : Nat} {s : Sl}, (dropX env)[j]? = some s → s = .no ∨ (env[j]? = some s ∧ ∀ c ks ds, s ≠ .xc c ks ds)
  | [], j, s, h => by cases h
  | t :: r, 0, s, h => by
    cases t with
    | xc c ks ds => cases h; exact .inl rfl
    | no => cases h; exact .inl rfl
    | val d => cases h; exact .inr ⟨rfl, fun _ _ _ z => nomatch z⟩
    | own d => cases h; exact .inr ⟨rfl, fun _ _ _ z => nomatch z⟩
  | t :: r, j + 1, s, h => by
    have h : (dropX r)[j]? = some s := by
      cases t <;> exact h
    rcases dropX_get h with e | ⟨e, n⟩
    · exact .inl e
    · exact .inr ⟨e, n⟩
theorem dropX_len : ∀ env : Env, (dropX env).length = env.length
  | [] => rfl
  | t :: r => by
    have := dropX_len r
    cases t <;> (show (dropX r).length + 1 = r.length + 1; rw [this])
theorem env_let {K : PySem.W.Frag} {W : WW} {a : Addr} {cls : Value} {dx : Option Addr} {F H : Hp} {T : List Addr} {env : Env} {σ : L2.St} {i : Nat} (eo : EnvOk K (suW W a cls dx).xi F T H env σ) : EnvOk K W.xi F T H ((dropX env).set i .no) (σ.set i none) := by
  refine ⟨fun j s hs => ?_, by rw [List.length_set, List.length_set, dropX_len]; exact eo.len, fun j l d1 d2 p ne h1 h2 h3 h4 => ?_⟩
  · rw [List.getElem?_set] at hs
    split at hs <;> rename_i q
    · split at hs
      · cases hs; trivial
      · cases hs
    · rw [List.getElem?_set_ne q]
      rcases dropX_get hs with e | ⟨e, n⟩
      · subst e; trivial
      · have z := eo.at_ j s e
        cases s with
        | no => trivial
        | val d => exact z
        | own d => exact z
        | xc c ks ds => exact absurd rfl (n c ks ds)
  · have own_of : ∀ {k : Nat} {d3 : D}, ((dropX env).set i .no)[k]? = some (.own d3) → env[k]? = some (.own d3) ∧ i ≠ k := fun {k d3} h => by
      rw [List.getElem?_set] at h
      split at h <;> rename_i q
      · split at h <;> cases h
      · rcases dropX_get h with e | ⟨e, _⟩
        · cases e
        · exact ⟨e, q⟩
    obtain ⟨e1, n1⟩ := own_of h1
    obtain ⟨e2, n2⟩ := own_of h2
    rw [List.getElem?_set_ne n1] at h3
    rw [List.getElem?_set_ne n2] at h4
    exact eo.apart j l d1 d2 p ne e1 e2 h3 h4
end
end Eng
set_option Elab.async false
set_option linter.all false
set_option maxRecDepth 100000
set_option maxHeartbeats 2000000
namespace Eng
open PySem PySem.Spec PyProof.Rows L2
section
variable {X : Cx} {W : WW} {C : Calls}
theorem start_ok {K : PySem.W.Frag} {xi : XB} {F H : Hp} {T : List Addr} {N : List Str} {vs : List V} {ds : List D} {k : Nat} (r : Reps K F T vs ds) (hk : ds.length + k = N.length) : EnvOk K xi F T H (ds.map .val ++ List.replicate k .no) (L2.start N vs) := by
  have hl : (L2.start N vs).length = N.length := by
    unfold L2.start
    rw [List.length_append, List.length_map, List.length_replicate, r.length]
    omega
  have at_ : ∀ (i : Nat) (s : Sl), (ds.map Sl.val ++ List.replicate k Sl.no)[i]? = some s → s = .no ∨ ∃ d v, s = .val d ∧ (L2.start N vs)[i]? = some (some v) ∧ Rep K F T v d := fun i s h => by
    by_cases c : i < ds.length
    · rw [List.getElem?_append_left (by rw [List.length_map]; exact c), List.getElem?_map] at h
      obtain ⟨d, hd, rfl⟩ := Option.map_eq_some_iff.mp h
      obtain ⟨v, hv, rv⟩ := r.get hd
      refine .inr ⟨d, v, rfl, ?_, rv⟩
      unfold L2.start
      rw [List.getElem?_append_left (by rw [List.length_map, r.length]; exact c), List.getElem?_map, hv]
      rfl
    · rw [List.getElem?_append_right (by rw [List.length_map]; omega)] at h
      exact .inl (List.eq_of_mem_replicate (List.mem_of_getElem? h))
  refine ⟨fun i s h => ?_, by rw [hl, List.length_append, List.length_map, List.length_replicate]; omega, fun i j d d' a ne h1 h2 h3 h4 => ?_⟩
  · rcases at_ i s h with rfl | ⟨d, v, rfl, e, rv⟩
    · trivial
    · exact ⟨v, e, rv⟩
  · rcases at_ i _ h1 with e | ⟨d, v, e, _⟩ <;> cases e
theorem fn_ok {P : Program} {w : World} {K : PySem.W.Frag} {mg : Str → Option Value} {base : Heap} {x qual : Str} {params : Arguments} {body : List Stmt} {scope : Scope} {dvs : List V} {kws : List (Str × V)} {f : Addr} {fd : FuncData} {N ps : List Str} {k n m : Nat} {tab : List FnI} {fi : FnI}
    (F : FunD K x qual params body scope dvs kws f fd) (S : FnScope N ps scope) (hi : tab[m]? = some fi) (h1 : fi.ini = none) (h2 : fi.ps = ps.length) (h3 : fi.ns = N.length) (h4 : ps.length ≤ N.length)
    (hb : ∀ (cdv : Value) (A : Around) (outer : List PySem.Env) (s : Shared) (H : Hp) (E : XK) (W : WW), W.sv = false → W.x = none → Takes (cxOf (L2.CX P w) P w K mg base N qual scope f cdv A outer s H E) W → Room k (A.deeper (envOfC qual scope s.heap.objs.size f cdv)) →
      PSs (cxOf (L2.CX P w) P w K mg base N qual scope f cdv A outer s H E) body (tSs K W (callN tab n) fi.body)) : FnOk P w K mg base (L2.CX P w) (k + 1) f fd ps (spN K (callN tab (n + 1)) m) := by
  have unf : ∀ ds st, callN tab (n + 1) m ds st = runF (callN tab n) fi ds st := fun ds st => by
    show (match tab[m]? with | some fi => runF (callN tab n) fi ds st | none => .bad) = _
    rw [hi]
  have lens : ∀ {K' : PySem.W.Frag} {W : WW} {σ : L2.St} {F0 H : Hp} {T0 : List Addr} {ds : List D} {st : Store} {Q : VK}, Post K' W σ F0 T0 H (rV K') (callN tab (n + 1) m ds st) Q → ds.length = ps.length := fun {K' W σ F0 H T0 ds st Q} p => by
    rw [unf] at p
    unfold runF at p
    cases c : decide (ds.length = fi.ps) with
    | false => rw [c] at p; exact p.elim
    | true => rw [← h2]; exact of_decide_eq_true c
  refine F.ok S (fun vs H Q E ⟨F0, T0, st, ds, w0, rs, p⟩ => by rw [rs.length]; exact lens p) fun cdv A outer s H vs Q E hr ⟨F0, T0, st, ds, w0, rs, p⟩ => ?_
  have hl := lens p
  refine ⟨_, hb cdv A outer s H E ⟨fun c d _ H' => E c d H', none, ⟨F0, T0, H, none⟩, false⟩ rfl rfl (takes_of rfl rfl rfl rfl) hr, F0, T0, st, ds.map .val ++ List.replicate (fi.ns - fi.ps) .no, .refl _ _ _, w0, start_ok rs (by rw [h2, h3, hl]; omega), ?_⟩
  rw [unf] at p
  unfold runF at p
  rw [show decide (ds.length = fi.ps) = true from decide_eq_true (by rw [h2]; exact hl), h1] at p
  have p : Post K ⟨fun c d _ H => E c d H, none, {}, false⟩ [] F0 T0 H (rV K) (endD (evSs (callN tab n) fi.body (ds.map .val ++ List.replicate (fi.ns - fi.ps) .no) st)) Q := p
  revert p
  cases evSs (callN tab n) fi.body (ds.map .val ++ List.replicate (fi.ns - fi.ps) .no) st with
  | bad => exact id
  | ex c ks ds st => exact fun p dx F' T' H' σ' _ _ x w r _ => p dx F' T' H' x w r
  | ok g st' =>
    intro p F' T' H' σ' _ _ x w
    cases g with
    | nx env' => exact fun _ => p .non F' T' H' x w .non
    | rt d => exact fun v r => p v F' T' H' x w r
    | bk env' => exact p.elim
    | ct env' => exact p.elim
end
end Eng
set_option Elab.async false
set_option linter.all false
set_option maxRecDepth 100000
set_option maxHeartbeats 2000000
namespace Eng
open PySem PySem.Spec PyProof.Rows L2
section
variable {X : Cx} {W : WW} {C : Calls}
theorem k_int {i : Int} {j : Nat} {pos : Pos} : PE X (.Constant (.int i) j pos) (tE X.K W C (.c (.int i))) := s_const pe_int rfl fun _ _ => rfl
theorem k_bl {b : Bool} {j : Nat} {pos : Pos} : PE X (.Constant (.bool b) j pos) (tE X.K W C (.c (.bl b))) := s_const pe_bl rfl fun _ _ => rfl
theorem k_non {j : Nat} {pos : Pos} : PE X (.Constant .none j pos) (tE X.K W C (.c .non)) := s_const pe_non rfl fun _ _ => rfl
theorem k_str {x : Str} {j : Nat} {pos : Pos} : PE X (.Constant (.str x) j pos) (tE X.K W C (.c (.str x))) := s_const pe_str rfl fun _ _ => rfl
theorem hu65 {k : Nat} {A : Around} (hr : Room k A) : A.units + 65 < cLine := by have := hr.un; omega
theorem hu64 {k : Nat} {A : Around} (hr : Room k A) : A.units + 64 < cLine := by have := hr.un; omega
theorem takes_no : Takes X (noW W) := fun _ _ ⟨_, _, _, _, _, _, _, _, _, _, _, _, _, _, _, _, w⟩ => w.elim
theorem hu1 {k : Nat} {A : Around} (hr : Room k A) : A.units + 1 < cLine := by have := hr.un; omega
theorem q_bor {a : Expr} {e : E} (h : PE X a (tE X.K W C e)) (n : (match e with | .var _ => false | _ => true) = true) : PE X a (tB X.K W C e) := s_bor h fun i z => by subst z; cases n
theorem q_D {a : Expr} {e : E} (h : PE X a (tDr X.K W C e)) : PE X a (tE X.K W C e) := pe_ofD h
theorem q_truth {a : Expr} {e : E} (h : PE X a (tE X.K W C e)) (ok : okT a = true) (he : ∀ env, evT C env e = tst (evE C env e)) : PT X a (tT X.K W C e) := s_truth h ok he
theorem q_rng1 {tg a : Expr} {ea : E} {p pos : Pos} (hg : Gl X "range") (hm : X.mg "range" = none) (ha : PE X a (tE X.K W C ea)) (ok : okA a = true) : PI X tg (.Call (.Name "range" p) [a] [] pos) (tIF X.K W C (.rng (.cons ea .nil))) :=
  i_rng1 hg hm (s_cons ha s_nil ok) ok fun env st ds st' h => by rw [evEs_len _ h]; rfl
theorem q_rngB {tg e : Expr} {es : Es} (h : PI X tg e (tIF X.K W C (.rng es))) : PI X tg e (tI X.K W C (.rng es)) := i_ofF h
theorem q_ty {x : Str} {t : String} {pos : Pos} (hg : Gl X x) (hm : X.mg x = none) (hv : bootBuiltins x = some (.type t)) (hn : x ≠ "__name__") (hd : (x == ("__debug__" : Str)) = false) : PE X (.Name x pos) (tC (.ty t)) := pe_bltn hg hm hv rfl hn hd
theorem q_and1 {a : Expr} {e : E} {pos : Pos} (h : PE X a (tE X.K W C e)) : PE X (.BoolOp .And [a] pos) (tE X.K W C (.and (.cons e .nil))) := s_one h .and fun _ => rfl
end
end Eng
set_option Elab.async false
set_option linter.all false
set_option maxRecDepth 100000
set_option maxHeartbeats 2000000
namespace Eng
open PySem PySem.Spec PyProof.Rows L2
/-- a def with cells, by what it says -/
abbrev FnS : Type := Option (Str × Str × Arguments × FuncBody × Scope × Addr × Addr)
def fnS (K : PySem.W.Frag) (x : Str) : FnS := match K.lookup (He.ma K (He.ga K x) "__init__") with
  | some ⟨_, _, .func fd, _⟩ => some (fd.name, fd.qualname, fd.params, fd.body, fd.scope, fd.globals, fd.builtins)
  | _ => none
/-- an error class with its own __init__ -/
structure XcD where
  cls : Str
  qual : Str
  params : Arguments
  body : List Stmt
  scope : Scope
def XcD.val (d : XcD) : FnS := some ("__init__", d.qual, d.params, .stmts d.body, d.scope, mainGlobals, builtinsNs)
abbrev AlC : Type := Bool × List He.FnW × List FnS
def obsC (ck : PySem.W.Frag → Bool) (fn : List He.DefD) (xc : List XcD) (K : PySem.W.Frag) : AlC := (ck K && fn.all fun d => d.ok K, fn.map fun d => He.fnW K d.at_, xc.map fun d => fnS K d.cls)
def valC (fn : List He.DefD) (xc : List XcD) : AlC := (true, fn.map He.DefD.val, xc.map XcD.val)
def SaysC (ck : PySem.W.Frag → Bool) (fn : List He.DefD) (xc : List XcD) (K : PySem.W.Frag) : Prop := obsC ck fn xc K = valC fn xc
def obsCG (n : Nat) (ck : PySem.W.Frag → Bool) (fn : List He.DefD) (xc : List XcD) (g : Addr → Option Obj) : AlC := obsC ck fn xc (He.frG g (cStatics :: He.asD g n))
def hookC (n : Nat) (ck : PySem.W.Frag → Bool) (fn : List He.DefD) (xc : List XcD) : PySem.W.Hook where
  α := AlC
  obs := fun s => obsCG n ck fn xc s.heap.get?
  val := fun _ => valC fn xc
  says := fun _ h => ∃ K : PySem.W.Frag, K.In h ∧ SaysC ck fn xc K
  of := fun _ _ e => ⟨_, He.frG_in, e⟩
  keeps := fun _ _ _ ⟨K, hK, c⟩ k => ⟨K, PySem.W.Frag.In.keeps hK k, c⟩
theorem obsCG_eq {n : Nat} {ck : PySem.W.Frag → Bool} {fn : List He.DefD} {xc : List XcD} {g : Addr → Option Obj} {s : Shared} (h : ∀ a, g a = s.heap.get? a) : obsCG n ck fn xc g = (hookC n ck fn xc).obs s := by
  have e : g = s.heap.get? := funext h
  rw [e] <;> rfl
section
variable {ck : PySem.W.Frag → Bool} {fn : List He.DefD} {xc : List XcD} {K : PySem.W.Frag}
theorem SaysC.chk (c : SaysC ck fn xc K) : ck K = true := (He.ba (show (ck K && fn.all fun d => d.ok K) = true from congrArg (fun z : AlC => z.1) c)).1
theorem SaysC.def_ (c : SaysC ck fn xc K) (i : Nat) {d : He.DefD} (h : fn[i]? = some d) : ∃ fd, FunD K d.name d.qual d.params d.body d.scope (d.dvs K) (d.kws K) (He.fAd K d.at_) fd := by
  have c2 := (He.ba (show (ck K && fn.all fun d => d.ok K) = true from congrArg (fun z : AlC => z.1) c)).2
  have e : fn.map (fun d => He.fnW K d.at_) = fn.map He.DefD.val := congrArg (fun z : AlC => z.2.1) c
  have e2 : (fn.map fun d => He.fnW K d.at_)[i]? = (fn.map He.DefD.val)[i]? := by rw [e]
  rw [List.getElem?_map, List.getElem?_map, h] at e2
  exact He.DefD.funD (Option.some.inj e2) (List.all_eq_true.mp c2 d (List.mem_of_getElem? h))
end
end Eng
set_option Elab.async false
set_option linter.all false
set_option maxRecDepth 100000
set_option maxHeartbeats 2000000
namespace Eng
open PySem PySem.Spec PySem.W PySem.Calls PyProof.Rows PySem.HandSPX
end Eng
set_option Elab.async false
set_option linter.all false
set_option maxRecDepth 100000
set_option maxHeartbeats 2000000
namespace Eng
open PySem PySem.Spec PySem.W PySem.Calls PyProof.Rows PySem.HandSPX
end Eng
set_option Elab.async false
set_option linter.all false
set_option maxRecDepth 100000
set_option maxHeartbeats 2000000
namespace Eng
open PySem PySem.Spec PyProof.Rows L2
end Eng
set_option Elab.async false
set_option linter.all false
set_option maxRecDepth 100000
set_option maxHeartbeats 2000000
namespace Eng
open PySem PySem.Spec PyProof.Rows L2
theorem walk_ofW {l : PySem.W.OpenLaw} {n k : Nat} {q : Program} {loose : List Str} {XP : (Str → Option Value) → Heap → Prop} {YP : World → Heap → Prop} {d : DefRec} {CX : World → CXT} {x : Str}
    (hn : l.most = some n) (hn2 : n ≤ sizeLine) (hdf : d.params.defaults = []) (hr : Room k callerA)
    (F : ∀ (w : World) (mg : Str → Option Value) (fa : Addr) (h : Heap), YP w h → h.Ns mainGlobals mg → mg d.name = some (.ref fa) →
      ∃ (K : PySem.W.Frag) (fd : FuncData) (sp : Sp), K.In h ∧ (∀ (s : Shared) (u : Value), BindsTo s fd ⟨[u], []⟩ [(x, u)]) ∧
        (∀ (H : Hp) (a : Addr) (ns : List Int), ns.length ≤ n → Only H → SqL K H a (ns.map V.int) → sp [.ref a] H (fun v _ => v = .bl true) fun _ _ _ => False) ∧
        ∀ base : Heap, K.In base → base.Ns mainGlobals mg → FnOk l.prog w K mg base (CX w) k fa fd [x] sp)
    (hCX : ∀ (w : World) (H : Hp) (s : Shared) (e : Value) (s' : Shared), CX w [] H s (fun _ _ _ => False) e s' → False) :
    PySem.W.WalkO q loose XP YP l.row.toRowW d [] (fun f vs => PySem.call f vs) := by
  refine Att.attach_call hn hdf fun w s₀ s₁ mg mb fa o pm cd doc a vs ns G Y ho hd hcd hmg hobj hints hlen hg => ?_
  obtain ⟨K, fd, sp, KX, hb, hsp, hF⟩ := F w mg fa _ Y G.T.g hmg
  exact law_call KX G.T.g G.T.b G.T.builtins G.T.nolimit hg hobj hints (Nat.le_trans hlen hn2) hr hF hb (fun H hO hS => hsp H a ns hlen hO hS) fun H e s' => hCX w H s₁ e s'
theorem law_sp {K : PySem.W.Frag} {C : Calls} {n : Nat} {ns : List Int} {H : Hp} {a : Addr} (h : SqL K H a (ns.map V.int)) (e : ∃ st, C n [.scr ns] [] = .ok (.bl true) st) : spN K C n [.ref a] H (fun v _ => v = .bl true) fun _ _ _ => False := by
  obtain ⟨st, e⟩ := e
  refine ⟨H, [], [], [.scr ns], ⟨.refl _, rfl, List.nodup_nil, (fun _ h => by cases h), (fun n d h => by cases h), fun _ _ h => h⟩, .cons (.scr h) .nil, ?_⟩
  rw [e]
  intro v F' T' H' _ _ r
  have r : Rep K F' T' v (.bl true) := r
  cases r
  rfl
theorem cx_law {P : Program} {w : World} {H : Hp} {s : Shared} {e : Value} {s' : Shared} : L2.CX P w [] H s (fun _ _ _ => False) e s' → False := fun ⟨_, _, _, _, _, _, _, _, _, _, _, _, h⟩ => h
end Eng
set_option Elab.async false
set_option linter.all false
set_option maxRecDepth 100000
set_option maxHeartbeats 2000000
namespace Eng
open PySem PySem.Spec PyProof.Rows L2
end Eng
set_option Elab.async false
set_option linter.all false
set_option maxRecDepth 100000
set_option maxHeartbeats 2000000
namespace Eng
open PySem PySem.Spec PyProof.Rows L2
end Eng
set_option Elab.async false
set_option linter.all false
set_option maxRecDepth 100000
set_option maxHeartbeats 2000000
namespace Eng
open PySem PySem.Spec PyProof.Rows L2
end Eng
set_option Elab.async false
set_option linter.all false
set_option maxRecDepth 100000
set_option maxHeartbeats 2000000
namespace Eng
open PySem PySem.Spec PyProof.Rows L2
/-- the values of parallel targets, read from H on -/
def PsR (K : PySem.W.Frag) (F : Hp) (T : List Addr) (H' : Hp) : Ps → Hp → List D → List V → Prop
  | .nil, _, [], [] => True
  | .cons own _ _ r, H, d :: ds, v :: vs => ∃ H1, (∀ p, H1 p = none → H p = none) ∧ PsR K F T H' r H1 ds vs ∧ (match own with
    | true => isCont d = true → ∃ a, v = .ref a ∧ RepTop K F T H' a d ∧ F a = none ∧ a ∉ T ∧ H a = none ∧ ∃ o, H1 a = some o
    | false => Rep K F T v d)
  | _, _, _, _ => False
section
variable {X : Cx} {W : WW} {C : Calls}
theorem PsR.nil_ {K : PySem.W.Frag} {F H' H : Hp} {T : List Addr} {ds : List D} {vs : List V} (h : PsR K F T H' .nil H ds vs) : vs = [] := by
  match ds, vs, h with
  | [], [], _ => rfl
  | [], _ :: _, h => exact False.elim h
  | _ :: _, [], h => exact False.elim h
  | _ :: _, _ :: _, h => exact False.elim h
theorem PsR.cons_ {K : PySem.W.Frag} {F H' H : Hp} {T : List Addr} {ds : List D} {vs : List V} {o : Bool} {i : Nat} {e : E} {r : Ps} (h : PsR K F T H' (.cons o i e r) H ds vs) : ∃ v us ds' H1, vs = v :: us ∧ PsR K F T H' r H1 ds' us := by
  match ds, vs, h with
  | [], [], h => exact False.elim h
  | [], _ :: _, h => exact False.elim h
  | _ :: _, [], h => exact False.elim h
  | _ :: ds', v :: us, ⟨H1, _, h, _⟩ => exact ⟨v, us, ds', H1, rfl, h⟩
end
end Eng
set_option Elab.async false
set_option linter.all false
set_option maxRecDepth 100000
set_option maxHeartbeats 2000000
namespace Eng
open PySem PySem.Spec PyProof.Rows L2
/-- the ends behind a clause whose name is slot i -/
def gone (D : Ends) (i : Nat) : Ends := { nx := fun σ' H' => D.nx (σ'.set i none) H', rt := D.rt, bk := fun σ' H' => D.bk (σ'.set i none) H', ct := fun σ' H' => D.ct (σ'.set i none) H' }
/-- a clause: its class, its name's slot, its suite's reading -/
structure Cl where
  c : Value
  i : Nat
  ts : Addr → Value → Option Addr → TS
def wNamed (K : PySem.W.Frag) (Wout : WX) (D : Ends) : List Cl → WX
  | [] => Wout
  | z :: r => fun cls d σ H => ∃ b, PySem.W.exmOne K cls z.c = some b ∧ (b = true → ∀ a, H a = none → z.ts a cls d (gone D z.i) (σ.set z.i (some (.ref a))) H) ∧ (b = false → wNamed K Wout D r cls d σ H)
inductive ClsOk (X : Cx) : List ExceptHandler → List Cl → Prop
  | nil : ClsOk X [] []
  | cons {x n : Str} {z : Cl} {b0 : Stmt} {suite : List Stmt} {np pos' : Pos} {hds : List ExceptHandler} {l : List Cl} (hc : Names X x z.c) (hN : X.N.Nodup) (hi : X.N[z.i]? = some n) (hln : X.env.kindOf n = some .local)
      (hsu : ∀ (a : Addr) (oe : Obj) (cls : Value) (d : Option Addr) (pn : List (Addr × Obj)), Zc cls d oe → (∃ vs, oe.data = .fields vs) → PSs (X.suite a ((a, oe) :: pn)) (b0 :: suite) (z.ts a cls d)) (r : ClsOk X hds l) :
      ClsOk X (.ExceptHandler (some (.Name x np)) (some n) (b0 :: suite) pos' :: hds) (z :: l)
end Eng
set_option Elab.async false
set_option linter.all false
set_option maxRecDepth 100000
set_option maxHeartbeats 2000000
namespace Eng
open PySem PySem.Spec PyProof.Rows L2
inductive HsOk (X : Cx) (W : WW) (C : Calls) : List ExceptHandler → List Cl → Hs → Prop
  | nil : HsOk X W C [] [] .nil
  | cons {x n : Str} {cv : Value} {i : Nat} {al cs : List Str} {is : Ss} {hs : Hs} {b0 : Stmt} {suite : List Stmt} {np pos' : Pos} {hds : List ExceptHandler} {l : List Cl} (hc : Names X x cv) (hN : X.N.Nodup) (hi : X.N[i]? = some n) (hln : X.env.kindOf n = some .local)
      (hex : ∀ c ∈ al, PySem.W.exmOne X.K (.ref (He.ga X.K c)) cv = some (decide (c ∈ cs)))
      (hsu : ∀ (a : Addr) (oe : Obj) (cls : Value) (d : Option Addr) (pn : List (Addr × Obj)), Zc cls d oe → (∃ vs, oe.data = .fields vs) → PSs (X.suite a ((a, oe) :: pn)) (b0 :: suite) (tSs X.K (suW W a cls d) C is)) (r : HsOk X W C hds l hs) :
      HsOk X W C (.ExceptHandler (some (.Name x np)) (some n) (b0 :: suite) pos' :: hds) (⟨cv, i, fun a cls d => tSs X.K (suW W a cls d) C is⟩ :: l) (.cons al cs (some i) is hs)
section
variable {X : Cx} {W : WW} {C : Calls}
theorem HsOk.cls {hds : List ExceptHandler} {l : List Cl} {hs : Hs} (h : HsOk X W C hds l hs) : ClsOk X hds l := by
  induction h with
  | nil => exact .nil
  | cons hc hN hi hln hex hsu r ih => exact .cons hc hN hi hln hsu ih
theorem HsOk.go {hds : List ExceptHandler} {l : List Cl} {hs : Hs} (h : HsOk X W C hds l hs) (hx : W.x = none) (hz : W.sv = false) {F F' H' : Hp} {T T' : List Addr} {env : Env} {c : Str} {ks : List Str} {ds : List D} {st1 : Store} {D : Ends} {dx : Option Addr} {σ' : L2.St} (sm : Same F F') (pr : Pre T T')
    (x' : Ext W.B.F W.B.T W.B.H F' T' H') (w' : WF X.K F' T' st1 H') (r : XRep X.K F' T' H' ks ds dx) (eo' : EnvOk X.K W.xi F' T' H' env σ') : PostS X.K W F T env (evHs C hs c ks ds env st1) D → wNamed X.K W D l (.ref (He.ga X.K c)) dx σ' H' := by
  induction h with
  | nil =>
    intro p
    have p : PostS X.K W F T env (.ex c ks ds st1) D := p
    exact p dx F' T' H' σ' sm pr x' w' r fun h => by rw [hz] at h; cases h
  | @cons x n cv i al cs is hs b0 suite np pos' hds l hc hN hi hln hex hsu r2 ih =>
    intro p
    have p : PostS X.K W F T env (chkO (decide (c ∈ al)) (match decide (c ∈ cs) with
      | false => evHs C hs c ks ds env st1
      | true => (evSs C is (env.set i (.xc c ks ds)) st1).bnd fun f st => (match f with
        | .nx env' => .ok (.nx ((dropX env').set i .no)) st
        | .rt d => .ok (.rt d) st
        | .bk env' => .ok (.bk ((dropX env').set i .no)) st
        | .ct env' => .ok (.ct ((dropX env').set i .no)) st))) D := p
    cases m : decide (c ∈ al) with
    | false => rw [m] at p; exact p.elim
    | true =>
      rw [m] at p
      have p : PostS X.K W F T env (match decide (c ∈ cs) with
        | false => evHs C hs c ks ds env st1
        | true => (evSs C is (env.set i (.xc c ks ds)) st1).bnd fun f st => (match f with
          | .nx env' => .ok (.nx ((dropX env').set i .no)) st
          | .rt d => .ok (.rt d) st
          | .bk env' => .ok (.bk ((dropX env').set i .no)) st
          | .ct env' => .ok (.ct ((dropX env').set i .no)) st)) D := p
      refine ⟨decide (c ∈ cs), hex c (of_decide_eq_true m), fun hb a ha => ?_, fun hb => ?_⟩
      · rw [hb] at p
        refine ⟨F', T', st1, _, x', w', env_hold hx rfl eo' r, ?_⟩
        have p : PostS X.K W F T env ((evSs C is (env.set i (.xc c ks ds)) st1).bnd fun f st => (match f with
          | .nx env' => .ok (.nx ((dropX env').set i .no)) st
          | .rt d => .ok (.rt d) st
          | .bk env' => .ok (.bk ((dropX env').set i .no)) st
          | .ct env' => .ok (.ct ((dropX env').set i .no)) st)) D := p
        have p := p.shift sm pr
        revert p
        cases evSs C is (env.set i (.xc c ks ds)) st1 with
        | bad => exact id
        | ex c2 ks2 ds2 st2 => exact fun p dx F' T' H' σ' a b x w r _ => p dx F' T' H' σ' a b x w r fun h => by rw [hz] at h; cases h
        | ok f st2 =>
          intro p F2 T2 H2 σ2 a2 b2 x2 w2
          cases f with
          | nx env' => exact fun eo2 => p F2 T2 H2 (σ2.set i none) a2 b2 x2 w2 (env_let eo2)
          | rt d => exact p F2 T2 H2 σ2 a2 b2 x2 w2
          | bk env' => exact fun eo2 => p F2 T2 H2 (σ2.set i none) a2 b2 x2 w2 (env_let eo2)
          | ct env' => exact fun eo2 => p F2 T2 H2 (σ2.set i none) a2 b2 x2 w2 (env_let eo2)
      · rw [hb] at p
        exact ih p
end
end Eng
set_option Elab.async false
set_option linter.all false
set_option maxRecDepth 100000
set_option maxHeartbeats 2000000
namespace Eng
open PySem PySem.Spec PyProof.Rows L2
end Eng
set_option Elab.async false
set_option linter.all false
set_option maxRecDepth 100000
set_option maxHeartbeats 2000000
namespace Eng
open PySem PySem.Spec PyProof.Rows L2
end Eng
set_option Elab.async false
set_option linter.all false
set_option maxRecDepth 100000
set_option maxHeartbeats 2000000
namespace Eng
open PySem PySem.Spec PyProof.Rows L2
end Eng
set_option Elab.async false
set_option linter.all false
set_option maxRecDepth 100000
set_option maxHeartbeats 2000000
namespace Eng
open PySem PySem.Spec PyProof.Rows L2
end Eng
set_option Elab.async false
set_option linter.all false
set_option maxRecDepth 100000
set_option maxHeartbeats 2000000
namespace Eng
open PySem PySem.Spec PyProof.Rows L2
end Eng
set_option Elab.async false
set_option linter.all false
set_option maxRecDepth 100000
set_option maxHeartbeats 2000000
namespace Eng
open PySem PySem.Spec PyProof.Rows L2
end Eng
set_option Elab.async false
set_option linter.all false
set_option maxRecDepth 100000
set_option maxHeartbeats 2000000
namespace Eng
open PySem PySem.Spec PyProof.Rows L2
end Eng
set_option Elab.async false
set_option linter.all false
set_option maxRecDepth 100000
set_option maxHeartbeats 2000000
namespace Eng
open PySem PySem.Spec PyProof.Rows L2
open PySem.W (EachIs AllAlike Sortable dataLe KeyedOut KeepsBut)
theorem each_map {α β γ : Type} {P : α → γ → Prop} {f : β → γ} : ∀ {vs : List α} {bs : List β}, EachIs (fun v b => P v (f b)) vs bs → EachIs P vs (bs.map f)
  | _, _, .nil => .nil
  | _, _, .cons a b => .cons a (each_map b)
end Eng
set_option Elab.async false
set_option linter.all false
set_option maxRecDepth 100000
set_option maxHeartbeats 2000000
namespace Eng
open PySem PySem.Spec PyProof.Rows L2
open LamX (CodeO lamEnv lamCx TabB among_app inv_table)
end Eng
set_option Elab.async false
set_option linter.all false
set_option maxRecDepth 100000
set_option maxHeartbeats 4000000
namespace Eng
open PySem PySem.Spec PyProof.Rows L2
open LamX (CodeO lamEnv lamCx TabB among_app inv_table)
open PySem.W (EachIs AllAlike Sortable dataLe KeyedOut KeepsBut)
end Eng
set_option Elab.async false
set_option linter.all false
set_option maxRecDepth 100000
set_option maxHeartbeats 4000000
namespace Eng
open PySem PySem.Spec PyProof.Rows L2
open LamX (CodeO lamEnv lamCx TabB)
open PySem.W (EachIs AllAlike Sortable dataLe KeyedOut KeepsBut)
end Eng
set_option Elab.async false
set_option linter.all false
set_option maxRecDepth 100000
set_option maxHeartbeats 4000000
namespace Eng
open PySem PySem.Spec PyProof.Rows L2
open LamX (CodeO lamEnv lamCx TabB)
theorem boot_srt : bootBuiltins "sorted" = some (.builtin "sorted") := by decide +kernel
end Eng
set_option Elab.async false
set_option linter.all false
set_option maxRecDepth 100000
set_option maxHeartbeats 4000000
namespace Eng
open PySem PySem.Spec PyProof.Rows L2
abbrev setObj (w : World) : Obj := { cls := .type "set", dict := none, data := .set #[] 0 (.fresh 0 0 (!w.params.followText "set-order")) }
/-- set(..) -/
def rSetL (K : PySem.W.Frag) (w : World) : List V → Hp → VK → Prop := fun vs H Q => ∃ (l : Addr) (ns : List Int), vs = [.ref l] ∧ (SqL K H l (ns.map V.int) ∨ SqT K H l (ns.map V.int)) ∧ ns.length < 4000 ∧
  ∀ p, H p = none → Q (.ref p) (upd H p (SetO w p (fun j => decide (j ∈ ns)) ns.eraseDups.length))
section
variable {X : Cx} {W : WW} {C : Calls}
theorem boot_set : bootBuiltins "set" = some (.type "set") := by decide +kernel
end
end Eng
set_option Elab.async false
set_option linter.all false
set_option maxRecDepth 100000
set_option maxHeartbeats 4000000
namespace Eng
open PySem PySem.Spec PyProof.Rows L2
open PpSet (compLoopS_any codeAny_compStart_set newSet_ok eval_SetComp)
end Eng
set_option Elab.async false
set_option linter.all false
set_option maxRecDepth 100000
set_option maxHeartbeats 4000000
namespace Eng
open PySem PySem.Spec PyProof.Rows L2
end Eng
set_option Elab.async false
set_option linter.all false
set_option maxRecDepth 100000
set_option maxHeartbeats 4000000
namespace Eng
open PySem PySem.Spec PyProof.Rows L2
end Eng
set_option Elab.async false
set_option linter.all false
set_option maxRecDepth 100000
set_option maxHeartbeats 4000000
namespace Eng
open PySem PySem.Spec PyProof.Rows L2
end Eng
set_option Elab.async false
set_option linter.all false
set_option maxRecDepth 100000
set_option maxHeartbeats 2000000
namespace Eng
open PySem PySem.Spec PyProof.Rows L2
end Eng
set_option Elab.async false
set_option linter.all false
set_option maxRecDepth 100000
set_option maxHeartbeats 2000000
namespace Eng
open PySem PySem.Spec PyProof.Rows L2
def ItB (t : Bool) (h : Heap) (it a : Addr) (i : Nat) : Prop := match t with
  | true => h.IsTupleIter it a i
  | false => h.IsListIter it a i
theorem ItB.at {t : Bool} {h h' : Heap} {it a : Addr} {i : Nat} (x : ItB t h it a i) (e : ∀ o, h.get? it = some o → h'.get? it = some o) : ItB t h' it a i := by
  cases t with
  | true => exact Heap.IsTupleIter.at x e
  | false => exact Heap.IsListIter.at x e
theorem ItB.obj {t : Bool} {h : Heap} {it a : Addr} {i : Nat} (x : ItB t h it a i) : ∃ o, h.get? it = some o ∧ ∀ v, o.data ≠ .cell v := by
  cases t with
  | true =>
    obtain ⟨o, e, _, d⟩ := x
    exact ⟨o, e, fun v z => by rw [d] at z; cases z⟩
  | false =>
    obtain ⟨o, e, _, d⟩ := x
    exact ⟨o, e, fun v z => by rw [d] at z; cases z⟩
end Eng
set_option Elab.async false
set_option linter.all false
set_option maxRecDepth 100000
set_option maxHeartbeats 2000000
namespace Eng
open PySem PySem.Spec PyProof.Rows L2
end Eng
set_option Elab.async false
set_option linter.all false
set_option maxRecDepth 100000
set_option maxHeartbeats 2000000
namespace Eng
open PySem PySem.Spec PyProof.Rows L2
section
variable {X : Cx} {W : WW} {C : Calls}
theorem s_dnew {pos : Pos} : PE X (.Dict [] [] pos) (tDr X.K W C .dnew) :=
  impE pe_dnewK fun σ H Q ⟨F, T, st, env, w, eo, p⟩ => by
    have p : Post X.K W σ F T H (rD X.K) (.ok (.dic [] []) st) Q := p
    obtain ⟨d2, e, c⟩ := cont_of (o := some (D.dic [] [])) (st := st) p
    cases e
    intro a ha
    exact c.dic w rfl .nil ha
end
end Eng
set_option Elab.async false
set_option linter.all false
set_option maxRecDepth 100000
set_option maxHeartbeats 4000000
namespace Eng
open PySem PySem.Spec PyProof.Rows L2
instance lawKey : LawfulBEq (Int ⊕ Str) where
  eq_of_beq {a b} h := by
    cases a <;> cases b <;> first | (cases h; done) | exact congrArg _ (eq_of_beq h)
  toReflBEq := ⟨fun {a} => match a with | .inl x => (beq_self_eq_true x : (x == x) = true) | .inr x => (beq_self_eq_true x : (x == x) = true)⟩
instance lawKey2 : LawfulBEq Key := lawKey
end Eng
set_option Elab.async false
set_option linter.all false
set_option maxRecDepth 100000
namespace Eng
open PySem PySem.Spec PyProof.Rows L2
theorem back_pick (z : Str) : (Builtin.Str.strSliceIndices none none (-1) z.length).filterMap (z.cps[·]?) = z.cps.toList.reverse := by
  have e : Builtin.Str.strSliceIndices none none (-1) z.length = (List.range z.cps.size).reverse := by
    show sliceRange ((z.cps.size : Int) - 1) (-1) (-1) = _
    rw [PySem.W.krv_sliceRange, PySem.W.krv_range]
  rw [e, List.filterMap_reverse, PySem.W.krv_all]
section
variable {X : Cx} {W : WW} {C : Calls}
abbrev backSl (k : Nat) (p1 p2 p3 : Pos) : Expr := .Slice none none (some (.UnaryOp .USub (.Constant (.int 1) k p1) p2)) p3
/-- text[::-1] -/
theorem pe_revS {e : Expr} {te : TE} {k : Nat} {p1 p2 p3 pos : Pos} (he : PE X e te) : PE X (.Subscript e (backSl k p1 p2 p3) pos) (fun σ H Q => te σ H fun x H1 => ∃ z : Str, x = .str z ∧ z.length ≤ sizeLine ∧ Q (.str ⟨z.cps.toList.reverse.toArray⟩) H1) := by
  refine ⟨fun pins s σ H Q inv rd => Subscript_ (thn (he.run pins s σ H _ inv rd) fun v sa hv => ?_)⟩
  obtain ⟨_, Ha, ia, rx, z, rfl, hz, q⟩ := hv
  obtain ⟨t, rfl⟩ := rx
  have one : PO X (some (.UnaryOp .USub (.Constant (.int 1) k p1) p2)) (tPart (tUn (rU fun i => .int (-i)) (tC (.int 1)))) := po_some (pe_un un_neg pe_int)
  refine wpAny_Slice (thn (po_none.run pins sa σ Ha (fun o Hb => Ha = Hb ∧ o = none) ia ⟨rfl, rfl⟩) fun vl sb hb => ?_)
  obtain ⟨_, _, ib, pl, rfl, rfl⟩ := hb
  refine thn (po_none.run pins sb σ Ha (fun o Hb => Ha = Hb ∧ o = none) ib ⟨rfl, rfl⟩) fun vu sc hc => ?_
  obtain ⟨_, _, ic, pu, rfl, rfl⟩ := hc
  refine thn (one.run pins sc σ Ha (fun o Hb => Ha = Hb ∧ o = some (-1)) ic ⟨1, rfl, -1, rfl, rfl, rfl⟩) fun vs sd hd => ?_
  obtain ⟨_, _, id', ps, rfl, rfl⟩ := hd
  obtain ⟨l, rfl, hl⟩ := IsPart.raw pl
  obtain ⟨u, rfl, hu⟩ := IsPart.raw pu
  obtain ⟨w, rfl, hw⟩ := IsPart.raw ps
  have ie := id'.kept (t' := sd.toks) (h' := sd.heap.push { cls := .type "slice", data := .fields #[partValue l, partValue u, partValue w] }) fun b ob g => Heap.get?_push_of_some _ g
  show wpAny (model X.prog X.w) X.A (subscriptTail e (backSl k p1 p2 p3) (.str z t) (.ref sd.heap.objs.size)) (EP X pins σ Q) X.xe { sd with heap := sd.heap.push { cls := .type "slice", data := .fields #[partValue l, partValue u, partValue w] } }
  refine tail_any (ops := [.str z t, .ref sd.heap.objs.size]) (typeIs_str _ _ _) F.slot_str_getitem.lookup ?_ (by with_unfolding_all rfl)
  refine wpAny_getItem_str_slice (l := l) (u := u) (st := w) ⟨_, Heap.get?_push_size _ rfl, rfl, rfl⟩ (by rw [hw]; rfl) ?_
  show Made.post (if _ then Made.val (.str z t) else Made.str ⟨((Builtin.Str.strSliceIndices (l.map fun c : Int × Tok => c.1) (u.map fun c : Int × Tok => c.1) ((w.map fun c : Int × Tok => c.1).getD 1) z.length).filterMap (z.cps[·]?)).toArray⟩) (EP X pins σ Q) _
  rw [hl, hu, hw]
  show Made.post (if ((-1 : Int) == 1 && _) = true then _ else Made.str ⟨((Builtin.Str.strSliceIndices none none (-1) z.length).filterMap (z.cps[·]?)).toArray⟩) (EP X pins σ Q) _
  rw [if_neg (by simp), back_pick]
  exact ⟨by show z.cps.toList.reverse.toArray.size ≤ _; rw [List.size_toArray, List.length_reverse, Array.length_toList]; exact hz, .str _, _, ie.tok _, ⟨_, rfl⟩, q⟩
/-- .. of a list or a text, by the evaluator -/
theorem s_rev {a : Expr} {e : E} {k : Nat} {p1 p2 p3 pos : Pos} (ha : PE X a (tB X.K W C e)) : PE X (.Subscript a (backSl k p1 p2 p3) pos) (tDr X.K W C (.rev e)) := by
  refine ⟨fun pins s σ H Q inv rd => ?_⟩
  obtain ⟨F, T, st, env, w, eo, p⟩ := rd
  have p : Post X.K W σ F T H (rD X.K) ((bor env e (evE C env e) st).bnd fun x st => ofO (revD x) st) Q := p
  cases o : bor env e (evE C env e) st with
  | bad => rw [o] at p; exact p.elim
  | ex c ks ds st1 =>
    rw [o] at p
    refine (pe_revS ha).run pins s σ H Q inv ⟨F, T, st, env, w, eo, ?_⟩
    show Post X.K W σ F T H (rBo X.K) (bor env e (evE C env e) st) _
    rw [o]
    exact p
  | ok d st1 =>
    rw [o, Out.bnd_ok] at p
    cases d with
    | lst ds =>
      refine (pe_revL ha).run pins s σ H Q inv ⟨F, T, st, env, w, eo, ?_⟩
      show Post X.K W σ F T H (rBo X.K) (bor env e (evE C env e) st) _
      rw [o]
      intro x F' T' H' xt w' r
      obtain ⟨a, vs, rfl, hl, rs⟩ := Bor.lst w' r
      exact ⟨a, vs, rfl, .of hl, fun q hq => Cont.lst w' (Post.shift sh_D xt p) rs.reverse hq⟩
    | str z =>
      refine (pe_revS ha).run pins s σ H Q inv ⟨F, T, st, env, w, eo, ?_⟩
      show Post X.K W σ F T H (rBo X.K) (bor env e (evE C env e) st) _
      rw [o]
      intro x F' T' H' xt w' r
      cases Bor.str r
      simp only [revD] at p
      by_cases q : z.length ≤ sizeLine
      · rw [if_pos q] at p
        exact ⟨z, rfl, q, Cont.flat w' (Post.shift sh_D xt p) rfl (.str _)⟩
      · rw [if_neg q] at p
        exact p.elim
    | _ => exact p.elim
end
end Eng
set_option Elab.async false
set_option linter.all false
set_option maxRecDepth 100000
set_option maxHeartbeats 4000000
namespace Eng
open PySem PySem.Spec PyProof.Rows L2
def keyE (e : Int × Value) : Key := match e.2 with
  | .int k _ => .inl k
  | .str x _ => .inr x
  | _ => .inl 0
def GoodK (w : World) (e : Int × Value) : Prop := ∃ k : Key, RelV (kV k) e.2 ∧ e.1 = keyH w k
theorem keyE_of {e : Int × Value} {k : Key} (r : RelV (kV k) e.2) : keyE e = k := by
  cases k with
  | inl i =>
    obtain ⟨t, q⟩ := (show ∃ t, e.2 = Value.int i t from r)
    unfold keyE
    rw [q]
  | inr x =>
    obtain ⟨t, q⟩ := (show ∃ t, e.2 = Value.str x t from r)
    unfold keyE
    rw [q]
/-- the set of the keys ks at a: its table rises and can be walked -/
def SetM (w : World) (h : Heap) (a : Addr) (ks : List Key) : Prop :=
  ∃ o es ep t, h.get? a = some o ∧ o.ExactSet ∧ o.data = .set es ep t ∧ (∀ e ∈ es.toList, GoodK w e) ∧ (es.toList.map keyE).Nodup ∧ (∀ k, k ∈ es.toList.map keyE ↔ k ∈ ks) ∧ es.size < scanBound ∧ t.fits es.size = true ∧ Ris t.place.toList ∧ (w.params.followText "set-order" = true ∨ t.led = true)
section
variable {P : Program} {w : World} {A : Around} {E : Value → Shared → Prop} {s : Shared} {a : Addr} {ks : List Key}
theorem SetM.at {h h' : Heap} (R : SetM w h a ks) (k : ∀ o, h.get? a = some o → h'.get? a = some o) : SetM w h' a ks := by
  obtain ⟨o, es, ep, t, ho, r⟩ := R
  exact ⟨o, es, ep, t, k o ho, r⟩
theorem goodK_is {e : Int × Value} (g : GoodK w e) (k : Key) : (mixKind P w).is k e.2 = true ↔ keyE e = k := by
  obtain ⟨k0, r, _⟩ := g
  rw [keyE_of r]
  have z := kV_is (P := P) (w := w) r
  exact ⟨fun q => (mixKind P w).inj _ _ _ z q, fun q => q ▸ z⟩
theorem goodK_elems {l : List (Int × Value)} (g : ∀ e ∈ l, GoodK w e) : ElemsOf (mixKind P w) l := fun e he => by
  obtain ⟨k, r, q⟩ := g e he
  exact ⟨⟨k, kV_is r, q⟩, key_scan r⟩
theorem goodK_mem {l : List (Int × Value)} (g : ∀ e ∈ l, GoodK w e) (k : Key) : k ∈ l.map keyE ↔ ∃ e ∈ l, (mixKind P w).is k e.2 = true := by
  rw [List.mem_map]
  exact ⟨fun ⟨e, he, q⟩ => ⟨e, he, (goodK_is (g e he) k).mpr q⟩, fun ⟨e, he, q⟩ => ⟨e, he, (goodK_is (g e he) k).mp q⟩⟩
/-- how many -/
theorem nodup_sub : ∀ {l m : List Key}, l.Nodup → (∀ x ∈ l, x ∈ m) → l.length ≤ m.length
  | [], m, _, _ => Nat.zero_le _
  | x :: l, m, h, q => by
    have hx := q x List.mem_cons_self
    obtain ⟨h1, h2⟩ := List.nodup_cons.mp h
    have z := nodup_sub (l := l) (m := m.erase x) h2 fun y hy => (List.mem_erase_of_ne (fun e => h1 (by rw [← e]; exact hy))).mpr (q y (List.mem_cons_of_mem _ hy))
    rw [List.length_erase_of_mem hx] at z
    have := List.length_pos_of_mem hx
    rw [List.length_cons]
    omega
theorem SetM.few {h : Heap} (R : SetM w h a ks) : ∃ o es ep t, h.get? a = some o ∧ o.data = .set es ep t ∧ es.size ≤ ks.length := by
  obtain ⟨o, es, ep, t, ho, _, hd, _, nd, hm, _⟩ := R
  refine ⟨o, es, ep, t, ho, hd, ?_⟩
  have z := nodup_sub nd fun x hx => (hm x).mp hx
  rwa [List.length_map, Array.length_toList] at z
/-- what is done behind a key that is new -/
theorem setM_tail {g : Bool → Sem Unit} (hg : ∀ (b : Bool) (s1 : Shared) (Q' : Unit → Shared → Prop), Q' () s1 → wpAny (model P w) A (g b) Q' E s1)
    {o : Obj} {es : Array (Int × Value)} {ep : Nat} {t : SetTable} (ho : s.heap.get? a = some o) (hx : o.ExactSet) (hd : o.data = .set es ep t)
    {fs : Array (Int × Value)} {u : SetTable} (gd : ∀ e ∈ fs.toList, GoodK w e) (nd : (fs.toList.map keyE).Nodup) (mm : ∀ k, k ∈ fs.toList.map keyE ↔ k ∈ ks)
    (hb : fs.size < scanBound) (hf : u.fits fs.size = true) (hr : Ris u.place.toList) (hl : w.params.followText "set-order" = true ∨ u.led = true) {wd : Bool} {R : Option Bool → Shared → Prop}
    (hR : ∀ h', Heap.SameBut a s.heap h' → SetM w h' a ks → R (some true) { s with heap := h' }) :
    wpAny (model P w) A (do
        storeSet a fs u
        if (!wd && u.tooFull) = true then do
            g (relayAll u fs (SetTable.grown fs.size)).2.2
            storeSet a (relayAll u fs (SetTable.grown fs.size)).1 (relayAll u fs (SetTable.grown fs.size)).2.1
            pure (some true)
          else pure (some true)) R E s := by
  refine wpAny_bind (wpAny_storeSet_of ho hd ?_ (fits_of_scanBound hb))
  have there := store_at (es' := fs) (t' := u) ho hd
  have same := Heap.SameBut.update s.heap a (Obj.putSet fs u)
  by_cases c : (!wd && u.tooFull) = true
  · rw [if_pos c]
    have pm := relayAll_perm u fs (SetTable.grown fs.size)
    have rf := relayAll_fits u fs (SetTable.grown fs.size)
    have rr := relayAll_ris u fs (SetTable.grown fs.size)
    have rl := relayAll_led u fs (SetTable.grown fs.size)
    revert pm rf rr rl
    generalize relayAll u fs (SetTable.grown fs.size) = Z
    rcases Z with ⟨gs, v, gv⟩
    intro pm rf rr rl
    have e : gs.size = fs.size := by rw [← Array.length_toList, pm.length_eq, Array.length_toList]
    have hb' : gs.size < scanBound := by rw [e]; exact hb
    refine wpAny_bind (hg _ _ _ ?_)
    refine wpAny_bind (wpAny_storeSet_of there rfl ?_ (fits_of_scanBound hb'))
    refine wpAny_pure (hR _ (same.trans (Heap.SameBut.update _ a _)) ?_)
    refine ⟨_, gs, _, v, store_at (es' := gs) (t' := v) there rfl, hx, rfl, fun e he => gd e (pm.mem_iff.mp he), (pm.map keyE).nodup_iff.mpr nd, fun k => (pm.map keyE).mem_iff.trans (mm k), hb', rf, rr, ?_⟩
    rcases hl with hl | hl
    · exact .inl hl
    · exact .inr (Eq.trans rl hl)
  · rw [if_neg c]
    exact wpAny_pure (hR _ same ⟨_, fs, _, u, there, hx, rfl, gd, nd, mm, hb, hf, hr, hl⟩)
theorem gave_way (b : Bool) {s1 : Shared} {Q' : Unit → Shared → Prop} (q : Q' () s1) : wpAny (model P w) A (match b with | true => rule "set.scan.the-table-gave-way" | false => pure ()) Q' E s1 := by
  cases b <;> first | exact wpAny_pure q | exact wpAny_rule q
theorem setM_put {k : Key} {x : Value} {Q : Bool → Shared → Prop} (hx : RelV (kV k) x) (R : SetM w s.heap a ks) (room : ks.length + 1 < scanBound)
    (hQ : ∀ h' b, Heap.SameBut a s.heap h' → SetM w h' a (ks ++ [k]) → Q b { s with heap := h' }) : wpAny (model P w) A (setAddHashed a x ((mixKind P w).hash k)) Q E s := by
  have few := R.few
  obtain ⟨o, es, ep, t, ho, hex, hd, g, nd, hm, hb, hf, hr, hl⟩ := R
  have few : es.size ≤ ks.length := by
    obtain ⟨o', es', ep', t', h1, h2, h3⟩ := few
    rw [ho] at h1
    cases h1
    rw [hd] at h2
    cases h2
    exact h3
  have hkey := kV_is (P := P) (w := w) hx
  have hsc := key_scan hx
  have hel : ElemsOf (mixKind P w) es.toList := goodK_elems g
  unfold setAddHashed setAddHashedIn; refine wpAny_holding (wpAny_bind (wpAny_setState_of ho hd hf ?_))
  show wpAny _ _ _ _ _ _
  dsimp only; rw [byScan_of hsc hb hel]
  simp only [↓reduceIte]; unfold setAddByScan
  refine wpAny_bind (wpAny_bind (wpAny_rule (wpAny_bind (wpAny_setScan_of hkey ho hd hf hel ?_))))
  cases hfi : List.findIdx? (fun e => (mixKind P w).is k e.2) es.toList with
  | some j =>
    obtain ⟨hj, pj, _⟩ := List.findIdx?_eq_some_iff_getElem.mp hfi
    have hk : k ∈ ks := (hm k).mp ((goodK_mem (P := P) g k).mpr ⟨es.toList[j], List.getElem_mem hj, pj⟩)
    dsimp only
    refine wpAny_pure (wpAny_pure (hQ s.heap _ (Heap.SameBut.refl a s.heap) ⟨o, es, ep, t, ho, hex, hd, g, nd, fun i => (hm i).trans ?_, hb, hf, hr, hl⟩))
    rw [List.mem_append, List.mem_singleton]
    exact ⟨.inl, fun z => z.elim id fun e => e ▸ hk⟩
  | none =>
    dsimp only
    have nk : k ∉ es.toList.map keyE := fun z => by
      obtain ⟨e, he, q⟩ := (goodK_mem (P := P) g k).mp z
      have c := List.findIdx?_eq_none_iff.mp hfi e he
      rw [q] at c
      exact absurd c (by decide)
    have pm := layNew_perm t es ((mixKind P w).hash k) x
    have nf := layNew_fits t es ((mixKind P w).hash k) x
    have nr := layNew_ris t es ((mixKind P w).hash k) x hr
    have nl := layNew_led t es ((mixKind P w).hash k) x
    revert pm nf nr nl
    generalize layNew t es ((mixKind P w).hash k) x = Z
    rcases Z with ⟨fs, u, wd, gv⟩
    intro pm nf nr nl
    dsimp only at pm nf nr nl ⊢
    rw [Array.toList_push] at pm
    have pc : fs.toList.Perm (((mixKind P w).hash k, x) :: es.toList) := pm.trans (List.perm_append_singleton _ _)
    have kx : keyE ((mixKind P w).hash k, x) = k := keyE_of hx
    have pk : (fs.toList.map keyE).Perm (k :: es.toList.map keyE) := by
      have z := pc.map keyE
      rwa [List.map_cons, kx] at z
    have gd : ∀ e ∈ fs.toList, GoodK w e := fun e he => by
      rcases List.mem_cons.mp (pc.mem_iff.mp he) with rfl | z
      · exact ⟨k, hx, rfl⟩
      · exact g e z
    have nd' : (fs.toList.map keyE).Nodup := pk.nodup_iff.mpr (List.nodup_cons.mpr ⟨nk, nd⟩)
    have mm : ∀ i, i ∈ fs.toList.map keyE ↔ i ∈ ks ++ [k] := fun i => by
      rw [pk.mem_iff, List.mem_cons, hm i, List.mem_append, List.mem_singleton]
      exact Or.comm
    have hz : fs.size < scanBound := by
      have e : fs.size = es.size + 1 := by rw [← Array.length_toList, pc.length_eq, List.length_cons, Array.length_toList]
      omega
    have ld : w.params.followText "set-order" = true ∨ u.led = true := by
      rcases hl with hl | hl
      · exact .inl hl
      · exact .inr (Eq.trans nl hl)
    refine wpAny_bind (gave_way _ ?_)
    split
    · refine wpAny_bind ?_
      rw [hashByValue_scannable 8 hsc]
      refine wpAny_pure (setM_tail (ks := ks ++ [k]) (fun b s1 Q' q => gave_way b q) ho hex hd gd nd' mm hz ?_ ?_ ?_ fun h' sb r => ?_)
      · first | (split <;> first | exact nf | exact SetTable.fits_plain_off nf) | exact nf
      · first | (split <;> exact nr) | exact nr
      · first | (split <;> exact ld) | exact ld
      · exact wpAny_pure (hQ h' _ sb r)
    · refine wpAny_bind (wpAny_pure ?_)
      simp only [↓reduceIte]
      exact setM_tail (ks := ks ++ [k]) (fun b s1 Q' q => gave_way b q) ho hex hd gd nd' mm hz nf nr ld fun h' sb r => wpAny_pure (hQ h' _ sb r)
theorem setM_update {I : Addr} {fp wr : List Addr} {G : Array GenState → Array GenState → Prop} {n : Nat} {Pv : Nat → Value → Prop} {St : Nat → Shared → Prop} {R : Result → Shared → Prop}
    (W : WalksS P w A.in1 I fp wr G n Pv St) (S : Addr) (hSf : S ∉ fp) (ks : List Key) (hn : n = ks.length) (hb : ks.length + 1 < scanBound) (hval : ∀ i v, Pv i v → ∃ k, ks[i]? = some k ∧ RelV (kV k) v) :
    ∀ (k i : Nat) (s : Shared), n - i = k → i ≤ n → St i s → SetM w s.heap S (ks.take i) →
      (∀ s', Moved (S :: wr) G s s' → SetM w s'.heap S ks → R (.ok (.ret .none)) s') →
      codeAny (model P w) A (.builtin "set.update.loop" ⟨[.ref S, .ref I], []⟩) R s := by
  have hSw : S ∉ wr := fun h => hSf (W.sub _ h)
  have hsub : ∀ b ∈ wr, b ∈ S :: wr := fun b hb => List.mem_cons_of_mem _ hb
  intro k
  induction k with
  | zero =>
    intro i s hk' hi hst hS hR
    have hin : i = n := by omega
    subst hin
    refine codeAny_builtin F.entry_set_update_loop ?_
    rw [Around.under_plainId F.plain_set_update_loop _]
    show wpAny _ A.in1 (pyNext (.ref I) >>= _) _ _ s
    refine wpAny_bind (W.done s _ _ hst fun s' hm => ?_)
    show wpAny _ A.in1 (ret Value.none) _ _ s'
    have e : ks.take i = ks := List.take_of_length_le (by omega)
    rw [e] at hS
    exact wpAny_pure (hR s' (hm.mono hsub) (hS.at fun o e => hm.heap S o hSw e))
  | succ k ih =>
    intro i s hk' hi hst hS hR
    have hlt : i < n := by omega
    refine codeAny_builtin F.entry_set_update_loop ?_
    rw [Around.under_plainId F.plain_set_update_loop _]
    show wpAny _ A.in1 (pyNext (.ref I) >>= _) _ _ s
    refine wpAny_bind (W.item i s _ _ hlt hst fun v s' hP hst' hm => ?_)
    obtain ⟨z, hz, hk⟩ := hval i v hP
    have hS' : SetM w s'.heap S (ks.take i) := hS.at fun o e => hm.heap S o hSw e
    show wpAny _ A.in1 (holding [v] (setAdd S v) >>= _) _ _ s'
    refine wpAny_bind (wpAny_holding ?_)
    unfold setAdd
    refine wpAny_holding ?_
    refine wpAny_bind ((mixKind P w).pyHash (k := z) (kV_is hk) ?_)
    have room : (ks.take i).length + 1 < scanBound := by
      have h2 : (ks.take i).length ≤ ks.length := by rw [List.length_take]; omega
      omega
    refine setM_put (s := { s' with toks := s'.toks + 1 }) hk hS' room fun h' _ hsb hS2 => ?_
    have hS3 : SetM w h' S (ks.take (i + 1)) := by
      rw [List.take_add_one, hz]
      exact hS2
    refine wpAny_pure ⟨plainId_quiet F.plain_set_update_loop _, ih (i + 1) _ (by omega) hlt (W.frame _ s' _ _ hst' (Nat.le_succ _) fun b hb o e => ?_) hS3 fun s'' hm'' hS'' => ?_⟩
    · rw [hsb.2 b (fun h : b = S => hSf (by rw [← h]; exact hb))]; exact e
    · refine hR s'' (Moved.trans W.gtrans ((hm.mono hsub).then_heap (Nat.le_succ _) fun b o hb e => ?_) hm'') hS''
      rw [hsb.2 b (fun h : b = S => hb (by rw [h]; exact List.mem_cons_self))]; exact e
set_option maxRecDepth 100000 in
/-- set(l) of ints and texts, l a list -/
theorem setM_of_list {l : Addr} {items : Array Value} {ks : List Key} {Q : Value → Shared → Prop} (hh : A.handled = none) (hl : s.heap.IsList l items) (sz : items.size = ks.length) (hv : ∀ (i : Nat) (v : Value), items[i]? = some v → ∃ k, ks[i]? = some k ∧ RelV (kV k) v) (few : ks.length + 1 < scanBound)
    (h : ∀ (h1 : Heap) (tk : Nat), SetM w h1 s.heap.objs.size ks → (∀ b o, s.heap.get? b = some o → h1.get? b = some o) → Q (.ref s.heap.objs.size) { s with heap := h1, toks := tk }) :
    wpAny (model P w) A (call (.type "set") [.ref l]) Q E s := by
  obtain ⟨c0, tl, hmro⟩ := F.called_set.mro
  have hmade := F.called_set.made
  have hsub := F.called_set.sub
  refine wpAny_call (codeAny_of_tree ?_)
  show wpAny _ _ (callAny (.type "set") _) _ _ _
  refine wpAny_pure ⟨Code.quiet_builtin _ (by decide +kernel), ?_⟩
  refine codeAny_builtin F.entry_type_call ?_
  rw [Around.under_plain (weight_type_call_type "set" [.ref l] []) rfl]
  have t1 := F.called_set.notType
  have t2 := F.called_set.canCreate
  have t3 := F.typeCall_set_1 (.ref l)
  repeat any_goals (first | assumption | wp_step)
  have old : ∀ {b : Addr} {o : Obj}, s.heap.get? b = some o → (s.heap.push (setObj w)).get? b = some o := fun e => Heap.get?_push_of_some _ e
  have new : (s.heap.push (setObj w)).get? s.heap.objs.size = some (setObj w) := Heap.get?_push_size _ rfl
  have sz1 : (s.heap.push (setObj w)).objs.size = s.heap.objs.size + 1 := Heap.size_push ..
  have start := code_set_led1 (P := P) (w := w) (A := A.in1) (s := s) (.ref l) (E := E) (Q₁ := fun obj s1 => obj = .ref s.heap.objs.size ∧ s1 = { s with heap := s.heap.push (setObj w) }) ⟨rfl, rfl⟩
  refine codeAny_mono start fun r s1 hr => ?_
  cases r with
  | error e => exact hr
  | ok fl =>
    cases fl with
    | ret obj =>
      obtain ⟨rfl, rfl⟩ := hr
      have hT : Shared.TypeIs { s with heap := s.heap.push (setObj w) } (.ref s.heap.objs.size) "set" := ⟨_, new, rfl⟩
      have hli := F.called_set.init.lookup
      have hbi := F.called_set.init.bind (.ref s.heap.objs.size)
      repeat any_goals (first | assumption | wp_step)
      refine codeAny_mono (codeAny_call_builtin (R := wants (fun r s2 => r = .none ∧ ∃ h1 tk, s2 = { s with heap := h1, toks := tk } ∧ SetM w h1 s.heap.objs.size ks ∧
        ∀ b o, s.heap.get? b = some o → h1.get? b = some o) E) F.called_set.init.plain F.entry_set_init (check_set_init_1 hT ?_)) fun r2 s2 hr2 => ?_
      · obtain ⟨ol, hol, hcl, nl, hdl⟩ := hl
        obtain ⟨kc, kd, kv, ksl⟩ := ol
        simp only at hcl hdl
        subst hcl hdl
        have hol' : (s.heap.push (setObj w)).get? l = some { cls := .type "list", dict := kd, data := .seq items nl, slots := ksl } := old hol
        have k1 := F.sub_list_set
        have k2 := F.sub_list_frozenset
        have k3 : (Value.type "list" == Value.type "dict") = false := by decide
        have isl : (s.heap.push (setObj w)).IsList l items := ⟨_, hol', rfl, nl, rfl⟩
        unfold Builtin.«set.__init__» noKeywords Builtin.Frozenset.updateFrom
        generalize hPI : pyIter = PI
        wp_walk
        subst hPI
        refine wpAny_pyIter_list isl (wpAny_bind (wpAny_runValue ?_))
        have lt : l < s.heap.objs.size := Heap.lt_size hol
        have h3 : A.in1.in1.in1.handled = none := by simp [hh]
        have ne1 : l ≠ (s.heap.push (setObj w)).objs.size := by rw [sz1]; exact Nat.ne_of_lt (Nat.lt_succ_of_lt lt)
        have apart : s.heap.objs.size ∉ [(s.heap.push (setObj w)).objs.size, l] := by
          rw [sz1]
          simp only [List.mem_cons, List.not_mem_nil, or_false, not_or]
          exact And.intro (Nat.ne_of_lt (Nat.lt_succ_self _)) (Nat.ne_of_gt lt)
        refine setM_update ((Walks.list h3 _ l ne1 items).toS) s.heap.objs.size apart ks sz few hv (items.size - 0) 0 _ (by omega) (Nat.zero_le _) ⟨⟨_, Heap.get?_push_size _ rfl, rfl, rfl⟩, isl.push _⟩ ?first0 ?last0
        case first0 => exact ⟨_, #[], 0, _, Heap.get?_push_of_some _ new, ⟨rfl, rfl, rfl⟩, rfl, (fun e he => by simp at he), (by simp), (fun k => by simp), (by decide), (by rfl), List.Pairwise.nil, by
          show _ ∨ (!w.params.followText "set-order") = true
          cases w.params.followText "set-order" <;> simp⟩
        case last0 =>
          intro s3 hm hS
          obtain ⟨h1, g1, d1, tk1, os1⟩ := s3
          obtain rfl : g1 = s.gens := hm.gens
          obtain rfl : d1 = s.drawn := hm.drawn
          obtain rfl : os1 = s.os := hm.os
          show wpAny _ _ _ _ _ _
          refine wpAny_pure ?_
          show wpAny _ _ (ret Value.none) _ _ _
          refine wpAny_pure ⟨rfl, h1, tk1, rfl, hS, fun b o e => hm.heap b o ?_ (Heap.get?_push_of_some _ (old e))⟩
          have lb := Heap.lt_size e
          rw [sz1]
          simp only [List.mem_cons, List.not_mem_nil, or_false, not_or]
          exact And.intro (Nat.ne_of_lt lb) (Nat.ne_of_lt (Nat.lt_succ_of_lt lb))
      · cases r2 with
        | error e => exact hr2
        | ok fl2 =>
          cases fl2 with
          | ret r =>
            obtain ⟨rfl, h1, tk, rfl, hS, hk⟩ := hr2
            repeat any_goals (first | assumption | wp_step)
            exact h _ _ hS hk
          | _ => exact hr2.elim
    | _ => exact hr.elim
end
end Eng
set_option Elab.async false
set_option linter.all false
set_option maxRecDepth 100000
set_option maxHeartbeats 4000000
namespace Eng
open PySem PySem.Spec PyProof.Rows L2
section
variable {P : Program} {w : World} {A : Around} {E : Value → Shared → Prop} {s : Shared} {a : Addr} {ks : List Key}
theorem strs_each : ∀ {l : List Value}, (∀ v ∈ l, ∃ x t, v = Value.str x t) → PySem.W.EachIs (fun v (x : Str) => ∃ t, v = Value.str x t) l (l.map fun v => match v with | .str x _ => x | _ => ⟨#[]⟩)
  | [], _ => .nil
  | v :: l, h => by
    obtain ⟨x, t, rfl⟩ := h v List.mem_cons_self
    exact .cons ⟨t, rfl⟩ (strs_each fun u hu => h u (List.mem_cons_of_mem _ hu))
theorem keyE_str {e : Int × Value} {x : Str} (h : RelV (kV (.inr x)) e.2) : ∃ t, e.2 = Value.str x t := h
/-- sorted of a set of texts -/
theorem sorted_setM {xs : List Str} {Q : Value → Shared → Prop} (R : SetM w s.heap a (xs.map .inr)) (hh : A.handled = none) (hu : A.units + 64 < cLine) (few : xs.length < 4000)
    (hQ : ∀ s' p (out : List Value) (c : Nat) (ys : List Str), (∀ b o, s.heap.get? b = some o → s'.heap.get? b = some o) → s'.gens = s.gens → s'.os = s.os → s.heap.objs.size ≤ p →
      s'.heap.get? p = some (seqObj "list" out.toArray c) → PySem.W.EachIs (fun v (x : Str) => ∃ t, v = Value.str x t) out (ys.mergeSort fun x y => decide (x.cps.toList ≤ y.cps.toList)) → ys.Nodup → (∀ x, x ∈ ys ↔ x ∈ xs) → Q (.ref p) s') :
    wpAny (model P w) A (call (.builtin "sorted") [.ref a]) Q E s := by
  have few' := R.few
  obtain ⟨o, es, ep, t, ho, hex, hd, g, nd, hm, hb, hf, hr, hl⟩ := R
  refine Calls.call_function_entry kind_sorted plain_sorted entry_sorted (args_sorted1 _) ?_
  unfold Builtin.«sorted»; refine wpAny_bind (m := checkCount "sorted" 1 1 _) (wpAny_pure ?_)
  refine wpAny_bind (collect_set (A := A.in1) hh ⟨o, ho, hex.1, hd⟩ hf hb hr hl fun s1 vs k1 hz g1 o1 pm => ?_)
  have isS : ∀ v ∈ vs, ∃ x t, v = Value.str x t ∧ x ∈ xs := fun v hv => by
    obtain ⟨e, he, rfl⟩ := List.mem_map.mp (pm.mem_iff.mp hv)
    obtain ⟨k, r, _⟩ := g e he
    have hk := (hm k).mp (List.mem_map.mpr ⟨e, he, keyE_of r⟩)
    obtain ⟨x, hx, rfl⟩ := List.mem_map.mp hk
    obtain ⟨t, q⟩ := keyE_str r
    exact ⟨x, t, q, hx⟩
  have vl : vs.length ≤ sizeLine := by
    have hb := sizeLine_eq
    obtain ⟨o', es', ep', t', h1, h2, h3⟩ := few'
    rw [ho] at h1
    cases h1
    rw [hd] at h2
    cases h2
    rw [List.length_map] at h3
    rw [pm.length_eq, List.length_map, Array.length_toList]
    omega
  have e := strs_each (l := vs) fun v hv => by
    obtain ⟨x, t, q, _⟩ := isS v hv
    exact ⟨x, t, q⟩
  refine wpAny_bind (wpAny_newList ?_ vl)
  have new : (s1.heap.push (seqObj "list" vs.toArray 0)).get? s1.heap.objs.size = some (seqObj "list" vs.toArray 0) := Heap.get?_push_size _ rfl
  generalize hys : (vs.map fun v => match v with | .str x _ => x | _ => (⟨#[]⟩ : Str)) = ys at e
  have pk : (ys.map (Sum.inr : Str → Key)).Perm (es.toList.map keyE) := by
    rw [← hys, List.map_map]
    refine (pm.map _).trans ?_
    rw [List.map_map]
    refine List.Perm.of_eq (List.map_congr_left fun e he => ?_)
    obtain ⟨x, t, q, _⟩ := isS e.2 (pm.mem_iff.mpr (List.mem_map.mpr ⟨e, he, rfl⟩))
    show Sum.inr (match e.2 with | .str x _ => x | _ => (⟨#[]⟩ : Str)) = keyE e
    unfold keyE
    rw [q]
  have er : PySem.W.EachIs (fun v (b : Str) => ∃ as, Reads (PySem.W.sortingHeap (s1.heap.push (seqObj "list" vs.toArray 0)) s1.heap.objs.size vs) v (PyData.str b) as) vs ys := e.mono fun _ _ ⟨t, q⟩ => ⟨[], by rw [q]; exact .str _ _⟩
  have al : PySem.W.AllAlike (ys.map PyData.str) := by
    intro d1 h1 d2 h2
    obtain ⟨x, _, rfl⟩ := List.mem_map.mp h1
    obtain ⟨y, _, rfl⟩ := List.mem_map.mp h2
    simp only [PySem.W.alike]
  have so : PySem.W.Sortable (ys.map PyData.str) := .inr fun d hd => by
    obtain ⟨x, _, rfl⟩ := List.mem_map.mp hd
    exact ⟨(fun z => by cases z), fun _ z => by cases z⟩
  have S := PySem.W.SortsAt.data (prog := P) (w := w) (A := A.in1.in1) (s := { s1 with heap := PySem.W.sortingHeap (s1.heap.push (seqObj "list" vs.toArray 0)) s1.heap.objs.size vs }) (PySem.W.each_map (R := fun v d => ∃ as, Reads (PySem.W.sortingHeap (s1.heap.push (seqObj "list" vs.toArray 0)) s1.heap.objs.size vs) v d as) PyData.str er) al so (PySem.W.bound_map fun b _ => by
    show A.in1.in1.units + PyData.depth (.str b) < cLine
    have : PyData.depth (.str b) ≤ 1 := by simp [PyData.depth]
    have e1 : A.in1.in1.units ≤ A.units + 2 := by simp [Around.in1, Around.units]
    omega)
  have out := PySem.W.sortVals_data false e er al
  rw [PySem.W.dataLe_str fun b : Str => b] at out
  refine wpAny_bind (wpAny_holding (wpAny_call_entry slot_list_sort ⟨_, new, rfl⟩ entry_list_sort (PySem.W.list_sort_vals new S vl ⟨_, rfl, ?_⟩) (args_list_sort _)))
  obtain ⟨c, hc⟩ := sortedHeap_at (out := (PySem.W.sortVals (PySem.W.dataKind (PySem.W.sortingHeap (s1.heap.push (seqObj "list" vs.toArray 0)) s1.heap.objs.size vs) (ys.map PyData.str)) false vs vs).toArray) new
  refine wpAny_pure ⟨_, rfl, hQ _ s1.heap.objs.size _ c ys (fun b u q => ?_) g1 o1 hz hc out ?_ ?_⟩
  · have z := k1 b u q
    have lt := Heap.lt_size z
    show (sortedHeap _ _ _ _).get? b = some u
    rw [sortedHeap_old (Nat.ne_of_lt lt) (by rw [size_push']; exact Nat.lt_succ_of_lt lt)]
    exact Heap.get?_push_of_some _ z
  · exact List.Pairwise.of_map (Sum.inr : Str → Key) (fun a b h e => h (congrArg _ e)) (pk.nodup_iff.mpr nd)
  · intro x
    have z := (pk.mem_iff (a := Sum.inr x)).trans (hm (.inr x))
    simpa using z
end
end Eng
set_option Elab.async false
set_option linter.all false
set_option maxRecDepth 100000
set_option maxHeartbeats 2000000
namespace Eng
open PySem PySem.Spec PyProof.Rows L2
end Eng
set_option Elab.async false
set_option linter.all false
set_option maxRecDepth 100000
set_option maxHeartbeats 2000000
namespace Eng
open PySem PySem.Spec PyProof.Rows L2
section
variable {K : PySem.W.Frag} {F0 : Hp} {T0 : List Addr} {a : Addr} {o : Obj} {kvs : List (Key × V)} {ds : List D}
theorem key_rep {F : Hp} {T : List Addr} (k : Key) : Rep K F T (kV k) (kD k) := by
  cases k with
  | inl i => exact .int _
  | inr x => exact .str _
theorem gives_dk (q : F0 a = some (.frz o (.dK kvs))) : Gives K (PF F0 T0) ((kvs.map (·.1)).map kD) (Itk a o kvs) := fun F T st H p w i => by
  have h := w.fr _ _ (p.1 _ _ q)
  refine ⟨fun d hd => ?_, fun hl => ⟨h, by rw [List.length_map, List.length_map] at hl; omega⟩⟩
  rw [List.map_map, List.getElem?_map] at hd
  obtain ⟨kv, hk, rfl⟩ := Option.map_eq_some_iff.mp hd
  refine ⟨⟨h, (List.getElem?_eq_some_iff.mp hk).1⟩, fun x H' ⟨e, k, v, hk', ex⟩ => ?_⟩
  rw [hk] at hk'
  cases hk'
  subst e ex
  exact ⟨F, .refl _ _ _, w, key_rep _⟩
end
theorem int_repsT {K : PySem.W.Frag} {F : Hp} {T : List Addr} : ∀ k : List Int, Reps K F T ((k.map Sum.inl).map kV) (k.map .int)
  | [] => .nil
  | i :: k => .cons (.int i) (int_repsT k)
theorem gives_dkT {K : PySem.W.Frag} {F0 : Hp} {T0 : List Addr} {a : Addr} {o : Obj} {kvs : List (List Key × V)} {ks : List (List Int)} (q : F0 a = some (.frz o (.dT kvs))) (e : kvs.map (·.1) = kT ks) : Gives K (PF F0 T0) (ks.map fun k => .tup (k.map .int)) (Itkt a o kvs) := fun F T st H p w i => by
  have h := w.fr _ _ (p.1 _ _ q)
  have l : kvs.length = ks.length := by
    have := congrArg List.length e
    rw [List.length_map, List.length_map] at this
    exact this
  refine ⟨fun d hd => ?_, fun hl => ⟨h, by rw [List.length_map] at hl; omega⟩⟩
  rw [List.getElem?_map] at hd
  obtain ⟨k, hk, rfl⟩ := Option.map_eq_some_iff.mp hd
  have hi : i < kvs.length := by
    have := (List.getElem?_eq_some_iff.mp hk).1
    omega
  refine ⟨⟨h, hi⟩, fun x H' ⟨e1, k', v, t, hk', ex, ht⟩ => ?_⟩
  subst e1 ex
  have ek : k' = k.map .inl := by
    have z := congrArg (fun m => m[i]?) e
    simp only [List.getElem?_map, hk', hk, Option.map_some] at z
    exact Option.some.inj z
  subst ek
  exact ⟨F, .refl _ _ _, w, .tup (.of (w.tp _ _ ht)) (int_repsT k)⟩
section
variable {X : Cx} {W : WW} {C : Calls} {tg : Expr}
theorem dkD_is {x : D} {ds : List D} (h : dkD x = some ds) : (∃ ks es, x = .dcz ks es ∧ ks.length ≤ sizeLine) ∨ ∃ ks es, x = .dtt true ks es ∧ ks.length ≤ sizeLine := by
  cases x with
  | dcz ks es =>
    have h : (if ks.length ≤ sizeLine then some (ks.map kD) else none) = some ds := h
    by_cases l : ks.length ≤ sizeLine
    · exact .inl ⟨ks, es, rfl, l⟩
    · rw [if_neg l] at h
      cases h
  | dtt z ks es =>
    cases z with
    | false => cases h
    | true =>
      have h : (if ks.length ≤ sizeLine then some (ks.map fun k => D.tup (k.map .int)) else none) = some ds := h
      by_cases l : ks.length ≤ sizeLine
      · exact .inr ⟨ks, es, rfl, l⟩
      · rw [if_neg l] at h
        cases h
  | _ => cases h
theorem dkT_of {F H : Hp} {T : List Addr} {st : Store} {v : V} {ks : List (List Int)} {ds : List D} (w : WF X.K F T st H) (b : Bor X.K F T H v (.dtt true ks ds)) : ∃ a o kvs, v = .ref a ∧ H a = some (.frz o (.dT kvs)) ∧ F a = some (.frz o (.dT kvs)) ∧ kvs.map (·.1) = kT ks := by
  rcases b with h | ⟨a, e, r, _⟩
  · cases h with | dtz q e r => exact ⟨_, _, _, rfl, w.fr _ _ q, q, e⟩
  · exact r.elim
theorem dcz_of {F H : Hp} {T : List Addr} {st : Store} {v : V} {ks : List Key} {ds : List D} (w : WF X.K F T st H) (b : Bor X.K F T H v (.dcz ks ds)) : ∃ a o kvs, v = .ref a ∧ H a = some (.frz o (.dK kvs)) ∧ F a = some (.frz o (.dK kvs)) ∧ kvs.map (·.1) = ks := by
  rcases b with h | ⟨a, e, r, _⟩
  · cases h with | dcz q e r => exact ⟨_, _, _, rfl, w.fr _ _ q, q, e⟩
  · exact r.elim
/-- for k in d -/
theorem i_dk {a : Expr} {ea : E} (ha : PE X a (tB X.K W C ea)) : PI X tg a (tI X.K W C (.dk ea)) :=
  impI (pi_keys ha) fun σ H R ⟨F, T, st, env, w, eo, p⟩ => by
    have p : Post X.K W σ F T H (rIt X.K) ((bor env ea (evE C env ea) st).bnd fun x st => ofO (dkD x) st) R := p
    refine ⟨F, T, st, env, w, eo, (Post.bnd (R1 := rBo X.K) sh_It p).mono fun x H1 ⟨F1, T1, st1, dx, x1, w1, r1, p1⟩ => ?_⟩
    cases e : dkD dx with
    | none => rw [e] at p1; exact p1.elim
    | some ds0 =>
      rw [e] at p1
      rcases dkD_is e with ⟨ks, es, rfl, l⟩ | ⟨ks, es, rfl, l⟩
      · obtain ⟨a, o, kvs, rfl, h, q, rfl⟩ := dcz_of w1 r1
        obtain rfl : (kvs.map (·.1)).map kD = ds0 := Option.some.inj ((if_pos l).symm.trans (show (if (kvs.map (·.1)).length ≤ sizeLine then some ((kvs.map (·.1)).map kD) else none) = some ds0 from e))
        exact ⟨a, o, rfl, .inl ⟨kvs, h, p1 _ F1 T1 H1 (.refl _ _ _) w1 ⟨(gives_dk q).imp fun _ _ _ x => px_pf x, by rw [List.length_map]; exact l⟩⟩⟩
      · obtain ⟨a, o, kvs, rfl, h, q, ek⟩ := dkT_of w1 r1
        obtain rfl : (ks.map fun k => D.tup (k.map .int)) = ds0 := Option.some.inj ((if_pos l).symm.trans (show (if ks.length ≤ sizeLine then some (ks.map fun k => D.tup (k.map .int)) else none) = some ds0 from e))
        exact ⟨a, o, rfl, .inr ⟨kvs, h, p1 _ F1 T1 H1 (.refl _ _ _) w1 ⟨(gives_dkT q ek).imp fun _ _ _ x => px_pf x, by rw [List.length_map]; exact l⟩⟩⟩
end
end Eng
set_option Elab.async false
set_option linter.all false
set_option maxRecDepth 100000
set_option maxHeartbeats 2000000
namespace Eng
open PySem PySem.Spec PyProof.Rows L2
end Eng
set_option Elab.async false
set_option linter.all false
set_option maxRecDepth 100000
set_option maxHeartbeats 2000000
namespace Eng
open PySem PySem.Spec PyProof.Rows L2
section
variable {X : Cx} {W : WW} {C : Calls} {tg : Expr}
abbrev c3 (i j c : Int) : Es := .cons (.c (.int i)) (.cons (.c (.int j)) (.cons (.c (.int c)) .nil))
end
end Eng
set_option Elab.async false
set_option linter.all false
set_option maxRecDepth 100000
set_option maxHeartbeats 4000000
namespace Eng
open PySem PySem.Spec PyProof.Rows L2
open PpSet (compLoopS_any codeAny_compStart_set newSet_ok eval_SetComp)
end Eng
set_option Elab.async false
set_option linter.all false
set_option maxRecDepth 100000
set_option maxHeartbeats 4000000
namespace Eng
open PySem PySem.Spec PyProof.Rows L2
end Eng
set_option Elab.async false
set_option linter.all false
set_option maxRecDepth 100000
set_option maxHeartbeats 4000000
namespace Eng
open PySem PySem.Spec PyProof.Rows L2
end Eng
set_option Elab.async false
set_option linter.all false
set_option maxRecDepth 100000
set_option maxHeartbeats 2000000
namespace Eng
open PySem PySem.Spec PyProof.Rows L2
end Eng
set_option Elab.async false
set_option linter.all false
set_option maxRecDepth 100000
set_option maxHeartbeats 2000000
namespace Eng
open PySem PySem.Spec PyProof.Rows L2
def lenP : Ps → Nat
  | .nil => 0
  | .cons _ _ _ r => lenP r + 1
theorem PsR.len {K : PySem.W.Frag} {F H' : Hp} {T : List Addr} : ∀ {ps : Ps} {H : Hp} {ds : List D} {vs : List V}, PsR K F T H' ps H ds vs → vs.length = lenP ps
  | .nil, _, _, _, h => by rw [h.nil_]; rfl
  | .cons o i e r, _, _, _, h => by
    obtain ⟨v, us, ds', H1, rfl, h'⟩ := h.cons_
    rw [List.length_cons, h'.len]
    rfl
end Eng
set_option Elab.async false
set_option linter.all false
set_option maxRecDepth 100000
noncomputable section
namespace Eng
open PySem PySem.Spec PyProof.Rows L2
theorem all_cut {α : Type} {l : List α} {f : α → Bool} (i j : Nat) (h : ((l.drop i).take j).all f = true) (k : (l.drop (i + j)).all f = true) : (l.drop i).all f = true := by
  rw [← List.take_append_drop j (l.drop i), List.all_append, h, List.drop_drop, k]; rfl
theorem all_end {α : Type} {l : List α} {f : α → Bool} (i : Nat) (h : (l.drop i).isEmpty = true) : (l.drop i).all f = true := by
  rw [List.isEmpty_iff.mp h]; rfl
theorem look_c {n : Nat} {ck : PySem.W.Frag → Bool} {fn : List He.DefD} {xc : List XcD} {s : PySem.W.SharedT} {K : PySem.W.Frag} (eK : K = He.frG (HandSHeadRun.getT s) (cStatics :: He.asD (HandSHeadRun.getT s) n))
    (h1 : ck K = true) (h2 : fn.all (fun d => d.ok K) = true) (h3 : fn.map (fun d => He.fnW K d.at_) = fn.map He.DefD.val) (h4 : xc.map (fun d => fnS K d.cls) = xc.map XcD.val) (w : World) :
    (hookC n ck fn xc).obs s.abs = (hookC n ck fn xc).val w := by
  rw [← obsCG_eq (n := n) (ck := ck) (fn := fn) (xc := xc) (HandSHeadRun.getT_eq s)]
  unfold obsCG obsC
  rw [← eK, h1, h2, h3, h4]
  rfl
end Eng
end
set_option Elab.async false
set_option linter.all false
set_option maxRecDepth 100000
set_option maxHeartbeats 2000000
namespace Eng
open PySem PySem.Spec PyProof.Rows L2
section
variable {X : Cx} {W : WW} {C : Calls}
theorem PostS.env {F : Hp} {T : List Addr} {env env' : Env} {o : Out Fl} {D : Ends} (hz : W.sv = false) (p : PostS X.K W F T env o D) : PostS X.K W F T env' o D := by
  cases o with
  | bad => exact p
  | ok f st => exact p
  | ex c ks ds st => exact fun dx F' T' H' σ' a b x w r _ => p dx F' T' H' σ' a b x w r fun h => by rw [hz] at h; cases h
theorem env_lock {xi : XB} {F H : Hp} {T : List Addr} {env : Env} {σ : L2.St} {i : Nat} {a : Addr} {o : HO} {d d' : D} (eo : EnvOk X.K xi F T H env σ) (hi : env[i]? = some (.own d)) (ha : σ[i]? = some (some (.ref a))) (f : F a = none) (nx : ∀ fs, H a ≠ some (.xd fs)) (r : Rep X.K (L2.upd F a o) T (.ref a) d') :
    EnvOk X.K xi (L2.upd F a o) T (L2.upd H a o) (env.set i (.val d')) σ := by
  have sm : Same F (L2.upd F a o) := fun b u e => by rw [upd_ne (ne_of_none e f)]; exact e
  have own_of : ∀ {j : Nat} {d1 : D}, (env.set i (.val d'))[j]? = some (.own d1) → env[j]? = some (.own d1) ∧ i ≠ j := fun {j d1} h => by
    rw [List.getElem?_set] at h
    split at h <;> rename_i c
    · split at h <;> cases h
    · exact ⟨h, c⟩
  refine ⟨fun j s hs => ?_, by rw [List.length_set]; exact eo.len, fun j l d1 d2 p ne h1 h2 h3 h4 => eo.apart j l d1 d2 p ne (own_of h1).1 (own_of h2).1 h3 h4⟩
  rw [List.getElem?_set] at hs
  split at hs <;> rename_i c
  · subst c
    split at hs
    · cases hs
      exact ⟨.ref a, ha, r⟩
    · cases hs
  · have q := eo.at_ j s hs
    cases s with
    | no => trivial
    | val d => obtain ⟨v, h1, h2⟩ := q; exact ⟨v, h1, h2.mono sm (.refl _)⟩
    | own d2 =>
      obtain ⟨b, h1, h2, h3, h4, h5⟩ := q
      have nb : b ≠ a := fun z => eo.apart i j _ _ a c hi hs ha (by rw [← z]; exact h1)
      exact ⟨b, h1, h2.mono sm (.refl _) fun o' e' => by rw [upd_ne nb]; exact e', by rw [upd_ne nb]; exact h3, h4, h5⟩
    | xc c' ks ds =>
      obtain ⟨y, h1, h2, h3, h4⟩ := q
      refine ⟨y, h1, h2, h3, ?_⟩
      rcases h4 with h4 | ⟨b, fs, g1, g2, g3, g4, g5⟩
      · exact .inl h4
      · refine .inr ⟨b, fs, g1, ?_, g3, g4, g5.mono sm (.refl _)⟩
        rw [upd_ne (fun z => nx fs (by rw [← z]; exact g2))]
        exact g2
theorem ss_lck {as : List Stmt} {i : Nat} {ss : Ss} (hz : W.sv = false) (hs : PSs X as (tSs X.K W C ss)) : PSs X as (tSs X.K W C (.cons (.lck i) ss)) := by
  refine ⟨fun pins s σ H D I ⟨F, T, st, env, x, w, eo, p⟩ => ?_⟩
  have p : PostS X.K W F T env ((match env[i]? with
    | some (.own (.dic ks ds)) => Out.ok (Fl.nx (env.set i (.val (.dcz ks ds)))) st
    | some (.own (.dtt false ks ds)) => Out.ok (Fl.nx (env.set i (.val (.dtt true ks ds)))) st
    | _ => Out.bad).bnd fun f st => (match f with
    | .nx env' => evSs C ss env' st
    | .rt d => .ok (.rt d) st
    | .bk env => .ok (.bk env) st
    | .ct env => .ok (.ct env) st)) D := p
  cases ei : env[i]? with
  | none => rw [ei] at p; exact p.elim
  | some sl =>
    rw [ei] at p
    cases sl with
    | own d =>
      cases d with
      | dic ks ds =>
        have p : PostS X.K W F T env (evSs C ss (env.set i (.val (.dcz ks ds))) st) D := p
        obtain ⟨a, e1, rt, f, n, z⟩ := eo.at_ i _ ei
        obtain ⟨kvs, hk, ek, rs⟩ := id rt
        obtain ⟨od, I2⟩ := I.lock hk trivial
        have sm : Same F (L2.upd F a (.frz od (.dK kvs))) := fun b u e => by rw [upd_ne (ne_of_none e f)]; exact e
        have r : Rep X.K (L2.upd F a (.frz od (.dK kvs))) T (.ref a) (.dcz ks ds) := .dcz upd_same ek (rs.mono sm (.refl _))
        have he : (L2.upd H a (.frz od (.dK kvs))) a = some (.frz od (.dK kvs)) := upd_same
        exact hs.run pins s σ _ D I2 ⟨_, T, st, _, Ext.freeze he f n (ext_own x z.h0) z.h0, (wf_upd w f n).freeze he f n, env_lock eo ei e1 f (top_nx rt) r, (p.env hz).shift sm (.refl _)⟩
      | dtt zz ks ds =>
        cases zz with
        | true => exact p.elim
        | false =>
          have p : PostS X.K W F T env (evSs C ss (env.set i (.val (.dtt true ks ds))) st) D := p
          obtain ⟨a, e1, rt, f, n, z⟩ := eo.at_ i _ ei
          obtain ⟨kvs, hk, ek, rs⟩ := id rt
          obtain ⟨od, I2⟩ := I.lock hk trivial
          have sm : Same F (L2.upd F a (.frz od (.dT kvs))) := fun b u e => by rw [upd_ne (ne_of_none e f)]; exact e
          have r : Rep X.K (L2.upd F a (.frz od (.dT kvs))) T (.ref a) (.dtt true ks ds) := .dtz upd_same ek (rs.mono sm (.refl _))
          have he : (L2.upd H a (.frz od (.dT kvs))) a = some (.frz od (.dT kvs)) := upd_same
          exact hs.run pins s σ _ D I2 ⟨_, T, st, _, Ext.freeze he f n (ext_own x z.h0) z.h0, (wf_upd w f n).freeze he f n, env_lock eo ei e1 f (top_nx rt) r, (p.env hz).shift sm (.refl _)⟩
      | _ => exact p.elim
    | _ => exact p.elim
/-- a constant by another name -/
theorem s_glJ {x x' : Str} {i : Int} {pos : Pos} (hg : Gl X x) (hm : ∃ t, X.mg x = some (.int i t)) (hd : (x == ("__debug__" : Str)) = false) : PE X (.Name x pos) (tE X.K W C (.gl x' (.int i))) := by
  obtain ⟨t, hm⟩ := hm
  exact s_const (pe_glob (v := .int i) hg hm ⟨t, rfl⟩ hd) rfl fun _ _ => rfl
theorem vB {i : Nat} {y : Str} {pos : Pos} (hN : X.N[i]? = some y := by rfl) (hv : Vis X.env.scope y := by first | exact .inl rfl | exact .inr (.inl rfl) | exact .inr (.inr rfl)) (hd : (y == ("__debug__" : Str)) = false := by decide) (hcd : (y == ("__classdict__" : Str)) = false := by decide) : PE X (.Name y pos) (tB X.K W C (.var i)) := s_varB hN hv hd hcd
theorem vA {i : Nat} {y : Str} {pos : Pos} (hN : X.N[i]? = some y := by rfl) (hv : Vis X.env.scope y := by first | exact .inl rfl | exact .inr (.inl rfl) | exact .inr (.inr rfl)) (hd : (y == ("__debug__" : Str)) = false := by decide) (hcd : (y == ("__classdict__" : Str)) = false := by decide) : PE X (.Name y pos) (tE X.K W C (.var i)) := s_var hN hv hd hcd
theorem vi {p : Prop} (h : p := by first | exact .inl rfl | exact .inr (.inl rfl) | exact .inr (.inr rfl)) : p := h
theorem lo {p : Prop} (h : p := by first | exact .inl rfl | exact .inr rfl) : p := h
theorem bis {as : List Stmt} {a : Stmt} {s : S} {ss : Ss} (hsv : W.sv = false) (h : PS X a (tSt X.K W C s)) (hs : PSs X as (tSs X.K W C ss)) : PSs X (a :: as) (tSs X.K W C (.cons s ss)) := ss_cons (.inl hsv) h hs
end
end Eng
set_option Elab.async false
set_option linter.all false
set_option maxRecDepth 100000
namespace Eng
open PySem PySem.Spec PyProof.Rows L2
def erm : List Nat → Nat → List Nat
  | [], _ => []
  | x :: l, m => match m.testBit x with
    | true => erm l m
    | false => x :: erm l (m ||| 1 <<< x)
theorem erm_eq : ∀ (l : List Nat) (m : Nat) (S : List Nat), (∀ x, m.testBit x = S.elem x) → erm l m = (l.filter fun x => !S.elem x).eraseDups
  | [], m, S, h => by simp [erm]
  | x :: l, m, S, h => by
    unfold erm
    rw [List.filter_cons]
    cases e : S.elem x with
    | true =>
      rw [h x, e]
      simp only [Bool.not_true, Bool.false_eq_true, if_false]
      exact erm_eq l m S h
    | false =>
      rw [h x, e]
      simp only [Bool.not_false, if_true]
      rw [List.eraseDups_cons, erm_eq l (m ||| 1 <<< x) (x :: S) fun y => ?_, List.filter_filter]
      · congr 2
        apply List.filter_congr
        intro y _
        rw [List.elem_cons]
        cases y == x <;> cases S.elem y <;> rfl
      · rw [Nat.testBit_or, h y, List.elem_cons, Nat.one_shiftLeft, Nat.testBit_two_pow, Bool.or_comm]
        congr 1
        by_cases c : y = x
        · subst c; simp
        · rw [decide_eq_false (fun z => c z.symm)]
          simp [c]
theorem grow_m {g : Addr → Option Obj} {as bs : List Addr} (h : erm (as ++ as.flatMap fun a => match g a with
  | some o => He.refsD o
  | none => []) 0 = bs) : He.growD g as = bs := by
  rw [← h, erm_eq _ 0 [] (fun x => by rw [Nat.zero_testBit]; rfl)]
  have e : ∀ l : List Nat, (l.filter fun x => !([] : List Nat).elem x) = l := fun l => List.filter_eq_self.mpr fun _ _ => rfl
  rw [e]
  rfl
end Eng
set_option Elab.async false
set_option linter.all false
set_option maxRecDepth 100000
set_option maxHeartbeats 2000000
namespace Eng
open PySem PySem.Spec PyProof.Rows L2
end Eng
set_option Elab.async false
set_option linter.all false
set_option maxRecDepth 100000
set_option maxHeartbeats 2000000
namespace Eng
open PySem PySem.Spec PyProof.Rows L2
end Eng
set_option Elab.async false
set_option linter.all false
set_option maxRecDepth 100000
set_option maxHeartbeats 2000000
namespace Eng
open PySem PySem.Spec PyProof.Rows L2
end Eng
set_option Elab.async false
set_option linter.all false
set_option maxRecDepth 100000
set_option maxHeartbeats 2000000
namespace Eng
open PySem PySem.Spec PyProof.Rows L2
end Eng
set_option Elab.async false
set_option linter.all false
set_option maxRecDepth 100000
namespace Eng
open PySem
theorem runs_one {M : Model} {Γ : Ctx} {p : Pos} {t : Sem Fin} {fs : List Frame} {s s1 : Shared} {e : End} (h : Runs M Γ p t fs s e s1) : ∀ {e2 : End} {s2 : Shared}, Runs M Γ p t fs s e2 s2 → e = e2 ∧ s1 = s2 := by
  induction h with
  | done => intro e2 s2 k; cases k; exact ⟨rfl, rfl⟩
  | raise => intro e2 s2 k; cases k; exact ⟨rfl, rfl⟩
  | again _ _ ih => intro e2 s2 k; cases k with | again _ k => exact ih k
  | rule _ ih => intro e2 s2 k; cases k with | rule k => exact ih k
  | «at» _ ih => intro e2 s2 k; cases k with | «at» k => exact ih k
  | load a _ ih => intro e2 s2 k; cases k with | load b k => rw [a] at b; cases b; exact ih k
  | update _ _ ih => intro e2 s2 k; cases k with | update _ k => exact ih k
  | loadIfAlive _ ih => intro e2 s2 k; cases k with | loadIfAlive k => exact ih k
  | point _ ih => intro e2 s2 k; cases k with | point k => exact ih k
  | alloc _ ih => intro e2 s2 k; cases k with | alloc k => exact ih k
  | fresh _ ih => intro e2 s2 k; cases k with | fresh k => exact ih k
  | ask _ ih => intro e2 s2 k; cases k with | ask k => exact ih k
  | choose _ _ ih => intro e2 s2 k; cases k with | choose _ k => exact ih k
  | os _ ih => intro e2 s2 k; cases k with | os k => exact ih k
  | handled _ ih => intro e2 s2 k; cases k with | handled k => exact ih k
  | genState a _ ih => intro e2 s2 k; cases k with | genState b k => rw [a] at b; cases b; exact ih k
  | stack _ ih => intro e2 s2 k; cases k with | stack k => exact ih k
  | thread _ ih => intro e2 s2 k; cases k with | thread k => exact ih k
  | newGen _ ih => intro e2 s2 k; cases k with | newGen k => exact ih k
  | call _ _ ih1 ih2 =>
    intro e2 s2 k
    cases k with
    | call a b => obtain ⟨e, rfl⟩ := ih1 a; cases e; exact ih2 b
    | callSusp a => obtain ⟨e, _⟩ := ih1 a; cases e
  | callSusp _ ih1 =>
    intro e2 s2 k
    cases k with
    | call a b => obtain ⟨e, _⟩ := ih1 a; cases e
    | callSusp a => obtain ⟨e, rfl⟩ := ih1 a; cases e; exact ⟨rfl, rfl⟩
  | yield => intro e2 s2 k; cases k; exact ⟨rfl, rfl⟩
  | resumeFresh a _ _ _ ih1 ih2 =>
    intro e2 s2 k
    cases k with
    | resumeFresh b k1 _ k2 => rw [a] at b; cases b; obtain ⟨rfl, rfl⟩ := ih1 k1; exact ih2 k2
    | resumeSuspended b => rw [a] at b; cases b
    | resumeJustStarted b n => exact absurd rfl n
    | resumeRunning b => rw [a] at b; cases b
    | resumeFinished b => rw [a] at b; cases b
  | resumeSuspended a _ _ _ ih1 ih2 =>
    intro e2 s2 k
    cases k with
    | resumeFresh b => rw [a] at b; cases b
    | resumeSuspended b k1 _ k2 => rw [a] at b; cases b; obtain ⟨rfl, rfl⟩ := ih1 k1; exact ih2 k2
    | resumeJustStarted b => rw [a] at b; cases b
    | resumeThrowFresh b => rw [a] at b; cases b
    | resumeRunning b => rw [a] at b; cases b
    | resumeFinished b => rw [a] at b; cases b
  | resumeJustStarted a n _ ih =>
    intro e2 s2 k
    cases k with
    | resumeFresh b => exact absurd rfl n
    | resumeSuspended b => rw [a] at b; cases b
    | resumeJustStarted b _ k => exact ih k
    | resumeRunning b => rw [a] at b; cases b
    | resumeFinished b => rw [a] at b; cases b
  | resumeThrowFresh a _ ih =>
    intro e2 s2 k
    cases k with
    | resumeSuspended b => rw [a] at b; cases b
    | resumeThrowFresh b k => exact ih k
    | resumeRunning b => rw [a] at b; cases b
    | resumeFinished b => rw [a] at b; cases b
  | resumeRunning a _ ih =>
    intro e2 s2 k
    cases k with
    | resumeFresh b => rw [a] at b; cases b
    | resumeSuspended b => rw [a] at b; cases b
    | resumeJustStarted b => rw [a] at b; cases b
    | resumeThrowFresh b => rw [a] at b; cases b
    | resumeRunning b k => exact ih k
    | resumeFinished b => rw [a] at b; cases b
  | resumeFinished a _ ih =>
    intro e2 s2 k
    cases k with
    | resumeFresh b => rw [a] at b; cases b
    | resumeSuspended b => rw [a] at b; cases b
    | resumeJustStarted b => rw [a] at b; cases b
    | resumeThrowFresh b => rw [a] at b; cases b
    | resumeRunning b => rw [a] at b; cases b
    | resumeFinished b k => exact ih k
  | segRet _ _ ih1 ih2 =>
    intro e2 s2 k
    cases k with
    | segRet a b => obtain ⟨e, rfl⟩ := ih1 a; cases e; exact ih2 b
    | segSuspOut _ a => obtain ⟨e, _⟩ := ih1 a; cases e
    | segSuspGen _ a => obtain ⟨e, _⟩ := ih1 a; cases e
  | segGen _ _ ih1 ih2 =>
    intro e2 s2 k
    cases k with
    | segGen a b => obtain ⟨e, rfl⟩ := ih1 a; cases e; exact ih2 b
    | segSuspOut _ a => obtain ⟨e, _⟩ := ih1 a; cases e
    | segSuspGen _ a => obtain ⟨e, _⟩ := ih1 a; cases e
  | segSuspOut c _ ih1 =>
    intro e2 s2 k
    cases k with
    | segRet a b => obtain ⟨e, _⟩ := ih1 a; cases e
    | segGen a b => obtain ⟨e, _⟩ := ih1 a; cases e
    | segSuspOut _ a => obtain ⟨e, rfl⟩ := ih1 a; cases e; exact ⟨rfl, rfl⟩
    | segSuspGen d a => rw [c] at d; cases d
  | segSuspGen c _ _ _ ih1 ih2 =>
    intro e2 s2 k
    cases k with
    | segRet a b => obtain ⟨e, _⟩ := ih1 a; cases e
    | segGen a b => obtain ⟨e, _⟩ := ih1 a; cases e
    | segSuspOut d a => rw [c] at d; cases d
    | segSuspGen d a _ b => rw [c] at d; cases d; obtain ⟨e, rfl⟩ := ih1 a; cases e; exact ih2 b
theorem wakes_one {M : Model} {Γ : Ctx} {p : Pos} {g : Nat} {r : Resume} {s s1 s2 : Shared} {a b : GenResult} (h : Wakes M Γ p g r s a s1) (k : Wakes M Γ p g r s b s2) : a = b ∧ s1 = s2 := by
  unfold Wakes at h k
  split at h
  · exact h.elim
  · rename_i c e
    rw [e] at k
    split at h
    · obtain ⟨e1, t1, q1, _, rfl, rfl⟩ := h
      obtain ⟨e2, t2, q2, _, rfl, rfl⟩ := k
      obtain ⟨rfl, rfl⟩ := runs_one q1 q2
      exact ⟨rfl, rfl⟩
    · rename_i v n
      obtain ⟨rfl, rfl⟩ := h
      dsimp only at k
      split at k
      · rename_i q
        cases q
        exact (n rfl).elim
      · obtain ⟨rfl, rfl⟩ := k
        exact ⟨rfl, rfl⟩
      · rename_i q
        cases q
    · obtain ⟨rfl, rfl⟩ := h
      obtain ⟨rfl, rfl⟩ := k
      exact ⟨rfl, rfl⟩
  · rename_i e
    rw [e] at k
    obtain ⟨e1, t1, q1, _, rfl, rfl⟩ := h
    obtain ⟨e2, t2, q2, _, rfl, rfl⟩ := k
    obtain ⟨rfl, rfl⟩ := runs_one q1 q2
    exact ⟨rfl, rfl⟩
  · rename_i e
    rw [e] at k
    obtain ⟨rfl, rfl⟩ := h
    obtain ⟨rfl, rfl⟩ := k
    exact ⟨rfl, rfl⟩
  · rename_i e
    rw [e] at k
    obtain ⟨rfl, rfl⟩ := h
    obtain ⟨rfl, rfl⟩ := k
    exact ⟨rfl, rfl⟩
theorem wp_both {α : Type} (M : Model) (Γ : Ctx) (t : Sem α) : ∀ (Q Q' : α → Pos → Shared → Prop) (E E' : Value → Pos → Shared → Prop) (p : Pos) (s : Shared), Sem.wp M Γ t Q E p s → Sem.wp M Γ t Q' E' p s →
    Sem.wp M Γ t (fun a p s => Q a p s ∧ Q' a p s) (fun a p s => E a p s ∧ E' a p s) p s := by
  induction t with
  | pure a => intro Q Q' E E' p s h k; exact ⟨h, k⟩
  | raise e => intro Q Q' E E' p s h k; exact ⟨h, k⟩
  | unsupported _ => intro Q Q' E E' p s h k; exact h
  | finish _ => intro Q Q' E E' p s h k; exact h
  | rule _ f ih => intro Q Q' E E' p s h k; exact ih () _ _ _ _ _ _ h k
  | «at» p' f ih => intro Q Q' E E' p s h k; exact ih () _ _ _ _ _ _ h k
  | load a _ f ih => intro Q Q' E E' p s h k; obtain ⟨o, ho, h⟩ := h; obtain ⟨o', ho', k⟩ := k; rw [ho] at ho'; cases ho'; exact ⟨o, ho, ih o _ _ _ _ _ _ h k⟩
  | update a _ g f ih => intro Q Q' E E' p s h k; exact ⟨h.1, ih () _ _ _ _ _ _ h.2 k.2⟩
  | loadIfAlive a f ih => intro Q Q' E E' p s h k; exact ih _ _ _ _ _ _ _ h k
  | point _ f ih => intro Q Q' E E' p s h k; exact ih () _ _ _ _ _ _ h k
  | register _ _ => intro Q Q' E E' p s h k; exact h
  | alloc o f ih => intro Q Q' E E' p s h k; exact ih _ _ _ _ _ _ _ h k
  | fresh f ih => intro Q Q' E E' p s h k; exact ih _ _ _ _ _ _ _ h k
  | ask f ih => intro Q Q' E E' p s h k; exact ih _ _ _ _ _ _ _ h k
  | choose src m f ih => intro Q Q' E E' p s h k; exact ⟨h.1, ih _ _ _ _ _ _ _ h.2 k.2⟩
  | os q _ f ih => intro Q Q' E E' p s h k; exact ih _ _ _ _ _ _ _ h k
  | call c hd _ _ f ih =>
    intro Q Q' E E' p s h k
    obtain ⟨r, s1, hr, h⟩ := h
    obtain ⟨r', s2, kr, k⟩ := k
    obtain ⟨e, rfl⟩ := runs_one hr kr
    cases e
    exact ⟨r, s1, hr, ih r _ _ _ _ _ _ h k⟩
  | handled own f ih => intro Q Q' E E' p s h k; exact ih _ _ _ _ _ _ _ h k
  | genState g f ih => intro Q Q' E E' p s h k; obtain ⟨o, ho, h⟩ := h; obtain ⟨o', ho', k⟩ := k; rw [ho] at ho'; cases ho'; exact ⟨o, ho, ih _ _ _ _ _ _ _ h k⟩
  | newGen c f ih => intro Q Q' E E' p s h k; exact ih _ _ _ _ _ _ _ h k
  | resume g r _ f ih =>
    intro Q Q' E E' p s h k
    obtain ⟨a, s1, hr, h⟩ := h
    obtain ⟨b, s2, kr, k⟩ := k
    obtain ⟨rfl, rfl⟩ := wakes_one hr kr
    exact ⟨a, s1, hr, ih a _ _ _ _ _ _ h k⟩
  | yield _ _ _ _ => intro Q Q' E E' p s h k; exact h
  | stack f ih => intro Q Q' E E' p s h k; exact ih _ _ _ _ _ _ _ h k
  | fork _ _ => intro Q Q' E E' p s h k; exact h
  | thread f ih => intro Q Q' E E' p s h k; exact ih _ _ _ _ _ _ _ h k
  | await _ _ _ _ _ => intro Q Q' E E' p s h k; exact h
/-- a run has one end: what is known of it twice is known together -/
theorem wpAny_both {α : Type} {M : Model} {A : Around} {t : Sem α} {Q Q' : α → Shared → Prop} {E E' : Value → Shared → Prop} {s : Shared} (h : wpAny M A t Q E s) (k : wpAny M A t Q' E' s) : wpAny M A t (fun a s => Q a s ∧ Q' a s) (fun a s => E a s ∧ E' a s) s :=
  fun Γ p hΓ => wp_both M Γ t _ _ _ _ p s (h Γ p hΓ) (k Γ p hΓ)
end Eng
set_option Elab.async false
set_option linter.all false
set_option maxRecDepth 100000
set_option maxHeartbeats 2000000
namespace Eng
open PySem PySem.Spec PyProof.Rows L2
def fd8 (n : Nat) : List Nat := if ((Nat.toDigits 10 n).map Char.toNat).isEmpty = true then [] else List.replicate ((8 - (0 : Int)).toNat - ((Nat.toDigits 10 n).map Char.toNat).length) 48 ++ (Nat.toDigits 10 n).map Char.toNat
def fm8 (n : Nat) : Str := ⟨(List.replicate 0 48 ++ [] ++ [] ++ List.replicate ((8 : Int) - 0 - (fd8 n).length).toNat 48 ++ fd8 n ++ [] ++ List.replicate 0 48).toArray⟩
theorem gives_fmt8 (n : Nat) (t u : Tok) (h : ((n : Nat) : Int).natAbs.log2 < 1920) : _root_.PySem.Gives (Builtin.«int.__format__» ⟨[.int (n : Nat) t, .str "08d" u], []⟩) (.str (fm8 n)) := by
  show _root_.PySem.Gives (do let _k ← typeNameOf (.str "08d" u); _) _
  refine gives_after_typeNameOf (T := "str") (fun s => typeIs_str s _ _) (by decide) fun _ => ?_
  simp only []
  have hp : Builtin.Float.parseFormatSpec (Str.ofString "08d").cps.toList "int" 62 = .ok { fill := 48, align := 61, width := some 8, type := some 100 } := rfl
  have e1 : typeNameOfCut 200 (.int (n : Nat) t) = pure "int" := rfl
  have i1 : Builtin.Int.intOfSelf (.int (n : Nat) t) = pure ((n : Nat) : Int) := rfl
  have c1 : (Value.str (Str.ofString "08d") u == Value.none) = false := rfl
  have c2 : ((Str.ofString "08d").length == 0) = false := rfl
  have c3 : (((List.drop 1 (Str.ofString "08d").cps.toList).any fun x => decide (x ≥ 128)) || decide ((Str.ofString "08d").cps.getD 0 0 ≥ 128) && ![60, 62, 61, 94].contains ((Str.ofString "08d").cps.getD 1 0)) = false := rfl
  have c4 : ((Str.ofString "08d").cps.back? == some 0) = false := rfl
  simp only [e1, i1, c4, Option.getD_some, asStr?, pure_bind, c1, c2, c3, hp, Bool.false_eq_true, if_false]
  refine gives_after_typeNameOf (T := "str") (fun s => typeIs_str s _ _) (by decide) fun _ => ?_
  split
  · show _root_.PySem.Gives (do let r ← Builtin.overDigitLimit? ((n : Nat) : Int); _) _
    rw [_root_.PySem.overDigitLimit_small h]
    exact .of_eq (by kernel_rfl)
  · rename_i q
    exact absurd rfl q
theorem fmt8_eq (n : Nat) : fm8 n = fmt8 (n : Nat) := by
  have e : (toString ((n : Nat) : Int) : String).toList = Nat.toDigits 10 n := by
    show (Nat.repr n).toList = _
    unfold Nat.repr
    simp
  have ne : ((Nat.toDigits 10 n).map Char.toNat).isEmpty = false := by
    rw [List.isEmpty_map]
    cases q : Nat.toDigits 10 n with
    | nil => exact absurd q Nat.toDigits_ne_nil
    | cons _ _ => rfl
  have e8 : ((8 - (0 : Int)).toNat) = 8 := rfl
  have d : fd8 n = List.replicate (8 - (Nat.toDigits 10 n).length) 48 ++ (Nat.toDigits 10 n).map Char.toNat := by
    unfold fd8
    rw [if_neg (by rw [ne]; exact Bool.false_ne_true), e8, List.length_map]
  have l : (fd8 n).length = max 8 (Nat.toDigits 10 n).length := by
    rw [d, List.length_append, List.length_replicate, List.length_map]
    omega
  unfold fm8 fmt8
  rw [e, ← d, l]
  have z : ((8 : Int) - 0 - ((max 8 (Nat.toDigits 10 n).length : Nat) : Int)).toNat = 0 := by omega
  rw [z]
  simp only [List.replicate_zero, List.nil_append, List.append_nil]
theorem fm8_len {n : Nat} (h : n < 10 ^ 8) : (fm8 n).length = 8 := by
  rw [fmt8_eq]
  have e : (toString ((n : Nat) : Int) : String).toList = Nat.toDigits 10 n := by
    show (Nat.repr n).toList = _
    unfold Nat.repr
    simp
  have l : (Nat.toDigits 10 n).length ≤ 8 := (Nat.length_toDigits_le_iff (by omega) (by omega)).mpr h
  show (List.replicate _ _ ++ _).toArray.size = 8
  rw [List.size_toArray, List.length_append, List.length_replicate, List.length_map, e]
  omega
section
variable {X : Cx} {W : WW} {C : Calls}
theorem s_fmt {e : Expr} {ee : E} {k : Nat} {p0 p1 p2 p3 : Pos} (he : PE X e (tE X.K W C ee)) : PE X (.JoinedStr [.FormattedValue e (-1) (some (.JoinedStr [.Constant (.str "08d") k p0] p1)) p2] p3) (tE X.K W C (.fmt ee)) := by
  refine ⟨fun pins s σ H Q I ⟨F, T, st, env, w, eo, p⟩ => wpAny_JoinedStr_one (wpAny_FormattedValue_spec ?_)⟩
  have p : Post X.K W σ F T H (rV X.K) ((evE C env ee st).bnd fun x st => ofO (fmtD x) st) Q := p
  refine thn (he.run pins s σ H _ I ⟨F, T, st, env, w, eo, Post.bnd (R1 := rV X.K) sh_V p⟩) fun v s1 ⟨x, H1, I1, r1, F1, T1, st1, d, x1, w1, rd, p1⟩ => ?_
  obtain ⟨d2, e2, c⟩ := cont_of p1
  cases d with
  | int i =>
    have e2 : (if 0 ≤ i ∧ i < 10 ^ 8 then some (D.str (fmt8 i)) else none) = some d2 := e2
    by_cases b : 0 ≤ i ∧ i < 10 ^ 8
    · rw [if_pos b] at e2
      cases e2
      obtain ⟨n, rfl⟩ : ∃ n : Nat, i = (n : Nat) := ⟨i.toNat, by omega⟩
      have hn : n < 10 ^ 8 := by omega
      cases rd
      obtain ⟨t, rfl⟩ := r1
      refine wpAny_JoinedStr_one (Calls.Constant_str ⟨"08d", _, rfl, ?_⟩)
      have lg : ((n : Nat) : Int).natAbs.log2 < 1920 := by
        rw [Int.natAbs_natCast]
        by_cases z : n = 0
        · subst z
          decide
        · exact (Nat.log2_lt z).mpr (Nat.lt_of_lt_of_le hn (show 10 ^ 8 ≤ 2 ^ 1920 by decide +kernel))
      refine wpAny_formatField_spec (T := "int") (by rfl) (fun s => typeIs_int s _ _) PySem.F.slot_int_format PySem.F.entry_int_format PySem.F.args_int_format_2 (fun u => gives_fmt8 n t u lg) ⟨.str (fm8 n), H1, I1.tok _, ⟨_, rfl⟩, ?_⟩ (by decide) (by rw [fm8_len hn]; decide)
      rw [fmt8_eq]
      exact Cont.flatV w1 c (.str _)
    · rw [if_neg b] at e2
      cases e2
  | _ => cases e2
/-- x.join(xs) of a list -/
theorem s_join {o a : Expr} {eo ea : E} {apos pos : Pos} (ho : PE X o (tE X.K W C eo)) (ha : PE X a (tB X.K W C ea)) (nv : ∀ i, eo ≠ .var i) (hs : starEach [a] X.env = [(false, eval a X.env)]) (hbase : attributeBase o "join" X.env (eval o X.env) = eval o X.env) (hline : (apos.endLine == pos.line) = true) :
    PE X (.Call (.Attribute o "join" apos) [a] [] pos) (tE X.K W C (.me "join" eo (.cons ea .nil))) :=
  impE (pe_join ho ha hs hbase hline) fun σ H Q ⟨F, T, st, env, w, eo', p⟩ => by
    have p : Post X.K W σ F T H (rV X.K) ((bor env eo (evE C env eo) st).bnd fun x st => chkO (isMe "join" x) ((evBs C env (.cons ea .nil) st).bnd fun ds st => ofO (meD "join" x ds) st)) Q := p
    have eb : bor env eo (evE C env eo) st = evE C env eo st := by
      cases eo with
      | var i => exact absurd rfl (nv i)
      | _ => rfl
    rw [eb] at p
    refine ⟨F, T, st, env, w, eo', (Post.bnd (R1 := rV X.K) sh_V p).mono fun x H1 ⟨F1, T1, st1, d, x1, w1, r1, p1⟩ => ?_⟩
    obtain ⟨hm, p1⟩ := chk_ok (a := D.non) (st := st1) p1
    cases d with
    | str z =>
      cases r1
      refine ⟨⟨z, rfl⟩, F1, T1, st1, env, w1, eo'.ext x1, ?_⟩
      have p1 : Post X.K W σ F1 T1 H1 (rV X.K) (((bor env ea (evE C env ea) st1).bnd fun d st => .ok [d] st).bnd fun ds st => ofO (meD "join" (.str z) ds) st) Q := by
        have q : evBs C env (.cons ea .nil) st1 = (bor env ea (evE C env ea) st1).bnd fun d st => .ok [d] st := rfl
        rw [← q]
        exact p1
      rw [Out.bnd_assoc] at p1
      refine (Post.bnd (R1 := rBo X.K) sh_V p1).mono fun y H2 ⟨F2, T2, st2, d, x2, w2, r2, p2⟩ => ?_
      have p2 : Post X.K W σ F2 T2 H2 (rV X.K) (ofO (meD "join" (.str z) [d]) st2) Q := p2
      obtain ⟨d2, e2, c⟩ := cont_of p2
      obtain ⟨xs, e3, e2⟩ := Option.bind_eq_some_iff.mp (show (seqD d).bind _ = some d2 from e2)
      obtain ⟨ys, e4, e2⟩ := Option.bind_eq_some_iff.mp e2
      have e2 : (if (ys.map (·.length)).sum + ys.length * z.length ≤ 16777216 then some (D.str (Txt.join z ys)) else none) = some d2 := e2
      by_cases b : (ys.map (·.length)).sum + ys.length * z.length ≤ 16777216
      · rw [if_pos b] at e2
        cases e2
        obtain ⟨q, vs, rfl, hq, rs⟩ := r2.seq w2 e3
        cases strsD_ok e4
        cases reps_strs rs
        exact ⟨z, q, ys, rfl, rfl, hq, b, c.flatV w2 (.str _)⟩
      · rw [if_neg b] at e2
        cases e2
    | lst _ => exact absurd hm (by simp [isMe])
    | _ => exact absurd hm (by simp [isMe])
end
section
variable {prog : Program} {w : World} {A : Around} {E : Value → Shared → Prop} {s : Shared} {a y b : Str} {t u v k : Tok} {Q : Value → Shared → Prop}
open Builtin.Str in
theorem call_rep1 (hu : u ≠ 0) (hv : v ≠ 0) (huv : u ≠ v) (hy : 1 ≤ y.length) (ne : (y == b) = false) (h1 : a.length + b.length ≤ 16777216) (h2 : (rep1 a y b).length ≤ sizeLine) (q : ∀ t' n, Q (.str (rep1 a y b) t') { s with toks := n }) :
    wpAny (model prog w) A (call (.builtin "str.replace") [.str a t, .str y u, .str b v, .int 1 k]) Q E s := by
  have few := StrLaws.occ_length_le a y 0 a.length 1
  have e0 : (y.length == 0) = false := by
    rw [beq_eq_false_iff_ne]
    omega
  have tl : tooLong (a.length + (occurrences a y 0 a.length 1).length * b.length) = false := by
    have : (occurrences a y 0 a.length 1).length * b.length ≤ 1 * b.length := Nat.mul_le_mul_right _ few
    unfold tooLong sizeLine
    exact decide_eq_false (by omega)
  have g : _root_.PySem.Gives (Builtin.«str.replace» ⟨[.str a t, .str y u, .str b v, .int 1 k], []⟩) (if (occurrences a y 0 a.length 1).isEmpty = true then .val (.str a t) else .str (glued b (partsBetween a (occurrences a y 0 a.length 1) y.length))) := by
    show _root_.PySem.Gives (if ((occurrences a y 0 a.length 1).isEmpty || (y.length == 0 && b.length == 0)) = true then (do rule "str.replace.nothing"; ret (.str a t)) else
      (do let one ← isSame (.str y u) (.str b v)
          if one = true then (do rule "str.replace.old-is-new"; ret (.str a t)) else
          if tooLong (a.length + (occurrences a y 0 a.length 1).length * b.length) = true then unsupported "str.replace:memory" else retStr (glued b (partsBetween a (occurrences a y 0 a.length 1) y.length)))) _
    rw [e0, Bool.false_and, Bool.or_false]
    cases hc : (occurrences a y 0 a.length 1).isEmpty with
    | true => exact .rule (.of_eq rfl)
    | false =>
      rw [if_neg Bool.false_ne_true, if_neg Bool.false_ne_true, isSame_str_other y b u v (by simp [hu, hv]) (by simp [huv]) ne, tl]
      exact .of_eq rfl
  refine call_gives F.slot_str_replace (typeIs_str _ _ _) F.entry_str_replace (F.args_str_replace_4 _ _ _ _) g ?_
  unfold rep1 at q h2
  by_cases hc : (occurrences a y 0 a.length 1).isEmpty = true
  · rw [if_pos hc] at q ⊢
    exact q t s.toks
  · rw [if_neg hc] at q h2 ⊢
    exact ⟨h2, q _ _⟩
end
section
variable {X : Cx} {W : WW} {C : Calls}
/-- the text at a local, by its token -/
def Tkn (X : Cx) (x : Str) (s : Shared) : Prop := ∃ m z u, s.heap.Ns X.env.locals m ∧ m x = some (.str z u) ∧ 1 ≤ u ∧ u < s.toks
def PER (X : Cx) (x : Str) (e : Expr) (t : TE) : Prop := ∀ (pins : List (Addr × Obj)) (s : Shared) (σ : L2.St) (H : Hp) (Q : VK), Tkn X x s → Inv X pins σ H s → t σ H Q → wpAny (model X.prog X.w) X.A (eval e X.env) (EP X pins σ Q) X.xe s
def PSR (X : Cx) (x : Str) (e : Stmt) (t : TS) : Prop := ∀ (pins : List (Addr × Obj)) (s : Shared) (σ : L2.St) (H : Hp) (D : Ends), Tkn X x s → Inv X pins σ H s → t D σ H → wpAny (model X.prog X.w) X.A (exec e X.env) (SP X pins D) X.xe s
def PSsR (X : Cx) (x : Str) (e : List Stmt) (t : TS) : Prop := ∀ (pins : List (Addr × Obj)) (s : Shared) (σ : L2.St) (H : Hp) (D : Ends), Tkn X x s → Inv X pins σ H s → t D σ H → wpAny (model X.prog X.w) X.A (execs e X.env) (SP X pins D) X.xe s
theorem ns_one {h : Heap} {a : Addr} {m m' : Str → Option Value} (x : h.Ns a m) (y : h.Ns a m') : m = m' := by
  obtain ⟨o, es, ep, ho, hd, _, f⟩ := x
  obtain ⟨o', es', ep', ho', hd', _, f'⟩ := y
  rw [ho] at ho'
  cases ho'
  rw [hd] at hd'
  cases hd'
  funext n
  rw [← f n, f' n]
theorem per_rep {i j : Nat} {x v y : Str} {k1 k2 : Nat} {p1 p2 p3 p4 ap pos : Pos} (hi : X.N[i]? = some x) (hj : X.N[j]? = some v) (hx : X.env.scope.names.lookup x = some .local) (hv : X.env.scope.names.lookup v = some .local)
    (hbase : attributeBase (.Name v p1) "replace" X.env (eval (.Name v p1) X.env) = eval (.Name v p1) X.env) (hline : (ap.endLine == pos.line) = true)
    (hst : starEach [.Constant (.str y) k1 p2, .Name x p3, .Constant (.int 1) k2 p4] X.env = [(false, eval (.Constant (.str y) k1 p2) X.env), (false, eval (.Name x p3) X.env), (false, eval (.Constant (.int 1) k2 p4) X.env)])
    (hdx : (x == ("__debug__" : Str)) = false) (hdv : (v == ("__debug__" : Str)) = false) :
    PER X x (.Call (.Attribute (.Name v p1) "replace" ap) [.Constant (.str y) k1 p2, .Name x p3, .Constant (.int 1) k2 p4] [] pos) (tE X.K W C (.rep (.var j) y (.var i))) := by
  intro pins s σ H Q tk I ⟨F, T, st, env, w, eo, p⟩
  have p : Post X.K W σ F T H (rV X.K) ((ofO (getV env j) st).bnd fun a st => (ofO (getV env i) st).bnd fun z st => ofO (repD a y z) st) Q := p
  have look : ∀ {n : Nat} {d : D}, getV env n = some d → env[n]? = some (.val d) := fun {n d} h => by
    unfold getV at h
    split at h
    · rename_i q
      cases h
      exact q
    · cases h
  cases ej : getV env j with
  | none => rw [ej] at p; exact p.elim
  | some da =>
  cases ei : getV env i with
  | none => rw [ej, ei] at p; exact p.elim
  | some db =>
  rw [ej, ei] at p
  have p : Post X.K W σ F T H (rV X.K) (ofO (repD da y db) st) Q := p
  obtain ⟨d2, e2, c⟩ := cont_of p
  cases da with
  | str a =>
    cases db with
    | str b =>
      have e2 : (if 1 ≤ y.length ∧ (y == b) = false ∧ a.length + b.length ≤ 16777216 ∧ (rep1 a y b).length ≤ sizeLine then some (D.str (rep1 a y b)) else none) = some d2 := e2
      by_cases hb : 1 ≤ y.length ∧ (y == b) = false ∧ a.length + b.length ≤ 16777216 ∧ (rep1 a y b).length ≤ sizeLine
      · rw [if_pos hb] at e2
        cases e2
        obtain ⟨va, sa, ra⟩ := eo.at_ j _ (look ej)
        obtain ⟨vb, sb, rb⟩ := eo.at_ i _ (look ei)
        cases ra
        cases rb
        obtain ⟨m, z, u, hn, hm, u1, u2⟩ := tk
        obtain ⟨m', hn', hl⟩ := I.loc
        obtain rfl := ns_one hn hn'
        obtain ⟨ub, rb, lb⟩ := hl i x _ hi sb (.inl hx)
        obtain ⟨ua, ra, la⟩ := hl j v _ hj sa (.inl hv)
        have loc : ∀ {n : Str} {u : Value}, X.env.scope.names.lookup n = some .local → L2.Look X.env s.heap m n u → m n = some u := fun {n u} h l => by
          rcases l with ⟨_, e⟩ | ⟨k, _⟩
          · exact e
          · have k : X.env.scope.names.lookup n = some .cell ∨ X.env.scope.names.lookup n = some .free := k
            rw [h] at k
            rcases k with k | k <;> cases k
        have mb := loc hx lb
        have ma := loc hv la
        obtain ⟨ta, rfl⟩ := ra
        obtain ⟨tb, rfl⟩ := rb
        rw [hm] at mb
        cases mb
        refine wpAny_Call_method_lateS hbase (by rw [hst]; rfl) hline (wpAny_Name (wpAny_loadName_local I.ok.kind hv hn ma ?_) hdv)
        have hbk : backTo pos (starEach [.Constant (.str y) k1 p2, .Name x p3, .Constant (.int 1) k2 p4] X.env) = [(false, eval (.Constant (.str y) k1 p2) X.env), (false, eval (.Name x p3) X.env), (false, eval (.Constant (.int 1) k2 p4) X.env)] := by rw [hst]; rfl
        rw [hbk]
        refine ⟨"str", _, PySem.F.plainAttrs_str, PySem.F.slot_str_replace, PySem.F.type_str_replace, typeIs_str _ _ _, (fun _ e => nomatch e), Calls.callWith_builtin rfl (Calls.evalArgs_plain (Calls.spliced_cons ?_))⟩
        refine Calls.Constant_str (Calls.spliced_cons (wpAny_Name (wpAny_loadName_local I.ok.kind hx (s := { s with toks := s.toks + 1 }) hn hm ?_) hdx))
        refine Calls.spliced_cons (wpAny_Constant_int (Calls.spliced_nil ?_))
        exact call_rep1 (Nat.ne_of_gt (Nat.lt_of_le_of_lt (Nat.zero_le u) u2)) (Nat.ne_of_gt u1) (Nat.ne_of_gt u2) hb.1 hb.2.1 hb.2.2.1 hb.2.2.2 fun t' n => ⟨.str (rep1 a y b), H, I.tok n, ⟨t', rfl⟩, c.flatV w (.str _)⟩
      · rw [if_neg hb] at e2
        cases e2
    | _ => cases e2
  | _ => cases e2
theorem psr_set {i : Nat} {x z : Str} {e : Expr} {ir : Eng.E} {fz : List Nat} {pos pos' : Pos} (hz : W.sv = false ∨ fz = []) (hN : X.N.Nodup) (hi : X.N[i]? = some z) (hx : Loc X.env.scope z) (he : PER X x e (tE X.K W C ir)) (hs : swapsWith e (some (.Name z pos')) pos.line X.env = pure false)
    (hf : X.fn z = true ∨ X.env.scope.names.lookup z = some .local) : PSR X x (.Assign [.Name z pos'] e pos) (tSt X.K W C (.asg fz (.v i) ir)) := by
  intro pins s σ H D tk I h
  exact wpAny_Assign_Name (thn (he pins s σ H _ tk I (asg_rd hz h)) fun u s1 ⟨v, H1, I1, r1, q1⟩ => store_ok I1 hN hi hx r1 (fun s2 I2 => ⟨_, H1, I2, q1⟩) hf) hs
theorem psr_cons {x : Str} {a : Stmt} {as : List Stmt} {si : S} {ss : Ss} (hsv : W.sv = false ∨ ∀ env st env' st', evS C si env st = .ok (.nx env') st' → env' = env) (h : PSR X x a (tSt X.K W C si)) (k : PSs X as (tSs X.K W C ss)) : PSsR X x (a :: as) (tSs X.K W C (.cons si ss)) := by
  intro pins s σ H D tk I q
  have q := ss_rd hsv q
  refine wpAny_execs_cons (thn (h pins s σ H { D with nx := tSs X.K W C ss D } tk I q) fun f s1 z => ?_)
  cases f with
  | next =>
    obtain ⟨σ', H', I', z⟩ := z
    exact k.run pins s1 σ' H' D I' z
  | ret v => exact z
  | brk => exact z
  | cont => exact z
/-- what is walked is a text that was just made -/
def PIS (X : Cx) (iter : Expr) (wi : TI) : Prop := ∀ (pins : List (Addr × Obj)) (s : Shared) (σ : L2.St) (H : Hp) (R : L2.It → Hp → Prop), Inv X pins σ H s → wi σ H R →
  wpAny (model X.prog X.w) X.A (eval iter X.env) (fun v s1 => 1 ≤ s1.toks ∧ ∃ z t H1, v = .str z t ∧ z.cps.all (· < 128) = true ∧ Inv X pins σ H1 s1 ∧ R (Its z) H1) X.xe s
theorem pis_add {e1 e2 : Expr} {n1 n2 x y : Str} {bp : Pos} (h1 : PE X e1 (tE X.K W C (.gl n1 (.str x)))) (h2 : PE X e2 (tE X.K W C (.gl n2 (.str y)))) (l1 : (x.length == 0) = false) (l2 : (y.length == 0) = false) (l3 : (x ++ y).length ≤ sizeLine) (asc : (x ++ y).cps.all (· < 128) = true) :
    PIS X (.BinOp e1 .Add e2 bp) (tIF X.K W C (.seq (.bin .Add (.gl n1 (.str x)) (.gl n2 (.str y))))) := by
  intro pins s σ H R I ⟨F, T, st, env, w, eo, p⟩
  refine wpAny_BinOp (thn (h1.run pins s σ H (fun v H1 => v = .str x ∧ ∃ F1 T1, Ext F T H F1 T1 H1 ∧ WF X.K F1 T1 st H1) I ⟨F, T, st, env, w, eo, fun v F1 T1 H1 x1 w1 r1 => by cases r1; exact ⟨rfl, F1, T1, x1, w1⟩⟩) fun u1 s1 ⟨v1, H1, I1, r1, e1, F1, T1, x1, w1⟩ => ?_)
  subst e1
  refine thn (h2.run pins s1 σ H1 (fun v H2 => v = .str y ∧ ∃ F2 T2, Ext F T H F2 T2 H2 ∧ WF X.K F2 T2 st H2) I1 ⟨F1, T1, st, env, w1, eo.ext x1, fun v F2 T2 H2 x2 w2 r2 => by cases r2; exact ⟨rfl, F2, T2, x1.trans x2, w2⟩⟩) fun u2 s2 ⟨v2, H2, I2, r2, e2, F2, T2, x2, w2⟩ => ?_
  subst e2
  obtain ⟨t1, rfl⟩ := r1
  obtain ⟨t2, rfl⟩ := r2
  refine PySem.P.add_str ?_
  rw [l1, l2]
  refine ⟨l3, by show 1 ≤ s2.toks + 1; omega, x ++ y, _, H2, rfl, asc, I2.tok _, ?_⟩
  have len : x.length + y.length ≤ sizeLine := by
    have : (x ++ y).length = x.length + y.length := Array.size_append
    omega
  have ev : evItV C env (.seq (.bin .Add (.gl n1 (.str x)) (.gl n2 (.str y)))) st = .ok ((x ++ y).cps.toList.map fun c => D.str ⟨#[c]⟩) st := by
    show (ofO (if x.length + y.length ≤ sizeLine then some (D.str (x ++ y)) else none) st).bnd (fun x st => ofO (itemsD x) st) = _
    rw [if_pos len, ofO_some, Out.bnd_ok]
    show ofO (if (x ++ y).length ≤ sizeLine then some ((x ++ y).cps.toList.map fun c => D.str ⟨#[c]⟩) else none) st = _
    rw [if_pos l3]
    rfl
  have p : Post X.K W σ F T H (rItF X.K) (evItV C env (.seq (.bin .Add (.gl n1 (.str x)) (.gl n2 (.str y)))) st) R := p
  rw [ev] at p
  refine p (Its (x ++ y)) F2 T2 H2 x2 w2 ⟨gives_str _, ?_⟩
  rw [List.length_map, Array.length_toList]
  exact l3
theorem ps_forT {k : Nat} {x : Str} {iter : Expr} {body : List Stmt} {wi : TI} {tb : TS} {sp pos : Pos} (hp : PassesOwn (model X.prog X.w) X.A X.env X.xe) (hc : X.calm = true) (hN : X.N.Nodup) (hk : X.N[k]? = some x) (hx : X.env.scope.names.lookup x = some .local) (hit : PIS X iter wi) (hb : PSsR X x body tb)
    (hs : ∀ x, foldedSetIterable iter X.env x = pure x) : PS X (.For (.Name x sp) iter body [] pos) (tFor wi (gName k) tb) := by
  refine ⟨fun pins s σ H D I h => wpAny_For (wpAny_mono (hit pins s σ H _ I h) (fun v s1 q => ?_) fun _ _ e => e) hs⟩
  obtain ⟨one, z, t, H1, rfl, asc, I1, V, ⟨m0, v0⟩, turn⟩ := q
  refine wpAny_pyIter_ascii asc ?_
  obtain ⟨it, eit⟩ : ∃ it, it = s1.heap.objs.size := ⟨_, rfl⟩
  have Tn := turn_str (P := X.prog) (w := X.w) (K := X.K) (tg := .Name x sp) it z t "str_ascii_iterator" (.inl rfl)
  have f0 : FpOk X pins H1 it := I1.fpOk (Nat.le_of_eq eit.symm) (I1.hok.fresh (Nat.le_of_eq eit.symm))
  rw [← eit]
  refine codeAny_forLoop_any (fun n s' => 1 ≤ s'.toks ∧ ∃ i τ J, Inv X pins τ J s' ∧ s'.heap.IsStrIter it "str_ascii_iterator" z t i ∧ J it = none ∧ V i n τ J) (fun n s3 hq => ?_) m0 ⟨one, 0, σ, H1, I1.kept (t' := s1.toks) fun b o e => Heap.get?_push_of_some _ e, ⟨_, by rw [eit]; exact Heap.get?_push_size _ rfl, rfl, rfl⟩, f0.1, v0⟩
  obtain ⟨t3, i, σ3, H3, I3, st3, n3, v3⟩ := hq
  have all1 : ∀ {J : Hp}, J it = none → ∀ b ∈ [it], FpOk X pins J b := fun hn b hb => by
    rw [List.mem_singleton.mp hb]
    exact ⟨hn, f0.2⟩
  rcases turn i n σ3 H3 v3 with ⟨stop, fin⟩ | ⟨go, N, nxt, step⟩
  · refine wpAny_passesOwn hp (thn (Tn.done X rfl rfl rfl hc i pins s3 σ3 H3 X.xe I3 (all1 n3) st3 stop) fun r s4 q => ?_)
    obtain ⟨rfl, I4⟩ := q
    exact wpAny_execs_nil ⟨σ3, H3, I4, fin⟩
  · obtain ⟨c, hcx⟩ : ∃ c, z.cps[i]? = some c := ⟨_, Array.getElem?_eq_getElem go⟩
    refine wpAny_passesOwn hp (wpAny_mono (wpAny_both (Tn.item X rfl rfl rfl hc i pins s3 σ3 H3 X.xe I3 (all1 n3) st3 go) (wpAny_pyNext_ascii_item (Q := fun r s4 => r = some (.str ⟨#[c]⟩ s3.toks) ∧ s4.toks = s3.toks + 1) (E := X.xe) st3 hcx fun h' _ _ => ⟨rfl, rfl⟩)) (fun r s4 q => ?_) fun _ _ e => e.1)
    obtain ⟨⟨u, rfl, h4⟩, hr, t4⟩ := q
    cases hr
    have same : wpAny (model X.prog X.w) X.A (letOwnedTupleGo (.Name x sp) (.ref it) (.str ⟨#[c]⟩ s3.toks)) (fun _ s5 => s5 = s4) X.xe s4 := wpAny_pure rfl
    refine wpAny_passesOwn hp (wpAny_mono (wpAny_both h4 same) (fun _ s5 q => ?_) fun _ _ e => e.1)
    obtain ⟨⟨y, H5, I5, r5, y5, st5, n5⟩, rfl⟩ := q
    have I6 := I5.pinned (all1 (n5 it (by simp))) (Tn.obj _ _ st5)
    obtain ⟨m5, hn5, _⟩ := I6.loc
    have kd : (X.env.scope.kind == .class || (X.env.scope.kind == .module && X.env.locals != X.env.globals)) = false := by rw [I6.ok.kind]; rfl
    have raw : wpAny (model X.prog X.w) X.A (assign (.Name x sp) X.env (.str ⟨#[c]⟩ s3.toks)) (fun _ s6 => (∃ m, s6.heap.Ns X.env.locals m ∧ m x = some (.str ⟨#[c]⟩ s3.toks)) ∧ s6.toks = s5.toks + 1) X.xe s5 :=
      wpAny_assign_Name (wpAny_storeName_local hx hn5 (fun h' hn' _ => ⟨⟨_, hn', by simp⟩, rfl⟩) kd)
    refine wpAny_passesOwn hp (wpAny_mono (wpAny_both ((pg_name hN hk (.inl hx) (.inr hx)).run _ s5 σ3 H5 y _ _ I6 r5 (step y H5 y5)) raw) (fun _ s6 q => ?_) fun _ _ e => e.1)
    obtain ⟨⟨σ7, H7, I7, q7⟩, ⟨m7, hn7, hm7⟩, t7⟩ := q
    have t6 : s3.toks < s6.toks := by omega
    refine wpAny_passesOwn hp (wpAny_mono (wpAny_toks_of (n := 1) (by omega) (hb _ s6 σ7 H7 _ ⟨m7, _, _, hn7, hm7, t3, t6⟩ I7 q7)) (fun f s8 q => ?_) fun _ _ e => e.2)
    obtain ⟨t8, q8⟩ := q
    have again : ∀ {τ : L2.St} {J : Hp}, Inv X (pins ++ pinsAt [it] s5.heap) τ J s8 → N τ J → ∃ m, m < n ∧ 1 ≤ s8.toks ∧ ∃ i τ J, Inv X pins τ J s8 ∧ s8.heap.IsStrIter it "str_ascii_iterator" z t i ∧ J it = none ∧ V i m τ J := fun {τ J} I9 n9 => by
      obtain ⟨m', lt, v9⟩ := nxt τ J n9
      have pin : ∀ b ∈ [it], ∀ o, s5.heap.get? b = some o → s8.heap.get? b = some o ∧ J b = none := fun b hb o e =>
        have q := I9.pin (b, o) (List.mem_append_right _ (List.mem_append_right _ (mem_pinsAt hb e)))
        ⟨q.1, q.2.1⟩
      obtain ⟨o, e, _⟩ := Tn.obj _ _ st5 it (by simp)
      exact ⟨m', lt, t8, i + 1, τ, J, I9.unpinned, Tn.keep _ _ _ st5 fun b hb o e => (pin b hb o e).1, (pin it (by simp) o e).2, v9⟩
    cases f with
    | next => obtain ⟨τ, J, I9, n9⟩ := q8; exact again I9 n9
    | cont => obtain ⟨τ, J, I9, n9⟩ := q8; exact again I9 n9
    | brk => obtain ⟨τ, J, I9, n9⟩ := q8; exact ⟨τ, J, I9.unpinned, n9⟩
    | ret v => obtain ⟨v9, τ, J, I9, r9, n9⟩ := q8; exact ⟨v9, τ, J, I9.unpinned, r9, n9⟩
theorem ss_forR {k : Nat} {x : Str} {iter : Expr} {body : List Stmt} {it : It} {ib : Ss} {fz : List Nat} {sp pos : Pos} (hz : W.sv = false) (hp : PassesOwn (model X.prog X.w) X.A X.env X.xe) (hc : X.calm = true) (hN : X.N.Nodup) (hk : X.N[k]? = some x) (hx : X.env.scope.names.lookup x = some .local)
    (hit : PIS X iter (tIF X.K W C it)) (hb : PSsR X x body (tSs X.K W C ib)) (hs : ∀ x, foldedSetIterable iter X.env x = pure x) : PS X (.For (.Name x sp) iter body [] pos) (tSt X.K W C (.for_ fz (.v k) it ib)) :=
  impS (ps_forT hp hc hN hk hx hit hb hs) (for_rd hz)
end
end Eng
set_option Elab.async false
set_option linter.all false
set_option maxRecDepth 100000
set_option maxHeartbeats 2000000
namespace Eng
open PySem PySem.Spec PyProof.Rows L2
theorem nd_dupsS : ∀ (n : Nat) (l : List Str), l.length ≤ n → l.eraseDups.Nodup
  | _, [], _ => by simp
  | 0, _ :: _, h => by simp at h
  | n + 1, a :: l, h => by
    rw [List.eraseDups_cons]
    refine List.nodup_cons.mpr ⟨fun m => ?_, nd_dupsS n _ (Nat.le_trans (List.length_filter_le _ _) (by simpa using h))⟩
    have := (List.mem_filter.mp (List.mem_eraseDups.mp m)).2
    simp at this
def SetMO (w : World) (a : Addr) (ks : List Key) : HO := .ext fun h => SetM w h a ks
theorem setMO_new {P : Program} {w : World} {H : Hp} {h : Heap} {a : Addr} {ks : List Key} (R : SetM w h a ks) : ObjOk P w H h a (SetMO w a ks) := by
  have ⟨o, _, _, _, ho, _⟩ := R
  exact ⟨R, ⟨o, ho⟩, fun h1 h2 p k => SetM.at p k⟩
theorem sortS_same {xs ys : List Str} (h : xs.Perm ys) : sortS xs = sortS ys := by
  unfold sortS
  have tr : ∀ a b c : Str, decide (a.cps.toList ≤ b.cps.toList) = true → decide (b.cps.toList ≤ c.cps.toList) = true → decide (a.cps.toList ≤ c.cps.toList) = true := fun a b c h k => decide_eq_true (List.le_trans (of_decide_eq_true h) (of_decide_eq_true k))
  have to : ∀ a b : Str, (decide (a.cps.toList ≤ b.cps.toList) || decide (b.cps.toList ≤ a.cps.toList)) = true := fun a b => by
    rcases List.le_total a.cps.toList b.cps.toList with h | h <;> simp [h]
  have pm := (List.mergeSort_perm xs fun x y => decide (x.cps.toList ≤ y.cps.toList)).trans (h.trans (List.mergeSort_perm ys fun x y => decide (x.cps.toList ≤ y.cps.toList)).symm)
  refine List.Perm.eq_of_pairwise (le := fun a b : Str => decide (a.cps.toList ≤ b.cps.toList) = true) (fun a b _ _ h k => ?_) (List.pairwise_mergeSort tr to _) (List.pairwise_mergeSort tr to _) pm
  have e := List.le_antisymm (of_decide_eq_true h) (of_decide_eq_true k)
  cases a
  cases b
  exact congrArg _ (Array.toList_inj.mp e)
theorem each_strs : ∀ {out : List Value} {ys : List Str}, PySem.W.EachIs (fun v (x : Str) => ∃ t, v = Value.str x t) out ys → Vals (ys.map V.str) out
  | _, _, .nil => .nil
  | _, _, .cons h t => .cons h (each_strs t)
section
variable {X : Cx} {W : WW} {C : Calls}
theorem cr_setM (hc : X.calm = true) : CallR X (.type "set") (fun vs H Q => ∃ (l : Addr) (ks : List Key), vs = [V.ref l] ∧ SqL X.K H l (ks.map kV) ∧ ks.length < 4000 ∧ ∀ p, H p = none → Q (.ref p) (upd H p (SetMO X.w p ks))) := by
  intro pins s σ H vs us Q I r h
  obtain ⟨l, ks, rfl, hq, few, q⟩ := h
  rw [Vals.ref1 r]
  obtain ⟨its, rv, pl, hz⟩ := I.list hq
  have hl := rv.length
  rw [List.length_map] at hl
  refine setM_of_list (I.ok.hd hc) pl.isList (by rw [List.size_toArray, ← hl]) (fun i v e => ?_) (by unfold scanBound; omega) fun h1 tk R k => ⟨.ref _, _, I.laid (t' := tk) k (Nat.le_refl _) (setMO_new R), rfl, q _ (I.hok.fresh (Nat.le_refl _))⟩
  rw [List.getElem?_toArray] at e
  have lt : i < ks.length := by rw [hl]; exact (List.getElem?_eq_some_iff.mp e).1
  have e1 : (ks.map kV)[i]? = some (kV ks[i]) := by rw [List.getElem?_map, List.getElem?_eq_getElem lt]; rfl
  obtain ⟨u, eu, ru⟩ := rv.get e1
  rw [e] at eu
  cases eu
  exact ⟨_, List.getElem?_eq_getElem lt, ru⟩
theorem cr_sortedM (hc : X.calm = true) (hu : X.A.units + 64 < cLine) : CallR X (.builtin "sorted") (fun vs H Q => ∃ (a : Addr) (xs : List Str), vs = [V.ref a] ∧ H a = some (SetMO X.w a (xs.map .inr)) ∧ xs.length < 4000 ∧
    ∀ (ys : List Str) (p : Addr), ys.Nodup → (∀ x, x ∈ ys ↔ x ∈ xs) → H p = none → Q (.ref p) (upd H p (.lst ((sortS ys).map V.str)))) := by
  intro pins s σ H vs us Q I r h
  obtain ⟨a, xs, rfl, ha, few, q⟩ := h
  have R : SetM X.w s.heap a (xs.map .inr) := (I.hok a _ ha).1
  rw [Vals.ref1 r]
  refine sorted_setM R (I.ok.hd hc) hu few fun s1 p out c ys k g o hp hg ev nd mm => ?_
  have hn : H p = none := I.hok.fresh hp
  have rv : Vals ((sortS ys).map V.str) out := each_strs ev
  have few2 : ys.length ≤ xs.length := by
    have := nodup_sub (l := ys.map (Sum.inr : Str → Key)) (m := xs.map .inr) (by
      rw [List.nodup_iff_pairwise_ne, List.pairwise_map]
      exact (List.nodup_iff_pairwise_ne.mp nd).imp fun h e => h (Sum.inr.inj e)) fun x hx => by
        obtain ⟨y, hy, rfl⟩ := List.mem_map.mp hx
        exact List.mem_map.mpr ⟨y, (mm y).mp hy, rfl⟩
    rw [List.length_map, List.length_map] at this
    exact this
  have ln : ((sortS ys).map V.str).length ≤ sizeLine := by
    have l : (sortS ys).length = ys.length := (List.mergeSort_perm ys _).length_eq
    rw [List.length_map, l, sizeLine_eq]
    omega
  have J : Inv X pins σ (upd H p (.lst ((sortS ys).map V.str))) { s with heap := s1.heap, gens := s1.gens, drawn := s1.drawn, toks := s1.toks } :=
    I.call (ch := []) (Un.laid k hp hn) (I.hok.laid k hp ⟨ln, out, c, rv, hg⟩) (by rw [g]; exact I.bare) fun _ z => nomatch z
  have e : s1 = { s with heap := s1.heap, gens := s1.gens, drawn := s1.drawn, toks := s1.toks } := by
    cases s1
    cases s
    cases o
    rfl
  rw [e]
  exact ⟨.ref p, _, J, rfl, q ys p nd mm hn⟩
theorem s_sst {a : Expr} {ea : E} {p1 p2 p3 p4 : Pos} (hc : X.calm = true) (hu : X.A.units + 64 < cLine) (hg : Gl X "sorted") (hm : X.mg "sorted" = none) (hg2 : Gl X "set") (hm2 : X.mg "set" = none) (ha : PE X a (tB X.K W C ea)) (ok : okA a = true) :
    PE X (.Call (.Name "sorted" p1) [.Call (.Name "set" p2) [a] [] p3] [] p4) (tDr X.K W C (.sst ea)) :=
  impE (pe_callB (cr_sortedM hc hu) hg hm boot_srt (pa_cons (pe_callTy (cr_setM hc) hg2 hm2 boot_set (pa_cons ha pa_nil (okA_star ok)) (by decide) (by decide) (okA_star ok) rfl) pa_nil rfl) (by decide) (by decide) rfl rfl) fun σ H Q ⟨F, T, st, env, w, eo, p⟩ => by
    have p : Post X.K W σ F T H (rD X.K) ((bor env ea (evE C env ea) st).bnd fun x st => ofO ((lstD x).bind sstD) st) Q := p
    refine ⟨F, T, st, env, w, eo, (Post.bnd (R1 := rBo X.K) sh_D p).mono fun x H1 ⟨F1, T1, st1, d, x1, w1, r1, p1⟩ => ?_⟩
    obtain ⟨d2, e, c⟩ := cont_of p1
    obtain ⟨ds, e1, e2⟩ := Option.bind_eq_some_iff.mp e
    obtain ⟨xs, e3, e4⟩ := Option.bind_eq_some_iff.mp (show (strsD ds).bind (fun xs => if xs.length < 4000 then some (D.lst ((sortS xs.eraseDups).map .str)) else none) = some d2 from e2)
    split at e4
    · rename_i few
      cases e4
      cases d with
      | lst ds' =>
        cases e1
        obtain ⟨l, vs, rfl, hl, rs⟩ := Bor.lst w1 r1
        cases strsD_ok e3
        have ev : vs = (xs.map (Sum.inr : Str → Key)).map kV := by
          rw [reps_strs rs, List.map_map]
          rfl
        refine ⟨l, xs.map .inr, rfl, by rw [← ev]; exact .of hl, by rw [List.length_map]; exact few, fun q hq => ?_⟩
        refine ⟨q, xs, rfl, upd_same, few, fun ys p nd mm hp => ?_⟩
        have pm : ys.Perm xs.eraseDups := (List.perm_ext_iff_of_nodup nd (nd_dupsS _ xs (Nat.le_refl _))).mpr fun x => (mm x).trans List.mem_eraseDups.symm
        rw [sortS_same pm]
        have x2 : Ext F1 T1 H1 F1 T1 (upd H1 q (SetMO X.w q (xs.map .inr))) := Ext.newO hq
        have w2 := w1.newO (o := SetMO X.w q (xs.map .inr)) hq
        exact c _ F1 T1 _ (x2.trans (Ext.newO hp)) (w2.newO hp) (rD_c rfl ⟨p, rfl, ⟨_, upd_same, of_strs _⟩, (w2.free hp).1, (w2.free hp).2, x2.none _ hp⟩)
      | _ => cases e1
    · cases e4
end
end Eng
set_option Elab.async false
set_option linter.all false
set_option maxRecDepth 100000
set_option maxHeartbeats 0
namespace Eng
open PySem PySem.Spec PyProof.Rows L2
abbrev N0 : List Str := ["figures", "total", "rest", "place", "figure"]
def ir0 : Ss := (.cons (.asg [] (.v 1) (.bi "sum" (.cons (.lc (.bin .Mult (.bin .Add (.var 3) (.c (.int 2))) (.bi "int" (.cons (.var 4) .nil))) (.t (.cons (.v 3) (.cons (.v 4) .nil))) (.enum (.rev (.var 0))) .no [3,4]) .nil))) (.cons (.asg [] (.v 2) (.bin .Mod (.neg (.var 1)) (.gl "PRIME" (.int 11)))) (.cons (.ret [] (.ife (.cmp .Eq (.var 2) (.c (.int 10))) (.gl "LAST" (.str "x")) (.bi "str" (.cons (.var 2) .nil)))) .nil)))
abbrev N1 : List Str := ["number", "figures"]
def ir1 : Ss := (.cons (.asg [] (.v 1) (.fmt (.var 0))) (.cons (.ret [] (.bin .Add (.var 1) (.call 0 (.cons (.var 1) .nil)))) .nil))
abbrev N2 : List Str := ["value", "sign"]
def ir2 : Ss := (.cons (.ifs (.or (.cons (.not (.isi (.var 0) ["str"])) (.cons (.cmp .NotEq (.bi "len" (.cons (.var 0) .nil)) (.c (.int 9))) (.cons (.not (.bi "all" (.cons (.lc (.cmp .In (.var 1) (.gl "FIGURES" (.str "0123456789"))) (.v 1) (.seq (.sl (.var 0) .no (.so (.neg (.c (.int 1)))))) .no [1]) .nil))) .nil)))) (.cons (.ret [] (.c (.bl false))) .nil) .nil) (.cons (.ret [] (.cmp .Eq (.ix (.var 0) (.neg (.c (.int 1)))) (.call 0 (.cons (.sl (.var 0) .no (.so (.neg (.c (.int 1))))) .nil)))) .nil))
abbrev N3 : List Str := ["value"]
def ir3 : Ss := (.cons (.ret [] (.ife (.call 2 (.cons (.var 0) .nil)) (.bi "int" (.cons (.sl (.var 0) .no (.so (.neg (.c (.int 1))))) .nil)) (.c .non))) .nil)
abbrev N4 : List Str := ["value", "found", "sign", "text"]
def ir4 : Ss := (.cons (.own 1 (.lst .nil)) (.cons (.for_ [] (.v 2) (.seq (.bin .Add (.gl "FIGURES" (.str "0123456789")) (.gl "LAST" (.str "x")))) (.cons (.asg [] (.v 3) (.rep (.var 0) "?" (.var 2))) (.cons (.ifs (.call 2 (.cons (.var 3) .nil)) (.cons (.app [] 1 (.var 3)) .nil) .nil) .nil))) (.cons (.ret [] (.ife (.cmp .Eq (.bi "len" (.cons (.var 1) .nil)) (.c (.int 1))) (.ix (.var 1) (.c (.int 0))) (.c .non))) .nil)))
abbrev N5 : List Str := ["value", "found", "place", "sign", "text"]
def ir5 : Ss := (.cons (.own 1 (.dnew)) (.cons (.for_ [] (.v 2) (.rng (.cons (.c (.int 9)) .nil)) (.cons (.for_ [] (.v 3) (.seq (.bin .Add (.gl "FIGURES" (.str "0123456789")) (.gl "LAST" (.str "x")))) (.cons (.setI [] 1 (.bin .Add (.bin .Add (.sl (.var 0) .no (.so (.var 2))) (.var 3)) (.sl (.var 0) (.so (.bin .Add (.var 2) (.c (.int 1)))) .no)) (.c (.bl true))) .nil)) .nil)) (.cons (.for_ [] (.v 2) (.rng (.cons (.c (.int 8)) .nil)) (.cons (.setI [] 1 (.bin .Add (.bin .Add (.bin .Add (.sl (.var 0) .no (.so (.var 2))) (.ix (.var 0) (.bin .Add (.var 2) (.c (.int 1))))) (.ix (.var 0) (.var 2))) (.sl (.var 0) (.so (.bin .Add (.var 2) (.c (.int 2)))) .no)) (.c (.bl true))) .nil)) (.cons (.lck 1) (.cons (.ret [] (.bi "tuple" (.cons (.bi "sorted" (.cons (.lc (.var 4) (.v 4) (.dk (.var 1)) (.so (.and (.cons (.call 2 (.cons (.var 4) .nil)) (.cons (.cmp .NotEq (.var 4) (.var 0)) .nil)))) [4]) .nil)) .nil))) .nil)))))
abbrev N6 : List Str := ["row", "many", "found", "cell"]
def ir6 : Ss := (.cons (.ifs (.cmp .Gt (.ix (.var 0) (.c (.int 3))) (.c (.int 0))) (.cons (.asg [] (.v 2) (.bin .Mod (.bi "int" (.cons (.ix (.var 0) (.c (.int 3))) .nil)) (.var 1))) (.cons (.setI [] 0 (.c (.int 3)) (.bin .FloorDiv (.ix (.var 0) (.c (.int 3))) (.var 1))) (.cons (.ret [] (.var 2)) .nil))) .nil) (.cons (.setI [] 0 (.c (.int 1)) (.bin .Add (.ix (.var 0) (.c (.int 1))) (.c (.int 1)))) (.cons (.ifs (.cmp .Gt (.ix (.var 0) (.c (.int 1))) (.bi "len" (.cons (.ix (.var 0) (.c (.int 0))) .nil))) (.cons (.setI [] 0 (.c (.int 2)) (.bin .Mod (.bi "int" (.cons (.bin .Add (.bin .Mult (.ix (.var 0) (.c (.int 2))) (.c (.int 48271))) (.c (.int 11))) .nil)) (.c (.int 2147483647)))) (.cons (.ret [] (.bin .Mod (.bi "int" (.cons (.bin .FloorDiv (.ix (.var 0) (.c (.int 2))) (.c (.int 7))) .nil)) (.var 1))) .nil)) .nil) (.cons (.asg [] (.v 3) (.ix (.ix (.var 0) (.c (.int 0))) (.bin .Sub (.ix (.var 0) (.c (.int 1))) (.c (.int 1))))) (.cons (.setI [] 0 (.c (.int 2)) (.bin .Mod (.bi "int" (.cons (.bin .Add (.bin .Add (.bin .Mult (.ix (.var 0) (.c (.int 2))) (.c (.int 48271))) (.var 3)) (.c (.int 11))) .nil)) (.c (.int 2147483647)))) (.cons (.ifs (.cmp .GtE (.var 3) (.bin .Pow (.c (.int 10)) (.c (.int 18)))) (.cons (.setI [] 0 (.c (.int 3)) (.bin .FloorDiv (.var 3) (.var 1))) .nil) .nil) (.cons (.ret [] (.bin .Mod (.bi "int" (.cons (.var 3) .nil)) (.var 1))) .nil)))))))
abbrev N7 : List Str := ["row", "kinds"]
def ir7 : Ss := (.cons (.ret [] (.ix (.var 1) (.call 6 (.cons (.var 0) (.cons (.bi "len" (.cons (.var 1) .nil)) .nil))))) .nil)
abbrev N8 : List Str := ["found", "due", "k"]
def ir8 : Ss := (.cons (.ifs (.isi (.var 1) ["tuple","list"]) (.cons (.ifs (.or (.cons (.not (.isi (.var 0) ["tuple","list"])) (.cons (.cmp .NotEq (.isi (.var 0) ["list"]) (.isi (.var 1) ["list"])) .nil))) (.cons (.ret [] (.c (.bl false))) .nil) .nil) (.cons (.ifs (.cmp .NotEq (.bi "len" (.cons (.var 0) .nil)) (.bi "len" (.cons (.var 1) .nil))) (.cons (.ret [] (.c (.bl false))) .nil) .nil) (.cons (.ret [] (.cmp .Eq (.lc (.var 2) (.v 2) (.rng (.cons (.bi "len" (.cons (.var 1) .nil)) .nil)) (.so (.not (.call 8 (.cons (.ix (.var 0) (.var 2)) (.cons (.ix (.var 1) (.var 2)) .nil))))) [2]) (.lst .nil))) .nil))) .nil) (.cons (.ifs (.or (.cons (.cmp .Is (.var 1) (.c .non)) (.cons (.isi (.var 1) ["str"]) .nil))) (.cons (.ret [] (.and (.cons (.cmp .Eq (.var 0) (.var 1)) (.cons (.cmp .Eq (.isi (.var 0) ["str"]) (.isi (.var 1) ["str"])) .nil)))) .nil) .nil) (.cons (.ret [] (.and (.cons (.isi (.var 0) ["int"]) (.cons (.cmp .Eq (.isi (.var 0) ["bool"]) (.isi (.var 1) ["bool"])) (.cons (.cmp .Eq (.var 0) (.var 1)) .nil))))) .nil)))
abbrev N9 : List Str := ["figures", "total", "place", "rest", "one"]
def ir9 : Ss := (.cons (.asg [] (.v 1) (.c (.int 0))) (.cons (.for_ [] (.v 2) (.rng (.cons (.bi "len" (.cons (.var 0) .nil)) .nil)) (.cons (.asg [] (.v 1) (.bin .Add (.var 1) (.bin .Mult (.bin .Sub (.bin .Add (.bi "len" (.cons (.var 0) .nil)) (.c (.int 1))) (.var 2)) (.bi "int" (.cons (.ix (.var 0) (.var 2)) .nil))))) .nil)) (.cons (.asg [] (.v 3) (.ix (.lc (.var 4) (.v 4) (.rng (.cons (.c (.int 11)) .nil)) (.so (.cmp .Eq (.bin .Mod (.bi "int" (.cons (.bin .Add (.var 1) (.var 4)) .nil)) (.c (.int 11))) (.c (.int 0)))) [4]) (.c (.int 0)))) (.cons (.ret [] (.ix (.c (.str "0123456789x")) (.var 3))) .nil))))
abbrev N10 : List Str := ["text", "sign"]
def ir10 : Ss := (.cons (.ifs (.or (.cons (.cmp .NotEq (.bi "len" (.cons (.var 0) .nil)) (.c (.int 9))) (.cons (.cmp .NotEq (.lc (.var 1) (.v 1) (.seq (.sl (.var 0) .no (.so (.c (.int 8))))) (.so (.cmp .NotIn (.var 1) (.c (.str "0123456789")))) [1]) (.lst .nil)) .nil))) (.cons (.ret [] (.c (.bl false))) .nil) .nil) (.cons (.ret [] (.cmp .Eq (.ix (.var 0) (.c (.int 8))) (.call 9 (.cons (.sl (.var 0) .no (.so (.c (.int 8)))) .nil)))) .nil))
abbrev N11 : List Str := ["script", "row", "number", "text", "some", "place", "sign", "wrong", "turned", "drawn", "hidden", "fits", "near", "at", "value", "one", "k"]
def ir11 : Ss := (.cons (.obj 1 (.lst (.cons (.var 0) (.cons (.c (.int 0)) (.cons (.c (.int 41)) (.cons (.c (.int 0)) .nil)))))) (.cons (.asg [] (.v 2) (.call 7 (.cons (.var 1) (.cons (.lst (.cons (.call 6 (.cons (.var 1) (.cons (.bin .Pow (.c (.int 10)) (.c (.int 8))) .nil))) (.cons (.call 6 (.cons (.var 1) (.cons (.c (.int 1000)) .nil))) (.cons (.c (.int 0)) (.cons (.c (.int 99999999)) .nil))))) .nil)))) (.cons (.asg [] (.v 3) (.bin .Add (.bin .Mult (.c (.str "0")) (.bin .Sub (.c (.int 8)) (.bi "len" (.cons (.bi "str" (.cons (.var 2) .nil)) .nil)))) (.bi "str" (.cons (.var 2) .nil)))) (.cons (.asg [] (.v 3) (.bin .Add (.var 3) (.call 9 (.cons (.var 3) .nil)))) (.cons (.ifs (.or (.cons (.cmp .NotEq (.call 1 (.cons (.var 2) .nil)) (.var 3)) (.cons (.cmp .NotEq (.call 0 (.cons (.sl (.var 3) .no (.so (.c (.int 8)))) .nil)) (.ix (.var 3) (.c (.int 8)))) (.cons (.cmp .IsNot (.call 2 (.cons (.var 3) .nil)) (.c (.bl true))) (.cons (.not (.call 8 (.cons (.call 3 (.cons (.var 3) .nil)) (.cons (.var 2) .nil)))) .nil))))) (.cons (.ret [] (.c (.bl false))) .nil) .nil) (.cons (.asg [] (.v 4) (.me "join" (.c (.str "")) (.cons (.lc (.call 7 (.cons (.var 1) (.cons (.c (.str "0123456789")) .nil))) (.v 16) (.rng (.cons (.call 6 (.cons (.var 1) (.cons (.c (.int 12)) .nil))) .nil)) .no [16]) .nil))) (.cons (.ifs (.cmp .NotEq (.call 0 (.cons (.var 4) .nil)) (.call 9 (.cons (.var 4) .nil))) (.cons (.ret [] (.c (.bl false))) .nil) .nil) (.cons (.asg [] (.t (.cons (.v 5) (.cons (.v 6) .nil))) (.tup (.cons (.call 6 (.cons (.var 1) (.cons (.c (.int 9)) .nil))) (.cons (.call 7 (.cons (.var 1) (.cons (.c (.str "0123456789x")) .nil))) .nil)))) (.cons (.asg [] (.v 7) (.bin .Add (.bin .Add (.sl (.var 3) .no (.so (.var 5))) (.var 6)) (.sl (.var 3) (.so (.bin .Add (.var 5) (.c (.int 1)))) .no))) (.cons (.ifs (.cmp .NotEq (.call 2 (.cons (.var 7) .nil)) (.cmp .Eq (.var 7) (.var 3))) (.cons (.ret [] (.c (.bl false))) .nil) .nil) (.cons (.asg [] (.v 5) (.call 6 (.cons (.var 1) (.cons (.c (.int 8)) .nil)))) (.cons (.asg [] (.v 8) (.bin .Add (.bin .Add (.bin .Add (.sl (.var 3) .no (.so (.var 5))) (.ix (.var 3) (.bin .Add (.var 5) (.c (.int 1))))) (.ix (.var 3) (.var 5))) (.sl (.var 3) (.so (.bin .Add (.var 5) (.c (.int 2)))) .no))) (.cons (.ifs (.or (.cons (.cmp .NotEq (.call 2 (.cons (.var 8) .nil)) (.cmp .Eq (.var 8) (.var 3))) (.cons (.and (.cons (.cmp .IsNot (.call 3 (.cons (.var 8) .nil)) (.c .non)) (.cons (.cmp .NotEq (.var 8) (.var 3)) .nil))) .nil))) (.cons (.ret [] (.c (.bl false))) .nil) .nil) (.cons (.asg [] (.v 5) (.call 6 (.cons (.var 1) (.cons (.c (.int 9)) .nil)))) (.cons (.ifs (.cmp .NotEq (.call 4 (.cons (.bin .Add (.bin .Add (.sl (.var 3) .no (.so (.var 5))) (.c (.str "?"))) (.sl (.var 3) (.so (.bin .Add (.var 5) (.c (.int 1)))) .no)) .nil)) (.var 3)) (.cons (.ret [] (.c (.bl false))) .nil) .nil) (.cons (.asg [] (.v 9) (.bin .Add (.me "join" (.c (.str "")) (.cons (.lc (.call 7 (.cons (.var 1) (.cons (.c (.str "0123456789")) .nil))) (.v 16) (.rng (.cons (.c (.int 8)) .nil)) .no [16]) .nil)) (.call 7 (.cons (.var 1) (.cons (.c (.str "0123456789x")) .nil))))) (.cons (.asg [] (.v 10) (.bin .Add (.bin .Add (.sl (.var 9) .no (.so (.var 5))) (.c (.str "?"))) (.sl (.var 9) (.so (.bin .Add (.var 5) (.c (.int 1)))) .no))) (.cons (.asg [] (.v 11) (.lc (.bin .Add (.bin .Add (.sl (.var 9) .no (.so (.var 5))) (.var 15)) (.sl (.var 9) (.so (.bin .Add (.var 5) (.c (.int 1)))) .no)) (.v 15) (.seq (.c (.str "0123456789x"))) (.so (.call 10 (.cons (.bin .Add (.bin .Add (.sl (.var 9) .no (.so (.var 5))) (.var 15)) (.sl (.var 9) (.so (.bin .Add (.var 5) (.c (.int 1)))) .no)) .nil))) [15])) (.cons (.ifs (.or (.cons (.cmp .NotEq (.call 4 (.cons (.var 10) .nil)) (.ix (.bin .Add (.var 11) (.lst (.cons (.c .non) .nil))) (.c (.int 0)))) (.cons (.cmp .Gt (.bi "len" (.cons (.var 11) .nil)) (.c (.int 1))) .nil))) (.cons (.ret [] (.c (.bl false))) .nil) .nil) (.cons (.asg [] (.v 12) (.lst .nil)) (.cons (.for_ [] (.v 13) (.rng (.cons (.c (.int 9)) .nil)) (.cons (.asg [] (.v 12) (.bin .Add (.var 12) (.lc (.bin .Add (.bin .Add (.sl (.var 9) .no (.so (.var 13))) (.var 15)) (.sl (.var 9) (.so (.bin .Add (.var 13) (.c (.int 1)))) .no)) (.v 15) (.seq (.c (.str "0123456789x"))) .no [15]))) .nil)) (.cons (.asg [] (.v 12) (.bin .Add (.var 12) (.lc (.bin .Add (.bin .Add (.bin .Add (.sl (.var 9) .no (.so (.var 13))) (.ix (.var 9) (.bin .Add (.var 13) (.c (.int 1))))) (.ix (.var 9) (.var 13))) (.sl (.var 9) (.so (.bin .Add (.var 13) (.c (.int 2)))) .no)) (.v 13) (.rng (.cons (.c (.int 8)) .nil)) .no [13]))) (.cons (.ifs (.not (.call 8 (.cons (.call 5 (.cons (.var 9) .nil)) (.cons (.bi "tuple" (.cons (.sst (.lc (.var 15) (.v 15) (.seq (.var 12)) (.so (.and (.cons (.cmp .NotEq (.var 15) (.var 9)) (.cons (.call 10 (.cons (.var 15) .nil)) .nil)))) [15])) .nil)) .nil)))) (.cons (.ret [] (.c (.bl false))) .nil) .nil) (.cons (.ifs (.cmp .NotEq (.call 5 (.cons (.var 3) .nil)) (.tup .nil)) (.cons (.ret [] (.c (.bl false))) .nil) .nil) (.cons (.for_ [] (.v 14) (.seq (.lst (.cons (.c .non) (.cons (.c (.int 5)) (.cons (.c (.str "")) (.cons (.bin .Add (.var 3) (.c (.str "0"))) (.cons (.sl (.var 3) .no (.so (.c (.int 8)))) (.cons (.bin .Add (.c (.str " ")) (.sl (.var 3) (.so (.c (.int 1))) .no)) (.cons (.bin .Add (.sl (.var 3) .no (.so (.c (.int 8)))) (.c (.str "X"))) (.cons (.bin .Add (.c (.str "x")) (.sl (.var 3) (.so (.c (.int 1))) .no)) (.cons (.bin .Mult (.lst (.cons (.c (.str "0")) .nil)) (.c (.int 9))) (.cons (.c (.bl true)) .nil)))))))))))) (.cons (.ifs (.or (.cons (.cmp .IsNot (.call 2 (.cons (.var 14) .nil)) (.c (.bl false))) (.cons (.cmp .IsNot (.call 3 (.cons (.var 14) .nil)) (.c .non)) .nil))) (.cons (.ret [] (.c (.bl false))) .nil) .nil) .nil)) (.cons (.ret [] (.c (.bl true))) .nil))))))))))))))))))))))))))
def tab : List FnI := [⟨1, 5, ir0, none⟩, ⟨1, 2, ir1, none⟩, ⟨1, 2, ir2, none⟩, ⟨1, 1, ir3, none⟩, ⟨1, 4, ir4, none⟩, ⟨1, 5, ir5, none⟩, ⟨2, 4, ir6, none⟩, ⟨2, 2, ir7, none⟩, ⟨2, 3, ir8, none⟩, ⟨1, 5, ir9, none⟩, ⟨1, 2, ir10, none⟩, ⟨1, 17, ir11, none⟩]
end Eng
set_option Elab.async false
set_option linter.all false
set_option maxRecDepth 100000
set_option maxHeartbeats 0
namespace Eng
open PySem PySem.Spec PyProof.Rows L2
def top (i : Nat) : Stmt := PySem.Challenge.pw_pawnkept_k06_whole_tickets.main.body.getD i (.Pass ⟨0, 0, 0, 0⟩)
def sub (s : Stmt) (j : Nat) : Stmt := match s with | .ClassDef _ _ _ b _ _ _ _ _ _ _ => b.getD j (.Pass ⟨0, 0, 0, 0⟩) | s => s
abbrev st0 : Stmt := top 4
abbrev st1 : Stmt := top 5
abbrev st2 : Stmt := top 6
abbrev st3 : Stmt := top 7
abbrev st4 : Stmt := top 8
abbrev st5 : Stmt := top 9
abbrev st6 : Stmt := top 11
abbrev st7 : Stmt := top 12
abbrev st8 : Stmt := top 13
abbrev st9 : Stmt := top 14
abbrev st10 : Stmt := top 15
abbrev st11 : Stmt := top 16
structure Facts (P : Program) (w : World) (K : PySem.W.Frag) (mg : Str → Option Value) : Prop where
  con_FIGURES : ∃ t, mg "FIGURES" = some (.str "0123456789" t)
  con_LAST : ∃ t, mg "LAST" = some (.str "x" t)
  con_PRIME : ∃ t, mg "PRIME" = some (.int 11 t)
  free_all : mg "all" = none
  free_bool : mg "bool" = none
  free_enumerate : mg "enumerate" = none
  free_int : mg "int" = none
  free_isinstance : mg "isinstance" = none
  free_len : mg "len" = none
  free_list : mg "list" = none
  free_range : mg "range" = none
  free_set : mg "set" = none
  free_sorted : mg "sorted" = none
  free_str : mg "str" = none
  free_sum : mg "sum" = none
  free_tuple : mg "tuple" = none
structure TabOk (P : Program) (w : World) (K : PySem.W.Frag) (mg : Str → Option Value) (base : Heap) (n : Nat) : Prop where
  d0 : DefOk P w K mg base (2 * n) (callN tab n) "check_sign" 0
  d1 : DefOk P w K mg base (2 * n) (callN tab n) "ticket" 1
  d2 : DefOk P w K mg base (2 * n) (callN tab n) "is_ticket" 2
  d3 : DefOk P w K mg base (2 * n) (callN tab n) "number_of" 3
  d4 : DefOk P w K mg base (2 * n) (callN tab n) "restored" 4
  d5 : DefOk P w K mg base (2 * n) (callN tab n) "near_tickets" 5
  d6 : DefOk P w K mg base (2 * n) (callN tab n) "_law_taken" 6
  d7 : DefOk P w K mg base (2 * n) (callN tab n) "_law_pick" 7
  d8 : DefOk P w K mg base (2 * n) (callN tab n) "_law_alike" 8
  d9 : DefOk P w K mg base (2 * n) (callN tab n) "_law_sign" 9
  d10 : DefOk P w K mg base (2 * n) (callN tab n) "_law_is_ticket" 10
  d11 : DefOk P w K mg base (2 * n) (callN tab n) "law" 11
section
variable (P : Program) (w : World) (K : PySem.W.Frag) (mg : Str → Option Value) (base : Heap) (n : Nat) (pd : Str × Option Str) (qq : Str) (N : List Str) (st : Stmt) (ir : Ss)
def BodyT : Prop := ∀ (qual : Str) (f : Addr) (cdv : Value) (A : Around) (outer : List PySem.Env) (s : Shared) (H : Hp) (E : XK) (W : WW), W.sv = false → W.x = none → Takes (cxOf (L2.CX P w) P w K mg base N qual (defScope st) f cdv A outer s H E) W → Room (2 * n + 1) (A.deeper (envOfC qual (defScope st) s.heap.objs.size f cdv)) → PSs (cxOf (L2.CX P w) P w K mg base N qual (defScope st) f cdv A outer s H E) (defBody st) (tSs K W (callN tab n) ir)
variable {P w K mg base n pd qq N st ir}
theorem bodyT (nd : List.Nodup N) (po : ∀ (qual : Str) (f : Addr) (cdv : Value) (A : Around) (outer : List PySem.Env) (s : Shared) (H : Hp) (E : XK), PassesOwn (model P w) (cxOf (L2.CX P w) P w K mg base N qual (defScope st) f cdv A outer s H E).A (cxOf (L2.CX P w) P w K mg base N qual (defScope st) f cdv A outer s H E).env (cxOf (L2.CX P w) P w K mg base N qual (defScope st) f cdv A outer s H E).xe) (h : ∀ (qual : Str) (f : Addr) (cdv : Value) (A : Around) (outer : List PySem.Env) (s : Shared) (H : Hp) (E : XK) (W : WW), W.sv = false → W.x = none → Takes (cxOf (L2.CX P w) P w K mg base N qual (defScope st) f cdv A outer s H E) W → Room (2 * n + 1) (A.deeper (envOfC qual (defScope st) s.heap.objs.size f cdv)) → List.Nodup (cxOf (L2.CX P w) P w K mg base N qual (defScope st) f cdv A outer s H E).N → PassesOwn (model P w) (cxOf (L2.CX P w) P w K mg base N qual (defScope st) f cdv A outer s H E).A (cxOf (L2.CX P w) P w K mg base N qual (defScope st) f cdv A outer s H E).env (cxOf (L2.CX P w) P w K mg base N qual (defScope st) f cdv A outer s H E).xe → PSs (cxOf (L2.CX P w) P w K mg base N qual (defScope st) f cdv A outer s H E) (defBody st) (tSs K W (callN tab n) ir)) : BodyT P w K mg base n N st ir := fun q f c A o s H E W h1 h2 h3 h4 => h q f c A o s H E W h1 h2 h3 h4 nd (po q f c A o s H E)
end
section
variable {P : Program} {w : World} {K : PySem.W.Frag} {mg : Str → Option Value} {base : Heap} {n : Nat} (G : Facts P w K mg) (T : TabOk P w K mg base n)
include G T
theorem body0 : BodyT P w K mg base n N0 st0 ir0 := bodyT (by decide) (fun _ _ _ _ _ _ _ _ => passes_of rfl) fun qual f cdv A outer s H E W hsv hx tk hr ND hpo => by
  have hu := hu65 hr
  have hu1q := hu1 hr
  have hu64q := hu64 hr
  exact (bis hsv (ss_set (.inr rfl) ND rfl lo (q_D (s_bi (bi_sum rfl) rfl G.free_sum (by decide +kernel) (b_cons (q_bor (q_D (s_lc rfl ND (i_enum rfl G.free_enumerate (q_bor (q_D (s_rev vB)) rfl) rfl) (own := [("place",3),("figure",4)]) rfl rfl (by decide) ⟨fun s H c cl fp => (g_t rfl (g_cons (g_v ND rfl lo lo) (g_cons (g_v ND rfl lo lo) g_nil rfl) rfl) rfl rfl), (fun s H c cl fp => if_none), (fun s H c cl fp => (q_D (s_bin (q_bor (q_D (s_bin vB (q_bor k_int rfl))) rfl) (q_bor (q_D (s_biT bi_int rfl G.free_int (by decide +kernel) (b_cons vB b_nil rfl) rfl rfl (by decide) (by decide))) rfl))))⟩ (fun _ => rfl))) rfl) b_nil rfl) rfl rfl (by decide) (by decide))) rfl lo) (bis hsv (ss_set (.inr rfl) ND rfl lo (q_D (s_bin (q_bor (s_neg vA) rfl) (q_bor (s_glJ rfl G.con_PRIME (by decide)) rfl))) rfl lo) (bis hsv (ss_ret (.inr rfl) (s_ife (s_cmpT hu vB (q_bor k_int rfl) rfl) (s_glS rfl G.con_LAST (by decide)) (q_D (s_biT bi_str rfl G.free_str (by decide +kernel) (b_cons vB b_nil rfl) rfl rfl (by decide) (by decide))))) ss_nil)))
theorem body1 : BodyT P w K mg base n N1 st1 ir1 := bodyT (by decide) (fun _ _ _ _ _ _ _ _ => passes_of rfl) fun qual f cdv A outer s H E W hsv hx tk hr ND hpo => by
  have hu := hu65 hr
  have hu1q := hu1 hr
  have hu64q := hu64 hr
  exact (bis hsv (ss_set (.inr rfl) ND rfl lo (s_fmt vA) rfl lo) (bis hsv (ss_ret (.inr rfl) (q_D (s_bin vB (q_bor (s_call T.d0 (hr.mono (Nat.le_succ _)) rfl tk (s_cons vA s_nil rfl) rfl rfl (by decide)) rfl)))) ss_nil))
theorem body2 : BodyT P w K mg base n N2 st2 ir2 := bodyT (by decide) (fun _ _ _ _ _ _ _ _ => passes_of rfl) fun qual f cdv A outer s H E W hsv hx tk hr ND hpo => by
  have hu := hu65 hr
  have hu1q := hu1 hr
  have hu64q := hu64 hr
  exact (bis hsv (ss_if (PW.pt (w_or (s_notT (q_truth (s_isi rfl G.free_isinstance vB rfl (q_ty rfl G.free_str (by decide +kernel) (by decide) (by decide)) rfl (by decide)) rfl fun _ => rfl)) (w_or (s_cmpT hu (q_bor (q_D (s_bi bi_len rfl G.free_len (by decide +kernel) (b_cons vB b_nil rfl) rfl rfl (by decide) (by decide))) rfl) (q_bor k_int rfl) rfl) (w_or1 (s_notT (q_truth (q_D (s_bi (bi_all rfl) rfl G.free_all (by decide +kernel) (b_cons (q_bor (q_D (s_lc rfl ND (i_seq (q_bor (q_D (s_sl vB o_none (o_some (s_neg k_int)))) rfl)) (own := [("sign",1)]) rfl rfl (by decide) ⟨fun s H c cl fp => (g_v ND rfl lo lo), (fun s H c cl fp => if_none), (fun s H c cl fp => (s_cmp hu vB (q_bor (s_glS rfl G.con_FIGURES (by decide)) rfl) rfl))⟩ (fun _ => rfl))) rfl) b_nil rfl) rfl rfl (by decide) (by decide))) rfl fun _ => rfl)))))) (bis hsv (ss_ret (.inr rfl) k_bl) ss_nil) ss_nil) (bis hsv (ss_ret (.inr rfl) (s_cmp hu (q_bor (s_ix hu1q vB (s_neg k_int) rfl) rfl) (q_bor (s_call T.d0 (hr.mono (Nat.le_succ _)) rfl tk (s_cons (q_D (s_sl vB o_none (o_some (s_neg k_int)))) s_nil rfl) rfl rfl (by decide)) rfl) rfl)) ss_nil))
theorem body3 : BodyT P w K mg base n N3 st3 ir3 := bodyT (by decide) (fun _ _ _ _ _ _ _ _ => passes_of rfl) fun qual f cdv A outer s H E W hsv hx tk hr ND hpo => by
  have hu := hu65 hr
  have hu1q := hu1 hr
  have hu64q := hu64 hr
  exact (bis hsv (ss_ret (.inr rfl) (s_ife (q_truth (s_call T.d2 (hr.mono (Nat.le_succ _)) rfl tk (s_cons vA s_nil rfl) rfl rfl (by decide)) rfl fun _ => rfl) (q_D (s_biT bi_int rfl G.free_int (by decide +kernel) (b_cons (q_bor (q_D (s_sl vB o_none (o_some (s_neg k_int)))) rfl) b_nil rfl) rfl rfl (by decide) (by decide))) k_non)) ss_nil)
theorem body4 : BodyT P w K mg base n N4 st4 ir4 := bodyT (by decide) (fun _ _ _ _ _ _ _ _ => passes_of rfl) fun qual f cdv A outer s H E W hsv hx tk hr ND hpo => by
  have hu := hu65 hr
  have hu1q := hu1 hr
  have hu64q := hu64 hr
  exact (bis hsv (ss_own ND rfl lo (s_lst s_nil) rfl lo) (bis hsv (ss_forR hsv hpo rfl ND rfl rfl (pis_add (s_glS rfl G.con_FIGURES (by decide)) (s_glS rfl G.con_LAST (by decide)) rfl rfl (by decide) (by decide +kernel)) (psr_cons (.inl hsv) (psr_set (.inr rfl) ND rfl lo (per_rep rfl rfl rfl rfl rfl rfl rfl rfl rfl) rfl lo) (bis hsv (ss_if (q_truth (s_call T.d2 (hr.mono (Nat.le_succ _)) rfl tk (s_cons vA s_nil rfl) rfl rfl (by decide)) rfl fun _ => rfl) (bis hsv (ss_app hsv rfl vi (by decide) (by decide) vA rfl rfl rfl) ss_nil) ss_nil) ss_nil)) (fun _ => rfl)) (bis hsv (ss_ret (.inr rfl) (s_ife (s_cmpT hu (q_bor (q_D (s_bi bi_len rfl G.free_len (by decide +kernel) (b_cons vB b_nil rfl) rfl rfl (by decide) (by decide))) rfl) (q_bor k_int rfl) rfl) (s_ix hu1q vB k_int rfl) k_non)) ss_nil)))
theorem body5 : BodyT P w K mg base n N5 st5 ir5 := bodyT (by decide) (fun _ _ _ _ _ _ _ _ => passes_of rfl) fun qual f cdv A outer s H E W hsv hx tk hr ND hpo => by
  have hu := hu65 hr
  have hu1q := hu1 hr
  have hu64q := hu64 hr
  exact (bis hsv (ss_own ND rfl lo s_dnew rfl lo) (bis hsv (ss_for hsv hpo rfl (q_rng1 rfl G.free_range k_int rfl) (g_v ND rfl lo lo) (bis hsv (ss_for hsv hpo rfl (i_seqF (q_D (s_bin (q_bor (s_glS rfl G.con_FIGURES (by decide)) rfl) (q_bor (s_glS rfl G.con_LAST (by decide)) rfl)))) (g_v ND rfl lo lo) (bis hsv (ss_setI hu1q hsv rfl vi (by decide) (by decide) (q_D (s_bin (q_bor (q_D (s_bin (q_bor (q_D (s_sl vB o_none (o_some vA))) rfl) vB)) rfl) (q_bor (q_D (s_sl vB (o_some (q_D (s_bin vB (q_bor k_int rfl)))) o_none)) rfl))) k_bl rfl rfl rfl (fun _ => rfl)) ss_nil) (fun _ => rfl)) ss_nil) (fun _ => rfl)) (bis hsv (ss_for hsv hpo rfl (q_rng1 rfl G.free_range k_int rfl) (g_v ND rfl lo lo) (bis hsv (ss_setI hu1q hsv rfl vi (by decide) (by decide) (q_D (s_bin (q_bor (q_D (s_bin (q_bor (q_D (s_bin (q_bor (q_D (s_sl vB o_none (o_some vA))) rfl) (q_bor (s_ix hu1q vB (q_D (s_bin vB (q_bor k_int rfl))) rfl) rfl))) rfl) (q_bor (s_ix hu1q vB vA rfl) rfl))) rfl) (q_bor (q_D (s_sl vB (o_some (q_D (s_bin vB (q_bor k_int rfl)))) o_none)) rfl))) k_bl rfl rfl rfl (fun _ => rfl)) ss_nil) (fun _ => rfl)) (ss_lck hsv (bis hsv (ss_ret (.inr rfl) (q_D (s_biT bi_tuple rfl G.free_tuple (by decide +kernel) (b_cons (q_bor (q_D (s_bi (bi_sorted hu64q) rfl G.free_sorted (by decide +kernel) (b_cons (q_bor (q_D (s_lc rfl ND (i_dk vB) (own := [("text",4)]) rfl rfl (by decide) ⟨fun s H c cl fp => (g_v ND rfl lo lo), (fun s H c cl fp => (if_one (PW.pt (w_and (q_truth (s_call T.d2 (hr.mono (Nat.le_succ _)) rfl takes_no (s_cons vA s_nil rfl) rfl rfl (by decide)) rfl fun _ => rfl) (w_and1 (s_cmpT hu vB vB rfl)))))), (fun s H c cl fp => vA)⟩ (fun _ => rfl))) rfl) b_nil rfl) rfl rfl (by decide) (by decide))) rfl) b_nil rfl) rfl rfl (by decide) (by decide)))) ss_nil)))))
theorem body6 : BodyT P w K mg base n N6 st6 ir6 := bodyT (by decide) (fun _ _ _ _ _ _ _ _ => passes_of rfl) fun qual f cdv A outer s H E W hsv hx tk hr ND hpo => by
  have hu := hu65 hr
  have hu1q := hu1 hr
  have hu64q := hu64 hr
  exact (bis hsv (ss_if (s_cmpT hu (q_bor (s_ix hu1q vB k_int rfl) rfl) (q_bor k_int rfl) rfl) (bis hsv (ss_set (.inr rfl) ND rfl lo (q_D (s_bin (q_bor (q_D (s_biT bi_int rfl G.free_int (by decide +kernel) (b_cons (q_bor (s_ix hu1q vB k_int rfl) rfl) b_nil rfl) rfl rfl (by decide) (by decide))) rfl) vB)) rfl lo) (bis hsv (ss_setI hu1q hsv rfl vi (by decide) (by decide) k_int (q_D (s_bin (q_bor (s_ix hu1q vB k_int rfl) rfl) vB)) rfl rfl rfl (fun _ => rfl)) (bis hsv (ss_ret (.inr rfl) vA) ss_nil))) ss_nil) (bis hsv (ss_setI hu1q hsv rfl vi (by decide) (by decide) k_int (q_D (s_bin (q_bor (s_ix hu1q vB k_int rfl) rfl) (q_bor k_int rfl))) rfl rfl rfl (fun _ => rfl)) (bis hsv (ss_if (s_cmpT hu (q_bor (s_ix hu1q vB k_int rfl) rfl) (q_bor (q_D (s_bi bi_len rfl G.free_len (by decide +kernel) (b_cons (q_bor (s_ix hu1q vB k_int rfl) rfl) b_nil rfl) rfl rfl (by decide) (by decide))) rfl) rfl) (bis hsv (ss_setI hu1q hsv rfl vi (by decide) (by decide) k_int (q_D (s_bin (q_bor (q_D (s_biT bi_int rfl G.free_int (by decide +kernel) (b_cons (q_bor (q_D (s_bin (q_bor (q_D (s_bin (q_bor (s_ix hu1q vB k_int rfl) rfl) (q_bor k_int rfl))) rfl) (q_bor k_int rfl))) rfl) b_nil rfl) rfl rfl (by decide) (by decide))) rfl) (q_bor k_int rfl))) rfl rfl rfl (fun _ => rfl)) (bis hsv (ss_ret (.inr rfl) (q_D (s_bin (q_bor (q_D (s_biT bi_int rfl G.free_int (by decide +kernel) (b_cons (q_bor (q_D (s_bin (q_bor (s_ix hu1q vB k_int rfl) rfl) (q_bor k_int rfl))) rfl) b_nil rfl) rfl rfl (by decide) (by decide))) rfl) vB))) ss_nil)) ss_nil) (bis hsv (ss_set (.inr rfl) ND rfl lo (s_ix hu1q (q_bor (s_ix hu1q vB k_int rfl) rfl) (q_D (s_bin (q_bor (s_ix hu1q vB k_int rfl) rfl) (q_bor k_int rfl))) rfl) rfl lo) (bis hsv (ss_setI hu1q hsv rfl vi (by decide) (by decide) k_int (q_D (s_bin (q_bor (q_D (s_biT bi_int rfl G.free_int (by decide +kernel) (b_cons (q_bor (q_D (s_bin (q_bor (q_D (s_bin (q_bor (q_D (s_bin (q_bor (s_ix hu1q vB k_int rfl) rfl) (q_bor k_int rfl))) rfl) vB)) rfl) (q_bor k_int rfl))) rfl) b_nil rfl) rfl rfl (by decide) (by decide))) rfl) (q_bor k_int rfl))) rfl rfl rfl (fun _ => rfl)) (bis hsv (ss_if (s_cmpT hu vB (q_bor (q_D (s_bin (q_bor k_int rfl) (q_bor k_int rfl))) rfl) rfl) (bis hsv (ss_setI hu1q hsv rfl vi (by decide) (by decide) k_int (q_D (s_bin vB vB)) rfl rfl rfl (fun _ => rfl)) ss_nil) ss_nil) (bis hsv (ss_ret (.inr rfl) (q_D (s_bin (q_bor (q_D (s_biT bi_int rfl G.free_int (by decide +kernel) (b_cons vB b_nil rfl) rfl rfl (by decide) (by decide))) rfl) vB))) ss_nil)))))))
theorem body7 : BodyT P w K mg base n N7 st7 ir7 := bodyT (by decide) (fun _ _ _ _ _ _ _ _ => passes_of rfl) fun qual f cdv A outer s H E W hsv hx tk hr ND hpo => by
  have hu := hu65 hr
  have hu1q := hu1 hr
  have hu64q := hu64 hr
  exact (bis hsv (ss_ret (.inr rfl) (s_ix hu1q vB (s_call T.d6 (hr.mono (Nat.le_succ _)) rfl tk (s_cons vA (s_cons (q_D (s_bi bi_len rfl G.free_len (by decide +kernel) (b_cons vB b_nil rfl) rfl rfl (by decide) (by decide))) s_nil rfl) rfl) rfl rfl (by decide)) rfl)) ss_nil)
theorem body8 : BodyT P w K mg base n N8 st8 ir8 := bodyT (by decide) (fun _ _ _ _ _ _ _ _ => passes_of rfl) fun qual f cdv A outer s H E W hsv hx tk hr ND hpo => by
  have hu := hu65 hr
  have hu1q := hu1 hr
  have hu64q := hu64 hr
  exact (bis hsv (ss_if (q_truth (s_isiT rfl G.free_isinstance vB rfl (.cons (q_ty rfl G.free_tuple (by decide +kernel) (by decide) (by decide)) rfl (.cons (q_ty rfl G.free_list (by decide +kernel) (by decide) (by decide)) rfl .nil)) (by decide) (by decide)) rfl fun _ => rfl) (bis hsv (ss_if (PW.pt (w_or (s_notT (q_truth (s_isiT rfl G.free_isinstance vB rfl (.cons (q_ty rfl G.free_tuple (by decide +kernel) (by decide) (by decide)) rfl (.cons (q_ty rfl G.free_list (by decide +kernel) (by decide) (by decide)) rfl .nil)) (by decide) (by decide)) rfl fun _ => rfl)) (w_or1 (s_cmpT hu (q_bor (s_isi rfl G.free_isinstance vB rfl (q_ty rfl G.free_list (by decide +kernel) (by decide) (by decide)) rfl (by decide)) rfl) (q_bor (s_isi rfl G.free_isinstance vB rfl (q_ty rfl G.free_list (by decide +kernel) (by decide) (by decide)) rfl (by decide)) rfl) rfl)))) (bis hsv (ss_ret (.inr rfl) k_bl) ss_nil) ss_nil) (bis hsv (ss_if (s_cmpT hu (q_bor (q_D (s_bi bi_len rfl G.free_len (by decide +kernel) (b_cons vB b_nil rfl) rfl rfl (by decide) (by decide))) rfl) (q_bor (q_D (s_bi bi_len rfl G.free_len (by decide +kernel) (b_cons vB b_nil rfl) rfl rfl (by decide) (by decide))) rfl) rfl) (bis hsv (ss_ret (.inr rfl) k_bl) ss_nil) ss_nil) (bis hsv (ss_ret (.inr rfl) (s_cmp hu (q_bor (q_D (s_lc rfl ND (q_rngB (q_rng1 rfl G.free_range (q_D (s_bi bi_len rfl G.free_len (by decide +kernel) (b_cons vB b_nil rfl) rfl rfl (by decide) (by decide))) rfl)) (own := [("k",2)]) rfl rfl (by decide) ⟨fun s H c cl fp => (g_v ND rfl lo lo), (fun s H c cl fp => (if_one (s_notT (q_truth (s_call T.d8 (hr.mono (Nat.le_succ _)) rfl takes_no (s_cons (s_ix hu1q vB vA rfl) (s_cons (s_ix hu1q vB vA rfl) s_nil rfl) rfl) rfl rfl (by decide)) rfl fun _ => rfl)))), (fun s H c cl fp => vA)⟩ (fun _ => rfl))) rfl) (q_bor (q_D (s_lst s_nil)) rfl) rfl)) ss_nil))) ss_nil) (bis hsv (ss_if (PW.pt (w_or (s_cmpT hu vB (q_bor k_non rfl) rfl) (w_or1 (q_truth (s_isi rfl G.free_isinstance vB rfl (q_ty rfl G.free_str (by decide +kernel) (by decide) (by decide)) rfl (by decide)) rfl fun _ => rfl)))) (bis hsv (ss_ret (.inr rfl) (s_and (s_cmp hu vB vB rfl) (q_and1 (s_cmp hu (q_bor (s_isi rfl G.free_isinstance vB rfl (q_ty rfl G.free_str (by decide +kernel) (by decide) (by decide)) rfl (by decide)) rfl) (q_bor (s_isi rfl G.free_isinstance vB rfl (q_ty rfl G.free_str (by decide +kernel) (by decide) (by decide)) rfl (by decide)) rfl) rfl)))) ss_nil) ss_nil) (bis hsv (ss_ret (.inr rfl) (s_and (s_isi rfl G.free_isinstance vB rfl (q_ty rfl G.free_int (by decide +kernel) (by decide) (by decide)) rfl (by decide)) (s_and (s_cmp hu (q_bor (s_isi rfl G.free_isinstance vB rfl (q_ty rfl G.free_bool (by decide +kernel) (by decide) (by decide)) rfl (by decide)) rfl) (q_bor (s_isi rfl G.free_isinstance vB rfl (q_ty rfl G.free_bool (by decide +kernel) (by decide) (by decide)) rfl (by decide)) rfl) rfl) (q_and1 (s_cmp hu vB vB rfl))))) ss_nil)))
theorem body9 : BodyT P w K mg base n N9 st9 ir9 := bodyT (by decide) (fun _ _ _ _ _ _ _ _ => passes_of rfl) fun qual f cdv A outer s H E W hsv hx tk hr ND hpo => by
  have hu := hu65 hr
  have hu1q := hu1 hr
  have hu64q := hu64 hr
  exact (bis hsv (ss_set (.inr rfl) ND rfl lo k_int rfl lo) (bis hsv (ss_for hsv hpo rfl (q_rng1 rfl G.free_range (q_D (s_bi bi_len rfl G.free_len (by decide +kernel) (b_cons vB b_nil rfl) rfl rfl (by decide) (by decide))) rfl) (g_v ND rfl lo lo) (bis hsv (ss_set (.inr rfl) ND rfl lo (q_D (s_bin vB (q_bor (q_D (s_bin (q_bor (q_D (s_bin (q_bor (q_D (s_bin (q_bor (q_D (s_bi bi_len rfl G.free_len (by decide +kernel) (b_cons vB b_nil rfl) rfl rfl (by decide) (by decide))) rfl) (q_bor k_int rfl))) rfl) vB)) rfl) (q_bor (q_D (s_biT bi_int rfl G.free_int (by decide +kernel) (b_cons (q_bor (s_ix hu1q vB vA rfl) rfl) b_nil rfl) rfl rfl (by decide) (by decide))) rfl))) rfl))) rfl lo) ss_nil) (fun _ => rfl)) (bis hsv (ss_set (.inr rfl) ND rfl lo (s_ix hu1q (q_bor (q_D (s_lc rfl ND (q_rngB (q_rng1 rfl G.free_range k_int rfl)) (own := [("one",4)]) rfl rfl (by decide) ⟨fun s H c cl fp => (g_v ND rfl lo lo), (fun s H c cl fp => (if_one (s_cmpT hu (q_bor (q_D (s_bin (q_bor (q_D (s_biT bi_int rfl G.free_int (by decide +kernel) (b_cons (q_bor (q_D (s_bin vB vB)) rfl) b_nil rfl) rfl rfl (by decide) (by decide))) rfl) (q_bor k_int rfl))) rfl) (q_bor k_int rfl) rfl))), (fun s H c cl fp => vA)⟩ (fun _ => rfl))) rfl) k_int rfl) rfl lo) (bis hsv (ss_ret (.inr rfl) (s_ix hu1q (q_bor k_str rfl) vA rfl)) ss_nil))))
theorem body10 : BodyT P w K mg base n N10 st10 ir10 := bodyT (by decide) (fun _ _ _ _ _ _ _ _ => passes_of rfl) fun qual f cdv A outer s H E W hsv hx tk hr ND hpo => by
  have hu := hu65 hr
  have hu1q := hu1 hr
  have hu64q := hu64 hr
  exact (bis hsv (ss_if (PW.pt (w_or (s_cmpT hu (q_bor (q_D (s_bi bi_len rfl G.free_len (by decide +kernel) (b_cons vB b_nil rfl) rfl rfl (by decide) (by decide))) rfl) (q_bor k_int rfl) rfl) (w_or1 (s_cmpT hu (q_bor (q_D (s_lc rfl ND (i_seq (q_bor (q_D (s_sl vB o_none (o_some k_int))) rfl)) (own := [("sign",1)]) rfl rfl (by decide) ⟨fun s H c cl fp => (g_v ND rfl lo lo), (fun s H c cl fp => (if_one (s_cmpT hu vB (q_bor k_str rfl) rfl))), (fun s H c cl fp => vA)⟩ (fun _ => rfl))) rfl) (q_bor (q_D (s_lst s_nil)) rfl) rfl)))) (bis hsv (ss_ret (.inr rfl) k_bl) ss_nil) ss_nil) (bis hsv (ss_ret (.inr rfl) (s_cmp hu (q_bor (s_ix hu1q vB k_int rfl) rfl) (q_bor (s_call T.d9 (hr.mono (Nat.le_succ _)) rfl tk (s_cons (q_D (s_sl vB o_none (o_some k_int))) s_nil rfl) rfl rfl (by decide)) rfl) rfl)) ss_nil))
theorem body11 : BodyT P w K mg base n N11 st11 ir11 := bodyT (by decide) (fun _ _ _ _ _ _ _ _ => passes_of rfl) fun qual f cdv A outer s H E W hsv hx tk hr ND hpo => by
  have hu := hu65 hr
  have hu1q := hu1 hr
  have hu64q := hu64 hr
  exact (bis hsv (ss_obj ND rfl lo (s_lst (s_cons vA (s_cons k_int (s_cons k_int (s_cons k_int s_nil rfl) rfl) rfl) rfl)) rfl lo) (bis hsv (ss_set (.inr rfl) ND rfl lo (s_call T.d7 (hr.mono (Nat.le_succ _)) rfl tk (s_cons vA (s_cons (q_D (s_lst (s_cons (s_call T.d6 (hr.mono (Nat.le_succ _)) rfl tk (s_cons vA (s_cons (q_D (s_bin (q_bor k_int rfl) (q_bor k_int rfl))) s_nil rfl) rfl) rfl rfl (by decide)) (s_cons (s_call T.d6 (hr.mono (Nat.le_succ _)) rfl tk (s_cons vA (s_cons k_int s_nil rfl) rfl) rfl rfl (by decide)) (s_cons k_int (s_cons k_int s_nil rfl) rfl) rfl) rfl))) s_nil rfl) rfl) rfl rfl (by decide)) rfl lo) (bis hsv (ss_set (.inr rfl) ND rfl lo (q_D (s_bin (q_bor (q_D (s_bin (q_bor k_str rfl) (q_bor (q_D (s_bin (q_bor k_int rfl) (q_bor (q_D (s_bi bi_len rfl G.free_len (by decide +kernel) (b_cons (q_bor (q_D (s_biT bi_str rfl G.free_str (by decide +kernel) (b_cons vB b_nil rfl) rfl rfl (by decide) (by decide))) rfl) b_nil rfl) rfl rfl (by decide) (by decide))) rfl))) rfl))) rfl) (q_bor (q_D (s_biT bi_str rfl G.free_str (by decide +kernel) (b_cons vB b_nil rfl) rfl rfl (by decide) (by decide))) rfl))) rfl lo) (bis hsv (ss_set (.inr rfl) ND rfl lo (q_D (s_bin vB (q_bor (s_call T.d9 (hr.mono (Nat.le_succ _)) rfl tk (s_cons vA s_nil rfl) rfl rfl (by decide)) rfl))) rfl lo) (bis hsv (ss_if (PW.pt (w_or (s_cmpT hu (q_bor (s_call T.d1 (hr.mono (Nat.le_succ _)) rfl tk (s_cons vA s_nil rfl) rfl rfl (by decide)) rfl) vB rfl) (w_or (s_cmpT hu (q_bor (s_call T.d0 (hr.mono (Nat.le_succ _)) rfl tk (s_cons (q_D (s_sl vB o_none (o_some k_int))) s_nil rfl) rfl rfl (by decide)) rfl) (q_bor (s_ix hu1q vB k_int rfl) rfl) rfl) (w_or (s_cmpT hu (q_bor (s_call T.d2 (hr.mono (Nat.le_succ _)) rfl tk (s_cons vA s_nil rfl) rfl rfl (by decide)) rfl) (q_bor k_bl rfl) rfl) (w_or1 (s_notT (q_truth (s_call T.d8 (hr.mono (Nat.le_succ _)) rfl tk (s_cons (s_call T.d3 (hr.mono (Nat.le_succ _)) rfl tk (s_cons vA s_nil rfl) rfl rfl (by decide)) (s_cons vA s_nil rfl) rfl) rfl rfl (by decide)) rfl fun _ => rfl))))))) (bis hsv (ss_ret (.inr rfl) k_bl) ss_nil) ss_nil) (bis hsv (ss_set (.inr rfl) ND rfl lo (s_join k_str (q_bor (q_D (s_lc rfl ND (q_rngB (q_rng1 rfl G.free_range (s_call T.d6 (hr.mono (Nat.le_succ _)) rfl tk (s_cons vA (s_cons k_int s_nil rfl) rfl) rfl rfl (by decide)) rfl)) (own := [("k",16)]) rfl rfl (by decide) ⟨fun s H c cl fp => (g_v ND rfl lo lo), (fun s H c cl fp => if_none), (fun s H c cl fp => (s_call T.d7 (hr.mono (Nat.le_succ _)) rfl takes_no (s_cons vA (s_cons k_str s_nil rfl) rfl) rfl rfl (by decide)))⟩ (fun _ => rfl))) rfl) (fun _ h => by cases h) rfl rfl rfl) rfl lo) (bis hsv (ss_if (s_cmpT hu (q_bor (s_call T.d0 (hr.mono (Nat.le_succ _)) rfl tk (s_cons vA s_nil rfl) rfl rfl (by decide)) rfl) (q_bor (s_call T.d9 (hr.mono (Nat.le_succ _)) rfl tk (s_cons vA s_nil rfl) rfl rfl (by decide)) rfl) rfl) (bis hsv (ss_ret (.inr rfl) k_bl) ss_nil) ss_nil) (bis hsv (ss_asg (.inr rfl) (s_tup (s_cons (s_call T.d6 (hr.mono (Nat.le_succ _)) rfl tk (s_cons vA (s_cons k_int s_nil rfl) rfl) rfl rfl (by decide)) (s_cons (s_call T.d7 (hr.mono (Nat.le_succ _)) rfl tk (s_cons vA (s_cons k_str s_nil rfl) rfl) rfl rfl (by decide)) s_nil rfl) rfl)) (g_t rfl (g_cons (g_v ND rfl lo lo) (g_cons (g_v ND rfl lo lo) g_nil rfl) rfl) rfl rfl) rfl rfl rfl) (bis hsv (ss_set (.inr rfl) ND rfl lo (q_D (s_bin (q_bor (q_D (s_bin (q_bor (q_D (s_sl vB o_none (o_some vA))) rfl) vB)) rfl) (q_bor (q_D (s_sl vB (o_some (q_D (s_bin vB (q_bor k_int rfl)))) o_none)) rfl))) rfl lo) (bis hsv (ss_if (s_cmpT hu (q_bor (s_call T.d2 (hr.mono (Nat.le_succ _)) rfl tk (s_cons vA s_nil rfl) rfl rfl (by decide)) rfl) (q_bor (s_cmp hu vB vB rfl) rfl) rfl) (bis hsv (ss_ret (.inr rfl) k_bl) ss_nil) ss_nil) (bis hsv (ss_set (.inr rfl) ND rfl lo (s_call T.d6 (hr.mono (Nat.le_succ _)) rfl tk (s_cons vA (s_cons k_int s_nil rfl) rfl) rfl rfl (by decide)) rfl lo) (bis hsv (ss_set (.inr rfl) ND rfl lo (q_D (s_bin (q_bor (q_D (s_bin (q_bor (q_D (s_bin (q_bor (q_D (s_sl vB o_none (o_some vA))) rfl) (q_bor (s_ix hu1q vB (q_D (s_bin vB (q_bor k_int rfl))) rfl) rfl))) rfl) (q_bor (s_ix hu1q vB vA rfl) rfl))) rfl) (q_bor (q_D (s_sl vB (o_some (q_D (s_bin vB (q_bor k_int rfl)))) o_none)) rfl))) rfl lo) (bis hsv (ss_if (PW.pt (w_or (s_cmpT hu (q_bor (s_call T.d2 (hr.mono (Nat.le_succ _)) rfl tk (s_cons vA s_nil rfl) rfl rfl (by decide)) rfl) (q_bor (s_cmp hu vB vB rfl) rfl) rfl) (w_or1 (PW.pt (w_and (s_cmpT hu (q_bor (s_call T.d3 (hr.mono (Nat.le_succ _)) rfl tk (s_cons vA s_nil rfl) rfl rfl (by decide)) rfl) (q_bor k_non rfl) rfl) (w_and1 (s_cmpT hu vB vB rfl))))))) (bis hsv (ss_ret (.inr rfl) k_bl) ss_nil) ss_nil) (bis hsv (ss_set (.inr rfl) ND rfl lo (s_call T.d6 (hr.mono (Nat.le_succ _)) rfl tk (s_cons vA (s_cons k_int s_nil rfl) rfl) rfl rfl (by decide)) rfl lo) (bis hsv (ss_if (s_cmpT hu (q_bor (s_call T.d4 (hr.mono (Nat.le_succ _)) rfl tk (s_cons (q_D (s_bin (q_bor (q_D (s_bin (q_bor (q_D (s_sl vB o_none (o_some vA))) rfl) (q_bor k_str rfl))) rfl) (q_bor (q_D (s_sl vB (o_some (q_D (s_bin vB (q_bor k_int rfl)))) o_none)) rfl))) s_nil rfl) rfl rfl (by decide)) rfl) vB rfl) (bis hsv (ss_ret (.inr rfl) k_bl) ss_nil) ss_nil) (bis hsv (ss_set (.inr rfl) ND rfl lo (q_D (s_bin (q_bor (s_join k_str (q_bor (q_D (s_lc rfl ND (q_rngB (q_rng1 rfl G.free_range k_int rfl)) (own := [("k",16)]) rfl rfl (by decide) ⟨fun s H c cl fp => (g_v ND rfl lo lo), (fun s H c cl fp => if_none), (fun s H c cl fp => (s_call T.d7 (hr.mono (Nat.le_succ _)) rfl takes_no (s_cons vA (s_cons k_str s_nil rfl) rfl) rfl rfl (by decide)))⟩ (fun _ => rfl))) rfl) (fun _ h => by cases h) rfl rfl rfl) rfl) (q_bor (s_call T.d7 (hr.mono (Nat.le_succ _)) rfl tk (s_cons vA (s_cons k_str s_nil rfl) rfl) rfl rfl (by decide)) rfl))) rfl lo) (bis hsv (ss_set (.inr rfl) ND rfl lo (q_D (s_bin (q_bor (q_D (s_bin (q_bor (q_D (s_sl vB o_none (o_some vA))) rfl) (q_bor k_str rfl))) rfl) (q_bor (q_D (s_sl vB (o_some (q_D (s_bin vB (q_bor k_int rfl)))) o_none)) rfl))) rfl lo) (bis hsv (ss_setLc (.inr rfl) rfl ND rfl rfl rfl (i_seq (q_bor k_str rfl)) (own := [("one",15)]) rfl rfl (by decide) ⟨fun s H c cl fp => (g_v ND rfl lo lo), (fun s H c cl fp => (if_one (q_truth (s_call T.d10 (hr.mono (Nat.le_succ _)) rfl takes_no (s_cons (q_D (s_bin (q_bor (q_D (s_bin (q_bor (q_D (s_sl vB o_none (o_some vA))) rfl) vB)) rfl) (q_bor (q_D (s_sl vB (o_some (q_D (s_bin vB (q_bor k_int rfl)))) o_none)) rfl))) s_nil rfl) rfl rfl (by decide)) rfl fun _ => rfl))), (fun s H c cl fp => (q_D (s_bin (q_bor (q_D (s_bin (q_bor (q_D (s_sl vB o_none (o_some vA))) rfl) vB)) rfl) (q_bor (q_D (s_sl vB (o_some (q_D (s_bin vB (q_bor k_int rfl)))) o_none)) rfl))))⟩ (fun _ => rfl)) (bis hsv (ss_if (PW.pt (w_or (s_cmpT hu (q_bor (s_call T.d4 (hr.mono (Nat.le_succ _)) rfl tk (s_cons vA s_nil rfl) rfl rfl (by decide)) rfl) (q_bor (s_ix hu1q (q_bor (q_D (s_bin vB (q_bor (q_D (s_lst (s_cons k_non s_nil rfl))) rfl))) rfl) k_int rfl) rfl) rfl) (w_or1 (s_cmpT hu (q_bor (q_D (s_bi bi_len rfl G.free_len (by decide +kernel) (b_cons vB b_nil rfl) rfl rfl (by decide) (by decide))) rfl) (q_bor k_int rfl) rfl)))) (bis hsv (ss_ret (.inr rfl) k_bl) ss_nil) ss_nil) (bis hsv (ss_set (.inr rfl) ND rfl lo (q_D (s_lst s_nil)) rfl lo) (bis hsv (ss_for hsv hpo rfl (q_rng1 rfl G.free_range k_int rfl) (g_v ND rfl lo lo) (bis hsv (ss_set (.inr rfl) ND rfl lo (q_D (s_bin vB (q_bor (q_D (s_lc rfl ND (i_seq (q_bor k_str rfl)) (own := [("one",15)]) rfl rfl (by decide) ⟨fun s H c cl fp => (g_v ND rfl lo lo), (fun s H c cl fp => if_none), (fun s H c cl fp => (q_D (s_bin (q_bor (q_D (s_bin (q_bor (q_D (s_sl vB o_none (o_some vA))) rfl) vB)) rfl) (q_bor (q_D (s_sl vB (o_some (q_D (s_bin vB (q_bor k_int rfl)))) o_none)) rfl))))⟩ (fun _ => rfl))) rfl))) rfl lo) ss_nil) (fun _ => rfl)) (bis hsv (ss_set (.inr rfl) ND rfl lo (q_D (s_bin vB (q_bor (q_D (s_lc rfl ND (q_rngB (q_rng1 rfl G.free_range k_int rfl)) (own := [("at",13)]) rfl rfl (by decide) ⟨fun s H c cl fp => (g_v ND rfl lo lo), (fun s H c cl fp => if_none), (fun s H c cl fp => (q_D (s_bin (q_bor (q_D (s_bin (q_bor (q_D (s_bin (q_bor (q_D (s_sl vB o_none (o_some vA))) rfl) (q_bor (s_ix hu1q vB (q_D (s_bin vB (q_bor k_int rfl))) rfl) rfl))) rfl) (q_bor (s_ix hu1q vB vA rfl) rfl))) rfl) (q_bor (q_D (s_sl vB (o_some (q_D (s_bin vB (q_bor k_int rfl)))) o_none)) rfl))))⟩ (fun _ => rfl))) rfl))) rfl lo) (bis hsv (ss_if (s_notT (q_truth (s_call T.d8 (hr.mono (Nat.le_succ _)) rfl tk (s_cons (s_call T.d5 (hr.mono (Nat.le_succ _)) rfl tk (s_cons vA s_nil rfl) rfl rfl (by decide)) (s_cons (q_D (s_biT bi_tuple rfl G.free_tuple (by decide +kernel) (b_cons (q_bor (q_D (s_sst rfl hu64q rfl G.free_sorted rfl G.free_set (q_bor (q_D (s_lc rfl ND (i_seq vB) (own := [("one",15)]) rfl rfl (by decide) ⟨fun s H c cl fp => (g_v ND rfl lo lo), (fun s H c cl fp => (if_one (PW.pt (w_and (s_cmpT hu vB vB rfl) (w_and1 (q_truth (s_call T.d10 (hr.mono (Nat.le_succ _)) rfl takes_no (s_cons vA s_nil rfl) rfl rfl (by decide)) rfl fun _ => rfl)))))), (fun s H c cl fp => vA)⟩ (fun _ => rfl))) rfl) rfl)) rfl) b_nil rfl) rfl rfl (by decide) (by decide))) s_nil rfl) rfl) rfl rfl (by decide)) rfl fun _ => rfl)) (bis hsv (ss_ret (.inr rfl) k_bl) ss_nil) ss_nil) (bis hsv (ss_if (s_cmpT hu (q_bor (s_call T.d5 (hr.mono (Nat.le_succ _)) rfl tk (s_cons vA s_nil rfl) rfl rfl (by decide)) rfl) (q_bor (s_tup s_nil) rfl) rfl) (bis hsv (ss_ret (.inr rfl) k_bl) ss_nil) ss_nil) (bis hsv (ss_for hsv hpo rfl (i_seqF (q_D (s_lst (s_cons k_non (s_cons k_int (s_cons k_str (s_cons (q_D (s_bin vB (q_bor k_str rfl))) (s_cons (q_D (s_sl vB o_none (o_some k_int))) (s_cons (q_D (s_bin (q_bor k_str rfl) (q_bor (q_D (s_sl vB (o_some k_int) o_none)) rfl))) (s_cons (q_D (s_bin (q_bor (q_D (s_sl vB o_none (o_some k_int))) rfl) (q_bor k_str rfl))) (s_cons (q_D (s_bin (q_bor k_str rfl) (q_bor (q_D (s_sl vB (o_some k_int) o_none)) rfl))) (s_cons (q_D (s_bin (q_bor (q_D (s_lst (s_cons k_str s_nil rfl))) rfl) (q_bor k_int rfl))) (s_cons k_bl s_nil rfl) rfl) rfl) rfl) rfl) rfl) rfl) rfl) rfl) rfl)))) (g_v ND rfl lo lo) (bis hsv (ss_if (PW.pt (w_or (s_cmpT hu (q_bor (s_call T.d2 (hr.mono (Nat.le_succ _)) rfl tk (s_cons vA s_nil rfl) rfl rfl (by decide)) rfl) (q_bor k_bl rfl) rfl) (w_or1 (s_cmpT hu (q_bor (s_call T.d3 (hr.mono (Nat.le_succ _)) rfl tk (s_cons vA s_nil rfl) rfl rfl (by decide)) rfl) (q_bor k_non rfl) rfl)))) (bis hsv (ss_ret (.inr rfl) k_bl) ss_nil) ss_nil) ss_nil) (fun _ => rfl)) (bis hsv (ss_ret (.inr rfl) k_bl) ss_nil))))))))))))))))))))))))))
end
end Eng
namespace Eng
open PySem PySem.Spec
abbrev oi : Nat := 0
abbrev preS : List D := []
end Eng
set_option Elab.async false
set_option linter.all false
set_option maxRecDepth 100000
set_option maxHeartbeats 0
namespace Eng
open PySem PySem.Spec PyProof.Rows L2
def dd0 : He.DefD := ⟨("check_sign", none), "check_sign", "check_sign", defArgs st0, defBody st0, defScope st0, [], []⟩
def dd1 : He.DefD := ⟨("ticket", none), "ticket", "ticket", defArgs st1, defBody st1, defScope st1, [], []⟩
def dd2 : He.DefD := ⟨("is_ticket", none), "is_ticket", "is_ticket", defArgs st2, defBody st2, defScope st2, [], []⟩
def dd3 : He.DefD := ⟨("number_of", none), "number_of", "number_of", defArgs st3, defBody st3, defScope st3, [], []⟩
def dd4 : He.DefD := ⟨("restored", none), "restored", "restored", defArgs st4, defBody st4, defScope st4, [], []⟩
def dd5 : He.DefD := ⟨("near_tickets", none), "near_tickets", "near_tickets", defArgs st5, defBody st5, defScope st5, [], []⟩
def dd6 : He.DefD := ⟨("_law_taken", none), "_law_taken", "_law_taken", defArgs st6, defBody st6, defScope st6, [], []⟩
def dd7 : He.DefD := ⟨("_law_pick", none), "_law_pick", "_law_pick", defArgs st7, defBody st7, defScope st7, [], []⟩
def dd8 : He.DefD := ⟨("_law_alike", none), "_law_alike", "_law_alike", defArgs st8, defBody st8, defScope st8, [], []⟩
def dd9 : He.DefD := ⟨("_law_sign", none), "_law_sign", "_law_sign", defArgs st9, defBody st9, defScope st9, [], []⟩
def dd10 : He.DefD := ⟨("_law_is_ticket", none), "_law_is_ticket", "_law_is_ticket", defArgs st10, defBody st10, defScope st10, [], []⟩
def dd11 : He.DefD := ⟨("law", none), "law", "law", defArgs st11, defBody st11, defScope st11, [], []⟩
def fns : List He.DefD := [dd0, dd1, dd2, dd3, dd4, dd5, dd6, dd7, dd8, dd9, dd10, dd11]
def xcs : List XcD := []
abbrev prog : Program := PySem.Challenge.pw_pawnkept_k06_whole_tickets
def cks : List (PySem.W.Frag → Bool) := [
  fun K => (He.Fa.str "FIGURES" "0123456789").ok K,
  fun K => (He.Fa.str "LAST" "x").ok K,
  fun K => (He.Fa.int "PRIME" 11).ok K,
  fun K => (He.Fa.free "all").ok K,
  fun K => (He.Fa.free "bool").ok K,
  fun K => (He.Fa.free "enumerate").ok K,
  fun K => (He.Fa.free "int").ok K,
  fun K => (He.Fa.free "isinstance").ok K,
  fun K => (He.Fa.free "len").ok K,
  fun K => (He.Fa.free "list").ok K,
  fun K => (He.Fa.free "range").ok K,
  fun K => (He.Fa.free "set").ok K,
  fun K => (He.Fa.free "sorted").ok K,
  fun K => (He.Fa.free "str").ok K,
  fun K => (He.Fa.free "sum").ok K,
  fun K => (He.Fa.free "tuple").ok K,
  fun K => (He.Fa.glo "check_sign").ok K,
  fun K => (He.Fa.glo "ticket").ok K,
  fun K => (He.Fa.glo "is_ticket").ok K,
  fun K => (He.Fa.glo "number_of").ok K,
  fun K => (He.Fa.glo "restored").ok K,
  fun K => (He.Fa.glo "near_tickets").ok K,
  fun K => (He.Fa.glo "_law_taken").ok K,
  fun K => (He.Fa.glo "_law_pick").ok K,
  fun K => (He.Fa.glo "_law_alike").ok K,
  fun K => (He.Fa.glo "_law_sign").ok K,
  fun K => (He.Fa.glo "_law_is_ticket").ok K,
  fun K => (He.Fa.glo "law").ok K]
def ck (K : PySem.W.Frag) : Bool := cks.all fun f => f K
abbrev rr : PySem.W.OpenRow := PySem.W.OpenLaw.row PySem.Challenge.rw_pawnkept_k06_whole_tickets
noncomputable def gg (w : World) (os : OsState) : Addr → Option Obj := HandSHeadRun.getT (HandSCut.cz.st w os)
abbrev hk : PySem.W.Hook := hookC 5 ck fns xcs
noncomputable def KK (w : World) (os : OsState) : PySem.W.Frag := He.frG (gg w os) (cStatics :: He.asD (gg w os) 5)
theorem kas1 : ∀ w os, He.growD (gg w os) [mainGlobals] = HandSCut.as1 := fun w os => grow_m (by kernel_rfl)
theorem kas2 : ∀ w os, He.growD (gg w os) HandSCut.as1 = HandSCut.as2 := fun w os => grow_m (by kernel_rfl)
theorem kas3 : ∀ w os, He.growD (gg w os) HandSCut.as2 = HandSCut.as3 := fun w os => grow_m (by kernel_rfl)
theorem kas4 : ∀ w os, He.growD (gg w os) HandSCut.as3 = HandSCut.as4 := fun w os => grow_m (by kernel_rfl)
theorem kas5 : ∀ w os, He.growD (gg w os) HandSCut.as4 = HandSCut.as5 := fun w os => grow_m (by kernel_rfl)
theorem kfr : ∀ w os, He.frG (gg w os) (cStatics :: HandSCut.as5) = HandSCut.KLG w.params := by
  intro w os
  kernel_rfl
theorem kk : ∀ w os, KK w os = HandSCut.KLG w.params := by
  intro w os
  show He.frG (gg w os) (cStatics :: (He.growD (gg w os) (He.growD (gg w os) (He.growD (gg w os) (He.growD (gg w os) (He.growD (gg w os) [mainGlobals])))))) = _
  rw [kas1, kas2, kas3, kas4, kas5]
  exact kfr w os
theorem kc0 : ∀ P, ((cks.drop 0).take 60).all (fun f => f (HandSCut.KLG P)) = true := by
  intro P
  kernel_rfl
theorem kf : ∀ P, fns.all (fun d => d.ok (HandSCut.KLG P)) = true := by
  intro P
  kernel_rfl
theorem kv : ∀ P, fns.map (fun d => He.fnW (HandSCut.KLG P) d.at_) = fns.map He.DefD.val := by
  intro P
  kernel_rfl
theorem kx : ∀ P, xcs.map (fun d => fnS (HandSCut.KLG P) d.cls) = xcs.map XcD.val := by
  intro P
  kernel_rfl
theorem ka : ∀ P, ck (HandSCut.KLG P) = true := fun P => all_cut 0 60 (kc0 P) (all_end 60 (by kernel_rfl))
theorem look3 : ∀ w os, hk.obs (HandSCut.cz.st w os).abs = hk.val w := fun w os => look_c (K := HandSCut.KLG w.params) (kk w os).symm (ka _) (kf _) (kv _) (kx _) w
theorem look2 : ∀ w os, HandSHeadRun.seenQ (PySem.W.view rr.prog [16]) ["check_sign", "ticket", "is_ticket", "number_of", "restored", "near_tickets", "_law_taken", "_law_pick", "_law_alike", "_law_sign", "_law_is_ticket", "FIGURES", "PRIME", "LAST"] (PySem.importedModules rr.prog.main.body) (fun s => PySem.W.xlAt (PySem.W.view rr.prog [16]) [] s && PySem.W.recOk rr.toRowW.records s) (HandSCut.cz.st w os).abs = PySem.W.openGood (PySem.W.view rr.prog [16]) ["check_sign", "ticket", "is_ticket", "number_of", "restored", "near_tickets", "_law_taken", "_law_pick", "_law_alike", "_law_sign", "_law_is_ticket", "FIGURES", "PRIME", "LAST"] := by
  intro w os
  kernel_rfl
end Eng
set_option Elab.async false
set_option linter.all false
set_option maxRecDepth 100000
set_option maxHeartbeats 0
namespace Eng
open PySem PySem.Spec PyProof.Rows L2
theorem facts {w : World} {K : PySem.W.Frag} {h : Heap} {mg : Str → Option Value} (X : K.In h) (Gm : h.Ns mainGlobals mg) (c : SaysC ck fns xcs K) : Facts prog w K mg := by
  have get : ∀ (i : Nat) {f : PySem.W.Frag → Bool}, cks[i]? = some f → f K = true := fun i f e => List.all_eq_true.mp c.chk f (List.mem_of_getElem? e)
  exact {
    con_FIGURES := He.str_ok X Gm (get 0 rfl)
    con_LAST := He.str_ok X Gm (get 1 rfl)
    con_PRIME := He.int_ok X Gm (get 2 rfl)
    free_all := He.free_ok X Gm (get 3 rfl)
    free_bool := He.free_ok X Gm (get 4 rfl)
    free_enumerate := He.free_ok X Gm (get 5 rfl)
    free_int := He.free_ok X Gm (get 6 rfl)
    free_isinstance := He.free_ok X Gm (get 7 rfl)
    free_len := He.free_ok X Gm (get 8 rfl)
    free_list := He.free_ok X Gm (get 9 rfl)
    free_range := He.free_ok X Gm (get 10 rfl)
    free_set := He.free_ok X Gm (get 11 rfl)
    free_sorted := He.free_ok X Gm (get 12 rfl)
    free_str := He.free_ok X Gm (get 13 rfl)
    free_sum := He.free_ok X Gm (get 14 rfl)
    free_tuple := He.free_ok X Gm (get 15 rfl)
  }
theorem fn0 {P : Program} {w : World} {K : PySem.W.Frag} {mg : Str → Option Value} {base : Heap} {CX : CXT} {k m : Nat} {f : Addr} {fd : FuncData} {ps : List Str} (h : ∀ vs H Q E, spN K (callN tab 0) m vs H Q E → False) : FnOk P w K mg base CX k f fd ps (spN K (callN tab 0) m) := ⟨fun vs H Q E q => (h vs H Q E q).elim, fun A outer s H args us vs Q E _ _ _ _ q => (h vs H Q E q).elim⟩
theorem spN0 {K : PySem.W.Frag} {m : Nat} (vs : List V) (H : Hp) (Q : VK) (E : XK) : spN K (callN tab 0) m vs H Q E → False := fun ⟨_, _, _, _, _, _, p⟩ => p
theorem table {w : World} {K : PySem.W.Frag} {h : Heap} {mg : Str → Option Value} {base : Heap} (X : K.In h) (Gm : h.Ns mainGlobals mg) (c : SaysC ck fns xcs K) : ∀ n, TabOk prog w K mg base n := by
  have get : ∀ (i : Nat) {f : PySem.W.Frag → Bool}, cks[i]? = some f → f K = true := fun i f e => List.all_eq_true.mp c.chk f (List.mem_of_getElem? e)
  have G : Facts prog w K mg := facts X Gm c
  obtain ⟨fd0, F0⟩ := c.def_ 0 (d := dd0) rfl
  have b0 : Binds K fd0 ["figures"] [] := FunD.bindsN F0 fun _ _ _ _ _ _ us hl => match us, hl with | [_], _ => rfl
  obtain ⟨fd1, F1⟩ := c.def_ 1 (d := dd1) rfl
  have b1 : Binds K fd1 ["number"] [] := FunD.bindsN F1 fun _ _ _ _ _ _ us hl => match us, hl with | [_], _ => rfl
  obtain ⟨fd2, F2⟩ := c.def_ 2 (d := dd2) rfl
  have b2 : Binds K fd2 ["value"] [] := FunD.bindsN F2 fun _ _ _ _ _ _ us hl => match us, hl with | [_], _ => rfl
  obtain ⟨fd3, F3⟩ := c.def_ 3 (d := dd3) rfl
  have b3 : Binds K fd3 ["value"] [] := FunD.bindsN F3 fun _ _ _ _ _ _ us hl => match us, hl with | [_], _ => rfl
  obtain ⟨fd4, F4⟩ := c.def_ 4 (d := dd4) rfl
  have b4 : Binds K fd4 ["value"] [] := FunD.bindsN F4 fun _ _ _ _ _ _ us hl => match us, hl with | [_], _ => rfl
  obtain ⟨fd5, F5⟩ := c.def_ 5 (d := dd5) rfl
  have b5 : Binds K fd5 ["value"] [] := FunD.bindsN F5 fun _ _ _ _ _ _ us hl => match us, hl with | [_], _ => rfl
  obtain ⟨fd6, F6⟩ := c.def_ 6 (d := dd6) rfl
  have b6 : Binds K fd6 ["row", "many"] [] := FunD.bindsN F6 fun _ _ _ _ _ _ us hl => match us, hl with | [_, _], _ => rfl
  obtain ⟨fd7, F7⟩ := c.def_ 7 (d := dd7) rfl
  have b7 : Binds K fd7 ["row", "kinds"] [] := FunD.bindsN F7 fun _ _ _ _ _ _ us hl => match us, hl with | [_, _], _ => rfl
  obtain ⟨fd8, F8⟩ := c.def_ 8 (d := dd8) rfl
  have b8 : Binds K fd8 ["found", "due"] [] := FunD.bindsN F8 fun _ _ _ _ _ _ us hl => match us, hl with | [_, _], _ => rfl
  obtain ⟨fd9, F9⟩ := c.def_ 9 (d := dd9) rfl
  have b9 : Binds K fd9 ["figures"] [] := FunD.bindsN F9 fun _ _ _ _ _ _ us hl => match us, hl with | [_], _ => rfl
  obtain ⟨fd10, F10⟩ := c.def_ 10 (d := dd10) rfl
  have b10 : Binds K fd10 ["text"] [] := FunD.bindsN F10 fun _ _ _ _ _ _ us hl => match us, hl with | [_], _ => rfl
  obtain ⟨fd11, F11⟩ := c.def_ 11 (d := dd11) rfl
  have b11 : Binds K fd11 ["script"] [] := FunD.bindsN F11 fun _ _ _ _ _ _ us hl => match us, hl with | [_], _ => rfl
  intro n
  induction n with
  | zero => exact ⟨⟨⟨fd0, ["figures"], fn0 spN0, b0⟩, He.glo_ok X Gm (get 16 rfl), F0.kp⟩, ⟨⟨fd1, ["number"], fn0 spN0, b1⟩, He.glo_ok X Gm (get 17 rfl), F1.kp⟩, ⟨⟨fd2, ["value"], fn0 spN0, b2⟩, He.glo_ok X Gm (get 18 rfl), F2.kp⟩, ⟨⟨fd3, ["value"], fn0 spN0, b3⟩, He.glo_ok X Gm (get 19 rfl), F3.kp⟩, ⟨⟨fd4, ["value"], fn0 spN0, b4⟩, He.glo_ok X Gm (get 20 rfl), F4.kp⟩, ⟨⟨fd5, ["value"], fn0 spN0, b5⟩, He.glo_ok X Gm (get 21 rfl), F5.kp⟩, ⟨⟨fd6, ["row", "many"], fn0 spN0, b6⟩, He.glo_ok X Gm (get 22 rfl), F6.kp⟩, ⟨⟨fd7, ["row", "kinds"], fn0 spN0, b7⟩, He.glo_ok X Gm (get 23 rfl), F7.kp⟩, ⟨⟨fd8, ["found", "due"], fn0 spN0, b8⟩, He.glo_ok X Gm (get 24 rfl), F8.kp⟩, ⟨⟨fd9, ["figures"], fn0 spN0, b9⟩, He.glo_ok X Gm (get 25 rfl), F9.kp⟩, ⟨⟨fd10, ["text"], fn0 spN0, b10⟩, He.glo_ok X Gm (get 26 rfl), F10.kp⟩, ⟨⟨fd11, ["script"], fn0 spN0, b11⟩, He.glo_ok X Gm (get 27 rfl), F11.kp⟩⟩
  | succ n T => exact ⟨⟨⟨fd0, ["figures"], fn_ok (N := N0) (n := n) (k := 2 * n + 1) (fi := ⟨1, 5, ir0, none⟩) F0 ⟨rfl, rfl, rfl, by decide, rfl, by decide +kernel, by decide +kernel⟩ rfl rfl rfl rfl (by decide) (fun cdv A outer s H E W hsv hx tk hr => body0 G T _ _ cdv A outer s H E W hsv hx tk hr), b0⟩, He.glo_ok X Gm (get 16 rfl), F0.kp⟩,
      ⟨⟨fd1, ["number"], fn_ok (N := N1) (n := n) (k := 2 * n + 1) (fi := ⟨1, 2, ir1, none⟩) F1 ⟨rfl, rfl, rfl, by decide, rfl, by decide +kernel, by decide +kernel⟩ rfl rfl rfl rfl (by decide) (fun cdv A outer s H E W hsv hx tk hr => body1 G T _ _ cdv A outer s H E W hsv hx tk hr), b1⟩, He.glo_ok X Gm (get 17 rfl), F1.kp⟩,
      ⟨⟨fd2, ["value"], fn_ok (N := N2) (n := n) (k := 2 * n + 1) (fi := ⟨1, 2, ir2, none⟩) F2 ⟨rfl, rfl, rfl, by decide, rfl, by decide +kernel, by decide +kernel⟩ rfl rfl rfl rfl (by decide) (fun cdv A outer s H E W hsv hx tk hr => body2 G T _ _ cdv A outer s H E W hsv hx tk hr), b2⟩, He.glo_ok X Gm (get 18 rfl), F2.kp⟩,
      ⟨⟨fd3, ["value"], fn_ok (N := N3) (n := n) (k := 2 * n + 1) (fi := ⟨1, 1, ir3, none⟩) F3 ⟨rfl, rfl, rfl, by decide, rfl, by decide +kernel, by decide +kernel⟩ rfl rfl rfl rfl (by decide) (fun cdv A outer s H E W hsv hx tk hr => body3 G T _ _ cdv A outer s H E W hsv hx tk hr), b3⟩, He.glo_ok X Gm (get 19 rfl), F3.kp⟩,
      ⟨⟨fd4, ["value"], fn_ok (N := N4) (n := n) (k := 2 * n + 1) (fi := ⟨1, 4, ir4, none⟩) F4 ⟨rfl, rfl, rfl, by decide, rfl, by decide +kernel, by decide +kernel⟩ rfl rfl rfl rfl (by decide) (fun cdv A outer s H E W hsv hx tk hr => body4 G T _ _ cdv A outer s H E W hsv hx tk hr), b4⟩, He.glo_ok X Gm (get 20 rfl), F4.kp⟩,
      ⟨⟨fd5, ["value"], fn_ok (N := N5) (n := n) (k := 2 * n + 1) (fi := ⟨1, 5, ir5, none⟩) F5 ⟨rfl, rfl, rfl, by decide, rfl, by decide +kernel, by decide +kernel⟩ rfl rfl rfl rfl (by decide) (fun cdv A outer s H E W hsv hx tk hr => body5 G T _ _ cdv A outer s H E W hsv hx tk hr), b5⟩, He.glo_ok X Gm (get 21 rfl), F5.kp⟩,
      ⟨⟨fd6, ["row", "many"], fn_ok (N := N6) (n := n) (k := 2 * n + 1) (fi := ⟨2, 4, ir6, none⟩) F6 ⟨rfl, rfl, rfl, by decide, rfl, by decide +kernel, by decide +kernel⟩ rfl rfl rfl rfl (by decide) (fun cdv A outer s H E W hsv hx tk hr => body6 G T _ _ cdv A outer s H E W hsv hx tk hr), b6⟩, He.glo_ok X Gm (get 22 rfl), F6.kp⟩,
      ⟨⟨fd7, ["row", "kinds"], fn_ok (N := N7) (n := n) (k := 2 * n + 1) (fi := ⟨2, 2, ir7, none⟩) F7 ⟨rfl, rfl, rfl, by decide, rfl, by decide +kernel, by decide +kernel⟩ rfl rfl rfl rfl (by decide) (fun cdv A outer s H E W hsv hx tk hr => body7 G T _ _ cdv A outer s H E W hsv hx tk hr), b7⟩, He.glo_ok X Gm (get 23 rfl), F7.kp⟩,
      ⟨⟨fd8, ["found", "due"], fn_ok (N := N8) (n := n) (k := 2 * n + 1) (fi := ⟨2, 3, ir8, none⟩) F8 ⟨rfl, rfl, rfl, by decide, rfl, by decide +kernel, by decide +kernel⟩ rfl rfl rfl rfl (by decide) (fun cdv A outer s H E W hsv hx tk hr => body8 G T _ _ cdv A outer s H E W hsv hx tk hr), b8⟩, He.glo_ok X Gm (get 24 rfl), F8.kp⟩,
      ⟨⟨fd9, ["figures"], fn_ok (N := N9) (n := n) (k := 2 * n + 1) (fi := ⟨1, 5, ir9, none⟩) F9 ⟨rfl, rfl, rfl, by decide, rfl, by decide +kernel, by decide +kernel⟩ rfl rfl rfl rfl (by decide) (fun cdv A outer s H E W hsv hx tk hr => body9 G T _ _ cdv A outer s H E W hsv hx tk hr), b9⟩, He.glo_ok X Gm (get 25 rfl), F9.kp⟩,
      ⟨⟨fd10, ["text"], fn_ok (N := N10) (n := n) (k := 2 * n + 1) (fi := ⟨1, 2, ir10, none⟩) F10 ⟨rfl, rfl, rfl, by decide, rfl, by decide +kernel, by decide +kernel⟩ rfl rfl rfl rfl (by decide) (fun cdv A outer s H E W hsv hx tk hr => body10 G T _ _ cdv A outer s H E W hsv hx tk hr), b10⟩, He.glo_ok X Gm (get 26 rfl), F10.kp⟩,
      ⟨⟨fd11, ["script"], fn_ok (N := N11) (n := n) (k := 2 * n + 1) (fi := ⟨1, 17, ir11, none⟩) F11 ⟨rfl, rfl, rfl, by decide, rfl, by decide +kernel, by decide +kernel⟩ rfl rfl rfl rfl (by decide) (fun cdv A outer s H E W hsv hx tk hr => body11 G T _ _ cdv A outer s H E W hsv hx tk hr), b11⟩, He.glo_ok X Gm (get 27 rfl), F11.kp⟩⟩
end Eng
set_option Elab.async false
set_option linter.all false
set_option maxRecDepth 100000
set_option maxHeartbeats 0
open PySem PySem.Spec PySem.W PySem.Calls PyProof.Rows L2 Eng
theorem Eng.law_of (LT : ∀ ns : List Int, ∃ st, Eng.callN Eng.tab 10 11 [.scr ns] [] = .ok (.bl true) st) : PySem.Challenge.rw_pawnkept_k06_whole_tickets.Holds := by
  w_on; o_law
  refine HandSCut.head_cut (r := Eng.rr) (k := HandSCut.com) (q := PySem.W.view Eng.rr.prog [16]) (H := Eng.hk) (loose := ["check_sign", "ticket", "is_ticket", "number_of", "restored", "near_tickets", "_law_taken", "_law_pick", "_law_alike", "_law_sign", "_law_is_ticket", "FIGURES", "PRIME", "LAST"]) (d := HandSHeadRun.topDef Eng.rr.prog 16) (kwd := []) (z := HandSCut.cz) HandSCut.whole rfl
    (by kernel_rfl) (fun s => by kernel_rfl) HandSCut.boot_n HandSCut.boot_a HandSCut.look1 Eng.look2 Eng.look3 (by kernel_rfl) (by kernel_rfl) (by kernel_rfl) (by rfl) (by first | assumption | decide +kernel) (by decide +kernel) ⟨rfl, rfl, rfl, rfl, rfl, by decide +kernel⟩ ?hw ?hc
  case hw => w_witness2
  case hc =>
    refine Eng.walk_ofW (l := PySem.Challenge.rw_pawnkept_k06_whole_tickets) (n := 63) (k := 20) (x := "script") (CX := L2.CX (PySem.Challenge.rw_pawnkept_k06_whole_tickets).prog) rfl (by decide) (by kernel_rfl) ⟨rfl, by decide, by decide⟩ ?F (fun _ _ _ _ _ z => Eng.cx_law z)
    intro w mg fa h Y G hmg0
    obtain ⟨K, KX, c⟩ := Y
    have hmg : mg ("law" : PySem.Str) = some (.ref fa) := by
      have e : (HandSHeadRun.topDef Eng.rr.prog 16).name = ("law" : PySem.Str) := by kernel_rfl
      rw [← e]
      exact hmg0
    have get : ∀ (i : Nat) {f : PySem.W.Frag → Bool}, Eng.cks[i]? = some f → f K = true := fun i f e => List.all_eq_true.mp c.chk f (List.mem_of_getElem? e)
    have e := hmg.symm.trans (He.glo_ok KX G (get 27 rfl))
    cases e
    obtain ⟨fd, F⟩ := c.def_ 11 (d := Eng.dd11) rfl
    have b := FunD.bindsA (ps := ["script"]) F fun _ _ _ _ _ _ us hl => match us, hl with | [_], _ => rfl
    exact ⟨K, fd, Eng.spN K (Eng.callN Eng.tab 10) 11, KX, fun s v => b s [v] rfl, fun H a ns hl _ hS => Eng.law_sp hS (LT ns), fun base _ _ =>
      Eng.fn_ok (N := Eng.N11) (n := 9) (k := 2 * 9 + 1) (fi := ⟨1, 17, Eng.ir11, none⟩) F ⟨rfl, rfl, rfl, by decide, rfl, by decide +kernel, by decide +kernel⟩ rfl rfl rfl rfl (by decide) (fun cdv A outer s H E W hsv hx tk hr => Eng.body11 (Eng.facts KX G c) (Eng.table KX G c 9) _ _ cdv A outer s H E W hsv hx tk hr)⟩
set_option Elab.async false
set_option linter.all false
set_option maxRecDepth 100000
set_option maxHeartbeats 2000000
namespace Eng
open PySem PySem.Spec L2
section
variable {C : Calls} {env : Env} {st : Store}
@[simp] theorem e_var (i : Nat) : (evP C env (.var i)).1 st = ofO (getV env i) st := rfl
@[simp] theorem e_c (d : D) : (evP C env (.c d)).1 st = .ok d st := rfl
@[simp] theorem e_gl (x : Str) (d : D) : (evP C env (.gl x d)).1 st = .ok d st := rfl
@[simp] theorem e_fn (x : Str) : (evP C env (.fn x)).1 st = .ok (.fn x) st := rfl
@[simp] theorem e_bin (op : Operator) (a b : E) : (evP C env (.bin op a b)).1 st = (bor env a (evP C env a).1 st).bnd fun x st => (bor env b (evP C env b).1 st).bnd fun y st => ofO (binD op x y) st := rfl
@[simp] theorem e_neg (a : E) : (evP C env (.neg a)).1 st = ((evP C env a).1 st).bnd fun x st => (match x with | .int i => .ok (.int (-i)) st | _ => .bad) := rfl
@[simp] theorem e_not (a : E) : (evP C env (.not a)).1 st = ((evP C env a).1 st).bnd fun d st => (ofO (truthD d) st).bnd fun b st => .ok (.bl (!b)) st := rfl
@[simp] theorem t_not (a : E) : (evP C env (.not a)).2 st = ((evP C env a).2 st).bnd fun b st => .ok (!b) st := rfl
@[simp] theorem e_cmp (op : CmpOp) (a b : E) : (evP C env (.cmp op a b)).1 st = (bor env a (evP C env a).1 st).bnd fun x st => (bor env b (evP C env b).1 st).bnd fun y st => ofO ((cmpD op x y).map .bl) st := rfl
@[simp] theorem t_cmp (op : CmpOp) (a b : E) : (evP C env (.cmp op a b)).2 st = ((evP C env (.cmp op a b)).1 st).bnd fun d st => ofO (truthD d) st := rfl
@[simp] theorem e_cmp2 (op op' : CmpOp) (a b c : E) : (evP C env (.cmp2 op op' a b c)).1 st = ((evP C env a).1 st).bnd fun x st => ((evP C env b).1 st).bnd fun y st => (ofO (cmpD op x y) st).bnd fun r st => (match r with
    | true => ((evP C env c).1 st).bnd fun z st => ofO ((cmpD op' y z).map .bl) st
    | false => .ok (.bl false) st) := rfl
@[simp] theorem t_cmp2 (op op' : CmpOp) (a b c : E) : (evP C env (.cmp2 op op' a b c)).2 st = ((evP C env (.cmp2 op op' a b c)).1 st).bnd fun d st => ofO (truthD d) st := rfl
@[simp] theorem e_and (es : Es) : (evP C env (.and es)).1 st = evAnd C env es st := rfl
@[simp] theorem t_and (es : Es) : (evP C env (.and es)).2 st = evTAnd C env es st := rfl
@[simp] theorem e_or (es : Es) : (evP C env (.or es)).1 st = evOr C env es st := rfl
@[simp] theorem t_or (es : Es) : (evP C env (.or es)).2 st = evTOr C env es st := rfl
@[simp] theorem e_ife (c a b : E) : (evP C env (.ife c a b)).1 st = ((evP C env c).2 st).bnd fun r st => (match r with | true => (evP C env a).1 st | false => (evP C env b).1 st) := rfl
@[simp] theorem e_tup (es : Es) : (evP C env (.tup es)).1 st = (evEs C env es st).bnd fun ds st => chkO (decide (ds.length ≤ sizeLine)) (.ok (.tup ds) st) := rfl
@[simp] theorem e_lst (es : Es) : (evP C env (.lst es)).1 st = (evEs C env es st).bnd fun ds st => chkO (decide (ds.length ≤ sizeLine)) (.ok (.lst ds) st) := rfl
@[simp] theorem e_ix (a i : E) : (evP C env (.ix a i)).1 st = (bor env a (evP C env a).1 st).bnd fun x st => ((evP C env i).1 st).bnd fun k st => ofO ((deref st x).bind fun x => ixS x k) st := rfl
@[simp] theorem e_sl (a : E) (lo hi : Op) : (evP C env (.sl a lo hi)).1 st = (bor env a (evP C env a).1 st).bnd fun x st => (evO C env lo st).bnd fun l st => (evO C env hi st).bnd fun h st => ofO (slD x l h) st := rfl
@[simp] theorem e_call (f : Nat) (es : Es) : (evP C env (.call f es)).1 st = (evEs C env es st).bnd fun ds st => C f ds st := rfl
@[simp] theorem t_call (f : Nat) (es : Es) : (evP C env (.call f es)).2 st = ((evP C env (.call f es)).1 st).bnd fun d st => ofO (truthD d) st := rfl
@[simp] theorem e_callv (i : Nat) (fs : List (Str × Nat)) (es : Es) : (evP C env (.callv i fs es)).1 st = (ofO ((getV env i).bind (fnIx fs)) st).bnd fun n st => (evEs C env es st).bnd fun ds st => C n ds st := rfl
@[simp] theorem t_callv (i : Nat) (fs : List (Str × Nat)) (es : Es) : (evP C env (.callv i fs es)).2 st = ((evP C env (.callv i fs es)).1 st).bnd fun d st => ofO (truthD d) st := rfl
@[simp] theorem e_attr (o : E) (c f : Str) : (evP C env (.attr o c f)).1 st = (bor env o (evP C env o).1 st).bnd fun x st => ofO ((deref st x).bind (attrD c f)) st := rfl
@[simp] theorem e_meth (o : E) (c m : Str) (f : Nat) (es : Es) : (evP C env (.meth o c m f es)).1 st = ((evP C env o).1 st).bnd fun x st => (ofO (deref st x) st).bnd fun y st => chkO (insIs c m y) ((evEs C env es st).bnd fun ds st => C f (x :: ds) st) := rfl
@[simp] theorem e_eqo (neg : Bool) (a : E) (c : Str) (f : Nat) (b : E) : (evP C env (.eqo neg a c f b)).1 st = ((evP C env a).1 st).bnd fun x st => ((evP C env b).1 st).bnd fun y st => chkO (insIs c "__eq__" x && eqR c y) (((C f [x, y] st).nox).bnd fun r st => (match r with | .bl k => .ok (.bl (if neg = true then !k else k)) st | _ => .bad)) := rfl
@[simp] theorem t_eqo (neg : Bool) (a : E) (c : Str) (f : Nat) (b : E) : (evP C env (.eqo neg a c f b)).2 st = ((evP C env (.eqo neg a c f b)).1 st).bnd fun d st => ofO (truthD d) st := rfl
@[simp] theorem e_xf (i : Nat) (al : List Str) (f : Str) : (evP C env (.xf i al f)).1 st = (match env[i]? with | some (.xc c ks ds) => chkO (decide (c ∈ al)) (ofO (fldD f ks ds) st) | _ => .bad) := rfl
@[simp] theorem e_bi (b : String) (es : Es) : (evP C env (.bi b es)).1 st = (evBs C env es st).bnd fun ds st => ofO (biD b ds) st := rfl
@[simp] theorem e_isi (a : E) (ts : List String) : (evP C env (.isi a ts)).1 st = (bor env a (evP C env a).1 st).bnd fun x st => ofO ((isTys ts x).map .bl) st := rfl
@[simp] theorem t_isi (a : E) (ts : List String) : (evP C env (.isi a ts)).2 st = ((evP C env (.isi a ts)).1 st).bnd fun d st => ofO (truthD d) st := rfl
@[simp] theorem e_isc (a : E) (c : Str) : (evP C env (.isc a c)).1 st = (bor env a (evP C env a).1 st).bnd fun x st => ofO ((isCls c x).map .bl) st := rfl
@[simp] theorem t_isc (a : E) (c : Str) : (evP C env (.isc a c)).2 st = ((evP C env (.isc a c)).1 st).bnd fun d st => ofO (truthD d) st := rfl
@[simp] theorem e_me (m : String) (o : E) (es : Es) : (evP C env (.me m o es)).1 st = (bor env o (evP C env o).1 st).bnd fun x st => chkO (isMe m x) ((evBs C env es st).bnd fun ds st => ofO (meD m x ds) st) := rfl
@[simp] theorem t_var (i : Nat) : (evP C env (.var i)).2 st = ((evP C env (.var i)).1 st).bnd fun d st => ofO (truthD d) st := rfl
end
theorem call_fn {tab : List FnI} {i ps ns : Nat} {body : Ss} (h : tab[i]? = some ⟨ps, ns, body, none⟩) (n : Nat) (ds : List D) (st : Store) (hl : ds.length = ps) : callN tab (n + 1) i ds st = endD (evSs (callN tab n) body (ds.map .val ++ List.replicate (ns - ps) .no) st) := by
  show (match tab[i]? with | some fi => runF (callN tab n) fi ds st | none => .bad) = _
  rw [h]
  show runF (callN tab n) _ ds st = _
  unfold runF
  rw [decide_eq_true hl]
theorem call_in {tab : List FnI} {i ps ns : Nat} {body : Ss} {c : Str} {m : Bool} (h : tab[i]? = some ⟨ps, ns, body, some (c, m)⟩) (n : Nat) (ds : List D) (st : Store) (hl : ds.length = ps) : callN tab (n + 1) i ds st = endI m (evSs (callN tab n) body (.own (.ins c [] []) :: (ds.map .val ++ List.replicate (ns - ps) .no)) st) := by
  show (match tab[i]? with | some fi => runF (callN tab n) fi ds st | none => .bad) = _
  rw [h]
  show runF (callN tab n) _ ds st = _
  unfold runF
  rw [decide_eq_true hl]
theorem evSs_next {C : Calls} {s : S} {ss : Ss} {env env' : Env} {st st' : Store} (h : evS C s env st = .ok (.nx env') st') : evSs C (.cons s ss) env st = evSs C ss env' st' := by
  show (evS C s env st).bnd _ = _
  rw [h]
  rfl
theorem evSs_ret {C : Calls} {s : S} {ss : Ss} {env : Env} {st st' : Store} {d : D} (h : evS C s env st = .ok (.rt d) st') : evSs C (.cons s ss) env st = .ok (.rt d) st' := by
  show (evS C s env st).bnd _ = _
  rw [h]
  rfl
theorem evSs_ex {C : Calls} {s : S} {ss : Ss} {env : Env} {st st' : Store} {c : Str} {ks : List Str} {ds : List D} (h : evS C s env st = .ex c ks ds st') : evSs C (.cons s ss) env st = .ex c ks ds st' := by
  show (evS C s env st).bnd _ = _
  rw [h]
  rfl
/-- a comprehension that draws nothing -/
theorem lcGo_pure {step : D → Store → Out (Option D)} {f : D → Option D} {st : Store} : ∀ {ds : List D}, (∀ d ∈ ds, step d st = .ok (f d) st) → lcGo step ds st = .ok (ds.filterMap f) st
  | [], _ => rfl
  | d :: ds, h => by
    show (((step d st).nox).bnd fun r st1 => (lcGo step ds st1).bnd fun acc st2 => .ok (match r with | some y => y :: acc | none => acc) st2) = _
    rw [h d List.mem_cons_self]
    show (lcGo step ds st).bnd _ = _
    rw [lcGo_pure fun d hd => h d (List.mem_cons_of_mem _ hd), List.filterMap_cons]
    cases f d <;> rfl
theorem lc_ok {C : Calls} {env : Env} {elt : E} {tg : Tg} {it : It} {ifs : Op} {ws : List Nat} {st : Store} {ds : List D} (f : D → Option D) (hit : evIt C env it st = .ok ds st)
    (h : ∀ d ∈ ds, ∃ env', bind1 tg d (wipeE env ws) = some env' ∧ ((f d = none ∧ evIf C env' ifs st = .ok false st) ∨ ∃ y, f d = some y ∧ evIf C env' ifs st = .ok true st ∧ (evP C env' elt).1 st = .ok y st)) :
    (evP C env (.lc elt tg it ifs ws)).1 st = .ok (.lst (ds.filterMap f)) st := by
  show (evIt C env it st).bnd _ = _
  rw [hit, Out.bnd_ok, lcGo_pure (f := f) fun d hd => ?_]
  · rfl
  · obtain ⟨env', e1, h1⟩ := h d hd
    rw [e1]
    show (evIf C env' ifs st).bnd _ = _
    rcases h1 with ⟨e2, e3⟩ | ⟨y, e2, e3, e4⟩
    · rw [e3, e2]
      rfl
    · rw [e3, e2]
      show ((evP C env' elt).1 st).bnd _ = _
      rw [e4]
      rfl
/-- with a test that keeps or drops -/
theorem lc_filter {C : Calls} {env : Env} {elt : E} {tg : Tg} {it : It} {c : E} {ws : List Nat} {st : Store} {ds : List D} (p : D → Bool) (f : D → D) (hit : evIt C env it st = .ok ds st)
    (h : ∀ d ∈ ds, ∃ env', bind1 tg d (wipeE env ws) = some env' ∧ (evP C env' c).2 st = .ok (p d) st ∧ (p d = true → (evP C env' elt).1 st = .ok (f d) st)) : (evP C env (.lc elt tg it (.so c) ws)).1 st = .ok (.lst ((ds.filter p).map f)) st := by
  have := lc_ok (C := C) (env := env) (elt := elt) (tg := tg) (it := it) (ifs := .so c) (ws := ws) (st := st) (ds := ds) (fun d => if p d = true then some (f d) else none) hit fun d hd => by
    obtain ⟨env', e1, e2, e3⟩ := h d hd
    refine ⟨env', e1, ?_⟩
    by_cases q : p d = true
    · exact .inr ⟨f d, by rw [if_pos q], by rw [← q]; exact e2, e3 q⟩
    · have q' : p d = false := by simpa using q
      exact .inl ⟨by rw [if_neg q], by rw [← q']; exact e2⟩
  rw [this]
  congr 2
  clear this h hit
  induction ds with
  | nil => rfl
  | cons d ds ih =>
    rw [List.filterMap_cons, List.filter_cons]
    by_cases q : p d = true
    · rw [if_pos q, if_pos q, List.map_cons, ih]
    · rw [if_neg q, if_neg q, ih]
/-- item by item -/
inductive All2 {α β : Type} (R : α → β → Prop) : List α → List β → Prop
  | nil : All2 R [] []
  | cons {a : α} {b : β} {as : List α} {bs : List β} : R a b → All2 R as bs → All2 R (a :: as) (b :: bs)
def iWhole : Ss := (.cons (.ret [] (.and (.cons (.isi (.var 0) ["int"]) (.cons (.not (.isi (.var 0) ["bool"])) .nil)))) .nil)
def iRow : Ss := (.cons (.ret [] (.isi (.var 0) ["list","tuple"])) .nil)
def iTaken : Ss := (.cons (.ifs (.cmp .Gt (.ix (.var 0) (.c (.int 3))) (.c (.int 0))) (.cons (.asg [] (.v 2) (.bin .Mod (.bi "int" (.cons (.ix (.var 0) (.c (.int 3))) .nil)) (.var 1))) (.cons (.setI [] 0 (.c (.int 3)) (.bin .FloorDiv (.ix (.var 0) (.c (.int 3))) (.var 1))) (.cons (.ret [] (.var 2)) .nil))) .nil) (.cons (.setI [] 0 (.c (.int 1)) (.bin .Add (.ix (.var 0) (.c (.int 1))) (.c (.int 1)))) (.cons (.ifs (.cmp .Gt (.ix (.var 0) (.c (.int 1))) (.bi "len" (.cons (.ix (.var 0) (.c (.int 0))) .nil))) (.cons (.setI [] 0 (.c (.int 2)) (.bin .Mod (.bi "int" (.cons (.bin .Add (.bin .Mult (.ix (.var 0) (.c (.int 2))) (.c (.int 48271))) (.c (.int 11))) .nil)) (.c (.int 2147483647)))) (.cons (.ret [] (.bin .Mod (.bi "int" (.cons (.bin .FloorDiv (.ix (.var 0) (.c (.int 2))) (.c (.int 7))) .nil)) (.var 1))) .nil)) .nil) (.cons (.asg [] (.v 3) (.ix (.ix (.var 0) (.c (.int 0))) (.bin .Sub (.ix (.var 0) (.c (.int 1))) (.c (.int 1))))) (.cons (.setI [] 0 (.c (.int 2)) (.bin .Mod (.bi "int" (.cons (.bin .Add (.bin .Add (.bin .Mult (.ix (.var 0) (.c (.int 2))) (.c (.int 48271))) (.var 3)) (.c (.int 11))) .nil)) (.c (.int 2147483647)))) (.cons (.ifs (.cmp .GtE (.var 3) (.bin .Pow (.c (.int 10)) (.c (.int 18)))) (.cons (.setI [] 0 (.c (.int 3)) (.bin .FloorDiv (.var 3) (.var 1))) .nil) .nil) (.cons (.ret [] (.bin .Mod (.bi "int" (.cons (.var 3) .nil)) (.var 1))) .nil)))))))
def iPick (t : Nat) : Ss := (.cons (.ret [] (.ix (.var 1) (.call t (.cons (.var 0) (.cons (.bi "len" (.cons (.var 1) .nil)) .nil))))) .nil)
def iAlike (a : Nat) : Ss := (.cons (.ifs (.isi (.var 1) ["tuple","list"]) (.cons (.ifs (.or (.cons (.not (.isi (.var 0) ["tuple","list"])) (.cons (.cmp .NotEq (.isi (.var 0) ["list"]) (.isi (.var 1) ["list"])) .nil))) (.cons (.ret [] (.c (.bl false))) .nil) .nil) (.cons (.ifs (.cmp .NotEq (.bi "len" (.cons (.var 0) .nil)) (.bi "len" (.cons (.var 1) .nil))) (.cons (.ret [] (.c (.bl false))) .nil) .nil) (.cons (.ret [] (.cmp .Eq (.lc (.var 2) (.v 2) (.rng (.cons (.bi "len" (.cons (.var 1) .nil)) .nil)) (.so (.not (.call a (.cons (.ix (.var 0) (.var 2)) (.cons (.ix (.var 1) (.var 2)) .nil))))) [2]) (.lst .nil))) .nil))) .nil) (.cons (.ifs (.or (.cons (.cmp .Is (.var 1) (.c .non)) (.cons (.isi (.var 1) ["str"]) .nil))) (.cons (.ret [] (.and (.cons (.cmp .Eq (.var 0) (.var 1)) (.cons (.cmp .Eq (.isi (.var 0) ["str"]) (.isi (.var 1) ["str"])) .nil)))) .nil) .nil) (.cons (.ret [] (.and (.cons (.isi (.var 0) ["int"]) (.cons (.cmp .Eq (.isi (.var 0) ["bool"]) (.isi (.var 1) ["bool"])) (.cons (.cmp .Eq (.var 0) (.var 1)) .nil))))) .nil)))
/-- the law's row of draws -/
abbrev Fx := List Int × List D
/-- .. the script's ints, and what stands in the store behind the row -/
def Dr (ns : Fx) (st : Store) : Prop := ∃ a b c : Int, 0 ≤ a ∧ st = preS ++ .lst [.scr ns.1, .int a, .int b, .int c] :: ns.2
section
variable {tab : List FnI} {ns : Fx} {st : Store}
theorem taken {t : Nat} (ht : tab[t]? = some ⟨2, 4, iTaken, none⟩) (h : Dr ns st) (n : Nat) (m : Int) (m0 : 0 < m) (m1 : m < 1073741824) : ∃ v st', callN tab (n + 1) t [.obj oi, .int m] st = .ok (.int v) st' ∧ Dr ns st' ∧ 0 ≤ v ∧ v < m := by
  obtain ⟨ns, ex⟩ := ns
  obtain ⟨a, b, c, ha, rfl⟩ := h
  rw [call_fn ht n [.obj oi, .int m] _ rfl]
  show ∃ v st', endD (evSs (callN tab n) iTaken [.val (.obj oi), .val (.int m), .no, .no] (preS ++ .lst [.scr ns, .int a, .int b, .int c] :: ex)) = .ok (.int v) st' ∧ _
  have hm : m ≠ 0 := by omega
  have hm2 : m.natAbs < 1073741824 := by omega
  by_cases hc : 0 < c
  · refine ⟨c.fmod m, preS ++ .lst [.scr ns, .int a, .int b, .int (c.fdiv m)] :: ex, ?_, ⟨a, b, _, ha, rfl⟩, ?_, ?_⟩
    · simp [evEs, evBs, evAnd, evOr, evTAnd, evTOr, evO, evIf, bor, getV, getB, truthD, freeze, freeze1, bind1, binds, endD, evSs, evS, evHs, isPut, setIx, wipeE, fnIx, Out.nox, deref, ixS, cmpD, putD, biD, lenD, tyN, isTys, tyIs, isNone, iTaken, oi, preS, atI, ixN, hc, binD, hm, hm2]
    · exact Int.fmod_nonneg_of_pos _ m0
    · exact Int.fmod_lt_of_pos _ m0
  · by_cases hl : (ns.length : Int) < a + 1
    · refine ⟨(((b * 48271 + 11).fmod 2147483647).fdiv 7).fmod m, preS ++ .lst [.scr ns, .int (a + 1), .int ((b * 48271 + 11).fmod 2147483647), .int c] :: ex, ?_, ⟨a + 1, _, c, by omega, rfl⟩, Int.fmod_nonneg_of_pos _ m0, Int.fmod_lt_of_pos _ m0⟩
      simp [evEs, evBs, evAnd, evOr, evTAnd, evTOr, evO, evIf, bor, getV, getB, truthD, freeze, freeze1, bind1, binds, endD, evSs, evS, evHs, isPut, setIx, wipeE, fnIx, Out.nox, deref, ixS, cmpD, putD, biD, lenD, tyN, isTys, tyIs, isNone, iTaken, oi, preS, atI, ixN, hc, hl, binD, hm]
    · have la : a.toNat < ns.length := by omega
      have ea : ns[a.toNat]? = some ns[a.toNat] := List.getElem?_eq_getElem la
      have h1 : a + 1 - 1 = a := by omega
      have h2 : a < ns.length := by omega
      by_cases hz : (1000000000000000000 : Int) ≤ ns[a.toNat]
      · refine ⟨(ns[a.toNat]).fmod m, preS ++ .lst [.scr ns, .int (a + 1), .int ((b * 48271 + ns[a.toNat] + 11).fmod 2147483647), .int ((ns[a.toNat]).fdiv m)] :: ex, ?_, ⟨a + 1, _, _, by omega, rfl⟩, Int.fmod_nonneg_of_pos _ m0, Int.fmod_lt_of_pos _ m0⟩
        simp [evEs, evBs, evAnd, evOr, evTAnd, evTOr, evO, evIf, bor, getV, getB, truthD, freeze, freeze1, bind1, binds, endD, evSs, evS, evHs, isPut, setIx, wipeE, fnIx, Out.nox, deref, ixS, cmpD, putD, biD, lenD, tyN, isTys, tyIs, isNone, iTaken, oi, preS, atI, ixN, hc, hl, ha, h1, h2, ea, hz, binD, hm, hm2]
      · refine ⟨(ns[a.toNat]).fmod m, preS ++ .lst [.scr ns, .int (a + 1), .int ((b * 48271 + ns[a.toNat] + 11).fmod 2147483647), .int c] :: ex, ?_, ⟨a + 1, _, _, by omega, rfl⟩, Int.fmod_nonneg_of_pos _ m0, Int.fmod_lt_of_pos _ m0⟩
        simp [evEs, evBs, evAnd, evOr, evTAnd, evTOr, evO, evIf, bor, getV, getB, truthD, freeze, freeze1, bind1, binds, endD, evSs, evS, evHs, isPut, setIx, wipeE, fnIx, Out.nox, deref, ixS, cmpD, putD, biD, lenD, tyN, isTys, tyIs, isNone, iTaken, oi, preS, atI, ixN, hc, hl, ha, h1, h2, ea, hz, binD, hm, hm2]
theorem pick {t p : Nat} (ht : tab[t]? = some ⟨2, 4, iTaken, none⟩) (hp : tab[p]? = some ⟨2, 2, iPick t, none⟩) (h : Dr ns st) (n : Nat) (ds : List D) (m0 : 0 < ds.length) (m1 : ds.length < 1073741824) : ∃ d st', callN tab (n + 2) p [.obj oi, .lst ds] st = .ok d st' ∧ Dr ns st' ∧ d ∈ ds := by
  obtain ⟨v, st', e, h', v0, v1⟩ := taken ht h n ds.length (by omega) (by omega)
  have lv : v.toNat < ds.length := by omega
  refine ⟨ds[v.toNat], st', ?_, h', List.getElem_mem lv⟩
  rw [call_fn hp (n + 1) _ _ rfl]
  show endD (evSs (callN tab (n + 1)) (iPick t) [.val (.obj oi), .val (.lst ds)] st) = _
  have hv : v < ds.length := v1
  simp [evEs, evBs, evAnd, evOr, evTAnd, evTOr, evO, evIf, bor, getV, getB, truthD, freeze, freeze1, bind1, binds, endD, evSs, evS, evHs, isPut, setIx, wipeE, fnIx, Out.nox, deref, ixS, cmpD, putD, biD, lenD, tyN, isTys, tyIs, isNone, iPick, atI, ixN, e, v0, hv, List.getElem?_eq_getElem lv]
end
end Eng
set_option Elab.async false
set_option linter.all false
set_option maxRecDepth 100000
set_option maxHeartbeats 2000000
namespace Eng
open PySem PySem.Spec L2
theorem big : 100000 ≤ sizeLine := by
  rw [sizeLine_eq]
  decide
theorem atI_nat {α : Type} {xs : List α} {k : Nat} {x : α} (h : xs[k]? = some x) : atI xs (k : Int) = some x := by
  have lt := (List.getElem?_eq_some_iff.mp h).1
  have e : ixN xs.length (k : Int) = some k := by simp [ixN, lt]
  show (ixN xs.length (k : Int)).bind (fun j => xs[j]?) = some x
  rw [e]
  exact h
theorem rng_nat {n : Nat} (h : n ≤ 100000) : rngD [.int (n : Int)] = some ((List.range n).map fun (k : Nat) => D.int (k : Int)) := by
  have hb := big
  have c : -(2 ^ 62) ≤ (n : Int) ∧ (n : Int) ≤ sizeLine := by
    constructor
    · have : (0 : Int) ≤ (n : Int) := Int.natCast_nonneg n
      omega
    · omega
  show (if -(2 ^ 62) ≤ (n : Int) ∧ (n : Int) ≤ sizeLine then some ((List.range (n : Int).toNat).map fun (k : Nat) => D.int (0 + k)) else none) = _
  rw [if_pos c]
  simp
/-- what _law_alike finds alike to itself -/
def alk : Nat → D → Bool
  | _, .non => true
  | _, .bl _ => true
  | _, .int _ => true
  | _, .str _ => true
  | n + 1, .tup ds => ds.all (alk n) && decide (ds.length ≤ 1000)
  | n + 1, .lst ds => ds.all (alk n) && decide (ds.length ≤ 1000)
  | _, _ => false
section
variable {tab : List FnI} {st : Store}
theorem alike_seq {C : Calls} {a : Nat} {x : D} {ds : List D} (hd : deref st x = some x) (hx : ∀ k : Nat, k < ds.length → ixS x (.int k) = ds[k]?) (hl : lenD x = some ds.length) (hs : ds.length ≤ 1000) (h : ∀ d ∈ ds, C a [d, d] st = .ok (.bl true) st) (s2 : Sl) :
    (evP C [.val x, .val x, s2] (.lc (.var 2) (.v 2) (.rng (.cons (.bi "len" (.cons (.var 1) .nil)) .nil)) (.so (.not (.call a (.cons (.ix (.var 0) (.var 2)) (.cons (.ix (.var 1) (.var 2)) .nil))))) [2])).1 st = .ok (.lst []) st := by
  have z := lc_filter (C := C) (env := [.val x, .val x, s2]) (elt := .var 2) (tg := .v 2) (it := .rng (.cons (.bi "len" (.cons (.var 1) .nil)) .nil)) (c := .not (.call a (.cons (.ix (.var 0) (.var 2)) (.cons (.ix (.var 1) (.var 2)) .nil)))) (ws := [2]) (st := st)
    (ds := (List.range ds.length).map fun (k : Nat) => D.int (k : Int)) (fun _ => false) (fun d => d) (by
      show ((evEs C _ _ st).bnd fun ds st => ofO (rngD ds) st) = _
      simp [evEs, evBs, evAnd, evOr, evTAnd, evTOr, evO, evIf, bor, getV, getB, truthD, freeze, freeze1, bind1, binds, endD, evSs, evS, evHs, isPut, setIx, wipeE, fnIx, Out.nox, hl, biD, rng_nat (by omega : ds.length ≤ 100000)]) fun d hd' => by
    obtain ⟨k, hk, rfl⟩ := List.mem_map.mp hd'
    have hk := List.mem_range.mp hk
    have e : ixS x (.int (k : Int)) = some ds[k] := by rw [hx k hk, List.getElem?_eq_getElem hk]
    have e2 := h ds[k] (List.getElem_mem hk)
    refine ⟨[.val x, .val x, .val (.int (k : Int))], rfl, ?_, fun z => by cases z⟩
    simp [evEs, evBs, evAnd, evOr, evTAnd, evTOr, evO, evIf, bor, getV, getB, truthD, freeze, freeze1, bind1, binds, endD, evSs, evS, evHs, isPut, setIx, wipeE, fnIx, Out.nox, hd, e, e2]
  rw [z]
  simp
theorem alike {a : Nat} (ha : tab[a]? = some ⟨2, 3, iAlike a, none⟩) (m : Nat) : ∀ (n : Nat) (d : D), alk n d = true → callN tab (n + m + 1) a [d, d] st = .ok (.bl true) st := by
  intro n
  have nil : eqO (.lst []) (.lst []) = some true := by simp [eqO]
  induction n with
  | zero =>
    intro d h
    rw [call_fn ha (0 + m) _ _ rfl]
    show endD (evSs (callN tab (0 + m)) (iAlike a) [.val d, .val d, .no] st) = _
    cases d with
    | non => rfl
    | bl b => cases b <;> rfl
    | int i => simp [evEs, evBs, evAnd, evOr, evTAnd, evTOr, evO, evIf, bor, getV, getB, truthD, freeze, freeze1, bind1, binds, endD, evSs, evS, evHs, isPut, setIx, wipeE, fnIx, Out.nox, deref, ixS, cmpD, putD, biD, lenD, tyN, isTys, tyIs, isNone, iAlike, eqO, scalD, flatD, eqD]
    | str i => simp [evEs, evBs, evAnd, evOr, evTAnd, evTOr, evO, evIf, bor, getV, getB, truthD, freeze, freeze1, bind1, binds, endD, evSs, evS, evHs, isPut, setIx, wipeE, fnIx, Out.nox, deref, ixS, cmpD, putD, biD, lenD, tyN, isTys, tyIs, isNone, iAlike, eqO, scalD, flatD, eqD]
    | _ => cases h
  | succ n ih =>
    intro d h
    rw [call_fn ha (n + 1 + m) _ _ rfl]
    show endD (evSs (callN tab (n + 1 + m)) (iAlike a) [.val d, .val d, .no] st) = _
    have ih' : ∀ d, alk n d = true → callN tab (n + 1 + m) a [d, d] st = .ok (.bl true) st := fun d hd => by
      rw [show n + 1 + m = n + m + 1 by omega]
      exact ih d hd
    cases d with
    | non => rfl
    | bl b => cases b <;> rfl
    | int i => simp [evEs, evBs, evAnd, evOr, evTAnd, evTOr, evO, evIf, bor, getV, getB, truthD, freeze, freeze1, bind1, binds, endD, evSs, evS, evHs, isPut, setIx, wipeE, fnIx, Out.nox, deref, ixS, cmpD, putD, biD, lenD, tyN, isTys, tyIs, isNone, iAlike, eqO, scalD, flatD, eqD]
    | str i => simp [evEs, evBs, evAnd, evOr, evTAnd, evTOr, evO, evIf, bor, getV, getB, truthD, freeze, freeze1, bind1, binds, endD, evSs, evS, evHs, isPut, setIx, wipeE, fnIx, Out.nox, deref, ixS, cmpD, putD, biD, lenD, tyN, isTys, tyIs, isNone, iAlike, eqO, scalD, flatD, eqD]
    | tup ds =>
      have h : (ds.all (alk n) && decide (ds.length ≤ 1000)) = true := h
      obtain ⟨h1, h2⟩ := Bool.and_eq_true_iff.mp h
      have h2 := of_decide_eq_true h2
      have z := alike_seq (C := callN tab (n + 1 + m)) (a := a) (x := .tup ds) (ds := ds) (st := st) rfl (fun k hk => by rw [List.getElem?_eq_getElem hk]; exact atI_nat (List.getElem?_eq_getElem hk)) rfl h2 (fun d hd => ih' d (List.all_eq_true.mp h1 d hd)) .no
      simp [evEs, evBs, evAnd, evOr, evTAnd, evTOr, evO, evIf, bor, getV, getB, truthD, freeze, freeze1, bind1, binds, endD, evSs, evS, evHs, isPut, setIx, wipeE, fnIx, Out.nox, deref, ixS, cmpD, putD, biD, lenD, tyN, isTys, tyIs, isNone, iAlike, z, nil, eqO, scalD, flatD, eqD]
    | lst ds =>
      have h : (ds.all (alk n) && decide (ds.length ≤ 1000)) = true := h
      obtain ⟨h1, h2⟩ := Bool.and_eq_true_iff.mp h
      have h2 := of_decide_eq_true h2
      have z := alike_seq (C := callN tab (n + 1 + m)) (a := a) (x := .lst ds) (ds := ds) (st := st) rfl (fun k hk => by rw [List.getElem?_eq_getElem hk]; exact atI_nat (List.getElem?_eq_getElem hk)) rfl h2 (fun d hd => ih' d (List.all_eq_true.mp h1 d hd)) .no
      simp [evEs, evBs, evAnd, evOr, evTAnd, evTOr, evO, evIf, bor, getV, getB, truthD, freeze, freeze1, bind1, binds, endD, evSs, evS, evHs, isPut, setIx, wipeE, fnIx, Out.nox, deref, ixS, cmpD, putD, biD, lenD, tyN, isTys, tyIs, isNone, iAlike, z, nil, eqO, scalD, flatD, eqD]
    | _ => cases h
def wholeD : D → Bool
  | .int _ => true
  | _ => false
/-- plain data -/
def plainD : D → Bool
  | .non => true
  | .bl _ => true
  | .int _ => true
  | .str _ => true
  | .tup _ => true
  | .lst _ => true
  | _ => false
theorem whole {w : Nat} (hw : tab[w]? = some ⟨1, 1, iWhole, none⟩) (n : Nat) (d : D) (h : plainD d = true) : callN tab (n + 1) w [d] st = .ok (.bl (wholeD d)) st := by
  rw [call_fn hw n _ _ rfl]
  show endD (evSs (callN tab n) iWhole [.val d] st) = _
  cases d <;> first | rfl | cases h
def rowD : D → Bool
  | .tup _ => true
  | .lst _ => true
  | _ => false
end
/-- is_row stands at r -/
structure RowAt (tab : List FnI) (r : Nat) : Prop where
  h : ∀ (n : Nat) (d : D) (st : Store), plainD d = true → callN tab (n + 1) r [d] st = .ok (.bl (rowD d)) st
theorem RowAt.of {tab : List FnI} {r : Nat} (hr : tab[r]? = some ⟨1, 1, iRow, none⟩) : RowAt tab r := ⟨fun n d st h => by
  rw [call_fn hr n _ _ rfl]
  show endD (evSs (callN tab n) iRow [.val d] st) = _
  cases d <;> first | rfl | cases h⟩
end Eng
set_option Elab.async false
set_option linter.all false
set_option maxRecDepth 100000
set_option maxHeartbeats 2000000
namespace Eng
open PySem PySem.Spec L2
theorem blsD_map : ∀ ns : List Bool, blsD (ns.map .bl) = some ns
  | [] => rfl
  | n :: ns => by
    show (blsD (ns.map .bl)).map (n :: ·) = _
    rw [blsD_map ns]
    rfl
def Lt : List Nat := ("abcdefghijklmnopqrstuvwxyz" : Str).cps.toList
def Fg : List Nat := ("0123456789" : Str).cps.toList
/-- a name's sign -/
def sgn (c : Nat) : Bool := decide (c ∈ Lt) || decide (c ∈ Fg)
def nameB (x : Str) : Bool := match x.cps.toList with
  | [] => false
  | c :: cs => decide (c ∈ Lt) && ((c :: cs).all sgn && decide (cs.length < 12))
section
variable {tab : List FnI} {st : Store}
mutual
def frz : D → D
  | .tup ds => .tup (frzs ds)
  | .lst ds => .tup (frzs ds)
  | d => d
def frzs : List D → List D
  | [] => []
  | d :: ds => frz d :: frzs ds
end
end
end Eng
set_option Elab.async false
set_option linter.all false
set_option maxRecDepth 100000
set_option maxHeartbeats 2000000
namespace Eng
open PySem PySem.Spec L2
theorem len_list (a : Str) : a.length = a.cps.toList.length := by simp [Str.length]
/-- a name of i + 1 signs -/
def NmI (i : Nat) (x : Str) : Prop := ∃ c cs, x.cps.toList = c :: cs ∧ c ∈ Lt ∧ (c :: cs).all sgn = true ∧ cs.length = i
theorem NmI.ok {i : Nat} {x : Str} (h : NmI i x) (hi : i < 12) : nameB x = true := by
  obtain ⟨c, cs, e, h1, h2, h3⟩ := h
  unfold nameB
  rw [e]
  simp only [h1, h2, h3, hi, decide_true, Bool.and_self]
theorem NmI.len {i : Nat} {x : Str} (h : NmI i x) : x.length = i + 1 := by
  obtain ⟨c, cs, e, h1, h2, h3⟩ := h
  rw [len_list, e, List.length_cons, h3]
end Eng
set_option Elab.async false
set_option linter.all false
set_option maxRecDepth 100000
set_option maxHeartbeats 2000000
namespace Eng
open PySem PySem.Spec L2
/-- the figures of a turn -/
def tkS (k : Nat) : Str := toString (k : Int)
theorem eq_of_list {a b : Str} (h : a.cps.toList = b.cps.toList) : a = b := by
  obtain ⟨⟨a⟩⟩ := a
  obtain ⟨⟨b⟩⟩ := b
  cases h
  rfl
theorem any_mem (y : Str) : ∀ xs : List Str, ((xs.map D.str).any fun z => eqD z (.str y)) = decide (y ∈ xs)
  | [] => rfl
  | x :: xs => by
    rw [List.map_cons, List.any_cons, any_mem y xs]
    show (decide (x = y) || decide (y ∈ xs)) = _
    by_cases h : x = y
    · simp [h]
    · have h' : ¬ y = x := fun e => h e.symm
      simp [h, h']
theorem flat_map (xs : List Str) : (xs.map D.str).all flatD = true := by
  rw [List.all_map]
  exact List.all_eq_true.mpr fun _ _ => rfl
theorem in_strs (y : Str) (xs : List Str) : inD (.str y) (.lst (xs.map .str)) = some (decide (y ∈ xs)) := by
  show (if (flatD (.str y) && (xs.map D.str).all flatD) = true then some ((xs.map D.str).any fun z => eqD z (.str y)) else _) = _
  rw [flat_map, any_mem]
  rfl
end Eng
set_option Elab.async false
set_option linter.all false
set_option maxRecDepth 100000
set_option maxHeartbeats 2000000
namespace Eng
open PySem PySem.Spec L2
abbrev P2 := Int × Int
def pD (x : P2) : D := .tup [.int x.1, .int x.2]
def leP (x y : P2) : Bool := decide (x.1 < y.1 ∨ (x.1 = y.1 ∧ x.2 ≤ y.2))
theorem leD_pD (x y : P2) : leD (pD x) (pD y) = leP x y := by
  have e : leD (pD x) (pD y) = PySem.W.dataLe false (fun p : P2 => PyData.tuple [.int p.1, .int p.2]) x y := rfl
  rw [e, PySem.W.dataLe_ii (β := P2) (fun p => p.1) (fun p => p.2)]
  rfl
theorem sort_ok (rows : List P2) : sortOk (rows.map pD) = true := by
  unfold sortOk
  have h1 : (rows.map pD).all (dataF 20) = true := List.all_eq_true.mpr fun d hd => by
    obtain ⟨x, _, rfl⟩ := List.mem_map.mp hd
    rfl
  have h2 : ((rows.map pD).all fun d => (rows.map pD).all fun e => PySem.W.alike (py d) (py e)) = true := List.all_eq_true.mpr fun d hd => List.all_eq_true.mpr fun e he => by
    obtain ⟨x, _, rfl⟩ := List.mem_map.mp hd
    obtain ⟨y, _, rfl⟩ := List.mem_map.mp he
    rfl
  have h3 : (rows.map pD).all isTup1 = true := List.all_eq_true.mpr fun d hd => by
    obtain ⟨x, _, rfl⟩ := List.mem_map.mp hd
    rfl
  rw [h1, h2, h3]
  rfl
theorem sort_pD (rows : List P2) : biD "sorted" [.lst (rows.map pD)] = some (.lst ((rows.mergeSort leP).map pD)) := by
  show (if sortOk (rows.map pD) = true then some (D.lst ((rows.map pD).mergeSort leD)) else none) = _
  rw [if_pos (sort_ok rows), List.map_mergeSort (s := leD) fun a _ b _ => (leD_pD a b).symm]
end Eng
set_option Elab.async false
set_option linter.all false
set_option maxRecDepth 100000
set_option maxHeartbeats 2000000
namespace Eng
open PySem PySem.Spec L2
theorem leD_int (a b : Int) : leD (.int a) (.int b) = decide (a ≤ b) := by
  have e : leD (.int a) (.int b) = PySem.W.dataLe false (fun p : Int => PyData.int p) a b := rfl
  rw [e]
  exact congrFun (congrFun (PySem.W.dataLe_int (β := Int) (fun p => p)) a) b
theorem srt_I (ns : List Int) : biD "sorted" [.lst (ns.map .int)] = some (.lst ((ns.mergeSort fun x y => decide (x ≤ y)).map .int)) := by
  have ok : sortOk (ns.map .int) = true := by
    unfold sortOk
    have h1 : (ns.map D.int).all (dataF 20) = true := List.all_eq_true.mpr fun d hd => by
      obtain ⟨x, _, rfl⟩ := List.mem_map.mp hd
      rfl
    have h2 : ((ns.map D.int).all fun d => (ns.map D.int).all fun e => PySem.W.alike (py d) (py e)) = true := List.all_eq_true.mpr fun d hd => List.all_eq_true.mpr fun e he => by
      obtain ⟨x, _, rfl⟩ := List.mem_map.mp hd
      obtain ⟨y, _, rfl⟩ := List.mem_map.mp he
      rfl
    have h3 : ((ns.map D.int).all fun d => !isTupN d) = true := List.all_eq_true.mpr fun d hd => by
      obtain ⟨x, _, rfl⟩ := List.mem_map.mp hd
      rfl
    rw [h1, h2, h3]
    simp
  show (if sortOk (ns.map .int) = true then some (D.lst ((ns.map .int).mergeSort leD)) else none) = _
  rw [if_pos ok, List.map_mergeSort (s := leD) fun a _ b _ => (leD_int a b).symm]
theorem any_int (y : Int) : ∀ xs : List Int, (xs.map D.int).any (fun z => eqD z (.int y)) = decide (y ∈ xs)
  | [] => rfl
  | x :: xs => by
    rw [List.map_cons, List.any_cons, any_int y xs]
    show (decide (x = y) || _) = _
    by_cases h : x = y
    · simp [h]
    · simp [h, Ne.symm h]
theorem in_ints (y : Int) (xs : List Int) : inD (.int y) (.lst (xs.map .int)) = some (decide (y ∈ xs)) := by
  have f : (xs.map D.int).all flatD = true := by
    rw [List.all_map]
    exact List.all_eq_true.mpr fun _ _ => rfl
  show (if (flatD (.int y) && (xs.map D.int).all flatD) = true then some ((xs.map D.int).any fun z => eqD z (.int y)) else _) = _
  rw [f, any_int]
  rfl
theorem pigeonG {α : Type} [DecidableEq α] : ∀ (l found : List α), l.Nodup → (∀ x ∈ l, x ∈ found) → l.length ≤ found.length
  | [], _, _, _ => Nat.zero_le _
  | x :: l, found, hn, h => by
    obtain ⟨h1, h2⟩ := List.nodup_cons.mp hn
    have m : x ∈ found := h x List.mem_cons_self
    have z := pigeonG l (found.erase x) h2 fun y hy => (List.mem_erase_of_ne fun e => h1 (by rw [← e]; exact hy)).mpr (h y (List.mem_cons_of_mem _ hy))
    rw [List.length_erase_of_mem m] at z
    have := List.length_pos_of_mem m
    rw [List.length_cons]
    omega
section
variable {C : Calls} {env : Env} {st : Store}
@[simp] theorem e_sset (a : E) : (evP C env (.sset a)).1 st = (bor env a (evP C env a).1 st).bnd fun x st => ofO ((seqD x).bind ssetD) st := rfl
@[simp] theorem e_lset (a : E) : (evP C env (.lset a)).1 st = (bor env a (evP C env a).1 st).bnd fun x st => ofO ((seqD x).bind lsetD) st := rfl
theorem intsD_ints : ∀ ns : List Int, intsD (ns.map .int) = some ns
  | [] => rfl
  | n :: ns => by
    show (intsD (ns.map .int)).map (n :: ·) = _
    rw [intsD_ints ns]
    rfl
/-- a set comprehension from the list comprehension -/
theorem ssc_of {elt : E} {tg : Tg} {it : It} {ifs : Op} {ws : List Nat} {ds ys : List D} (hi : evIt C env it st = .ok ds st) (few : ds.length < 4000) (h : (evP C env (.lc elt tg it ifs ws)).1 st = .ok (.lst ys) st) : (evP C env (.ssc elt tg it ifs ws)).1 st = ofO (ssetD ys) st := by
  have e1 : (evP C env (.lc elt tg it ifs ws)).1 st = (evIt C env it st).bnd fun ds st => (lcGo (fun d st => (ofO (bind1 tg d (wipeE env ws)) st).bnd fun env' st => (evIf C env' ifs st).bnd fun r st => (match r with
      | true => ((evP C env' elt).1 st).bnd fun y st => .ok (some y) st
      | false => .ok none st)) ds st).bnd fun ys st => .ok (.lst ys) st := rfl
  have e2 : (evP C env (.ssc elt tg it ifs ws)).1 st = (evIt C env it st).bnd fun ds st => chkO (decide (ds.length < 4000)) ((lcGo (fun d st => (ofO (bind1 tg d (wipeE env ws)) st).bnd fun env' st => (evIf C env' ifs st).bnd fun r st => (match r with
      | true => ((evP C env' elt).1 st).bnd fun y st => .ok (some y) st
      | false => .ok none st)) ds st).bnd fun ys st => ofO (ssetD ys) st) := rfl
  rw [e1, hi, Out.bnd_ok] at h
  rw [e2, hi, Out.bnd_ok, decide_eq_true few, chkO_true]
  generalize lcGo _ ds st = o at h ⊢
  cases o with
  | bad => cases h
  | ex c ks es st' => cases h
  | ok ys' st' =>
    have h : (Out.ok (D.lst ys') st' : Out D) = .ok (.lst ys) st := h
    cases h
    rfl
end
end Eng
set_option Elab.async false
set_option linter.all false
set_option maxRecDepth 100000
set_option maxHeartbeats 2000000
namespace Eng
open PySem PySem.Spec L2
theorem lcGo_fx {α : Type} {step : D → Store → Out (Option D)} {enc : α → D} {p : α → Bool} {f : α → D} {st : Store} : ∀ (xs : List α), (∀ x ∈ xs, step (enc x) st = .ok (if p x = true then some (f x) else none) st) → lcGo step (xs.map enc) st = .ok ((xs.filter p).map f) st
  | [], _ => rfl
  | x :: xs, h => by
    show (((step (enc x) st).nox).bnd fun r st1 => (lcGo step (xs.map enc) st1).bnd fun acc st2 => .ok (match r with | some y => y :: acc | none => acc) st2) = _
    rw [h x List.mem_cons_self]
    show ((lcGo step (xs.map enc) st).bnd fun acc st2 => .ok (match (if p x = true then some (f x) else none) with | some y => y :: acc | none => acc) st2) = _
    rw [lcGo_fx xs fun d hd => h d (List.mem_cons_of_mem _ hd)]
    by_cases q : p x = true
    · rw [if_pos q, List.filter_cons_of_pos q]
      rfl
    · rw [if_neg q, List.filter_cons_of_neg q]
      rfl
theorem sum_ints (ns : List Int) : biD "sum" [.lst (ns.map .int)] = some (.int ns.sum) := by
  show (intsD (ns.map .int)).map _ = _
  rw [intsD_ints]
  rfl
theorem all_bls (bs : List Bool) : biD "all" [.lst (bs.map .bl)] = some (.bl (bs.all id)) := by
  show (blsD (bs.map .bl)).map _ = _
  rw [blsD_map]
  rfl
end Eng
set_option Elab.async false
set_option linter.all false
set_option maxRecDepth 100000
set_option maxHeartbeats 2000000
namespace Eng
open PySem PySem.Spec L2
section
variable {C : Calls} {env env' : Env} {st st' : Store}
theorem asg_v {fz : List Nat} {tg : Tg} {e : E} {d : D} (hv : (evP C (freeze env fz) e).1 st = .ok d st') (hb : bind1 tg d (freeze env fz) = some env') : evS C (.asg fz tg e) env st = .ok (.nx env') st' := by
  simp only [evS, hv, Out.bnd_ok, hb, ofO_some]
theorem ifs_yes {c : E} {a b : Ss} (h : (evP C env c).2 st = .ok true st') : evS C (.ifs c a b) env st = evSs C a env st' := by
  show ((evP C env c).2 st).bnd _ = _
  rw [h]
  rfl
theorem ret_v {fz : List Nat} {e : E} {d : D} (hv : (evP C (freeze env fz) e).1 st = .ok d st') : evS C (.ret fz e) env st = .ok (.rt d) st' := by
  simp only [evS, hv, Out.bnd_ok]
end
end Eng
set_option Elab.async false
set_option linter.all false
set_option maxRecDepth 100000
set_option maxHeartbeats 2000000
namespace Eng
open PySem PySem.Spec L2
structure Vl (C : Calls) (env : Env) (e : E) (st : Store) (o : Out D) : Prop where
  h : (evP C env e).1 st = o
structure Vt (C : Calls) (env : Env) (e : E) (st : Store) (o : Out Bool) : Prop where
  h : (evP C env e).2 st = o
structure Vb (C : Calls) (env : Env) (e : E) (st : Store) (o : Out D) : Prop where
  h : bor env e (evP C env e).1 st = o
structure Vls (C : Calls) (env : Env) (es : Es) (st : Store) (o : Out (List D)) : Prop where
  h : evEs C env es st = o
structure Vbs (C : Calls) (env : Env) (es : Es) (st : Store) (o : Out (List D)) : Prop where
  h : evBs C env es st = o
structure Van (C : Calls) (env : Env) (es : Es) (st : Store) (o : Out D) : Prop where
  h : evAnd C env es st = o
structure Vor (C : Calls) (env : Env) (es : Es) (st : Store) (o : Out D) : Prop where
  h : evOr C env es st = o
structure Vta (C : Calls) (env : Env) (es : Es) (st : Store) (o : Out Bool) : Prop where
  h : evTAnd C env es st = o
structure Vto (C : Calls) (env : Env) (es : Es) (st : Store) (o : Out Bool) : Prop where
  h : evTOr C env es st = o
structure Vop (C : Calls) (env : Env) (p : Op) (st : Store) (o : Out (Option Int)) : Prop where
  h : evO C env p st = o
structure Vit (C : Calls) (env : Env) (it : It) (st : Store) (o : Out (List D)) : Prop where
  h : evIt C env it st = o
structure Viv (C : Calls) (env : Env) (it : It) (st : Store) (o : Out (List D)) : Prop where
  h : evItV C env it st = o
structure Ca (C : Calls) (f : Nat) (ds : List D) (st : Store) (o : Out D) : Prop where
  h : C f ds st = o
structure Rn (C : Calls) (ss : Ss) (env : Env) (st : Store) (o : Out Fl) : Prop where
  h : evSs C ss env st = o
structure R1 (C : Calls) (s : S) (env : Env) (st : Store) (o : Out Fl) : Prop where
  h : evS C s env st = o
structure Fits (n : Nat) : Prop where
  h : n ≤ sizeLine
structure Bn (op : Operator) (x y z : D) : Prop where
  h : binD op x y = some z
structure Cm (op : CmpOp) (x y : D) (b : Bool) : Prop where
  h : cmpD op x y = some b
structure Tr (x : D) (b : Bool) : Prop where
  h : truthD x = some b
structure Dr1 (st : Store) (x y : D) : Prop where
  h : deref st x = some y
structure Ixx (x k z : D) : Prop where
  h : ixS x k = some z
structure Sld (x : D) (l h : Option Int) (z : D) : Prop where
  h : slD x l h = some z
structure Att (x : D) (c f : Str) (z : D) : Prop where
  h : attrD c f x = some z
structure Mth (x : D) (c m : Str) : Prop where
  h : insIs c m x = true
structure Bi (b : String) (ds : List D) (z : D) : Prop where
  h : biD b ds = some z
structure Itm (x : D) (ds : List D) : Prop where
  h : itemsD x = some ds
structure Rg (xs : List D) (ds : List D) : Prop where
  h : rngD xs = some ds
structure Zp (x y : D) (ds : List D) : Prop where
  h : zipD x y = some ds
structure Isi (ts : List String) (x : D) (b : Bool) : Prop where
  h : isTys ts x = some b
def isVar : E → Bool
  | .var _ => true
  | _ => false
structure Hn (C : Calls) (hs : Hs) (c : Str) (ks : List Str) (ds : List D) (env : Env) (st : Store) (o : Out Fl) : Prop where
  h : evHs C hs c ks ds env st = o
/-- it is tested by its value -/
def isTst : E → Bool
  | .not _ => false
  | .and _ => false
  | .or _ => false
  | _ => true
theorem tst_eq {C : Calls} {env : Env} {e : E} (h : isTst e = true) : (evP C env e).2 = tst (evP C env e).1 := by
  cases e <;> first | rfl | (cases h; done)
structure Nv (e : E) : Prop where
  r : isVar e = false
theorem Nv.h {e : E} (n : Nv e) : ∀ i, e ≠ .var i := fun i q => by
  have := n.r
  rw [q] at this
  cases this
theorem bor_valM {env : Env} {e : E} {m : Store → Out D} {st : Store} (h : ∀ i, e ≠ .var i) : bor env e m st = m st := by
  cases e <;> first | rfl | exact absurd rfl (h _)
section
variable {C : Calls} {env env' env1 env2 : Env} {st st1 st2 st3 : Store} {x y z d : D} {a b c e : E}
theorem Vl.var {i : Nat} (h : getV env i = some d) : Vl C env (.var i) st (.ok d st) := ⟨by rw [e_var, h]; rfl⟩
theorem Vl.cst : Vl C env (.c d) st (.ok d st) := ⟨rfl⟩
theorem Vl.gl {x : Str} : Vl C env (.gl x d) st (.ok d st) := ⟨rfl⟩
theorem Vl.fn {x : Str} : Vl C env (.fn x) st (.ok (.fn x) st) := ⟨rfl⟩
theorem Vb.var {i : Nat} (h : getB env i = some d) : Vb C env (.var i) st (.ok d st) := ⟨by show ofO (getB env i) st = _; rw [h]; rfl⟩
theorem Vb.of {o : Out D} (n : Nv e) (h : Vl C env e st o) : Vb C env e st o := ⟨by rw [bor_valM n.h]; exact h.h⟩
theorem Vl.bin {op : Operator} (ha : Vb C env a st (.ok x st1)) (hb : Vb C env b st1 (.ok y st2)) (h : Bn op x y z) : Vl C env (.bin op a b) st (.ok z st2) := ⟨by rw [e_bin, ha.h, Out.bnd_ok, hb.h, Out.bnd_ok, h.h]; rfl⟩
theorem Vl.neg {i : Int} (h : Vl C env a st (.ok (.int i) st1)) : Vl C env (.neg a) st (.ok (.int (-i)) st1) := ⟨by rw [e_neg, h.h]; rfl⟩
theorem Vl.not {p : Bool} (h : Vl C env a st (.ok d st1)) (t : Tr d p) : Vl C env (.not a) st (.ok (.bl (!p)) st1) := ⟨by rw [e_not, h.h, Out.bnd_ok, t.h]; rfl⟩
theorem Vl.cmp {op : CmpOp} {p : Bool} (ha : Vb C env a st (.ok x st1)) (hb : Vb C env b st1 (.ok y st2)) (h : Cm op x y p) : Vl C env (.cmp op a b) st (.ok (.bl p) st2) := ⟨by rw [e_cmp, ha.h, Out.bnd_ok, hb.h, Out.bnd_ok, h.h]; rfl⟩
theorem Vl.cmp2 {op op' : CmpOp} {p q : Bool} (ha : Vl C env a st (.ok x st1)) (hb : Vl C env b st1 (.ok y st2)) (h : Cm op x y p) (hc : p = true → Vl C env c st2 (.ok z st2)) (h2 : p = true → Cm op' y z q) : Vl C env (.cmp2 op op' a b c) st (.ok (.bl (p && q)) st2) := ⟨by
  rw [e_cmp2, ha.h, Out.bnd_ok, hb.h, Out.bnd_ok, h.h, ofO_some, Out.bnd_ok]
  cases p with
  | false => rfl
  | true =>
    show ((evP C env c).1 st2).bnd _ = _
    rw [(hc rfl).h, Out.bnd_ok, (h2 rfl).h]
    rfl⟩
theorem Vl.and {es : Es} {o : Out D} (h : Van C env es st o) : Vl C env (.and es) st o := ⟨h.h⟩
theorem Vl.or {es : Es} {o : Out D} (h : Vor C env es st o) : Vl C env (.or es) st o := ⟨h.h⟩
theorem Van.one (h : Vl C env a st (.ok d st1)) : Van C env (.cons a .nil) st (.ok d st1) := ⟨by show ((evP C env a).1 st).bnd _ = _; rw [h.h]; rfl⟩
theorem Van.cons {es : Es} {p q : Bool} (h : Vl C env a st (.ok (.bl p) st)) (k : p = true → Van C env (.cons b es) st (.ok (.bl q) st)) : Van C env (.cons a (.cons b es)) st (.ok (.bl (p && q)) st) := ⟨by
  show ((evP C env a).1 st).bnd _ = _
  rw [h.h]
  cases p with
  | false => rfl
  | true => exact (k rfl).h⟩
theorem Vor.one (h : Vl C env a st (.ok d st1)) : Vor C env (.cons a .nil) st (.ok d st1) := ⟨by show ((evP C env a).1 st).bnd _ = _; rw [h.h]; rfl⟩
theorem Vor.cons {es : Es} {p q : Bool} (h : Vl C env a st (.ok (.bl p) st)) (k : p = false → Vor C env (.cons b es) st (.ok (.bl q) st)) : Vor C env (.cons a (.cons b es)) st (.ok (.bl (p || q)) st) := ⟨by
  show ((evP C env a).1 st).bnd _ = _
  rw [h.h]
  cases p with
  | true => rfl
  | false => exact (k rfl).h⟩
theorem Vl.ife {p : Bool} (h : Vt C env c st (.ok p st1)) (ha : p = true → Vl C env a st1 (.ok x st1)) (hb : p = false → Vl C env b st1 (.ok y st1)) : Vl C env (.ife c a b) st (.ok (if p = true then x else y) st1) := ⟨by
  rw [e_ife, h.h, Out.bnd_ok]
  cases p with
  | true => exact (ha rfl).h
  | false => exact (hb rfl).h⟩
theorem Vl.ifeI {p : Bool} {i j : Int} (h : Vt C env c st (.ok p st1)) (ha : p = true → Vl C env a st1 (.ok (.int i) st1)) (hb : p = false → Vl C env b st1 (.ok (.int j) st1)) : Vl C env (.ife c a b) st (.ok (.int (if p = true then i else j)) st1) := ⟨by
  rw [e_ife, h.h, Out.bnd_ok]
  cases p with
  | true => exact (ha rfl).h
  | false => exact (hb rfl).h⟩
theorem Vl.ifeT (p : Bool) {o : Out D} (h : Vt C env c st (.ok p st1)) (hp : p = true) (ha : Vl C env a st1 o) : Vl C env (.ife c a b) st o := ⟨by
  subst hp
  rw [e_ife, h.h, Out.bnd_ok]
  exact ha.h⟩
theorem Vl.ifeF (p : Bool) {o : Out D} (h : Vt C env c st (.ok p st1)) (hp : p = false) (ha : Vl C env b st1 o) : Vl C env (.ife c a b) st o := ⟨by
  subst hp
  rw [e_ife, h.h, Out.bnd_ok]
  exact ha.h⟩
theorem Vls.nil : Vls C env .nil st (.ok [] st) := ⟨rfl⟩
theorem Vls.cons {es : Es} {ds : List D} (h : Vl C env a st (.ok d st1)) (k : Vls C env es st1 (.ok ds st2)) : Vls C env (.cons a es) st (.ok (d :: ds) st2) := ⟨by
  show ((evP C env a).1 st).bnd _ = _
  rw [h.h, Out.bnd_ok, k.h]
  rfl⟩
theorem Vls.ex {es : Es} {c : Str} {ks : List Str} {ds : List D} (h : Vl C env a st (.ex c ks ds st1)) : Vls C env (.cons a es) st (.ex c ks ds st1) := ⟨by
  show ((evP C env a).1 st).bnd _ = _
  rw [h.h]
  rfl⟩
theorem Vbs.nil : Vbs C env .nil st (.ok [] st) := ⟨rfl⟩
theorem Vbs.cons {es : Es} {ds : List D} (h : Vb C env a st (.ok d st1)) (k : Vbs C env es st1 (.ok ds st2)) : Vbs C env (.cons a es) st (.ok (d :: ds) st2) := ⟨by
  show (bor env a (evP C env a).1 st).bnd _ = _
  rw [h.h, Out.bnd_ok, k.h]
  rfl⟩
theorem Vl.tup {es : Es} {ds : List D} (h : Vls C env es st (.ok ds st1)) (f : Fits ds.length) : Vl C env (.tup es) st (.ok (.tup ds) st1) := ⟨by rw [e_tup, h.h, Out.bnd_ok, decide_eq_true f.h]; rfl⟩
theorem Vl.lst {es : Es} {ds : List D} (h : Vls C env es st (.ok ds st1)) (f : Fits ds.length) : Vl C env (.lst es) st (.ok (.lst ds) st1) := ⟨by rw [e_lst, h.h, Out.bnd_ok, decide_eq_true f.h]; rfl⟩
theorem Vl.ix {k w : D} (ha : Vb C env a st (.ok x st1)) (hk : Vl C env b st1 (.ok k st2)) (hd : Dr1 st2 x w) (h : Ixx w k z) : Vl C env (.ix a b) st (.ok z st2) := ⟨by rw [e_ix, ha.h, Out.bnd_ok, hk.h, Out.bnd_ok, hd.h, Option.bind_some, h.h]; rfl⟩
theorem Vl.sl {lo hi : Op} {l h : Option Int} (ha : Vb C env a st (.ok x st1)) (hl : Vop C env lo st1 (.ok l st2)) (hh : Vop C env hi st2 (.ok h st3)) (hs : Sld x l h z) : Vl C env (.sl a lo hi) st (.ok z st3) := ⟨by rw [e_sl, ha.h, Out.bnd_ok, hl.h, Out.bnd_ok, hh.h, Out.bnd_ok, hs.h]; rfl⟩
theorem Vop.no : Vop C env .no st (.ok none st) := ⟨rfl⟩
theorem Vop.so {i : Int} (h : Vl C env e st (.ok (.int i) st1)) : Vop C env (.so e) st (.ok (some i) st1) := ⟨by show ((evP C env e).1 st).bnd _ = _; rw [h.h]; rfl⟩
theorem Vl.call {f : Nat} {es : Es} {ds : List D} {o : Out D} (h : Vls C env es st (.ok ds st1)) (c : Ca C f ds st1 o) : Vl C env (.call f es) st o := ⟨by rw [e_call, h.h, Out.bnd_ok]; exact c.h⟩
theorem Vl.callv {i f : Nat} {fs : List (Str × Nat)} {es : Es} {ds : List D} {o : Out D} (hf : (getV env i).bind (fnIx fs) = some f) (h : Vls C env es st (.ok ds st1)) (c : Ca C f ds st1 o) : Vl C env (.callv i fs es) st o := ⟨by rw [e_callv, hf, ofO_some, Out.bnd_ok, h.h, Out.bnd_ok]; exact c.h⟩
theorem Vl.attr {c f : Str} {w : D} (h : Vb C env a st (.ok x st1)) (hd : Dr1 st1 x w) (k : Att w c f z) : Vl C env (.attr a c f) st (.ok z st1) := ⟨by rw [e_attr, h.h, Out.bnd_ok, hd.h, Option.bind_some, k.h]; rfl⟩
theorem Vl.meth {c m : Str} {f : Nat} {es : Es} {ds : List D} {w : D} {o : Out D} (h : Vl C env a st (.ok x st1)) (hd : Dr1 st1 x w) (hm : Mth w c m) (hs : Vls C env es st1 (.ok ds st2)) (k : Ca C f (x :: ds) st2 o) : Vl C env (.meth a c m f es) st o := ⟨by rw [e_meth, h.h, Out.bnd_ok, hd.h, ofO_some, Out.bnd_ok, hm.h, chkO_true, hs.h, Out.bnd_ok]; exact k.h⟩
theorem Vl.eqoT {c : Str} {f : Nat} {p : Bool} (ha : Vl C env a st (.ok x st1)) (hb : Vl C env b st1 (.ok y st2)) (hm : Mth x c "__eq__") (hr : eqR c y = true) (k : Ca C f [x, y] st2 (.ok (.bl p) st3)) : Vl C env (.eqo false a c f b) st (.ok (.bl p) st3) := ⟨by
  rw [e_eqo, ha.h, Out.bnd_ok, hb.h, Out.bnd_ok, hm.h, hr]
  show ((C f [x, y] st2).nox).bnd _ = _
  rw [k.h]
  cases p <;> rfl⟩
theorem Vl.eqoF {c : Str} {f : Nat} {p : Bool} (ha : Vl C env a st (.ok x st1)) (hb : Vl C env b st1 (.ok y st2)) (hm : Mth x c "__eq__") (hr : eqR c y = true) (k : Ca C f [x, y] st2 (.ok (.bl p) st3)) : Vl C env (.eqo true a c f b) st (.ok (.bl (!p)) st3) := ⟨by
  rw [e_eqo, ha.h, Out.bnd_ok, hb.h, Out.bnd_ok, hm.h, hr]
  show ((C f [x, y] st2).nox).bnd _ = _
  rw [k.h]
  cases p <;> rfl⟩
theorem Vl.xf {i : Nat} {al ks : List Str} {c f : Str} {ds : List D} (h : env[i]? = some (.xc c ks ds)) (m : decide (c ∈ al) = true) (k : fldD f ks ds = some z) : Vl C env (.xf i al f) st (.ok z st) := ⟨by rw [e_xf, h]; show chkO (decide (c ∈ al)) _ = _; rw [m, k]; rfl⟩
theorem Vl.bi {f : String} {es : Es} {ds : List D} (h : Vbs C env es st (.ok ds st1)) (k : Bi f ds z) : Vl C env (.bi f es) st (.ok z st1) := ⟨by rw [e_bi, h.h, Out.bnd_ok, k.h]; rfl⟩
theorem Vl.isi {ts : List String} {p : Bool} (h : Vb C env a st (.ok x st1)) (k : Isi ts x p) : Vl C env (.isi a ts) st (.ok (.bl p) st1) := ⟨by rw [e_isi, h.h, Out.bnd_ok, k.h]; rfl⟩
theorem Vl.isc {c : Str} {p : Bool} (h : Vb C env a st (.ok x st1)) (k : isCls c x = some p) : Vl C env (.isc a c) st (.ok (.bl p) st1) := ⟨by rw [e_isc, h.h, Out.bnd_ok, k]; rfl⟩
theorem Vt.not {p : Bool} (h : Vt C env a st (.ok p st1)) : Vt C env (.not a) st (.ok (!p) st1) := ⟨by rw [t_not, h.h]; rfl⟩
theorem Vt.and {es : Es} {o : Out Bool} (h : Vta C env es st o) : Vt C env (.and es) st o := ⟨h.h⟩
theorem Vt.or {es : Es} {o : Out Bool} (h : Vto C env es st o) : Vt C env (.or es) st o := ⟨h.h⟩
theorem Vt.of {p : Bool} (hm : isTst e = true) (h : Vl C env e st (.ok d st1)) (t : Tr d p) : Vt C env e st (.ok p st1) := ⟨by rw [tst_eq hm]; show ((evP C env e).1 st).bnd _ = _; rw [h.h, Out.bnd_ok, t.h]; rfl⟩
theorem Vta.one {p : Bool} (h : Vt C env a st (.ok p st1)) : Vta C env (.cons a .nil) st (.ok p st1) := ⟨by show ((evP C env a).2 st).bnd _ = _; rw [h.h]; rfl⟩
theorem Vta.cons {es : Es} {p q : Bool} (h : Vt C env a st (.ok p st)) (k : p = true → Vta C env (.cons b es) st (.ok q st)) : Vta C env (.cons a (.cons b es)) st (.ok (p && q) st) := ⟨by
  show ((evP C env a).2 st).bnd _ = _
  rw [h.h]
  cases p with
  | false => rfl
  | true => exact (k rfl).h⟩
theorem Vto.one {p : Bool} (h : Vt C env a st (.ok p st1)) : Vto C env (.cons a .nil) st (.ok p st1) := ⟨by show ((evP C env a).2 st).bnd _ = _; rw [h.h]; rfl⟩
theorem Vto.cons {es : Es} {p q : Bool} (h : Vt C env a st (.ok p st)) (k : p = false → Vto C env (.cons b es) st (.ok q st)) : Vto C env (.cons a (.cons b es)) st (.ok (p || q) st) := ⟨by
  show ((evP C env a).2 st).bnd _ = _
  rw [h.h]
  cases p with
  | true => rfl
  | false => exact (k rfl).h⟩
theorem Vit.seq {ds : List D} (h : Vb C env a st (.ok x st1)) (k : Itm x ds) : Vit C env (.seq a) st (.ok ds st1) := ⟨by show (bor env a (evP C env a).1 st).bnd _ = _; rw [h.h, Out.bnd_ok, k.h]; rfl⟩
theorem Vit.rng {es : Es} {xs ds : List D} (h : Vls C env es st (.ok xs st1)) (k : Rg xs ds) : Vit C env (.rng es) st (.ok ds st1) := ⟨by show (evEs C env es st).bnd _ = _; rw [h.h, Out.bnd_ok, k.h]; rfl⟩
theorem Viv.seq {ds : List D} (h : Vl C env a st (.ok x st1)) (k : Itm x ds) : Viv C env (.seq a) st (.ok ds st1) := ⟨by show ((evP C env a).1 st).bnd _ = _; rw [h.h, Out.bnd_ok, k.h]; rfl⟩
theorem Viv.rng {es : Es} {xs ds : List D} (h : Vls C env es st (.ok xs st1)) (k : Rg xs ds) : Viv C env (.rng es) st (.ok ds st1) := ⟨by show (evEs C env es st).bnd _ = _; rw [h.h, Out.bnd_ok, k.h]; rfl⟩
/-- places and things -/
def enu {α : Type} (xs : List α) : List (Nat × α) := (List.range xs.length).zip xs
theorem enu_items {α : Type} (xs : List α) (enc : α → D) : (List.range (xs.map enc).length).zipWith (fun (k : Nat) d => D.tup [.int k, d]) (xs.map enc) = (enu xs).map fun e => D.tup [.int e.1, enc e.2] := by
  rw [List.length_map, enu, List.zip, List.map_zipWith, List.zipWith_map_right]
theorem enu_at {α : Type} {xs : List α} {e : Nat × α} (h : e ∈ enu xs) : xs[e.1]? = some e.2 := by
  obtain ⟨i, hi, rfl⟩ := List.mem_iff_getElem.mp h
  unfold enu at hi ⊢
  rw [List.getElem_zip, List.getElem_range]
  rw [List.length_zip, List.length_range, Nat.min_self] at hi
  exact List.getElem?_eq_getElem hi
theorem enu_lt {α : Type} {xs : List α} {e : Nat × α} (h : e ∈ enu xs) : e.1 < xs.length := (List.getElem?_eq_some_iff.mp (enu_at h)).1
theorem enu_mem {α : Type} {xs : List α} {e : Nat × α} (h : e ∈ enu xs) : e.2 ∈ xs := List.mem_of_getElem? (enu_at h)
theorem enu_length {α : Type} (xs : List α) : (enu xs).length = xs.length := by
  unfold enu
  rw [List.length_zip, List.length_range, Nat.min_self]
theorem Vit.enum {α : Type} {xs : List α} {enc : α → D} (h : Vb C env a st (.ok x st1)) (k : Itm x (xs.map enc)) : Vit C env (.enum a) st (.ok ((enu xs).map fun e => D.tup [.int (e.1 : Nat), enc e.2]) st1) := ⟨by
  show (bor env a (evP C env a).1 st).bnd _ = _
  rw [h.h, Out.bnd_ok]
  show ofO ((itemsD x).map _) st1 = _
  rw [k.h, Option.map_some, enu_items]
  rfl⟩
theorem Viv.enum {α : Type} {xs : List α} {enc : α → D} (h : Vl C env a st (.ok x st1)) (k : Itm x (xs.map enc)) : Viv C env (.enum a) st (.ok ((enu xs).map fun e => D.tup [.int (e.1 : Nat), enc e.2]) st1) := ⟨by
  show ((evP C env a).1 st).bnd _ = _
  rw [h.h, Out.bnd_ok]
  show ofO ((itemsD x).map _) st1 = _
  rw [k.h, Option.map_some, enu_items]
  rfl⟩
theorem Vit.zip {ds : List D} (h : Vb C env a st (.ok x st1)) (h2 : Vb C env b st1 (.ok y st2)) (k : Zp x y ds) : Vit C env (.zip a b) st (.ok ds st2) := ⟨by show (bor env a (evP C env a).1 st).bnd _ = _; rw [h.h, Out.bnd_ok, h2.h, Out.bnd_ok, k.h]; rfl⟩
theorem Vl.lcm {α : Type} {elt : E} {tg : Tg} {it : It} {ws : List Nat} {xs : List α} {enc : α → D} {f : α → D} {en : α → Env} (hi : Vit C env it st (.ok (xs.map enc) st1))
    (hb : ∀ x ∈ xs, bind1 tg (enc x) (wipeE env ws) = some (en x)) (he : ∀ x ∈ xs, Vl C (en x) elt st1 (.ok (f x) st1)) : Vl C env (.lc elt tg it .no ws) st (.ok (.lst (xs.map f)) st1) := ⟨by
  show (evIt C env it st).bnd _ = _
  rw [hi.h, Out.bnd_ok]
  show (lcGo _ (xs.map enc) st1).bnd _ = _
  rw [lcGo_fx (p := fun _ => true) (f := f) xs fun x hx => by
    rw [hb x hx]
    show ((evP C (en x) elt).1 st1).bnd _ = _
    rw [(he x hx).h]
    rfl]
  rw [List.filter_eq_self.mpr fun _ _ => rfl]
  rfl⟩
theorem Vl.lcf {α : Type} {elt : E} {tg : Tg} {it : It} {ws : List Nat} {xs : List α} {enc : α → D} {p : α → Bool} {f : α → D} {en : α → Env} (hi : Vit C env it st (.ok (xs.map enc) st1))
    (hb : ∀ x ∈ xs, bind1 tg (enc x) (wipeE env ws) = some (en x)) (hc : ∀ x ∈ xs, Vt C (en x) c st1 (.ok (p x) st1)) (he : ∀ x ∈ xs, p x = true → Vl C (en x) elt st1 (.ok (f x) st1)) : Vl C env (.lc elt tg it (.so c) ws) st (.ok (.lst ((xs.filter p).map f)) st1) := ⟨by
  show (evIt C env it st).bnd _ = _
  rw [hi.h, Out.bnd_ok]
  show (lcGo _ (xs.map enc) st1).bnd _ = _
  rw [lcGo_fx (p := p) (f := f) xs fun x hx => by
    rw [hb x hx]
    show ((evP C (en x) c).2 st1).bnd _ = _
    rw [(hc x hx).h]
    by_cases q : p x = true
    · rw [q, if_pos rfl]
      show ((evP C (en x) elt).1 st1).bnd _ = _
      rw [(he x hx q).h]
      rfl
    · rw [if_neg q, Bool.eq_false_iff.mpr q]
      rfl]
  rfl⟩
/-- sorted of a set comprehension -/
theorem Vl.ssc {elt : E} {tg : Tg} {it : It} {ifs : Op} {ws : List Nat} {ds ys : List D} (hi : Vit C env it st (.ok ds st)) (few : ds.length < 4000) (h : Vl C env (.lc elt tg it ifs ws) st (.ok (.lst ys) st)) (k : ssetD ys = some z) : Vl C env (.ssc elt tg it ifs ws) st (.ok z st) := ⟨by rw [ssc_of hi.h few h.h, k]; rfl⟩
theorem Vl.sset {ds : List D} (h : Vb C env a st (.ok x st1)) (k : seqD x = some ds) (s : ssetD ds = some z) : Vl C env (.sset a) st (.ok z st1) := ⟨by rw [e_sset, h.h, Out.bnd_ok, k, Option.bind_some, s]; rfl⟩
theorem Vl.lset {ds : List D} (h : Vb C env a st (.ok x st1)) (k : seqD x = some ds) (s : lsetD ds = some z) : Vl C env (.lset a) st (.ok z st1) := ⟨by rw [e_lset, h.h, Out.bnd_ok, k, Option.bind_some, s]; rfl⟩
theorem Vl.to {d' : D} (h : Vl C env e st (.ok d st1)) (q : d = d') : Vl C env e st (.ok d' st1) := q ▸ h
theorem Vt.to {p q : Bool} (h : Vt C env e st (.ok p st1)) (k : p = q) : Vt C env e st (.ok q st1) := k ▸ h
theorem Rn.nil : Rn C .nil env st (.ok (.nx env) st) := ⟨rfl⟩
theorem Rn.cons {s : S} {ss : Ss} {o : Out Fl} (h : R1 C s env st (.ok (.nx env1) st1)) (k : Rn C ss env1 st1 o) : Rn C (.cons s ss) env st o := ⟨(evSs_next h.h).trans k.h⟩
theorem Rn.stop {s : S} {ss : Ss} (h : R1 C s env st (.ok (.rt d) st1)) : Rn C (.cons s ss) env st (.ok (.rt d) st1) := ⟨evSs_ret h.h⟩
theorem Rn.ex {s : S} {ss : Ss} {c : Str} {ks : List Str} {ds : List D} (h : R1 C s env st (.ex c ks ds st1)) : Rn C (.cons s ss) env st (.ex c ks ds st1) := ⟨evSs_ex h.h⟩
theorem R1.ret {fz : List Nat} (h : Vl C (freeze env fz) e st (.ok d st1)) : R1 C (.ret fz e) env st (.ok (.rt d) st1) := ⟨ret_v h.h⟩
theorem Rn.ret {fz : List Nat} {ss : Ss} (h : Vl C (freeze env fz) e st (.ok d st1)) : Rn C (.cons (.ret fz e) ss) env st (.ok (.rt d) st1) := ⟨evSs_ret (ret_v h.h)⟩
theorem R1.asg {fz : List Nat} {tg : Tg} (h : Vl C (freeze env fz) e st (.ok d st1)) (hb : bind1 tg d (freeze env fz) = some env1) : R1 C (.asg fz tg e) env st (.ok (.nx env1) st1) := ⟨asg_v h.h hb⟩
theorem R1.ex {d : D} (h : Vl C env e st (.ok d st1)) : R1 C (.ex e) env st (.ok (.nx env) st1) := ⟨by simp only [evS, h.h, Out.bnd_ok]⟩
theorem R1.rais {c : Str} {ks : List Str} {es : Es} {ds : List D} (h : Vls C env es st (.ok ds st1)) (hl : decide (ks.length = ds.length) = true) : R1 C (.rais c ks es) env st (.ex c ks ds.reverse st1) := ⟨by simp only [evS, h.h, Out.bnd_ok, hl, chkO_true]⟩
theorem R1.own {i : Nat} (h : Vl C env e st (.ok d st1)) (k : isCont d = true) : R1 C (.own i e) env st (.ok (.nx (env.set i (.own d))) st1) := ⟨by simp only [evS, h.h, Out.bnd_ok, k, chkO_true]⟩
theorem R1.app {fz : List Nat} {i : Nat} {ds : List D} (o : ownL (freeze env fz) i = some ds) (h : Vl C (freeze env fz) e st (.ok d st1)) (f : ds.length < sizeLine) : R1 C (.app fz i e) env st (.ok (.nx ((freeze env fz).set i (.own (.lst (ds ++ [d]))))) st1) := ⟨by simp only [evS, o, ofO_some, Out.bnd_ok, h.h, decide_eq_true f, chkO_true]⟩
theorem R1.aug {i : Nat} {op : Operator} (g : getV env i = some x) (h : Vl C env e st (.ok y st1)) (k : augD op x y = some z) : R1 C (.aug i op e) env st (.ok (.nx (env.set i (.val z))) st1) := ⟨by simp only [evS, g, ofO_some, Out.bnd_ok, h.h, k]⟩
theorem R1.fld {fz : List Nat} {i : Nat} {c f : Str} (h : Vl C (freeze env fz) e st (.ok d st1)) (k : setFld (freeze env fz) i c f d st1 = .ok env1 st1) : R1 C (.fld fz i c f e) env st (.ok (.nx env1) st1) := ⟨by simp only [evS, h.h, Out.bnd_ok, k]⟩
theorem Hn.take {al cs : List Str} {i : Nat} {suite : Ss} {hs : Hs} {c : Str} {ks : List Str} {ds : List D} (h1 : decide (c ∈ al) = true) (h2 : decide (c ∈ cs) = true) (k : Rn C suite (env.set i (.xc c ks ds)) st (.ok (.rt d) st1)) : Hn C (.cons al cs (some i) suite hs) c ks ds env st (.ok (.rt d) st1) := ⟨by
  simp only [evHs, h1, h2, chkO_true, k.h, Out.bnd_ok]⟩
theorem R1.ifT {p : Bool} {s t : Ss} {o : Out Fl} (h : Vt C env c st (.ok p st1)) (hp : p = true) (k : Rn C s env st1 o) : R1 C (.ifs c s t) env st o := ⟨by subst hp; exact (ifs_yes h.h).trans k.h⟩
theorem R1.ifF {p : Bool} {s t : Ss} {o : Out Fl} (h : Vt C env c st (.ok p st1)) (hp : p = false) (k : Rn C t env st1 o) : R1 C (.ifs c s t) env st o := ⟨by
  subst hp
  show ((evP C env c).2 st).bnd _ = _
  rw [h.h]
  exact k.h⟩
/-- a guard that lets through -/
theorem Rn.guard {p : Bool} {s : Ss} {ss : Ss} {o : Out Fl} (h : Vt C env c st (.ok p st1)) (hp : p = false) (k : Rn C ss env st1 o) : Rn C (.cons (.ifs c s .nil) ss) env st o := Rn.cons (R1.ifF h hp .nil) k
/-- a guard that returns, or not -/
theorem Rn.iff {p : Bool} {s : Ss} {ss : Ss} (h : Vt C env c st (.ok p st1)) (ht : p = true → Rn C s env st1 (.ok (.rt x) st1)) (k : p = false → Rn C ss env st1 (.ok (.rt y) st1)) : Rn C (.cons (.ifs c s .nil) ss) env st (.ok (.rt (if p = true then x else y)) st1) := by
  cases p with
  | false => exact Rn.cons (R1.ifF h rfl .nil) (k rfl)
  | true => exact Rn.stop (R1.ifT h rfl (ht rfl))
theorem R1.for_ {fz : List Nat} {tg : Tg} {it : It} {body : Ss} {ds : List D} {o : Out Fl} (h : Viv C (freeze env fz) it st (.ok ds st1)) (k : forGo (fun d env st => (ofO (bind1 tg d env) st).bnd fun env' st => evSs C body env' st) ds (freeze env fz) st1 = o) : R1 C (.for_ fz tg it body) env st o := ⟨by simp only [evS, h.h, Out.bnd_ok]; exact k⟩
end
section
variable {tab : List FnI} {st st1 : Store}
theorem Ca.fn {i ps ns n : Nat} {body : Ss} {ds : List D} {d : D} (ht : tab[i]? = some ⟨ps, ns, body, none⟩) (hl : ds.length = ps) (h : Rn (callN tab n) body (ds.map .val ++ List.replicate (ns - ps) .no) st (.ok (.rt d) st1)) : Ca (callN tab (n + 1)) i ds st (.ok d st1) := ⟨by
  rw [call_fn ht n _ _ hl, h.h]
  rfl⟩
theorem Ca.ini {i ps ns n : Nat} {body : Ss} {ds : List D} {c : Str} {env : Env} {d : D} (ht : tab[i]? = some ⟨ps, ns, body, some (c, false)⟩) (hl : ds.length = ps) (h : Rn (callN tab n) body (.own (.ins c [] []) :: (ds.map .val ++ List.replicate (ns - ps) .no)) st (.ok (.nx env) st1)) (o : own0 env = some d) : Ca (callN tab (n + 1)) i ds st (.ok d st1) := ⟨by
  rw [call_in ht n _ _ hl, h.h]
  show (ofO (own0 env) st1).bnd _ = _
  rw [o]
  rfl⟩
end
theorem Fits.of {n : Nat} (h : n ≤ 100000) : Fits n := ⟨Nat.le_trans h big⟩
section
variable {α β : Type} {xs ys : List α} {st : Store}
theorem Bi.len {f : α → D} : Bi "len" [.lst (xs.map f)] (.int (xs.length : Nat)) := ⟨by show some (D.int ((xs.map f).length : Nat)) = _; rw [List.length_map]⟩
theorem Bi.lenT {f : α → D} : Bi "len" [.tup (xs.map f)] (.int (xs.length : Nat)) := ⟨by show some (D.int ((xs.map f).length : Nat)) = _; rw [List.length_map]⟩
theorem Bi.sum {g : α → Int} : Bi "sum" [.lst (xs.map fun x => .int (g x))] (.int (xs.map g).sum) := ⟨by
  have := sum_ints (xs.map g)
  rw [List.map_map] at this
  exact this⟩
theorem Bi.all {g : α → Bool} : Bi "all" [.lst (xs.map fun x => .bl (g x))] (.bl (xs.all g)) := ⟨by
  have := all_bls (xs.map g)
  rw [List.map_map] at this
  rw [show (xs.map fun x => D.bl (g x)) = xs.map (D.bl ∘ g) from rfl, this, List.all_map]
  rfl⟩
theorem any_blsM (bs : List Bool) : biD "any" [.lst (bs.map .bl)] = some (.bl (bs.any id)) := by
  show (blsD (bs.map .bl)).map _ = _
  rw [blsD_map]
  rfl
theorem Bi.any {g : α → Bool} : Bi "any" [.lst (xs.map fun x => .bl (g x))] (.bl (xs.any g)) := ⟨by
  have := any_blsM (xs.map g)
  rw [List.map_map] at this
  rw [show (xs.map fun x => D.bl (g x)) = xs.map (D.bl ∘ g) from rfl, this, List.any_map]
  rfl⟩
def srtI (xs : List Int) : List Int := xs.mergeSort fun x y => decide (x ≤ y)
theorem Bi.sortI {g : α → Int} : Bi "sorted" [.lst (xs.map fun x => .int (g x))] (.lst ((srtI (xs.map g)).map .int)) := ⟨by
  have := srt_I (xs.map g)
  rw [List.map_map] at this
  exact this⟩
def srtP (xs : List P2) : List P2 := xs.mergeSort leP
theorem Bi.sortP {g h : α → Int} : Bi "sorted" [.lst (xs.map fun x => .tup [.int (g x), .int (h x)])] (.lst ((srtP (xs.map fun x => (g x, h x))).map fun p => .tup [.int p.1, .int p.2])) := ⟨by
  have := sort_pD (xs.map fun x => ((g x, h x) : P2))
  rw [List.map_map] at this
  exact this⟩
theorem Bn.addL {f : α → D} (h : xs.length + ys.length ≤ 100000) : Bn .Add (.lst (xs.map f)) (.lst (ys.map f)) (.lst ((xs ++ ys).map f)) := ⟨by
  have := big
  show (if (xs.map f).length + (ys.map f).length ≤ sizeLine then some (D.lst (xs.map f ++ ys.map f)) else none) = _
  rw [List.length_map, List.length_map, if_pos (by omega), List.map_append]⟩
theorem Bn.addT {f : α → D} (h : xs.length + ys.length ≤ 100000) : Bn .Add (.tup (xs.map f)) (.tup (ys.map f)) (.tup ((xs ++ ys).map f)) := ⟨by
  have := big
  show (if (xs.map f).length + (ys.map f).length ≤ sizeLine then some (D.tup (xs.map f ++ ys.map f)) else none) = _
  rw [List.length_map, List.length_map, if_pos (by omega), List.map_append]⟩
theorem Bn.add {xs ys : List D} (h : xs.length + ys.length ≤ 100000) : Bn .Add (.lst xs) (.lst ys) (.lst (xs ++ ys)) := ⟨by
  have := big
  show (if xs.length + ys.length ≤ sizeLine then some (D.lst (xs ++ ys)) else none) = _
  rw [if_pos (by omega)]⟩
theorem Bn.addTT {xs ys : List D} (h : xs.length + ys.length ≤ 100000) : Bn .Add (.tup xs) (.tup ys) (.tup (xs ++ ys)) := ⟨by
  have := big
  show (if xs.length + ys.length ≤ sizeLine then some (D.tup (xs ++ ys)) else none) = _
  rw [if_pos (by omega)]⟩
theorem Bn.mul {i j : Int} (h : (-(2 ^ 64) < i ∧ i < 2 ^ 64) ∨ (-(2 ^ 64) < j ∧ j < 2 ^ 64)) : Bn .Mult (.int i) (.int j) (.int (i * j)) := ⟨if_pos h⟩
theorem Bn.fdiv {i j : Int} (h : j ≠ 0 ∧ j.natAbs < 1073741824) : Bn .FloorDiv (.int i) (.int j) (.int (i.fdiv j)) := ⟨if_pos h⟩
theorem Bn.mod {i j : Int} (h : j ≠ 0) : Bn .Mod (.int i) (.int j) (.int (i.fmod j)) := ⟨if_pos h⟩
theorem Cm.inI {y : Int} {g : α → Int} : Cm .In (.int y) (.lst (xs.map fun x => .int (g x))) (decide (y ∈ xs.map g)) := ⟨by
  have := in_ints y (xs.map g)
  rw [List.map_map] at this
  exact this⟩
theorem Cm.ninI {y : Int} {g : α → Int} : Cm .NotIn (.int y) (.lst (xs.map fun x => .int (g x))) (!decide (y ∈ xs.map g)) := ⟨by
  have := in_ints y (xs.map g)
  rw [List.map_map] at this
  show (inD _ _).map _ = _
  rw [show (xs.map fun x => D.int (g x)) = xs.map (D.int ∘ g) from rfl, this]
  rfl⟩
theorem Cm.inS {y : Str} {g : α → Str} : Cm .In (.str y) (.lst (xs.map fun x => .str (g x))) (decide (y ∈ xs.map g)) := ⟨by
  have := in_strs y (xs.map g)
  rw [List.map_map] at this
  exact this⟩
theorem Cm.ninS {y : Str} {g : α → Str} : Cm .NotIn (.str y) (.lst (xs.map fun x => .str (g x))) (!decide (y ∈ xs.map g)) := ⟨by
  have := in_strs y (xs.map g)
  rw [List.map_map] at this
  show (inD _ _).map _ = _
  rw [show (xs.map fun x => D.str (g x)) = xs.map (D.str ∘ g) from rfl, this]
  rfl⟩
theorem Cm.eqI {a b : Int} : Cm .Eq (.int a) (.int b) (decide (a = b)) := ⟨rfl⟩
theorem Cm.neI {a b : Int} : Cm .NotEq (.int a) (.int b) (!decide (a = b)) := ⟨rfl⟩
theorem Cm.eqS {a b : Str} : Cm .Eq (.str a) (.str b) (decide (a = b)) := ⟨rfl⟩
theorem Cm.neS {a b : Str} : Cm .NotEq (.str a) (.str b) (!decide (a = b)) := ⟨rfl⟩
theorem Cm.eqB {a b : Bool} : Cm .Eq (.bl a) (.bl b) (decide (a = b)) := ⟨by cases a <;> cases b <;> rfl⟩
theorem Cm.neB {a b : Bool} : Cm .NotEq (.bl a) (.bl b) (!decide (a = b)) := ⟨by cases a <;> cases b <;> rfl⟩
theorem Cm.nil {xs : List D} : Cm .Eq (.lst xs) (.lst []) xs.isEmpty := ⟨rfl⟩
theorem Cm.nnil {xs : List D} : Cm .NotEq (.lst xs) (.lst []) (!xs.isEmpty) := ⟨rfl⟩
theorem Rg.one {i : Int} (h0 : 0 ≤ i) (h : i ≤ 100000) : Rg [.int i] ((List.range i.toNat).map fun (k : Nat) => D.int (k : Int)) := ⟨by
  have e := rng_nat (n := i.toNat) (by omega)
  rw [show ((i.toNat : Nat) : Int) = i by omega] at e
  exact e⟩
theorem Rg.nat {n : Nat} (h : n ≤ 100000) : Rg [.int (n : Nat)] ((List.range n).map fun (k : Nat) => D.int (k : Int)) := ⟨rng_nat h⟩
theorem Rg.two {a b : Int} (h1 : 0 ≤ a) (h2 : a ≤ 100000) (h3 : b ≤ 100000) (h4 : 0 ≤ b) : Rg [.int a, .int b] ((List.range (b - a).toNat).map fun (k : Nat) => D.int (a + (k : Int))) := ⟨by
  have hb := big
  have c : -(2 ^ 62) ≤ a ∧ a < 2 ^ 62 ∧ b - a ≤ sizeLine ∧ -(2 ^ 62) ≤ b ∧ b < 2 ^ 62 := by
    refine ⟨by omega, by omega, by omega, by omega, by omega⟩
  show (if -(2 ^ 62) ≤ a ∧ a < 2 ^ 62 ∧ b - a ≤ sizeLine ∧ -(2 ^ 62) ≤ b ∧ b < 2 ^ 62 then some ((List.range (b - a).toNat).map fun (k : Nat) => D.int (a + (k : Int))) else none) = _
  rw [if_pos c]⟩
theorem Ixx.at_ {k : Nat} {f : α → D} {x : α} (h : xs[k]? = some x) : Ixx (.lst (xs.map f)) (.int (k : Nat)) (f x) := ⟨by
  show atI _ _ = _
  exact atI_nat (by rw [List.getElem?_map, h]; rfl)⟩
end
def tyI : D → Bool
  | .int _ => true
  | .bl _ => true
  | _ => false
def tyBo : D → Bool
  | .bl _ => true
  | _ => false
def tyS : D → Bool
  | .str _ => true
  | _ => false
def tyT : D → Bool
  | .tup _ => true
  | _ => false
def tyL : D → Bool
  | .lst _ => true
  | _ => false
theorem Isi.int {x : D} (h : plainD x = true) : Isi ["int"] x (tyI x) := ⟨by cases x <;> first | (cases h; done) | simp [isTys, tyN, tyIs, tyI]⟩
theorem Isi.bool {x : D} (h : plainD x = true) : Isi ["bool"] x (tyBo x) := ⟨by cases x <;> first | (cases h; done) | simp [isTys, tyN, tyIs, tyBo]⟩
theorem Isi.str {x : D} (h : plainD x = true) : Isi ["str"] x (tyS x) := ⟨by cases x <;> first | (cases h; done) | simp [isTys, tyN, tyIs, tyS]⟩
theorem Isi.tup {x : D} (h : plainD x = true) : Isi ["tuple"] x (tyT x) := ⟨by cases x <;> first | (cases h; done) | simp [isTys, tyN, tyIs, tyT]⟩
theorem Isi.lst {x : D} (h : plainD x = true) : Isi ["list"] x (tyL x) := ⟨by cases x <;> first | (cases h; done) | simp [isTys, tyN, tyIs, tyL]⟩
theorem Isi.row {x : D} (h : plainD x = true) : Isi ["list", "tuple"] x (rowD x) := ⟨by cases x <;> first | (cases h; done) | simp [isTys, tyN, tyIs, rowD]⟩
theorem Isi.row2 {x : D} (h : plainD x = true) : Isi ["tuple", "list"] x (rowD x) := ⟨by cases x <;> first | (cases h; done) | simp [isTys, tyN, tyIs, rowD]⟩
end Eng
set_option Elab.async false
set_option linter.all false
set_option maxRecDepth 100000
set_option maxHeartbeats 2000000
namespace Eng
open PySem PySem.Spec L2
/-- a loop with a state, the other slots as they come -/
theorem forGo_st {α β : Type} {turn : D → Env → Store → Out Fl} {enc : α → D} {st : Store} (I : β → Env → Prop) (g : β → α → β) : ∀ (xs : List α) (b : β) (env : Env), I b env → (∀ b env, I b env → ∀ x ∈ xs, ∃ env', turn (enc x) env st = .ok (.nx env') st ∧ I (g b x) env') →
    ∃ env', forGo turn (xs.map enc) env st = .ok (.nx env') st ∧ I (xs.foldl g b) env'
  | [], b, env, h0, _ => ⟨env, rfl, h0⟩
  | x :: xs, b, env, h0, h => by
    obtain ⟨e1, h1, h2⟩ := h b env h0 x List.mem_cons_self
    show ∃ env', (turn (enc x) env st).bnd _ = _ ∧ _
    rw [h1]
    exact forGo_st I g xs (g b x) e1 h2 fun b env he y hy => h b env he y (List.mem_cons_of_mem _ hy)
theorem R1.forE {α β : Type} {C : Calls} {fz : List Nat} {tg : Tg} {it : It} {body : Ss} {env : Env} {st : Store} {enc : α → D} (I : β → Env → Prop) (g : β → α → β) (xs : List α) (b : β) (h : Viv C (freeze env fz) it st (.ok (xs.map enc) st)) (h0 : I b (freeze env fz))
    (k : ∀ b env, I b env → ∀ x ∈ xs, ∃ env1 env2, bind1 tg (enc x) env = some env1 ∧ Rn C body env1 st (.ok (.nx env2) st) ∧ I (g b x) env2) : ∃ env', R1 C (.for_ fz tg it body) env st (.ok (.nx env') st) ∧ I (xs.foldl g b) env' := by
  obtain ⟨env', e, i⟩ := forGo_st (turn := fun d env st => (ofO (bind1 tg d env) st).bnd fun env' st => evSs C body env' st) (enc := enc) (st := st) I g xs b (freeze env fz) h0 fun b env hb x hx => by
    obtain ⟨env1, env2, e1, e2, e3⟩ := k b env hb x hx
    refine ⟨env2, ?_, e3⟩
    show (ofO (bind1 tg (enc x) env) st).bnd _ = _
    rw [e1]
    exact e2.h
  exact ⟨env', R1.for_ h e, i⟩
theorem enu_snoc {α : Type} (l : List α) (x : α) : enu (l ++ [x]) = enu l ++ [(l.length, x)] := by
  unfold enu
  rw [List.length_append, List.length_singleton, List.range_succ, List.zip_append (by simp)]
  rfl
section
variable {C : Calls} {env : Env} {a b : E} {st st1 : Store} {c : Str} {ks : List Str} {ds : List D}
theorem Vbs.ex {es : Es} (h : Vb C env a st (.ex c ks ds st1)) : Vbs C env (.cons a es) st (.ex c ks ds st1) := ⟨by show (bor env a (evP C env a).1 st).bnd _ = _; rw [h.h]; rfl⟩
end
theorem range_at {n x : Nat} {p q : List Nat} (h : List.range n = p ++ x :: q) : x = p.length ∧ x < n := by
  have e : (List.range n)[p.length]? = some x := by rw [h]; simp
  have lt : p.length < n := by
    have := (List.getElem?_eq_some_iff.mp e).1
    rwa [List.length_range] at this
  rw [List.getElem?_range lt] at e
  have := Option.some.inj e
  omega
structure Pu (o k v o' : D) : Prop where
  h : putD o k v = some o'
structure Dg (x k z w : D) : Prop where
  h : dgetD x k z = some w
structure Bd (b : String) (x d w : D) : Prop where
  h : bidD b x d = some w
section
variable {C : Calls} {env env' env1 env2 : Env} {st st1 st2 st3 : Store} {x y z d : D} {a b c e : E}
theorem Vl.dnew : Vl C env .dnew st (.ok (.dic [] []) st) := ⟨rfl⟩
theorem Vl.dget {k w : D} (ha : Vb C env a st (.ok x st1)) (hx : isDic x = true) (hk : Vl C env b st1 (.ok k st2)) (hz : Vl C env c st2 (.ok z st3)) (h : Dg x k z w) : Vl C env (.dget a b c) st (.ok w st3) := ⟨by
  show (bor env a (evP C env a).1 st).bnd _ = _
  rw [ha.h, Out.bnd_ok, hx, chkO_true, hk.h, Out.bnd_ok, hz.h, Out.bnd_ok, h.h]
  rfl⟩
theorem Vl.bid {f : String} {w : D} (ha : Vb C env a st (.ok x st1)) (hd : Vl C env b st1 (.ok d st2)) (h : Bd f x d w) : Vl C env (.bid f a b) st (.ok w st2) := ⟨by
  show (bor env a (evP C env a).1 st).bnd _ = _
  rw [ha.h, Out.bnd_ok, hd.h, Out.bnd_ok, h.h]
  rfl⟩
theorem R1.setO {fz : List Nat} {i : Nat} {o o' k : D} (hi : (freeze env fz)[i]? = some (.own o)) (he : Vl C (freeze env fz) e st (.ok d st1)) (hk : Vl C (freeze env fz) b st1 (.ok k st2)) (p : Pu o k d o') : R1 C (.setI fz i b e) env st (.ok (.nx ((freeze env fz).set i (.own o'))) st2) := ⟨by
  have hp : isPut (freeze env fz) i = true := by
    unfold isPut
    rw [hi]
  simp only [evS, he.h, Out.bnd_ok, hp, chkO_true, hk.h, setIx, hi, p.h, ofO_some]⟩
theorem R1.augO {i : Nat} {op : Operator} {ds : List D} {k old w o' : D} (hi : ownL env i = some ds) (hk : Vl C env b st (.ok k st1)) (hx : Ixx (.lst ds) k old) (he : Vl C env e st1 (.ok y st2)) (ha : augD op old y = some w) (p : Pu (.lst ds) k w o') : R1 C (.augI i op b e) env st (.ok (.nx (env.set i (.own o'))) st2) := ⟨by
  simp only [evS, hi, ofO_some, Out.bnd_ok, hk.h, hx.h, he.h, ha, p.h]⟩
theorem Pu.dic {ks : List Key} {ds : List D} {k : D} {q : Key} {v : D} (hk : keyD k = some q) (h : ks.length < 100000) : Pu (.dic ks ds) k v (.dic (dicPut ks ds q v).1 (dicPut ks ds q v).2) := ⟨by
  have hb : ks.length < sizeLine := by have := big; omega
  show ((keyD k).bind fun k => if ks.length < sizeLine then some (D.dic (dicPut ks ds k v).1 (dicPut ks ds k v).2) else none) = _
  rw [hk]
  exact if_pos hb⟩
structure Viw (C : Calls) (env : Env) (it : It) (st : Store) (o : Out (List D)) : Prop where
  h : evItW C env it st = o
theorem Viw.seq {ds : List D} (h : Vl C env a st (.ok x st1)) (k : Itm x ds) : Viw C env (.seq a) st (.ok ds st1) := ⟨by show ((evP C env a).1 st).bnd _ = _; rw [h.h, Out.bnd_ok, k.h]; rfl⟩
theorem Viw.rng {es : Es} {xs ds : List D} (h : Vls C env es st (.ok xs st1)) (k : Rg xs ds) : Viw C env (.rng es) st (.ok ds st1) := ⟨by show (evEs C env es st).bnd _ = _; rw [h.h, Out.bnd_ok, k.h]; rfl⟩
end
section
variable {α β : Type} {xs ys : List α} {st : Store}
theorem Cm.inST {y : Str} {g : α → Str} : Cm .In (.str y) (.tup (xs.map fun x => .str (g x))) (decide (y ∈ xs.map g)) := ⟨by
  have h := any_mem y (xs.map g)
  rw [List.map_map] at h
  have f : (xs.map fun x => D.str (g x)).all flatD = true := by rw [List.all_map]; exact List.all_eq_true.mpr fun _ _ => rfl
  show (if (flatD (.str y) && (xs.map fun x => D.str (g x)).all flatD) = true then some ((xs.map fun x => D.str (g x)).any fun z => eqD z (.str y)) else none) = _
  rw [f, if_pos (show (flatD (.str y) && true) = true from rfl)]
  exact congrArg some h⟩
theorem Cm.ninST {y : Str} {g : α → Str} : Cm .NotIn (.str y) (.tup (xs.map fun x => .str (g x))) (!decide (y ∈ xs.map g)) := ⟨by
  have h := (Cm.inST (xs := xs) (y := y) (g := g)).h
  show (inD _ _).map _ = _
  rw [show inD (.str y) (.tup (xs.map fun x => D.str (g x))) = some (decide (y ∈ xs.map g)) from h]
  rfl⟩
end
end Eng
set_option Elab.async false
set_option linter.all false
set_option maxRecDepth 100000
set_option maxHeartbeats 2000000
namespace Eng
open PySem PySem.Spec L2
structure St (env : Env) (i : Nat) (s : Sl) (r : Env) : Prop where
  h : env.set i s = r
theorem St.z {a s : Sl} {l : Env} : St (a :: l) 0 s (s :: l) := ⟨rfl⟩
theorem St.s {a s : Sl} {l r : Env} {n : Nat} (h : St l n s r) : St (a :: l) (n + 1) s (a :: r) := ⟨congrArg (a :: ·) h.h⟩
structure Fm (env : Env) (i : Nat) (r : Env) : Prop where
  h : env.modify i freeze1 = r
theorem Fm.val {d : D} {l : Env} : Fm (.val d :: l) 0 (.val d :: l) := ⟨rfl⟩
theorem Fm.no {l : Env} : Fm (.no :: l) 0 (.no :: l) := ⟨rfl⟩
theorem Fm.lst {ds : List D} {l : Env} : Fm (.own (.lst ds) :: l) 0 (.val (.lst ds) :: l) := ⟨rfl⟩
theorem Fm.dic {ks : List Key} {ds : List D} {l : Env} : Fm (.own (.dic ks ds) :: l) 0 (.val (.dic ks ds) :: l) := ⟨rfl⟩
theorem Fm.ins {c : Str} {ks : List Str} {ds : List D} {l : Env} : Fm (.own (.ins c ks ds) :: l) 0 (.val (.ins c ks ds) :: l) := ⟨rfl⟩
theorem Fm.s {a : Sl} {l r : Env} {n : Nat} (h : Fm l n r) : Fm (a :: l) (n + 1) (a :: r) := ⟨congrArg (a :: ·) h.h⟩
structure Fz (env : Env) (fz : List Nat) (r : Env) : Prop where
  h : freeze env fz = r
theorem Fz.nil {env : Env} : Fz env [] env := ⟨rfl⟩
theorem Fz.cons {env r r' : Env} {i : Nat} {is : List Nat} (h : Fz env is r) (k : Fm r i r') : Fz env (i :: is) r' := ⟨by show (freeze env is).modify i freeze1 = _; rw [h.h]; exact k.h⟩
structure Wp (env : Env) (ws : List Nat) (r : Env) : Prop where
  h : wipeE env ws = r
theorem Wp.nil {env : Env} : Wp env [] env := ⟨rfl⟩
theorem Wp.cons {env r r' : Env} {i : Nat} {is : List Nat} (h : Wp env is r) (k : St r i .no r') : Wp env (i :: is) r' := ⟨by show (wipeE env is).set i .no = _; rw [h.h]; exact k.h⟩
structure Bg (tg : Tg) (d : D) (env r : Env) : Prop where
  h : bind1 tg d env = some r
structure Bgs (ts : Tgs) (ds : List D) (env r : Env) : Prop where
  h : binds ts ds env = some r
theorem Bg.v {i : Nat} {d : D} {env r : Env} (h : St env i (.val d) r) : Bg (.v i) d env r := ⟨congrArg some h.h⟩
theorem Bg.t {ts : Tgs} {ds : List D} {env r : Env} (h : Bgs ts ds env r) : Bg (.t ts) (.tup ds) env r := ⟨h.h⟩
theorem Bgs.nil {env : Env} : Bgs .nil [] env env := ⟨rfl⟩
theorem Bgs.cons {t : Tg} {ts : Tgs} {d : D} {ds : List D} {env r r' : Env} (h : Bg t d env r) (k : Bgs ts ds r r') : Bgs (.cons t ts) (d :: ds) env r' := ⟨by show (bind1 t d env).bind _ = _; rw [h.h]; exact k.h⟩
/-- an environment's own form -/
structure Nz (env r : Env) : Prop where
  h : env = r
theorem Nz.set {env r r' : Env} {i : Nat} {s : Sl} (h : Nz env r) (k : St r i s r') : Nz (env.set i s) r' := ⟨by rw [h.h]; exact k.h⟩
theorem Nz.re {env : Env} : Nz env env := ⟨rfl⟩
structure Gs (env : Env) (i : Nat) (s : Sl) : Prop where
  h : env[i]? = some s
theorem Gs.z {a : Sl} {l : Env} : Gs (a :: l) 0 a := ⟨rfl⟩
theorem Gs.s {a s : Sl} {l : Env} {n : Nat} (h : Gs l n s) : Gs (a :: l) (n + 1) s := ⟨by rw [List.getElem?_cons_succ]; exact h.h⟩
structure W (C : Calls) (ss : Ss) (env : Env) (st : Store) (P : Out Fl → Prop) : Prop where
  h : P (evSs C ss env st)
/-- bind, then go on -/
structure Wt (C : Calls) (tg : Tg) (d : D) (ss : Ss) (env : Env) (st : Store) (P : Out Fl → Prop) : Prop where
  h : P ((ofO (bind1 tg d env) st).bnd fun env' st => evSs C ss env' st)
/-- what a suite hands on to what stands behind it -/
inductive SeqP (C : Calls) (ss : Ss) (P : Out Fl → Prop) : Out Fl → Prop
  | nx {env : Env} {st : Store} : W C ss env st P → SeqP C ss P (.ok (.nx env) st)
  | rt {d : D} {st : Store} : P (.ok (.rt d) st) → SeqP C ss P (.ok (.rt d) st)
  | bk {env : Env} {st : Store} : P (.ok (.bk env) st) → SeqP C ss P (.ok (.bk env) st)
  | ct {env : Env} {st : Store} : P (.ok (.ct env) st) → SeqP C ss P (.ok (.ct env) st)
  | ex {c : Str} {ks : List Str} {ds : List D} {st : Store} : P (.ex c ks ds st) → SeqP C ss P (.ex c ks ds st)
  | bad : P .bad → SeqP C ss P .bad
section
variable {C : Calls} {env env0 env1 env2 : Env} {st st1 st2 st3 : Store} {x y z d : D} {a b c e : E} {ss : Ss} {P : Out Fl → Prop}
theorem SeqP.go {o : Out Fl} {s : S} (e : evS C s env st = o) (h : SeqP C ss P o) : W C (.cons s ss) env st P := ⟨by
  show P ((evS C s env st).bnd _)
  rw [e]
  cases h with
  | nx h => exact h.h
  | rt h => exact h
  | bk h => exact h
  | ct h => exact h
  | ex h => exact h
  | bad h => exact h⟩
theorem W.nil (h : P (.ok (.nx env) st)) : W C .nil env st P := ⟨h⟩
theorem W.one {s : S} (h : R1 C s env st (.ok (.nx env1) st1)) (k : W C ss env1 st1 P) : W C (.cons s ss) env st P := SeqP.go h.h (.nx k)
theorem W.nz (n : Nz env env1) (k : W C ss env1 st P) : W C ss env st P := ⟨by rw [n.h]; exact k.h⟩
theorem Wt.nz {tg : Tg} (n : Nz env env1) (k : Wt C tg d ss env1 st P) : Wt C tg d ss env st P := ⟨by rw [n.h]; exact k.h⟩
theorem Wt.mk' {tg : Tg} (b : Bg tg d env env1) (k : W C ss env1 st P) : Wt C tg d ss env st P := ⟨by rw [b.h]; exact k.h⟩
theorem W.asg {fz : List Nat} {tg : Tg} (f : Fz env fz env0) (h : Vl C env0 e st (.ok d st1)) (b : Bg tg d env0 env1) (k : W C ss env1 st1 P) : W C (.cons (.asg fz tg e) ss) env st P := by
  obtain ⟨rfl⟩ := f
  exact W.one (R1.asg h b.h) k
theorem W.own {i : Nat} (h : Vl C env e st (.ok d st1)) (k : isCont d = true) (b : St env i (.own d) env1) (t : W C ss env1 st1 P) : W C (.cons (.own i e) ss) env st P := by
  obtain ⟨rfl⟩ := b
  exact W.one (R1.own h k) t
theorem R1.objM {i : Nat} (h : Vl C env e st (.ok d st1)) (k : isCont d = true) : R1 C (.obj i e) env st (.ok (.nx (env.set i (.val (.obj st1.length)))) (st1 ++ [d])) := ⟨by simp only [evS, h.h, Out.bnd_ok, k, chkO_true]⟩
theorem W.obj {i n : Nat} (h : Vl C env e st (.ok d st1)) (k : isCont d = true) (l : st1.length = n) (b : St env i (.val (.obj n)) env1) (t : W C ss env1 (st1 ++ [d]) P) : W C (.cons (.obj i e) ss) env st P := by
  obtain ⟨rfl⟩ := b
  subst l
  exact W.one (R1.objM h k) t
theorem W.ex (h : Vl C env e st (.ok d st1)) (k : W C ss env st1 P) : W C (.cons (.ex e) ss) env st P := W.one (R1.ex h) k
theorem W.ret {fz : List Nat} (f : Fz env fz env0) (h : Vl C env0 e st (.ok d st1)) (k : P (.ok (.rt d) st1)) : W C (.cons (.ret fz e) ss) env st P := by
  obtain ⟨rfl⟩ := f
  exact SeqP.go (R1.ret h).h (.rt k)
theorem W.pass (k : W C ss env st P) : W C (.cons .pass ss) env st P := SeqP.go (o := .ok (.nx env) st) rfl (.nx k)
theorem W.brk (k : P (.ok (.bk env) st)) : W C (.cons .brk ss) env st P := SeqP.go (o := .ok (.bk env) st) rfl (.bk k)
theorem W.cont (k : P (.ok (.ct env) st)) : W C (.cons .cont ss) env st P := SeqP.go (o := .ok (.ct env) st) rfl (.ct k)
theorem W.rais {c : Str} {ks : List Str} {es : Es} {ds : List D} (h : Vls C env es st (.ok ds st1)) (hl : decide (ks.length = ds.length) = true) (k : P (.ex c ks ds.reverse st1)) : W C (.cons (.rais c ks es) ss) env st P := SeqP.go (R1.rais h hl).h (.ex k)
structure Ow (env : Env) (i : Nat) (d : D) : Prop where
  h : env[i]? = some (.own d)
theorem Ow.hd {l : Env} : Ow (.own d :: l) 0 d := ⟨rfl⟩
theorem Ow.tl {q : Sl} {l : Env} {n : Nat} (h : Ow l n d) : Ow (q :: l) (n + 1) d := ⟨by rw [List.getElem?_cons_succ]; exact h.h⟩
theorem W.app {fz : List Nat} {i : Nat} {ds : List D} (f : Fz env fz env0) (o : Ow env0 i (.lst ds)) (h : Vl C env0 e st (.ok d st1)) (l : Fits (ds.length + 1)) (b : St env0 i (.own (.lst (ds ++ [d]))) env1) (k : W C ss env1 st1 P) : W C (.cons (.app fz i e) ss) env st P := by
  obtain ⟨rfl⟩ := f
  obtain ⟨rfl⟩ := b
  refine W.one (R1.app ?_ h l.h) k
  unfold ownL
  rw [o.h]
theorem W.setI {fz : List Nat} {i : Nat} {o o' k : D} (f : Fz env fz env0) (hi : Ow env0 i o) (he : Vl C env0 e st (.ok d st1)) (hk : Vl C env0 b st1 (.ok k st2)) (p : Pu o k d o') (s : St env0 i (.own o') env1) (t : W C ss env1 st2 P) : W C (.cons (.setI fz i b e) ss) env st P := by
  obtain ⟨rfl⟩ := f
  obtain ⟨rfl⟩ := s
  exact W.one (R1.setO hi.h he hk p) t
theorem W.aug {i : Nat} {op : Operator} (g : Gs env i (.val x)) (h : Vl C env e st (.ok y st1)) (k : augD op x y = some z) (b : St env i (.val z) env1) (t : W C ss env1 st1 P) : W C (.cons (.aug i op e) ss) env st P := by
  obtain ⟨rfl⟩ := b
  refine W.one (R1.aug ?_ h k) t
  unfold getV
  rw [g.h]
theorem W.augI {i : Nat} {op : Operator} {ds : List D} {k old w o' : D} (hi : Ow env i (.lst ds)) (hk : Vl C env b st (.ok k st1)) (hx : Ixx (.lst ds) k old) (he : Vl C env e st1 (.ok y st2)) (ha : augD op old y = some w) (p : Pu (.lst ds) k w o') (s : St env i (.own o') env1) (t : W C ss env1 st2 P) : W C (.cons (.augI i op b e) ss) env st P := by
  obtain ⟨rfl⟩ := s
  refine W.one (R1.augO ?_ hk hx he ha p) t
  unfold ownL
  rw [hi.h]
structure Sf (c f : Str) (v x y : D) : Prop where
  h : fldPut c f v x = some y
theorem W.fld {fz : List Nat} {i : Nat} {c f : Str} {o o' : D} (fr : Fz env fz env0) (h : Vl C env0 e st (.ok d st1)) (hi : Ow env0 i o) (p : Sf c f d o o') (s : St env0 i (.own o') env1) (t : W C ss env1 st1 P) : W C (.cons (.fld fz i c f e) ss) env st P := by
  obtain ⟨rfl⟩ := fr
  obtain ⟨rfl⟩ := s
  refine W.one (R1.fld h ?_) t
  unfold setFld
  rw [hi.h]
  show (ofO (fldPut c f d o) st1).bnd _ = _
  rw [p.h]
  rfl
structure Vps (C : Calls) (env : Env) (ps : Ps) (st : Store) (o : Out (List D)) : Prop where
  h : evPs C env ps st = o
structure Sp (ps : Ps) (ds : List D) (env r : Env) : Prop where
  h : setPs ps ds env = some r
theorem Vps.nil : Vps C env .nil st (.ok [] st) := ⟨rfl⟩
theorem Vps.cons {o : Bool} {i : Nat} {r : Ps} {ds : List D} (h : Vl C env e st (.ok d st1)) (k : Vps C env r st1 (.ok ds st2)) : Vps C env (.cons o i e r) st (.ok (d :: ds) st2) := ⟨by
  show (evE C env e st).bnd _ = _
  rw [show evE C env e st = _ from h.h, Out.bnd_ok, k.h]
  rfl⟩
theorem Sp.nil : Sp .nil [] env env := ⟨rfl⟩
theorem Sp.val {i : Nat} {r : Ps} {ds : List D} (h : St env i (.val d) env1) (k : Sp r ds env1 env2) : Sp (.cons false i e r) (d :: ds) env env2 := ⟨by
  show setPs r ds (env.set i (.val d)) = _
  rw [h.h]
  exact k.h⟩
theorem Sp.own {i : Nat} {r : Ps} {ds : List D} (c : isCont d = true) (h : St env i (.own d) env1) (k : Sp r ds env1 env2) : Sp (.cons true i e r) (d :: ds) env env2 := ⟨by
  show (if isCont d = true then setPs r ds (env.set i (.own d)) else none) = _
  rw [if_pos c, h.h]
  exact k.h⟩
theorem W.par {fz : List Nat} {ps : Ps} {ds : List D} (f : Fz env fz env0) (h : Vps C env0 ps st (.ok ds st1)) (b : Sp ps ds env0 env1) (k : W C ss env1 st1 P) : W C (.cons (.par fz ps) ss) env st P := by
  obtain ⟨rfl⟩ := f
  refine W.one ⟨?_⟩ k
  simp only [evS, h.h, Out.bnd_ok, b.h, ofO_some]
theorem W.ifs {p : Bool} {s t : Ss} (h : Vt C env c st (.ok p st1)) (ha : p = true → W C s env st1 (SeqP C ss P)) (hb : p = false → W C t env st1 (SeqP C ss P)) : W C (.cons (.ifs c s t) ss) env st P := by
  cases p with
  | true => exact SeqP.go (show ((evP C env c).2 st).bnd _ = evSs C s env st1 by rw [h.h]; rfl) (ha rfl).h
  | false => exact SeqP.go (show ((evP C env c).2 st).bnd _ = evSs C t env st1 by rw [h.h]; rfl) (hb rfl).h
theorem W.iff {p : Bool} {s : Ss} (h : Vt C env c st (.ok p st1)) (ha : p = true → W C s env st1 (SeqP C ss P)) (hb : p = false → W C ss env st1 P) : W C (.cons (.ifs c s .nil) ss) env st P := W.ifs h ha fun q => ⟨.nx (hb q)⟩
theorem W.ifT {p : Bool} {s t : Ss} (h : Vt C env c st (.ok p st1)) (hp : p = true) (k : W C s env st1 (SeqP C ss P)) : W C (.cons (.ifs c s t) ss) env st P := W.ifs h (fun _ => k) fun q => absurd (hp.symm.trans q) (by decide)
theorem W.ifF {p : Bool} {s t : Ss} (h : Vt C env c st (.ok p st1)) (hp : p = false) (k : W C t env st1 (SeqP C ss P)) : W C (.cons (.ifs c s t) ss) env st P := W.ifs h (fun q => absurd (hp.symm.trans q) (by decide)) fun _ => k
theorem W.guard {p : Bool} {s : Ss} (h : Vt C env c st (.ok p st1)) (hp : p = false) (k : W C ss env st1 P) : W C (.cons (.ifs c s .nil) ss) env st P := W.ifF h hp ⟨.nx k⟩
theorem W.nilS (k : W C ss env st P) : W C .nil env st (SeqP C ss P) := ⟨.nx k⟩
inductive LoopP (J B : Env → Store → Prop) (P : Out Fl → Prop) : Out Fl → Prop
  | nx {env : Env} {st : Store} : J env st → LoopP J B P (.ok (.nx env) st)
  | ct {env : Env} {st : Store} : J env st → LoopP J B P (.ok (.ct env) st)
  | bk {env : Env} {st : Store} : B env st → LoopP J B P (.ok (.bk env) st)
  | rt {d : D} {st : Store} : P (.ok (.rt d) st) → LoopP J B P (.ok (.rt d) st)
  | ex {c : Str} {ks : List Str} {ds : List D} {st : Store} : P (.ex c ks ds st) → LoopP J B P (.ex c ks ds st)
theorem forGo_W {α : Type} {turn : D → Env → Store → Out Fl} {enc : α → D} (I : List α → Env → Store → Prop) (Q : Out Fl → Prop) : ∀ (xs pre : List α) (env : Env) (st : Store), I pre env st → (∀ env st, I (pre ++ xs) env st → Q (.ok (.nx env) st)) →
    (∀ p x q env st, pre ++ xs = p ++ x :: q → I p env st → LoopP (I (p ++ [x])) (fun env st => Q (.ok (.nx env) st)) Q (turn (enc x) env st)) → Q (forGo turn (xs.map enc) env st)
  | [], pre, env, st, h0, hq, _ => by
    rw [List.append_nil] at hq
    exact hq env st h0
  | x :: xs, pre, env, st, h0, hq, h => by
    have t := h pre x xs env st rfl h0
    have e : pre ++ x :: xs = (pre ++ [x]) ++ xs := by simp
    show Q ((turn (enc x) env st).bnd _)
    generalize turn (enc x) env st = o at t
    cases t with
    | nx j => exact forGo_W I Q xs (pre ++ [x]) _ _ j (by rw [← e]; exact hq) fun p y q env st hp => h p y q env st (by rw [e]; exact hp)
    | ct j => exact forGo_W I Q xs (pre ++ [x]) _ _ j (by rw [← e]; exact hq) fun p y q env st hp => h p y q env st (by rw [e]; exact hp)
    | bk j => exact j
    | rt j => exact j
    | ex j => exact j
theorem W.forE {α : Type} {fz : List Nat} {tg : Tg} {it : It} {body : Ss} {enc : α → D} {xs : List α} (I : Env → List α → Env → Store → Prop) (f : Fz env fz env0) (hit : Viv C env0 it st (.ok (xs.map enc) st1)) (h0 : I env0 [] env0 st1)
    (k : ∀ p x q en s, xs = p ++ x :: q → I env0 p en s → Wt C tg (enc x) body en s (LoopP (I env0 (p ++ [x])) (fun en s => W C ss en s P) P))
    (t : ∀ en s, I env0 xs en s → W C ss en s P) : W C (.cons (.for_ fz tg it body) ss) env st P := by
  obtain ⟨rfl⟩ := f
  have e := R1.for_ hit rfl (tg := tg) (body := body)
  refine SeqP.go e.h ?_
  refine forGo_W (enc := enc) (turn := fun d env st => (ofO (bind1 tg d env) st).bnd fun env' st => evSs C body env' st) (I (freeze env fz)) (SeqP C ss P) xs [] _ _ h0 (fun en s h => .nx (t en s h)) fun p x q en s hp hi => ?_
  have z := (k p x q en s hp hi).h
  generalize ((ofO (bind1 tg (enc x) en) s).bnd fun env' st => evSs C body env' st) = o at z
  cases z with
  | nx j => exact .nx j
  | ct j => exact .ct j
  | bk j => exact .bk (.nx j)
  | rt j => exact .rt (.rt j)
  | ex j => exact .ex (.ex j)
theorem Ca.w {tab : List FnI} {i ps ns n : Nat} {body : Ss} {ds : List D} {o : Out D} (ht : tab[i]? = some ⟨ps, ns, body, none⟩) (hl : ds.length = ps) (h : W (callN tab n) body (ds.map .val ++ List.replicate (ns - ps) .no) st (fun r => endD r = o)) : Ca (callN tab (n + 1)) i ds st o := ⟨by
  rw [call_fn ht n _ _ hl]
  exact h.h⟩
/-- a call by what lies behind it -/
structure Wc (C : Calls) (f : Nat) (ds : List D) (st : Store) (Q : D → Store → Prop) : Prop where
  h : ∃ d s, C f ds st = .ok d s ∧ Q d s
theorem Wc.w {tab : List FnI} {i ps ns n : Nat} {body : Ss} {ds : List D} {Q : D → Store → Prop} (ht : tab[i]? = some ⟨ps, ns, body, none⟩) (hl : ds.length = ps) (h : W (callN tab n) body (ds.map .val ++ List.replicate (ns - ps) .no) st (fun r => ∃ d s, endD r = .ok d s ∧ Q d s)) : Wc (callN tab (n + 1)) i ds st Q := ⟨by
  rw [call_fn ht n _ _ hl]
  exact h.h⟩
theorem Wc.of {f : Nat} {ds : List D} {Q : D → Store → Prop} (h : Ca C f ds st (.ok d st1)) (k : Q d st1) : Wc C f ds st Q := ⟨d, st1, h.h, k⟩
theorem Wc.get {f : Nat} {ds : List D} {Q : D → Store → Prop} (h : Wc C f ds st Q) : ∃ d s, Ca C f ds st (.ok d s) ∧ Q d s := by
  obtain ⟨d, s, e, q⟩ := h.h
  exact ⟨d, s, ⟨e⟩, q⟩
structure We (C : Calls) (env : Env) (e : E) (st : Store) (Q : D → Store → Prop) : Prop where
  h : ∃ d s, (evP C env e).1 st = .ok d s ∧ Q d s
structure Wb (C : Calls) (env : Env) (e : E) (st : Store) (Q : D → Store → Prop) : Prop where
  h : ∃ d s, bor env e (evP C env e).1 st = .ok d s ∧ Q d s
structure Ws (C : Calls) (env : Env) (es : Es) (st : Store) (Q : List D → Store → Prop) : Prop where
  h : ∃ ds s, evEs C env es st = .ok ds s ∧ Q ds s
structure Wbs (C : Calls) (env : Env) (es : Es) (st : Store) (Q : List D → Store → Prop) : Prop where
  h : ∃ ds s, evBs C env es st = .ok ds s ∧ Q ds s
theorem We.of {Q : D → Store → Prop} (h : Vl C env e st (.ok d st1)) (k : Q d st1) : We C env e st Q := ⟨d, st1, h.h, k⟩
theorem We.get {Q : D → Store → Prop} (h : We C env e st Q) : ∃ d s, Vl C env e st (.ok d s) ∧ Q d s := by
  obtain ⟨d, s, e, q⟩ := h.h
  exact ⟨d, s, ⟨e⟩, q⟩
theorem Wb.of {Q : D → Store → Prop} (h : Vb C env e st (.ok d st1)) (k : Q d st1) : Wb C env e st Q := ⟨d, st1, h.h, k⟩
theorem Wb.ev {Q : D → Store → Prop} (n : Nv e) (h : We C env e st Q) : Wb C env e st Q := ⟨by rw [bor_valM n.h]; exact h.h⟩
theorem Ws.nil {Q : List D → Store → Prop} (k : Q [] st) : Ws C env .nil st Q := ⟨[], st, rfl, k⟩
theorem Ws.cons {es : Es} {Q : List D → Store → Prop} (h : We C env a st fun d s => Ws C env es s fun ds s' => Q (d :: ds) s') : Ws C env (.cons a es) st Q := ⟨by
  obtain ⟨d, s, e1, ⟨ds, s', e2, q⟩⟩ := h.h
  refine ⟨d :: ds, s', ?_, q⟩
  show ((evP C env a).1 st).bnd _ = _
  rw [e1, Out.bnd_ok, e2]
  rfl⟩
theorem Wbs.nil {Q : List D → Store → Prop} (k : Q [] st) : Wbs C env .nil st Q := ⟨[], st, rfl, k⟩
theorem Wbs.cons {es : Es} {Q : List D → Store → Prop} (h : Wb C env a st fun d s => Wbs C env es s fun ds s' => Q (d :: ds) s') : Wbs C env (.cons a es) st Q := ⟨by
  obtain ⟨d, s, e1, ⟨ds, s', e2, q⟩⟩ := h.h
  refine ⟨d :: ds, s', ?_, q⟩
  show (bor env a (evP C env a).1 st).bnd _ = _
  rw [e1, Out.bnd_ok, e2]
  rfl⟩
theorem We.call {f : Nat} {es : Es} {Q : D → Store → Prop} (h : Ws C env es st fun ds s => Wc C f ds s Q) : We C env (.call f es) st Q := ⟨by
  obtain ⟨ds, s, e1, ⟨d, s', e2, q⟩⟩ := h.h
  exact ⟨d, s', by rw [e_call, e1]; exact e2, q⟩⟩
theorem We.tup {es : Es} {Q : D → Store → Prop} (h : Ws C env es st fun ds s => Fits ds.length ∧ Q (.tup ds) s) : We C env (.tup es) st Q := ⟨by
  obtain ⟨ds, s, e1, f, q⟩ := h.h
  exact ⟨_, s, by rw [e_tup, e1, Out.bnd_ok, decide_eq_true f.h]; rfl, q⟩⟩
theorem We.lst {es : Es} {Q : D → Store → Prop} (h : Ws C env es st fun ds s => Fits ds.length ∧ Q (.lst ds) s) : We C env (.lst es) st Q := ⟨by
  obtain ⟨ds, s, e1, f, q⟩ := h.h
  exact ⟨_, s, by rw [e_lst, e1, Out.bnd_ok, decide_eq_true f.h]; rfl, q⟩⟩
theorem We.bi {f : String} {es : Es} {Q : D → Store → Prop} (h : Wbs C env es st fun ds s => ∃ z, Bi f ds z ∧ Q z s) : We C env (.bi f es) st Q := ⟨by
  obtain ⟨ds, s, e1, z, k, q⟩ := h.h
  exact ⟨z, s, by rw [e_bi, e1, Out.bnd_ok, k.h]; rfl, q⟩⟩
theorem We.bin {op : Operator} {Q : D → Store → Prop} (h : Wb C env a st fun x s => Wb C env b s fun y s' => ∃ z, Bn op x y z ∧ Q z s') : We C env (.bin op a b) st Q := ⟨by
  obtain ⟨x, s, e1, ⟨y, s', e2, z, k, q⟩⟩ := h.h
  exact ⟨z, s', by rw [e_bin, e1, Out.bnd_ok, e2, Out.bnd_ok, k.h]; rfl, q⟩⟩
theorem We.cmp {op : CmpOp} {Q : D → Store → Prop} (h : Wb C env a st fun x s => Wb C env b s fun y s' => ∃ p, Cm op x y p ∧ Q (.bl p) s') : We C env (.cmp op a b) st Q := ⟨by
  obtain ⟨x, s, e1, ⟨y, s', e2, z, k, q⟩⟩ := h.h
  exact ⟨.bl z, s', by rw [e_cmp, e1, Out.bnd_ok, e2, Out.bnd_ok, k.h]; rfl, q⟩⟩
theorem We.ix {Q : D → Store → Prop} (h : Wb C env a st fun x s => We C env b s fun k s' => ∃ w z, Dr1 s' x w ∧ Ixx w k z ∧ Q z s') : We C env (.ix a b) st Q := ⟨by
  obtain ⟨x, s, e1, ⟨k, s', e2, w, z, hd, hx, q⟩⟩ := h.h
  exact ⟨z, s', by rw [e_ix, e1, Out.bnd_ok, e2, Out.bnd_ok, hd.h, Option.bind_some, hx.h]; rfl, q⟩⟩
theorem We.sl {lo : Op} {Q : D → Store → Prop} (h : Wb C env a st fun x s => ∃ l, Vop C env lo s (.ok l s) ∧ We C env e s fun k s' => ∃ i z, k = .int i ∧ Sld x l (some i) z ∧ Q z s') : We C env (.sl a lo (.so e)) st Q := ⟨by
  obtain ⟨x, s, e1, l, hl, ⟨k, s', e2, i, z, rfl, hx, q⟩⟩ := h.h
  have e3 : evO C env (.so e) s = .ok (some i) s' := by
    show ((evP C env e).1 s).bnd _ = _
    rw [e2]
    rfl
  exact ⟨z, s', by rw [e_sl, e1, Out.bnd_ok, hl.h, Out.bnd_ok, e3, Out.bnd_ok, hx.h]; rfl, q⟩⟩
theorem W.asgW {fz : List Nat} {tg : Tg} (f : Fz env fz env0) (h : We C env0 e st fun d s => Wt C tg d ss env0 s P) : W C (.cons (.asg fz tg e) ss) env st P := by
  obtain ⟨rfl⟩ := f
  obtain ⟨d, s, e1, q⟩ := h.h
  have z : evS C (.asg fz tg e) env st = (ofO (bind1 tg d (freeze env fz)) s).bnd fun env' st => .ok (.nx env') st := by
    show (evE C (freeze env fz) e st).bnd _ = _
    rw [show evE C (freeze env fz) e st = _ from e1]
    rfl
  refine ⟨?_⟩
  show P ((evS C (.asg fz tg e) env st).bnd _)
  rw [z]
  have q := q.h
  cases h : bind1 tg d (freeze env fz) with
  | none => rw [h] at q; exact q
  | some r => rw [h] at q; exact q
/-- a comprehension that draws -/
theorem We.lcI {α : Type} {elt : E} {tg : Tg} {it : It} {ws : List Nat} {enc : α → D} {xs : List α} {Q : D → Store → Prop} (I : Store → Prop) (R : α → D → Prop) (w : Wp env ws env0) (hit : Vit C env it st (.ok (xs.map enc) st1)) (h0 : I st1)
    (k : ∀ x ∈ xs, ∀ s, I s → ∃ en, Bg tg (enc x) env0 en ∧ We C en elt s fun y s' => I s' ∧ R x y) (t : ∀ ys s, I s → All2 R xs ys → Q (.lst ys) s) : We C env (.lc elt tg it .no ws) st Q := by
  have z : ∀ (xs : List α) (st1 : Store), (∀ x ∈ xs, ∀ s, I s → ∃ en, Bg tg (enc x) env0 en ∧ We C en elt s fun y s' => I s' ∧ R x y) → I st1 → ∃ ys s, I s ∧ All2 R xs ys ∧ lcGo (fun d st => (ofO (bind1 tg d (wipeE env ws)) st).bnd fun env' st => (evIf C env' .no st).bnd fun r st => (match r with
      | true => ((evP C env' elt).1 st).bnd fun y st => .ok (some y) st
      | false => .ok none st)) (xs.map enc) st1 = .ok ys s := by
    intro xs
    induction xs with
    | nil => intro s0 _ i; exact ⟨[], s0, i, .nil, rfl⟩
    | cons x xs ih =>
      intro s0 k i
      obtain ⟨en, b, ⟨y, s1, e1, i1, r1⟩⟩ := k x List.mem_cons_self s0 i
      obtain ⟨ys, s2, i2, r2, e2⟩ := ih s1 (fun y hy => k y (List.mem_cons_of_mem _ hy)) i1
      refine ⟨y :: ys, s2, i2, .cons r1 r2, ?_⟩
      rw [List.map_cons]
      unfold lcGo
      rw [w.h] at e2 ⊢
      rw [b.h]
      show ((((evP C en elt).1 s0).bnd fun y st => Out.ok (some y) st).nox).bnd _ = _
      rw [e1]
      show (lcGo _ (xs.map enc) s1).bnd _ = _
      rw [e2]
      rfl
  obtain ⟨ys, s, i, r, e⟩ := z xs st1 k h0
  refine We.of ⟨?_⟩ (t ys s i r)
  show (evIt C env it st).bnd _ = _
  rw [hit.h, Out.bnd_ok]
  exact congrArg (fun o => Out.bnd o fun ys st => (Out.ok (D.lst ys) st : Out D)) e
theorem Vl.mp {α : Type} {elt : E} {tg : Tg} {it : It} {ws : List Nat} {xs : List α} {enc : α → D} {f : α → D} {en : α → Env} (hi : Vit C env it st (.ok (xs.map enc) st1)) (w : Wp env ws env0)
    (hb : ∀ x ∈ xs, Bg tg (enc x) env0 (en x)) (he : ∀ x ∈ xs, Vl C (en x) elt st1 (.ok (f x) st1)) : Vl C env (.lc elt tg it .no ws) st (.ok (.lst (xs.map f)) st1) := Vl.lcm hi (fun x hx => by rw [w.h]; exact (hb x hx).h) he
theorem Vl.ft {α : Type} {elt : E} {tg : Tg} {it : It} {ws : List Nat} {xs : List α} {enc : α → D} {p : α → Bool} {f : α → D} {en : α → Env} (hi : Vit C env it st (.ok (xs.map enc) st1)) (w : Wp env ws env0)
    (hb : ∀ x ∈ xs, Bg tg (enc x) env0 (en x)) (hc : ∀ x ∈ xs, Vt C (en x) c st1 (.ok (p x) st1)) (he : ∀ x ∈ xs, p x = true → Vl C (en x) elt st1 (.ok (f x) st1)) : Vl C env (.lc elt tg it (.so c) ws) st (.ok (.lst ((xs.filter p).map f)) st1) := Vl.lcf hi (fun x hx => by rw [w.h]; exact (hb x hx).h) hc he
end
end Eng
set_option Elab.async false
set_option linter.all false
set_option maxRecDepth 100000
set_option maxHeartbeats 2000000
namespace Eng
open PySem PySem.Spec L2
structure Dv1 (x : D) (ds : List D) : Prop where
  h : dvD x = some ds
structure Di1 (x : D) (ds : List D) : Prop where
  h : diD x = some ds
structure Dk1 (x : D) (ds : List D) : Prop where
  h : dkD x = some ds
structure Dcp1 (x z : D) : Prop where
  h : dcpD x = some z
structure Rp1 (x z : D) : Prop where
  h : rprD x = some z
structure Kd (x : D) (k : Key) : Prop where
  h : keyD x = some k
theorem Kd.s {x : Str} : Kd (.str x) (.inr x) := ⟨rfl⟩
theorem Kd.i {x : Int} : Kd (.int x) (.inl x) := ⟨rfl⟩
/-- a dict of pairs -/
def dzP (r : List (Key × D)) : D := .dcz (dicOf r ([], [])).1 (dicOf r ([], [])).2
/-- different keys -/
theorem dicOf_nd : ∀ (r : List (Key × D)) (ks : List Key) (ds : List D), (ks ++ r.map (·.1)).Nodup → dicOf r (ks, ds) = (ks ++ r.map (·.1), ds ++ r.map (·.2))
  | [], ks, ds, _ => by simp [dicOf]
  | q :: r, ks, ds, nd => by
    have e : ks ++ (q :: r).map (·.1) = (ks ++ [q.1]) ++ r.map (·.1) := by simp
    rw [e] at nd
    have m : q.1 ∉ ks := fun m => by
      have n := (List.nodup_append.mp nd).1
      exact (List.nodup_append.mp n).2.2 _ m _ (List.mem_singleton_self _) rfl
    show dicOf r (dicPut ks ds q.1 q.2) = _
    have e2 : dicPut ks ds q.1 q.2 = (ks ++ [q.1], ds ++ [q.2]) := by
      unfold dicPut
      rw [if_neg]
      intro h
      obtain ⟨k, hk, e⟩ := List.any_eq_true.mp h
      have e := of_decide_eq_true e
      exact m (e ▸ hk)
    rw [e2, dicOf_nd r _ _ nd]
    simp
theorem dzP_nd {r : List (Key × D)} (nd : (r.map (·.1)).Nodup) : dzP r = .dcz (r.map (·.1)) (r.map (·.2)) := by
  unfold dzP
  rw [dicOf_nd r [] [] (by simpa using nd)]
  rfl
theorem pairsD_map {α : Type} {kf : α → D} {kk : α → Key} {f : α → D} : ∀ (xs : List α), (∀ x ∈ xs, keyD (kf x) = some (kk x)) → pairsD (xs.map fun x => .tup [kf x, f x]) = some (xs.map fun x => (kk x, f x))
  | [], _ => rfl
  | x :: xs, h => by
    show (keyD (kf x)).bind _ = _
    rw [h x List.mem_cons_self, Option.bind_some, pairsD_map xs fun y hy => h y (List.mem_cons_of_mem _ hy)]
    rfl
section
variable {C : Calls} {env env0 : Env} {st st1 st2 : Store} {x y z : D} {a c e kx vx : E}
theorem Vl.dvl {ds : List D} (h : Vb C env a st (.ok x st1)) (k : Dv1 x ds) : Vl C env (.dvl a) st (.ok (.lst ds) st1) := ⟨by show (bor env a (evP C env a).1 st).bnd _ = _; rw [h.h, Out.bnd_ok, k.h]; rfl⟩
theorem Vl.dil {ds : List D} (h : Vb C env a st (.ok x st1)) (k : Di1 x ds) : Vl C env (.dil a) st (.ok (.lst ds) st1) := ⟨by show (bor env a (evP C env a).1 st).bnd _ = _; rw [h.h, Out.bnd_ok, k.h]; rfl⟩
theorem Vl.dcp (h : Vb C env a st (.ok x st1)) (k : Dcp1 x z) : Vl C env (.dcp a) st (.ok z st1) := ⟨by show (bor env a (evP C env a).1 st).bnd _ = _; rw [h.h, Out.bnd_ok, k.h]; rfl⟩
theorem Vl.rpr (h : Vb C env a st (.ok x st1)) (k : Rp1 x z) : Vl C env (.rpr a) st (.ok z st1) := ⟨by show (bor env a (evP C env a).1 st).bnd _ = _; rw [h.h, Out.bnd_ok, k.h]; rfl⟩
theorem Vit.dk {ds : List D} (h : Vb C env a st (.ok x st1)) (k : Dk1 x ds) : Vit C env (.dk a) st (.ok ds st1) := ⟨by show (bor env a (evP C env a).1 st).bnd _ = _; rw [h.h, Out.bnd_ok, k.h]; rfl⟩
theorem Vit.dv {ds : List D} (h : Vb C env a st (.ok x st1)) (k : Dv1 x ds) : Vit C env (.dv a) st (.ok ds st1) := ⟨by show (bor env a (evP C env a).1 st).bnd _ = _; rw [h.h, Out.bnd_ok, k.h]; rfl⟩
theorem Vit.di {ds : List D} (h : Vb C env a st (.ok x st1)) (k : Di1 x ds) : Vit C env (.di a) st (.ok ds st1) := ⟨by show (bor env a (evP C env a).1 st).bnd _ = _; rw [h.h, Out.bnd_ok, k.h]; rfl⟩
theorem Vit.rgc {i j k : Int} {n : Nat} (h : Fits n) : Vit C env (.rgc i j k n) st (.ok ((List.range n).map fun (m : Nat) => D.int (i + (m : Nat) * k)) st) := ⟨by show chkO (decide (n ≤ sizeLine)) _ = _; rw [decide_eq_true h.h]; rfl⟩
theorem Viv.rgc {i j k : Int} {n : Nat} (h : Fits n) : Viv C env (.rgc i j k n) st (.ok ((List.range n).map fun (m : Nat) => D.int (i + (m : Nat) * k)) st) := ⟨by show chkO (decide (n ≤ sizeLine)) _ = _; rw [decide_eq_true h.h]; rfl⟩
theorem Dcp1.of {α : Type} {xs : List α} {kf f : α → D} {kk : α → Key} (h : ∀ x ∈ xs, keyD (kf x) = some (kk x)) : Dcp1 (.lst (xs.map fun x => .tup [kf x, f x])) (dzP (xs.map fun x => (kk x, f x))) := ⟨by
  show (pairsD _).map _ = _
  rw [pairsD_map xs h]
  rfl⟩
end
section
variable {α : Type} {xs : List α} {nm : α → Str} {f : α → D}
def dzS (xs : List α) (nm : α → Str) (f : α → D) : D := .dcz (xs.map fun x => .inr (nm x)) (xs.map f)
theorem inr_nd {xs : List α} (nd : (xs.map nm).Nodup) : (xs.map fun x => (Sum.inr (nm x) : Key)).Nodup := by
  rw [List.nodup_iff_pairwise_ne, List.pairwise_map] at nd ⊢
  exact nd.imp fun h e => h (Sum.inr.inj e)
theorem dzS_of (nd : (xs.map nm).Nodup) : dzP (xs.map fun x => ((.inr (nm x) : Key), f x)) = dzS xs nm f := by
  rw [dzP_nd (by rw [List.map_map]; exact inr_nd nd), List.map_map, List.map_map]
  rfl
theorem dz_get (k : Str) (d : D) : ∀ (xs : List α), (dicGet (xs.map fun x => (.inr (nm x) : Key)) (xs.map f) (.inr k)) = ((xs.find? fun x => decide (nm x = k)).map f)
  | [] => rfl
  | x :: xs => by
    unfold dicGet
    rw [List.map_cons, List.map_cons, List.zip_cons_cons, List.find?_cons, List.find?_cons]
    by_cases c : nm x = k
    · subst c
      simp
    · have c2 : ((.inr (nm x) : Key) = .inr k) ↔ False := ⟨fun e => c (Sum.inr.inj e), False.elim⟩
      rw [decide_eq_false c, show decide ((.inr (nm x) : Key) = .inr k) = false from decide_eq_false fun e => c (Sum.inr.inj e)]
      exact dz_get k d xs
theorem Dk1.s (h : xs.length ≤ 100000) : Dk1 (dzS xs nm f) (xs.map fun x => .str (nm x)) := ⟨by
  have hb := big
  show (if (xs.map fun x => (.inr (nm x) : Key)).length ≤ sizeLine then some ((xs.map fun x => (.inr (nm x) : Key)).map kD) else none) = _
  rw [if_pos (by rw [List.length_map]; omega), List.map_map]
  rfl⟩
theorem Dv1.s (h : xs.length ≤ 100000) : Dv1 (dzS xs nm f) (xs.map f) := ⟨by
  have hb := big
  show (if (xs.map fun x => (.inr (nm x) : Key)).length ≤ sizeLine then some (xs.map f) else none) = _
  rw [if_pos (by rw [List.length_map]; omega)]⟩
theorem Di1.s (h : xs.length ≤ 100000) : Di1 (dzS xs nm f) (xs.map fun x => .tup [.str (nm x), f x]) := ⟨by
  have hb := big
  show (if (xs.map fun x => (.inr (nm x) : Key)).length ≤ sizeLine then some (List.zipWith (fun k d => D.tup [kD k, d]) (xs.map fun x => (.inr (nm x) : Key)) (xs.map f)) else none) = _
  rw [if_pos (by rw [List.length_map]; omega), List.zipWith_map, List.zipWith_self]
  rfl⟩
theorem Dg.dz {k : Str} {z : D} : Dg (dzS xs nm f) (.str k) z (((xs.find? fun x => decide (nm x = k)).map f).getD z) := ⟨by
  show some ((dicGet _ _ (.inr k)).getD z) = _
  rw [dz_get k .non xs]⟩
theorem any_inr (k : Str) : ∀ (xs : List α), ((xs.map fun x => (.inr (nm x) : Key)).any fun q => decide (q = .inr k)) = decide (k ∈ xs.map nm)
  | [] => rfl
  | x :: xs => by
    rw [List.map_cons, List.any_cons, any_inr k xs, List.map_cons]
    by_cases c : nm x = k
    · subst c
      simp
    · have c2 : ¬ k = nm x := fun e => c e.symm
      rw [show decide ((.inr (nm x) : Key) = .inr k) = false from decide_eq_false fun e => c (Sum.inr.inj e)]
      simp [c2]
theorem Cm.inZ {k : Str} : Cm .In (.str k) (dzS xs nm f) (decide (k ∈ xs.map nm)) := ⟨by
  show some ((xs.map fun x => (.inr (nm x) : Key)).any fun r => decide (r = .inr k)) = _
  rw [any_inr]⟩
theorem Cm.ninZ {k : Str} : Cm .NotIn (.str k) (dzS xs nm f) (!decide (k ∈ xs.map nm)) := ⟨by
  have := (Cm.inZ (xs := xs) (nm := nm) (f := f) (k := k)).h
  show (inD (.str k) (dzS xs nm f)).map (fun b => !b) = _
  rw [show inD (.str k) (dzS xs nm f) = _ from this]
  rfl⟩
theorem Bi.listZ : Bi "list" [dzS xs nm f] (.lst (xs.map fun x => .str (nm x))) := ⟨by
  show some (D.lst ((xs.map fun x => (.inr (nm x) : Key)).map kD)) = _
  rw [List.map_map]
  rfl⟩
theorem Dcp1.s (nd : (xs.map nm).Nodup) : Dcp1 (.lst (xs.map fun x => .tup [.str (nm x), f x])) (dzS xs nm f) := by
  have := Dcp1.of (xs := xs) (kf := fun x => .str (nm x)) (f := f) (kk := fun x => .inr (nm x)) fun _ _ => rfl
  rw [dzS_of nd] at this
  exact this
end
theorem Rp1.non : Rp1 .non (.str "None") := ⟨rfl⟩
theorem Rp1.tt : Rp1 (.bl true) (.str "True") := ⟨rfl⟩
theorem Rp1.int {i : Int} (h : i.natAbs.log2 < 1920) : Rp1 (.int i) (.str (toString i)) := ⟨if_pos h⟩
end Eng
set_option Elab.async false
set_option linter.all false
set_option maxRecDepth 100000
set_option maxHeartbeats 2000000
namespace Eng
open PySem PySem.Spec L2
local macro_rules | `(tactic| decreasing_trivial_pre_omega) => `(tactic| first | intro _ | (show Vl ..; first | exact Vl.cst | exact Vl.var rfl | exact Vl.gl | exact Vl.fn | apply Vl.mp | apply Vl.ft | apply Vl.dnew | apply Vl.dvl | apply Vl.dil | apply Vl.dcp | apply Vl.rpr | apply Vl.dget | apply Vl.call | apply Vl.attr | apply Vl.bin | apply Vl.cmp | apply Vl.ix | apply Vl.bi | apply Vl.meth | apply Vl.tup | apply Vl.lst | apply Vl.sl | apply Vl.neg | apply Vl.not | apply Vl.cmp2 | apply Vl.and | apply Vl.or | apply Vl.isi | apply Vl.isc | apply Vl.callv rfl | apply Vl.eqoT | apply Vl.eqoF | exact Vl.xf rfl (by decide +kernel) rfl | apply Vl.ssc | apply Vl.sset | apply Vl.lset | exact ⟨rfl⟩ | exact rfl | apply Vl.ifeI | apply Vl.ife) | (show Vb ..; first | exact Vb.var rfl | apply Vb.of ⟨rfl⟩ | exact ⟨rfl⟩ | exact rfl) | (show St ..; first | exact St.z | apply St.s | exact ⟨rfl⟩ | exact rfl) | (show Fz ..; first | exact Fz.nil | apply Fz.cons | exact ⟨rfl⟩ | exact rfl) | (show Fm ..; first | exact Fm.val | exact Fm.no | exact Fm.lst | exact Fm.dic | exact Fm.ins | apply Fm.s | exact ⟨rfl⟩ | exact rfl) | (show Wp ..; first | exact Wp.nil | apply Wp.cons | exact ⟨rfl⟩ | exact rfl) | (show Bg ..; first | apply Bg.v | apply Bg.t | exact ⟨rfl⟩ | exact rfl) | (show Bgs ..; first | exact Bgs.nil | apply Bgs.cons | exact ⟨rfl⟩ | exact rfl) | (show Ow ..; first | exact Ow.hd | apply Ow.tl | exact ⟨rfl⟩ | exact rfl) | (show Gs ..; first | exact Gs.z | apply Gs.s | exact ⟨rfl⟩ | exact rfl) | (show Nz ..; first | apply Nz.set | exact Nz.re | exact ⟨rfl⟩ | exact rfl) | (show Vps ..; first | exact Vps.nil | apply Vps.cons | exact ⟨rfl⟩ | exact rfl) | (show Sp ..; first | exact Sp.nil | apply Sp.val | apply Sp.own rfl | exact ⟨rfl⟩ | exact rfl) | (show Vit ..; first | apply Vit.dk | apply Vit.dv | apply Vit.di | apply Vit.rgc | apply Vit.seq | apply Vit.rng | apply Vit.enum | apply Vit.zip | exact ⟨rfl⟩ | exact rfl) | (show Viv ..; first | apply Viv.rgc | apply Viv.seq | apply Viv.rng | apply Viv.enum | exact ⟨rfl⟩ | exact rfl) | (show Kd ..; first | exact Kd.s | exact Kd.i | exact ⟨rfl⟩ | exact rfl) | (show Dk1 ..; first | exact Dk1.s (by first | exact Nat.le_of_ble_eq_true rfl | omega | (simp only [List.length_map, List.length_range, List.length_append, List.length_cons, List.length_nil, List.length_reverse, enu_length]; omega)) | exact ⟨rfl⟩ | exact rfl) | (show Dv1 ..; first | exact Dv1.s (by first | exact Nat.le_of_ble_eq_true rfl | omega | (simp only [List.length_map, List.length_range, List.length_append, List.length_cons, List.length_nil, List.length_reverse, enu_length]; omega)) | exact ⟨rfl⟩ | exact rfl) | (show Di1 ..; first | exact Di1.s (by first | exact Nat.le_of_ble_eq_true rfl | omega | (simp only [List.length_map, List.length_range, List.length_append, List.length_cons, List.length_nil, List.length_reverse, enu_length]; omega)) | exact ⟨rfl⟩ | exact rfl) | (show Dg ..; first | exact Dg.dz | exact ⟨rfl⟩ | exact rfl) | (show Cm ..; first | exact Cm.inZ | exact Cm.ninZ | exact Cm.inST | exact Cm.ninST | exact Cm.eqI | exact Cm.neI | exact Cm.eqS | exact Cm.neS | exact Cm.eqB | exact Cm.neB | exact Cm.nil | exact Cm.nnil | exact Cm.inI | exact Cm.ninI | exact Cm.inS | exact Cm.ninS | exact ⟨rfl⟩ | exact rfl) | (show Bi ..; first | exact Bi.listZ | exact Bi.len | exact Bi.lenT | exact Bi.sum | exact Bi.all | exact Bi.any | exact Bi.sortI | exact Bi.sortP | exact ⟨rfl⟩ | exact rfl) | (show Rp1 ..; first | exact Rp1.non | exact Rp1.tt | exact ⟨rfl⟩ | exact rfl) | (show Vls ..; first | exact Vls.nil | apply Vls.cons | exact ⟨rfl⟩ | exact rfl) | (show Vbs ..; first | exact Vbs.nil | apply Vbs.cons | exact ⟨rfl⟩ | exact rfl) | (show Vop ..; first | exact Vop.no | apply Vop.so | exact ⟨rfl⟩ | exact rfl) | (show Van ..; first | apply Van.one | apply Van.cons | exact ⟨rfl⟩ | exact rfl) | (show Vor ..; first | apply Vor.one | apply Vor.cons | exact ⟨rfl⟩ | exact rfl) | (show Vta ..; first | apply Vta.one | apply Vta.cons | exact ⟨rfl⟩ | exact rfl) | (show Vto ..; first | apply Vto.one | apply Vto.cons | exact ⟨rfl⟩ | exact rfl) | (show Vt ..; first | apply Vt.not | apply Vt.and | apply Vt.or | apply Vt.of rfl | exact ⟨rfl⟩ | exact rfl) | (show Fits ..; first | exact Fits.of (by first | exact Nat.le_of_ble_eq_true rfl | omega | (simp only [List.length_map, List.length_range, List.length_append, List.length_cons, List.length_nil, List.length_reverse, enu_length]; omega)) | exact ⟨rfl⟩ | exact rfl) | (show Rg ..; first | exact Rg.nat (by first | exact Nat.le_of_ble_eq_true rfl | omega | (simp only [List.length_map, List.length_range, List.length_append, List.length_cons, List.length_nil, List.length_reverse, enu_length]; omega)) | exact Rg.one (by first | exact Nat.le_of_ble_eq_true rfl | omega | (simp only [List.length_map, List.length_range, List.length_append, List.length_cons, List.length_nil, List.length_reverse, enu_length]; omega)) (by first | exact Nat.le_of_ble_eq_true rfl | omega | (simp only [List.length_map, List.length_range, List.length_append, List.length_cons, List.length_nil, List.length_reverse, enu_length]; omega)) | exact Rg.two (by first | exact Nat.le_of_ble_eq_true rfl | omega | (simp only [List.length_map, List.length_range, List.length_append, List.length_cons, List.length_nil, List.length_reverse, enu_length]; omega)) (by first | exact Nat.le_of_ble_eq_true rfl | omega | (simp only [List.length_map, List.length_range, List.length_append, List.length_cons, List.length_nil, List.length_reverse, enu_length]; omega)) (by first | exact Nat.le_of_ble_eq_true rfl | omega | (simp only [List.length_map, List.length_range, List.length_append, List.length_cons, List.length_nil, List.length_reverse, enu_length]; omega)) (by first | exact Nat.le_of_ble_eq_true rfl | omega | (simp only [List.length_map, List.length_range, List.length_append, List.length_cons, List.length_nil, List.length_reverse, enu_length]; omega)) | exact ⟨rfl⟩ | exact rfl) | (show Bn ..; first | exact Bn.addL (by first | exact Nat.le_of_ble_eq_true rfl | omega | (simp only [List.length_map, List.length_range, List.length_append, List.length_cons, List.length_nil, List.length_reverse, enu_length]; omega)) | exact Bn.addT (by first | exact Nat.le_of_ble_eq_true rfl | omega | (simp only [List.length_map, List.length_range, List.length_append, List.length_cons, List.length_nil, List.length_reverse, enu_length]; omega)) | exact Bn.mul (by first | decide | omega) | exact Bn.fdiv (by first | decide | omega) | exact Bn.mod (by first | decide | omega) | exact ⟨rfl⟩ | exact rfl | exact Bn.add (by first | exact Nat.le_of_ble_eq_true rfl | omega | (simp only [List.length_map, List.length_range, List.length_append, List.length_cons, List.length_nil, List.length_reverse, enu_length]; omega)) | exact Bn.addTT (by first | exact Nat.le_of_ble_eq_true rfl | omega | (simp only [List.length_map, List.length_range, List.length_append, List.length_cons, List.length_nil, List.length_reverse, enu_length]; omega))) | (show Isi ..; first | exact Isi.row rfl | exact Isi.row2 rfl | exact Isi.int rfl | exact Isi.bool rfl | exact Isi.str rfl | exact Isi.tup rfl | exact Isi.lst rfl | exact ⟨rfl⟩ | exact rfl) | exact ⟨rfl⟩ | exact rfl)
structure Pf (f : Str) (d : D) (ks : List Str) (es : List D) (ks' : List Str) (es' : List D) : Prop where
  h : putFld f d ks es = (ks', es')
theorem Pf.nil {f : Str} {d : D} : Pf f d [] [] [f] [d] := ⟨rfl⟩
theorem Pf.hit {f : Str} {d e : D} {ks : List Str} {es : List D} : Pf f d (f :: ks) (e :: es) (f :: ks) (d :: es) := ⟨by unfold putFld; rw [if_pos rfl]⟩
theorem Pf.skip {f k : Str} {d e : D} {ks ks' : List Str} {es es' : List D} (ne : decide (k = f) = false) (h : Pf f d ks es ks' es') : Pf f d (k :: ks) (e :: es) (k :: ks') (e :: es') := ⟨by
  unfold putFld
  rw [if_neg (of_decide_eq_false ne), h.h]⟩
theorem Sf.ins {c f : Str} {d : D} {ks ks' : List Str} {es es' : List D} (l : decide (ks.length < 1000) = true) (h : Pf f d ks es ks' es') : Sf c f d (.ins c ks es) (.ins c ks' es') := ⟨by
  show (if c = c ∧ ks.length < 1000 then some (D.ins c (putFld f d ks es).1 (putFld f d ks es).2) else none) = _
  rw [if_pos ⟨rfl, of_decide_eq_true l⟩, h.h]⟩
end Eng
set_option Elab.async false
set_option linter.all false
set_option maxRecDepth 100000
set_option maxHeartbeats 4000000
namespace Eng
open PySem PySem.Spec L2
local macro_rules | `(tactic| decreasing_trivial_pre_omega) => `(tactic| first | intro _ | (show Vl ..; first | exact Vl.cst | exact Vl.var rfl | exact Vl.gl | exact Vl.fn | apply Vl.mp | apply Vl.ft | apply Vl.dnew | apply Vl.dvl | apply Vl.dil | apply Vl.dcp | apply Vl.rpr | apply Vl.dget | apply Vl.call | apply Vl.attr | apply Vl.bin | apply Vl.cmp | apply Vl.ix | apply Vl.bi | apply Vl.meth | apply Vl.tup | apply Vl.lst | apply Vl.sl | apply Vl.neg | apply Vl.not | apply Vl.cmp2 | apply Vl.and | apply Vl.or | apply Vl.isi | apply Vl.isc | apply Vl.callv rfl | apply Vl.eqoT | apply Vl.eqoF | exact Vl.xf rfl (by decide +kernel) rfl | apply Vl.ssc | apply Vl.sset | apply Vl.lset | exact ⟨rfl⟩ | exact rfl | apply Vl.ifeI | apply Vl.ife) | (show Vb ..; first | exact Vb.var rfl | apply Vb.of ⟨rfl⟩ | exact ⟨rfl⟩ | exact rfl) | (show St ..; first | exact St.z | apply St.s | exact ⟨rfl⟩ | exact rfl) | (show Fz ..; first | exact Fz.nil | apply Fz.cons | exact ⟨rfl⟩ | exact rfl) | (show Fm ..; first | exact Fm.val | exact Fm.no | exact Fm.lst | exact Fm.dic | exact Fm.ins | apply Fm.s | exact ⟨rfl⟩ | exact rfl) | (show Wp ..; first | exact Wp.nil | apply Wp.cons | exact ⟨rfl⟩ | exact rfl) | (show Bg ..; first | apply Bg.v | apply Bg.t | exact ⟨rfl⟩ | exact rfl) | (show Bgs ..; first | exact Bgs.nil | apply Bgs.cons | exact ⟨rfl⟩ | exact rfl) | (show Ow ..; first | exact Ow.hd | apply Ow.tl | exact ⟨rfl⟩ | exact rfl) | (show Gs ..; first | exact Gs.z | apply Gs.s | exact ⟨rfl⟩ | exact rfl) | (show Nz ..; first | apply Nz.set | exact Nz.re | exact ⟨rfl⟩ | exact rfl) | (show Vps ..; first | exact Vps.nil | apply Vps.cons | exact ⟨rfl⟩ | exact rfl) | (show Sp ..; first | exact Sp.nil | apply Sp.val | apply Sp.own rfl | exact ⟨rfl⟩ | exact rfl) | (show Vit ..; first | apply Vit.dk | apply Vit.dv | apply Vit.di | apply Vit.rgc | apply Vit.seq | apply Vit.rng | apply Vit.enum | apply Vit.zip | exact ⟨rfl⟩ | exact rfl) | (show Viv ..; first | apply Viv.rgc | apply Viv.seq | apply Viv.rng | apply Viv.enum | exact ⟨rfl⟩ | exact rfl) | (show Kd ..; first | exact Kd.s | exact Kd.i | exact ⟨rfl⟩ | exact rfl) | (show Dk1 ..; first | exact Dk1.s (by first | exact Nat.le_of_ble_eq_true rfl | omega | (simp only [List.length_map, List.length_range, List.length_append, List.length_cons, List.length_nil, List.length_reverse, enu_length]; omega)) | exact ⟨rfl⟩ | exact rfl) | (show Dv1 ..; first | exact Dv1.s (by first | exact Nat.le_of_ble_eq_true rfl | omega | (simp only [List.length_map, List.length_range, List.length_append, List.length_cons, List.length_nil, List.length_reverse, enu_length]; omega)) | exact ⟨rfl⟩ | exact rfl) | (show Di1 ..; first | exact Di1.s (by first | exact Nat.le_of_ble_eq_true rfl | omega | (simp only [List.length_map, List.length_range, List.length_append, List.length_cons, List.length_nil, List.length_reverse, enu_length]; omega)) | exact ⟨rfl⟩ | exact rfl) | (show Dg ..; first | exact Dg.dz | exact ⟨rfl⟩ | exact rfl) | (show Cm ..; first | exact Cm.inZ | exact Cm.ninZ | exact Cm.inST | exact Cm.ninST | exact Cm.eqI | exact Cm.neI | exact Cm.eqS | exact Cm.neS | exact Cm.eqB | exact Cm.neB | exact Cm.nil | exact Cm.nnil | exact Cm.inI | exact Cm.ninI | exact Cm.inS | exact Cm.ninS | exact ⟨rfl⟩ | exact rfl) | (show Bi ..; first | exact Bi.listZ | exact Bi.len | exact Bi.lenT | exact Bi.sum | exact Bi.all | exact Bi.any | exact Bi.sortI | exact Bi.sortP | exact ⟨rfl⟩ | exact rfl) | (show Rp1 ..; first | exact Rp1.non | exact Rp1.tt | exact ⟨rfl⟩ | exact rfl) | (show Pf ..; first | exact Pf.nil | exact Pf.hit | apply Pf.skip (by decide) | exact ⟨rfl⟩ | exact rfl) | (show Sf ..; first | apply Sf.ins rfl | exact ⟨rfl⟩ | exact rfl) | (show Vls ..; first | exact Vls.nil | apply Vls.cons | exact ⟨rfl⟩ | exact rfl) | (show Vbs ..; first | exact Vbs.nil | apply Vbs.cons | exact ⟨rfl⟩ | exact rfl) | (show Vop ..; first | exact Vop.no | apply Vop.so | exact ⟨rfl⟩ | exact rfl) | (show Van ..; first | apply Van.one | apply Van.cons | exact ⟨rfl⟩ | exact rfl) | (show Vor ..; first | apply Vor.one | apply Vor.cons | exact ⟨rfl⟩ | exact rfl) | (show Vta ..; first | apply Vta.one | apply Vta.cons | exact ⟨rfl⟩ | exact rfl) | (show Vto ..; first | apply Vto.one | apply Vto.cons | exact ⟨rfl⟩ | exact rfl) | (show Vt ..; first | apply Vt.not | apply Vt.and | apply Vt.or | apply Vt.of rfl | exact ⟨rfl⟩ | exact rfl) | (show Fits ..; first | exact Fits.of (by first | exact Nat.le_of_ble_eq_true rfl | omega | (simp only [List.length_map, List.length_range, List.length_append, List.length_cons, List.length_nil, List.length_reverse, enu_length]; omega)) | exact ⟨rfl⟩ | exact rfl) | (show Rg ..; first | exact Rg.nat (by first | exact Nat.le_of_ble_eq_true rfl | omega | (simp only [List.length_map, List.length_range, List.length_append, List.length_cons, List.length_nil, List.length_reverse, enu_length]; omega)) | exact Rg.one (by first | exact Nat.le_of_ble_eq_true rfl | omega | (simp only [List.length_map, List.length_range, List.length_append, List.length_cons, List.length_nil, List.length_reverse, enu_length]; omega)) (by first | exact Nat.le_of_ble_eq_true rfl | omega | (simp only [List.length_map, List.length_range, List.length_append, List.length_cons, List.length_nil, List.length_reverse, enu_length]; omega)) | exact Rg.two (by first | exact Nat.le_of_ble_eq_true rfl | omega | (simp only [List.length_map, List.length_range, List.length_append, List.length_cons, List.length_nil, List.length_reverse, enu_length]; omega)) (by first | exact Nat.le_of_ble_eq_true rfl | omega | (simp only [List.length_map, List.length_range, List.length_append, List.length_cons, List.length_nil, List.length_reverse, enu_length]; omega)) (by first | exact Nat.le_of_ble_eq_true rfl | omega | (simp only [List.length_map, List.length_range, List.length_append, List.length_cons, List.length_nil, List.length_reverse, enu_length]; omega)) (by first | exact Nat.le_of_ble_eq_true rfl | omega | (simp only [List.length_map, List.length_range, List.length_append, List.length_cons, List.length_nil, List.length_reverse, enu_length]; omega)) | exact ⟨rfl⟩ | exact rfl) | (show Bn ..; first | exact Bn.addL (by first | exact Nat.le_of_ble_eq_true rfl | omega | (simp only [List.length_map, List.length_range, List.length_append, List.length_cons, List.length_nil, List.length_reverse, enu_length]; omega)) | exact Bn.addT (by first | exact Nat.le_of_ble_eq_true rfl | omega | (simp only [List.length_map, List.length_range, List.length_append, List.length_cons, List.length_nil, List.length_reverse, enu_length]; omega)) | exact Bn.mul (by first | decide | omega) | exact Bn.fdiv (by first | decide | omega) | exact Bn.mod (by first | decide | omega) | exact ⟨rfl⟩ | exact rfl | exact Bn.add (by first | exact Nat.le_of_ble_eq_true rfl | omega | (simp only [List.length_map, List.length_range, List.length_append, List.length_cons, List.length_nil, List.length_reverse, enu_length]; omega)) | exact Bn.addTT (by first | exact Nat.le_of_ble_eq_true rfl | omega | (simp only [List.length_map, List.length_range, List.length_append, List.length_cons, List.length_nil, List.length_reverse, enu_length]; omega))) | (show Isi ..; first | exact Isi.row rfl | exact Isi.row2 rfl | exact Isi.int rfl | exact Isi.bool rfl | exact Isi.str rfl | exact Isi.tup rfl | exact Isi.lst rfl | exact ⟨rfl⟩ | exact rfl) | exact ⟨rfl⟩ | exact rfl)
section
variable {C : Calls} {env env0 env1 : Env} {st st1 st2 : Store} {a c e : E} {es : Es} {d x y : D} {ss body : Ss} {cn : Str} {ks : List Str} {ds : List D} {P : Out Fl → Prop}
inductive WhlP (J : Env → Store → Prop) (P : Out Fl → Prop) : Out Fl → Prop
  | nx {env : Env} {st : Store} : J env st → WhlP J P (.ok (.nx env) st)
  | rt {d : D} {st : Store} : P (.ok (.rt d) st) → WhlP J P (.ok (.rt d) st)
theorem whlGo_W {cT : Env → Store → Out Bool} {bd : Env → Store → Out Fl} (I : Nat → Env → Store → Prop) (Q : Out Fl → Prop)
    (k : ∀ m env st, I m env st → ∃ p st1, cT env st = .ok p st1 ∧ (p = false → Q (.ok (.nx env) st1)) ∧ (p = true → WhlP (fun en s => ∃ j, j < m ∧ I j en s) Q (bd env st1))) : ∀ (n m : Nat) (env : Env) (st : Store), m < n → I m env st → Q (whlGo cT bd n env st)
  | 0, m, env, st, l, _ => absurd l (Nat.not_lt_zero _)
  | n + 1, m, env, st, l, i => by
    obtain ⟨p, st1, e, hf, ht⟩ := k m env st i
    unfold whlGo
    rw [e]
    cases p with
    | false => exact hf rfl
    | true =>
      show Q ((bd env st1).bnd _)
      have t := ht rfl
      generalize bd env st1 = o at t
      cases t with
      | nx j =>
        obtain ⟨j, lt, ij⟩ := j
        exact whlGo_W I Q k n j _ _ (by omega) ij
      | rt q => exact q
theorem W.whl {n : Nat} (I : Nat → Env → Store → Prop) (m : Nat) (h0 : I m env st) (l : m < n)
    (k : ∀ m en s, I m en s → ∃ p s1, Vt C en c s (.ok p s1) ∧ (p = false → W C ss en s1 P) ∧ (p = true → W C body en s1 (WhlP (fun en s => ∃ j, j < m ∧ I j en s) (SeqP C ss P)))) : W C (.cons (.whl n c body) ss) env st P := by
  refine SeqP.go (o := whlGo (fun env st => evT C env c st) (evSs C body) n env st) rfl ?_
  refine whlGo_W (I := I) (SeqP C ss P) (fun m en s i => ?_) n m env st l h0
  obtain ⟨p, s1, v, hf, ht⟩ := k m en s i
  exact ⟨p, s1, v.h, fun e => .nx (hf e), fun e => (ht e).h⟩
end
end Eng
set_option Elab.async false
set_option linter.all false
set_option maxRecDepth 100000
set_option maxHeartbeats 2000000
namespace Eng
open PySem PySem.Spec L2
section
variable {α β : Type}
/-- a sum over a list -/
def sm (f : α → Int) (l : List α) : Int := (l.map f).sum
@[simp] theorem sm_nil (f : α → Int) : sm f [] = 0 := rfl
@[simp] theorem sm_cons (f : α → Int) (x : α) (l : List α) : sm f (x :: l) = f x + sm f l := by simp [sm]
@[simp] theorem sm_app (f : α → Int) (l r : List α) : sm f (l ++ r) = sm f l + sm f r := by simp [sm]
/-- how many of a list a bound is about -/
def cn (c : α → Bool) (l : List α) : Int := sm (fun x => if c x = true then 1 else 0) l
@[simp] theorem cn_nil (c : α → Bool) : cn c [] = 0 := rfl
@[simp] theorem cn_cons (c : α → Bool) (x : α) (l : List α) : cn c (x :: l) = (if c x = true then 1 else 0) + cn c l := sm_cons _ _ _
@[simp] theorem cn_app (c : α → Bool) (l r : List α) : cn c (l ++ r) = cn c l + cn c r := sm_app _ _ _
end
end Eng
set_option Elab.async false
set_option linter.all false
set_option maxRecDepth 100000
set_option maxHeartbeats 2000000
namespace Eng
open PySem PySem.Spec L2
/-- a group: its name, how many, of whom -/
structure Gr where
  g : Str
  m : Nat
  ns : List Str
/-- nested or apart -/
def Nest (gs : List Gr) : Prop := ∀ g ∈ gs, ∀ h ∈ gs, (∀ x ∈ g.ns, x ∈ h.ns) ∨ (∀ x ∈ h.ns, x ∈ g.ns) ∨ ∀ x ∈ g.ns, x ∉ h.ns
end Eng
set_option Elab.async false
set_option linter.all false
set_option maxRecDepth 100000
set_option maxHeartbeats 2000000
namespace Eng
open PySem PySem.Spec L2
local macro_rules | `(tactic| decreasing_trivial_pre_omega) => `(tactic| first | intro _ | (show Vl ..; first | exact Vl.cst | exact Vl.var rfl | exact Vl.gl | exact Vl.fn | apply Vl.mp | apply Vl.ft | apply Vl.dnew | apply Vl.dvl | apply Vl.dil | apply Vl.dcp | apply Vl.rpr | apply Vl.dget | apply Vl.call | apply Vl.attr | apply Vl.bin | apply Vl.cmp | apply Vl.ix | apply Vl.bi | apply Vl.meth | apply Vl.tup | apply Vl.lst | apply Vl.sl | apply Vl.neg | apply Vl.not | apply Vl.cmp2 | apply Vl.and | apply Vl.or | apply Vl.isi | apply Vl.isc | apply Vl.callv rfl | apply Vl.eqoT | apply Vl.eqoF | exact Vl.xf rfl (by decide +kernel) rfl | apply Vl.ssc | apply Vl.sset | apply Vl.lset | exact ⟨rfl⟩ | exact rfl | apply Vl.ifeI | apply Vl.ife) | (show Vb ..; first | exact Vb.var rfl | apply Vb.of ⟨rfl⟩ | exact ⟨rfl⟩ | exact rfl) | (show St ..; first | exact St.z | apply St.s | exact ⟨rfl⟩ | exact rfl) | (show Fz ..; first | exact Fz.nil | apply Fz.cons | exact ⟨rfl⟩ | exact rfl) | (show Fm ..; first | exact Fm.val | exact Fm.no | exact Fm.lst | exact Fm.dic | exact Fm.ins | apply Fm.s | exact ⟨rfl⟩ | exact rfl) | (show Wp ..; first | exact Wp.nil | apply Wp.cons | exact ⟨rfl⟩ | exact rfl) | (show Bg ..; first | apply Bg.v | apply Bg.t | exact ⟨rfl⟩ | exact rfl) | (show Bgs ..; first | exact Bgs.nil | apply Bgs.cons | exact ⟨rfl⟩ | exact rfl) | (show Ow ..; first | exact Ow.hd | apply Ow.tl | exact ⟨rfl⟩ | exact rfl) | (show Gs ..; first | exact Gs.z | apply Gs.s | exact ⟨rfl⟩ | exact rfl) | (show Nz ..; first | apply Nz.set | exact Nz.re | exact ⟨rfl⟩ | exact rfl) | (show Vps ..; first | exact Vps.nil | apply Vps.cons | exact ⟨rfl⟩ | exact rfl) | (show Sp ..; first | exact Sp.nil | apply Sp.val | apply Sp.own rfl | exact ⟨rfl⟩ | exact rfl) | (show Vit ..; first | apply Vit.dk | apply Vit.dv | apply Vit.di | apply Vit.rgc | apply Vit.seq | apply Vit.rng | apply Vit.enum | apply Vit.zip | exact ⟨rfl⟩ | exact rfl) | (show Viv ..; first | apply Viv.rgc | apply Viv.seq | apply Viv.rng | apply Viv.enum | exact ⟨rfl⟩ | exact rfl) | (show Kd ..; first | exact Kd.s | exact Kd.i | exact ⟨rfl⟩ | exact rfl) | (show Dk1 ..; first | exact Dk1.s (by first | exact Nat.le_of_ble_eq_true rfl | omega | (simp only [List.length_map, List.length_range, List.length_append, List.length_cons, List.length_nil, List.length_reverse, enu_length]; omega)) | exact ⟨rfl⟩ | exact rfl) | (show Dv1 ..; first | exact Dv1.s (by first | exact Nat.le_of_ble_eq_true rfl | omega | (simp only [List.length_map, List.length_range, List.length_append, List.length_cons, List.length_nil, List.length_reverse, enu_length]; omega)) | exact ⟨rfl⟩ | exact rfl) | (show Di1 ..; first | exact Di1.s (by first | exact Nat.le_of_ble_eq_true rfl | omega | (simp only [List.length_map, List.length_range, List.length_append, List.length_cons, List.length_nil, List.length_reverse, enu_length]; omega)) | exact ⟨rfl⟩ | exact rfl) | (show Dg ..; first | exact Dg.dz | exact ⟨rfl⟩ | exact rfl) | (show Cm ..; first | exact Cm.inZ | exact Cm.ninZ | exact Cm.inST | exact Cm.ninST | exact Cm.eqI | exact Cm.neI | exact Cm.eqS | exact Cm.neS | exact Cm.eqB | exact Cm.neB | exact Cm.nil | exact Cm.nnil | exact Cm.inI | exact Cm.ninI | exact Cm.inS | exact Cm.ninS | exact ⟨rfl⟩ | exact rfl) | (show Bi ..; first | exact Bi.listZ | exact Bi.len | exact Bi.lenT | exact Bi.sum | exact Bi.all | exact Bi.any | exact Bi.sortI | exact Bi.sortP | exact ⟨rfl⟩ | exact rfl) | (show Rp1 ..; first | exact Rp1.non | exact Rp1.tt | exact ⟨rfl⟩ | exact rfl) | (show Vls ..; first | exact Vls.nil | apply Vls.cons | exact ⟨rfl⟩ | exact rfl) | (show Vbs ..; first | exact Vbs.nil | apply Vbs.cons | exact ⟨rfl⟩ | exact rfl) | (show Vop ..; first | exact Vop.no | apply Vop.so | exact ⟨rfl⟩ | exact rfl) | (show Van ..; first | apply Van.one | apply Van.cons | exact ⟨rfl⟩ | exact rfl) | (show Vor ..; first | apply Vor.one | apply Vor.cons | exact ⟨rfl⟩ | exact rfl) | (show Vta ..; first | apply Vta.one | apply Vta.cons | exact ⟨rfl⟩ | exact rfl) | (show Vto ..; first | apply Vto.one | apply Vto.cons | exact ⟨rfl⟩ | exact rfl) | (show Vt ..; first | apply Vt.not | apply Vt.and | apply Vt.or | apply Vt.of rfl | exact ⟨rfl⟩ | exact rfl) | (show Fits ..; first | exact Fits.of (by first | exact Nat.le_of_ble_eq_true rfl | omega | (simp only [List.length_map, List.length_range, List.length_append, List.length_cons, List.length_nil, List.length_reverse, enu_length]; omega)) | exact ⟨rfl⟩ | exact rfl) | (show Rg ..; first | exact Rg.nat (by first | exact Nat.le_of_ble_eq_true rfl | omega | (simp only [List.length_map, List.length_range, List.length_append, List.length_cons, List.length_nil, List.length_reverse, enu_length]; omega)) | exact Rg.one (by first | exact Nat.le_of_ble_eq_true rfl | omega | (simp only [List.length_map, List.length_range, List.length_append, List.length_cons, List.length_nil, List.length_reverse, enu_length]; omega)) (by first | exact Nat.le_of_ble_eq_true rfl | omega | (simp only [List.length_map, List.length_range, List.length_append, List.length_cons, List.length_nil, List.length_reverse, enu_length]; omega)) | exact Rg.two (by first | exact Nat.le_of_ble_eq_true rfl | omega | (simp only [List.length_map, List.length_range, List.length_append, List.length_cons, List.length_nil, List.length_reverse, enu_length]; omega)) (by first | exact Nat.le_of_ble_eq_true rfl | omega | (simp only [List.length_map, List.length_range, List.length_append, List.length_cons, List.length_nil, List.length_reverse, enu_length]; omega)) (by first | exact Nat.le_of_ble_eq_true rfl | omega | (simp only [List.length_map, List.length_range, List.length_append, List.length_cons, List.length_nil, List.length_reverse, enu_length]; omega)) (by first | exact Nat.le_of_ble_eq_true rfl | omega | (simp only [List.length_map, List.length_range, List.length_append, List.length_cons, List.length_nil, List.length_reverse, enu_length]; omega)) | exact ⟨rfl⟩ | exact rfl) | (show Bn ..; first | exact Bn.addL (by first | exact Nat.le_of_ble_eq_true rfl | omega | (simp only [List.length_map, List.length_range, List.length_append, List.length_cons, List.length_nil, List.length_reverse, enu_length]; omega)) | exact Bn.addT (by first | exact Nat.le_of_ble_eq_true rfl | omega | (simp only [List.length_map, List.length_range, List.length_append, List.length_cons, List.length_nil, List.length_reverse, enu_length]; omega)) | exact Bn.mul (by first | decide | omega) | exact Bn.fdiv (by first | decide | omega) | exact Bn.mod (by first | decide | omega) | exact ⟨rfl⟩ | exact rfl | exact Bn.add (by first | exact Nat.le_of_ble_eq_true rfl | omega | (simp only [List.length_map, List.length_range, List.length_append, List.length_cons, List.length_nil, List.length_reverse, enu_length]; omega)) | exact Bn.addTT (by first | exact Nat.le_of_ble_eq_true rfl | omega | (simp only [List.length_map, List.length_range, List.length_append, List.length_cons, List.length_nil, List.length_reverse, enu_length]; omega))) | (show Isi ..; first | exact Isi.row rfl | exact Isi.row2 rfl | exact Isi.int rfl | exact Isi.bool rfl | exact Isi.str rfl | exact Isi.tup rfl | exact Isi.lst rfl | exact ⟨rfl⟩ | exact rfl) | exact ⟨rfl⟩ | exact rfl)
section
variable {tab : List FnI} {n i l w : Nat} {st : Store} {most : Nat} {gs : List Gr}
theorem Cm.gtI {a b : Int} : Cm .Gt (.int a) (.int b) (decide (b < a)) := ⟨rfl⟩
/-- sorted(.., key=..) -/
theorem Vl.srtk {α : Type} {C : Calls} {env : Env} {a key : E} {p : Str × Option Str} {q : Str} {i : Nat} {xs : List α} {enc kf : α → D} {z : D} {en : α → Env} (ht : hasTab p q st = true) (ha : Vb C env a st (.ok (.lst (xs.map enc)) st)) (hn : ∀ x ∈ xs, St env i (.val (enc x)) (en x)) (hk : ∀ x ∈ xs, Vl C (en x) key st (.ok (kf x) st)) (hs : sortK (xs.map enc) (xs.map kf) = some z) : Vl C env (.srtk p q i key a) st (.ok z st) := ⟨by
  show (bor env a (evP C env a).1 st).bnd _ = _
  rw [ha.h, Out.bnd_ok]
  show chkO (hasTab p q st) _ = _
  rw [ht, chkO_true]
  have z : lcGo (fun d st => ((evP C (env.set i (.val d)) key).1 st).bnd fun y st => .ok (some y) st) (xs.map enc) st = .ok (xs.map kf) st := by
    clear hs ha
    induction xs with
    | nil => rfl
    | cons x xs ih =>
      show ((((evP C (env.set i (.val (enc x))) key).1 st).bnd fun y st => Out.ok (some y) st).nox).bnd _ = _
      rw [(hn x List.mem_cons_self).h, (hk x List.mem_cons_self).h]
      show (lcGo _ (xs.map enc) st).bnd _ = _
      rw [ih (fun y hy => hn y (List.mem_cons_of_mem _ hy)) fun y hy => hk y (List.mem_cons_of_mem _ hy)]
      rfl
  rw [z, Out.bnd_ok, hs]
  rfl⟩
end
end Eng
set_option Elab.async false
set_option linter.all false
set_option maxRecDepth 100000
set_option maxHeartbeats 2000000
namespace Eng
open PySem PySem.Spec L2
local macro_rules | `(tactic| decreasing_trivial_pre_omega) => `(tactic| first | intro _ | (show Vl ..; first | exact Vl.cst | exact Vl.var rfl | exact Vl.gl | exact Vl.fn | apply Vl.mp | apply Vl.ft | apply Vl.dnew | apply Vl.dvl | apply Vl.dil | apply Vl.dcp | apply Vl.rpr | apply Vl.dget | apply Vl.call | apply Vl.attr | apply Vl.bin | apply Vl.cmp | apply Vl.ix | apply Vl.bi | apply Vl.meth | apply Vl.tup | apply Vl.lst | apply Vl.sl | apply Vl.neg | apply Vl.not | apply Vl.cmp2 | apply Vl.and | apply Vl.or | apply Vl.isi | apply Vl.isc | apply Vl.callv rfl | apply Vl.eqoT | apply Vl.eqoF | exact Vl.xf rfl (by decide +kernel) rfl | apply Vl.ssc | apply Vl.sset | apply Vl.lset | exact ⟨rfl⟩ | exact rfl | apply Vl.ifeI | apply Vl.ife) | (show Vb ..; first | exact Vb.var rfl | apply Vb.of ⟨rfl⟩ | exact ⟨rfl⟩ | exact rfl) | (show St ..; first | exact St.z | apply St.s | exact ⟨rfl⟩ | exact rfl) | (show Fz ..; first | exact Fz.nil | apply Fz.cons | exact ⟨rfl⟩ | exact rfl) | (show Fm ..; first | exact Fm.val | exact Fm.no | exact Fm.lst | exact Fm.dic | exact Fm.ins | apply Fm.s | exact ⟨rfl⟩ | exact rfl) | (show Wp ..; first | exact Wp.nil | apply Wp.cons | exact ⟨rfl⟩ | exact rfl) | (show Bg ..; first | apply Bg.v | apply Bg.t | exact ⟨rfl⟩ | exact rfl) | (show Bgs ..; first | exact Bgs.nil | apply Bgs.cons | exact ⟨rfl⟩ | exact rfl) | (show Ow ..; first | exact Ow.hd | apply Ow.tl | exact ⟨rfl⟩ | exact rfl) | (show Gs ..; first | exact Gs.z | apply Gs.s | exact ⟨rfl⟩ | exact rfl) | (show Nz ..; first | apply Nz.set | exact Nz.re | exact ⟨rfl⟩ | exact rfl) | (show Vps ..; first | exact Vps.nil | apply Vps.cons | exact ⟨rfl⟩ | exact rfl) | (show Sp ..; first | exact Sp.nil | apply Sp.val | apply Sp.own rfl | exact ⟨rfl⟩ | exact rfl) | (show Vit ..; first | apply Vit.dk | apply Vit.dv | apply Vit.di | apply Vit.rgc | apply Vit.seq | apply Vit.rng | apply Vit.enum | apply Vit.zip | exact ⟨rfl⟩ | exact rfl) | (show Viv ..; first | apply Viv.rgc | apply Viv.seq | apply Viv.rng | apply Viv.enum | exact ⟨rfl⟩ | exact rfl) | (show Kd ..; first | exact Kd.s | exact Kd.i | exact ⟨rfl⟩ | exact rfl) | (show Dk1 ..; first | exact Dk1.s (by first | exact Nat.le_of_ble_eq_true rfl | omega | (simp only [List.length_map, List.length_range, List.length_append, List.length_cons, List.length_nil, List.length_reverse, enu_length]; omega)) | exact ⟨rfl⟩ | exact rfl) | (show Dv1 ..; first | exact Dv1.s (by first | exact Nat.le_of_ble_eq_true rfl | omega | (simp only [List.length_map, List.length_range, List.length_append, List.length_cons, List.length_nil, List.length_reverse, enu_length]; omega)) | exact ⟨rfl⟩ | exact rfl) | (show Di1 ..; first | exact Di1.s (by first | exact Nat.le_of_ble_eq_true rfl | omega | (simp only [List.length_map, List.length_range, List.length_append, List.length_cons, List.length_nil, List.length_reverse, enu_length]; omega)) | exact ⟨rfl⟩ | exact rfl) | (show Dg ..; first | exact Dg.dz | exact ⟨rfl⟩ | exact rfl) | (show Cm ..; first | exact Cm.inZ | exact Cm.ninZ | exact Cm.inST | exact Cm.ninST | exact Cm.eqI | exact Cm.neI | exact Cm.eqS | exact Cm.neS | exact Cm.eqB | exact Cm.neB | exact Cm.nil | exact Cm.nnil | exact Cm.inI | exact Cm.ninI | exact Cm.inS | exact Cm.ninS | exact ⟨rfl⟩ | exact rfl) | (show Bi ..; first | exact Bi.listZ | exact Bi.len | exact Bi.lenT | exact Bi.sum | exact Bi.all | exact Bi.any | exact Bi.sortI | exact Bi.sortP | exact ⟨rfl⟩ | exact rfl) | (show Rp1 ..; first | exact Rp1.non | exact Rp1.tt | exact ⟨rfl⟩ | exact rfl) | (show Pf ..; first | exact Pf.nil | exact Pf.hit | apply Pf.skip (by decide) | exact ⟨rfl⟩ | exact rfl) | (show Sf ..; first | apply Sf.ins rfl | exact ⟨rfl⟩ | exact rfl) | (show Vls ..; first | exact Vls.nil | apply Vls.cons | exact ⟨rfl⟩ | exact rfl) | (show Vbs ..; first | exact Vbs.nil | apply Vbs.cons | exact ⟨rfl⟩ | exact rfl) | (show Vop ..; first | exact Vop.no | apply Vop.so | exact ⟨rfl⟩ | exact rfl) | (show Van ..; first | apply Van.one | apply Van.cons | exact ⟨rfl⟩ | exact rfl) | (show Vor ..; first | apply Vor.one | apply Vor.cons | exact ⟨rfl⟩ | exact rfl) | (show Vta ..; first | apply Vta.one | apply Vta.cons | exact ⟨rfl⟩ | exact rfl) | (show Vto ..; first | apply Vto.one | apply Vto.cons | exact ⟨rfl⟩ | exact rfl) | (show Vt ..; first | apply Vt.not | apply Vt.and | apply Vt.or | apply Vt.of rfl | exact ⟨rfl⟩ | exact rfl) | (show Fits ..; first | exact Fits.of (by first | exact Nat.le_of_ble_eq_true rfl | omega | (simp only [List.length_map, List.length_range, List.length_append, List.length_cons, List.length_nil, List.length_reverse, enu_length]; omega)) | exact ⟨rfl⟩ | exact rfl) | (show Rg ..; first | exact Rg.nat (by first | exact Nat.le_of_ble_eq_true rfl | omega | (simp only [List.length_map, List.length_range, List.length_append, List.length_cons, List.length_nil, List.length_reverse, enu_length]; omega)) | exact Rg.one (by first | exact Nat.le_of_ble_eq_true rfl | omega | (simp only [List.length_map, List.length_range, List.length_append, List.length_cons, List.length_nil, List.length_reverse, enu_length]; omega)) (by first | exact Nat.le_of_ble_eq_true rfl | omega | (simp only [List.length_map, List.length_range, List.length_append, List.length_cons, List.length_nil, List.length_reverse, enu_length]; omega)) | exact Rg.two (by first | exact Nat.le_of_ble_eq_true rfl | omega | (simp only [List.length_map, List.length_range, List.length_append, List.length_cons, List.length_nil, List.length_reverse, enu_length]; omega)) (by first | exact Nat.le_of_ble_eq_true rfl | omega | (simp only [List.length_map, List.length_range, List.length_append, List.length_cons, List.length_nil, List.length_reverse, enu_length]; omega)) (by first | exact Nat.le_of_ble_eq_true rfl | omega | (simp only [List.length_map, List.length_range, List.length_append, List.length_cons, List.length_nil, List.length_reverse, enu_length]; omega)) (by first | exact Nat.le_of_ble_eq_true rfl | omega | (simp only [List.length_map, List.length_range, List.length_append, List.length_cons, List.length_nil, List.length_reverse, enu_length]; omega)) | exact ⟨rfl⟩ | exact rfl) | (show Bn ..; first | exact Bn.addL (by first | exact Nat.le_of_ble_eq_true rfl | omega | (simp only [List.length_map, List.length_range, List.length_append, List.length_cons, List.length_nil, List.length_reverse, enu_length]; omega)) | exact Bn.addT (by first | exact Nat.le_of_ble_eq_true rfl | omega | (simp only [List.length_map, List.length_range, List.length_append, List.length_cons, List.length_nil, List.length_reverse, enu_length]; omega)) | exact Bn.mul (by first | decide | omega) | exact Bn.fdiv (by first | decide | omega) | exact Bn.mod (by first | decide | omega) | exact ⟨rfl⟩ | exact rfl | exact Bn.add (by first | exact Nat.le_of_ble_eq_true rfl | omega | (simp only [List.length_map, List.length_range, List.length_append, List.length_cons, List.length_nil, List.length_reverse, enu_length]; omega)) | exact Bn.addTT (by first | exact Nat.le_of_ble_eq_true rfl | omega | (simp only [List.length_map, List.length_range, List.length_append, List.length_cons, List.length_nil, List.length_reverse, enu_length]; omega))) | (show Isi ..; first | exact Isi.row rfl | exact Isi.row2 rfl | exact Isi.int rfl | exact Isi.bool rfl | exact Isi.str rfl | exact Isi.tup rfl | exact Isi.lst rfl | exact ⟨rfl⟩ | exact rfl) | exact ⟨rfl⟩ | exact rfl)
/-- groups that Bounds takes -/
structure GsOk (gs : List Gr) : Prop where
  few : gs.length ≤ 20
  nm : ∀ g ∈ gs, nameB g.g = true
  nd : (gs.map (·.g)).Nodup
  m : ∀ g ∈ gs, g.m ≤ 40
  ns : ∀ g ∈ gs, ∀ x ∈ g.ns, nameB x = true
  nsd : ∀ g ∈ gs, g.ns.Nodup
  nsl : ∀ g ∈ gs, g.ns.length ≤ 1000
  ne : Nest gs
end Eng
set_option Elab.async false
set_option linter.all false
set_option maxRecDepth 100000
set_option maxHeartbeats 4000000
namespace Eng
open PySem PySem.Spec L2
local macro_rules | `(tactic| decreasing_trivial_pre_omega) => `(tactic| first | intro _ | (show Vl ..; first | exact Vl.cst | exact Vl.var rfl | exact Vl.gl | exact Vl.fn | apply Vl.mp | apply Vl.ft | apply Vl.dnew | apply Vl.dvl | apply Vl.dil | apply Vl.dcp | apply Vl.rpr | apply Vl.dget | apply Vl.call | apply Vl.attr | apply Vl.bin | apply Vl.cmp | apply Vl.ix | apply Vl.bi | apply Vl.meth | apply Vl.tup | apply Vl.lst | apply Vl.sl | apply Vl.neg | apply Vl.not | apply Vl.cmp2 | apply Vl.and | apply Vl.or | apply Vl.isi | apply Vl.isc | apply Vl.callv rfl | apply Vl.eqoT | apply Vl.eqoF | exact Vl.xf rfl (by decide +kernel) rfl | apply Vl.ssc | apply Vl.sset | apply Vl.lset | exact ⟨rfl⟩ | exact rfl | apply Vl.ifeI | apply Vl.ife) | (show Vb ..; first | exact Vb.var rfl | apply Vb.of ⟨rfl⟩ | exact ⟨rfl⟩ | exact rfl) | (show St ..; first | exact St.z | apply St.s | exact ⟨rfl⟩ | exact rfl) | (show Fz ..; first | exact Fz.nil | apply Fz.cons | exact ⟨rfl⟩ | exact rfl) | (show Fm ..; first | exact Fm.val | exact Fm.no | exact Fm.lst | exact Fm.dic | exact Fm.ins | apply Fm.s | exact ⟨rfl⟩ | exact rfl) | (show Wp ..; first | exact Wp.nil | apply Wp.cons | exact ⟨rfl⟩ | exact rfl) | (show Bg ..; first | apply Bg.v | apply Bg.t | exact ⟨rfl⟩ | exact rfl) | (show Bgs ..; first | exact Bgs.nil | apply Bgs.cons | exact ⟨rfl⟩ | exact rfl) | (show Ow ..; first | exact Ow.hd | apply Ow.tl | exact ⟨rfl⟩ | exact rfl) | (show Gs ..; first | exact Gs.z | apply Gs.s | exact ⟨rfl⟩ | exact rfl) | (show Nz ..; first | apply Nz.set | exact Nz.re | exact ⟨rfl⟩ | exact rfl) | (show Vps ..; first | exact Vps.nil | apply Vps.cons | exact ⟨rfl⟩ | exact rfl) | (show Sp ..; first | exact Sp.nil | apply Sp.val | apply Sp.own rfl | exact ⟨rfl⟩ | exact rfl) | (show Vit ..; first | apply Vit.dk | apply Vit.dv | apply Vit.di | apply Vit.rgc | apply Vit.seq | apply Vit.rng | apply Vit.enum | apply Vit.zip | exact ⟨rfl⟩ | exact rfl) | (show Viv ..; first | apply Viv.rgc | apply Viv.seq | apply Viv.rng | apply Viv.enum | exact ⟨rfl⟩ | exact rfl) | (show Kd ..; first | exact Kd.s | exact Kd.i | exact ⟨rfl⟩ | exact rfl) | (show Dk1 ..; first | exact Dk1.s (by first | exact Nat.le_of_ble_eq_true rfl | omega | (simp only [List.length_map, List.length_range, List.length_append, List.length_cons, List.length_nil, List.length_reverse, enu_length]; omega)) | exact ⟨rfl⟩ | exact rfl) | (show Dv1 ..; first | exact Dv1.s (by first | exact Nat.le_of_ble_eq_true rfl | omega | (simp only [List.length_map, List.length_range, List.length_append, List.length_cons, List.length_nil, List.length_reverse, enu_length]; omega)) | exact ⟨rfl⟩ | exact rfl) | (show Di1 ..; first | exact Di1.s (by first | exact Nat.le_of_ble_eq_true rfl | omega | (simp only [List.length_map, List.length_range, List.length_append, List.length_cons, List.length_nil, List.length_reverse, enu_length]; omega)) | exact ⟨rfl⟩ | exact rfl) | (show Dg ..; first | exact Dg.dz | exact ⟨rfl⟩ | exact rfl) | (show Cm ..; first | exact Cm.inZ | exact Cm.ninZ | exact Cm.inST | exact Cm.ninST | exact Cm.eqI | exact Cm.neI | exact Cm.eqS | exact Cm.neS | exact Cm.eqB | exact Cm.neB | exact Cm.nil | exact Cm.nnil | exact Cm.inI | exact Cm.ninI | exact Cm.inS | exact Cm.ninS | exact ⟨rfl⟩ | exact rfl) | (show Bi ..; first | exact Bi.listZ | exact Bi.len | exact Bi.lenT | exact Bi.sum | exact Bi.all | exact Bi.any | exact Bi.sortI | exact Bi.sortP | exact ⟨rfl⟩ | exact rfl) | (show Rp1 ..; first | exact Rp1.non | exact Rp1.tt | exact ⟨rfl⟩ | exact rfl) | (show Pf ..; first | exact Pf.nil | exact Pf.hit | apply Pf.skip (by decide) | exact ⟨rfl⟩ | exact rfl) | (show Sf ..; first | apply Sf.ins rfl | exact ⟨rfl⟩ | exact rfl) | (show Vls ..; first | exact Vls.nil | apply Vls.cons | exact ⟨rfl⟩ | exact rfl) | (show Vbs ..; first | exact Vbs.nil | apply Vbs.cons | exact ⟨rfl⟩ | exact rfl) | (show Vop ..; first | exact Vop.no | apply Vop.so | exact ⟨rfl⟩ | exact rfl) | (show Van ..; first | apply Van.one | apply Van.cons | exact ⟨rfl⟩ | exact rfl) | (show Vor ..; first | apply Vor.one | apply Vor.cons | exact ⟨rfl⟩ | exact rfl) | (show Vta ..; first | apply Vta.one | apply Vta.cons | exact ⟨rfl⟩ | exact rfl) | (show Vto ..; first | apply Vto.one | apply Vto.cons | exact ⟨rfl⟩ | exact rfl) | (show Vt ..; first | apply Vt.not | apply Vt.and | apply Vt.or | apply Vt.of rfl | exact ⟨rfl⟩ | exact rfl) | (show Fits ..; first | exact Fits.of (by first | exact Nat.le_of_ble_eq_true rfl | omega | (simp only [List.length_map, List.length_range, List.length_append, List.length_cons, List.length_nil, List.length_reverse, enu_length]; omega)) | exact ⟨rfl⟩ | exact rfl) | (show Rg ..; first | exact Rg.nat (by first | exact Nat.le_of_ble_eq_true rfl | omega | (simp only [List.length_map, List.length_range, List.length_append, List.length_cons, List.length_nil, List.length_reverse, enu_length]; omega)) | exact Rg.one (by first | exact Nat.le_of_ble_eq_true rfl | omega | (simp only [List.length_map, List.length_range, List.length_append, List.length_cons, List.length_nil, List.length_reverse, enu_length]; omega)) (by first | exact Nat.le_of_ble_eq_true rfl | omega | (simp only [List.length_map, List.length_range, List.length_append, List.length_cons, List.length_nil, List.length_reverse, enu_length]; omega)) | exact Rg.two (by first | exact Nat.le_of_ble_eq_true rfl | omega | (simp only [List.length_map, List.length_range, List.length_append, List.length_cons, List.length_nil, List.length_reverse, enu_length]; omega)) (by first | exact Nat.le_of_ble_eq_true rfl | omega | (simp only [List.length_map, List.length_range, List.length_append, List.length_cons, List.length_nil, List.length_reverse, enu_length]; omega)) (by first | exact Nat.le_of_ble_eq_true rfl | omega | (simp only [List.length_map, List.length_range, List.length_append, List.length_cons, List.length_nil, List.length_reverse, enu_length]; omega)) (by first | exact Nat.le_of_ble_eq_true rfl | omega | (simp only [List.length_map, List.length_range, List.length_append, List.length_cons, List.length_nil, List.length_reverse, enu_length]; omega)) | exact ⟨rfl⟩ | exact rfl) | (show Bn ..; first | exact Bn.addL (by first | exact Nat.le_of_ble_eq_true rfl | omega | (simp only [List.length_map, List.length_range, List.length_append, List.length_cons, List.length_nil, List.length_reverse, enu_length]; omega)) | exact Bn.addT (by first | exact Nat.le_of_ble_eq_true rfl | omega | (simp only [List.length_map, List.length_range, List.length_append, List.length_cons, List.length_nil, List.length_reverse, enu_length]; omega)) | exact Bn.mul (by first | decide | omega) | exact Bn.fdiv (by first | decide | omega) | exact Bn.mod (by first | decide | omega) | exact ⟨rfl⟩ | exact rfl | exact Bn.add (by first | exact Nat.le_of_ble_eq_true rfl | omega | (simp only [List.length_map, List.length_range, List.length_append, List.length_cons, List.length_nil, List.length_reverse, enu_length]; omega)) | exact Bn.addTT (by first | exact Nat.le_of_ble_eq_true rfl | omega | (simp only [List.length_map, List.length_range, List.length_append, List.length_cons, List.length_nil, List.length_reverse, enu_length]; omega))) | (show Isi ..; first | exact Isi.row rfl | exact Isi.row2 rfl | exact Isi.int rfl | exact Isi.bool rfl | exact Isi.str rfl | exact Isi.tup rfl | exact Isi.lst rfl | exact ⟨rfl⟩ | exact rfl) | exact ⟨rfl⟩ | exact rfl)
/-- the defs by which laws draw -/
structure Lta (tab : List FnI) (t p a : Nat) : Prop where
  ht : tab[t]? = some ⟨2, 4, iTaken, none⟩
  hp : tab[p]? = some ⟨2, 2, iPick t, none⟩
  ha : tab[a]? = some ⟨2, 3, iAlike a, none⟩
abbrev Good (r : Out Fl) : Prop := ∃ d s, endD r = .ok d s ∧ d = .bl true
section
variable {tab : List FnI} {t p a m nm l sh : Nat} {n : Nat} {ns : Fx} {st : Store}
theorem tkOf (ht : tab[t]? = some ⟨2, 4, iTaken, none⟩) (h : Dr ns st) (n q : Nat) (m0 : 0 < q) (m1 : q ≤ 100000) : ∃ (v : Nat) (st' : Store), v < q ∧ Dr ns st' ∧ Ca (callN tab (n + 1)) t [.obj oi, .int (q : Nat)] st (.ok (.int (v : Nat)) st') := by
  obtain ⟨v, st', e, h', v0, v1⟩ := taken ht h n (q : Nat) (by omega) (by omega)
  refine ⟨v.toNat, st', by omega, h', ⟨?_⟩⟩
  rw [show ((v.toNat : Nat) : Int) = v by omega]
  exact e
theorem Lta.tk (L : Lta tab t p a) (h : Dr ns st) (n q : Nat) (m0 : 0 < q) (m1 : q ≤ 100000) : ∃ (v : Nat) (st' : Store), v < q ∧ Dr ns st' ∧ Ca (callN tab (n + 1)) t [.obj oi, .int (q : Nat)] st (.ok (.int (v : Nat)) st') := tkOf L.ht h n q m0 m1
theorem Lta.pk (L : Lta tab t p a) (h : Dr ns st) (n : Nat) (ds : List D) (m0 : 0 < ds.length) (m1 : ds.length < 1073741824) : ∃ d st', d ∈ ds ∧ Dr ns st' ∧ Ca (callN tab (n + 2)) p [.obj oi, .lst ds] st (.ok d st') := by
  obtain ⟨d, st', e, h', mm⟩ := pick L.ht L.hp h n ds m0 m1
  exact ⟨d, st', mm, h', ⟨e⟩⟩
end
theorem leD_str (a b : Str) : leD (.str a) (.str b) = decide (a.cps.toList ≤ b.cps.toList) := by
  have e : leD (.str a) (.str b) = PySem.W.dataLe false (fun p : Str => PyData.str p) a b := rfl
  rw [e]
  exact congrFun (congrFun (PySem.W.dataLe_str (β := Str) (fun p => p)) a) b
theorem sort_T (xs : List Str) : Bi "sorted" [.lst (xs.map .str)] (.lst ((sortS xs).map .str)) := ⟨by
  have ok : sortOk (xs.map .str) = true := by
    unfold sortOk
    have h1 : (xs.map D.str).all (dataF 20) = true := List.all_eq_true.mpr fun d hd => by
      obtain ⟨x, _, rfl⟩ := List.mem_map.mp hd
      rfl
    have h2 : ((xs.map D.str).all fun d => (xs.map D.str).all fun e => PySem.W.alike (py d) (py e)) = true := List.all_eq_true.mpr fun d hd => List.all_eq_true.mpr fun e he => by
      obtain ⟨x, _, rfl⟩ := List.mem_map.mp hd
      obtain ⟨y, _, rfl⟩ := List.mem_map.mp he
      rfl
    have h3 : ((xs.map D.str).all fun d => !isTupN d) = true := List.all_eq_true.mpr fun d hd => by
      obtain ⟨x, _, rfl⟩ := List.mem_map.mp hd
      rfl
    rw [h1, h2, h3]
    simp
  show sortedD (xs.map .str) = _
  unfold sortedD
  rw [if_pos ok]
  unfold sortS
  rw [List.map_mergeSort (r := fun x y : Str => decide (x.cps.toList ≤ y.cps.toList)) (s := leD) (f := D.str) fun a _ b _ => (leD_str a b).symm]⟩
theorem sortS_perm {xs ys : List Str} (h : xs.Perm ys) : sortS xs = sortS ys := by
  have tr : ∀ a b c : Str, decide (a.cps.toList ≤ b.cps.toList) = true → decide (b.cps.toList ≤ c.cps.toList) = true → decide (a.cps.toList ≤ c.cps.toList) = true := fun a b c h k => decide_eq_true (List.le_trans (of_decide_eq_true h) (of_decide_eq_true k))
  have to : ∀ a b : Str, (decide (a.cps.toList ≤ b.cps.toList) || decide (b.cps.toList ≤ a.cps.toList)) = true := fun a b => by
    rcases List.le_total a.cps.toList b.cps.toList with h | h
    · rw [decide_eq_true h]; rfl
    · rw [decide_eq_true h, Bool.or_true]
  have p : (sortS xs).Perm (sortS ys) := ((List.mergeSort_perm _ _).trans h).trans (List.mergeSort_perm _ _).symm
  refine List.Perm.eq_of_pairwise (le := fun a b : Str => decide (a.cps.toList ≤ b.cps.toList) = true) (fun a b _ _ h1 h2 => ?_) (List.pairwise_mergeSort tr to xs) (List.pairwise_mergeSort tr to ys) p
  exact eq_of_list (List.le_antisymm (of_decide_eq_true h1) (of_decide_eq_true h2))
def gnm (k : Nat) : Str := ("g" : Str) ++ tkS k
theorem gnm_ok : ∀ k < 3, nameB (gnm k) = true := by decide +kernel
theorem gnm_nd : ((List.range 3).map gnm).Nodup := by decide +kernel
def Dis (a b : List Str) : Prop := ∀ x ∈ a, x ∉ b
theorem Dis.symm {a b : List Str} (h : Dis a b) : Dis b a := fun x hx hy => h x hy hx
theorem pw_ne {α : Type} {R : α → α → Prop} (sy : ∀ a b, R a b → R b a) : ∀ {l : List α}, l.Pairwise R → ∀ a ∈ l, ∀ b ∈ l, a ≠ b → R a b
  | x :: l, h, a, ha, b, hb, ne => by
    obtain ⟨h1, h2⟩ := List.pairwise_cons.mp h
    rcases List.mem_cons.mp ha with ea | ha2
    · rcases List.mem_cons.mp hb with eb | hb2
      · exact absurd (ea.trans eb.symm) ne
      · rw [ea]
        exact h1 b hb2
    · rcases List.mem_cons.mp hb with eb | hb2
      · rw [eb]
        exact sy _ _ (h1 a ha2)
      · exact pw_ne sy h2 a ha2 b hb2 ne
/-- groups and the parts that are left -/
structure GInv (names : List Str) (gs : List Gr) (ps : List (List Str)) : Prop where
  nm : gs.map (·.g) = (List.range gs.length).map gnm
  m : ∀ g ∈ gs, g.m ≤ 2
  gn : ∀ g ∈ gs, g.ns.Nodup ∧ ∀ x ∈ g.ns, x ∈ names
  ne : Nest gs
  pn : ∀ p ∈ ps, p.Nodup ∧ ∀ x ∈ p, x ∈ names
  p0 : ps ≠ []
  pl : ps.length ≤ 1 + 2 * gs.length
  pd : ps.Pairwise Dis
  pg : ∀ p ∈ ps, ∀ g ∈ gs, (∀ x ∈ p, x ∈ g.ns) ∨ Dis p g.ns
theorem GInv.start {names : List Str} (nd : names.Nodup) : GInv names [] [names] := ⟨rfl, (fun g h => by cases h), (fun g h => by cases h), (fun g h => by cases h), (fun p hp => by
  rw [List.mem_singleton.mp hp]
  exact ⟨nd, fun _ h => h⟩), (by simp), (by simp), List.pairwise_singleton _ _, (fun p hp g h => by cases h)⟩
theorem GInv.step {names : List Str} {gs : List Gr} {ps : List (List Str)} (h : GInv names gs ps) {p q : List Str} (hp : p ∈ ps) (pm : q.Perm p) {k m : Nat} (hm : m ≤ 2) :
    GInv names (gs ++ [⟨gnm gs.length, m, q.take k⟩]) ((ps.filter fun o => !decide (sortS o = sortS q)) ++ [q.take k, q.drop k]) := by
  obtain ⟨pn1, pn2⟩ := h.pn p hp
  have qn : q.Nodup := pm.nodup_iff.mpr pn1
  have qm : ∀ x, x ∈ q ↔ x ∈ p := fun x => pm.mem_iff
  have tq : ∀ x ∈ q.take k, x ∈ p := fun x hx => (qm x).mp (List.mem_of_mem_take hx)
  have dq : ∀ x ∈ q.drop k, x ∈ p := fun x hx => (qm x).mp (List.mem_of_mem_drop hx)
  have td : Dis (q.take k) (q.drop k) := fun x h1 h2 => by
    rw [← List.take_append_drop k q] at qn
    exact (List.nodup_append.mp qn).2.2 x h1 x h2 rfl
  have old : ∀ o ∈ ps.filter fun o => !decide (sortS o = sortS q), o ∈ ps ∧ Dis o p := fun o ho => by
    obtain ⟨h1, h2⟩ := List.mem_filter.mp ho
    have h2 : ¬ sortS o = sortS q := by simpa using h2
    exact ⟨h1, pw_ne (fun _ _ => Dis.symm) h.pd o h1 p hp fun e => h2 (by rw [e, sortS_perm pm])⟩
  have newg : ∀ g ∈ gs, (∀ x ∈ q.take k, x ∈ g.ns) ∨ Dis (q.take k) g.ns := fun g hg => (h.pg p hp g hg).imp (fun z x hx => z x (tq x hx)) fun z x hx => z x (tq x hx)
  refine ⟨?_, fun g hg => ?_, fun g hg => ?_, fun g hg f hf => ?_, fun o ho => ?_, by simp, ?_, ?_, fun o ho g hg => ?_⟩
  · rw [List.map_append, h.nm, List.length_append]
    show _ = (List.range (gs.length + 1)).map gnm
    rw [List.range_succ, List.map_append]
    rfl
  · rcases List.mem_append.mp hg with hg | hg
    · exact h.m g hg
    · rw [List.mem_singleton.mp hg]; exact hm
  · rcases List.mem_append.mp hg with hg | hg
    · exact h.gn g hg
    · rw [List.mem_singleton.mp hg]
      exact ⟨(List.take_sublist _ _).nodup qn, fun x hx => pn2 x (tq x hx)⟩
  · rcases List.mem_append.mp hg with hg | hg
    · rcases List.mem_append.mp hf with hf | hf
      · exact h.ne g hg f hf
      · rw [List.mem_singleton.mp hf]
        rcases newg g hg with z | z
        · exact .inr (.inl z)
        · exact .inr (.inr z.symm)
    · rw [List.mem_singleton.mp hg]
      rcases List.mem_append.mp hf with hf | hf
      · rcases newg f hf with z | z
        · exact .inl z
        · exact .inr (.inr z)
      · rw [List.mem_singleton.mp hf]
        exact .inl fun _ h => h
  · rcases List.mem_append.mp ho with ho | ho
    · exact h.pn o (old o ho).1
    · rcases List.mem_cons.mp ho with rfl | ho
      · exact ⟨(List.take_sublist _ _).nodup qn, fun x hx => pn2 x (tq x hx)⟩
      · rw [List.mem_singleton.mp ho]
        exact ⟨(List.drop_sublist _ _).nodup qn, fun x hx => pn2 x (dq x hx)⟩
  · rw [List.length_append, List.length_append]
    have := List.length_filter_le (fun o => !decide (sortS o = sortS q)) ps
    have := h.pl
    show _ + 2 ≤ 1 + 2 * (gs.length + 1)
    omega
  · rw [List.pairwise_append]
    refine ⟨h.pd.filter _, ?_, fun o ho u hu => ?_⟩
    · rw [List.pairwise_cons]
      exact ⟨fun u hu => by rw [List.mem_singleton.mp hu]; exact td, List.pairwise_singleton _ _⟩
    · have z := (old o ho).2
      rcases List.mem_cons.mp hu with rfl | hu
      · exact fun x hx hy => z x hx (tq x hy)
      · rw [List.mem_singleton.mp hu]
        exact fun x hx hy => z x hx (dq x hy)
  · rcases List.mem_append.mp hg with hg | hg
    · rcases List.mem_append.mp ho with ho | ho
      · exact h.pg o (old o ho).1 g hg
      · rcases List.mem_cons.mp ho with rfl | ho
        · exact newg g hg
        · rw [List.mem_singleton.mp ho]
          exact (h.pg p hp g hg).imp (fun z x hx => z x (dq x hx)) fun z x hx => z x (dq x hx)
    · rw [List.mem_singleton.mp hg]
      rcases List.mem_append.mp ho with ho | ho
      · exact .inr fun x hx hy => (old o ho).2 x hx (tq x hy)
      · rcases List.mem_cons.mp ho with rfl | ho
        · exact .inl fun _ h => h
        · rw [List.mem_singleton.mp ho]
          exact .inr td.symm
theorem GInv.ok {names : List Str} {gs : List Gr} {ps : List (List Str)} (h : GInv names gs ps) (few : gs.length ≤ 3) (nm : ∀ x ∈ names, nameB x = true) (nl : names.length ≤ 1000) : GsOk gs := by
  refine ⟨by omega, fun g hg => ?_, ?_, fun g hg => ?_, fun g hg x hx => nm x ((h.gn g hg).2 x hx), fun g hg => (h.gn g hg).1, fun g hg => ?_, h.ne⟩
  · have : g.g ∈ gs.map (·.g) := List.mem_map.mpr ⟨g, hg, rfl⟩
    rw [h.nm] at this
    obtain ⟨k, hk, e⟩ := List.mem_map.mp this
    rw [← e]
    exact gnm_ok k (by have := List.mem_range.mp hk; omega)
  · rw [h.nm]
    have sb : List.Sublist ((List.range gs.length).map gnm) ((List.range 3).map gnm) := (List.range_sublist.mpr few).map gnm
    exact sb.nodup gnm_nd
  · have := h.m g hg
    omega
  · have := pigeonG g.ns names (h.gn g hg).1 (h.gn g hg).2
    omega
theorem Lta.alk {tab : List FnI} {t p a : Nat} (L : Lta tab t p a) {n k : Nat} {st : Store} {d : D} (h : alk k d = true) : Ca (callN tab (k + n + 1)) a [d, d] st (.ok (.bl true) st) := ⟨alike L.ha n k d h⟩
end Eng
set_option Elab.async false
set_option linter.all false
set_option maxRecDepth 100000
set_option maxHeartbeats 4000000
namespace Eng
open PySem PySem.Spec L2
local macro_rules | `(tactic| decreasing_trivial_pre_omega) => `(tactic| first | intro _ | (show Vl ..; first | exact Vl.cst | exact Vl.var rfl | exact Vl.gl | exact Vl.fn | apply Vl.mp | apply Vl.ft | apply Vl.dnew | apply Vl.dvl | apply Vl.dil | apply Vl.dcp | apply Vl.rpr | apply Vl.dget | apply Vl.call | apply Vl.attr | apply Vl.bin | apply Vl.cmp | apply Vl.ix | apply Vl.bi | apply Vl.meth | apply Vl.tup | apply Vl.lst | apply Vl.sl | apply Vl.neg | apply Vl.not | apply Vl.cmp2 | apply Vl.and | apply Vl.or | apply Vl.isi | apply Vl.isc | apply Vl.callv rfl | apply Vl.eqoT | apply Vl.eqoF | exact Vl.xf rfl (by decide +kernel) rfl | apply Vl.ssc | apply Vl.sset | apply Vl.lset | exact ⟨rfl⟩ | exact rfl | apply Vl.ifeI | apply Vl.ife) | (show Vb ..; first | exact Vb.var rfl | apply Vb.of ⟨rfl⟩ | exact ⟨rfl⟩ | exact rfl) | (show St ..; first | exact St.z | apply St.s | exact ⟨rfl⟩ | exact rfl) | (show Fz ..; first | exact Fz.nil | apply Fz.cons | exact ⟨rfl⟩ | exact rfl) | (show Fm ..; first | exact Fm.val | exact Fm.no | exact Fm.lst | exact Fm.dic | exact Fm.ins | apply Fm.s | exact ⟨rfl⟩ | exact rfl) | (show Wp ..; first | exact Wp.nil | apply Wp.cons | exact ⟨rfl⟩ | exact rfl) | (show Bg ..; first | apply Bg.v | apply Bg.t | exact ⟨rfl⟩ | exact rfl) | (show Bgs ..; first | exact Bgs.nil | apply Bgs.cons | exact ⟨rfl⟩ | exact rfl) | (show Ow ..; first | exact Ow.hd | apply Ow.tl | exact ⟨rfl⟩ | exact rfl) | (show Gs ..; first | exact Gs.z | apply Gs.s | exact ⟨rfl⟩ | exact rfl) | (show Nz ..; first | apply Nz.set | exact Nz.re | exact ⟨rfl⟩ | exact rfl) | (show Vps ..; first | exact Vps.nil | apply Vps.cons | exact ⟨rfl⟩ | exact rfl) | (show Sp ..; first | exact Sp.nil | apply Sp.val | apply Sp.own rfl | exact ⟨rfl⟩ | exact rfl) | (show Vit ..; first | apply Vit.dk | apply Vit.dv | apply Vit.di | apply Vit.rgc | apply Vit.seq | apply Vit.rng | apply Vit.enum | apply Vit.zip | exact ⟨rfl⟩ | exact rfl) | (show Viv ..; first | apply Viv.rgc | apply Viv.seq | apply Viv.rng | apply Viv.enum | exact ⟨rfl⟩ | exact rfl) | (show Kd ..; first | exact Kd.s | exact Kd.i | exact ⟨rfl⟩ | exact rfl) | (show Dk1 ..; first | exact Dk1.s (by first | exact Nat.le_of_ble_eq_true rfl | omega | (simp only [List.length_map, List.length_range, List.length_append, List.length_cons, List.length_nil, List.length_reverse, enu_length]; omega)) | exact ⟨rfl⟩ | exact rfl) | (show Dv1 ..; first | exact Dv1.s (by first | exact Nat.le_of_ble_eq_true rfl | omega | (simp only [List.length_map, List.length_range, List.length_append, List.length_cons, List.length_nil, List.length_reverse, enu_length]; omega)) | exact ⟨rfl⟩ | exact rfl) | (show Di1 ..; first | exact Di1.s (by first | exact Nat.le_of_ble_eq_true rfl | omega | (simp only [List.length_map, List.length_range, List.length_append, List.length_cons, List.length_nil, List.length_reverse, enu_length]; omega)) | exact ⟨rfl⟩ | exact rfl) | (show Dg ..; first | exact Dg.dz | exact ⟨rfl⟩ | exact rfl) | (show Cm ..; first | exact Cm.inZ | exact Cm.ninZ | exact Cm.inST | exact Cm.ninST | exact Cm.eqI | exact Cm.neI | exact Cm.eqS | exact Cm.neS | exact Cm.eqB | exact Cm.neB | exact Cm.nil | exact Cm.nnil | exact Cm.inI | exact Cm.ninI | exact Cm.inS | exact Cm.ninS | exact ⟨rfl⟩ | exact rfl) | (show Bi ..; first | exact Bi.listZ | exact Bi.len | exact Bi.lenT | exact Bi.sum | exact Bi.all | exact Bi.any | exact Bi.sortI | exact Bi.sortP | exact ⟨rfl⟩ | exact rfl) | (show Rp1 ..; first | exact Rp1.non | exact Rp1.tt | exact ⟨rfl⟩ | exact rfl) | (show Pf ..; first | exact Pf.nil | exact Pf.hit | apply Pf.skip (by decide) | exact ⟨rfl⟩ | exact rfl) | (show Sf ..; first | apply Sf.ins rfl | exact ⟨rfl⟩ | exact rfl) | (show Vls ..; first | exact Vls.nil | apply Vls.cons | exact ⟨rfl⟩ | exact rfl) | (show Vbs ..; first | exact Vbs.nil | apply Vbs.cons | exact ⟨rfl⟩ | exact rfl) | (show Vop ..; first | exact Vop.no | apply Vop.so | exact ⟨rfl⟩ | exact rfl) | (show Van ..; first | apply Van.one | apply Van.cons | exact ⟨rfl⟩ | exact rfl) | (show Vor ..; first | apply Vor.one | apply Vor.cons | exact ⟨rfl⟩ | exact rfl) | (show Vta ..; first | apply Vta.one | apply Vta.cons | exact ⟨rfl⟩ | exact rfl) | (show Vto ..; first | apply Vto.one | apply Vto.cons | exact ⟨rfl⟩ | exact rfl) | (show Vt ..; first | apply Vt.not | apply Vt.and | apply Vt.or | apply Vt.of rfl | exact ⟨rfl⟩ | exact rfl) | (show Fits ..; first | exact Fits.of (by first | exact Nat.le_of_ble_eq_true rfl | omega | (simp only [List.length_map, List.length_range, List.length_append, List.length_cons, List.length_nil, List.length_reverse, enu_length]; omega)) | exact ⟨rfl⟩ | exact rfl) | (show Rg ..; first | exact Rg.nat (by first | exact Nat.le_of_ble_eq_true rfl | omega | (simp only [List.length_map, List.length_range, List.length_append, List.length_cons, List.length_nil, List.length_reverse, enu_length]; omega)) | exact Rg.one (by first | exact Nat.le_of_ble_eq_true rfl | omega | (simp only [List.length_map, List.length_range, List.length_append, List.length_cons, List.length_nil, List.length_reverse, enu_length]; omega)) (by first | exact Nat.le_of_ble_eq_true rfl | omega | (simp only [List.length_map, List.length_range, List.length_append, List.length_cons, List.length_nil, List.length_reverse, enu_length]; omega)) | exact Rg.two (by first | exact Nat.le_of_ble_eq_true rfl | omega | (simp only [List.length_map, List.length_range, List.length_append, List.length_cons, List.length_nil, List.length_reverse, enu_length]; omega)) (by first | exact Nat.le_of_ble_eq_true rfl | omega | (simp only [List.length_map, List.length_range, List.length_append, List.length_cons, List.length_nil, List.length_reverse, enu_length]; omega)) (by first | exact Nat.le_of_ble_eq_true rfl | omega | (simp only [List.length_map, List.length_range, List.length_append, List.length_cons, List.length_nil, List.length_reverse, enu_length]; omega)) (by first | exact Nat.le_of_ble_eq_true rfl | omega | (simp only [List.length_map, List.length_range, List.length_append, List.length_cons, List.length_nil, List.length_reverse, enu_length]; omega)) | exact ⟨rfl⟩ | exact rfl) | (show Bn ..; first | exact Bn.addL (by first | exact Nat.le_of_ble_eq_true rfl | omega | (simp only [List.length_map, List.length_range, List.length_append, List.length_cons, List.length_nil, List.length_reverse, enu_length]; omega)) | exact Bn.addT (by first | exact Nat.le_of_ble_eq_true rfl | omega | (simp only [List.length_map, List.length_range, List.length_append, List.length_cons, List.length_nil, List.length_reverse, enu_length]; omega)) | exact Bn.mul (by first | decide | omega) | exact Bn.fdiv (by first | decide | omega) | exact Bn.mod (by first | decide | omega) | exact ⟨rfl⟩ | exact rfl | exact Bn.add (by first | exact Nat.le_of_ble_eq_true rfl | omega | (simp only [List.length_map, List.length_range, List.length_append, List.length_cons, List.length_nil, List.length_reverse, enu_length]; omega)) | exact Bn.addTT (by first | exact Nat.le_of_ble_eq_true rfl | omega | (simp only [List.length_map, List.length_range, List.length_append, List.length_cons, List.length_nil, List.length_reverse, enu_length]; omega))) | (show Isi ..; first | exact Isi.row rfl | exact Isi.row2 rfl | exact Isi.int rfl | exact Isi.bool rfl | exact Isi.str rfl | exact Isi.tup rfl | exact Isi.lst rfl | exact ⟨rfl⟩ | exact rfl) | exact ⟨rfl⟩ | exact rfl)
def tx (l : List Nat) : Str := ⟨l.toArray⟩
theorem tx_list (l : List Nat) : (tx l).cps.toList = l := rfl
theorem tx_len (l : List Nat) : (tx l).length = l.length := List.size_toArray
theorem tx_of (x : Str) : tx x.cps.toList = x := by cases x; rfl
theorem tx_inj {a b : List Nat} : tx a = tx b ↔ a = b := ⟨fun h => by rw [← tx_list a, h, tx_list], fun h => by rw [h]⟩
theorem tx_app (a b : List Nat) : tx a ++ tx b = tx (a ++ b) := by
  show (⟨a.toArray ++ b.toArray⟩ : Str) = ⟨(a ++ b).toArray⟩
  rw [List.append_toArray]
section
variable {l a b : List Nat} {k : Nat}
theorem Bn.tx (h : a.length + b.length ≤ 100000) : Bn .Add (.str (tx a)) (.str (tx b)) (.str (tx (a ++ b))) := ⟨by
  have hb := big
  show (if (Eng.tx a).length + (Eng.tx b).length ≤ sizeLine then some (D.str (Eng.tx a ++ Eng.tx b)) else none) = _
  rw [if_pos (by rw [tx_len, tx_len]; omega), tx_app]⟩
theorem Sld.txU (h : k ≤ l.length) (h2 : l.length ≤ 100000) : Sld (.str (tx l)) none (some (k : Nat)) (.str (tx (l.take k))) := ⟨by
  have hb := big
  show (if (Eng.tx l).length ≤ sizeLine then some (D.str (cutS (Eng.tx l) none (some (k : Nat)))) else none) = _
  rw [if_pos (by rw [tx_len]; omega)]
  congr 2
  unfold cutS
  rw [HT.sIx_none, HT.sIx_nat, tx_len, tx_list, List.drop_zero, Nat.sub_zero, Nat.min_eq_left h]
  rfl⟩
theorem Sld.txF (h : k ≤ l.length) (h2 : l.length ≤ 100000) : Sld (.str (tx l)) (some (k : Nat)) none (.str (tx (l.drop k))) := ⟨by
  have hb := big
  show (if (Eng.tx l).length ≤ sizeLine then some (D.str (cutS (Eng.tx l) (some (k : Nat)) none)) else none) = _
  rw [if_pos (by rw [tx_len]; omega)]
  congr 2
  unfold cutS
  rw [HT.sIx_none, HT.sIx_nat, tx_len, tx_list, Nat.min_eq_left h, List.take_of_length_le (by rw [List.length_drop]; omega)]
  rfl⟩
theorem Sld.txL (h2 : l.length ≤ 100000) : Sld (.str (tx l)) none (some (-1)) (.str (tx l.dropLast)) := ⟨by
  have hb := big
  show (if (Eng.tx l).length ≤ sizeLine then some (D.str (cutS (Eng.tx l) none (some (-1)))) else none) = _
  rw [if_pos (by rw [tx_len]; omega)]
  congr 2
  unfold cutS
  have e : HT.sIx (Eng.tx l).length (Eng.tx l).length (some (-1)) = l.length - 1 := by
    show (if (-1 : Int) < 0 then ((-1 : Int) + ((Eng.tx l).length : Int)).toNat else min (-1 : Int).toNat (Eng.tx l).length) = _
    rw [if_pos (by omega), tx_len]
    omega
  rw [e, HT.sIx_none, tx_list, List.drop_zero, Nat.sub_zero, List.dropLast_eq_take]
  rfl⟩
theorem Ixx.tx {c : Nat} (h : l[k]? = some c) (h2 : l.length ≤ 100000) : Ixx (.str (tx l)) (.int (k : Nat)) (.str (tx [c])) := ⟨by
  have hb := big
  show (if (Eng.tx l).length ≤ sizeLine then (atI (Eng.tx l).cps.toList (k : Nat)).map fun c => D.str ⟨#[c]⟩ else none) = _
  rw [if_pos (by rw [tx_len]; omega), tx_list, atI_nat h]
  rfl⟩
theorem Ixx.txL {c : Nat} (h : l.getLast? = some c) (h2 : l.length ≤ 100000) : Ixx (.str (Eng.tx l)) (.int (-1)) (.str (Eng.tx [c])) := ⟨by
  have hb := big
  have ne : l ≠ [] := fun e => by rw [e] at h; cases h
  have lp := List.length_pos_iff.mpr ne
  show (if (Eng.tx l).length ≤ sizeLine then (atI (Eng.tx l).cps.toList (-1)).map fun c => D.str ⟨#[c]⟩ else none) = _
  rw [if_pos (by rw [tx_len]; omega), tx_list]
  have e : ixN l.length (-1) = some (l.length - 1) := by
    unfold ixN
    rw [if_neg (by omega), if_pos (by omega)]
    congr 1
    omega
  unfold atI
  rw [e, Option.bind_some, ← List.getLast?_eq_getElem?, h]
  rfl⟩
theorem Itm.tx (h2 : l.length ≤ 100000) : Itm (.str (Eng.tx l)) (l.map fun c => .str (Eng.tx [c])) := ⟨by
  have hb := big
  show (if (Eng.tx l).length ≤ sizeLine then some ((Eng.tx l).cps.toList.map fun c => D.str ⟨#[c]⟩) else none) = _
  rw [if_pos (by rw [tx_len]; omega)]
  rfl⟩
theorem Bi.lenX (h2 : l.length ≤ 100000) : Bi "len" [.str (Eng.tx l)] (.int (l.length : Nat)) := ⟨by
  have hb := big
  show ((if (Eng.tx l).length ≤ sizeLine then some (Eng.tx l).length else none).map fun (n : Nat) => D.int (n : Int)) = _
  rw [if_pos (by rw [tx_len]; omega), tx_len]
  rfl⟩
theorem Cm.txE : Cm .Eq (.str (Eng.tx a)) (.str (Eng.tx b)) (decide (a = b)) := by
  have := Cm.eqS (a := Eng.tx a) (b := Eng.tx b)
  rw [show decide (Eng.tx a = Eng.tx b) = decide (a = b) from decide_eq_decide.mpr tx_inj] at this
  exact this
theorem Cm.txN : Cm .NotEq (.str (Eng.tx a)) (.str (Eng.tx b)) (!decide (a = b)) := by
  have := Cm.neS (a := Eng.tx a) (b := Eng.tx b)
  rw [show decide (Eng.tx a = Eng.tx b) = decide (a = b) from decide_eq_decide.mpr tx_inj] at this
  exact this
theorem Cm.txI {c : Nat} {z : Str} : Cm .In (.str (Eng.tx [c])) (.str z) (decide (c ∈ z.cps.toList)) := ⟨rfl⟩
theorem Cm.txO {c : Nat} {z : Str} : Cm .NotIn (.str (Eng.tx [c])) (.str z) (!decide (c ∈ z.cps.toList)) := ⟨rfl⟩
theorem Revd : revD (.str (Eng.tx l)) = if l.length ≤ sizeLine then some (.str (Eng.tx l.reverse)) else none := by
  show (if (Eng.tx l).length ≤ sizeLine then some (D.str ⟨(Eng.tx l).cps.toList.reverse.toArray⟩) else none) = _
  rw [tx_len]
  rfl
end
def isF (c : Nat) : Bool := decide (48 ≤ c ∧ c ≤ 57)
/-- a sign's worth -/
def val (c : Nat) : Nat := if c = 120 then 10 else c - 48
def isS (c : Nat) : Bool := isF c || decide (c = 120)
def sgL : List Nat := [48, 49, 50, 51, 52, 53, 54, 55, 56, 57, 120]
def fgL : List Nat := [48, 49, 50, 51, 52, 53, 54, 55, 56, 57]
theorem fg_mem {c : Nat} : c ∈ fgL ↔ isF c = true := by
  unfold fgL isF
  simp only [List.mem_cons, List.not_mem_nil, or_false, decide_eq_true_iff]
  omega
theorem sg_mem {c : Nat} : c ∈ sgL ↔ isS c = true := by
  unfold sgL isS isF
  simp only [List.mem_cons, List.not_mem_nil, or_false, Bool.or_eq_true, decide_eq_true_iff]
  omega
theorem fg_lit : ("0123456789" : Str) = tx fgL := by kernel_rfl
theorem sg_lit : ("0123456789x" : Str) = tx sgL := by kernel_rfl
/-- the sign of a rest -/
def sgR (r : Nat) : Nat := if r = 10 then 120 else 48 + r
/-- the weighted sum: the last has 2 -/
def tot : List Nat → Nat
  | [] => 0
  | c :: l => (l.length + 2) * (c - 48) + tot l
def rst (l : List Nat) : Nat := (11 - tot l % 11) % 11
/-- the program's way -/
theorem tot_rev (l : List Nat) : tot l = ((enu l.reverse).map fun e => (e.1 + 2) * (e.2 - 48)).sum := by
  have g : ∀ (l : List Nat), ((enu l.reverse).map fun e => (e.1 + 2) * (e.2 - 48)).sum = tot l := by
    intro l
    induction l with
    | nil => rfl
    | cons c l ih =>
      rw [List.reverse_cons, enu_snoc, List.map_append, List.sum_append, ih, tot, List.length_reverse]
      simp
      omega
  exact (g l).symm
def tkB (l : List Nat) : Bool := decide (l.length = 9) && ((l.dropLast.all isF) && decide (l.getLast? = some (sgR (rst l.dropLast))))
theorem sgR_val {r : Nat} (h : r < 11) : val (sgR r) = r ∧ isS (sgR r) = true := by
  unfold sgR val isS isF
  by_cases e : r = 10
  · subst e
    decide
  · rw [if_neg e, if_neg (by omega)]
    refine ⟨by omega, ?_⟩
    rw [Bool.or_eq_true_iff]
    exact .inl (decide_eq_true (by omega))
theorem val_inj {c d : Nat} (h : isS c = true) (k : isS d = true) (e : val c = val d) : c = d := by
  unfold isS isF at h k
  rw [Bool.or_eq_true_iff, decide_eq_true_iff, decide_eq_true_iff] at h k
  unfold val at e
  split at e <;> split at e <;> omega
theorem rst_lt (l : List Nat) : rst l < 11 := Nat.mod_lt _ (by omega)
/-- nine signs, the sum -/
def tot9 (l : List Nat) : Nat := match l with
  | [a, b, c, d, e, f, g, h, i] => 9 * val a + 8 * val b + 7 * val c + 6 * val d + 5 * val e + 4 * val f + 3 * val g + 2 * val h + val i
  | _ => 1
theorem val_f {c : Nat} (h : isF c = true) : val c = c - 48 := by
  have h := of_decide_eq_true h
  unfold val
  rw [if_neg (by omega)]
/-- a ticket, by its sum -/
theorem tk_iff {a b c d e f g h i : Nat} : tkB [a, b, c, d, e, f, g, h, i] = true ↔ (isF a = true ∧ isF b = true ∧ isF c = true ∧ isF d = true ∧ isF e = true ∧ isF f = true ∧ isF g = true ∧ isF h = true) ∧ isS i = true ∧ tot9 [a, b, c, d, e, f, g, h, i] % 11 = 0 := by
  have dl : [a, b, c, d, e, f, g, h, i].dropLast = [a, b, c, d, e, f, g, h] := rfl
  have gl : [a, b, c, d, e, f, g, h, i].getLast? = some i := rfl
  unfold tkB
  rw [dl, gl, Bool.and_eq_true_iff, Bool.and_eq_true_iff]
  have ta : tot [a, b, c, d, e, f, g, h] = 9 * (a - 48) + 8 * (b - 48) + 7 * (c - 48) + 6 * (d - 48) + 5 * (e - 48) + 4 * (f - 48) + 3 * (g - 48) + 2 * (h - 48) := by
    simp only [tot, List.length_cons, List.length_nil]
    omega
  constructor
  · rintro ⟨_, hf, hs⟩
    simp only [List.all_cons, List.all_nil, Bool.and_true, Bool.and_eq_true_iff] at hf
    obtain ⟨fa, fb, fc, fd, fe, ff, fg, fh⟩ := hf
    have hs := of_decide_eq_true hs
    have hi : i = sgR (rst [a, b, c, d, e, f, g, h]) := Option.some.inj hs
    obtain ⟨v1, v2⟩ := sgR_val (rst_lt [a, b, c, d, e, f, g, h])
    rw [← hi] at v1 v2
    refine ⟨⟨fa, fb, fc, fd, fe, ff, fg, fh⟩, v2, ?_⟩
    show (9 * val a + 8 * val b + 7 * val c + 6 * val d + 5 * val e + 4 * val f + 3 * val g + 2 * val h + val i) % 11 = 0
    rw [v1, val_f fa, val_f fb, val_f fc, val_f fd, val_f fe, val_f ff, val_f fg, val_f fh]
    unfold rst
    rw [ta]
    omega
  · rintro ⟨⟨fa, fb, fc, fd, fe, ff, fg, fh⟩, hs, ht⟩
    refine ⟨rfl, by simp [fa, fb, fc, fd, fe, ff, fg, fh], ?_⟩
    have ht : (9 * val a + 8 * val b + 7 * val c + 6 * val d + 5 * val e + 4 * val f + 3 * val g + 2 * val h + val i) % 11 = 0 := ht
    rw [val_f fa, val_f fb, val_f fc, val_f fd, val_f fe, val_f ff, val_f fg, val_f fh] at ht
    obtain ⟨v1, v2⟩ := sgR_val (rst_lt [a, b, c, d, e, f, g, h])
    apply decide_eq_true
    congr 1
    apply val_inj hs v2
    rw [v1]
    have vi : val i ≤ 10 := by
      unfold isS isF at hs
      rw [Bool.or_eq_true_iff, decide_eq_true_iff, decide_eq_true_iff] at hs
      unfold val
      split <;> omega
    unfold rst
    rw [ta]
    omega
theorem nine_cases {l : List Nat} (h : l.length = 9) : ∃ a b c d e f g h i, l = [a, b, c, d, e, f, g, h, i] := by
  match l, h with
  | [a, b, c, d, e, f, g, h, i], _ => exact ⟨a, b, c, d, e, f, g, h, i, rfl⟩
theorem val_le {c : Nat} (hs : isS c = true) : val c ≤ 10 := by
  unfold isS isF at hs
  rw [Bool.or_eq_true_iff, decide_eq_true_iff, decide_eq_true_iff] at hs
  unfold val
  split <;> omega
theorem isF_sgn {c : Nat} (h : isF c = true) : isS c = true := by
  unfold isS
  rw [h]
  rfl
theorem lt9 {p : Nat} (h : p < 9) : p = 0 ∨ p = 1 ∨ p = 2 ∨ p = 3 ∨ p = 4 ∨ p = 5 ∨ p = 6 ∨ p = 7 ∨ p = 8 := by omega
/-- two tickets that differ in one place at most are one -/
theorem one_fault {l : List Nat} (hl : l.length = 9) {p x y : Nat} (hp : p < 9) (h : tkB (l.set p x) = true) (k : tkB (l.set p y) = true) : x = y := by
  obtain ⟨a, b, c, d, e, f, g, h', i, rfl⟩ := nine_cases hl
  rcases lt9 hp with rfl | rfl | rfl | rfl | rfl | rfl | rfl | rfl | rfl
  all_goals
    (have h := tk_iff.mp h
     have k := tk_iff.mp k
     obtain ⟨h1, h2, h3⟩ := h
     obtain ⟨k1, k2, k3⟩ := k
     have hx : isS x = true := by first | exact h2 | (apply isF_sgn; simp only [h1])
     have hy : isS y = true := by first | exact k2 | (apply isF_sgn; simp only [k1])
     have lx := val_le hx
     have ly := val_le hy
     apply val_inj hx hy
     simp only [tot9] at h3 k3
     omega)
/-- a ticket whose neighbours are changed -/
def swp (l : List Nat) (p : Nat) : List Nat := l.take p ++ (l.drop (p + 1)).take 1 ++ (l.drop p).take 1 ++ l.drop (p + 2)
theorem swap_fault {l : List Nat} {p : Nat} (hp : p < 8) (h : tkB l = true) (k : tkB (swp l p) = true) : swp l p = l := by
  have hl : l.length = 9 := by
    unfold tkB at h
    exact of_decide_eq_true (Bool.and_eq_true_iff.mp h).1
  obtain ⟨a, b, c, d, e, f, g, h', i, rfl⟩ := nine_cases hl
  rcases lt9 (show p < 9 by omega) with rfl | rfl | rfl | rfl | rfl | rfl | rfl | rfl | rfl
  all_goals first
    | (exfalso; omega)
    | (have h := tk_iff.mp h
       have k := tk_iff.mp k
       obtain ⟨h1, h2, h3⟩ := h
       obtain ⟨k1, k2, k3⟩ := k
       obtain ⟨fa, fb, fc, fd, fe, ff, fg, fh⟩ := h1
       obtain ⟨ga, gb, gc, gd, ge, gf, gg, gh⟩ := k1
       simp only [tot9] at h3 k3
       have la := val_le (isF_sgn fa)
       have lb := val_le (isF_sgn fb)
       have lc := val_le (isF_sgn fc)
       have ld := val_le (isF_sgn fd)
       have le := val_le (isF_sgn fe)
       have lf := val_le (isF_sgn ff)
       have lg := val_le (isF_sgn fg)
       have lh := val_le (isF_sgn fh)
       have li := val_le h2
       first
         | (have e1 : a = b := val_inj (isF_sgn fa) (isF_sgn fb) (by omega)
            subst e1
            rfl)
         | (have e1 : b = c := val_inj (isF_sgn fb) (isF_sgn fc) (by omega)
            subst e1
            rfl)
         | (have e1 : c = d := val_inj (isF_sgn fc) (isF_sgn fd) (by omega)
            subst e1
            rfl)
         | (have e1 : d = e := val_inj (isF_sgn fd) (isF_sgn fe) (by omega)
            subst e1
            rfl)
         | (have e1 : e = f := val_inj (isF_sgn fe) (isF_sgn ff) (by omega)
            subst e1
            rfl)
         | (have e1 : f = g := val_inj (isF_sgn ff) (isF_sgn fg) (by omega)
            subst e1
            rfl)
         | (have e1 : g = h' := val_inj (isF_sgn fg) (isF_sgn fh) (by omega)
            subst e1
            rfl)
         | (have e1 : h' = i := val_inj (isF_sgn fh) h2 (by omega)
            subst e1
            rfl))
end Eng
set_option Elab.async false
set_option linter.all false
set_option maxRecDepth 100000
set_option maxHeartbeats 4000000
namespace Eng
open PySem PySem.Spec L2
local macro_rules | `(tactic| decreasing_trivial_pre_omega) => `(tactic| first | intro _ | (show Vl ..; first | exact Vl.cst | exact Vl.var rfl | exact Vl.gl | exact Vl.fn | apply Vl.mp | apply Vl.ft | apply Vl.dnew | apply Vl.dvl | apply Vl.dil | apply Vl.dcp | apply Vl.rpr | apply Vl.dget | apply Vl.call | apply Vl.attr | apply Vl.bin | apply Vl.cmp | apply Vl.ix | apply Vl.bi | apply Vl.meth | apply Vl.tup | apply Vl.lst | apply Vl.sl | apply Vl.neg | apply Vl.not | apply Vl.cmp2 | apply Vl.and | apply Vl.or | apply Vl.isi | apply Vl.isc | apply Vl.callv rfl | apply Vl.eqoT | apply Vl.eqoF | exact Vl.xf rfl (by decide +kernel) rfl | apply Vl.ssc | apply Vl.sset | apply Vl.lset | exact ⟨rfl⟩ | exact rfl | apply Vl.ifeI | apply Vl.ife) | (show Vb ..; first | exact Vb.var rfl | apply Vb.of ⟨rfl⟩ | exact ⟨rfl⟩ | exact rfl) | (show St ..; first | exact St.z | apply St.s | exact ⟨rfl⟩ | exact rfl) | (show Fz ..; first | exact Fz.nil | apply Fz.cons | exact ⟨rfl⟩ | exact rfl) | (show Fm ..; first | exact Fm.val | exact Fm.no | exact Fm.lst | exact Fm.dic | exact Fm.ins | apply Fm.s | exact ⟨rfl⟩ | exact rfl) | (show Wp ..; first | exact Wp.nil | apply Wp.cons | exact ⟨rfl⟩ | exact rfl) | (show Bg ..; first | apply Bg.v | apply Bg.t | exact ⟨rfl⟩ | exact rfl) | (show Bgs ..; first | exact Bgs.nil | apply Bgs.cons | exact ⟨rfl⟩ | exact rfl) | (show Ow ..; first | exact Ow.hd | apply Ow.tl | exact ⟨rfl⟩ | exact rfl) | (show Gs ..; first | exact Gs.z | apply Gs.s | exact ⟨rfl⟩ | exact rfl) | (show Nz ..; first | apply Nz.set | exact Nz.re | exact ⟨rfl⟩ | exact rfl) | (show Vps ..; first | exact Vps.nil | apply Vps.cons | exact ⟨rfl⟩ | exact rfl) | (show Sp ..; first | exact Sp.nil | apply Sp.val | apply Sp.own rfl | exact ⟨rfl⟩ | exact rfl) | (show Vit ..; first | apply Vit.dk | apply Vit.dv | apply Vit.di | apply Vit.rgc | apply Vit.seq | apply Vit.rng | apply Vit.enum | apply Vit.zip | exact ⟨rfl⟩ | exact rfl) | (show Viv ..; first | apply Viv.rgc | apply Viv.seq | apply Viv.rng | apply Viv.enum | exact ⟨rfl⟩ | exact rfl) | (show Kd ..; first | exact Kd.s | exact Kd.i | exact ⟨rfl⟩ | exact rfl) | (show Dk1 ..; first | exact Dk1.s (by first | exact Nat.le_of_ble_eq_true rfl | omega | (simp only [List.length_map, List.length_range, List.length_append, List.length_cons, List.length_nil, List.length_reverse, enu_length]; omega)) | exact ⟨rfl⟩ | exact rfl) | (show Dv1 ..; first | exact Dv1.s (by first | exact Nat.le_of_ble_eq_true rfl | omega | (simp only [List.length_map, List.length_range, List.length_append, List.length_cons, List.length_nil, List.length_reverse, enu_length]; omega)) | exact ⟨rfl⟩ | exact rfl) | (show Di1 ..; first | exact Di1.s (by first | exact Nat.le_of_ble_eq_true rfl | omega | (simp only [List.length_map, List.length_range, List.length_append, List.length_cons, List.length_nil, List.length_reverse, enu_length]; omega)) | exact ⟨rfl⟩ | exact rfl) | (show Dg ..; first | exact Dg.dz | exact ⟨rfl⟩ | exact rfl) | (show Cm ..; first | exact Cm.inZ | exact Cm.ninZ | exact Cm.inST | exact Cm.ninST | exact Cm.eqI | exact Cm.neI | exact Cm.eqS | exact Cm.neS | exact Cm.eqB | exact Cm.neB | exact Cm.nil | exact Cm.nnil | exact Cm.inI | exact Cm.ninI | exact Cm.inS | exact Cm.ninS | exact ⟨rfl⟩ | exact rfl) | (show Bi ..; first | exact Bi.listZ | exact Bi.len | exact Bi.lenT | exact Bi.sum | exact Bi.all | exact Bi.any | exact Bi.sortI | exact Bi.sortP | exact ⟨rfl⟩ | exact rfl) | (show Rp1 ..; first | exact Rp1.non | exact Rp1.tt | exact ⟨rfl⟩ | exact rfl) | (show Pf ..; first | exact Pf.nil | exact Pf.hit | apply Pf.skip (by decide) | exact ⟨rfl⟩ | exact rfl) | (show Sf ..; first | apply Sf.ins rfl | exact ⟨rfl⟩ | exact rfl) | (show Vls ..; first | exact Vls.nil | apply Vls.cons | exact ⟨rfl⟩ | exact rfl) | (show Vbs ..; first | exact Vbs.nil | apply Vbs.cons | exact ⟨rfl⟩ | exact rfl) | (show Vop ..; first | exact Vop.no | apply Vop.so | exact ⟨rfl⟩ | exact rfl) | (show Van ..; first | apply Van.one | apply Van.cons | exact ⟨rfl⟩ | exact rfl) | (show Vor ..; first | apply Vor.one | apply Vor.cons | exact ⟨rfl⟩ | exact rfl) | (show Vta ..; first | apply Vta.one | apply Vta.cons | exact ⟨rfl⟩ | exact rfl) | (show Vto ..; first | apply Vto.one | apply Vto.cons | exact ⟨rfl⟩ | exact rfl) | (show Vt ..; first | apply Vt.not | apply Vt.and | apply Vt.or | apply Vt.of rfl | exact ⟨rfl⟩ | exact rfl) | (show Fits ..; first | exact Fits.of (by first | exact Nat.le_of_ble_eq_true rfl | omega | (simp only [List.length_map, List.length_range, List.length_append, List.length_cons, List.length_nil, List.length_reverse, enu_length]; omega)) | exact ⟨rfl⟩ | exact rfl) | (show Rg ..; first | exact Rg.nat (by first | exact Nat.le_of_ble_eq_true rfl | omega | (simp only [List.length_map, List.length_range, List.length_append, List.length_cons, List.length_nil, List.length_reverse, enu_length]; omega)) | exact Rg.one (by first | exact Nat.le_of_ble_eq_true rfl | omega | (simp only [List.length_map, List.length_range, List.length_append, List.length_cons, List.length_nil, List.length_reverse, enu_length]; omega)) (by first | exact Nat.le_of_ble_eq_true rfl | omega | (simp only [List.length_map, List.length_range, List.length_append, List.length_cons, List.length_nil, List.length_reverse, enu_length]; omega)) | exact Rg.two (by first | exact Nat.le_of_ble_eq_true rfl | omega | (simp only [List.length_map, List.length_range, List.length_append, List.length_cons, List.length_nil, List.length_reverse, enu_length]; omega)) (by first | exact Nat.le_of_ble_eq_true rfl | omega | (simp only [List.length_map, List.length_range, List.length_append, List.length_cons, List.length_nil, List.length_reverse, enu_length]; omega)) (by first | exact Nat.le_of_ble_eq_true rfl | omega | (simp only [List.length_map, List.length_range, List.length_append, List.length_cons, List.length_nil, List.length_reverse, enu_length]; omega)) (by first | exact Nat.le_of_ble_eq_true rfl | omega | (simp only [List.length_map, List.length_range, List.length_append, List.length_cons, List.length_nil, List.length_reverse, enu_length]; omega)) | exact ⟨rfl⟩ | exact rfl) | (show Bn ..; first | exact Bn.addL (by first | exact Nat.le_of_ble_eq_true rfl | omega | (simp only [List.length_map, List.length_range, List.length_append, List.length_cons, List.length_nil, List.length_reverse, enu_length]; omega)) | exact Bn.addT (by first | exact Nat.le_of_ble_eq_true rfl | omega | (simp only [List.length_map, List.length_range, List.length_append, List.length_cons, List.length_nil, List.length_reverse, enu_length]; omega)) | exact Bn.mul (by first | decide | omega) | exact Bn.fdiv (by first | decide | omega) | exact Bn.mod (by first | decide | omega) | exact ⟨rfl⟩ | exact rfl | exact Bn.add (by first | exact Nat.le_of_ble_eq_true rfl | omega | (simp only [List.length_map, List.length_range, List.length_append, List.length_cons, List.length_nil, List.length_reverse, enu_length]; omega)) | exact Bn.addTT (by first | exact Nat.le_of_ble_eq_true rfl | omega | (simp only [List.length_map, List.length_range, List.length_append, List.length_cons, List.length_nil, List.length_reverse, enu_length]; omega))) | (show Isi ..; first | exact Isi.row rfl | exact Isi.row2 rfl | exact Isi.int rfl | exact Isi.bool rfl | exact Isi.str rfl | exact Isi.tup rfl | exact Isi.lst rfl | exact ⟨rfl⟩ | exact rfl) | exact ⟨rfl⟩ | exact rfl)
theorem dig_of {l : List Nat} (h : l.all isF = true) : NumText.AllDigits l := fun c hc => of_decide_eq_true (List.all_eq_true.mp h c hc)
theorem Bi.intX {l : List Nat} (h : l.all isF = true) (ne : l ≠ []) (few : l.length ≤ 640) : Bi "int" [.str (tx l)] (.int ((NumText.digitsVal l : Nat) : Int)) := ⟨by
  show (if (tx l).length ≤ 640 then (PySem.intText? (tx l)).map D.int else none) = _
  rw [if_pos (by rw [tx_len]; exact few), PySem.intText_digits (x := tx l) (dig_of h) (by rw [tx_list]; exact ne) (by rw [tx_len]; omega)]
  rfl⟩
theorem Bi.intI6 {t : Int} : Bi "int" [.int t] (.int t) := ⟨rfl⟩
theorem Bi.int1 {c : Nat} (h : isF c = true) : Bi "int" [.str (tx [c])] (.int ((c - 48 : Nat) : Int)) := by
  have := Bi.intX (l := [c]) (by simp [h]) (by simp) (by simp)
  rw [show NumText.digitsVal [c] = c - 48 by simp [NumText.digitsVal]] at this
  exact this
def f8 (n : Nat) : List Nat := (fmt8 (n : Nat)).cps.toList
theorem str_cs (n : Nat) : (toString ((n : Nat) : Int) : String).toList = Nat.toDigits 10 n := by
  show (Nat.repr n).toList = _
  unfold Nat.repr
  simp
def dg (n : Nat) : List Nat := (Nat.toDigits 10 n).map Char.toNat
theorem f8_eq (n : Nat) : f8 n = List.replicate (8 - (dg n).length) 48 ++ dg n := by
  unfold f8 fmt8 dg
  rw [str_cs, List.length_map]
theorem f8_tx (n : Nat) : fmt8 (n : Nat) = tx (f8 n) := (tx_of _).symm
theorem dg_le {n : Nat} (h : n < 10 ^ 8) : (dg n).length ≤ 8 := by
  unfold dg
  rw [List.length_map]
  exact (Nat.length_toDigits_le_iff (by omega) (by omega)).mpr h
theorem dg_f (n : Nat) : (dg n).all isF = true := by
  rw [List.all_eq_true]
  intro c hc
  obtain ⟨d, hd, rfl⟩ := List.mem_map.mp hc
  have := Nat.isDigit_of_mem_toDigits (by omega) (by omega) hd
  unfold Char.isDigit at this
  rw [Bool.and_eq_true_iff] at this
  have h1 := of_decide_eq_true this.1
  have h2 := of_decide_eq_true this.2
  exact decide_eq_true ⟨h1, h2⟩
theorem f8_len {n : Nat} (h : n < 10 ^ 8) : (f8 n).length = 8 := by
  have := dg_le h
  rw [f8_eq, List.length_append, List.length_replicate]
  omega
theorem f8_f (n : Nat) : (f8 n).all isF = true := by
  rw [f8_eq, List.all_append, dg_f, Bool.and_true, List.all_eq_true]
  intro c hc
  rw [(List.mem_replicate.mp hc).2]
  rfl
theorem dv_zeros (k : Nat) (l : List Nat) : NumText.digitsVal (List.replicate k 48 ++ l) = NumText.digitsVal l := by
  induction k with
  | zero => rfl
  | succ k ih => rw [List.replicate_succ, List.cons_append, NumText.digitsVal_zero, ih]
theorem f8_val (n : Nat) : NumText.digitsVal (f8 n) = n := by
  rw [f8_eq, dv_zeros]
  exact W.KIN.val_back n
theorem str_tx (n : Nat) : (toString ((n : Nat) : Int) : Str) = tx (dg n) := by
  show PySem.Str.ofString (toString ((n : Nat) : Int) : String) = _
  rw [← tx_of (PySem.Str.ofString _), W.KIN.signs_num n]
  rfl
theorem Bi.strX {n : Nat} (h : n < 10 ^ 8) : Bi "str" [.int (n : Nat)] (.str (tx (dg n))) := ⟨by
  have l : ((n : Nat) : Int).natAbs.log2 < 1920 := by
    show n.log2 < 1920
    by_cases z : n = 0
    · subst z; decide
    · exact (Nat.log2_lt z).mpr (Nat.lt_of_lt_of_le h (by decide +kernel))
  show (if ((n : Nat) : Int).natAbs.log2 < 1920 then some (D.str (toString ((n : Nat) : Int))) else none) = _
  rw [if_pos l, str_tx]⟩
section
variable {C : Calls} {env : Env} {st st1 st2 : Store} {a b : E} {x z w : D}
theorem Vl.fmt {n : Nat} (h : Vl C env a st (.ok (.int (n : Nat)) st1)) (s : n < 10 ^ 8) : Vl C env (.fmt a) st (.ok (.str (tx (f8 n))) st1) := ⟨by
  have e : fmtD (.int (n : Nat)) = some (.str (tx (f8 n))) := by
    unfold fmtD
    dsimp only
    rw [if_pos ⟨by omega, by omega⟩, f8_tx]
  show ((evP C env a).1 st).bnd (fun x st => ofO (fmtD x) st) = _
  rw [h.h, Out.bnd_ok, e]
  rfl⟩
theorem Vl.revX {l : List Nat} (h : Vb C env a st (.ok (.str (tx l)) st1)) (few : l.length ≤ 100000) : Vl C env (.rev a) st (.ok (.str (tx l.reverse)) st1) := ⟨by
  have hb := big
  show (bor env a (evP C env a).1 st).bnd _ = _
  rw [h.h, Out.bnd_ok, Revd, if_pos (by omega)]
  rfl⟩
structure Rp2 (x : D) (y : Str) (z w : D) : Prop where
  h : repD x y z = some w
theorem Vl.rep {y : Str} (ha : Vl C env a st (.ok x st1)) (hb : Vl C env b st1 (.ok z st2)) (k : Rp2 x y z w) : Vl C env (.rep a y b) st (.ok w st2) := ⟨by
  show ((evP C env a).1 st).bnd _ = _
  rw [ha.h, Out.bnd_ok, hb.h, Out.bnd_ok, k.h]
  rfl⟩
theorem Vl.sstX {xs : List Str} (h : Vb C env a st (.ok (.lst (xs.map .str)) st1)) (few : xs.length < 4000) : Vl C env (.sst a) st (.ok (.lst ((sortS xs.eraseDups).map .str)) st1) := ⟨by
  have g : ∀ xs : List Str, strsD (xs.map .str) = some xs := by
    intro xs
    induction xs with
    | nil => rfl
    | cons x xs ih =>
      show (strsD (xs.map .str)).map (x :: ·) = _
      rw [ih]
      rfl
  show (bor env a (evP C env a).1 st).bnd _ = _
  rw [h.h, Out.bnd_ok]
  show ofO ((strsD (xs.map .str)).bind fun xs => if xs.length < 4000 then some (D.lst ((sortS xs.eraseDups).map .str)) else none) st1 = _
  rw [g, Option.bind_some, if_pos few]
  rfl⟩
end
theorem rest_t : ∀ t < 11, ((List.range 11).filter fun (k : Nat) => decide ((t + k) % 11 = 0)) = [(11 - t) % 11] := by decide +kernel
theorem sg_at' : ∀ r < 11, sgL[r]? = some (sgR r) := by decide +kernel
theorem str_10 : ∀ r < 10, dg r = [48 + r] := by decide +kernel
section
variable {n : Nat} {st : Store} {l : List Nat}
theorem sum_cast {α : Type} (f : α → Nat) (xs : List α) : (xs.map fun x => ((f x : Nat) : Int)).sum = ((xs.map f).sum : Nat) := by
  induction xs with
  | nil => rfl
  | cons x xs ih => rw [List.map_cons, List.map_cons, List.sum_cons, List.sum_cons, ih, Int.natCast_add]
theorem check_ca (hf : l.all isF = true) (few : l.length ≤ 1000) : Ca (callN tab (n + 1)) 0 [.str (tx l)] st (.ok (.str (tx [sgR (rst l)])) st) := by
  have it : Itm (.str (tx l.reverse)) (l.reverse.map fun c => .str (tx [c])) := Itm.tx (by rw [List.length_reverse]; omega)
  have i1 : ∀ {e : Nat × Nat}, e ∈ enu l.reverse → Bi "int" [.str (tx [e.2])] (.int ((e.2 - 48 : Nat) : Int)) := fun he => Bi.int1 (List.all_eq_true.mp hf _ (List.mem_reverse.mp (enu_mem he)))
  have m1 : ∀ {e : Nat × Nat}, e ∈ enu l.reverse → Bn .Mult (.int ((e.1 : Nat) + 2)) (.int ((e.2 - 48 : Nat) : Int)) (.int (((e.1 + 2) * (e.2 - 48) : Nat) : Int)) := fun {e} he => by
    have := enu_lt he
    rw [List.length_reverse] at this
    have z : Bn .Mult (.int ((e.1 : Nat) + 2)) (.int ((e.2 - 48 : Nat) : Int)) (.int (((e.1 : Nat) + 2) * ((e.2 - 48 : Nat) : Int))) := Bn.mul (.inl (by omega))
    rw [Int.natCast_mul]
    exact z
  have sm : Bi "sum" [.lst ((enu l.reverse).map fun e => .int (((e.1 + 2) * (e.2 - 48) : Nat) : Int))] (.int ((tot l : Nat) : Int)) := by
    have := Bi.sum (xs := enu l.reverse) (g := fun e => (((e.1 + 2) * (e.2 - 48) : Nat) : Int))
    rw [sum_cast, ← tot_rev] at this
    exact this
  have md : (-((tot l : Nat) : Int)).fmod 11 = ((rst l : Nat) : Int) := by
    unfold rst
    rw [Int.fmod_eq_emod_of_nonneg _ (by omega)]
    omega
  have rl := rst_lt l
  apply Ca.w (show tab[0]? = some ⟨1, 5, ir0, none⟩ from rfl) rfl
  unfold ir0
  apply W.asg .nil (d := .int ((tot l : Nat) : Int)) (st1 := st)
  · apply Vl.bi
    · apply Vbs.cons
      · apply Vb.of ⟨rfl⟩
        apply Vl.mp (f := fun e : Nat × Nat => .int (((e.1 + 2) * (e.2 - 48) : Nat) : Int))
        · apply Vit.enum
          · apply Vb.of ⟨rfl⟩
            apply Vl.revX
            · repeat' (first | decreasing_trivial_pre_omega)
            · omega
          · exact it
        · repeat' (first | decreasing_trivial_pre_omega)
        · repeat' (first | decreasing_trivial_pre_omega)
        · repeat' (first | apply i1 | apply m1 | assumption | decreasing_trivial_pre_omega)
      · repeat' (first | decreasing_trivial_pre_omega)
    · exact sm
  · repeat' (first | decreasing_trivial_pre_omega)
  apply W.asg .nil (d := .int ((rst l : Nat) : Int)) (st1 := st)
  · rw [← md]
    repeat' (first | decreasing_trivial_pre_omega)
  · repeat' (first | decreasing_trivial_pre_omega)
  by_cases e : rst l = 10
  · apply W.ret .nil
    · apply Vl.ifeT (decide (((rst l : Nat) : Int) = 10))
      · repeat' (first | decreasing_trivial_pre_omega)
      · rw [e]; rfl
      · repeat' (first | decreasing_trivial_pre_omega)
    · rw [e]
      show Out.ok (D.str _) st = _
      rw [show ("x" : Str) = tx [sgR 10] by kernel_rfl]
  · apply W.ret .nil
    · apply Vl.ifeF (decide (((rst l : Nat) : Int) = 10))
      · repeat' (first | decreasing_trivial_pre_omega)
      · exact decide_eq_false (by omega)
      · repeat' (first | apply Bi.strX | decreasing_trivial_pre_omega)
        omega
    · rw [str_10 _ (by omega)]
      unfold sgR
      rw [if_neg e]
      rfl
theorem lawsign_ca (hf : l.all isF = true) (few : l.length ≤ 1000) : Ca (callN tab (n + 1)) 9 [.str (tx l)] st (.ok (.str (tx [sgR (rst l)])) st) := by
  have len : Bi "len" [.str (tx l)] (.int (l.length : Nat)) := Bi.lenX (by omega)
  have rl := rst_lt l
  apply Ca.w (show tab[9]? = some ⟨1, 5, ir9, none⟩ from rfl) rfl
  unfold ir9
  apply W.asg .nil
  · repeat' (first | decreasing_trivial_pre_omega)
  · repeat' (first | decreasing_trivial_pre_omega)
  apply W.forE (α := Nat) (enc := fun k => .int (k : Nat)) (xs := List.range l.length) (fun e0 q en s => s = st ∧ ∃ t : Nat, ∃ s2, en = (e0.set 1 (.val (.int (t : Nat)))).set 2 s2 ∧ t + tot (l.drop q.length) = tot l) .nil
  · repeat' (first | apply len | decreasing_trivial_pre_omega)
  · exact ⟨rfl, 0, .no, rfl, by simp⟩
  · rintro p x q en s hp ⟨rfl, t, s2, rfl, inv⟩
    obtain ⟨rfl, hx⟩ := range_at hp
    obtain ⟨c, hc⟩ : ∃ c, l[p.length]? = some c := ⟨_, List.getElem?_eq_getElem hx⟩
    have cm : isF c = true := List.all_eq_true.mp hf _ (List.mem_of_getElem? hc)
    have i0 : Ixx (.str (tx l)) (.int (p.length : Nat)) (.str (tx [c])) := Ixx.tx hc (by omega)
    have i1 := Bi.int1 cm
    have dr : l.drop p.length = c :: l.drop (p.length + 1) := by
      rw [List.drop_eq_getElem_cons hx]
      rw [List.getElem?_eq_getElem hx] at hc
      rw [Option.some.inj hc]
    rw [dr, tot, List.length_drop] at inv
    have m1 : Bn .Mult (.int (((l.length : Nat) : Int) + 1 - (p.length : Nat))) (.int ((c - 48 : Nat) : Int)) (.int (((l.length - (p.length + 1) + 2) * (c - 48) : Nat) : Int)) := by
      have z : Bn .Mult (.int (((l.length : Nat) : Int) + 1 - (p.length : Nat))) (.int ((c - 48 : Nat) : Int)) (.int ((((l.length : Nat) : Int) + 1 - (p.length : Nat)) * ((c - 48 : Nat) : Int))) := Bn.mul (.inl (by omega))
      rw [Int.natCast_mul, show ((l.length - (p.length + 1) + 2 : Nat) : Int) = ((l.length : Nat) : Int) + 1 - (p.length : Nat) by omega]
      exact z
    apply Wt.nz
    · repeat' (first | decreasing_trivial_pre_omega)
    apply Wt.mk'
    · repeat' (first | decreasing_trivial_pre_omega)
    apply W.asg .nil
    · repeat' (first | apply len | apply i0 | apply i1 | apply m1 | decreasing_trivial_pre_omega)
    · repeat' (first | decreasing_trivial_pre_omega)
    refine W.nil (.nx ⟨rfl, t + (l.length - (p.length + 1) + 2) * (c - 48), _, by rw [Int.natCast_add]; rfl, ?_⟩)
    rw [List.length_append, List.length_singleton]
    omega
  · rintro en s ⟨rfl, t, s2, rfl, inv⟩
    rw [List.length_range, List.drop_length] at inv
    have tl : t = tot l := inv
    subst tl
    have fl : ((List.range 11).filter fun (k : Nat) => decide ((((tot l : Nat) : Int) + (k : Nat)).fmod 11 = 0)) = [rst l] := by
      rw [← show ((List.range 11).filter fun (k : Nat) => decide ((tot l % 11 + k) % 11 = 0)) = [rst l] from rest_t _ (Nat.mod_lt _ (by omega))]
      congr 1
      funext k
      rw [Int.fmod_eq_emod_of_nonneg _ (by omega)]
      exact decide_eq_decide.mpr (by omega)
    apply W.nz
    · repeat' (first | decreasing_trivial_pre_omega)
    apply W.asg .nil (d := .int ((rst l : Nat) : Int)) (st1 := s)
    · apply Vl.ix
      · apply Vb.of ⟨rfl⟩
        apply Vl.ft (p := fun (k : Nat) => decide ((((tot l : Nat) : Int) + (k : Nat)).fmod 11 = 0)) (f := fun k => .int (k : Nat))
        · apply Vit.rng
          · repeat' (first | decreasing_trivial_pre_omega)
          · exact Rg.nat (n := 11) (by omega)
        · repeat' (first | decreasing_trivial_pre_omega)
        · repeat' (first | decreasing_trivial_pre_omega)
        · repeat' (first | apply Bi.intI6 | decreasing_trivial_pre_omega)
        · repeat' (first | decreasing_trivial_pre_omega)
      · repeat' (first | decreasing_trivial_pre_omega)
      · repeat' (first | decreasing_trivial_pre_omega)
      · rw [fl]
        exact ⟨rfl⟩
    · repeat' (first | decreasing_trivial_pre_omega)
    have i0 : Ixx (.str "0123456789x") (.int (rst l : Nat)) (.str (tx [sgR (rst l)])) := by
      rw [sg_lit]
      exact Ixx.tx (sg_at' _ rl) (by decide)
    apply W.ret .nil
    · repeat' (first | apply i0 | decreasing_trivial_pre_omega)
    · rfl
end
end Eng
set_option Elab.async false
set_option linter.all false
set_option maxRecDepth 100000
set_option maxHeartbeats 4000000
namespace Eng
open PySem PySem.Spec L2
local macro_rules | `(tactic| decreasing_trivial_pre_omega) => `(tactic| first | intro _ | (show Vl ..; first | exact Vl.cst | exact Vl.var rfl | exact Vl.gl | exact Vl.fn | apply Vl.mp | apply Vl.ft | apply Vl.dnew | apply Vl.dvl | apply Vl.dil | apply Vl.dcp | apply Vl.rpr | apply Vl.dget | apply Vl.call | apply Vl.attr | apply Vl.bin | apply Vl.cmp | apply Vl.ix | apply Vl.bi | apply Vl.meth | apply Vl.tup | apply Vl.lst | apply Vl.sl | apply Vl.neg | apply Vl.not | apply Vl.cmp2 | apply Vl.and | apply Vl.or | apply Vl.isi | apply Vl.isc | apply Vl.callv rfl | apply Vl.eqoT | apply Vl.eqoF | exact Vl.xf rfl (by decide +kernel) rfl | apply Vl.ssc | apply Vl.sset | apply Vl.lset | exact ⟨rfl⟩ | exact rfl | apply Vl.ifeI | apply Vl.ife) | (show Vb ..; first | exact Vb.var rfl | apply Vb.of ⟨rfl⟩ | exact ⟨rfl⟩ | exact rfl) | (show St ..; first | exact St.z | apply St.s | exact ⟨rfl⟩ | exact rfl) | (show Fz ..; first | exact Fz.nil | apply Fz.cons | exact ⟨rfl⟩ | exact rfl) | (show Fm ..; first | exact Fm.val | exact Fm.no | exact Fm.lst | exact Fm.dic | exact Fm.ins | apply Fm.s | exact ⟨rfl⟩ | exact rfl) | (show Wp ..; first | exact Wp.nil | apply Wp.cons | exact ⟨rfl⟩ | exact rfl) | (show Bg ..; first | apply Bg.v | apply Bg.t | exact ⟨rfl⟩ | exact rfl) | (show Bgs ..; first | exact Bgs.nil | apply Bgs.cons | exact ⟨rfl⟩ | exact rfl) | (show Ow ..; first | exact Ow.hd | apply Ow.tl | exact ⟨rfl⟩ | exact rfl) | (show Gs ..; first | exact Gs.z | apply Gs.s | exact ⟨rfl⟩ | exact rfl) | (show Nz ..; first | apply Nz.set | exact Nz.re | exact ⟨rfl⟩ | exact rfl) | (show Vps ..; first | exact Vps.nil | apply Vps.cons | exact ⟨rfl⟩ | exact rfl) | (show Sp ..; first | exact Sp.nil | apply Sp.val | apply Sp.own rfl | exact ⟨rfl⟩ | exact rfl) | (show Vit ..; first | apply Vit.dk | apply Vit.dv | apply Vit.di | apply Vit.rgc | apply Vit.seq | apply Vit.rng | apply Vit.enum | apply Vit.zip | exact ⟨rfl⟩ | exact rfl) | (show Viv ..; first | apply Viv.rgc | apply Viv.seq | apply Viv.rng | apply Viv.enum | exact ⟨rfl⟩ | exact rfl) | (show Kd ..; first | exact Kd.s | exact Kd.i | exact ⟨rfl⟩ | exact rfl) | (show Dk1 ..; first | exact Dk1.s (by first | exact Nat.le_of_ble_eq_true rfl | omega | (simp only [List.length_map, List.length_range, List.length_append, List.length_cons, List.length_nil, List.length_reverse, enu_length]; omega)) | exact ⟨rfl⟩ | exact rfl) | (show Dv1 ..; first | exact Dv1.s (by first | exact Nat.le_of_ble_eq_true rfl | omega | (simp only [List.length_map, List.length_range, List.length_append, List.length_cons, List.length_nil, List.length_reverse, enu_length]; omega)) | exact ⟨rfl⟩ | exact rfl) | (show Di1 ..; first | exact Di1.s (by first | exact Nat.le_of_ble_eq_true rfl | omega | (simp only [List.length_map, List.length_range, List.length_append, List.length_cons, List.length_nil, List.length_reverse, enu_length]; omega)) | exact ⟨rfl⟩ | exact rfl) | (show Dg ..; first | exact Dg.dz | exact ⟨rfl⟩ | exact rfl) | (show Cm ..; first | exact Cm.inZ | exact Cm.ninZ | exact Cm.inST | exact Cm.ninST | exact Cm.eqI | exact Cm.neI | exact Cm.eqS | exact Cm.neS | exact Cm.eqB | exact Cm.neB | exact Cm.nil | exact Cm.nnil | exact Cm.inI | exact Cm.ninI | exact Cm.inS | exact Cm.ninS | exact ⟨rfl⟩ | exact rfl) | (show Bi ..; first | exact Bi.listZ | exact Bi.len | exact Bi.lenT | exact Bi.sum | exact Bi.all | exact Bi.any | exact Bi.sortI | exact Bi.sortP | exact ⟨rfl⟩ | exact rfl) | (show Rp1 ..; first | exact Rp1.non | exact Rp1.tt | exact ⟨rfl⟩ | exact rfl) | (show Pf ..; first | exact Pf.nil | exact Pf.hit | apply Pf.skip (by decide) | exact ⟨rfl⟩ | exact rfl) | (show Sf ..; first | apply Sf.ins rfl | exact ⟨rfl⟩ | exact rfl) | (show Vls ..; first | exact Vls.nil | apply Vls.cons | exact ⟨rfl⟩ | exact rfl) | (show Vbs ..; first | exact Vbs.nil | apply Vbs.cons | exact ⟨rfl⟩ | exact rfl) | (show Vop ..; first | exact Vop.no | apply Vop.so | exact ⟨rfl⟩ | exact rfl) | (show Van ..; first | apply Van.one | apply Van.cons | exact ⟨rfl⟩ | exact rfl) | (show Vor ..; first | apply Vor.one | apply Vor.cons | exact ⟨rfl⟩ | exact rfl) | (show Vta ..; first | apply Vta.one | apply Vta.cons | exact ⟨rfl⟩ | exact rfl) | (show Vto ..; first | apply Vto.one | apply Vto.cons | exact ⟨rfl⟩ | exact rfl) | (show Vt ..; first | apply Vt.not | apply Vt.and | apply Vt.or | apply Vt.of rfl | exact ⟨rfl⟩ | exact rfl) | (show Fits ..; first | exact Fits.of (by first | exact Nat.le_of_ble_eq_true rfl | omega | (simp only [List.length_map, List.length_range, List.length_append, List.length_cons, List.length_nil, List.length_reverse, enu_length]; omega)) | exact ⟨rfl⟩ | exact rfl) | (show Rg ..; first | exact Rg.nat (by first | exact Nat.le_of_ble_eq_true rfl | omega | (simp only [List.length_map, List.length_range, List.length_append, List.length_cons, List.length_nil, List.length_reverse, enu_length]; omega)) | exact Rg.one (by first | exact Nat.le_of_ble_eq_true rfl | omega | (simp only [List.length_map, List.length_range, List.length_append, List.length_cons, List.length_nil, List.length_reverse, enu_length]; omega)) (by first | exact Nat.le_of_ble_eq_true rfl | omega | (simp only [List.length_map, List.length_range, List.length_append, List.length_cons, List.length_nil, List.length_reverse, enu_length]; omega)) | exact Rg.two (by first | exact Nat.le_of_ble_eq_true rfl | omega | (simp only [List.length_map, List.length_range, List.length_append, List.length_cons, List.length_nil, List.length_reverse, enu_length]; omega)) (by first | exact Nat.le_of_ble_eq_true rfl | omega | (simp only [List.length_map, List.length_range, List.length_append, List.length_cons, List.length_nil, List.length_reverse, enu_length]; omega)) (by first | exact Nat.le_of_ble_eq_true rfl | omega | (simp only [List.length_map, List.length_range, List.length_append, List.length_cons, List.length_nil, List.length_reverse, enu_length]; omega)) (by first | exact Nat.le_of_ble_eq_true rfl | omega | (simp only [List.length_map, List.length_range, List.length_append, List.length_cons, List.length_nil, List.length_reverse, enu_length]; omega)) | exact ⟨rfl⟩ | exact rfl) | (show Bn ..; first | exact Bn.addL (by first | exact Nat.le_of_ble_eq_true rfl | omega | (simp only [List.length_map, List.length_range, List.length_append, List.length_cons, List.length_nil, List.length_reverse, enu_length]; omega)) | exact Bn.addT (by first | exact Nat.le_of_ble_eq_true rfl | omega | (simp only [List.length_map, List.length_range, List.length_append, List.length_cons, List.length_nil, List.length_reverse, enu_length]; omega)) | exact Bn.mul (by first | decide | omega) | exact Bn.fdiv (by first | decide | omega) | exact Bn.mod (by first | decide | omega) | exact ⟨rfl⟩ | exact rfl | exact Bn.add (by first | exact Nat.le_of_ble_eq_true rfl | omega | (simp only [List.length_map, List.length_range, List.length_append, List.length_cons, List.length_nil, List.length_reverse, enu_length]; omega)) | exact Bn.addTT (by first | exact Nat.le_of_ble_eq_true rfl | omega | (simp only [List.length_map, List.length_range, List.length_append, List.length_cons, List.length_nil, List.length_reverse, enu_length]; omega))) | (show Isi ..; first | exact Isi.row rfl | exact Isi.row2 rfl | exact Isi.int rfl | exact Isi.bool rfl | exact Isi.str rfl | exact Isi.tup rfl | exact Isi.lst rfl | exact ⟨rfl⟩ | exact rfl) | exact ⟨rfl⟩ | exact rfl)
theorem Cm.inF {c : Nat} : Cm .In (.str (tx [c])) (.str "0123456789") (isF c) := by
  have := Cm.txI (c := c) (z := "0123456789")
  rw [fg_lit, tx_list, show decide (c ∈ fgL) = isF c from Bool.eq_iff_iff.mpr (by rw [decide_eq_true_iff]; exact fg_mem)] at this
  rw [fg_lit]
  exact this
theorem Cm.outF {c : Nat} : Cm .NotIn (.str (tx [c])) (.str "0123456789") (!isF c) := by
  have := Cm.txO (c := c) (z := "0123456789")
  rw [fg_lit, tx_list, show decide (c ∈ fgL) = isF c from Bool.eq_iff_iff.mpr (by rw [decide_eq_true_iff]; exact fg_mem)] at this
  rw [fg_lit]
  exact this
section
variable {n : Nat} {st : Store} {l : List Nat}
theorem istk_ca (few : l.length ≤ 1000) : Ca (callN tab (n + 2)) 2 [.str (tx l)] st (.ok (.bl (tkB l)) st) := by
  have len : Bi "len" [.str (tx l)] (.int (l.length : Nat)) := Bi.lenX (by omega)
  have sl : Sld (.str (tx l)) none (some (-1)) (.str (tx l.dropLast)) := Sld.txL (by omega)
  have ld : l.dropLast.length ≤ 1000 := by rw [List.length_dropLast]; omega
  have it : Itm (.str (tx l.dropLast)) (l.dropLast.map fun c => .str (tx [c])) := Itm.tx (by omega)
  have al : Bi "all" [.lst (l.dropLast.map fun c => .bl (isF c))] (.bl (l.dropLast.all isF)) := Bi.all
  apply Ca.w (show tab[2]? = some ⟨1, 2, ir2, none⟩ from rfl) rfl
  unfold ir2
  apply W.iff (p := (!true || (!decide (((l.length : Nat) : Int) = 9) || !(l.dropLast.all isF))))
  · repeat' (first | apply len | apply sl | apply it | apply al | apply Cm.inF | decreasing_trivial_pre_omega)
  · intro c
    apply W.ret .nil
    · repeat' (first | decreasing_trivial_pre_omega)
    · refine .rt ?_
      have : tkB l = false := by
        unfold tkB
        by_cases h9 : l.length = 9
        · rw [h9] at c
          have c : (!(l.dropLast.all isF)) = true := c
          rw [Bool.not_eq_true'] at c
          rw [c, Bool.false_and, Bool.and_false]
        · rw [decide_eq_false h9, Bool.false_and]
      rw [this]
      rfl
  · intro c
    rw [Bool.not_true, Bool.false_or, Bool.or_eq_false_iff, Bool.not_eq_false', Bool.not_eq_false', decide_eq_true_iff] at c
    obtain ⟨h9, hf⟩ := c
    have h9 : l.length = 9 := by omega
    have ne : l ≠ [] := fun e => by rw [e] at h9; cases h9
    obtain ⟨s, hs⟩ : ∃ s, l.getLast? = some s := ⟨_, List.getLast?_eq_some_getLast ne⟩
    have ix : Ixx (.str (tx l)) (.int (-1)) (.str (tx [s])) := Ixx.txL hs (by omega)
    have ck := check_ca (n := n) (st := st) hf ld
    apply W.ret .nil
    · repeat' (first | apply sl | apply ix | apply ck | apply Cm.txE | decreasing_trivial_pre_omega)
    · unfold tkB
      rw [hf, decide_eq_true h9, hs]
      show Out.ok (D.bl _) st = .ok (.bl _) st
      rw [Bool.true_and, Bool.true_and]
      congr 2
      exact decide_eq_decide.mpr ⟨fun e => by rw [(List.cons.inj e).1], fun e => by rw [Option.some.inj e]⟩
theorem istk_no {d : D} (p : plainD d = true) (h : tyS d = false) : Ca (callN tab (n + 1)) 2 [d] st (.ok (.bl false) st) := by
  have is : Isi ["str"] d false := by
    rw [← h]
    exact Isi.str p
  apply Ca.w (show tab[2]? = some ⟨1, 2, ir2, none⟩ from rfl) rfl
  unfold ir2
  apply W.ifT (p := (!false || true))
  · apply Vt.or
    apply Vto.cons
    · repeat' (first | apply is | decreasing_trivial_pre_omega)
    · intro q
      cases q
  · rfl
  apply W.ret .nil
  · repeat' (first | decreasing_trivial_pre_omega)
  · exact .rt rfl
theorem numof_ca (few : l.length ≤ 1000) : Ca (callN tab (n + 3)) 3 [.str (tx l)] st (.ok (if tkB l = true then .int ((NumText.digitsVal l.dropLast : Nat) : Int) else .non) st) := by
  have tk := istk_ca (n := n) (st := st) few
  have sl : Sld (.str (tx l)) none (some (-1)) (.str (tx l.dropLast)) := Sld.txL (by omega)
  apply Ca.w (show tab[3]? = some ⟨1, 1, ir3, none⟩ from rfl) rfl
  unfold ir3
  by_cases h : tkB l = true
  · have hh := h
    unfold tkB at hh
    rw [Bool.and_eq_true_iff, Bool.and_eq_true_iff, decide_eq_true_iff] at hh
    obtain ⟨h9, hf, _⟩ := hh
    have ix := Bi.intX hf (fun e => by
      have := congrArg List.length e
      rw [List.length_dropLast, h9] at this
      cases this) (by rw [List.length_dropLast]; omega)
    rw [if_pos h]
    apply W.ret .nil
    · apply Vl.ifeT (tkB l)
      · repeat' (first | apply tk | decreasing_trivial_pre_omega)
      · exact h
      · repeat' (first | apply sl | apply ix | decreasing_trivial_pre_omega)
    · rfl
  · rw [if_neg h]
    apply W.ret .nil
    · apply Vl.ifeF (tkB l)
      · repeat' (first | apply tk | decreasing_trivial_pre_omega)
      · exact Bool.eq_false_iff.mpr h
      · repeat' (first | decreasing_trivial_pre_omega)
    · rfl
theorem numof_no {d : D} (p : plainD d = true) (h : tyS d = false) : Ca (callN tab (n + 2)) 3 [d] st (.ok .non st) := by
  have tk := istk_no (n := n) (st := st) p h
  apply Ca.w (show tab[3]? = some ⟨1, 1, ir3, none⟩ from rfl) rfl
  unfold ir3
  apply W.ret .nil
  · apply Vl.ifeF false
    · repeat' (first | apply tk | decreasing_trivial_pre_omega)
    · rfl
    · repeat' (first | decreasing_trivial_pre_omega)
  · rfl
theorem lawtk_ca (few : l.length ≤ 1000) : Ca (callN tab (n + 2)) 10 [.str (tx l)] st (.ok (.bl (tkB l)) st) := by
  have len : Bi "len" [.str (tx l)] (.int (l.length : Nat)) := Bi.lenX (by omega)
  apply Ca.w (show tab[10]? = some ⟨1, 2, ir10, none⟩ from rfl) rfl
  unfold ir10
  by_cases h9 : l.length = 9
  · obtain ⟨a, b, c, d, e, f, g, h, i, rfl⟩ := nine_cases h9
    have sl : Sld (.str (tx [a, b, c, d, e, f, g, h, i])) none (some 8) (.str (tx [a, b, c, d, e, f, g, h])) := Sld.txU (k := 8) (by omega) (by omega)
    have it : Itm (.str (tx [a, b, c, d, e, f, g, h])) ([a, b, c, d, e, f, g, h].map fun c => .str (tx [c])) := Itm.tx (by simp)
    have ix : Ixx (.str (tx [a, b, c, d, e, f, g, h, i])) (.int 8) (.str (tx [i])) := Ixx.tx (k := 8) rfl (by omega)
    have ds : [a, b, c, d, e, f, g, h, i].dropLast = [a, b, c, d, e, f, g, h] := rfl
    have gl : [a, b, c, d, e, f, g, h, i].getLast? = some i := rfl
    have em : (([a, b, c, d, e, f, g, h].filter fun c => !isF c).map fun c => D.str (tx [c])).isEmpty = [a, b, c, d, e, f, g, h].all isF := by
      rw [List.isEmpty_map, Bool.eq_iff_iff, List.isEmpty_iff, List.filter_eq_nil_iff, List.all_eq_true]
      exact ⟨fun z x hx => by simpa using z x hx, fun z x hx => by simpa using z x hx⟩
    have nn : Cm .NotEq (.lst (([a, b, c, d, e, f, g, h].filter fun c => !isF c).map fun c => .str (tx [c]))) (.lst []) (!([a, b, c, d, e, f, g, h].all isF)) := by
      rw [← em]
      exact Cm.nnil
    apply W.iff (p := (!decide ((([a, b, c, d, e, f, g, h, i].length : Nat) : Int) = 9) || !([a, b, c, d, e, f, g, h].all isF)))
    · apply Vt.or
      apply Vto.cons
      · repeat' (first | apply len | decreasing_trivial_pre_omega)
      · intro _
        apply Vto.one
        apply Vt.of rfl
        · apply Vl.cmp
          · apply Vb.of ⟨rfl⟩
            apply Vl.ft (xs := [a, b, c, d, e, f, g, h]) (enc := fun c => .str (tx [c])) (p := fun c => !isF c) (f := fun c => .str (tx [c]))
            · repeat' (first | apply sl | apply it | decreasing_trivial_pre_omega)
            · repeat' (first | decreasing_trivial_pre_omega)
            · repeat' (first | decreasing_trivial_pre_omega)
            · repeat' (first | apply Cm.outF | decreasing_trivial_pre_omega)
            · repeat' (first | decreasing_trivial_pre_omega)
          · repeat' (first | decreasing_trivial_pre_omega)
          · exact nn
        · exact ⟨rfl⟩
    · intro q
      have q : (!([a, b, c, d, e, f, g, h].all isF)) = true := q
      rw [Bool.not_eq_true'] at q
      apply W.ret .nil
      · repeat' (first | decreasing_trivial_pre_omega)
      · refine .rt ?_
        unfold tkB
        rw [ds, q, Bool.false_and, Bool.and_false]
        rfl
    · intro q
      have q : (!([a, b, c, d, e, f, g, h].all isF)) = false := q
      rw [Bool.not_eq_false'] at q
      have ck := lawsign_ca (n := n) (st := st) q (by simp)
      apply W.ret .nil
      · repeat' (first | apply sl | apply ix | apply ck | apply Cm.txE | decreasing_trivial_pre_omega)
      · unfold tkB
        rw [ds, gl, q, decide_eq_true h9]
        show Out.ok (D.bl _) st = .ok (.bl _) st
        rw [Bool.true_and, Bool.true_and]
        congr 2
        exact decide_eq_decide.mpr ⟨fun e => by rw [(List.cons.inj e).1], fun e => by rw [Option.some.inj e]⟩
  · apply W.ifT (p := (!decide (((l.length : Nat) : Int) = 9) || true))
    · apply Vt.or
      apply Vto.cons
      · repeat' (first | apply len | decreasing_trivial_pre_omega)
      · intro q
        rw [Bool.not_eq_false', decide_eq_true_iff] at q
        exact absurd (show l.length = 9 by omega) h9
    · rw [Bool.or_true]
    apply W.ret .nil
    · repeat' (first | decreasing_trivial_pre_omega)
    · refine .rt ?_
      unfold tkB
      rw [decide_eq_false h9, Bool.false_and]
      rfl
/-- a number's ticket -/
def tkL (m : Nat) : List Nat := f8 m ++ [sgR (rst (f8 m))]
theorem tkL_len {m : Nat} (h : m < 10 ^ 8) : (tkL m).length = 9 := by
  unfold tkL
  rw [List.length_append, f8_len h]
  rfl
theorem tkL_drop (m : Nat) : (tkL m).dropLast = f8 m := List.dropLast_concat
theorem tkL_last (m : Nat) : (tkL m).getLast? = some (sgR (rst (f8 m))) := by
  unfold tkL
  rw [List.getLast?_append]
  rfl
theorem tkL_ok {m : Nat} (h : m < 10 ^ 8) : tkB (tkL m) = true := by
  unfold tkB
  rw [tkL_drop, tkL_last, f8_f, decide_eq_true (tkL_len h), decide_eq_true rfl]
  rfl
theorem ticket_ca {m : Nat} (h : m < 10 ^ 8) : Ca (callN tab (n + 2)) 1 [.int (m : Nat)] st (.ok (.str (tx (tkL m))) st) := by
  have l8 := f8_len h
  have ck := check_ca (n := n) (st := st) (f8_f m) (by omega)
  have ad : Bn .Add (.str (tx (f8 m))) (.str (tx [sgR (rst (f8 m))])) (.str (tx (tkL m))) := Bn.tx (by rw [l8, List.length_singleton]; omega)
  have fm : ∀ {env : Env}, Gs env 0 (.val (.int (m : Nat))) → Vl (callN tab (n + 1)) env (.fmt (.var 0)) st (.ok (.str (tx (f8 m))) st) := fun {env} g => Vl.fmt (Vl.var (by
    unfold getV
    rw [g.h])) h
  apply Ca.w (show tab[1]? = some ⟨1, 2, ir1, none⟩ from rfl) rfl
  unfold ir1
  apply W.asg .nil (d := .str (tx (f8 m))) (st1 := st)
  · exact fm .z
  · repeat' (first | decreasing_trivial_pre_omega)
  apply W.ret .nil
  · repeat' (first | apply ck | apply ad | decreasing_trivial_pre_omega)
  · rfl
end
def put (l : List Nat) (p c : Nat) : List Nat := l.take p ++ [c] ++ l.drop (p + 1)
theorem pu_set {l : List Nat} {p c : Nat} (h : p < l.length) : put l p c = l.set p c := by
  unfold put
  rw [List.set_eq_take_append_cons_drop, if_pos h, List.append_assoc]
  rfl
theorem pu_len {l : List Nat} {p c : Nat} (h : p < l.length) : (put l p c).length = l.length := by
  rw [pu_set h, List.length_set]
open Builtin.Str StrLaws in
theorem rep_at {a b : List Nat} {c : Nat} (h : 63 ∉ a) : rep1 (tx (a ++ [63] ++ b)) "?" (tx [c]) = tx (a ++ [c] ++ b) := by
  have ey : ("?" : Str) = tx [63] := by kernel_rfl
  rw [ey]
  have at_iff : ∀ i, StrLaws.At (tx (a ++ [63] ++ b)) (tx [63]) (tx (a ++ [63] ++ b)).length i ↔ (a ++ [63] ++ b)[i]? = some 63 := by
    intro i
    unfold StrLaws.At
    rw [StrLaws.subAt_eq, tx_list, tx_list, tx_len, tx_len, beq_iff_eq]
    constructor
    · rintro ⟨_, e⟩
      have := congrArg (·[0]?) e
      simpa [List.getElem?_take, List.getElem?_drop] using this
    · intro e
      obtain ⟨hi, ev⟩ := List.getElem?_eq_some_iff.mp e
      refine ⟨hi, ?_⟩
      rw [List.drop_eq_getElem_cons hi, ev]
      rfl
  have at0 : (a ++ [63] ++ b)[a.length]? = some 63 := by simp
  rcases StrLaws.occ_head (tx (a ++ [63] ++ b)) (tx [63]) 1 (by omega) with ⟨_, no⟩ | ⟨i, r, e, ha, mn⟩
  · exact absurd ((at_iff _).mpr at0) (no _)
  · have hi := (at_iff i).mp ha
    obtain rfl : i = a.length := by
      rcases Nat.lt_trichotomy i a.length with q | q | q
      · rw [List.append_assoc, List.getElem?_append_left q] at hi
        exact absurd (List.mem_of_getElem? hi) h
      · exact q
      · exact absurd ((at_iff _).mpr at0) (mn _ q)
    have rl := StrLaws.occ_length_le (tx (a ++ [63] ++ b)) (tx [63]) 0 (tx (a ++ [63] ++ b)).length 1
    rw [e] at rl
    obtain rfl : r = [] := by
      cases r with
      | nil => rfl
      | cons y r => simp at rl
    unfold rep1
    rw [e]
    show Builtin.Str.glued (tx [c]) (Builtin.Str.partsBetween (tx (a ++ [63] ++ b)) [a.length] (tx [63]).length) = _
    rw [← tx_of (Builtin.Str.glued _ _)]
    congr 1
    show ((Builtin.Str.strSub (tx (a ++ [63] ++ b)) 0 a.length).cps ++ (tx [c]).cps ++ (Builtin.Str.strSub (tx (a ++ [63] ++ b)) (a.length + (tx [63]).length) (tx (a ++ [63] ++ b)).length).cps).toList = _
    rw [Array.toList_append, Array.toList_append, StrLaws.strSub_toList, StrLaws.strSub_toList, tx_list, tx_list, tx_len, tx_len]
    simp
    rw [List.take_of_length_le (by omega)]
/-- the tickets with one sign put in -/
def fits (l : List Nat) (p : Nat) : List (List Nat) := (sgL.map (put l p)).filter tkB
def fitD (l : List Nat) (p : Nat) : D := match fits l p with
  | [x] => .str (tx x)
  | _ => .non
section
variable {n : Nat} {st : Store} {l : List Nat} {p : Nat}
theorem fits_le (h : l.length = 9) (hp : p < 9) : (fits l p).length ≤ 1 := by
  have one : ∀ x ∈ fits l p, ∀ y ∈ fits l p, x = y := by
    intro x hx y hy
    obtain ⟨h1, h2⟩ := List.mem_filter.mp hx
    obtain ⟨k1, k2⟩ := List.mem_filter.mp hy
    obtain ⟨c, _, rfl⟩ := List.mem_map.mp h1
    obtain ⟨d, _, rfl⟩ := List.mem_map.mp k1
    rw [pu_set (by omega)] at h2 k2 ⊢
    rw [pu_set (by omega)]
    rw [one_fault h hp h2 k2]
  have nd : (fits l p).Nodup := by
    refine List.Pairwise.filter _ ?_
    have sn : sgL.Nodup := by decide
    unfold List.Nodup at sn
    rw [List.pairwise_map]
    refine sn.imp fun {c d} ne e => ne ?_
    rw [pu_set (by omega), pu_set (by omega)] at e
    have := congrArg (·[p]?) e
    simpa [List.getElem?_set, h, hp] using this
  generalize fits l p = f at one nd
  match f, one, nd with
  | [], _, _ => exact Nat.zero_le _
  | [_], _, _ => exact Nat.le_refl _
  | x :: y :: _, one, nd =>
    have := one x List.mem_cons_self y (List.mem_cons_of_mem _ List.mem_cons_self)
    subst this
    exact absurd List.mem_cons_self (List.nodup_cons.mp nd).1
theorem sg_plus : Bn .Add (.str "0123456789") (.str "x") (.str (tx sgL)) := by
  rw [fg_lit, show ("x" : Str) = tx [120] by kernel_rfl]
  exact Bn.tx (by decide)
theorem sg_itm : Itm (.str (tx sgL)) (sgL.map fun c => .str (tx [c])) := Itm.tx (by decide)
theorem restored_ca (h : l.length = 9) (hp : p < 9) (q : 63 ∉ l.take p) : Ca (callN tab (n + 3)) 4 [.str (tx (put l p 63))] st (.ok (fitD l p) st) := by
  have rp : ∀ {c : Nat}, c ∈ sgL → Rp2 (.str (tx (put l p 63))) "?" (.str (tx [c])) (.str (tx (put l p c))) := fun {c} hc => ⟨by
    have hb := big
    have ne : c ≠ 63 := fun e => by
      subst e
      exact absurd hc (by decide)
    have ey : ("?" : Str) = tx [63] := by kernel_rfl
    have e : rep1 (tx (put l p 63)) "?" (tx [c]) = tx (put l p c) := rep_at q
    unfold repD
    dsimp only
    rw [if_pos, e]
    refine ⟨by rw [ey, tx_len]; exact Nat.le_refl _, ?_, ?_, ?_⟩
    · rw [ey]
      exact beq_eq_false_iff_ne.mpr fun z => ne (List.cons.inj (tx_inj.mp z)).1.symm
    · rw [tx_len, tx_len, pu_len (by omega), h, List.length_singleton]
      omega
    · rw [e, tx_len, pu_len (by omega), h]
      omega⟩
  have tk : ∀ {c : Nat}, Ca (callN tab (n + 2)) 2 [.str (tx (put l p c))] st (.ok (.bl (tkB (put l p c))) st) := fun {c} => istk_ca (by rw [pu_len (by omega)]; omega)
  have fl := fits_le h hp
  apply Ca.w (show tab[4]? = some ⟨1, 4, ir4, none⟩ from rfl) rfl
  unfold ir4
  apply W.own
  · repeat' (first | decreasing_trivial_pre_omega)
  · rfl
  · repeat' (first | decreasing_trivial_pre_omega)
  apply W.forE (α := Nat) (enc := fun c => .str (tx [c])) (xs := sgL) (fun e0 q en s => s = st ∧ ∃ s2 s3, en = ((e0.set 1 (.own (.lst (((q.map (put l p)).filter tkB).map fun x => .str (tx x))))).set 2 s2).set 3 s3) .nil
  · repeat' (first | apply sg_plus | apply sg_itm | decreasing_trivial_pre_omega)
  · exact ⟨rfl, .no, .no, rfl⟩
  · rintro pre c post en s hp' ⟨rfl, s2, s3, rfl⟩
    have hc : c ∈ sgL := by rw [hp']; simp
    have lp : pre.length ≤ 11 := by
      have := congrArg List.length hp'
      rw [List.length_append] at this
      have z : sgL.length = 11 := rfl
      omega
    have rc := rp hc
    apply Wt.nz
    · repeat' (first | decreasing_trivial_pre_omega)
    apply Wt.mk'
    · repeat' (first | decreasing_trivial_pre_omega)
    apply W.asg .nil (d := .str (tx (put l p c))) (st1 := s)
    · apply Vl.rep
      · repeat' (first | decreasing_trivial_pre_omega)
      · repeat' (first | decreasing_trivial_pre_omega)
      · exact rc
    · repeat' (first | decreasing_trivial_pre_omega)
    apply W.iff
    · repeat' (first | apply tk | decreasing_trivial_pre_omega)
    · intro t
      apply W.app .nil
      · repeat' (first | decreasing_trivial_pre_omega)
      · repeat' (first | decreasing_trivial_pre_omega)
      · rw [List.length_map]
        have := List.length_filter_le tkB (pre.map (put l p))
        rw [List.length_map] at this
        exact Fits.of (by omega)
      · repeat' (first | decreasing_trivial_pre_omega)
      exact W.nilS (W.nil (.nx ⟨rfl, _, _, by rw [List.map_append, List.filter_append, List.map_append, List.map_singleton, List.filter_cons_of_pos t, List.filter_nil]; rfl⟩))
    · intro t
      exact W.nil (.nx ⟨rfl, _, _, by rw [List.map_append, List.filter_append, List.map_append, List.map_singleton, List.filter_cons_of_neg (by rw [t]; decide), List.filter_nil, List.map_nil, List.append_nil]; rfl⟩)
  · rintro en s ⟨rfl, s2, s3, rfl⟩
    apply W.nz
    · repeat' (first | decreasing_trivial_pre_omega)
    show W (callN tab (n + 2)) _ [.val (.str (tx (put l p 63))), .own (.lst ((fits l p).map fun x => .str (tx x))), s2, s3] s _
    unfold fitD
    generalize fits l p = f at fl
    match f, fl with
    | [], _ =>
      apply W.ret .nil
      · apply Vl.ifeF false
        · repeat' (first | decreasing_trivial_pre_omega)
        · rfl
        · repeat' (first | decreasing_trivial_pre_omega)
      · rfl
    | [x], _ =>
      apply W.ret .nil
      · apply Vl.ifeT true
        · repeat' (first | decreasing_trivial_pre_omega)
        · rfl
        · repeat' (first | decreasing_trivial_pre_omega)
      · rfl
end
end Eng
set_option Elab.async false
set_option linter.all false
set_option maxRecDepth 100000
set_option maxHeartbeats 4000000
namespace Eng
open PySem PySem.Spec L2
local macro_rules | `(tactic| decreasing_trivial_pre_omega) => `(tactic| first | intro _ | (show Vl ..; first | exact Vl.cst | exact Vl.var rfl | exact Vl.gl | exact Vl.fn | apply Vl.mp | apply Vl.ft | apply Vl.dnew | apply Vl.dvl | apply Vl.dil | apply Vl.dcp | apply Vl.rpr | apply Vl.dget | apply Vl.call | apply Vl.attr | apply Vl.bin | apply Vl.cmp | apply Vl.ix | apply Vl.bi | apply Vl.meth | apply Vl.tup | apply Vl.lst | apply Vl.sl | apply Vl.neg | apply Vl.not | apply Vl.cmp2 | apply Vl.and | apply Vl.or | apply Vl.isi | apply Vl.isc | apply Vl.callv rfl | apply Vl.eqoT | apply Vl.eqoF | exact Vl.xf rfl (by decide +kernel) rfl | apply Vl.ssc | apply Vl.sset | apply Vl.lset | exact ⟨rfl⟩ | exact rfl | apply Vl.ifeI | apply Vl.ife) | (show Vb ..; first | exact Vb.var rfl | apply Vb.of ⟨rfl⟩ | exact ⟨rfl⟩ | exact rfl) | (show St ..; first | exact St.z | apply St.s | exact ⟨rfl⟩ | exact rfl) | (show Fz ..; first | exact Fz.nil | apply Fz.cons | exact ⟨rfl⟩ | exact rfl) | (show Fm ..; first | exact Fm.val | exact Fm.no | exact Fm.lst | exact Fm.dic | exact Fm.ins | apply Fm.s | exact ⟨rfl⟩ | exact rfl) | (show Wp ..; first | exact Wp.nil | apply Wp.cons | exact ⟨rfl⟩ | exact rfl) | (show Bg ..; first | apply Bg.v | apply Bg.t | exact ⟨rfl⟩ | exact rfl) | (show Bgs ..; first | exact Bgs.nil | apply Bgs.cons | exact ⟨rfl⟩ | exact rfl) | (show Ow ..; first | exact Ow.hd | apply Ow.tl | exact ⟨rfl⟩ | exact rfl) | (show Gs ..; first | exact Gs.z | apply Gs.s | exact ⟨rfl⟩ | exact rfl) | (show Nz ..; first | apply Nz.set | exact Nz.re | exact ⟨rfl⟩ | exact rfl) | (show Vps ..; first | exact Vps.nil | apply Vps.cons | exact ⟨rfl⟩ | exact rfl) | (show Sp ..; first | exact Sp.nil | apply Sp.val | apply Sp.own rfl | exact ⟨rfl⟩ | exact rfl) | (show Vit ..; first | apply Vit.dk | apply Vit.dv | apply Vit.di | apply Vit.rgc | apply Vit.seq | apply Vit.rng | apply Vit.enum | apply Vit.zip | exact ⟨rfl⟩ | exact rfl) | (show Viv ..; first | apply Viv.rgc | apply Viv.seq | apply Viv.rng | apply Viv.enum | exact ⟨rfl⟩ | exact rfl) | (show Kd ..; first | exact Kd.s | exact Kd.i | exact ⟨rfl⟩ | exact rfl) | (show Dk1 ..; first | exact Dk1.s (by first | exact Nat.le_of_ble_eq_true rfl | omega | (simp only [List.length_map, List.length_range, List.length_append, List.length_cons, List.length_nil, List.length_reverse, enu_length]; omega)) | exact ⟨rfl⟩ | exact rfl) | (show Dv1 ..; first | exact Dv1.s (by first | exact Nat.le_of_ble_eq_true rfl | omega | (simp only [List.length_map, List.length_range, List.length_append, List.length_cons, List.length_nil, List.length_reverse, enu_length]; omega)) | exact ⟨rfl⟩ | exact rfl) | (show Di1 ..; first | exact Di1.s (by first | exact Nat.le_of_ble_eq_true rfl | omega | (simp only [List.length_map, List.length_range, List.length_append, List.length_cons, List.length_nil, List.length_reverse, enu_length]; omega)) | exact ⟨rfl⟩ | exact rfl) | (show Dg ..; first | exact Dg.dz | exact ⟨rfl⟩ | exact rfl) | (show Cm ..; first | exact Cm.inZ | exact Cm.ninZ | exact Cm.inST | exact Cm.ninST | exact Cm.eqI | exact Cm.neI | exact Cm.eqS | exact Cm.neS | exact Cm.eqB | exact Cm.neB | exact Cm.nil | exact Cm.nnil | exact Cm.inI | exact Cm.ninI | exact Cm.inS | exact Cm.ninS | exact ⟨rfl⟩ | exact rfl) | (show Bi ..; first | exact Bi.listZ | exact Bi.len | exact Bi.lenT | exact Bi.sum | exact Bi.all | exact Bi.any | exact Bi.sortI | exact Bi.sortP | exact ⟨rfl⟩ | exact rfl) | (show Rp1 ..; first | exact Rp1.non | exact Rp1.tt | exact ⟨rfl⟩ | exact rfl) | (show Pf ..; first | exact Pf.nil | exact Pf.hit | apply Pf.skip (by decide) | exact ⟨rfl⟩ | exact rfl) | (show Sf ..; first | apply Sf.ins rfl | exact ⟨rfl⟩ | exact rfl) | (show Vls ..; first | exact Vls.nil | apply Vls.cons | exact ⟨rfl⟩ | exact rfl) | (show Vbs ..; first | exact Vbs.nil | apply Vbs.cons | exact ⟨rfl⟩ | exact rfl) | (show Vop ..; first | exact Vop.no | apply Vop.so | exact ⟨rfl⟩ | exact rfl) | (show Van ..; first | apply Van.one | apply Van.cons | exact ⟨rfl⟩ | exact rfl) | (show Vor ..; first | apply Vor.one | apply Vor.cons | exact ⟨rfl⟩ | exact rfl) | (show Vta ..; first | apply Vta.one | apply Vta.cons | exact ⟨rfl⟩ | exact rfl) | (show Vto ..; first | apply Vto.one | apply Vto.cons | exact ⟨rfl⟩ | exact rfl) | (show Vt ..; first | apply Vt.not | apply Vt.and | apply Vt.or | apply Vt.of rfl | exact ⟨rfl⟩ | exact rfl) | (show Fits ..; first | exact Fits.of (by first | exact Nat.le_of_ble_eq_true rfl | omega | (simp only [List.length_map, List.length_range, List.length_append, List.length_cons, List.length_nil, List.length_reverse, enu_length]; omega)) | exact ⟨rfl⟩ | exact rfl) | (show Rg ..; first | exact Rg.nat (by first | exact Nat.le_of_ble_eq_true rfl | omega | (simp only [List.length_map, List.length_range, List.length_append, List.length_cons, List.length_nil, List.length_reverse, enu_length]; omega)) | exact Rg.one (by first | exact Nat.le_of_ble_eq_true rfl | omega | (simp only [List.length_map, List.length_range, List.length_append, List.length_cons, List.length_nil, List.length_reverse, enu_length]; omega)) (by first | exact Nat.le_of_ble_eq_true rfl | omega | (simp only [List.length_map, List.length_range, List.length_append, List.length_cons, List.length_nil, List.length_reverse, enu_length]; omega)) | exact Rg.two (by first | exact Nat.le_of_ble_eq_true rfl | omega | (simp only [List.length_map, List.length_range, List.length_append, List.length_cons, List.length_nil, List.length_reverse, enu_length]; omega)) (by first | exact Nat.le_of_ble_eq_true rfl | omega | (simp only [List.length_map, List.length_range, List.length_append, List.length_cons, List.length_nil, List.length_reverse, enu_length]; omega)) (by first | exact Nat.le_of_ble_eq_true rfl | omega | (simp only [List.length_map, List.length_range, List.length_append, List.length_cons, List.length_nil, List.length_reverse, enu_length]; omega)) (by first | exact Nat.le_of_ble_eq_true rfl | omega | (simp only [List.length_map, List.length_range, List.length_append, List.length_cons, List.length_nil, List.length_reverse, enu_length]; omega)) | exact ⟨rfl⟩ | exact rfl) | (show Bn ..; first | exact Bn.addL (by first | exact Nat.le_of_ble_eq_true rfl | omega | (simp only [List.length_map, List.length_range, List.length_append, List.length_cons, List.length_nil, List.length_reverse, enu_length]; omega)) | exact Bn.addT (by first | exact Nat.le_of_ble_eq_true rfl | omega | (simp only [List.length_map, List.length_range, List.length_append, List.length_cons, List.length_nil, List.length_reverse, enu_length]; omega)) | exact Bn.mul (by first | decide | omega) | exact Bn.fdiv (by first | decide | omega) | exact Bn.mod (by first | decide | omega) | exact ⟨rfl⟩ | exact rfl | exact Bn.add (by first | exact Nat.le_of_ble_eq_true rfl | omega | (simp only [List.length_map, List.length_range, List.length_append, List.length_cons, List.length_nil, List.length_reverse, enu_length]; omega)) | exact Bn.addTT (by first | exact Nat.le_of_ble_eq_true rfl | omega | (simp only [List.length_map, List.length_range, List.length_append, List.length_cons, List.length_nil, List.length_reverse, enu_length]; omega))) | (show Isi ..; first | exact Isi.row rfl | exact Isi.row2 rfl | exact Isi.int rfl | exact Isi.bool rfl | exact Isi.str rfl | exact Isi.tup rfl | exact Isi.lst rfl | exact ⟨rfl⟩ | exact rfl) | exact ⟨rfl⟩ | exact rfl)
section
variable {α β : Type} [BEq α] [LawfulBEq α] [BEq β] [LawfulBEq β]
theorem dup_snoc (xs : List α) (x : α) : (xs ++ [x]).eraseDups = if x ∈ xs then xs.eraseDups else xs.eraseDups ++ [x] := by
  rw [List.eraseDups_append]
  by_cases h : x ∈ xs
  · rw [if_pos h, show [x].removeAll xs = [] by simp [List.removeAll, h]]
    simp
  · rw [if_neg h, show [x].removeAll xs = [x] by simp [List.removeAll, h], List.eraseDups_cons]
    simp
theorem snoc_ind {P : List α → Prop} (h0 : P []) (hs : ∀ xs x, P xs → P (xs ++ [x])) : ∀ xs, P xs := by
  intro xs
  rw [← List.reverse_reverse xs]
  induction xs.reverse with
  | nil => exact h0
  | cons x xs ih =>
    rw [List.reverse_cons]
    exact hs _ _ ih
theorem dup_len (xs : List α) : xs.eraseDups.length ≤ xs.length := by
  induction xs using snoc_ind with
  | h0 => exact Nat.le_refl _
  | hs xs x ih =>
    rw [dup_snoc, List.length_append, List.length_singleton]
    split
    · omega
    · rw [List.length_append, List.length_singleton]
      omega
theorem dup_filter (p : α → Bool) (xs : List α) : xs.eraseDups.filter p = (xs.filter p).eraseDups := by
  induction xs using snoc_ind with
  | h0 => rfl
  | hs xs x ih =>
    rw [dup_snoc, List.filter_append]
    by_cases hp : p x = true
    · rw [List.filter_cons_of_pos hp, List.filter_nil, dup_snoc]
      by_cases h : x ∈ xs
      · rw [if_pos h, if_pos (List.mem_filter.mpr ⟨h, hp⟩), ih]
      · rw [if_neg h, if_neg (fun q => h (List.mem_filter.mp q).1), List.filter_append, ih, List.filter_cons_of_pos hp, List.filter_nil]
    · rw [List.filter_cons_of_neg hp, List.filter_nil, List.append_nil]
      by_cases h : x ∈ xs
      · rw [if_pos h, ih]
      · rw [if_neg h, List.filter_append, ih, List.filter_cons_of_neg hp, List.filter_nil, List.append_nil]
theorem dup_map {f : α → β} (inj : ∀ x y, f x = f y → x = y) (xs : List α) : (xs.map f).eraseDups = xs.eraseDups.map f := by
  induction xs using snoc_ind with
  | h0 => rfl
  | hs xs x ih =>
    rw [List.map_append, List.map_singleton, dup_snoc, dup_snoc, ih]
    have m : f x ∈ xs.map f ↔ x ∈ xs := by
      rw [List.mem_map]
      exact ⟨fun ⟨y, hy, e⟩ => inj _ _ e ▸ hy, fun h => ⟨x, h, rfl⟩⟩
    by_cases h : x ∈ xs
    · rw [if_pos h, if_pos (m.mpr h)]
    · rw [if_neg h, if_neg fun q => h (m.mp q), List.map_append, List.map_singleton]
end
def nkO (xs : List (List Nat)) : D := .dic (xs.eraseDups.map fun x => .inr (tx x)) (xs.eraseDups.map fun _ => .bl true)
theorem put_tx (ks : List (List Nat)) (x : List Nat) : dicPut (ks.map fun x => (.inr (tx x) : Key)) (ks.map fun _ => D.bl true) (.inr (tx x)) (.bl true) = if x ∈ ks then (ks.map fun x => .inr (tx x), ks.map fun _ => .bl true) else ((ks ++ [x]).map fun x => .inr (tx x), (ks ++ [x]).map fun _ => .bl true) := by
  have e : ((ks.map fun x => (.inr (tx x) : Key)).any fun q => decide (q = .inr (tx x))) = decide (x ∈ ks) := by
    rw [List.any_map, Bool.eq_iff_iff, List.any_eq_true, decide_eq_true_iff]
    constructor
    · rintro ⟨y, hy, e⟩
      have e : (Sum.inr (tx y) : Key) = .inr (tx x) := of_decide_eq_true e
      rw [← tx_inj.mp (Sum.inr.inj e)]
      exact hy
    · exact fun h => ⟨x, h, decide_eq_true rfl⟩
  unfold dicPut
  rw [e]
  by_cases h : x ∈ ks
  · rw [if_pos (decide_eq_true h), if_pos h]
    congr 1
    have g : ∀ ks : List (List Nat), List.zipWith (fun (q : Key) (e : D) => if q = .inr (tx x) then D.bl true else e) (ks.map fun x => .inr (tx x)) (ks.map fun _ => D.bl true) = ks.map fun _ => .bl true := by
      intro ks
      induction ks with
      | nil => rfl
      | cons k ks ih =>
        rw [List.map_cons, List.map_cons, List.zipWith_cons_cons, ih]
        congr 1
        exact ite_self _
    exact g ks
  · rw [if_neg (by simp [h]), if_neg h, List.map_append, List.map_append, List.map_singleton, List.map_singleton]
theorem Pu.nk {xs : List (List Nat)} {x : List Nat} (few : xs.length < 100000) : Pu (nkO xs) (.str (tx x)) (.bl true) (nkO (xs ++ [x])) := by
  have z := Pu.dic (ks := xs.eraseDups.map fun x => (.inr (tx x) : Key)) (ds := xs.eraseDups.map fun _ => D.bl true) (k := .str (tx x)) (q := .inr (tx x)) (v := .bl true) rfl (by
    rw [List.length_map]
    exact Nat.lt_of_le_of_lt (dup_len xs) few)
  rw [put_tx] at z
  unfold nkO
  rw [dup_snoc]
  by_cases h : x ∈ xs
  · rw [if_pos h]
    rw [if_pos (List.mem_eraseDups.mpr h)] at z
    exact z
  · rw [if_neg h]
    rw [if_neg fun q => h (List.mem_eraseDups.mp q)] at z
    exact z
theorem Dk1.nk {xs : List (List Nat)} (few : xs.length ≤ 100000) : Dk1 (.dcz (xs.eraseDups.map fun x => .inr (tx x)) (xs.eraseDups.map fun _ => .bl true)) (xs.eraseDups.map fun x => .str (tx x)) := ⟨by
  have hb := big
  have := dup_len xs
  show (if (xs.eraseDups.map fun x => (.inr (tx x) : Key)).length ≤ sizeLine then some ((xs.eraseDups.map fun x => (.inr (tx x) : Key)).map kD) else none) = _
  rw [if_pos (by rw [List.length_map]; omega), List.map_map]
  rfl⟩
theorem W.lck6 {C : Calls} {env env1 : Env} {st : Store} {ss : Ss} {P : Out Fl → Prop} {i : Nat} {ks : List Key} {ds : List D} (hi : Ow env i (.dic ks ds)) (s : St env i (.val (.dcz ks ds)) env1) (t : W C ss env1 st P) : W C (.cons (.lck i) ss) env st P := by
  obtain ⟨rfl⟩ := s
  refine W.one (⟨?_⟩ : R1 C (.lck i) env st (.ok (.nx (env.set i (.val (.dcz ks ds)))) st)) t
  show (match env[i]? with
    | some (.own (.dic ks ds)) => Out.ok (Fl.nx (env.set i (.val (.dcz ks ds)))) st
    | some (.own (.dtt false ks ds)) => .ok (.nx (env.set i (.val (.dtt true ks ds)))) st
    | _ => Out.bad) = _
  rw [hi.h]
def nrs (l : List Nat) (k : Nat) : List (List Nat) := (List.range k).flatMap fun p => sgL.map (put l p)
def nears (l : List Nat) : List (List Nat) := nrs l 9 ++ (List.range 8).map (swp l)
theorem nrs_succ (l : List Nat) (k : Nat) : nrs l (k + 1) = nrs l k ++ sgL.map (put l k) := by
  unfold nrs
  rw [List.range_succ, List.flatMap_append, List.flatMap_singleton]
theorem nrs_len (l : List Nat) (k : Nat) : (nrs l k).length = 11 * k := by
  induction k with
  | zero => rfl
  | succ k ih =>
    rw [nrs_succ, List.length_append, ih, List.length_map]
    show 11 * k + 11 = _
    omega
theorem nears_len (l : List Nat) : (nears l).length = 107 := by
  unfold nears
  rw [List.length_append, nrs_len, List.length_map, List.length_range]
theorem nrs_mem {l : List Nat} {k : Nat} {x : List Nat} : x ∈ nrs l k ↔ ∃ p < k, ∃ c ∈ sgL, x = put l p c := by
  unfold nrs
  rw [List.mem_flatMap]
  constructor
  · rintro ⟨p, hp, h⟩
    obtain ⟨c, hc, rfl⟩ := List.mem_map.mp h
    exact ⟨p, List.mem_range.mp hp, c, hc, rfl⟩
  · rintro ⟨p, hp, c, hc, rfl⟩
    exact ⟨p, List.mem_range.mpr hp, List.mem_map.mpr ⟨c, hc, rfl⟩⟩
theorem swp_len {l : List Nat} {p : Nat} (h : l.length = 9) (hp : p < 8) : (swp l p).length = 9 := by
  unfold swp
  simp
  omega
theorem near_len {l : List Nat} (h : l.length = 9) : ∀ x ∈ nears l, x.length = 9 := by
  intro x hx
  rcases List.mem_append.mp hx with hx | hx
  · obtain ⟨p, hp, c, _, rfl⟩ := nrs_mem.mp hx
    rw [pu_len (by omega), h]
  · obtain ⟨p, hp, rfl⟩ := List.mem_map.mp hx
    exact swp_len h (List.mem_range.mp hp)
def ptk (l x : List Nat) : Bool := tkB x && !decide (x = l)
def nearL (l : List Nat) : List (List Nat) := (nears l).eraseDups.filter (ptk l)
def nearD (l : List Nat) : D := .tup ((sortS ((nearL l).map tx)).map .str)
/-- beside a ticket stands none -/
theorem near_tk {l : List Nat} (h : tkB l = true) : nearL l = [] := by
  have hl : l.length = 9 := by
    unfold tkB at h
    exact of_decide_eq_true (Bool.and_eq_true_iff.mp h).1
  unfold nearL
  rw [List.filter_eq_nil_iff]
  intro x hx q
  unfold ptk at q
  rw [Bool.and_eq_true_iff, Bool.not_eq_true', decide_eq_false_iff_not] at q
  obtain ⟨t, ne⟩ := q
  apply ne
  have hx := List.mem_eraseDups.mp hx
  rcases List.mem_append.mp hx with hx | hx
  · obtain ⟨p, hp, c, _, rfl⟩ := nrs_mem.mp hx
    rw [pu_set (by omega)] at t ⊢
    have e : l.set p (l[p]'(by omega)) = l := List.set_getElem_self _
    have := one_fault hl hp t (y := l[p]'(by omega)) (by rw [e]; exact h)
    rw [this, e]
  · obtain ⟨p, hp, rfl⟩ := List.mem_map.mp hx
    exact swap_fault (List.mem_range.mp hp) h t
section
variable {n : Nat} {st : Store} {l : List Nat} {p : Nat}
theorem s_up (h : l.length = 9) (hp : p ≤ 9) : Sld (.str (tx l)) none (some (p : Nat)) (.str (tx (l.take p))) := Sld.txU (by omega) (by omega)
theorem s_fr1 (h : l.length = 9) (hp : p < 9) : Sld (.str (tx l)) (some ((p : Nat) + 1)) none (.str (tx (l.drop (p + 1)))) := Sld.txF (k := p + 1) (by omega) (by omega)
theorem s_fr2 (h : l.length = 9) (hp : p < 8) : Sld (.str (tx l)) (some ((p : Nat) + 2)) none (.str (tx (l.drop (p + 2)))) := Sld.txF (k := p + 2) (by omega) (by omega)
theorem b_up (h : l.length = 9) {c : Nat} : Bn .Add (.str (tx (l.take p))) (.str (tx [c])) (.str (tx (l.take p ++ [c]))) := Bn.tx (by rw [List.length_take, List.length_singleton]; omega)
theorem b_put (h : l.length = 9) {c : Nat} : Bn .Add (.str (tx (l.take p ++ [c]))) (.str (tx (l.drop (p + 1)))) (.str (tx (put l p c))) := Bn.tx (by rw [List.length_append, List.length_take, List.length_drop, List.length_singleton]; omega)
theorem b_sw1 (h : l.length = 9) {c d : Nat} : Bn .Add (.str (tx (l.take p ++ [d]))) (.str (tx [c])) (.str (tx (l.take p ++ [d] ++ [c]))) := Bn.tx (by rw [List.length_append, List.length_take, List.length_singleton, List.length_singleton]; omega)
theorem sw_eq (h : l.length = 9) (hp : p < 8) {c d : Nat} (hc : l[p]? = some c) (hd : l[p + 1]? = some d) : l.take p ++ [d] ++ [c] ++ l.drop (p + 2) = swp l p := by
  obtain ⟨h1, e1⟩ := List.getElem?_eq_some_iff.mp hc
  obtain ⟨h2, e2⟩ := List.getElem?_eq_some_iff.mp hd
  unfold swp
  rw [List.drop_eq_getElem_cons h1, List.drop_eq_getElem_cons h2, e1, e2]
  rfl
theorem b_sw2 (h : l.length = 9) (hp : p < 8) {c d : Nat} (hc : l[p]? = some c) (hd : l[p + 1]? = some d) : Bn .Add (.str (tx (l.take p ++ [d] ++ [c]))) (.str (tx (l.drop (p + 2)))) (.str (tx (swp l p))) := by
  rw [← sw_eq h hp hc hd]
  exact Bn.tx (by rw [List.length_append, List.length_append, List.length_take, List.length_drop, List.length_singleton, List.length_singleton]; omega)
theorem i_at0 (h : l.length = 9) {c : Nat} (hc : l[p]? = some c) : Ixx (.str (tx l)) (.int (p : Nat)) (.str (tx [c])) := Ixx.tx hc (by omega)
theorem i_at1 (h : l.length = 9) {c : Nat} (hc : l[p + 1]? = some c) : Ixx (.str (tx l)) (.int ((p : Nat) + 1)) (.str (tx [c])) := Ixx.tx (k := p + 1) hc (by omega)
theorem near_ca (h : l.length = 9) : Ca (callN tab (n + 3)) 5 [.str (tx l)] st (.ok (nearD l) st) := by
  have tk : ∀ {x : List Nat}, x ∈ (nears l).eraseDups → Ca (callN tab (n + 2)) 2 [.str (tx x)] st (.ok (.bl (tkB x)) st) := fun {x} hx => istk_ca (by rw [near_len h x (List.mem_eraseDups.mp hx)]; omega)
  apply Ca.w (show tab[5]? = some ⟨1, 5, ir5, none⟩ from rfl) rfl
  unfold ir5
  apply W.own (d := nkO []) (st1 := st)
  · repeat' (first | decreasing_trivial_pre_omega)
  · rfl
  · repeat' (first | decreasing_trivial_pre_omega)
  apply W.forE (α := Nat) (enc := fun k => .int (k : Nat)) (xs := List.range 9) (fun e0 q en s => s = st ∧ ∃ s2 s3, en = ((e0.set 1 (.own (nkO (nrs l q.length)))).set 2 s2).set 3 s3) .nil
  · repeat' (first | decreasing_trivial_pre_omega)
  · exact ⟨rfl, .no, .no, rfl⟩
  · rintro q x q2 en s hp' ⟨rfl, s2, s3, rfl⟩
    obtain ⟨rfl, hp⟩ := range_at hp'
    apply Wt.nz
    · repeat' (first | decreasing_trivial_pre_omega)
    apply Wt.mk'
    · repeat' (first | decreasing_trivial_pre_omega)
    apply W.forE (α := Nat) (enc := fun c => .str (tx [c])) (xs := sgL) (fun e0 pre en s' => s' = s ∧ ∃ s3, en = (e0.set 1 (.own (nkO (nrs l q.length ++ pre.map (put l q.length))))).set 3 s3) .nil
    · repeat' (first | apply sg_plus | apply sg_itm | decreasing_trivial_pre_omega)
    · exact ⟨rfl, s3, by rw [List.map_nil, List.append_nil]; rfl⟩
    · rintro pre c post en s' hq ⟨rfl, s3, rfl⟩
      have lp : pre.length ≤ 11 := by
        have := congrArg List.length hq
        rw [List.length_append] at this
        have z : sgL.length = 11 := rfl
        omega
      have pu := Pu.nk (xs := nrs l q.length ++ pre.map (put l q.length)) (x := put l q.length c) (by
        rw [List.length_append, nrs_len, List.length_map]
        omega)
      apply Wt.nz
      · repeat' (first | decreasing_trivial_pre_omega)
      apply Wt.mk'
      · repeat' (first | decreasing_trivial_pre_omega)
      apply W.setI .nil
      · repeat' (first | decreasing_trivial_pre_omega)
      · repeat' (first | decreasing_trivial_pre_omega)
      · repeat' (first | apply s_up h (Nat.le_of_lt hp) | apply s_fr1 h hp | apply b_up h | apply b_put h | decreasing_trivial_pre_omega)
      · exact pu
      · repeat' (first | decreasing_trivial_pre_omega)
      exact W.nil (.nx ⟨rfl, _, by rw [List.map_append, List.map_singleton, List.append_assoc]; rfl⟩)
    · rintro en s' ⟨rfl, s3, rfl⟩
      apply W.nz
      · repeat' (first | decreasing_trivial_pre_omega)
      exact W.nil (.nx ⟨rfl, _, _, by rw [List.length_append, List.length_singleton, nrs_succ]; rfl⟩)
  · rintro en s ⟨rfl, s2, s3, rfl⟩
    rw [List.length_range]
    apply W.nz
    · repeat' (first | decreasing_trivial_pre_omega)
    apply W.forE (α := Nat) (enc := fun k => .int (k : Nat)) (xs := List.range 8) (fun e0 q en s' => s' = s ∧ ∃ s2, en = (e0.set 1 (.own (nkO (nrs l 9 ++ q.map (swp l))))).set 2 s2) .nil
    · repeat' (first | decreasing_trivial_pre_omega)
    · exact ⟨rfl, s2, by rw [List.map_nil, List.append_nil]; rfl⟩
    · rintro q x q2 en s' hp' ⟨rfl, s2, rfl⟩
      have hx := range_at hp'
      obtain ⟨hx, hp⟩ := hx
      obtain ⟨c, hc⟩ : ∃ c, l[x]? = some c := ⟨_, List.getElem?_eq_getElem (by omega)⟩
      obtain ⟨d, hd⟩ : ∃ c, l[x + 1]? = some c := ⟨_, List.getElem?_eq_getElem (by omega)⟩
      have pu := Pu.nk (xs := nrs l 9 ++ q.map (swp l)) (x := swp l x) (by
        rw [List.length_append, nrs_len, List.length_map]
        omega)
      apply Wt.nz
      · repeat' (first | decreasing_trivial_pre_omega)
      apply Wt.mk'
      · repeat' (first | decreasing_trivial_pre_omega)
      apply W.setI .nil
      · repeat' (first | decreasing_trivial_pre_omega)
      · repeat' (first | decreasing_trivial_pre_omega)
      · repeat' (first | apply s_up h (show x ≤ 9 by omega) | apply s_fr2 h hp | apply b_up h | apply b_sw1 h | apply b_sw2 h hp hc hd | apply i_at0 h hc | apply i_at1 h hd | decreasing_trivial_pre_omega)
      · exact pu
      · repeat' (first | decreasing_trivial_pre_omega)
      exact W.nil (.nx ⟨rfl, _, by rw [List.map_append, List.map_singleton, List.append_assoc]; rfl⟩)
    · rintro en s' ⟨rfl, s2, rfl⟩
      apply W.nz
      · repeat' (first | decreasing_trivial_pre_omega)
      apply W.lck6
      · exact .tl .hd
      · repeat' (first | decreasing_trivial_pre_omega)
      have so := sort_T ((nearL l).map tx)
      rw [List.map_map] at so
      apply W.ret .nil (d := nearD l) (st1 := s')
      · apply Vl.bi
        · apply Vbs.cons
          · apply Vb.of ⟨rfl⟩
            apply Vl.bi
            · apply Vbs.cons
              · apply Vb.of ⟨rfl⟩
                apply Vl.ft (xs := (nears l).eraseDups) (enc := fun x => .str (tx x)) (p := ptk l) (f := fun x => .str (tx x))
                · apply Vit.dk
                  · repeat' (first | decreasing_trivial_pre_omega)
                  · exact Dk1.nk (xs := nears l) (by rw [nears_len]; omega)
                · repeat' (first | decreasing_trivial_pre_omega)
                · repeat' (first | decreasing_trivial_pre_omega)
                · intro x hx
                  apply Vt.to
                  · repeat' (first | apply tk hx | apply Cm.txN | decreasing_trivial_pre_omega)
                  · rfl
                · repeat' (first | decreasing_trivial_pre_omega)
              · repeat' (first | decreasing_trivial_pre_omega)
            · exact so
          · repeat' (first | decreasing_trivial_pre_omega)
        · exact ⟨rfl⟩
      · rfl
end
end Eng
set_option Elab.async false
set_option linter.all false
set_option maxRecDepth 100000
set_option maxHeartbeats 4000000
namespace Eng
open PySem PySem.Spec L2
local macro_rules | `(tactic| decreasing_trivial_pre_omega) => `(tactic| first | intro _ | (show Vl ..; first | exact Vl.cst | exact Vl.var rfl | exact Vl.gl | exact Vl.fn | apply Vl.mp | apply Vl.ft | apply Vl.dnew | apply Vl.dvl | apply Vl.dil | apply Vl.dcp | apply Vl.rpr | apply Vl.dget | apply Vl.call | apply Vl.attr | apply Vl.bin | apply Vl.cmp | apply Vl.ix | apply Vl.bi | apply Vl.meth | apply Vl.tup | apply Vl.lst | apply Vl.sl | apply Vl.neg | apply Vl.not | apply Vl.cmp2 | apply Vl.and | apply Vl.or | apply Vl.isi | apply Vl.isc | apply Vl.callv rfl | apply Vl.eqoT | apply Vl.eqoF | exact Vl.xf rfl (by decide +kernel) rfl | apply Vl.ssc | apply Vl.sset | apply Vl.lset | exact ⟨rfl⟩ | exact rfl | apply Vl.ifeI | apply Vl.ife) | (show Vb ..; first | exact Vb.var rfl | apply Vb.of ⟨rfl⟩ | exact ⟨rfl⟩ | exact rfl) | (show St ..; first | exact St.z | apply St.s | exact ⟨rfl⟩ | exact rfl) | (show Fz ..; first | exact Fz.nil | apply Fz.cons | exact ⟨rfl⟩ | exact rfl) | (show Fm ..; first | exact Fm.val | exact Fm.no | exact Fm.lst | exact Fm.dic | exact Fm.ins | apply Fm.s | exact ⟨rfl⟩ | exact rfl) | (show Wp ..; first | exact Wp.nil | apply Wp.cons | exact ⟨rfl⟩ | exact rfl) | (show Bg ..; first | apply Bg.v | apply Bg.t | exact ⟨rfl⟩ | exact rfl) | (show Bgs ..; first | exact Bgs.nil | apply Bgs.cons | exact ⟨rfl⟩ | exact rfl) | (show Ow ..; first | exact Ow.hd | apply Ow.tl | exact ⟨rfl⟩ | exact rfl) | (show Gs ..; first | exact Gs.z | apply Gs.s | exact ⟨rfl⟩ | exact rfl) | (show Nz ..; first | apply Nz.set | exact Nz.re | exact ⟨rfl⟩ | exact rfl) | (show Vps ..; first | exact Vps.nil | apply Vps.cons | exact ⟨rfl⟩ | exact rfl) | (show Sp ..; first | exact Sp.nil | apply Sp.val | apply Sp.own rfl | exact ⟨rfl⟩ | exact rfl) | (show Vit ..; first | apply Vit.dk | apply Vit.dv | apply Vit.di | apply Vit.rgc | apply Vit.seq | apply Vit.rng | apply Vit.enum | apply Vit.zip | exact ⟨rfl⟩ | exact rfl) | (show Viv ..; first | apply Viv.rgc | apply Viv.seq | apply Viv.rng | apply Viv.enum | exact ⟨rfl⟩ | exact rfl) | (show Kd ..; first | exact Kd.s | exact Kd.i | exact ⟨rfl⟩ | exact rfl) | (show Dk1 ..; first | exact Dk1.s (by first | exact Nat.le_of_ble_eq_true rfl | omega | (simp only [List.length_map, List.length_range, List.length_append, List.length_cons, List.length_nil, List.length_reverse, enu_length]; omega)) | exact ⟨rfl⟩ | exact rfl) | (show Dv1 ..; first | exact Dv1.s (by first | exact Nat.le_of_ble_eq_true rfl | omega | (simp only [List.length_map, List.length_range, List.length_append, List.length_cons, List.length_nil, List.length_reverse, enu_length]; omega)) | exact ⟨rfl⟩ | exact rfl) | (show Di1 ..; first | exact Di1.s (by first | exact Nat.le_of_ble_eq_true rfl | omega | (simp only [List.length_map, List.length_range, List.length_append, List.length_cons, List.length_nil, List.length_reverse, enu_length]; omega)) | exact ⟨rfl⟩ | exact rfl) | (show Dg ..; first | exact Dg.dz | exact ⟨rfl⟩ | exact rfl) | (show Cm ..; first | exact Cm.inZ | exact Cm.ninZ | exact Cm.inST | exact Cm.ninST | exact Cm.eqI | exact Cm.neI | exact Cm.eqS | exact Cm.neS | exact Cm.eqB | exact Cm.neB | exact Cm.nil | exact Cm.nnil | exact Cm.inI | exact Cm.ninI | exact Cm.inS | exact Cm.ninS | exact ⟨rfl⟩ | exact rfl) | (show Bi ..; first | exact Bi.listZ | exact Bi.len | exact Bi.lenT | exact Bi.sum | exact Bi.all | exact Bi.any | exact Bi.sortI | exact Bi.sortP | exact ⟨rfl⟩ | exact rfl) | (show Rp1 ..; first | exact Rp1.non | exact Rp1.tt | exact ⟨rfl⟩ | exact rfl) | (show Pf ..; first | exact Pf.nil | exact Pf.hit | apply Pf.skip (by decide) | exact ⟨rfl⟩ | exact rfl) | (show Sf ..; first | apply Sf.ins rfl | exact ⟨rfl⟩ | exact rfl) | (show Vls ..; first | exact Vls.nil | apply Vls.cons | exact ⟨rfl⟩ | exact rfl) | (show Vbs ..; first | exact Vbs.nil | apply Vbs.cons | exact ⟨rfl⟩ | exact rfl) | (show Vop ..; first | exact Vop.no | apply Vop.so | exact ⟨rfl⟩ | exact rfl) | (show Van ..; first | apply Van.one | apply Van.cons | exact ⟨rfl⟩ | exact rfl) | (show Vor ..; first | apply Vor.one | apply Vor.cons | exact ⟨rfl⟩ | exact rfl) | (show Vta ..; first | apply Vta.one | apply Vta.cons | exact ⟨rfl⟩ | exact rfl) | (show Vto ..; first | apply Vto.one | apply Vto.cons | exact ⟨rfl⟩ | exact rfl) | (show Vt ..; first | apply Vt.not | apply Vt.and | apply Vt.or | apply Vt.of rfl | exact ⟨rfl⟩ | exact rfl) | (show Fits ..; first | exact Fits.of (by first | exact Nat.le_of_ble_eq_true rfl | omega | (simp only [List.length_map, List.length_range, List.length_append, List.length_cons, List.length_nil, List.length_reverse, enu_length]; omega)) | exact ⟨rfl⟩ | exact rfl) | (show Rg ..; first | exact Rg.nat (by first | exact Nat.le_of_ble_eq_true rfl | omega | (simp only [List.length_map, List.length_range, List.length_append, List.length_cons, List.length_nil, List.length_reverse, enu_length]; omega)) | exact Rg.one (by first | exact Nat.le_of_ble_eq_true rfl | omega | (simp only [List.length_map, List.length_range, List.length_append, List.length_cons, List.length_nil, List.length_reverse, enu_length]; omega)) (by first | exact Nat.le_of_ble_eq_true rfl | omega | (simp only [List.length_map, List.length_range, List.length_append, List.length_cons, List.length_nil, List.length_reverse, enu_length]; omega)) | exact Rg.two (by first | exact Nat.le_of_ble_eq_true rfl | omega | (simp only [List.length_map, List.length_range, List.length_append, List.length_cons, List.length_nil, List.length_reverse, enu_length]; omega)) (by first | exact Nat.le_of_ble_eq_true rfl | omega | (simp only [List.length_map, List.length_range, List.length_append, List.length_cons, List.length_nil, List.length_reverse, enu_length]; omega)) (by first | exact Nat.le_of_ble_eq_true rfl | omega | (simp only [List.length_map, List.length_range, List.length_append, List.length_cons, List.length_nil, List.length_reverse, enu_length]; omega)) (by first | exact Nat.le_of_ble_eq_true rfl | omega | (simp only [List.length_map, List.length_range, List.length_append, List.length_cons, List.length_nil, List.length_reverse, enu_length]; omega)) | exact ⟨rfl⟩ | exact rfl) | (show Bn ..; first | exact Bn.addL (by first | exact Nat.le_of_ble_eq_true rfl | omega | (simp only [List.length_map, List.length_range, List.length_append, List.length_cons, List.length_nil, List.length_reverse, enu_length]; omega)) | exact Bn.addT (by first | exact Nat.le_of_ble_eq_true rfl | omega | (simp only [List.length_map, List.length_range, List.length_append, List.length_cons, List.length_nil, List.length_reverse, enu_length]; omega)) | exact Bn.mul (by first | decide | omega) | exact Bn.fdiv (by first | decide | omega) | exact Bn.mod (by first | decide | omega) | exact ⟨rfl⟩ | exact rfl | exact Bn.add (by first | exact Nat.le_of_ble_eq_true rfl | omega | (simp only [List.length_map, List.length_range, List.length_append, List.length_cons, List.length_nil, List.length_reverse, enu_length]; omega)) | exact Bn.addTT (by first | exact Nat.le_of_ble_eq_true rfl | omega | (simp only [List.length_map, List.length_range, List.length_append, List.length_cons, List.length_nil, List.length_reverse, enu_length]; omega))) | (show Isi ..; first | exact Isi.row rfl | exact Isi.row2 rfl | exact Isi.int rfl | exact Isi.bool rfl | exact Isi.str rfl | exact Isi.tup rfl | exact Isi.lst rfl | exact ⟨rfl⟩ | exact rfl) | exact ⟨rfl⟩ | exact rfl)
def tk5 : Ss := (.cons (.asg [] (.v 4) (.me "join" (.c (.str "")) (.cons (.lc (.call 7 (.cons (.var 1) (.cons (.c (.str "0123456789")) .nil))) (.v 16) (.rng (.cons (.call 6 (.cons (.var 1) (.cons (.c (.int 12)) .nil))) .nil)) .no [16]) .nil))) (.cons (.ifs (.cmp .NotEq (.call 0 (.cons (.var 4) .nil)) (.call 9 (.cons (.var 4) .nil))) (.cons (.ret [] (.c (.bl false))) .nil) .nil) (.cons (.asg [] (.t (.cons (.v 5) (.cons (.v 6) .nil))) (.tup (.cons (.call 6 (.cons (.var 1) (.cons (.c (.int 9)) .nil))) (.cons (.call 7 (.cons (.var 1) (.cons (.c (.str "0123456789x")) .nil))) .nil)))) (.cons (.asg [] (.v 7) (.bin .Add (.bin .Add (.sl (.var 3) .no (.so (.var 5))) (.var 6)) (.sl (.var 3) (.so (.bin .Add (.var 5) (.c (.int 1)))) .no))) (.cons (.ifs (.cmp .NotEq (.call 2 (.cons (.var 7) .nil)) (.cmp .Eq (.var 7) (.var 3))) (.cons (.ret [] (.c (.bl false))) .nil) .nil) (.cons (.asg [] (.v 5) (.call 6 (.cons (.var 1) (.cons (.c (.int 8)) .nil)))) (.cons (.asg [] (.v 8) (.bin .Add (.bin .Add (.bin .Add (.sl (.var 3) .no (.so (.var 5))) (.ix (.var 3) (.bin .Add (.var 5) (.c (.int 1))))) (.ix (.var 3) (.var 5))) (.sl (.var 3) (.so (.bin .Add (.var 5) (.c (.int 2)))) .no))) (.cons (.ifs (.or (.cons (.cmp .NotEq (.call 2 (.cons (.var 8) .nil)) (.cmp .Eq (.var 8) (.var 3))) (.cons (.and (.cons (.cmp .IsNot (.call 3 (.cons (.var 8) .nil)) (.c .non)) (.cons (.cmp .NotEq (.var 8) (.var 3)) .nil))) .nil))) (.cons (.ret [] (.c (.bl false))) .nil) .nil) (.cons (.asg [] (.v 5) (.call 6 (.cons (.var 1) (.cons (.c (.int 9)) .nil)))) (.cons (.ifs (.cmp .NotEq (.call 4 (.cons (.bin .Add (.bin .Add (.sl (.var 3) .no (.so (.var 5))) (.c (.str "?"))) (.sl (.var 3) (.so (.bin .Add (.var 5) (.c (.int 1)))) .no)) .nil)) (.var 3)) (.cons (.ret [] (.c (.bl false))) .nil) .nil) (.cons (.asg [] (.v 9) (.bin .Add (.me "join" (.c (.str "")) (.cons (.lc (.call 7 (.cons (.var 1) (.cons (.c (.str "0123456789")) .nil))) (.v 16) (.rng (.cons (.c (.int 8)) .nil)) .no [16]) .nil)) (.call 7 (.cons (.var 1) (.cons (.c (.str "0123456789x")) .nil))))) (.cons (.asg [] (.v 10) (.bin .Add (.bin .Add (.sl (.var 9) .no (.so (.var 5))) (.c (.str "?"))) (.sl (.var 9) (.so (.bin .Add (.var 5) (.c (.int 1)))) .no))) (.cons (.asg [] (.v 11) (.lc (.bin .Add (.bin .Add (.sl (.var 9) .no (.so (.var 5))) (.var 15)) (.sl (.var 9) (.so (.bin .Add (.var 5) (.c (.int 1)))) .no)) (.v 15) (.seq (.c (.str "0123456789x"))) (.so (.call 10 (.cons (.bin .Add (.bin .Add (.sl (.var 9) .no (.so (.var 5))) (.var 15)) (.sl (.var 9) (.so (.bin .Add (.var 5) (.c (.int 1)))) .no)) .nil))) [15])) (.cons (.ifs (.or (.cons (.cmp .NotEq (.call 4 (.cons (.var 10) .nil)) (.ix (.bin .Add (.var 11) (.lst (.cons (.c .non) .nil))) (.c (.int 0)))) (.cons (.cmp .Gt (.bi "len" (.cons (.var 11) .nil)) (.c (.int 1))) .nil))) (.cons (.ret [] (.c (.bl false))) .nil) .nil) (.cons (.asg [] (.v 12) (.lst .nil)) (.cons (.for_ [] (.v 13) (.rng (.cons (.c (.int 9)) .nil)) (.cons (.asg [] (.v 12) (.bin .Add (.var 12) (.lc (.bin .Add (.bin .Add (.sl (.var 9) .no (.so (.var 13))) (.var 15)) (.sl (.var 9) (.so (.bin .Add (.var 13) (.c (.int 1)))) .no)) (.v 15) (.seq (.c (.str "0123456789x"))) .no [15]))) .nil)) (.cons (.asg [] (.v 12) (.bin .Add (.var 12) (.lc (.bin .Add (.bin .Add (.bin .Add (.sl (.var 9) .no (.so (.var 13))) (.ix (.var 9) (.bin .Add (.var 13) (.c (.int 1))))) (.ix (.var 9) (.var 13))) (.sl (.var 9) (.so (.bin .Add (.var 13) (.c (.int 2)))) .no)) (.v 13) (.rng (.cons (.c (.int 8)) .nil)) .no [13]))) (.cons (.ifs (.not (.call 8 (.cons (.call 5 (.cons (.var 9) .nil)) (.cons (.bi "tuple" (.cons (.sst (.lc (.var 15) (.v 15) (.seq (.var 12)) (.so (.and (.cons (.cmp .NotEq (.var 15) (.var 9)) (.cons (.call 10 (.cons (.var 15) .nil)) .nil)))) [15])) .nil)) .nil)))) (.cons (.ret [] (.c (.bl false))) .nil) .nil) (.cons (.ifs (.cmp .NotEq (.call 5 (.cons (.var 3) .nil)) (.tup .nil)) (.cons (.ret [] (.c (.bl false))) .nil) .nil) (.cons (.for_ [] (.v 14) (.seq (.lst (.cons (.c .non) (.cons (.c (.int 5)) (.cons (.c (.str "")) (.cons (.bin .Add (.var 3) (.c (.str "0"))) (.cons (.sl (.var 3) .no (.so (.c (.int 8)))) (.cons (.bin .Add (.c (.str " ")) (.sl (.var 3) (.so (.c (.int 1))) .no)) (.cons (.bin .Add (.sl (.var 3) .no (.so (.c (.int 8)))) (.c (.str "X"))) (.cons (.bin .Add (.c (.str "x")) (.sl (.var 3) (.so (.c (.int 1))) .no)) (.cons (.bin .Mult (.lst (.cons (.c (.str "0")) .nil)) (.c (.int 9))) (.cons (.c (.bl true)) .nil)))))))))))) (.cons (.ifs (.or (.cons (.cmp .IsNot (.call 2 (.cons (.var 14) .nil)) (.c (.bl false))) (.cons (.cmp .IsNot (.call 3 (.cons (.var 14) .nil)) (.c .non)) .nil))) (.cons (.ret [] (.c (.bl false))) .nil) .nil) .nil)) (.cons (.ret [] (.c (.bl true))) .nil)))))))))))))))))))))
def tk10 : Ss := (.cons (.asg [] (.v 5) (.call 6 (.cons (.var 1) (.cons (.c (.int 8)) .nil)))) (.cons (.asg [] (.v 8) (.bin .Add (.bin .Add (.bin .Add (.sl (.var 3) .no (.so (.var 5))) (.ix (.var 3) (.bin .Add (.var 5) (.c (.int 1))))) (.ix (.var 3) (.var 5))) (.sl (.var 3) (.so (.bin .Add (.var 5) (.c (.int 2)))) .no))) (.cons (.ifs (.or (.cons (.cmp .NotEq (.call 2 (.cons (.var 8) .nil)) (.cmp .Eq (.var 8) (.var 3))) (.cons (.and (.cons (.cmp .IsNot (.call 3 (.cons (.var 8) .nil)) (.c .non)) (.cons (.cmp .NotEq (.var 8) (.var 3)) .nil))) .nil))) (.cons (.ret [] (.c (.bl false))) .nil) .nil) (.cons (.asg [] (.v 5) (.call 6 (.cons (.var 1) (.cons (.c (.int 9)) .nil)))) (.cons (.ifs (.cmp .NotEq (.call 4 (.cons (.bin .Add (.bin .Add (.sl (.var 3) .no (.so (.var 5))) (.c (.str "?"))) (.sl (.var 3) (.so (.bin .Add (.var 5) (.c (.int 1)))) .no)) .nil)) (.var 3)) (.cons (.ret [] (.c (.bl false))) .nil) .nil) (.cons (.asg [] (.v 9) (.bin .Add (.me "join" (.c (.str "")) (.cons (.lc (.call 7 (.cons (.var 1) (.cons (.c (.str "0123456789")) .nil))) (.v 16) (.rng (.cons (.c (.int 8)) .nil)) .no [16]) .nil)) (.call 7 (.cons (.var 1) (.cons (.c (.str "0123456789x")) .nil))))) (.cons (.asg [] (.v 10) (.bin .Add (.bin .Add (.sl (.var 9) .no (.so (.var 5))) (.c (.str "?"))) (.sl (.var 9) (.so (.bin .Add (.var 5) (.c (.int 1)))) .no))) (.cons (.asg [] (.v 11) (.lc (.bin .Add (.bin .Add (.sl (.var 9) .no (.so (.var 5))) (.var 15)) (.sl (.var 9) (.so (.bin .Add (.var 5) (.c (.int 1)))) .no)) (.v 15) (.seq (.c (.str "0123456789x"))) (.so (.call 10 (.cons (.bin .Add (.bin .Add (.sl (.var 9) .no (.so (.var 5))) (.var 15)) (.sl (.var 9) (.so (.bin .Add (.var 5) (.c (.int 1)))) .no)) .nil))) [15])) (.cons (.ifs (.or (.cons (.cmp .NotEq (.call 4 (.cons (.var 10) .nil)) (.ix (.bin .Add (.var 11) (.lst (.cons (.c .non) .nil))) (.c (.int 0)))) (.cons (.cmp .Gt (.bi "len" (.cons (.var 11) .nil)) (.c (.int 1))) .nil))) (.cons (.ret [] (.c (.bl false))) .nil) .nil) (.cons (.asg [] (.v 12) (.lst .nil)) (.cons (.for_ [] (.v 13) (.rng (.cons (.c (.int 9)) .nil)) (.cons (.asg [] (.v 12) (.bin .Add (.var 12) (.lc (.bin .Add (.bin .Add (.sl (.var 9) .no (.so (.var 13))) (.var 15)) (.sl (.var 9) (.so (.bin .Add (.var 13) (.c (.int 1)))) .no)) (.v 15) (.seq (.c (.str "0123456789x"))) .no [15]))) .nil)) (.cons (.asg [] (.v 12) (.bin .Add (.var 12) (.lc (.bin .Add (.bin .Add (.bin .Add (.sl (.var 9) .no (.so (.var 13))) (.ix (.var 9) (.bin .Add (.var 13) (.c (.int 1))))) (.ix (.var 9) (.var 13))) (.sl (.var 9) (.so (.bin .Add (.var 13) (.c (.int 2)))) .no)) (.v 13) (.rng (.cons (.c (.int 8)) .nil)) .no [13]))) (.cons (.ifs (.not (.call 8 (.cons (.call 5 (.cons (.var 9) .nil)) (.cons (.bi "tuple" (.cons (.sst (.lc (.var 15) (.v 15) (.seq (.var 12)) (.so (.and (.cons (.cmp .NotEq (.var 15) (.var 9)) (.cons (.call 10 (.cons (.var 15) .nil)) .nil)))) [15])) .nil)) .nil)))) (.cons (.ret [] (.c (.bl false))) .nil) .nil) (.cons (.ifs (.cmp .NotEq (.call 5 (.cons (.var 3) .nil)) (.tup .nil)) (.cons (.ret [] (.c (.bl false))) .nil) .nil) (.cons (.for_ [] (.v 14) (.seq (.lst (.cons (.c .non) (.cons (.c (.int 5)) (.cons (.c (.str "")) (.cons (.bin .Add (.var 3) (.c (.str "0"))) (.cons (.sl (.var 3) .no (.so (.c (.int 8)))) (.cons (.bin .Add (.c (.str " ")) (.sl (.var 3) (.so (.c (.int 1))) .no)) (.cons (.bin .Add (.sl (.var 3) .no (.so (.c (.int 8)))) (.c (.str "X"))) (.cons (.bin .Add (.c (.str "x")) (.sl (.var 3) (.so (.c (.int 1))) .no)) (.cons (.bin .Mult (.lst (.cons (.c (.str "0")) .nil)) (.c (.int 9))) (.cons (.c (.bl true)) .nil)))))))))))) (.cons (.ifs (.or (.cons (.cmp .IsNot (.call 2 (.cons (.var 14) .nil)) (.c (.bl false))) (.cons (.cmp .IsNot (.call 3 (.cons (.var 14) .nil)) (.c .non)) .nil))) (.cons (.ret [] (.c (.bl false))) .nil) .nil) .nil)) (.cons (.ret [] (.c (.bl true))) .nil))))))))))))))))
def tk15 : Ss := (.cons (.asg [] (.v 9) (.bin .Add (.me "join" (.c (.str "")) (.cons (.lc (.call 7 (.cons (.var 1) (.cons (.c (.str "0123456789")) .nil))) (.v 16) (.rng (.cons (.c (.int 8)) .nil)) .no [16]) .nil)) (.call 7 (.cons (.var 1) (.cons (.c (.str "0123456789x")) .nil))))) (.cons (.asg [] (.v 10) (.bin .Add (.bin .Add (.sl (.var 9) .no (.so (.var 5))) (.c (.str "?"))) (.sl (.var 9) (.so (.bin .Add (.var 5) (.c (.int 1)))) .no))) (.cons (.asg [] (.v 11) (.lc (.bin .Add (.bin .Add (.sl (.var 9) .no (.so (.var 5))) (.var 15)) (.sl (.var 9) (.so (.bin .Add (.var 5) (.c (.int 1)))) .no)) (.v 15) (.seq (.c (.str "0123456789x"))) (.so (.call 10 (.cons (.bin .Add (.bin .Add (.sl (.var 9) .no (.so (.var 5))) (.var 15)) (.sl (.var 9) (.so (.bin .Add (.var 5) (.c (.int 1)))) .no)) .nil))) [15])) (.cons (.ifs (.or (.cons (.cmp .NotEq (.call 4 (.cons (.var 10) .nil)) (.ix (.bin .Add (.var 11) (.lst (.cons (.c .non) .nil))) (.c (.int 0)))) (.cons (.cmp .Gt (.bi "len" (.cons (.var 11) .nil)) (.c (.int 1))) .nil))) (.cons (.ret [] (.c (.bl false))) .nil) .nil) (.cons (.asg [] (.v 12) (.lst .nil)) (.cons (.for_ [] (.v 13) (.rng (.cons (.c (.int 9)) .nil)) (.cons (.asg [] (.v 12) (.bin .Add (.var 12) (.lc (.bin .Add (.bin .Add (.sl (.var 9) .no (.so (.var 13))) (.var 15)) (.sl (.var 9) (.so (.bin .Add (.var 13) (.c (.int 1)))) .no)) (.v 15) (.seq (.c (.str "0123456789x"))) .no [15]))) .nil)) (.cons (.asg [] (.v 12) (.bin .Add (.var 12) (.lc (.bin .Add (.bin .Add (.bin .Add (.sl (.var 9) .no (.so (.var 13))) (.ix (.var 9) (.bin .Add (.var 13) (.c (.int 1))))) (.ix (.var 9) (.var 13))) (.sl (.var 9) (.so (.bin .Add (.var 13) (.c (.int 2)))) .no)) (.v 13) (.rng (.cons (.c (.int 8)) .nil)) .no [13]))) (.cons (.ifs (.not (.call 8 (.cons (.call 5 (.cons (.var 9) .nil)) (.cons (.bi "tuple" (.cons (.sst (.lc (.var 15) (.v 15) (.seq (.var 12)) (.so (.and (.cons (.cmp .NotEq (.var 15) (.var 9)) (.cons (.call 10 (.cons (.var 15) .nil)) .nil)))) [15])) .nil)) .nil)))) (.cons (.ret [] (.c (.bl false))) .nil) .nil) (.cons (.ifs (.cmp .NotEq (.call 5 (.cons (.var 3) .nil)) (.tup .nil)) (.cons (.ret [] (.c (.bl false))) .nil) .nil) (.cons (.for_ [] (.v 14) (.seq (.lst (.cons (.c .non) (.cons (.c (.int 5)) (.cons (.c (.str "")) (.cons (.bin .Add (.var 3) (.c (.str "0"))) (.cons (.sl (.var 3) .no (.so (.c (.int 8)))) (.cons (.bin .Add (.c (.str " ")) (.sl (.var 3) (.so (.c (.int 1))) .no)) (.cons (.bin .Add (.sl (.var 3) .no (.so (.c (.int 8)))) (.c (.str "X"))) (.cons (.bin .Add (.c (.str "x")) (.sl (.var 3) (.so (.c (.int 1))) .no)) (.cons (.bin .Mult (.lst (.cons (.c (.str "0")) .nil)) (.c (.int 9))) (.cons (.c (.bl true)) .nil)))))))))))) (.cons (.ifs (.or (.cons (.cmp .IsNot (.call 2 (.cons (.var 14) .nil)) (.c (.bl false))) (.cons (.cmp .IsNot (.call 3 (.cons (.var 14) .nil)) (.c .non)) .nil))) (.cons (.ret [] (.c (.bl false))) .nil) .nil) .nil)) (.cons (.ret [] (.c (.bl true))) .nil)))))))))))
def tk19 : Ss := (.cons (.asg [] (.v 12) (.lst .nil)) (.cons (.for_ [] (.v 13) (.rng (.cons (.c (.int 9)) .nil)) (.cons (.asg [] (.v 12) (.bin .Add (.var 12) (.lc (.bin .Add (.bin .Add (.sl (.var 9) .no (.so (.var 13))) (.var 15)) (.sl (.var 9) (.so (.bin .Add (.var 13) (.c (.int 1)))) .no)) (.v 15) (.seq (.c (.str "0123456789x"))) .no [15]))) .nil)) (.cons (.asg [] (.v 12) (.bin .Add (.var 12) (.lc (.bin .Add (.bin .Add (.bin .Add (.sl (.var 9) .no (.so (.var 13))) (.ix (.var 9) (.bin .Add (.var 13) (.c (.int 1))))) (.ix (.var 9) (.var 13))) (.sl (.var 9) (.so (.bin .Add (.var 13) (.c (.int 2)))) .no)) (.v 13) (.rng (.cons (.c (.int 8)) .nil)) .no [13]))) (.cons (.ifs (.not (.call 8 (.cons (.call 5 (.cons (.var 9) .nil)) (.cons (.bi "tuple" (.cons (.sst (.lc (.var 15) (.v 15) (.seq (.var 12)) (.so (.and (.cons (.cmp .NotEq (.var 15) (.var 9)) (.cons (.call 10 (.cons (.var 15) .nil)) .nil)))) [15])) .nil)) .nil)))) (.cons (.ret [] (.c (.bl false))) .nil) .nil) (.cons (.ifs (.cmp .NotEq (.call 5 (.cons (.var 3) .nil)) (.tup .nil)) (.cons (.ret [] (.c (.bl false))) .nil) .nil) (.cons (.for_ [] (.v 14) (.seq (.lst (.cons (.c .non) (.cons (.c (.int 5)) (.cons (.c (.str "")) (.cons (.bin .Add (.var 3) (.c (.str "0"))) (.cons (.sl (.var 3) .no (.so (.c (.int 8)))) (.cons (.bin .Add (.c (.str " ")) (.sl (.var 3) (.so (.c (.int 1))) .no)) (.cons (.bin .Add (.sl (.var 3) .no (.so (.c (.int 8)))) (.c (.str "X"))) (.cons (.bin .Add (.c (.str "x")) (.sl (.var 3) (.so (.c (.int 1))) .no)) (.cons (.bin .Mult (.lst (.cons (.c (.str "0")) .nil)) (.c (.int 9))) (.cons (.c (.bl true)) .nil)))))))))))) (.cons (.ifs (.or (.cons (.cmp .IsNot (.call 2 (.cons (.var 14) .nil)) (.c (.bl false))) (.cons (.cmp .IsNot (.call 3 (.cons (.var 14) .nil)) (.c .non)) .nil))) (.cons (.ret [] (.c (.bl false))) .nil) .nil) .nil)) (.cons (.ret [] (.c (.bl true))) .nil)))))))
theorem ltT : Lta tab 6 7 8 := ⟨rfl, rfl, rfl⟩
theorem em_lit : ("" : Str) = tx [] := by kernel_rfl
theorem sg_itm2 : Itm (.str "0123456789x") (sgL.map fun c => .str (tx [c])) := by
  rw [sg_lit]
  exact Itm.tx (by decide)
theorem join_tx (cs : List Nat) : Txt.join "" (cs.map fun c => tx [c]) = tx cs := by
  show Builtin.Str.glued "" _ = _
  rw [StrLaws.glued_eq_join, em_lit]
  induction cs with
  | nil => rfl
  | cons c cs ih =>
    cases cs with
    | nil => rfl
    | cons d r =>
      show tx [c] ++ tx [] ++ PySem.Str.join (tx []) ((d :: r).map fun c => tx [c]) = _
      rw [ih, tx_app, tx_app]
      rfl
section
variable {n : Nat} {st st1 : Store} {ns : Fx} {l : List Nat} {p : Nat}
theorem pickS (h : Dr ns st) (ne : 0 < l.length) (few : l.length ≤ 1000) : ∃ c st', c ∈ l ∧ Dr ns st' ∧ Ca (callN tab (n + 2)) 7 [.obj oi, .str (tx l)] st (.ok (.str (tx [c])) st') := by
  obtain ⟨v, s1, lv, h1, e1⟩ := ltT.tk h n l.length ne (by omega)
  obtain ⟨c, hc⟩ : ∃ c, l[v]? = some c := ⟨_, List.getElem?_eq_getElem lv⟩
  have len : Bi "len" [.str (tx l)] (.int (l.length : Nat)) := Bi.lenX (by omega)
  have ix : Ixx (.str (tx l)) (.int (v : Nat)) (.str (tx [c])) := Ixx.tx hc (by omega)
  refine ⟨c, s1, List.mem_of_getElem? hc, h1, ?_⟩
  apply Ca.w (show tab[7]? = some ⟨2, 2, ir7, none⟩ from rfl) rfl
  unfold ir7
  apply W.ret .nil
  · repeat' (first | apply len | apply e1 | apply ix | decreasing_trivial_pre_omega)
  · rfl
theorem all2_cs {α : Type} {xs : List α} {ys : List D} (h : All2 (fun _ y => ∃ c, isF c = true ∧ y = .str (tx [c])) xs ys) : ∃ cs : List Nat, cs.length = xs.length ∧ cs.all isF = true ∧ ys = cs.map fun c => .str (tx [c]) := by
  induction h with
  | nil => exact ⟨[], rfl, rfl, rfl⟩
  | cons r _ ih =>
    obtain ⟨c, hc, rfl⟩ := r
    obtain ⟨cs, h1, h2, rfl⟩ := ih
    exact ⟨c :: cs, by rw [List.length_cons, List.length_cons, h1], by rw [List.all_cons, hc, h2]; rfl, rfl⟩
theorem We.jn {env env0 : Env} {it : It} {k : Nat} {Q : D → Store → Prop} (few : k ≤ 1000) (hit : Vit (callN tab 9) env it st (.ok ((List.range k).map fun (k : Nat) => D.int (k : Nat)) st1)) (h : Dr ns st1) (w : Wp env [16] env0)
    (b : ∀ d, ∃ en, St env0 16 (.val d) en ∧ getV en 1 = some (.obj oi)) (t : ∀ cs s, Dr ns s → cs.length = k → cs.all isF = true → Q (.str (tx cs)) s) :
    We (callN tab 9) env (.me "join" (.c (.str "")) (.cons (.lc (.call 7 (.cons (.var 1) (.cons (.c (.str "0123456789")) .nil))) (.v 16) it .no [16]) .nil)) st Q := by
  have z : Wbs (callN tab 9) env (.cons (.lc (.call 7 (.cons (.var 1) (.cons (.c (.str "0123456789")) .nil))) (.v 16) it .no [16]) .nil) st fun ds s => ∃ z, meD "join" (.str "") ds = some z ∧ Q z s := by
    apply Wbs.cons
    apply Wb.ev ⟨rfl⟩
    apply We.lcI (α := Nat) (enc := fun k => .int (k : Nat)) (xs := List.range k) (Dr ns) (fun _ y => ∃ c, isF c = true ∧ y = .str (tx [c])) w hit h
    · intro x _ s hs
      obtain ⟨en, b1, g⟩ := b (.int (x : Nat))
      refine ⟨en, .v b1, ?_⟩
      obtain ⟨c, s2, hc, h2, e⟩ := pickS (n := 7) hs (l := fgL) (by decide) (by decide)
      rw [← fg_lit] at e
      apply We.of
      · apply Vl.call
        · apply Vls.cons
          · exact Vl.var g
          · repeat' (first | decreasing_trivial_pre_omega)
        · exact e
      · exact ⟨h2, c, fg_mem.mp hc, rfl⟩
    · intro ys s hs a
      obtain ⟨cs, h1, h2, rfl⟩ := all2_cs a
      rw [List.length_range] at h1
      apply Wbs.nil
      refine ⟨.str (tx cs), ?_, t cs s hs h1 h2⟩
      have hb := big
      have g : ∀ cs : List Nat, strsD (cs.map fun c => .str (tx [c])) = some (cs.map fun c => tx [c]) := by
        intro cs
        induction cs with
        | nil => rfl
        | cons c cs ih =>
          show (strsD (cs.map fun c => .str (tx [c]))).map (tx [c] :: ·) = _
          rw [ih]
          rfl
      show (strsD (cs.map fun c => D.str (tx [c]))).bind (fun ys => if (ys.map (·.length)).sum + ys.length * ("" : Str).length ≤ 16777216 then some (D.str (Txt.join "" ys)) else none) = _
      have sm : ∀ cs : List Nat, ((cs.map fun c => tx [c]).map (·.length)).sum = cs.length := by
        intro cs
        induction cs with
        | nil => rfl
        | cons c cs ih =>
          rw [List.map_cons, List.map_cons, List.sum_cons, ih, List.length_cons, show (tx [c]).length = 1 by rw [tx_len]; rfl]
          omega
      rw [g, Option.bind_some, if_pos, join_tx]
      rw [sm, em_lit, tx_len, List.length_nil, Nat.mul_zero]
      omega
  refine ⟨?_⟩
  obtain ⟨ds, s, e, y, hy, q⟩ := z
  refine ⟨y, s, ?_, q⟩
  show chkO (isMe "join" (.str "")) ((evBs (callN tab 9) env _ st).bnd fun ds st => ofO (meD "join" (.str "") ds) st) = _
  rw [show isMe "join" (.str "") = true from rfl, chkO_true, e, Out.bnd_ok, hy]
  rfl
theorem tk_len {x : List Nat} (h : x.length ≠ 9) : tkB x = false := by
  unfold tkB
  rw [decide_eq_false h]
  rfl
theorem tk9 {x : List Nat} (h : tkB x = true) : x.length = 9 := by
  unfold tkB at h
  exact of_decide_eq_true (Bool.and_eq_true_iff.mp h).1
theorem tk_put (h : tkB l = true) (hp : p < 9) (c : Nat) : tkB (put l p c) = decide (put l p c = l) := by
  have hl := tk9 h
  rw [Bool.eq_iff_iff, decide_eq_true_iff]
  constructor
  · intro t
    rw [pu_set (by omega)] at t ⊢
    have e : l.set p (l[p]'(by omega)) = l := List.set_getElem_self _
    have := one_fault hl hp t (y := l[p]'(by omega)) (by rw [e]; exact h)
    rw [this, e]
  · intro e
    rw [e]
    exact h
theorem tk_swp (h : tkB l = true) (hp : p < 8) : tkB (swp l p) = decide (swp l p = l) := by
  rw [Bool.eq_iff_iff, decide_eq_true_iff]
  exact ⟨fun t => swap_fault hp h t, fun e => by rw [e]; exact h⟩
theorem isS63 : isS 63 = false := by decide
theorem tk_no63 (h : tkB l = true) : 63 ∉ l := by
  obtain ⟨a, b, c, d, e, f, g, h', i, rfl⟩ := nine_cases (tk9 h)
  obtain ⟨⟨fa, fb, fc, fd, fe, ff, fg, fh⟩, hs, _⟩ := tk_iff.mp h
  intro m
  have no : ∀ x, isS x = true → (63 : Nat) ≠ x := fun x hx e => by
    subst e
    rw [isS63] at hx
    cases hx
  simp only [List.mem_cons, List.not_mem_nil, or_false] at m
  rcases m with m | m | m | m | m | m | m | m | m
  · exact no _ (isF_sgn fa) m
  · exact no _ (isF_sgn fb) m
  · exact no _ (isF_sgn fc) m
  · exact no _ (isF_sgn fd) m
  · exact no _ (isF_sgn fe) m
  · exact no _ (isF_sgn ff) m
  · exact no _ (isF_sgn fg) m
  · exact no _ (isF_sgn fh) m
  · exact no _ hs m
theorem fit_tk (h : tkB l = true) (hp : p < 9) : fitD l p = .str (tx l) := by
  have hl := tk9 h
  have fl := fits_le hl hp
  have m : l ∈ fits l p := by
    refine List.mem_filter.mpr ⟨?_, h⟩
    have e : put l p (l[p]'(by omega)) = l := by
      rw [pu_set (by omega)]
      exact List.set_getElem_self _
    have s : isS (l[p]'(by omega)) = true := by
      obtain ⟨a, b, c, d, e, f, g, h', i, rfl⟩ := nine_cases hl
      obtain ⟨⟨fa, fb, fc, fd, fe, ff, fg, fh⟩, hs, _⟩ := tk_iff.mp h
      rcases lt9 hp with rfl | rfl | rfl | rfl | rfl | rfl | rfl | rfl | rfl
      · exact isF_sgn fa
      · exact isF_sgn fb
      · exact isF_sgn fc
      · exact isF_sgn fd
      · exact isF_sgn fe
      · exact isF_sgn ff
      · exact isF_sgn fg
      · exact isF_sgn fh
      · exact hs
    exact List.mem_map.mpr ⟨_, sg_mem.mpr s, e⟩
  unfold fitD
  generalize fits l p = f at m fl
  match f, m, fl with
  | [], m, _ => cases m
  | [x], m, _ =>
    rw [List.mem_singleton.mp m]
theorem numD_swp (h : tkB l = true) (hp : p < 8) : ∃ d, Ca (callN tab (n + 3)) 3 [.str (tx (swp l p))] st (.ok d st) ∧ Cm .IsNot d .non (decide (swp l p = l)) := by
  have e := numof_ca (n := n) (st := st) (l := swp l p) (by rw [swp_len (tk9 h) hp]; omega)
  rw [tk_swp h hp] at e
  refine ⟨_, e, ?_⟩
  by_cases q : swp l p = l
  · rw [decide_eq_true q, if_pos rfl]
    exact ⟨rfl⟩
  · rw [decide_eq_false q, if_neg (by decide)]
    exact ⟨rfl⟩
def vals (l : List Nat) : List D := [.non, .int 5, .str "", .str (tx (l ++ [48])), .str (tx (l.take 8)), .str (tx ([32] ++ l.drop 1)), .str (tx (l.take 8 ++ [88])), .str (tx ([120] ++ l.drop 1)), .lst (List.replicate 9 (.str "0")), .bl true]
theorem vals_no (h : l.length = 9) : ∀ d ∈ vals l, Ca (callN tab 9) 2 [d] st (.ok (.bl false) st) ∧ Ca (callN tab 9) 3 [d] st (.ok .non st) := by
  have no : ∀ {d : D}, plainD d = true → tyS d = false → Ca (callN tab 9) 2 [d] st (.ok (.bl false) st) ∧ Ca (callN tab 9) 3 [d] st (.ok .non st) := fun p t => ⟨istk_no (n := 8) p t, numof_no (n := 7) p t⟩
  have st' : ∀ {x : List Nat}, x.length ≤ 1000 → tkB x = false → Ca (callN tab 9) 2 [.str (tx x)] st (.ok (.bl false) st) ∧ Ca (callN tab 9) 3 [.str (tx x)] st (.ok .non st) := fun {x} f t => by
    have e := istk_ca (n := 7) (st := st) f
    have g := numof_ca (n := 6) (st := st) f
    rw [t] at e g
    exact ⟨e, g⟩
  obtain ⟨a, b, c, d, e, f, g, h', i, rfl⟩ := nine_cases h
  intro x hx
  simp only [vals, List.mem_cons, List.not_mem_nil, or_false] at hx
  rcases hx with rfl | rfl | rfl | rfl | rfl | rfl | rfl | rfl | rfl | rfl
  · exact no rfl rfl
  · exact no rfl rfl
  · rw [em_lit]
    exact st' (by decide) rfl
  · exact st' (by simp) (tk_len (by simp))
  · exact st' (by simp) (tk_len (by simp))
  · refine st' (by simp) (Bool.eq_false_iff.mpr fun q => ?_)
    have : isF 32 = true := (tk_iff.mp q).1.1
    exact absurd this (by decide)
  · refine st' (by simp) (Bool.eq_false_iff.mpr fun q => ?_)
    have : isS 88 = true := (tk_iff.mp q).2.1
    exact absurd this (by decide)
  · refine st' (by simp) (Bool.eq_false_iff.mpr fun q => ?_)
    have : isF 120 = true := (tk_iff.mp q).1.1
    exact absurd this (by decide)
  · exact no rfl rfl
  · exact no rfl rfl
theorem tk19_w {dr : List Nat} (hl : tkB l = true) (d9 : dr.length = 9) {d0 : D} {s2 s4 s5 s6 s7 s8 s10 s11 : Sl} :
    W (callN tab 9) tk19 [.val d0, .val (.obj oi), s2, .val (.str (tx l)), s4, s5, s6, s7, s8, .val (.str (tx dr)), s10, s11, .no, .no, .no, .no, .no] st Good := by
  have l9 := tk9 hl
  have e5 := near_ca (n := 6) (st := st) d9
  have e5' := near_ca (n := 6) (st := st) l9
  have nl : nearD l = .tup [] := by
    unfold nearD
    rw [near_tk hl]
    simp [sortS]
  rw [nl] at e5'
  have e10 : ∀ {x : List Nat}, x ∈ nears dr → Ca (callN tab 9) 10 [.str (tx x)] st (.ok (.bl (tkB x)) st) := fun {x} hx => lawtk_ca (n := 7) (by rw [near_len d9 x hx]; omega)
  have ak : alk 2 (nearD dr) = true := by
    unfold nearD
    show ((List.map D.str _).all (alk 1) && decide _) = true
    rw [Bool.and_eq_true_iff]
    refine ⟨?_, decide_eq_true ?_⟩
    · rw [List.all_map, List.all_eq_true]
      exact fun _ _ => rfl
    · rw [List.length_map]
      unfold sortS nearL
      rw [(List.mergeSort_perm _ _).length_eq, List.length_map]
      have h1 := List.length_filter_le (ptk dr) (nears dr).eraseDups
      have h2 := dup_len (nears dr)
      rw [nears_len] at h2
      omega
  have e8 : Ca (callN tab 9) 8 [nearD dr, nearD dr] st (.ok (.bl true) st) := ltT.alk (n := 6) (k := 2) ak
  unfold tk19
  apply W.asg .nil
  · repeat' (first | decreasing_trivial_pre_omega)
  · repeat' (first | decreasing_trivial_pre_omega)
  apply W.forE (α := Nat) (enc := fun k => .int (k : Nat)) (xs := List.range 9) (fun e0 q en s => s = st ∧ ∃ s13 s15, en = ((e0.set 12 (.val (.lst ((nrs dr q.length).map fun x => .str (tx x))))).set 13 s13).set 15 s15) .nil
  · repeat' (first | decreasing_trivial_pre_omega)
  · exact ⟨rfl, .no, .no, rfl⟩
  · rintro q x q2 en s hp' ⟨rfl, s13, s15, rfl⟩
    obtain ⟨rfl, hp⟩ := range_at hp'
    have ad : Bn .Add (.lst ((nrs dr q.length).map fun x => .str (tx x))) (.lst (sgL.map fun c => .str (tx (put dr q.length c)))) (.lst ((nrs dr (q.length + 1)).map fun x => .str (tx x))) := by
      have z := Bn.addL (f := fun x => D.str (tx x)) (xs := nrs dr q.length) (ys := sgL.map (put dr q.length)) (by
        rw [nrs_len, List.length_map]
        have : sgL.length = 11 := rfl
        omega)
      rw [← nrs_succ, List.map_map] at z
      exact z
    apply Wt.nz
    · repeat' (first | decreasing_trivial_pre_omega)
    apply Wt.mk'
    · repeat' (first | decreasing_trivial_pre_omega)
    apply W.asg .nil (d := .lst ((nrs dr (q.length + 1)).map fun x => .str (tx x))) (st1 := s)
    · apply Vl.bin
      · repeat' (first | decreasing_trivial_pre_omega)
      · apply Vb.of ⟨rfl⟩
        apply Vl.mp (xs := sgL) (enc := fun c => .str (tx [c])) (f := fun c => .str (tx (put dr q.length c)))
        · repeat' (first | apply sg_itm2 | decreasing_trivial_pre_omega)
        · repeat' (first | decreasing_trivial_pre_omega)
        · repeat' (first | decreasing_trivial_pre_omega)
        · repeat' (first | apply s_up d9 (Nat.le_of_lt hp) | apply s_fr1 d9 hp | apply b_up d9 | apply b_put d9 | decreasing_trivial_pre_omega)
      · exact ad
    · repeat' (first | decreasing_trivial_pre_omega)
    exact W.nil (.nx ⟨rfl, _, _, by rw [List.length_append, List.length_singleton]; rfl⟩)
  · rintro en s ⟨rfl, s13, s15, rfl⟩
    rw [List.length_range]
    apply W.nz
    · repeat' (first | decreasing_trivial_pre_omega)
    have ad : Bn .Add (.lst ((nrs dr 9).map fun x => .str (tx x))) (.lst ((List.range 8).map fun k => .str (tx (swp dr k)))) (.lst ((nears dr).map fun x => .str (tx x))) := by
      have z := Bn.addL (f := fun x => D.str (tx x)) (xs := nrs dr 9) (ys := (List.range 8).map (swp dr)) (by
        rw [nrs_len, List.length_map, List.length_range]
        omega)
      rw [List.map_map] at z
      exact z
    apply W.asg .nil (d := .lst ((nears dr).map fun x => .str (tx x))) (st1 := s)
    · apply Vl.bin
      · repeat' (first | decreasing_trivial_pre_omega)
      · apply Vb.of ⟨rfl⟩
        apply Vl.mp (xs := List.range 8) (enc := fun (k : Nat) => .int (k : Nat)) (f := fun k => .str (tx (swp dr k)))
        · repeat' (first | decreasing_trivial_pre_omega)
        · repeat' (first | decreasing_trivial_pre_omega)
        · repeat' (first | decreasing_trivial_pre_omega)
        · intro x hx
          have hx := List.mem_range.mp hx
          obtain ⟨c, hc⟩ : ∃ c, dr[x]? = some c := ⟨_, List.getElem?_eq_getElem (by omega)⟩
          obtain ⟨d, hd⟩ : ∃ c, dr[x + 1]? = some c := ⟨_, List.getElem?_eq_getElem (by omega)⟩
          repeat' (first | apply s_up d9 (show x ≤ 9 by omega) | apply s_fr2 d9 hx | apply b_up d9 | apply b_sw1 d9 | apply b_sw2 d9 hx hc hd | apply i_at0 d9 hc | apply i_at1 d9 hd | decreasing_trivial_pre_omega)
      · exact ad
    · repeat' (first | decreasing_trivial_pre_omega)
    apply W.guard (p := !true)
    · apply Vt.not
      apply Vt.of rfl
      · apply Vl.call (ds := [nearD dr, nearD dr])
        · apply Vls.cons
          · repeat' (first | apply e5 | decreasing_trivial_pre_omega)
          apply Vls.cons
          · apply Vl.bi
            · apply Vbs.cons
              · apply Vb.of ⟨rfl⟩
                apply Vl.sstX (xs := ((nears dr).filter fun x => !decide (x = dr) && tkB x).map tx)
                · apply Vb.of ⟨rfl⟩
                  apply Vl.to
                  · apply Vl.ft (xs := nears dr) (enc := fun x => .str (tx x)) (p := fun x => !decide (x = dr) && tkB x) (f := fun x => .str (tx x))
                    · repeat' (first | decreasing_trivial_pre_omega)
                    · repeat' (first | decreasing_trivial_pre_omega)
                    · repeat' (first | decreasing_trivial_pre_omega)
                    · intro x hx
                      repeat' (first | apply e10 hx | apply Cm.txN | decreasing_trivial_pre_omega)
                    · repeat' (first | decreasing_trivial_pre_omega)
                  · rw [List.map_map]
                    rfl
                · rw [List.length_map]
                  have h1 := List.length_filter_le (fun x => !decide (x = dr) && tkB x) (nears dr)
                  rw [nears_len] at h1
                  omega
              · repeat' (first | decreasing_trivial_pre_omega)
            · refine ⟨?_⟩
              show (some (D.tup _)) = _
              unfold nearD nearL
              rw [dup_map (fun x y e => tx_inj.mp e), dup_filter]
              have pe : (fun x => !decide (x = dr) && tkB x) = ptk dr := by
                funext x
                unfold ptk
                exact Bool.and_comm _ _
              rw [pe]
          · repeat' (first | decreasing_trivial_pre_omega)
        · exact e8
      · exact ⟨rfl⟩
    · rfl
    apply W.guard
    · repeat' (first | apply e5' | decreasing_trivial_pre_omega)
    · rfl
    have sd : Sld (.str (tx l)) none (some 8) (.str (tx (l.take 8))) := s_up (p := 8) l9 (by omega)
    have sf : Sld (.str (tx l)) (some 1) none (.str (tx (l.drop 1))) := Sld.txF (k := 1) (by omega) (by omega)
    have a0 : Bn .Add (.str (tx l)) (.str "0") (.str (tx (l ++ [48]))) := by
      rw [show ("0" : Str) = tx [48] by kernel_rfl]
      exact Bn.tx (by rw [l9, List.length_singleton]; omega)
    have a1 : Bn .Add (.str " ") (.str (tx (l.drop 1))) (.str (tx ([32] ++ l.drop 1))) := by
      rw [show (" " : Str) = tx [32] by kernel_rfl]
      exact Bn.tx (by rw [List.length_drop, List.length_singleton]; omega)
    have a2 : Bn .Add (.str (tx (l.take 8))) (.str "X") (.str (tx (l.take 8 ++ [88]))) := by
      rw [show ("X" : Str) = tx [88] by kernel_rfl]
      exact Bn.tx (by rw [List.length_take, List.length_singleton]; omega)
    have a3 : Bn .Add (.str "x") (.str (tx (l.drop 1))) (.str (tx ([120] ++ l.drop 1))) := by
      rw [show ("x" : Str) = tx [120] by kernel_rfl]
      exact Bn.tx (by rw [List.length_drop, List.length_singleton]; omega)
    have a4 : Bn .Mult (.lst [.str "0"]) (.int 9) (.lst (List.replicate 9 (.str "0"))) := ⟨by
      have hb := big
      show (if -(2 ^ 63) ≤ (9 : Int) ∧ (9 : Int) < 2 ^ 63 ∧ [D.str "0"].length * (9 : Int).toNat ≤ sizeLine then some (D.lst (List.replicate (9 : Int).toNat [D.str "0"]).flatten) else none) = _
      rw [if_pos ⟨by omega, by omega, by show 1 * 9 ≤ sizeLine; omega⟩]
      rfl⟩
    apply W.forE (α := D) (enc := fun x => x) (xs := vals l) (fun e0 q en s' => s' = s ∧ ∃ s14, en = e0.set 14 s14) .nil
    · apply Viv.seq
      · repeat' (first | apply sd | apply sf | apply a0 | apply a1 | apply a2 | apply a3 | apply a4 | decreasing_trivial_pre_omega)
      · exact ⟨by rw [List.map_id']; rfl⟩
    · exact ⟨rfl, .no, rfl⟩
    · rintro q x q2 en s' hp' ⟨rfl, s14, rfl⟩
      obtain ⟨f1, f2⟩ := vals_no (st := s') l9 x (by rw [hp']; simp)
      apply Wt.nz
      · repeat' (first | decreasing_trivial_pre_omega)
      apply Wt.mk'
      · repeat' (first | decreasing_trivial_pre_omega)
      apply W.guard
      · repeat' (first | apply f1 | apply f2 | decreasing_trivial_pre_omega)
      · rfl
      exact W.nil (.nx ⟨rfl, _, rfl⟩)
    · rintro en s' ⟨rfl, s14, rfl⟩
      apply W.nz
      · repeat' (first | decreasing_trivial_pre_omega)
      apply W.ret .nil
      · repeat' (first | decreasing_trivial_pre_omega)
      · exact ⟨_, _, rfl, rfl⟩
theorem tk15_w (hl : tkB l = true) (hp : p < 9) (h : Dr ns st) {d0 : D} {s2 s4 s6 s7 s8 : Sl} :
    W (callN tab 9) tk15 [.val d0, .val (.obj oi), s2, .val (.str (tx l)), s4, .val (.int (p : Nat)), s6, s7, s8, .no, .no, .no, .no, .no, .no, .no, .no] st Good := by
  unfold tk15
  apply W.asgW .nil
  apply We.bin
  apply Wb.ev ⟨rfl⟩
  apply We.jn (k := 8) (st1 := st) (ns := ns) (by omega)
  · repeat' (first | decreasing_trivial_pre_omega)
  · exact h
  · repeat' (first | decreasing_trivial_pre_omega)
  · exact fun d => ⟨_, .s (.s (.s (.s (.s (.s (.s (.s (.s (.s (.s (.s (.s (.s (.s (.s .z))))))))))))))), rfl⟩
  · intro cs s h1 cl cf
    obtain ⟨c, s2, hc, h2, e⟩ := pickS (n := 7) h1 (l := sgL) (by decide) (by decide)
    rw [← sg_lit] at e
    have ad : Bn .Add (.str (tx cs)) (.str (tx [c])) (.str (tx (cs ++ [c]))) := Bn.tx (by rw [cl, List.length_singleton]; omega)
    have d9 : (cs ++ [c]).length = 9 := by rw [List.length_append, cl]; rfl
    have no : 63 ∉ cs ++ [c] := by
      intro m
      rcases List.mem_append.mp m with m | m
      · have := List.all_eq_true.mp cf _ m
        exact absurd this (by decide)
      · rw [← List.mem_singleton.mp m] at hc
        exact absurd hc (by decide)
    apply Wb.of
    · repeat' (first | apply e | decreasing_trivial_pre_omega)
    refine ⟨_, ad, ?_⟩
    generalize cs ++ [c] = dr at d9 no ⊢
    have e4 := restored_ca (n := 6) (st := s2) d9 hp fun m => no (List.mem_of_mem_take m)
    have e10 : ∀ {c : Nat}, Ca (callN tab 9) 10 [.str (tx (put dr p c))] s2 (.ok (.bl (tkB (put dr p c))) s2) := fun {c} => lawtk_ca (n := 7) (by rw [pu_len (by omega)]; omega)
    have q1 : ("?" : Str) = tx [63] := by kernel_rfl
    have bq : Bn .Add (.str (tx (dr.take p))) (.str "?") (.str (tx (dr.take p ++ [63]))) := by
      rw [q1]
      exact b_up d9
    apply Wt.mk'
    · repeat' (first | decreasing_trivial_pre_omega)
    apply W.asg .nil (d := .str (tx (put dr p 63))) (st1 := s2)
    · repeat' (first | apply s_up d9 (Nat.le_of_lt hp) | apply s_fr1 d9 hp | apply bq | apply b_put d9 | decreasing_trivial_pre_omega)
    · repeat' (first | decreasing_trivial_pre_omega)
    apply W.asg .nil (d := .lst ((fits dr p).map fun x => .str (tx x))) (st1 := s2)
    · apply Vl.to
      · apply Vl.ft (xs := sgL) (enc := fun c => .str (tx [c])) (p := fun c => tkB (put dr p c)) (f := fun c => .str (tx (put dr p c)))
        · repeat' (first | apply sg_itm2 | decreasing_trivial_pre_omega)
        · repeat' (first | decreasing_trivial_pre_omega)
        · repeat' (first | decreasing_trivial_pre_omega)
        · repeat' (first | apply s_up d9 (Nat.le_of_lt hp) | apply s_fr1 d9 hp | apply b_up d9 | apply b_put d9 | apply e10 | decreasing_trivial_pre_omega)
        · repeat' (first | apply s_up d9 (Nat.le_of_lt hp) | apply s_fr1 d9 hp | apply b_up d9 | apply b_put d9 | decreasing_trivial_pre_omega)
      · unfold fits
        rw [List.filter_map, List.map_map]
        rfl
    · repeat' (first | decreasing_trivial_pre_omega)
    have fl := fits_le d9 hp
    apply W.guard (p := false) (st1 := s2)
    · unfold fitD at e4
      generalize fits dr p = f at fl e4
      match f, fl, e4 with
      | [], _, e4 =>
        have ad : Bn .Add (.lst (([] : List (List Nat)).map fun x => .str (tx x))) (.lst [.non]) (.lst [.non]) := Bn.add (by show 0 + 1 ≤ _; omega)
        have ix : Ixx (.lst [.non]) (.int 0) .non := ⟨rfl⟩
        have ne : Cm .NotEq .non .non false := ⟨rfl⟩
        apply Vt.to
        · repeat' (first | apply e4 | apply ad | apply ix | apply ne | apply Cm.gtI | decreasing_trivial_pre_omega)
        · rfl
      | [x], _, e4 =>
        have ad : Bn .Add (.lst ([x].map fun x => .str (tx x))) (.lst [.non]) (.lst [.str (tx x), .non]) := Bn.add (by show 1 + 1 ≤ _; omega)
        have ix : Ixx (.lst [.str (tx x), .non]) (.int 0) (.str (tx x)) := ⟨rfl⟩
        apply Vt.to
        · repeat' (first | apply e4 | apply ad | apply ix | apply Cm.txN | apply Cm.gtI | decreasing_trivial_pre_omega)
        · rw [decide_eq_true rfl]
          rfl
    · rfl
    exact tk19_w hl d9
theorem tk10_w (hl : tkB l = true) (h : Dr ns st) {d0 : D} {s2 s4 s5 s6 s7 : Sl} :
    W (callN tab 9) tk10 [.val d0, .val (.obj oi), s2, .val (.str (tx l)), s4, s5, s6, s7, .no, .no, .no, .no, .no, .no, .no, .no, .no] st Good := by
  have l9 := tk9 hl
  obtain ⟨x, t1, lx, h1, e1⟩ := ltT.tk h 8 8 (by omega) (by omega)
  have e1 : Ca (callN tab 9) 6 [.obj oi, .int 8] st (.ok (.int (x : Nat)) t1) := e1
  obtain ⟨p, t2, lp, h2, e2⟩ := ltT.tk h1 8 9 (by omega) (by omega)
  have e2 : Ca (callN tab 9) 6 [.obj oi, .int 9] t1 (.ok (.int (p : Nat)) t2) := e2
  obtain ⟨c, hc⟩ : ∃ c, l[x]? = some c := ⟨_, List.getElem?_eq_getElem (by omega)⟩
  obtain ⟨d, hd⟩ : ∃ c, l[x + 1]? = some c := ⟨_, List.getElem?_eq_getElem (by omega)⟩
  have ek := istk_ca (n := 7) (st := t1) (l := swp l x) (by rw [swp_len l9 lx]; omega)
  rw [tk_swp hl lx] at ek
  obtain ⟨nd, en, em⟩ := numD_swp (n := 6) (st := t1) hl lx
  have e4 := restored_ca (n := 6) (st := t2) l9 lp fun m => tk_no63 hl (List.mem_of_mem_take m)
  rw [fit_tk hl lp] at e4
  have q1 : ("?" : Str) = tx [63] := by kernel_rfl
  have bq : Bn .Add (.str (tx (l.take p))) (.str "?") (.str (tx (l.take p ++ [63]))) := by
    rw [q1]
    exact b_up l9
  unfold tk10
  apply W.asg .nil
  · repeat' (first | apply e1 | decreasing_trivial_pre_omega)
  · repeat' (first | decreasing_trivial_pre_omega)
  apply W.asg .nil (d := .str (tx (swp l x))) (st1 := t1)
  · repeat' (first | apply s_up l9 (show x ≤ 9 by omega) | apply s_fr2 l9 lx | apply b_up l9 | apply b_sw1 l9 | apply b_sw2 l9 lx hc hd | apply i_at0 l9 hc | apply i_at1 l9 hd | decreasing_trivial_pre_omega)
  · repeat' (first | decreasing_trivial_pre_omega)
  apply W.guard
  · repeat' (first | apply ek | apply en | apply em | apply Cm.txE | apply Cm.txN | decreasing_trivial_pre_omega)
  · rw [decide_eq_true rfl]
    cases decide (swp l x = l) <;> rfl
  apply W.asg .nil
  · repeat' (first | apply e2 | decreasing_trivial_pre_omega)
  · repeat' (first | decreasing_trivial_pre_omega)
  apply W.guard
  · repeat' (first | apply s_up l9 (Nat.le_of_lt lp) | apply s_fr1 l9 lp | apply bq | apply b_put l9 | apply e4 | apply Cm.txN | decreasing_trivial_pre_omega)
  · rw [decide_eq_true rfl]
    rfl
  exact tk15_w hl lp h2
theorem tk5_w (hl : tkB l = true) (h : Dr ns st) {d0 : D} {s2 : Sl} :
    W (callN tab 9) tk5 [.val d0, .val (.obj oi), s2, .val (.str (tx l)), .no, .no, .no, .no, .no, .no, .no, .no, .no, .no, .no, .no, .no] st Good := by
  have l9 := tk9 hl
  obtain ⟨k, t0, lk, h0, e0⟩ := ltT.tk h 8 12 (by omega) (by omega)
  have e0 : Ca (callN tab 9) 6 [.obj oi, .int 12] st (.ok (.int (k : Nat)) t0) := e0
  unfold tk5
  apply W.asgW .nil
  apply We.jn (k := k) (st1 := t0) (ns := ns) (by omega)
  · apply Vit.rng
    · repeat' (first | apply e0 | decreasing_trivial_pre_omega)
    · exact Rg.nat (by omega)
  · exact h0
  · repeat' (first | decreasing_trivial_pre_omega)
  · exact fun d => ⟨_, .s (.s (.s (.s (.s (.s (.s (.s (.s (.s (.s (.s (.s (.s (.s (.s .z))))))))))))))), rfl⟩
  · intro cs s h1 cl cf
    have c1 := check_ca (n := 8) (st := s) cf (by omega)
    have c2 := lawsign_ca (n := 8) (st := s) cf (by omega)
    obtain ⟨p, t1, lp, h2, e2⟩ := ltT.tk h1 8 9 (by omega) (by omega)
    have e2 : Ca (callN tab 9) 6 [.obj oi, .int 9] s (.ok (.int (p : Nat)) t1) := e2
    obtain ⟨c, t2, hc, h3, e3⟩ := pickS (n := 7) h2 (l := sgL) (by decide) (by decide)
    rw [← sg_lit] at e3
    have ek := istk_ca (n := 7) (st := t2) (l := put l p c) (by rw [pu_len (by omega)]; omega)
    rw [tk_put hl lp] at ek
    apply Wt.mk'
    · repeat' (first | decreasing_trivial_pre_omega)
    apply W.guard
    · repeat' (first | apply c1 | apply c2 | apply Cm.txN | decreasing_trivial_pre_omega)
    · rw [decide_eq_true rfl]
      rfl
    apply W.asg .nil (d := .tup [.int (p : Nat), .str (tx [c])]) (st1 := t2)
    · repeat' (first | apply e2 | apply e3 | decreasing_trivial_pre_omega)
    · repeat' (first | decreasing_trivial_pre_omega)
    apply W.asg .nil (d := .str (tx (put l p c))) (st1 := t2)
    · repeat' (first | apply s_up l9 (Nat.le_of_lt lp) | apply s_fr1 l9 lp | apply b_up l9 | apply b_put l9 | decreasing_trivial_pre_omega)
    · repeat' (first | decreasing_trivial_pre_omega)
    apply W.guard
    · repeat' (first | apply ek | apply Cm.txE | decreasing_trivial_pre_omega)
    · cases decide (put l p c = l) <;> rfl
    exact tk10_w hl h3
theorem law_w (ns : List Int) : Wc (callN tab 10) 11 [.scr ns] preS fun d _ => d = .bl true := by
  apply Wc.w (show tab[11]? = some ⟨1, 17, ir11, none⟩ from rfl) rfl
  unfold ir11
  apply W.obj
  · repeat' (first | decreasing_trivial_pre_omega)
  · rfl
  · rfl
  · repeat' (first | decreasing_trivial_pre_omega)
  have h0 : Dr (ns, []) (preS ++ [.lst [.scr ns, .int 0, .int 41, .int 0]]) := ⟨0, 41, 0, by omega, rfl⟩
  generalize preS ++ [.lst [.scr ns, .int 0, .int 41, .int 0]] = st at h0 ⊢
  obtain ⟨v, s1, e1, h1, v0, v1⟩ := taken ltT.ht h0 8 100000000 (by omega) (by omega)
  have e1 : Ca (callN tab 9) 6 [.obj oi, .int 100000000] st (.ok (.int v) s1) := ⟨e1⟩
  obtain ⟨u, s2, lu, h2, e2⟩ := ltT.tk h1 8 1000 (by omega) (by omega)
  have e2 : Ca (callN tab 9) 6 [.obj oi, .int 1000] s1 (.ok (.int (u : Nat)) s2) := e2
  obtain ⟨d, s3, hd, h3, e3⟩ := ltT.pk h2 7 [.int v, .int (u : Nat), .int 0, .int 99999999] (by show 0 < 4; omega) (by show 4 < _; omega)
  have e3 : Ca (callN tab 9) 7 [.obj oi, .lst [.int v, .int (u : Nat), .int 0, .int 99999999]] s2 (.ok d s3) := e3
  obtain ⟨m, hm, rfl⟩ : ∃ m : Nat, m < 10 ^ 8 ∧ d = .int (m : Nat) := by
    simp only [List.mem_cons, List.not_mem_nil, or_false] at hd
    rcases hd with rfl | rfl | rfl | rfl
    · exact ⟨v.toNat, by omega, by rw [Int.toNat_of_nonneg v0]⟩
    · exact ⟨u, by omega, rfl⟩
    · exact ⟨0, by omega, rfl⟩
    · exact ⟨99999999, by omega, rfl⟩
  have pw : Bn .Pow (.int 10) (.int 8) (.int 100000000) := ⟨rfl⟩
  have dl := dg_le hm
  have sx : Bi "str" [.int (m : Nat)] (.str (tx (dg m))) := Bi.strX hm
  have ln : Bi "len" [.str (tx (dg m))] (.int ((dg m).length : Nat)) := Bi.lenX (by omega)
  have mu : Bn .Mult (.str "0") (.int (8 - ((dg m).length : Nat))) (.str (tx (List.replicate (8 - (dg m).length) 48))) := ⟨by
    have hb := big
    have z : ("0" : Str) = ⟨#[48]⟩ := by kernel_rfl
    rw [z]
    show (if -(2 ^ 63) ≤ (8 - ((dg m).length : Nat) : Int) ∧ (8 - ((dg m).length : Nat) : Int) < 2 ^ 63 ∧ (⟨#[48]⟩ : Str).length * (8 - ((dg m).length : Nat) : Int).toNat ≤ sizeLine then some (D.str (Txt.mul ⟨#[48]⟩ (8 - ((dg m).length : Nat) : Int))) else none) = _
    rw [if_pos ⟨by omega, by omega, by show 1 * _ ≤ sizeLine; omega⟩, ← tx_of (Txt.mul _ _), PyProof.Rows.mul_one_list]
    rw [show (8 - ((dg m).length : Nat) : Int).toNat = 8 - (dg m).length by omega]⟩
  have ad : Bn .Add (.str (tx (List.replicate (8 - (dg m).length) 48))) (.str (tx (dg m))) (.str (tx (f8 m))) := by
    rw [f8_eq]
    exact Bn.tx (by rw [List.length_replicate]; omega)
  have l8 := f8_len hm
  have ff := f8_f m
  have s9 := lawsign_ca (n := 8) (st := s3) ff (by omega)
  have ad2 : Bn .Add (.str (tx (f8 m))) (.str (tx [sgR (rst (f8 m))])) (.str (tx (tkL m))) := Bn.tx (by rw [l8, List.length_singleton]; omega)
  have tk := tkL_ok hm
  have l9 := tkL_len hm
  have t1 := ticket_ca (n := 7) (st := s3) hm
  have t0 := check_ca (n := 8) (st := s3) ff (by omega)
  have t2 := istk_ca (n := 7) (st := s3) (l := tkL m) (by omega)
  have t3 := numof_ca (n := 6) (st := s3) (l := tkL m) (by omega)
  rw [tk] at t2 t3
  rw [if_pos rfl, tkL_drop, f8_val] at t3
  have t8 : Ca (callN tab 9) 8 [.int (m : Nat), .int (m : Nat)] s3 (.ok (.bl true) s3) := ltT.alk (n := 8) (k := 0) rfl
  have sl : Sld (.str (tx (tkL m))) none (some 8) (.str (tx (f8 m))) := by
    have z := s_up (p := 8) l9 (by omega)
    rw [show (tkL m).take 8 = f8 m by unfold tkL; rw [← l8, List.take_left]] at z
    exact z
  have ix : Ixx (.str (tx (tkL m))) (.int 8) (.str (tx [sgR (rst (f8 m))])) := Ixx.tx (k := 8) (by
    unfold tkL
    rw [List.getElem?_append_right (by omega), l8]
    rfl) (by omega)
  have nt : Cm .IsNot (.bl true) (.bl true) false := ⟨rfl⟩
  apply W.asg .nil (d := .int (m : Nat)) (st1 := s3)
  · repeat' (first | apply pw | apply e1 | apply e2 | apply e3 | decreasing_trivial_pre_omega)
  · repeat' (first | decreasing_trivial_pre_omega)
  apply W.asg .nil (d := .str (tx (f8 m))) (st1 := s3)
  · repeat' (first | apply sx | apply ln | apply mu | apply ad | decreasing_trivial_pre_omega)
  · repeat' (first | decreasing_trivial_pre_omega)
  apply W.asg .nil (d := .str (tx (tkL m))) (st1 := s3)
  · repeat' (first | apply s9 | apply ad2 | decreasing_trivial_pre_omega)
  · repeat' (first | decreasing_trivial_pre_omega)
  apply W.guard
  · repeat' (first | apply t1 | apply t0 | apply t2 | apply t3 | apply t8 | apply sl | apply ix | apply nt | apply Cm.txN | decreasing_trivial_pre_omega)
  · rw [decide_eq_true rfl, decide_eq_true rfl]
    rfl
  exact tk5_w tk h3
theorem law_true (ns : List Int) : ∃ st, callN tab 10 11 [.scr ns] preS = .ok (.bl true) st := by
  obtain ⟨d, s, e, rfl⟩ := (law_w ns).get
  exact ⟨s, e.h⟩
end
end Eng
set_option Elab.async false
set_option linter.all false
set_option maxRecDepth 100000
set_option maxHeartbeats 0
open PySem PySem.Spec PySem.W PySem.Calls PyProof.Rows L2 Eng
theorem PySem.Challenge.cw_pawnkept_k06_whole_tickets_holds : PySem.Challenge.rw_pawnkept_k06_whole_tickets.Holds := by
  exact Eng.law_of Eng.law_true
