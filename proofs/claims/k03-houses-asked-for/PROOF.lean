import PyProof.Rows.All
import HandS.Head3
import Open.Tops
import HandS.HeadHook4
import Wide.All
import OpenK.AllK
import Wide.FinOn
import HandS.ForMost
import HandS.Exc
import HandS.ExcInit
import HandS.WordsExc
import HandS.Lambda
import HandS.Zip
import HandS.NoneIn
import HandS.Wide
import HandS.TupAny
import HandS.Deep
import HandS.Style
import HandS.IsInst
import PyProof.IsiBase
import PyProof.FactsBase
import PyProof.FactsAll.object_1
import PyProof.TableTree
import PyProof.FactsTree
import KE.RegKIsAll
import KE.KIsBytes
import KE.GoesMore
import PyProof.InstEq
import HandS.SlotsOwn
import HandS.Conv
import HandS.MakeKwOnly
import KE.KDictZip
import HandS.ListItems
import HandS.Defaults
import HandS.Head0
import HandS.Head1
import HandS.Head2
import HandS.HeadEnd
import HandS.HeadHook1
import HandS.HeadHook2
import HandS.HeadHook3
import HandS.EndTab
import HandS.HeadWalk
import HandS.ExcField
import HandS.TryMany
import PyProof.Rows.ReprR
import PySem.Challenge.RW_lastbell_k03_houses_asked_for
set_option Elab.async false
set_option linter.all false
set_option maxRecDepth 100000
set_option maxHeartbeats 0
namespace DL
open PySem PySem.W PySem.Calls PyProof.Rows
theorem openC (X : (OpenLaw.row PySem.Challenge.rw_lastbell_k03_houses_asked_for).wellSaid = true → (OpenLaw.row PySem.Challenge.rw_lastbell_k03_houses_asked_for).Holds) : PySem.Challenge.rw_lastbell_k03_houses_asked_for.Holds := by
  w_on; o_law
  exact X (by assumption)
end DL
set_option Elab.async false
set_option linter.all false
set_option maxRecDepth 100000
set_option maxHeartbeats 0
namespace DL
open PySem PySem.W PySem.Calls PyProof.Rows
theorem wSs_app (top : Scope) (cx : TablesWhole.Ctx) (sc : Scope) (b : List Stmt) : ∀ a : List Stmt, TablesWhole.wSs TablesWhole.holds top cx sc (a ++ b) = (TablesWhole.wSs TablesWhole.holds top cx sc a && TablesWhole.wSs TablesWhole.holds top cx sc b)
  | [] => by
    show _ = (TablesWhole.wSs TablesWhole.holds top cx sc [] && _)
    rw [show TablesWhole.wSs TablesWhole.holds top cx sc [] = true by simp only [TablesWhole.wSs]; rfl]
    rfl
  | s :: a => by
    have e (l : List Stmt) : TablesWhole.wSs TablesWhole.holds top cx sc (s :: l) = (TablesWhole.wS TablesWhole.holds top cx sc s && TablesWhole.wSs TablesWhole.holds top cx sc l) := by simp only [TablesWhole.wSs]; rfl
    rw [List.cons_append, e, e, wSs_app top cx sc b a, Bool.and_assoc]
theorem wSs_cut {top : Scope} {cx : TablesWhole.Ctx} {sc : Scope} {l : List Stmt} (k : Nat) (a : TablesWhole.wSs TablesWhole.holds top cx sc (l.take k) = true) (b : TablesWhole.wSs TablesWhole.holds top cx sc (l.drop k) = true) : TablesWhole.wSs TablesWhole.holds top cx sc l = true := by
  rw [← List.take_append_drop k l, wSs_app, a, b]
  rfl
theorem wSs_cut2 {top : Scope} {cx : TablesWhole.Ctx} {sc : Scope} {l : List Stmt} (k j : Nat) (a : TablesWhole.wSs TablesWhole.holds top cx sc ((l.drop k).take j) = true) (b : TablesWhole.wSs TablesWhole.holds top cx sc (l.drop (k + j)) = true) : TablesWhole.wSs TablesWhole.holds top cx sc (l.drop k) = true :=
  wSs_cut j a (by rw [List.drop_drop]; exact b)
theorem tw_of {p : Program} {T : List PySem.Str} (h0 : p.modules = []) (h1 : p.parses = []) (h2 : p.harvested = []) (t : TablesWhole.wSs TablesWhole.gather p.main.scope ⟨p.main.scope, [], [], [], none⟩ p.main.scope p.main.body = T) (e : TablesWhole.noTwice p.main.scope = true)
    (w : TablesWhole.wSs TablesWhole.holds p.main.scope ⟨p.main.scope, [], T, [], none⟩ p.main.scope p.main.body = true) : p.tablesWhole = true := by
  unfold Program.tablesWhole TablesWhole.wProgram
  rw [h0, h1, h2]
  unfold TablesWhole.wModule
  rw [t]
  simp only [TablesWhole.Alg.all, List.map_nil, List.foldr_cons, List.foldr_nil]
  show (((true && (TablesWhole.noTwice p.main.scope && (TablesWhole.wSs TablesWhole.holds p.main.scope ⟨p.main.scope, [], T, [], none⟩ p.main.scope p.main.body && true))) && (true && (true && (true && true)))) : Bool) = true
  rw [e, w]
  rfl
abbrev PB : Program := (PySem.W.OpenLaw.row PySem.Challenge.rw_lastbell_k03_houses_asked_for).prog
theorem told : TablesWhole.wSs TablesWhole.gather PB.main.scope ⟨PB.main.scope, [], [], [], none⟩ PB.main.scope PB.main.body = [] := by kernel_rfl
theorem tw_0 : TablesWhole.wSs TablesWhole.holds PB.main.scope ⟨PB.main.scope, [], [], [], none⟩ PB.main.scope ((PB.main.body.drop 0).take 60) = true := by kernel_rfl
theorem tw_60 : TablesWhole.wSs TablesWhole.holds PB.main.scope ⟨PB.main.scope, [], [], [], none⟩ PB.main.scope ((PB.main.body.drop 60).take 60) = true := by kernel_rfl
theorem tw_120 : TablesWhole.wSs TablesWhole.holds PB.main.scope ⟨PB.main.scope, [], [], [], none⟩ PB.main.scope ((PB.main.body.drop 120).take 60) = true := by kernel_rfl
theorem tw_180 : TablesWhole.wSs TablesWhole.holds PB.main.scope ⟨PB.main.scope, [], [], [], none⟩ PB.main.scope ((PB.main.body.drop 180).take 42) = true := by kernel_rfl
theorem tw_end : TablesWhole.wSs TablesWhole.holds PB.main.scope ⟨PB.main.scope, [], [], [], none⟩ PB.main.scope (PB.main.body.drop 222) = true := by kernel_rfl
theorem bareC : PB.bare := ⟨rfl, rfl, rfl, rfl, rfl, tw_of rfl rfl rfl told (by kernel_rfl) (wSs_cut2 0 60 tw_0 (wSs_cut2 60 60 tw_60 (wSs_cut2 120 60 tw_120 (wSs_cut2 180 42 tw_180 tw_end))))⟩
end DL
set_option Elab.async false
set_option linter.all false
set_option maxRecDepth 100000
set_option maxHeartbeats 0

namespace DL
open PySem PySem.W PySem.Calls PyProof.Rows HandSHeadRun
/-- so many steps, ahead of the end -/
def goK (st : SharedT → Thread → Option (SharedT × Thread)) (n0 : Nat) (ann : Option Value) : Nat → SharedT → Thread → Option (SharedT × Thread)
  | 0, s, t => some (s, t)
  | m + 1, s, t => match through t with
    | true => none
    | false => match stepOk n0 ann t with
      | false => none
      | true => match st s t with
        | some (s', t') => frS s' fun s' => goK st n0 ann m s' t'
        | none => none
theorem goK_ok {tb : String → Option Builtin} {p : Program} {w : World} {n0 : Nat} {ann : Option Value} : ∀ {m : Nat} {s s' : SharedT} {t t' : Thread}, goK (stepT (denote tb) p w) n0 ann m s t = some (s', t') → topGo tb p w n0 ann m s.abs t = some (s'.abs, t')
  | 0, _, _, _, _, h => by cases h; rfl
  | m + 1, s, s', t, t', h => by
    have h1 : (match through t with
      | true => none
      | false => match stepOk n0 ann t with
        | false => none
        | true => match stepT (denote tb) p w s t with
          | some (s', t') => frS s' fun s' => goK (stepT (denote tb) p w) n0 ann m s' t'
          | none => none) = some (s', t') := h
    unfold topGo
    cases ht : through t with
    | true => rw [ht] at h1; cases h1
    | false =>
      rw [ht] at h1
      cases hk : stepOk n0 ann t with
      | false => rw [hk] at h1; cases h1
      | true =>
        rw [hk] at h1
        have h2 : (match stepT (denote tb) p w s t with
          | some (s', t') => frS s' fun s' => goK (stepT (denote tb) p w) n0 ann m s' t'
          | none => none) = some (s', t') := h1
        cases hs : stepT (denote tb) p w s t with
        | none => rw [hs] at h2; cases h2
        | some r =>
          obtain ⟨s2, t2⟩ := r
          rw [hs] at h2
          have h3 : (frS s2 fun s' => goK (stepT (denote tb) p w) n0 ann m s' t2) = some (s', t') := h2
          rw [frS_eq] at h3
          have q := goK_ok h3
          show (match step (denote tb) p w s.abs t with
            | .go s' t' => topGo tb p w n0 ann m s' t'
            | .halt _ _ => none) = some (s'.abs, t')
          rw [stepT_spec hs]
          exact q
/-- a segment, to its end -/
def segF (st : SharedT → Thread → Option (SharedT × Thread)) (n0 : Nat) (ann : Option Value) (b : Nat) : Nat → SharedT → Thread → Option (Flow × SharedT × Code × Pos)
  | 0, _, _ => none
  | m + 1, s, t => match endAt b t with
    | some f => some (f, s, t.code, t.pos)
    | none => match stepOk n0 ann t with
      | false => none
      | true => match st s t with
        | some (s', t') => segF st n0 ann b m s' t'
        | none => none
theorem segF_ok {tb : String → Option Builtin} {p : Program} {w : World} {n0 : Nat} {ann : Option Value} {b : Nat} : ∀ {m : Nat} {s : SharedT} {t : Thread}, segF (stepT (denote tb) p w) n0 ann b m s t = segRunT tb p w n0 ann b m s t
  | 0, _, _ => rfl
  | m + 1, s, t => by
    unfold segF segRunT
    cases endAt b t with
    | some f => rfl
    | none =>
      cases stepOk n0 ann t with
      | false => rfl
      | true =>
        show (match stepT (denote tb) p w s t with
          | some (s', t') => segF (stepT (denote tb) p w) n0 ann b m s' t'
          | none => none) = (match stepT (denote tb) p w s t with
          | some (s', t') => segRunT tb p w n0 ann b m s' t'
          | none => none)
        cases stepT (denote tb) p w s t with
        | none => rfl
        | some r => exact segF_ok
/-- the state ahead of the top -/
def openF (st : Program → SharedT → Thread → Option (SharedT × Thread)) (fence : Program → Shared → Option Shared) (M : Nat) (p : Program) : Option (Shared × SharedT) := match impF (st (opening p)) M (startT (opening p)) (start (opening p)).2 with
  | some s => (match fence p s.abs with
    | some s0 => (match s0.heap.isNs mainGlobals && s0.gens.size == 0 with
      | true => (match treeOf s0 with
        | some x => frS x fun x => some (s0, x)
        | none => none)
      | false => none)
    | none => none)
  | none => none
theorem openF_ok {M : Nat} {p : Program} {w : World} {s0 : Shared} {x : SharedT} (h : openF (fun q => stepT (denote treeTable) q w) fenceModules? M p = some (s0, x)) :
    fencedOpening treeTable p w M = some s0 ∧ (s0.heap.isNs mainGlobals && s0.gens.size == 0) = true ∧ x.abs = s0 ∧ s0.heap.objs.size = x.n := by
  unfold openF at h
  cases e1 : impF (stepT (denote treeTable) (opening p) w) M (startT (opening p)) (start (opening p)).2 with
  | none => rw [e1] at h; cases h
  | some s =>
    rw [e1] at h
    have a1 := impF_ok e1
    rw [startT_eq] at a1
    have h1 : (match fenceModules? p s.abs with
      | some s0 => (match s0.heap.isNs mainGlobals && s0.gens.size == 0 with
        | true => (match treeOf s0 with
          | some x => frS x fun x => some (s0, x)
          | none => none)
        | false => none)
      | none => none) = some (s0, x) := h
    cases e2 : fenceModules? p s.abs with
    | none => rw [e2] at h1; cases h1
    | some z =>
      rw [e2] at h1
      have h2 : (match z.heap.isNs mainGlobals && z.gens.size == 0 with
        | true => (match treeOf z with
          | some x => frS x fun x => some (z, x)
          | none => none)
        | false => none) = some (s0, x) := h1
      cases e3 : z.heap.isNs mainGlobals && z.gens.size == 0 with
      | false => rw [e3] at h2; cases h2
      | true =>
        rw [e3] at h2
        have h3 : (match treeOf z with
          | some x => frS x fun x => some (z, x)
          | none => none) = some (s0, x) := h2
        cases e4 : treeOf z with
        | none => rw [e4] at h3; cases h3
        | some y =>
          rw [e4] at h3
          have h4 : (frS y fun x => some (z, x)) = some (s0, x) := h3
          rw [frS_eq] at h4
          obtain ⟨ez, ey⟩ := Prod.mk.inj (Option.some.inj h4)
          subst ez ey
          obtain ⟨ex, en⟩ := treeOf_eq e4
          refine ⟨?_, e3, ex, en⟩
          unfold fencedOpening
          rw [a1]
          exact e2
/-- the top, cut once behind some statements -/
theorem left_cut {p q : Program} {loose : List Str} {Xt : Shared → Bool} {α : Type} {Yf : Shared → α} {Ya : World → α} {M n1 n2 n3 n4 m0 : Nat} {ann : Option Value} {env : Env} {pos pos2 posK q0 : Pos} {S K : World → OsState → SharedT} {OS : OsState} {rest : List Stmt}
    (pre : ∀ w : World, ((openF (fun q => stepQ (denQ tabQ) q w) fenceQ M p).bind fun r => (goK (stepQ (denQ tabQ) p w) m0 ann n1 r.2 (topStub p)).bind fun y =>
        (segF (stepQ (denQ tabQ) p w) m0 ann 1 n2 y.1 (blockOf (behindTheImports p) env (.body (behindTheImports p) env) pos [topFrame q0])).map fun z => ((r.2.n, r.1.heap.nsMap mainGlobals "__annotations__"), y.2, z)) =
      some ((m0, ann), ⟨denQ tabQ (.body (behindTheImports p) env), .body (behindTheImports p) env, pos, [topFrame q0]⟩, .next, S w OS, .body (behindTheImports p) env, pos2))
    (chain : ∀ (w : World) (N : Nat) (r : Shared), topRun treeTable p w m0 ann N (K w OS).abs (restOf rest env (.body (behindTheImports p) env) posK [topFrame q0]) = some r →
      topRun treeTable p w m0 ann (n3 + N) (S w OS).abs (restOf (behindTheImports p) env (.body (behindTheImports p) env) pos2 [topFrame q0]) = some r)
    (fin : ∀ w : World, ((openF (fun q => stepQ (denQ tabQ) q w) fenceQ M p).bind fun r => (goF (stepQ (denQ tabQ) p w) m0 ann n4 (K w OS) (restOf rest env (.body (behindTheImports p) env) posK [topFrame q0])).map fun s1 =>
        (looksF p r.1.heap s1.abs, seenQ q loose (importedModules p.main.body) Xt s1.abs, Yf s1.abs)) = some (true, openGood q loose, Ya w))
    (le : Nat.ble (n1 + (n2 + (n3 + n4))) M = true) : LeftO p q loose Xt Yf Ya M true := fun w => by
  have pre := pre w
  have fin := fin w
  rw [← stepQ_eq, ← denQ_eq, ← tabQ_eq, ← fenceQ_eq] at pre fin
  obtain ⟨⟨s0, x⟩, ho, h1⟩ := Option.bind_eq_some_iff.mp pre
  obtain ⟨⟨sa, ta⟩, hg, h2⟩ := Option.bind_eq_some_iff.mp h1
  obtain ⟨⟨fl, sb, cb, pb⟩, hs, h3⟩ := Option.map_eq_some_iff.mp h2
  obtain ⟨e1, e2⟩ := Prod.mk.inj h3
  obtain ⟨en, ea⟩ := Prod.mk.inj e1
  obtain ⟨et, e3⟩ := Prod.mk.inj e2
  dsimp only at en ea et e3 hg hs h1 h2
  subst et
  cases e3
  obtain ⟨⟨s0', x'⟩, ho', f1⟩ := Option.bind_eq_some_iff.mp fin
  rw [ho] at ho'
  obtain ⟨es, ex⟩ := Prod.mk.inj (Option.some.inj ho')
  subst es ex
  obtain ⟨s1, hF, f2⟩ := Option.map_eq_some_iff.mp f1
  obtain ⟨l1, l23⟩ := Prod.mk.inj f2
  obtain ⟨l2, l3⟩ := Prod.mk.inj l23
  obtain ⟨a1, a2, a3, a4⟩ := openF_ok ho
  have r4 := goF_ok hF
  have r3 := chain w _ _ r4
  have r2 := piece_block (segRun_of (segF_ok.symm.trans hs)) r3
  have r1 := go_top (goK_ok hg) r2
  rw [a3] at r1
  have r := topRun_mono (M - (n1 + (n2 + (n3 + n4)))) _ _ _ _ r1
  rw [show n1 + (n2 + (n3 + n4)) + (M - (n1 + (n2 + (n3 + n4)))) = M by have := Nat.le_of_ble_eq_true le; omega] at r
  have l1' : (staticsOk (importedModules p.main.body) s0.heap s1.abs.heap && namesBound p s1.abs.heap && gensDone s1.abs && laidKept s0.heap s1.abs.heap) = true := l1
  have t : topFrom treeTable p w M s0 = some s1.abs := by
    unfold topFrom
    rw [a2, a4, en, ea]
    show (topRun treeTable p w m0 ann M s0 (topStub p)).bind _ = _
    rw [r]
    show (match staticsOk (importedModules p.main.body) s0.heap s1.abs.heap && namesBound p s1.abs.heap && gensDone s1.abs && laidKept s0.heap s1.abs.heap with | true => some s1.abs | false => none) = _
    rw [l1']
  unfold openEnds
  rw [a1]
  show (topFrom treeTable p w M s0).map _ = _
  rw [t]
  rw [← seenQ_eq] at l2
  exact congrArg some (Prod.ext l2 l3)
/-- a law of a program with imports at its head, its top cut once -/
theorem head_cut {r : OpenRow} {q : Program} {H : Hook} {ob : SharedT → H.α} {M : Nat} {loose : List PySem.Str} {d : DefRec} {kwd : List (PySem.Str × PySem.Expr)}
    (left : LeftO r.prog q loose (fun s => xlAt q [] s && recOk r.toRowW.records s) H.obs H.val M true)
    (hdef : defOf q r.name = some (d, kwd)) (hp : r.prog.theDef r.name = some (d.params, d.body, d.scope)) (hk : kwWritten? d.params.kwonlyargs d.params.kw_defaults = some kwd)
    (hwr : (!r.writes || r.records.isEmpty) = true) (k1 : r.wellSaid = true) (ok : (chainsOk q && opensWell r.prog && (frees r.toRowW && r.within.isEmpty)) = true) (hb : r.prog.bare) (hw : r.toRowW.promised)
    (call : WalkO q loose (XL q []) H.says r.toRowW d kwd fun f vs => PySem.call f vs) : r.Holds :=
  holds_open (r := r) (q := q) (loose := loose) (XP := XL q []) (YP := H.says) (d := d) (kwd := kwd) left H.of H.keeps (fun s z => xl_of s (Bool.and_eq_true_iff.mp z).1) XL.keeps hdef hp hk (fun s z => recFacts_of (Bool.and_eq_true_iff.mp z).2) hwr k1 ok hb hw call
end DL
set_option Elab.async false
set_option linter.all false
set_option maxRecDepth 100000
set_option maxHeartbeats 0
noncomputable section
namespace DL
open PySem PySem.W PySem.Calls PyProof.Rows HandSHeadRun
/-- what plain statements of a top leave, at a tree of the heap -/
structure ET where
  T : BT
  n : Nat
  t : Nat
def ET.al (s : ET) (o : Obj) : ET := ⟨s.T.ins s.n o, s.n + 1, s.t⟩
def ET.tk (s : ET) (k : Nat) : ET := ⟨s.T, s.n, s.t + k⟩
def ET.up (s : ET) (a : Addr) (f : Obj → Obj) : ET := ⟨s.T.set a f, s.n, s.t⟩
def ET.fr {α : Type} (s : ET) (k : ET → α) : α := frNat s.n fun n => frNat s.t fun t => k ⟨s.T, n, t⟩
def eTxs : List Str → Nat → List Value
  | [], _ => []
  | a :: l, t => .str a t :: eTxs l (t + 1)
def eTup (vs : List Value) : Obj := { cls := .type "tuple", data := .seq vs.toArray }
/-- a name set in a namespace, its key's text made new -/
def ET.put (P : Params) (s : ET) (ns : Addr) (x : Str) (v : Value) : ET := ⟨s.T.set ns (Obj.putName x (PySem.PyData.keyHash P x) (.str x s.t) v), s.n, s.t + 1⟩
def eLook (s : ET) (ns : Addr) (x : Str) : Value := match s.T.get ns with
  | some ⟨_, _, .dict es _, _⟩ => (match es.toList.find? fun e => e.key.isStr x with
    | some e => e.val
    | none => .none)
  | _ => .none
/-- the code object of a text's part; its address is the last one -/
def eCode (places : Addr) (pos : Pos) (line : Nat) (name qual file : Str) (argc flags : Nat) (free : List Str) (isF : Bool) (text : Nat) (locals : Option (List Str × List Str)) (tmpl : Option FuncData) (s : ET) : ET :=
  let t := s.t
  let n := s.n
  let f := free.length
  let s1 := (s.al (eTup (eTxs free (t + 3)))).al { cls := .none, data := .fields #[] }
  let t1 := t + 3 + f
  let a : ET × Value × Value × Nat := match locals with
    | some (a, b) => ((s1.al (eTup (eTxs a t1))).al (eTup (eTxs b (t1 + a.length))), Value.ref (n + 2), Value.ref (n + 3), t1 + a.length + b.length)
    | none => (s1, Value.none, Value.none, t1)
  let b : ET × Value := match tmpl with
    | some fd => (a.1.al { cls := .none, data := .func fd }, Value.ref a.1.n)
    | none => (a.1, Value.none)
  let t2 : Nat := a.2.2.2
  let o : Obj := { cls := .type "code", data := .fields #[.str name t, .str qual (t + 1), .str file (t + 2), rawInt line, rawInt argc, rawInt 0, rawInt 0, rawInt flags, .ref n, .bool isF, rawInt text, .ref (n + 1), .none, a.2.1, a.2.2.1, b.2, rawInt (Int.ofNat t2), rawInt line, .str file (t2 + 1)] }
  let s3 := b.1.al o
  (⟨s3.T.set places fun o => match o with
    | ⟨c, d, .fields vs, sl⟩ => ⟨c, d, .fields (vs.toList ++ [rawInt pos.line, rawInt pos.col, .ref b.1.n]).toArray, sl⟩
    | o => o, s3.n, t2 + 2⟩ : ET)
def eFile : Str := "/claim/cut.py"
/-- a def, of a module or of a class -/
def eDef (P : Params) (text : Nat) (places ns : Addr) (cell : Option Addr) (pre : Str) (name bind : Str) (args : Arguments) (body : List Stmt) (scope : Scope) (pos : Pos) (s : ET) : ET :=
  let qual : Str := pre ++ name
  let fd : FuncData := { name, qualname := qual, params := args, body := .stmts body, scope, globals := builtinsNs, closure := [], defaults := .none, kwdefaults := .none }
  let c : CodeContext := ⟨eFile, 0, false, text⟩
  let z : ET × List (Str × Addr) × Value := match scope.freeNames, cell with
    | _ :: _, some a => (s.al (eTup [.ref a]), [("__class__", a)], .ref s.n)
    | _, _ => (s, [], .none)
  (eCode places pos pos.line name qual eFile (args.posonlyargs.length + args.args.length) (functionFlags args.vararg.isSome args.kwarg.isSome scope c) scope.freeNames true text (localNames args scope (.stmts body)) (some fd) z.1).fr fun s1 =>
  let o : Obj := { cls := .type "function", data := .func { fd with globals := mainNs, closure := z.2.1, closureTuple := z.2.2, pyModule := eLook s mainNs "__name__", code := .ref (s1.n - 1), builtins := 0 } }
  ((s1.al o).put P ns bind (.ref s1.n)).fr id
def eMeth (P : Params) (text : Nat) (places ns : Addr) (cell : Option Addr) (pre : Str) : List Stmt → ET → ET
  | [], s => s
  | .FunctionDef name args body _ _ _ scope _ bind pos :: l, s => (eDef P text places ns cell pre name bind args body scope pos s).fr (eMeth P text places ns cell pre l)
  | _ :: l, s => eMeth P text places ns cell pre l s
def hasMeth (x : Str) : List Stmt → Bool
  | [] => false
  | .FunctionDef name .. :: l => name == x || hasMeth x l
  | _ :: l => hasMeth x l
/-- a class: of no base, of ValueError, of an own class -/
def eCls (P : Params) (text : Nat) (places : Addr) (name bind : Str) (base : Option Str) (body : List Stmt) (scope : Scope) (statics : List Str) (pos : Pos) (s : ET) : ET :=
  let n := s.n
  let t := s.t
  let md := eLook s mainNs "__name__"
  let bv : Option Value := base.map fun b => match eLook s mainNs b with
    | .none => .type "ValueError"
    | v => v
  let s1 := ((s.al (eTup bv.toList)).al { cls := .type "builtin_function_or_method", data := .fields #[.builtin "type.__prepare__", .type "type"] }).al { cls := .type "dict", data := .dict #[] }
  let cz : ET × Option Addr := match scope.names.lookup ("__class__" : Str) with
    | some NameKind.cell => (s1.al { cls := .type "cell", data := .cell (some .none) }, some s1.n)
    | _ => (s1, none)
  (eCode places pos pos.line name name eFile 0 0 [] false text none none (cz.1.tk 2)).fr fun s2 =>
  let code := s2.n - 1
  let pl := s2.n - 2
  let s3 := s2.al { cls := .type "frame", slots := #[some (.ref code), some (.ref mainNs), some (.ref (n + 2)), none, some md, none, some (.ref 0)] }
  let s4 := s3.put P (n + 2) "__module__" md
  let s5 := (s4.tk 1).put P (n + 2) "__qualname__" (.str name s4.t)
  let s6 := (s5.tk 1).put P (n + 2) "__firstlineno__" (.int pos.line s5.t)
  s6.fr fun s6 =>
  (eMeth P text pl (n + 2) cz.2 (name ++ ".") body s6).fr fun s7 =>
  let s8 := ((s7.al (eTup (eTxs statics s7.t))).tk statics.length).put P (n + 2) "__static_attributes__" (.ref s7.n)
  let s8 := match cz.2 with
    | some a => s8.put P (n + 2) "__classcell__" (.ref a)
    | none => s8
  s8.fr fun s8 =>
  let d := s8.n
  let me := d + 1
  let old : List DictEntry := match s8.T.get (n + 2) with
    | some ⟨_, _, .dict es _, _⟩ => es.toList.filter fun e => !(e.key.isStr "__qualname__" || e.key.isStr "__classcell__")
    | _ => []
  let key (x : Str) (t : Nat) (v : Value) : DictEntry := ⟨PySem.PyData.keyHash P x, .str x t, v⟩
  let u := s8.t
  let z : List DictEntry × Nat × List Obj := match bv with
    | none => ([key "__dict__" (u + 1) (.ref (d + 2)), key "__weakref__" (u + 3) (.ref (d + 3)), key "__doc__" (u + 4) .none] ++ (match hasMeth "__eq__" body with | true => [key "__hash__" (u + 5) .none] | false => []), (match hasMeth "__eq__" body with | true => 6 | false => 5),
        [{ cls := .type "getset_descriptor", data := .fields #[.str "__dict__" u, .ref me, .builtin "function.__dict__", .builtin "function.__dict__#set"] },
         { cls := .type "getset_descriptor", data := .fields #[.str "__weakref__" (u + 2), .ref me, .builtin "ExceptionGroup.__weakref__", .none] }])
    | some (.type _) => ([key "__weakref__" (u + 1) (.ref (d + 2)), key "__doc__" (u + 2) .none], 3, [{ cls := .type "getset_descriptor", data := .fields #[.str "__weakref__" u, .ref me, .builtin "ExceptionGroup.__weakref__", .none] }])
    | some _ => ([key "__doc__" u .none], 1, [])
  let mro : List Value := match bv with
    | none => [.type "object"]
    | some (.ref b) => (match s8.T.get b with
      | some ⟨_, _, .cls c, _⟩ => c.mro
      | _ => [])
    | some _ => [.type "ValueError", .type "Exception", .type "BaseException", .type "object"]
  let s9 := s8.al { cls := .type "dict", data := .dict (old ++ z.1).toArray ((match cz.2 with | some _ => 2 | none => 1) + z.1.length) }
  let s10 := s9.al { cls := .type "type", data := .cls { name := name, bases := (match bv with | some b => [b] | none => [.type "object"]), mro := (.ref me :: mro), «ns» := d, qualname := name }, slots := #[(match bv with | some _ => some (.ref n) | none => none), none, some (.str name t), some (.str name s4.t), some (.builtin (match bv with | some _ => "ValueError.__new__" | none => "object.__new__")), some (.bool true)] }
  let s11 := z.2.2.foldl ET.al s10
  let s12 := (s11.al { cls := .type "super", data := .fields #[.ref me, .ref me, .ref me] }).al { cls := .type "builtin_function_or_method", data := .fields #[.builtin "object.__init_subclass__", .ref me] }
  let s13 := match bv with
    | some (.ref b) => s12.up b fun o => match o with
      | ⟨c, dd, .cls x, sl⟩ => ⟨c, dd, .cls { x with subclasses := x.subclasses ++ [Value.ref me] }, sl⟩
      | o => o
    | _ => s12
  let s13 := match cz.2 with
    | some a => s13.up a fun _ => { cls := .type "cell", data := .cell (some (.ref me)) }
    | none => s13
  ((s13.tk (z.2.1 + 1)).put P mainNs bind (.ref me)).fr id
def eStmt (P : Params) (text : Nat) (places : Addr) : Stmt → ET → ET
  | .FunctionDef name args body _ _ _ scope _ bind pos, s => eDef P text places mainNs none "" name bind args body scope pos s
  | .ClassDef name [] _ body _ _ sc _ bind statics pos, s => eCls P text places name bind none body sc statics pos s
  | .ClassDef name (.Name b _ :: _) _ body _ _ sc _ bind statics pos, s => eCls P text places name bind (some b) body sc statics pos s
  | .Assign [.Name x _] (.Constant (.str v) _ _) _, s => ((s.tk 1).put P mainNs x (.str v s.t)).fr id
  | .Assign [.Name x _] (.Name y _) _, s => (s.put P mainNs x (eLook s mainNs y)).fr id
  | .Assign [.Name x _] _ _, s => ((s.tk 3).put P mainNs x (.int (10 ^ 60) (s.t + 2))).fr id
  | _, s => s
def eAll (P : Params) (text : Nat) (places : Addr) : List Stmt → ET → ET
  | [], s => s
  | st :: l, s => (eStmt P text places st s).fr (eAll P text places l)
def ET.sh (s : ET) (os : OsState) : SharedT := ⟨s.T, s.n, {}, ⟨[]⟩, {}, s.t, os⟩
/-- where the top stands behind k statements -/
def ePos (l : List Stmt) : Nat → Pos
  | 0 => default
  | k + 1 => match l[k]? with
    | some st => st.pos
    | none => default
/-- one chunk of a top, put ahead of the rest -/
theorem piece_eff {p : Program} {w : World} {n0 m N k j : Nat} {ann : Option Value} {env : Env} {q : Pos} {L : List Stmt} {c : Code} {s s' : SharedT} {r : Shared}
    (h : segF (stepQ (denQ tabQ) p w) n0 ann 1 m s (piecesOf ((L.drop k).take j) env c (ePos L k) [topFrame q]) = some (.next, s', c, ePos L (k + j)))
    (z : topRun treeTable p w n0 ann N s'.abs (restOf (L.drop (k + j)) env c (ePos L (k + j)) [topFrame q]) = some r) :
    topRun treeTable p w n0 ann (m + N) s.abs (restOf (L.drop k) env c (ePos L k) [topFrame q]) = some r := by
  rw [← stepQ_eq, ← denQ_eq, ← tabQ_eq] at h
  have h2 := segRun_of (segF_ok.symm.trans h)
  have y := piece_app h2 z
  rw [show (L.drop k).take j ++ L.drop (k + j) = L.drop k by rw [← List.drop_drop]; exact List.take_append_drop j (L.drop k)] at y
  exact y
end DL
set_option Elab.async false
set_option linter.all false
set_option maxRecDepth 100000
set_option maxHeartbeats 0
noncomputable section
namespace DL
open PySem PySem.Spec PyProof.Rows L2 He
/-! the facts of a great module: of named objects alone -/
def obsZ (as : (Addr → Option Obj) → List Addr) (fa : List Fa) (fn : List DefD) (ts : List Tab) (tf : List Defn) (ex : PySem.W.Frag → Bool) (g : Addr → Option Obj) : AlX := (obsT fa fn ts (frT g (as g)), ex (frT g (as g)) && tabsB g tf (frT g (as g)))
theorem saysZ_of {as : (Addr → Option Obj) → List Addr} {fa : List Fa} {fn : List DefD} {ts : List Tab} {tf : List Defn} {ex : PySem.W.Frag → Bool} {w : World} {h : Heap} (e : obsZ as fa fn ts tf ex h.get? = valX fn ts w) : SaysX fa fn ts tf ex w h (frT h.get? (as h.get?)) := by
  have e1 : obsT fa fn ts (frT h.get? (as h.get?)) = valT fn ts w := congrArg (fun z : AlX => z.1) e
  have e2 : (ex (frT h.get? (as h.get?)) && tabsB h.get? tf (frT h.get? (as h.get?))) = true := congrArg (fun z : AlX => z.2) e
  obtain ⟨h1, h2⟩ := ba e2
  have key : ∀ p ∈ tf, PySem.W.codeHdIn (frT h.get? (as h.get?)) (cT (frT h.get? (as h.get?)) p).1 (cT (frT h.get? (as h.get?)) p).2 = true ∧ ∃ o, h.get? (cT (frT h.get? (as h.get?)) p).2 = some o ∧ emptyTab o = true := fun p hp => by
    obtain ⟨h3, h4⟩ := ba (List.all_eq_true.mp h2 p hp)
    refine ⟨h3, ?_⟩
    cases q : h.get? (cT (frT h.get? (as h.get?)) p).2 with
    | none => rw [q] at h4; cases h4
    | some o => rw [q] at h4; exact ⟨o, rfl, h4⟩
  exact ⟨e1, h1, fun p hp => (key p hp).1, fun p hp => by
    obtain ⟨_, o, q, z⟩ := key p hp
    exact frT_none q z, fun p hp => by
    obtain ⟨_, o, q, z⟩ := key p hp
    rw [q, emptyTab_eq z]⟩
def hookZ (as : (Addr → Option Obj) → List Addr) (fa : List Fa) (fn : List DefD) (ts : List Tab) (tf : List Defn) (ex : PySem.W.Frag → Bool) : PySem.W.Hook where
  α := AlX
  obs := fun s => obsZ as fa fn ts tf ex s.heap.get?
  val := fun w => valX fn ts w
  says := fun w h => ∃ K : PySem.W.Frag, K.In h ∧ SaysX fa fn ts tf ex w h K
  of := fun _ _ e => ⟨_, frT_in, saysZ_of e⟩
  keeps := fun _ _ _ ⟨K, hK, c⟩ k => ⟨K, PySem.W.Frag.In.keeps hK k, ⟨c.t, c.more, c.hd, c.out, fun p hp => k _ _ (c.empty p hp)⟩⟩
theorem obsZ_eq {as : (Addr → Option Obj) → List Addr} {fa : List Fa} {fn : List DefD} {ts : List Tab} {tf : List Defn} {ex : PySem.W.Frag → Bool} {g : Addr → Option Obj} {s : Shared} (h : ∀ a, g a = s.heap.get? a) : obsZ as fa fn ts tf ex g = (hookZ as fa fn ts tf ex).obs s := by
  have e : g = s.heap.get? := funext h
  rw [e] <;> rfl
/-- the entries of the module's names that the mask marks -/
def pickZ : List Bool → List DictEntry → List Addr
  | true :: m, e :: l => (match e.val with
    | .ref a => a :: pickZ m l
    | _ => pickZ m l)
  | false :: m, _ :: l => pickZ m l
  | _, _ => []
def refsZ (g : Addr → Option Obj) (a : Addr) : List Addr := match g a with
  | some ⟨_, _, .func fd, _⟩ => (match fd.code with
    | .ref c => [a, c]
    | _ => [a])
  | _ => [a]
def valsZ (g : Addr → Option Obj) (n : Addr) : List Addr := match g n with
  | some ⟨_, _, .dict es _, _⟩ => n :: es.toList.flatMap fun e => match e.val with
    | .ref a => refsZ g a
    | _ => []
  | _ => [n]
def clsZ (g : Addr → Option Obj) (a : Addr) : List Addr := match g a with
  | some ⟨_, _, .cls c, _⟩ => a :: (c.mro.flatMap fun v => match v with
    | .ref b => (match Nat.beq a b with
      | true => valsZ g c.ns
      | false => (match g b with
        | some ⟨_, _, .cls d, _⟩ => [b, d.ns]
        | _ => []))
    | _ => [])
  | _ => refsZ g a
def asZ (m : List Bool) (g : Addr → Option Obj) : List Addr := mainGlobals :: (match g mainGlobals with
  | some ⟨_, _, .dict es _, _⟩ => (pickZ m es.toList).flatMap (clsZ g)
  | _ => [])
open PySem.W PySem.Calls HandSHeadRun in
/-- the end, its looks apart -/
theorem fin_of {p q : Program} {loose : List PySem.Str} {Xt : Shared → Bool} {α : Type} {Yf : Shared → α} {Ya : World → α} {M n4 m0 : Nat} {ann : Option Value} {w : World} {K : SharedT} {t : Thread}
    (f1 : goF (stepQ (denQ tabQ) p w) m0 ann n4 K t = some K)
    (f2 : (openF (fun q => stepQ (denQ tabQ) q w) fenceQ M p).map (fun r => looksF p r.1.heap K.abs) = some true)
    (f3 : seenQ q loose (importedModules p.main.body) Xt K.abs = openGood q loose) (f4 : Yf K.abs = Ya w) :
    ((openF (fun q => stepQ (denQ tabQ) q w) fenceQ M p).bind fun r => (goF (stepQ (denQ tabQ) p w) m0 ann n4 K t).map fun s1 =>
        (looksF p r.1.heap s1.abs, seenQ q loose (importedModules p.main.body) Xt s1.abs, Yf s1.abs)) = some (true, openGood q loose, Ya w) := by
  obtain ⟨r, e, l⟩ := Option.map_eq_some_iff.mp f2
  rw [e]
  show (goF (stepQ (denQ tabQ) p w) m0 ann n4 K t).map _ = _
  rw [f1]
  show some (looksF p r.1.heap K.abs, seenQ q loose (importedModules p.main.body) Xt K.abs, Yf K.abs) = _
  rw [l, f3, f4]
end DL
set_option Elab.async false
set_option linter.all false
set_option maxRecDepth 100000
set_option maxHeartbeats 0
noncomputable section
namespace DL
open PySem PySem.W PySem.Calls PyProof.Rows HandSHeadRun
abbrev PC : Program := (PySem.W.OpenLaw.row PySem.Challenge.rw_lastbell_k03_houses_asked_for).prog
def LC : List Stmt := behindTheImports PC
def envC : Env := { scope := PC.main.scope, locals := mainNs, globals := mainNs, cells := [], code := .ref 31, frame := some 32 }
abbrev qC : Pos := default
def codeC : Code := .body (behindTheImports PC) envC
def osC : OsState := (start (opening PC)).1.os
def preF (w : World) := ((openF (fun q => stepQ (denQ tabQ) q w) fenceQ 70000 PC).bind fun r => (goK (stepQ (denQ tabQ) PC w) 29 (some (.ref 6)) 12 r.2 (topStub PC)).bind fun y =>
        (segF (stepQ (denQ tabQ) PC w) 29 (some (.ref 6)) 1 50 y.1 (blockOf (behindTheImports PC) envC (.body (behindTheImports PC) envC) qC [topFrame qC])).map fun z => ((r.2.n, r.1.heap.nsMap mainGlobals "__annotations__"), y.2, z))
def baseT (w : World) : BT := match preF w with
  | some z => z.2.2.2.1.tree
  | none => .nil
def EE (k : Nat) (w : World) : ET := eAll w.params 289 30 (LC.take k) ⟨baseT w, 33, 295⟩
def SC (w : World) (os : OsState) : SharedT := (EE 0 w).sh os
def KC (w : World) (os : OsState) : SharedT := (EE 221 w).sh os
theorem preC (w : World) : preF w = some ((29, some (.ref 6)), ⟨denQ tabQ (.body (behindTheImports PC) envC), .body (behindTheImports PC) envC, qC, [topFrame qC]⟩, .next, SC w osC, .body (behindTheImports PC) envC, qC) := by kernel_rfl
theorem cc_0 (w : World) : segF (stepQ (denQ tabQ) PC w) 29 (some (.ref 6)) 1 6000 ((EE 0 w).sh osC) (piecesOf ((LC.drop 0).take 12) envC codeC (ePos LC 0) [topFrame qC]) = some (.next, (EE 12 w).sh osC, codeC, ePos LC (0 + 12)) := by kernel_rfl
theorem cc_12 (w : World) : segF (stepQ (denQ tabQ) PC w) 29 (some (.ref 6)) 1 6000 ((EE 12 w).sh osC) (piecesOf ((LC.drop 12).take 11) envC codeC (ePos LC 12) [topFrame qC]) = some (.next, (EE 23 w).sh osC, codeC, ePos LC (12 + 11)) := by kernel_rfl
theorem cc_23 (w : World) : segF (stepQ (denQ tabQ) PC w) 29 (some (.ref 6)) 1 6000 ((EE 23 w).sh osC) (piecesOf ((LC.drop 23).take 10) envC codeC (ePos LC 23) [topFrame qC]) = some (.next, (EE 33 w).sh osC, codeC, ePos LC (23 + 10)) := by kernel_rfl
theorem cc_33 (w : World) : segF (stepQ (denQ tabQ) PC w) 29 (some (.ref 6)) 1 6000 ((EE 33 w).sh osC) (piecesOf ((LC.drop 33).take 21) envC codeC (ePos LC 33) [topFrame qC]) = some (.next, (EE 54 w).sh osC, codeC, ePos LC (33 + 21)) := by kernel_rfl
theorem cc_54 (w : World) : segF (stepQ (denQ tabQ) PC w) 29 (some (.ref 6)) 1 6000 ((EE 54 w).sh osC) (piecesOf ((LC.drop 54).take 46) envC codeC (ePos LC 54) [topFrame qC]) = some (.next, (EE 100 w).sh osC, codeC, ePos LC (54 + 46)) := by kernel_rfl
theorem cc_100 (w : World) : segF (stepQ (denQ tabQ) PC w) 29 (some (.ref 6)) 1 6000 ((EE 100 w).sh osC) (piecesOf ((LC.drop 100).take 40) envC codeC (ePos LC 100) [topFrame qC]) = some (.next, (EE 140 w).sh osC, codeC, ePos LC (100 + 40)) := by kernel_rfl
theorem cc_140 (w : World) : segF (stepQ (denQ tabQ) PC w) 29 (some (.ref 6)) 1 6000 ((EE 140 w).sh osC) (piecesOf ((LC.drop 140).take 33) envC codeC (ePos LC 140) [topFrame qC]) = some (.next, (EE 173 w).sh osC, codeC, ePos LC (140 + 33)) := by kernel_rfl
theorem cc_173 (w : World) : segF (stepQ (denQ tabQ) PC w) 29 (some (.ref 6)) 1 6000 ((EE 173 w).sh osC) (piecesOf ((LC.drop 173).take 11) envC codeC (ePos LC 173) [topFrame qC]) = some (.next, (EE 184 w).sh osC, codeC, ePos LC (173 + 11)) := by kernel_rfl
theorem cc_184 (w : World) : segF (stepQ (denQ tabQ) PC w) 29 (some (.ref 6)) 1 6000 ((EE 184 w).sh osC) (piecesOf ((LC.drop 184).take 21) envC codeC (ePos LC 184) [topFrame qC]) = some (.next, (EE 205 w).sh osC, codeC, ePos LC (184 + 21)) := by kernel_rfl
theorem cc_205 (w : World) : segF (stepQ (denQ tabQ) PC w) 29 (some (.ref 6)) 1 6000 ((EE 205 w).sh osC) (piecesOf ((LC.drop 205).take 16) envC codeC (ePos LC 205) [topFrame qC]) = some (.next, (EE 221 w).sh osC, codeC, ePos LC (205 + 16)) := by kernel_rfl
theorem chainC (w : World) (N : Nat) (r : Shared) (h : topRun treeTable PC w 29 (some (.ref 6)) N (KC w osC).abs (restOf (LC.drop 221) envC codeC (ePos LC 221) [topFrame qC]) = some r) :
    topRun treeTable PC w 29 (some (.ref 6)) (60000 + N) (SC w osC).abs (restOf (behindTheImports PC) envC (.body (behindTheImports PC) envC) qC [topFrame qC]) = some r := by
  have e : 60000 + N = (6000 + (6000 + (6000 + (6000 + (6000 + (6000 + (6000 + (6000 + (6000 + (6000 + N)))))))))) := by omega
  rw [e]
  exact (piece_eff (k := 0) (j := 12) (cc_0 w) (piece_eff (k := 12) (j := 11) (cc_12 w) (piece_eff (k := 23) (j := 10) (cc_23 w) (piece_eff (k := 33) (j := 21) (cc_33 w) (piece_eff (k := 54) (j := 46) (cc_54 w) (piece_eff (k := 100) (j := 40) (cc_100 w) (piece_eff (k := 140) (j := 33) (cc_140 w) (piece_eff (k := 173) (j := 11) (cc_173 w) (piece_eff (k := 184) (j := 21) (cc_184 w) (piece_eff (k := 205) (j := 16) (cc_205 w) h))))))))))
end DL
set_option Elab.async false
set_option linter.all false
set_option maxRecDepth 100000
/-! DL0: data trees, cells, the representation of both in the abstract heap -/
namespace DL
open PySem PySem.Spec PyProof.Rows L2

inductive T where
  | v (x : V)
  | lst (ts : List T)
  | tup (ts : List T)
  | dct (kvs : List (Key × T))
  | ins (C : Addr) (fs : List (Str × T))
inductive D where
  | t (x : T)
  | m (i : Nat)
inductive Cell where
  | lst (ds : List D)
  | dct (kvs : List (Key × D))
  | ins (C : Addr) (fs : List (Str × D))
  | tup (ds : List D)
  | strmI
  | strm (b : Nat)
  | fz (t : T)
abbrev Store := List Cell
abbrev Env := List (Option D)
def Cell.lives : Cell → Prop
  | .fz _ => False
  | .tup _ => False
  | _ => True

/-! ### trees in the heap; L: the live cells' addresses -/
mutual
def Rep (L : Addr → Prop) (H : Hp) : T → V → Prop
  | .v x, y => y = x
  | .lst ts, y => ∃ a xs, y = .ref a ∧ ¬ L a ∧ H a = some (.lst xs) ∧ RepL L H ts xs
  | .tup ts, y => ∃ a xs, y = .ref a ∧ ¬ L a ∧ H a = some (.tup xs) ∧ RepL L H ts xs
  | .dct kvs, y => ∃ a xs, y = .ref a ∧ ¬ L a ∧ H a = some (.dK xs) ∧ RepK L H kvs xs
  | .ins C fs, y => ∃ a dx xs, y = .ref a ∧ ¬ L a ∧ H a = some (.ins C dx xs) ∧ RepF L H fs xs
def RepL (L : Addr → Prop) (H : Hp) : List T → List V → Prop
  | [], xs => xs = []
  | t :: ts, xs => ∃ y ys, xs = y :: ys ∧ Rep L H t y ∧ RepL L H ts ys
def RepK (L : Addr → Prop) (H : Hp) : List (Key × T) → List (Key × V) → Prop
  | [], xs => xs = []
  | (k, t) :: ts, xs => ∃ y ys, xs = (k, y) :: ys ∧ Rep L H t y ∧ RepK L H ts ys
def RepF (L : Addr → Prop) (H : Hp) : List (Str × T) → List (Str × V) → Prop
  | [], xs => xs = []
  | (k, t) :: ts, xs => ∃ y ys, xs = (k, y) :: ys ∧ Rep L H t y ∧ RepF L H ts ys
end

/-- nothing is tracked there, or a table of code -/
def Fr (H : Hp) (b : Addr) : Prop := H b = none ∨ ∃ ps, H b = some (.tbl ps)
theorem Fr.not {H : Hp} {b : Addr} {o : HO} (f : Fr H b) (h : H b = some o) (t : ∀ ps, o ≠ .tbl ps) : False := by
  rcases f with f | ⟨ps, f⟩
  · rw [h] at f; cases f
  · rw [h] at f; cases f; exact t ps rfl
theorem Fr.upd {H : Hp} {p b : Addr} {o : HO} (h : Fr H p ∨ ∀ ps, o ≠ .tbl ps) (f : Fr (L2.upd H p o) b) : Fr H b := by
  by_cases hb : b = p
  · rcases h with h | h
    · rw [hb]; exact h
    · rw [hb] at f; exact (f.not upd_same h).elim
  · unfold Fr at f ⊢; rw [upd_ne hb] at f; exact f
/-- from (L, H) on to (L', H'): what is tracked and no live cell stays, but tables of code; new live cells are new -/
structure Ext (L : Addr → Prop) (H : Hp) (L' : Addr → Prop) (H' : Hp) : Prop where
  keep : ∀ b o, H b = some o → ¬ L b → (∀ ps, o ≠ .tbl ps) → H' b = some o
  live : ∀ b, L' b → L b ∨ Fr H b
  dom : ∀ b, Fr H' b → Fr H b
theorem Ext.refl (L : Addr → Prop) (H : Hp) : Ext L H L H := ⟨fun _ _ h _ _ => h, fun _ h => .inl h, fun _ h => h⟩
theorem Ext.trans {L L1 L2 : Addr → Prop} {H H1 H2 : Hp} (a : Ext L H L1 H1) (b : Ext L1 H1 L2 H2) : Ext L H L2 H2 where
  keep := fun c o h n t => b.keep c o (a.keep c o h n t) (fun l => by
    rcases a.live c l with l | l
    · exact n l
    · exact l.not h t) t
  live := fun c h => by
    rcases b.live c h with l | l
    · exact a.live c l
    · exact .inr (a.dom c l)
  dom := fun c h => a.dom c (b.dom c h)
/-- a new object, no cell -/
theorem Ext.new {L : Addr → Prop} {H : Hp} {p : Addr} {o : HO} (h : H p = none) : Ext L H L (upd H p o) where
  keep := fun b u e _ _ => by rw [upd_ne (ne_of_none e h)]; exact e
  live := fun b l => .inl l
  dom := fun b e => e.upd (.inl (.inl h))
/-- a live cell is written -/
theorem Ext.write {L : Addr → Prop} {H : Hp} {p : Addr} {o : HO} (h : L p) (hp : ∀ ps, o ≠ .tbl ps) : Ext L H L (upd H p o) where
  keep := fun b u e n _ => by rw [upd_ne (fun z => n (by rw [z]; exact h))]; exact e
  live := fun b l => .inl l
  dom := fun b e => e.upd (.inr hp)
theorem Ext.at {L L' : Addr → Prop} {H H' : Hp} {a : Addr} {u : HO} (e : Ext L H L' H') (n : ¬ L a) (hu : ∀ ps, u ≠ .tbl ps) (h : H a = some u) : H' a = some u ∧ ¬ L' a := by
  refine ⟨e.keep a _ h n hu, fun l => ?_⟩
  rcases e.live a l with z | z
  · exact n z
  · exact z.not h hu
mutual
theorem Rep.ext {L L' : Addr → Prop} {H H' : Hp} (e : Ext L H L' H') : ∀ (t : T) (y : V), Rep L H t y → Rep L' H' t y
  | .v x, y, h => h
  | .lst ts, y, ⟨a, xs, e1, n, r, q⟩ => by
    obtain ⟨r2, n2⟩ := e.at n (fun ps z => by cases z) r
    exact ⟨a, xs, e1, n2, r2, RepL.ext e ts xs q⟩
  | .tup ts, y, ⟨a, xs, e1, n, r, q⟩ => by
    obtain ⟨r2, n2⟩ := e.at n (fun ps z => by cases z) r
    exact ⟨a, xs, e1, n2, r2, RepL.ext e ts xs q⟩
  | .dct kvs, y, ⟨a, xs, e1, n, r, q⟩ => by
    obtain ⟨r2, n2⟩ := e.at n (fun ps z => by cases z) r
    exact ⟨a, xs, e1, n2, r2, RepK.ext e kvs xs q⟩
  | .ins C fs, y, ⟨a, dx, xs, e1, n, r, q⟩ => by
    obtain ⟨r2, n2⟩ := e.at n (fun ps z => by cases z) r
    exact ⟨a, dx, xs, e1, n2, r2, RepF.ext e fs xs q⟩
theorem RepL.ext {L L' : Addr → Prop} {H H' : Hp} (e : Ext L H L' H') : ∀ (ts : List T) (xs : List V), RepL L H ts xs → RepL L' H' ts xs
  | [], xs, h => h
  | t :: ts, xs, ⟨y, ys, e1, h1, h2⟩ => ⟨y, ys, e1, Rep.ext e t y h1, RepL.ext e ts ys h2⟩
theorem RepK.ext {L L' : Addr → Prop} {H H' : Hp} (e : Ext L H L' H') : ∀ (ts : List (Key × T)) (xs : List (Key × V)), RepK L H ts xs → RepK L' H' ts xs
  | [], xs, h => h
  | (k, t) :: ts, xs, ⟨y, ys, e1, h1, h2⟩ => ⟨y, ys, e1, Rep.ext e t y h1, RepK.ext e ts ys h2⟩
theorem RepF.ext {L L' : Addr → Prop} {H H' : Hp} (e : Ext L H L' H') : ∀ (ts : List (Str × T)) (xs : List (Str × V)), RepF L H ts xs → RepF L' H' ts xs
  | [], xs, h => h
  | (k, t) :: ts, xs, ⟨y, ys, e1, h1, h2⟩ => ⟨y, ys, e1, Rep.ext e t y h1, RepF.ext e ts ys h2⟩
end

/-! ### cells -/
abbrev Live (as : List Addr) (S : Store) (a : Addr) : Prop := ∃ (i : Nat) (c : Cell), as[i]? = some a ∧ S[i]? = some c ∧ c.lives
def RepD (as : List Addr) (L : Addr → Prop) (H : Hp) : D → V → Prop
  | .t x, y => Rep L H x y
  | .m i, y => ∃ a, as[i]? = some a ∧ y = .ref a
abbrev RepDs (as : List Addr) (L : Addr → Prop) (H : Hp) : List D → List V → Prop := Paired (RepD as L H)
def CellOk (as : List Addr) (L : Addr → Prop) (H : Hp) (a : Addr) : Cell → Prop
  | .lst ds => ∃ xs, H a = some (.lst xs) ∧ RepDs as L H ds xs
  | .dct kvs => ∃ xs, H a = some (.dK xs) ∧ Paired (fun (p : Key × D) (q : Key × V) => p.1 = q.1 ∧ RepD as L H p.2 q.2) kvs xs
  | .ins C fs => ∃ dx xs, H a = some (.ins C dx xs) ∧ Paired (fun (p : Str × D) (q : Str × V) => p.1 = q.1 ∧ RepD as L H p.2 q.2) fs xs
  | .tup ds => ∃ xs, H a = some (.tup xs) ∧ RepDs as L H ds xs
  | .strmI => ∃ ns : List Int, H a = some (.lst (ns.map V.int)) ∧ ∀ n ∈ ns, n.natAbs < 2 ^ 1048576
  | .strm b => ∃ (c : Addr) (x y z : Int), as[0]? = some c ∧ H a = some (.lst [.ref c, .int x, .int y, .int z]) ∧ 0 ≤ x ∧ x.natAbs < 2 ^ 1048576 ∧ 0 ≤ y ∧ y + b ≤ 2 ^ 40 ∧ 0 ≤ z ∧ z < 2 ^ 31
  | .fz t => (∀ x, t ≠ .v x) ∧ Rep L H t (.ref a)
/-- code tables, by where and the name in them -/
abbrev TTs := List (Addr × Str)
/-- the store is held -/
structure StOk (CT : TTs) (as : List Addr) (S : Store) (H : Hp) : Prop where
  tab : LamX.Tabs CT H
  len : as.length = S.length
  nd : as.Nodup
  there : ∀ (i : Nat) a, as[i]? = some a → H a ≠ none
  cell : ∀ (i : Nat) a c, as[i]? = some a → S[i]? = some c → CellOk as (Live as S) H a c
def EnvOk (as : List Addr) (L : Addr → Prop) (H : Hp) (σ : L2.St) (ρ : Env) : Prop :=
  σ.length = ρ.length ∧ ∀ (i : Nat) d, ρ[i]? = some (some d) → ∃ y, σ[i]? = some (some y) ∧ RepD as L H d y

theorem RepD.ext {as as' : List Addr} {L L' : Addr → Prop} {H H' : Hp} (e : Ext L H L' H') (ha : ∀ (i : Nat) a, as[i]? = some a → as'[i]? = some a) : ∀ (d : D) (y : V), RepD as L H d y → RepD as' L' H' d y
  | .t x, y, h => Rep.ext e x y h
  | .m i, y, ⟨a, e1, e2⟩ => ⟨a, ha i a e1, e2⟩
theorem RepDs.ext {as as' : List Addr} {L L' : Addr → Prop} {H H' : Hp} (e : Ext L H L' H') (ha : ∀ (i : Nat) a, as[i]? = some a → as'[i]? = some a) {ds : List D} {ys : List V} (h : RepDs as L H ds ys) : RepDs as' L' H' ds ys :=
  Paired.mapP h fun d y q => RepD.ext e ha d y q
theorem EnvOk.ext {as as' : List Addr} {L L' : Addr → Prop} {H H' : Hp} {σ : L2.St} {ρ : Env} (e : Ext L H L' H') (ha : ∀ (i : Nat) a, as[i]? = some a → as'[i]? = some a) (h : EnvOk as L H σ ρ) : EnvOk as' L' H' σ ρ :=
  ⟨h.1, fun i d hd => let ⟨y, h1, h2⟩ := h.2 i d hd; ⟨y, h1, RepD.ext e ha d y h2⟩⟩
theorem EnvOk.set {as : List Addr} {L : Addr → Prop} {H : Hp} {σ : L2.St} {ρ : Env} {i : Nat} {d : D} {y : V} (h : EnvOk as L H σ ρ) (r : RepD as L H d y) : EnvOk as L H (σ.set i (some y)) (ρ.set i (some d)) := by
  refine ⟨by rw [List.length_set, List.length_set]; exact h.1, fun j e he => ?_⟩
  by_cases hj : i = j
  · subst hj
    by_cases hl : i < ρ.length
    · rw [List.getElem?_set_self hl] at he
      cases he
      exact ⟨y, by rw [List.getElem?_set_self (by rw [h.1]; exact hl)], r⟩
    · rw [List.getElem?_eq_none (by rw [List.length_set]; omega)] at he
      cases he
  · rw [List.getElem?_set_ne hj] at he
    obtain ⟨z, h1, h2⟩ := h.2 j e he
    exact ⟨z, by rw [List.getElem?_set_ne hj]; exact h1, h2⟩

/-- on to a further state: Ext of the live cells, the cells keep their numbers -/
structure On (as : List Addr) (S : Store) (H : Hp) (as' : List Addr) (S' : Store) (H' : Hp) : Prop where
  ext : Ext (Live as S) H (Live as' S') H'
  pre : ∀ (i : Nat) a, as[i]? = some a → as'[i]? = some a
theorem On.refl (as : List Addr) (S : Store) (H : Hp) : On as S H as S H := ⟨Ext.refl _ _, fun _ _ h => h⟩
theorem On.trans {as as1 as2 : List Addr} {S S1 S2 : Store} {H H1 H2 : Hp} (a : On as S H as1 S1 H1) (b : On as1 S1 H1 as2 S2 H2) : On as S H as2 S2 H2 :=
  ⟨a.ext.trans b.ext, fun i x h => b.pre i x (a.pre i x h)⟩
theorem On.rep {as as' : List Addr} {S S' : Store} {H H' : Hp} (o : On as S H as' S' H') {d : D} {y : V} (h : RepD as (Live as S) H d y) : RepD as' (Live as' S') H' d y := RepD.ext o.ext o.pre d y h
theorem On.reps {as as' : List Addr} {S S' : Store} {H H' : Hp} (o : On as S H as' S' H') {d : List D} {y : List V} (h : RepDs as (Live as S) H d y) : RepDs as' (Live as' S') H' d y := RepDs.ext o.ext o.pre h
theorem On.tree {as as' : List Addr} {S S' : Store} {H H' : Hp} (o : On as S H as' S' H') {x : T} {y : V} (h : Rep (Live as S) H x y) : Rep (Live as' S') H' x y := Rep.ext o.ext x y h
theorem On.env {as as' : List Addr} {S S' : Store} {H H' : Hp} {σ : L2.St} {ρ : Env} (o : On as S H as' S' H') (h : EnvOk as (Live as S) H σ ρ) : EnvOk as' (Live as' S') H' σ ρ := h.ext o.ext o.pre

/-! ### what a cell's content needs -/
theorem CellOk.ext {as as' : List Addr} {L L' : Addr → Prop} {H H' : Hp} {a : Addr} (e : Ext L H L' H') (ha : ∀ (i : Nat) b, as[i]? = some b → as'[i]? = some b) : ∀ (c : Cell), (∀ o, H a = some o → (∀ t, c ≠ .fz t) → H' a = some o) → CellOk as L H a c → CellOk as' L' H' a c
  | .lst ds, k, ⟨xs, h1, h2⟩ => ⟨xs, k _ h1 (fun _ z => by cases z), RepDs.ext e ha h2⟩
  | .dct kvs, k, ⟨xs, h1, h2⟩ => ⟨xs, k _ h1 (fun _ z => by cases z), Paired.mapP h2 fun p q z => ⟨z.1, RepD.ext e ha _ _ z.2⟩⟩
  | .ins C fs, k, ⟨dx, xs, h1, h2⟩ => ⟨dx, xs, k _ h1 (fun _ z => by cases z), Paired.mapP h2 fun p q z => ⟨z.1, RepD.ext e ha _ _ z.2⟩⟩
  | .tup ds, k, ⟨xs, h1, h2⟩ => ⟨xs, k _ h1 (fun _ z => by cases z), RepDs.ext e ha h2⟩
  | .strmI, k, ⟨ns, h1, h2⟩ => ⟨ns, k _ h1 (fun _ z => by cases z), h2⟩
  | .strm b, k, ⟨c, x, y, z, h0, h1, h2⟩ => ⟨c, x, y, z, ha _ _ h0, k _ h1 (fun _ z => by cases z), h2⟩
  | .fz t, k, h => ⟨h.1, Rep.ext e t _ h.2⟩

theorem CellOk.kind {as : List Addr} {L : Addr → Prop} {H : Hp} {a : Addr} : ∀ {c : Cell}, c.lives → CellOk as L H a c → ∃ o, H a = some o ∧ (∀ ps, o ≠ .tbl ps) ∧ ∀ φ, o ≠ .ext φ
  | .lst ds, _, ⟨xs, h1, h2⟩ => ⟨_, h1, (fun _ z => by cases z), (fun _ z => by cases z)⟩
  | .dct kvs, _, ⟨xs, h1, h2⟩ => ⟨_, h1, (fun _ z => by cases z), (fun _ z => by cases z)⟩
  | .ins C fs, _, ⟨dx, xs, h1, h2⟩ => ⟨_, h1, (fun _ z => by cases z), (fun _ z => by cases z)⟩
  | .strmI, _, ⟨ns, h1, h2⟩ => ⟨_, h1, (fun _ z => by cases z), (fun _ z => by cases z)⟩
  | .strm b, _, ⟨c, x, y, z, h0, h1, h2⟩ => ⟨_, h1, (fun _ z => by cases z), (fun _ z => by cases z)⟩
  | .fz t, l, _ => l.elim
  | .tup t, l, _ => l.elim
theorem tabs_upd {CT : TTs} {H : Hp} {a : Addr} {o : HO} (t : LamX.Tabs CT H) (ha : ∀ u, H a = some u → (∀ ps, u ≠ .tbl ps) ∧ ∀ φ, u ≠ .ext φ) : LamX.Tabs CT (upd H a o) := fun p hp => by
  obtain ⟨ps, h1, h2, h3⟩ := t p hp
  refine ⟨ps, ?_, h2, fun pos cv hc => ?_⟩
  · rw [upd_ne (fun z => (ha (.tbl ps) (by rw [← z]; exact h1)).1 ps rfl)]; exact h1
  · obtain ⟨c, e1, e2⟩ := h3 pos cv hc
    refine ⟨c, e1, ?_⟩
    rw [upd_ne (fun z => (ha _ (by rw [← z]; exact e2)).2 _ rfl)]; exact e2
section
variable {CT : TTs} {as : List Addr} {S : Store} {H : Hp}
theorem StOk.mem (h : StOk CT as S H) {i : Nat} {a : Addr} (e : as[i]? = some a) : ∃ c, S[i]? = some c ∧ CellOk as (Live as S) H a c := by
  have hl : i < as.length := (List.getElem?_eq_some_iff.mp e).1
  have : i < S.length := by rw [← h.len]; exact hl
  exact ⟨S[i], List.getElem?_eq_getElem this, h.cell i a _ e (List.getElem?_eq_getElem this)⟩
theorem StOk.addr (h : StOk CT as S H) {i : Nat} {c : Cell} (e : S[i]? = some c) : ∃ a, as[i]? = some a ∧ CellOk as (Live as S) H a c := by
  have hl : i < S.length := (List.getElem?_eq_some_iff.mp e).1
  have : i < as.length := by rw [h.len]; exact hl
  exact ⟨as[i], List.getElem?_eq_getElem this, h.cell i _ _ (List.getElem?_eq_getElem this) e⟩
theorem StOk.live_there (h : StOk CT as S H) {a : Addr} (l : Live as S a) : H a ≠ none := by
  obtain ⟨i, c, h1, _⟩ := l
  exact h.there i a h1
theorem nodup_ix {as : List Addr} (nd : as.Nodup) {i j : Nat} {a : Addr} (h1 : as[i]? = some a) (h2 : as[j]? = some a) : i = j := by
  obtain ⟨l1, e1⟩ := List.getElem?_eq_some_iff.mp h1
  obtain ⟨l2, e2⟩ := List.getElem?_eq_some_iff.mp h2
  exact (List.getElem_inj nd).mp (e1.trans e2.symm)
theorem StOk.live_iff (h : StOk CT as S H) {i : Nat} {a : Addr} {c : Cell} (e1 : as[i]? = some a) (e2 : S[i]? = some c) : Live as S a ↔ c.lives := by
  constructor
  · rintro ⟨j, d, h1, h2, h3⟩
    have : i = j := nodup_ix h.nd e1 h1
    subst this
    rw [e2] at h2
    cases h2
    exact h3
  · exact fun l => ⟨i, c, e1, e2, l⟩

/-- a new object that is no cell -/
theorem StOk.new (h : StOk CT as S H) {p : Addr} {o : HO} (hp : H p = none) : StOk CT as S (upd H p o) ∧ On as S H as S (upd H p o) := by
  have ne : ∀ (i : Nat) a, as[i]? = some a → a ≠ p := fun i a e z => h.there i a e (by rw [z]; exact hp)
  refine ⟨⟨tabs_upd h.tab (fun u hu => by rw [hp] at hu; cases hu), h.len, h.nd, fun i a e => by rw [upd_ne (ne i a e)]; exact h.there i a e, fun i a c e1 e2 => ?_⟩, ⟨Ext.new hp, fun _ _ e => e⟩⟩
  exact CellOk.ext (Ext.new hp) (fun _ _ e => e) c (fun o' ho _ => by rw [upd_ne (ne i a e1)]; exact ho) (h.cell i a c e1 e2)
theorem get_app {α : Type} {l : List α} {x : α} {i : Nat} {a : α} (h : (l ++ [x])[i]? = some a) : l[i]? = some a ∨ (i = l.length ∧ a = x) := by
  by_cases hi : i < l.length
  · left; rw [List.getElem?_append_left hi] at h; exact h
  · right
    rw [List.getElem?_append_right (by omega)] at h
    cases hk : i - l.length with
    | zero => rw [hk] at h; exact ⟨by omega, by simpa using h.symm⟩
    | succ n => rw [hk] at h; simp at h
theorem get_app_l {α : Type} {l : List α} {x : α} {i : Nat} {a : α} (h : l[i]? = some a) : (l ++ [x])[i]? = some a := by
  have hi : i < l.length := (List.getElem?_eq_some_iff.mp h).1
  rw [List.getElem?_append_left hi]; exact h
theorem live_app {p : Addr} {c : Cell} (h : StOk CT as S H) {a : Addr} (l : Live (as ++ [p]) (S ++ [c]) a) : Live as S a ∨ a = p := by
  obtain ⟨i, d, h1, h2, h3⟩ := l
  rcases get_app h1 with h1 | ⟨e, h1⟩
  · left
    rcases get_app h2 with h2 | ⟨e2, h2⟩
    · exact ⟨i, d, h1, h2, h3⟩
    · have := (List.getElem?_eq_some_iff.mp h1).1
      have := h.len
      omega
  · exact .inr h1
/-- a new cell -/
theorem StOk.cellNew (h : StOk CT as S H) {p : Addr} {o : HO} {c : Cell} (hp : H p = none)
    (hc : On as S H (as ++ [p]) (S ++ [c]) (upd H p o) → CellOk (as ++ [p]) (Live (as ++ [p]) (S ++ [c])) (upd H p o) p c) :
    StOk CT (as ++ [p]) (S ++ [c]) (upd H p o) ∧ On as S H (as ++ [p]) (S ++ [c]) (upd H p o) := by
  have ne : ∀ (i : Nat) a, as[i]? = some a → a ≠ p := fun i a e z => h.there i a e (by rw [z]; exact hp)
  have on : On as S H (as ++ [p]) (S ++ [c]) (upd H p o) := by
    refine ⟨⟨fun b u e n t => ?_, fun b l => ?_, fun b e => ?_⟩, fun i a e => get_app_l e⟩
    · rw [upd_ne (ne_of_none e hp)]; exact e
    · rcases live_app h l with l | l
      · exact .inl l
      · exact .inr (.inl (by rw [l]; exact hp))
    · exact e.upd (.inl (.inl hp))
  refine ⟨⟨tabs_upd h.tab (fun u hu => by rw [hp] at hu; cases hu), by simp [h.len], ?_, fun i a e => ?_, fun i a d e1 e2 => ?_⟩, on⟩
  · rw [List.nodup_append]
    refine ⟨h.nd, by simp, fun a ha b hb => ?_⟩
    have hb : b = p := by simpa using hb
    obtain ⟨i, hi⟩ := List.getElem?_of_mem ha
    rw [hb]
    exact ne i a hi
  · rcases get_app e with e | ⟨_, e⟩
    · rw [upd_ne (ne i a e)]; exact h.there i a e
    · rw [e, upd_same]; exact fun z => by cases z
  · rcases get_app e1 with e1 | ⟨ei, e1⟩
    · rcases get_app e2 with e2 | ⟨ei, e2⟩
      · exact CellOk.ext on.ext on.pre d (fun o' ho _ => by rw [upd_ne (ne i a e1)]; exact ho) (h.cell i a d e1 e2)
      · have := (List.getElem?_eq_some_iff.mp e1).1
        have := h.len
        omega
    · rcases get_app e2 with e2 | ⟨ei2, e2⟩
      · have := (List.getElem?_eq_some_iff.mp e2).1
        have := h.len
        omega
      · rw [e1, e2]; exact hc on
theorem live_set {i : Nat} {c c' : Cell} (h : StOk CT as S H) (e : S[i]? = some c) (hl : c'.lives → c.lives) {a : Addr} (l : Live as (S.set i c') a) : Live as S a := by
  obtain ⟨j, d, h1, h2, h3⟩ := l
  by_cases hj : i = j
  · subst hj
    rw [List.getElem?_set_self (List.getElem?_eq_some_iff.mp e).1] at h2
    cases h2
    exact ⟨i, c, h1, e, hl h3⟩
  · rw [List.getElem?_set_ne hj] at h2
    exact ⟨j, d, h1, h2, h3⟩
/-- a live cell is written -/
theorem StOk.cellSet (h : StOk CT as S H) {i : Nat} {a : Addr} {c c' : Cell} {o : HO} (ea : as[i]? = some a) (ec : S[i]? = some c) (lc : c.lives)
    (hc : On as S H as (S.set i c') (upd H a o) → CellOk as (Live as (S.set i c')) (upd H a o) a c') (ho : ∀ ps, o ≠ .tbl ps := by intro ps h; cases h) :
    StOk CT as (S.set i c') (upd H a o) ∧ On as S H as (S.set i c') (upd H a o) := by
  have la : Live as S a := ⟨i, c, ea, ec, lc⟩
  have on : On as S H as (S.set i c') (upd H a o) := by
    refine ⟨⟨fun b u e n t => ?_, fun b l => .inl (live_set h ec (fun _ => lc) l), fun b e => ?_⟩, fun _ _ e => e⟩
    · rw [upd_ne (fun z => n (by rw [z]; exact la))]; exact e
    · exact e.upd (.inr ho)
  have tb : LamX.Tabs CT (upd H a o) := tabs_upd h.tab fun u hu => by
    obtain ⟨u', h1, h2⟩ := CellOk.kind lc (h.cell i a c ea ec)
    rw [h1] at hu; cases hu; exact h2
  refine ⟨⟨tb, by rw [List.length_set]; exact h.len, h.nd, fun j b e => ?_, fun j b d e1 e2 => ?_⟩, on⟩
  · by_cases hb : b = a
    · rw [hb, upd_same]; exact fun z => by cases z
    · rw [upd_ne hb]; exact h.there j b e
  · by_cases hj : i = j
    · subst hj
      rw [List.getElem?_set_self (List.getElem?_eq_some_iff.mp ec).1] at e2
      cases e2
      rw [ea] at e1
      cases e1
      exact hc on
    · rw [List.getElem?_set_ne hj] at e2
      have hb : b ≠ a := fun z => hj (nodup_ix h.nd ea (by rw [z] at e1; exact e1))
      exact CellOk.ext on.ext on.pre d (fun o' ho _ => by rw [upd_ne hb]; exact ho) (h.cell j b d e1 e2)
/-- a cell is frozen, or its word changed while the heap stands -/
theorem StOk.cellFz (h : StOk CT as S H) {i : Nat} {a : Addr} {c c' : Cell} (ea : as[i]? = some a) (ec : S[i]? = some c) (lc : c'.lives → c.lives)
    (hc : On as S H as (S.set i c') H → CellOk as (Live as (S.set i c')) H a c') :
    StOk CT as (S.set i c') H ∧ On as S H as (S.set i c') H := by
  have on : On as S H as (S.set i c') H := ⟨⟨fun b u e n t => e, fun b l => .inl (live_set h ec lc l), fun b e => e⟩, fun _ _ e => e⟩
  refine ⟨⟨h.tab, by rw [List.length_set]; exact h.len, h.nd, h.there, fun j b d e1 e2 => ?_⟩, on⟩
  by_cases hj : i = j
  · subst hj
    rw [List.getElem?_set_self (List.getElem?_eq_some_iff.mp ec).1] at e2
    cases e2
    rw [ea] at e1
    cases e1
    exact hc on
  · rw [List.getElem?_set_ne hj] at e2
    exact CellOk.ext on.ext on.pre d (fun o' ho _ => ho) (h.cell j b d e1 e2)
end
end DL
set_option Elab.async false
set_option linter.all false
set_option maxRecDepth 100000
/-! DL1: readings over data (Env, Store) and the rules of expressions and statements -/
namespace DL
open PySem PySem.Spec PyProof.Rows L2

abbrev Ex := Addr × List (Str × D)
abbrev RepFs (as : List Addr) (L : Addr → Prop) (H : Hp) : List (Str × D) → List (Str × V) → Prop := Paired fun (p : Str × D) (q : Str × V) => p.1 = q.1 ∧ RepD as L H p.2 q.2
abbrev XQ := Ex → Store → Prop
structure DEnds where
  nx : Env → Store → Prop
  rt : D → Store → Prop
  bk : Env → Store → Prop
  ct : Env → Store → Prop
  ex : XQ
abbrev Rdg (α : Type) := XQ → Env → Store → (α → Store → Prop) → Prop
abbrev TED := Rdg D
abbrev TTD := Rdg Bool
abbrev TAD := Rdg (List D)
abbrev TSD := DEnds → Env → Store → Prop
abbrev TGD := D → XQ → Env → Store → (Env → Store → Prop) → Prop

def ExOk (CT : TTs) (E : XK) (as : List Addr) (S : Store) (H : Hp) (X : XQ) : Prop :=
  ∀ as' S' H' C dx fs ts, On as S H as' S' H' → StOk CT as' S' H' → H' dx = some (.xd fs) → RepFs as' (Live as' S') H' ts fs → X (C, ts) S' → E (.ref C) (some dx) H'
theorem ExOk.on {CT : TTs} {E : XK} {as as1 : List Addr} {S S1 : Store} {H H1 : Hp} {X : XQ} (h : ExOk CT E as S H X) (o : On as S H as1 S1 H1) : ExOk CT E as1 S1 H1 X :=
  fun as' S' H' C dx fs ts o2 => h as' S' H' C dx fs ts (o.trans o2)
/-- the state as data -/
structure Zt (CT : TTs) (E : XK) (σ : L2.St) (H : Hp) (as : List Addr) (S : Store) (ρ : Env) (X : XQ) : Prop where
  st : StOk CT as S H
  en : EnvOk as (Live as S) H σ ρ
  ex : ExOk CT E as S H X
theorem Zt.on {CT : TTs} {E : XK} {σ : L2.St} {H H1 : Hp} {as as1 : List Addr} {S S1 : Store} {ρ : Env} {X : XQ} (z : Zt CT E σ H as S ρ X) (o : On as S H as1 S1 H1) (st : StOk CT as1 S1 H1) : Zt CT E σ H1 as1 S1 ρ X :=
  ⟨st, o.env z.en, z.ex.on o⟩
/-- what follows, over data -/
def KE (CT : TTs) (as : List Addr) (S : Store) (H : Hp) (Qd : D → Store → Prop) (Q : VK) : Prop :=
  ∀ as' S' H' d y, On as S H as' S' H' → StOk CT as' S' H' → RepD as' (Live as' S') H' d y → Qd d S' → Q y H'
def KT (CT : TTs) (as : List Addr) (S : Store) (H : Hp) (Qd : Bool → Store → Prop) (Q : Bool → Hp → Prop) : Prop :=
  ∀ as' S' H' b, On as S H as' S' H' → StOk CT as' S' H' → Qd b S' → Q b H'
def KA (CT : TTs) (as : List Addr) (S : Store) (H : Hp) (Qd : List D → Store → Prop) (Q : List V → Hp → Prop) : Prop :=
  ∀ as' S' H' ds ys, On as S H as' S' H' → StOk CT as' S' H' → RepDs as' (Live as' S') H' ds ys → Qd ds S' → Q ys H'
theorem KE.on {CT : TTs} {as as1 : List Addr} {S S1 : Store} {H H1 : Hp} {Qd : D → Store → Prop} {Q : VK} (k : KE CT as S H Qd Q) (o : On as S H as1 S1 H1) : KE CT as1 S1 H1 Qd Q :=
  fun as' S' H' d y o2 => k as' S' H' d y (o.trans o2)
theorem KT.on {CT : TTs} {as as1 : List Addr} {S S1 : Store} {H H1 : Hp} {Qd : Bool → Store → Prop} {Q : Bool → Hp → Prop} (k : KT CT as S H Qd Q) (o : On as S H as1 S1 H1) : KT CT as1 S1 H1 Qd Q :=
  fun as' S' H' b o2 => k as' S' H' b (o.trans o2)
theorem KA.on {CT : TTs} {as as1 : List Addr} {S S1 : Store} {H H1 : Hp} {Qd : List D → Store → Prop} {Q : List V → Hp → Prop} (k : KA CT as S H Qd Q) (o : On as S H as1 S1 H1) : KA CT as1 S1 H1 Qd Q :=
  fun as' S' H' d y o2 => k as' S' H' d y (o.trans o2)
theorem KE.here {CT : TTs} {as : List Addr} {S : Store} {H : Hp} {Qd : D → Store → Prop} {Q : VK} (k : KE CT as S H Qd Q) (st : StOk CT as S H) {d : D} {y : V} (r : RepD as (Live as S) H d y) (q : Qd d S) : Q y H := k as S H d y (On.refl _ _ _) st r q
/-- a scalar -/
theorem KE.sc {CT : TTs} {as : List Addr} {S : Store} {H : Hp} {Qd : D → Store → Prop} {Q : VK} (k : KE CT as S H Qd Q) (st : StOk CT as S H) {y : V} (q : Qd (.t (.v y)) S) : Q y H := k as S H (.t (.v y)) y (On.refl _ _ _) st (by show y = y; rfl) q

def lift (CT : TTs) (E : XK) (t : TED) : TE := fun σ H Q => ∃ as S ρ X Qd, Zt CT E σ H as S ρ X ∧ t X ρ S Qd ∧ KE CT as S H Qd Q
def liftT (CT : TTs) (E : XK) (t : TTD) : L2.TT := fun σ H Q => ∃ as S ρ X Qd, Zt CT E σ H as S ρ X ∧ t X ρ S Qd ∧ KT CT as S H Qd Q
def liftA (CT : TTs) (E : XK) (t : TAD) : TA := fun σ H Q => ∃ as S ρ X Qd, Zt CT E σ H as S ρ X ∧ t X ρ S Qd ∧ KA CT as S H Qd Q
structure KS (CT : TTs) (as : List Addr) (S : Store) (H : Hp) (De : DEnds) (D : Ends) : Prop where
  nx : ∀ as' S' H' σ' ρ', On as S H as' S' H' → StOk CT as' S' H' → EnvOk as' (Live as' S') H' σ' ρ' → De.nx ρ' S' → D.nx σ' H'
  rt : ∀ as' S' H' d y, On as S H as' S' H' → StOk CT as' S' H' → RepD as' (Live as' S') H' d y → De.rt d S' → D.rt y H'
  bk : ∀ as' S' H' σ' ρ', On as S H as' S' H' → StOk CT as' S' H' → EnvOk as' (Live as' S') H' σ' ρ' → De.bk ρ' S' → D.bk σ' H'
  ct : ∀ as' S' H' σ' ρ', On as S H as' S' H' → StOk CT as' S' H' → EnvOk as' (Live as' S') H' σ' ρ' → De.ct ρ' S' → D.ct σ' H'
theorem KS.on {CT : TTs} {as as1 : List Addr} {S S1 : Store} {H H1 : Hp} {De : DEnds} {D : Ends} (k : KS CT as S H De D) (o : On as S H as1 S1 H1) : KS CT as1 S1 H1 De D :=
  ⟨fun as' S' H' σ' ρ' o2 => k.nx as' S' H' σ' ρ' (o.trans o2), fun as' S' H' d y o2 => k.rt as' S' H' d y (o.trans o2), fun as' S' H' σ' ρ' o2 => k.bk as' S' H' σ' ρ' (o.trans o2), fun as' S' H' σ' ρ' o2 => k.ct as' S' H' σ' ρ' (o.trans o2)⟩
def liftS (CT : TTs) (E : XK) (t : TSD) : TS := fun D σ H => ∃ as S ρ De, Zt CT E σ H as S ρ De.ex ∧ t De ρ S ∧ KS CT as S H De D
/-- a target: the environment is new -/
def liftG (CT : TTs) (E : XK) (t : TGD) : TG := fun v σ H Q => ∃ as S ρ X d Qd, Zt CT E σ H as S ρ X ∧ RepD as (Live as S) H d v ∧ t d X ρ S Qd ∧
  ∀ as' S' H' σ' ρ', On as S H as' S' H' → StOk CT as' S' H' → EnvOk as' (Live as' S') H' σ' ρ' → Qd ρ' S' → Q σ' H'

structure DE (CT : TTs) (E : XK) (X : Cx) (e : Expr) (t : TED) : Prop where
  pe : PE X e (lift CT E t)
structure DT (CT : TTs) (E : XK) (X : Cx) (e : Expr) (t : TTD) : Prop where
  pt : PT X e (liftT CT E t)
structure DW (CT : TTs) (E : XK) (X : Cx) (e : Expr) (t : TTD) : Prop where
  pw : PW X e (liftT CT E t)
structure DA (CT : TTs) (E : XK) (X : Cx) (es : List Expr) (t : TAD) : Prop where
  pa : PA X es (liftA CT E t)
structure DS (CT : TTs) (E : XK) (X : Cx) (st : Stmt) (t : TSD) : Prop where
  ps : PS X st (liftS CT E t)
structure DSs (CT : TTs) (E : XK) (X : Cx) (st : List Stmt) (t : TSD) : Prop where
  ps : PSs X st (liftS CT E t)
structure DG (CT : TTs) (E : XK) (X : Cx) (e : Expr) (t : TGD) : Prop where
  pg : PG X e (liftG CT E t)

section
variable {CT : TTs} {E : XK} {X : Cx}
theorem _root_.L2.PE.imp {e : Expr} {t t' : TE} (h : PE X e t) (i : ∀ σ H Q, t' σ H Q → t σ H Q) : PE X e t' := ⟨fun pins s σ H Q I q => h.run pins s σ H Q I (i σ H Q q)⟩
theorem _root_.L2.PT.imp {e : Expr} {t t' : L2.TT} (h : PT X e t) (i : ∀ σ H Q, t' σ H Q → t σ H Q) : PT X e t' := ⟨fun pins s σ H Q I q => h.run pins s σ H Q I (i σ H Q q)⟩
theorem _root_.L2.PW.imp {e : Expr} {t t' : L2.TT} (h : PW X e t) (i : ∀ σ H Q, t' σ H Q → t σ H Q) : PW X e t' := ⟨fun wh pins s σ H Q I q => h.run wh pins s σ H Q I (i σ H Q q)⟩
theorem _root_.L2.PA.imp {e : List Expr} {t t' : TA} (h : PA X e t) (i : ∀ σ H Q, t' σ H Q → t σ H Q) : PA X e t' := ⟨fun p pins s σ H Q I q => h.run p pins s σ H Q I (i σ H Q q)⟩
theorem _root_.L2.PS.imp {e : Stmt} {t t' : TS} (h : PS X e t) (i : ∀ D σ H, t' D σ H → t D σ H) : PS X e t' := ⟨fun pins s σ H D I q => h.run pins s σ H D I (i D σ H q)⟩
theorem _root_.L2.PSs.imp {e : List Stmt} {t t' : TS} (h : PSs X e t) (i : ∀ D σ H, t' D σ H → t D σ H) : PSs X e t' := ⟨fun pins s σ H D I q => h.run pins s σ H D I (i D σ H q)⟩
theorem _root_.L2.PG.imp {e : Expr} {t t' : TG} (h : PG X e t) (i : ∀ v σ H Q, t' v σ H Q → t v σ H Q) : PG X e t' := ⟨fun pins s σ H v u Q I r q => h.run pins s σ H v u Q I r (i v σ H Q q)⟩
theorem DE.of {e : Expr} {te : TE} {t : TED} (h : PE X e te) (i : ∀ σ H as S ρ Xq Qd Q, Zt CT E σ H as S ρ Xq → t Xq ρ S Qd → KE CT as S H Qd Q → te σ H Q) : DE CT E X e t :=
  ⟨h.imp fun σ H Q ⟨as, S, ρ, Xq, Qd, z, q, k⟩ => i σ H as S ρ Xq Qd Q z q k⟩
theorem DT.of {e : Expr} {te : L2.TT} {t : TTD} (h : PT X e te) (i : ∀ σ H as S ρ Xq Qd Q, Zt CT E σ H as S ρ Xq → t Xq ρ S Qd → KT CT as S H Qd Q → te σ H Q) : DT CT E X e t :=
  ⟨h.imp fun σ H Q ⟨as, S, ρ, Xq, Qd, z, q, k⟩ => i σ H as S ρ Xq Qd Q z q k⟩
theorem DW.of {e : Expr} {te : L2.TT} {t : TTD} (h : PW X e te) (i : ∀ σ H as S ρ Xq Qd Q, Zt CT E σ H as S ρ Xq → t Xq ρ S Qd → KT CT as S H Qd Q → te σ H Q) : DW CT E X e t :=
  ⟨h.imp fun σ H Q ⟨as, S, ρ, Xq, Qd, z, q, k⟩ => i σ H as S ρ Xq Qd Q z q k⟩
theorem DA.of {e : List Expr} {te : TA} {t : TAD} (h : PA X e te) (i : ∀ σ H as S ρ Xq Qd Q, Zt CT E σ H as S ρ Xq → t Xq ρ S Qd → KA CT as S H Qd Q → te σ H Q) : DA CT E X e t :=
  ⟨h.imp fun σ H Q ⟨as, S, ρ, Xq, Qd, z, q, k⟩ => i σ H as S ρ Xq Qd Q z q k⟩
theorem DS.of {e : Stmt} {ts : TS} {t : TSD} (h : PS X e ts) (i : ∀ σ H as S ρ De D, Zt CT E σ H as S ρ De.ex → t De ρ S → KS CT as S H De D → ts D σ H) : DS CT E X e t :=
  ⟨h.imp fun D σ H ⟨as, S, ρ, De, z, q, k⟩ => i σ H as S ρ De D z q k⟩
theorem DSs.of {e : List Stmt} {ts : TS} {t : TSD} (h : PSs X e ts) (i : ∀ σ H as S ρ De D, Zt CT E σ H as S ρ De.ex → t De ρ S → KS CT as S H De D → ts D σ H) : DSs CT E X e t :=
  ⟨h.imp fun D σ H ⟨as, S, ρ, De, z, q, k⟩ => i σ H as S ρ De D z q k⟩

/-! ### names, constants -/
def dVar (i : Nat) : TED := fun _ ρ S Q => ∃ d, ρ[i]? = some (some d) ∧ Q d S
def dC (x : V) : TED := fun _ _ S Q => Q (.t (.v x)) S
theorem de_var {e : Expr} {i : Nat} (h : PE X e (tVar i)) : DE CT E X e (dVar i) := .of h fun σ H as S ρ Xq Qd Q z ⟨d, e1, q⟩ k => by
  obtain ⟨y, h1, h2⟩ := z.en.2 i d e1
  exact ⟨y, h1, k.here z.st h2 q⟩
theorem de_c {e : Expr} {x : V} (h : PE X e (tC x)) : DE CT E X e (dC x) := .of h fun σ H as S ρ Xq Qd Q z q k => k.sc z.st q

/-! ### operators on values -/
abbrev R2D := D → D → Store → (D → Store → Prop) → Prop
abbrev R1D := D → Store → (D → Store → Prop) → Prop
abbrev RAD := List D → Store → (D → Store → Prop) → Prop
def Br2 (CT : TTs) (rh : R2) (r : R2D) : Prop := ∀ as S H x y dx dy Qd Q, StOk CT as S H → RepD as (Live as S) H dx x → RepD as (Live as S) H dy y → r dx dy S Qd → KE CT as S H Qd Q → rh x y H Q
def Br1 (CT : TTs) (rh : V → Hp → VK → Prop) (r : R1D) : Prop := ∀ as S H x dx Qd Q, StOk CT as S H → RepD as (Live as S) H dx x → r dx S Qd → KE CT as S H Qd Q → rh x H Q
def BrA (CT : TTs) (rh : List V → Hp → VK → Prop) (r : RAD) : Prop := ∀ as S H xs ds Qd Q, StOk CT as S H → RepDs as (Live as S) H ds xs → r ds S Qd → KE CT as S H Qd Q → rh xs H Q
def dOp (r : R2D) (a b : TED) : TED := fun X ρ S Q => a X ρ S fun x S1 => b X ρ S1 fun y S2 => r x y S2 Q
def dUn (r : R1D) (a : TED) : TED := fun X ρ S Q => a X ρ S fun x S1 => r x S1 Q
theorem tOp_of {rh : R2} {r : R2D} {ta tb : TED} (br : Br2 CT rh r) {σ H as S ρ Xq Qd Q} (z : Zt CT E σ H as S ρ Xq) (q : dOp r ta tb Xq ρ S Qd) (k : KE CT as S H Qd Q) : tOp rh (lift CT E ta) (lift CT E tb) σ H Q :=
  ⟨as, S, ρ, Xq, _, z, q, fun as1 S1 H1 dx x o1 s1 rx q1 => ⟨as1, S1, ρ, Xq, _, z.on o1 s1, q1, fun as2 S2 H2 dy y o2 s2 ry q2 => br as2 S2 H2 x y dx dy Qd Q s2 (o2.rep rx) ry q2 (k.on (o1.trans o2))⟩⟩
theorem de_op {a b : Expr} {ta tb : TED} {op : Operator} {pos : Pos} {rh : R2} {r : R2D} (ho : OpR X (binaryOp op) rh) (br : Br2 CT rh r) (ha : DE CT E X a ta) (hb : DE CT E X b tb) : DE CT E X (.BinOp a op b pos) (dOp r ta tb) :=
  .of (pe_op ho ha.pe hb.pe) fun σ H as S ρ Xq Qd Q z q k => tOp_of br z q k
theorem de_cmp {a b : Expr} {ta tb : TED} {op : CmpOp} {pos : Pos} {rh : R2} {r : R2D} (ho : OpR X (compareOp op) rh) (br : Br2 CT rh r) (ha : DE CT E X a ta) (hb : DE CT E X b tb) (hm : behindInMarks op b = false) : DE CT E X (.Compare a [op] [b] pos) (dOp r ta tb) :=
  .of (pe_cmpR ho ha.pe hb.pe hm) fun σ H as S ρ Xq Qd Q z q k => tOp_of br z q k
theorem de_un {a : Expr} {ta : TED} {op : UnaryOp} {pos : Pos} {rh : V → Hp → VK → Prop} {r : R1D} (ho : UnR X (unaryOp op) rh) (br : Br1 CT rh r) (ha : DE CT E X a ta) : DE CT E X (.UnaryOp op a pos) (dUn r ta) :=
  .of (pe_un ho ha.pe) fun σ H as S ρ Xq Qd Q z q k => ⟨as, S, ρ, Xq, _, z, q, fun as1 S1 H1 dx x o1 s1 rx q1 => br as1 S1 H1 x dx Qd Q s1 rx q1 (k.on o1)⟩

/-! ### tests -/
/-- an expression that gives a bool, as a test -/
def dB (t : TED) : TTD := fun X ρ S Q => t X ρ S fun d S1 => ∃ c, d = .t (.v (.bl c)) ∧ Q c S1
theorem dt_val {e : Expr} {t : TED} (h : DE CT E X e t) (he : ∀ whole, isTrue e X.env whole = (do let v ← whole; standAt e.pos; holding [v] (truthy v)) := by intro _; rfl) : DT CT E X e (dB t) :=
  .of (pt_val h.pe he) fun σ H as S ρ Xq Qd Q z q k => ⟨as, S, ρ, Xq, _, z, q, fun as1 S1 H1 d y o1 s1 r ⟨c, e1, q1⟩ => by
    subst e1
    exact ⟨c, r, k as1 S1 H1 c o1 s1 q1⟩⟩
theorem dt_cmp {a b : Expr} {ta tb : TED} {op : CmpOp} {pos : Pos} {rh : R2} {r : R2D} (ho : OpR X (compareOp op) rh) (br : Br2 CT rh r) (ha : DE CT E X a ta) (hb : DE CT E X b tb) (hm : behindInMarks op b = false) : DT CT E X (.Compare a [op] [b] pos) (dB (dOp r ta tb)) :=
  .of (pt_cmpR ho ha.pe hb.pe hm) fun σ H as S ρ Xq Qd Q z q k => tOp_of br z q fun as1 S1 H1 d y o1 s1 r ⟨c, e1, q1⟩ => by
    subst e1
    exact ⟨c, r, k as1 S1 H1 c o1 s1 q1⟩
def dAndT (t u : TTD) : TTD := fun X ρ S Q => t X ρ S fun c S1 => if c = true then u X ρ S1 Q else Q false S1
def dOrT (t u : TTD) : TTD := fun X ρ S Q => t X ρ S fun c S1 => if c = true then Q true S1 else u X ρ S1 Q
def dNotT (t : TTD) : TTD := fun X ρ S Q => t X ρ S fun c S1 => Q (!c) S1
theorem dw_and1 {a : Expr} {pos : Pos} {t : TTD} (h : DT CT E X a t) : DW CT E X (.BoolOp .And [a] pos) t := ⟨pw_and1 h.pt⟩
theorem dw_or1 {a : Expr} {pos : Pos} {t : TTD} (h : DT CT E X a t) : DW CT E X (.BoolOp .Or [a] pos) t := ⟨pw_or1 h.pt⟩
theorem dw_and {a b : Expr} {rest : List Expr} {pos : Pos} {t u : TTD} (ha : DT CT E X a t) (hb : DW CT E X (.BoolOp .And (b :: rest) pos) u) : DW CT E X (.BoolOp .And (a :: b :: rest) pos) (dAndT t u) :=
  .of (pw_and ha.pt hb.pw) fun σ H as S ρ Xq Qd Q z q k => ⟨as, S, ρ, Xq, _, z, q, fun as1 S1 H1 c o1 s1 q1 => by
    cases c with
    | true => exact ⟨as1, S1, ρ, Xq, Qd, z.on o1 s1, q1, k.on o1⟩
    | false => exact k as1 S1 H1 false o1 s1 q1⟩
theorem dw_or {a b : Expr} {rest : List Expr} {pos : Pos} {t u : TTD} (ha : DT CT E X a t) (hb : DW CT E X (.BoolOp .Or (b :: rest) pos) u) : DW CT E X (.BoolOp .Or (a :: b :: rest) pos) (dOrT t u) :=
  .of (pw_or ha.pt hb.pw) fun σ H as S ρ Xq Qd Q z q k => ⟨as, S, ρ, Xq, _, z, q, fun as1 S1 H1 c o1 s1 q1 => by
    cases c with
    | false => exact ⟨as1, S1, ρ, Xq, Qd, z.on o1 s1, q1, k.on o1⟩
    | true => exact k as1 S1 H1 true o1 s1 q1⟩
theorem DW.dt {e : Expr} {t : TTD} (h : DW CT E X e t) : DT CT E X e t := ⟨h.pw.pt⟩
theorem dt_not {a : Expr} {pos : Pos} {t : TTD} (h : DT CT E X a t) : DT CT E X (.UnaryOp .Not a pos) (dNotT t) :=
  .of (pt_not h.pt) fun σ H as S ρ Xq Qd Q z q k => ⟨as, S, ρ, Xq, _, z, q, fun as1 S1 H1 c o1 s1 q1 => k as1 S1 H1 (!c) o1 s1 q1⟩
/-! .. as values, bools -/
def dAndV (a b : TED) : TED := fun X ρ S Q => a X ρ S fun x S1 => ∃ c, x = .t (.v (.bl c)) ∧ if c = true then b X ρ S1 Q else Q (.t (.v (.bl false))) S1
def dOrV (a b : TED) : TED := fun X ρ S Q => a X ρ S fun x S1 => ∃ c, x = .t (.v (.bl c)) ∧ if c = true then Q (.t (.v (.bl true))) S1 else b X ρ S1 Q
def dNotV (a : TED) : TED := fun X ρ S Q => a X ρ S fun x S1 => ∃ c, x = .t (.v (.bl c)) ∧ Q (.t (.v (.bl (!c)))) S1
theorem de_one {op} {a : Expr} {pos : Pos} {t : TED} (h : DE CT E X a t) : DE CT E X (.BoolOp op [a] pos) t := ⟨pe_one h.pe⟩
theorem de_and {a b : Expr} {rest : List Expr} {pos : Pos} {ta tb : TED} (ha : DE CT E X a ta) (hb : DE CT E X (.BoolOp .And (b :: rest) pos) tb) : DE CT E X (.BoolOp .And (a :: b :: rest) pos) (dAndV ta tb) :=
  .of (pe_and ha.pe hb.pe) fun σ H as S ρ Xq Qd Q z q k => ⟨as, S, ρ, Xq, _, z, q, fun as1 S1 H1 d y o1 s1 r ⟨c, e1, q1⟩ => by
    subst e1
    refine ⟨c, r, ?_⟩
    cases c with
    | true => exact ⟨as1, S1, ρ, Xq, Qd, z.on o1 s1, q1, k.on o1⟩
    | false => exact (k.on o1).sc s1 q1⟩
theorem de_or {a b : Expr} {rest : List Expr} {pos : Pos} {ta tb : TED} (ha : DE CT E X a ta) (hb : DE CT E X (.BoolOp .Or (b :: rest) pos) tb) : DE CT E X (.BoolOp .Or (a :: b :: rest) pos) (dOrV ta tb) :=
  .of (pe_or ha.pe hb.pe) fun σ H as S ρ Xq Qd Q z q k => ⟨as, S, ρ, Xq, _, z, q, fun as1 S1 H1 d y o1 s1 r ⟨c, e1, q1⟩ => by
    subst e1
    refine ⟨c, r, ?_⟩
    cases c with
    | false => exact ⟨as1, S1, ρ, Xq, Qd, z.on o1 s1, q1, k.on o1⟩
    | true => exact (k.on o1).sc s1 q1⟩
theorem de_not {a : Expr} {pos : Pos} {ta : TED} (ha : DE CT E X a ta) : DE CT E X (.UnaryOp .Not a pos) (dNotV ta) :=
  .of (pe_not ha.pe) fun σ H as S ρ Xq Qd Q z q k => ⟨as, S, ρ, Xq, _, z, q, fun as1 S1 H1 d y o1 s1 r ⟨c, e1, q1⟩ => by
    subst e1
    exact ⟨c, r, (k.on o1).sc s1 q1⟩⟩
def dIf (t : TTD) (a b : TED) : TED := fun X ρ S Q => t X ρ S fun c S1 => if c = true then a X ρ S1 Q else b X ρ S1 Q
theorem de_if {c a b : Expr} {pos : Pos} {t : TTD} {ta tb : TED} (hc : DT CT E X c t) (ha : DE CT E X a ta) (hb : DE CT E X b tb) : DE CT E X (.IfExp c a b pos) (dIf t ta tb) :=
  .of (pe_ifExp hc.pt ha.pe hb.pe) fun σ H as S ρ Xq Qd Q z q k => ⟨as, S, ρ, Xq, _, z, q, fun as1 S1 H1 c o1 s1 q1 => by
    cases c with
    | true => exact ⟨as1, S1, ρ, Xq, Qd, z.on o1 s1, q1, k.on o1⟩
    | false => exact ⟨as1, S1, ρ, Xq, Qd, z.on o1 s1, q1, k.on o1⟩⟩

/-! ### argument lists, displays -/
def dNil : TAD := fun _ _ S Q => Q [] S
def dCons (a : TED) (r : TAD) : TAD := fun X ρ S Q => a X ρ S fun x S1 => r X ρ S1 fun xs S2 => Q (x :: xs) S2
theorem da_nil : DA CT E X [] dNil := .of pa_nil fun σ H as S ρ Xq Qd Q z q k => k as S H [] [] (On.refl _ _ _) z.st .nil q
theorem da_cons {e : Expr} {es : List Expr} {t : TED} {r : TAD} (h : DE CT E X e t) (hr : DA CT E X es r) (hs : starEach (e :: es) X.env = (false, eval e X.env) :: starEach es X.env := by rfl) : DA CT E X (e :: es) (dCons t r) :=
  .of (pa_cons h.pe hr.pa hs) fun σ H as S ρ Xq Qd Q z q k => ⟨as, S, ρ, Xq, _, z, q, fun as1 S1 H1 dx x o1 s1 rx q1 => ⟨as1, S1, ρ, Xq, _, z.on o1 s1, q1, fun as2 S2 H2 ds ys o2 s2 rs q2 =>
    k as2 S2 H2 _ _ (o1.trans o2) s2 (.cons (o2.rep rx) rs) q2⟩⟩
/-- trees out of data -/
def asTs : List D → Option (List T)
  | [] => some []
  | .t x :: r => (asTs r).map (x :: ·)
  | .m _ :: _ => none
theorem repL_of {as : List Addr} {L : Addr → Prop} {H : Hp} : ∀ {ds : List D} {ts : List T} {xs : List V}, asTs ds = some ts → RepDs as L H ds xs → RepL L H ts xs
  | [], ts, xs, e, h => by cases e; cases h; rfl
  | .t x :: r, ts, xs, e, h => by
    unfold asTs at e
    cases q : asTs r with
    | none => rw [q] at e; cases e
    | some us =>
      rw [q] at e; cases e
      cases h with
      | cons h1 h2 => exact ⟨_, _, rfl, h1, repL_of q h2⟩
  | .m i :: r, ts, xs, e, h => by cases e
theorem repDs_of {as : List Addr} {L : Addr → Prop} {H : Hp} : ∀ {ts : List T} {xs : List V}, RepL L H ts xs → RepDs as L H (ts.map .t) xs
  | [], xs, h => by
    have h : xs = [] := h
    subst h; exact .nil
  | t :: ts, xs, h => by
    obtain ⟨y, ys, e, h1, h2⟩ := h
    subst e
    exact .cons h1 (repDs_of h2)
theorem asTs_map (ts : List T) : asTs (ts.map .t) = some ts := by
  induction ts with
  | nil => rfl
  | cons t ts ih => simp [asTs, ih]
theorem repL_len {L : Addr → Prop} {H : Hp} : ∀ {ts : List T} {xs : List V}, RepL L H ts xs → xs.length = ts.length
  | [], xs, h => by
    have h : xs = [] := h
    subst h; rfl
  | t :: ts, xs, h => by
    obtain ⟨y, ys, e, h1, h2⟩ := h
    subst e
    simp [repL_len h2]
/-- a new tree at a fresh address -/
theorem new_lst {as : List Addr} {S : Store} {H : Hp} {ts : List T} {xs : List V} {p : Addr} {Qd : D → Store → Prop} {Q : VK} (st : StOk CT as S H) (r : RepL (Live as S) H ts xs) (k : KE CT as S H Qd Q) (hp : H p = none) (q : Qd (.t (.lst ts)) S) : Q (.ref p) (upd H p (.lst xs)) := by
  obtain ⟨s1, o1⟩ := st.new (o := .lst xs) hp
  refine k as S _ (.t (.lst ts)) _ o1 s1 ⟨p, xs, rfl, fun l => st.live_there l hp, upd_same, RepL.ext o1.ext ts xs r⟩ q
theorem new_tup {as : List Addr} {S : Store} {H : Hp} {ts : List T} {xs : List V} {p : Addr} {Qd : D → Store → Prop} {Q : VK} (st : StOk CT as S H) (r : RepL (Live as S) H ts xs) (k : KE CT as S H Qd Q) (hp : H p = none) (q : Qd (.t (.tup ts)) S) : Q (.ref p) (upd H p (.tup xs)) := by
  obtain ⟨s1, o1⟩ := st.new (o := .tup xs) hp
  refine k as S _ (.t (.tup ts)) _ o1 s1 ⟨p, xs, rfl, fun l => st.live_there l hp, upd_same, RepL.ext o1.ext ts xs r⟩ q
theorem new_cell {as : List Addr} {S : Store} {H : Hp} {ds : List D} {xs : List V} {p : Addr} {Qd : D → Store → Prop} {Q : VK} (st : StOk CT as S H) (r : RepDs as (Live as S) H ds xs) (k : KE CT as S H Qd Q) (hp : H p = none) (q : Qd (.m S.length) (S ++ [.lst ds])) : Q (.ref p) (upd H p (.lst xs)) := by
  obtain ⟨s1, o1⟩ := st.cellNew (c := .lst ds) (o := .lst xs) hp fun o => ⟨xs, upd_same, o.reps r⟩
  exact k _ _ _ (.m S.length) _ o1 s1 ⟨p, by rw [← st.len, List.getElem?_append_right (Nat.le_refl _)]; simp, rfl⟩ q
def dTup (t : TAD) : TED := fun X ρ S Q => t X ρ S fun ds S1 => ds.length ≤ sizeLine ∧ ∃ ts, asTs ds = some ts ∧ Q (.t (.tup ts)) S1
def dLst (t : TAD) : TED := fun X ρ S Q => t X ρ S fun ds S1 => ds.length ≤ sizeLine ∧ ∃ ts, asTs ds = some ts ∧ Q (.t (.lst ts)) S1
/-- a list display that is to be changed: a new cell -/
def dLstM (t : TAD) : TED := fun X ρ S Q => t X ρ S fun ds S1 => ds.length ≤ sizeLine ∧ Q (.m S1.length) (S1 ++ [.lst ds])
theorem de_tup {es : List Expr} {x1} {pos : Pos} {t : TAD} (h : DA CT E X es t) : DE CT E X (.Tuple es x1 pos) (dTup t) :=
  .of (pe_tup h.pa) fun σ H as S ρ Xq Qd Q z q k => ⟨as, S, ρ, Xq, _, z, q, fun as1 S1 H1 ds ys o1 s1 r ⟨hl, ts, ht, q1⟩ => ⟨by rw [← Paired.length r]; exact hl, fun p hp => new_tup s1 (repL_of ht r) (k.on o1) hp q1⟩⟩
theorem de_lst {es : List Expr} {pos : Pos} {t : TAD} (h : DA CT E X es t) : DE CT E X (.List es pos) (dLst t) :=
  .of (pe_lst h.pa) fun σ H as S ρ Xq Qd Q z q k => ⟨as, S, ρ, Xq, _, z, q, fun as1 S1 H1 ds ys o1 s1 r ⟨hl, ts, ht, q1⟩ => ⟨by rw [← Paired.length r]; exact hl, fun p hp => new_lst s1 (repL_of ht r) (k.on o1) hp q1⟩⟩
theorem de_lstM {es : List Expr} {pos : Pos} {t : TAD} (h : DA CT E X es t) : DE CT E X (.List es pos) (dLstM t) :=
  .of (pe_lst h.pa) fun σ H as S ρ Xq Qd Q z q k => ⟨as, S, ρ, Xq, _, z, q, fun as1 S1 H1 ds ys o1 s1 r ⟨hl, q1⟩ => ⟨by rw [← Paired.length r]; exact hl, fun p hp => new_cell s1 r (k.on o1) hp q1⟩⟩

/-! ### calls of built-ins, their methods -/
def dCB (r : RAD) (t : TAD) : TED := fun X ρ S Q => t X ρ S fun ds S1 => r ds S1 Q
theorem de_cb {e : Expr} {rh : List V → Hp → VK → Prop} {r : RAD} {t : TAD} (h : PE X e (tCB rh (liftA CT E t))) (br : BrA CT rh r) : DE CT E X e (dCB r t) :=
  .of h fun σ H as S ρ Xq Qd Q z q k => ⟨as, S, ρ, Xq, _, z, q, fun as1 S1 H1 ds ys o1 s1 r q1 => br as1 S1 H1 ys ds Qd Q s1 r q1 (k.on o1)⟩
/-- ty: of which built-in type the object is -/
def BrTy (CT : TTs) (K : PySem.W.Frag) (T : String) (ty : D → Store → Prop) : Prop := ∀ as S H d x, StOk CT as S H → RepD as (Live as S) H d x → ty d S → tyV K T x H
def BrM (CT : TTs) (rh : V → List V → Hp → VK → Prop) (r : D → RAD) : Prop := ∀ as S H x d xs ds Qd Q, StOk CT as S H → RepD as (Live as S) H d x → RepDs as (Live as S) H ds xs → r d ds S Qd → KE CT as S H Qd Q → rh x xs H Q
def dBM (ty : D → Store → Prop) (r : D → RAD) (o : TED) (t : TAD) : TED := fun X ρ S Q => o X ρ S fun d S1 => ty d S1 ∧ t X ρ S1 fun ds S2 => r d ds S2 Q
theorem de_bm {e : Expr} {Ty : String} {rh : V → List V → Hp → VK → Prop} {ty : D → Store → Prop} {r : D → RAD} {o : TED} {t : TAD} (h : PE X e (tBM X.K Ty rh (lift CT E o) (liftA CT E t))) (bt : BrTy CT X.K Ty ty) (br : BrM CT rh r) : DE CT E X e (dBM ty r o t) :=
  .of h fun σ H as S ρ Xq Qd Q z q k => ⟨as, S, ρ, Xq, _, z, q, fun as1 S1 H1 d x o1 s1 rx ⟨ht, q1⟩ => ⟨bt as1 S1 H1 d x s1 rx ht, as1, S1, ρ, Xq, _, z.on o1 s1, q1, fun as2 S2 H2 ds ys o2 s2 r2 q2 =>
    br as2 S2 H2 x d ys ds Qd Q s2 (o2.rep rx) r2 q2 (k.on (o1.trans o2))⟩⟩
theorem de_bm0 {e : Expr} {Ty : String} {rh : V → List V → Hp → VK → Prop} {ty : D → Store → Prop} {r : D → RAD} {o : TED} (h : PE X e (tBM0 X.K Ty rh (lift CT E o))) (bt : BrTy CT X.K Ty ty) (br : BrM CT rh r) : DE CT E X e (dBM ty r o dNil) :=
  .of h fun σ H as S ρ Xq Qd Q z q k => ⟨as, S, ρ, Xq, _, z, q, fun as1 S1 H1 d x o1 s1 rx ⟨ht, q1⟩ => ⟨bt as1 S1 H1 d x s1 rx ht, br as1 S1 H1 x d [] [] Qd Q s1 rx .nil q1 (k.on o1)⟩⟩

/-! ### statements -/
def sNext : TSD := fun De ρ S => De.nx ρ S
def sSeq (t u : TSD) : TSD := fun De ρ S => t { De with nx := u De } ρ S
theorem dss_nil : DSs CT E X [] sNext := .of pss_nil fun σ H as S ρ De D z q k => k.nx as S H σ ρ (On.refl _ _ _) z.st z.en q
theorem dss_cons {st : Stmt} {rest : List Stmt} {t u : TSD} (h1 : DS CT E X st t) (h2 : DSs CT E X rest u) : DSs CT E X (st :: rest) (sSeq t u) :=
  .of (pss_cons h1.ps h2.ps) fun σ H as S ρ De D z q k => ⟨as, S, ρ, { De with nx := u De }, z, q,
    { nx := fun as' S' H' σ' ρ' o s en q => ⟨as', S', ρ', De, ⟨s, en, z.ex.on o⟩, q, k.on o⟩, rt := k.rt, bk := k.bk, ct := k.ct }⟩
theorem dss_one {st : Stmt} {t : TSD} (h1 : DS CT E X st t) : DSs CT E X [st] t := ⟨pss_one h1.ps⟩
def sBreak : TSD := fun De ρ S => De.bk ρ S
def sCont : TSD := fun De ρ S => De.ct ρ S
theorem ds_pass {pos : Pos} : DS CT E X (.Pass pos) sNext := .of ps_pass fun σ H as S ρ De D z q k => k.nx as S H σ ρ (On.refl _ _ _) z.st z.en q
theorem ds_break {pos : Pos} : DS CT E X (.Break pos) sBreak := .of ps_break fun σ H as S ρ De D z q k => k.bk as S H σ ρ (On.refl _ _ _) z.st z.en q
theorem ds_continue {pos : Pos} : DS CT E X (.Continue pos) sCont := .of ps_continue fun σ H as S ρ De D z q k => k.ct as S H σ ρ (On.refl _ _ _) z.st z.en q
def sDrop (t : TED) : TSD := fun De ρ S => t De.ex ρ S fun _ S1 => De.nx ρ S1
theorem ds_expr {e : Expr} {t : TED} {pos : Pos} (h : DE CT E X e t) (hs : swapsWith e none pos.line X.env = pure false := by rfl) : DS CT E X (.Expr e pos) (sDrop t) :=
  .of (ps_expr h.pe hs) fun σ H as S ρ De D z q k => ⟨as, S, ρ, De.ex, _, z, q, fun as1 S1 H1 d y o1 s1 r q1 => k.nx as1 S1 H1 σ ρ o1 s1 (o1.env z.en) q1⟩
def sRet (t : TED) : TSD := fun De ρ S => t De.ex ρ S De.rt
theorem ds_ret {e : Expr} {t : TED} {pos : Pos} (h : DE CT E X e t) : DS CT E X (.Return (some e) pos) (sRet t) :=
  .of (ps_ret h.pe) fun σ H as S ρ De D z q k => ⟨as, S, ρ, De.ex, _, z, q, fun as1 S1 H1 d y o1 s1 r q1 => k.rt as1 S1 H1 d y o1 s1 r q1⟩
def sRetN : TSD := fun De ρ S => De.rt (.t (.v .non)) S
theorem ds_retN {pos : Pos} : DS CT E X (.Return none pos) sRetN := .of ps_retN fun σ H as S ρ De D z q k => k.rt as S H (.t (.v .non)) .non (On.refl _ _ _) z.st (by show V.non = V.non; rfl) q
def sIf (c : TTD) (t u : TSD) : TSD := fun De ρ S => c De.ex ρ S fun b S1 => if b = true then t De ρ S1 else u De ρ S1
theorem ds_if {c : Expr} {a b : List Stmt} {tc : TTD} {t u : TSD} {pos : Pos} (hc : DT CT E X c tc) (ha : DSs CT E X a t) (hb : DSs CT E X b u) : DS CT E X (.If c a b pos) (sIf tc t u) :=
  .of (ps_if hc.pt ha.ps hb.ps) fun σ H as S ρ De D z q k => ⟨as, S, ρ, De.ex, _, z, q, fun as1 S1 H1 c o1 s1 q1 => by
    cases c with
    | true => exact ⟨as1, S1, ρ, De, z.on o1 s1, q1, k.on o1⟩
    | false => exact ⟨as1, S1, ρ, De, z.on o1 s1, q1, k.on o1⟩⟩
def sNever : TSD := fun _ _ _ => False
theorem ds_never {st : Stmt} : DS CT E X st sNever := .of ps_never fun σ H as S ρ De D z q k => q.elim
theorem dss_never {st : List Stmt} : DSs CT E X st sNever := .of pss_never fun σ H as S ρ De D z q k => q.elim
/-! ### targets -/
def gVar (i : Nat) : TGD := fun d _ ρ S Q => Q (ρ.set i (some d)) S
theorem dg_name {e : Expr} {i : Nat} (h : PG X e (gName i)) : DG CT E X e (gVar i) := ⟨h.imp fun v σ H Q ⟨as, S, ρ, Xq, d, Qd, z, r, q, k⟩ => k as S H _ _ (On.refl _ _ _) z.st (z.en.set r) q⟩
def sAsg (t : TED) (g : TGD) : TSD := fun De ρ S => t De.ex ρ S fun d S1 => g d De.ex ρ S1 De.nx
theorem ds_asg {tg e : Expr} {pos : Pos} {t : TED} {g : TGD} (h : PS X (.Assign [tg] e pos) (tAsg (lift CT E t) (liftG CT E g))) : DS CT E X (.Assign [tg] e pos) (sAsg t g) :=
  .of h fun σ H as S ρ De D z q k => ⟨as, S, ρ, De.ex, _, z, q, fun as1 S1 H1 d y o1 s1 r q1 => ⟨as1, S1, ρ, De.ex, d, De.nx, z.on o1 s1, r, q1, fun as2 S2 H2 σ2 ρ2 o2 s2 en q2 => k.nx as2 S2 H2 σ2 ρ2 (o1.trans o2) s2 en q2⟩⟩
theorem ds_set {e : Expr} {x : Str} {p pos : Pos} {i : Nat} {t : TED} (h : PS X (.Assign [.Name x p] e pos) (tAsg (lift CT E t) (gName i))) : DS CT E X (.Assign [.Name x p] e pos) (sAsg t (gVar i)) :=
  .of h fun σ H as S ρ De D z q k => ⟨as, S, ρ, De.ex, _, z, q, fun as1 S1 H1 d y o1 s1 r q1 => k.nx as1 S1 H1 _ _ o1 s1 ((o1.env z.en).set r) q1⟩
/-! ### while -/
def sWhile (c : TTD) (tb : TSD) : TSD := fun De ρ S => ∃ W : Nat → Env → Store → Prop, (∃ m, W m ρ S) ∧ ∀ m ρ S, W m ρ S →
  c De.ex ρ S fun b S1 => if b = true then ∃ N : Env → Store → Prop, (∀ ρ' S', N ρ' S' → ∃ m', m' < m ∧ W m' ρ' S') ∧ tb { De with nx := N, ct := N, bk := De.nx } ρ S1 else De.nx ρ S1
theorem ds_while {c : Expr} {body : List Stmt} {tc : TTD} {tb : TSD} {pos : Pos} (hp : PassesOwn (model X.prog X.w) X.A X.env X.xe) (hc : DT CT E X c tc) (hb : DSs CT E X body tb) : DS CT E X (.While c body [] pos) (sWhile tc tb) :=
  .of (ps_while hp hc.pt hb.ps) fun σ H as S ρ De D z ⟨W, ⟨m0, w0⟩, turn⟩ k => by
    refine ⟨fun m σ' H' => ∃ as' S' ρ', On as S H as' S' H' ∧ Zt CT E σ' H' as' S' ρ' De.ex ∧ W m ρ' S', ⟨m0, as, S, ρ, On.refl _ _ _, z, w0⟩, ?_⟩
    rintro m σ1 H1 ⟨as1, S1, ρ1, o1, z1, w1⟩
    refine ⟨as1, S1, ρ1, De.ex, _, z1, turn m ρ1 S1 w1, fun as2 S2 H2 b o2 s2 q2 => ?_⟩
    cases b with
    | false => exact k.nx as2 S2 H2 σ1 ρ1 (o1.trans o2) s2 (o2.env z1.en) q2
    | true =>
      obtain ⟨N, hN, q2⟩ := q2
      refine ⟨fun σ' H' => ∃ as' S' ρ', On as S H as' S' H' ∧ Zt CT E σ' H' as' S' ρ' De.ex ∧ N ρ' S', ?_, ?_⟩
      · rintro σ' H' ⟨as', S', ρ', o', z', n'⟩
        obtain ⟨m', hm, w'⟩ := hN ρ' S' n'
        exact ⟨m', hm, as', S', ρ', o', z', w'⟩
      · refine ⟨as2, S2, ρ1, { De with nx := N, ct := N, bk := De.nx }, z1.on o2 s2, q2, ?_⟩
        have o12 := o1.trans o2
        exact { nx := fun as' S' H' σ' ρ' o s en q => ⟨as', S', ρ', o12.trans o, ⟨s, en, z1.ex.on (o2.trans o)⟩, q⟩, rt := (k.on o12).rt, bk := (k.on o12).nx, ct := fun as' S' H' σ' ρ' o s en q => ⟨as', S', ρ', o12.trans o, ⟨s, en, z1.ex.on (o2.trans o)⟩, q⟩ }
end
end DL
set_option Elab.async false
set_option linter.all false
set_option maxRecDepth 100000
/-! DL2: what a def promises over data; calls -/
namespace DL
open PySem PySem.Spec PyProof.Rows L2

/-- the arguments, the store; what follows; what is raised -/
abbrev FT := List D → Store → (D → Store → Prop) → (Ex → Prop) → Prop
def KX (CT : TTs) (E : XK) (as : List Addr) (S : Store) (H : Hp) (Ed : Ex → Prop) : Prop :=
  ∀ H' C dx fs ts, On as S H as S H' → StOk CT as S H' → H' dx = some (.xd fs) → RepFs as (Live as S) H' ts fs → Ed (C, ts) → E (.ref C) (some dx) H'
def spD (CT : TTs) (n : Nat) (ft : FT) : Sp := fun vs H Q E => ∃ as S ds Qd Ed, StOk CT as S H ∧ RepDs as (Live as S) H ds vs ∧ ds.length = n ∧ ft ds S Qd Ed ∧ KE CT as S H Qd Q ∧ KX CT E as S H Ed

/-! ### references -/
def refD (n : Nat) : D → Prop
  | .t _ => True
  | .m i => i < n
def refC (n : Nat) : Cell → Prop
  | .lst ds => ∀ d ∈ ds, refD n d
  | .dct kvs => ∀ p ∈ kvs, refD n p.2
  | .ins _ fs => ∀ p ∈ fs, refD n p.2
  | .tup ds => ∀ d ∈ ds, refD n d
  | .strmI => True
  | .strm _ => 0 < n
  | .fz _ => True
def ClosedS (n : Nat) (S : Store) : Prop := ∀ c ∈ S, refC n c
theorem refD_of {as : List Addr} {L : Addr → Prop} {H : Hp} : ∀ {d : D} {y : V}, RepD as L H d y → refD as.length d
  | .t _, _, _ => True.intro
  | .m i, _, ⟨a, h, _⟩ => (List.getElem?_eq_some_iff.mp h).1
theorem Paired.left {α β : Type} {F : α → β → Prop} : ∀ {l₁ : List α} {l₂ : List β}, Paired F l₁ l₂ → ∀ a ∈ l₁, ∃ b, F a b
  | _, _, .nil, a, h => by cases h
  | _, _, .cons r t, a, h => by
    rcases List.mem_cons.mp h with h | h
    · rw [h]; exact ⟨_, r⟩
    · exact Paired.left t a h
theorem StOk.closed {CT : TTs} {as : List Addr} {S : Store} {H : Hp} (st : StOk CT as S H) : ClosedS S.length S := fun c hc => by
  obtain ⟨i, hi⟩ := List.getElem?_of_mem hc
  obtain ⟨a, ha, ok⟩ := st.addr hi
  rw [← st.len]
  cases c with
  | lst ds => obtain ⟨xs, _, r⟩ := ok; exact fun d hd => let ⟨y, h⟩ := Paired.left r d hd; refD_of h
  | dct kvs => obtain ⟨xs, _, r⟩ := ok; exact fun d hd => let ⟨y, h⟩ := Paired.left r d hd; refD_of h.2
  | ins C fs => obtain ⟨dx, xs, _, r⟩ := ok; exact fun d hd => let ⟨y, h⟩ := Paired.left r d hd; refD_of h.2
  | tup ds => obtain ⟨xs, _, r⟩ := ok; exact fun d hd => let ⟨y, h⟩ := Paired.left r d hd; refD_of h
  | strmI => exact True.intro
  | strm b => obtain ⟨c, x, y, z, h0, _⟩ := ok; exact (List.getElem?_eq_some_iff.mp h0).1
  | fz t => exact True.intro
/-- fewer cells live -/
theorem Rep.weak {L L' : Addr → Prop} {H : Hp} (h : ∀ a, L' a → L a) {t : T} {y : V} (r : Rep L H t y) : Rep L' H t y := Rep.ext ⟨fun _ _ e _ _ => e, fun b l => .inl (h b l), fun _ e => e⟩ t y r
/-- the cells below n alone -/
theorem take_get {α : Type} {l : List α} {n i : Nat} {a : α} (h : (l.take n)[i]? = some a) : i < n ∧ l[i]? = some a := by
  have hi : i < (l.take n).length := (List.getElem?_eq_some_iff.mp h).1
  rw [List.length_take] at hi
  rw [List.getElem?_take_of_lt (by omega)] at h
  exact ⟨by omega, h⟩
theorem live_take {as : List Addr} {S : Store} {n : Nat} {a : Addr} (l : Live (as.take n) (S.take n) a) : Live as S a := by
  obtain ⟨i, c, h1, h2, h3⟩ := l
  exact ⟨i, c, (take_get h1).2, (take_get h2).2, h3⟩
theorem RepD.take {as : List Addr} {S : Store} {H : Hp} {n : Nat} : ∀ {d : D} {y : V}, refD n d → RepD as (Live as S) H d y → RepD (as.take n) (Live (as.take n) (S.take n)) H d y
  | .t _, _, _, r => Rep.weak (fun _ l => live_take l) r
  | .m i, _, h, ⟨a, e, q⟩ => ⟨a, by rw [List.getElem?_take_of_lt h]; exact e, q⟩
theorem Paired.both {α β : Type} {F G : α → β → Prop} : ∀ {l₁ : List α} {l₂ : List β}, Paired F l₁ l₂ → (∀ a ∈ l₁, ∀ b, F a b → G a b) → Paired G l₁ l₂
  | _, _, .nil, _ => .nil
  | _, _, .cons r t, h => .cons (h _ List.mem_cons_self _ r) (Paired.both t fun a ha => h a (List.mem_cons_of_mem _ ha))
theorem CellOk.take {as : List Addr} {S : Store} {H : Hp} {n : Nat} {a : Addr} : ∀ {c : Cell}, refC n c → CellOk as (Live as S) H a c → CellOk (as.take n) (Live (as.take n) (S.take n)) H a c
  | .lst ds, h, ⟨xs, e, r⟩ => ⟨xs, e, Paired.both r fun d hd y q => RepD.take (h d hd) q⟩
  | .dct kvs, h, ⟨xs, e, r⟩ => ⟨xs, e, Paired.both r fun d hd y q => ⟨q.1, RepD.take (h d hd) q.2⟩⟩
  | .ins C fs, h, ⟨dx, xs, e, r⟩ => ⟨dx, xs, e, Paired.both r fun d hd y q => ⟨q.1, RepD.take (h d hd) q.2⟩⟩
  | .tup ds, h, ⟨xs, e, r⟩ => ⟨xs, e, Paired.both r fun d hd y q => RepD.take (h d hd) q⟩
  | .strmI, _, h => h
  | .strm b, h, ⟨c, x, y, z, e, r⟩ => ⟨c, x, y, z, by rw [List.getElem?_take_of_lt h]; exact e, r⟩
  | .fz t, _, r => ⟨r.1, Rep.weak (fun _ l => live_take l) r.2⟩
theorem StOk.take {CT : TTs} {as : List Addr} {S : Store} {H : Hp} {n : Nat} (st : StOk CT as S H) (h : ClosedS n (S.take n)) : StOk CT (as.take n) (S.take n) H where
  tab := st.tab
  len := by rw [List.length_take, List.length_take, st.len]
  nd := st.nd.sublist (List.take_sublist _ _)
  there := fun i a e => st.there i a (take_get e).2
  cell := fun i a c e1 e2 => CellOk.take (h c (List.mem_of_getElem? e2)) (st.cell i a c (take_get e1).2 (take_get e2).2)
/-- back to n cells -/
theorem On.take {as as' : List Addr} {S S' : Store} {H H' : Hp} (o : On as S H as' S' H') {n : Nat} (hn : as.length = n) : as'.take n = as ∧ On as S H as (S'.take n) H' := by
  have e : as'.take n = as := by
    apply List.ext_getElem?
    intro i
    by_cases hi : i < n
    · rw [List.getElem?_take_of_lt hi]
      have : i < as.length := by omega
      rw [List.getElem?_eq_getElem this]
      exact o.pre i _ (List.getElem?_eq_getElem this)
    · rw [List.getElem?_eq_none (by rw [List.length_take]; omega), List.getElem?_eq_none (by omega)]
  refine ⟨e, ⟨⟨o.ext.keep, fun b l => o.ext.live b (live_take (n := n) (by rw [e]; exact l)), o.ext.dom⟩, fun _ _ h => h⟩⟩

/-! ### cells read as trees; only cells from n on may be in it -/
mutual
def frz (n : Nat) (S : Store) : Nat → D → Option T
  | _, .t x => some x
  | 0, .m _ => none
  | f + 1, .m i => match S[i]? with
    | some (.fz t) => some t
    | some (.lst ds) => if n ≤ i then (frzL n S f ds).map .lst else none
    | some (.dct kvs) => if n ≤ i then (frzK n S f kvs).map .dct else none
    | some (.ins C fs) => if n ≤ i then (frzF n S f fs).map (.ins C) else none
    | some (.tup ds) => if n ≤ i then (frzL n S f ds).map .tup else none
    | _ => none
def frzL (n : Nat) (S : Store) : Nat → List D → Option (List T)
  | _, [] => some []
  | f, d :: r => match frz n S f d, frzL n S f r with
    | some t, some ts => some (t :: ts)
    | _, _ => none
def frzK (n : Nat) (S : Store) : Nat → List (Key × D) → Option (List (Key × T))
  | _, [] => some []
  | f, (k, d) :: r => match frz n S f d, frzK n S f r with
    | some t, some ts => some ((k, t) :: ts)
    | _, _ => none
def frzF (n : Nat) (S : Store) : Nat → List (Str × D) → Option (List (Str × T))
  | _, [] => some []
  | f, (k, d) :: r => match frz n S f d, frzF n S f r with
    | some t, some ts => some ((k, t) :: ts)
    | _, _ => none
end
section
variable {CT : TTs} {as : List Addr} {S : Store} {H : Hp} {n : Nat}
theorem notLive {i : Nat} {a : Addr} (nd : as.Nodup) (h : n ≤ i) (e : as[i]? = some a) : ¬ Live (as.take n) (S.take n) a := fun ⟨j, c, h1, _⟩ => by
  obtain ⟨hj, h1⟩ := take_get h1
  have := nodup_ix nd e h1
  omega
mutual
theorem frz_ok (st : StOk CT as S H) : ∀ (f : Nat) (d : D) (t : T) (y : V), frz n S f d = some t → RepD as (Live as S) H d y → Rep (Live (as.take n) (S.take n)) H t y
  | f, .t x, t, y, e, r => by
    have e : x = t := by
      unfold frz at e
      exact Option.some.inj e
    subst e
    exact Rep.weak (fun _ l => live_take l) r
  | 0, .m i, t, y, e, r => by
    unfold frz at e
    cases e
  | f + 1, .m i, t, y, e, ⟨a, ha, ey⟩ => by
    subst ey
    obtain ⟨c, hc, ok⟩ := st.mem ha
    unfold frz at e
    rw [hc] at e
    cases c with
    | fz u =>
      cases e
      exact Rep.weak (fun _ l => live_take l) ok.2
    | lst ds =>
      have e : (if n ≤ i then (frzL n S f ds).map T.lst else none) = some t := e
      by_cases hi : n ≤ i
      · rw [if_pos hi] at e
        cases q : frzL n S f ds with
        | none => rw [q] at e; cases e
        | some ts =>
          rw [q] at e; cases e
          obtain ⟨xs, h1, h2⟩ := ok
          exact ⟨a, xs, rfl, notLive st.nd hi ha, h1, frzL_ok st f ds ts xs q h2⟩
      · rw [if_neg hi] at e; cases e
    | dct ds =>
      have e : (if n ≤ i then (frzK n S f ds).map T.dct else none) = some t := e
      by_cases hi : n ≤ i
      · rw [if_pos hi] at e
        cases q : frzK n S f ds with
        | none => rw [q] at e; cases e
        | some ts =>
          rw [q] at e; cases e
          obtain ⟨xs, h1, h2⟩ := ok
          exact ⟨a, xs, rfl, notLive st.nd hi ha, h1, frzK_ok st f ds ts xs q h2⟩
      · rw [if_neg hi] at e; cases e
    | ins C ds =>
      have e : (if n ≤ i then (frzF n S f ds).map (T.ins C) else none) = some t := e
      by_cases hi : n ≤ i
      · rw [if_pos hi] at e
        cases q : frzF n S f ds with
        | none => rw [q] at e; cases e
        | some ts =>
          rw [q] at e; cases e
          obtain ⟨dx, xs, h1, h2⟩ := ok
          exact ⟨a, dx, xs, rfl, notLive st.nd hi ha, h1, frzF_ok st f ds ts xs q h2⟩
      · rw [if_neg hi] at e; cases e
    | tup ds =>
      have e : (if n ≤ i then (frzL n S f ds).map T.tup else none) = some t := e
      by_cases hi : n ≤ i
      · rw [if_pos hi] at e
        cases q : frzL n S f ds with
        | none => rw [q] at e; cases e
        | some ts =>
          rw [q] at e; cases e
          obtain ⟨xs, h1, h2⟩ := ok
          exact ⟨a, xs, rfl, notLive st.nd hi ha, h1, frzL_ok st f ds ts xs q h2⟩
      · rw [if_neg hi] at e; cases e
    | strmI => cases e
    | strm b => cases e
theorem frzL_ok (st : StOk CT as S H) : ∀ (f : Nat) (ds : List D) (ts : List T) (xs : List V), frzL n S f ds = some ts → RepDs as (Live as S) H ds xs → RepL (Live (as.take n) (S.take n)) H ts xs
  | f, [], ts, xs, e, r => by
    have e : [] = ts := by
      unfold frzL at e
      exact Option.some.inj e
    subst e
    cases r
    rfl
  | f, d :: ds, ts, xs, e, r => by
    unfold frzL at e
    cases q1 : frz n S f d with
    | none => rw [q1] at e; cases e
    | some t =>
      cases q2 : frzL n S f ds with
      | none => rw [q1, q2] at e; cases e
      | some us =>
        rw [q1, q2] at e
        cases e
        cases r with
        | cons r1 r2 => exact ⟨_, _, rfl, frz_ok st f d t _ q1 r1, frzL_ok st f ds us _ q2 r2⟩
theorem frzK_ok (st : StOk CT as S H) : ∀ (f : Nat) (ds : List (Key × D)) (ts : List (Key × T)) (xs : List (Key × V)), frzK n S f ds = some ts → Paired (fun (p : Key × D) (q : Key × V) => p.1 = q.1 ∧ RepD as (Live as S) H p.2 q.2) ds xs → RepK (Live (as.take n) (S.take n)) H ts xs
  | f, [], ts, xs, e, r => by
    have e : [] = ts := by
      unfold frzK at e
      exact Option.some.inj e
    subst e
    cases r
    rfl
  | f, (k, d) :: ds, ts, xs, e, r => by
    unfold frzK at e
    cases q1 : frz n S f d with
    | none => rw [q1] at e; cases e
    | some t =>
      cases q2 : frzK n S f ds with
      | none => rw [q1, q2] at e; cases e
      | some us =>
        rw [q1, q2] at e
        cases e
        cases r with
        | @cons _ b _ _ r1 r2 =>
          obtain ⟨k', y⟩ := b
          obtain ⟨rk, r1⟩ := r1
          have rk : k = k' := rk
          subst rk
          exact ⟨_, _, rfl, frz_ok st f d t _ q1 r1, frzK_ok st f ds us _ q2 r2⟩
theorem frzF_ok (st : StOk CT as S H) : ∀ (f : Nat) (ds : List (Str × D)) (ts : List (Str × T)) (xs : List (Str × V)), frzF n S f ds = some ts → Paired (fun (p : Str × D) (q : Str × V) => p.1 = q.1 ∧ RepD as (Live as S) H p.2 q.2) ds xs → RepF (Live (as.take n) (S.take n)) H ts xs
  | f, [], ts, xs, e, r => by
    have e : [] = ts := by
      unfold frzF at e
      exact Option.some.inj e
    subst e
    cases r
    rfl
  | f, (k, d) :: ds, ts, xs, e, r => by
    unfold frzF at e
    cases q1 : frz n S f d with
    | none => rw [q1] at e; cases e
    | some t =>
      cases q2 : frzF n S f ds with
      | none => rw [q1, q2] at e; cases e
      | some us =>
        rw [q1, q2] at e
        cases e
        cases r with
        | @cons _ b _ _ r1 r2 =>
          obtain ⟨k', y⟩ := b
          obtain ⟨rk, r1⟩ := r1
          have rk : k = k' := rk
          subst rk
          exact ⟨_, _, rfl, frz_ok st f d t _ q1 r1, frzF_ok st f ds us _ q2 r2⟩
end
end

/-! ### how a def ends; n: the caller's cells -/
/-- the cells made stay -/
def rRaw (Q : D → Store → Prop) : D → Store → Prop := Q
/-- a tree is told, the cells made are given up -/
def rTree (n : Nat) (Q : D → Store → Prop) : D → Store → Prop := fun d S => ∃ t, frz n S (S.length + 1) d = some t ∧ ClosedS n (S.take n) ∧ Q (.t t) (S.take n)
/-- one cell is told, the other ones made are given up -/
def rTop (n : Nat) (Q : D → Store → Prop) : D → Store → Prop := fun d S => ∃ i c, d = .m i ∧ n ≤ i ∧ S[i]? = some c ∧ refC n c ∧ ClosedS n (S.take n) ∧ Q (.m n) (S.take n ++ [c])
inductive Mode | raw | tree | top
def Mode.rt (m : Mode) (n : Nat) (Q : D → Store → Prop) : D → Store → Prop := match m with
  | .raw => rRaw Q
  | .tree => rTree n Q
  | .top => rTop n Q
section
variable {CT : TTs} {as as' : List Addr} {S S' : Store} {H H' : Hp}
theorem refC_mono {n m : Nat} (h : n ≤ m) {c : Cell} (r : refC n c) : refC m c := by
  have rd : ∀ d, refD n d → refD m d := fun d q => by
    cases d with
    | t _ => exact True.intro
    | m i => exact Nat.lt_of_lt_of_le q h
  cases c with
  | lst ds => exact fun d hd => rd _ (r d hd)
  | dct kvs => exact fun d hd => rd _ (r d hd)
  | ins C fs => exact fun d hd => rd _ (r d hd)
  | tup ds => exact fun d hd => rd _ (r d hd)
  | strmI => exact True.intro
  | strm b => exact Nat.lt_of_lt_of_le (show 0 < n from r) h
  | fz t => exact True.intro
theorem mode_ok {m : Mode} {Qd : D → Store → Prop} {Q : VK} (k : KE CT as S H Qd Q) (hn : as.length = S.length) (o : On as S H as' S' H') (st : StOk CT as' S' H') {d : D} {y : V} (r : RepD as' (Live as' S') H' d y) (q : m.rt S.length Qd d S') : Q y H' := by
  cases m with
  | raw => exact k as' S' H' d y o st r q
  | tree =>
    obtain ⟨t, e, cl, q⟩ := q
    obtain ⟨e1, o1⟩ := o.take hn
    have st1 := st.take cl
    have rr := frz_ok st _ d t y e r
    rw [e1] at st1 rr
    exact k as _ H' (.t t) y o1 st1 rr q
  | top =>
    obtain ⟨i, c, rfl, hi, hc, rc, cl, q⟩ := q
    obtain ⟨e1, o1⟩ := o.take hn
    obtain ⟨a, ha, ok⟩ := st.addr hc
    obtain ⟨a', ha', ey⟩ := r
    rw [ha] at ha'
    cases ha'
    subst ey
    have st1 := st.take cl
    rw [e1] at st1
    have na : a ∉ as := fun hm => by
      obtain ⟨j, hj⟩ := List.getElem?_of_mem hm
      have := nodup_ix st.nd ha (o.pre j a hj)
      have := (List.getElem?_eq_some_iff.mp hj).1
      omega
    have hlen : (S'.take S.length).length = S.length := by rw [← st1.len, hn]
    -- the live ones of as ++ [a]
    have lv : ∀ b, Live (as ++ [a]) (S'.take S.length ++ [c]) b → Live as' S' b := fun b ⟨j, d, h1, h2, h3⟩ => by
      rcases get_app h1 with h1 | ⟨ej, eb⟩
      · rcases get_app h2 with h2 | ⟨ej, _⟩
        · exact live_take (n := S.length) ⟨j, d, by rw [e1]; exact h1, h2, h3⟩
        · have := (List.getElem?_eq_some_iff.mp h1).1
          omega
      · rcases get_app h2 with h2 | ⟨_, ed⟩
        · have := (List.getElem?_eq_some_iff.mp h2).1
          omega
        · rw [eb]; exact ⟨i, c, ha, hc, by rw [← ed]; exact h3⟩
    have wk : Ext (Live as' S') H' (Live (as ++ [a]) (S'.take S.length ++ [c])) H' := ⟨fun _ _ e _ _ => e, fun b l => .inl (lv b l), fun _ e => e⟩
    have fo : Ext (Live as S) H (Live (as ++ [a]) (S'.take S.length ++ [c])) H' := o.ext.trans wk
    -- references below n
    have rd : ∀ d y, refD S.length d → RepD as' (Live as' S') H' d y → RepD (as ++ [a]) (Live (as ++ [a]) (S'.take S.length ++ [c])) H' d y := fun d y hd r => by
      cases d with
      | t x => exact Rep.ext wk x y r
      | m j =>
        obtain ⟨b, hb, e⟩ := r
        have hj : j < as.length := by rw [hn]; exact hd
        refine ⟨b, ?_, e⟩
        rw [List.getElem?_append_left hj, ← e1, List.getElem?_take_of_lt hd]
        exact hb
    have ck : ∀ b c', refC S.length c' → CellOk as' (Live as' S') H' b c' → CellOk (as ++ [a]) (Live (as ++ [a]) (S'.take S.length ++ [c])) H' b c' := fun b c' hc' ok => by
      cases c' with
      | lst ds => obtain ⟨xs, e, r⟩ := ok; exact ⟨xs, e, Paired.both r fun d hd y q => rd d y (hc' d hd) q⟩
      | dct kvs => obtain ⟨xs, e, r⟩ := ok; exact ⟨xs, e, Paired.both r fun d hd y q => ⟨q.1, rd _ _ (hc' d hd) q.2⟩⟩
      | ins C fs => obtain ⟨dx, xs, e, r⟩ := ok; exact ⟨dx, xs, e, Paired.both r fun d hd y q => ⟨q.1, rd _ _ (hc' d hd) q.2⟩⟩
      | tup ds => obtain ⟨xs, e, r⟩ := ok; exact ⟨xs, e, Paired.both r fun d hd y q => rd d y (hc' d hd) q⟩
      | strmI => exact ok
      | strm b =>
        obtain ⟨c, x, y, z, e, r⟩ := ok
        refine ⟨c, x, y, z, ?_, r⟩
        have h0 : 0 < S.length := hc'
        rw [List.getElem?_append_left (by rw [hn]; exact h0), ← e1, List.getElem?_take_of_lt h0]
        exact e
      | fz t => exact ⟨ok.1, Rep.ext wk t _ ok.2⟩
    have pre : ∀ (j : Nat) b, as[j]? = some b → (as ++ [a])[j]? = some b := fun j b e => get_app_l e
    have onF : On as S H (as ++ [a]) (S'.take S.length ++ [c]) H' := ⟨fo, pre⟩
    refine k (as ++ [a]) _ H' (.m S.length) _ onF ⟨st.tab, by simp [hlen, hn], ?_, fun j b e => ?_, fun j b d e2 e3 => ?_⟩ ⟨a, by rw [← hn, List.getElem?_append_right (Nat.le_refl _)]; simp, rfl⟩ q
    · rw [List.nodup_append]
      refine ⟨st1.nd, by simp, fun x hx z hz => ?_⟩
      have hz : z = a := by simpa using hz
      rw [hz]
      exact fun h => na (by rw [← h]; exact hx)
    · rcases get_app e with e | ⟨_, e⟩
      · exact st1.there j b e
      · rw [e]; exact st.there i a ha
    · rcases get_app e2 with e2 | ⟨ej, eb⟩
      · rcases get_app e3 with e3 | ⟨ej, _⟩
        · refine ck b d (cl d (List.mem_of_getElem? e3)) (st.cell j b d (o.pre j b e2) (take_get e3).2)
        · have := (List.getElem?_eq_some_iff.mp e2).1
          omega
      · rcases get_app e3 with e3 | ⟨_, ed⟩
        · have := (List.getElem?_eq_some_iff.mp e3).1
          omega
        · rw [eb, ed]; exact ck a c rc ok
end

/-! ### a def keeps its promise by its body -/
def endsOf (m : Mode) (S : Store) (Q : D → Store → Prop) (Ed : Ex → Prop) : DEnds where
  nx := fun _ S' => m.rt S.length Q (.t (.v .non)) S'
  rt := m.rt S.length Q
  bk := fun _ _ => False
  ct := fun _ _ => False
  ex := fun e S' => S'.take S.length = S ∧ (∀ p ∈ e.2, refD S.length p.2) ∧ Ed e
def startD (n : Nat) (ds : List D) : Env := ds.map some ++ List.replicate (n - ds.length) none
theorem env_start {as : List Addr} {L : Addr → Prop} {H : Hp} {N : List Str} {ds : List D} {vs : List V} (r : RepDs as L H ds vs) : EnvOk as L H (L2.start N vs) (startD N.length ds) := by
  have hl : ds.length = vs.length := Paired.length r
  refine ⟨by unfold L2.start startD; simp [hl], fun i d h => ?_⟩
  unfold startD at h
  unfold L2.start
  by_cases hi : i < ds.length
  · rw [List.getElem?_append_left (by simpa using hi), List.getElem?_map] at h
    rw [List.getElem?_append_left (by simp; omega), List.getElem?_map]
    have : ∀ {l₁ : List D} {l₂ : List V} {i : Nat} {d : D}, RepDs as L H l₁ l₂ → l₁[i]? = some d → ∃ y, l₂[i]? = some y ∧ RepD as L H d y := by
      intro l₁ l₂ i d r
      induction r generalizing i with
      | nil => intro e; simp at e
      | cons r1 r2 ih =>
        intro e
        cases i with
        | zero => simp at e; subst e; exact ⟨_, rfl, r1⟩
        | succ j => simp at e; simpa using ih e
    cases e : ds[i]? with
    | none => rw [e] at h; cases h
    | some d' =>
      rw [e] at h
      have h : some d' = some d := Option.some.inj h
      cases h
      obtain ⟨y, h1, h2⟩ := this r e
      exact ⟨y, by rw [h1]; rfl, h2⟩
  · rw [List.getElem?_append_right (by simpa using hi), List.getElem?_replicate] at h
    split at h <;> cases h
section
variable {CT : TTs} {P : Program} {w : World} {K : PySem.W.Frag} {mg : Str → Option Value} {base : Heap}
theorem okD_pure {E : XK} {Q : VK} {as : List Addr} {S0 : Store} {H : Hp} {ds : List D} {vs : List V} {Qd : D → Store → Prop} {Ed : Ex → Prop} {N ps : List Str} {ft : FT} {tb : TSD} {m : Mode} (hft : ∀ ds S Q E, ClosedS S.length S → ds.length = ps.length → ft ds S Q E → tb (endsOf m S Q E) (startD N.length ds) S)
    (st0 : StOk CT as S0 H) (r : RepDs as (Live as S0) H ds vs) (hl : ds.length = ps.length) (q : ft ds S0 Qd Ed) (kq : KE CT as S0 H Qd Q) (kx : KX CT E as S0 H Ed) : liftS CT E tb { nx := fun _ H' => Q .non H', rt := Q } (start N vs) H := by
  refine ⟨as, S0, _, endsOf m S0 Qd Ed, ⟨st0, env_start r, ?_⟩, hft ds S0 Qd Ed st0.closed hl q, ?_⟩
  · intro as' S' H' C dx fs ts o st' hx rf ⟨e, hrf, q⟩
    obtain ⟨e1, o1⟩ := o.take st0.len
    have cl : ClosedS S0.length (S'.take S0.length) := by rw [e]; exact st0.closed
    have st1 := st'.take cl
    rw [e1, e] at st1
    rw [e] at o1
    refine kx H' C dx fs ts o1 st1 hx (Paired.both rf fun p hp y z => ⟨z.1, ?_⟩) q
    have := RepD.take (n := S0.length) (hrf p hp) z.2
    rw [e1, e] at this
    exact this
  · exact { nx := fun as' S' H' σ' ρ' o st' en q => mode_ok (m := m) kq st0.len o st' (d := .t (.v .non)) (y := .non) (by show V.non = V.non; rfl) q
            rt := fun as' S' H' d y o st' r q => mode_ok (m := m) kq st0.len o st' r q
            bk := fun as' S' H' σ' ρ' o st' en q => q.elim
            ct := fun as' S' H' σ' ρ' o st' en q => q.elim }

/-- a def: its body's reading tb, how it ends -/
theorem Fun.okD {x qual : Str} {st : Stmt} {f : Addr} {fd : FuncData} {N ps : List Str} {k : Nat} {ft : FT} {tb : TSD} {m : Mode} (F : L2.Fun K x qual st f fd) (S : FnScope N ps (defScope st))
    (hft : ∀ ds S Q E, ClosedS S.length S → ds.length = ps.length → ft ds S Q E → tb (endsOf m S Q E) (startD N.length ds) S)
    (hbody : ∀ (cdv : Value) (A : Around) (outer : List PySem.Env) (s : Shared) (H : Hp) (E : XK), Room k (A.deeper (envOfC qual (defScope st) s.heap.objs.size f cdv)) →
      DSs CT E (cxOf (L2.CX P w) P w K mg base N qual (defScope st) f cdv A outer s H E) (defBody st) tb) : FnOk P w K mg base (L2.CX P w) (k + 1) f fd ps (spD CT ps.length ft) := by
  refine F.okX S (fun vs H Q E ⟨as, S, ds, Qd, Ed, _, r, hl, _⟩ => by rw [← Paired.length r]; exact hl) (fun cdv A outer s H vs Q E hr h => ?_)
  obtain ⟨as, S0, ds, Qd, Ed, st0, r, hl, q, kq, kx⟩ := h
  exact ⟨_, (hbody cdv A outer s H E hr).ps, okD_pure (m := m) hft st0 r hl q kq kx⟩

/-! ### calls -/
def dCall (n : Nat) (ft : FT) (t : TAD) : TED := fun X ρ S Q => t X ρ S fun ds S1 => ds.length = n ∧ ft ds S1 Q fun e => X e S1
theorem spD_of {n : Nat} {ft : FT} {E : XK} {as : List Addr} {S : Store} {H : Hp} {ds : List D} {vs : List V} {X : XQ} {Qd : D → Store → Prop} {Q : VK} (st : StOk CT as S H) (r : RepDs as (Live as S) H ds vs) (hl : ds.length = n) (q : ft ds S Qd fun e => X e S) (k : KE CT as S H Qd Q) (ex : ExOk CT E as S H X) :
    spD CT n ft vs H Q E := ⟨as, S, ds, Qd, _, st, r, hl, q, k, fun H' C dx fs ts o st' hx rf q => ex as S H' C dx fs ts o st' hx rf q⟩
theorem de_call {E : XK} {X : Cx} {e : Expr} {n : Nat} {ft : FT} {t : TAD} (h : PE X e (tCall (spD CT n ft) [] E (liftA CT E t))) : DE CT E X e (dCall n ft t) :=
  .of h fun σ H as S ρ Xq Qd Q z q k => ⟨as, S, ρ, Xq, _, z, q, fun as1 S1 H1 ds ys o1 s1 r ⟨hl, q1⟩ => by
    show spD CT n ft (ys ++ []) H1 Q E
    rw [List.append_nil]
    exact spD_of s1 r hl q1 (k.on o1) (z.ex.on o1)⟩
/-- the arguments' cells as trees, while the callee runs; what is told is a scalar -/
def dCallRO (n : Nat) (ft : FT) (t : TAD) : TED := dCall n ft t
end
end DL
set_option Elab.async false
set_option linter.all false
set_option maxRecDepth 100000
/-! DL3: sequences read, targets, loops, comprehensions -/
namespace DL
open PySem PySem.Spec PyProof.Rows L2

/-! ### sequences -/
def cellL : Cell → Option (List D)
  | .lst ds => some ds
  | .fz (.lst ts) => some (ts.map .t)
  | _ => none
def cellT : Cell → Option (List D)
  | .fz (.tup ts) => some (ts.map .t)
  | .tup ds => some ds
  | _ => none
def seqL (S : Store) : D → Option (List D)
  | .t (.lst ts) => some (ts.map .t)
  | .t _ => none
  | .m i => (S[i]?).bind cellL
def seqT (S : Store) : D → Option (List D)
  | .t (.tup ts) => some (ts.map .t)
  | .t _ => none
  | .m i => (S[i]?).bind cellT
section
variable {CT : TTs} {as : List Addr} {S : Store} {H : Hp}
theorem seqL_ok (st : StOk CT as S H) {d : D} {x : V} {ds : List D} (r : RepD as (Live as S) H d x) (e : seqL S d = some ds) : ∃ a xs, x = .ref a ∧ H a = some (.lst xs) ∧ RepDs as (Live as S) H ds xs := by
  cases d with
  | t u =>
    cases u with
    | lst ts =>
      cases e
      obtain ⟨a, xs, e, _, h, q⟩ := r
      exact ⟨a, xs, e, h, repDs_of q⟩
    | _ => cases e
  | m i =>
    obtain ⟨a, ha, e1⟩ := r
    obtain ⟨c, hc, ok⟩ := st.mem ha
    have e : (S[i]?).bind cellL = some ds := e
    rw [hc] at e
    have e : cellL c = some ds := e
    cases c with
    | lst es => cases e; obtain ⟨xs, h1, h2⟩ := ok; exact ⟨a, xs, e1, h1, h2⟩
    | fz t =>
      cases t with
      | lst ts =>
        cases e
        obtain ⟨_, b, xs, e2, _, h, q⟩ := ok
        cases e2
        exact ⟨a, xs, e1, h, repDs_of q⟩
      | _ => cases e
    | _ => cases e
theorem seqT_ok (st : StOk CT as S H) {d : D} {x : V} {ds : List D} (r : RepD as (Live as S) H d x) (e : seqT S d = some ds) : ∃ a xs, x = .ref a ∧ H a = some (.tup xs) ∧ RepDs as (Live as S) H ds xs := by
  cases d with
  | t u =>
    cases u with
    | tup ts =>
      cases e
      obtain ⟨a, xs, e, _, h, q⟩ := r
      exact ⟨a, xs, e, h, repDs_of q⟩
    | _ => cases e
  | m i =>
    obtain ⟨a, ha, e1⟩ := r
    obtain ⟨c, hc, ok⟩ := st.mem ha
    have e : (S[i]?).bind cellT = some ds := e
    rw [hc] at e
    have e : cellT c = some ds := e
    cases c with
    | tup es => cases e; obtain ⟨xs, h1, h2⟩ := ok; exact ⟨a, xs, e1, h1, h2⟩
    | fz t =>
      cases t with
      | tup ts =>
        cases e
        obtain ⟨_, b, xs, e2, _, h, q⟩ := ok
        cases e2
        exact ⟨a, xs, e1, h, repDs_of q⟩
      | _ => cases e
    | _ => cases e
theorem repDs_get {as : List Addr} {L : Addr → Prop} {H : Hp} {l₁ : List D} {l₂ : List V} (r : RepDs as L H l₁ l₂) : ∀ {i : Nat} {d : D}, l₁[i]? = some d → ∃ y, l₂[i]? = some y ∧ RepD as L H d y := by
  induction r with
  | nil => intro i d e; simp at e
  | cons r1 r2 ih =>
    intro i d e
    cases i with
    | zero => simp at e; subst e; exact ⟨_, rfl, r1⟩
    | succ j => simp at e; simpa using ih e
theorem repDs_getV {as : List Addr} {L : Addr → Prop} {H : Hp} {l₁ : List D} {l₂ : List V} (r : RepDs as L H l₁ l₂) {i : Nat} {d : D} {y : V} (h1 : l₁[i]? = some d) (h2 : l₂[i]? = some y) : RepD as L H d y := by
  obtain ⟨z, h3, h4⟩ := repDs_get r h1
  rw [h2] at h3
  cases h3
  exact h4
end
theorem sq_inj {K : PySem.W.Frag} {H : Hp} {a : Addr} {xs : List V} {i : Nat} {x : V} (h : H a = some (.lst xs)) (f : ∀ ys, SqL K H a ys → ys[i]? = some x) : xs[i]? = some x := f xs (SqL.of h)
theorem st_inj {K : PySem.W.Frag} {H : Hp} {a : Addr} {xs : List V} {i : Nat} {x : V} (h : H a = some (.tup xs)) (f : ∀ ys, SqT K H a ys → ys[i]? = some x) : xs[i]? = some x := f xs (SqT.of h)

/-! ### targets -/
theorem PG.or {X : Cx} {e : Expr} {t t' : TG} (h : PG X e t) (h' : PG X e t') : PG X e (fun v σ H Q => t v σ H Q ∨ t' v σ H Q) :=
  ⟨fun pins s σ H v u Q I r q => q.elim (fun q => h.run pins s σ H v u Q I r q) fun q => h'.run pins s σ H v u Q I r q⟩
abbrev TGsD := List D → XQ → Env → Store → (Env → Store → Prop) → Prop
def liftGs (CT : TTs) (E : XK) (t : TGsD) : TGs := fun vs σ H Q => ∃ as S ρ X ds Qd, Zt CT E σ H as S ρ X ∧ RepDs as (Live as S) H ds vs ∧ t ds X ρ S Qd ∧
  ∀ as' S' H' σ' ρ', On as S H as' S' H' → StOk CT as' S' H' → EnvOk as' (Live as' S') H' σ' ρ' → Qd ρ' S' → Q σ' H'
theorem _root_.L2.PGs.imp {X : Cx} {e : List Expr} {t t' : TGs} (h : PGs X e t) (i : ∀ v σ H Q, t' v σ H Q → t v σ H Q) : PGs X e t' := ⟨fun pins s σ H v u Q I r q => h.run pins s σ H v u Q I r (i v σ H Q q)⟩
structure DGs (CT : TTs) (E : XK) (X : Cx) (es : List Expr) (t : TGsD) : Prop where
  pgs : PGs X es (liftGs CT E t)
section
variable {CT : TTs} {E : XK} {X : Cx}
def gNilD : TGsD := fun ds _ ρ S Q => ds = [] ∧ Q ρ S
def gConsD (t : TGD) (u : TGsD) : TGsD := fun ds X ρ S Q => ∃ d r, ds = d :: r ∧ t d X ρ S fun ρ' S' => u r X ρ' S' Q
theorem dgs_nil : DGs CT E X [] gNilD := ⟨pgs_nil.imp fun v σ H Q ⟨as, S, ρ, Xq, ds, Qd, z, r, ⟨e, q⟩, k⟩ => by
  subst e
  cases r
  exact ⟨rfl, k as S H σ ρ (On.refl _ _ _) z.st z.en q⟩⟩
theorem dgs_cons {e : Expr} {es : List Expr} {t : TGD} {u : TGsD} (h1 : DG CT E X e t) (h2 : DGs CT E X es u)
    (hs : (assignEach (e :: es) X.env).map (·.2) = assign e X.env :: (assignEach es X.env).map (·.2) := by rfl) : DGs CT E X (e :: es) (gConsD t u) :=
  ⟨(pgs_cons h1.pg h2.pgs hs).imp fun v σ H Q ⟨as, S, ρ, Xq, ds, Qd, z, r, ⟨d, rest, e, q⟩, k⟩ => by
    subst e
    cases r with
    | @cons _ y _ ys r1 r2 =>
      exact ⟨y, ys, rfl, as, S, ρ, Xq, d, _, z, r1, q, fun as1 S1 H1 σ1 ρ1 o1 s1 en q1 => ⟨as1, S1, ρ1, Xq, rest, Qd, ⟨s1, en, z.ex.on o1⟩, o1.reps r2, q1, fun as2 S2 H2 σ2 ρ2 o2 s2 en2 q2 => k as2 S2 H2 σ2 ρ2 (o1.trans o2) s2 en2 q2⟩⟩⟩
/-- a, b, .. = a tuple or a list -/
def gTupD (n : Nat) (t : TGsD) : TGD := fun d X ρ S Q => ∃ ds, (seqT S d = some ds ∨ seqL S d = some ds) ∧ ds.length = n ∧ t ds X ρ S Q
theorem dg_tup {es : List Expr} {k : Nat} {pos : Pos} {t : TGsD} {n : Nat} (hc : X.calm = true) (h : DGs CT E X es t)
    (hn : (assignEach es X.env).length = n := by rfl) (hst : (assignEach es X.env).findIdx? (·.1) = none := by rfl) : DG CT E X (.Tuple es k pos) (gTupD n t) :=
  ⟨(PG.or (pg_tup hc h.pgs hn hst) (pg_unl hc h.pgs hn hst)).imp fun v σ H Q ⟨as, S, ρ, Xq, d, Qd, z, r, ⟨ds, hd, hl, q⟩, k⟩ => by
    rcases hd with hd | hd
    · obtain ⟨a, xs, e, h1, h2⟩ := seqT_ok z.st r hd
      exact .inl ⟨a, xs, e, .of h1, by rw [← Paired.length h2]; exact hl, as, S, ρ, Xq, ds, Qd, z, h2, q, k⟩
    · obtain ⟨a, xs, e, h1, h2⟩ := seqL_ok z.st r hd
      exact .inr ⟨a, xs, e, .of h1, by rw [← Paired.length h2]; exact hl, as, S, ρ, Xq, ds, Qd, z, h2, q, k⟩⟩
end

/-! ### what is walked -/
structure ItD where
  items : List D
  g : Store → Prop
def Fol (CT : TTs) (as : List Addr) (S : Store) (H : Hp) (J : It) (it : ItD) : Prop := ∀ (i : Nat) as' S' H', On as S H as' S' H' → StOk CT as' S' H' → it.g S' →
  (∀ d, it.items[i]? = some d → J.go i H' ∧ ∀ x H'', J.yld i H' x H'' → On as' S' H' as' S' H'' ∧ StOk CT as' S' H'' ∧ RepD as' (Live as' S') H'' d x) ∧ (it.items.length ≤ i → J.stop i H')
abbrev TID := XQ → Env → Store → (ItD → Store → Prop) → Prop
def liftI (CT : TTs) (E : XK) (t : TID) : TI := fun σ H R => ∃ as S ρ X Rd, Zt CT E σ H as S ρ X ∧ t X ρ S Rd ∧
  ∀ as' S' H' it J, On as S H as' S' H' → StOk CT as' S' H' → Fol CT as' S' H' J it → Rd it S' → R J H'
structure DI (CT : TTs) (E : XK) (X : Cx) (tg iter : Expr) (t : TID) : Prop where
  pi : PI X tg iter (liftI CT E t)
theorem _root_.L2.PI.imp {X : Cx} {tg e : Expr} {t t' : TI} (h : PI X tg e t) (i : ∀ σ H Q, t' σ H Q → t σ H Q) : PI X tg e t' := ⟨fun pins s σ H Q I q => h.run pins s σ H Q I (i σ H Q q)⟩
section
variable {CT : TTs} {E : XK} {X : Cx} {tg : Expr}
/-- a list or a tuple -/
def iSeqV (K : PySem.W.Frag) (tl : TE) : TI := fun σ H R => tl σ H fun x H1 => (∃ a, x = .ref a ∧ (∃ xs, SqL K H1 a xs) ∧ R (Itl K a) H1) ∨ ∃ a, x = .ref a ∧ (∃ xs, SqT K H1 a xs) ∧ R (Itt K a) H1
theorem pi_seqV {l : Expr} {tl : TE} (hl : PE X l tl) : PI X tg l (iSeqV X.K tl) := by
  refine ⟨fun pins s σ H R I h => ?_⟩
  refine thn (hl.run pins s σ H _ I h) fun v s1 ⟨x, H1, I1, r1, q1⟩ => ?_
  rcases q1 with ⟨a, e, ⟨xs, hq⟩, q⟩ | ⟨a, e, ⟨xs, hq⟩, q⟩
  · subst e
    cases r1
    obtain ⟨its, rv, p, hz⟩ := I1.list hq
    refine wpAny_pyIter_list p.isList ?_
    refine ⟨s1.heap.objs.size, [s1.heap.objs.size], _, _, H1, rfl, I1.kept (t' := s1.toks) fun b o e => Heap.get?_push_of_some _ e, turn_list a _, ⟨_, Heap.get?_push_size _ rfl, rfl, rfl⟩, fun b hb => ?_, q⟩
    have e : b = s1.heap.objs.size := by simpa using hb
    subst e
    exact I1.fpOk (Nat.le_refl _) (I1.hok.fresh (Nat.le_refl _))
  · subst e
    cases r1
    obtain ⟨its, rv, p, hz⟩ := I1.tuple hq
    refine wpAny_pyIter_tuple (show s1.heap.IsTuple a its.toArray from p) ?_
    refine ⟨s1.heap.objs.size, [s1.heap.objs.size], _, _, H1, rfl, I1.kept (t' := s1.toks) fun b o e => Heap.get?_push_of_some _ e, turn_tuple a _, ⟨_, Heap.get?_push_size _ rfl, rfl, rfl⟩, fun b hb => ?_, q⟩
    have e : b = s1.heap.objs.size := by simpa using hb
    subst e
    exact I1.fpOk (Nat.le_refl _) (I1.hok.fresh (Nat.le_refl _))
/-- it stays to be read as ds -/
def Stays (ds : List D) (rd : Store → D → Option (List D)) (d : D) : Store → Prop := fun S' => rd S' d = some ds
def iSeq (t : TED) : TID := fun X ρ S R => t X ρ S fun d S1 => ∃ ds, (seqL S1 d = some ds ∧ R ⟨ds, Stays ds seqL d⟩ S1) ∨ (seqT S1 d = some ds ∧ R ⟨ds, Stays ds seqT d⟩ S1)
theorem di_seq {l : Expr} {t : TED} (hl : DE CT E X l t) : DI CT E X tg l (iSeq t) :=
  ⟨(pi_seqV hl.pe).imp fun σ H R ⟨as, S, ρ, Xq, Rd, z, q, k⟩ => ⟨as, S, ρ, Xq, _, z, q, fun as1 S1 H1 d x o1 s1 r ⟨ds, q1⟩ => by
    rcases q1 with ⟨hd, q1⟩ | ⟨hd, q1⟩
    · obtain ⟨a, xs, e, h1, h2⟩ := seqL_ok s1 r hd
      refine .inl ⟨a, e, ⟨xs, .of h1⟩, k as1 S1 H1 _ _ o1 s1 (fun i as' S' H' o s hg => ?_) q1⟩
      obtain ⟨a', xs', e', h1', h2'⟩ := seqL_ok s (o.rep r) hg
      rw [e] at e'; cases e'
      refine ⟨fun d' hd' => ?_, fun hi => ⟨xs', .of h1', by rw [← Paired.length h2']; exact hi⟩⟩
      obtain ⟨y, hy, _⟩ := repDs_get h2' hd'
      refine ⟨⟨xs', y, .of h1', hy⟩, fun x' H'' ⟨e1, e2⟩ => ?_⟩
      subst e1
      exact ⟨On.refl _ _ _, s, repDs_getV h2' hd' (e2 xs' (.of h1'))⟩
    · obtain ⟨a, xs, e, h1, h2⟩ := seqT_ok s1 r hd
      refine .inr ⟨a, e, ⟨xs, .of h1⟩, k as1 S1 H1 _ _ o1 s1 (fun i as' S' H' o s hg => ?_) q1⟩
      obtain ⟨a', xs', e', h1', h2'⟩ := seqT_ok s (o.rep r) hg
      rw [e] at e'; cases e'
      refine ⟨fun d' hd' => ?_, fun hi => ⟨xs', .of h1', by rw [← Paired.length h2']; exact hi⟩⟩
      obtain ⟨y, hy, _⟩ := repDs_get h2' hd'
      refine ⟨⟨xs', y, .of h1', hy⟩, fun x' H'' ⟨e1, e2⟩ => ?_⟩
      subst e1
      exact ⟨On.refl _ _ _, s, repDs_getV h2' hd' (e2 xs' (.of h1'))⟩⟩⟩
def dInts (lo : Int) (n : Nat) : List D := (List.range n).map fun i : Nat => .t (.v (.int (lo + i)))
theorem dInts_get {lo : Int} {n i : Nat} : (dInts lo n)[i]? = if i < n then some (.t (.v (.int (lo + i)))) else none := by
  unfold dInts
  by_cases h : i < n
  · rw [if_pos h, List.getElem?_map, List.getElem?_range h]; rfl
  · rw [if_neg h, List.getElem?_eq_none]; simp; omega
theorem fol_range {as S H lo n} : Fol CT as S H (Itr lo n) ⟨dInts lo n, fun _ => True⟩ := fun i as' S' H' o s _ => by
  refine ⟨fun d hd => ?_, fun hi => by
    have : (dInts lo n).length = n := by simp [dInts]
    have hi : (dInts lo n).length ≤ i := hi
    show n ≤ i
    omega⟩
  have hd : (dInts lo n)[i]? = some d := hd
  rw [dInts_get] at hd
  by_cases h : i < n
  · rw [if_pos h] at hd
    cases hd
    refine ⟨h, fun x H'' ⟨e1, e2⟩ => ?_⟩
    subst e1 e2
    exact ⟨On.refl _ _ _, s, rfl⟩
  · rw [if_neg h] at hd; cases hd
def iRange1 (t : TAD) : TID := fun X ρ S R => t X ρ S fun ds S1 => ∃ j : Int, ds = [.t (.v (.int j))] ∧ -(2 ^ 62) ≤ j ∧ j < 2 ^ 62 ∧ R ⟨dInts 0 j.toNat, fun _ => True⟩ S1
def iRange2 (t : TAD) : TID := fun X ρ S R => t X ρ S fun ds S1 => ∃ i j : Int, ds = [.t (.v (.int i)), .t (.v (.int j))] ∧ (-(2 ^ 62) ≤ i ∧ i < 2 ^ 62 ∧ -(2 ^ 62) ≤ j ∧ j < 2 ^ 62) ∧ R ⟨dInts i (j - i).toNat, fun _ => True⟩ S1
theorem di_range1 {e : Expr} {t : TAD} (h : PI X tg e (iRng1 (liftA CT E t))) : DI CT E X tg e (iRange1 t) :=
  ⟨h.imp fun σ H R ⟨as, S, ρ, Xq, Rd, z, q, k⟩ => ⟨as, S, ρ, Xq, _, z, q, fun as1 S1 H1 ds ys o1 s1 r ⟨j, e, h1, h2, q1⟩ => by
    subst e
    cases r with
    | @cons _ y _ _ r1 r2 =>
      cases r2
      obtain rfl : y = .int j := r1
      exact ⟨j, rfl, h1, h2, k as1 S1 H1 _ _ o1 s1 fol_range q1⟩⟩⟩
theorem di_range2 {e : Expr} {t : TAD} (h : PI X tg e (iRng2 (liftA CT E t))) : DI CT E X tg e (iRange2 t) :=
  ⟨h.imp fun σ H R ⟨as, S, ρ, Xq, Rd, z, q, k⟩ => ⟨as, S, ρ, Xq, _, z, q, fun as1 S1 H1 ds ys o1 s1 r ⟨i, j, e, h1, q1⟩ => by
    subst e
    cases r with
    | @cons _ y _ _ r1 r2 =>
      cases r2 with
      | @cons _ y2 _ _ r3 r4 =>
        cases r4
        obtain rfl : y = .int i := r1
        obtain rfl : y2 = .int j := r3
        exact ⟨i, j, rfl, h1, k as1 S1 H1 _ _ o1 s1 fol_range q1⟩⟩⟩
/-- pairs of trees -/
def zips : List D → List D → List D
  | .t x :: xs, .t y :: ys => .t (.tup [x, y]) :: zips xs ys
  | _, _ => []
def allT : List D → Prop
  | [] => True
  | .t _ :: r => allT r
  | .m _ :: _ => False
theorem allT_map : ∀ ts : List T, allT (ts.map .t)
  | [] => True.intro
  | _ :: r => allT_map r
theorem zips_get : ∀ {xs ys : List D} {i : Nat} {d : D}, (zips xs ys)[i]? = some d → ∃ x y, xs[i]? = some (.t x) ∧ ys[i]? = some (.t y) ∧ d = .t (.tup [x, y])
  | .t x :: xs, .t y :: ys, 0, d, h => by
    unfold zips at h
    exact ⟨x, y, rfl, rfl, (Option.some.inj h).symm⟩
  | .t x :: xs, .t y :: ys, i + 1, d, h => by
    unfold zips at h
    exact zips_get (xs := xs) (ys := ys) (i := i) h
  | [], _, _, d, h => by unfold zips at h; simp at h
  | .m _ :: _, _, _, d, h => by unfold zips at h; simp at h
  | .t _ :: _, [], _, d, h => by unfold zips at h; simp at h
  | .t _ :: _, .m _ :: _, _, d, h => by unfold zips at h; simp at h
theorem zips_len : ∀ {xs ys : List D}, allT xs → allT ys → (zips xs ys).length = min xs.length ys.length
  | .t x :: xs, .t y :: ys, h1, h2 => by
    unfold zips
    have := zips_len (xs := xs) (ys := ys) h1 h2
    rw [List.length_cons, List.length_cons, List.length_cons, this]
    omega
  | [], _, _, _ => by unfold zips; simp
  | .m _ :: _, _, h, _ => h.elim
  | .t _ :: _, [], _, _ => by unfold zips; simp
  | .t _ :: _, .m _ :: _, _, h => h.elim
def pairT (x y : T) : T := .tup [x, y]
theorem pair_new {as : List Addr} {S : Store} {H : Hp} {x y : T} {u v : V} {p : Addr} (st : StOk CT as S H) (h1 : Rep (Live as S) H x u) (h2 : Rep (Live as S) H y v) (hp : H p = none) :
    On as S H as S (upd H p (.tup [u, v])) ∧ StOk CT as S (upd H p (.tup [u, v])) ∧ RepD as (Live as S) (upd H p (.tup [u, v])) (.t (.tup [x, y])) (.ref p) := by
  obtain ⟨s1, o1⟩ := st.new (o := .tup [u, v]) hp
  exact ⟨o1, s1, p, [u, v], rfl, fun l => st.live_there l hp, upd_same, u, [v], rfl, o1.tree h1, v, [], rfl, o1.tree h2, rfl⟩
def iZipD (t : TAD) : TID := fun X ρ S R => t X ρ S fun ds S1 => ∃ x y xs ys, ds = [x, y] ∧ allT xs ∧ allT ys ∧
  ((seqL S1 x = some xs ∧ seqL S1 y = some ys ∧ R ⟨zips xs ys, fun S' => seqL S' x = some xs ∧ seqL S' y = some ys⟩ S1) ∨ (seqT S1 x = some xs ∧ seqT S1 y = some ys ∧ R ⟨zips xs ys, fun S' => seqT S' x = some xs ∧ seqT S' y = some ys⟩ S1))
theorem di_zip {e : Expr} {t : TAD} (h : PI X tg e (RZ.iZipA X.K (liftA CT E t))) : DI CT E X tg e (iZipD t) :=
  ⟨h.imp fun σ H R ⟨as, S, ρ, Xq, Rd, z, q, k⟩ => ⟨as, S, ρ, Xq, _, z, q, fun as1 S1 H1 ds vs o1 s1 r ⟨dx, dy, xs, ys, e, ax, ay, q1⟩ => by
    subst e
    cases r with
    | @cons _ u _ _ rx r2 =>
      cases r2 with
      | @cons _ v _ _ ry r4 =>
        cases r4
        rcases q1 with ⟨hx, hy, q1⟩ | ⟨hx, hy, q1⟩
        · obtain ⟨a, us, e1, h1, h2⟩ := seqL_ok s1 rx hx
          obtain ⟨b, ws, e2, h3, h4⟩ := seqL_ok s1 ry hy
          subst e1 e2
          refine ⟨a, b, us, ws, rfl, .inl ⟨.of h1, .of h3, k as1 S1 H1 _ _ o1 s1 (fun i as' S' H' o s hg => ?_) q1⟩⟩
          obtain ⟨a', us', e1', h1', h2'⟩ := seqL_ok s (o.rep rx) hg.1
          obtain ⟨b', ws', e2', h3', h4'⟩ := seqL_ok s (o.rep ry) hg.2
          cases e1'
          cases e2'
          refine ⟨fun d hd => ?_, fun hi => ⟨us', ws', .of h1', .of h3', ?_⟩⟩
          · obtain ⟨x, y, g1, g2, e⟩ := zips_get hd
            subst e
            obtain ⟨x', gx, rx'⟩ := repDs_get h2' g1
            obtain ⟨y', gy, ry'⟩ := repDs_get h4' g2
            refine ⟨⟨us', ws', x', y', .of h1', .of h3', gx, gy⟩, fun w H'' ⟨p, x2, y2, e1, hp, e2, f1, f2⟩ => ?_⟩
            subst e1 e2
            exact pair_new s (repDs_getV h2' g1 (f1 us' (.of h1'))) (repDs_getV h4' g2 (f2 ws' (.of h3'))) hp
          · have hi : (zips xs ys).length ≤ i := hi
            rw [zips_len ax ay, Paired.length h2', Paired.length h4'] at hi
            omega
        · obtain ⟨a, us, e1, h1, h2⟩ := seqT_ok s1 rx hx
          obtain ⟨b, ws, e2, h3, h4⟩ := seqT_ok s1 ry hy
          subst e1 e2
          refine ⟨a, b, us, ws, rfl, .inr ⟨.of h1, .of h3, k as1 S1 H1 _ _ o1 s1 (fun i as' S' H' o s hg => ?_) q1⟩⟩
          obtain ⟨a', us', e1', h1', h2'⟩ := seqT_ok s (o.rep rx) hg.1
          obtain ⟨b', ws', e2', h3', h4'⟩ := seqT_ok s (o.rep ry) hg.2
          cases e1'
          cases e2'
          refine ⟨fun d hd => ?_, fun hi => ⟨us', ws', .of h1', .of h3', ?_⟩⟩
          · obtain ⟨x, y, g1, g2, e⟩ := zips_get hd
            subst e
            obtain ⟨x', gx, rx'⟩ := repDs_get h2' g1
            obtain ⟨y', gy, ry'⟩ := repDs_get h4' g2
            refine ⟨⟨us', ws', x', y', .of h1', .of h3', gx, gy⟩, fun w H'' ⟨p, x2, y2, e1, hp, e2, f1, f2⟩ => ?_⟩
            subst e1 e2
            exact pair_new s (repDs_getV h2' g1 (f1 us' (.of h1'))) (repDs_getV h4' g2 (f2 ws' (.of h3'))) hp
          · have hi : (zips xs ys).length ≤ i := hi
            rw [zips_len ax ay, Paired.length h2', Paired.length h4'] at hi
            omega⟩⟩

/-! ### for -/
def sFor (wi : TID) (g : TGD) (tb : TSD) : TSD := fun De ρ S => wi De.ex ρ S fun it S1 => ∃ Pv : Nat → Env → Store → Prop, Pv 0 ρ S1 ∧ (∀ i ρ S, Pv i ρ S → it.g S) ∧
  (∀ i d ρ S, it.items[i]? = some d → Pv i ρ S → g d De.ex ρ S fun ρ2 S2 => tb { De with nx := Pv (i + 1), ct := Pv (i + 1), bk := De.nx } ρ2 S2) ∧ (∀ ρ S, Pv it.items.length ρ S → De.nx ρ S)
theorem ds_for {iter : Expr} {body : List Stmt} {wi : TID} {g : TGD} {tb : TSD} {pos : Pos} (hp : PassesOwn (model X.prog X.w) X.A X.env X.xe) (hc : X.calm = true) (hi : DI CT E X tg iter wi) (hg : DG CT E X tg g) (hb : DSs CT E X body tb)
    (hs : ∀ x, foldedSetIterable iter X.env x = pure x := by intro _; rfl) : DS CT E X (.For tg iter body [] pos) (sFor wi g tb) :=
  .of (ps_for hp hc hi.pi hg.pg hb.ps hs) fun σ H as S ρ De D z q k => ⟨as, S, ρ, De.ex, _, z, q, fun as1 S1 H1 it J o1 s1 fol ⟨Pv, p0, pg, ph, pn⟩ => by
    refine ⟨fun i m σ' H' => m = it.items.length - i ∧ i ≤ it.items.length ∧ ∃ as' S' ρ', On as1 S1 H1 as' S' H' ∧ Zt CT E σ' H' as' S' ρ' De.ex ∧ Pv i ρ' S', ⟨_, rfl, Nat.zero_le _, as1, S1, ρ, On.refl _ _ _, z.on o1 s1, p0⟩, ?_⟩
    rintro i m σ2 H2 ⟨rfl, hi, as2, S2, ρ2, o2, z2, p2⟩
    obtain ⟨f1, f2⟩ := fol i as2 S2 H2 o2 z2.st (pg i ρ2 S2 p2)
    by_cases hlt : i < it.items.length
    · obtain ⟨hgo, hy⟩ := f1 _ (List.getElem?_eq_getElem hlt)
      refine .inr ⟨hgo, fun σ' H' => ∃ as' S' ρ', On as1 S1 H1 as' S' H' ∧ Zt CT E σ' H' as' S' ρ' De.ex ∧ Pv (i + 1) ρ' S', fun σ' H' ⟨as', S', ρ', o', z', p'⟩ => ⟨_, by omega, rfl, hlt, as', S', ρ', o', z', p'⟩, fun x H3 hyx => ?_⟩
      obtain ⟨o3, s3, r3⟩ := hy x H3 hyx
      refine ⟨as2, S2, ρ2, De.ex, _, _, z2.on o3 s3, r3, ph i _ ρ2 S2 (List.getElem?_eq_getElem hlt) p2, fun as4 S4 H4 σ4 ρ4 o4 s4 en4 q4 => ?_⟩
      have o34 := o3.trans o4
      have o24 := o2.trans o34
      refine ⟨as4, S4, ρ4, { De with nx := Pv (i + 1), ct := Pv (i + 1), bk := De.nx }, ⟨s4, en4, z2.ex.on o34⟩, q4, ?_⟩
      exact { nx := fun as' S' H' σ' ρ' o s en q => ⟨as', S', ρ', o24.trans o, ⟨s, en, z2.ex.on (o34.trans o)⟩, q⟩
              rt := (k.on (o1.trans o24)).rt
              bk := (k.on (o1.trans o24)).nx
              ct := fun as' S' H' σ' ρ' o s en q => ⟨as', S', ρ', o24.trans o, ⟨s, en, z2.ex.on (o34.trans o)⟩, q⟩ }
    · have e : i = it.items.length := by omega
      subst e
      exact .inl ⟨f2 (Nat.le_refl _), k.nx as2 S2 H2 σ2 ρ2 (o1.trans o2) z2.st z2.en (pn ρ2 S2 p2)⟩⟩
end
end DL
set_option Elab.async false
set_option linter.all false
set_option maxRecDepth 100000
/-! DL4: comprehensions -/
namespace DL
open PySem PySem.Spec PyProof.Rows L2

def wipeD (ρ : Env) : List Nat → Env
  | [] => ρ
  | v :: vs => (wipeD ρ vs).set v none
theorem EnvOk.unset {as : List Addr} {L : Addr → Prop} {H : Hp} {σ : L2.St} {ρ : Env} {i : Nat} (h : EnvOk as L H σ ρ) : EnvOk as L H (σ.set i none) (ρ.set i none) := by
  refine ⟨by rw [List.length_set, List.length_set]; exact h.1, fun j e he => ?_⟩
  by_cases hj : i = j
  · subst hj
    by_cases hl : i < ρ.length
    · rw [List.getElem?_set_self hl] at he
      cases he
    · rw [List.getElem?_eq_none (by rw [List.length_set]; omega)] at he
      cases he
  · rw [List.getElem?_set_ne hj] at he
    obtain ⟨z, h1, h2⟩ := h.2 j e he
    exact ⟨z, by rw [List.getElem?_set_ne hj]; exact h1, h2⟩
theorem EnvOk.wipe {as : List Addr} {L : Addr → Prop} {H : Hp} {σ : L2.St} {ρ : Env} (h : EnvOk as L H σ ρ) : ∀ vs, EnvOk as L H (L2.wipe σ vs) (wipeD ρ vs)
  | [] => h
  | v :: vs => (EnvOk.wipe h vs).unset

/-! ### targets that change the names at vs alone -/
def liftGw (CT : TTs) (E : XK) (vs : List Nat) (t : TGD) : TG := fun v σ H Q => ∃ as S ρ X d Qd, Zt CT E σ H as S ρ X ∧ RepD as (Live as S) H d v ∧ t d X ρ S Qd ∧
  ∀ as' S' H' σ' ρ', On as S H as' S' H' → StOk CT as' S' H' → EnvOk as' (Live as' S') H' σ' ρ' → L2.wipe σ' vs = L2.wipe σ vs → Qd ρ' S' → Q σ' H'
def liftGsw (CT : TTs) (E : XK) (ws : List Nat) (t : TGsD) : TGs := fun vs σ H Q => ∃ as S ρ X ds Qd, Zt CT E σ H as S ρ X ∧ RepDs as (Live as S) H ds vs ∧ t ds X ρ S Qd ∧
  ∀ as' S' H' σ' ρ', On as S H as' S' H' → StOk CT as' S' H' → EnvOk as' (Live as' S') H' σ' ρ' → L2.wipe σ' ws = L2.wipe σ ws → Qd ρ' S' → Q σ' H'
structure DGw (CT : TTs) (E : XK) (X : Cx) (vs : List Nat) (e : Expr) (t : TGD) : Prop where
  pg : PG X e (liftGw CT E vs t)
structure DGsw (CT : TTs) (E : XK) (X : Cx) (vs : List Nat) (es : List Expr) (t : TGsD) : Prop where
  pgs : PGs X es (liftGsw CT E vs t)
theorem DGw.dg {CT : TTs} {E : XK} {X : Cx} {vs : List Nat} {e : Expr} {t : TGD} (h : DGw CT E X vs e t) : DG CT E X e t :=
  ⟨h.pg.imp fun v σ H Q ⟨as, S, ρ, Xq, d, Qd, z, r, q, k⟩ => ⟨as, S, ρ, Xq, d, Qd, z, r, q, fun as' S' H' σ' ρ' o s en _ q => k as' S' H' σ' ρ' o s en q⟩⟩
theorem wipe_set (σ : L2.St) (i : Nat) (x : Option V) : ∀ vs : List Nat, i ∈ vs → L2.wipe (σ.set i x) vs = L2.wipe σ vs := by
  have comm : ∀ (vs : List Nat) (σ : L2.St) (i : Nat) (x : Option V), i ∉ vs → L2.wipe (σ.set i x) vs = (L2.wipe σ vs).set i x := by
    intro vs
    induction vs with
    | nil => intro σ i x _; rfl
    | cons v vs ih =>
      intro σ i x h
      have h1 : i ≠ v := fun z => h (by simp [z])
      have h2 : i ∉ vs := fun z => h (by simp [z])
      show (L2.wipe (σ.set i x) vs).set v none = ((L2.wipe σ vs).set v none).set i x
      rw [ih σ i x h2, List.set_comm _ _ h1]
  intro vs
  induction vs with
  | nil => intro h; cases h
  | cons v vs ih =>
    intro h
    show (L2.wipe (σ.set i x) vs).set v none = (L2.wipe σ vs).set v none
    by_cases hm : i ∈ vs
    · rw [ih hm]
    · have hv : i = v := by
        rcases List.mem_cons.mp h with h | h
        · exact h
        · exact absurd h hm
      subst hv
      rw [comm vs σ i x hm, List.set_set]
section
variable {CT : TTs} {E : XK} {X : Cx} {vs : List Nat}
theorem dgw_name {e : Expr} {i : Nat} (h : PG X e (gName i)) (hi : i ∈ vs := by decide) : DGw CT E X vs e (gVar i) :=
  ⟨h.imp fun v σ H Q ⟨as, S, ρ, Xq, d, Qd, z, r, q, k⟩ => k as S H _ _ (On.refl _ _ _) z.st (z.en.set r) (wipe_set σ i _ vs hi) q⟩
theorem dgsw_nil : DGsw CT E X vs [] gNilD := ⟨pgs_nil.imp fun v σ H Q ⟨as, S, ρ, Xq, ds, Qd, z, r, ⟨e, q⟩, k⟩ => by
  subst e
  cases r
  exact ⟨rfl, k as S H σ ρ (On.refl _ _ _) z.st z.en rfl q⟩⟩
theorem dgsw_cons {e : Expr} {es : List Expr} {t : TGD} {u : TGsD} (h1 : DGw CT E X vs e t) (h2 : DGsw CT E X vs es u)
    (hs : (assignEach (e :: es) X.env).map (·.2) = assign e X.env :: (assignEach es X.env).map (·.2) := by rfl) : DGsw CT E X vs (e :: es) (gConsD t u) :=
  ⟨(pgs_cons h1.pg h2.pgs hs).imp fun v σ H Q ⟨as, S, ρ, Xq, ds, Qd, z, r, ⟨d, rest, e, q⟩, k⟩ => by
    subst e
    cases r with
    | @cons _ y _ ys r1 r2 =>
      exact ⟨y, ys, rfl, as, S, ρ, Xq, d, _, z, r1, q, fun as1 S1 H1 σ1 ρ1 o1 s1 en w1 q1 => ⟨as1, S1, ρ1, Xq, rest, Qd, ⟨s1, en, z.ex.on o1⟩, o1.reps r2, q1, fun as2 S2 H2 σ2 ρ2 o2 s2 en2 w2 q2 => k as2 S2 H2 σ2 ρ2 (o1.trans o2) s2 en2 (w2.trans w1) q2⟩⟩⟩
theorem dgw_tup {es : List Expr} {k : Nat} {pos : Pos} {t : TGsD} {n : Nat} (hc : X.calm = true) (h : DGsw CT E X vs es t)
    (hn : (assignEach es X.env).length = n := by rfl) (hst : (assignEach es X.env).findIdx? (·.1) = none := by rfl) : DGw CT E X vs (.Tuple es k pos) (gTupD n t) :=
  ⟨(PG.or (pg_tup hc h.pgs hn hst) (pg_unl hc h.pgs hn hst)).imp fun v σ H Q ⟨as, S, ρ, Xq, d, Qd, z, r, ⟨ds, hd, hl, q⟩, k⟩ => by
    rcases hd with hd | hd
    · obtain ⟨a, xs, e, h1, h2⟩ := seqT_ok z.st r hd
      exact .inl ⟨a, xs, e, .of h1, by rw [← Paired.length h2]; exact hl, as, S, ρ, Xq, ds, Qd, z, h2, q, k⟩
    · obtain ⟨a, xs, e, h1, h2⟩ := seqL_ok z.st r hd
      exact .inr ⟨a, xs, e, .of h1, by rw [← Paired.length h2]; exact hl, as, S, ρ, Xq, ds, Qd, z, h2, q, k⟩⟩
/-! ### tests -/
structure DTs (CT : TTs) (E : XK) (X : Cx) (es : List Expr) (t : TTD) : Prop where
  pts : PTs X es (liftT CT E t)
def dYes : TTD := fun _ _ S Q => Q true S
theorem dts_nil : DTs CT E X [] dYes := ⟨⟨fun pins s σ H Q I ⟨as, S, ρ, Xq, Qd, z, q, k⟩ => (pts_nil (X := X)).run pins s σ H Q I (k as S H true (On.refl _ _ _) z.st q)⟩⟩
theorem dts_one {c : Expr} {t : TTD} (h : DT CT E X c t) : DTs CT E X [c] t := ⟨pts_one h.pt⟩
end

/-! ### [elt for target in iter if ..] -/
abbrev noX : XQ := fun _ _ => False
theorem exOk_no {CT : TTs} {as : List Addr} {S : Store} {H : Hp} : ExOk CT E0 as S H noX := fun _ _ _ _ _ _ _ _ _ _ _ h => h
/-- the new list is a cell: number S1.length -/
def lcIn (g : TGD) (tt : TTD) (te : TED) (vs : List Nat) (ρ : Env) (it : ItD) (S1 : Store) (Q : D → Store → Prop) : Prop := ∃ Pv : Nat → Store → Prop, Pv 0 (S1 ++ [.lst []]) ∧ (∀ i S, Pv i S → it.g S) ∧
  (∀ i d S, it.items[i]? = some d → Pv i S → g d noX (wipeD ρ vs) S fun ρ2 S2 => tt noX ρ2 S2 fun b S3 =>
    if b = true then te noX ρ2 S3 fun y S4 => ∃ acc, S4[S1.length]? = some (.lst acc) ∧ acc.length < sizeLine ∧ Pv (i + 1) (S4.set S1.length (.lst (acc ++ [y]))) else Pv (i + 1) S3) ∧
  ∀ S, Pv it.items.length S → Q (.m S1.length) S
theorem lc_core {CT : TTs} {g : TGD} {tt : TTD} {te : TED} {vs : List Nat} {σ : L2.St} {ρ : Env} {as1 : List Addr} {S1 : Store} {H1 : Hp} {it : ItD} {J : It} {Qd : D → Store → Prop} {Q : VK} (s1 : StOk CT as1 S1 H1) (en1 : EnvOk as1 (Live as1 S1) H1 σ ρ) (fol : Fol CT as1 S1 H1 J it)
    (q : lcIn g tt te vs ρ it S1 Qd) (k : KE CT as1 S1 H1 Qd Q) (D : Addr) (hD : H1 D = none) :
    ∃ W : Nat → Nat → Hp → Prop, (∃ m, W 0 m (upd H1 D (.lst []))) ∧ ∀ i m H, W i m H →
      (J.stop i H ∧ Q (.ref D) H) ∨ (J.go i H ∧ ∃ Nx : Hp → Prop, (∀ H', Nx H' → ∃ m', m' < m ∧ W (i + 1) m' H') ∧ ∀ x H', J.yld i H x H' → liftGw CT E0 vs g x (L2.wipe σ vs) H' fun σ2 H2 => L2.wipe σ2 vs = L2.wipe σ vs ∧ liftT CT E0 tt σ2 H2 fun b H3 =>
        if b = true then lift CT E0 te σ2 H3 fun y H4 => ∃ acc, H4 D = some (.lst acc) ∧ acc.length < sizeLine ∧ Nx (upd H4 D (.lst (acc ++ [y]))) else Nx H3) := by
  obtain ⟨Pv, p0, pg, ph, pn⟩ := q
  obtain ⟨s2, o2⟩ := s1.cellNew (o := .lst []) (c := .lst []) hD fun _ => ⟨[], upd_same, .nil⟩
  have hDn : (as1 ++ [D])[S1.length]? = some D := by rw [← s1.len, List.getElem?_append_right (Nat.le_refl _)]; simp
  have en2 : EnvOk (as1 ++ [D]) (Live (as1 ++ [D]) (S1 ++ [.lst []])) (upd H1 D (.lst [])) σ ρ := o2.env en1
  refine ⟨fun i m H' => m = it.items.length - i ∧ i ≤ it.items.length ∧ ∃ as' S', On (as1 ++ [D]) (S1 ++ [.lst []]) (upd H1 D (.lst [])) as' S' H' ∧ StOk CT as' S' H' ∧ Pv i S',
    ⟨_, rfl, Nat.zero_le _, _, _, On.refl _ _ _, s2, p0⟩, ?_⟩
  rintro i m H3 ⟨rfl, hi, as3, S3, o3, s3, p3⟩
  obtain ⟨f1, f2⟩ := fol i as3 S3 H3 (o2.trans o3) s3 (pg i S3 p3)
  by_cases hlt : i < it.items.length
  · obtain ⟨hgo, hy⟩ := f1 _ (List.getElem?_eq_getElem hlt)
    refine .inr ⟨hgo, fun H' => ∃ as' S', On (as1 ++ [D]) (S1 ++ [.lst []]) (upd H1 D (.lst [])) as' S' H' ∧ StOk CT as' S' H' ∧ Pv (i + 1) S', fun H' ⟨as', S', o', s', p'⟩ => ⟨_, by omega, rfl, hlt, as', S', o', s', p'⟩, fun x H4 hyx => ?_⟩
    obtain ⟨o4, s4, r4⟩ := hy x H4 hyx
    have o34 := o3.trans o4
    refine ⟨as3, S3, wipeD ρ vs, noX, _, _, ⟨s4, (o34.env en2).wipe vs, exOk_no⟩, r4, ph i _ S3 (List.getElem?_eq_getElem hlt) p3, fun as5 S5 H5 σ5 ρ5 o5 s5 en5 w5 q5 => ?_⟩
    have w5' : L2.wipe σ5 vs = L2.wipe σ vs := by
      rw [w5]
      have : ∀ (us ws : List Nat) (σ : L2.St), (∀ u ∈ us, u ∈ ws) → L2.wipe (L2.wipe σ us) ws = L2.wipe σ ws := by
        intro us
        induction us with
        | nil => intro ws σ _; rfl
        | cons u us ih =>
          intro ws σ h
          show L2.wipe ((L2.wipe σ us).set u none) ws = L2.wipe σ ws
          rw [wipe_set _ _ _ ws (h u (by simp)), ih ws σ fun v hv => h v (by simp [hv])]
      exact this vs vs σ fun _ h => h
    refine ⟨w5', as5, S5, ρ5, noX, _, ⟨s5, en5, exOk_no⟩, q5, fun as6 S6 H6 b o6 s6 q6 => ?_⟩
    have o36 := (o34.trans o5).trans o6
    cases b with
    | false => exact ⟨as6, S6, o36, s6, q6⟩
    | true =>
      refine ⟨as6, S6, ρ5, noX, _, ⟨s6, o6.env en5, exOk_no⟩, q6, fun as7 S7 H7 d y o7 s7 r7 ⟨acc, hacc, hz, q7⟩ => ?_⟩
      have o37 := o36.trans o7
      have hD7 := o37.pre _ _ hDn
      obtain ⟨xs, h1, h2⟩ := s7.cell _ _ _ hD7 hacc
      have hx : xs.length < sizeLine := by rw [← Paired.length h2]; exact hz
      refine ⟨xs, h1, hx, ?_⟩
      obtain ⟨s8, o8⟩ := s7.cellSet (o := .lst (xs ++ [y])) (c' := .lst (acc ++ [d])) hD7 hacc True.intro fun o => ⟨_, upd_same, Paired.snoc (o.reps h2) (o.rep r7)⟩
      exact ⟨as7, _, o37.trans o8, s8, q7⟩
  · have e : i = it.items.length := by omega
    subst e
    have o13 := o2.trans o3
    exact .inl ⟨f2 (Nat.le_refl _), k as3 S3 H3 (.m S1.length) (.ref D) o13 s3 ⟨D, o3.pre _ _ hDn, rfl⟩ (pn S3 p3)⟩


def dLcM (wi : TID) (g : TGD) (tt : TTD) (te : TED) (vs : List Nat) : TED := fun X ρ S Q => wi X ρ S fun it S1 => lcIn g tt te vs ρ it S1 Q
theorem tLcM_of {CT : TTs} {E : XK} {wi : TID} {g : TGD} {tt : TTD} {te : TED} {vs : List Nat} {σ H as S ρ Xq Qd Q} (z : Zt CT E σ H as S ρ Xq) (q : dLcM wi g tt te vs Xq ρ S Qd) (k : KE CT as S H Qd Q) :
    tLc (liftI CT E wi) (liftGw CT E0 vs g) (liftT CT E0 tt) (lift CT E0 te) vs σ H Q :=
  ⟨as, S, ρ, Xq, _, z, q, fun as1 S1 H1 it J o1 s1 fol q1 D hD => lc_core s1 (o1.env z.en) fol q1 (k.on o1) D hD⟩
/-- a tree: the new list is given up as a cell -/
def lcTr (g : TGD) (tt : TTD) (te : TED) (vs : List Nat) (ρ : Env) (it : ItD) (S1 : Store) (Q : D → Store → Prop) : Prop := ∃ Pv : Nat → List T → Store → Prop, Pv 0 [] S1 ∧
  (∀ i acc S, Pv i acc S → S.length = S1.length ∧ ClosedS S1.length S ∧ it.g (S ++ [.lst (acc.map .t)])) ∧
  (∀ i d acc S, it.items[i]? = some d → Pv i acc S → g d noX (wipeD ρ vs) (S ++ [.lst (acc.map .t)]) fun ρ2 S2 => tt noX ρ2 S2 fun b S3 =>
    if b = true then te noX ρ2 S3 fun y S4 => ∃ t S', y = .t t ∧ S4 = S' ++ [.lst (acc.map .t)] ∧ acc.length < sizeLine ∧ Pv (i + 1) (acc ++ [t]) S' else ∃ S', S3 = S' ++ [.lst (acc.map .t)] ∧ Pv (i + 1) acc S') ∧
  ∀ acc S, Pv it.items.length acc S → Q (.t (.lst acc)) S
def dLc (wi : TID) (g : TGD) (tt : TTD) (te : TED) (vs : List Nat) : TED := fun X ρ S Q => wi X ρ S fun it S1 => lcTr g tt te vs ρ it S1 Q
theorem On.takeGe {as as' : List Addr} {S S' : Store} {H H' : Hp} (o : On as S H as' S' H') {n : Nat} (hn : as.length ≤ n) : On as S H (as'.take n) (S'.take n) H' :=
  ⟨⟨o.ext.keep, fun b l => o.ext.live b (live_take l), o.ext.dom⟩, fun i a e => by
    have hi : i < as.length := (List.getElem?_eq_some_iff.mp e).1
    rw [List.getElem?_take_of_lt (by omega)]
    exact o.pre i a e⟩
theorem frzL_map {n : Nat} {S : Store} {f : Nat} : ∀ ts : List T, frzL n S f (ts.map .t) = some ts
  | [] => by unfold frzL; rfl
  | t :: r => by
    show frzL n S f (.t t :: r.map .t) = _
    unfold frzL
    rw [frzL_map r]
    unfold frz
    rfl
theorem get_last {α : Type} {l : List α} {x : α} {n : Nat} (h : l.length = n) : (l ++ [x])[n]? = some x := by
  rw [← h, List.getElem?_append_right (Nat.le_refl _)]; simp
theorem set_last {α : Type} {l : List α} {x y : α} {n : Nat} (h : l.length = n) : (l ++ [x]).set n y = l ++ [y] := by
  rw [← h, List.set_append_right _ _ (Nat.le_refl _)]; simp
theorem lc_coreT {CT : TTs} {g : TGD} {tt : TTD} {te : TED} {vs : List Nat} {σ : L2.St} {ρ : Env} {as1 : List Addr} {S1 : Store} {H1 : Hp} {it : ItD} {J : It} {Qd : D → Store → Prop} {Q : VK} (s1 : StOk CT as1 S1 H1) (en1 : EnvOk as1 (Live as1 S1) H1 σ ρ) (fol : Fol CT as1 S1 H1 J it)
    (q : lcTr g tt te vs ρ it S1 Qd) (k : KE CT as1 S1 H1 Qd Q) (D : Addr) (hD : H1 D = none) :
    ∃ W : Nat → Nat → Hp → Prop, (∃ m, W 0 m (upd H1 D (.lst []))) ∧ ∀ i m H, W i m H →
      (J.stop i H ∧ Q (.ref D) H) ∨ (J.go i H ∧ ∃ Nx : Hp → Prop, (∀ H', Nx H' → ∃ m', m' < m ∧ W (i + 1) m' H') ∧ ∀ x H', J.yld i H x H' → liftGw CT E0 vs g x (L2.wipe σ vs) H' fun σ2 H2 => L2.wipe σ2 vs = L2.wipe σ vs ∧ liftT CT E0 tt σ2 H2 fun b H3 =>
        if b = true then lift CT E0 te σ2 H3 fun y H4 => ∃ acc, H4 D = some (.lst acc) ∧ acc.length < sizeLine ∧ Nx (upd H4 D (.lst (acc ++ [y]))) else Nx H3) := by
  obtain ⟨Pv, p0, pg, ph, pn⟩ := q
  obtain ⟨s2, o2⟩ := s1.cellNew (o := .lst []) (c := .lst []) hD fun _ => ⟨[], upd_same, .nil⟩
  have hDn : (as1 ++ [D])[S1.length]? = some D := by rw [← s1.len, List.getElem?_append_right (Nat.le_refl _)]; simp
  have en2 : EnvOk (as1 ++ [D]) (Live (as1 ++ [D]) (S1 ++ [.lst []])) (upd H1 D (.lst [])) σ ρ := o2.env en1
  refine ⟨fun i m H' => m = it.items.length - i ∧ i ≤ it.items.length ∧ ∃ as' S' acc, On (as1 ++ [D]) (S1 ++ [.lst []]) (upd H1 D (.lst [])) as' (S' ++ [.lst (acc.map .t)]) H' ∧ StOk CT as' (S' ++ [.lst (acc.map .t)]) H' ∧ Pv i acc S',
    ⟨_, rfl, Nat.zero_le _, _, S1, [], On.refl _ _ _, s2, p0⟩, ?_⟩
  rintro i m H3 ⟨rfl, hi, as3, S3, acc, o3, s3, p3⟩
  obtain ⟨hl3, cl3, g3⟩ := pg i acc S3 p3
  obtain ⟨f1, f2⟩ := fol i as3 _ H3 (o2.trans o3) s3 g3
  by_cases hlt : i < it.items.length
  · obtain ⟨hgo, hy⟩ := f1 _ (List.getElem?_eq_getElem hlt)
    refine .inr ⟨hgo, fun H' => ∃ as' S' acc, On (as1 ++ [D]) (S1 ++ [.lst []]) (upd H1 D (.lst [])) as' (S' ++ [.lst (acc.map .t)]) H' ∧ StOk CT as' (S' ++ [.lst (acc.map .t)]) H' ∧ Pv (i + 1) acc S', fun H' ⟨as', S', acc', o', s', p'⟩ => ⟨_, by omega, rfl, hlt, as', S', acc', o', s', p'⟩, fun x H4 hyx => ?_⟩
    obtain ⟨o4, s4, r4⟩ := hy x H4 hyx
    have o34 := o3.trans o4
    refine ⟨as3, _, wipeD ρ vs, noX, _, _, ⟨s4, (o34.env en2).wipe vs, exOk_no⟩, r4, ph i _ acc S3 (List.getElem?_eq_getElem hlt) p3, fun as5 S5 H5 σ5 ρ5 o5 s5 en5 w5 q5 => ?_⟩
    have w5' : L2.wipe σ5 vs = L2.wipe σ vs := by
      rw [w5]
      have : ∀ (us ws : List Nat) (σ : L2.St), (∀ u ∈ us, u ∈ ws) → L2.wipe (L2.wipe σ us) ws = L2.wipe σ ws := by
        intro us
        induction us with
        | nil => intro ws σ _; rfl
        | cons u us ih =>
          intro ws σ h
          show L2.wipe ((L2.wipe σ us).set u none) ws = L2.wipe σ ws
          rw [wipe_set _ _ _ ws (h u (by simp)), ih ws σ fun v hv => h v (by simp [hv])]
      exact this vs vs σ fun _ h => h
    refine ⟨w5', as5, S5, ρ5, noX, _, ⟨s5, en5, exOk_no⟩, q5, fun as6 S6 H6 b o6 s6 q6 => ?_⟩
    have o36 := (o34.trans o5).trans o6
    cases b with
    | false =>
      obtain ⟨S', e, p⟩ := q6
      subst e
      exact ⟨as6, S', acc, o36, s6, p⟩
    | true =>
      refine ⟨as6, S6, ρ5, noX, _, ⟨s6, o6.env en5, exOk_no⟩, q6, fun as7 S7 H7 d y o7 s7 r7 ⟨t, S', ed, e7, hz, q7⟩ => ?_⟩
      subst ed e7
      have o37 := o36.trans o7
      have hD7 := o37.pre _ _ hDn
      obtain ⟨hl7, _, _⟩ := pg _ _ _ q7
      have hacc : (S' ++ [Cell.lst (acc.map .t)])[S1.length]? = some (.lst (acc.map .t)) := get_last hl7
      obtain ⟨xs, h1, h2⟩ := s7.cell _ _ _ hD7 hacc
      have hx : xs.length < sizeLine := by rw [← Paired.length h2, List.length_map]; exact hz
      refine ⟨xs, h1, hx, ?_⟩
      obtain ⟨s8, o8⟩ := s7.cellSet (o := .lst (xs ++ [y])) (c' := .lst (acc.map .t ++ [.t t])) hD7 hacc True.intro fun o => ⟨_, upd_same, Paired.snoc (o.reps h2) (o.rep r7)⟩
      rw [set_last hl7, show acc.map DL.D.t ++ [DL.D.t t] = (acc ++ [t]).map DL.D.t by simp] at s8 o8
      exact ⟨as7, _, _, o37.trans o8, s8, q7⟩
  · have e : i = it.items.length := by omega
    subst e
    have o13 := o2.trans o3
    refine .inl ⟨f2 (Nat.le_refl _), ?_⟩
    have ot := o13.takeGe (n := S1.length) (by rw [s1.len]; exact Nat.le_refl _)
    have et : (S3 ++ [Cell.lst (acc.map .t)]).take S1.length = S3 := by rw [← hl3]; simp
    have cl : ClosedS S1.length ((S3 ++ [Cell.lst (acc.map .t)]).take S1.length) := by rw [et]; exact cl3
    have st := s3.take cl
    have hD3 := o3.pre _ _ hDn
    have rr := frz_ok (n := S1.length) s3 1 (.m S1.length) (.lst acc) (.ref D) (by
      unfold frz
      rw [get_last hl3]
      show (if S1.length ≤ S1.length then (frzL S1.length (S3 ++ [Cell.lst (acc.map .t)]) 0 (acc.map .t)).map T.lst else none) = some (T.lst acc)
      rw [if_pos (Nat.le_refl _), frzL_map]
      rfl) ⟨D, hD3, rfl⟩
    rw [et] at ot st rr
    exact k _ S3 H3 (.t (.lst acc)) (.ref D) ot st rr (pn acc S3 p3)
theorem tLc_of {CT : TTs} {E : XK} {wi : TID} {g : TGD} {tt : TTD} {te : TED} {vs : List Nat} {σ H as S ρ Xq Qd Q} (z : Zt CT E σ H as S ρ Xq) (q : dLc wi g tt te vs Xq ρ S Qd) (k : KE CT as S H Qd Q) :
    tLc (liftI CT E wi) (liftGw CT E0 vs g) (liftT CT E0 tt) (lift CT E0 te) vs σ H Q :=
  ⟨as, S, ρ, Xq, _, z, q, fun as1 S1 H1 it J o1 s1 fol q1 D hD => lc_coreT s1 (o1.env z.en) fol q1 (k.on o1) D hD⟩
section
variable {CT : TTs} {E : XK} {X : Cx}
theorem de_lc {e : Expr} {wi : TID} {g : TGD} {tt : TTD} {te : TED} {vs : List Nat} (h : PE X e (tLc (liftI CT E wi) (liftGw CT E0 vs g) (liftT CT E0 tt) (lift CT E0 te) vs)) : DE CT E X e (dLc wi g tt te vs) :=
  .of h fun σ H as S ρ Xq Qd Q z q k => tLc_of z q k
theorem de_lcM {e : Expr} {wi : TID} {g : TGD} {tt : TTD} {te : TED} {vs : List Nat} (h : PE X e (tLc (liftI CT E wi) (liftGw CT E0 vs g) (liftT CT E0 tt) (lift CT E0 te) vs)) : DE CT E X e (dLcM wi g tt te vs) :=
  .of h fun σ H as S ρ Xq Qd Q z q k => tLcM_of z q k
theorem ds_setLc {st : Stmt} {wi : TID} {g : TGD} {tt : TTD} {te : TED} {vs : List Nat} {i : Nat} (h : PS X st (tAsg (tLc (liftI CT E wi) (liftGw CT E0 vs g) (liftT CT E0 tt) (lift CT E0 te) vs) (gName i))) : DS CT E X st (sAsg (dLc wi g tt te vs) (gVar i)) :=
  .of h fun σ H as S ρ De D z q k => tLc_of (Qd := fun d S1 => gVar i d De.ex ρ S1 De.nx) z q fun as1 S1 H1 d y o1 s1 r q1 => k.nx as1 S1 H1 _ _ o1 s1 ((o1.env z.en).set r) q1
theorem ds_setLcM {st : Stmt} {wi : TID} {g : TGD} {tt : TTD} {te : TED} {vs : List Nat} {i : Nat} (h : PS X st (tAsg (tLc (liftI CT E wi) (liftGw CT E0 vs g) (liftT CT E0 tt) (lift CT E0 te) vs) (gName i))) : DS CT E X st (sAsg (dLcM wi g tt te vs) (gVar i)) :=
  .of h fun σ H as S ρ De D z q k => tLcM_of (Qd := fun d S1 => gVar i d De.ex ρ S1 De.nx) z q fun as1 S1 H1 d y o1 s1 r q1 => k.nx as1 S1 H1 _ _ o1 s1 ((o1.env z.en).set r) q1
end
end DL
set_option Elab.async false
set_option linter.all false
set_option maxRecDepth 100000
/-! DL5: operators, built-ins over data -/
namespace DL
open PySem PySem.Spec PyProof.Rows L2

abbrev D.int (i : Int) : D := .t (.v (.int i))
abbrev D.bl (b : Bool) : D := .t (.v (.bl b))
abbrev D.str (x : Str) : D := .t (.v (.str x))
abbrev D.non : D := .t (.v .non)
abbrev T.int (i : Int) : T := .v (.int i)
abbrev T.bl (b : Bool) : T := .v (.bl b)
abbrev T.str (x : Str) : T := .v (.str x)
abbrev T.non : T := .v .non
theorem Paired.app {α β : Type} {F : α → β → Prop} {l₁ : List α} {l₂ : List β} {m₁ : List α} {m₂ : List β} (a : Paired F l₁ l₂) (b : Paired F m₁ m₂) : Paired F (l₁ ++ m₁) (l₂ ++ m₂) := by
  induction a with
  | nil => exact b
  | cons r t ih => exact .cons r ih
section
variable {CT : TTs} {E : XK} {X : Cx}
/-! ### ints -/
def oI (C : Int → Int → Prop) (g : Int → Int → V) : R2D := fun x y S Q => ∃ i j, x = .int i ∧ y = .int j ∧ C i j ∧ Q (.t (.v (g i j))) S
def oI0 (g : Int → Int → V) : R2D := fun x y S Q => ∃ i j, x = .int i ∧ y = .int j ∧ Q (.t (.v (g i j))) S
theorem br_I {C : Int → Int → Prop} {g : Int → Int → V} : Br2 CT (rI C g) (oI C g) := fun as S H x y dx dy Qd Q st rx ry ⟨i, j, e1, e2, c, q⟩ k => by
  subst e1 e2
  exact ⟨i, j, rx, ry, c, k.sc st q⟩
theorem br_I0 {g : Int → Int → V} : Br2 CT (rI0 g) (oI0 g) := fun as S H x y dx dy Qd Q st rx ry ⟨i, j, e1, e2, q⟩ k => by
  subst e1 e2
  exact ⟨i, j, rx, ry, k.sc st q⟩
theorem br_or {r r' : R2} {o o' : R2D} (h : Br2 CT r o) (h' : Br2 CT r' o') : Br2 CT (fun x y H Q => r x y H Q ∨ r' x y H Q) (fun x y S Q => o x y S Q ∨ o' x y S Q) := fun as S H x y dx dy Qd Q st rx ry q k =>
  q.elim (fun q => .inl (h as S H x y dx dy Qd Q st rx ry q k)) fun q => .inr (h' as S H x y dx dy Qd Q st rx ry q k)
def CPowW (i j : Int) : Prop := 0 ≤ j ∧ (Builtin.Int.intBits i : Int) * j ≤ 2 ^ 27
theorem op_powW : OpR X (binaryOp .Pow) (rI CPowW fun i j => .int (i ^ j.toNat)) := opI fun _ _ _ _ _ _ _ hc q => pow_int hc.1 hc.2 q
def uI (g : Int → V) : R1D := fun x S Q => ∃ i, x = .int i ∧ Q (.t (.v (g i))) S
theorem br_U {g : Int → V} : Br1 CT (rU g) (uI g) := fun as S H x dx Qd Q st rx ⟨i, e1, q⟩ k => by
  subst e1
  exact ⟨i, rx, k.sc st q⟩
/-! ### lists -/
/-- xs + ys: a tree -/
def oCat : R2D := fun x y S Q => ∃ xs ys ts, seqL S x = some xs ∧ seqL S y = some ys ∧ xs.length + ys.length ≤ sizeLine ∧ asTs (xs ++ ys) = some ts ∧ Q (.t (.lst ts)) S
theorem br_cat : Br2 CT rCat oCat := fun as S H x y dx dy Qd Q st rx ry ⟨xs, ys, ts, e1, e2, hl, ht, q⟩ k => by
  obtain ⟨a, us, rfl, h1, h2⟩ := seqL_ok st rx e1
  obtain ⟨b, ws, rfl, h3, h4⟩ := seqL_ok st ry e2
  exact ⟨a, b, us, ws, rfl, rfl, h1, h3, by rw [← Paired.length h2, ← Paired.length h4]; exact hl, fun p hp => new_lst st (repL_of ht (Paired.app h2 h4)) k hp q⟩
/-- .. a cell -/
def oCatM : R2D := fun x y S Q => ∃ xs ys, seqL S x = some xs ∧ seqL S y = some ys ∧ xs.length + ys.length ≤ sizeLine ∧ Q (.m S.length) (S ++ [.lst (xs ++ ys)])
theorem br_catM : Br2 CT rCat oCatM := fun as S H x y dx dy Qd Q st rx ry ⟨xs, ys, e1, e2, hl, q⟩ k => by
  obtain ⟨a, us, rfl, h1, h2⟩ := seqL_ok st rx e1
  obtain ⟨b, ws, rfl, h3, h4⟩ := seqL_ok st ry e2
  exact ⟨a, b, us, ws, rfl, rfl, h1, h3, by rw [← Paired.length h2, ← Paired.length h4]; exact hl, fun p hp => new_cell st (Paired.app h2 h4) k hp q⟩
/-- xs * k -/
def oRep : R2D := fun x y S Q => ∃ xs j ts, seqL S x = some xs ∧ y = .int j ∧ -(2 ^ 63) ≤ j ∧ j < 2 ^ 63 ∧ xs.length * j.toNat ≤ sizeLine ∧ asTs (List.replicate j.toNat xs).flatten = some ts ∧ Q (.t (.lst ts)) S
/-- + of ints, of lists -/
def oAdd : R2D := fun x y S Q => oI0 (fun i j => .int (i + j)) x y S Q ∨ oCat x y S Q
theorem br_add : Br2 CT (fun x y H Q => rI0 (fun i j => .int (i + j)) x y H Q ∨ rCat x y H Q) oAdd := br_or br_I0 br_cat
theorem op_addA : OpR X (binaryOp .Add) (fun x y H Q => rI0 (fun i j => .int (i + j)) x y H Q ∨ rCat x y H Q) := op_add.or op_cat
theorem op_mulA : OpR X (binaryOp .Mult) (fun x y H Q => rI CMulW (fun i j => .int (i * j)) x y H Q ∨ rRep x y H Q) := op_mulW.or op_rep
def oMul : R2D := fun x y S Q => oI CMulW (fun i j => .int (i * j)) x y S Q ∨ oRep x y S Q
theorem Paired.flat {α β : Type} {F : α → β → Prop} {xs : List α} {ys : List β} (h : Paired F xs ys) : ∀ n : Nat, Paired F (List.replicate n xs).flatten (List.replicate n ys).flatten
  | 0 => .nil
  | n + 1 => by
    rw [List.replicate_succ, List.replicate_succ, List.flatten_cons, List.flatten_cons]
    exact Paired.app h (Paired.flat h n)
theorem br_rep : Br2 CT rRep oRep := fun as S H x y dx dy Qd Q st rx ry ⟨xs, j, ts, e1, e2, h0, h1, hl, ht, q⟩ k => by
  subst e2
  obtain ⟨a, us, rfl, h2, h3⟩ := seqL_ok st rx e1
  exact ⟨a, j, us, rfl, ry, h2, h0, h1, by rw [← Paired.length h3]; exact hl, fun p hp => new_lst st (repL_of ht (Paired.flat h3 j.toNat)) k hp q⟩
theorem br_mul : Br2 CT (fun x y H Q => rI CMulW (fun i j => .int (i * j)) x y H Q ∨ rRep x y H Q) oMul := br_or br_I br_rep
/-! ### index, slices -/
def seqA (S : Store) (d : D) : Option (List D) := match seqL S d with
  | some ds => some ds
  | none => seqT S d
theorem seqA_ok {as S H d x ds} (st : StOk CT as S H) (r : RepD as (Live as S) H d x) (e : seqA S d = some ds) : (∃ a xs, x = .ref a ∧ H a = some (.lst xs) ∧ RepDs as (Live as S) H ds xs) ∨ (∃ a xs, x = .ref a ∧ H a = some (.tup xs) ∧ RepDs as (Live as S) H ds xs) := by
  unfold seqA at e
  cases q : seqL S d with
  | some es => rw [q] at e; cases e; exact .inl (seqL_ok st r q)
  | none => rw [q] at e; exact .inr (seqT_ok st r e)
def oIx : R2D := fun x y S Q => ∃ ds i d, seqA S x = some ds ∧ y = .int i ∧ atI ds i = some d ∧ Q d S
theorem atI_rep {as : List Addr} {L : Addr → Prop} {H : Hp} {ds : List D} {xs : List V} {i : Int} {d : D} (r : RepDs as L H ds xs) (e : atI ds i = some d) : ∃ y, atI xs i = some y ∧ RepD as L H d y := by
  unfold atI at e ⊢
  rw [← Paired.length r]
  cases q : ixN ds.length i with
  | none => rw [q] at e; cases e
  | some j =>
    rw [q] at e
    have e : ds[j]? = some d := e
    obtain ⟨y, h1, h2⟩ := repDs_get r e
    exact ⟨y, h1, h2⟩
theorem br_ix {K : PySem.W.Frag} : Br2 CT (rIx K) oIx := fun as S H x y dx dy Qd Q st rx ry ⟨ds, i, d, e1, e2, e3, q⟩ k => by
  subst e2
  obtain rfl : y = .int i := ry
  rcases seqA_ok st rx e1 with ⟨a, xs, rfl, h1, h2⟩ | ⟨a, xs, rfl, h1, h2⟩
  · obtain ⟨v, e4, r⟩ := atI_rep h2 e3
    exact .inl ⟨a, xs, i, v, rfl, rfl, .of h1, e4, k.here st r q⟩
  · obtain ⟨v, e4, r⟩ := atI_rep h2 e3
    exact .inr (.inl ⟨a, xs, i, v, rfl, rfl, .of h1, e4, k.here st r q⟩)
theorem de_ix {a b : Expr} {ta tb : TED} {pos : Pos} (ha : DE CT E X a ta) (hb : DE CT E X b tb) (hs : PlainIx b := by exact fun _ _ => rfl) : DE CT E X (.Subscript a b pos) (dOp oIx ta tb) :=
  .of (pe_ix ix_seq ha.pe hb.pe hs) fun σ H as S ρ Xq Qd Q z q k => tOp_of br_ix z q k
def cutG {α : Type} (xs : List α) (lo hi : Option Int) : List α := (xs.drop (HT.sIx xs.length 0 lo)).take (HT.sIx xs.length xs.length hi - HT.sIx xs.length 0 lo)
theorem Paired.drop' {α β : Type} {F : α → β → Prop} : ∀ {l₁ : List α} {l₂ : List β} (n : Nat), Paired F l₁ l₂ → Paired F (l₁.drop n) (l₂.drop n)
  | _, _, 0, h => h
  | _, _, n + 1, .nil => .nil
  | _, _, n + 1, .cons _ t => Paired.drop' n t
theorem Paired.take' {α β : Type} {F : α → β → Prop} : ∀ {l₁ : List α} {l₂ : List β} (n : Nat), Paired F l₁ l₂ → Paired F (l₁.take n) (l₂.take n)
  | _, _, 0, h => .nil
  | _, _, n + 1, .nil => .nil
  | _, _, n + 1, .cons r t => .cons r (Paired.take' n t)
theorem cut_rep {as : List Addr} {L : Addr → Prop} {H : Hp} {ds : List D} {xs : List V} (r : RepDs as L H ds xs) (lo hi : Option Int) : RepDs as L H (cutG ds lo hi) (cutV xs lo hi) := by
  unfold cutG cutV
  rw [Paired.length r]
  exact Paired.take' _ (Paired.drop' _ r)
abbrev TOD := XQ → Env → Store → (Option Int → Store → Prop) → Prop
def dNoPart : TOD := fun _ _ S Q => Q none S
def dPart (t : TED) : TOD := fun X ρ S Q => t X ρ S fun d S1 => ∃ i, d = .int i ∧ Q (some i) S1
def liftO (CT : TTs) (E : XK) (t : TOD) : TO := fun σ H Q => ∃ as S ρ X Qd, Zt CT E σ H as S ρ X ∧ t X ρ S Qd ∧ ∀ as' S' H' o, On as S H as' S' H' → StOk CT as' S' H' → Qd o S' → Q o H'
structure DO (CT : TTs) (E : XK) (X : Cx) (e : Option Expr) (t : TOD) : Prop where
  po : PO X e (liftO CT E t)
theorem do_none : DO CT E X none dNoPart := ⟨⟨fun pins s σ H Q I ⟨as, S, ρ, Xq, Qd, z, q, k⟩ => (po_none (X := X)).run pins s σ H Q I (k as S H none (On.refl _ _ _) z.st q)⟩⟩
theorem do_some {e : Expr} {t : TED} (h : DE CT E X e t) : DO CT E X (some e) (dPart t) := ⟨⟨fun pins s σ H Q I ⟨as, S, ρ, Xq, Qd, z, q, k⟩ => (po_some h.pe).run pins s σ H Q I
  ⟨as, S, ρ, Xq, _, z, q, fun as1 S1 H1 d y o1 s1 r ⟨i, e, q1⟩ => by
    subst e
    exact ⟨i, r, k as1 S1 H1 _ o1 s1 q1⟩⟩⟩⟩
/-- xs[lo:hi]: a tree -/
def dSl (te : TED) (tl th : TOD) : TED := fun X ρ S Q => te X ρ S fun d S1 => tl X ρ S1 fun lo S2 => th X ρ S2 fun hi S3 => ∃ ds ts, asTs (cutG ds lo hi) = some ts ∧ ((seqL S3 d = some ds ∧ Q (.t (.lst ts)) S3) ∨ (seqT S3 d = some ds ∧ Q (.t (.tup ts)) S3))
/-- .. a cell, of a list -/
def dSlM (te : TED) (tl th : TOD) : TED := fun X ρ S Q => te X ρ S fun d S1 => tl X ρ S1 fun lo S2 => th X ρ S2 fun hi S3 => ∃ ds, seqL S3 d = some ds ∧ Q (.m S3.length) (S3 ++ [.lst (cutG ds lo hi)])
def rSlB (K : PySem.W.Frag) : V → Option Int → Option Int → Hp → VK → Prop := fun x lo hi H Q => rSlL K x lo hi H Q ∨ rSlA K x lo hi H Q
theorem sl_both : SlR X (rSlB X.K) := sl_list.or sl_tupA
theorem tSl_of {t : TED} {tl th : TOD} {rd : D → Option Int → Option Int → Store → (D → Store → Prop) → Prop} {rh : V → Option Int → Option Int → Hp → VK → Prop}
    (br : ∀ as S H x d lo hi Qd Q, StOk CT as S H → RepD as (Live as S) H d x → rd d lo hi S Qd → KE CT as S H Qd Q → rh x lo hi H Q) {σ H as S ρ Xq Qd Q} (z : Zt CT E σ H as S ρ Xq)
    (q : t Xq ρ S fun d S1 => tl Xq ρ S1 fun lo S2 => th Xq ρ S2 fun hi S3 => rd d lo hi S3 Qd) (k : KE CT as S H Qd Q) : tSl rh (lift CT E t) (liftO CT E tl) (liftO CT E th) σ H Q :=
  ⟨as, S, ρ, Xq, _, z, q, fun as1 S1 H1 d x o1 s1 r q1 => ⟨as1, S1, ρ, Xq, _, z.on o1 s1, q1, fun as2 S2 H2 lo o2 s2 q2 => ⟨as2, S2, ρ, Xq, _, z.on (o1.trans o2) s2, q2, fun as3 S3 H3 hi o3 s3 q3 =>
    br as3 S3 H3 x d lo hi Qd Q s3 ((o2.trans o3).rep r) q3 (k.on ((o1.trans o2).trans o3))⟩⟩⟩
theorem de_sl {e : Expr} {lo hi : Option Expr} {p2 pos : Pos} {t : TED} {tl th : TOD} (he : DE CT E X e t) (hl : DO CT E X lo tl) (hh : DO CT E X hi th) : DE CT E X (.Subscript e (.Slice lo hi none p2) pos) (dSl t tl th) :=
  .of (pe_slice sl_both he.pe hl.po hh.po) fun σ H as S ρ Xq Qd Q z q k => tSl_of (rd := fun d lo hi S3 Qd => ∃ ds ts, asTs (cutG ds lo hi) = some ts ∧ ((seqL S3 d = some ds ∧ Qd (.t (.lst ts)) S3) ∨ (seqT S3 d = some ds ∧ Qd (.t (.tup ts)) S3)))
    (fun as S H x d lo hi Qd Q st r ⟨ds, ts, ht, q⟩ k => by
      rcases q with ⟨hd, q⟩ | ⟨hd, q⟩
      · obtain ⟨a, xs, rfl, h1, h2⟩ := seqL_ok st r hd
        exact .inl ⟨a, xs, rfl, .of h1, fun p hp => new_lst st (repL_of ht (cut_rep h2 lo hi)) k hp q⟩
      · obtain ⟨a, xs, rfl, h1, h2⟩ := seqT_ok st r hd
        refine .inr ⟨a, xs, rfl, .of h1, fun ⟨w1, w2⟩ => ?_, fun _ p hp => new_tup st (repL_of ht (cut_rep h2 lo hi)) k hp q⟩
        -- the whole of it
        have e : cutG ds lo hi = ds := by
          unfold cutG
          rw [Paired.length h2, w1, w2, List.drop_zero, Nat.sub_zero, ← Paired.length h2]
          exact List.take_length
        rw [e] at ht
        cases d with
        | t u =>
          cases u with
          | tup us =>
            have hd : some (us.map D.t) = some ds := hd
            cases hd
            rw [asTs_map] at ht
            cases ht
            exact k.here st r q
          | _ => cases hd
        | m i =>
          have hd : (S[i]?).bind cellT = some ds := hd
          cases hc : S[i]? with
          | none => rw [hc] at hd; cases hd
          | some c =>
            rw [hc] at hd
            have hd : cellT c = some ds := hd
            cases c with
            | tup es =>
              cases hd
              obtain ⟨b, hb, e2⟩ := r
              obtain ⟨ys, h3, h4⟩ := st.cell i b _ hb hc
              cases e2
              rw [h1] at h3
              cases h3
              refine k as S H (.t (.tup ts)) (.ref a) (On.refl _ _ _) st ⟨a, xs, rfl, fun l => ?_, h1, repL_of ht h4⟩ q
              exact (st.live_iff hb hc).mp l
            | fz u =>
              cases u with
              | tup us =>
                cases hd
                rw [asTs_map] at ht
                have ht := Option.some.inj ht
                subst ht
                obtain ⟨b, hb, e2⟩ := r
                have ok := st.cell i b _ hb hc
                rw [e2]
                exact k as S H (.t (.tup us)) (.ref b) (On.refl _ _ _) st ok.2 q
              | _ => cases hd
            | _ => cases hd) z q k
theorem de_slM {e : Expr} {lo hi : Option Expr} {p2 pos : Pos} {t : TED} {tl th : TOD} (he : DE CT E X e t) (hl : DO CT E X lo tl) (hh : DO CT E X hi th) : DE CT E X (.Subscript e (.Slice lo hi none p2) pos) (dSlM t tl th) :=
  .of (pe_slice sl_both he.pe hl.po hh.po) fun σ H as S ρ Xq Qd Q z q k => tSl_of (rd := fun (d : D) (lo hi : Option Int) (S3 : Store) (Qd : D → Store → Prop) => ∃ ds : List D, seqL S3 d = some ds ∧ Qd (D.m S3.length) (S3 ++ [Cell.lst (cutG ds lo hi)]))
    (fun as S H x d lo hi Qd Q st r ⟨ds, hd, q⟩ k => by
      obtain ⟨a, xs, rfl, h1, h2⟩ := seqL_ok st r hd
      exact .inl ⟨a, xs, rfl, .of h1, fun p hp => new_cell st (cut_rep h2 lo hi) k hp q⟩) z q k
/-- xs[::-1] -/
def dRev (te : TED) : TED := fun X ρ S Q => te X ρ S fun d S1 => ∃ ds ts, seqL S1 d = some ds ∧ asTs ds.reverse = some ts ∧ Q (.t (.lst ts)) S1
theorem Paired.rev {α β : Type} {F : α → β → Prop} {l₁ : List α} {l₂ : List β} (h : Paired F l₁ l₂) : Paired F l₁.reverse l₂.reverse := by
  induction h with
  | nil => exact .nil
  | cons r t ih => rw [List.reverse_cons, List.reverse_cons]; exact Paired.snoc ih r
theorem de_rev {e : Expr} {t : TED} {k : Nat} {p1 p2 p3 pos : Pos} (he : DE CT E X e t) : DE CT E X (.Subscript e (.Slice none none (some (.UnaryOp .USub (.Constant (.int 1) k p1) p2)) p3) pos) (dRev t) :=
  .of (pe_revL he.pe) fun σ H as S ρ Xq Qd Q z q k => ⟨as, S, ρ, Xq, _, z, q, fun as1 S1 H1 d x o1 s1 r ⟨ds, ts, hd, ht, q1⟩ => by
    obtain ⟨a, xs, rfl, h1, h2⟩ := seqL_ok s1 r hd
    exact ⟨a, xs, rfl, .of h1, fun p hp => new_lst s1 (repL_of ht (Paired.rev h2)) (k.on o1) hp q1⟩⟩
/-! ### equality of data -/
mutual
def T.py : T → Option PyData
  | .v .non => some .none
  | .v (.bl b) => some (.bool b)
  | .v (.int i) => some (.int i)
  | .v (.str x) => some (.str x)
  | .v _ => none
  | .lst ts => (T.pys ts).map .list
  | .tup ts => (T.pys ts).map .tuple
  | _ => none
def T.pys : List T → Option (List PyData)
  | [] => some []
  | t :: r => match T.py t, T.pys r with
    | some p, some ps => some (p :: ps)
    | _, _ => none
end
mutual
theorem py_dp {K : PySem.W.Frag} {L : Addr → Prop} {H : Hp} : ∀ (t : T) (y : V) (p : PyData), t.py = some p → Rep L H t y → Dp K H y p
  | .v x, y, p, e, r => by
    obtain rfl : y = x := r
    unfold T.py at e
    cases y <;> cases e
    · exact .non
    · exact .bl _
    · exact .int _
    · exact .str _
  | .lst ts, y, p, e, ⟨a, xs, e1, _, h, r⟩ => by
    subst e1
    unfold T.py at e
    cases q : T.pys ts with
    | none => rw [q] at e; cases e
    | some ps => rw [q] at e; cases e; exact .lst (.of h) (pys_dp ts xs ps q r)
  | .tup ts, y, p, e, ⟨a, xs, e1, _, h, r⟩ => by
    subst e1
    unfold T.py at e
    cases q : T.pys ts with
    | none => rw [q] at e; cases e
    | some ps => rw [q] at e; cases e; exact .tup (.of h) (pys_dp ts xs ps q r)
  | .dct _, y, p, e, r => by unfold T.py at e; cases e
  | .ins _ _, y, p, e, r => by unfold T.py at e; cases e
theorem pys_dp {K : PySem.W.Frag} {L : Addr → Prop} {H : Hp} : ∀ (ts : List T) (ys : List V) (ps : List PyData), T.pys ts = some ps → RepL L H ts ys → DpAll K H ys ps
  | [], ys, ps, e, r => by
    obtain rfl : ys = [] := r
    unfold T.pys at e
    cases e
    exact .nil
  | t :: ts, ys, ps, e, ⟨y, zs, e1, h1, h2⟩ => by
    subst e1
    unfold T.pys at e
    cases q1 : T.py t with
    | none => rw [q1] at e; cases e
    | some p =>
      cases q2 : T.pys ts with
      | none => rw [q1, q2] at e; cases e
      | some qs => rw [q1, q2] at e; cases e; exact .cons (py_dp t y p q1 h1) (pys_dp ts zs qs q2 h2)
end
/-- a value as it can be read now -/
def D.tree (S : Store) (d : D) : Option T := frz 0 S (S.length + 1) d
def D.py (S : Store) (d : D) : Option PyData := (d.tree S).bind T.py
theorem D.tree_ok {as S H d y t} (st : StOk CT as S H) (r : RepD as (Live as S) H d y) (e : d.tree S = some t) : Rep (fun _ => False) H t y :=
  Rep.weak (fun _ h => h.elim) (frz_ok st _ d t y e r)
theorem D.py_ok {K : PySem.W.Frag} {as S H d y p} (st : StOk CT as S H) (r : RepD as (Live as S) H d y) (e : d.py S = some p) : Dp K H y p := by
  unfold D.py at e
  cases q : d.tree S with
  | none => rw [q] at e; cases e
  | some t => rw [q] at e; exact py_dp t y p e (D.tree_ok st r q)
def oEq : R2D := fun x y S Q => ∃ p q, x.py S = some p ∧ y.py S = some q ∧ SeqAt.shaped p = true ∧ SeqAt.shaped q = true ∧ Q (.bl (PyData.eqv p q)) S
def oNe : R2D := fun x y S Q => ∃ p q, x.py S = some p ∧ y.py S = some q ∧ SeqAt.shaped p = true ∧ SeqAt.shaped q = true ∧ Q (.bl (!PyData.eqv p q)) S
theorem br_eq {K : PySem.W.Frag} : Br2 CT (rEqD K) oEq := fun as S H x y dx dy Qd Q st rx ry ⟨p, q, e1, e2, h1, h2, g⟩ k => ⟨p, q, D.py_ok st rx e1, D.py_ok st ry e2, h1, h2, k.sc st g⟩
theorem br_ne {K : PySem.W.Frag} : Br2 CT (rNeD K) oNe := fun as S H x y dx dy Qd Q st rx ry ⟨p, q, e1, e2, h1, h2, g⟩ k => ⟨p, q, D.py_ok st rx e1, D.py_ok st ry e2, h1, h2, k.sc st g⟩
/-- x in a list of data; x in a tuple of scalars -/
def oIn (neg : Bool) : R2D := fun x y S Q => (∃ p ps, x.py S = some p ∧ y.py S = some (.list ps) ∧ SeqAt.shaped p = true ∧ SeqAt.shaped (.list ps) = true ∧ Q (.bl (if neg then !(ps.any fun z => PyData.eqv z p) else ps.any fun z => PyData.eqv z p)) S) ∨
  ∃ v vs, x = .t (.v v) ∧ seqT S y = some (vs.map fun u => .t (.v u)) ∧ flatV v = true ∧ vs.all flatV = true ∧ Q (.bl (if neg then !inV v vs else inV v vs)) S
theorem repDs_sc {as : List Addr} {L : Addr → Prop} {H : Hp} : ∀ {vs xs : List V}, RepDs as L H (vs.map fun u => .t (.v u)) xs → xs = vs
  | [], _, .nil => rfl
  | v :: vs, _, .cons r t => by rw [repDs_sc t, show _ = v from r]
theorem br_in {K : PySem.W.Frag} : Br2 CT (fun x y H Q => rInD K x y H Q ∨ rIn K false x y H Q) (oIn false) := fun as S H x y dx dy Qd Q st rx ry q k => by
  rcases q with ⟨p, ps, e1, e2, h1, h2, g⟩ | ⟨v, vs, e1, e2, h1, h2, g⟩
  · exact .inl ⟨p, ps, D.py_ok st rx e1, D.py_ok st ry e2, h1, h2, k.sc st g⟩
  · subst e1
    obtain rfl : x = v := rx
    obtain ⟨a, xs, rfl, h3, h4⟩ := seqT_ok st ry e2
    obtain rfl := repDs_sc h4
    exact .inr ⟨a, xs, rfl, .inr (.of h3), h1, h2, k.sc st g⟩
theorem br_notIn {K : PySem.W.Frag} : Br2 CT (fun x y H Q => rNotInD K x y H Q ∨ rIn K true x y H Q) (oIn true) := fun as S H x y dx dy Qd Q st rx ry q k => by
  rcases q with ⟨p, ps, e1, e2, h1, h2, g⟩ | ⟨v, vs, e1, e2, h1, h2, g⟩
  · exact .inl ⟨p, ps, D.py_ok st rx e1, D.py_ok st ry e2, h1, h2, k.sc st g⟩
  · subst e1
    obtain rfl : x = v := rx
    obtain ⟨a, xs, rfl, h3, h4⟩ := seqT_ok st ry e2
    obtain rfl := repDs_sc h4
    exact .inr ⟨a, xs, rfl, .inr (.of h3), h1, h2, k.sc st g⟩
theorem op_inA (hu : X.A.units + 65 < cLine) : OpR X (compareOp .In) (fun x y H Q => rInD X.K x y H Q ∨ rIn X.K false x y H Q) := (op_inD hu).or op_in_seq
theorem op_notInA (hu : X.A.units + 65 < cLine) : OpR X (compareOp .NotIn) (fun x y H Q => rNotInD X.K x y H Q ∨ rIn X.K true x y H Q) := (op_notInD hu).or op_notIn_seq
/-! ### is None, is True -/
def oIsN (neg : Bool) : R2D := fun x y S Q => y = .non ∧ ((∃ v, x = .t (.v v) ∧ Q (.bl (if neg then !decide (v = .non) else decide (v = .non))) S) ∨ (∃ t, x = .t t ∧ (∀ v, t ≠ .v v) ∧ Q (.bl neg) S) ∨ ∃ i, x = .m i ∧ Q (.bl neg) S)
theorem rep_ref {L : Addr → Prop} {H : Hp} {t : T} {y : V} (r : Rep L H t y) (h : ∀ v, t ≠ .v v) : ∃ a, y = .ref a := by
  cases t with
  | v x => exact absurd rfl (h x)
  | lst ts => obtain ⟨a, _, e, _⟩ := r; exact ⟨a, e⟩
  | tup ts => obtain ⟨a, _, e, _⟩ := r; exact ⟨a, e⟩
  | dct ts => obtain ⟨a, _, e, _⟩ := r; exact ⟨a, e⟩
  | ins C ts => obtain ⟨a, _, _, e, _⟩ := r; exact ⟨a, e⟩
theorem br_isN : Br2 CT (fun x y H Q => y = .non ∧ Q (.bl (decide (x = .non))) H) (oIsN false) := fun as S H x y dx dy Qd Q st rx ry ⟨e, q⟩ k => by
  subst e
  refine ⟨ry, ?_⟩
  rcases q with ⟨v, rfl, q⟩ | ⟨t, rfl, ht, q⟩ | ⟨i, rfl, q⟩
  · obtain rfl : x = v := rx
    exact k.sc st q
  · obtain ⟨a, rfl⟩ := rep_ref rx ht
    exact k.sc st q
  · obtain ⟨a, _, rfl⟩ := rx
    exact k.sc st q
theorem br_notN : Br2 CT (fun x y H Q => y = .non ∧ Q (.bl (!decide (x = .non))) H) (oIsN true) := fun as S H x y dx dy Qd Q st rx ry ⟨e, q⟩ k => by
  subst e
  refine ⟨ry, ?_⟩
  rcases q with ⟨v, rfl, q⟩ | ⟨t, rfl, ht, q⟩ | ⟨i, rfl, q⟩
  · obtain rfl : x = v := rx
    exact k.sc st q
  · obtain ⟨a, rfl⟩ := rep_ref rx ht
    exact k.sc st q
  · obtain ⟨a, _, rfl⟩ := rx
    exact k.sc st q
def oIsB (neg : Bool) : R2D := fun x y S Q => ∃ a b, x = .bl a ∧ y = .bl b ∧ Q (.bl (if neg then !decide (a = b) else decide (a = b))) S
theorem br_isB : Br2 CT rIsB (oIsB false) := fun as S H x y dx dy Qd Q st rx ry ⟨a, b, e1, e2, q⟩ k => by
  subst e1 e2
  exact ⟨a, b, rx, ry, k.sc st q⟩
theorem br_notB : Br2 CT rNotB (oIsB true) := fun as S H x y dx dy Qd Q st rx ry ⟨a, b, e1, e2, q⟩ k => by
  subst e1 e2
  exact ⟨a, b, rx, ry, k.sc st q⟩
end

/-! ### a def's function object is of no kind that is asked for -/
end DL
namespace DL
open PySem PySem.W PySem.Calls PyProof.Rows
open Sem (wp)
theorem fn_slot_ga : Slot "function" "__getattribute__" "object.__getattribute__" :=
  .of (owner := "object") (n := "__getattribute__") (by rw [typeLookup_type, builtinLookup_eq_fast]; kernel_rfl) (by decide +kernel) (by decide +kernel) (by decide +kernel)
    (by first | exact .inl (by decide +kernel) | exact .inr (by decide +kernel)) (by rw [isSubtype_type]; kernel_rfl)
theorem fn_lk_class : typeLookup (.type "function") "__class__" = pure (some (.builtin "object.__class__")) := by rw [typeLookup_type, builtinLookup_eq_fast]; kernel_rfl
theorem fn_sub_class : isSubtype (.type "function") (.type (".".intercalate ("object.__class__".cutAt '.').dropLast)) = pure true := by
  rw [F.owner_object_class, isSubtype_type]; kernel_rfl
section
variable {prog : Program} {w : World} {A : Around} {E : Value → Shared → Prop} {h : Heap} {g : Array GenState} {d : Drawn} {t : Nat} {os : OsState} {a : Addr} {o : Obj}
theorem fn_class_get {R : Result → Shared → Prop} (hx : h.get? a = some o) (hc : o.cls = .type "function") (hq : R (.ok (.ret (.type "function"))) ⟨h, g, d, t, os⟩) :
    codeAny (model prog w) A (.call (.builtin "getset_descriptor.__get__") ⟨[.builtin "object.__class__", .ref a, .type "function"], []⟩) R ⟨h, g, d, t, os⟩ := by
  have hT : (⟨h, g, d, t, os⟩ : Shared).TypeIs (.ref a) "function" := ⟨_, hx, hc⟩
  have hT5 : (⟨h, g, d, t, os⟩ : Shared).TypeIs (.builtin "object.__class__") "getset_descriptor" := F.typeOf_object_class
  have f8 := fn_sub_class
  refine codeAny_call_builtin F.slot_gs_get.plain F.entry_gs_get (F.slot_gs_get.check _ _ _ _ _ _ _ _ hT5 (F.args_gs_get _ _ _) ?_)
  repeat (any_goals (first | assumption | wp_step))
  refine ⟨Code.quiet_builtin _ (by decide +kernel), codeAny_builtin F.entry_object_class ?_⟩
  repeat (any_goals (first | assumption | wp_step))
theorem fn_class_entry {tk : Tok} {Q : Fin → Shared → Prop} (hx : h.get? a = some o) (hc : o.cls = .type "function") (hq : Q (.done (.ret (.type "function"))) ⟨h, g, d, t, os⟩) :
    wpAny (model prog w) A (Builtin.«object.__getattribute__» ⟨[.ref a, .str "__class__" tk], []⟩) Q E ⟨h, g, d, t, os⟩ := by
  have hT : (⟨h, g, d, t, os⟩ : Shared).TypeIs (.ref a) "function" := ⟨_, hx, hc⟩
  have hT5 : (⟨h, g, d, t, os⟩ : Shared).TypeIs (.builtin "object.__class__") "getset_descriptor" := F.typeOf_object_class
  have f4 := fn_lk_class
  have f5 := F.typeOf_object_class
  have f6 := F.slot_gs_get.lookup
  have f7 := F.slot_gs_set.lookup
  repeat (any_goals (first | assumption | wp_step))
  refine fn_class_get hx hc ?_
  repeat (any_goals (first | assumption | wp_step))
theorem fn_class_call {tk : Tok} {R : Result → Shared → Prop} (hx : h.get? a = some o) (hc : o.cls = .type "function") (hq : R (.ok (.ret (.type "function"))) ⟨h, g, d, t, os⟩) :
    codeAny (model prog w) A (.call (.builtin "object.__getattribute__") ⟨[.ref a, .str "__class__" tk], []⟩) R ⟨h, g, d, t, os⟩ :=
  codeAny_call_builtin fn_slot_ga.plain F.entry_object_getattribute (fn_slot_ga.check _ _ _ _ _ _ _ _ (show (⟨h, g, d, t, os⟩ : Shared).TypeIs (.ref a) "function" from ⟨_, hx, hc⟩) (F.args_object_getattribute_2 _ _) (fn_class_entry hx hc hq))
theorem fn_class_by {tk : Tok} {Q : Value → Shared → Prop} (hx : h.get? a = some o) (hc : o.cls = .type "function") (hq : Q (.type "function") ⟨h, g, d, t, os⟩) : wpAny (model prog w) A (getAttrBy (.ref a) (.str "__class__" tk) false) Q E ⟨h, g, d, t, os⟩ := by
  have hT : (⟨h, g, d, t, os⟩ : Shared).TypeIs (.ref a) "function" := ⟨_, hx, hc⟩
  have f2 := fn_slot_ga.lookup
  have f3 := fn_slot_ga.bind (.ref a)
  obtain ⟨cls, dd, dt, sl⟩ := o
  cases hc
  repeat (any_goals (first | assumption | wp_step))
  all_goals (refine fn_class_call hx rfl ?_)
  repeat (any_goals (first | assumption | wp_step))
theorem fn_class_attr {Q : Option Value → Shared → Prop} (hx : h.get? a = some o) (hc : o.cls = .type "function") (hq : Q (some (.type "function")) ⟨h, g, d, t + 1, os⟩) : wpAny (model prog w) A (getAttr? (.ref a) "__class__") Q E ⟨h, g, d, t, os⟩ := by
  unfold getAttr? getAttrBy?
  repeat (any_goals (first | assumption | with_reducible apply fn_class_by hx hc | wp_step))
theorem kitx_fn {K : Frag} {a : Addr} : KitX K (.ref a) (.type "function") (KitAt a "function") := kitx_of kitAt_ty (fun {_ _ _ _ _ s} p k => by obtain ⟨h, g, d, t, os⟩ := s; obtain ⟨o, h1, h2⟩ := p; exact fn_class_attr h1 h2 k)
end

end DL
namespace DL
open PySem PySem.Spec PyProof.Rows L2
/-- a value's type: as the library's rules tell it, or a known function object's -/
def TyY (K : PySem.W.Frag) (H : Hp) (x : V) (t : Value) : Prop := TyX K H x t ∨ ∃ a o, x = .ref a ∧ t = .type "function" ∧ K.lookup a = some o ∧ o.cls = .type "function"
section
variable {X : Cx} {pins : List (Addr × Obj)} {σ : L2.St} {H : Hp} {s : Shared}
theorem kit_ofY {x : V} {u t : Value} (I : Inv X pins σ H s) (rx : RelV x u) (ty : TyY X.K H x t) : ∃ P : Heap → Prop, PySem.W.KitX X.K u t P ∧ P s.heap ∧ u ≠ .builtin "__main__.__loader__#opaque" := by
  rcases ty with ty | ⟨a, o, rfl, rfl, e, c⟩
  · exact kit_of I rx ty
  · cases (show u = Value.ref a from rx)
    exact ⟨_, kitx_fn, ⟨o, I.kIn a o e, c⟩, fun z => nomatch z⟩
end
def rIsiY (K : PySem.W.Frag) : List V → Hp → VK → Prop := fun xs H Q => ∃ (x c : V) (t u : Value) (b : Bool), xs = [x, c] ∧ ClsV c u ∧ TyY K H x t ∧ PySem.W.kitOne K t u = some b ∧ Q (.bl b) H
def rIsiTY (K : PySem.W.Frag) : List V → Hp → VK → Prop := fun xs H Q => ∃ (x : V) (tp : Addr) (cs : List V) (t : Value) (us : List Value) (b : Bool), xs = [x, .ref tp] ∧ H tp = some (.tup cs) ∧ Paired ClsV cs us ∧ TyY K H x t ∧ PySem.W.kitAny K t us = some b ∧ Q (.bl b) H
section
variable {X : Cx}
theorem call_isiY : CallR X (.builtin "isinstance") (rIsiY X.K) := by
  intro pins s σ H xs us Q I r h
  obtain ⟨x, c, t, u, b, rfl, k, ty, e, q⟩ := h
  obtain ⟨u1, u2, rfl, r1, r2⟩ := vals2 r
  have e2 := k.eq r2
  subst e2
  obtain ⟨P, Z, p, hx⟩ := kit_ofY I r1 ty
  exact PySem.W.kia_one Z I.kIn p e hx fun tk => ⟨.bl b, H, I.tok tk, rfl, q⟩
theorem call_isiTY : CallR X (.builtin "isinstance") (rIsiTY X.K) := by
  intro pins s σ H xs us Q I r h
  obtain ⟨x, tp, cs, t, ws, b, rfl, hT, k, ty, e, q⟩ := h
  obtain ⟨u1, u2, rfl, r1, r2⟩ := vals2 r
  cases (show u2 = Value.ref tp from r2)
  obtain ⟨P, Z, p, hx⟩ := kit_ofY I r1 ty
  obtain ⟨_, its, rv, o, h1, h2, n, h3⟩ := (show ObjOk X.prog X.w H s.heap tp (.tup cs) from I.hok tp _ hT)
  have e3 := ClsV.all k rv
  subst e3
  obtain ⟨oc, od, dt, sl⟩ := o
  simp only at h2 h3
  subst h2 h3
  exact PySem.W.kia_tup Z I.kIn p h1 e hx fun tk => ⟨.bl b, H, I.tok tk, rfl, q⟩
end
end DL
set_option Elab.async false
set_option linter.all false
set_option maxRecDepth 100000
/-! DL6: built-in functions, methods, stores over data -/
namespace DL
open PySem PySem.Spec PyProof.Rows L2

section
variable {CT : TTs} {E : XK} {X : Cx}
theorem repDs1 {as : List Addr} {L : Addr → Prop} {H : Hp} {d : D} {xs : List V} (r : RepDs as L H [d] xs) : ∃ y, xs = [y] ∧ RepD as L H d y := by
  cases r with
  | cons r1 r2 => cases r2; exact ⟨_, rfl, r1⟩
theorem repDs2 {as : List Addr} {L : Addr → Prop} {H : Hp} {d e : D} {xs : List V} (r : RepDs as L H [d, e] xs) : ∃ y z, xs = [y, z] ∧ RepD as L H d y ∧ RepD as L H e z := by
  cases r with
  | cons r1 r2 =>
    cases r2 with
    | cons r3 r4 => cases r4; exact ⟨_, _, rfl, r1, r3⟩
/-! ### len -/
def cLen : RAD := fun ds S Q => ∃ d, ds = [d] ∧ ((∃ xs, seqA S d = some xs ∧ Q (.int xs.length) S) ∨ ∃ x : Str, d = .str x ∧ x.length ≤ sizeLine ∧ Q (.int x.length) S)
theorem br_len {K : PySem.W.Frag} : BrA CT (fun xs H Q => ∃ x n, xs = [x] ∧ LenV K x H n ∧ Q (.int n) H) cLen := fun as S H xs ds Qd Q st r ⟨d, e, q⟩ k => by
  subst e
  obtain ⟨y, rfl, ry⟩ := repDs1 r
  rcases q with ⟨zs, e, q⟩ | ⟨x, rfl, hx, q⟩
  · rcases seqA_ok st ry e with ⟨a, us, rfl, h1, h2⟩ | ⟨a, us, rfl, h1, h2⟩
    · exact ⟨.ref a, us.length, rfl, .inl ⟨us, .of h1, rfl⟩, by rw [← Paired.length h2]; exact k.sc st q⟩
    · exact ⟨.ref a, us.length, rfl, .inr ⟨us, .of h1, rfl⟩, by rw [← Paired.length h2]; exact k.sc st q⟩
  · obtain rfl : y = .str x := ry
    exact ⟨.str x, x.length, rfl, ⟨hx, rfl⟩, k.sc st q⟩
/-! ### list(..), tuple(..) -/
def cList : RAD := fun ds S Q => ∃ d xs ts, ds = [d] ∧ seqA S d = some xs ∧ asTs xs = some ts ∧ Q (.t (.lst ts)) S
def cListM : RAD := fun ds S Q => ∃ d xs, ds = [d] ∧ seqA S d = some xs ∧ Q (.m S.length) (S ++ [.lst xs])
def cTuple : RAD := fun ds S Q => ∃ d xs ts, ds = [d] ∧ ((seqL S d = some xs ∧ asTs xs = some ts ∧ Q (.t (.tup ts)) S) ∨ (d = .t (.tup ts) ∧ Q d S))
theorem br_list {K : PySem.W.Frag} : BrA CT (fun xs H Q => ∃ p ys, xs = [.ref p] ∧ (SqL K H p ys ∨ SqT K H p ys) ∧ ∀ l, H l = none → Q (.ref l) (upd H l (.lst ys))) cList := fun as S H xs ds Qd Q st r ⟨d, zs, ts, e, e2, ht, q⟩ k => by
  subst e
  obtain ⟨y, rfl, ry⟩ := repDs1 r
  rcases seqA_ok st ry e2 with ⟨a, us, rfl, h1, h2⟩ | ⟨a, us, rfl, h1, h2⟩
  · exact ⟨a, us, rfl, .inl (.of h1), fun p hp => new_lst st (repL_of ht h2) k hp q⟩
  · exact ⟨a, us, rfl, .inr (.of h1), fun p hp => new_lst st (repL_of ht h2) k hp q⟩
theorem br_listM {K : PySem.W.Frag} : BrA CT (fun xs H Q => ∃ p ys, xs = [.ref p] ∧ (SqL K H p ys ∨ SqT K H p ys) ∧ ∀ l, H l = none → Q (.ref l) (upd H l (.lst ys))) cListM := fun as S H xs ds Qd Q st r ⟨d, zs, e, e2, q⟩ k => by
  subst e
  obtain ⟨y, rfl, ry⟩ := repDs1 r
  rcases seqA_ok st ry e2 with ⟨a, us, rfl, h1, h2⟩ | ⟨a, us, rfl, h1, h2⟩
  · exact ⟨a, us, rfl, .inl (.of h1), fun p hp => new_cell st h2 k hp q⟩
  · exact ⟨a, us, rfl, .inr (.of h1), fun p hp => new_cell st h2 k hp q⟩
theorem br_tuple {K : PySem.W.Frag} : BrA CT (fun xs H Q => ∃ p ys, xs = [.ref p] ∧ ((SqL K H p ys ∧ ∀ l, H l = none → Q (.ref l) (upd H l (.tup ys))) ∨ (SqT K H p ys ∧ Q (.ref p) H))) cTuple := fun as S H xs ds Qd Q st r ⟨d, zs, ts, e, q⟩ k => by
  subst e
  obtain ⟨y, rfl, ry⟩ := repDs1 r
  rcases q with ⟨e2, ht, q⟩ | ⟨rfl, q⟩
  · obtain ⟨a, us, rfl, h1, h2⟩ := seqL_ok st ry e2
    exact ⟨a, us, rfl, .inl ⟨.of h1, fun p hp => new_tup st (repL_of ht h2) k hp q⟩⟩
  · have ry' := ry
    obtain ⟨a, us, rfl, _, h1, h2⟩ := ry
    exact ⟨a, us, rfl, .inr ⟨.of h1, k.here st ry' q⟩⟩
/-! ### all, any, sum, max, min -/
def cAll : RAD := fun ds S Q => ∃ (d : D) (bs : List Bool), ds = [d] ∧ seqL S d = some (bs.map .bl) ∧ Q (.bl (bs.all id)) S
def cAny : RAD := fun ds S Q => ∃ (d : D) (bs : List Bool), ds = [d] ∧ seqL S d = some (bs.map .bl) ∧ Q (.bl (bs.any id)) S
theorem repDs_bl {as : List Addr} {L : Addr → Prop} {H : Hp} : ∀ {bs : List Bool} {xs : List V}, RepDs as L H (bs.map .bl) xs → xs = bs.map V.bl
  | [], _, .nil => rfl
  | b :: bs, _, .cons r t => by rw [repDs_bl t, show _ = V.bl b from r]; rfl
theorem repDs_int {as : List Addr} {L : Addr → Prop} {H : Hp} : ∀ {bs : List Int} {xs : List V}, RepDs as L H (bs.map .int) xs → xs = bs.map V.int
  | [], _, .nil => rfl
  | b :: bs, _, .cons r t => by rw [repDs_int t, show _ = V.int b from r]; rfl
theorem br_all {K : PySem.W.Frag} : BrA CT (rAll K) cAll := fun as S H xs ds Qd Q st r ⟨d, bs, e, e2, q⟩ k => by
  subst e
  obtain ⟨y, rfl, ry⟩ := repDs1 r
  obtain ⟨a, us, rfl, h1, h2⟩ := seqL_ok st ry e2
  rw [repDs_bl h2] at h1
  exact ⟨a, bs, rfl, .of h1, k.sc st q⟩
theorem br_any {K : PySem.W.Frag} : BrA CT (rAny K) cAny := fun as S H xs ds Qd Q st r ⟨d, bs, e, e2, q⟩ k => by
  subst e
  obtain ⟨y, rfl, ry⟩ := repDs1 r
  obtain ⟨a, us, rfl, h1, h2⟩ := seqL_ok st ry e2
  rw [repDs_bl h2] at h1
  exact ⟨a, bs, rfl, .of h1, k.sc st q⟩
def cSum : RAD := fun ds S Q => ∃ (d : D) (ns : List Int), ds = [d] ∧ seqL S d = some (ns.map .int) ∧ Q (.int ns.sum) S
theorem br_sum {K : PySem.W.Frag} : BrA CT (rSum K) cSum := fun as S H xs ds Qd Q st r ⟨d, bs, e, e2, q⟩ k => by
  subst e
  obtain ⟨y, rfl, ry⟩ := repDs1 r
  obtain ⟨a, us, rfl, h1, h2⟩ := seqL_ok st ry e2
  rw [repDs_int h2] at h1
  exact ⟨a, bs, rfl, .of h1, k.sc st q⟩
def cMax : RAD := fun ds S Q => ∃ (d : D) (ns : List Int), ds = [d] ∧ seqL S d = some (ns.map .int) ∧ 0 < ns.length ∧ ∀ m, m ∈ ns → (∀ y, y ∈ ns → y ≤ m) → Q (.int m) S
def cMin : RAD := fun ds S Q => ∃ (d : D) (ns : List Int), ds = [d] ∧ seqL S d = some (ns.map .int) ∧ 0 < ns.length ∧ ∀ m, m ∈ ns → (∀ y, y ∈ ns → m ≤ y) → Q (.int m) S
theorem br_max {K : PySem.W.Frag} : BrA CT (rMax K) cMax := fun as S H xs ds Qd Q st r ⟨d, bs, e, e2, h0, q⟩ k => by
  subst e
  obtain ⟨y, rfl, ry⟩ := repDs1 r
  obtain ⟨a, us, rfl, h1, h2⟩ := seqL_ok st ry e2
  rw [repDs_int h2] at h1
  exact ⟨a, bs, rfl, .of h1, h0, fun m hm hy => k.sc st (q m hm hy)⟩
theorem br_min {K : PySem.W.Frag} : BrA CT (rMin K) cMin := fun as S H xs ds Qd Q st r ⟨d, bs, e, e2, h0, q⟩ k => by
  subst e
  obtain ⟨y, rfl, ry⟩ := repDs1 r
  obtain ⟨a, us, rfl, h1, h2⟩ := seqL_ok st ry e2
  rw [repDs_int h2] at h1
  exact ⟨a, bs, rfl, .of h1, h0, fun m hm hy => k.sc st (q m hm hy)⟩
def cInt2 (g : Int → Int → Int) : RAD := fun ds S Q => ∃ i j, ds = [.int i, .int j] ∧ Q (.int (g i j)) S
theorem br_int2 {g : Int → Int → Int} : BrA CT (fun xs H Q => ∃ i j, xs = [.int i, .int j] ∧ Q (.int (g i j)) H) (cInt2 g) := fun as S H xs ds Qd Q st r ⟨i, j, e, q⟩ k => by
  subst e
  obtain ⟨y, z, rfl, ry, rz⟩ := repDs2 r
  obtain rfl : y = .int i := ry
  obtain rfl : z = .int j := rz
  exact ⟨i, j, rfl, k.sc st q⟩
def cAbs : RAD := fun ds S Q => ∃ i : Int, ds = [.int i] ∧ Q (.int (if i < 0 then -i else i)) S
theorem br_abs : BrA CT (fun xs H Q => ∃ i, xs = [.int i] ∧ Q (.int (if i < 0 then -i else i)) H) cAbs := fun as S H xs ds Qd Q st r ⟨i, e, q⟩ k => by
  subst e
  obtain ⟨y, rfl, ry⟩ := repDs1 r
  obtain rfl : y = .int i := ry
  exact ⟨i, rfl, k.sc st q⟩
def cInt : RAD := fun ds S Q => ∃ i : Int, ds = [.int i] ∧ Q (.int i) S
theorem br_int : BrA CT (fun xs H Q => (∃ i, xs = [.int i] ∧ Q (.int i) H) ∨ ∃ k, xs = [.bl k] ∧ Q (.int (if k then 1 else 0)) H) cInt := fun as S H xs ds Qd Q st r ⟨i, e, q⟩ k => by
  subst e
  obtain ⟨y, rfl, ry⟩ := repDs1 r
  obtain rfl : y = .int i := ry
  exact .inl ⟨i, rfl, k.sc st q⟩
/-! ### isinstance -/
/-- own classes, function objects of defs -/
structure CF where
  own : List Addr
  fns : List Addr
instance : Membership Addr CF := ⟨fun c a => a ∈ c.own⟩
instance {a : Addr} {c : CF} : Decidable (a ∈ c) := inferInstanceAs (Decidable (a ∈ c.own))
@[simp] theorem mem_CF {a : Addr} {o f : List Addr} : a ∈ (⟨o, f⟩ : CF) ↔ a ∈ o := Iff.rfl
inductive Ty | non | bool | int | str | list | tuple | dict | own (C : Addr) | fn (a : Addr)
def Ty.nm : Ty → String
  | .non => "NoneType" | .bool => "bool" | .int => "int" | .str => "str" | .list => "list" | .tuple => "tuple" | .dict => "dict" | .own _ => "object" | .fn _ => "function"
def Ty.val : Ty → Value
  | .own C => .ref C
  | t => .type t.nm
def tyT : T → Option Ty
  | .v .non => some .non
  | .v (.bl _) => some .bool
  | .v (.int _) => some .int
  | .v (.str _) => some .str
  | .v (.ref a) => some (.fn a)
  | .v _ => none
  | .lst _ => some .list
  | .tup _ => some .tuple
  | .dct _ => some .dict
  | .ins C _ => some (.own C)
def tyC : Cell → Option Ty
  | .lst _ => some .list
  | .dct _ => some .dict
  | .ins C _ => some (.own C)
  | .tup _ => some .tuple
  | .strmI => some .list
  | .strm _ => some .list
  | .fz t => tyT t
def tyD (S : Store) : D → Option Ty
  | .t x => tyT x
  | .m i => (S[i]?).bind tyC
/-- what is asked of an own class: its facts as an instance's type, against built-in types -/
structure OwnC (K : PySem.W.Frag) (C : Addr) : Prop where
  cl : Cls K C
  ha : PySem.W.findIn K (.ref C) "__class__" = some (some (.builtin "object.__class__"))
  hn : PySem.W.specialIn K (.builtin "object.__class__") "__get__" = some (some (.builtin "getset_descriptor.__get__"))
  htk : PySem.W.takesIn K (.builtin "object.__class__") = some true
  hm : PySem.W.mroIn K C (.type "object") = some true
  no : ∀ n ∈ (["int", "bool", "str", "list", "tuple", "dict"] : List String), PySem.W.kitOne K (.ref C) (.type n) = some false
  on : ∀ n ∈ (["NoneType", "int", "bool", "str", "list", "tuple", "dict"] : List String), PySem.W.kitOne K (.type n) (.ref C) = some false
def FncC (K : PySem.W.Frag) (a : Addr) : Prop := ∃ o, K.lookup a = some o ∧ o.cls = .type "function"
structure OwnOk (K : PySem.W.Frag) (Cs : CF) : Prop where
  own : ∀ C ∈ Cs, OwnC K C
  fns : ∀ a ∈ Cs.fns, FncC K a
  no : Cs.fns ≠ [] → ∀ C ∈ Cs, PySem.W.kitOne K (.type "function") (.ref C) = some false
/-- a type that may be asked for -/
def Ty.okIn (Cs : CF) : Ty → Prop
  | .own C => C ∈ Cs
  | .fn a => a ∈ Cs.fns
  | _ => True
theorem tyOf_T {K : PySem.W.Frag} {Cs : CF} (hk : OwnOk K Cs) {L : Addr → Prop} {H : Hp} {t : T} {y : V} {ty : Ty} (r : Rep L H t y) (e : tyT t = some ty) (hC : ty.okIn Cs) : TyY K H y ty.val := by
  cases t with
  | v x =>
    obtain rfl : y = x := r
    cases y <;> cases e
    · exact .inl (.base .non)
    · exact .inl (.base (.bl _))
    · exact .inl (.base (.int _))
    · exact .inl (.base (.str _))
    · obtain ⟨o, h1, h2⟩ := hk.fns _ hC; exact .inr ⟨_, o, rfl, rfl, h1, h2⟩
  | lst ts => cases e; obtain ⟨a, xs, rfl, _, h, _⟩ := r; exact .inl (.base (.lst h))
  | tup ts => cases e; obtain ⟨a, xs, rfl, _, h, _⟩ := r; exact .inl (.base (.tup h))
  | dct ts => cases e; obtain ⟨a, xs, rfl, _, h, _⟩ := r; exact .inl (.base (.dK h))
  | ins C ts =>
    cases e
    obtain ⟨a, dx, xs, rfl, _, h, _⟩ := r
    have o := hk.own C hC
    exact .inl (.base (.ins h o.cl o.ha o.hn o.htk o.hm))
theorem tyOf_D {K : PySem.W.Frag} {Cs : CF} (hk : OwnOk K Cs) {as S H d y} {ty : Ty} (st : StOk CT as S H) (r : RepD as (Live as S) H d y) (e : tyD S d = some ty) (hC : ty.okIn Cs) : TyY K H y ty.val := by
  cases d with
  | t x => exact tyOf_T hk r e hC
  | m i =>
    obtain ⟨a, ha, rfl⟩ := r
    obtain ⟨c, hc, ok⟩ := st.mem ha
    have e : (S[i]?).bind tyC = some ty := e
    rw [hc] at e
    have e : tyC c = some ty := e
    cases c with
    | lst ds => cases e; obtain ⟨xs, h, _⟩ := ok; exact .inl (.base (.lst h))
    | dct ds => cases e; obtain ⟨xs, h, _⟩ := ok; exact .inl (.base (.dK h))
    | ins C ds =>
      cases e
      obtain ⟨dx, xs, h, _⟩ := ok
      have o := hk.own C hC
      exact .inl (.base (.ins h o.cl o.ha o.hn o.htk o.hm))
    | tup ds => cases e; obtain ⟨xs, h, _⟩ := ok; exact .inl (.base (.tup h))
    | strmI => cases e; obtain ⟨ns, h, _⟩ := ok; exact .inl (.base (.lst h))
    | strm b => cases e; obtain ⟨c, x, y, z, _, h, _⟩ := ok; exact .inl (.base (.lst h))
    | fz t => exact tyOf_T hk ok.2 (show tyT t = some ty from e) hC
/-- no function object: the library's own way -/
theorem tyOf_X {K : PySem.W.Frag} {Cs : CF} (hk : OwnOk K Cs) {as S H d y} {ty : Ty} (st : StOk CT as S H) (r : RepD as (Live as S) H d y) (e : tyD S d = some ty) (hC : ty.okIn Cs) (hf : ∀ a, ty ≠ .fn a) : TyX K H y ty.val := by
  rcases tyOf_D hk st r e hC with h | ⟨a, o, _, h, _⟩
  · exact h
  · exfalso
    cases ty <;> first | exact hf _ rfl | (simp [Ty.val, Ty.nm] at h; done) | cases h
/-- the answer of isinstance for one class -/
def isa (Cs : CF) : Ty → V → Option Bool
  | .own C, .ref C' => if C ∈ Cs ∧ C = C' then some true else none
  | .own C, .ty n => if C ∈ Cs ∧ n ∈ (["int", "bool", "str", "list", "tuple", "dict"] : List String) then some false else none
  | .fn a, .ref C' => if a ∈ Cs.fns ∧ C' ∈ Cs then some false else none
  | .fn a, .ty n => if a ∈ Cs.fns then kitB "function" n else none
  | t, .ref C' => if C' ∈ Cs then some false else none
  | t, .ty n => kitB t.nm n
  | _, _ => none
theorem fn_kit {n : String} {b : Bool} (h : kitB "function" n = some b) {K : PySem.W.Frag} : PySem.W.kitOne K (.type "function") (.type n) = some b := kit_ty h
theorem isa_ok {K : PySem.W.Frag} {Cs : CF} (hk : OwnOk K Cs) {t : Ty} {c : V} {b : Bool} (e : isa Cs t c = some b) : ∃ u, ClsV c u ∧ PySem.W.kitOne K t.val u = some b := by
  have bt : ∀ (t : Ty), (∀ C, t ≠ .own C) → (∀ a, t ≠ .fn a) → isa Cs t c = some b → ∃ u, ClsV c u ∧ PySem.W.kitOne K t.val u = some b := by
    intro t ht hf e
    have hv : t.val = .type t.nm := by cases t <;> first | rfl | exact absurd rfl (ht _)
    have hn : t.nm ∈ (["NoneType", "int", "bool", "str", "list", "tuple", "dict"] : List String) := by cases t <;> first | exact absurd rfl (ht _) | exact absurd rfl (hf _) | simp [Ty.nm]
    rw [hv]
    cases c with
    | ty n =>
      refine ⟨_, .ty n, kit_ty ?_⟩
      cases t <;> first | exact e | exact absurd rfl (ht _) | exact absurd rfl (hf _)
    | ref C' =>
      refine ⟨_, .own C', ?_⟩
      have e : (if C' ∈ Cs then some false else none) = some b := by cases t <;> first | exact e | exact absurd rfl (ht _) | exact absurd rfl (hf _)
      by_cases h : C' ∈ Cs
      · rw [if_pos h] at e
        cases e
        exact (hk.own C' h).on _ hn
      · rw [if_neg h] at e; cases e
    | _ => cases t <;> first | cases e | exact absurd rfl (ht _) | exact absurd rfl (hf _)
  cases t with
  | own C =>
    cases c with
    | ref C' =>
      have e : (if C ∈ Cs ∧ C = C' then some true else none) = some b := e
      by_cases h : C ∈ Cs ∧ C = C'
      · rw [if_pos h] at e
        cases e
        obtain ⟨_, rfl⟩ := h
        refine ⟨_, .own C, ?_⟩
        show PySem.W.kitOne K (.ref C) (.ref C) = some true
        unfold PySem.W.kitOne
        rw [if_pos (by simp)]
      · rw [if_neg h] at e; cases e
    | ty n =>
      have e : (if C ∈ Cs ∧ n ∈ (["int", "bool", "str", "list", "tuple", "dict"] : List String) then some false else none) = some b := e
      by_cases h : C ∈ Cs ∧ n ∈ (["int", "bool", "str", "list", "tuple", "dict"] : List String)
      · rw [if_pos h] at e
        cases e
        exact ⟨_, .ty n, (hk.own C h.1).no n h.2⟩
      · rw [if_neg h] at e; cases e
    | _ => cases e
  | fn a =>
    cases c with
    | ref C' =>
      have e : (if a ∈ Cs.fns ∧ C' ∈ Cs then some false else none) = some b := e
      by_cases h : a ∈ Cs.fns ∧ C' ∈ Cs
      · rw [if_pos h] at e
        cases e
        exact ⟨_, .own C', hk.no (fun z => by rw [z] at h; cases h.1) C' h.2⟩
      · rw [if_neg h] at e; cases e
    | ty n =>
      have e : (if a ∈ Cs.fns then kitB "function" n else none) = some b := e
      by_cases h : a ∈ Cs.fns
      · rw [if_pos h] at e
        exact ⟨_, .ty n, fn_kit e⟩
      · rw [if_neg h] at e; cases e
    | _ => cases e
  | _ => exact bt _ (fun C z => by cases z) (fun C z => by cases z) e
def isaL (Cs : CF) (t : Ty) : List V → Option Bool
  | [] => some false
  | c :: cs => match isa Cs t c, isaL Cs t cs with
    | some b, some r => some (b || r)
    | _, _ => none
theorem isaL_ok {K : PySem.W.Frag} {Cs : CF} (hk : OwnOk K Cs) {t : Ty} : ∀ {cs : List V} {b : Bool}, isaL Cs t cs = some b → ∃ us, Paired ClsV cs us ∧ PySem.W.kitAny K t.val us = some b
  | [], b, e => by cases e; exact ⟨[], .nil, kitAny_nil⟩
  | c :: cs, b, e => by
    unfold isaL at e
    cases q1 : isa Cs t c with
    | none => rw [q1] at e; cases e
    | some b1 =>
      cases q2 : isaL Cs t cs with
      | none => rw [q1, q2] at e; cases e
      | some b2 =>
        rw [q1, q2] at e
        cases e
        obtain ⟨u, h1, h2⟩ := isa_ok hk q1
        obtain ⟨us, h3, h4⟩ := isaL_ok hk q2
        exact ⟨u :: us, .cons h1 h3, kitAny_cons h2 (fun hb => by rw [hb]; exact h4) fun hb => by rw [hb]; rfl⟩
theorem isa_in {Cs : CF} {t : Ty} {c : V} {b : Bool} (e : isa Cs t c = some b) : t.okIn Cs := by
  cases t with
  | own C =>
    cases c with
    | ref C' =>
      have e : (if C ∈ Cs ∧ C = C' then some true else none) = some b := e
      by_cases h : C ∈ Cs ∧ C = C'
      · exact h.1
      · rw [if_neg h] at e; cases e
    | ty n =>
      have e : (if C ∈ Cs ∧ n ∈ (["int", "bool", "str", "list", "tuple", "dict"] : List String) then some false else none) = some b := e
      by_cases h : C ∈ Cs ∧ n ∈ (["int", "bool", "str", "list", "tuple", "dict"] : List String)
      · exact h.1
      · rw [if_neg h] at e; cases e
    | _ => cases e
  | fn a =>
    cases c with
    | ref C' =>
      have e : (if a ∈ Cs.fns ∧ C' ∈ Cs then some false else none) = some b := e
      by_cases h : a ∈ Cs.fns ∧ C' ∈ Cs
      · exact h.1
      · rw [if_neg h] at e; cases e
    | ty n =>
      have e : (if a ∈ Cs.fns then kitB "function" n else none) = some b := e
      by_cases h : a ∈ Cs.fns
      · exact h
      · rw [if_neg h] at e; cases e
    | _ => cases e
  | _ => exact True.intro
def cIsi (Cs : CF) : RAD := fun ds S Q => ∃ (d : D) (ty : Ty), tyD S d = some ty ∧ ((∃ (c : V) (b : Bool), ds = [d, .t (.v c)] ∧ isa Cs ty c = some b ∧ Q (.bl b) S) ∨ ∃ (cs : List V) (b : Bool), cs ≠ [] ∧ ds = [d, .t (.tup (cs.map .v))] ∧ isaL Cs ty cs = some b ∧ Q (.bl b) S)
theorem repL_v {L : Addr → Prop} {H : Hp} : ∀ {cs xs : List V}, RepL L H (cs.map .v) xs → xs = cs
  | [], xs, h => h
  | c :: cs, xs, ⟨y, ys, e, h1, h2⟩ => by rw [e, show y = c from h1, repL_v h2]
theorem br_isi {K : PySem.W.Frag} {Cs : CF} (hk : OwnOk K Cs) : BrA CT (fun xs H Q => rIsiY K xs H Q ∨ rIsiTY K xs H Q) (cIsi Cs) := fun as S H xs ds Qd Q st r ⟨d, ty, e, q⟩ k => by
  rcases q with ⟨c, b, rfl, h, q⟩ | ⟨cs, b, hne, rfl, h, q⟩
  · obtain ⟨y, z, rfl, ry, rz⟩ := repDs2 r
    obtain rfl : z = c := rz
    obtain ⟨u, h1, h2⟩ := isa_ok hk h
    exact .inl ⟨y, z, _, u, b, rfl, h1, tyOf_D hk st ry e (isa_in h), h2, k.sc st q⟩
  · obtain ⟨y, z, rfl, ry, rz⟩ := repDs2 r
    obtain ⟨a, us, rfl, _, h1, h2⟩ := rz
    obtain rfl := repL_v h2
    obtain ⟨ws, h3, h4⟩ := isaL_ok hk h
    refine .inr ⟨y, a, us, _, ws, b, rfl, h1, h3, tyOf_D hk st ry e ?_, h4, k.sc st q⟩
    cases us with
    | nil => exact absurd rfl hne
    | cons c cs' =>
      unfold isaL at h
      cases q1 : isa Cs ty c with
      | none => rw [q1] at h; cases h
      | some b1 => exact isa_in q1
/-! ### methods of lists that are cells -/
def tyLst : D → Store → Prop := fun d S => ∃ ds, seqL S d = some ds
theorem bt_lst {K : PySem.W.Frag} : BrTy CT K "list" tyLst := fun as S H d x st r ⟨ds, e⟩ => by
  obtain ⟨a, xs, rfl, h, _⟩ := seqL_ok st r e
  exact .inl ⟨rfl, xs, .of h⟩
def mAppend : D → RAD := fun d ds S Q => ∃ i xs y, d = .m i ∧ ds = [y] ∧ S[i]? = some (.lst xs) ∧ xs.length < sizeLine ∧ Q .non (S.set i (.lst (xs ++ [y])))
theorem br_append : BrM CT rAppend mAppend := fun as S H x d xs ds Qd Q st rx r ⟨i, zs, y, e1, e2, hc, hl, q⟩ k => by
  subst e1 e2
  obtain ⟨v, rfl, rv⟩ := repDs1 r
  obtain ⟨a, ha, rfl⟩ := rx
  obtain ⟨us, h1, h2⟩ := st.cell i a _ ha hc
  refine ⟨a, us, v, rfl, rfl, h1, by rw [← Paired.length h2]; exact hl, ?_⟩
  obtain ⟨s1, o1⟩ := st.cellSet (o := .lst (us ++ [v])) (c' := .lst (zs ++ [y])) ha hc True.intro fun o => ⟨_, upd_same, Paired.snoc (o.reps h2) (o.rep rv)⟩
  exact (k.on o1).sc s1 q
def mExtend : D → RAD := fun d ds S Q => ∃ i xs y ys, d = .m i ∧ ds = [y] ∧ S[i]? = some (.lst xs) ∧ seqL S y = some ys ∧ xs.length + ys.length ≤ sizeLine ∧ Q .non (S.set i (.lst (xs ++ ys)))
theorem br_extend : BrM CT rExtend mExtend := fun as S H x d xs ds Qd Q st rx r ⟨i, zs, y, ys, e1, e2, hc, hy, hl, q⟩ k => by
  subst e1 e2
  obtain ⟨v, rfl, rv⟩ := repDs1 r
  obtain ⟨a, ha, rfl⟩ := rx
  obtain ⟨us, h1, h2⟩ := st.cell i a _ ha hc
  obtain ⟨b, ws, rfl, h3, h4⟩ := seqL_ok st rv hy
  refine ⟨a, b, us, ws, rfl, rfl, h1, h3, by rw [← Paired.length h2, ← Paired.length h4]; exact hl, ?_⟩
  obtain ⟨s1, o1⟩ := st.cellSet (o := .lst (us ++ ws)) (c' := .lst (zs ++ ys)) ha hc True.intro fun o => ⟨_, upd_same, Paired.app (o.reps h2) (o.reps h4)⟩
  exact (k.on o1).sc s1 q
theorem paired_get {as : List Addr} {L : Addr → Prop} {H : Hp} {ds : List D} {xs : List V} (r : RepDs as L H ds xs) {i : Nat} {d : D} (e : ds[i]? = some d) : ∃ y, xs[i]? = some y ∧ RepD as L H d y := repDs_get r e
theorem Paired.erase {α β : Type} {F : α → β → Prop} : ∀ {l₁ : List α} {l₂ : List β} (i : Nat), Paired F l₁ l₂ → Paired F (l₁.eraseIdx i) (l₂.eraseIdx i)
  | _, _, _, .nil => .nil
  | _, _, 0, .cons _ t => t
  | _, _, i + 1, .cons r t => .cons r (Paired.erase i t)
theorem Paired.set' {α β : Type} {F : α → β → Prop} {x : α} {y : β} (r : F x y) : ∀ {l₁ : List α} {l₂ : List β} (i : Nat), Paired F l₁ l₂ → Paired F (l₁.set i x) (l₂.set i y)
  | _, _, _, .nil => .nil
  | _, _, 0, .cons _ t => .cons r t
  | _, _, i + 1, .cons q t => .cons q (Paired.set' r i t)
def mPopAt : D → RAD := fun d ds S Q => ∃ i xs j k y, d = .m i ∧ ds = [.int j] ∧ S[i]? = some (.lst xs) ∧ -(2 ^ 63) ≤ j ∧ j < 2 ^ 63 ∧ seqIndex? j xs.length = some k ∧ xs[k]? = some y ∧ Q y (S.set i (.lst (xs.eraseIdx k)))
theorem br_popAt : BrM CT rPopAt mPopAt := fun as S H x d xs ds Qd Q st rx r ⟨i, zs, j, n, y, e1, e2, hc, h0, h1, hn, hy, q⟩ k => by
  subst e1 e2
  obtain ⟨v, rfl, rv⟩ := repDs1 r
  obtain rfl : v = .int j := rv
  obtain ⟨a, ha, rfl⟩ := rx
  obtain ⟨us, h2, h3⟩ := st.cell i a _ ha hc
  obtain ⟨w, hw, rw'⟩ := repDs_get h3 hy
  refine ⟨a, us, j, n, w, rfl, rfl, h2, h0, h1, by rw [← Paired.length h3]; exact hn, hw, ?_⟩
  obtain ⟨s1, o1⟩ := st.cellSet (o := .lst (us.eraseIdx n)) (c' := .lst (zs.eraseIdx n)) ha hc True.intro fun o => ⟨_, upd_same, Paired.erase n (o.reps h3)⟩
  exact (k.on o1).here s1 (o1.rep rw') q
def mReverse : D → RAD := fun d ds S Q => ∃ i xs, d = .m i ∧ ds = [] ∧ S[i]? = some (.lst xs) ∧ Q .non (S.set i (.lst xs.reverse))
theorem br_reverse : BrM CT rReverse mReverse := fun as S H x d xs ds Qd Q st rx r ⟨i, zs, e1, e2, hc, q⟩ k => by
  subst e1 e2
  cases r
  obtain ⟨a, ha, rfl⟩ := rx
  obtain ⟨us, h1, h2⟩ := st.cell i a _ ha hc
  refine ⟨a, us, rfl, rfl, h1, ?_⟩
  obtain ⟨s1, o1⟩ := st.cellSet (o := .lst us.reverse) (c' := .lst zs.reverse) ha hc True.intro fun o => ⟨_, upd_same, Paired.rev (o.reps h2)⟩
  exact (k.on o1).sc s1 q
/-- xs.index(x) of flat things -/
def mIndex : D → RAD := fun d ds S Q => ∃ (vs : List V) (v : V) (j : Nat) (u : V), seqL S d = some (vs.map fun u => .t (.v u)) ∧ ds = [.t (.v v)] ∧ flatV v = true ∧ vs.all flatV = true ∧ vs[j]? = some u ∧ eqV u v = true ∧ (∀ (m : Nat) w, m < j → vs[m]? = some w → eqV w v = false) ∧ Q (.int (j : Nat)) S
/-! ### xs[i] = v -/
def gSubD (to ti : TED) : TGD := fun d X ρ S Q => to X ρ S fun o S1 => ti X ρ S1 fun x S2 => ∃ i ds k j, o = .m i ∧ x = .int k ∧ S2[i]? = some (.lst ds) ∧ ixN ds.length k = some j ∧ Q ρ (S2.set i (.lst (ds.set j d)))
theorem dg_sub {e : Expr} {to ti : TED} (h : PG X e (gSub (lift CT E to) (lift CT E ti) rSetL)) : DG CT E X e (gSubD to ti) :=
  ⟨h.imp fun v σ H Q ⟨as, S, ρ, Xq, d, Qd, z, r, q, k⟩ => ⟨as, S, ρ, Xq, _, z, q, fun as1 S1 H1 o x o1 s1 ro q1 => ⟨as1, S1, ρ, Xq, _, z.on o1 s1, q1, fun as2 S2 H2 dx y o2 s2 ry ⟨i, ds, kk, j, e1, e2, hc, hj, q2⟩ => by
    subst e1 e2
    obtain rfl : y = .int kk := ry
    obtain ⟨a, ha, rfl⟩ := o2.rep ro
    obtain ⟨xs, h1, h2⟩ := s2.cell i a _ ha hc
    refine ⟨a, xs, kk, j, rfl, rfl, h1, by rw [← Paired.length h2]; exact hj, ?_⟩
    have o12 := o1.trans o2
    obtain ⟨s3, o3⟩ := s2.cellSet (o := .lst (xs.set j v)) (c' := .lst (ds.set j d)) ha hc True.intro fun o => ⟨_, upd_same, Paired.set' (o.rep (o12.rep r)) j (o.reps h2)⟩
    exact k as2 _ _ σ ρ (o12.trans o3) s3 ((o12.trans o3).env z.en) q2⟩⟩⟩
end
end DL
set_option Elab.async false
set_option linter.all false
set_option maxRecDepth 100000
/-! DL7: instances of own classes, pairs assigned, tuples of cells -/
namespace DL
open PySem PySem.Spec PyProof.Rows L2

section
variable {CT : TTs} {E : XK} {X : Cx}
/-! ### a tuple that holds cells -/
def dTupM (t : TAD) : TED := fun X ρ S Q => t X ρ S fun ds S1 => ds.length ≤ sizeLine ∧ Q (.m S1.length) (S1 ++ [.tup ds])
theorem de_tupM {es : List Expr} {x1} {pos : Pos} {t : TAD} (h : DA CT E X es t) : DE CT E X (.Tuple es x1 pos) (dTupM t) :=
  .of (pe_tup h.pa) fun σ H as S ρ Xq Qd Q z q k => ⟨as, S, ρ, Xq, _, z, q, fun as1 S1 H1 ds ys o1 s1 r ⟨hl, q1⟩ => ⟨by rw [← Paired.length r]; exact hl, fun p hp => by
    obtain ⟨s2, o2⟩ := s1.cellNew (c := .tup ds) (o := .tup ys) hp fun o => ⟨ys, upd_same, o.reps r⟩
    exact k _ _ _ (.m S1.length) _ (o1.trans o2) s2 ⟨p, by rw [← s1.len, List.getElem?_append_right (Nat.le_refl _)]; simp, rfl⟩ q1⟩⟩
/-! ### a, b = x, y -/
def sPar (i j : Nat) (t : TAD) : TSD := fun De ρ S => t De.ex ρ S fun ds S1 => ∃ d e, ds = [d, e] ∧ De.nx ((ρ.set i (some d)).set j (some e)) S1
theorem ds_par {st : Stmt} {i j : Nat} {t : TAD} (h : PS X st (tPar i j (liftA CT E t))) : DS CT E X st (sPar i j t) :=
  .of h fun σ H as S ρ De D z q k => ⟨as, S, ρ, De.ex, _, z, q, fun as1 S1 H1 ds ys o1 s1 r ⟨d, e, ed, q1⟩ => by
    subst ed
    obtain ⟨y, w, rfl, ry, rw'⟩ := repDs2 r
    exact ⟨y, w, rfl, k.nx as1 S1 H1 _ _ o1 s1 (((o1.env z.en).set ry).set rw') q1⟩⟩
def sPar3 (i j l : Nat) (t : TAD) : TSD := fun De ρ S => t De.ex ρ S fun ds S1 => ∃ d e f, ds = [d, e, f] ∧ De.nx (((ρ.set i (some d)).set j (some e)).set l (some f)) S1
theorem ds_par3 {st : Stmt} {i j l : Nat} {t : TAD} (h : PS X st (tPar3 i j l (liftA CT E t))) : DS CT E X st (sPar3 i j l t) :=
  .of h fun σ H as S ρ De D z q k => ⟨as, S, ρ, De.ex, _, z, q, fun as1 S1 H1 ds ys o1 s1 r ⟨d, e, f, ed, q1⟩ => by
    subst ed
    cases r with
    | cons r1 r2 =>
      cases r2 with
      | cons r3 r4 =>
        cases r4 with
        | cons r5 r6 =>
          cases r6
          exact ⟨_, _, _, rfl, k.nx as1 S1 H1 _ _ o1 s1 ((((o1.env z.en).set r1).set r3).set r5) q1⟩⟩
/-! ### instances -/
def cellI : Cell → Option (Addr × List (Str × D))
  | .ins C fs => some (C, fs)
  | .fz (.ins C fs) => some (C, fs.map fun p => (p.1, .t p.2))
  | _ => none
def insOf (S : Store) : D → Option (Addr × List (Str × D))
  | .t (.ins C fs) => some (C, fs.map fun p => (p.1, .t p.2))
  | .t _ => none
  | .m i => (S[i]?).bind cellI
theorem repFs_of {as : List Addr} {L : Addr → Prop} {H : Hp} : ∀ {fs : List (Str × T)} {xs : List (Str × V)}, RepF L H fs xs → RepFs as L H (fs.map fun p => (p.1, .t p.2)) xs
  | [], xs, h => by
    have h : xs = [] := h
    subst h; exact .nil
  | (k, t) :: ts, xs, ⟨y, ys, e, h1, h2⟩ => by
    subst e
    exact .cons ⟨rfl, h1⟩ (repFs_of h2)
theorem insOf_ok {as S H d x C fs} (st : StOk CT as S H) (r : RepD as (Live as S) H d x) (e : insOf S d = some (C, fs)) : ∃ a dx xs, x = .ref a ∧ H a = some (.ins C dx xs) ∧ RepFs as (Live as S) H fs xs := by
  cases d with
  | t u =>
    cases u with
    | ins C' gs =>
      cases e
      obtain ⟨a, dx, xs, e, _, h, q⟩ := r
      exact ⟨a, dx, xs, e, h, repFs_of q⟩
    | _ => cases e
  | m i =>
    obtain ⟨a, ha, e1⟩ := r
    obtain ⟨c, hc, ok⟩ := st.mem ha
    have e : (S[i]?).bind cellI = some (C, fs) := e
    rw [hc] at e
    have e : cellI c = some (C, fs) := e
    cases c with
    | ins C' es => cases e; obtain ⟨dx, xs, h1, h2⟩ := ok; exact ⟨a, dx, xs, e1, h1, h2⟩
    | fz t =>
      cases t with
      | ins C' ts =>
        cases e
        obtain ⟨_, b, dx, xs, e2, _, h, q⟩ := ok
        cases e2
        exact ⟨a, dx, xs, e1, h, repFs_of q⟩
      | _ => cases e
    | _ => cases e
theorem lookup_cons {α : Type} (f g : Str) (y : α) (fs : List (Str × α)) : ((f, y) :: fs).lookup g = if g = f then some y else fs.lookup g := by
  by_cases h : g = f
  · subst h
    simp [List.lookup]
  · have e : (g == f) = false := by simpa using h
    rw [if_neg h]
    simp [List.lookup, e]
theorem lookup_rep {as : List Addr} {L : Addr → Prop} {H : Hp} {f : Str} {fs : List (Str × D)} {xs : List (Str × V)} (r : RepFs as L H fs xs) : (∀ d, fs.lookup f = some d → ∃ y, xs.lookup f = some y ∧ RepD as L H d y) ∧ (fs.lookup f = none → xs.lookup f = none) := by
  induction r with
  | nil => exact ⟨fun d h => (nomatch h), fun _ => rfl⟩
  | @cons p q l1 l2 r1 r2 ih =>
    obtain ⟨k, d0⟩ := p
    obtain ⟨k', y0⟩ := q
    obtain ⟨rk, rd⟩ := r1
    have rk : k = k' := rk
    subst rk
    rw [lookup_cons, lookup_cons]
    by_cases h : f = k
    · rw [if_pos h, if_pos h]
      exact ⟨fun d e => by cases e; exact ⟨_, rfl, rd⟩, fun e => by cases e⟩
    · rw [if_neg h, if_neg h]
      exact ih
def putD (f : Str) (v : D) : List (Str × D) → List (Str × D)
  | [] => [(f, v)]
  | (g, x) :: r => if g = f then (g, v) :: r else (g, x) :: putD f v r
theorem put_rep {as : List Addr} {L : Addr → Prop} {H : Hp} {f : Str} {d : D} {y : V} (rd : RepD as L H d y) {fs : List (Str × D)} {xs : List (Str × V)} (r : RepFs as L H fs xs) : RepFs as L H (putD f d fs) (putF f y xs) := by
  induction r with
  | nil => exact .cons ⟨rfl, rd⟩ .nil
  | @cons p q l1 l2 r1 r2 ih =>
    obtain ⟨k, d0⟩ := p
    obtain ⟨k', y0⟩ := q
    obtain ⟨rk, rd0⟩ := r1
    have rk : k = k' := rk
    subst rk
    unfold putD putF
    by_cases h : k = f
    · rw [if_pos h, if_pos h]; exact .cons ⟨rfl, rd⟩ r2
    · rw [if_neg h, if_neg h]; exact .cons ⟨rfl, rd0⟩ ih
/-- e.f: of an instance of a class among Cs -/
def dFld (Cs : List Addr) (f : Str) (t : TED) : TED := fun X ρ S Q => t X ρ S fun d S1 => ∃ C fs v, insOf S1 d = some (C, fs) ∧ C ∈ Cs ∧ fs.lookup f = some v ∧ Q v S1
theorem de_fld {e : Expr} {f : Str} {pos : Pos} {t : TED} {Cs : List Addr} (hk : ∀ C ∈ Cs, Cls X.K C ∧ NoAttr X.K C f) (he : DE CT E X e t) (hb : attributeBase e f X.env (eval e X.env) = eval e X.env := by rfl) : DE CT E X (.Attribute e f pos) (dFld Cs f t) :=
  .of (pe_fld he.pe hb) fun σ H as S ρ Xq Qd Q z q k => ⟨as, S, ρ, Xq, _, z, q, fun as1 S1 H1 d x o1 s1 r ⟨C, fs, v, e1, hC, hl, q1⟩ => by
    obtain ⟨a, dx, xs, rfl, h1, h2⟩ := insOf_ok s1 r e1
    obtain ⟨y, h3, h4⟩ := (lookup_rep (f := f) h2).1 v hl
    exact ⟨a, C, dx, xs, y, rfl, h1, (hk C hC).1, (hk C hC).2, h3, (k.on o1).here s1 h4 q1⟩⟩
/-- o.f = e -/
def sFldD (Cs : List Addr) (f : Str) (to te : TED) : TSD := fun De ρ S => te De.ex ρ S fun y S1 => to De.ex ρ S1 fun x S2 => ∃ i C fs, x = .m i ∧ S2[i]? = some (.ins C fs) ∧ C ∈ Cs ∧ fs.length < 1000 ∧ De.nx ρ (S2.set i (.ins C (putD f y fs)))
theorem ds_fld {o e : Expr} {f : Str} {p pos : Pos} {to te : TED} {Cs : List Addr} (hk : ∀ C ∈ Cs, Cls X.K C ∧ NoAttr X.K C f) (ho : DE CT E X o to) (he : DE CT E X e te) (hs : swapsWith e (some (.Attribute o f p)) pos.line X.env = pure false := by rfl) :
    DS CT E X (.Assign [.Attribute o f p] e pos) (sFldD Cs f to te) :=
  .of (ps_fld ho.pe he.pe hs) fun σ H as S ρ De D z q k => ⟨as, S, ρ, De.ex, _, z, q, fun as1 S1 H1 d y o1 s1 r1 q1 => ⟨as1, S1, ρ, De.ex, _, z.on o1 s1, q1, fun as2 S2 H2 dx x o2 s2 r2 ⟨i, C, fs, e1, hc, hC, hl, q2⟩ => by
    subst e1
    obtain ⟨a, ha, rfl⟩ := r2
    obtain ⟨dd, xs, h1, h2⟩ := s2.cell i a _ ha hc
    refine ⟨a, C, dd, xs, rfl, h1, (hk C hC).1, (hk C hC).2, by rw [← Paired.length h2]; exact hl, ?_⟩
    obtain ⟨s3, o3⟩ := s2.cellSet (o := .ins C dd (putF f y xs)) (c' := .ins C (putD f d fs)) ha hc True.intro fun o => ⟨dd, _, upd_same, put_rep (o.rep (o2.rep r1)) (Paired.mapP h2 fun p q z => ⟨z.1, o.rep z.2⟩)⟩
    have o := (o1.trans o2).trans o3
    exact k.nx as2 _ _ σ ρ o s3 (o.env z.en) q2⟩⟩
/-- o.m(..) -/
def dMeth (C : Addr) (m : Str) (n : Nat) (ft : FT) (o : TED) (t : TAD) : TED := fun X ρ S Q => o X ρ S fun d S1 => ∃ fs, insOf S1 d = some (C, fs) ∧ fs.lookup m = none ∧ t X ρ S1 fun ds S2 => ds.length + 1 = n ∧ ft (d :: ds) S2 Q fun e => X e S2
theorem de_meth {e : Expr} {C : Addr} {m : Str} {n : Nat} {ft : FT} {o : TED} {t : TAD} (h : PE X e (tMeth C m (spD CT n ft) [] E (lift CT E o) (liftA CT E t))) : DE CT E X e (dMeth C m n ft o t) :=
  .of h fun σ H as S ρ Xq Qd Q z q k => ⟨as, S, ρ, Xq, _, z, q, fun as1 S1 H1 d x o1 s1 r ⟨fs, e1, hm, q1⟩ => by
    obtain ⟨a, dx, xs, rfl, h1, h2⟩ := insOf_ok s1 r e1
    refine ⟨a, dx, xs, rfl, h1, (lookup_rep (f := m) h2).2 hm, as1, S1, ρ, Xq, _, z.on o1 s1, q1, fun as2 S2 H2 ds ys o2 s2 r2 ⟨hl, q2⟩ => ?_⟩
    show spD CT n ft (V.ref a :: (ys ++ [])) H2 Q E
    rw [List.append_nil]
    have o12 := o1.trans o2
    exact spD_of (ds := d :: ds) s2 (.cons (o2.rep r) r2) hl q2 (k.on o12) (z.ex.on o12)⟩
theorem de_meth0 {e : Expr} {C : Addr} {m : Str} {n : Nat} {ft : FT} {o : TED} (h : PE X e (tMeth C m (spD CT n ft) [] E (lift CT E o) tNil)) : DE CT E X e (dMeth C m n ft o dNil) :=
  .of h fun σ H as S ρ Xq Qd Q z q k => ⟨as, S, ρ, Xq, _, z, q, fun as1 S1 H1 d x o1 s1 r ⟨fs, e1, hm, hl, q1⟩ => by
    obtain ⟨a, dx, xs, rfl, h1, h2⟩ := insOf_ok s1 r e1
    refine ⟨a, dx, xs, rfl, h1, (lookup_rep (f := m) h2).2 hm, ?_⟩
    show spD CT n ft [V.ref a] H1 Q E
    exact spD_of (ds := [d]) s1 (.cons r .nil) hl q1 (k.on o1) (z.ex.on o1)⟩
/-- C(..) -/
def mkD (C : Addr) (n : Nat) (ft : FT) (ds : List D) (X : XQ) (S : Store) (Q : D → Store → Prop) : Prop :=
  ds.length + 1 = n ∧ ft (.m S.length :: ds) (S ++ [.ins C []]) (fun d S2 => d = .non ∧ Q (.m S.length) S2) fun e => X e (S ++ [.ins C []])
def dMake (C : Addr) (n : Nat) (ft : FT) (t : TAD) : TED := fun X ρ S Q => t X ρ S fun ds S1 => mkD C n ft ds X S1 Q
theorem mk_of' {C : Addr} {n : Nat} {ft : FT} {ds : List D} {ys : List V} {Xq : XQ} {as S H Qd Q} (st : StOk CT as S H) (r : RepDs as (Live as S) H ds ys) (q : mkD C n ft ds Xq S Qd) (k : KE CT as S H Qd Q) (ex : ExOk CT E as S H Xq) {x dx : Addr} (hx : H x = none) (hd : H dx = none) (ne : dx ≠ x) :
    spD CT n ft (V.ref x :: ys) (upd (upd H dx (.own x)) x (.ins C dx [])) (fun v H2 => v = .non ∧ Q (.ref x) H2) E := by
  obtain ⟨hl, q⟩ := q
  obtain ⟨s1, o1⟩ := st.new (o := .own x) hd
  have hx1 : upd H dx (.own x) x = none := by rw [upd_ne (Ne.symm ne)]; exact hx
  obtain ⟨s2, o2⟩ := s1.cellNew (o := .ins C dx []) (c := .ins C []) hx1 fun _ => ⟨dx, [], upd_same, .nil⟩
  have o := o1.trans o2
  have hxn : (as ++ [x])[S.length]? = some x := by rw [← st.len, List.getElem?_append_right (Nat.le_refl _)]; simp
  exact spD_of (ds := .m S.length :: ds) (X := fun e S' => Xq e S') s2 (.cons ⟨x, hxn, rfl⟩ (o.reps r)) hl q (fun as' S' H' d y o' s' r' ⟨e1, q'⟩ => by
    subst e1
    exact ⟨r', k as' S' H' (.m S.length) (.ref x) (o.trans o') s' ⟨x, o'.pre _ _ hxn, rfl⟩ q'⟩) (ex.on o)
theorem de_make {e : Expr} {C : Addr} {n : Nat} {ft : FT} {t : TAD} (h : PE X e (tMake C (spD CT n ft) [] E (liftA CT E t))) : DE CT E X e (dMake C n ft t) :=
  .of h fun σ H as S ρ Xq Qd Q z q k => ⟨as, S, ρ, Xq, _, z, q, fun as1 S1 H1 ds ys o1 s1 r q1 => fun x dx hx hd ne => by
    show spD CT n ft (V.ref x :: (ys ++ [])) _ _ E
    rw [List.append_nil]
    exact mk_of' s1 r q1 (k.on o1) (z.ex.on o1) hx hd ne⟩
end
end DL
set_option Elab.async false
set_option linter.all false
set_option maxRecDepth 100000
/-! DL8: short words for the derivations that gen.py prints; promises by names -/
namespace DL
open PySem PySem.Spec PyProof.Rows L2

/-- no name of the module hides these -/
structure Bs (mg : Str → Option Value) : Prop where
  len : mg "len" = none
  isinstance : mg "isinstance" = none
  int : mg "int" = none
  bool : mg "bool" = none
  str : mg "str" = none
  list : mg "list" = none
  tuple : mg "tuple" = none
  dict : mg "dict" = none
  range : mg "range" = none
  enumerate : mg "enumerate" = none
  zip : mg "zip" = none
  any : mg "any" = none
  all : mg "all" = none
  abs : mg "abs" = none
  max : mg "max" = none
  min : mg "min" = none
  sum : mg "sum" = none
  sorted : mg "sorted" = none
  repr : mg "repr" = none
theorem bo_len : bootBuiltins "len" = some (.builtin "len") := by decide +kernel
theorem bo_isinstance : bootBuiltins "isinstance" = some (.builtin "isinstance") := by decide +kernel
theorem bo_int : bootBuiltins "int" = some (.type "int") := by decide +kernel
theorem bo_bool : bootBuiltins "bool" = some (.type "bool") := by decide +kernel
theorem bo_str : bootBuiltins "str" = some (.type "str") := by decide +kernel
theorem bo_list : bootBuiltins "list" = some (.type "list") := by decide +kernel
theorem bo_tuple : bootBuiltins "tuple" = some (.type "tuple") := by decide +kernel
theorem bo_dict : bootBuiltins "dict" = some (.type "dict") := by decide +kernel
theorem bo_any : bootBuiltins "any" = some (.builtin "any") := by decide +kernel
theorem bo_all : bootBuiltins "all" = some (.builtin "all") := by decide +kernel
theorem bo_abs : bootBuiltins "abs" = some (.builtin "abs") := by decide +kernel
theorem bo_max : bootBuiltins "max" = some (.builtin "max") := by decide +kernel
theorem bo_min : bootBuiltins "min" = some (.builtin "min") := by decide +kernel
theorem bo_sum : bootBuiltins "sum" = some (.builtin "sum") := by decide +kernel
theorem bo_sorted : bootBuiltins "sorted" = some (.builtin "sorted") := by decide +kernel
theorem bo_repr : bootBuiltins "repr" = some (.builtin "repr") := by decide +kernel

/-- a def of the module, by name -/
structure FnG (CT : TTs) (P : Program) (w : World) (K : PySem.W.Frag) (mg : Str → Option Value) (base : Heap) (k : Nat) (x : Str) (ps : List Str) (ft : FT) : Prop where
  ex : ∃ f fd, FnOk P w K mg base (L2.CX P w) k f fd ps (spD CT ps.length ft) ∧ Binds K fd ps [] ∧ mg x = some (.ref f) ∧ PySem.W.keepIn K (.ref f) = true
/-- a class's method -/
structure MtG (CT : TTs) (P : Program) (w : World) (K : PySem.W.Frag) (mg : Str → Option Value) (base : Heap) (k : Nat) (C : Addr) (m : Str) (ps : List Str) (ft : FT) : Prop where
  ex : ∃ f fd, FnOk P w K mg base (L2.CX P w) k f fd ps (spD CT ps.length ft) ∧ Binds K fd ps [] ∧ Cls K C ∧ Meth K C m f
/-- how a class is called -/
structure MkG (CT : TTs) (P : Program) (w : World) (K : PySem.W.Frag) (mg : Str → Option Value) (base : Heap) (k : Nat) (x : Str) (C : Addr) (ps : List Str) (ft : FT) : Prop where
  ex : ∃ f fd, FnOk P w K mg base (L2.CX P w) k f fd ps (spD CT ps.length ft) ∧ Binds K fd ps [] ∧ Mk K C f ∧ mg x = some (.ref C)

section
variable {CT : TTs} {E : XK} {X : Cx} {x : Str} {p pos apos : Pos}
theorem passM {P w K mg base N qual scope f cd A outer s H E} : Passes (L2.CX P w) (cxOf (L2.CX P w) P w K mg base N qual scope f cd A outer s H E) E := passes_call (takes_of rfl rfl rfl rfl) fun _ _ _ _ h => h
/-! ### names, constants -/
theorem de_v (i : Nat) (hN : X.N[i]? = some x := by rfl) (hv : Vis X.env.scope x := by first | exact Or.inl rfl | exact Or.inr (Or.inl rfl) | exact Or.inr (Or.inr rfl)) (hd : (x == ("__debug__" : Str)) = false := by decide)
    (hcd : (x == ("__classdict__" : Str)) = false := by decide) : DE CT E X (.Name x pos) (dVar i) := de_var (pe_var hN hv hd hcd)
theorem de_int {i : Int} {j : Nat} : DE CT E X (.Constant (.int i) j pos) (dC (.int i)) := de_c pe_int
theorem de_bool {b : Bool} {j : Nat} : DE CT E X (.Constant (.bool b) j pos) (dC (.bl b)) := de_c pe_bl
theorem de_none {j : Nat} : DE CT E X (.Constant .none j pos) (dC .non) := de_c pe_non
theorem de_str {s : Str} {j : Nat} : DE CT E X (.Constant (.str s) j pos) (dC (.str s)) := de_c pe_str
theorem de_ty {T : String} (hm : X.mg x = none) (hv : bootBuiltins x = some (.type T)) (hg : Gl X x := by rfl) (hn : x ≠ "__name__" := by decide) (hd : (x == ("__debug__" : Str)) = false := by decide) : DE CT E X (.Name x pos) (dC (.ty T)) :=
  de_c (pe_bltn hg hm hv rfl hn hd)
theorem de_cls {C : Addr} (hm : X.mg x = some (.ref C)) (hg : Gl X x := by rfl) (hd : (x == ("__debug__" : Str)) = false := by decide) : DE CT E X (.Name x pos) (dC (.ref C)) := de_c (pe_glob hg hm rfl hd)
/-! ### operators -/
theorem de_neg {a : Expr} {ta : TED} (ha : DE CT E X a ta) : DE CT E X (.UnaryOp .USub a pos) (dUn (uI fun i => .int (-i)) ta) := de_un un_neg br_U ha
theorem hu65 {k : Nat} {A : Around} (r : Room k A) : A.units + 65 < cLine := by have := r.un; omega
/-! ### calls -/
section
variable {e : Expr} {es : List Expr} {t : TAD}
theorem de_B {id : String} {rh : List V → Hp → VK → Prop} {r : RAD} (hc : CallR X (.builtin id) rh) (br : BrA CT rh r) (hm : X.mg x = none) (hv : bootBuiltins x = some (.builtin id)) (ha : DA CT E X (e :: es) t) (hg : Gl X x := by rfl) (hn : x ≠ "__name__" := by decide)
    (hdb : (x == ("__debug__" : Str)) = false := by decide) (he : starEach (e :: es) X.env = (false, eval e X.env) :: starEach es X.env := by rfl) (hpl : (backTo pos (starEach es X.env)).any (·.1) = false := by rfl) : DE CT E X (.Call (.Name x p) (e :: es) [] pos) (dCB r t) :=
  de_cb (pe_callB hc hg hm hv ha.pa hn hdb he hpl) br
theorem de_T {id : String} {rh : List V → Hp → VK → Prop} {r : RAD} (hc : CallR X (.type id) rh) (br : BrA CT rh r) (hm : X.mg x = none) (hv : bootBuiltins x = some (.type id)) (ha : DA CT E X (e :: es) t) (hg : Gl X x := by rfl) (hn : x ≠ "__name__" := by decide)
    (hdb : (x == ("__debug__" : Str)) = false := by decide) (he : starEach (e :: es) X.env = (false, eval e X.env) :: starEach es X.env := by rfl) (hpl : (backTo pos (starEach es X.env)).any (·.1) = false := by rfl) : DE CT E X (.Call (.Name x p) (e :: es) [] pos) (dCB r t) :=
  de_cb (pe_callTy hc hg hm hv ha.pa hn hdb he hpl) br
theorem de_G {k : Nat} {ps : List Str} {ft : FT} (G : FnG CT X.prog X.w X.K X.mg X.base k x ps ft) (hr : Room k X.A) (hx : Passes (L2.CX X.prog X.w) X E) (ha : DA CT E X (e :: es) t) (hg : Gl X x := by rfl)
    (hdb : (x == ("__debug__" : Str)) = false := by decide) (he : starEach (e :: es) X.env = (false, eval e X.env) :: starEach es X.env := by rfl) (hpl : (backTo pos (starEach es X.env)).any (·.1) = false := by rfl) : DE CT E X (.Call (.Name x p) (e :: es) [] pos) (dCall ps.length ft t) := by
  obtain ⟨f, fd, F, hb, hm, hk⟩ := G.ex
  exact de_call (pe_call F hr hg hm hk hb .nil hx ha.pa hdb he hpl)
theorem de_K {k : Nat} {ps : List Str} {ft : FT} {C : Addr} (G : MkG CT X.prog X.w X.K X.mg X.base k x C ps ft) (hr : Room (k + 1) X.A) (hx : Passes (L2.CX X.prog X.w) X E) (ha : DA CT E X (e :: es) t) (hg : Gl X x := by rfl)
    (hdb : (x == ("__debug__" : Str)) = false := by decide) (he : starEach (e :: es) X.env = (false, eval e X.env) :: starEach es X.env := by rfl) (hpl : (backTo pos (starEach es X.env)).any (·.1) = false := by rfl) : DE CT E X (.Call (.Name x p) (e :: es) [] pos) (dMake C ps.length ft t) := by
  obtain ⟨f, fd, F, hb, M, hm⟩ := G.ex
  exact de_make (pe_make M F hr hg hm hb .nil hx ha.pa hdb he hpl)
end
/-! ### methods of own classes -/
theorem de_M {e o : Expr} {es : List Expr} {t : TAD} {to : TED} {k : Nat} {C : Addr} {m : Str} {ps : List Str} {ft : FT} (G : MtG CT X.prog X.w X.K X.mg X.base k C m ps ft) (hr : Room k X.A) (hx : Passes (L2.CX X.prog X.w) X E) (ho : DE CT E X o to)
    (h : ∀ f fd, FnOk X.prog X.w X.K X.mg X.base (L2.CX X.prog X.w) k f fd ps (spD CT ps.length ft) → Binds X.K fd ps [] → Cls X.K C → Meth X.K C m f → PE X (.Call (.Attribute o m apos) (e :: es) [] pos) (L2.tMeth C m (spD CT ps.length ft) [] E (lift CT E to) (liftA CT E t))) :
    DE CT E X (.Call (.Attribute o m apos) (e :: es) [] pos) (dMeth C m ps.length ft to t) := by
  obtain ⟨f, fd, F, hb, c, hm⟩ := G.ex
  exact de_meth (h f fd F hb c hm)
theorem de_M0 {o : Expr} {to : TED} {k : Nat} {C : Addr} {m : Str} {ps : List Str} {ft : FT} (G : MtG CT X.prog X.w X.K X.mg X.base k C m ps ft)
    (h : ∀ f fd, FnOk X.prog X.w X.K X.mg X.base (L2.CX X.prog X.w) k f fd ps (spD CT ps.length ft) → Binds X.K fd ps [] → Cls X.K C → Meth X.K C m f → PE X (.Call (.Attribute o m apos) [] [] pos) (L2.tMeth C m (spD CT ps.length ft) [] E (lift CT E to) tNil)) :
    DE CT E X (.Call (.Attribute o m apos) [] [] pos) (dMeth C m ps.length ft to dNil) := by
  obtain ⟨f, fd, F, hb, c, hm⟩ := G.ex
  exact de_meth0 (h f fd F hb c hm)
end
end DL
set_option Elab.async false
set_option linter.all false
set_option maxRecDepth 100000
/-! DL9: more rules: enumerate -/
namespace PySem
open Sem (wp)
open AutoSeq1 (wpAny_loadPart')
theorem dl_enum_newT (l : Addr) (items : Array Value) (n : Nat) (dct : Option Addr) (sl : Array (Option Value)) :
    Meets (Builtin.«enumerate.__new__» ⟨[.type "enumerate", .ref l], []⟩) (fun _ R s => s.heap.get? l = some { cls := .type "tuple", dict := dct, data := .seq items n, slots := sl } ∧
      R (.ok (.ret (.ref (s.heap.push { cls := .type "tuple_iterator", data := .fields #[.ref l, .int 0 0] }).objs.size)))
        { s with heap := (s.heap.push { cls := .type "tuple_iterator", data := .fields #[.ref l, .int 0 0] }).push { cls := .type "enumerate", data := .fields #[.none, .bool false, .ref s.heap.objs.size, rawInt 0, .none, .none] } }) :=
  .of_wp fun prog w A R s h => by
    obtain ⟨hp, g, d, tk, os⟩ := s; obtain ⟨hl, h⟩ := h
    have hsub := sub_enumerate
    have hL : Heap.IsTuple (Shared.heap ⟨hp, g, d, tk, os⟩) l items := ⟨_, hl, rfl, n, rfl⟩
    wp_walk using wpAny_loadPart' hl
    refine wpAny_stack_any fun st => wpAny_pure ?_
    split
    · rename_i c _ _ _ _ _
      cases (c == Value.type "enumerate")
      · wp_walk using wpAny_loadPart' hl, wpAny_pyIter_tuple hL
        exact ⟨_, rfl, h⟩
      · wp_walk using wpAny_loadPart' hl, wpAny_pyIter_tuple hL
        exact ⟨_, rfl, h⟩
    · wp_walk using wpAny_loadPart' hl, wpAny_pyIter_tuple hL
      exact ⟨_, rfl, h⟩
section
variable {prog : Program} {w : World} {A : Around} {E : Value → Shared → Prop} {s : Shared}
theorem dl_call_enumT {l : Addr} {items : Array Value} {Q : Value → Shared → Prop} (hL : s.heap.IsTuple l items)
    (h : ∀ h', IsEnum h' (s.heap.objs.size + 1) s.heap.objs.size 0 .none → h'.IsTupleIter s.heap.objs.size l 0 → h'.objs.size = s.heap.objs.size + 2 →
      (∀ b o, s.heap.get? b = some o → h'.get? b = some o) → Q (.ref (s.heap.objs.size + 1)) { s with heap := h' }) :
    wpAny (model prog w) A (call (.type "enumerate") [.ref l]) Q E s := by
  obtain ⟨⟨c, dct, dt, sl⟩, hl, hc, n, hd⟩ := hL
  replace hc : c = .type "tuple" := hc
  replace hd : dt = .seq items n := hd
  subst hc hd
  refine callType_new F.called_enumerate (by decide) (F.typeCall_enumerate_1 _) (F.newCall_enumerate_1 _) (fun obj => F.args_object_init_2 obj _) F.entry_enumerate_new
    (dl_enum_newT l items n dct sl) ⟨hl, ?_⟩
  have hz : (s.heap.push { cls := .type "tuple_iterator", data := .fields #[.ref l, .int 0 0] }).objs.size = s.heap.objs.size + 1 := Heap.size_push ..
  show _ ∧ _
  rw [hz]
  have he : IsEnum ((s.heap.push { cls := .type "tuple_iterator", data := .fields #[.ref l, .int 0 0] }).push
      { cls := .type "enumerate", data := .fields #[.none, .bool false, .ref s.heap.objs.size, rawInt 0, .none, .none] }) (s.heap.objs.size + 1) s.heap.objs.size 0 .none := by
    have := Heap.get?_push_size (s.heap.push { cls := .type "tuple_iterator", data := .fields #[.ref l, .int 0 0] })
      (o := { cls := .type "enumerate", data := .fields #[.none, .bool false, .ref s.heap.objs.size, rawInt 0, .none, .none] }) rfl
    rw [hz] at this; exact this
  refine ⟨⟨_, he, rfl⟩, h _ he ⟨_, Heap.get?_push_of_some _ (Heap.get?_push_size _ rfl), rfl, rfl⟩ (by rw [Heap.size_push, hz]) fun b o x => Heap.get?_push_of_some _ (Heap.get?_push_of_some _ x)⟩
end
end PySem
namespace DL
open PySem PySem.Spec PyProof.Rows L2
/-! ### enumerate(tuple) -/
def IteT (K : PySem.W.Frag) (a : Addr) : It :=
  ⟨fun i H => ∃ (xs : List V) (x : V), SqT K H a xs ∧ xs[i]? = some x, fun i H v H' => ∃ T x, v = .ref T ∧ H T = none ∧ H' = upd H T (.tup [.int (i : Nat), x]) ∧ ∀ xs, SqT K H a xs → xs[i]? = some x, fun i H => ∃ xs : List V, SqT K H a xs ∧ xs.length ≤ i⟩
theorem turn_enumT {P : Program} {w : World} {K : PySem.W.Frag} {elts : List Expr} {kk : Nat} {tpos : Pos} (a e it : Addr) (hai : a ≠ it) (hae : a ≠ e) :
    Turn P w K (.Tuple elts kk tpos) (IteT K a) [e, it] e (fun i h => (∃ old, IsEnum h e it ((i : Nat) : Int) old) ∧ h.IsTupleIter it a i ∧ e ≠ it) where
  mem := by simp
  obj := fun i h st b hb => by
    obtain ⟨⟨old, he⟩, ⟨o, ho, hc, hd⟩, _⟩ := st
    have e' : b = e ∨ b = it := by simpa using hb
    rcases e' with z | z
    · rw [z]; exact ⟨_, he, fun v q => nomatch q⟩
    · rw [z]; exact ⟨o, ho, fun v q => by rw [hd] at q; cases q⟩
  keep := fun i h h' st k => let ⟨⟨old, he⟩, hi, hne⟩ := st; ⟨⟨old, k e (by simp) _ he⟩, hi.at fun o q => k it (by simp) o q, hne⟩
  item := by
    intro X hP hw hK hc i pins s σ H E I hf st hg
    subst hP hw hK
    obtain ⟨⟨old, he⟩, hit, hne⟩ := st
    obtain ⟨xs, x, hq, hx⟩ := hg
    obtain ⟨its, rv, p, hz⟩ := I.tuple hq
    obtain ⟨u, hu, ru⟩ := rv.get hx
    have hel : e < s.heap.objs.size := Heap.lt_size he
    have hil : it < s.heap.objs.size := by obtain ⟨_, q, _⟩ := hit; exact Heap.lt_size q
    have hlt : i < its.toArray.size := by
      have := (List.getElem?_eq_some_iff.mp hu).1
      simpa using this
    refine wpAny_pyNext_enum_itemD (Draws.tuple (A := X.A.in1) (I.ok.hd hc) it a hai its.toArray) he ⟨hit, p⟩ hlt hne (by simp [hne, Ne.symm hae]) fun x' h' tk hPx ho hst' hT hsz hk => ?_
    obtain ⟨hit', _⟩ := hst'
    have ex : x' = u := by
      have : its[i]? = some x' := by simpa using hPx
      rw [hu] at this; exact (Option.some.inj this).symm
    subst ex
    refine ⟨_, rfl, wpAny_letOwnedTupleGo_enum (s := { s with heap := h', toks := tk + 1 }) ho fun h'' he' sb => ?_⟩
    have hT2 : h''.get? s.heap.objs.size = some { cls := .type "tuple", data := .seq #[.int i tk, x'] } := (sb.2 _ (Nat.ne_of_gt hel)).trans hT
    have new : ObjOk X.prog X.w (upd H s.heap.objs.size (.tup [.int (i : Nat), x])) h'' s.heap.objs.size (.tup [.int (i : Nat), x]) :=
      ⟨by show 2 ≤ sizeLine; decide, [.int i tk, x'], .cons ⟨_, rfl⟩ (.cons ru .nil), ⟨_, hT2, rfl, _, rfl⟩⟩
    have I1 : Inv X pins σ (upd H s.heap.objs.size (.tup [.int (i : Nat), x])) { s with heap := h'', toks := tk + 1 } :=
      I.turnedNew (ch := [e, it]) (fun b ob hb q => (sb.2 b (fun z => hb (by simp [z]))).trans (hk b ob (fun z => hb (by simp [z])) (fun z => hb (by simp [z])) q)) hf (Nat.le_refl _) new
    refine ⟨.ref s.heap.objs.size, _, I1, rfl, ⟨_, x, rfl, I.hok.fresh (Nat.le_refl _), rfl, fun ys hy => by rw [I.tuple_inj hy hq]; exact hx⟩, ⟨⟨x', ?_⟩, hit'.at fun o q => (sb.2 it (Ne.symm hne)).trans q, hne⟩, fun b hb => ?_⟩
    · have e1 : ((i + 1 : Nat) : Int) = (i : Int) + 1 := by omega
      rw [e1]; exact he'
    · have hb' : b < s.heap.objs.size := by
        have e' : b = e ∨ b = it := by simpa using hb
        rcases e' with z | z
        · rw [z]; exact hel
        · rw [z]; exact hil
      rw [upd_ne (Nat.ne_of_lt hb')]
      exact (hf b hb).1
  done := by
    intro X hP hw hK hc i pins s σ H E I hf st hg
    subst hP hw hK
    obtain ⟨⟨old, he⟩, hit, hne⟩ := st
    obtain ⟨xs, hq, hx⟩ := hg
    obtain ⟨its, rv, p, hz⟩ := I.tuple hq
    obtain ⟨f0, f1, f2, f3, f4, f5⟩ := hf it (by simp)
    have hl := rv.length
    have D0 := Draws.tuple (prog := X.prog) (w := X.w) (A := X.A.in1) (I.ok.hd hc) it a hai its.toArray
    have hT : s.TypeIs (.ref e) "enumerate" := ⟨_, he, rfl⟩
    unfold pyNext
    refine wpAny_bind (wpAny_attempt (wpAny_callSpecial?_slot (name := Str.ofString "__next__") hT F.slot_enumerate_next
      (wpAny_call_entry F.slot_enumerate_next hT F.entry_enumerate_next ?_ (F.args_enumerate_next_1 _))))
    show wpAny _ _ (field (.ref e) 2 >>= _) _ _ _
    refine wpAny_bind (wpAny_field he rfl (x := .ref it) rfl ?_)
    refine wpAny_bind (wpAny_nextOf_tuple_end (A := X.A.in1) (I.ok.hd hc) hit p (by simp; omega) fun h' x eb hx' => ?_)
    obtain ⟨o, ho, hc⟩ := hx'
    refine wpAny_bind (wpAny_isInstance (T := "StopIteration") (b := true) ⟨o, ho, hc⟩ isSubtype_stop ?_)
    exact wpAny_pure ⟨rfl, I.turned (t' := s.toks) (fun b o hb q => eb b o hb q) f0 f1 f3 f4 f5⟩
  self := fun A i s Q E st h => let ⟨⟨_, he⟩, _⟩ := st; wpAny_pyIter_enum he h
def iEnumB (K : PySem.W.Frag) (te : TE) : TI := fun σ H R => te σ H fun x H1 => (∃ a xs, x = .ref a ∧ SqL K H1 a xs ∧ R (Ite K a) H1) ∨ ∃ a xs, x = .ref a ∧ SqT K H1 a xs ∧ R (IteT K a) H1
theorem pi_enumB {X : Cx} {e : Expr} {te : TE} {p pos tpos : Pos} {elts : List Expr} {kk : Nat} (hg : Gl X "enumerate") (hm : X.mg "enumerate" = none) (he : PE X e te) (hs : starEach [e] X.env = [(false, eval e X.env)] := by rfl) (hs2 : starEach [e] X.env = (false, eval e X.env) :: starEach [] X.env := by rfl) :
    PI X (.Tuple elts kk tpos) (.Call (.Name "enumerate" p) [e] [] pos) (iEnumB X.K te) := by
  refine ⟨fun pins s σ H R I h => ?_⟩
  refine Call_ (ld_blt I hg hm boot_enumerate (PyProof.Rows.callWith_type1 (thn ((pa_cons he pa_nil hs2).run pos pins s σ H (fun vs H1 => match vs with
    | [x] => (∃ a xs, x = .ref a ∧ SqL X.K H1 a xs ∧ R (Ite X.K a) H1) ∨ ∃ a xs, x = .ref a ∧ SqT X.K H1 a xs ∧ R (IteT X.K a) H1
    | _ => False) I h) fun us s1 ⟨vs, H1, I1, r1, q1⟩ => ?_) hs rfl))
  match vs, q1, r1 with
  | [x], q1, .cons r .nil =>
    rcases q1 with ⟨a, xs, rfl, hq, q⟩ | ⟨a, xs, rfl, hq, q⟩
    · cases r
      obtain ⟨its, rv, p', hz⟩ := I1.list hq
      refine call_enumerate_list p'.isList fun h' he hit hsz hk => wpAny_pyIter_enum he ?_
      have I2 : Inv X pins σ H1 { s1 with heap := h' } := I1.kept (t' := s1.toks) hk
      refine ⟨s1.heap.objs.size + 1, [s1.heap.objs.size + 1, s1.heap.objs.size], _, _, H1, rfl, I2, turn_enum a (s1.heap.objs.size + 1) s1.heap.objs.size, ⟨⟨.none, he⟩, hit, Nat.succ_ne_self _⟩, fun b hb => ?_, q⟩
      have e' : b = s1.heap.objs.size + 1 ∨ b = s1.heap.objs.size := by simpa using hb
      have hle : s1.heap.objs.size ≤ b := by
        rcases e' with z | z
        · rw [z]; exact Nat.le_add_right _ _
        · rw [z]; exact Nat.le_refl _
      exact I1.fpOk hle (I1.hok.fresh hle)
    · cases r
      obtain ⟨its, rv, p', hz⟩ := I1.tuple hq
      have hlt : a < s1.heap.objs.size := by obtain ⟨o, q, _⟩ := p'; exact Heap.lt_size q
      refine dl_call_enumT p' fun h' he hit hsz hk => wpAny_pyIter_enum he ?_
      have I2 : Inv X pins σ H1 { s1 with heap := h' } := I1.kept (t' := s1.toks) hk
      refine ⟨s1.heap.objs.size + 1, [s1.heap.objs.size + 1, s1.heap.objs.size], _, _, H1, rfl, I2, turn_enumT a (s1.heap.objs.size + 1) s1.heap.objs.size (Nat.ne_of_lt hlt) (Nat.ne_of_lt (Nat.lt_succ_of_lt hlt)), ⟨⟨.none, he⟩, hit, Nat.succ_ne_self _⟩, fun b hb => ?_, q⟩
      have e' : b = s1.heap.objs.size + 1 ∨ b = s1.heap.objs.size := by simpa using hb
      have hle : s1.heap.objs.size ≤ b := by
        rcases e' with z | z
        · rw [z]; exact Nat.le_add_right _ _
        · rw [z]; exact Nat.le_refl _
      exact I1.fpOk hle (I1.hok.fresh hle)
/-- the items with their numbers; trees -/
def enums (k : Nat) : List D → List D
  | .t x :: xs => .t (.tup [.int (k : Nat), x]) :: enums (k + 1) xs
  | _ => []
theorem enums_get : ∀ {xs : List D} {k i : Nat} {d : D}, (enums k xs)[i]? = some d → ∃ x, xs[i]? = some (.t x) ∧ d = .t (.tup [.int ((k + i : Nat) : Int), x])
  | .t x :: xs, k, 0, d, h => by
    unfold enums at h
    exact ⟨x, rfl, (Option.some.inj h).symm⟩
  | .t x :: xs, k, i + 1, d, h => by
    unfold enums at h
    obtain ⟨y, e1, e2⟩ := enums_get (xs := xs) (k := k + 1) (i := i) h
    exact ⟨y, e1, by rw [e2]; congr 4; omega⟩
  | [], _, _, d, h => by unfold enums at h; simp at h
  | .m _ :: _, _, _, d, h => by unfold enums at h; simp at h
theorem enums_len : ∀ {xs : List D} {k : Nat}, allT xs → (enums k xs).length = xs.length
  | .t x :: xs, k, h => by
    unfold enums
    have := enums_len (xs := xs) (k := k + 1) h
    rw [List.length_cons, List.length_cons, this]
  | [], _, _ => by unfold enums; rfl
  | .m _ :: _, _, h => h.elim
section
variable {CT : TTs} {E : XK} {X : Cx} {tg : Expr}
def iEnumD (t : TED) : TID := fun X ρ S R => t X ρ S fun d S1 => ∃ ds, allT ds ∧ ((seqL S1 d = some ds ∧ R ⟨enums 0 ds, Stays ds seqL d⟩ S1) ∨ (seqT S1 d = some ds ∧ R ⟨enums 0 ds, Stays ds seqT d⟩ S1))
theorem enum_fol {as : List Addr} {S : Store} {H : Hp} {i : Nat} {d : D} {ds : List D} {xs : List V} {x : V} {p : Addr} (s : StOk CT as S H) (r : RepDs as (Live as S) H ds xs) (hd : (enums 0 ds)[i]? = some d) (hx : xs[i]? = some x) (hp : H p = none) :
    On as S H as S (upd H p (.tup [.int (i : Nat), x])) ∧ StOk CT as S (upd H p (.tup [.int (i : Nat), x])) ∧ RepD as (Live as S) (upd H p (.tup [.int (i : Nat), x])) d (.ref p) := by
  obtain ⟨y, e1, e2⟩ := enums_get hd
  subst e2
  have ry := repDs_getV r e1 hx
  rw [Nat.zero_add]
  exact pair_new s (show Rep (Live as S) H (.int (i : Nat)) (.int (i : Nat)) from rfl) ry hp
theorem di_enum {e : Expr} {t : TED} {p pos tpos : Pos} {elts : List Expr} {kk : Nat} (hm : X.mg "enumerate" = none) (he : DE CT E X e t) (hg : Gl X "enumerate" := by rfl) (hs : starEach [e] X.env = [(false, eval e X.env)] := by rfl) (hs2 : starEach [e] X.env = (false, eval e X.env) :: starEach [] X.env := by rfl) :
    DI CT E X (.Tuple elts kk tpos) (.Call (.Name "enumerate" p) [e] [] pos) (iEnumD t) :=
  ⟨(pi_enumB hg hm he.pe hs hs2).imp fun σ H R ⟨as, S, ρ, Xq, Rd, z, q, k⟩ => ⟨as, S, ρ, Xq, _, z, q, fun as1 S1 H1 d x o1 s1 r ⟨ds, al, q1⟩ => by
    rcases q1 with ⟨hd, q1⟩ | ⟨hd, q1⟩
    · obtain ⟨a, xs, e, h1, h2⟩ := seqL_ok s1 r hd
      refine .inl ⟨a, xs, e, .of h1, k as1 S1 H1 _ _ o1 s1 (fun i as' S' H' o s hg => ?_) q1⟩
      obtain ⟨a', xs', e', h1', h2'⟩ := seqL_ok s (o.rep r) hg
      rw [e] at e'; cases e'
      refine ⟨fun d' hd' => ?_, fun hi => ⟨xs', .of h1', by rw [← Paired.length h2', ← enums_len (k := 0) al]; exact hi⟩⟩
      obtain ⟨y, e1, e2⟩ := enums_get hd'
      obtain ⟨x1, hx1, _⟩ := repDs_get h2' e1
      refine ⟨⟨xs', x1, .of h1', hx1⟩, fun x' H'' ⟨p', x2, ep, hp, eh, f1⟩ => ?_⟩
      subst ep eh
      exact enum_fol s h2' hd' (f1 xs' (.of h1')) hp
    · obtain ⟨a, xs, e, h1, h2⟩ := seqT_ok s1 r hd
      refine .inr ⟨a, xs, e, .of h1, k as1 S1 H1 _ _ o1 s1 (fun i as' S' H' o s hg => ?_) q1⟩
      obtain ⟨a', xs', e', h1', h2'⟩ := seqT_ok s (o.rep r) hg
      rw [e] at e'; cases e'
      refine ⟨fun d' hd' => ?_, fun hi => ⟨xs', .of h1', by rw [← Paired.length h2', ← enums_len (k := 0) al]; exact hi⟩⟩
      obtain ⟨y, e1, e2⟩ := enums_get hd'
      obtain ⟨x1, hx1, _⟩ := repDs_get h2' e1
      refine ⟨⟨xs', x1, .of h1', hx1⟩, fun x' H'' ⟨p', x2, ep, hp, eh, f1⟩ => ?_⟩
      subst ep eh
      exact enum_fol s h2' hd' (f1 xs' (.of h1')) hp⟩⟩
/-! ### xs.index(x) -/
end
end DL
set_option Elab.async false
set_option linter.all false
set_option maxRecDepth 100000
/-! DL10: the readings, run by simp -/
namespace DL
open PySem PySem.Spec PyProof.Rows L2

@[simp] theorem dl_and_assoc {a b c : Prop} : (a ∧ b) ∧ c ↔ a ∧ b ∧ c := and_assoc
section
variable {X : XQ} {ρ : Env} {S : Store} {De : DEnds}
@[simp] theorem sSeq_e {t u : TSD} : sSeq t u De ρ S = t { De with nx := u De } ρ S := rfl
@[simp] theorem sNext_e : sNext De ρ S = De.nx ρ S := rfl
@[simp] theorem sRet_e {t : TED} : sRet t De ρ S = t De.ex ρ S De.rt := rfl
@[simp] theorem sRetN_e : sRetN De ρ S = De.rt .non S := rfl
@[simp] theorem sDrop_e {t : TED} : sDrop t De ρ S = t De.ex ρ S fun _ S1 => De.nx ρ S1 := rfl
@[simp] theorem sNever_e : sNever De ρ S = False := rfl
@[simp] theorem sBreak_e : sBreak De ρ S = De.bk ρ S := rfl
@[simp] theorem sCont_e : sCont De ρ S = De.ct ρ S := rfl
@[simp] theorem sIf_e {c : TTD} {t u : TSD} : sIf c t u De ρ S = c De.ex ρ S fun b S1 => if b = true then t De ρ S1 else u De ρ S1 := rfl
@[simp] theorem sAsg_e {t : TED} {g : TGD} : sAsg t g De ρ S = t De.ex ρ S fun d S1 => g d De.ex ρ S1 De.nx := rfl
@[simp] theorem gVar_e {i d Q} : gVar i d X ρ S Q = Q (ρ.set i (some d)) S := rfl
@[simp] theorem dVar_e {i Q} : dVar i X ρ S Q = ∃ d, ρ[i]? = some (some d) ∧ Q d S := rfl
@[simp] theorem dC_e {x Q} : dC x X ρ S Q = Q (.t (.v x)) S := rfl
@[simp] theorem dOp_e {r : R2D} {a b : TED} {Q} : dOp r a b X ρ S Q = a X ρ S fun x S1 => b X ρ S1 fun y S2 => r x y S2 Q := rfl
@[simp] theorem dUn_e {r : R1D} {a : TED} {Q} : dUn r a X ρ S Q = a X ρ S fun x S1 => r x S1 Q := rfl
def boolI (d : D) (S : Store) (Q : Bool → Store → Prop) : Prop := ∃ c, d = .t (.v (.bl c)) ∧ Q c S
@[simp] theorem boolI_b {c : Bool} {Q : Bool → Store → Prop} : boolI (.t (.v (.bl c))) S Q = Q c S := by
  apply propext
  constructor
  · rintro ⟨c', h, q⟩; cases h; exact q
  · exact fun q => ⟨c, rfl, q⟩
def intI (d : D) (S : Store) (Q : Int → Store → Prop) : Prop := ∃ c, d = .t (.v (.int c)) ∧ Q c S
@[simp] theorem intI_i {c : Int} {Q : Int → Store → Prop} : intI (.t (.v (.int c))) S Q = Q c S := by
  apply propext
  constructor
  · rintro ⟨c', h, q⟩; cases h; exact q
  · exact fun q => ⟨c, rfl, q⟩
@[simp] theorem dB_e {t : TED} {Q} : dB t X ρ S Q = t X ρ S fun d S1 => boolI d S1 Q := rfl
@[simp] theorem dAndT_e {t u : TTD} {Q} : dAndT t u X ρ S Q = t X ρ S fun c S1 => if c = true then u X ρ S1 Q else Q false S1 := rfl
@[simp] theorem dOrT_e {t u : TTD} {Q} : dOrT t u X ρ S Q = t X ρ S fun c S1 => if c = true then Q true S1 else u X ρ S1 Q := rfl
@[simp] theorem dNotT_e {t : TTD} {Q} : dNotT t X ρ S Q = t X ρ S fun c S1 => Q (!c) S1 := rfl
@[simp] theorem dAndV_e {a b : TED} {Q} : dAndV a b X ρ S Q = a X ρ S fun x S1 => boolI x S1 fun c S1 => if c = true then b X ρ S1 Q else Q (.t (.v (.bl false))) S1 := rfl
@[simp] theorem dOrV_e {a b : TED} {Q} : dOrV a b X ρ S Q = a X ρ S fun x S1 => boolI x S1 fun c S1 => if c = true then Q (.t (.v (.bl true))) S1 else b X ρ S1 Q := rfl
@[simp] theorem dNotV_e {a : TED} {Q} : dNotV a X ρ S Q = a X ρ S fun x S1 => boolI x S1 fun c S1 => Q (.t (.v (.bl (!c)))) S1 := rfl
@[simp] theorem dIf_e {t : TTD} {a b : TED} {Q} : dIf t a b X ρ S Q = t X ρ S fun c S1 => if c = true then a X ρ S1 Q else b X ρ S1 Q := rfl
@[simp] theorem dNil_e {Q} : dNil X ρ S Q = Q [] S := rfl
@[simp] theorem dCons_e {a : TED} {r : TAD} {Q} : dCons a r X ρ S Q = a X ρ S fun x S1 => r X ρ S1 fun xs S2 => Q (x :: xs) S2 := rfl
@[simp] theorem dTup_e {t : TAD} {Q} : dTup t X ρ S Q = t X ρ S fun ds S1 => ds.length ≤ sizeLine ∧ ∃ ts, asTs ds = some ts ∧ Q (.t (.tup ts)) S1 := rfl
@[simp] theorem dLst_e {t : TAD} {Q} : dLst t X ρ S Q = t X ρ S fun ds S1 => ds.length ≤ sizeLine ∧ ∃ ts, asTs ds = some ts ∧ Q (.t (.lst ts)) S1 := rfl
@[simp] theorem dLstM_e {t : TAD} {Q} : dLstM t X ρ S Q = t X ρ S fun ds S1 => ds.length ≤ sizeLine ∧ Q (.m S1.length) (S1 ++ [.lst ds]) := rfl
@[simp] theorem dTupM_e {t : TAD} {Q} : dTupM t X ρ S Q = t X ρ S fun ds S1 => ds.length ≤ sizeLine ∧ Q (.m S1.length) (S1 ++ [.tup ds]) := rfl
@[simp] theorem dCB_e {r : RAD} {t : TAD} {Q} : dCB r t X ρ S Q = t X ρ S fun ds S1 => r ds S1 Q := rfl
@[simp] theorem dBM_e {ty : D → Store → Prop} {r : D → RAD} {o : TED} {t : TAD} {Q} : dBM ty r o t X ρ S Q = o X ρ S fun d S1 => ty d S1 ∧ t X ρ S1 fun ds S2 => r d ds S2 Q := rfl
@[simp] theorem dCall_e {n : Nat} {ft : FT} {t : TAD} {Q} : dCall n ft t X ρ S Q = t X ρ S fun ds S1 => ds.length = n ∧ ft ds S1 Q fun e => X e S1 := rfl
@[simp] theorem dNoPart_e {Q} : dNoPart X ρ S Q = Q none S := rfl
@[simp] theorem dPart_e {t : TED} {Q} : dPart t X ρ S Q = t X ρ S fun d S1 => intI d S1 fun i S1 => Q (some i) S1 := rfl
@[simp] theorem sPar_e {i j : Nat} {t : TAD} : sPar i j t De ρ S = t De.ex ρ S fun ds S1 => ∃ d e, ds = [d, e] ∧ De.nx ((ρ.set i (some d)).set j (some e)) S1 := rfl
@[simp] theorem sPar3_e {i j l : Nat} {t : TAD} : sPar3 i j l t De ρ S = t De.ex ρ S fun ds S1 => ∃ d e f, ds = [d, e, f] ∧ De.nx (((ρ.set i (some d)).set j (some e)).set l (some f)) S1 := rfl
@[simp] theorem gNilD_e {ds Q} : gNilD ds X ρ S Q = (ds = [] ∧ Q ρ S) := rfl
@[simp] theorem gConsD_e {t : TGD} {u : TGsD} {ds Q} : gConsD t u ds X ρ S Q = ∃ d rest, ds = d :: rest ∧ t d X ρ S fun ρ' S' => u rest X ρ' S' Q := rfl
@[simp] theorem asTs_nil : asTs [] = some [] := rfl
@[simp] theorem asTs_cons {x : T} {r : List D} : asTs (.t x :: r) = (asTs r).map (x :: ·) := rfl
@[simp] theorem endsOf_rt {m : Mode} {Q E} : (endsOf m S Q E).rt = m.rt S.length Q := rfl
@[simp] theorem endsOf_nx {m : Mode} {Q E} : (endsOf m S Q E).nx = fun _ S' => m.rt S.length Q .non S' := rfl
@[simp] theorem rt_raw {n Q} : Mode.raw.rt n Q = Q := rfl
@[simp] theorem startD_e {n ds} : startD n ds = ds.map some ++ List.replicate (n - ds.length) none := rfl
@[simp] theorem dYes_e {Q} : dYes X ρ S Q = Q true S := rfl
end
/-! ### scalars told apart -/
def isInt : T → Bool
  | .v (.int _) => true
  | _ => false
def isBl : T → Bool
  | .v (.bl _) => true
  | _ => false
def isStr : T → Bool
  | .v (.str _) => true
  | _ => false
def isLst : T → Bool
  | .lst _ => true
  | _ => false
def isTup : T → Bool
  | .tup _ => true
  | _ => false
def isDct : T → Bool
  | .dct _ => true
  | _ => false
def isSeq : T → Bool
  | .lst _ => true
  | .tup _ => true
  | _ => false
/-- a thing that isinstance is asked of -/
def ok1 (Cs : CF) (x : T) : Prop := ∃ ty, tyT x = some ty ∧ ty.okIn Cs
section
variable {Cs : CF} {x : T} {S : Store} {Q : D → Store → Prop}
theorem isi_ty {n : String} {b : Bool} (hn : n ∈ (["int", "bool", "str", "list", "tuple", "dict"] : List String)) (h : ok1 Cs x) (hb : ∀ ty, tyT x = some ty → ty.okIn Cs → isa Cs ty (.ty n) = some b) : cIsi Cs [.t x, .t (.v (.ty n))] S Q ↔ Q (.bl b) S := by
  obtain ⟨ty, e, hC⟩ := h
  constructor
  · rintro ⟨d, ty', e', h⟩
    rcases h with ⟨c, b', h1, h2, q⟩ | ⟨cs, b', _, h1, _⟩
    · have h1 : D.t x = d ∧ V.ty n = c := by simpa using h1
      obtain ⟨rfl, rfl⟩ := h1
      have e' : tyT x = some ty' := e'
      rw [e] at e'
      cases e'
      have := hb ty e hC
      rw [h2] at this
      cases this
      exact q
    · simp at h1
  · exact fun q => ⟨.t x, ty, e, .inl ⟨.ty n, b, rfl, hb ty e hC, q⟩⟩
theorem isa_fn_ty {a : Addr} {n : String} (hC : a ∈ Cs.fns) (h : kitB "function" n = some false) : isa Cs (.fn a) (.ty n) = some false := (if_pos hC).trans h
theorem isa_own_ty {C : Addr} {n : String} (hC : C ∈ Cs) (hn : n ∈ (["int", "bool", "str", "list", "tuple", "dict"] : List String)) : isa Cs (.own C) (.ty n) = some false := if_pos ⟨hC, hn⟩
@[simp] theorem isi_int (h : ok1 Cs x) : cIsi Cs [.t x, .t (.v (.ty "int"))] S Q ↔ Q (.bl (isInt x || isBl x)) S := isi_ty (by simp) h fun ty e hC => by
  cases x with
  | v y => cases y <;> cases e <;> first | rfl | (exact isa_fn_ty hC (by decide +kernel))
  | ins C fs => cases e; exact isa_own_ty hC (by simp)
  | _ => cases e; rfl
@[simp] theorem isi_bool (h : ok1 Cs x) : cIsi Cs [.t x, .t (.v (.ty "bool"))] S Q ↔ Q (.bl (isBl x)) S := isi_ty (by simp) h fun ty e hC => by
  cases x with
  | v y => cases y <;> cases e <;> first | rfl | (exact isa_fn_ty hC (by decide +kernel))
  | ins C fs => cases e; exact isa_own_ty hC (by simp)
  | _ => cases e; rfl
@[simp] theorem isi_str (h : ok1 Cs x) : cIsi Cs [.t x, .t (.v (.ty "str"))] S Q ↔ Q (.bl (isStr x)) S := isi_ty (by simp) h fun ty e hC => by
  cases x with
  | v y => cases y <;> cases e <;> first | rfl | (exact isa_fn_ty hC (by decide +kernel))
  | ins C fs => cases e; exact isa_own_ty hC (by simp)
  | _ => cases e; rfl
@[simp] theorem isi_list (h : ok1 Cs x) : cIsi Cs [.t x, .t (.v (.ty "list"))] S Q ↔ Q (.bl (isLst x)) S := isi_ty (by simp) h fun ty e hC => by
  cases x with
  | v y => cases y <;> cases e <;> first | rfl | (exact isa_fn_ty hC (by decide +kernel))
  | ins C fs => cases e; exact isa_own_ty hC (by simp)
  | _ => cases e; rfl
@[simp] theorem isi_tuple (h : ok1 Cs x) : cIsi Cs [.t x, .t (.v (.ty "tuple"))] S Q ↔ Q (.bl (isTup x)) S := isi_ty (by simp) h fun ty e hC => by
  cases x with
  | v y => cases y <;> cases e <;> first | rfl | (exact isa_fn_ty hC (by decide +kernel))
  | ins C fs => cases e; exact isa_own_ty hC (by simp)
  | _ => cases e; rfl
@[simp] theorem isi_dict (h : ok1 Cs x) : cIsi Cs [.t x, .t (.v (.ty "dict"))] S Q ↔ Q (.bl (isDct x)) S := isi_ty (by simp) h fun ty e hC => by
  cases x with
  | v y => cases y <;> cases e <;> first | rfl | (exact isa_fn_ty hC (by decide +kernel))
  | ins C fs => cases e; exact isa_own_ty hC (by simp)
  | _ => cases e; rfl
@[simp] theorem isi_seq (h : ok1 Cs x) : cIsi Cs [.t x, .t (.tup [.v (.ty "list"), .v (.ty "tuple")])] S Q ↔ Q (.bl (isSeq x)) S := by
  obtain ⟨ty, e, hC⟩ := h
  have key : isaL Cs ty [.ty "list", .ty "tuple"] = some (isSeq x) := by
    cases x with
    | v y =>
      cases y <;> cases e <;> first | rfl | skip
      have h1 := isa_fn_ty (Cs := Cs) (n := "list") hC (by decide +kernel)
      have h2 := isa_fn_ty (Cs := Cs) (n := "tuple") hC (by decide +kernel)
      simp only [isaL, h1, h2]
      rfl
    | ins C fs =>
      cases e
      have h1 := isa_own_ty (Cs := Cs) (n := "list") hC (by simp)
      have h2 := isa_own_ty (Cs := Cs) (n := "tuple") hC (by simp)
      simp only [isaL, h1, h2]
      rfl
    | _ => cases e; rfl
  constructor
  · rintro ⟨d, ty', e', h⟩
    rcases h with ⟨c, b', h1, h2, q⟩ | ⟨cs, b', _, h1, h2, q⟩
    · simp at h1
    · have h1 : D.t x = d ∧ [T.v (.ty "list"), T.v (.ty "tuple")] = cs.map T.v := by simpa using h1
      obtain ⟨rfl, h3⟩ := h1
      have e' : tyT x = some ty' := e'
      rw [e] at e'
      cases e'
      have : cs = [.ty "list", .ty "tuple"] := by
        match cs, h3 with
        | [a, b], h3 => simp at h3; rw [← h3.1, ← h3.2]
      subst this
      rw [key] at h2
      cases h2
      exact q
  · exact fun q => ⟨.t x, ty, e, .inr ⟨[.ty "list", .ty "tuple"], isSeq x, by simp, rfl, key, q⟩⟩
end
theorem int_em (x : T) : (∃ i : Int, x = .v (.int i)) ∨ isInt x = false := by
  cases x with
  | v y => cases y <;> simp [isInt]
  | _ => exact .inr rfl
theorem bl_em (x : T) : (∃ b : Bool, x = .v (.bl b)) ∨ isBl x = false := by
  cases x with
  | v y => cases y <;> simp [isBl]
  | _ => exact .inr rfl
theorem str_em (x : T) : (∃ b : Str, x = .v (.str b)) ∨ isStr x = false := by
  cases x with
  | v y => cases y <;> simp [isStr]
  | _ => exact .inr rfl
theorem seq_em (x : T) : (∃ ts, x = .lst ts) ∨ (∃ ts, x = .tup ts) ∨ isSeq x = false := by
  cases x with
  | lst ts => exact .inl ⟨ts, rfl⟩
  | tup ts => exact .inr (.inl ⟨ts, rfl⟩)
  | _ => exact .inr (.inr rfl)
@[simp] theorem isInt_i {i : Int} : isInt (.v (.int i)) = true := rfl
@[simp] theorem isBl_i {i : Int} : isBl (.v (.int i)) = false := rfl
@[simp] theorem isSeq_l {ts} : isSeq (.lst ts) = true := rfl
@[simp] theorem isSeq_t {ts} : isSeq (.tup ts) = true := rfl
@[simp] theorem isStr_s {x} : isStr (.v (.str x)) = true := rfl
@[simp] theorem ok1_int {Cs : CF} {i : Int} : ok1 Cs (.v (.int i)) := ⟨_, rfl, True.intro⟩
@[simp] theorem ok1_bl {Cs : CF} {i : Bool} : ok1 Cs (.v (.bl i)) := ⟨_, rfl, True.intro⟩
@[simp] theorem ok1_non {Cs : CF} : ok1 Cs (.v .non) := ⟨_, rfl, True.intro⟩
@[simp] theorem ok1_str {Cs : CF} {i : Str} : ok1 Cs (.v (.str i)) := ⟨_, rfl, True.intro⟩
@[simp] theorem ok1_lst {Cs : CF} {ts : List T} : ok1 Cs (.lst ts) := ⟨_, rfl, True.intro⟩
@[simp] theorem ok1_tup {Cs : CF} {ts : List T} : ok1 Cs (.tup ts) := ⟨_, rfl, True.intro⟩
@[simp] theorem ok1_dct {Cs : CF} {ts} : ok1 Cs (.dct ts) := ⟨_, rfl, True.intro⟩
@[simp] theorem ok1_fn {Cs : CF} {a : Addr} : ok1 Cs (.v (.ref a)) ↔ a ∈ Cs.fns := ⟨fun ⟨ty, e, h⟩ => by cases e; exact h, fun h => ⟨_, rfl, h⟩⟩
@[simp] theorem ok1_ins {Cs : CF} {C fs} : ok1 Cs (.ins C fs) ↔ C ∈ Cs := ⟨fun ⟨ty, e, h⟩ => by cases e; exact h, fun h => ⟨_, rfl, h⟩⟩
/-! ### operators -/
section
variable {S : Store} {Q : D → Store → Prop}
@[simp] theorem oI0_e {g : Int → Int → V} {i j : Int} : oI0 g (.t (.v (.int i))) (.t (.v (.int j))) S Q = Q (.t (.v (g i j))) S := by
  apply propext
  constructor
  · rintro ⟨i', j', h1, h2, q⟩; cases h1; cases h2; exact q
  · exact fun q => ⟨i, j, rfl, rfl, q⟩
@[simp] theorem oI_e {C : Int → Int → Prop} {g : Int → Int → V} {i j : Int} : oI C g (.t (.v (.int i))) (.t (.v (.int j))) S Q = (C i j ∧ Q (.t (.v (g i j))) S) := by
  apply propext
  constructor
  · rintro ⟨i', j', h1, h2, c, q⟩; cases h1; cases h2; exact ⟨c, q⟩
  · exact fun ⟨c, q⟩ => ⟨i, j, rfl, rfl, c, q⟩
@[simp] theorem oAdd_ii {i j : Int} : oAdd (.t (.v (.int i))) (.t (.v (.int j))) S Q = Q (.int (i + j)) S := by
  apply propext
  constructor
  · rintro (h | ⟨xs, ys, ts, h, _⟩)
    · rwa [oI0_e] at h
    · cases h
  · exact fun q => .inl (by rwa [oI0_e])
@[simp] theorem oAdd_ll {xs ys : List T} : oAdd (.t (.lst xs)) (.t (.lst ys)) S Q = (xs.length + ys.length ≤ sizeLine ∧ Q (.t (.lst (xs ++ ys))) S) := by
  apply propext
  constructor
  · rintro (⟨i, j, h, _⟩ | ⟨us, ws, ts, h1, h2, h3, h4, q⟩)
    · cases h
    · cases h1; cases h2
      rw [← List.map_append, asTs_map] at h4
      cases h4
      simp at h3
      exact ⟨h3, q⟩
  · exact fun ⟨h, q⟩ => .inr ⟨_, _, xs ++ ys, rfl, rfl, by simpa using h, by rw [← List.map_append, asTs_map], q⟩
@[simp] theorem seqL_l {ts : List T} : seqL S (.t (.lst ts)) = some (ts.map .t) := rfl
@[simp] theorem seqT_t {ts : List T} : seqT S (.t (.tup ts)) = some (ts.map .t) := rfl
@[simp] theorem seqL_t {ts : List T} : seqL S (.t (.tup ts)) = none := rfl
@[simp] theorem seqT_l {ts : List T} : seqT S (.t (.lst ts)) = none := rfl
@[simp] theorem seqA_l {ts : List T} : seqA S (.t (.lst ts)) = some (ts.map .t) := rfl
@[simp] theorem seqA_t {ts : List T} : seqA S (.t (.tup ts)) = some (ts.map .t) := rfl
@[simp] theorem tyLst_l {ts : List T} : tyLst (.t (.lst ts)) S := ⟨_, rfl⟩
@[simp] theorem cLen_l {ts : List T} : cLen [.t (.lst ts)] S Q = Q (.int ts.length) S := by
  apply propext
  constructor
  · rintro ⟨d, h, ⟨xs, h1, q⟩ | ⟨x, h1, _⟩⟩
    · cases h; cases h1; simpa using q
    · cases h; cases h1
  · exact fun q => ⟨_, rfl, .inl ⟨_, rfl, by simpa using q⟩⟩
@[simp] theorem cLen_t {ts : List T} : cLen [.t (.tup ts)] S Q = Q (.int ts.length) S := by
  apply propext
  constructor
  · rintro ⟨d, h, ⟨xs, h1, q⟩ | ⟨x, h1, _⟩⟩
    · cases h; cases h1; simpa using q
    · cases h; cases h1
  · exact fun q => ⟨_, rfl, .inl ⟨_, rfl, by simpa using q⟩⟩
theorem atI_map {ts : List T} {i : Int} : atI (ts.map D.t) i = (atI ts i).map .t := by
  unfold atI
  rw [List.length_map]
  cases ixN ts.length i <;> simp
theorem oIx_s {x : D} {ts : List T} {i : Int} (h : seqA S x = some (ts.map .t)) : oIx x (.t (.v (.int i))) S Q = ∃ t, atI ts i = some t ∧ Q (.t t) S := by
  apply propext
  constructor
  · rintro ⟨ds, i', d, h1, h2, h3, q⟩
    cases h2
    rw [h] at h1
    cases h1
    rw [atI_map] at h3
    cases h4 : atI ts i with
    | none => rw [h4] at h3; cases h3
    | some t => rw [h4] at h3; cases h3; exact ⟨t, rfl, q⟩
  · rintro ⟨t, h1, q⟩
    exact ⟨_, i, .t t, h, rfl, by rw [atI_map, h1]; rfl, q⟩
@[simp] theorem oIx_l {ts : List T} {i : Int} : oIx (.t (.lst ts)) (.t (.v (.int i))) S Q = ∃ t, atI ts i = some t ∧ Q (.t t) S := oIx_s rfl
@[simp] theorem oIx_t {ts : List T} {i : Int} : oIx (.t (.tup ts)) (.t (.v (.int i))) S Q = ∃ t, atI ts i = some t ∧ Q (.t t) S := oIx_s rfl
end
end DL
set_option Elab.async false
set_option linter.all false
set_option maxRecDepth 100000
/-! DL11: equality of trees, membership; data of a depth -/
namespace DL
open PySem PySem.Spec PyProof.Rows L2

mutual
def eqT : T → T → Bool
  | .v a, .v b => eqV a b
  | .lst xs, .lst ys => eqTs xs ys
  | .tup xs, .tup ys => eqTs xs ys
  | _, _ => false
def eqTs : List T → List T → Bool
  | [], [] => true
  | x :: xs, y :: ys => eqT x y && eqTs xs ys
  | _, _ => false
end
mutual
/-- data of none, bools, ints, texts, lists, tuples; how deep -/
def dat : Nat → T → Bool
  | _, .v .non => true
  | _, .v (.bl _) => true
  | _, .v (.int _) => true
  | _, .v (.str x) => PyData.strOk x
  | n + 1, .lst ts => dats n ts
  | n + 1, .tup ts => dats n ts
  | _, _ => false
def dats : Nat → List T → Bool
  | _, [] => true
  | n, t :: ts => dat n t && dats n ts
end
theorem dats_all {n : Nat} : ∀ {ts : List T}, dats n ts = true ↔ ∀ t ∈ ts, dat n t = true
  | [] => by simp [dats]
  | t :: ts => by simp [dats, dats_all (ts := ts)]
@[simp] theorem dat_int {n i} : dat n (.v (.int i)) = true := by cases n <;> simp [dat]
@[simp] theorem dat_bl {n i} : dat n (.v (.bl i)) = true := by cases n <;> simp [dat]
@[simp] theorem dat_non {n} : dat n (.v .non) = true := by cases n <;> simp [dat]
@[simp] theorem dat_str {n x} : dat n (.v (.str x)) = PyData.strOk x := by cases n <;> simp [dat]
@[simp] theorem dat_lst {n ts} : dat (n + 1) (.lst ts) = true ↔ ∀ t ∈ ts, dat n t = true := by rw [dat]; exact dats_all
@[simp] theorem dat_tup {n ts} : dat (n + 1) (.tup ts) = true ↔ ∀ t ∈ ts, dat n t = true := by rw [dat]; exact dats_all
mutual
theorem dat_py : ∀ (n : Nat) (x : T), dat n x = true → ∃ p, x.py = some p ∧ p.canLay0 = true ∧ p.depth ≤ n
  | n, .v y, h => by
    cases y with
    | non => exact ⟨_, by unfold T.py; rfl, by simp [PyData.canLay0], by simp [PyData.depth]⟩
    | bl b => exact ⟨_, by unfold T.py; rfl, by simp [PyData.canLay0], by simp [PyData.depth]⟩
    | int b => exact ⟨_, by unfold T.py; rfl, by simp [PyData.canLay0], by simp [PyData.depth]⟩
    | str b => exact ⟨_, by unfold T.py; rfl, by simpa [PyData.canLay0] using h, by simp [PyData.depth]⟩
    | _ => cases n <;> simp [dat] at h
  | 0, .lst ts, h => by simp [dat] at h
  | 0, .tup ts, h => by simp [dat] at h
  | n + 1, .lst ts, h => by
    obtain ⟨ps, e, h1, h2⟩ := dats_py n ts (by simpa [dat] using h)
    exact ⟨.list ps, by unfold T.py; rw [e]; rfl, by simpa [PyData.canLay0] using h1, by simp [PyData.depth]; exact h2⟩
  | n + 1, .tup ts, h => by
    obtain ⟨ps, e, h1, h2⟩ := dats_py n ts (by simpa [dat] using h)
    exact ⟨.tuple ps, by unfold T.py; rw [e]; rfl, by simpa [PyData.canLay0] using h1, by simp [PyData.depth]; exact h2⟩
  | n, .dct _, h => by cases n <;> simp [dat] at h
  | n, .ins _ _, h => by cases n <;> simp [dat] at h
theorem dats_py : ∀ (n : Nat) (xs : List T), dats n xs = true → ∃ ps, T.pys xs = some ps ∧ PyData.canLayAll0 ps = true ∧ PyData.depthAll ps ≤ n
  | n, [], _ => ⟨[], by unfold T.pys; rfl, by simp [PyData.canLayAll0], by simp [PyData.depthAll]⟩
  | n, x :: xs, h => by
    have h : dat n x = true ∧ dats n xs = true := by simpa [dats] using h
    obtain ⟨p, e1, h1, h2⟩ := dat_py n x h.1
    obtain ⟨ps, e2, h3, h4⟩ := dats_py n xs h.2
    exact ⟨p :: ps, by unfold T.pys; rw [e1, e2], by simp [PyData.canLayAll0, h1, h3], by simp [PyData.depthAll]; omega⟩
end
mutual
theorem eqT_py : ∀ (x y : T) (p q : PyData), x.py = some p → y.py = some q → PyData.eqv p q = eqT x y
  | .v a, .v b, p, q, h1, h2 => by
    unfold T.py at h1 h2
    cases a <;> cases h1 <;> cases b <;> cases h2 <;> simp [PyData.eqv, eqT, eqV]
  | .v a, .lst ys, p, q, h1, h2 => by
    unfold T.py at h1 h2
    cases e : T.pys ys with
    | none => rw [e] at h2; cases h2
    | some qs => rw [e] at h2; cases h2; cases a <;> cases h1 <;> simp [PyData.eqv, eqT]
  | .v a, .tup ys, p, q, h1, h2 => by
    unfold T.py at h1 h2
    cases e : T.pys ys with
    | none => rw [e] at h2; cases h2
    | some qs => rw [e] at h2; cases h2; cases a <;> cases h1 <;> simp [PyData.eqv, eqT]
  | .lst xs, .v b, p, q, h1, h2 => by
    unfold T.py at h1 h2
    cases e : T.pys xs with
    | none => rw [e] at h1; cases h1
    | some qs => rw [e] at h1; cases h1; cases b <;> cases h2 <;> simp [PyData.eqv, eqT]
  | .tup xs, .v b, p, q, h1, h2 => by
    unfold T.py at h1 h2
    cases e : T.pys xs with
    | none => rw [e] at h1; cases h1
    | some qs => rw [e] at h1; cases h1; cases b <;> cases h2 <;> simp [PyData.eqv, eqT]
  | .lst xs, .lst ys, p, q, h1, h2 => by
    unfold T.py at h1 h2
    cases e1 : T.pys xs with
    | none => rw [e1] at h1; cases h1
    | some ps =>
      cases e2 : T.pys ys with
      | none => rw [e2] at h2; cases h2
      | some qs =>
        rw [e1] at h1; rw [e2] at h2; cases h1; cases h2
        simp only [PyData.eqv, eqT]
        exact eqTs_py xs ys ps qs e1 e2
  | .tup xs, .tup ys, p, q, h1, h2 => by
    unfold T.py at h1 h2
    cases e1 : T.pys xs with
    | none => rw [e1] at h1; cases h1
    | some ps =>
      cases e2 : T.pys ys with
      | none => rw [e2] at h2; cases h2
      | some qs =>
        rw [e1] at h1; rw [e2] at h2; cases h1; cases h2
        simp only [PyData.eqv, eqT]
        exact eqTs_py xs ys ps qs e1 e2
  | .lst xs, .tup ys, p, q, h1, h2 => by
    unfold T.py at h1 h2
    cases e1 : T.pys xs with
    | none => rw [e1] at h1; cases h1
    | some ps =>
      cases e2 : T.pys ys with
      | none => rw [e2] at h2; cases h2
      | some qs => rw [e1] at h1; rw [e2] at h2; cases h1; cases h2; simp [PyData.eqv, eqT]
  | .tup xs, .lst ys, p, q, h1, h2 => by
    unfold T.py at h1 h2
    cases e1 : T.pys xs with
    | none => rw [e1] at h1; cases h1
    | some ps =>
      cases e2 : T.pys ys with
      | none => rw [e2] at h2; cases h2
      | some qs => rw [e1] at h1; rw [e2] at h2; cases h1; cases h2; simp [PyData.eqv, eqT]
  | .dct _, _, p, q, h1, h2 => by unfold T.py at h1; cases h1
  | .ins _ _, _, p, q, h1, h2 => by unfold T.py at h1; cases h1
  | .v _, .dct _, p, q, h1, h2 => by unfold T.py at h2; cases h2
  | .v _, .ins _ _, p, q, h1, h2 => by unfold T.py at h2; cases h2
  | .lst _, .dct _, p, q, h1, h2 => by unfold T.py at h2; cases h2
  | .lst _, .ins _ _, p, q, h1, h2 => by unfold T.py at h2; cases h2
  | .tup _, .dct _, p, q, h1, h2 => by unfold T.py at h2; cases h2
  | .tup _, .ins _ _, p, q, h1, h2 => by unfold T.py at h2; cases h2
theorem eqTs_py : ∀ (xs ys : List T) (ps qs : List PyData), T.pys xs = some ps → T.pys ys = some qs → PyData.eqvAll ps qs = eqTs xs ys
  | [], [], ps, qs, h1, h2 => by unfold T.pys at h1 h2; cases h1; cases h2; simp [PyData.eqvAll, eqTs]
  | [], y :: ys, ps, qs, h1, h2 => by
    unfold T.pys at h1 h2; cases h1
    cases e1 : T.py y with
    | none => rw [e1] at h2; cases h2
    | some p =>
      cases e2 : T.pys ys with
      | none => rw [e1, e2] at h2; cases h2
      | some rs => rw [e1, e2] at h2; cases h2; simp [PyData.eqvAll, eqTs]
  | x :: xs, [], ps, qs, h1, h2 => by
    unfold T.pys at h1 h2; cases h2
    cases e1 : T.py x with
    | none => rw [e1] at h1; cases h1
    | some p =>
      cases e2 : T.pys xs with
      | none => rw [e1, e2] at h1; cases h1
      | some rs => rw [e1, e2] at h1; cases h1; simp [PyData.eqvAll, eqTs]
  | x :: xs, y :: ys, ps, qs, h1, h2 => by
    unfold T.pys at h1 h2
    cases e1 : T.py x with
    | none => rw [e1] at h1; cases h1
    | some p =>
      cases e2 : T.pys xs with
      | none => rw [e1, e2] at h1; cases h1
      | some rs =>
        cases e3 : T.py y with
        | none => rw [e3] at h2; cases h2
        | some q =>
          cases e4 : T.pys ys with
          | none => rw [e3, e4] at h2; cases h2
          | some ss =>
            rw [e1, e2] at h1; rw [e3, e4] at h2; cases h1; cases h2
            simp only [PyData.eqvAll, eqTs]
            rw [eqT_py x y p q e1 e3, eqTs_py xs ys rs ss e2 e4]
end
theorem dat_shaped {x : T} (h : dat 64 x = true) : ∃ p, x.py = some p ∧ SeqAt.shaped p = true := by
  obtain ⟨p, e, h1, h2⟩ := dat_py 64 x h
  exact ⟨p, e, by unfold SeqAt.shaped; simp [h1, h2]⟩
theorem tree_t {S : Store} {x : T} : D.tree S (.t x) = some x := by unfold D.tree frz; rfl
theorem py_t {S : Store} {x : T} : D.py S (.t x) = x.py := by unfold D.py; rw [tree_t]; rfl
theorem py_of {S : Store} {d : D} {x : T} (h : d.tree S = some x) : D.py S d = x.py := by unfold D.py; rw [h]; rfl
section
variable {S : Store} {Q : D → Store → Prop} {x y : T}
theorem oEq_of {d e : D} (hd : d.tree S = some x) (he : e.tree S = some y) (hx : dat 64 x = true) (hy : dat 64 y = true) : oEq d e S Q = Q (.bl (eqT x y)) S := by
  obtain ⟨p, e1, h1⟩ := dat_shaped hx
  obtain ⟨q, e2, h2⟩ := dat_shaped hy
  apply propext
  constructor
  · rintro ⟨p', q', e3, e4, _, _, g⟩
    rw [py_of hd, e1] at e3; rw [py_of he, e2] at e4
    cases e3; cases e4
    rwa [eqT_py x y p q e1 e2] at g
  · intro g
    exact ⟨p, q, by rw [py_of hd, e1], by rw [py_of he, e2], h1, h2, by rwa [eqT_py x y p q e1 e2]⟩
theorem oNe_of {d e : D} (hd : d.tree S = some x) (he : e.tree S = some y) (hx : dat 64 x = true) (hy : dat 64 y = true) : oNe d e S Q = Q (.bl (!eqT x y)) S := by
  obtain ⟨p, e1, h1⟩ := dat_shaped hx
  obtain ⟨q, e2, h2⟩ := dat_shaped hy
  apply propext
  constructor
  · rintro ⟨p', q', e3, e4, _, _, g⟩
    rw [py_of hd, e1] at e3; rw [py_of he, e2] at e4
    cases e3; cases e4
    rwa [eqT_py x y p q e1 e2] at g
  · intro g
    exact ⟨p, q, by rw [py_of hd, e1], by rw [py_of he, e2], h1, h2, by rwa [eqT_py x y p q e1 e2]⟩
@[simp] theorem oEq_t (hx : dat 64 x = true) (hy : dat 64 y = true) : oEq (.t x) (.t y) S Q = Q (.bl (eqT x y)) S := oEq_of tree_t tree_t hx hy
@[simp] theorem oNe_t (hx : dat 64 x = true) (hy : dat 64 y = true) : oNe (.t x) (.t y) S Q = Q (.bl (!eqT x y)) S := oNe_of tree_t tree_t hx hy
@[simp] theorem eqT_ii {i j : Int} : eqT (.v (.int i)) (.v (.int j)) = (i == j) := by simp [eqT, eqV]
@[simp] theorem eqT_ss {i j : Str} : eqT (.v (.str i)) (.v (.str j)) = (i == j) := by simp [eqT, eqV]
@[simp] theorem eqT_bb {i j : Bool} : eqT (.v (.bl i)) (.v (.bl j)) = (i == j) := by simp [eqT, eqV]
@[simp] theorem eqT_ll {xs ys : List T} : eqT (.lst xs) (.lst ys) = eqTs xs ys := by simp [eqT]
@[simp] theorem eqT_tt {xs ys : List T} : eqT (.tup xs) (.tup ys) = eqTs xs ys := by simp [eqT]
@[simp] theorem eqTs_nn : eqTs [] [] = true := by simp [eqTs]
@[simp] theorem eqTs_nc {y : T} {ys : List T} : eqTs [] (y :: ys) = false := by simp [eqTs]
@[simp] theorem eqTs_cn {y : T} {ys : List T} : eqTs (y :: ys) [] = false := by simp [eqTs]
@[simp] theorem eqTs_cc {x y : T} {xs ys : List T} : eqTs (x :: xs) (y :: ys) = (eqT x y && eqTs xs ys) := by simp [eqTs]
mutual
theorem eqT_refl : ∀ (n : Nat) (x : T), dat n x = true → eqT x x = true
  | n, .v y, h => by cases y <;> first | (simp [eqT, eqV]; done) | (cases n <;> simp [dat] at h)
  | 0, .lst ts, h => by simp [dat] at h
  | 0, .tup ts, h => by simp [dat] at h
  | n + 1, .lst ts, h => by rw [eqT_ll]; exact eqTs_refl n ts (by simpa [dat] using h)
  | n + 1, .tup ts, h => by rw [eqT_tt]; exact eqTs_refl n ts (by simpa [dat] using h)
  | n, .dct _, h => by cases n <;> simp [dat] at h
  | n, .ins _ _, h => by cases n <;> simp [dat] at h
theorem eqTs_refl : ∀ (n : Nat) (xs : List T), dats n xs = true → eqTs xs xs = true
  | n, [], _ => by simp
  | n, x :: xs, h => by
    have h : dat n x = true ∧ dats n xs = true := by simpa [dats] using h
    simp [eqT_refl n x h.1, eqTs_refl n xs h.2]
end
/-! ### in -/
theorem pys_any {x : T} {p : PyData} (hx : x.py = some p) : ∀ {ts : List T} {ps : List PyData}, T.pys ts = some ps → (ps.any fun z => PyData.eqv z p) = ts.any fun z => eqT z x
  | [], ps, h => by unfold T.pys at h; cases h; rfl
  | t :: ts, ps, h => by
    unfold T.pys at h
    cases e1 : T.py t with
    | none => rw [e1] at h; cases h
    | some q =>
      cases e2 : T.pys ts with
      | none => rw [e1, e2] at h; cases h
      | some qs =>
        rw [e1, e2] at h; cases h
        rw [List.any_cons, List.any_cons, eqT_py t x q p e1 hx, pys_any hx e2]
theorem oIn_of {d : D} {ts : List T} {neg : Bool} (hd : d.tree S = some (.lst ts)) (hx : dat 64 x = true) (hy : dat 64 (.lst ts) = true) (q : Q (.bl (if neg then !(ts.any fun z => eqT z x) else ts.any fun z => eqT z x)) S) : oIn neg (.t x) d S Q := by
  obtain ⟨p, e1, h1⟩ := dat_shaped hx
  obtain ⟨r, e2, h2⟩ := dat_shaped hy
  unfold T.py at e2
  cases e3 : T.pys ts with
  | none => rw [e3] at e2; cases e2
  | some ps =>
    rw [e3] at e2; cases e2
    refine .inl ⟨p, ps, by rw [py_t, e1], by rw [py_of hd]; unfold T.py; rw [e3]; rfl, h1, h2, ?_⟩
    rwa [pys_any e1 e3]
theorem oIn_l {ts : List T} {neg : Bool} (hx : dat 64 x = true) (hy : dat 64 (.lst ts) = true) (q : Q (.bl (if neg then !(ts.any fun z => eqT z x) else ts.any fun z => eqT z x)) S) : oIn neg (.t x) (.t (.lst ts)) S Q := oIn_of tree_t hx hy q
theorem oIn_tv {v : V} {vs : List V} {neg : Bool} (hx : flatV v = true) (hy : vs.all flatV = true) (q : Q (.bl (if neg then !inV v vs else inV v vs)) S) : oIn neg (.t (.v v)) (.t (.tup (vs.map .v))) S Q :=
  .inr ⟨v, vs, rfl, by simp [seqT], hx, hy, q⟩
end
/-! ### a thing and all in it are ones that isinstance may be asked of -/
mutual
def okT (Cs : CF) : T → Bool
  | .v (.ref a) => decide (a ∈ Cs.fns)
  | .v y => (tyT (.v y)).isSome
  | .lst ts => okTs Cs ts
  | .tup ts => okTs Cs ts
  | .dct kvs => okKs Cs kvs
  | .ins C _ => decide (C ∈ Cs)
def okTs (Cs : CF) : List T → Bool
  | [] => true
  | t :: ts => okT Cs t && okTs Cs ts
def okKs (Cs : CF) : List (Key × T) → Bool
  | [] => true
  | (_, t) :: ts => okT Cs t && okKs Cs ts
end
section
variable {Cs : CF}
theorem okTs_all : ∀ {ts : List T}, okTs Cs ts = true ↔ ∀ t ∈ ts, okT Cs t = true
  | [] => by simp [okTs]
  | t :: ts => by simp [okTs, okTs_all (ts := ts)]
theorem okT_ok1 {x : T} (h : okT Cs x = true) : ok1 Cs x := by
  cases x with
  | v y =>
    cases y <;> first | exact ⟨_, rfl, True.intro⟩ | (exact ok1_fn.mpr (by simpa [okT] using h)) | simp [okT, tyT] at h
  | ins C fs => exact ok1_ins.mpr (by simpa [okT] using h)
  | _ => exact ⟨_, rfl, True.intro⟩
theorem okT_lst {ts : List T} : okT Cs (.lst ts) = true ↔ ∀ t ∈ ts, okT Cs t = true := by rw [okT]; exact okTs_all
theorem okT_tup {ts : List T} : okT Cs (.tup ts) = true ↔ ∀ t ∈ ts, okT Cs t = true := by rw [okT]; exact okTs_all
mutual
theorem dat_ok : ∀ (n : Nat) (x : T), dat n x = true → okT Cs x = true
  | n, .v y, h => by cases y <;> first | (simp [okT, tyT]; done) | (cases n <;> simp [dat] at h)
  | 0, .lst ts, h => by simp [dat] at h
  | 0, .tup ts, h => by simp [dat] at h
  | n + 1, .lst ts, h => by rw [okT]; exact dats_ok n ts (by simpa [dat] using h)
  | n + 1, .tup ts, h => by rw [okT]; exact dats_ok n ts (by simpa [dat] using h)
  | n, .dct _, h => by cases n <;> simp [dat] at h
  | n, .ins _ _, h => by cases n <;> simp [dat] at h
theorem dats_ok : ∀ (n : Nat) (xs : List T), dats n xs = true → okTs Cs xs = true
  | n, [], _ => by simp [okTs]
  | n, x :: xs, h => by
    have h : dat n x = true ∧ dats n xs = true := by simpa [dats] using h
    simp [okTs, dat_ok n x h.1, dats_ok n xs h.2]
end
end
end DL
set_option Elab.async false
set_option linter.all false
set_option maxRecDepth 100000
/-! DL12: targets, slices, comprehensions run by simp -/
namespace DL
open PySem PySem.Spec PyProof.Rows L2

def seqOf : T → Option (List T)
  | .lst ts => some ts
  | .tup ts => some ts
  | _ => none
@[simp] theorem seqOf_l {ts} : seqOf (.lst ts) = some ts := rfl
@[simp] theorem seqOf_t {ts} : seqOf (.tup ts) = some ts := rfl
theorem isSeq_of {x : T} {ts} (h : seqOf x = some ts) : isSeq x = true := by unfold seqOf at h; split at h <;> first | rfl | cases h
theorem seqOf_no {x : T} (h : isSeq x = false) : seqOf x = none := by cases x <;> simp_all [isSeq, seqOf]
theorem seqA_of {S : Store} {x : T} {ts} (h : seqOf x = some ts) : seqA S (.t x) = some (ts.map .t) := by
  unfold seqOf at h; split at h <;> first | (cases h; rfl) | cases h
theorem seqOf_em (x : T) : (∃ ts, seqOf x = some ts ∧ isSeq x = true) ∨ (isSeq x = false ∧ seqOf x = none) := by
  cases x with
  | lst ts => exact .inl ⟨ts, rfl, rfl⟩
  | tup ts => exact .inl ⟨ts, rfl, rfl⟩
  | _ => exact .inr ⟨rfl, rfl⟩
theorem okT_seq {Cs : CF} {x : T} {ts : List T} (h : okT Cs x = true) (e : seqOf x = some ts) : ∀ t ∈ ts, okT Cs t = true := by
  cases x with
  | lst us => cases e; exact okT_lst.mp h
  | tup us => cases e; exact okT_tup.mp h
  | _ => cases e
section
variable {X : XQ} {ρ : Env} {S : Store} {De : DEnds} {Q : D → Store → Prop}
theorem gTupD_s {n : Nat} {t : TGsD} {d : D} {ds : List D} {Q : Env → Store → Prop} (h : seqA S d = some ds) : gTupD n t d X ρ S Q = (ds.length = n ∧ t ds X ρ S Q) := by
  apply propext
  have hd : ∀ es, (seqT S d = some es ∨ seqL S d = some es) → es = ds := by
    intro es he
    cases d with
    | t x =>
      cases x with
      | lst ts => rcases he with he | he <;> cases he; cases h; rfl
      | tup ts => rcases he with he | he <;> cases he; cases h; rfl
      | _ => rcases he with he | he <;> cases he
    | m i =>
      unfold seqA at h
      unfold seqT seqL at he
      unfold seqL seqT at h
      cases c : S[i]? with
      | none => simp [c] at he
      | some c' =>
        simp only [c, Option.bind_some] at h he
        cases c' with
        | lst us => simp [cellL, cellT] at he h; rw [← he, h]
        | tup us => simp [cellL, cellT] at he h; rw [← he, h]
        | fz u => cases u <;> simp [cellL, cellT] at he h <;> rw [← he, h]
        | _ => simp [cellL, cellT] at he
  constructor
  · rintro ⟨es, he, hl, q⟩
    rw [hd es he] at hl q
    exact ⟨hl, q⟩
  · rintro ⟨hl, q⟩
    unfold seqA at h
    cases e : seqL S d with
    | some es => rw [e] at h; cases h; exact ⟨ds, .inr e, hl, q⟩
    | none => rw [e] at h; exact ⟨ds, .inl h, hl, q⟩
@[simp] theorem gTupD_t {n : Nat} {t : TGsD} {ts : List T} {Q : Env → Store → Prop} : gTupD n t (.t (.tup ts)) X ρ S Q = (ts.length = n ∧ t (ts.map .t) X ρ S Q) := by rw [gTupD_s rfl, List.length_map]
@[simp] theorem gTupD_l {n : Nat} {t : TGsD} {ts : List T} {Q : Env → Store → Prop} : gTupD n t (.t (.lst ts)) X ρ S Q = (ts.length = n ∧ t (ts.map .t) X ρ S Q) := by rw [gTupD_s rfl, List.length_map]
/-! ### slices -/
def slD (d : D) (lo hi : Option Int) (S : Store) (Q : D → Store → Prop) : Prop := ∃ ds ts, asTs (cutG ds lo hi) = some ts ∧ ((seqL S d = some ds ∧ Q (.t (.lst ts)) S) ∨ (seqT S d = some ds ∧ Q (.t (.tup ts)) S))
@[simp] theorem dSl_e {te : TED} {tl th : TOD} : dSl te tl th X ρ S Q = te X ρ S fun d S1 => tl X ρ S1 fun lo S2 => th X ρ S2 fun hi S3 => slD d lo hi S3 Q := rfl
theorem cutG_map {ts : List T} {lo hi : Option Int} : cutG (ts.map D.t) lo hi = (cutG ts lo hi).map .t := by unfold cutG; simp
@[simp] theorem slD_l {ts : List T} {lo hi : Option Int} : slD (.t (.lst ts)) lo hi S Q = Q (.t (.lst (cutG ts lo hi))) S := by
  apply propext
  constructor
  · rintro ⟨ds, us, h, ⟨h1, q⟩ | ⟨h1, q⟩⟩
    · cases h1; rw [cutG_map, asTs_map] at h; cases h; exact q
    · cases h1
  · exact fun q => ⟨_, _, by rw [cutG_map, asTs_map], .inl ⟨rfl, q⟩⟩
@[simp] theorem slD_t {ts : List T} {lo hi : Option Int} : slD (.t (.tup ts)) lo hi S Q = Q (.t (.tup (cutG ts lo hi))) S := by
  apply propext
  constructor
  · rintro ⟨ds, us, h, ⟨h1, q⟩ | ⟨h1, q⟩⟩
    · cases h1
    · cases h1; rw [cutG_map, asTs_map] at h; cases h; exact q
  · exact fun q => ⟨_, _, by rw [cutG_map, asTs_map], .inr ⟨rfl, q⟩⟩
def cutT (x : T) (lo hi : Option Int) : T := match x with
  | .lst ts => .lst (cutG ts lo hi)
  | .tup ts => .tup (cutG ts lo hi)
  | x => x
theorem slD_x {x : T} {ts : List T} {lo hi : Option Int} (h : seqOf x = some ts) : slD (.t x) lo hi S Q = Q (.t (cutT x lo hi)) S := by
  cases x with
  | lst us => cases h; exact slD_l
  | tup us => cases h; exact slD_t
  | _ => cases h
theorem seqOf_cutT {x : T} {ts : List T} {lo hi : Option Int} (h : seqOf x = some ts) : seqOf (cutT x lo hi) = some (cutG ts lo hi) := by
  cases x with
  | lst us => cases h; rfl
  | tup us => cases h; rfl
  | _ => cases h
@[simp] theorem cutG_nn {α : Type} {xs : List α} : cutG xs none none = xs := by unfold cutG HT.sIx; simp
theorem sIx_nat' (n d k : Nat) : HT.sIx n d (some (k : Int)) = min k n := by
  show (if (k : Int) < 0 then ((k : Int) + (n : Int)).toNat else min (k : Int).toNat n) = min k n
  rw [if_neg (by omega), Int.toNat_natCast]
@[simp] theorem cutG_to {α : Type} {xs : List α} {k : Nat} : cutG xs none (some (k : Int)) = xs.take k := by
  unfold cutG
  rw [sIx_nat', show HT.sIx xs.length 0 none = 0 from rfl, List.drop_zero, Nat.sub_zero]
  by_cases h : k ≤ xs.length
  · rw [Nat.min_eq_left h]
  · rw [Nat.min_eq_right (by omega), List.take_of_length_le (Nat.le_refl _), List.take_of_length_le (by omega)]
@[simp] theorem cutG_from {α : Type} {xs : List α} {k : Nat} : cutG xs (some (k : Int)) none = xs.drop k := by
  unfold cutG
  rw [sIx_nat', show HT.sIx xs.length xs.length none = xs.length from rfl]
  by_cases h : k ≤ xs.length
  · rw [Nat.min_eq_left h, List.take_of_length_le (by simp)]
  · rw [Nat.min_eq_right (by omega), List.drop_of_length_le (Nat.le_refl _), List.drop_of_length_le (by omega)]; simp
@[simp] theorem dRev_e {te : TED} : dRev te X ρ S Q = te X ρ S fun d S1 => ∃ ds ts, seqL S1 d = some ds ∧ asTs ds.reverse = some ts ∧ Q (.t (.lst ts)) S1 := rfl
theorem asTs_iff {ds : List D} {ts : List T} : asTs ds = some ts ↔ ds = ts.map .t := by
  constructor
  · intro h
    induction ds generalizing ts with
    | nil => cases h; rfl
    | cons d ds ih =>
      cases d with
      | t x =>
        unfold asTs at h
        cases e : asTs ds with
        | none => rw [e] at h; cases h
        | some us => rw [e] at h; cases h; rw [ih e]; rfl
      | m i => unfold asTs at h; cases h
  · rintro rfl; exact asTs_map ts
@[simp] theorem asTs_mapt {ts : List T} : asTs (ts.map D.t) = some ts := asTs_map ts
/-! ### index -/
theorem oIx_x {x : T} {ts : List T} {i : Int} (h : seqOf x = some ts) : oIx (.t x) (.t (.v (.int i))) S Q = ∃ t, atI ts i = some t ∧ Q (.t t) S := oIx_s (seqA_of h)
theorem cLen_x {x : T} {ts : List T} (h : seqOf x = some ts) : cLen [.t x] S Q = Q (.int ts.length) S := by
  cases x with
  | lst us => cases h; exact cLen_l
  | tup us => cases h; exact cLen_t
  | _ => cases h
theorem atI_nat {α : Type} {xs : List α} {k : Nat} : atI xs (k : Int) = xs[k]? := by
  unfold atI ixN
  rw [if_pos (by omega)]
  by_cases h : k < xs.length
  · rw [if_pos (by omega)]; simp
  · rw [if_neg (by omega), List.getElem?_eq_none (by omega)]; rfl
@[simp] theorem atI_0 {α : Type} {xs : List α} : atI xs 0 = xs[0]? := atI_nat (k := 0)
@[simp] theorem atI_1 {α : Type} {xs : List α} : atI xs 1 = xs[1]? := atI_nat (k := 1)
@[simp] theorem atI_2 {α : Type} {xs : List α} : atI xs 2 = xs[2]? := atI_nat (k := 2)
@[simp] theorem atI_3 {α : Type} {xs : List α} : atI xs 3 = xs[3]? := atI_nat (k := 3)
@[simp] theorem atI_4 {α : Type} {xs : List α} : atI xs 4 = xs[4]? := atI_nat (k := 4)
@[simp] theorem atI_5 {α : Type} {xs : List α} : atI xs 5 = xs[5]? := atI_nat (k := 5)
@[simp] theorem atI_n {α : Type} {xs : List α} {k : Nat} : atI xs (k : Int) = xs[k]? := atI_nat
/-! ### any, all, list, tuple -/
theorem map_inj {α β : Type} {f : α → β} (hf : ∀ a b, f a = f b → a = b) {xs ys : List α} (h : xs.map f = ys.map f) : xs = ys := (List.map_inj_right (fun a b => hf a b)).mp h
theorem cAll_map {α : Type} {ts : List α} {p : α → Bool} : cAll [.t (.lst (ts.map fun x => T.v (V.bl (p x))))] S Q = Q (.bl (ts.all p)) S := by
  have e : seqL S (.t (.lst (ts.map fun x => T.v (V.bl (p x))))) = some ((ts.map p).map .bl) := by simp [seqL]
  apply propext
  constructor
  · rintro ⟨d, bs, h, h1, q⟩
    cases h
    rw [e] at h1
    have := map_inj (f := D.bl) (fun a b h => by cases h; rfl) (Option.some.inj h1)
    rw [← this] at q
    simpa using q
  · exact fun q => ⟨_, ts.map p, rfl, e, by simpa using q⟩
theorem cAny_map {α : Type} {ts : List α} {p : α → Bool} : cAny [.t (.lst (ts.map fun x => T.v (V.bl (p x))))] S Q = Q (.bl (ts.any p)) S := by
  have e : seqL S (.t (.lst (ts.map fun x => T.v (V.bl (p x))))) = some ((ts.map p).map .bl) := by simp [seqL]
  apply propext
  constructor
  · rintro ⟨d, bs, h, h1, q⟩
    cases h
    rw [e] at h1
    have := map_inj (f := D.bl) (fun a b h => by cases h; rfl) (Option.some.inj h1)
    rw [← this] at q
    simpa using q
  · exact fun q => ⟨_, ts.map p, rfl, e, by simpa using q⟩
theorem cList_x {x : T} {ts : List T} (h : seqOf x = some ts) : cList [.t x] S Q = Q (.t (.lst ts)) S := by
  apply propext
  constructor
  · rintro ⟨d, xs, us, h1, h2, h3, q⟩
    cases h1
    rw [seqA_of h] at h2
    cases h2
    rw [asTs_map] at h3
    cases h3
    exact q
  · exact fun q => ⟨_, _, ts, rfl, seqA_of h, asTs_map ts, q⟩
theorem cListM_x {x : T} {ts : List T} (h : seqOf x = some ts) : cListM [.t x] S Q = Q (.m S.length) (S ++ [.lst (ts.map .t)]) := by
  apply propext
  constructor
  · rintro ⟨d, xs, h1, h2, q⟩
    cases h1
    rw [seqA_of h] at h2
    cases h2
    exact q
  · exact fun q => ⟨_, _, rfl, seqA_of h, q⟩
theorem cTuple_x {x : T} {ts : List T} (h : seqOf x = some ts) : cTuple [.t x] S Q = Q (.t (.tup ts)) S := by
  apply propext
  constructor
  · rintro ⟨d, xs, us, h1, ⟨h2, h3, q⟩ | ⟨h2, q⟩⟩
    · cases h1
      cases x with
      | lst vs => cases h2; cases h; rw [asTs_map] at h3; cases h3; exact q
      | _ => cases h2
    · cases h1; cases h2; cases h; exact q
  · intro q
    cases x with
    | lst vs => cases h; exact ⟨_, _, ts, rfl, .inl ⟨rfl, asTs_map ts, q⟩⟩
    | tup vs => cases h; exact ⟨_, [], ts, rfl, .inr ⟨rfl, q⟩⟩
    | _ => cases h
/-! ### what is walked -/
def seqI (d : D) (S : Store) (R : ItD → Store → Prop) : Prop := ∃ ds, (seqL S d = some ds ∧ R ⟨ds, Stays ds seqL d⟩ S) ∨ (seqT S d = some ds ∧ R ⟨ds, Stays ds seqT d⟩ S)
def enumI (d : D) (S : Store) (R : ItD → Store → Prop) : Prop := ∃ ds, allT ds ∧ ((seqL S d = some ds ∧ R ⟨enums 0 ds, Stays ds seqL d⟩ S) ∨ (seqT S d = some ds ∧ R ⟨enums 0 ds, Stays ds seqT d⟩ S))
def rng1I (ds : List D) (S : Store) (R : ItD → Store → Prop) : Prop := ∃ j : Int, ds = [.t (.v (.int j))] ∧ -(2 ^ 62) ≤ j ∧ j < 2 ^ 62 ∧ R ⟨dInts 0 j.toNat, fun _ => True⟩ S
def rng2I (ds : List D) (S : Store) (R : ItD → Store → Prop) : Prop := ∃ i j : Int, ds = [.t (.v (.int i)), .t (.v (.int j))] ∧ (-(2 ^ 62) ≤ i ∧ i < 2 ^ 62 ∧ -(2 ^ 62) ≤ j ∧ j < 2 ^ 62) ∧ R ⟨dInts i (j - i).toNat, fun _ => True⟩ S
def zipI (ds : List D) (S1 : Store) (R : ItD → Store → Prop) : Prop := ∃ x y xs ys, ds = [x, y] ∧ allT xs ∧ allT ys ∧
  ((seqL S1 x = some xs ∧ seqL S1 y = some ys ∧ R ⟨zips xs ys, fun S' => seqL S' x = some xs ∧ seqL S' y = some ys⟩ S1) ∨ (seqT S1 x = some xs ∧ seqT S1 y = some ys ∧ R ⟨zips xs ys, fun S' => seqT S' x = some xs ∧ seqT S' y = some ys⟩ S1))
@[simp] theorem iSeq_e {t : TED} {R} : iSeq t X ρ S R = t X ρ S fun d S1 => seqI d S1 R := rfl
@[simp] theorem iEnumD_e {t : TED} {R} : iEnumD t X ρ S R = t X ρ S fun d S1 => enumI d S1 R := rfl
@[simp] theorem iRange1_e {t : TAD} {R} : iRange1 t X ρ S R = t X ρ S fun ds S1 => rng1I ds S1 R := rfl
@[simp] theorem iRange2_e {t : TAD} {R} : iRange2 t X ρ S R = t X ρ S fun ds S1 => rng2I ds S1 R := rfl
@[simp] theorem iZipD_e {t : TAD} {R} : iZipD t X ρ S R = t X ρ S fun ds S1 => zipI ds S1 R := rfl
/-- trees to be walked: the guard is always kept -/
structure ItT (it : ItD) (ts : List T) : Prop where
  items : it.items = ts.map .t
  g : ∀ S, it.g S
theorem itT_x {x : T} {ts : List T} (h : seqOf x = some ts) {R : ItD → Store → Prop} (q : ∀ it, ItT it ts → R it S) : seqI (.t x) S R := by
  cases x with
  | lst us => cases h; exact ⟨_, .inl ⟨rfl, q _ ⟨rfl, fun _ => rfl⟩⟩⟩
  | tup us => cases h; exact ⟨_, .inr ⟨rfl, q _ ⟨rfl, fun _ => rfl⟩⟩⟩
  | _ => cases h
def numbered (k : Nat) : List T → List T
  | [] => []
  | x :: xs => .tup [.int (k : Nat), x] :: numbered (k + 1) xs
theorem enums_map : ∀ {ts : List T} {k : Nat}, enums k (ts.map .t) = (numbered k ts).map .t
  | [], _ => by simp [enums, numbered]
  | x :: xs, k => by
    simp only [List.map_cons, numbered]
    rw [enums, enums_map]
theorem numbered_get {ts : List T} {k i : Nat} : (numbered k ts)[i]? = (ts[i]?).map fun x => .tup [.int ((k + i : Nat) : Int), x] := by
  induction ts generalizing k i with
  | nil => simp [numbered]
  | cons x xs ih =>
    cases i with
    | zero => simp [numbered]
    | succ j => simp only [numbered, List.getElem?_cons_succ]; rw [ih]; congr 1; funext y; congr 4; omega
@[simp] theorem numbered_len {ts : List T} {k : Nat} : (numbered k ts).length = ts.length := by
  induction ts generalizing k with
  | nil => rfl
  | cons x xs ih => simp [numbered, ih]
theorem itT_enum {x : T} {ts : List T} (h : seqOf x = some ts) {R : ItD → Store → Prop} (q : ∀ it, ItT it (numbered 0 ts) → R it S) : enumI (.t x) S R := by
  cases x with
  | lst us => cases h; exact ⟨_, allT_map _, .inl ⟨rfl, q _ ⟨enums_map, fun _ => rfl⟩⟩⟩
  | tup us => cases h; exact ⟨_, allT_map _, .inr ⟨rfl, q _ ⟨enums_map, fun _ => rfl⟩⟩⟩
  | _ => cases h
theorem dInts_T {lo : Int} {n : Nat} : ItT ⟨dInts lo n, fun _ => True⟩ ((List.range n).map fun i : Nat => .int (lo + i)) := ⟨by simp [dInts], fun _ => True.intro⟩
/-! ### [.. for ..], nothing changes -/
@[simp] theorem dLc_e {wi : TID} {g : TGD} {tt : TTD} {te : TED} {vs : List Nat} : dLc wi g tt te vs X ρ S Q = wi X ρ S fun it S1 => lcTr g tt te vs ρ it S1 Q := rfl
@[simp] theorem dLcM_e {wi : TID} {g : TGD} {tt : TTD} {te : TED} {vs : List Nat} : dLcM wi g tt te vs X ρ S Q = wi X ρ S fun it S1 => lcIn g tt te vs ρ it S1 Q := rfl
theorem lc_fm {g : TGD} {tt : TTD} {te : TED} {vs : List Nat} {it : ItD} {ts : List T} (p : T → Bool) (e : T → T) (hi : ItT it ts) (hc : ClosedS S.length S) (hl : ts.length ≤ sizeLine)
    (h : ∀ x ∈ ts, ∀ (S2 : Store) (Ky : D → Store → Prop) (Kn : Store → Prop), (p x = true → Ky (.t (e x)) S2) → (p x = false → Kn S2) → g (.t x) noX (wipeD ρ vs) S2 fun ρ2 S3 => tt noX ρ2 S3 fun b S4 => if b = true then te noX ρ2 S4 Ky else Kn S4)
    (q : Q (.t (.lst ((ts.filter p).map e))) S) : lcTr g tt te vs ρ it S Q := by
  refine ⟨fun i acc S' => S' = S ∧ i ≤ ts.length ∧ acc = ((ts.take i).filter p).map e, ⟨rfl, Nat.zero_le _, by simp⟩, fun i acc S' ⟨e, _, _⟩ => by subst e; exact ⟨rfl, hc, hi.g _⟩, ?_, ?_⟩
  · rintro i d acc S' hd ⟨rfl, hle, rfl⟩
    rw [hi.items, List.getElem?_map] at hd
    cases hx : ts[i]? with
    | none => rw [hx] at hd; cases hd
    | some x =>
      rw [hx] at hd
      have hd : D.t x = d := Option.some.inj hd
      subst hd
      obtain ⟨hlt, hx'⟩ := List.getElem?_eq_some_iff.mp hx
      have tk : ts.take (i + 1) = ts.take i ++ [x] := by rw [List.take_succ, hx]; rfl
      have tl : ((ts.take i).filter p).length ≤ i := Nat.le_trans (List.length_filter_le _ _) (by simp; omega)
      refine h x (hx' ▸ List.getElem_mem _) _ _ _ (fun hp => ⟨e x, S', rfl, rfl, by simp; omega, rfl, hlt, ?_⟩) (fun hp => ⟨S', rfl, rfl, hlt, ?_⟩)
      · rw [tk, List.filter_append]; simp [hp]
      · rw [tk, List.filter_append]; simp [hp]
  · rintro acc S' ⟨rfl, _, rfl⟩
    rw [hi.items]
    simpa using q
theorem lc_map {g : TGD} {te : TED} {vs : List Nat} {it : ItD} {ts : List T} (e : T → T) (hi : ItT it ts) (hc : ClosedS S.length S) (hl : ts.length ≤ sizeLine)
    (h : ∀ x ∈ ts, ∀ (S2 : Store) (Ky : D → Store → Prop), Ky (.t (e x)) S2 → g (.t x) noX (wipeD ρ vs) S2 fun ρ2 S3 => te noX ρ2 S3 Ky)
    (q : Q (.t (.lst (ts.map e))) S) : lcTr g dYes te vs ρ it S Q :=
  lc_fm (fun _ => true) e hi hc hl (fun x hx S2 Ky Kn h1 _ => by simpa using h x hx S2 Ky (h1 rfl)) (by rw [List.filter_eq_self.mpr (fun _ _ => rfl)]; exact q)
/-- for, by an invariant; trees are walked -/
def forI (g : TGD) (tb : TSD) (De : DEnds) (ρ : Env) (it : ItD) (S1 : Store) : Prop := ∃ Pv : Nat → Env → Store → Prop, Pv 0 ρ S1 ∧ (∀ i ρ S, Pv i ρ S → it.g S) ∧
  (∀ i d ρ S, it.items[i]? = some d → Pv i ρ S → g d De.ex ρ S fun ρ2 S2 => tb { De with nx := Pv (i + 1), ct := Pv (i + 1), bk := De.nx } ρ2 S2) ∧ (∀ ρ S, Pv it.items.length ρ S → De.nx ρ S)
@[simp] theorem sFor_e {wi : TID} {g : TGD} {tb : TSD} : sFor wi g tb De ρ S = wi De.ex ρ S fun it S1 => forI g tb De ρ it S1 := rfl
theorem for_T {g : TGD} {tb : TSD} {it : ItD} {ts : List T} (hi : ItT it ts) (Pv : Nat → Env → Store → Prop) (p0 : Pv 0 ρ S)
    (ph : ∀ i x ρ S, ts[i]? = some x → Pv i ρ S → g (.t x) De.ex ρ S fun ρ2 S2 => tb { De with nx := Pv (i + 1), ct := Pv (i + 1), bk := De.nx } ρ2 S2) (pn : ∀ ρ S, Pv ts.length ρ S → De.nx ρ S) : forI g tb De ρ it S := by
  refine ⟨Pv, p0, fun _ _ _ _ => hi.g _, fun i d ρ S hd p => ?_, fun ρ S p => pn ρ S (by rw [hi.items, List.length_map] at p; exact p)⟩
  rw [hi.items, List.getElem?_map] at hd
  cases hx : ts[i]? with
  | none => rw [hx] at hd; cases hd
  | some x =>
    rw [hx] at hd
    have hd : D.t x = d := Option.some.inj hd
    subst hd
    exact ph i x ρ S hx p
def loopI (W : Nat → Env → Store → Prop) (m : Nat) (tb : TSD) (De : DEnds) (ρ : Env) (S1 : Store) : Prop := ∃ N : Env → Store → Prop, (∀ ρ' S', N ρ' S' → ∃ m', m' < m ∧ W m' ρ' S') ∧ tb { De with nx := N, ct := N, bk := De.nx } ρ S1
def whileI (c : TTD) (tb : TSD) (De : DEnds) (ρ : Env) (S : Store) : Prop := ∃ W : Nat → Env → Store → Prop, (∃ m, W m ρ S) ∧ ∀ m ρ S, W m ρ S →
  c De.ex ρ S fun b S1 => if b = true then loopI W m tb De ρ S1 else De.nx ρ S1
@[simp] theorem sWhile_e {c : TTD} {tb : TSD} : sWhile c tb De ρ S = whileI c tb De ρ S := rfl
/-- on to a turn with less left -/
def Less (W : Nat → Env → Store → Prop) (m : Nat) : Env → Store → Prop := fun ρ' S' => ∃ m', m' < m ∧ W m' ρ' S'
theorem loop_I {W : Nat → Env → Store → Prop} {m : Nat} {tb : TSD} (h : tb { De with nx := Less W m, ct := Less W m, bk := De.nx } ρ S) : loopI W m tb De ρ S := ⟨_, fun _ _ h => h, h⟩
theorem while_I {c : TTD} {tb : TSD} (W : Nat → Env → Store → Prop) (m : Nat) (w0 : W m ρ S) (h : ∀ m ρ S, W m ρ S → c De.ex ρ S fun b S1 => if b = true then loopI W m tb De ρ S1 else De.nx ρ S1) : whileI c tb De ρ S := ⟨W, ⟨m, w0⟩, h⟩
end
end DL
set_option Elab.async false
set_option linter.all false
set_option maxRecDepth 100000
/-! DL13: calls that only read: the callee sees trees -/
namespace DL
open PySem PySem.Spec PyProof.Rows L2

mutual
theorem frz_mono {n : Nat} {S : Store} : ∀ (f : Nat) (d : D) (t : T), frz n S f d = some t → frz n S (f + 1) d = some t
  | f, .t x, t, h => by unfold frz at h ⊢; exact h
  | 0, .m i, t, h => by unfold frz at h; cases h
  | f + 1, .m i, t, h => by
    unfold frz at h
    unfold frz
    cases hc : S[i]? with
    | none => rw [hc] at h; cases h
    | some c =>
      rw [hc] at h
      cases c with
      | fz u => exact h
      | lst ds =>
        have h : (if n ≤ i then (frzL n S f ds).map T.lst else none) = some t := h
        show (if n ≤ i then (frzL n S (f + 1) ds).map T.lst else none) = some t
        by_cases hi : n ≤ i
        · rw [if_pos hi] at h ⊢
          cases q : frzL n S f ds with
          | none => rw [q] at h; cases h
          | some ts => rw [q] at h; rw [frzL_mono f ds ts q]; exact h
        · rw [if_neg hi] at h; cases h
      | dct ds =>
        have h : (if n ≤ i then (frzK n S f ds).map T.dct else none) = some t := h
        show (if n ≤ i then (frzK n S (f + 1) ds).map T.dct else none) = some t
        by_cases hi : n ≤ i
        · rw [if_pos hi] at h ⊢
          cases q : frzK n S f ds with
          | none => rw [q] at h; cases h
          | some ts => rw [q] at h; rw [frzK_mono f ds ts q]; exact h
        · rw [if_neg hi] at h; cases h
      | ins C ds =>
        have h : (if n ≤ i then (frzF n S f ds).map (T.ins C) else none) = some t := h
        show (if n ≤ i then (frzF n S (f + 1) ds).map (T.ins C) else none) = some t
        by_cases hi : n ≤ i
        · rw [if_pos hi] at h ⊢
          cases q : frzF n S f ds with
          | none => rw [q] at h; cases h
          | some ts => rw [q] at h; rw [frzF_mono f ds ts q]; exact h
        · rw [if_neg hi] at h; cases h
      | tup ds =>
        have h : (if n ≤ i then (frzL n S f ds).map T.tup else none) = some t := h
        show (if n ≤ i then (frzL n S (f + 1) ds).map T.tup else none) = some t
        by_cases hi : n ≤ i
        · rw [if_pos hi] at h ⊢
          cases q : frzL n S f ds with
          | none => rw [q] at h; cases h
          | some ts => rw [q] at h; rw [frzL_mono f ds ts q]; exact h
        · rw [if_neg hi] at h; cases h
      | strmI => cases h
      | strm b => cases h
theorem frzL_mono {n : Nat} {S : Store} : ∀ (f : Nat) (ds : List D) (ts : List T), frzL n S f ds = some ts → frzL n S (f + 1) ds = some ts
  | f, [], ts, h => by unfold frzL at h ⊢; exact h
  | f, d :: ds, ts, h => by
    unfold frzL at h ⊢
    cases q1 : frz n S f d with
    | none => rw [q1] at h; cases h
    | some t =>
      cases q2 : frzL n S f ds with
      | none => rw [q1, q2] at h; cases h
      | some us => rw [q1, q2] at h; rw [frz_mono f d t q1, frzL_mono f ds us q2]; exact h
theorem frzK_mono {n : Nat} {S : Store} : ∀ (f : Nat) (ds : List (Key × D)) (ts : List (Key × T)), frzK n S f ds = some ts → frzK n S (f + 1) ds = some ts
  | f, [], ts, h => by unfold frzK at h ⊢; exact h
  | f, (k, d) :: ds, ts, h => by
    unfold frzK at h ⊢
    cases q1 : frz n S f d with
    | none => rw [q1] at h; cases h
    | some t =>
      cases q2 : frzK n S f ds with
      | none => rw [q1, q2] at h; cases h
      | some us => rw [q1, q2] at h; rw [frz_mono f d t q1, frzK_mono f ds us q2]; exact h
theorem frzF_mono {n : Nat} {S : Store} : ∀ (f : Nat) (ds : List (Str × D)) (ts : List (Str × T)), frzF n S f ds = some ts → frzF n S (f + 1) ds = some ts
  | f, [], ts, h => by unfold frzF at h ⊢; exact h
  | f, (k, d) :: ds, ts, h => by
    unfold frzF at h ⊢
    cases q1 : frz n S f d with
    | none => rw [q1] at h; cases h
    | some t =>
      cases q2 : frzF n S f ds with
      | none => rw [q1, q2] at h; cases h
      | some us => rw [q1, q2] at h; rw [frz_mono f d t q1, frzF_mono f ds us q2]; exact h
end
theorem frz_le {n : Nat} {S : Store} {f g : Nat} {d : D} {t : T} (h : frz n S f d = some t) (hle : f ≤ g) : frz n S g d = some t := by
  induction hle with
  | refl => exact h
  | step _ ih => exact frz_mono _ d t ih
section
variable {CT : TTs} {as : List Addr} {S : Store} {H : Hp} {L' : Addr → Prop} {N : Nat}
mutual
theorem frz_rep (st : StOk CT as S H) (hL : ∀ a, L' a → Live as S a) (hF : ∀ (i : Nat) a t, as[i]? = some a → frz 0 S N (.m i) = some t → ¬ L' a) : ∀ (f : Nat) (d : D) (t : T) (y : V), f ≤ N → frz 0 S f d = some t → RepD as (Live as S) H d y → Rep L' H t y
  | f, .t x, t, y, _, e, r => by
    have e : x = t := by unfold frz at e; exact Option.some.inj e
    subst e
    exact Rep.weak hL r
  | 0, .m i, t, y, _, e, r => by unfold frz at e; cases e
  | f + 1, .m i, t, y, hf, e0, ⟨a, ha, ey⟩ => by
    subst ey
    have nl := hF i a t ha (frz_le e0 hf)
    obtain ⟨c, hc, ok⟩ := st.mem ha
    have e := e0
    unfold frz at e
    rw [hc] at e
    cases c with
    | fz u => cases e; exact Rep.weak hL ok.2
    | lst ds =>
      have e : (if 0 ≤ i then (frzL 0 S f ds).map T.lst else none) = some t := e
      rw [if_pos (Nat.zero_le _)] at e
      cases q : frzL 0 S f ds with
      | none => rw [q] at e; cases e
      | some ts =>
        rw [q] at e; cases e
        obtain ⟨xs, h1, h2⟩ := ok
        exact ⟨a, xs, rfl, nl, h1, frzL_rep st hL hF f ds ts xs (by omega) q h2⟩
    | dct ds =>
      have e : (if 0 ≤ i then (frzK 0 S f ds).map T.dct else none) = some t := e
      rw [if_pos (Nat.zero_le _)] at e
      cases q : frzK 0 S f ds with
      | none => rw [q] at e; cases e
      | some ts =>
        rw [q] at e; cases e
        obtain ⟨xs, h1, h2⟩ := ok
        exact ⟨a, xs, rfl, nl, h1, frzK_rep st hL hF f ds ts xs (by omega) q h2⟩
    | ins C ds =>
      have e : (if 0 ≤ i then (frzF 0 S f ds).map (T.ins C) else none) = some t := e
      rw [if_pos (Nat.zero_le _)] at e
      cases q : frzF 0 S f ds with
      | none => rw [q] at e; cases e
      | some ts =>
        rw [q] at e; cases e
        obtain ⟨dx, xs, h1, h2⟩ := ok
        exact ⟨a, dx, xs, rfl, nl, h1, frzF_rep st hL hF f ds ts xs (by omega) q h2⟩
    | tup ds =>
      have e : (if 0 ≤ i then (frzL 0 S f ds).map T.tup else none) = some t := e
      rw [if_pos (Nat.zero_le _)] at e
      cases q : frzL 0 S f ds with
      | none => rw [q] at e; cases e
      | some ts =>
        rw [q] at e; cases e
        obtain ⟨xs, h1, h2⟩ := ok
        exact ⟨a, xs, rfl, nl, h1, frzL_rep st hL hF f ds ts xs (by omega) q h2⟩
    | strmI => cases e
    | strm b => cases e
theorem frzL_rep (st : StOk CT as S H) (hL : ∀ a, L' a → Live as S a) (hF : ∀ (i : Nat) a t, as[i]? = some a → frz 0 S N (.m i) = some t → ¬ L' a) : ∀ (f : Nat) (ds : List D) (ts : List T) (xs : List V), f ≤ N → frzL 0 S f ds = some ts → RepDs as (Live as S) H ds xs → RepL L' H ts xs
  | f, [], ts, xs, _, e, r => by
    have e : [] = ts := by unfold frzL at e; exact Option.some.inj e
    subst e
    cases r
    rfl
  | f, d :: ds, ts, xs, hf, e, r => by
    unfold frzL at e
    cases q1 : frz 0 S f d with
    | none => rw [q1] at e; cases e
    | some t =>
      cases q2 : frzL 0 S f ds with
      | none => rw [q1, q2] at e; cases e
      | some us =>
        rw [q1, q2] at e
        cases e
        cases r with
        | cons r1 r2 => exact ⟨_, _, rfl, frz_rep st hL hF f d t _ hf q1 r1, frzL_rep st hL hF f ds us _ hf q2 r2⟩
theorem frzK_rep (st : StOk CT as S H) (hL : ∀ a, L' a → Live as S a) (hF : ∀ (i : Nat) a t, as[i]? = some a → frz 0 S N (.m i) = some t → ¬ L' a) : ∀ (f : Nat) (ds : List (Key × D)) (ts : List (Key × T)) (xs : List (Key × V)), f ≤ N → frzK 0 S f ds = some ts → Paired (fun (p : Key × D) (q : Key × V) => p.1 = q.1 ∧ RepD as (Live as S) H p.2 q.2) ds xs → RepK L' H ts xs
  | f, [], ts, xs, _, e, r => by
    have e : [] = ts := by unfold frzK at e; exact Option.some.inj e
    subst e
    cases r
    rfl
  | f, (k, d) :: ds, ts, xs, hf, e, r => by
    unfold frzK at e
    cases q1 : frz 0 S f d with
    | none => rw [q1] at e; cases e
    | some t =>
      cases q2 : frzK 0 S f ds with
      | none => rw [q1, q2] at e; cases e
      | some us =>
        rw [q1, q2] at e
        cases e
        cases r with
        | @cons _ b _ _ r1 r2 =>
          obtain ⟨k', y⟩ := b
          obtain ⟨rk, r1⟩ := r1
          have rk : k = k' := rk
          subst rk
          exact ⟨_, _, rfl, frz_rep st hL hF f d t _ hf q1 r1, frzK_rep st hL hF f ds us _ hf q2 r2⟩
theorem frzF_rep (st : StOk CT as S H) (hL : ∀ a, L' a → Live as S a) (hF : ∀ (i : Nat) a t, as[i]? = some a → frz 0 S N (.m i) = some t → ¬ L' a) : ∀ (f : Nat) (ds : List (Str × D)) (ts : List (Str × T)) (xs : List (Str × V)), f ≤ N → frzF 0 S f ds = some ts → Paired (fun (p : Str × D) (q : Str × V) => p.1 = q.1 ∧ RepD as (Live as S) H p.2 q.2) ds xs → RepF L' H ts xs
  | f, [], ts, xs, _, e, r => by
    have e : [] = ts := by unfold frzF at e; exact Option.some.inj e
    subst e
    cases r
    rfl
  | f, (k, d) :: ds, ts, xs, hf, e, r => by
    unfold frzF at e
    cases q1 : frz 0 S f d with
    | none => rw [q1] at e; cases e
    | some t =>
      cases q2 : frzF 0 S f ds with
      | none => rw [q1, q2] at e; cases e
      | some us =>
        rw [q1, q2] at e
        cases e
        cases r with
        | @cons _ b _ _ r1 r2 =>
          obtain ⟨k', y⟩ := b
          obtain ⟨rk, r1⟩ := r1
          have rk : k = k' := rk
          subst rk
          exact ⟨_, _, rfl, frz_rep st hL hF f d t _ hf q1 r1, frzF_rep st hL hF f ds us _ hf q2 r2⟩
end
end
def Cell.isS : Cell → Bool
  | .strmI => true
  | .strm _ => true
  | _ => false
/-- cell i as a tree, if it is one -/
def frzAt (S : Store) (i : Nat) (c : Cell) : Cell := match frz 0 S (S.length + 1) (.m i) with
  | some t => .fz t
  | none => c
def frzS (S : Store) : Store := S.mapIdx fun i c => frzAt S i c
theorem frzS_get {S : Store} {i : Nat} : (frzS S)[i]? = (S[i]?).map (frzAt S i) := by unfold frzS; rw [List.getElem?_mapIdx]
@[simp] theorem frzS_len {S : Store} : (frzS S).length = S.length := by unfold frzS; simp
def trees (S : Store) : List D → Option (List T)
  | [] => some []
  | d :: ds => match d.tree S, trees S ds with
    | some t, some ts => some (t :: ts)
    | _, _ => none
/-- all but the stream can be read as trees -/
def AllFz (S : Store) : Prop := ∀ (i : Nat) c, S[i]? = some c → c.isS = true ∨ ∃ t, frz 0 S (S.length + 1) (.m i) = some t
def dRO (n : Nat) (ft : FT) (t : TAD) : TED := fun X ρ S Q => t X ρ S fun ds S1 => ds.length = n ∧ AllFz S1 ∧ ∃ ts, trees S1 ds = some ts ∧ ft (ts.map .t) (frzS S1) (fun d S2 => S2 = frzS S1 ∧ ∃ v, d = .t (.v v) ∧ Q d S1) fun _ => False
section
variable {CT : TTs} {as : List Addr} {S : Store} {H : Hp}
theorem frzAt_live {i : Nat} {c : Cell} (h : (frzAt S i c).lives) : c.lives ∧ frz 0 S (S.length + 1) (.m i) = none := by
  unfold frzAt at h
  cases e : frz 0 S (S.length + 1) (.m i) with
  | none => rw [e] at h; exact ⟨h, rfl⟩
  | some t => rw [e] at h; exact h.elim
theorem live_frz {a : Addr} (l : Live as (frzS S) a) : Live as S a := by
  obtain ⟨i, c, h1, h2, h3⟩ := l
  rw [frzS_get] at h2
  cases e : S[i]? with
  | none => rw [e] at h2; cases h2
  | some c' =>
    rw [e] at h2
    have h2 : frzAt S i c' = c := Option.some.inj h2
    subst h2
    exact ⟨i, c', h1, e, (frzAt_live h3).1⟩
theorem notLive_frz (nd : as.Nodup) {i : Nat} {a : Addr} {t : T} (h : as[i]? = some a) (e : frz 0 S (S.length + 1) (.m i) = some t) : ¬ Live as (frzS S) a := fun ⟨j, c, h1, h2, h3⟩ => by
  have := nodup_ix nd h h1
  subst this
  rw [frzS_get] at h2
  cases e2 : S[i]? with
  | none => rw [e2] at h2; cases h2
  | some c' =>
    rw [e2] at h2
    have h2 : frzAt S i c' = c := Option.some.inj h2
    subst h2
    rw [(frzAt_live h3).2] at e
    cases e
theorem weakE {L L' : Addr → Prop} {H : Hp} (h : ∀ a, L' a → L a) : Ext L H L' H := ⟨fun _ _ e _ _ => e, fun b l => .inl (h b l), fun _ e => e⟩
theorem frz_nv {as : List Addr} {L : Addr → Prop} {H : Hp} {n f i : Nat} {S : Store} {a : Addr} {c : Cell} {t : T} (ok : CellOk as L H a c) (e : S[i]? = some c) (h : DL.frz n S f (.m i) = some t) (x : V) : t ≠ .v x := by
  cases f with
  | zero => unfold DL.frz at h; cases h
  | succ f =>
    unfold DL.frz at h
    rw [e] at h
    have key : ∀ {α : Type} {o : Option α} {g : α → T} {b : Prop} [Decidable b], (∀ z, g z ≠ .v x) → (if b then o.map g else none) = some t → t ≠ .v x := by
      intro α o g b _ hg h
      split at h
      · cases o with
        | none => cases h
        | some z => cases h; exact hg z
      · cases h
    cases c with
    | fz u => cases h; exact ok.1 x
    | lst ds => exact key (fun z q => by cases q) h
    | tup ds => exact key (fun z q => by cases q) h
    | dct ds => exact key (fun z q => by cases q) h
    | ins C ds => exact key (fun z q => by cases q) h
    | strmI => cases h
    | strm b => cases h
theorem StOk.frz (st : StOk CT as S H) : StOk CT as (frzS S) H where
  tab := st.tab
  len := by rw [frzS_len]; exact st.len
  nd := st.nd
  there := st.there
  cell := fun i a c e1 e2 => by
    rw [frzS_get] at e2
    cases e : S[i]? with
    | none => rw [e] at e2; cases e2
    | some c' =>
      rw [e] at e2
      have e2 : frzAt S i c' = c := Option.some.inj e2
      subst e2
      unfold frzAt
      cases q : DL.frz 0 S (S.length + 1) (.m i) with
      | some t =>
        refine ⟨frz_nv (st.cell i a c' e1 e) e q, ?_⟩
        exact frz_rep (N := S.length + 1) st (fun a l => live_frz l) (fun i a t h e => notLive_frz st.nd h e) _ (.m i) t (.ref a) (Nat.le_refl _) q ⟨a, e1, rfl⟩
      | none => exact CellOk.ext (weakE fun a l => live_frz l) (fun _ _ h => h) c' (fun o h _ => h) (st.cell i a c' e1 e)
theorem trees_rep (st : StOk CT as S H) : ∀ {ds : List D} {ts : List T} {xs : List V}, trees S ds = some ts → RepDs as (Live as S) H ds xs → RepDs as (Live as (frzS S)) H (ts.map .t) xs
  | [], ts, xs, e, r => by cases e; cases r; exact .nil
  | d :: ds, ts, xs, e, r => by
    unfold trees at e
    cases q1 : d.tree S with
    | none => rw [q1] at e; cases e
    | some t =>
      cases q2 : trees S ds with
      | none => rw [q1, q2] at e; cases e
      | some us =>
        rw [q1, q2] at e; cases e
        cases r with
        | cons r1 r2 => exact .cons (frz_rep (N := S.length + 1) st (fun a l => live_frz l) (fun i a t h e => notLive_frz st.nd h e) _ d t _ (Nat.le_refl _) q1 r1) (trees_rep st q2 r2)
theorem trees_len : ∀ {ds : List D} {ts : List T}, trees S ds = some ts → ts.length = ds.length
  | [], ts, e => by cases e; rfl
  | d :: ds, ts, e => by
    unfold trees at e
    cases q1 : d.tree S with
    | none => rw [q1] at e; cases e
    | some t =>
      cases q2 : trees S ds with
      | none => rw [q1, q2] at e; cases e
      | some us => rw [q1, q2] at e; cases e; simp [trees_len q2]
/-- back from the callee: nothing has been changed -/
theorem StOk.unfrz {as' : List Addr} {H' : Hp} (st : StOk CT as S H) (al : AllFz S) (o : On as (frzS S) H as' (frzS S) H') (st' : StOk CT as' (frzS S) H') : On as S H as S H' ∧ StOk CT as S H' := by
  have ea : as' = as := by
    apply List.ext_getElem?
    intro i
    by_cases hi : i < as.length
    · rw [List.getElem?_eq_getElem hi]; exact o.pre i _ (List.getElem?_eq_getElem hi)
    · have h1 : as'.length = as.length := by rw [st'.len, frzS_len, st.len]
      rw [List.getElem?_eq_none (by omega), List.getElem?_eq_none (by omega)]
  subst ea
  have e1 : Ext (Live as' S) H (Live as' S) H' := ⟨fun b u e n t => o.ext.keep b u e (fun l => n (live_frz l)) t, fun b l => .inl l, o.ext.dom⟩
  refine ⟨⟨e1, fun _ _ h => h⟩, ⟨st'.tab, st.len, st.nd, st'.there, fun i a c e2 e3 => ?_⟩⟩
  have ok := st.cell i a c e2 e3
  rcases al i c e3 with hs | ⟨t, ht⟩
  · -- the stream
    have ok' := st'.cell i a (frzAt S i c) e2 (by rw [frzS_get, e3]; rfl)
    have ec : frzAt S i c = c := by
      unfold frzAt
      cases q : DL.frz 0 S (S.length + 1) (.m i) with
      | none => rfl
      | some t =>
        unfold DL.frz at q
        rw [e3] at q
        cases c with
        | strmI => cases q
        | strm b => cases q
        | _ => cases hs
    rw [ec] at ok'
    cases c with
    | strmI => exact ok'
    | strm b => exact ok'
    | _ => cases hs
  · have nl := notLive_frz st.nd e2 ht
    refine CellOk.ext e1 (fun _ _ h => h) c (fun u hu hc => ?_) ok
    refine o.ext.keep a u hu nl fun ps hp => ?_
    subst hp
    cases c with
    | lst ds => obtain ⟨xs, h, _⟩ := ok; rw [h] at hu; cases hu
    | dct ds => obtain ⟨xs, h, _⟩ := ok; rw [h] at hu; cases hu
    | ins C ds => obtain ⟨dx, xs, h, _⟩ := ok; rw [h] at hu; cases hu
    | tup ds => obtain ⟨xs, h, _⟩ := ok; rw [h] at hu; cases hu
    | strmI => obtain ⟨ns, h, _⟩ := ok; rw [h] at hu; cases hu
    | strm b => obtain ⟨c, x, y, z, _, h, _⟩ := ok; rw [h] at hu; cases hu
    | fz t => exact hc t rfl
theorem de_callRO {E : XK} {X : Cx} {e : Expr} {n : Nat} {ft : FT} {t : TAD} (h : PE X e (tCall (spD CT n ft) [] E (liftA CT E t))) : DE CT E X e (dRO n ft t) :=
  .of h fun σ H as S ρ Xq Qd Q z q k => ⟨as, S, ρ, Xq, _, z, q, fun as1 S1 H1 ds ys o1 s1 r ⟨hl, al, ts, ht, q1⟩ => by
    show spD CT n ft (ys ++ []) H1 Q E
    rw [List.append_nil]
    refine ⟨as1, frzS S1, ts.map .t, _, _, s1.frz, trees_rep s1 ht r, by rw [List.length_map, trees_len ht]; exact hl, q1, ?_, fun H' C dx fs ts o st' hx rf q => q.elim⟩
    rintro as' S' H' d y o st' rd ⟨rfl, v, rfl, q2⟩
    obtain ⟨o2, st2⟩ := s1.unfrz al o st'
    obtain rfl : y = v := rd
    exact (k.on (o1.trans o2)).sc st2 q2⟩
end
section
variable {CT : TTs} {E : XK} {X : Cx} {x : Str} {p pos : Pos} {e : Expr} {es : List Expr} {t : TAD}
theorem de_GR {k : Nat} {ps : List Str} {ft : FT} (G : FnG CT X.prog X.w X.K X.mg X.base k x ps ft) (hr : Room k X.A) (hx : Passes (L2.CX X.prog X.w) X E) (ha : DA CT E X (e :: es) t) (hg : Gl X x := by rfl)
    (hdb : (x == ("__debug__" : Str)) = false := by decide) (he : starEach (e :: es) X.env = (false, eval e X.env) :: starEach es X.env := by rfl) (hpl : (backTo pos (starEach es X.env)).any (·.1) = false := by rfl) : DE CT E X (.Call (.Name x p) (e :: es) [] pos) (dRO ps.length ft t) := by
  obtain ⟨f, fd, F, hb, hm, hk⟩ := G.ex
  exact de_callRO (pe_call F hr hg hm hk hb .nil hx ha.pa hdb he hpl)
end
@[simp] theorem dRO_e {n : Nat} {ft : FT} {t : TAD} {X : XQ} {ρ : Env} {S : Store} {Q} : dRO n ft t X ρ S Q = t X ρ S fun ds S1 => ds.length = n ∧ AllFz S1 ∧ ∃ ts, trees S1 ds = some ts ∧ ft (ts.map .t) (frzS S1) (fun d S2 => S2 = frzS S1 ∧ ∃ v, d = .t (.v v) ∧ Q d S1) fun _ => False := rfl
theorem trees_cons {S : Store} {d : D} {ds : List D} {t : T} {ts : List T} (h : d.tree S = some t) (h2 : trees S ds = some ts) : trees S (d :: ds) = some (t :: ts) := by unfold trees; rw [h, h2]
end DL
set_option Elab.async false
set_option linter.all false
set_option maxRecDepth 100000
/-! DL14: the stream of draws, opened and shut -/
namespace DL
open PySem PySem.Spec PyProof.Rows L2

def bigI : Nat := 2 ^ 1048576
structure StrmB (ns : List Int) (x y z : Int) (b : Nat) : Prop where
  ns : ∀ n ∈ ns, n.natAbs < 2 ^ 1048576
  x0 : 0 ≤ x
  x1 : x.natAbs < 2 ^ 1048576
  y0 : 0 ≤ y
  y1 : y + b ≤ 2 ^ 40
  z0 : 0 ≤ z
  z1 : z < 2 ^ 31
/-- the stream as two lists -/
def openS (S : Store) (ns : List Int) (x y z : Int) : Store := (S.set 0 (.lst (ns.map .int))).set 1 (.lst [.m 0, .int x, .int y, .int z])
section
variable {CT : TTs} {as : List Addr} {S S' : Store} {H : Hp}
theorem live_eq (h1 : S'.length = S.length) (h2 : ∀ (i : Nat) c c', S[i]? = some c → S'[i]? = some c' → (c.lives ↔ c'.lives)) (a : Addr) : Live as S' a ↔ Live as S a := by
  constructor
  · rintro ⟨i, c, e1, e2, l⟩
    have hi : i < S.length := by rw [← h1]; exact (List.getElem?_eq_some_iff.mp e2).1
    exact ⟨i, S[i], e1, List.getElem?_eq_getElem hi, (h2 i _ _ (List.getElem?_eq_getElem hi) e2).mpr l⟩
  · rintro ⟨i, c, e1, e2, l⟩
    have hi : i < S'.length := by rw [h1]; exact (List.getElem?_eq_some_iff.mp e2).1
    exact ⟨i, S'[i], e1, List.getElem?_eq_getElem hi, (h2 i _ _ e2 (List.getElem?_eq_getElem hi)).mp l⟩
/-- the same heap, other words for it -/
theorem StOk.recell (st : StOk CT as S H) (h1 : S'.length = S.length) (h2 : ∀ (i : Nat) c c', S[i]? = some c → S'[i]? = some c' → (c.lives ↔ c'.lives))
    (h3 : ∀ (i : Nat) a c', as[i]? = some a → S'[i]? = some c' → (∃ c, S[i]? = some c ∧ c = c') ∨ CellOk as (Live as S') H a c') : StOk CT as S' H where
  tab := st.tab
  len := by rw [h1]; exact st.len
  nd := st.nd
  there := st.there
  cell := fun i a c' e1 e2 => by
    rcases h3 i a c' e1 e2 with ⟨c, e3, e4⟩ | h
    · subst e4
      have ok := st.cell i a c e1 e3
      exact CellOk.ext (weakE fun a l => (live_eq h1 h2 a).mp l) (fun _ _ h => h) c (fun o h _ => h) ok
    · exact h
theorem on_eq {as' : List Addr} {S1 S1' S2 S2' : Store} {H' : Hp} (o : On as S1 H as' S2 H') (h1 : ∀ a, Live as S1' a ↔ Live as S1 a) (h2 : ∀ a, Live as' S2' a ↔ Live as' S2 a) : On as S1' H as' S2' H' :=
  ⟨⟨fun b u e n t => o.ext.keep b u e (fun l => n ((h1 b).mpr l)) t, fun b l => (o.ext.live b ((h2 b).mp l)).imp (fun l => (h1 b).mpr l) id, o.ext.dom⟩, o.pre⟩
theorem openS_get {ns : List Int} {x y z : Int} {i : Nat} (h0 : 2 ≤ S.length) : (openS S ns x y z)[i]? = if i = 0 then some (.lst (ns.map .int)) else if i = 1 then some (.lst [.m 0, .int x, .int y, .int z]) else S[i]? := by
  unfold openS
  by_cases e0 : i = 0
  · subst e0
    rw [if_pos rfl, List.getElem?_set_ne (by omega), List.getElem?_set_self (by omega)]
  · rw [if_neg e0]
    by_cases e1 : i = 1
    · subst e1
      rw [if_pos rfl, List.getElem?_set_self (by simp; omega)]
    · rw [if_neg e1, List.getElem?_set_ne (by omega), List.getElem?_set_ne (by omega)]
theorem openS_len {ns : List Int} {x y z : Int} : (openS S ns x y z).length = S.length := by unfold openS; simp
theorem strm_len {b : Nat} (e1 : S[1]? = some (.strm b)) : 2 ≤ S.length := by
  have := (List.getElem?_eq_some_iff.mp e1).1
  omega
theorem open_lives {b : Nat} (e0 : S[0]? = some .strmI) (e1 : S[1]? = some (.strm b)) {ns : List Int} {x y z : Int} (i : Nat) (c c' : Cell) (h1 : S[i]? = some c) (h2 : (openS S ns x y z)[i]? = some c') : c.lives ↔ c'.lives := by
  rw [openS_get (strm_len e1)] at h2
  by_cases hi0 : i = 0
  · rw [if_pos hi0] at h2
    subst hi0
    rw [e0] at h1
    cases h1; cases h2
    exact ⟨fun _ => True.intro, fun _ => True.intro⟩
  · rw [if_neg hi0] at h2
    by_cases hi1 : i = 1
    · rw [if_pos hi1] at h2
      subst hi1
      rw [e1] at h1
      cases h1; cases h2
      exact ⟨fun _ => True.intro, fun _ => True.intro⟩
    · rw [if_neg hi1] at h2
      rw [h1] at h2
      cases h2
      exact Iff.rfl
theorem repDs_ints {L : Addr → Prop} : ∀ {ns : List Int}, RepDs as L H (ns.map D.int) (ns.map V.int)
  | [] => .nil
  | n :: ns => .cons rfl repDs_ints
theorem strm_open {b : Nat} (st : StOk CT as S H) (e0 : S[0]? = some .strmI) (e1 : S[1]? = some (.strm b)) : ∃ ns x y z, StrmB ns x y z b ∧ StOk CT as (openS S ns x y z) H := by
  obtain ⟨a0, ha0, ok0⟩ := st.addr e0
  obtain ⟨a1, ha1, ok1⟩ := st.addr e1
  obtain ⟨ns, h1, h2⟩ := ok0
  obtain ⟨c, x, y, z, h3, h4, h5, h6, h7, h8, h9, h10⟩ := ok1
  rw [ha0] at h3
  cases h3
  refine ⟨ns, x, y, z, ⟨h2, h5, h6, h7, h8, h9, h10⟩, ?_⟩
  refine StOk.recell st openS_len (open_lives e0 e1) fun i a c' ha hc => ?_
  rw [openS_get (strm_len e1)] at hc
  by_cases hi0 : i = 0
  · rw [if_pos hi0] at hc
    subst hi0
    rw [ha0] at ha
    cases ha; cases hc
    exact .inr ⟨_, h1, repDs_ints⟩
  · rw [if_neg hi0] at hc
    by_cases hi1 : i = 1
    · rw [if_pos hi1] at hc
      subst hi1
      rw [ha1] at ha
      cases ha; cases hc
      exact .inr ⟨_, h4, .cons ⟨_, ha0, rfl⟩ (.cons rfl (.cons rfl (.cons rfl .nil)))⟩
    · rw [if_neg hi1] at hc
      exact .inl ⟨c', hc, rfl⟩
theorem repDs_ints' {L : Addr → Prop} {ns : List Int} {xs : List V} (r : RepDs as L H (ns.map D.int) xs) : xs = ns.map V.int := repDs_int r
theorem strm_shut {b b' : Nat} {ns : List Int} {x y z : Int} (e0 : S[0]? = some .strmI) (e1 : S[1]? = some (.strm b)) (st : StOk CT as (openS S ns x y z) H) (sb : StrmB ns x y z b') : StOk CT as (S.set 1 (.strm b')) H := by
  have hl := strm_len e1
  have g0 : (openS S ns x y z)[0]? = some (.lst (ns.map .int)) := by rw [openS_get hl, if_pos rfl]
  have g1 : (openS S ns x y z)[1]? = some (.lst [.m 0, .int x, .int y, .int z]) := by rw [openS_get hl, if_neg (by omega), if_pos rfl]
  obtain ⟨a0, ha0, xs, h1, h2⟩ := st.addr g0
  obtain ⟨a1, ha1, ys, h3, h4⟩ := st.addr g1
  refine StOk.recell st (by rw [openS_len]; simp) (fun i c c' hc hc' => ?_) fun i a c' ha hc => ?_
  · by_cases hi1 : i = 1
    · subst hi1
      rw [List.getElem?_set_self (by omega)] at hc'
      rw [g1] at hc
      cases hc; cases hc'
      exact ⟨fun _ => True.intro, fun _ => True.intro⟩
    · rw [List.getElem?_set_ne (by omega)] at hc'
      exact (open_lives e0 e1 i c' c hc' hc).symm
  · by_cases hi1 : i = 1
    · subst hi1
      rw [List.getElem?_set_self (by omega)] at hc
      rw [ha1] at ha
      cases ha; cases hc
      refine .inr ?_
      cases h4 with
      | cons r1 h5 =>
        cases h5 with
        | cons r2 h6 =>
          cases h6 with
          | cons r3 h7 =>
            cases h7 with
            | cons r4 h8 =>
              cases h8
              obtain ⟨a0', h9, e⟩ := r1
              rw [ha0] at h9
              cases h9
              obtain rfl := e
              obtain rfl := (show _ = V.int x from r2)
              obtain rfl := (show _ = V.int y from r3)
              obtain rfl := (show _ = V.int z from r4)
              exact ⟨_, x, y, z, ha0, h3, sb.x0, sb.x1, sb.y0, sb.y1, sb.z0, sb.z1⟩
    · rw [List.getElem?_set_ne (by omega)] at hc
      by_cases hi0 : i = 0
      · subst hi0
        rw [e0] at hc
        cases hc
        rw [ha0] at ha
        cases ha
        rw [repDs_ints' h2] at h1
        exact .inr ⟨ns, h1, sb.ns⟩
      · refine .inl ⟨c', ?_, rfl⟩
        rw [openS_get hl, if_neg hi0, if_neg hi1]
        exact hc
/-- a draw, the stream open -/
def ftDrawO : FT := fun ds S Q _ => ∃ (S0 : Store) (ns : List Int) (x y z many : Int) (b : Nat), ds = [.m 1, .int many] ∧ 1 ≤ many ∧ many < 2 ^ 62 ∧ S = openS S0 ns x y z ∧ S0[0]? = some .strmI ∧ S0[1]? = some (.strm (b + 1)) ∧ StrmB ns x y z (b + 1) ∧
  ∀ (k : Int) ns' x' y' z', 0 ≤ k → k < many → StrmB ns' x' y' z' b → Q (.int k) (openS S0 ns' x' y' z')
/-- a draw -/
def ftDraw : FT := fun ds S Q _ => ∃ (many : Int) (b : Nat), ds = [.m 1, .int many] ∧ 1 ≤ many ∧ many < 2 ^ 62 ∧ S[0]? = some .strmI ∧ S[1]? = some (.strm (b + 1)) ∧ ∀ k : Int, 0 ≤ k → k < many → Q (.int k) (S.set 1 (.strm b))
theorem draw_imp {vs : List V} {Q : VK} {E : XK} (h : spD CT 2 ftDraw vs H Q E) : spD CT 2 ftDrawO vs H Q E := by
  obtain ⟨as, S, ds, Qd, Ed, st, r, hl, ⟨many, b, rfl, h1, h2, e0, e1, hq⟩, kq, kx⟩ := h
  obtain ⟨ns, x, y, z, sb, st2⟩ := strm_open st e0 e1
  have lv : ∀ {as : List Addr} {ns x y z} (a : Addr), Live as (openS S ns x y z) a ↔ Live as S a := fun {as ns x y z} a => live_eq openS_len (open_lives e0 e1) a
  have lv2 : ∀ {as : List Addr} (a : Addr), Live as (S.set 1 (.strm b)) a ↔ Live as S a := fun {as} a => live_eq (by simp) (fun i c c' hc hc' => by
    by_cases hi1 : i = 1
    · subst hi1
      rw [List.getElem?_set_self (by have := strm_len e1; omega)] at hc'
      rw [e1] at hc
      cases hc; cases hc'
      exact ⟨fun _ => True.intro, fun _ => True.intro⟩
    · rw [List.getElem?_set_ne (by omega), hc] at hc'
      cases hc'
      exact Iff.rfl) a
  have rr : RepDs as (Live as (openS S ns x y z)) H [.m 1, .int many] vs := by
    cases r with
    | cons r1 r2 => cases r2 with
      | cons r3 r4 => cases r4; exact .cons r1 (.cons r3 .nil)
  refine ⟨as, openS S ns x y z, _, fun d S' => ∃ (k : Int) (ns' : List Int) (x' y' z' : Int), d = .int k ∧ 0 ≤ k ∧ k < many ∧ S' = openS S ns' x' y' z' ∧ StrmB ns' x' y' z' b, fun _ => False, st2, rr, rfl, ⟨S, ns, x, y, z, many, b, rfl, h1, h2, rfl, e0, e1, sb, fun k ns' x' y' z' hk hk2 sb' => ⟨k, ns', x', y', z', rfl, hk, hk2, rfl, sb'⟩⟩, ?_, fun H' C dx fs ts o st' hx rf q => q.elim⟩
  rintro as' S' H' d v o st' rd ⟨k, ns', x', y', z', rfl, hk, hk2, rfl, sb'⟩
  have o2 : On as S H as' (S.set 1 (.strm b)) H' := on_eq o (fun a => (lv a).symm) (fun a => (lv2 a).trans (lv a).symm)
  obtain rfl : v = .int k := rd
  exact kq as' _ H' (.int k) (.int k) o2 (strm_shut e0 e1 st' sb') rfl (hq k hk hk2)
end
end DL
set_option Elab.async false
set_option linter.all false
set_option maxRecDepth 100000
/-! DL15: more words run by simp; cells -/
namespace DL
open PySem PySem.Spec PyProof.Rows L2

section
variable {X : XQ} {ρ : Env} {S : Store} {De : DEnds} {Q : D → Store → Prop}
@[simp] theorem cInt_i {i : Int} : cInt [.t (.v (.int i))] S Q = Q (.int i) S := by
  apply propext
  constructor
  · rintro ⟨j, h, q⟩; cases h; exact q
  · exact fun q => ⟨i, rfl, q⟩
@[simp] theorem cAbs_i {i : Int} : cAbs [.t (.v (.int i))] S Q = Q (.int (if i < 0 then -i else i)) S := by
  apply propext
  constructor
  · rintro ⟨j, h, q⟩; cases h; exact q
  · exact fun q => ⟨i, rfl, q⟩
@[simp] theorem cInt2_i {g : Int → Int → Int} {i j : Int} : cInt2 g [.t (.v (.int i)), .t (.v (.int j))] S Q = Q (.int (g i j)) S := by
  apply propext
  constructor
  · rintro ⟨a, b, h, q⟩; cases h; exact q
  · exact fun q => ⟨i, j, rfl, q⟩
@[simp] theorem uI_i {g : Int → V} {i : Int} : uI g (.t (.v (.int i))) S Q = Q (.t (.v (g i))) S := by
  apply propext
  constructor
  · rintro ⟨j, h, q⟩; cases h; exact q
  · exact fun q => ⟨i, rfl, q⟩
@[simp] theorem oMul_ii {i j : Int} : oMul (.t (.v (.int i))) (.t (.v (.int j))) S Q = (CMulW i j ∧ Q (.int (i * j)) S) := by
  apply propext
  constructor
  · rintro (h | ⟨xs, k, ts, h, _⟩)
    · rwa [oI_e] at h
    · cases h
  · exact fun q => .inl (by rwa [oI_e])
@[simp] theorem oIsN_v {neg : Bool} {v : V} : oIsN neg (.t (.v v)) (.t (.v .non)) S Q = Q (.bl (if neg then !decide (v = .non) else decide (v = .non))) S := by
  apply propext
  constructor
  · rintro ⟨_, ⟨w, h, q⟩ | ⟨t, h, h2, q⟩ | ⟨i, h, q⟩⟩
    · cases h; exact q
    · cases h; exact absurd rfl (h2 v)
    · cases h
  · exact fun q => ⟨rfl, .inl ⟨v, rfl, q⟩⟩
theorem oIsN_t {neg : Bool} {t : T} (h : ∀ v, t ≠ .v v) : oIsN neg (.t t) (.t (.v .non)) S Q = Q (.bl neg) S := by
  apply propext
  constructor
  · rintro ⟨_, ⟨w, h', q⟩ | ⟨t, h', h2, q⟩ | ⟨i, h', q⟩⟩
    · cases h'; exact absurd rfl (h w)
    · cases h'; exact q
    · cases h'
  · exact fun q => ⟨rfl, .inr (.inl ⟨t, rfl, h, q⟩)⟩
@[simp] theorem oIsN_l {neg : Bool} {ts : List T} : oIsN neg (.t (.lst ts)) (.t (.v .non)) S Q = Q (.bl neg) S := oIsN_t (fun _ h => nomatch h)
@[simp] theorem oIsN_tp {neg : Bool} {ts : List T} : oIsN neg (.t (.tup ts)) (.t (.v .non)) S Q = Q (.bl neg) S := oIsN_t (fun _ h => nomatch h)
/-! ### cells -/
def subI (o x d : D) (S : Store) (Q : Store → Prop) : Prop := ∃ i ds k j, o = .m i ∧ x = .int k ∧ S[i]? = some (.lst ds) ∧ ixN ds.length k = some j ∧ Q (S.set i (.lst (ds.set j d)))
@[simp] theorem gSubD_e {to ti : TED} {d : D} {Q : Env → Store → Prop} : gSubD to ti d X ρ S Q = to X ρ S fun o S1 => ti X ρ S1 fun x S2 => subI o x d S2 fun S3 => Q ρ S3 := by
  rfl
theorem subI_of {i : Nat} {ds : List D} {k : Int} {j : Nat} {d : D} {Q : Store → Prop} (h : S[i]? = some (.lst ds)) (hk : ixN ds.length k = some j) (q : Q (S.set i (.lst (ds.set j d)))) : subI (.m i) (.t (.v (.int k))) d S Q := ⟨i, ds, k, j, rfl, rfl, h, hk, q⟩
theorem seqL_m {i : Nat} {ds : List D} (h : S[i]? = some (.lst ds)) : seqL S (.m i) = some ds := by show (S[i]?).bind cellL = some ds; rw [h]; rfl
theorem seqA_m {i : Nat} {ds : List D} (h : S[i]? = some (.lst ds)) : seqA S (.m i) = some ds := by unfold seqA; rw [seqL_m h]
theorem oIx_m {x : D} {ds : List D} {k : Int} {d : D} (h : seqA S x = some ds) (hk : atI ds k = some d) (q : Q d S) : oIx x (.t (.v (.int k))) S Q := ⟨ds, k, d, h, rfl, hk, q⟩
theorem oIx_me {x : D} {ds : List D} {k : Int} {d : D} (h : seqA S x = some ds) (hk : atI ds k = some d) : oIx x (.t (.v (.int k))) S Q = Q d S := by
  apply propext
  constructor
  · rintro ⟨ds', k', d', h1, h2, h3, q⟩
    cases h2
    rw [h] at h1; cases h1
    rw [hk] at h3; cases h3
    exact q
  · exact fun q => oIx_m h hk q
theorem tyLst_m {i : Nat} {ds : List D} (h : S[i]? = some (.lst ds)) : tyLst (.m i) S := ⟨ds, seqL_m h⟩
theorem append_of {i : Nat} {xs : List D} {y : D} (h : S[i]? = some (.lst xs)) (hl : xs.length < sizeLine) (q : Q .non (S.set i (.lst (xs ++ [y])))) : mAppend (.m i) [y] S Q := ⟨i, xs, y, rfl, rfl, h, hl, q⟩
theorem append_e {i : Nat} {xs : List D} {y : D} (h : S[i]? = some (.lst xs)) : mAppend (.m i) [y] S Q = (xs.length < sizeLine ∧ Q .non (S.set i (.lst (xs ++ [y])))) := by
  apply propext
  constructor
  · rintro ⟨i', xs', y', h1, h2, h3, h4, q⟩
    cases h1; cases h2
    rw [h] at h3; cases h3
    exact ⟨h4, q⟩
  · exact fun ⟨h1, q⟩ => append_of h h1 q
theorem popAt_of {i : Nat} {xs : List D} {k : Nat} {y : D} (h : S[i]? = some (.lst xs)) (hk : (k : Int) < 2 ^ 63) (hy : xs[k]? = some y) (q : Q y (S.set i (.lst (xs.eraseIdx k)))) : mPopAt (.m i) [.t (.v (.int (k : Int)))] S Q :=
  ⟨i, xs, k, k, y, rfl, rfl, h, by omega, hk, (ixN_seq (by
    have := (List.getElem?_eq_some_iff.mp hy).1
    unfold ixN
    rw [if_pos (by omega), if_pos (by omega)]; simp)).1, hy, q⟩
theorem cLen_m {i : Nat} {ds : List D} (h : S[i]? = some (.lst ds)) : cLen [.m i] S Q = Q (.int ds.length) S := by
  apply propext
  constructor
  · rintro ⟨d, h1, ⟨xs, h2, q⟩ | ⟨x, h2, _⟩⟩
    · cases h1
      rw [seqA_m h] at h2
      cases h2
      exact q
    · cases h1; cases h2
  · exact fun q => ⟨_, rfl, .inl ⟨_, seqA_m h, q⟩⟩
theorem get_end {c : Cell} {n : Nat} (h : n = S.length) : (S ++ [c])[n]? = some c := by subst h; rw [List.getElem?_append_right (Nat.le_refl _)]; simp
end
end DL
set_option Elab.async false
set_option linter.all false
set_option maxRecDepth 100000
/-! DL16: == and != of instances whose class has an __eq__ of its own -/
namespace DL
open PySem PySem.Spec PyProof.Rows L2

section
variable {prog : Program} {w : World} {A : Around} {E : Value → Shared → Prop} {s : Shared} {K : PySem.W.Frag} {x C f : Addr} {ox : Obj} {od : Option Obj} {name : Str} {b tb : Value}
/-- a special name that the class has of object's -/
theorem ifBound_B {id : String} {args : List Value} {Q : Option Value → Shared → Prop} (S : PySem.Slot "object" name id) (X : K.In s.heap) (I : PySem.W.InstAt s.heap x ox C od) (hs : PySem.W.findIn K (.ref C) name = some (some (.builtin id)))
    (h : wpAny (model prog w) A (call (.builtin id) (.ref x :: args)) (fun v => Q (some v)) E s) : wpAny (model prog w) A (callSpecialIfBound? (.ref x) name args) Q E s := by
  simp only [callSpecialIfBound?, bindSpecialIfBound?]
  refine wpAny_holding (wpAny_bind (wpAny_bind (wpAny_bind (I.type.here ((PySem.W.looks_findIn X hs).here ?_)))))
  simp only [S.bind]
  refine wpAny_bind (wpAny_askSetting (wpAny_ite ?_))
  have fin : wpAny (model prog w) A (call (.builtin id) ([.ref x] ++ args) >>= fun v => pure (some v)) Q E s := wpAny_bind (wpAny_mono h (fun v s' h' => wpAny_pure h') fun _ _ h' => h')
  split
  · exact wpAny_bind (wpAny_pure (wpAny_pure fin))
  · exact wpAny_tryCatch (wpAny_bind (wpAny_pure (wpAny_pure fin)))
theorem check_ne {Q : Unit → Shared → Prop} (X : K.In s.heap) (I : PySem.W.InstAt s.heap x ox C od) (ho : PySem.W.subIn K (.ref C) (.type "object") = some true) (h : Q () s) : wpAny (model prog w) A (checkBuiltinCall "object.__ne__" ⟨[.ref x, b], []⟩) Q E s := by
  simp only [checkBuiltinCall, F.cmpKind_ne, F.cmpSplit_ne]
  refine wpAny_bind ?_
  unfold isInstance
  refine wpAny_bind (I.type.here ((PySem.W.looks_subIn X ho).here ?_))
  have ha := F.cmpArgs_ne (.ref x) b
  cases hsig : Manifest.signature? "object.__ne__" with
  | none => exact wpAny_pure h
  | some sig =>
    simp only [argsOk, hsig] at ha
    have h2 : Bind.checkArgs "object.__ne__" sig ⟨[.ref x, b], []⟩ = pure () := ha
    show wpAny _ A (Bind.checkArgs "object.__ne__" sig ⟨[.ref x, b], []⟩) Q E s
    rw [h2]; exact wpAny_pure h
theorem call_ne {Q : Value → Shared → Prop} (hu : A.units + 1 < cLine) (X : K.In s.heap) (I : PySem.W.InstAt s.heap x ox C od) (ho : PySem.W.subIn K (.ref C) (.type "object") = some true) (he : PySem.W.findIn K (.ref C) "__eq__" = some (some (.ref f))) (hf : PySem.W.isFn K (.ref f) = true)
    (h : wpAny (model prog w) A.in1 (call (.ref f) [.ref x, b]) (fun v s' => ∃ c, v = .bool c ∧ Q (.bool (!c)) s') E s) : wpAny (model prog w) A (call (.builtin "object.__ne__") [.ref x, b]) Q E s := by
  refine wpAny_call (codeAny_call_builtin F.cmp_object.ne.plain F.cmpEntry_ne (check_ne X I ho ?_))
  unfold Builtin.«object.__ne__»
  refine wpAny_bind (wpAny_of_eq (a := ((.ref x : Value), [b])) rfl ?_)
  refine wpAny_bind (wpAny_cRoomFor hu ?_)
  refine wpAny_bind (PySem.W.ifBound_K X I he hf (wpAny_mono h (fun v s' z => ?_) fun _ _ x => x))
  obtain ⟨c, rfl, q⟩ := z
  exact wpAny_bind (wpAny_truthy_bool (wpAny_pure q))
theorem cmp_ne {Q : Value → Shared → Prop} (hu : A.units + 1 < cLine) (X : K.In s.heap) (I : PySem.W.InstAt s.heap x ox C od) (hb : PySem.W.Looks (model prog w) s.heap (typeOf b) tb) (hn : PySem.W.notFirst K C tb = true) (ho : PySem.W.subIn K (.ref C) (.type "object") = some true)
    (he : PySem.W.findIn K (.ref C) "__eq__" = some (some (.ref f))) (hne : PySem.W.findIn K (.ref C) "__ne__" = some (some (.builtin "object.__ne__"))) (hf : PySem.W.isFn K (.ref f) = true)
    (h : wpAny (model prog w) A.in1 (call (.ref f) [.ref x, b]) (fun v s' => ∃ c, v = .bool c ∧ Q (.bool (!c)) s') E s) : wpAny (model prog w) A (richCompare .NotEq (.ref x) b) Q E s := by
  have one : wpAny (model prog w) A (tryCompare (.ref x) (cmpInfo .NotEq).2.1 b) (fun r s' => ∃ v, r = some v ∧ Q v s') E s := by
    unfold tryCompare
    refine wpAny_bind (ifBound_B F.cmp_object.ne X I hne (wpAny_mono (call_ne (Q := fun v s' => ∃ c, v = .bool c ∧ Q v s') hu X I ho he hf (wpAny_mono h (fun v s' z => ?_) fun _ _ x => x)) (fun v s' z => ?_) fun _ _ x => x))
    · obtain ⟨c, rfl, q⟩ := z
      exact ⟨c, rfl, !c, rfl, q⟩
    · obtain ⟨c, rfl, q⟩ := z
      exact wpAny_pure ⟨_, rfl, q⟩
  unfold richCompare
  simp only [oneThing_ref]
  refine wpAny_holding (wpAny_bind (wpAny_cRoomFor (Nat.lt_of_succ_lt hu) ?_))
  refine wpAny_bind (I.type.here (wpAny_bind (hb.here ?_)))
  split
  · rename_i q
    have e : PySem.W.subIn K tb (.ref C) = some false := by
      rcases Bool.or_eq_true_iff.mp hn with e | e
      · rw [beq_iff_eq.mp e] at q; simp at q
      · exact beq_iff_eq.mp e
    refine wpAny_bind ((PySem.W.looks_subIn X e).here ?_)
    simp only [Bool.false_eq_true, if_false]
    refine wpAny_bind (wpAny_mono one (fun r s' z => ?_) fun _ _ e => e)
    obtain ⟨v, rfl, hq⟩ := z
    exact wpAny_pure hq
  · refine wpAny_bind (wpAny_pure ?_)
    simp only [Bool.false_eq_true, if_false]
    refine wpAny_bind (wpAny_mono one (fun r s' z => ?_) fun _ _ e => e)
    obtain ⟨v, rfl, hq⟩ := z
    exact wpAny_pure hq
end
/-- what the text gives of a class with an __eq__ of its own -/
structure EqC (K : PySem.W.Frag) (C : Addr) : Prop where
  ob : PySem.W.subIn K (.ref C) (.type "object") = some true
  ne : PySem.W.findIn K (.ref C) "__ne__" = some (some (.builtin "object.__ne__"))
  nf : ∀ n ∈ (["NoneType", "int", "bool", "str", "list", "tuple", "dict"] : List String), PySem.W.subIn K (.type n) (.ref C) = some false
theorem okIn_of {C : Addr} {Cs : CF} {ty : Ty} (hC : C ∈ Cs) (h : ∀ D, ty = .own D → D = C) (hf : ∀ a, ty ≠ .fn a) : ty.okIn Cs := by
  cases ty with
  | own D => rw [h D rfl]; exact hC
  | fn a => exact absurd rfl (hf a)
  | _ => exact True.intro
theorem EqC.first {K : PySem.W.Frag} {C : Addr} (h : EqC K C) {ty : Ty} (ht : ∀ D, ty = .own D → D = C) (hf : ∀ a, ty ≠ .fn a) : PySem.W.notFirst K C ty.val = true := by
  unfold PySem.W.notFirst
  cases ty with
  | fn a => exact absurd rfl (hf a)
  | own D => rw [ht D rfl]; simp [Ty.val]
  | non => exact Bool.or_eq_true_iff.mpr (.inr (beq_iff_eq.mpr (h.nf "NoneType" (by simp))))
  | bool => exact Bool.or_eq_true_iff.mpr (.inr (beq_iff_eq.mpr (h.nf "bool" (by simp))))
  | int => exact Bool.or_eq_true_iff.mpr (.inr (beq_iff_eq.mpr (h.nf "int" (by simp))))
  | str => exact Bool.or_eq_true_iff.mpr (.inr (beq_iff_eq.mpr (h.nf "str" (by simp))))
  | list => exact Bool.or_eq_true_iff.mpr (.inr (beq_iff_eq.mpr (h.nf "list" (by simp))))
  | tuple => exact Bool.or_eq_true_iff.mpr (.inr (beq_iff_eq.mpr (h.nf "tuple" (by simp))))
  | dict => exact Bool.or_eq_true_iff.mpr (.inr (beq_iff_eq.mpr (h.nf "dict" (by simp))))
section
variable {X : Cx} {C f : Addr} {k : Nat} {fd : FuncData} {ps : List Str} {sp : Sp} {E : XK}
def rOwnEq (K : PySem.W.Frag) (C : Addr) (sp : Sp) (E : XK) : R2 := fun x y H Q => ∃ a dx fs t, x = .ref a ∧ H a = some (.ins C dx fs) ∧ TyX K H y t ∧ PySem.W.notFirst K C t = true ∧ sp [x, y] H (fun v H' => ∃ c, v = .bl c ∧ Q (.bl c) H') E
def rOwnNe (K : PySem.W.Frag) (C : Addr) (sp : Sp) (E : XK) : R2 := fun x y H Q => ∃ a dx fs t, x = .ref a ∧ H a = some (.ins C dx fs) ∧ TyX K H y t ∧ PySem.W.notFirst K C t = true ∧ sp [x, y] H (fun v H' => ∃ c, v = .bl c ∧ Q (.bl (!c)) H') E
theorem op_ownEq (F : FnOk X.prog X.w X.K X.mg X.base (L2.CX X.prog X.w) k f fd ps sp) (hr : Room k X.A) (hb : Binds X.K fd ps []) (hx : Passes (L2.CX X.prog X.w) X E) (hm : Meth X.K C "__eq__" f) : OpR X (compareOp .Eq) (rOwnEq X.K C sp E) := by
  intro pins s σ H x y v u Q I rx ry h
  obtain ⟨a, dx, fs, t, rfl, ha, ty, hn, q⟩ := h
  cases (show v = Value.ref a from rx)
  obtain ⟨mA, O, _⟩ := ins_get I.hok ha
  obtain ⟨od, J, _⟩ := O.look
  obtain ⟨P, Z, p, _⟩ := kit_of I ry ty
  obtain ⟨m, hF⟩ := I.fr
  show wpAny _ _ (richCompare .Eq (.ref a) u) _ _ _
  refine PySem.W.cmp_K (op := .Eq) (tb := t) hr.units0 hF I.ok.mod.kin J (Z.ty _ _ I.kIn p) hn hm.at_ hm.fn ?_
  refine wpAny_mono (run_fn (us := [.ref a, u]) (vs := [.ref a, y]) F hr hb .nil hx I (.cons rfl (.cons ry .nil)) q) (fun w s' z => ?_) fun _ _ x => x
  obtain ⟨z', H', I', rz, c, rfl, qz⟩ := z
  cases (show w = Value.bool c from rz)
  exact ⟨.bl c, H', I', rfl, qz⟩
theorem op_ownNe (F : FnOk X.prog X.w X.K X.mg X.base (L2.CX X.prog X.w) k f fd ps sp) (hr : Room (k + 1) X.A) (hb : Binds X.K fd ps []) (hx : Passes (L2.CX X.prog X.w) X E) (hm : Meth X.K C "__eq__" f) (hC : EqC X.K C) : OpR X (compareOp .NotEq) (rOwnNe X.K C sp E) := by
  intro pins s σ H x y v u Q I rx ry h
  obtain ⟨a, dx, fs, t, rfl, ha, ty, hn, q⟩ := h
  cases (show v = Value.ref a from rx)
  obtain ⟨mA, O, _⟩ := ins_get I.hok ha
  obtain ⟨od, J, _⟩ := O.look
  obtain ⟨P, Z, p, _⟩ := kit_of I ry ty
  show wpAny _ _ (richCompare .NotEq (.ref a) u) _ _ _
  refine cmp_ne (tb := t) (by have := hr.un; omega) I.kIn J (Z.ty _ _ I.kIn p) hn hC.ob hm.at_ hC.ne hm.fn ?_
  have r2 : Vals [V.ref a, y] [Value.ref a, u] := .cons rfl (.cons ry .nil)
  have hl : ([Value.ref a, u] ++ ([] : List Value)).length = ps.length := by
    have := F.len _ _ _ _ q
    simpa using this
  refine wpAny_call (codeAny_mono (F.run X.A.in1 X.stack s H ⟨[.ref a, u], []⟩ ([.ref a, u] ++ []) [.ref a, y] _ E hr.in1 I.env0.in1 (hb s [.ref a, u] I.kIn hl) r2 q) fun r s' hq => ?_)
  cases r with
  | error e => exact hx pins σ H s e s' I hq
  | ok fl =>
    cases fl with
    | ret w =>
      obtain ⟨z', H', I', rz, c, rfl, qz⟩ := I.after hq
      cases (show w = Value.bool c from rz)
      exact ⟨c, rfl, .bl (!c), H', I', rfl, qz⟩
    | next => exact False.elim hq
    | brk => exact False.elim hq
    | cont => exact False.elim hq
end
/-- x == y by the class's own __eq__ -/
def oEqO (neg : Bool) (C : Addr) (ft : FT) : R2D := fun x y S Q => ∃ fs ty, insOf S x = some (C, fs) ∧ tyD S y = some ty ∧ ((∀ D, ty = .own D → D = C) ∧ ∀ a, ty ≠ .fn a) ∧ ft [x, y] S (fun d S' => ∃ c, d = .bl c ∧ Q (.bl (if neg then !c else c)) S') fun _ => False
section
variable {CT : TTs} {K : PySem.W.Frag} {C : Addr} {Cs : CF} {ft : FT} {E : XK}
theorem br_ownEq (hk : OwnOk K Cs) (hC : C ∈ Cs) (hE : EqC K C) : Br2 CT (rOwnEq K C (spD CT 2 ft) E) (oEqO false C ft) := fun as S H x y dx dy Qd Q st rx ry ⟨fs, ty, e1, e2, e3, q⟩ k => by
  obtain ⟨a, dd, xs, rfl, h1, h2⟩ := insOf_ok st rx e1
  refine ⟨a, dd, xs, ty.val, rfl, h1, tyOf_X hk st ry e2 (okIn_of hC e3.1 e3.2) e3.2, hE.first e3.1 e3.2, as, S, [dx, dy], _, _, st, .cons rx (.cons ry .nil), rfl, q, fun as' S' H' d y' o st' r ⟨c, e, q'⟩ => ?_, fun H' C' dx' fs' ts o st' hx rf q => q.elim⟩
  subst e
  obtain rfl : y' = .bl c := r
  exact ⟨c, rfl, (k.on o).sc st' q'⟩
theorem br_ownNe (hk : OwnOk K Cs) (hC : C ∈ Cs) (hE : EqC K C) : Br2 CT (rOwnNe K C (spD CT 2 ft) E) (oEqO true C ft) := fun as S H x y dx dy Qd Q st rx ry ⟨fs, ty, e1, e2, e3, q⟩ k => by
  obtain ⟨a, dd, xs, rfl, h1, h2⟩ := insOf_ok st rx e1
  refine ⟨a, dd, xs, ty.val, rfl, h1, tyOf_X hk st ry e2 (okIn_of hC e3.1 e3.2) e3.2, hE.first e3.1 e3.2, as, S, [dx, dy], _, _, st, .cons rx (.cons ry .nil), rfl, q, fun as' S' H' d y' o st' r ⟨c, e, q'⟩ => ?_, fun H' C' dx' fs' ts o st' hx rf q => q.elim⟩
  subst e
  obtain rfl : y' = .bl c := r
  exact ⟨c, rfl, (k.on o).sc st' q'⟩
end
section
variable {CT : TTs} {E : XK} {X : Cx} {a b : Expr} {ta tb : TED} {pos : Pos} {k : Nat} {C : Addr} {ps : List Str} {ft : FT} {Cs : CF}
theorem de_eqO (G : MtG CT X.prog X.w X.K X.mg X.base k C "__eq__" ps ft) (hr : Room (k + 1) X.A) (hx : Passes (L2.CX X.prog X.w) X E) (hk : OwnOk X.K Cs) (hC : C ∈ Cs) (hE : EqC X.K C) (ha : DE CT E X a ta) (hb : DE CT E X b tb) (h2 : ps.length = 2 := by rfl) : DE CT E X (.Compare a [.Eq] [b] pos) (dOp (oEqO false C ft) ta tb) := by
  obtain ⟨f, fd, F, hb2, c, hm⟩ := G.ex
  rw [h2] at F
  exact de_cmp (op_ownEq F (hr.mono (Nat.le_succ _)) hb2 hx hm) (br_ownEq hk hC hE) ha hb (nomark _)
theorem de_neO (G : MtG CT X.prog X.w X.K X.mg X.base k C "__eq__" ps ft) (hr : Room (k + 1) X.A) (hx : Passes (L2.CX X.prog X.w) X E) (hk : OwnOk X.K Cs) (hC : C ∈ Cs) (hE : EqC X.K C) (ha : DE CT E X a ta) (hb : DE CT E X b tb) (h2 : ps.length = 2 := by rfl) : DE CT E X (.Compare a [.NotEq] [b] pos) (dOp (oEqO true C ft) ta tb) := by
  obtain ⟨f, fd, F, hb2, c, hm⟩ := G.ex
  rw [h2] at F
  exact de_cmp (op_ownNe F hr hb2 hx hm hE) (br_ownNe hk hC hE) ha hb (nomark _)
theorem dt_eqO (G : MtG CT X.prog X.w X.K X.mg X.base k C "__eq__" ps ft) (hr : Room (k + 1) X.A) (hx : Passes (L2.CX X.prog X.w) X E) (hk : OwnOk X.K Cs) (hC : C ∈ Cs) (hE : EqC X.K C) (ha : DE CT E X a ta) (hb : DE CT E X b tb) (h2 : ps.length = 2 := by rfl) : DT CT E X (.Compare a [.Eq] [b] pos) (dB (dOp (oEqO false C ft) ta tb)) := by
  obtain ⟨f, fd, F, hb2, c, hm⟩ := G.ex
  rw [h2] at F
  exact dt_cmp (op_ownEq F (hr.mono (Nat.le_succ _)) hb2 hx hm) (br_ownEq hk hC hE) ha hb (nomark _)
theorem dt_neO (G : MtG CT X.prog X.w X.K X.mg X.base k C "__eq__" ps ft) (hr : Room (k + 1) X.A) (hx : Passes (L2.CX X.prog X.w) X E) (hk : OwnOk X.K Cs) (hC : C ∈ Cs) (hE : EqC X.K C) (ha : DE CT E X a ta) (hb : DE CT E X b tb) (h2 : ps.length = 2 := by rfl) : DT CT E X (.Compare a [.NotEq] [b] pos) (dB (dOp (oEqO true C ft) ta tb)) := by
  obtain ⟨f, fd, F, hb2, c, hm⟩ := G.ex
  rw [h2] at F
  exact dt_cmp (op_ownNe F hr hb2 hx hm hE) (br_ownNe hk hC hE) ha hb (nomark _)
end
end DL
set_option Elab.async false
set_option linter.all false
set_option maxRecDepth 100000
/-! DL17: list(range(..)), {}, classes called by keywords -/
namespace DL
open PySem PySem.Spec PyProof.Rows L2

section
variable {CT : TTs} {E : XK} {X : Cx} {p pos pos2 : Pos}
theorem rgV_rep {as : List Addr} {L : Addr → Prop} {H : Hp} {a b : Int} : RepDs as L H (dInts a (b - a).toNat) (rgV a b) := by
  unfold dInts rgV
  generalize List.range (b - a).toNat = l
  induction l with
  | nil => exact .nil
  | cons x l ih => exact .cons rfl ih
/-- list(range(n)): a cell -/
def dListRgM (t : TED) : TED := fun X ρ S Q => t X ρ S fun d S1 => ∃ n : Int, d = .int n ∧ 0 ≤ n ∧ n ≤ 16777216 ∧ Q (.m S1.length) (S1 ++ [.lst (dInts 0 n.toNat)])
def dListRg (t : TED) : TED := fun X ρ S Q => t X ρ S fun d S1 => ∃ n : Int, d = .int n ∧ 0 ≤ n ∧ n ≤ 16777216 ∧ Q (.t (.lst ((List.range n.toNat).map fun i : Nat => .int i))) S1
theorem dInts_as {n : Nat} : asTs (dInts 0 n) = some ((List.range n).map fun i : Nat => T.int i) := by
  rw [asTs_iff]
  simp [dInts]
theorem de_listRgM {a : Expr} {t : TED} (hc : X.calm = true) (hm : X.mg "list" = none) (hm2 : X.mg "range" = none) (ha : DE CT E X a t) (hg : Gl X "list" := by rfl) (hg2 : Gl X "range" := by rfl) (na : starEach [a] X.env = (false, eval a X.env) :: starEach [] X.env := by rfl)
    (nb : starEach [.Call (.Name "range" p) [a] [] pos] X.env = (false, eval (.Call (.Name "range" p) [a] [] pos) X.env) :: starEach [] X.env := by rfl) {p2 pos2 : Pos} : DE CT E X (.Call (.Name "list" p2) [.Call (.Name "range" p) [a] [] pos] [] pos2) (dListRgM t) :=
  .of (pe_listRg hc hg hm (prg_1 hg2 hm2 ha.pe na) nb) fun σ H as S ρ Xq Qd Q z q k => ⟨as, S, ρ, Xq, _, z, q, fun as1 S1 H1 d y o1 s1 r ⟨n, e, h0, h1, q1⟩ => by
    subst e
    obtain rfl : y = .int n := r
    refine ⟨n, rfl, RgOk.of_le (by omega) h1 (by omega) h0, fun l hl => ?_⟩
    have := rgV_rep (as := as1) (L := Live as1 S1) (H := H1) (a := 0) (b := n)
    rw [Int.sub_zero] at this
    exact new_cell s1 this (k.on o1) hl q1⟩
theorem de_listRg {a : Expr} {t : TED} (hc : X.calm = true) (hm : X.mg "list" = none) (hm2 : X.mg "range" = none) (ha : DE CT E X a t) (hg : Gl X "list" := by rfl) (hg2 : Gl X "range" := by rfl) (na : starEach [a] X.env = (false, eval a X.env) :: starEach [] X.env := by rfl)
    (nb : starEach [.Call (.Name "range" p) [a] [] pos] X.env = (false, eval (.Call (.Name "range" p) [a] [] pos) X.env) :: starEach [] X.env := by rfl) {p2 pos2 : Pos} : DE CT E X (.Call (.Name "list" p2) [.Call (.Name "range" p) [a] [] pos] [] pos2) (dListRg t) :=
  .of (pe_listRg hc hg hm (prg_1 hg2 hm2 ha.pe na) nb) fun σ H as S ρ Xq Qd Q z q k => ⟨as, S, ρ, Xq, _, z, q, fun as1 S1 H1 d y o1 s1 r ⟨n, e, h0, h1, q1⟩ => by
    subst e
    obtain rfl : y = .int n := r
    refine ⟨n, rfl, RgOk.of_le (by omega) h1 (by omega) h0, fun l hl => ?_⟩
    have := rgV_rep (as := as1) (L := Live as1 S1) (H := H1) (a := 0) (b := n)
    rw [Int.sub_zero] at this
    exact new_lst s1 (repL_of dInts_as this) (k.on o1) hl q1⟩
/-! ### {} -/
def dDct0 : TED := fun _ _ S Q => Q (.t (.dct [])) S
def dDct0M : TED := fun _ _ S Q => Q (.m S.length) (S ++ [.dct []])
theorem de_dct0 : DE CT E X (.Dict [] [] pos) dDct0 := .of pe_dnewK fun σ H as S ρ Xq Qd Q z q k => fun l hl => by
  obtain ⟨s1, o1⟩ := z.st.new (o := .dK []) hl
  exact k as S _ (.t (.dct [])) _ o1 s1 ⟨l, [], rfl, fun h => z.st.live_there h hl, upd_same, rfl⟩ q
theorem de_dct0M : DE CT E X (.Dict [] [] pos) dDct0M := .of pe_dnewK fun σ H as S ρ Xq Qd Q z q k => fun l hl => by
  obtain ⟨s1, o1⟩ := z.st.cellNew (c := .dct []) (o := .dK []) hl fun o => ⟨[], upd_same, .nil⟩
  exact k _ _ _ (.m S.length) _ o1 s1 ⟨l, by rw [← z.st.len, List.getElem?_append_right (Nat.le_refl _)]; simp, rfl⟩ q
end
@[simp] theorem dDct0_e {X : XQ} {ρ : Env} {S : Store} {Q} : dDct0 X ρ S Q = Q (.t (.dct [])) S := rfl
@[simp] theorem dDct0M_e {X : XQ} {ρ : Env} {S : Store} {Q} : dDct0M X ρ S Q = Q (.m S.length) (S ++ [.dct []]) := rfl
@[simp] theorem dListRgM_e {t : TED} {X : XQ} {ρ : Env} {S : Store} {Q} : dListRgM t X ρ S Q = t X ρ S fun d S1 => intI d S1 fun n S1 => 0 ≤ n ∧ n ≤ 16777216 ∧ Q (.m S1.length) (S1 ++ [.lst (dInts 0 n.toNat)]) := rfl
@[simp] theorem dListRg_e {t : TED} {X : XQ} {ρ : Env} {S : Store} {Q} : dListRg t X ρ S Q = t X ρ S fun d S1 => intI d S1 fun n S1 => 0 ≤ n ∧ n ≤ 16777216 ∧ Q (.t (.lst ((List.range n.toNat).map fun i : Nat => .int i))) S1 := rfl
/-! ### C(k = v, ..) -/
def permL {α : Type} : List Nat → List α → List α
  | [], _ => []
  | i :: p, ws => match ws[i]? with
    | some w => w :: permL p ws
    | none => permL p ws
theorem permL_vals {zs : List V} {ws : List Value} (r : Vals zs ws) : ∀ p, Vals (permL p zs) (permL p ws)
  | [] => .nil
  | i :: p => by
    have ih := permL_vals r p
    unfold permL
    cases h : zs[i]? with
    | none =>
      have : ws[i]? = none := by
        rw [List.getElem?_eq_none_iff] at h ⊢
        rw [← r.length]; exact h
      rw [this]; exact ih
    | some z =>
      obtain ⟨u, hu, ru⟩ := r.get h
      rw [hu]
      exact .cons ru ih
theorem vals_app {a c : List V} {b d : List Value} (h : Vals a b) (h2 : Vals c d) : Vals (a ++ c) (b ++ d) := h.append h2
theorem permL_rep {as : List Addr} {L : Addr → Prop} {H : Hp} {ds : List D} {xs : List V} (r : RepDs as L H ds xs) : ∀ p, RepDs as L H (permL p ds) (permL p xs)
  | [] => .nil
  | i :: p => by
    have ih := permL_rep r p
    unfold permL
    cases h : ds[i]? with
    | none =>
      have : xs[i]? = none := by
        rw [List.getElem?_eq_none_iff] at h ⊢
        rw [← Paired.length r]; exact h
      rw [this]; exact ih
    | some z =>
      obtain ⟨u, hu, ru⟩ := repDs_get r h
      rw [hu]
      exact .cons ru ih
/-- a class called by keywords alone: their names as they are written, the places of the parameters -/
structure MkKG (CT : TTs) (P : Program) (w : World) (K : PySem.W.Frag) (mg : Str → Option Value) (base : Heap) (k : Nat) (x : Str) (C : Addr) (ps : List Str) (ft : FT) (ks : List Str) (pm : List Nat) : Prop where
  ex : ∃ f fd, FnOk P w K mg base (L2.CX P w) k f fd ps (spD CT ps.length ft) ∧ KBn K fd ps 1 ks (fun us ws => us ++ permL pm ws) (fun vs zs => vs ++ permL pm zs) ∧ Mk K C f ∧ mg x = some (.ref C)
theorem kbn_of {K : PySem.W.Frag} {x qual : Str} {st : Stmt} {f : Addr} {fd : FuncData} {ps : List Str} (F : L2.Fun K x qual st f fd) {n : Nat} {ks : List Str} {pm : List Nat}
    (h : ∀ (kV doc pm' : Value) (an : Option Addr) (cdv ct : Value) (us ws : List Value), us.length = n → ws.length = ks.length → bindArgs (PySem.W.fnOf x qual (defArgs st) (defBody st) (defScope st) .none kV doc pm' an cdv ct) ⟨us, ks.zip ws⟩ = pure (ps.zip (us ++ permL pm ws))) :
    KBn K fd ps n ks (fun us ws => us ++ permL pm ws) (fun vs zs => vs ++ permL pm zs) := by
  obtain ⟨oc, od, kV, doc, pm', an, cdv, ct, osl, rfl, lk, hcd⟩ := F.ex
  exact ⟨fun s us ws _ l1 l2 => BindsTo.of_eq (h kV doc pm' an cdv ct us ws l1 l2), fun r1 r2 => r1.append (permL_vals r2 pm)⟩
structure DK (CT : TTs) (E : XK) (X : Cx) (kws : List Keyword) (t : TAD) : Prop where
  pk : PK X kws (liftA CT E t)
section
variable {CT : TTs} {E : XK} {X : Cx} {p pos kpos : Pos} {x : Str}
theorem _root_.L2.PK.imp {X : Cx} {e : List Keyword} {t t' : TA} (h : PK X e t) (i : ∀ σ H Q, t' σ H Q → t σ H Q) : PK X e t' := ⟨fun p pins s σ H Q I q => h.run p pins s σ H Q I (i σ H Q q)⟩
theorem dk_nil : DK CT E X [] dNil := ⟨pk_nil.imp fun σ H Q ⟨as, S, ρ, Xq, Qd, z, q, k⟩ => k as S H [] [] (On.refl _ _ _) z.st .nil q⟩
theorem dk_cons {e : Expr} {nm : Option Str} {kws : List Keyword} {t : TED} {r : TAD} (h : DE CT E X e t) (hr : DK CT E X kws r) : DK CT E X (⟨nm, e, kpos⟩ :: kws) (dCons t r) :=
  ⟨(pk_cons h.pe hr.pk).imp fun σ H Q ⟨as, S, ρ, Xq, Qd, z, q, k⟩ => ⟨as, S, ρ, Xq, _, z, q, fun as1 S1 H1 dx x o1 s1 rx q1 => ⟨as1, S1, ρ, Xq, _, z.on o1 s1, q1, fun as2 S2 H2 ds ys o2 s2 rs q2 =>
    k as2 S2 H2 _ _ (o1.trans o2) s2 (.cons (o2.rep rx) rs) q2⟩⟩⟩
def dMakeK (C : Addr) (n m : Nat) (ft : FT) (pm : List Nat) (t : TAD) : TED := fun X ρ S Q => t X ρ S fun ds S1 => ds.length = m ∧ mkD C n ft (permL pm ds) X S1 Q
theorem de_KK {k : Nat} {ps ks : List Str} {ft : FT} {C : Addr} {pm : List Nat} {kws : List Keyword} {t : TAD} (G : MkKG CT X.prog X.w X.K X.mg X.base k x C ps ft ks pm) (hr : Room (k + 1) X.A) (hx : Passes (L2.CX X.prog X.w) X E) (ha : DK CT E X kws t) (hg : Gl X x := by rfl)
    (hall : (backToKw pos (keywordEach kws X.env)).all (·.1.isSome) = true := by rfl) (hks : (backToKw pos (keywordEach kws X.env)).filterMap (·.1) = ks := by rfl) (hdb : (x == ("__debug__" : Str)) = false := by decide)
    (hpl : ((backTo pos (starEach [] X.env)).any (·.1) || (backToKw pos (keywordEach kws X.env)).any (·.1.isNone)) = false := by rfl) : DE CT E X (.Call (.Name x p) [] kws pos) (dMakeK C ps.length ks.length ft pm t) := by
  obtain ⟨f, fd, F, hb, M, hm⟩ := G.ex
  refine .of (pe_makeK0 M F hr hg hm hb hx ha.pk hall hks hdb hpl) fun σ H as S ρ Xq Qd Q z q k => ?_
  refine (⟨as, S, ρ, Xq, _, z, q, fun as1 S1 H1 ds ys o1 s1 r ⟨hl, q1⟩ => ?_⟩ : liftA CT E t σ H _)
  refine ⟨rfl, by rw [← Paired.length r]; exact hl, fun a dx ha' hd ne => ?_⟩
  show spD CT ps.length ft ([V.ref a] ++ permL pm ys) _ _ E
  exact mk_of' s1 (permL_rep r pm) q1 (k.on o1) (z.ex.on o1) ha' hd ne
end
@[simp] theorem dMakeK_e {C : Addr} {n m : Nat} {ft : FT} {pm : List Nat} {t : TAD} {X : XQ} {ρ : Env} {S : Store} {Q} : dMakeK C n m ft pm t X ρ S Q = t X ρ S fun ds S1 => ds.length = m ∧ mkD C n ft (permL pm ds) X S1 Q := rfl
@[simp] theorem dMake_e {C : Addr} {n : Nat} {ft : FT} {t : TAD} {X : XQ} {ρ : Env} {S : Store} {Q} : dMake C n ft t X ρ S Q = t X ρ S fun ds S1 => mkD C n ft ds X S1 Q := rfl
/-! ### xs.index(x) -/
def mIndexT : D → RAD := fun d ds S Q => ∃ (ts : List T) (e : D) (x t : T) (j : Nat), ds = [e] ∧ d.tree S = some (.lst ts) ∧ e.tree S = some x ∧ dat 64 (.lst ts) = true ∧ dat 64 x = true ∧ ts[j]? = some t ∧ eqT t x = true ∧ (∀ (m : Nat) u, m < j → ts[m]? = some u → eqT u x = false) ∧ Q (.int (j : Nat)) S
theorem pys_get : ∀ {ts : List T} {ps : List PyData} {i : Nat}, T.pys ts = some ps → (∀ t, ts[i]? = some t → ∃ p, ps[i]? = some p ∧ t.py = some p) ∧ ∀ p, ps[i]? = some p → ∃ t, ts[i]? = some t ∧ t.py = some p
  | [], ps, i, h => by unfold T.pys at h; cases h; simp
  | t :: ts, ps, i, h => by
    unfold T.pys at h
    cases e1 : T.py t with
    | none => rw [e1] at h; cases h
    | some q =>
      cases e2 : T.pys ts with
      | none => rw [e1, e2] at h; cases h
      | some qs =>
        rw [e1, e2] at h; cases h
        cases i with
        | zero => simp [e1]
        | succ j => simpa using pys_get (i := j) e2
theorem br_indexD {CT : TTs} {K : PySem.W.Frag} : BrM CT (rIndexD K) mIndexT := fun as S H x d xs ds Qd Q st rx r ⟨ts, e, y, t, j, e1, e2, e3, d1, d2, hj, ht, hno, q⟩ k => by
  subst e1
  obtain ⟨v, rfl, rv⟩ := repDs1 r
  obtain ⟨p, p1, p2⟩ := dat_shaped d1
  obtain ⟨py, p3, p4⟩ := dat_shaped d2
  have dp : Dp K H x p := D.py_ok st rx (by rw [py_of e2, p1])
  unfold T.py at p1
  cases e4 : T.pys ts with
  | none => rw [e4] at p1; cases p1
  | some ps =>
    rw [e4] at p1; cases p1
    obtain ⟨z, hz, hz2⟩ := (pys_get (i := j) e4).1 t hj
    have hx : ∃ a, x = V.ref a := by
      cases dp with
      | lst h _ => exact ⟨_, rfl⟩
    obtain ⟨a, rfl⟩ := hx
    refine ⟨a, v, py, ps, j, z, rfl, rfl, dp, D.py_ok st rv (by rw [py_of e3, p3]), p2, p4, hz, by rw [eqT_py t y z py hz2 p3]; exact ht, fun m z' hm hz' => ?_, k.sc st q⟩
    obtain ⟨u, hu, hu2⟩ := (pys_get (i := m) e4).2 z' hz'
    rw [eqT_py u y z' py hu2 p3]
    exact hno m u hm hu
end DL
set_option Elab.async false
set_option linter.all false
set_option maxRecDepth 100000
/-! DL18: list(enumerate(xs)) -/
namespace DL
open PySem PySem.W PySem.Spec PyProof.Rows L2
open PySem.Calls
/-! ### list.extend over an enumerate of a list -/
theorem en_no_len : typeLookup (.type "enumerate") "__len__" = pure none := am_miss_of_fast (by decide +kernel)
theorem en_no_hint : typeLookup (.type "enumerate") "__length_hint__" = pure none := am_miss_of_fast (by decide +kernel)
def nums {α : Type} (k : Nat) : List α → List (Key × α)
  | [] => []
  | x :: xs => (Sum.inl (k : Int), x) :: nums (k + 1) xs
theorem nums_get {α : Type} : ∀ {xs : List α} {k i : Nat}, (nums k xs)[i]? = (xs[i]?).map fun x => (Sum.inl ((k + i : Nat) : Int), x)
  | [], k, i => by simp [nums]
  | x :: xs, k, 0 => by simp [nums]
  | x :: xs, k, i + 1 => by
    show (nums (k + 1) xs)[i]? = _
    rw [nums_get]
    simp [Nat.add_comm, Nat.add_left_comm]
theorem nums_len {α : Type} : ∀ {xs : List α} {k : Nat}, (nums k xs).length = xs.length
  | [], k => rfl
  | x :: xs, k => by simp [nums, nums_len]
def EnSt (h : Heap) (e it S : Addr) (i : Nat) : Prop := (i = 0 ∧ IsEnum h e it ((0 : Nat) : Int) .none) ∨ ∃ old T f oT, IsEnumHeld h e it (i : Int) old T f ∧ h.get? T = some oT ∧ T ≠ e ∧ T ≠ it ∧ T ≠ S
theorem EnSt.keep {h h' : Heap} {e it S : Addr} {i : Nat} (x : EnSt h e it S i) (hk : ∀ b o, b ≠ S → h.get? b = some o → h'.get? b = some o) (hI : e ≠ S) : EnSt h' e it S i := by
  rcases x with ⟨e0, he⟩ | ⟨old, T, f, oT, he, hT, h1, h2, h3⟩
  · exact .inl ⟨e0, hk _ _ hI he⟩
  · exact .inr ⟨old, T, f, oT, hk _ _ hI he, hk _ _ h3 hT, h1, h2, h3⟩
section
variable {prog : Program} {w : World} {A : Around} {E : Value → Shared → Prop} {s : Shared}
theorem en_item {e it l S : Addr} {i : Nat} {items : Array Value} {x : Value} {Q : Option Value → Shared → Prop} (hst : EnSt s.heap e it S i) (hS : S < s.heap.objs.size) (hit : s.heap.IsListIter it l i) (hl : s.heap.IsList l items) (hx : items[i]? = some x) (hne : e ≠ it)
    (hQ : ∀ h', EnSt h' e it S (i + 1) → h'.IsListIter it l (i + 1) → h'.get? s.heap.objs.size = some { cls := .type "tuple", data := .seq #[.int i s.toks, x] } → h'.objs.size = s.heap.objs.size + 1 →
      (∀ b o, b ≠ e → b ≠ it → s.heap.get? b = some o → h'.get? b = some o) → Q (some (.ref s.heap.objs.size)) { s with heap := h', toks := s.toks + 1 }) :
    wpAny (model prog w) A (pyNext (.ref e)) Q E s := by
  have hil : it < s.heap.objs.size := let ⟨_, ho, _⟩ := hit; Heap.lt_size ho
  rcases hst with ⟨rfl, he⟩ | ⟨old, T, f, oT, he, hT, h1, h2, h3⟩
  · refine wpAny_pyNext_enum_item he hit hl hx hne fun h' a1 a2 a3 a4 a5 => hQ h' (.inr ⟨x, s.heap.objs.size, false, _, ?_, a3, Nat.ne_of_gt (Heap.lt_size he), Nat.ne_of_gt hil, Nat.ne_of_gt hS⟩) a2 a3 a4 a5
    exact a1
  · refine wpAny_pyNext_enum_item_held he hT h1 h2 hit hl hx hne fun h' a1 a2 a3 a4 a5 => hQ h' (.inr ⟨old, T, true, oT, ?_, a5 T oT h1 h2 hT, h1, h2, h3⟩) a2 a3 a4 a5
    exact a1
theorem en_done {e it l S : Addr} {i : Nat} {items : Array Value} {Q : Option Value → Shared → Prop} (hh : A.handled = none) (hst : EnSt s.heap e it S i) (hit : s.heap.IsListIter it l i) (hl : s.heap.IsList l items) (hx : items[i]? = none)
    (hQ : ∀ h', Heap.ExtBut it s.heap h' → Q none { s with heap := h' }) : wpAny (model prog w) A (pyNext (.ref e)) Q E s := by
  rcases hst with ⟨rfl, he⟩ | ⟨old, T, f, oT, he, _, _, _, _⟩
  · exact wpAny_pyNext_enum_end hh he hit hl hx hQ
  · exact wpAny_pyNext_enum_end_held hh he hit hl hx hQ
variable {R : Result → Shared → Prop} {items : Array Value}
theorem en_loop {S e it l : Addr} (hh : A.handled = none) (heS : e < S) (hiS : it < S) (hei : e ≠ it) (hlS : l ≠ S) (hle : l ≠ e) (hli : l ≠ it) (hn : items.size ≤ sizeLine) (res : Value) {h₁ : Heap}
    (hR : ∀ h' tk acc c as, (∀ b o, b ≠ S → b ≠ e → b ≠ it → h₁.get? b = some o → h'.get? b = some o) → h'.get? S = some { cls := .type "list", dict := none, data := .seq acc c, slots := #[] } → as.length = items.size → KdxG (mixKind prog w) (nums 0 items.toList) S h' as →
      acc.toList = as.map Value.ref → R (.ok (.ret res)) { s with heap := h', toks := tk }) :
    ∀ (k i : Nat) (h : Heap) (tk : Tok) (c : Nat) (acc : Array Value) (as : List Addr), items.size - i = k → i ≤ items.size → EnSt h e it S i → h.IsListIter it l i → h.IsList l items → (∀ b o, b ≠ S → b ≠ e → b ≠ it → h₁.get? b = some o → h.get? b = some o) →
      h.get? S = some { cls := .type "list", dict := none, data := .seq acc c, slots := #[] } → acc.toList = as.map Value.ref → as.length = i → KdxG (mixKind prog w) (nums 0 items.toList) S h as →
      codeAny (model prog w) A (.builtin "list.extend.loop" ⟨[.ref S, .ref e, res], []⟩) R { s with heap := h, toks := tk } := by
  have heS' : e ≠ S := Nat.ne_of_lt heS
  have hiS' : it ≠ S := Nat.ne_of_lt hiS
  intro k
  induction k with
  | zero =>
    intro i h tk c acc as hk hi hst hit hl hkeep hS hacc hal hG
    have hin : i = items.size := by omega
    refine codeAny_builtin PySem.F.entry_extend_loop ?_
    rw [Around.under_plainId PySem.F.plain_extend_loop _]
    show wpAny _ A.in1 (pyNext (.ref e) >>= _) _ _ _
    refine wpAny_bind (en_done (s := { s with heap := h, toks := tk }) (A := A.in1) hh hst hit hl (Array.getElem?_eq_none (by omega)) fun h' he => ?_)
    refine wpAny_pure (hR h' tk acc c as (fun b o h1 h2 h3 e => he b o h3 (hkeep b o h1 h2 h3 e)) (he S _ (Ne.symm hiS') hS) (by omega) ⟨hG.rise, hG.above, fun j a hj => ?_⟩ hacc)
    obtain ⟨key, kk, x, e1, e2, e3⟩ := hG.pairs j a hj
    exact ⟨key, kk, x, e1, e2, he a _ (Nat.ne_of_gt (Nat.lt_trans hiS (hG.above a (List.mem_of_getElem? hj)))) e3⟩
  | succ k ih =>
    intro i h tk c acc as hk hi hst hit hl hkeep hS hacc hal hG
    have hlt : i < items.size := by omega
    obtain ⟨x, hx⟩ : ∃ x, items[i]? = some x := ⟨items[i], Array.getElem?_eq_getElem hlt⟩
    have hsz : acc.size = i := by rw [← Array.length_toList, hacc, List.length_map, hal]
    refine codeAny_builtin PySem.F.entry_extend_loop ?_
    rw [Around.under_plainId PySem.F.plain_extend_loop _]
    show wpAny _ A.in1 (pyNext (.ref e) >>= _) _ _ _
    refine wpAny_bind (en_item (s := { s with heap := h, toks := tk }) (S := S) hst (Heap.lt_size hS) hit hl hx hei fun h' hst' hit' ht hz hkp => ?_)
    dsimp only at ht hz hkp ⊢
    have hS' := hkp S _ (Ne.symm heS') (Ne.symm hiS') hS
    have up : ∀ b o, b ≠ S → h'.get? b = some o → (h'.update S (Obj.mapSeq (·.push (Value.ref h.objs.size)))).get? b = some o := fun b o hb e => (Heap.get?_update_other _ _ (Ne.symm hb)).trans e
    have hSl : S < h.objs.size := Heap.lt_size hS
    show wpAny _ A.in1 (updateSeq S (·.push (Value.ref h.objs.size)) >>= _) _ _ _
    refine wpAny_bind ?_
    refine wpAny_updateSeq hS' rfl (wpAny_pure ⟨plainId_quiet PySem.F.plain_extend_loop _, ih (i + 1) _ (tk + 1) _ (acc.push (Value.ref h.objs.size)) (as ++ [h.objs.size]) (by omega) hlt (hst'.keep up heS') (hit'.at fun o e => up it o hiS' e) (hl.at fun o e => up l o hlS (hkp l o hle hli e))
      (fun b o h1 h2 h3 e => up b o h1 (hkp b o h2 h3 (hkeep b o h1 h2 h3 e))) (Heap.get?_update_self _ hS' rfl) (by rw [Array.toList_push, hacc, List.map_append]; rfl) (by rw [List.length_append, hal]; rfl) ⟨?_, ?_, ?_⟩⟩) (by rw [hsz]; omega) (by show (acc.push (Value.ref h.objs.size)).size ≤ sizeLine + 1; rw [Array.size_push, hsz]; omega)
    · refine List.pairwise_append.mpr ⟨hG.rise, List.pairwise_singleton _ _, fun a ha b hb => ?_⟩
      rw [List.mem_singleton.mp hb]
      exact hG.there ha
    · intro a ha
      rcases List.mem_append.mp ha with ha | ha
      · exact hG.above a ha
      · rw [List.mem_singleton.mp ha]; exact hSl
    · intro j b hj
      rcases Nat.lt_trichotomy j as.length with h1 | h1 | h1
      · rw [List.getElem?_append_left h1] at hj
        obtain ⟨key', k', x', e1, e2, e3⟩ := hG.pairs j b hj
        have hb := hG.above b (List.mem_of_getElem? hj)
        exact ⟨key', k', x', e1, e2, up b _ (Nat.ne_of_gt hb) (hkp b _ (Nat.ne_of_gt (Nat.lt_trans heS hb)) (Nat.ne_of_gt (Nat.lt_trans hiS hb)) e3)⟩
      · subst h1
        have hb : h.objs.size = b := by simpa using hj
        subst hb
        refine ⟨.int (as.length : Int) tk, Sum.inl ((as.length : Nat) : Int), x, ?_, ?_, up _ _ (Nat.ne_of_gt hSl) (by rw [hal]; exact ht)⟩
        · rw [nums_get, hal, show items.toList[i]? = some x from by rw [Array.getElem?_toList]; exact hx]
          simp
        · show keyIs (Sum.inl ((as.length : Nat) : Int)) (.int (as.length : Int) tk) = true
          simp [keyIs, Value.isInt]
      · have hnone : (as ++ [h.objs.size])[j]? = none := List.getElem?_eq_none (by rw [List.length_append, List.length_singleton]; omega)
        rw [hnone] at hj; cases hj
/-- list(e), e an enumerate not yet begun -/
theorem en_call {e it l : Addr} {Q : Value → Shared → Prop} (hh : A.handled = none) (he : IsEnum s.heap e it ((0 : Nat) : Int) .none) (hit : s.heap.IsListIter it l 0) (hl : s.heap.IsList l items) (hei : e ≠ it) (hle : l ≠ e) (hli : l ≠ it) (hn : items.size ≤ sizeLine)
    (hQ : ∀ h' tk acc c as, (∀ b o, b ≠ e → b ≠ it → s.heap.get? b = some o → h'.get? b = some o) → h'.get? s.heap.objs.size = some { cls := .type "list", dict := none, data := .seq acc c, slots := #[] } → as.length = items.size → KdxG (mixKind prog w) (nums 0 items.toList) s.heap.objs.size h' as →
      acc.toList = as.map Value.ref → Q (.ref s.heap.objs.size) { s with heap := h', toks := tk }) :
    wpAny (model prog w) A (call (.type "list") [.ref e]) Q E s := by
  have hel : e < s.heap.objs.size := Heap.lt_size he
  have hil : it < s.heap.objs.size := let ⟨_, ho, _⟩ := hit; Heap.lt_size ho
  have hll : l < s.heap.objs.size := let ⟨_, ho, _⟩ := hl; Heap.lt_size ho
  refine callType_codes (Q₁ := fun obj s₁ => obj = .ref s.heap.objs.size ∧ s₁ = { s with heap := s.heap.push { cls := .type "list", data := .seq #[] } }) PySem.F.called_list (PySem.F.typeCall_list_1 _) PySem.F.entry_list_init
    (code_list_new _ ⟨rfl, rfl⟩) fun obj s₁ h₁ => ?_
  obtain ⟨rfl, rfl⟩ := h₁
  have hS : (s.heap.push { cls := .type "list", data := .seq #[] }).get? s.heap.objs.size = some { cls := .type "list", data := .seq #[] } := Heap.get?_push_size _ rfl
  refine ⟨⟨_, hS, rfl⟩, PySem.F.args_list_init_2 _ _, ?_⟩
  show wpAny _ A.in1.in1 (do let old ← Builtin.List.listItems (.ref s.heap.objs.size); Builtin.List.listUpdate (.ref s.heap.objs.size) (fun _ => #[]); letGo old.toList.reverse; Builtin.List.listExtendWith (.ref s.heap.objs.size) (.ref e) .none) _ _ _
  refine wpAny_bind ?_
  unfold Builtin.List.listItems
  refine wpAny_bind (wpAny_seqItems hS rfl (wpAny_pure ?_))
  show wpAny _ A.in1.in1 (updateSeq s.heap.objs.size (fun _ => #[]) >>= fun _ => letGo (#[] : Array Value).toList.reverse >>= fun _ => Builtin.List.listExtendWith (.ref s.heap.objs.size) (.ref e) .none) _ _ _
  refine wpAny_bind (wpAny_updateSeq hS rfl ?_)
  have hS2 := Heap.get?_update_self (Obj.mapSeq (fun _ => (#[] : Array Value))) hS rfl
  refine wpAny_bind (wpAny_letGo ?_)
  unfold Builtin.List.listExtendWith
  have up : ∀ (h : Heap) (f : Obj → Obj), (∀ b o, s.heap.get? b = some o → h.get? b = some o) → ∀ b o, s.heap.get? b = some o → (h.update s.heap.objs.size f).get? b = some o := fun h f q b o e =>
    (Heap.get?_update_other _ _ (Ne.symm (Nat.ne_of_lt (Heap.lt_size e)))).trans (q b o e)
  have k1 : ∀ b o, s.heap.get? b = some o → (s.heap.push { cls := .type "list", data := .seq #[] }).get? b = some o := fun b o e => Heap.get?_push_of_some _ e
  have k2 := up _ (Obj.mapSeq (fun _ => (#[] : Array Value))) k1
  have he2 := k2 e _ he
  have hT2 : ∀ {h : Heap}, h.get? e = some { cls := .type "enumerate", dict := none, data := .fields #[.none, .bool false, .ref it, rawInt ((0 : Nat) : Int), .none, .none], slots := #[] } → Shared.TypeIs { s with heap := h } (.ref e) "enumerate" := fun q => ⟨_, q, rfl⟩
  refine wpAny_bind (wpAny_typeOf (hT2 he2) ?_)
  have h1 : Builtin.List.listSameRef (.ref s.heap.objs.size) (.ref e) = false := by simp [Builtin.List.listSameRef, Nat.ne_of_gt hel]
  have h2 : (Value.type "enumerate" == Value.type "list") = false := by decide
  have h3 : (Value.type "enumerate" == Value.type "tuple") = false := by decide
  simp only [h1, h2, h3, Bool.or_false, Bool.false_eq_true, if_false]
  refine wpAny_bind (wpAny_pyIter_enum (s := { s with heap := _ }) he2 ?_)
  refine wpAny_bind (wpAny_holding ?_)
  unfold Builtin.List.listLengthHint
  refine wpAny_bind (wpAny_specialOf (hT2 he2) en_no_len ?_)
  show wpAny _ A.in1.in1 (specialOf (Value.ref e) (Str.ofString "__length_hint__") >>= _) _ _ _
  refine wpAny_bind (wpAny_specialOf (hT2 he2) en_no_hint ?_)
  refine wpAny_pure ?_
  show wpAny _ A.in1.in1 (rule "list.extend.makes-room" >>= fun _ => Builtin.List.listTouch (.ref s.heap.objs.size) >>= fun _ =>
    again (.builtin "list.extend.loop" ⟨[.ref s.heap.objs.size, .ref e, .none], []⟩)) _ _ _
  refine wpAny_bind (wpAny_rule ?_)
  refine wpAny_bind ?_
  show wpAny _ A.in1.in1 (updateSeq s.heap.objs.size (·.push .none) >>= fun _ => updateSeq s.heap.objs.size (·.pop)) _ _ _
  refine wpAny_bind (wpAny_updateSeq hS2 rfl ?_)
  have hS3 := Heap.get?_update_self (Obj.mapSeq (·.push Value.none)) hS2 rfl
  refine wpAny_updateSeq (hz := by seq_fits) hS3 rfl ?_
  have hS4 := Heap.get?_update_self (Obj.mapSeq (·.pop)) hS3 rfl
  have k4 := up _ (Obj.mapSeq (·.pop)) (up _ (Obj.mapSeq (·.push Value.none)) k2)
  refine wpAny_pure ⟨plainId_quiet F.plain_extend_loop _, ?_⟩
  refine en_loop (A := A.in1) (s := s) (items := items) (h₁ := s.heap) hh hel hil hei (Nat.ne_of_lt hll) hle hli hn .none (fun h' tk acc c as hk hS' hl' hG hacc => ⟨rfl, hQ h' tk acc c as (fun b o h2 h3 e => hk b o (Nat.ne_of_lt (Heap.lt_size e)) h2 h3 e) hS' hl' hG hacc⟩)
    items.size 0 _ _ _ #[] [] (Nat.sub_zero _) (Nat.zero_le _) (.inl ⟨rfl, k4 e _ he⟩) (hit.at fun o q => k4 it o q) (hl.at fun o q => k4 l o q) (fun b o _ _ _ q => k4 b o q) hS4 rfl rfl ⟨List.Pairwise.nil, (fun _ ha => nomatch ha), (fun j a hj => by simp at hj)⟩
end
/-! ### the expression -/
def rEnL (K : PySem.W.Frag) : V → Hp → VK → Prop := fun x H Q => ∃ (a : Addr) (xs : List V), x = .ref a ∧ SqL K H a xs ∧
  ∀ (H' : Hp) (p : Addr) (ts : List Addr), (∀ b o, H b = some o → H' b = some o) → H p = none → (∀ t ∈ ts, H t = none) → p ∉ ts → H' p = some (.lst (ts.map V.ref)) → Paired (fun (t : Addr) (q : Key × V) => H' t = some (.tup [kV q.1, q.2])) ts (nums 0 xs) → Q (.ref p) H'
def tListEn (K : PySem.W.Frag) (te : TE) : TE := fun σ H Q => te σ H fun x H1 => rEnL K x H1 Q
theorem kv_nums {xs : List V} {us : List Value} (h : Vals xs us) : ∀ {k : Nat}, KV (nums k xs) (nums k us) := by
  induction h with
  | nil => intro k; exact .nil
  | cons r _ ih => intro k; exact .cons ⟨rfl, r⟩ ih
section
variable {X : Cx} {a : Expr} {te : TE} {p p2 pos pos2 : Pos}
/-- the list at S, the pairs at as: laid into the abstract heap -/
theorem laid_at {pins : List (Addr × Obj)} {σ : L2.St} {H : Hp} {s : Shared} {h' : Heap} {tk : Nat} {kvs : List (Key × V)} {vs : List (Key × Value)} {acc : Array Value} {c : Nat} {S : Addr} {as : List Addr} (I : Inv X pins σ H s) (hz : kvs.length ≤ sizeLine) (kv : KV kvs vs) (hge : s.heap.objs.size ≤ S)
    (hk : ∀ b o, s.heap.get? b = some o → h'.get? b = some o) (hS : h'.get? S = some { cls := .type "list", dict := none, data := .seq acc c, slots := #[] }) (hl : as.length = vs.length) (hG : PySem.W.KdxG (mixKind X.prog X.w) vs S h' as) (hacc : acc.toList = as.map Value.ref) :
    ∃ H' : Hp, (∀ b o, H b = some o → H' b = some o) ∧ H S = none ∧ (∀ t ∈ as, H t = none) ∧ S ∉ as ∧ H' S = some (.lst (as.map V.ref)) ∧ Paired (fun (t : Addr) (q : Key × V) => H' t = some (.tup [kV q.1, q.2])) as kvs ∧ Inv X pins σ H' { s with heap := h', toks := tk } := by
  have lk := Paired.length kv
  have nS : S ∉ as := fun z => Nat.lt_irrefl _ (hG.above _ z)
  have nd : as.Nodup := hG.rise.imp Nat.ne_of_lt
  have big : ∀ t ∈ as, s.heap.objs.size ≤ t := fun t ht => Nat.le_trans hge (Nat.le_of_lt (hG.above t ht))
  have nw : ∀ t ∈ as, H t = none := fun t ht => I.hok.fresh (big t ht)
  have nwS : H S = none := I.hok.fresh hge
  generalize hH : LiI.putT (upd H S (.lst (as.map V.ref))) as kvs = H'
  have at_ := LiI.putT_at as kvs (upd H S (.lst (as.map V.ref))) (hl.trans lk.symm) nd
  rw [hH] at at_
  have off : ∀ b, b ∉ as → b ≠ S → H' b = H b := fun b h1 h2 => by rw [← hH, LiI.putT_off as kvs _ h1, upd_ne h2]
  have low : ∀ b o, s.heap.get? b = some o → b ∉ as ∧ b ≠ S := fun b o e => by
    have := Heap.lt_size e
    exact ⟨fun z => absurd this (Nat.not_lt.mpr (big b z)), fun z => absurd this (Nat.not_lt.mpr (by rw [z]; exact hge))⟩
  have kp : ∀ b u, H b = some u → H' b = some u := fun b u e => by
    rw [off b (fun z => by simp [nw b z] at e) (fun z => by simp [z, nwS] at e)]; exact e
  have eS : H' S = some (.lst (as.map V.ref)) := by rw [← hH, LiI.putT_off as kvs _ nS, upd_same]
  refine ⟨H', kp, nwS, nw, nS, eS, at_, I.call' (ch := []) rfl ⟨fun b o q _ _ _ => hk b o q, fun b o q _ _ _ => ⟨o.slots, hk b o q⟩, fun b o q n _ => ?_, fun b o q _ => ⟨o, hk b o q⟩, fun b xs q => kp b _ q, fun b o u q => kp b _ q, fun b ps q => ⟨#[], by simp [kp b _ q]⟩⟩ (fun b u q => ?_) I.bare fun b z => by simp at z⟩
  · rw [off b (low b o q).1 (low b o q).2]; exact n
  · by_cases h1 : b ∈ as
    · obtain ⟨j, pk, e1, e2, e3⟩ := LiI.paired_ix at_ h1
      obtain ⟨key, k, x, f1, f2, f3⟩ := hG.pairs j b e1
      obtain ⟨qv, g1, g2, g3⟩ := LiI.paired_get kv e2
      rw [e3] at q; cases q
      rw [f1] at g1; cases g1
      refine ⟨by show 2 ≤ sizeLine; decide, [key, x], .cons ?_ (.cons g3 .nil), ⟨_, f3, rfl, _, rfl⟩⟩
      rw [g2]; exact relV_key (show keyIs k key = true from f2)
    · by_cases h2 : b = S
      · subst h2
        rw [eS] at q; cases q
        exact ⟨by simp [hl, ← lk, hz], acc.toList, c, by rw [hacc]; exact LiI.vals_refs as, by simpa using hS⟩
      · rw [off b h1 h2] at q
        exact (I.hok b u q).stay (fun d v _ y => hk d v y) (fun d y => kp d _ y) fun d xs y => kp d _ y
theorem pe_listEn (hc : X.calm = true) (he : PE X a te) (hg : Gl X "list") (hm : X.mg "list" = none) (hg2 : Gl X "enumerate") (hm2 : X.mg "enumerate" = none)
    (na : starEach [a] X.env = [(false, eval a X.env)] := by rfl) (na2 : starEach [a] X.env = (false, eval a X.env) :: starEach [] X.env := by rfl)
    (nb : starEach [.Call (.Name "enumerate" p) [a] [] pos] X.env = (false, eval (.Call (.Name "enumerate" p) [a] [] pos) X.env) :: starEach [] X.env := by rfl) :
    PE X (.Call (.Name "list" p2) [.Call (.Name "enumerate" p) [a] [] pos] [] pos2) (tListEn X.K te) := by
  refine ⟨fun pins s σ H Q I hq => ?_⟩
  refine wpAny_Call_Name_kw (ld_blt I hg hm boot_list ?_)
  refine PyProof.Rows.callWith_type1 ?_ nb rfl
  rw [nb]
  show wpAny _ _ (spliced ((false, eval (.Call (.Name "enumerate" p) [a] [] pos) X.env) :: backTo pos2 (starEach [] X.env))) _ _ s
  refine Calls.spliced_cons ?_
  refine Call_ (ld_blt I hg2 hm2 boot_enumerate (PyProof.Rows.callWith_type1 (thn ((pa_cons he pa_nil na2).run pos pins s σ H (fun vs H1 => match vs with
    | [x] => rEnL X.K x H1 Q
    | _ => False) I hq) fun us s1 ⟨vs, H1, I1, r1, q1⟩ => ?_) na rfl))
  match vs, q1, r1 with
  | [x], q1, .cons r .nil =>
    obtain ⟨l, xs, rfl, hsq, q⟩ := q1
    cases r
    obtain ⟨its, rv, p', hz⟩ := I1.list hsq
    have hll : l < s1.heap.objs.size := let ⟨_, ho, _⟩ := p'.isList; Heap.lt_size ho
    refine call_enumerate_list p'.isList fun h' hen hit hsz hk => ?_
    refine Calls.spliced_nil ?_
    have hlen : xs.length = its.length := Paired.length rv
    refine en_call (s := { s1 with heap := h' }) (items := its.toArray) (I1.ok.hd hc) hen hit (p'.isList.at fun o y => hk l o y) (Nat.succ_ne_self _) (Nat.ne_of_lt (Nat.lt_succ_of_lt hll)) (Nat.ne_of_lt hll) (by rw [List.size_toArray, ← hlen]; exact hz) fun h2 tk acc c as hk2 hS hl hG hacc => ?_
    dsimp only at hk2 hS hG ⊢
    obtain ⟨H', k1, k2, k3, k4, k5, k6, J⟩ := laid_at (tk := tk) (h' := h2) (kvs := nums 0 xs) (vs := nums 0 its) (S := h'.objs.size) I1 (by rw [nums_len]; exact hz) (kv_nums rv) (by rw [hsz]; exact Nat.le_add_right _ _)
      (fun b o y => hk2 b o (Nat.ne_of_lt (Nat.lt_succ_of_lt (Heap.lt_size y))) (Nat.ne_of_lt (Heap.lt_size y)) (hk b o y)) hS (by rw [hl, nums_len]; simp) hG hacc
    exact ⟨.ref _, H', J, rfl, q H' _ as k1 k2 k3 k4 k5 k6⟩
end
/-! ### over data -/
theorem Ext.grow {L : Addr → Prop} {H H' : Hp} (k : ∀ b o, H b = some o → H' b = some o) : Ext L H L H' where
  keep := fun b o e _ _ => k b o e
  live := fun b l => .inl l
  dom := fun b e => by
    cases q : H b with
    | none => exact .inl q
    | some o =>
      rcases e with e | ⟨ps, e⟩
      · rw [k b o q] at e; cases e
      · rw [k b o q] at e; cases e; exact .inr ⟨ps, q⟩
theorem StOk.grow {CT : TTs} {as : List Addr} {S : Store} {H H' : Hp} (st : StOk CT as S H) (k : ∀ b o, H b = some o → H' b = some o) : StOk CT as S H' ∧ On as S H as S H' := by
  have on : On as S H as S H' := ⟨Ext.grow k, fun _ _ e => e⟩
  refine ⟨⟨fun p hp => ?_, st.len, st.nd, fun i a e z => st.there i a e (by
    cases q : H a with
    | none => rfl
    | some o => rw [k a o q] at z; cases z), fun i a c e1 e2 => CellOk.ext on.ext on.pre c (fun o ho _ => k a o ho) (st.cell i a c e1 e2)⟩, on⟩
  obtain ⟨ps, h1, h2, h3⟩ := st.tab p hp
  exact ⟨ps, k _ _ h1, h2, fun pos cv hc => let ⟨c, e1, e2⟩ := h3 pos cv hc; ⟨c, e1, k _ _ e2⟩⟩
def dListEn (t : TED) : TED := fun X ρ S Q => t X ρ S fun d S1 => ∃ ds ts, seqL S1 d = some ds ∧ asTs (enums 0 ds) = some ts ∧ ts.length = ds.length ∧ Q (.t (.lst ts)) S1
theorem repL_enums {as : List Addr} {L : Addr → Prop} {H' : Hp} : ∀ {ds : List D} {k : Nat} {ts : List T} {xs : List V} {us : List Addr}, (∀ t ∈ us, ¬ L t) → asTs (enums k ds) = some ts → ts.length = ds.length → RepDs as L H' ds xs →
    Paired (fun (t : Addr) (q : Key × V) => H' t = some (.tup [kV q.1, q.2])) us (nums k xs) → RepL L H' ts (us.map V.ref)
  | [], k, ts, xs, us, hn, ht, hl, r, p => by
    cases r
    cases p
    cases List.length_eq_zero_iff.mp hl
    rfl
  | .m i :: ds, k, ts, xs, us, hn, ht, hl, r, p => by
    unfold enums at ht
    cases ht
    cases hl
  | .t x :: ds, k, ts, xs, us, hn, ht, hl, r, p => by
    unfold enums at ht
    unfold asTs at ht
    cases e : asTs (enums (k + 1) ds) with
    | none => rw [e] at ht; cases ht
    | some ts' =>
      rw [e] at ht; cases ht
      cases r with
      | cons r1 r2 =>
        cases p with
        | cons p1 p2 =>
          refine ⟨_, _, rfl, ⟨_, _, rfl, hn _ List.mem_cons_self, p1, ⟨_, _, rfl, rfl, ⟨_, _, rfl, r1, rfl⟩⟩⟩, repL_enums (fun t ht => hn t (List.mem_cons_of_mem _ ht)) e (by simpa using hl) r2 p2⟩
section
variable {CT : TTs} {E : XK} {X : Cx} {p pos p2 pos2 : Pos}
theorem de_listEn {a : Expr} {t : TED} (hc : X.calm = true) (hm : X.mg "list" = none) (hm2 : X.mg "enumerate" = none) (ha : DE CT E X a t) (hg : Gl X "list" := by rfl) (hg2 : Gl X "enumerate" := by rfl) (na : starEach [a] X.env = [(false, eval a X.env)] := by rfl) (na2 : starEach [a] X.env = (false, eval a X.env) :: starEach [] X.env := by rfl)
    (nb : starEach [.Call (.Name "enumerate" p) [a] [] pos] X.env = (false, eval (.Call (.Name "enumerate" p) [a] [] pos) X.env) :: starEach [] X.env := by rfl) : DE CT E X (.Call (.Name "list" p2) [.Call (.Name "enumerate" p) [a] [] pos] [] pos2) (dListEn t) :=
  .of (pe_listEn hc ha.pe hg hm hg2 hm2 na na2 nb) fun σ H as S ρ Xq Qd Q z q k => ⟨as, S, ρ, Xq, _, z, q, fun as1 S1 H1 d x o1 s1 r ⟨ds, ts, hd, ht, hl, q1⟩ => by
    obtain ⟨a, xs, rfl, h1, h2⟩ := seqL_ok s1 r hd
    refine ⟨a, xs, rfl, .of h1, fun H' p us k1 k2 k3 k4 k5 k6 => ?_⟩
    obtain ⟨st', on'⟩ := s1.grow k1
    refine k as1 S1 H' (.t (.lst ts)) (.ref p) (o1.trans on') st' ?_ q1
    exact ⟨p, us.map V.ref, rfl, fun l => s1.live_there l k2, k5, repL_enums (fun t ht l => s1.live_there l (k3 t ht)) ht hl (On.reps on' h2) k6⟩⟩
end
@[simp] theorem dListEn_e {t : TED} {X : XQ} {ρ : Env} {S : Store} {Q} : dListEn t X ρ S Q = t X ρ S fun d S1 => ∃ ds ts, seqL S1 d = some ds ∧ asTs (enums 0 ds) = some ts ∧ ts.length = ds.length ∧ Q (.t (.lst ts)) S1 := rfl
end DL
set_option Elab.async false
set_option linter.all false
set_option maxRecDepth 100000
/-! DL19: stores that grow; comprehensions over cells -/
namespace DL
open PySem PySem.Spec PyProof.Rows L2

mutual
theorem frz_app {n : Nat} {S R : Store} : ∀ (f : Nat) (d : D) (t : T), frz n S f d = some t → frz n (S ++ R) f d = some t
  | f, .t x, t, h => by unfold frz at h ⊢; exact h
  | 0, .m i, t, h => by unfold frz at h; cases h
  | f + 1, .m i, t, h => by
    unfold frz at h
    unfold frz
    cases hc : S[i]? with
    | none => rw [hc] at h; cases h
    | some c =>
      rw [hc] at h
      rw [List.getElem?_append_left (List.getElem?_eq_some_iff.mp hc).1, hc]
      cases c with
      | fz u => exact h
      | lst ds =>
        have h : (if n ≤ i then (frzL n S f ds).map T.lst else none) = some t := h
        show (if n ≤ i then (frzL n (S ++ R) f ds).map T.lst else none) = some t
        by_cases hi : n ≤ i
        · rw [if_pos hi] at h ⊢
          cases q : frzL n S f ds with
          | none => rw [q] at h; cases h
          | some ts => rw [q] at h; rw [frzL_app f ds ts q]; exact h
        · rw [if_neg hi] at h; cases h
      | dct ds =>
        have h : (if n ≤ i then (frzK n S f ds).map T.dct else none) = some t := h
        show (if n ≤ i then (frzK n (S ++ R) f ds).map T.dct else none) = some t
        by_cases hi : n ≤ i
        · rw [if_pos hi] at h ⊢
          cases q : frzK n S f ds with
          | none => rw [q] at h; cases h
          | some ts => rw [q] at h; rw [frzK_app f ds ts q]; exact h
        · rw [if_neg hi] at h; cases h
      | ins C ds =>
        have h : (if n ≤ i then (frzF n S f ds).map (T.ins C) else none) = some t := h
        show (if n ≤ i then (frzF n (S ++ R) f ds).map (T.ins C) else none) = some t
        by_cases hi : n ≤ i
        · rw [if_pos hi] at h ⊢
          cases q : frzF n S f ds with
          | none => rw [q] at h; cases h
          | some ts => rw [q] at h; rw [frzF_app f ds ts q]; exact h
        · rw [if_neg hi] at h; cases h
      | tup ds =>
        have h : (if n ≤ i then (frzL n S f ds).map T.tup else none) = some t := h
        show (if n ≤ i then (frzL n (S ++ R) f ds).map T.tup else none) = some t
        by_cases hi : n ≤ i
        · rw [if_pos hi] at h ⊢
          cases q : frzL n S f ds with
          | none => rw [q] at h; cases h
          | some ts => rw [q] at h; rw [frzL_app f ds ts q]; exact h
        · rw [if_neg hi] at h; cases h
      | strmI => cases h
      | strm b => cases h
theorem frzL_app {n : Nat} {S R : Store} : ∀ (f : Nat) (ds : List D) (ts : List T), frzL n S f ds = some ts → frzL n (S ++ R) f ds = some ts
  | f, [], ts, h => by unfold frzL at h ⊢; exact h
  | f, d :: ds, ts, h => by
    unfold frzL at h ⊢
    cases q1 : frz n S f d with
    | none => rw [q1] at h; cases h
    | some t =>
      cases q2 : frzL n S f ds with
      | none => rw [q1, q2] at h; cases h
      | some us => rw [q1, q2] at h; rw [frz_app f d t q1, frzL_app f ds us q2]; exact h
theorem frzK_app {n : Nat} {S R : Store} : ∀ (f : Nat) (ds : List (Key × D)) (ts : List (Key × T)), frzK n S f ds = some ts → frzK n (S ++ R) f ds = some ts
  | f, [], ts, h => by unfold frzK at h ⊢; exact h
  | f, (k, d) :: ds, ts, h => by
    unfold frzK at h ⊢
    cases q1 : frz n S f d with
    | none => rw [q1] at h; cases h
    | some t =>
      cases q2 : frzK n S f ds with
      | none => rw [q1, q2] at h; cases h
      | some us => rw [q1, q2] at h; rw [frz_app f d t q1, frzK_app f ds us q2]; exact h
theorem frzF_app {n : Nat} {S R : Store} : ∀ (f : Nat) (ds : List (Str × D)) (ts : List (Str × T)), frzF n S f ds = some ts → frzF n (S ++ R) f ds = some ts
  | f, [], ts, h => by unfold frzF at h ⊢; exact h
  | f, (k, d) :: ds, ts, h => by
    unfold frzF at h ⊢
    cases q1 : frz n S f d with
    | none => rw [q1] at h; cases h
    | some t =>
      cases q2 : frzF n S f ds with
      | none => rw [q1, q2] at h; cases h
      | some us => rw [q1, q2] at h; rw [frz_app f d t q1, frzF_app f ds us q2]; exact h
end
theorem tree_app {S R : Store} {d : D} {t : T} (h : d.tree S = some t) : d.tree (S ++ R) = some t := by
  unfold D.tree at h ⊢
  exact frz_le (frz_app _ d t h) (by simp)
/-- cell i holds trees alone -/
def FlatC : Cell → Prop
  | .lst ds => ∃ ts, asTs ds = some ts
  | .tup ds => ∃ ts, asTs ds = some ts
  | .dct _ => False
  | .ins _ fs => ∀ p ∈ fs, ∃ t, p.2 = .t t
  | _ => True
theorem frzL_t {n : Nat} {S : Store} {f : Nat} {ds : List D} {ts : List T} (h : asTs ds = some ts) : frzL n S f ds = some ts := by
  rw [asTs_iff] at h
  subst h
  exact frzL_map ts
theorem tree_lst {S : Store} {i : Nat} {ds : List D} {ts : List T} (h : S[i]? = some (.lst ds)) (e : asTs ds = some ts) : D.tree S (.m i) = some (.lst ts) := by
  unfold D.tree frz
  rw [h]
  show (if 0 ≤ i then (frzL 0 S S.length ds).map T.lst else none) = _
  rw [if_pos (Nat.zero_le _), frzL_t e]
  rfl
theorem AllFz.app {S : Store} {c : Cell} (h : AllFz S) (hc : c.isS = true ∨ ∃ t, frz 0 (S ++ [c]) (S.length + 2) (.m S.length) = some t) : AllFz (S ++ [c]) := fun i c' e => by
  rcases get_app e with e | ⟨rfl, rfl⟩
  · rcases h i c' e with h | ⟨t, h⟩
    · exact .inl h
    · exact .inr ⟨t, frz_le (frz_app _ _ _ h) (by simp)⟩
  · rcases hc with h | ⟨t, h⟩
    · exact .inl h
    · exact .inr ⟨t, by rw [List.length_append]; exact h⟩
theorem AllFz.lst {S : Store} {ts : List T} (h : AllFz S) : AllFz (S ++ [.lst (ts.map .t)]) := h.app (.inr ⟨.lst ts, by
  unfold frz
  rw [get_last rfl]
  show (if 0 ≤ S.length then (frzL 0 _ _ _).map T.lst else none) = _
  rw [if_pos (Nat.zero_le _), frzL_map]; rfl⟩)
theorem frzF_t {n : Nat} {S : Store} {f : Nat} : ∀ {fs : List (Str × T)}, frzF n S f (fs.map fun p => (p.1, .t p.2)) = some fs
  | [] => by unfold frzF; rfl
  | (k, t) :: fs => by
    show frzF n S f ((k, .t t) :: fs.map fun p => (p.1, .t p.2)) = _
    unfold frzF
    rw [frzF_t (fs := fs)]
    unfold frz
    rfl
theorem AllFz.ins {S : Store} {C : Addr} {fs : List (Str × T)} (h : AllFz S) : AllFz (S ++ [.ins C (fs.map fun p => (p.1, .t p.2))]) := h.app (.inr ⟨.ins C fs, by
  unfold frz
  rw [get_last rfl]
  show (if 0 ≤ S.length then (frzF 0 _ _ _).map (T.ins C) else none) = _
  rw [if_pos (Nat.zero_le _), frzF_t]; rfl⟩)
theorem frz_lst {n i : Nat} {S : Store} {f : Nat} {ts : List T} (h : S[i]? = some (.lst (ts.map .t))) (hi : n ≤ i) : frz n S (f + 1) (.m i) = some (.lst ts) := by
  unfold frz
  rw [h]
  show (if n ≤ i then (frzL n S f _).map T.lst else none) = _
  rw [if_pos hi, frzL_map]; rfl
theorem frz_ins {n i : Nat} {S : Store} {f : Nat} {C : Addr} {fs : List (Str × T)} (h : S[i]? = some (.ins C (fs.map fun p => (p.1, .t p.2)))) (hi : n ≤ i) : frz n S (f + 1) (.m i) = some (.ins C fs) := by
  unfold frz
  rw [h]
  show (if n ≤ i then (frzF n S f _).map (T.ins C) else none) = _
  rw [if_pos hi, frzF_t]; rfl
theorem seqA_app {S R : Store} {d : D} {ds : List D} (h : seqA S d = some ds) : seqA (S ++ R) d = some ds := by
  cases d with
  | t x => cases x <;> first | exact h | cases h
  | m i =>
    unfold seqA seqL seqT at h ⊢
    cases e : S[i]? with
    | none => simp [e] at h
    | some c =>
      have e2 : (S ++ R)[i]? = some c := by rw [List.getElem?_append_left (List.getElem?_eq_some_iff.mp e).1, e]
      simp only [e] at h
      simp only [e2]
      exact h
theorem seqL_app {S R : Store} {d : D} {ds : List D} (h : seqL S d = some ds) : seqL (S ++ R) d = some ds := by
  cases d with
  | t x => cases x <;> first | exact h | cases h
  | m i =>
    unfold seqL at h ⊢
    cases e : S[i]? with
    | none => simp [e] at h
    | some c =>
      have e2 : (S ++ R)[i]? = some c := by rw [List.getElem?_append_left (List.getElem?_eq_some_iff.mp e).1, e]
      simp only [e] at h
      simp only [e2]
      exact h
theorem seqT_app {S R : Store} {d : D} {ds : List D} (h : seqT S d = some ds) : seqT (S ++ R) d = some ds := by
  cases d with
  | t x => cases x <;> first | exact h | cases h
  | m i =>
    unfold seqT at h ⊢
    cases e : S[i]? with
    | none => simp [e] at h
    | some c =>
      have e2 : (S ++ R)[i]? = some c := by rw [List.getElem?_append_left (List.getElem?_eq_some_iff.mp e).1, e]
      simp only [e] at h
      simp only [e2]
      exact h
/-- what is walked stays while the store grows -/
structure ItG (S : Store) (it : ItD) (es : List D) : Prop where
  items : it.items = es
  g : ∀ R, it.g (S ++ R)
theorem itG_x {S : Store} {d : D} {es : List D} (h : seqA S d = some es) {R : ItD → Store → Prop} (q : ∀ it, ItG S it es → R it S) : seqI d S R := by
  unfold seqA at h
  cases e : seqL S d with
  | some es' => rw [e] at h; cases h; exact ⟨es, .inl ⟨e, q _ ⟨rfl, fun R => seqL_app e⟩⟩⟩
  | none => rw [e] at h; exact ⟨es, .inr ⟨h, q _ ⟨rfl, fun R => seqT_app h⟩⟩⟩
section
variable {X : XQ} {ρ : Env} {S : Store} {Q : D → Store → Prop}
theorem lc_mapD {g : TGD} {te : TED} {vs : List Nat} {it : ItD} {es : List D} (us : List T) (hi : ItG S it es) (hc : ClosedS S.length S) (hl : us.length = es.length) (hz : us.length ≤ sizeLine)
    (h : ∀ (i : Nat) d u, es[i]? = some d → us[i]? = some u → ∀ (c : Cell) (Ky : D → Store → Prop), Ky (.t u) (S ++ [c]) → g d noX (wipeD ρ vs) (S ++ [c]) fun ρ2 S3 => te noX ρ2 S3 Ky)
    (q : Q (.t (.lst us)) S) : lcTr g dYes te vs ρ it S Q := by
  refine ⟨fun i acc S' => S' = S ∧ i ≤ us.length ∧ acc = us.take i, ⟨rfl, Nat.zero_le _, by simp⟩, fun i acc S' ⟨e, _, _⟩ => by subst e; exact ⟨rfl, hc, hi.g _⟩, ?_, ?_⟩
  · rintro i d acc S' hd ⟨rfl, hle, rfl⟩
    rw [hi.items] at hd
    have hlt : i < us.length := by have := (List.getElem?_eq_some_iff.mp hd).1; omega
    have hu : us[i]? = some us[i] := List.getElem?_eq_getElem hlt
    have := h i d _ hd hu (.lst ((us.take i).map .t)) (fun y S4 => ∃ t S'', y = .t t ∧ S4 = S'' ++ [.lst ((us.take i).map .t)] ∧ (us.take i).length < sizeLine ∧ S'' = S' ∧ i + 1 ≤ us.length ∧ us.take i ++ [t] = us.take (i + 1)) ⟨us[i], S', rfl, rfl, by simp; omega, rfl, hlt, by rw [List.take_succ, hu]; rfl⟩
    simpa using this
  · rintro acc S' ⟨rfl, _, rfl⟩
    have : it.items.length = us.length := by rw [hi.items, hl]
    rw [this]
    simpa using q
end
theorem ClosedS.app {S : Store} {c : Cell} (h : ClosedS S.length S) (hc : refC (S.length + 1) c) : ClosedS (S ++ [c]).length (S ++ [c]) := fun c' hm => by
  rw [List.length_append]
  rcases List.mem_append.mp hm with hm | hm
  · exact refC_mono (Nat.le_succ _) (h c' hm)
  · have : c' = c := by simpa using hm
    subst this
    exact hc
theorem refC_ins {n : Nat} {C : Addr} {fs : List (Str × T)} : refC n (.ins C (fs.map fun p => (p.1, .t p.2))) := fun p hp => by
  obtain ⟨q, _, rfl⟩ := List.mem_map.mp hp
  exact True.intro
theorem refC_lst {n : Nat} {ts : List T} : refC n (.lst (ts.map .t)) := fun d hd => by
  obtain ⟨q, _, rfl⟩ := List.mem_map.mp hd
  exact True.intro
end DL
set_option Elab.async false
set_option linter.all false
set_option maxRecDepth 100000
/-! DL20: a store that begins with the stream -/
namespace DL
open PySem PySem.Spec PyProof.Rows L2

/-- the stream with b draws left, then R -/
def st (b : Nat) (R : Store) : Store := .strmI :: .strm b :: R
section
variable {b b' : Nat} {R : Store} {Q : D → Store → Prop}
@[simp] theorem st_len : (st b R).length = R.length + 2 := rfl
@[simp] theorem st_app {R' : Store} : st b R ++ R' = st b (R ++ R') := rfl
@[simp] theorem st_0 : (st b R)[0]? = some .strmI := rfl
@[simp] theorem st_1 : (st b R)[1]? = some (.strm b) := rfl
@[simp] theorem st_get {i : Nat} : (st b R)[i + 2]? = R[i]? := rfl
@[simp] theorem st_set1 : (st b R).set 1 (.strm b') = st b' R := rfl
@[simp] theorem st_set {i : Nat} {c : Cell} : (st b R).set (i + 2) c = st b (R.set i c) := rfl
@[simp] theorem st_take {i : Nat} : (st b R).take (i + 2) = st b (R.take i) := rfl
theorem st_closed {n : Nat} (h : ClosedS n (st b R)) : ClosedS n (st b' R) := fun c hc => by
  have hm : c = .strmI ∨ c = .strm b' ∨ c ∈ R := by simpa [st] using hc
  rcases hm with rfl | rfl | hm
  · exact True.intro
  · have := h (.strm b) (by simp [st]); exact this
  · exact h c (by simp [st, hm])
/-- what is in a closed store's rest -/
def ClosedR (n : Nat) (R : Store) : Prop := ∀ c ∈ R, refC n c
theorem closed_st {n : Nat} : ClosedS n (st b R) ↔ 0 < n ∧ ClosedR n R := by
  constructor
  · exact fun h => ⟨h (.strm b) (by simp [st]), fun c hc => h c (by simp [st, hc])⟩
  · rintro ⟨h0, h⟩ c hc
    have hm : c = .strmI ∨ c = .strm b ∨ c ∈ R := by simpa [st] using hc
    rcases hm with rfl | rfl | hm
    · exact True.intro
    · exact h0
    · exact h c hm
theorem allFz_st (h : AllFz (st b R)) : AllFz (st b' R) := fun i c hc => by
  have key : ∀ (f : Nat) (i : Nat) (t : T), frz 0 (st b R) f (.m i) = some t → frz 0 (st b' R) f (.m i) = some t := by
    have aux : ∀ (f : Nat), (∀ d t, frz 0 (st b R) f d = some t → frz 0 (st b' R) f d = some t) ∧ (∀ ds ts, frzL 0 (st b R) f ds = some ts → frzL 0 (st b' R) f ds = some ts) ∧
        (∀ ds ts, frzK 0 (st b R) f ds = some ts → frzK 0 (st b' R) f ds = some ts) ∧ (∀ ds ts, frzF 0 (st b R) f ds = some ts → frzF 0 (st b' R) f ds = some ts) := by
      intro f
      induction f with
      | zero =>
        have h0 : ∀ d t, frz 0 (st b R) 0 d = some t → frz 0 (st b' R) 0 d = some t := fun d t h => by
          cases d with
          | t x => unfold frz at h ⊢; exact h
          | m i => unfold frz at h; cases h
        refine ⟨h0, ?_, ?_, ?_⟩
        · intro ds
          induction ds with
          | nil => intro ts h; unfold frzL at h ⊢; exact h
          | cons d ds ih =>
            intro ts h
            unfold frzL at h ⊢
            cases q1 : frz 0 (st b R) 0 d with
            | none => rw [q1] at h; cases h
            | some t => cases q2 : frzL 0 (st b R) 0 ds with
              | none => rw [q1, q2] at h; cases h
              | some us => rw [q1, q2] at h; rw [h0 d t q1, ih us q2]; exact h
        · intro ds
          induction ds with
          | nil => intro ts h; unfold frzK at h ⊢; exact h
          | cons d ds ih =>
            intro ts h
            obtain ⟨k, d⟩ := d
            unfold frzK at h ⊢
            cases q1 : frz 0 (st b R) 0 d with
            | none => rw [q1] at h; cases h
            | some t => cases q2 : frzK 0 (st b R) 0 ds with
              | none => rw [q1, q2] at h; cases h
              | some us => rw [q1, q2] at h; rw [h0 d t q1, ih us q2]; exact h
        · intro ds
          induction ds with
          | nil => intro ts h; unfold frzF at h ⊢; exact h
          | cons d ds ih =>
            intro ts h
            obtain ⟨k, d⟩ := d
            unfold frzF at h ⊢
            cases q1 : frz 0 (st b R) 0 d with
            | none => rw [q1] at h; cases h
            | some t => cases q2 : frzF 0 (st b R) 0 ds with
              | none => rw [q1, q2] at h; cases h
              | some us => rw [q1, q2] at h; rw [h0 d t q1, ih us q2]; exact h
      | succ f ih =>
        obtain ⟨_, hL, hK, hF⟩ := ih
        have h1 : ∀ d t, frz 0 (st b R) (f + 1) d = some t → frz 0 (st b' R) (f + 1) d = some t := fun d t h => by
          cases d with
          | t x => unfold frz at h ⊢; exact h
          | m i =>
            unfold frz at h ⊢
            match i, h with
            | 0, h => exact h
            | 1, h => cases h
            | i + 2, h =>
              rw [st_get] at h ⊢
              cases hc : R[i]? with
              | none => rw [hc] at h; cases h
              | some c =>
                rw [hc] at h
                cases c with
                | fz u => exact h
                | lst ds =>
                  have h : (if 0 ≤ i + 2 then (frzL 0 (st b R) f ds).map T.lst else none) = some t := h
                  show (if 0 ≤ i + 2 then (frzL 0 (st b' R) f ds).map T.lst else none) = some t
                  rw [if_pos (Nat.zero_le _)] at h ⊢
                  cases q : frzL 0 (st b R) f ds with
                  | none => rw [q] at h; cases h
                  | some ts => rw [q] at h; rw [hL ds ts q]; exact h
                | dct ds =>
                  have h : (if 0 ≤ i + 2 then (frzK 0 (st b R) f ds).map T.dct else none) = some t := h
                  show (if 0 ≤ i + 2 then (frzK 0 (st b' R) f ds).map T.dct else none) = some t
                  rw [if_pos (Nat.zero_le _)] at h ⊢
                  cases q : frzK 0 (st b R) f ds with
                  | none => rw [q] at h; cases h
                  | some ts => rw [q] at h; rw [hK ds ts q]; exact h
                | ins C ds =>
                  have h : (if 0 ≤ i + 2 then (frzF 0 (st b R) f ds).map (T.ins C) else none) = some t := h
                  show (if 0 ≤ i + 2 then (frzF 0 (st b' R) f ds).map (T.ins C) else none) = some t
                  rw [if_pos (Nat.zero_le _)] at h ⊢
                  cases q : frzF 0 (st b R) f ds with
                  | none => rw [q] at h; cases h
                  | some ts => rw [q] at h; rw [hF ds ts q]; exact h
                | tup ds =>
                  have h : (if 0 ≤ i + 2 then (frzL 0 (st b R) f ds).map T.tup else none) = some t := h
                  show (if 0 ≤ i + 2 then (frzL 0 (st b' R) f ds).map T.tup else none) = some t
                  rw [if_pos (Nat.zero_le _)] at h ⊢
                  cases q : frzL 0 (st b R) f ds with
                  | none => rw [q] at h; cases h
                  | some ts => rw [q] at h; rw [hL ds ts q]; exact h
                | strmI => cases h
                | strm b => cases h
        refine ⟨h1, ?_, ?_, ?_⟩
        · intro ds
          induction ds with
          | nil => intro ts h; unfold frzL at h ⊢; exact h
          | cons d ds ih =>
            intro ts h
            unfold frzL at h ⊢
            cases q1 : frz 0 (st b R) (f + 1) d with
            | none => rw [q1] at h; cases h
            | some t => cases q2 : frzL 0 (st b R) (f + 1) ds with
              | none => rw [q1, q2] at h; cases h
              | some us => rw [q1, q2] at h; rw [h1 d t q1, ih us q2]; exact h
        · intro ds
          induction ds with
          | nil => intro ts h; unfold frzK at h ⊢; exact h
          | cons d ds ih =>
            intro ts h
            obtain ⟨k, d⟩ := d
            unfold frzK at h ⊢
            cases q1 : frz 0 (st b R) (f + 1) d with
            | none => rw [q1] at h; cases h
            | some t => cases q2 : frzK 0 (st b R) (f + 1) ds with
              | none => rw [q1, q2] at h; cases h
              | some us => rw [q1, q2] at h; rw [h1 d t q1, ih us q2]; exact h
        · intro ds
          induction ds with
          | nil => intro ts h; unfold frzF at h ⊢; exact h
          | cons d ds ih =>
            intro ts h
            obtain ⟨k, d⟩ := d
            unfold frzF at h ⊢
            cases q1 : frz 0 (st b R) (f + 1) d with
            | none => rw [q1] at h; cases h
            | some t => cases q2 : frzF 0 (st b R) (f + 1) ds with
              | none => rw [q1, q2] at h; cases h
              | some us => rw [q1, q2] at h; rw [h1 d t q1, ih us q2]; exact h
    exact fun f i t h => (aux f).1 (.m i) t h
  match i, hc with
  | 0, hc => cases hc; exact .inl rfl
  | 1, hc => cases hc; exact .inl rfl
  | i + 2, hc =>
    rcases h (i + 2) c hc with h | ⟨t, h⟩
    · exact .inl h
    · exact .inr ⟨t, key _ _ t h⟩
theorem draw_st {many : Int} {X : Ex → Prop} (h1 : 1 ≤ many) (h2 : many < 2 ^ 62) (hb : 1 ≤ b) (q : ∀ (k : Int) b', 0 ≤ k → k < many → b ≤ b' + 1 → Q (.int k) (st b' R)) : ftDraw [.m 1, .t (.v (.int many))] (st b R) Q X := by
  cases b with
  | zero => omega
  | succ n => exact ⟨many, n, rfl, h1, h2, rfl, rfl, fun k h3 h4 => q k n h3 h4 (Nat.le_refl _)⟩
theorem seqA_st {d : D} {ds : List D} (h : seqA (st b R) d = some ds) : seqA (st b' R) d = some ds := by
  cases d with
  | t x => cases x <;> first | exact h | cases h
  | m i =>
    match i, h with
    | 0, h => cases h
    | 1, h => cases h
    | i + 2, h => exact h
theorem seqL_st {d : D} {ds : List D} (h : seqL (st b R) d = some ds) : seqL (st b' R) d = some ds := by
  cases d with
  | t x => cases x <;> first | exact h | cases h
  | m i =>
    match i, h with
    | 0, h => cases h
    | 1, h => cases h
    | i + 2, h => exact h
end
theorem cLen_A {S : Store} {d : D} {ds : List D} {Q : D → Store → Prop} (h : seqA S d = some ds) : cLen [d] S Q = Q (.int ds.length) S := by
  apply propext
  constructor
  · rintro ⟨d', h1, ⟨xs, h2, q⟩ | ⟨x, h2, _⟩⟩
    · cases h1
      rw [h] at h2
      cases h2
      exact q
    · cases h1; subst h2; cases h
  · exact fun q => ⟨_, rfl, .inl ⟨_, h, q⟩⟩
end DL
set_option Elab.async false
set_option linter.all false
set_option maxRecDepth 100000
/-! DL21: comprehensions that draw; defs that call themselves -/
namespace DL
open PySem PySem.Spec PyProof.Rows L2

theorem Paired.snoc' {α β : Type} {F : α → β → Prop} {l₁ : List α} {l₂ : List β} (h : Paired F l₁ l₂) {a : α} {b : β} (r : F a b) : Paired F (l₁ ++ [a]) (l₂ ++ [b]) := Paired.snoc h r
section
variable {X : XQ} {ρ : Env} {Q : D → Store → Prop}
theorem lc_st {g : TGD} {te : TED} {vs : List Nat} {it : ItD} {ts : List T} {b : Nat} {R : Store} (rel : T → T → Prop) (cost : T → Nat) (hi : ItT it ts) (hc : ClosedS (st b R).length (st b R)) (hl : ts.length ≤ sizeLine) (hb : (ts.map cost).sum ≤ b)
    (h : ∀ x ∈ ts, ∀ (b1 : Nat) (c : Cell) (Ky : D → Store → Prop), cost x ≤ b1 → (∀ u b2, rel x u → b1 ≤ b2 + cost x → Ky (.t u) (st b2 (R ++ [c]))) → g (.t x) noX (wipeD ρ vs) (st b1 (R ++ [c])) fun ρ2 S3 => te noX ρ2 S3 Ky)
    (q : ∀ us b', Paired rel ts us → b ≤ b' + (ts.map cost).sum → Q (.t (.lst us)) (st b' R)) : lcTr g dYes te vs ρ it (st b R) Q := by
  refine ⟨fun i acc S' => ∃ b', S' = st b' R ∧ b ≤ b' + ((ts.take i).map cost).sum ∧ i ≤ ts.length ∧ Paired rel (ts.take i) acc, ⟨b, rfl, by simp, Nat.zero_le _, .nil⟩, fun i acc S' ⟨b', e, _, _⟩ => by subst e; exact ⟨rfl, st_closed hc, hi.g _⟩, ?_, ?_⟩
  · rintro i d acc S' hd ⟨b', rfl, hb', hle, hp⟩
    rw [hi.items, List.getElem?_map] at hd
    cases hx : ts[i]? with
    | none => rw [hx] at hd; cases hd
    | some x =>
      rw [hx] at hd
      have hd : D.t x = d := Option.some.inj hd
      subst hd
      obtain ⟨hlt, hx'⟩ := List.getElem?_eq_some_iff.mp hx
      have tk : ts.take (i + 1) = ts.take i ++ [x] := by rw [List.take_succ, hx]; rfl
      have hsum : ((ts.take i).map cost).sum + cost x + ((ts.drop (i + 1)).map cost).sum = (ts.map cost).sum := by
        have : ts = ts.take i ++ x :: ts.drop (i + 1) := by
          rw [← hx', List.getElem_cons_drop, List.take_append_drop]
        conv => rhs; rw [this]
        simp; omega
      have hal : acc.length = i := by rw [← Paired.length hp]; simp; omega
      refine h x (hx' ▸ List.getElem_mem _) b' _ _ (by omega) fun u b2 hr hb2 => ?_
      refine ⟨u, st b2 R, rfl, rfl, by omega, b2, rfl, ?_, hlt, ?_⟩
      · rw [tk, List.map_append, List.sum_append]
        have : ([x].map cost).sum = cost x := by simp
        omega
      · rw [tk]; exact Paired.snoc hp hr
  · rintro acc S' ⟨b', rfl, hb', _, hp⟩
    rw [hi.items] at hb' hp
    simp only [List.length_map, List.take_length] at hb' hp
    exact q acc b' hp hb'
end
theorem fn_false {CT P w K mg base k f fd ps n} : FnOk P w K mg base (L2.CX P w) k f fd ps (spD CT n (fun _ _ _ _ => False)) :=
  ⟨fun _ _ _ _ ⟨_, _, _, _, _, _, _, _, h, _⟩ => h.elim, fun _ _ _ _ _ _ _ _ _ _ _ _ _ ⟨_, _, _, _, _, _, _, _, h, _⟩ => h.elim⟩
def prevF (ft : Nat → FT) : Nat → FT
  | 0 => fun _ _ _ _ => False
  | n + 1 => ft n
theorem rec_ok {CT : TTs} {P : Program} {w : World} {K : PySem.W.Frag} {mg : Str → Option Value} {base : Heap} {x : Str} {ps : List Str} {f : Addr} {fd : FuncData} {lev : Nat} {ft : Nat → FT} (hb : Binds K fd ps []) (hm : mg x = some (.ref f)) (hk : PySem.W.keepIn K (.ref f) = true)
    (h : ∀ n, FnG CT P w K mg base (lev + n) x ps (prevF ft n) → FnOk P w K mg base (L2.CX P w) (lev + n + 1) f fd ps (spD CT ps.length (ft n))) : ∀ n, FnOk P w K mg base (L2.CX P w) (lev + n + 1) f fd ps (spD CT ps.length (ft n))
  | 0 => h 0 ⟨f, fd, fn_false, hb, hm, hk⟩
  | n + 1 => h (n + 1) ⟨f, fd, rec_ok hb hm hk h n, hb, hm, hk⟩
end DL
set_option Elab.async false
set_option linter.all false
set_option maxRecDepth 100000
/-! DL22: trees measured; zip of trees -/
namespace DL
open PySem PySem.Spec PyProof.Rows L2

mutual
/-- tuples as lists -/
def canon : T → T
  | .lst ts => .lst (canons ts)
  | .tup ts => .lst (canons ts)
  | x => x
def canons : List T → List T
  | [] => []
  | t :: ts => canon t :: canons ts
/-- how many things -/
def seqs : T → Nat
  | .lst ts => seqss ts + 1
  | .tup ts => seqss ts + 1
  | _ => 1
def seqss : List T → Nat
  | [] => 0
  | t :: ts => seqs t + seqss ts
end
theorem canons_map (ts : List T) : canons ts = ts.map canon := by induction ts with
  | nil => simp [canons]
  | cons t ts ih => simp [canons, ih]
theorem seqss_map (ts : List T) : seqss ts = (ts.map seqs).sum := by induction ts with
  | nil => simp [seqss]
  | cons t ts ih => simp [seqss, ih]
theorem seqs_pos (x : T) : 1 ≤ seqs x := by cases x <;> simp [seqs]
theorem len_seqs : ∀ ts : List T, ts.length ≤ (ts.map seqs).sum
  | [] => by simp
  | t :: ts => by have := seqs_pos t; have := len_seqs ts; simp; omega
theorem seqs_mem {t : T} : ∀ {ts : List T}, t ∈ ts → seqs t ≤ (ts.map seqs).sum
  | u :: ts, h => by
    rcases List.mem_cons.mp h with rfl | h
    · simp
    · have := seqs_mem h; simp; omega
theorem canon_scalar {x : T} (h : isSeq x = false) : canon x = x := by cases x <;> simp_all [canon, isSeq]
theorem paired_canon : ∀ {ts us : List T}, Paired (fun x y => canon y = canon x) ts us → us.map canon = ts.map canon
  | _, _, .nil => rfl
  | _, _, .cons r h => by simp [r, paired_canon h]
theorem dat_em {n : Nat} {x : T} {ts : List T} (h : dat n x = true) (hs : seqOf x = some ts) : ∃ m, n = m + 1 ∧ ∀ t ∈ ts, dat m t = true := by
  cases n with
  | zero => cases x <;> first | (cases hs; done) | simp [dat] at h
  | succ m =>
    refine ⟨m, rfl, ?_⟩
    cases x with
    | lst us => cases hs; exact dat_lst.mp h
    | tup us => cases hs; exact dat_tup.mp h
    | _ => cases hs
theorem seqs_of {x : T} {ts : List T} (hs : seqOf x = some ts) : seqs x = (ts.map seqs).sum + 1 ∧ canon x = .lst (ts.map canon) := by
  cases x with
  | lst us => cases hs; simp [seqs, seqss_map, canon, canons_map]
  | tup us => cases hs; simp [seqs, seqss_map, canon, canons_map]
  | _ => cases hs
theorem paired_all {p : T → Prop} {ts us : List T} {F : T → T → Prop} (h : Paired F ts us) (hF : ∀ x y, F x y → p y) : ∀ u ∈ us, p u := by
  induction h with
  | nil => intro u hu; cases hu
  | cons r _ ih =>
    intro u hu
    rcases List.mem_cons.mp hu with rfl | hu
    · exact hF _ _ r
    · exact ih u hu
theorem zipT_x {S : Store} {x y : T} {xs ys : List T} (hs : (x = .lst xs ∧ y = .lst ys) ∨ (x = .tup xs ∧ y = .tup ys)) {R : ItD → Store → Prop} (q : ∀ it, ItT it ((xs.zip ys).map fun p => .tup [p.1, p.2]) → R it S) : zipI [.t x, .t y] S R := by
  have e : zips (xs.map .t) (ys.map .t) = ((xs.zip ys).map fun p => T.tup [p.1, p.2]).map D.t := by
    clear hs q
    induction xs generalizing ys with
    | nil => cases ys <;> simp [zips]
    | cons a xs ih =>
      cases ys with
      | nil => simp [zips]
      | cons b ys => simp only [List.map_cons, List.zip_cons_cons]; rw [zips, ih]
  rcases hs with ⟨rfl, rfl⟩ | ⟨rfl, rfl⟩
  · exact ⟨_, _, xs.map .t, ys.map .t, rfl, allT_map _, allT_map _, .inl ⟨rfl, rfl, q _ ⟨e, fun _ => ⟨rfl, rfl⟩⟩⟩⟩
  · exact ⟨_, _, xs.map .t, ys.map .t, rfl, allT_map _, allT_map _, .inr ⟨rfl, rfl, q _ ⟨e, fun _ => ⟨rfl, rfl⟩⟩⟩⟩
theorem zip_self {α : Type} : ∀ {ts : List α} {a b : α}, (a, b) ∈ ts.zip ts → a = b ∧ a ∈ ts
  | t :: ts, a, b, h => by
    rcases List.mem_cons.mp (show (a, b) ∈ (t, t) :: ts.zip ts from h) with h | h
    · cases h; exact ⟨rfl, by simp⟩
    · obtain ⟨h1, h2⟩ := zip_self h
      exact ⟨h1, by simp [h2]⟩
theorem isi_seqd {Cs : CF} {x : T} {S : Store} {Q : D → Store → Prop} (h : ok1 Cs x) (q : Q (.bl (isSeq x || isDct x)) S) : cIsi Cs [.t x, .t (.tup [.v (.ty "list"), .v (.ty "tuple"), .v (.ty "dict")])] S Q := by
  obtain ⟨ty, e, hC⟩ := h
  have key : isaL Cs ty [.ty "list", .ty "tuple", .ty "dict"] = some (isSeq x || isDct x) := by
    cases x with
    | v y =>
      cases y <;> cases e <;> first | rfl | skip
      have h1 := isa_fn_ty (Cs := Cs) (n := "list") hC (by decide +kernel)
      have h2 := isa_fn_ty (Cs := Cs) (n := "tuple") hC (by decide +kernel)
      have h3 := isa_fn_ty (Cs := Cs) (n := "dict") hC (by decide +kernel)
      simp only [isaL, h1, h2, h3]
      rfl
    | ins C fs =>
      cases e
      have h1 := isa_own_ty (Cs := Cs) (n := "list") hC (by simp)
      have h2 := isa_own_ty (Cs := Cs) (n := "tuple") hC (by simp)
      have h3 := isa_own_ty (Cs := Cs) (n := "dict") hC (by simp)
      simp only [isaL, h1, h2, h3]
      rfl
    | _ => cases e; rfl
  exact ⟨.t x, ty, e, .inr ⟨[.ty "list", .ty "tuple", .ty "dict"], _, by simp, rfl, key, q⟩⟩
end DL
set_option Elab.async false
set_option linter.all false
set_option maxRecDepth 100000
/-! DL23: trees told, lists joined -/
namespace DL
open PySem PySem.Spec PyProof.Rows L2

theorem rTree_t {n : Nat} {S S0 : Store} {Q : D → Store → Prop} {t : T} (hs : S.take n = S0) (hc : ClosedS n S0) (q : Q (.t t) S0) : rTree n Q (.t t) S := ⟨t, by unfold frz; rfl, by rw [hs]; exact hc, by rw [hs]; exact q⟩
theorem oAdd_s {S : Store} {x y : D} {xs ys : List T} {Q : D → Store → Prop} (h1 : seqL S x = some (xs.map .t)) (h2 : seqL S y = some (ys.map .t)) (hl : xs.length + ys.length ≤ sizeLine) (q : Q (.t (.lst (xs ++ ys))) S) : oAdd x y S Q :=
  .inr ⟨_, _, xs ++ ys, h1, h2, by simpa using hl, by rw [← List.map_append, asTs_map], q⟩
theorem st_take_app {b : Nat} {R R' : Store} {n : Nat} (h : n = R.length + 2) : (st b (R ++ R')).take n = st b R := by
  subst h
  rw [st_take, List.take_left' rfl]
@[simp] theorem cutG_to0 {α : Type} {xs : List α} : cutG xs none (some 0) = xs.take 0 := cutG_to (k := 0)
@[simp] theorem cutG_fr0 {α : Type} {xs : List α} : cutG xs (some 0) none = xs.drop 0 := cutG_from (k := 0)
@[simp] theorem cutG_to1 {α : Type} {xs : List α} : cutG xs none (some 1) = xs.take 1 := cutG_to (k := 1)
@[simp] theorem cutG_fr1 {α : Type} {xs : List α} : cutG xs (some 1) none = xs.drop 1 := cutG_from (k := 1)
@[simp] theorem cutG_to2 {α : Type} {xs : List α} : cutG xs none (some 2) = xs.take 2 := cutG_to (k := 2)
@[simp] theorem cutG_fr2 {α : Type} {xs : List α} : cutG xs (some 2) none = xs.drop 2 := cutG_from (k := 2)
@[simp] theorem cutG_to3 {α : Type} {xs : List α} : cutG xs none (some 3) = xs.take 3 := cutG_to (k := 3)
@[simp] theorem cutG_fr3 {α : Type} {xs : List α} : cutG xs (some 3) none = xs.drop 3 := cutG_from (k := 3)
@[simp] theorem cutG_to4 {α : Type} {xs : List α} : cutG xs none (some 4) = xs.take 4 := cutG_to (k := 4)
@[simp] theorem cutG_fr4 {α : Type} {xs : List α} : cutG xs (some 4) none = xs.drop 4 := cutG_from (k := 4)
@[simp] theorem cutG_to5 {α : Type} {xs : List α} : cutG xs none (some 5) = xs.take 5 := cutG_to (k := 5)
@[simp] theorem cutG_fr5 {α : Type} {xs : List α} : cutG xs (some 5) none = xs.drop 5 := cutG_from (k := 5)
@[simp] theorem st_last {b : Nat} {R : Store} {c : Cell} : (st b (R ++ [c]))[R.length + 2]? = some c := by rw [st_get, List.getElem?_append_right (Nat.le_refl _)]; simp
@[simp] theorem st_setlast {b : Nat} {R : Store} {c c' : Cell} : (st b (R ++ [c])).set (R.length + 2) c' = st b (R ++ [c']) := by rw [st_set, List.set_append_right _ _ (Nat.le_refl _)]; simp
@[simp] theorem st_takelast {b : Nat} {R R' : Store} : (st b (R ++ R')).take (R.length + 2) = st b R := st_take_app rfl
@[simp] theorem tyLst_last {b : Nat} {R : Store} {ds : List D} : tyLst (.m (R.length + 2)) (st b (R ++ [.lst ds])) := tyLst_m st_last
theorem append_last {b : Nat} {R : Store} {ds : List D} {y : D} {Q : D → Store → Prop} (h : ds.length < sizeLine) (q : Q .non (st b (R ++ [.lst (ds ++ [y])]))) : mAppend (.m (R.length + 2)) [y] (st b (R ++ [.lst ds])) Q := append_of st_last h (by simpa using q)
end DL
set_option Elab.async false
set_option linter.all false
set_option maxRecDepth 100000
/-! DL24: comprehensions over cells of trees; ints of a permutation; index -/
namespace DL
open PySem PySem.Spec PyProof.Rows L2

section
variable {X : XQ} {ρ : Env} {S : Store} {Q : D → Store → Prop}
theorem lc_fmG {g : TGD} {tt : TTD} {te : TED} {vs : List Nat} {it : ItD} {ts : List T} (p : T → Bool) (e : T → T) (hi : ItG S it (ts.map .t)) (hc : ClosedS S.length S) (hl : ts.length ≤ sizeLine)
    (h : ∀ x ∈ ts, ∀ (S2 : Store) (Ky : D → Store → Prop) (Kn : Store → Prop), (p x = true → Ky (.t (e x)) S2) → (p x = false → Kn S2) → g (.t x) noX (wipeD ρ vs) S2 fun ρ2 S3 => tt noX ρ2 S3 fun b S4 => if b = true then te noX ρ2 S4 Ky else Kn S4)
    (q : Q (.t (.lst ((ts.filter p).map e))) S) : lcTr g tt te vs ρ it S Q := by
  refine ⟨fun i acc S' => S' = S ∧ i ≤ ts.length ∧ acc = ((ts.take i).filter p).map e, ⟨rfl, Nat.zero_le _, by simp⟩, fun i acc S' ⟨e, _, _⟩ => by subst e; exact ⟨rfl, hc, hi.g _⟩, ?_, ?_⟩
  · rintro i d acc S' hd ⟨rfl, hle, rfl⟩
    rw [hi.items, List.getElem?_map] at hd
    cases hx : ts[i]? with
    | none => rw [hx] at hd; cases hd
    | some x =>
      rw [hx] at hd
      have hd : D.t x = d := Option.some.inj hd
      subst hd
      obtain ⟨hlt, hx'⟩ := List.getElem?_eq_some_iff.mp hx
      have tk : ts.take (i + 1) = ts.take i ++ [x] := by rw [List.take_succ, hx]; rfl
      have tl : ((ts.take i).filter p).length ≤ i := Nat.le_trans (List.length_filter_le _ _) (by simp; omega)
      refine h x (hx' ▸ List.getElem_mem _) _ _ _ (fun hp => ⟨e x, S', rfl, rfl, by simp; omega, rfl, hlt, ?_⟩) (fun hp => ⟨S', rfl, rfl, hlt, ?_⟩)
      · rw [tk, List.filter_append]; simp [hp]
      · rw [tk, List.filter_append]; simp [hp]
  · rintro acc S' ⟨rfl, _, rfl⟩
    rw [hi.items]
    simpa using q
end
theorem zips_map {xs ys : List T} : zips (xs.map .t) (ys.map .t) = ((xs.zip ys).map fun p => T.tup [p.1, p.2]).map D.t := by
  induction xs generalizing ys with
  | nil => cases ys <;> simp [zips]
  | cons a xs ih =>
    cases ys with
    | nil => simp [zips]
    | cons b ys => simp only [List.map_cons, List.zip_cons_cons]; rw [zips, ih]
theorem zipG {S : Store} {x y : D} {xs ys : List T} (hx : seqL S x = some (xs.map .t)) (hy : seqL S y = some (ys.map .t)) {R : ItD → Store → Prop} (q : ∀ it, ItG S it (((xs.zip ys).map fun p => T.tup [p.1, p.2]).map .t) → R it S) : zipI [x, y] S R :=
  ⟨x, y, xs.map .t, ys.map .t, rfl, allT_map _, allT_map _, .inl ⟨hx, hy, q _ ⟨zips_map, fun _ => ⟨seqL_app hx, seqL_app hy⟩⟩⟩⟩
theorem extend_of {S : Store} {i : Nat} {xs ys : List D} {y : D} {Q : D → Store → Prop} (h : S[i]? = some (.lst xs)) (hy : seqL S y = some ys) (hl : xs.length + ys.length ≤ sizeLine) (q : Q .non (S.set i (.lst (xs ++ ys)))) : mExtend (.m i) [y] S Q := ⟨i, xs, y, ys, rfl, rfl, h, hy, hl, q⟩
theorem slD_m {S : Store} {i : Nat} {ts : List T} {lo hi : Option Int} {Q : D → Store → Prop} (h : S[i]? = some (.lst (ts.map .t))) (q : Q (.t (.lst (cutG ts lo hi))) S) : slD (.m i) lo hi S Q := ⟨_, cutG ts lo hi, by rw [cutG_map, asTs_map], .inl ⟨seqL_m h, q⟩⟩
theorem perm_ints {L : List Int} : ∀ {us : List T}, us.Perm (L.map .int) → ∃ M : List Int, us = M.map .int ∧ M.Perm L := by
  intro us h
  have hus : ∀ u ∈ us, ∃ i : Int, u = .int i := fun u hu => by
    have := h.mem_iff.mp hu
    obtain ⟨i, _, rfl⟩ := List.mem_map.mp this
    exact ⟨i, rfl⟩
  have ex : ∀ (us : List T), (∀ u ∈ us, ∃ i : Int, u = .int i) → ∃ M : List Int, us = M.map .int := by
    intro us
    induction us with
    | nil => intro _; exact ⟨[], rfl⟩
    | cons u us ih =>
      intro h
      obtain ⟨i, rfl⟩ := h u (by simp)
      obtain ⟨M, rfl⟩ := ih fun v hv => h v (by simp [hv])
      exact ⟨i :: M, rfl⟩
  obtain ⟨M, rfl⟩ := ex us hus
  refine ⟨M, rfl, ?_⟩
  have inv : ∀ (L : List Int), (L.map T.int).map (fun t => match t with | .v (.int i) => i | _ => 0) = L := by
    intro L; induction L with
    | nil => rfl
    | cons a L ih => rw [List.map_cons, List.map_cons, ih]
  have := h.map (fun t => match t with | T.v (V.int i) => i | _ => (0 : Int))
  rwa [inv, inv] at this
def iLL (L : List Int) : T := .lst (L.map .int)
theorem index_ints {S : Store} {L : List Int} {z : Int} {Q : D → Store → Prop} (h : z ∈ L) (q : Q (.int (L.idxOf z : Nat)) S) : mIndexT (.t (.lst (L.map .int))) [.t (.v (.int z))] S Q := by
  have hlt : L.idxOf z < L.length := List.idxOf_lt_length_iff.mpr h
  refine ⟨L.map .int, .int z, .int z, .int z, L.idxOf z, rfl, tree_t, tree_t, ?_, by simp, ?_, by simp, ?_, q⟩
  · rw [dat_lst]; intro t ht; simp at ht; obtain ⟨i, _, rfl⟩ := ht; exact dat_int
  · rw [List.getElem?_map, List.getElem?_eq_getElem hlt]; simp
  · intro m u hm hu
    rw [List.getElem?_map] at hu
    cases hx : L[m]? with
    | none => rw [hx] at hu; cases hu
    | some y =>
      rw [hx] at hu
      have hu : T.int y = u := Option.some.inj hu
      subst hu
      have hne : y ≠ z := by
        intro e
        subst e
        have hm2 : m < L.length := by omega
        have : L[m] = y := by rw [List.getElem?_eq_getElem hm2] at hx; exact Option.some.inj hx
        have hf := List.not_of_lt_findIdx (p := (· == y)) (xs := L) (i := m) hm
        simp [this] at hf
      simp [hne]
theorem idx_inj {L : List Int} {x y : Int} (hx : x ∈ L) (hy : y ∈ L) (h : L.idxOf x = L.idxOf y) : x = y := by
  have h1 := List.getElem_idxOf (List.idxOf_lt_length_iff.mpr hx)
  have h2 := List.getElem_idxOf (List.idxOf_lt_length_iff.mpr hy)
  rw [← h1, ← h2]
  congr 1
/-- begins and ends apart: two neighbours differ -/
theorem adj_diff : ∀ (l : List Int) (u w : Int), u ≠ w → ∃ p ∈ (u :: (l ++ [w])).zip (l ++ [w]), p.1 ≠ p.2
  | [], u, w, h => ⟨(u, w), by simp, h⟩
  | a :: l, u, w, h => by
    by_cases hu : u = a
    · subst hu
      obtain ⟨p, hp, h2⟩ := adj_diff l u w h
      exact ⟨p, by simp at hp ⊢; exact .inr hp, h2⟩
    · exact ⟨(u, a), by simp, hu⟩
theorem ClosedR.app {R : Store} {c : Cell} (h : ClosedR (R.length + 2) R) (hc : refC (R.length + 3) c) : ClosedR ((R ++ [c]).length + 2) (R ++ [c]) := fun c' hm => by
  rw [List.length_append]
  rcases List.mem_append.mp hm with hm | hm
  · exact refC_mono (Nat.le_succ _) (h c' hm)
  · have : c' = c := by simpa using hm
    subst this
    exact hc
theorem ClosedR.set {R : Store} {n i : Nat} {c : Cell} (h : ClosedR n R) (hc : refC n c) : ClosedR n (R.set i c) := fun c' hm => by
  rcases List.mem_or_eq_of_mem_set hm with hm | rfl
  · exact h c' hm
  · exact hc
end DL
set_option Elab.async false
set_option linter.all false
set_option maxRecDepth 100000
/-! DL25: cells of cells: lists of lists that are copied, changed; a for over two things -/
namespace DL
open PySem PySem.Spec PyProof.Rows L2
theorem rTree_of {n : Nat} {S : Store} {Q : D → Store → Prop} {d : D} {t : T} {S0 : Store} (h : frz n S (S.length + 1) d = some t) (hs : S.take n = S0) (hc : ClosedS n S0) (q : Q (.t t) S0) : rTree n Q d S := ⟨t, h, by rw [hs]; exact hc, by rw [hs]; exact q⟩
@[simp] theorem rt_tree {n Q} : Mode.tree.rt n Q = rTree n Q := rfl
variable {X : XQ} {ρ : Env} {S : Store} {De : DEnds} {Q : D → Store → Prop}
/-! ### cells by number -/
theorem get_at {R : Store} {j : Nat} : (S ++ R)[S.length + j]? = R[j]? := by
  rw [List.getElem?_append_right (Nat.le_add_right _ _), Nat.add_sub_cancel_left]
theorem set_at {R : Store} {j : Nat} {c : Cell} : (S ++ R).set (S.length + j) c = S ++ R.set j c := by
  rw [List.set_append_right _ _ (Nat.le_add_right _ _), Nat.add_sub_cancel_left]
def refs (a k : Nat) : List D := (List.range k).map fun i => D.m (a + i)
theorem refs_succ {a k : Nat} : refs a (k + 1) = refs a k ++ [.m (a + k)] := by simp [refs, List.range_succ]
@[simp] theorem refs_len {a k : Nat} : (refs a k).length = k := by simp [refs]
theorem refs_get {a k i : Nat} (h : i < k) : (refs a k)[i]? = some (.m (a + i)) := by simp [refs, h]
def nestC (a : Nat) (rows : List (List T)) : Store := .lst (refs (a + 1) rows.length) :: rows.map fun r => .lst (r.map .t)
@[simp] theorem nestC_len {a : Nat} {rows : List (List T)} : (nestC a rows).length = rows.length + 1 := by simp [nestC]
/-- a list of lists of trees at a, the inner ones behind it -/
structure Nest (S : Store) (a : Nat) (rows : List (List T)) : Prop where
  top : S[a]? = some (.lst (refs (a + 1) rows.length))
  row : ∀ (i : Nat) r, rows[i]? = some r → S[a + 1 + i]? = some (.lst (r.map .t))
theorem nest_app {rows : List (List T)} : Nest (S ++ nestC S.length rows) S.length rows where
  top := by have := get_at (S := S) (R := nestC S.length rows) (j := 0); simpa [nestC] using this
  row := fun i r h => by
    rw [Nat.add_assoc, Nat.add_comm 1 i, get_at]
    show (rows.map fun r => Cell.lst (r.map .t))[i]? = _
    rw [List.getElem?_map, h]; rfl
theorem Nest.app {a : Nat} {rows : List (List T)} (h : Nest S a rows) (R : Store) : Nest (S ++ R) a rows where
  top := by rw [List.getElem?_append_left (List.getElem?_eq_some_iff.mp h.top).1]; exact h.top
  row := fun i r e => by have := h.row i r e; rw [List.getElem?_append_left (List.getElem?_eq_some_iff.mp this).1]; exact this
/-- [list(x) for x in rows], the copies are cells -/
theorem lc_nest {v : Nat} {it : ItD} {rows : List (List T)} (hi : ItT it (rows.map .tup)) (hv : v < ρ.length) (hz : rows.length < sizeLine) (q : Q (.m S.length) (S ++ nestC S.length rows)) : lcIn (gVar v) dYes (dCB cListM (dCons (dVar v) dNil)) [v] ρ it S Q := by
  refine ⟨fun i S' => S' = S ++ nestC S.length (rows.take i) ∧ i ≤ rows.length, ⟨by simp [nestC, refs], Nat.zero_le _⟩, fun i S' _ => hi.g S', ?_, ?_⟩
  · rintro i d S' hd ⟨rfl, hle⟩
    rw [hi.items, List.getElem?_map, List.getElem?_map] at hd
    cases hx : rows[i]? with
    | none => rw [hx] at hd; cases hd
    | some r =>
      rw [hx] at hd
      have hd : D.t (T.tup r) = d := Option.some.inj hd
      subst hd
      obtain ⟨hlt, hx'⟩ := List.getElem?_eq_some_iff.mp hx
      have tk : rows.take (i + 1) = rows.take i ++ [r] := by rw [List.take_succ, hx]; rfl
      have hl : (rows.take i).length = i := by simp; omega
      have hg : ((wipeD ρ [v]).set v (some (D.t (.tup r))))[v]? = some (some (D.t (.tup r))) := by
        rw [List.getElem?_set_self (by simp [wipeD, hv])]
      simp only [gVar_e, dYes, if_true]
      show dCB cListM (dCons (dVar v) dNil) noX _ _ _
      refine ⟨_, hg, ?_⟩
      simp only [dNil_e]
      rw [cListM_x rfl]
      have g0 : (S ++ nestC S.length (rows.take i) ++ [Cell.lst (r.map D.t)])[S.length]? = some (.lst (refs (S.length + 1) i)) := by
        rw [List.append_assoc]
        have := get_at (S := S) (R := nestC S.length (rows.take i) ++ [Cell.lst (r.map D.t)]) (j := 0)
        simpa [nestC, hl] using this
      refine ⟨_, g0, by simp; omega, ?_, hlt⟩
      rw [List.append_assoc]
      have := set_at (S := S) (R := nestC S.length (rows.take i) ++ [Cell.lst (r.map D.t)]) (j := 0) (c := .lst (refs (S.length + 1) i ++ [.m (S ++ nestC S.length (rows.take i)).length]))
      rw [Nat.add_zero] at this
      rw [this]
      congr 1
      have e : (S ++ nestC S.length (rows.take i)).length = S.length + 1 + i := by simp [hl]; omega
      rw [e, ← refs_succ, tk]
      simp [nestC, hl]
  · rintro S' ⟨rfl, _⟩
    rw [hi.items] at *
    simpa using q
/-- for over two things -/
theorem for_two {g : TGD} {tb : TSD} {it : ItD} {d0 d1 : D} {P1 P2 : Env → Store → Prop} (hi : it.items = [d0, d1]) (g0 : it.g S) (g1 : ∀ ρ S, P1 ρ S → it.g S) (g2 : ∀ ρ S, P2 ρ S → it.g S)
    (b0 : ∀ De' : DEnds, De'.nx = P1 → De'.ct = P1 → De'.ex = De.ex → g d0 De.ex ρ S fun ρ2 S2 => tb De' ρ2 S2)
    (b1 : ∀ De' : DEnds, De'.nx = P2 → De'.ct = P2 → De'.ex = De.ex → ∀ ρ S, P1 ρ S → g d1 De.ex ρ S fun ρ2 S2 => tb De' ρ2 S2)
    (pn : ∀ ρ S, P2 ρ S → De.nx ρ S) : forI g tb De ρ it S := by
  refine ⟨fun i ρ' S' => match i with
    | 0 => ρ' = ρ ∧ S' = S
    | 1 => P1 ρ' S'
    | _ => P2 ρ' S', ⟨rfl, rfl⟩, ?_, ?_, ?_⟩
  · rintro (_ | _ | i) ρ' S' h
    · obtain ⟨rfl, rfl⟩ := h; exact g0
    · exact g1 _ _ h
    · exact g2 _ _ h
  · rintro (_ | _ | i) d ρ' S' hd h
    · obtain ⟨rfl, rfl⟩ := h
      rw [hi] at hd
      cases hd
      exact b0 { De with nx := P1, ct := P1, bk := De.nx } rfl rfl rfl
    · rw [hi] at hd
      cases hd
      exact b1 { De with nx := P2, ct := P2, bk := De.nx } rfl rfl rfl _ _ h
    · rw [hi] at hd
      simp at hd
  · intro ρ' S' h
    rw [hi] at h
    exact pn _ _ h
/-! ### cells that refer to cells of lesser rank -/
def dsOf : Cell → List D
  | .lst ds => ds
  | .tup ds => ds
  | .ins _ fs => fs.map (·.2)
  | .dct kvs => kvs.map (·.2)
  | _ => []
def Cell.plain : Cell → Bool
  | .lst _ => true
  | .tup _ => true
  | .ins _ _ => true
  | .dct _ => true
  | _ => false
def refR (n m : Nat) (rk : Nat → Nat) (r : Nat) (d : D) : Prop := (∃ x, d = .t x) ∨ ∃ j, d = .m j ∧ n ≤ j ∧ j < m ∧ rk j < r
/-- S0, then cells that refer to such cells of lesser rank alone -/
structure KR (S0 : Store) (rk : Nat → Nat) (S : Store) : Prop where
  pre : S.take S0.length = S0
  len : S0.length ≤ S.length
  ok : ∀ i c, S0.length ≤ i → S[i]? = some c → c.plain = true ∧ ∀ d ∈ dsOf c, refR S0.length S.length rk (rk i) d
theorem refR.mono {n m m' : Nat} {rk : Nat → Nat} {r : Nat} {d : D} (h : refR n m rk r d) (hm : m ≤ m') : refR n m' rk r d := by
  rcases h with h | ⟨j, e, h1, h2, h3⟩
  · exact .inl h
  · exact .inr ⟨j, e, h1, by omega, h3⟩
theorem KR.nil {S0 : Store} {rk : Nat → Nat} : KR S0 rk S0 := ⟨by simp, Nat.le_refl _, fun i c h e => by have := (List.getElem?_eq_some_iff.mp e).1; omega⟩
theorem KR.app {S0 R : Store} {rk : Nat → Nat} (h : KR S0 rk S) (hR : ∀ j c, R[j]? = some c → c.plain = true ∧ ∀ d ∈ dsOf c, refR S0.length (S.length + R.length) rk (rk (S.length + j)) d) : KR S0 rk (S ++ R) where
  pre := by rw [List.take_append_of_le_length h.len]; exact h.pre
  len := by have := h.len; simp; omega
  ok := fun i c hi e => by
    rcases Nat.lt_or_ge i S.length with hl | hl
    · rw [List.getElem?_append_left hl] at e
      obtain ⟨h1, h2⟩ := h.ok i c hi e
      exact ⟨h1, fun d hd => (h2 d hd).mono (by simp)⟩
    · rw [List.getElem?_append_right hl] at e
      obtain ⟨h1, h2⟩ := hR _ c e
      rw [show S.length + (i - S.length) = i by omega] at h2
      exact ⟨h1, fun d hd => (h2 d hd).mono (by simp)⟩
theorem KR.set {S0 : Store} {rk : Nat → Nat} (h : KR S0 rk S) {i : Nat} {c : Cell} (hi : S0.length ≤ i) (hp : c.plain = true) (hc : ∀ d ∈ dsOf c, refR S0.length S.length rk (rk i) d) : KR S0 rk (S.set i c) where
  pre := by rw [List.take_set_of_le hi]; exact h.pre
  len := by simpa using h.len
  ok := fun j c' hj e => by
    rw [List.length_set]
    by_cases hji : i = j
    · subst hji
      by_cases hl : i < S.length
      · rw [List.getElem?_set_self hl] at e; cases e; exact ⟨hp, hc⟩
      · rw [List.getElem?_eq_none (by simp; omega)] at e; cases e
    · rw [List.getElem?_set_ne hji] at e; exact h.ok j c' hj e
theorem KR.closed {S0 : Store} {rk : Nat → Nat} (h : KR S0 rk S) (hc : ClosedS S0.length S0) : ClosedS S.length S := by
  intro c hm
  obtain ⟨i, hi⟩ := List.getElem?_of_mem hm
  rcases Nat.lt_or_ge i S0.length with hl | hl
  · have e : S0[i]? = some c := by rw [← h.pre, List.getElem?_take_of_lt hl]; exact hi
    exact refC_mono h.len (hc c (List.mem_of_getElem? e))
  · obtain ⟨hp, h2⟩ := h.ok i c hl hi
    have key : ∀ d ∈ dsOf c, refD S.length d := fun d hd => by
      rcases h2 d hd with ⟨x, rfl⟩ | ⟨j, rfl, _, hj, _⟩
      · exact True.intro
      · exact hj
    cases c with
    | lst ds => exact key
    | tup ds => exact key
    | ins C fs => exact fun p hpm => key p.2 (List.mem_map.mpr ⟨p, hpm, rfl⟩)
    | dct kvs => exact fun p hpm => key p.2 (List.mem_map.mpr ⟨p, hpm, rfl⟩)
    | _ => cases hp
theorem frzL_all {n : Nat} {f : Nat} : ∀ {ds : List D}, (∀ d ∈ ds, ∃ t, frz n S f d = some t) → ∃ ts, frzL n S f ds = some ts
  | [], _ => ⟨[], by unfold frzL; rfl⟩
  | d :: ds, h => by
    obtain ⟨t, ht⟩ := h d (by simp)
    obtain ⟨ts, hts⟩ := frzL_all (ds := ds) fun d' hd' => h d' (by simp [hd'])
    exact ⟨t :: ts, by unfold frzL; rw [ht, hts]⟩
theorem frzF_all {n : Nat} {f : Nat} : ∀ {ds : List (Str × D)}, (∀ d ∈ ds.map (·.2), ∃ t, frz n S f d = some t) → ∃ ts, frzF n S f ds = some ts
  | [], _ => ⟨[], by unfold frzF; rfl⟩
  | (k, d) :: ds, h => by
    obtain ⟨t, ht⟩ := h d (by simp)
    obtain ⟨ts, hts⟩ := frzF_all (ds := ds) fun d' hd' => h d' (by simp at hd'; simp; exact .inr hd')
    exact ⟨(k, t) :: ts, by unfold frzF; rw [ht, hts]⟩
theorem frzK_all {n : Nat} {f : Nat} : ∀ {ds : List (Key × D)}, (∀ d ∈ ds.map (·.2), ∃ t, frz n S f d = some t) → ∃ ts, frzK n S f ds = some ts
  | [], _ => ⟨[], by unfold frzK; rfl⟩
  | (k, d) :: ds, h => by
    obtain ⟨t, ht⟩ := h d (by simp)
    obtain ⟨ts, hts⟩ := frzK_all (ds := ds) fun d' hd' => h d' (by simp at hd'; simp; exact .inr hd')
    exact ⟨(k, t) :: ts, by unfold frzK; rw [ht, hts]⟩
theorem KR.frz {S0 : Store} {rk : Nat → Nat} (h : KR S0 rk S) {n : Nat} (hn : n ≤ S0.length) : ∀ (f i : Nat), S0.length ≤ i → i < S.length → rk i < f → ∃ t, frz n S f (.m i) = some t
  | 0, i, _, _, hf => absurd hf (Nat.not_lt_zero _)
  | f + 1, i, hi, hl, hf => by
    have e : S[i]? = some S[i] := List.getElem?_eq_getElem hl
    generalize S[i] = c at e
    obtain ⟨hp, h2⟩ := h.ok i c hi e
    have key : ∀ d ∈ dsOf c, ∃ t, DL.frz n S f d = some t := fun d hd => by
      rcases h2 d hd with ⟨x, rfl⟩ | ⟨j, rfl, h3, h4, h5⟩
      · exact ⟨x, by unfold DL.frz; rfl⟩
      · exact KR.frz h hn f j h3 h4 (by omega)
    have hni : n ≤ i := Nat.le_trans hn hi
    unfold DL.frz
    rw [e]
    cases c with
    | lst ds => obtain ⟨ts, ht⟩ := frzL_all (ds := ds) key; exact ⟨.lst ts, by simp [hni, ht]⟩
    | tup ds => obtain ⟨ts, ht⟩ := frzL_all (ds := ds) key; exact ⟨.tup ts, by simp [hni, ht]⟩
    | ins C fs => obtain ⟨ts, ht⟩ := frzF_all (ds := fs) key; exact ⟨.ins C ts, by simp [hni, ht]⟩
    | dct kvs => obtain ⟨ts, ht⟩ := frzK_all (ds := kvs) key; exact ⟨.dct ts, by simp [hni, ht]⟩
    | _ => cases hp
theorem KR.allFz {S0 : Store} {rk : Nat → Nat} (h : KR S0 rk S) (ha : AllFz S0) (hb : ∀ i, rk i ≤ S.length) : AllFz S := by
  intro i c e
  rcases Nat.lt_or_ge i S0.length with hl | hl
  · have e' : S0[i]? = some c := by rw [← h.pre, List.getElem?_take_of_lt hl]; exact e
    rcases ha i c e' with h1 | ⟨t, ht⟩
    · exact .inl h1
    · right
      have hs : S = S0 ++ S.drop S0.length := by conv => lhs; rw [← List.take_append_drop S0.length S, h.pre]
      have := frz_app (R := S.drop S0.length) _ _ _ ht
      rw [← hs] at this
      exact ⟨t, frz_le this (by have := h.len; omega)⟩
  · exact .inr (h.frz (Nat.zero_le _) _ i hl (List.getElem?_eq_some_iff.mp e).1 (Nat.lt_succ_of_le (hb i)))
/-- a nest read as a tree -/
theorem frzL_refs {n f a : Nat} {rows : List (List T)} : ∀ (k : Nat), n ≤ a → k ≤ rows.length → (∀ (i : Nat) r, rows[i]? = some r → S[a + i]? = some (.lst (r.map .t))) → frzL n S (f + 1) ((List.range' k (rows.length - k)).map fun i => D.m (a + i)) = some ((rows.drop k).map .lst) := by
  intro k hn hk h
  generalize hd : rows.length - k = m
  induction m generalizing k with
  | zero => rw [List.drop_eq_nil_of_le (by omega)]; simp [frzL]
  | succ m ih =>
    have hlt : k < rows.length := by omega
    have e := h k rows[k] (List.getElem?_eq_getElem hlt)
    rw [List.range'_succ, List.map_cons, List.drop_eq_getElem_cons hlt, List.map_cons]
    unfold frzL
    rw [frz_lst e (by omega), ih (k + 1) (by omega) (by omega)]
theorem Nest.frz {a n f : Nat} {rows : List (List T)} (h : Nest S a rows) (hn : n ≤ a) : frz n S (f + 2) (.m a) = some (.lst (rows.map .lst)) := by
  have := frzL_refs (S := S) (f := f) (n := n) (a := a + 1) (rows := rows) 0 (by omega) (Nat.zero_le _) h.row
  unfold DL.frz
  rw [h.top]
  simp only [if_pos hn]
  rw [show refs (a + 1) rows.length = (List.range' 0 (rows.length - 0)).map fun i => D.m (a + 1 + i) by simp [refs, List.range_eq_range'], this]
  simp
theorem Nest.tree {a : Nat} {rows : List (List T)} (h : Nest S a rows) : D.tree S (.m a) = some (.lst (rows.map .lst)) := by
  unfold D.tree
  have := (List.getElem?_eq_some_iff.mp h.top).1
  obtain ⟨k, hk⟩ : ∃ k, S.length + 1 = k + 2 := ⟨S.length - 1, by omega⟩
  rw [hk]
  exact h.frz (Nat.zero_le _)
end DL
set_option Elab.async false
set_option linter.all false
set_option maxRecDepth 100000
/-! DL26: a law's own start (its stream) and its end -/
namespace DL
open PySem PySem.Spec PyProof.Rows L2
theorem fun_of {K : PySem.W.Frag} {x qual : Str} {st : Stmt} {f : Addr} {fd : FuncData} (F : FunD K x qual (defArgs st) (defBody st) (defScope st) [] [] f fd) : L2.Fun K x qual st f fd := by
  obtain ⟨⟨oc, od, dV, kV, doc, pm, an, cdv, ct, osl, e, lk, hc, hd, _⟩, kp⟩ := F
  rcases hd with ⟨_, rfl⟩ | ⟨h, _⟩
  · exact ⟨⟨oc, od, kV, doc, pm, an, cdv, ct, osl, e, lk, hc⟩, kp⟩
  · exact absurd rfl h
theorem bits_nat {z : Int} (h : Builtin.Int.intBits z ≤ 1048576) : z.natAbs < 2 ^ 1048576 := by
  unfold Builtin.Int.intBits at h
  split at h
  · rename_i e
    have : z = 0 := by simpa using e
    subst this
    exact Nat.two_pow_pos 1048576
  · have : z.natAbs < 2 ^ (z.natAbs.log2 + 1) := Nat.lt_log2_self
    exact Nat.lt_of_lt_of_le this (Nat.pow_le_pow_right (by decide) h)
def strm0 : Store := [.strmI, .strm (2 ^ 39)]
/-- the script is one of whole numbers -/
def Script (K : PySem.W.Frag) (H : Hp) (a : Addr) (ns : List Int) : Prop := SqL K H a (ns.map V.int) ∧ ns.length ≤ 63 ∧ ∀ n ∈ ns, n.natAbs < 2 ^ 1048576
def spStream (CT : TTs) (K : PySem.W.Frag) : Sp := fun vs H Q _ => ∃ a ns, vs = [.ref a] ∧ Script K H a ns ∧ LamX.Tabs CT H ∧ ∀ as H' p, StOk CT as strm0 H' → as[1]? = some p → Q (.ref p) H'
def spLaw (CT : TTs) (K : PySem.W.Frag) : Sp := fun vs H Q _ => ∃ a ns, vs = [.ref a] ∧ Script K H a ns ∧ LamX.Tabs CT H ∧ ∀ H', Q (.bl true) H'
def tStream (K : PySem.W.Frag) : TE := tLst (tCons (tCB (fun xs H Q => ∃ p ys, xs = [.ref p] ∧ (SqL K H p ys ∨ SqT K H p ys) ∧ ∀ l, H l = none → Q (.ref l) (upd H l (.lst ys))) (tCons (tVar 0) tNil)) (tCons (tC (.int 0)) (tCons (tC (.int 0)) (tCons (tC (.int 17)) tNil))))
theorem strm_made {CT : TTs} {H : Hp} {l p : Addr} {ns : List Int} (hT : LamX.Tabs CT H) (hb : ∀ n ∈ ns, n.natAbs < 2 ^ 1048576) (hl : H l = none) (hp : upd H l (.lst (ns.map V.int)) p = none) :
    StOk CT [l, p] strm0 (upd (upd H l (.lst (ns.map V.int))) p (.lst [.ref l, .int 0, .int 0, .int 17])) := by
  have hne : l ≠ p := fun e => by rw [← e, upd_same] at hp; cases hp
  have h1 : upd (upd H l (.lst (ns.map V.int))) p (.lst [.ref l, .int 0, .int 0, .int 17]) l = some (.lst (ns.map V.int)) := by rw [upd_ne hne, upd_same]
  have no : ∀ (H : Hp) (b : Addr), H b = none → ∀ u, H b = some u → (∀ ps, u ≠ .tbl ps) ∧ ∀ φ, u ≠ .ext φ := fun H b h u hu => by rw [h] at hu; cases hu
  refine ⟨tabs_upd (tabs_upd hT (no _ _ hl)) (no _ _ hp), rfl, by simp [hne], fun i a e => ?_, fun i a c e1 e2 => ?_⟩
  · match i with
    | 0 => cases e; rw [h1]; exact fun z => by cases z
    | 1 => cases e; rw [upd_same]; exact fun z => by cases z
    | i + 2 => simp at e
  · match i with
    | 0 => cases e1; cases e2; exact ⟨ns, h1, hb⟩
    | 1 => cases e1; cases e2; exact ⟨l, 0, 0, 17, rfl, by rw [upd_same], by omega, by simp; exact Nat.two_pow_pos _, by omega, by decide, by omega, by decide⟩
    | i + 2 => simp at e1
theorem stream_pure {CT : TTs} {K : PySem.W.Frag} {vs : List V} {H : Hp} {Q : VK} {E : XK} (h : spStream CT K vs H Q E) : tSeq (tRet (tStream K)) tNext { nx := fun _ H' => Q .non H', rt := Q } (start ["_law_script"] vs) H := by
  obtain ⟨a, ns, rfl, ⟨hS, hl, hb⟩, hT, q⟩ := h
  refine ⟨_, rfl, a, ns.map V.int, rfl, .inl hS, fun l hl0 => ?_⟩
  refine ⟨by show 4 ≤ sizeLine; decide, fun p hp => ?_⟩
  exact q [l, p] _ p (strm_made hT hb hl0 hp) rfl
def startL (n : Nat) : Env := none :: some (.m 1) :: List.replicate (n - 2) none
theorem law_pure {CT : TTs} {K : PySem.W.Frag} {N : List Str} {tb : TSD} {vs : List V} {H : Hp} {Q : VK} {E : XK} (hN : 2 ≤ N.length) (hm : ∀ (Qd : D → Store → Prop) (Ed : Ex → Prop), (∀ S, Qd (.bl true) S) → tb (endsOf .raw strm0 Qd Ed) (startL N.length) strm0)
    (h : spLaw CT K vs H Q E) : tSeq (tAsg (tCall (spStream CT K) [] E (tCons (tVar 0) tNil)) (gName 1)) (liftS CT E tb) { nx := fun _ H' => Q .non H', rt := Q } (start N vs) H := by
  obtain ⟨a, ns, rfl, hS, hT, q⟩ := h
  obtain ⟨x0, x1, N', rfl⟩ : ∃ x0 x1 N', N = x0 :: x1 :: N' := by
    match N, hN with
    | x0 :: x1 :: N', _ => exact ⟨x0, x1, N', rfl⟩
  refine ⟨.ref a, rfl, a, ns, rfl, hS, hT, fun as H' p st hp => ?_⟩
  refine ⟨as, strm0, startL (x0 :: x1 :: N').length, endsOf .raw strm0 (fun d _ => d = .bl true) (fun _ => False), ⟨st, ⟨?_, fun i d hd => ?_⟩, ?_⟩, hm _ _ fun _ => rfl, ?_⟩
  · simp [startL, L2.start]
  · match i with
    | 0 => cases hd
    | 1 =>
      have e : D.m 1 = d := by simpa [startL] using hd
      subst e
      exact ⟨.ref p, by simp [L2.start], p, hp, rfl⟩
    | i + 2 =>
      have e : (List.replicate N'.length none : Env)[i]? = some (some d) := by simpa [startL] using hd
      rw [List.getElem?_replicate] at e
      split at e <;> cases e
  · intro as' S' H' C dx fs ts o st' hx rf ⟨_, _, z⟩
    exact z.elim
  · exact { nx := fun as' S' H' σ' ρ' o st' en z => by cases (show D.t (T.v V.non) = D.bl true from z)
            rt := fun as' S' H' d y o st' r z => by
              have z : d = .bl true := z
              subst z
              have r : y = V.bl true := r
              subst r
              exact q H'
            bk := fun as' S' H' σ' ρ' o st' en z => z.elim
            ct := fun as' S' H' σ' ρ' o st' en z => z.elim }
end DL
set_option Elab.async false
set_option linter.all false
set_option maxRecDepth 100000
/-! DL27: the facts of own classes, as Bools that a head's run may look at -/
namespace DL
open PySem PySem.Spec PyProof.Rows L2
def ownB (K : PySem.W.Frag) (C : Addr) : Bool :=
  He.eqO (PySem.W.findIn K (.ref C) "__class__") (some (some (.builtin "object.__class__"))) &&
  (He.eqO (PySem.W.specialIn K (.builtin "object.__class__") "__get__") (some (some (.builtin "getset_descriptor.__get__"))) &&
  (decide (PySem.W.takesIn K (.builtin "object.__class__") = some true) && (decide (PySem.W.mroIn K C (.type "object") = some true) &&
  ((["int", "bool", "str", "list", "tuple", "dict"] : List String).all (fun n => decide (PySem.W.kitOne K (.ref C) (.type n) = some false)) &&
  (["NoneType", "int", "bool", "str", "list", "tuple", "dict"] : List String).all fun n => decide (PySem.W.kitOne K (.type n) (.ref C) = some false)))))
theorem ownB_ok {K : PySem.W.Frag} {C : Addr} (hc : Cls K C) (h : ownB K C = true) : OwnC K C := by
  obtain ⟨h1, h⟩ := He.ba h
  obtain ⟨h2, h⟩ := He.ba h
  obtain ⟨h3, h⟩ := He.ba h
  obtain ⟨h4, h⟩ := He.ba h
  obtain ⟨h5, h6⟩ := He.ba h
  exact ⟨hc, He.eqO_ok h1, He.eqO_ok h2, of_decide_eq_true h3, of_decide_eq_true h4, fun n hn => of_decide_eq_true (List.all_eq_true.mp h5 n hn), fun n hn => of_decide_eq_true (List.all_eq_true.mp h6 n hn)⟩
def eqB (K : PySem.W.Frag) (C : Addr) : Bool :=
  decide (PySem.W.subIn K (.ref C) (.type "object") = some true) && (He.eqO (PySem.W.findIn K (.ref C) "__ne__") (some (some (.builtin "object.__ne__"))) &&
  (["NoneType", "int", "bool", "str", "list", "tuple", "dict"] : List String).all fun n => decide (PySem.W.subIn K (.type n) (.ref C) = some false))
theorem eqB_ok {K : PySem.W.Frag} {C : Addr} (h : eqB K C = true) : EqC K C := by
  obtain ⟨h1, h⟩ := He.ba h
  obtain ⟨h2, h3⟩ := He.ba h
  exact ⟨of_decide_eq_true h1, He.eqO_ok h2, fun n hn => of_decide_eq_true (List.all_eq_true.mp h3 n hn)⟩
/-- the built-ins of which Bs speaks -/
def bsL : List Str := ["len", "isinstance", "int", "bool", "str", "list", "tuple", "dict", "range", "enumerate", "zip", "any", "all", "abs", "max", "min", "sum", "sorted", "repr"]
theorem bs_of {mg : Str → Option Value} (h : ∀ x ∈ bsL, mg x = none) : Bs mg :=
  ⟨h _ (by simp [bsL]), h _ (by simp [bsL]), h _ (by simp [bsL]), h _ (by simp [bsL]), h _ (by simp [bsL]), h _ (by simp [bsL]), h _ (by simp [bsL]), h _ (by simp [bsL]), h _ (by simp [bsL]), h _ (by simp [bsL]), h _ (by simp [bsL]), h _ (by simp [bsL]), h _ (by simp [bsL]), h _ (by simp [bsL]), h _ (by simp [bsL]), h _ (by simp [bsL]), h _ (by simp [bsL]), h _ (by simp [bsL]), h _ (by simp [bsL])⟩
theorem cx_none {P : Program} {w : World} {outer : List PySem.Env} {H : Hp} {s s' : Shared} {u : Value} (h : L2.CX P w outer H s (fun _ _ _ => False) u s') : False := by
  obtain ⟨_, _, _, _, _, _, _, _, _, _, _, _, h⟩ := h
  exact h
section
variable {CT : TTs} {P : Program} {w : World} {K : PySem.W.Frag} {mg : Str → Option Value} {base : Heap} {k : Nat} {f : Addr} {fd : FuncData} {x qual : Str} {st : Stmt} {ps : List Str} {ft : FT}
theorem FnG.mk' (F : L2.Fun K x qual st f fd) (h : FnOk P w K mg base (L2.CX P w) k f fd ps (spD CT ps.length ft)) (hm : mg x = some (.ref f))
    (hb : ∀ (kV doc pm : Value) (an : Option Addr) (cdv ct : Value) (us : List Value), us.length = ps.length → bindArgs (PySem.W.fnOf x qual (defArgs st) (defBody st) (defScope st) .none kV doc pm an cdv ct) ⟨us, []⟩ = pure (ps.zip us)) : FnG CT P w K mg base k x ps ft :=
  ⟨f, fd, h, F.binds hb, hm, F.kp⟩
theorem MtG.mk' {C : Addr} (F : L2.Fun K x qual st f fd) (h : FnOk P w K mg base (L2.CX P w) k f fd ps (spD CT ps.length ft)) (hc : Cls K C) (hm : Meth K C x f)
    (hb : ∀ (kV doc pm : Value) (an : Option Addr) (cdv ct : Value) (us : List Value), us.length = ps.length → bindArgs (PySem.W.fnOf x qual (defArgs st) (defBody st) (defScope st) .none kV doc pm an cdv ct) ⟨us, []⟩ = pure (ps.zip us)) : MtG CT P w K mg base k C x ps ft :=
  ⟨f, fd, h, F.binds hb, hc, hm⟩
theorem MkG.mk' {C : Addr} {c : Str} (F : L2.Fun K x qual st f fd) (h : FnOk P w K mg base (L2.CX P w) k f fd ps (spD CT ps.length ft)) (hm : Mk K C f) (hg : mg c = some (.ref C))
    (hb : ∀ (kV doc pm : Value) (an : Option Addr) (cdv ct : Value) (us : List Value), us.length = ps.length → bindArgs (PySem.W.fnOf x qual (defArgs st) (defBody st) (defScope st) .none kV doc pm an cdv ct) ⟨us, []⟩ = pure (ps.zip us)) : MkG CT P w K mg base k c C ps ft :=
  ⟨f, fd, h, F.binds hb, hm, hg⟩
theorem MkKG.mk' {C : Addr} {c : Str} {ks : List Str} {pm : List Nat} (F : L2.Fun K x qual st f fd) (h : FnOk P w K mg base (L2.CX P w) k f fd ps (spD CT ps.length ft)) (hm : Mk K C f) (hg : mg c = some (.ref C))
    (hb : ∀ (kV doc pm' : Value) (an : Option Addr) (cdv ct : Value) (us ws : List Value), us.length = 1 → ws.length = ks.length → bindArgs (PySem.W.fnOf x qual (defArgs st) (defBody st) (defScope st) .none kV doc pm' an cdv ct) ⟨us, ks.zip ws⟩ = pure (ps.zip (us ++ permL pm ws))) : MkKG CT P w K mg base k c C ps ft ks pm :=
  ⟨f, fd, h, kbn_of F hb, hm, hg⟩
end
end DL
set_option Elab.async false
set_option linter.all false
set_option maxRecDepth 100000
/-! DL28: own exceptions: their classes, raise -/
namespace DL
open PySem PySem.Spec PyProof.Rows L2
/-! ### the classes -/
/-- an own class over ValueError with an __init__ of its own -/
structure XcC (K : PySem.W.Frag) (C : Addr) : Prop where
  o : OexC K C
  x : XfC K C
def clsB (K : PySem.W.Frag) (C : Addr) : Bool := match K.lookup C with
  | some ⟨.type t, _, .cls cd, sl⟩ => (match cd.mro, sl.toList with
    | .ref C' :: bm, [_, _, _, _, some (.builtin n), _] => decide (t = "type") && (decide (C' = C) && (decide (n = "ValueError.__new__") && (!cd.hasDel && (cd.hasDict && PySem.HandSPX.refsVE bm))))
    | _, _ => false)
  | _ => false
theorem clsB_ok {K : PySem.W.Frag} {C : Addr} (h : clsB K C = true) : ∃ nm q N bs bm sn sub ab col dd k0 k1 k2 k3 k5, K.lookup C = some (excClassObj nm q C N bs bm true sn sub ab col dd k0 k1 k2 k3 k5 "ValueError.__new__") ∧ PySem.HandSPX.refsVE bm = true := by
  unfold clsB at h
  cases q : K.lookup C with
  | none => rw [q] at h; cases h
  | some o =>
    obtain ⟨oc, od, dt, ⟨sl⟩⟩ := o
    rw [q] at h
    cases oc with
    | type t =>
      cases dt with
      | cls cd =>
        obtain ⟨c1, c2, c3, c4, c5, c6, c7, c8, c9, c10, c11⟩ := cd
        match c3, sl, h with
        | .ref C' :: bm, [k0, k1, k2, k3, some (.builtin n), k5], h =>
          obtain ⟨h1, h⟩ := He.ba h
          obtain ⟨h2, h⟩ := He.ba h
          obtain ⟨h3, h⟩ := He.ba h
          obtain ⟨h4, h⟩ := He.ba h
          obtain ⟨h5, h6⟩ := He.ba h
          have e1 := of_decide_eq_true h1
          have e2 := of_decide_eq_true h2
          have e3 := of_decide_eq_true h3
          have e4 : c11 = false := by simpa using h4
          have e5 : c6 = true := h5
          subst e1 e2 e3 e4 e5
          exact ⟨c1, c5, c4, c2, bm, c7, c8, c9, c10, od, k0, k1, k2, k3, k5, rfl, h6⟩
      | _ => cases h
    | _ => cases dt <;> cases h
def xcB (K : PySem.W.Frag) (C : Addr) : Bool :=
  clsB K C && (He.eqO (PySem.W.findIn K (.ref C) "__setattr__") (some (some (.builtin "object.__setattr__"))) && (decide (PySem.W.subIn K (.ref C) (.type "BaseException") = some true) && (decide (PySem.W.typeIn K (.ref C) = some (.type "type")) &&
  (PySem.W.keepIn K (.ref C) && xfB K C))))
theorem xcB_ok {K : PySem.W.Frag} {C : Addr} (h : xcB K C = true) : XcC K C := by
  obtain ⟨h1, h⟩ := He.ba h
  obtain ⟨h2, h⟩ := He.ba h
  obtain ⟨h3, h⟩ := He.ba h
  obtain ⟨h4, h⟩ := He.ba h
  obtain ⟨h5, h6⟩ := He.ba h
  exact ⟨⟨clsB_ok h1, He.eqO_ok h2, of_decide_eq_true h3, of_decide_eq_true h4, h5⟩, xfB_ok h6⟩
/-! ### __init__ of one field, of two -/
def spInit1 (K : PySem.W.Frag) (f : Str) : Sp := fun vs H Q _ => ∃ (a C : Addr) (y : V), vs = [.ref a, y] ∧ OexC K C ∧ PySem.W.findIn K (.ref C) f = some none ∧ H a = some (exo a C none) ∧
  ∀ dx, H dx = none → dx ≠ a → Q .non (upd (upd H dx (exd dx [(f, y)])) a (exo a C (some dx)))
theorem init1_pure {K : PySem.W.Frag} {f x0 x1 : Str} {vs : List V} {H : Hp} {Q : VK} {E : XK} (h : spInit1 K f vs H Q E) : tSeq (tOst K f (tVar 0) (tVar 1)) tNext { nx := fun _ H' => Q .non H', rt := Q } (start [x0, x1] vs) H := by
  obtain ⟨a, C, y, rfl, T, hno, hH, q⟩ := h
  exact ⟨y, rfl, .ref a, rfl, a, C, rfl, T, hno, .inl ⟨hH, fun dx h1 h2 => q dx h1 h2⟩⟩
def spInit2 (K : PySem.W.Frag) (f g : Str) : Sp := fun vs H Q _ => ∃ (a C : Addr) (y z : V), vs = [.ref a, y, z] ∧ OexC K C ∧ PySem.W.findIn K (.ref C) f = some none ∧ PySem.W.findIn K (.ref C) g = some none ∧ H a = some (exo a C none) ∧
  ∀ dx H', H dx = none → dx ≠ a → H' = upd (upd H dx (exd dx [(g, z), (f, y)])) a (exo a C (some dx)) → Q .non H'
theorem upd_twice {H : Hp} {a : Addr} {o o' : HO} : upd (upd H a o) a o' = upd H a o' := by
  funext b
  by_cases hb : b = a
  · rw [hb, upd_same, upd_same]
  · rw [upd_ne hb, upd_ne hb, upd_ne hb]
theorem upd_comm {H : Hp} {a b : Addr} {o o' : HO} (h : a ≠ b) : upd (upd H a o) b o' = upd (upd H b o') a o := by
  funext c
  by_cases hb : c = b
  · rw [hb, upd_same, upd_ne (Ne.symm h), upd_same]
  · rw [upd_ne hb]
    by_cases ha : c = a
    · rw [ha, upd_same, upd_same]
    · rw [upd_ne ha, upd_ne ha, upd_ne hb]
theorem init2_pure {K : PySem.W.Frag} {f g x0 x1 x2 : Str} {vs : List V} {H : Hp} {Q : VK} {E : XK} (h : spInit2 K f g vs H Q E) : tSeq (tOst K f (tVar 0) (tVar 1)) (tSeq (tOst K g (tVar 0) (tVar 2)) tNext) { nx := fun _ H' => Q .non H', rt := Q } (start [x0, x1, x2] vs) H := by
  obtain ⟨a, C, y, z, rfl, T, hno, hno2, hH, q⟩ := h
  refine ⟨y, rfl, .ref a, rfl, a, C, rfl, T, hno, .inl ⟨hH, fun dx h1 h2 => ?_⟩⟩
  refine ⟨z, rfl, .ref a, rfl, a, C, rfl, T, hno2, .inr ⟨dx, [(f, y)], upd_same, by rw [upd_ne h2, upd_same], by simp, ?_⟩⟩
  refine q dx _ h1 h2 ?_
  rw [upd_comm (Ne.symm h2), upd_twice]
/-! ### raise C(e) -/
/-- a class, by its name: its one field -/
structure Xc1 (P : Program) (w : World) (K : PySem.W.Frag) (mg : Str → Option Value) (base : Heap) (x : Str) (C : Addr) (f : Str) : Prop where
  ex : ∃ fI fd p0 p1, FnOk P w K mg base (L2.CX P w) 1 fI fd [p0, p1] (spInit1 K f) ∧ Binds K fd [p0, p1] [] ∧ PySem.W.findIn K (.ref C) "__init__" = some (some (.ref fI)) ∧ PySem.W.typeIn K (.ref fI) = some (.type "function")
  c : XcC K C
  no : PySem.W.findIn K (.ref C) f = some none
  hm : mg x = some (.ref C)
structure Xc2 (P : Program) (w : World) (K : PySem.W.Frag) (mg : Str → Option Value) (base : Heap) (x : Str) (C : Addr) (f g : Str) : Prop where
  ex : ∃ fI fd p0 p1 p2, FnOk P w K mg base (L2.CX P w) 1 fI fd [p0, p1, p2] (spInit2 K f g) ∧ Binds K fd [p0, p1, p2] [] ∧ PySem.W.findIn K (.ref C) "__init__" = some (some (.ref fI)) ∧ PySem.W.typeIn K (.ref fI) = some (.type "function")
  c : XcC K C
  no : PySem.W.findIn K (.ref C) f = some none
  no2 : PySem.W.findIn K (.ref C) g = some none
  hm : mg x = some (.ref C)
def sRaise (C : Addr) (f : Str) (t : TED) : TSD := fun De ρ S => t De.ex ρ S fun d S1 => De.ex (C, [(f, d)]) S1
def sRaise2 (C : Addr) (f g : Str) (t u : TED) : TSD := fun De ρ S => t De.ex ρ S fun d S1 => u De.ex ρ S1 fun e S2 => De.ex (C, [(g, e), (f, d)]) S2
/-- the heap behind the making -/
theorem made_heap {H : Hp} {a d : Addr} {o1 o2 : HO} {fs : List (Str × V)} (ha : H a = none) (hda : d ≠ a) (hd : upd H a o1 d = none) : upd (del (upd (upd (upd H a o1) d (exd d fs)) a o2) a) d (.xd fs) = upd H d (.xd fs) := by
  funext b
  by_cases hb : b = d
  · rw [hb, upd_same, upd_same]
  · rw [upd_ne hb, upd_ne hb]
    by_cases h2 : b = a
    · rw [h2, del_same, ha]
    · rw [del_ne h2, upd_ne h2, upd_ne hb, upd_ne h2]
section
variable {CT : TTs} {E : XK} {X : Cx} {x : Str} {C : Addr} {f g : Str} {e e2 : Expr} {t u : TED} {p pos pos2 : Pos}
theorem ds_raise (hc : X.calm = true) (G : Xc1 X.prog X.w X.K X.mg X.base x C f) (hr : Room 2 X.A) (tk : Takes X (fun cls d _ H => E cls d H)) (hx : Passes (L2.CX X.prog X.w) X (fun _ _ _ => False)) (he : DE CT E X e t) (hg : Gl X x := by rfl) (hdb : (x == ("__debug__" : Str)) = false := by decide)
    (hs : starEach (e :: []) X.env = (false, eval e X.env) :: starEach [] X.env := by rfl) (hpl : (backTo pos (starEach [] X.env)).any (·.1) = false := by rfl) : DS CT E X (.Raise (some (.Call (.Name x p) [e] [] pos)) none pos2) (sRaise C f t) := by
  obtain ⟨fI, fd, p0, p1, F, hb, iC, tI⟩ := G.ex
  refine .of (ps_raise hc tk (pmk_oex G.c.o iC tI F hr hb .nil hx hg G.hm (pa_cons he.pe pa_nil hs) hdb hs hpl)) fun σ H as S ρ De D z q k => ?_
  refine (⟨as, S, ρ, De.ex, _, z, q, fun as1 S1 H1 d y o1 s1 r q1 => ?_⟩ : lift CT E t σ H _)
  refine ⟨by simp, fun a ha => ⟨a, C, y, rfl, G.c.o, G.no, upd_same, fun dx h1 h2 => ?_⟩⟩
  have hdx : H1 dx = none := by rw [upd_ne h2] at h1; exact h1
  refine ⟨rfl, dx, [(f, y)], upd_same, by rw [upd_ne h2, upd_same], hdx, ?_⟩
  rw [made_heap ha h2 h1]
  obtain ⟨st', on'⟩ := s1.new (o := .xd [(f, y)]) hdx
  exact z.ex as1 S1 _ C dx [(f, y)] [(f, d)] (o1.trans on') st' upd_same (.cons ⟨rfl, on'.rep r⟩ .nil) q1
theorem ds_raise2 (hc : X.calm = true) (G : Xc2 X.prog X.w X.K X.mg X.base x C f g) (hr : Room 2 X.A) (tk : Takes X (fun cls d _ H => E cls d H)) (hx : Passes (L2.CX X.prog X.w) X (fun _ _ _ => False)) (he : DE CT E X e t) (he2 : DE CT E X e2 u) (hg : Gl X x := by rfl) (hdb : (x == ("__debug__" : Str)) = false := by decide)
    (hs : starEach (e :: [e2]) X.env = (false, eval e X.env) :: starEach [e2] X.env := by rfl) (hs2 : starEach (e2 :: []) X.env = (false, eval e2 X.env) :: starEach [] X.env := by rfl) (hpl : (backTo pos (starEach [e2] X.env)).any (·.1) = false := by rfl) : DS CT E X (.Raise (some (.Call (.Name x p) [e, e2] [] pos)) none pos2) (sRaise2 C f g t u) := by
  obtain ⟨fI, fd, p0, p1, p2, F, hb, iC, tI⟩ := G.ex
  refine .of (ps_raise hc tk (pmk_oex G.c.o iC tI F hr hb .nil hx hg G.hm (pa_cons he.pe (pa_cons he2.pe pa_nil hs2) hs) hdb hs hpl)) fun σ H as S ρ De D z q k => ?_
  refine (⟨as, S, ρ, De.ex, _, z, q, fun as1 S1 H1 d y o1 s1 r q1 => ?_⟩ : lift CT E t σ H _)
  refine (⟨as1, S1, ρ, De.ex, _, z.on o1 s1, q1, fun as2 S2 H2 d2 y2 o2 s2 r2 q2 => ?_⟩ : lift CT E u σ H1 _)
  refine ⟨by simp, fun a ha => ⟨a, C, y, y2, rfl, G.c.o, G.no, G.no2, upd_same, fun dx H' h1 h2 e => ?_⟩⟩
  subst e
  have hdx : H2 dx = none := by rw [upd_ne h2] at h1; exact h1
  refine ⟨rfl, dx, [(g, y2), (f, y)], upd_same, by rw [upd_ne h2, upd_same], hdx, ?_⟩
  rw [made_heap ha h2 h1]
  obtain ⟨st', on'⟩ := s2.new (o := .xd [(g, y2), (f, y)]) hdx
  exact z.ex as2 S2 _ C dx [(g, y2), (f, y)] [(g, d2), (f, d)] ((o1.trans o2).trans on') st' upd_same (.cons ⟨rfl, on'.rep r2⟩ (.cons ⟨rfl, on'.rep (o2.rep r)⟩ .nil)) q2
end
@[simp] theorem sRaise_e {C : Addr} {f : Str} {t : TED} {De : DEnds} {ρ : Env} {S : Store} : sRaise C f t De ρ S = t De.ex ρ S fun d S1 => De.ex (C, [(f, d)]) S1 := rfl
@[simp] theorem sRaise2_e {C : Addr} {f g : Str} {t u : TED} {De : DEnds} {ρ : Env} {S : Store} : sRaise2 C f g t u De ρ S = t De.ex ρ S fun d S1 => u De.ex ρ S1 fun e S2 => De.ex (C, [(g, e), (f, d)]) S2 := rfl
end DL
set_option Elab.async false
set_option linter.all false
set_option maxRecDepth 100000
set_option maxHeartbeats 2000000
/-! DL29: try with several clauses 'except X as n' -/
namespace DL
open PySem PySem.Spec PyProof.Rows L2
def gone (D : Ends) (i : Nat) : Ends := { nx := fun τ G => D.nx (τ.set i none) G, rt := D.rt, bk := fun τ G => D.bk (τ.set i none) G, ct := fun τ G => D.ct (τ.set i none) G }
abbrev Clause := Value × (Addr → Value → Option Addr → TS)
/-- what the clauses want of an exception, slot i is the name's -/
def wClauses (K : PySem.W.Frag) (W0 : WX) (D : Ends) (i : Nat) : List Clause → WX
  | [] => W0
  | (c, ts) :: r => fun cls d σ H => ∃ b, PySem.W.exmOne K cls c = some b ∧ (b = true → ∀ a, H a = none → ts a cls d (gone D i) (σ.set i (some (.ref a))) H) ∧ (b = false → wClauses K W0 D i r cls d σ H)
inductive Clauses (X : Cx) (n : Str) (W0 : WX) : List ExceptHandler → List Clause → Prop
  | nil : Clauses X n W0 [] []
  | rest {hds : List ExceptHandler} (hno : ∀ cls d σ H, ¬ W0 cls d σ H) : Clauses X n W0 hds []
  | cons {x : Str} {c : Value} {ts : Addr → Value → Option Addr → TS} {b₀ : Stmt} {suite : List Stmt} {np hp : Pos} {hds : List ExceptHandler} {l : List Clause} (hc : Names X x c)
      (hsu : ∀ (a : Addr) (oe : Obj) (cls : Value) (d : Option Addr) (pn : List (Addr × Obj)), Zc cls d oe → (∃ vs, oe.data = .fields vs) → PSs (X.suite a ((a, oe) :: pn)) (b₀ :: suite) (ts a cls d)) (r : Clauses X n W0 hds l) :
      Clauses X n W0 (.ExceptHandler (some (.Name x np)) (some n) (b₀ :: suite) hp :: hds) ((c, ts) :: l)
section
variable {X : Cx} {n : Str} {i : Nat} {body : List Stmt} {h₀ : ExceptHandler} {hds : List ExceptHandler} {l : List Clause} {pos : Pos} {tb : WX → TS} {W0 : WX}
theorem ps_tryAs (hs : X.stack = X.env :: X.outer) (hf : X.env.frame = some X.env.locals) (hN : X.N.Nodup) (hi : X.N[i]? = some n) (hn : X.env.kindOf n = some .local) (tk : Takes X W0)
    (hb : ∀ (W : WX) (pn : List (Addr × Obj)) (xe : Value → Shared → Prop), Takes (X.tr pn xe) W → PassesOwn (model X.prog X.w) X.A X.env xe → PSs (X.tr pn xe) body (tb W)) (hh : Clauses X n W0 (h₀ :: hds) l) :
    PS X (.Try body (h₀ :: hds) [] [] pos) (fun D σ H => tb (wClauses X.K W0 D i l) D σ H) := by
  refine ⟨fun pins s σ H D I hyp => ?_⟩
  have ok := I.ok
  have frm : X.A.frames = some (X.env :: X.outer) := by rw [ok.frames, hs]
  have lo : Loc X.env.scope n := .inl hn
  refine wpAny_Try_except (wpAny_mono ((hb (wClauses X.K W0 D i l) (X.pn ++ pins) (fun e s₁ => wpAny (model X.prog X.w) X.A (noteFrame e X.env) (fun _ s₂ => wpAny (model X.prog X.w) X.A (setFlight e none) (fun _ s₃ =>
    wpAny (model X.prog X.w) X.A (handleBy e X.env (h₀ :: hds)) (SP X pins D) X.xe s₃) X.xe s₂) X.xe s₁) (fun u s' caught => ?_) PassesOwn.looking).run [] s σ H D (I.toTry _) hyp) (fun f s1 done => ?_) (fun e s1 he => he))
  · obtain ⟨a, B, sI, pins', σ', H', cls, d, rfl, J', nb, up, sky, na, os, ag, want⟩ := caught
    have J : Inv X pins σ' H' sI := J'.ofTry ok
    show wpAny _ X.A (noteFrame (.ref a) X.env) _ _ _
    refine Sky.land Zc.steady frm hf (by rw [← hs]; exact sky) fun h3 fl3 up3 => ?_
    have J3 : Inv X pins σ' H' { s' with heap := h3 } := J.landed nb fl3.1 (up.trans up3) os ag
    obtain ⟨oe3, vs3, at3, z3, dat3⟩ := fl3.there
    have offFr : a ∉ frs (X.env :: X.outer) := fun hm => by
      obtain ⟨_, o', e', other⟩ := fl3.2.2.1.mem hm
      rw [at3] at e'; cases e'
      exact other _ dat3
    have nL : a ≠ X.env.locals := fun z => offFr (List.mem_filterMap.mpr ⟨X.env, by simp, by rw [hf, z]⟩)
    have nF : a ∉ X.fs := fun hm => by
      obtain ⟨e, he, q⟩ := List.mem_filterMap.mp hm
      exact offFr (List.mem_filterMap.mpr ⟨e, by simp [he], q⟩)
    have S3 := J3.suite at3 dat3 na nL nF
    have go : ∀ {k : List ExceptHandler} {m : List Clause}, Clauses X n W0 k m → wClauses X.K W0 D i m cls d σ' H' → wpAny (model X.prog X.w) X.A (handleBy (.ref a) X.env k) (SP X pins D) X.xe { s' with heap := h3 } := by
      intro k m hk
      induction hk with
      | nil =>
        intro want
        refine wpAny_handleBy_nil ?_
        obtain ⟨_, _, _, oe, vs, T, oT, ts', he, hz, hd, h1, hr⟩ := id fl3
        unfold PySem.passOn
        refine wpAny_bind (wpAny_field he hd h1 ?_)
        rw [if_neg (by simp : ¬ ((Value.ref T == Value.none) = true))]
        have fin : wpAny (model X.prog X.w) X.A (setFlight (.ref a) X.env.frame) (fun _ s4 => wpAny (model X.prog X.w) X.A (throw (.ref a) : Sem Flow) (SP X pins D) X.xe s4) X.xe { s' with heap := h3 } := by
          rw [hf]
          exact HandSPX.setFlight_upZ fl3 fun h4 hh4 up4 => wpAny_throw (tk _ _ ⟨a, B, sI, pins, σ', H', cls, d, rfl, J, nb, (up.trans up3).trans up4, .inr (.inr (by rw [hs]; exact hh4)), na, os, ag, want⟩)
        first
          | exact wpAny_bind (wpAny_pure (wpAny_bind fin))
          | exact wpAny_bind fin
      | rest hno =>
        intro want
        exact absurd want (hno _ _ _ _)
      | @cons x c ts b₀ suite np hp hds2 l2 hc hsu r ih =>
        intro want
        obtain ⟨b, hb1, yes, no⟩ := want
        refine wpAny_handleBy_cons (codeAny_handlers_test ?_) (by intro q; cases q)
        have lk : PySem.W.Looks (model X.prog X.w) h3 (typeOf (.ref a)) cls := fun A Q E s k q => wpAny_typeOf_ref (k _ _ at3) (by rw [z3.1]; exact q)
        have ask : ∀ {Q : Value → Shared → Prop} {E : Value → Shared → Prop}, Q c { s' with heap := h3 } → wpAny (model X.prog X.w) (X.A.mark (some (.ref a))) (eval (.Name x np) X.env) Q E { s' with heap := h3 } := fun {Q E} q => by
          obtain ⟨g1, g2, g3 | ⟨g3, g4, g5⟩⟩ := hc
          · exact ld_glob (X := X.suite a ((a, oe3) :: (X.pn ++ pins))) S3 g1 g3 q g2
          · exact ld_blt (X := X.suite a ((a, oe3) :: (X.pn ++ pins))) S3 g1 g3 g4 q g5 g2
        refine ask ((PySem.W.exm_one (M := model X.prog X.w) J3.kIn lk hb1).here ?_)
        cases b with
        | false => exact ih (no rfl)
        | true =>
          refine codeAny_handlers_suite_as (HandSPX.lands_againZ fl3 fun h4 fl4 up4 => ?_)
          have J4 : Inv X pins σ' H' { s' with heap := h4 } := J.landed nb fl4.1 ((up.trans up3).trans up4) os ag
          obtain ⟨oe4, vs4, at4, z4, dat4⟩ := fl4.there
          refine store_ok (X := X.suite a ((a, oe4) :: (X.pn ++ pins))) (v := .ref a) (J4.suite at4 dat4 na nL nF) hN hi lo rfl (fun s5 S5 => ?_) (.inr hn)
          refine wpAny_mono ((hsu a oe4 cls d (X.pn ++ pins) z4 ⟨_, dat4⟩).run [] s5 _ H' _ S5 (yes rfl a na)) (fun f s6 ends => ?_) (fun _ _ z => False.elim z)
          have off : ∀ {τ : L2.St} {G : Hp} {Q : Shared → Prop}, Inv (X.suite a ((a, oe4) :: (X.pn ++ pins))) [] τ G s6 → (∀ s7, Inv X pins (τ.set i none) G s7 → Q s7) →
              wpAny (model X.prog X.w) X.A (do bindName X.env n .none; unbindBehindTheSuite X.env n hp) (fun _ s7 => Q s7) X.xe s6 := fun S6 hq => gone_ok (S6.unsuite ok) hN hi hn hq
          cases f with
          | ret u =>
            obtain ⟨v6, τ, G, S6, r6, q6⟩ := ends
            exact off S6 fun s7 J7 => ⟨_, _, _, J7, r6, q6⟩
          | next =>
            obtain ⟨τ, G, S6, q6⟩ := ends
            exact off S6 fun s7 J7 => ⟨_, _, J7, q6⟩
          | brk =>
            obtain ⟨τ, G, S6, q6⟩ := ends
            exact off S6 fun s7 J7 => ⟨_, _, J7, q6⟩
          | cont =>
            obtain ⟨τ, G, S6, q6⟩ := ends
            exact off S6 fun s7 J7 => ⟨_, _, J7, q6⟩
    exact go hh want
  · cases f with
    | ret u =>
      obtain ⟨v, σ', H', J', r, q⟩ := done
      exact ⟨v, σ', H', J'.ofTry ok, r, q⟩
    | next =>
      obtain ⟨σ', H', J', q⟩ := done
      exact wpAny_execs_nil ⟨σ', H', J'.ofTry ok, q⟩
    | brk =>
      obtain ⟨σ', H', J', q⟩ := done
      exact ⟨σ', H', J'.ofTry ok, q⟩
    | cont =>
      obtain ⟨σ', H', J', q⟩ := done
      exact ⟨σ', H', J'.ofTry ok, q⟩
end
end DL
set_option Elab.async false
set_option linter.all false
set_option maxRecDepth 100000
set_option maxHeartbeats 2000000
/-! DL30: t(lambda: e), t a def that tries what it is given and tells which own exception came -/
namespace DL
open PySem PySem.Spec PyProof.Rows L2
/-! ### such a def -/
/-- a clause: the class, the word, the field -/
abbrev TC := Addr × Str × Str
def hndH (K : PySem.W.Frag) (Q : VK) : List TC → XK
  | [] => fun _ _ _ => False
  | (C, nm, f) :: r => fun cls d H => ∃ b, PySem.W.exmOne K cls (.ref C) = some b ∧
      (b = true → ∃ dd fs v, cls = .ref C ∧ d = some dd ∧ H dd = some (.xd fs) ∧ fs.lookup f = some v ∧ ∀ p, H p = none → Q (.ref p) (upd H p (.tup [.str nm, v]))) ∧ (b = false → hndH K Q r cls d H)
def tTold (a : Addr) (cls : Value) (d : Option Addr) (c : TC) : TS := tSeq (tRet (tTup (tCons (tC (.str c.2.1)) (tCons (tXf a cls d c.1 c.2.2 (tVar 1)) tNil)))) tNext
def clausesOf (cl : List TC) : List Clause := cl.map fun c => (.ref c.1, fun a cls d => tTold a cls d c)
theorem hnd_ok {K : PySem.W.Frag} {Q : VK} {W0 : WX} {D : Ends} {σ : L2.St} (h1 : 1 < σ.length) (hD : ∀ v H, Q v H → D.rt v H) : ∀ {cl : List TC} {cls : Value} {d : Option Addr} {H : Hp}, hndH K Q cl cls d H → wClauses K W0 D 1 (clausesOf cl) cls d σ H
  | [], _, _, _, h => h.elim
  | (C, nm, f) :: r, cls, d, H, ⟨b, e, yes, no⟩ => ⟨b, e, fun hb a ha => by
      obtain ⟨dd, fs, v, e1, e2, e3, e4, q⟩ := yes hb
      refine ⟨.ref a, by rw [List.getElem?_set_self h1], rfl, e1, dd, fs, v, e2, e3, e4, ?_⟩
      exact ⟨by show 2 ≤ sizeLine; decide, fun p hp => hD _ _ (q p hp)⟩, fun hb => hnd_ok h1 hD (no hb)⟩
/-- what it makes of what it tries: m: it tells what that gives, else None -/
def TTried (K : PySem.W.Frag) (w : Str) (cl : List TC) (m : Bool) : (XK → Hp → VK → Prop) → Hp → VK → Prop := fun tl H Q =>
  tl (hndH K Q cl) H fun v H' => [V.str w, if m then v else .non].length ≤ sizeLine ∧ ∀ p, H' p = none → Q (.ref p) (upd H' p (.tup [.str w, if m then v else .non]))
section
variable {X : Cx} {Ng : List Str} {x a n q w : Str} {sg : Scope} {g : Addr} {cdg : Value} {cl : List TC} {h₀ : ExceptHandler} {hds : List ExceptHandler} {j j2 k : Nat} {p1 p2 p3 p4 p5 p6 p7 p8 : Pos}
/-- the context of the def that tries -/
abbrev trX (X : Cx) (Ng : List Str) (x : Str) (sg : Scope) (g : Addr) (cdg : Value) (s : Shared) (H : Hp) : Cx := (cxOf C8.CX0 X.prog X.w X.K X.mg X.base Ng x sg g cdg X.A X.stack s H C8.E0).nox
theorem start2 {Ng : List Str} (hl : Ng.length = 2) (v : V) : L2.start Ng [v] = [some v, none] := by
  match Ng, hl with
  | [_, _], _ => rfl
theorem takes_len {X : Cx} {W : WX} (t : Takes X W) : Takes X fun cls d σ H => σ.length = X.N.length → W cls d σ H :=
  fun u s' ⟨a, B, sI, pins, σ, H, cls, d, e, I, nb, up, sky, na, os, ag, w⟩ => t u s' ⟨a, B, sI, pins, σ, H, cls, d, e, I, nb, up, sky, na, os, ag, w I.len⟩
theorem tried_gives2 (hN : Ng.Nodup) (h1 : Ng[1]? = some n) (hl : Ng.length = 2) (hn : ∀ (s : Shared) (H : Hp), (trX X Ng x sg g cdg s H).env.kindOf n = some .local)
    (hc : ∀ (s : Shared) (H : Hp), Clauses (trX X Ng x sg g cdg s H) n (fun _ _ _ _ => False) (h₀ :: hds) (clausesOf cl)) :
    LamX.GivesTo X Ng x sg g cdg [.Try [.Return (some (.Tuple [.Constant (.str w) j p1, .Call (.Name a p2) [] [] p3] k p4)) p5] (h₀ :: hds) [] [] p6] a q (TTried X.K w cl true) := by
  intro f c' s H Q tl act hco h
  refine ⟨_, pss_one (ps_tryAs (X := trX X Ng x sg g cdg s H) (i := 1) (W0 := fun _ _ _ _ => False)
    (tb := fun W D σ H => ∃ Ech : XK, (∀ cls d σ' H', Ech cls d H' → σ'.length = Ng.length → W cls d σ' H') ∧ σ[0]? = some (some (.ref f)) ∧ H c' = some (LamX.CodeO c' q) ∧ tl Ech H fun v H' => [V.str w, v].length ≤ sizeLine ∧ ∀ p, H' p = none → D.rt (.ref p) (upd H' p (.tup [.str w, v])))
    rfl rfl hN h1 (hn s H) LamX.takes0 (fun W pn xe tk _ => ?_) (hc s H)), ?_⟩
  · refine ⟨fun pins s' σ H' D I ⟨Ech, hW, e1, e2, e3⟩ => ?_⟩
    have hp := act _ pn xe Ech p2 p3 (takes_len tk) hW
    have hq : PSs ((trX X Ng x sg g cdg s H).tr pn xe) [.Return (some (.Tuple [.Constant (.str w) j p1, .Call (.Name a p2) [] [] p3] k p4)) p5] (tRet (tTup (tCons (tC (.str w)) (tCons _ tNil)))) := pss_one (ps_ret (pe_tup (pa_cons pe_str (pa_cons hp pa_nil))))
    exact hq.run pins s' σ H' D I ⟨e1, e2, e3⟩
  · exact ⟨hndH X.K Q cl, fun cls d σ' H' hh hl2 => hnd_ok (by omega) (fun v H z => z) hh, by rw [start2 hl]; rfl, hco, h⟩
theorem tried_gives1 (hN : Ng.Nodup) (h1 : Ng[1]? = some n) (hl : Ng.length = 2) (hn : ∀ (s : Shared) (H : Hp), (trX X Ng x sg g cdg s H).env.kindOf n = some .local)
    (hc : ∀ (s : Shared) (H : Hp), Clauses (trX X Ng x sg g cdg s H) n (fun _ _ _ _ => False) (h₀ :: hds) (clausesOf cl)) :
    LamX.GivesTo X Ng x sg g cdg [.Try [.Expr (.Call (.Name a p2) [] [] p3) p7, .Return (some (.Tuple [.Constant (.str w) j p1, .Constant .none j2 p8] k p4)) p5] (h₀ :: hds) [] [] p6] a q (TTried X.K w cl false) := by
  intro f c' s H Q tl act hco h
  refine ⟨_, pss_one (ps_tryAs (X := trX X Ng x sg g cdg s H) (i := 1) (W0 := fun _ _ _ _ => False)
    (tb := fun W D σ H => ∃ Ech : XK, (∀ cls d σ' H', Ech cls d H' → σ'.length = Ng.length → W cls d σ' H') ∧ σ[0]? = some (some (.ref f)) ∧ H c' = some (LamX.CodeO c' q) ∧ tl Ech H fun v H' => [V.str w, V.non].length ≤ sizeLine ∧ ∀ p, H' p = none → D.rt (.ref p) (upd H' p (.tup [.str w, .non])))
    rfl rfl hN h1 (hn s H) LamX.takes0 (fun W pn xe tk _ => ?_) (hc s H)), ?_⟩
  · refine ⟨fun pins s' σ H' D I ⟨Ech, hW, e1, e2, e3⟩ => ?_⟩
    have hp := act _ pn xe Ech p2 p3 (takes_len tk) hW
    have hq : PSs ((trX X Ng x sg g cdg s H).tr pn xe) [.Expr (.Call (.Name a p2) [] [] p3) p7, .Return (some (.Tuple [.Constant (.str w) j p1, .Constant .none j2 p8] k p4)) p5] (tSeq (tDrop _) (tRet (tTup (tCons (tC (.str w)) (tCons (tC .non) tNil))))) := pss_cons (ps_expr hp) (pss_one (ps_ret (pe_tup (pa_cons pe_str (pa_cons pe_non pa_nil)))))
    exact hq.run pins s' σ H' D I ⟨e1, e2, e3⟩
  · exact ⟨hndH X.K Q cl, fun cls d σ' H' hh hl2 => hnd_ok (by omega) (fun v H z => z) hh, by rw [start2 hl]; rfl, hco, h⟩
end
/-! ### over data -/
def mkTup (ds : List D) (S : Store) (Q : D → Store → Prop) : Prop := (∃ ts, asTs ds = some ts ∧ Q (.t (.tup ts)) S) ∨ Q (.m S.length) (S ++ [.tup ds])
def hndD : List TC → Ex → Store → (D → Store → Prop) → Prop
  | [], _, _, _ => False
  | (C, nm, f) :: r, e, S, Q => if e.1 = C then ∃ d, e.2.lookup f = some d ∧ mkTup [.t (.v (.str nm)), d] S Q else hndD r e S Q
def dTried (Xs : List Addr) (w : Str) (cl : List TC) (m : Bool) (tl : TED) : TED := fun X ρ S Q => tl (fun e S' => e.1 ∈ Xs ∧ hndD cl e S' Q) ρ S fun d S' => mkTup [.t (.v (.str w)), if m then d else .non] S' Q
/-- the classes that may be raised, told apart by the clauses -/
def XcApart (K : PySem.W.Frag) (Xs : List Addr) : Prop := ∀ C ∈ Xs, ∀ C' ∈ Xs, PySem.W.exmOne K (.ref C) (.ref C') = some (decide (C = C'))
/-- what stands at a cell is no table -/
theorem CellOk.at_ {as : List Addr} {L : Addr → Prop} {H : Hp} {a : Addr} : ∀ {c : Cell}, CellOk as L H a c → ∃ o, H a = some o ∧ ∀ ps, o ≠ .tbl ps
  | .lst ds, ⟨xs, h1, h2⟩ => ⟨_, h1, fun _ z => by cases z⟩
  | .dct kvs, ⟨xs, h1, h2⟩ => ⟨_, h1, fun _ z => by cases z⟩
  | .ins C fs, ⟨dx, xs, h1, h2⟩ => ⟨_, h1, fun _ z => by cases z⟩
  | .tup ds, ⟨xs, h1, h2⟩ => ⟨_, h1, fun _ z => by cases z⟩
  | .strmI, ⟨ns, h1, h2⟩ => ⟨_, h1, fun _ z => by cases z⟩
  | .strm b, ⟨c, x, y, z, h0, h1, h2⟩ => ⟨_, h1, fun _ z => by cases z⟩
  | .fz t, ⟨hn, h⟩ => by
    cases t with
    | v x => exact absurd rfl (hn x)
    | lst ts => obtain ⟨a', xs, e, _, h, _⟩ := h; cases e; exact ⟨_, h, fun _ z => by cases z⟩
    | tup ts => obtain ⟨a', xs, e, _, h, _⟩ := h; cases e; exact ⟨_, h, fun _ z => by cases z⟩
    | dct ts => obtain ⟨a', xs, e, _, h, _⟩ := h; cases e; exact ⟨_, h, fun _ z => by cases z⟩
    | ins C ts => obtain ⟨a', dx, xs, e, _, h, _⟩ := h; cases e; exact ⟨_, h, fun _ z => by cases z⟩
theorem StOk.extN {CT : TTs} {as : List Addr} {S : Store} {H H1 : Hp} (st : StOk CT as S H) (e : LamX.ExtN H H1) (t : LamX.Tabs CT H1) : StOk CT as S H1 ∧ On as S H as S H1 := by
  have on : On as S H as S H1 := ⟨⟨fun b o h _ n => e b o h n, fun b l => .inl l, fun b f => by
    cases q : H b with
    | none => exact .inl q
    | some o =>
      by_cases ho : ∃ ps, o = .tbl ps
      · obtain ⟨ps, rfl⟩ := ho; exact .inr ⟨ps, q⟩
      · exact (f.not (e b o q fun ps z => ho ⟨ps, z⟩) fun ps z => ho ⟨ps, z⟩).elim⟩, fun _ _ h => h⟩
  have kp : ∀ (i : Nat) a, as[i]? = some a → ∀ o, H a = some o → (∀ ps, o ≠ .tbl ps) → H1 a = some o := fun i a _ o h n => e a o h n
  refine ⟨⟨t, st.len, st.nd, fun i a ea z => ?_, fun i a c ea ec => ?_⟩, on⟩
  · obtain ⟨c, hc, hk⟩ := st.mem ea
    obtain ⟨o, ho, hn⟩ := CellOk.at_ hk
    rw [e a o ho hn] at z; cases z
  · have hk := st.cell i a c ea ec
    refine CellOk.ext on.ext on.pre c (fun o ho hf => ?_) hk
    obtain ⟨o2, ho2, hn2⟩ := CellOk.at_ hk
    rw [ho] at ho2; cases ho2
    exact e a o ho hn2
end DL
set_option Elab.async false
set_option linter.all false
set_option maxRecDepth 100000
set_option maxHeartbeats 2000000
/-! DL31: t(lambda: e) over data -/
namespace DL
open PySem PySem.Spec PyProof.Rows L2
theorem mkTup_ok {CT : TTs} {as : List Addr} {S : Store} {H : Hp} {ds : List D} {ys : List V} {Qd : D → Store → Prop} {Q : VK} (st : StOk CT as S H) (r : RepDs as (Live as S) H ds ys) (q : mkTup ds S Qd) (k : KE CT as S H Qd Q) : ∀ p, H p = none → Q (.ref p) (upd H p (.tup ys)) := by
  intro p hp
  rcases q with ⟨ts, ht, q⟩ | q
  · exact new_tup st (repL_of ht r) k hp q
  · obtain ⟨s2, o2⟩ := st.cellNew (c := .tup ds) (o := .tup ys) hp fun o => ⟨ys, upd_same, o.reps r⟩
    exact k _ _ _ (.m S.length) _ o2 s2 ⟨p, by rw [← st.len, List.getElem?_append_right (Nat.le_refl _)]; simp, rfl⟩ q
theorem hnd_data {CT : TTs} {K : PySem.W.Frag} {Xs : List Addr} (hap : XcApart K Xs) {as : List Addr} {S : Store} {H : Hp} {C : Addr} {dx : Addr} {fs : List (Str × V)} {ts : List (Str × D)} {Qd : D → Store → Prop} {Q : VK} (st : StOk CT as S H) (hx : H dx = some (.xd fs)) (r : RepFs as (Live as S) H ts fs) (hC : C ∈ Xs) (k : KE CT as S H Qd Q) :
    ∀ {cl : List TC}, (∀ c ∈ cl, c.1 ∈ Xs) → hndD cl (C, ts) S Qd → hndH K Q cl (.ref C) (some dx) H
  | [], _, q => q
  | (C', nm, f) :: cl, hcl, q => by
    refine ⟨decide (C = C'), hap C hC C' (hcl (C', nm, f) (by simp)), fun hb => ?_, fun hb => ?_⟩
    · have e : C = C' := of_decide_eq_true hb
      have q : if C = C' then ∃ d, ts.lookup f = some d ∧ mkTup [.t (.v (.str nm)), d] S Qd else hndD cl (C, ts) S Qd := q
      rw [if_pos e] at q
      obtain ⟨d, hd, q⟩ := q
      obtain ⟨y, hy, ry⟩ := (lookup_rep (f := f) r).1 d hd
      exact ⟨dx, fs, y, by rw [e], rfl, hx, hy, mkTup_ok (ds := [.t (.v (.str nm)), d]) st (.cons (show V.str nm = V.str nm from rfl) (.cons ry .nil)) q k⟩
    · have e : ¬ C = C' := of_decide_eq_false hb
      have q : if C = C' then ∃ d, ts.lookup f = some d ∧ mkTup [.t (.v (.str nm)), d] S Qd else hndD cl (C, ts) S Qd := q
      rw [if_neg e] at q
      exact hnd_data hap st hx r hC k (fun c hc => hcl c (by simp [hc])) q
/-- a def that tries, by its name -/
structure TrG (P : Program) (w : World) (K : PySem.W.Frag) (mg : Str → Option Value) (base : Heap) (x w0 : Str) (cl : List TC) (m : Bool) : Prop where
  ex : ∃ (g : Addr) (a : Str) (Ng : List Str) (pg : Arguments) (bg : List Stmt) (sg : Scope) (kV doc pm cdv ct oc : Value) (an od : Option Addr) (osl : Array (Option Value)),
    mg x = some (.ref g) ∧ PySem.W.keepIn K (.ref g) = true ∧ K.lookup g = some ⟨oc, od, .func (PySem.W.fnOf x x pg bg sg .none kV doc pm an cdv ct), osl⟩ ∧ PySem.W.codeIn K cdv x = true ∧ Binds K (PySem.W.fnOf x x pg bg sg .none kV doc pm an cdv ct) [a] [] ∧ FnScope Ng [a] sg ∧ Ng[0]? = some a ∧ Vis sg a ∧
      (a == ("__debug__" : Str)) = false ∧ (a == ("__classdict__" : Str)) = false ∧ ∀ (X : Cx) (q : Str), X.prog = P → X.w = w → X.K = K → X.mg = mg → X.base = base → LamX.GivesTo X Ng x sg g cdv bg a q (TTried K w0 cl m)
theorem TrG.mk' {P : Program} {w : World} {K : PySem.W.Frag} {mg : Str → Option Value} {base : Heap} {x w0 a : Str} {cl : List TC} {m : Bool} {st : Stmt} {g : Addr} {fd : FuncData} {Ng : List Str} (F : L2.Fun K x x st g fd) (hm : mg x = some (.ref g)) (hN : Ng[0]? = some a)
    (hb : ∀ (kV doc pm : Value) (an : Option Addr) (cdv ct : Value) (us : List Value), us.length = [a].length → bindArgs (PySem.W.fnOf x x (defArgs st) (defBody st) (defScope st) .none kV doc pm an cdv ct) ⟨us, []⟩ = pure ([a].zip us)) (S : FnScope Ng [a] (defScope st)) (hv : Vis (defScope st) a)
    (hG : ∀ (X : Cx) (q : Str) (cdv : Value), X.prog = P → X.w = w → X.K = K → X.mg = mg → X.base = base → LamX.GivesTo X Ng x (defScope st) g cdv (defBody st) a q (TTried K w0 cl m))
    (h1 : (a == ("__debug__" : Str)) = false := by decide) (h2 : (a == ("__classdict__" : Str)) = false := by decide) : TrG P w K mg base x w0 cl m := by
  obtain ⟨⟨oc, od, kV, doc, pm, an, cdv, ct, osl, e, lk, hc⟩, kp⟩ := F
  subst e
  exact ⟨g, a, Ng, _, _, _, kV, doc, pm, cdv, ct, oc, an, od, osl, hm, kp, lk, hc, .all (hb kV doc pm an cdv ct), S, hN, hv, h1, h2, fun X q => hG X q cdv⟩
section
variable {CT : TTs} {E : XK} {X : Cx} {x w0 : Str} {cl : List TC} {m : Bool} {Xs : List Addr} {c P : Addr} {k : Nat} {params : Arguments} {body : Expr} {scope : Scope} {tl : TED} {p lpos pos : Pos}
theorem de_tried (G : TrG X.prog X.w X.K X.mg X.base x w0 cl m) (hap : XcApart X.K Xs) (hcl : ∀ c ∈ cl, c.1 ∈ Xs) (TB : LamX.TabB X.base X.mg c P) (hcode : X.env.code = .ref c) (hmT : (P, X.env.qual ++ "<lambda>") ∈ CT) (hu : ∀ p ∈ CT, p.1 = P → p.2 = X.env.qual ++ "<lambda>") (hr : Room (k + 2) X.A)
    (hbody : ∀ (A : Around) (outer : List PySem.Env) (s : Shared) (H : Hp) (E : XK) (f c' : Addr), Room k (A.deeper (LamX.lamEnv X scope s.heap.objs.size f c')) → DE CT E (LamX.lamCx X A outer s H E scope f c') body tl)
    (L : LamX.LamS X.env.scope scope) (hg : Gl X x := by rfl) (hdef : defaultsOf params X.env = ([], []) := by rfl)
    (hbind : ∀ (q : Str) (cl : List (Str × Addr)) (pm cv ctv : Value), bindArgs (PySem.W.kla_fn "<lambda>" q params body scope cl pm cv ctv) ⟨[], []⟩ = pure [] := by intros; rfl)
    (hdb : (x == ("__debug__" : Str)) = false := by decide) : DE CT E X (.Call (.Name x p) [.Lambda params body scope lpos] [] pos) (dTried Xs w0 cl m tl) := by
  obtain ⟨g, a, Ng, pg, bg, sg, kV, doc, pm, cdv, ct, oc, an, od, osl, hm, kp, lk, hc, hb, Sg, hN, hv, h1, h2, hG⟩ := G.ex
  refine .of (LamX.pe_lamcall (T := CT) (t := fun E => lift CT E tl) hg hm kp lk hc hb Sg hN hv (hG X _ rfl rfl rfl rfl rfl) TB hcode hmT hu hr L hdef hbind (fun A outer s H E f c' hr => (hbody A outer s H E f c' hr).pe) hdb h1 h2) fun σ H as S ρ Xq Qd Q z q ke => ?_
  refine ⟨z.st.tab, fun H1 eN T1 => ?_⟩
  obtain ⟨st1, on1⟩ := z.st.extN eN T1
  have ke1 := ke.on on1
  refine (⟨as, S, ρ, _, _, ⟨st1, on1.env z.en, ?_⟩, q, ?_⟩ : lift CT (hndH X.K Q cl) tl σ H1 _)
  · rintro as' S' H' C dx fs ts o st' hx rf ⟨hC, hh⟩
    exact hnd_data hap st' hx rf hC (ke1.on o) hcl hh
  · intro as' S' H' d y o st' r hq
    refine ⟨by show 2 ≤ sizeLine; decide, ?_⟩
    refine mkTup_ok (ds := [.t (.v (.str w0)), if m then d else .non]) st' (.cons (show V.str w0 = V.str w0 from rfl) (.cons ?_ .nil)) hq (ke1.on o)
    cases m with
    | true => exact r
    | false => exact rfl
theorem passN {X : Cx} {A : Around} {outer : List PySem.Env} {s : Shared} {H : Hp} {E : XK} {scope : Scope} {f c' : Addr} : Passes (L2.CX X.prog X.w) (LamX.lamCx X A outer s H E scope f c') E := passes_call (takes_of rfl rfl rfl rfl) fun _ _ _ _ h => h
end
@[simp] theorem dTried_e {Xs : List Addr} {w : Str} {cl : List TC} {m : Bool} {tl : TED} {X : XQ} {ρ : Env} {S : Store} {Q} : dTried Xs w cl m tl X ρ S Q = tl (fun e S' => e.1 ∈ Xs ∧ hndD cl e S' Q) ρ S fun d S' => mkTup [.t (.v (.str w)), if m then d else .non] S' Q := rfl
/-! ### a def that makes lambdas: its code object is known -/
section
variable {CT : TTs} {P : Program} {w : World} {K : PySem.W.Frag} {mg : Str → Option Value} {base : Heap}
theorem okX_code {x qual : Str} {st : Stmt} {f : Addr} {fd : FuncData} {N ps : List Str} {k : Nat} {sp : Sp} (F : L2.Fun K x qual st f fd) (S : FnScope N ps (defScope st)) (len : ∀ vs H Q E, sp vs H Q E → vs.length = ps.length)
    (hbody : ∀ (cdv : Value) (A : Around) (outer : List PySem.Env) (s : Shared) (H : Hp) (vs : List V) (Q : VK) (E : XK), fd.code = cdv → Room k (A.deeper (envOfC qual (defScope st) s.heap.objs.size f cdv)) → sp vs H Q E →
      ∃ t, PSs (cxOf (L2.CX P w) P w K mg base N qual (defScope st) f cdv A outer s H E) (defBody st) t ∧ t { nx := fun _ H' => Q .non H', rt := Q } (start N vs) H) : FnOk P w K mg base (L2.CX P w) (k + 1) f fd ps sp := by
  obtain ⟨oc, od, kV, doc, pm, an, cdv, ct, osl, rfl, lk, hcd⟩ := F.ex
  exact fn_of lk hcd S len fun A outer s H vs Q E hr hsp => hbody cdv A outer s H vs Q E rfl hr hsp
theorem okD_code {x qual : Str} {st : Stmt} {f : Addr} {fd : FuncData} {N ps : List Str} {k : Nat} {ft : FT} {tb : TSD} {m : Mode} (F : L2.Fun K x qual st f fd) (S : FnScope N ps (defScope st))
    (hft : ∀ ds S Q E, ClosedS S.length S → ds.length = ps.length → ft ds S Q E → tb (endsOf m S Q E) (startD N.length ds) S)
    (hbody : ∀ (cdv : Value) (A : Around) (outer : List PySem.Env) (s : Shared) (H : Hp) (E : XK), fd.code = cdv → Room k (A.deeper (envOfC qual (defScope st) s.heap.objs.size f cdv)) →
      DSs CT E (cxOf (L2.CX P w) P w K mg base N qual (defScope st) f cdv A outer s H E) (defBody st) tb) : FnOk P w K mg base (L2.CX P w) (k + 1) f fd ps (spD CT ps.length ft) := by
  refine okX_code F S (fun vs H Q E ⟨as, S, ds, Qd, Ed, _, r, hl, _⟩ => by rw [← Paired.length r]; exact hl) (fun cdv A outer s H vs Q E hcd hr h => ?_)
  obtain ⟨as, S0, ds, Qd, Ed, st0, r, hl, q, kq, kx⟩ := h
  exact ⟨_, (hbody cdv A outer s H E hcd hr).ps, okD_pure (m := m) hft st0 r hl q kq kx⟩
end
end DL
set_option Elab.async false
set_option linter.all false
set_option maxRecDepth 100000
set_option maxHeartbeats 2000000
/-! DL32: dicts told by pairs; calls by keywords; code objects of defs -/
namespace DL
open PySem PySem.Spec PyProof.Rows L2
/-! ### dict(list of pairs), a tree -/
def kT : Key → T
  | .inl n => .int n
  | .inr x => .v (.str x)
def putT (kvs : List (Key × T)) (k : Key) (t : T) : List (Key × T) := if (kvs.any fun kv => decide (kv.1 = k)) = true then kvs.map (fun kv => if kv.1 = k then (kv.1, t) else kv) else kvs ++ [(k, t)]
def mergeT (kvs more : List (Key × T)) : List (Key × T) := more.foldl (fun acc kv => putT acc kv.1 kv.2) kvs
section
variable {L : Addr → Prop} {H : Hp}
theorem repK_any {k : Key} : ∀ {kvs : List (Key × T)} {xs : List (Key × V)}, RepK L H kvs xs → (kvs.any fun kv => decide (kv.1 = k)) = xs.any fun kv => decide (kv.1 = k)
  | [], xs, h => by
    have h : xs = [] := h
    subst h; rfl
  | (k', t) :: kvs, xs, ⟨y, ys, e, h1, h2⟩ => by
    subst e
    simp only [List.any_cons]
    rw [repK_any h2]
theorem repK_map {k : Key} {t : T} {y : V} (r : Rep L H t y) : ∀ {kvs : List (Key × T)} {xs : List (Key × V)}, RepK L H kvs xs → RepK L H (kvs.map fun kv => if kv.1 = k then (kv.1, t) else kv) (xs.map fun kv => if kv.1 = k then (kv.1, y) else kv)
  | [], xs, h => by
    have h : xs = [] := h
    subst h; rfl
  | (k', t') :: kvs, xs, ⟨y', ys, e, h1, h2⟩ => by
    subst e
    have ih := repK_map (k := k) r h2
    by_cases hk : k' = k
    · simp only [List.map_cons, if_pos hk]
      exact ⟨y, _, rfl, r, ih⟩
    · simp only [List.map_cons, if_neg hk]
      exact ⟨y', _, rfl, h1, ih⟩
theorem repK_app {k : Key} {t : T} {y : V} (r : Rep L H t y) : ∀ {kvs : List (Key × T)} {xs : List (Key × V)}, RepK L H kvs xs → RepK L H (kvs ++ [(k, t)]) (xs ++ [(k, y)])
  | [], xs, h => by
    have h : xs = [] := h
    subst h; exact ⟨y, [], rfl, r, rfl⟩
  | (k', t') :: kvs, xs, ⟨y', ys, e, h1, h2⟩ => by
    subst e
    exact ⟨y', _, rfl, h1, repK_app r h2⟩
theorem repK_put {k : Key} {t : T} {y : V} {kvs : List (Key × T)} {xs : List (Key × V)} (r : Rep L H t y) (h : RepK L H kvs xs) : RepK L H (putT kvs k t) (putK xs k y) := by
  unfold putT putK
  rw [repK_any h]
  split
  · exact repK_map r h
  · exact repK_app r h
theorem repK_merge : ∀ {more : List (Key × T)} {ms : List (Key × V)} {kvs : List (Key × T)} {xs : List (Key × V)}, RepK L H more ms → RepK L H kvs xs → RepK L H (mergeT kvs more) (mergeK xs ms)
  | [], ms, kvs, xs, h, h2 => by
    have h : ms = [] := h
    subst h; exact h2
  | (k, t) :: more, ms, kvs, xs, ⟨y, ys, e, h1, h2⟩, h3 => by
    subst e
    exact repK_merge (kvs := putT kvs k t) (xs := putK xs k y) h2 (repK_put h1 h3)
theorem rep_key {k : Key} {y : V} (h : Rep L H (kT k) y) : y = kV k := by
  cases k <;> exact h
/-- a list of pairs, read -/
theorem pairs_read {K : PySem.W.Frag} : ∀ {kvs : List (Key × T)} {ys : List V}, RepL L H (kvs.map fun p => .tup [kT p.1, p.2]) ys → ∃ (ps : List Addr) (ms : List (Key × V)), ys = ps.map V.ref ∧ Paired (fun p kv => SqT K H p [kV kv.1, kv.2]) ps ms ∧ RepK L H kvs ms
  | [], ys, h => by
    have h : ys = [] := h
    subst h; exact ⟨[], [], rfl, .nil, rfl⟩
  | (k, t) :: kvs, ys, ⟨y, r, e, ⟨a, xs, e2, _, ha, y1, r1, e3, h1, y2, r2, e4, h2, h3⟩, h⟩ => by
    obtain ⟨ps, ms, e5, hp, hr⟩ := pairs_read (K := K) h
    have h3 : r2 = [] := h3
    subst e e2 e3 e4 e5 h3
    have hk := rep_key h1
    subst hk
    exact ⟨a :: ps, (k, y2) :: ms, rfl, .cons (.of ha) hp, y2, ms, rfl, h2, hr⟩
end
def cDict : RAD := fun ds S Q => ∃ kvs : List (Key × T), ds = [.t (.lst (kvs.map fun p => .tup [kT p.1, p.2]))] ∧ Q (.t (.dct (mergeT [] kvs))) S
theorem new_dct {CT : TTs} {as : List Addr} {S : Store} {H : Hp} {kvs : List (Key × T)} {xs : List (Key × V)} {p : Addr} {Qd : D → Store → Prop} {Q : VK} (st : StOk CT as S H) (r : RepK (Live as S) H kvs xs) (k : KE CT as S H Qd Q) (hp : H p = none) (q : Qd (.t (.dct kvs)) S) : Q (.ref p) (upd H p (.dK xs)) := by
  obtain ⟨s1, o1⟩ := st.new (o := .dK xs) hp
  exact k _ _ _ (.t (.dct kvs)) _ o1 s1 ⟨p, xs, rfl, fun l => st.live_there l hp, upd_same, RepK.ext o1.ext kvs xs r⟩ q
theorem br_dict {CT : TTs} {K : PySem.W.Frag} : BrA CT (fun xs H Q => ∃ (a : Addr) (ps : List Addr) (kvs : List (Key × V)), xs = [.ref a] ∧ SqL K H a (ps.map V.ref) ∧ Paired (fun p kv => SqT K H p [kV kv.1, kv.2]) ps kvs ∧ ∀ p, H p = none → Q (.ref p) (upd H p (.dK (mergeK [] kvs)))) cDict := by
  rintro as S H xs ds Qd Q st r ⟨kvs, rfl, q⟩ k
  cases r with
  | cons r1 r2 =>
    cases r2
    obtain ⟨a, ys, rfl, _, ha, hl⟩ := r1
    obtain ⟨ps, ms, rfl, hp, hr⟩ := pairs_read (K := K) hl
    exact ⟨a, ps, ms, rfl, .of ha, hp, fun p hp => new_dct st (repK_merge (kvs := []) (xs := []) hr rfl) k hp q⟩
/-! ### {k: v, ..} of constants, a tree -/
def dDispC (kvs : List (Key × T)) : TED := fun _ _ S Q => Q (.t (.dct (mergeT [] kvs))) S
def cTs : List (Key × V) → List (TE × TE) := List.map fun p => (tC (kV p.1), tC p.2)
theorem pairs_c {σ : L2.St} {Q : List (V × V) → Hp → Prop} : ∀ {kvs : List (Key × V)} {H : Hp}, Q (kvs.map fun p => (kV p.1, p.2)) H → tPairs (cTs kvs) σ H Q
  | [], H, q => q
  | p :: kvs, H, q => pairs_c (kvs := kvs) (Q := fun ps H3 => Q ((kV p.1, p.2) :: ps) H3) q
theorem repK_v {L : Addr → Prop} {H : Hp} : ∀ {kvs : List (Key × V)}, RepK L H (kvs.map fun p => (p.1, T.v p.2)) kvs
  | [] => rfl
  | p :: kvs => ⟨p.2, kvs, rfl, rfl, repK_v⟩
theorem de_dispC {CT : TTs} {E : XK} {X : Cx} {pos : Pos} {keys : List (Option Expr)} {values : List Expr} {kvs : List (Key × V)} (h : PPs X pos keys values (cTs kvs)) (hall : keys.all (·.isSome) = true) (hl : keys.length = values.length) (h0 : keys ≠ []) (h15 : keys.length ≤ 15) (hk : kvs.length ≤ 15) :
    DE CT E X (.Dict keys values pos) (dDispC (kvs.map fun p => (p.1, .v p.2))) :=
  .of (pe_disp h hall hl h0 h15) fun σ H as S ρ Xq Qd Q z q k => fun p hp => by
    refine pairs_c ⟨upd_same, kvs, rfl, hk, ?_⟩
    rw [upd_twice]
    exact new_dct z.st (repK_merge (kvs := []) (xs := []) repK_v rfl) k hp q
@[simp] theorem dDispC_e {kvs : List (Key × T)} {X : XQ} {ρ : Env} {S : Store} {Q} : dDispC kvs X ρ S Q = Q (.t (.dct (mergeT [] kvs))) S := rfl
/-! ### f(k = v, ..) -/
structure FnKG (CT : TTs) (P : Program) (w : World) (K : PySem.W.Frag) (mg : Str → Option Value) (base : Heap) (k : Nat) (x : Str) (ps : List Str) (ft : FT) (ks : List Str) (pm : List Nat) : Prop where
  ex : ∃ f fd, FnOk P w K mg base (L2.CX P w) k f fd ps (spD CT ps.length ft) ∧ KBn K fd ps 0 ks (fun us ws => us ++ permL pm ws) (fun vs zs => vs ++ permL pm zs) ∧ mg x = some (.ref f) ∧ PySem.W.keepIn K (.ref f) = true
section
variable {CT : TTs} {P : Program} {w : World} {K : PySem.W.Frag} {mg : Str → Option Value} {base : Heap} {k : Nat} {f : Addr} {fd : FuncData} {x qual : Str} {st : Stmt} {ps : List Str} {ft : FT}
theorem FnKG.mk' {ks : List Str} {pm : List Nat} (F : L2.Fun K x qual st f fd) (h : FnOk P w K mg base (L2.CX P w) k f fd ps (spD CT ps.length ft)) (hm : mg x = some (.ref f))
    (hb : ∀ (kV doc pm' : Value) (an : Option Addr) (cdv ct : Value) (us ws : List Value), us.length = 0 → ws.length = ks.length → bindArgs (PySem.W.fnOf x qual (defArgs st) (defBody st) (defScope st) .none kV doc pm' an cdv ct) ⟨us, ks.zip ws⟩ = pure (ps.zip (us ++ permL pm ws))) : FnKG CT P w K mg base k x ps ft ks pm :=
  ⟨f, fd, h, kbn_of F hb, hm, F.kp⟩
theorem fun_code {d : He.DefD} (F : FunD K d.name d.qual d.params d.body d.scope (d.dvs K) (d.kws K) (He.fAd K d.at_) fd) : fd.code = .ref (He.cT K d.at_).1 := by
  obtain ⟨⟨oc, od, dV, kV, doc, pm, an, cdv, ct, osl, e, lk, hc, _, _⟩, _⟩ := F
  subst e
  obtain ⟨c, hc2⟩ := He.codeIn_ref hc
  show cdv = .ref (He.codeOf K d.at_)
  rw [He.codeOf_eq lk (c := c) hc2, hc2]
end
section
variable {CT : TTs} {E : XK} {X : Cx} {x : Str} {p pos : Pos}
theorem de_GK {k : Nat} {ps ks : List Str} {ft : FT} {pm : List Nat} {kws : List Keyword} {t : TAD} (G : FnKG CT X.prog X.w X.K X.mg X.base k x ps ft ks pm) (hr : Room k X.A) (hx : Passes (L2.CX X.prog X.w) X E) (ha : DK CT E X kws t) (hg : Gl X x := by rfl)
    (hall : (backToKw pos (keywordEach kws X.env)).all (·.1.isSome) = true := by rfl) (hks : (backToKw pos (keywordEach kws X.env)).filterMap (·.1) = ks := by rfl) (hdb : (x == ("__debug__" : Str)) = false := by decide)
    (hpl : ((backTo pos (starEach [] X.env)).any (·.1) || (backToKw pos (keywordEach kws X.env)).any (·.1.isNone)) = false := by rfl) : DE CT E X (.Call (.Name x p) [] kws pos) (fun Xq ρ S Q => t Xq ρ S fun ds S1 => ds.length = ks.length ∧ (permL pm ds).length = ps.length ∧ ft (permL pm ds) S1 Q fun e => Xq e S1) := by
  obtain ⟨f, fd, F, hb, hm, hk⟩ := G.ex
  refine ⟨⟨fun pins s σ H Q I ⟨as, S, ρ, Xq, Qd, z, q, ke⟩ => ?_⟩⟩
  refine wpAny_Call_Name_kw (ld_glob I hg hm ?_ hdb)
  refine PySem.W.callWith_KW0 (h₀ := X.base) I.ok.mod.kin hk hall ?_ hpl
  refine thn (ha.pk.run pos pins s σ H (fun zs H2 => zs.length = ks.length ∧ spD CT ps.length ft ([] ++ permL pm zs) H2 Q E) I ?_) fun ws s2 ⟨zs, H2, I2, rz, l2, q2⟩ => ⟨I2.kIn, ?_⟩
  · exact ⟨as, S, ρ, Xq, _, z, q, fun as1 S1 H1 ds ys o1 s1 r ⟨h1, h2, h3⟩ => ⟨by rw [← Paired.length r]; exact h1, spD_of s1 (permL_rep r pm) h2 h3 (ke.on o1) (z.ex.on o1)⟩⟩
  · rw [hks]
    have r2 := hb.rel (vs := []) (us := []) .nil rz
    refine wpAny_call (codeAny_mono (F.run X.A X.stack s2 H2 ⟨[], ks.zip ws⟩ _ _ Q E hr I2.env0 (hb.to s2 [] ws I2.kIn rfl (by rw [← rz.length]; exact l2)) r2 q2) fun r s' hq => ?_)
    cases r with
    | error e => exact hx pins σ H2 s2 e s' I2 hq
    | ok fl =>
      cases fl with
      | ret u => exact I2.after hq
      | next => exact False.elim hq
      | brk => exact False.elim hq
      | cont => exact False.elim hq
end
def dCallK (n m : Nat) (ft : FT) (pm : List Nat) (t : TAD) : TED := fun X ρ S Q => t X ρ S fun ds S1 => ds.length = m ∧ (permL pm ds).length = n ∧ ft (permL pm ds) S1 Q fun e => X e S1
@[simp] theorem dCallK_e {n m : Nat} {ft : FT} {pm : List Nat} {t : TAD} {X : XQ} {ρ : Env} {S : Store} {Q} : dCallK n m ft pm t X ρ S Q = t X ρ S fun ds S1 => ds.length = m ∧ (permL pm ds).length = n ∧ ft (permL pm ds) S1 Q fun e => X e S1 := rfl
theorem passF {X : Cx} : Passes (L2.CX X.prog X.w) X (fun _ _ _ => False) := fun _ _ _ _ _ _ _ h => (cx_none h).elim
def apartB (K : PySem.W.Frag) (Xs : List Addr) : Bool := Xs.all fun C => Xs.all fun C' => decide (PySem.W.exmOne K (.ref C) (.ref C') = some (decide (C = C')))
theorem apartB_ok {K : PySem.W.Frag} {Xs : List Addr} (h : apartB K Xs = true) : XcApart K Xs := fun C hC C' hC' => of_decide_eq_true (List.all_eq_true.mp (List.all_eq_true.mp h C hC) C' hC')
/-! ### tables apart -/
theorem names_of {CT : TTs} (h : (CT.map (·.1)).Nodup) {P : Addr} {q : Str} (hm : (P, q) ∈ CT) : ∀ p ∈ CT, p.1 = P → p.2 = q := by
  induction CT with
  | nil => cases hm
  | cons c CT ih =>
    rw [List.map_cons, List.nodup_cons] at h
    intro p hp e
    rcases List.mem_cons.mp hm with rfl | hm2
    · rcases List.mem_cons.mp hp with rfl | hp
      · rfl
      · exact absurd (List.mem_map.mpr ⟨p, hp, e⟩) h.1
    · rcases List.mem_cons.mp hp with rfl | hp
      · exact absurd (List.mem_map.mpr ⟨(P, q), hm2, e.symm⟩ : p.1 ∈ CT.map (·.1)) h.1
      · exact ih h.2 hm2 p hp e
end DL
set_option Elab.async false
set_option linter.all false
set_option maxRecDepth 100000
set_option maxHeartbeats 2000000
/-! DL33: list(d.items()) of a told dict -/
namespace DL
open PySem PySem.Spec PyProof.Rows L2
def dListIt (t : TED) : TED := fun X ρ S Q => t X ρ S fun d S1 => ∃ kvs : List (Key × T), d = .t (.dct kvs) ∧ Q (.t (.lst (kvs.map fun p => .tup [kT p.1, p.2]))) S1
@[simp] theorem dListIt_e {t : TED} {X : XQ} {ρ : Env} {S : Store} {Q} : dListIt t X ρ S Q = t X ρ S fun d S1 => ∃ kvs : List (Key × T), d = .t (.dct kvs) ∧ Q (.t (.lst (kvs.map fun p => .tup [kT p.1, p.2]))) S1 := rfl
theorem rep_kT {L : Addr → Prop} {H : Hp} : ∀ {k : Key}, Rep L H (kT k) (kV k)
  | .inl n => rfl
  | .inr x => rfl
theorem repL_pairs {L : Addr → Prop} {H' : Hp} : ∀ {kvs : List (Key × T)} {xs : List (Key × V)} {us : List Addr}, (∀ t ∈ us, ¬ L t) → RepK L H' kvs xs →
    Paired (fun (t : Addr) (q : Key × V) => H' t = some (.tup [kV q.1, q.2])) us xs → RepL L H' (kvs.map fun p => .tup [kT p.1, p.2]) (us.map V.ref)
  | [], xs, us, hn, r, p => by
    have r : xs = [] := r
    subst r
    cases p
    rfl
  | (k, t) :: kvs, xs, us, hn, r, p => by
    obtain ⟨y, ys, rfl, h1, h2⟩ := r
    cases p with
    | cons p1 p2 => exact ⟨_, _, rfl, ⟨_, _, rfl, hn _ List.mem_cons_self, p1, ⟨_, _, rfl, rep_kT, ⟨_, _, rfl, h1, rfl⟩⟩⟩, repL_pairs (fun t ht => hn t (List.mem_cons_of_mem _ ht)) h2 p2⟩
section
variable {CT : TTs} {E : XK} {X : Cx} {p apos cpos pos : Pos}
theorem de_listIt {a : Expr} {t : TED} (hc : X.calm = true) (hm : X.mg "list" = none) (ha : DE CT E X a t) (hg : Gl X "list" := by rfl) (hbase : attributeBase a "items" X.env (eval a X.env) = eval a X.env := by rfl) (hline : (apos.endLine == cpos.line) = true := by rfl)
    (hs : starEach [.Call (.Attribute a "items" apos) [] [] cpos] X.env = (false, eval (.Call (.Attribute a "items" apos) [] [] cpos) X.env) :: starEach [] X.env := by rfl) :
    DE CT E X (.Call (.Name "list" p) [.Call (.Attribute a "items" apos) [] [] cpos] [] pos) (dListIt t) :=
  .of (LiI.pe_listItems hc ha.pe hg hm boot_list hbase hline hs) fun σ H as S ρ Xq Qd Q z q k => ⟨as, S, ρ, Xq, _, z, q, fun as1 S1 H1 d x o1 s1 r ⟨kvs, hd, q1⟩ => by
    subst hd
    obtain ⟨a, xs, rfl, hn, hH, hr⟩ := r
    refine ⟨a, xs, rfl, hH, fun H' p us k1 k2 k3 k4 k5 k6 => ?_⟩
    obtain ⟨st', on'⟩ := s1.grow k1
    refine k as1 S1 H' (.t (.lst _)) (.ref p) (o1.trans on') st' ?_ q1
    exact ⟨p, us.map V.ref, rfl, fun l => s1.live_there l k2, k5, repL_pairs (fun t ht l => s1.live_there l (k3 t ht)) (RepK.ext on'.ext _ _ hr) k6⟩⟩
end
end DL
set_option Elab.async false
set_option linter.all false
set_option maxRecDepth 100000
set_option maxHeartbeats 2000000
/-! DL34: a store of the stream and cells that refer to earlier ones alone; trees of cells -/
namespace DL
open PySem PySem.Spec PyProof.Rows L2
/-- cells that refer to earlier ones alone -/
def Jk (R : Store) : Prop := ∀ i c, R[i]? = some c → c.plain = true ∧ ∀ d ∈ dsOf c, (∃ x, d = .t x) ∨ ∃ j, d = .m j ∧ 2 ≤ j ∧ j < i + 2
theorem allFz_0 {b : Nat} : AllFz (st b []) := by
  intro i c e
  match i with
  | 0 => cases e; exact .inl rfl
  | 1 => cases e; exact .inl rfl
  | i + 2 => cases e
theorem closed_0 {b : Nat} : ClosedS 2 (st b []) := by
  intro c hc
  rcases List.mem_cons.mp hc with rfl | hc
  · exact True.intro
  · rcases List.mem_cons.mp hc with rfl | hc
    · show 0 < 2; decide
    · cases hc
theorem Jk.nil : Jk [] := fun i c e => by simp at e
theorem Jk.kr {R : Store} (h : Jk R) (b : Nat) : KR (st b []) (fun i => min i (R.length + 2)) (st b R) where
  pre := rfl
  len := by simp
  ok := fun i c hi e => by
    have hi2 : 2 ≤ i := by simpa using hi
    obtain ⟨k, rfl⟩ : ∃ k, i = k + 2 := ⟨i - 2, by omega⟩
    rw [st_get] at e
    have hk := (List.getElem?_eq_some_iff.mp e).1
    obtain ⟨h1, h2⟩ := h k c e
    refine ⟨h1, fun d hd => ?_⟩
    rcases h2 d hd with h3 | ⟨j, rfl, h4, h5⟩
    · exact .inl h3
    · exact .inr ⟨j, rfl, by simpa using h4, by simp; omega, by show min j _ < min _ _; omega⟩
theorem Jk.closed {R : Store} (h : Jk R) {b : Nat} : ClosedS (R.length + 2) (st b R) := (h.kr b).closed closed_0
theorem Jk.closed' {R : Store} (h : Jk R) {b : Nat} : ClosedS (st b R).length (st b R) := h.closed
theorem Jk.allFz {R : Store} (h : Jk R) {b : Nat} : AllFz (st b R) := (h.kr b).allFz allFz_0 fun i => by show min i _ ≤ _; simp; omega
theorem Jk.app {R R' : Store} (h : Jk R) (h2 : ∀ i c, R'[i]? = some c → c.plain = true ∧ ∀ d ∈ dsOf c, (∃ x, d = .t x) ∨ ∃ j, d = .m j ∧ 2 ≤ j ∧ j < R.length + i + 2) : Jk (R ++ R') := fun i c e => by
  rcases Nat.lt_or_ge i R.length with hl | hl
  · rw [List.getElem?_append_left hl] at e; exact h i c e
  · rw [List.getElem?_append_right hl] at e
    have := h2 _ c e
    rwa [show R.length + (i - R.length) = i by omega] at this
theorem Jk.one {R : Store} {c : Cell} (h : Jk R) (hp : c.plain = true) (hc : ∀ d ∈ dsOf c, (∃ x, d = .t x) ∨ ∃ j, d = .m j ∧ 2 ≤ j ∧ j < R.length + 2) : Jk (R ++ [c]) := h.app fun i c' e => by
  cases i with
  | zero => have e : c = c' := by simpa using e
            subst e; exact ⟨hp, fun d hd => hc d hd⟩
  | succ i => simp at e
theorem Jk.ins0 {R : Store} {C : Addr} (h : Jk R) : Jk (R ++ [.ins C []]) := h.one rfl fun d hd => by simp [dsOf] at hd
theorem Jk.insT {R : Store} {C : Addr} {fs : List (Str × T)} (h : Jk R) : Jk (R ++ [.ins C (fs.map fun p => (p.1, .t p.2))]) := h.one rfl fun d hd => by
  obtain ⟨p, hp, rfl⟩ := List.mem_map.mp (show d ∈ (fs.map fun p => (p.1, D.t p.2)).map (·.2) from hd)
  obtain ⟨q, _, rfl⟩ := List.mem_map.mp hp
  exact .inl ⟨_, rfl⟩
theorem Jk.lst {R : Store} {ts : List T} (h : Jk R) : Jk (R ++ [.lst (ts.map .t)]) := h.one rfl fun d hd => by
  have hd : d ∈ ts.map D.t := hd
  obtain ⟨t, _, rfl⟩ := List.mem_map.mp hd
  exact .inl ⟨_, rfl⟩
theorem Jk.set {R : Store} {i : Nat} {c : Cell} (h : Jk R) (hp : c.plain = true) (hc : ∀ d ∈ dsOf c, (∃ x, d = .t x) ∨ ∃ j, d = .m j ∧ 2 ≤ j ∧ j < i + 2) : Jk (R.set i c) := fun k c' e => by
  by_cases hik : i = k
  · subst hik
    by_cases hl : i < R.length
    · rw [List.getElem?_set_self hl] at e; cases e; exact ⟨hp, hc⟩
    · rw [List.getElem?_eq_none (by simp; omega)] at e; cases e
  · rw [List.getElem?_set_ne hik] at e; exact h k c' e
theorem Jk.setLst {R : Store} {i : Nat} {ts : List T} (h : Jk R) : Jk (R.set i (.lst (ts.map .t))) := h.set rfl fun d hd => by
  have hd : d ∈ ts.map D.t := hd
  obtain ⟨t, _, rfl⟩ := List.mem_map.mp hd
  exact .inl ⟨_, rfl⟩
/-! ### trees of cells -/
theorem tree_tup2 {S : Store} {i j : Nat} {x : T} {ts : List T} (h : S[i]? = some (.tup [.t x, .m j])) (h2 : S[j]? = some (.lst (ts.map .t))) : D.tree S (.m i) = some (.tup [x, .lst ts]) := by
  have hl := (List.getElem?_eq_some_iff.mp h).1
  obtain ⟨n, hn⟩ : ∃ n, S.length = n + 1 := ⟨S.length - 1, by omega⟩
  show frz 0 S (S.length + 1) (.m i) = _
  rw [hn]
  unfold frz
  rw [h]
  have e : frz 0 S (n + 1) (.m j) = some (.lst ts) := by
    unfold frz
    rw [h2]
    simp [frzL_t (asTs_map ts)]
  simp only [Nat.zero_le, if_true]
  unfold frzL
  rw [show frz 0 S (n + 1) (.t x) = some x from by unfold frz; rfl]
  unfold frzL
  rw [e]
  unfold frzL
  rfl
/-- a tuple told: trees alone, a tree -/
theorem mkTup_t {ts : List T} {S : Store} {Q : D → Store → Prop} (q : Q (.t (.tup ts)) S) : mkTup (ts.map .t) S Q := .inl ⟨ts, asTs_map ts, q⟩
/-! ### what was raised -/
theorem exEnd {m : Mode} {S : Store} {Q : D → Store → Prop} {E : Ex → Prop} {e : Ex} (h : ∀ p ∈ e.2, refD S.length p.2) (q : E e) : (endsOf m S Q E).ex e S := ⟨List.take_length, h, q⟩
theorem exEnd1 {m : Mode} {S : Store} {Q : D → Store → Prop} {E : Ex → Prop} {C : Addr} {f : Str} {t : T} (q : E (C, [(f, .t t)])) : (endsOf m S Q E).ex (C, [(f, .t t)]) S := exEnd (fun p hp => by
  have : p = (f, .t t) := by simpa using hp
  subst this; exact trivial) q
/-! ### things told alike: data, dicts too -/
mutual
def sd : Nat → T → Bool
  | _, .v y => dat 0 (.v y)
  | n + 1, .lst ts => decide (ts.length ≤ 100000) && sds n ts
  | n + 1, .tup ts => decide (ts.length ≤ 100000) && sds n ts
  | n + 3, .dct kvs => decide (kvs.length ≤ 100000) && sdk n kvs
  | _, _ => false
def sds : Nat → List T → Bool
  | _, [] => true
  | n, t :: ts => sd n t && sds n ts
def sdk : Nat → List (Key × T) → Bool
  | _, [] => true
  | n, (k, t) :: kvs => dat 0 (kT k) && sd n t && sdk n kvs
end
theorem sds_all {n : Nat} : ∀ {ts : List T}, sds n ts = true ↔ ∀ t ∈ ts, sd n t = true
  | [] => by simp [sds]
  | t :: ts => by simp [sds, sds_all (ts := ts)]
theorem sdk_all {n : Nat} : ∀ {ts : List (Key × T)}, sdk n ts = true ↔ ∀ p ∈ ts, dat 0 (kT p.1) = true ∧ sd n p.2 = true
  | [] => by simp [sdk]
  | (k, t) :: ts => by simp [sdk, sdk_all (ts := ts), and_assoc]
theorem sd_v {n : Nat} {y : V} : sd n (.v y) = dat 0 (.v y) := by cases n <;> simp [sd]
theorem sd_lst {n : Nat} {ts : List T} : sd (n + 1) (.lst ts) = true ↔ ts.length ≤ 100000 ∧ ∀ t ∈ ts, sd n t = true := by simp [sd, sds_all]
theorem sd_tup {n : Nat} {ts : List T} : sd (n + 1) (.tup ts) = true ↔ ts.length ≤ 100000 ∧ ∀ t ∈ ts, sd n t = true := by simp [sd, sds_all]
theorem sd_dct {n : Nat} {ts : List (Key × T)} : sd (n + 3) (.dct ts) = true ↔ ts.length ≤ 100000 ∧ ∀ p ∈ ts, dat 0 (kT p.1) = true ∧ sd n p.2 = true := by simp [sd, sdk_all]
theorem dat0_v {n : Nat} {y : V} (h : dat 0 (.v y) = true) : dat n (.v y) = true := by cases y <;> simp_all [dat]
theorem kT_v {k : Key} : ∃ y, kT k = .v y := by cases k <;> exact ⟨_, rfl⟩
/-- cases of such a thing -/
theorem sd_em {n : Nat} {x : T} (h : sd n x = true) : (∃ y, x = .v y ∧ dat 0 (.v y) = true) ∨ (∃ m ts, n = m + 1 ∧ (x = .lst ts ∨ x = .tup ts) ∧ ts.length ≤ 100000 ∧ ∀ t ∈ ts, sd m t = true) ∨ ∃ m kvs, n = m + 3 ∧ x = .dct kvs ∧ kvs.length ≤ 100000 ∧ ∀ p ∈ kvs, dat 0 (kT p.1) = true ∧ sd m p.2 = true := by
  cases x with
  | v y => exact .inl ⟨y, rfl, by rw [sd_v] at h; exact h⟩
  | lst ts =>
    cases n with
    | zero => simp [sd] at h
    | succ m => exact .inr (.inl ⟨m, ts, rfl, .inl rfl, (sd_lst.mp h).1, (sd_lst.mp h).2⟩)
  | tup ts =>
    cases n with
    | zero => simp [sd] at h
    | succ m => exact .inr (.inl ⟨m, ts, rfl, .inr rfl, (sd_tup.mp h).1, (sd_tup.mp h).2⟩)
  | dct kvs =>
    match n with
    | 0 => simp [sd] at h
    | 1 => simp [sd] at h
    | 2 => simp [sd] at h
    | m + 3 => exact .inr (.inr ⟨m, kvs, rfl, rfl, (sd_dct.mp h).1, (sd_dct.mp h).2⟩)
  | ins C fs => simp [sd] at h
/-- a dict's pairs -/
theorem sd_items {m : Nat} {kvs : List (Key × T)} (hl : kvs.length ≤ 100000) (h : ∀ p ∈ kvs, dat 0 (kT p.1) = true ∧ sd m p.2 = true) : sd (m + 2) (.lst (kvs.map fun p => .tup [kT p.1, p.2])) = true := by
  refine sd_lst.mpr ⟨by simpa using hl, fun t ht => ?_⟩
  obtain ⟨p, hp, rfl⟩ := List.mem_map.mp ht
  obtain ⟨h1, h2⟩ := h p hp
  refine sd_tup.mpr ⟨by simp, fun t ht => ?_⟩
  simp at ht
  rcases ht with rfl | rfl
  · obtain ⟨y, hy⟩ := kT_v (k := p.1)
    rw [hy] at h1 ⊢
    rw [sd_v]; exact h1
  · exact h2
theorem okKs_all {Cs : CF} : ∀ {kvs : List (Key × T)}, okKs Cs kvs = true ↔ ∀ p ∈ kvs, okT Cs p.2 = true
  | [] => by simp [okKs]
  | (k, t) :: kvs => by simp [okKs, okKs_all (kvs := kvs)]
theorem sd_ok1 {Cs : CF} {n : Nat} {x : T} (h : sd n x = true) : ok1 Cs x := by
  rcases sd_em h with ⟨y, rfl, hy⟩ | ⟨m, ts, _, h1, _⟩ | ⟨m, kvs, _, rfl, _⟩
  · exact okT_ok1 (dat_ok 0 _ hy)
  · rcases h1 with rfl | rfl
    · exact ⟨_, rfl, True.intro⟩
    · exact ⟨_, rfl, True.intro⟩
  · exact ⟨_, rfl, True.intro⟩
/-! ### displays of trees -/
theorem le_100000 : (100000 : Nat) ≤ sizeLine := by decide
def Is (te : TED) (x : T) (ρ : Env) : Prop := ∀ (X : XQ) (S : Store) (Q : D → Store → Prop), Q (.t x) S → te X ρ S Q
def IsL (ta : TAD) (xs : List T) (ρ : Env) : Prop := ∀ (X : XQ) (S : Store) (Q : List D → Store → Prop), Q (xs.map .t) S → ta X ρ S Q
section
variable {ρ : Env} {x : T} {xs : List T} {te : TED} {ta : TAD}
theorem is_c {v : V} : Is (dC v) (.v v) ρ := fun X S Q q => q
theorem is_v {i : Nat} (h : ρ[i]? = some (some (.t x))) : Is (dVar i) x ρ := fun X S Q q => by rw [dVar_e]; exact ⟨_, h, q⟩
theorem isL_nil : IsL dNil [] ρ := fun X S Q q => q
theorem isL_cons (h : Is te x ρ) (h2 : IsL ta xs ρ) : IsL (dCons te ta) (x :: xs) ρ := fun X S Q q => h X S _ (h2 X S _ q)
theorem is_tup (h : IsL ta xs ρ) (hl : xs.length ≤ 100000) : Is (dTup ta) (.tup xs) ρ := fun X S Q q => h X S _ ⟨by rw [List.length_map]; exact Nat.le_trans hl le_100000, _, asTs_map xs, q⟩
theorem is_lst (h : IsL ta xs ρ) (hl : xs.length ≤ 100000) : Is (dLst ta) (.lst xs) ρ := fun X S Q q => h X S _ ⟨by rw [List.length_map]; exact Nat.le_trans hl le_100000, _, asTs_map xs, q⟩
theorem is_neg {i : Int} (h : Is te (.int i) ρ) : Is (dUn (uI fun i => .int (-i)) te) (.int (-i)) ρ := fun X S Q q => h X S _ (by simpa using q)
theorem is_dct0 : Is dDct0 (.dct []) ρ := fun X S Q q => q
theorem is_dict {kvs : List (Key × T)} (h : IsL ta [.lst (kvs.map fun p => .tup [kT p.1, p.2])] ρ) : Is (dCB cDict ta) (.dct (mergeT [] kvs)) ρ := fun X S Q q => h X S _ ⟨kvs, rfl, q⟩
theorem is_lstM (h : IsL ta xs ρ) (hl : xs.length ≤ 100000) {X : XQ} {S : Store} {Q : D → Store → Prop} (q : Q (.m S.length) (S ++ [.lst (xs.map .t)])) : dLstM ta X ρ S Q := h X S _ ⟨by rw [List.length_map]; exact Nat.le_trans hl le_100000, q⟩
end
/-! ### one step at a time (where simp would make one great step) -/
section
variable {De : DEnds} {X : XQ} {ρ : Env} {S : Store} {t u : TSD} {e o : TED} {g : TGD} {ta : TAD}
theorem sq (q : t { De with nx := u De } ρ S) : sSeq t u De ρ S := q
theorem asg (q : e De.ex ρ S fun d S1 => g d De.ex ρ S1 De.nx) : sAsg e g De ρ S := q
theorem drp (q : e De.ex ρ S fun _ S1 => De.nx ρ S1) : sDrop e De ρ S := q
theorem rts (q : e De.ex ρ S De.rt) : sRet e De ρ S := q
theorem gv {i : Nat} {d : D} {Q : Env → Store → Prop} (q : Q (ρ.set i (some d)) S) : gVar i d X ρ S Q := q
theorem dvr {i : Nat} {d : D} {Q : D → Store → Prop} (h : ρ[i]? = some (some d)) (q : Q d S) : dVar i X ρ S Q := ⟨d, h, q⟩
theorem bm {ty : D → Store → Prop} {r : D → RAD} {Q : D → Store → Prop} (q : o X ρ S fun d S1 => ty d S1 ∧ ta X ρ S1 fun ds S2 => r d ds S2 Q) : dBM ty r o ta X ρ S Q := q
theorem dop {r : R2D} {a b : TED} {Q : D → Store → Prop} (q : a X ρ S fun x S1 => b X ρ S1 fun y S2 => r x y S2 Q) : dOp r a b X ρ S Q := q
theorem ct {xs : List T} {te : TED} {x : T} {Q : D → Store → Prop} (h : Is te x ρ) (q : Q (.t x) S) : te X ρ S Q := h X S Q q
theorem ctL {xs : List T} {Q : List D → Store → Prop} (h : IsL ta xs ρ) (q : Q (xs.map .t) S) : ta X ρ S Q := h X S Q q
end
end DL
set_option Elab.async false
set_option linter.all false
set_option maxRecDepth 100000
set_option maxHeartbeats 2000000
/-! DL35: expressions that are trees, tests that are known, whatever the store -/
namespace DL
open PySem PySem.Spec PyProof.Rows L2
def IsT (tt : TTD) (b : Bool) (ρ : Env) : Prop := ∀ (X : XQ) (S : Store) (Q : Bool → Store → Prop), Q b S → tt X ρ S Q
section
variable {ρ : Env} {a b c : TED} {x y : T} {xs ys : List T} {i j : Int} {t u : TTD} {p q : Bool}
theorem is_op {r : R2D} {z : T} (ha : Is a x ρ) (hb : Is b y ρ) (h : ∀ S (Q : D → Store → Prop), Q (.t z) S → r (.t x) (.t y) S Q) : Is (dOp r a b) z ρ := fun X S Q q => ha X S _ (hb X S _ (h S Q q))
theorem is_add (ha : Is a (.int i) ρ) (hb : Is b (.int j) ρ) : Is (dOp oAdd a b) (.int (i + j)) ρ := is_op ha hb fun S Q q => by rw [oAdd_ii]; exact q
theorem is_cat (ha : Is a (.lst xs) ρ) (hb : Is b (.lst ys) ρ) (hl : xs.length + ys.length ≤ 100000) : Is (dOp oAdd a b) (.lst (xs ++ ys)) ρ := is_op ha hb fun S Q q => by rw [oAdd_ll]; exact ⟨Nat.le_trans hl le_100000, q⟩
theorem is_i0 {g : Int → Int → V} (ha : Is a (.int i) ρ) (hb : Is b (.int j) ρ) : Is (dOp (oI0 g) a b) (.v (g i j)) ρ := is_op ha hb fun S Q q => ⟨i, j, rfl, rfl, q⟩
theorem is_i {C : Int → Int → Prop} {g : Int → Int → V} (ha : Is a (.int i) ρ) (hb : Is b (.int j) ρ) (hc : C i j) : Is (dOp (oI C g) a b) (.v (g i j)) ρ := is_op ha hb fun S Q q => ⟨i, j, rfl, rfl, hc, q⟩
theorem is_eq (ha : Is a x ρ) (hb : Is b y ρ) (hx : dat 64 x = true) (hy : dat 64 y = true) : Is (dOp oEq a b) (.bl (eqT x y)) ρ := is_op ha hb fun S Q q => by rw [oEq_of tree_t tree_t hx hy]; exact q
theorem is_ne (ha : Is a x ρ) (hb : Is b y ρ) (hx : dat 64 x = true) (hy : dat 64 y = true) : Is (dOp oNe a b) (.bl (!eqT x y)) ρ := is_op ha hb fun S Q q => by rw [oNe_of tree_t tree_t hx hy]; exact q
theorem is_in {neg : Bool} (ha : Is a x ρ) (hb : Is b (.lst ys) ρ) (hx : dat 64 x = true) (hy : dat 64 (.lst ys) = true) : Is (dOp (oIn neg) a b) (.bl (if neg then !(ys.any fun z => eqT z x) else ys.any fun z => eqT z x)) ρ := is_op ha hb fun S Q q => oIn_l hx hy q
theorem is_ix {z : T} (ha : Is a x ρ) (hb : Is b (.int i) ρ) (hs : seqOf x = some xs) (h : atI xs i = some z) : Is (dOp oIx a b) z ρ := is_op ha hb fun S Q q => by rw [oIx_x hs]; exact ⟨z, h, q⟩
theorem is_slF (ha : Is a (.lst xs) ρ) (hb : Is b (.int i) ρ) : Is (dSl a (dPart b) dNoPart) (.lst (cutG xs (some i) none)) ρ := fun X S Q q => ha X S _ (hb X S _ ⟨i, rfl, by show slD _ _ _ _ _; rw [slD_l]; exact q⟩)
theorem is_slT (ha : Is a (.lst xs) ρ) (hb : Is b (.int i) ρ) : Is (dSl a dNoPart (dPart b)) (.lst (cutG xs none (some i))) ρ := fun X S Q q => ha X S _ (hb X S _ ⟨i, rfl, by show slD _ _ _ _ _; rw [slD_l]; exact q⟩)
theorem is_slB (ha : Is a (.lst xs) ρ) (hb : Is b (.int i) ρ) (hc : Is c (.int j) ρ) : Is (dSl a (dPart b) (dPart c)) (.lst (cutG xs (some i) (some j))) ρ := fun X S Q q => ha X S _ (hb X S _ ⟨i, rfl, hc X S _ ⟨j, rfl, by show slD _ _ _ _ _; rw [slD_l]; exact q⟩⟩)
theorem is_slTt (ha : Is a (.tup xs) ρ) (hb : Is b (.int i) ρ) : Is (dSl a dNoPart (dPart b)) (.tup (cutG xs none (some i))) ρ := fun X S Q q => ha X S _ (hb X S _ ⟨i, rfl, by show slD _ _ _ _ _; rw [slD_t]; exact q⟩)
theorem is_len (ha : Is a x ρ) (hs : seqOf x = some xs) : Is (dCB cLen (dCons a dNil)) (.int xs.length) ρ := fun X S Q q => ha X S _ (by show cLen [.t x] S Q; rw [cLen_x hs]; exact q)
theorem is_listRg {n : Nat} (ha : Is a (.int n) ρ) (hn : n ≤ 100000) : Is (dListRg a) (.lst ((List.range n).map fun k : Nat => .int k)) ρ := fun X S Q q => ha X S _ ⟨n, rfl, by omega, by omega, by simpa using q⟩
theorem is_int2 {g : Int → Int → Int} (ha : Is a (.int i) ρ) (hb : Is b (.int j) ρ) : Is (dCB (cInt2 g) (dCons a (dCons b dNil))) (.int (g i j)) ρ := fun X S Q q => ha X S _ (hb X S _ ⟨i, j, rfl, q⟩)
theorem is_idx {z : T} (ha : Is a x ρ) (hb : Is b y ρ) (ht : ∀ S, tyLst (.t x) S) (h : ∀ S (Q : D → Store → Prop), Q (.t z) S → mIndexT (.t x) [.t y] S Q) : Is (dBM tyLst mIndexT a (dCons b dNil)) z ρ := fun X S Q q => ha X S _ ⟨ht S, hb X S _ (h S Q q)⟩
theorem is_if {z : T} (ht : IsT t p ρ) (ha : p = true → Is a z ρ) (hb : p = false → Is b z ρ) : Is (dIf t a b) z ρ := fun X S Q q => ht X S _ (by
  cases p with
  | true => exact ha rfl X S Q q
  | false => exact hb rfl X S Q q)
theorem isT_b (h : Is a (.bl p) ρ) : IsT (dB a) p ρ := fun X S Q q => h X S _ ⟨p, rfl, q⟩
theorem isT_not (h : IsT t p ρ) : IsT (dNotT t) (!p) ρ := fun X S Q q => h X S _ q
theorem isT_and (h : IsT t p ρ) (h2 : IsT u q ρ) : IsT (dAndT t u) (p && q) ρ := fun X S Q z => h X S _ (by
  cases p with
  | true => exact h2 X S Q z
  | false => exact z)
theorem isT_or (h : IsT t p ρ) (h2 : IsT u q ρ) : IsT (dOrT t u) (p || q) ρ := fun X S Q z => h X S _ (by
  cases p with
  | true => exact z
  | false => exact h2 X S Q z)
theorem tyLst_x {S : Store} : tyLst (.t (.lst xs)) S := ⟨_, rfl⟩
end
/-! ### statements -/
section
variable {De : DEnds} {X : XQ} {ρ : Env} {S : Store} {t u : TSD} {e : TED} {g : TGD} {tt : TTD} {x : T}
theorem asgIs {i : Nat} (h : Is e x ρ) (q : De.nx (ρ.set i (some (.t x))) S) : sAsg e (gVar i) De ρ S := h _ _ _ q
theorem ifT (h : IsT tt true ρ) (q : t De ρ S) : sIf tt t u De ρ S := h _ _ _ q
theorem ifF (h : IsT tt false ρ) (q : u De ρ S) : sIf tt t u De ρ S := h _ _ _ q
theorem ifIs {p : Bool} (h : IsT tt p ρ) (q1 : p = true → t De ρ S) (q2 : p = false → u De ρ S) : sIf tt t u De ρ S := h _ _ _ (by
  cases p with
  | true => exact q1 rfl
  | false => exact q2 rfl)
theorem ifx (q : tt De.ex ρ S fun b S1 => if b = true then t De ρ S1 else u De ρ S1) : sIf tt t u De ρ S := q
theorem retIs (h : Is e x ρ) (q : De.rt (.t x) S) : sRet e De ρ S := h _ _ _ q
theorem nxt (q : De.nx ρ S) : sNext De ρ S := q
theorem lcx {wi : TID} {tc : TTD} {te : TED} {vs : List Nat} {Q : D → Store → Prop} (q : wi X ρ S fun it S1 => lcTr g tc te vs ρ it S1 Q) : dLc wi g tc te vs X ρ S Q := q
theorem iseq {R : ItD → Store → Prop} {ts : List T} (h : Is e x ρ) (hs : seqOf x = some ts) (q : ∀ it, ItT it ts → R it S) : iSeq e X ρ S R := h _ _ _ (itT_x hs q)
theorem izip {a b : TED} {R : ItD → Store → Prop} {xs ys : List T} (ha : Is a (.lst xs) ρ) (hb : Is b (.lst ys) ρ) (q : ∀ it, ItT it ((xs.zip ys).map fun p => .tup [p.1, p.2]) → R it S) : iZipD (dCons a (dCons b dNil)) X ρ S R := ha _ _ _ (hb _ _ _ (zipT_x (.inl ⟨rfl, rfl⟩) q))
theorem forx {wi : TID} {tb : TSD} (q : wi De.ex ρ S fun it S1 => forI g tb De ρ it S1) : sFor wi g tb De ρ S := q
/-- a list told of another one, thing by thing -/
theorem is_lc {wi : TED} {te : TED} {vs : List Nat} {ts : List T} (h : Is wi x ρ) (hs : seqOf x = some ts) (f : T → T) (hl : ts.length ≤ 100000) (hc : ClosedS S.length S)
    (hg : ∀ x ∈ ts, ∀ (S2 : Store) (Ky : D → Store → Prop), Ky (.t (f x)) S2 → g (.t x) noX (wipeD ρ vs) S2 fun ρ2 S3 => te noX ρ2 S3 Ky) {Q : D → Store → Prop} (q : Q (.t (.lst (ts.map f))) S) : dLc (iSeq wi) g dYes te vs X ρ S Q :=
  lcx (iseq h hs fun it hit => lc_map f hit hc (Nat.le_trans hl le_100000) hg q)
end
end DL
set_option Elab.async false
set_option linter.all false
set_option maxRecDepth 100000
set_option maxHeartbeats 2000000
/-! DL36: small steps (2); lists of cells many times -/
namespace DL
open PySem PySem.Spec PyProof.Rows L2
/-- xs * k: a cell -/
def oRepM : R2D := fun x y S Q => ∃ xs j, seqL S x = some xs ∧ y = .int j ∧ -(2 ^ 63) ≤ j ∧ j < 2 ^ 63 ∧ xs.length * j.toNat ≤ sizeLine ∧ Q (.m S.length) (S ++ [.lst (List.replicate j.toNat xs).flatten])
theorem br_repM {CT : TTs} : Br2 CT rRep oRepM := fun as S H x y dx dy Qd Q st rx ry ⟨xs, j, e1, e2, h0, h1, hl, q⟩ k => by
  subst e2
  obtain ⟨a, us, rfl, h2, h3⟩ := seqL_ok st rx e1
  exact ⟨a, j, us, rfl, ry, h2, h0, h1, by rw [← Paired.length h3]; exact hl, fun p hp => new_cell st (Paired.flat h3 j.toNat) k hp q⟩
theorem ev1 {te : TED} {x : T} {X : XQ} {ρ : Env} {S : Store} {Q : D → Store → Prop} (h : Is te x ρ) (q : Q (.t x) S) : te X ρ S Q := h X S Q q
theorem cutG_b {α : Type} {xs : List α} {i j : Nat} : cutG xs (some (i : Int)) (some (j : Int)) = (xs.drop i).take (j - i) := by
  unfold cutG
  rw [sIx_nat', sIx_nat']
  by_cases h : i ≤ xs.length
  · rw [Nat.min_eq_left h]
    by_cases h2 : j ≤ xs.length
    · rw [Nat.min_eq_left h2]
    · rw [Nat.min_eq_right (by omega), List.take_of_length_le (by simp), List.take_of_length_le (by simp; omega)]
  · rw [Nat.min_eq_right (a := i) (by omega), List.drop_of_length_le (Nat.le_refl _), List.drop_of_length_le (by omega)]
    simp
theorem cutG_init {α : Type} {xs : List α} {x : α} : cutG (xs ++ [x]) none (some (-1)) = xs := by
  unfold cutG
  have h : HT.sIx (xs ++ [x]).length (xs ++ [x]).length (some (-1)) = xs.length := by
    show (if (-1 : Int) < 0 then ((-1 : Int) + (((xs ++ [x]).length : Nat) : Int)).toNat else min (-1 : Int).toNat (xs ++ [x]).length) = _
    rw [if_pos (by omega)]
    simp
    omega
  have h0 : HT.sIx (xs ++ [x]).length 0 none = 0 := rfl
  rw [h, h0]
  simp
theorem atI_last {α : Type} {xs : List α} {x : α} (h : xs[xs.length - 1]? = some x) : atI xs (-1) = some x := by
  have hl := (List.getElem?_eq_some_iff.mp h).1
  unfold atI
  have : ixN xs.length (-1) = some (xs.length - 1) := by
    unfold ixN
    rw [if_neg (by omega), if_pos (by omega)]
    congr 1; omega
  rw [this]; exact h
/-! tests that tell -/
section
variable {ρ : Env} {X : XQ} {S : Store} {De : DEnds} {Q : D → Store → Prop} {b e : TED} {x y : T}
theorem dbx {Q : Bool → Store → Prop} (q : e X ρ S fun d S1 => ∃ p, d = .bl p ∧ Q p S1) : dB e X ρ S Q := q
theorem neIf {P P2 : Store → Prop} (h : Is b y ρ) (hx : dat 64 x = true) (hy : dat 64 y = true) (he : eqT x y = true) (q : P2 S) : b X ρ S fun d2 S2 => oNe (.t x) d2 S2 fun d S3 => ∃ p, d = .bl p ∧ (if p = true then P S3 else P2 S3) :=
  h _ _ _ (by rw [oNe_of tree_t tree_t hx hy, he]; exact ⟨false, rfl, q⟩)
theorem eqOn (h : Is b y ρ) (hx : dat 64 x = true) (hy : dat 64 y = true) (q : Q (.bl (eqT x y)) S) : b X ρ S fun d2 S2 => oEq (.t x) d2 S2 Q :=
  h _ _ _ (by rw [oEq_of tree_t tree_t hx hy]; exact q)
theorem ifTail {α : Type} {tt : TTD} {t u : TSD} (C : α → Prop) (f : α → Env) (tail : ∀ x, C x → De.nx (f x) S) (q : (∀ x, C x → De.nx (f x) S) → sIf tt t u De ρ S) : sIf tt t u De ρ S := q tail
theorem cmaxI {ta : TAD} (q : ta X ρ S fun ds S1 => cMax ds S1 Q) : dCB cMax ta X ρ S Q := q
theorem dcons1 {a : TED} {Q : List D → Store → Prop} (q : a X ρ S fun d S1 => Q [d] S1) : dCons a dNil X ρ S Q := q
theorem cInt2x {g : Int → Int → Int} {x : T} {a c : TED} (h : Is a x ρ) (q : c X ρ S fun d S1 => cInt2 g [.t x, d] S1 Q) : dCB (cInt2 g) (dCons a (dCons c dNil)) X ρ S Q := h _ _ _ q
theorem ifTailI {tt : TTD} {t u : TSD} {i : Nat} (C : Nat → Prop) (tail : ∀ k : Nat, C k → De.nx (ρ.set i (some (.t (.int k)))) S) (q : (∀ k : Nat, C k → De.nx (ρ.set i (some (.t (.int k)))) S) → sIf tt t u De ρ S) : sIf tt t u De ρ S := q tail
theorem ifTail2 {tt : TTD} {t u : TSD} {i j : Nat} (C : Nat → Prop) (tail : ∀ (d : Option D) (k : Nat), C k → De.nx ((ρ.set j d).set i (some (.t (.int k)))) S)
    (q : (∀ (d : Option D) (k : Nat), C k → De.nx ((ρ.set j d).set i (some (.t (.int k)))) S) → sIf tt t u De ρ S) : sIf tt t u De ρ S := q tail
theorem gtup {ts : List T} {n : Nat} {g : TGsD} {Q : Env → Store → Prop} (h : ts.length = n) (q : g (ts.map .t) X ρ S Q) : gTupD n g (.t (.tup ts)) X ρ S Q := ⟨_, .inl rfl, by rw [List.length_map]; exact h, q⟩
theorem gcons {t : TGD} {u : TGsD} {d : D} {r : List D} {Q : Env → Store → Prop} (q : t d X ρ S fun ρ' S' => u r X ρ' S' Q) : gConsD t u (d :: r) X ρ S Q := ⟨d, r, rfl, q⟩
theorem gnil {Q : Env → Store → Prop} (q : Q ρ S) : gNilD [] X ρ S Q := ⟨rfl, q⟩
end
/-! small steps of the law -/
def IsD (te : TED) (d : D) (ρ : Env) : Prop := ∀ (X : XQ) (S : Store) (Q : D → Store → Prop), Q d S → te X ρ S Q
theorem isD_v {ρ : Env} {i : Nat} {d : D} (h : ρ[i]? = some (some d)) : IsD (dVar i) d ρ := fun X S Q q => by rw [dVar_e]; exact ⟨_, h, q⟩
section
variable {ρ : Env} {X : XQ} {S : Store} {De : DEnds} {a c : TED} {x y : T} {d : D}
theorem isT_of {tt : TTD} {p q : Bool} (e : p = q) (h : IsT tt p ρ) : IsT tt q ρ := e ▸ h
theorem orF {t u : TTD} {Q : Bool → Store → Prop} (h : IsT t false ρ) (q : u X ρ S Q) : dOrT t u X ρ S Q := h X S _ q
theorem ntx {t : TTD} {Q : Bool → Store → Prop} (q : t X ρ S fun b S1 => Q (!b) S1) : dNotT t X ρ S Q := q
theorem ntIf {P P2 : Prop} (q : P2) : if (!true) = true then P else P2 := q
theorem dconsx {a : TED} {r : TAD} {Q : List D → Store → Prop} (q : a X ρ S fun d S1 => r X ρ S1 fun ds S2 => Q (d :: ds) S2) : dCons a r X ρ S Q := q
end
theorem dlstx {ta : TAD} {X : XQ} {ρ : Env} {S : Store} {Q : D → Store → Prop} (q : ta X ρ S fun ds S1 => ds.length ≤ sizeLine ∧ ∃ ts, asTs ds = some ts ∧ Q (.t (.lst ts)) S1) : dLst ta X ρ S Q := q
theorem dtupx {ta : TAD} {X : XQ} {ρ : Env} {S : Store} {Q : D → Store → Prop} (q : ta X ρ S fun ds S1 => ds.length ≤ sizeLine ∧ ∃ ts, asTs ds = some ts ∧ Q (.t (.tup ts)) S1) : dTup ta X ρ S Q := q
theorem set_app {α : Type} {xs ys : List α} {j : Nat} {c : α} : (xs ++ ys).set (xs.length + j) c = xs ++ ys.set j c := by simp [List.set_append]
theorem orx {t u : TTD} {X : XQ} {ρ : Env} {S : Store} {Q : Bool → Store → Prop} (q : t X ρ S fun b S1 => if b = true then Q true S1 else u X ρ S1 Q) : dOrT t u X ρ S Q := q
theorem lstx {ta : TAD} {X : XQ} {ρ : Env} {S : Store} {Q : D → Store → Prop} (q : ta X ρ S fun ds S1 => ds.length ≤ sizeLine ∧ Q (.m S1.length) (S1 ++ [.lst ds])) : dLstM ta X ρ S Q := q
theorem for_T2 {g : TGD} {tb : TSD} {it : ItD} {ts : List T} {De : DEnds} {ρ : Env} {S : Store} (hi : ItT it ts) (Pv : Nat → Env → Store → Prop) (p0 : Pv 0 ρ S)
    (ph : ∀ i x ρ S (De' : DEnds), De'.nx = Pv (i + 1) → ts[i]? = some x → Pv i ρ S → g (.t x) De'.ex ρ S fun ρ2 S2 => tb De' ρ2 S2) (pn : ∀ ρ S, Pv ts.length ρ S → De.nx ρ S) : forI g tb De ρ it S :=
  for_T hi Pv p0 (fun i x ρ S hx p => ph i x ρ S { De with nx := Pv (i + 1), ct := Pv (i + 1), bk := De.nx } rfl hx p) pn
end DL
set_option Elab.async false
set_option linter.all false
set_option maxRecDepth 100000
set_option maxHeartbeats 2000000
/-! DL37: repr(x) of data, where nothing is being shown -/
namespace DL
open PySem PySem.Spec PyProof.Rows L2
def rRepr (X : Cx) : List V → Hp → VK → Prop := fun xs H Q => ∃ (a : Addr) (d : PyData), xs = [.ref a] ∧ Dp X.K H (.ref a) d ∧ d.showable = true ∧ d.hasDict = false ∧ d.depth ≤ 64 ∧ d.shown.length ≤ sizeLine ∧ Q (.str d.shown) H
theorem call_repr {X : Cx} (hg : X.A.guards = some []) (hu : X.A.units + 65 < cLine) : CallR X (.builtin "repr") (rRepr X) := by
  intro pins s σ H xs us Q I r h
  obtain ⟨a, d, rfl, hd, hs, hn, h64, hz, q⟩ := h
  obtain ⟨u, rfl, ru⟩ := vals1 r
  obtain rfl : u = Value.ref a := ru
  obtain ⟨as, r1⟩ := Dp.reads I d _ _ hd rfl
  refine repr_of_reads' r1 hs (PyData.noDict_hsm hn) hg (by omega) (fun _ _ e => e) (fun h' u tk hk => ?_) hz
  exact ⟨.str d.shown, H, I.un (Un.kept hk) (I.hok.kept hk), ⟨_, rfl⟩, q⟩
end DL
set_option Elab.async false
set_option linter.all false
set_option maxRecDepth 100000
set_option maxHeartbeats 2000000
/-! DL38: facts of function objects as Bools -/
namespace DL
open PySem PySem.Spec PyProof.Rows L2
def fncB (K : PySem.W.Frag) (a : Addr) : Bool := match K.lookup a with
  | some o => o.cls == .type "function"
  | none => false
theorem fncB_ok {K : PySem.W.Frag} {a : Addr} (h : fncB K a = true) : FncC K a := by
  unfold fncB at h
  cases e : K.lookup a with
  | none => rw [e] at h; cases h
  | some o => rw [e] at h; exact ⟨o, e, beq_iff_eq.mp h⟩
end DL
set_option Elab.async false
set_option linter.all false
set_option maxRecDepth 100000
set_option maxHeartbeats 4000000
namespace DL
open PySem PySem.Spec PyProof.Rows L2
def Cs (A : Str → Addr) : CF := ⟨[A "House"], []⟩
/-- the own exceptions -/
def Xs (A : Str → Addr) : List Addr := [A "BadHouse", A "BadPlan"]
def cl_law_met (A : Str → Addr) : List TC := [(A "BadHouse", "house", "thing")]
abbrev N_BadHouse_init : List Str := ["self", "thing"]
abbrev ps_BadHouse_init : List Str := ["self", "thing"]
abbrev N_BadPlan_init : List Str := ["self", "plan"]
abbrev ps_BadPlan_init : List Str := ["self", "plan"]
/-! check_house (house) slots: 0=house -/
abbrev N_check_house : List Str := ["house"]
abbrev ps_check_house : List Str := ["house"]
/-- neither of an own class nor a function object -/
def Ty.pl : Ty → Prop
  | .own _ => False
  | .fn _ => False
  | _ => True
theorem Ty.pl.okIn {Cs : CF} {ty : Ty} (h : ty.pl) : ty.okIn Cs := by
  cases ty <;> first | exact h.elim | exact True.intro
def NoH (S : Store) (d : D) : Prop := ∃ ty, tyD S d = some ty ∧ ty.pl ∧ refD S.length d
theorem tyD_app {S R : Store} {d : D} {ty : Ty} (h : tyD S d = some ty) (hr : refD S.length d) : tyD (S ++ R) d = some ty := by
  cases d with
  | t x => exact h
  | m j =>
    have hj : j < S.length := hr
    show ((S ++ R)[j]?).bind tyC = some ty
    rw [List.getElem?_append_left hj]; exact h
theorem refD_app {n m : Nat} {d : D} (h : refD n d) (hm : n ≤ m) : refD m d := by
  cases d with
  | t x => exact True.intro
  | m j => exact Nat.lt_of_lt_of_le h hm
theorem NoH.app {S R : Store} {d : D} (h : NoH S d) : NoH (S ++ R) d := by
  obtain ⟨ty, h1, h2, h3⟩ := h
  exact ⟨ty, tyD_app h1 h3, h2, refD_app h3 (by simp)⟩
theorem isi_no {A : Str → Addr} {S : Store} {d : D} {Q : D → Store → Prop} (h : NoH S d) (q : Q (.bl false) S) : cIsi (Cs A) [d, .t (.v (.ref (A "House")))] S Q := by
  obtain ⟨ty, h1, h2, h3⟩ := h
  refine ⟨d, ty, h1, .inl ⟨_, false, rfl, ?_, q⟩⟩
  cases ty <;> first | exact h2.elim | simp [isa, Cs]
theorem ex_d {A : Str → Addr} {S : Store} {E : Ex → Prop} {d : D} (h : NoH S d) (q : E (A "BadHouse", [("thing", d)])) : S.take S.length = S ∧ (∀ p ∈ [(("thing" : Str), d)], refD S.length p.2) ∧ E (A "BadHouse", [("thing", d)]) := by
  obtain ⟨_, _, _, h3⟩ := h
  refine ⟨List.take_length, fun p hp => ?_, q⟩
  have : p = (("thing" : Str), d) := by simpa using hp
  subst this; exact h3
theorem dcb2 {r : RAD} {a : TED} {v : V} {X : XQ} {ρ : Env} {S : Store} {Q : D → Store → Prop} (q : a X ρ S fun d S1 => r [d, .t (.v v)] S1 Q) : dCB r (dCons a (dCons (dC v) dNil)) X ρ S Q := q
def ft_check_house (A : Str → Addr) : FT := fun ds S Q E => ∃ d, ds = [d] ∧ NoH S d ∧ E (A "BadHouse", [("thing", d)])
def rd_check_house (A : Str → Addr) : TSD :=
 sSeq (sIf (dNotT (dB (dCB (cIsi (Cs A)) (dCons (dVar 0) (dCons (dC (.ref (A "House"))) (dNil))))))
 (sSeq (sRaise (A "BadHouse") "thing" (dVar 0))
 (sNext))
 (sNext))
 (sNext)
theorem math_check_house (A : Str → Addr) : ∀ (ds : List D) (S : Store) (Q : D → Store → Prop) (E : Ex → Prop), ClosedS S.length S → ds.length = 1 → ft_check_house A ds S Q E → rd_check_house A (endsOf .raw S Q E) (startD 1 ds) S := by
  rintro ds S Q E hc _ ⟨d, rfl, hn, q⟩
  unfold rd_check_house
  refine sq (ifx (ntx (dbx (dcb2 (dvr rfl (isi_no hn ⟨false, rfl, ?_⟩))))))
  exact sq (t := sRaise _ _ _) ⟨_, rfl, ex_d hn q⟩
/-! most_by (house, lot, bell) slots: 0=house 1=lot 2=bell -/
abbrev N_most_by : List Str := ["house", "lot", "bell"]
abbrev ps_most_by : List Str := ["house", "lot", "bell"]
def ft_most_by (A : Str → Addr) : FT := fun _ _ _ _ => False
def rd_most_by (A : Str → Addr) : TSD :=
 sSeq (sNever)
 (sNext)
theorem math_most_by (A : Str → Addr) : ∀ (ds : List D) (S : Store) (Q : D → Store → Prop) (E : Ex → Prop), ClosedS S.length S → ds.length = 3 → ft_most_by A ds S Q E → rd_most_by A (endsOf .raw S Q E) (startD 3 ds) S := by intros; rename_i h; exact False.elim h
/-! checked_both (house, lot, bell) slots: 0=house 1=lot 2=bell 3=known -/
abbrev N_checked_both : List Str := ["house", "lot", "bell", "known"]
abbrev ps_checked_both : List Str := ["house", "lot", "bell"]
def ft_checked_both (A : Str → Addr) : FT := fun ds S Q E => ∃ d r1 r2, ds = [d, r1, r2] ∧ NoH S d ∧ E (A "BadHouse", [("thing", d)])
def rd_checked_both (A : Str → Addr) : TSD :=
 sSeq (sDrop (dCall 1 (ft_check_house A) (dCons (dVar 0) (dNil))))
 (sSeq (sNever)
 (sSeq (sNever)
 (sSeq (sNever)
 (sNext))))
theorem math_checked_both (A : Str → Addr) : ∀ (ds : List D) (S : Store) (Q : D → Store → Prop) (E : Ex → Prop), ClosedS S.length S → ds.length = 3 → ft_checked_both A ds S Q E → rd_checked_both A (endsOf .raw S Q E) (startD 4 ds) S := by
  rintro ds S Q E hc _ ⟨d, r1, r2, rfl, hn, q⟩
  unfold rd_checked_both
  exact sq (t := sDrop _) (drp ⟨_, rfl, rfl, _, rfl, hn, ex_d hn q⟩)
/-! most (house, lot, bell) slots: 0=house 1=lot 2=bell -/
abbrev N_most : List Str := ["house", "lot", "bell"]
abbrev ps_most : List Str := ["house", "lot", "bell"]
def ft_most (A : Str → Addr) : FT := fun ds S Q E => ∃ d r1 r2, ds = [d, r1, r2] ∧ NoH S d ∧ E (A "BadHouse", [("thing", d)])
def rd_most (A : Str → Addr) : TSD :=
 sSeq (sRet (dCall 3 (ft_most_by A) (dCons (dVar 0) (dCons (dCall 3 (ft_checked_both A) (dCons (dVar 0) (dCons (dVar 1) (dCons (dVar 2) (dNil))))) (dCons (dVar 2) (dNil))))))
 (sNext)
theorem math_most (A : Str → Addr) : ∀ (ds : List D) (S : Store) (Q : D → Store → Prop) (E : Ex → Prop), ClosedS S.length S → ds.length = 3 → ft_most A ds S Q E → rd_most A (endsOf .raw S Q E) (startD 3 ds) S := by
  rintro ds S Q E hc _ ⟨d, r1, r2, rfl, hn, q⟩
  unfold rd_most
  exact sq (t := sRet _) (rts ⟨_, rfl, _, rfl, _, rfl, _, rfl, rfl, _, _, _, rfl, hn, ex_d hn q⟩)
/-! most_plan (house, lot, bell) slots: 0=house 1=lot 2=bell 3=known -/
abbrev N_most_plan : List Str := ["house", "lot", "bell", "known"]
abbrev ps_most_plan : List Str := ["house", "lot", "bell"]
def ft_most_plan (A : Str → Addr) : FT := fun ds S Q E => ∃ d r1 r2, ds = [d, r1, r2] ∧ NoH S d ∧ E (A "BadHouse", [("thing", d)])
def rd_most_plan (A : Str → Addr) : TSD :=
 sSeq (sAsg (dCall 3 (ft_checked_both A) (dCons (dVar 0) (dCons (dVar 1) (dCons (dVar 2) (dNil))))) (gVar 3))
 (sSeq (sNever)
 (sNext))
theorem math_most_plan (A : Str → Addr) : ∀ (ds : List D) (S : Store) (Q : D → Store → Prop) (E : Ex → Prop), ClosedS S.length S → ds.length = 3 → ft_most_plan A ds S Q E → rd_most_plan A (endsOf .raw S Q E) (startD 4 ds) S := by
  rintro ds S Q E hc _ ⟨d, r1, r2, rfl, hn, q⟩
  unfold rd_most_plan
  exact sq (t := sAsg _ _) (asg ⟨_, rfl, _, rfl, _, rfl, rfl, _, _, _, rfl, hn, ex_d hn q⟩)
/-! levels (house, lot) slots: 0=house 1=lot -/
abbrev N_levels : List Str := ["house", "lot"]
abbrev ps_levels : List Str := ["house", "lot"]
def ft_levels (A : Str → Addr) : FT := fun ds S Q E => ∃ d r1, ds = [d, r1] ∧ NoH S d ∧ E (A "BadHouse", [("thing", d)])
def rd_levels (A : Str → Addr) : TSD :=
 sSeq (sDrop (dCall 1 (ft_check_house A) (dCons (dVar 0) (dNil))))
 (sSeq (sNever)
 (sNext))
theorem math_levels (A : Str → Addr) : ∀ (ds : List D) (S : Store) (Q : D → Store → Prop) (E : Ex → Prop), ClosedS S.length S → ds.length = 2 → ft_levels A ds S Q E → rd_levels A (endsOf .raw S Q E) (startD 2 ds) S := by
  rintro ds S Q E hc _ ⟨d, r1, rfl, hn, q⟩
  unfold rd_levels
  exact sq (t := sDrop _) (drp ⟨_, rfl, rfl, _, rfl, hn, ex_d hn q⟩)
/-! steady (house, lot) slots: 0=house 1=lot 2=length 3=amount -/
abbrev N_steady : List Str := ["house", "lot", "length", "amount"]
abbrev ps_steady : List Str := ["house", "lot"]
def ft_steady (A : Str → Addr) : FT := fun ds S Q E => ∃ d r1, ds = [d, r1] ∧ NoH S d ∧ E (A "BadHouse", [("thing", d)])
def rd_steady (A : Str → Addr) : TSD :=
 sSeq (sRet (dCB cSum (dCons (dLc (iSeq (dCall 2 (ft_levels A) (dCons (dVar 0) (dCons (dVar 1) (dNil))))) (gTupD 2 (gConsD (gVar 2) (gConsD (gVar 3) (gNilD)))) (dYes) (dVar 3) [2, 3]) (dNil))))
 (sNext)
theorem math_steady (A : Str → Addr) : ∀ (ds : List D) (S : Store) (Q : D → Store → Prop) (E : Ex → Prop), ClosedS S.length S → ds.length = 2 → ft_steady A ds S Q E → rd_steady A (endsOf .raw S Q E) (startD 4 ds) S := by
  rintro ds S Q E hc _ ⟨d, r1, rfl, hn, q⟩
  unfold rd_steady
  exact sq (t := sRet _) (rts ⟨_, rfl, _, rfl, rfl, _, _, rfl, hn, ex_d hn q⟩)
/-! lot_bell (house, lot, amount) slots: 0=house 1=lot 2=amount 3=known -/
abbrev N_lot_bell : List Str := ["house", "lot", "amount", "known"]
abbrev ps_lot_bell : List Str := ["house", "lot", "amount"]
def ft_lot_bell (A : Str → Addr) : FT := fun ds S Q E => ∃ d r1 r2, ds = [d, r1, r2] ∧ NoH S d ∧ E (A "BadHouse", [("thing", d)])
def rd_lot_bell (A : Str → Addr) : TSD :=
 sSeq (sDrop (dCall 1 (ft_check_house A) (dCons (dVar 0) (dNil))))
 (sSeq (sNever)
 (sSeq (sNever)
 (sSeq (sNever)
 (sNext))))
theorem math_lot_bell (A : Str → Addr) : ∀ (ds : List D) (S : Store) (Q : D → Store → Prop) (E : Ex → Prop), ClosedS S.length S → ds.length = 3 → ft_lot_bell A ds S Q E → rd_lot_bell A (endsOf .raw S Q E) (startD 4 ds) S := by
  rintro ds S Q E hc _ ⟨d, r1, r2, rfl, hn, q⟩
  unfold rd_lot_bell
  exact sq (t := sDrop _) (drp ⟨_, rfl, rfl, _, rfl, hn, ex_d hn q⟩)
/-! is_moments (house, lot, bell, thing) slots: 0=house 1=lot 2=bell 3=thing 4=known -/
abbrev N_is_moments : List Str := ["house", "lot", "bell", "thing", "known"]
abbrev ps_is_moments : List Str := ["house", "lot", "bell", "thing"]
def ft_is_moments (A : Str → Addr) : FT := fun ds S Q E => ∃ d r1 r2 r3, ds = [d, r1, r2, r3] ∧ NoH S d ∧ E (A "BadHouse", [("thing", d)])
def rd_is_moments (A : Str → Addr) : TSD :=
 sSeq (sAsg (dCall 3 (ft_checked_both A) (dCons (dVar 0) (dCons (dVar 1) (dCons (dVar 2) (dNil))))) (gVar 4))
 (sSeq (sNever)
 (sNext))
theorem math_is_moments (A : Str → Addr) : ∀ (ds : List D) (S : Store) (Q : D → Store → Prop) (E : Ex → Prop), ClosedS S.length S → ds.length = 4 → ft_is_moments A ds S Q E → rd_is_moments A (endsOf .raw S Q E) (startD 5 ds) S := by
  rintro ds S Q E hc _ ⟨d, r1, r2, r3, rfl, hn, q⟩
  unfold rd_is_moments
  exact sq (t := sAsg _ _) (asg ⟨_, rfl, _, rfl, _, rfl, rfl, _, _, _, rfl, hn, ex_d hn q⟩)
/-! worth (house, moments) slots: 0=house 1=moments -/
abbrev N_worth : List Str := ["house", "moments"]
abbrev ps_worth : List Str := ["house", "moments"]
def ft_worth (A : Str → Addr) : FT := fun ds S Q E => ∃ d r1, ds = [d, r1] ∧ NoH S d ∧ E (A "BadHouse", [("thing", d)])
def rd_worth (A : Str → Addr) : TSD :=
 sSeq (sDrop (dCall 1 (ft_check_house A) (dCons (dVar 0) (dNil))))
 (sSeq (sNever)
 (sSeq (sNever)
 (sNext)))
theorem math_worth (A : Str → Addr) : ∀ (ds : List D) (S : Store) (Q : D → Store → Prop) (E : Ex → Prop), ClosedS S.length S → ds.length = 2 → ft_worth A ds S Q E → rd_worth A (endsOf .raw S Q E) (startD 2 ds) S := by
  rintro ds S Q E hc _ ⟨d, r1, rfl, hn, q⟩
  unfold rd_worth
  exact sq (t := sDrop _) (drp ⟨_, rfl, rfl, _, rfl, hn, ex_d hn q⟩)
/-! moments_by (house, lot, bell) slots: 0=house 1=lot 2=bell 3=web 4=source 5=goal 6=far 7=one -/
abbrev N_moments_by : List Str := ["house", "lot", "bell", "web", "source", "goal", "far", "one"]
abbrev ps_moments_by : List Str := ["house", "lot", "bell"]
def ft_moments_by (A : Str → Addr) : FT := fun _ _ _ _ => False
def rd_moments_by (A : Str → Addr) : TSD :=
 sSeq (sNever)
 (sSeq (sNever)
 (sSeq (sNever)
 (sSeq (sNever)
 (sSeq (sNever)
 (sNext)))))
theorem math_moments_by (A : Str → Addr) : ∀ (ds : List D) (S : Store) (Q : D → Store → Prop) (E : Ex → Prop), ClosedS S.length S → ds.length = 3 → ft_moments_by A ds S Q E → rd_moments_by A (endsOf .raw S Q E) (startD 8 ds) S := by intros; rename_i h; exact False.elim h
/-! moments_for (house, lot, bell) slots: 0=house 1=lot 2=bell -/
abbrev N_moments_for : List Str := ["house", "lot", "bell"]
abbrev ps_moments_for : List Str := ["house", "lot", "bell"]
def ft_moments_for (A : Str → Addr) : FT := fun ds S Q E => ∃ d r1 r2, ds = [d, r1, r2] ∧ NoH S d ∧ E (A "BadHouse", [("thing", d)])
def rd_moments_for (A : Str → Addr) : TSD :=
 sSeq (sRet (dCall 3 (ft_moments_by A) (dCons (dVar 0) (dCons (dCall 3 (ft_checked_both A) (dCons (dVar 0) (dCons (dVar 1) (dCons (dVar 2) (dNil))))) (dCons (dVar 2) (dNil))))))
 (sNext)
theorem math_moments_for (A : Str → Addr) : ∀ (ds : List D) (S : Store) (Q : D → Store → Prop) (E : Ex → Prop), ClosedS S.length S → ds.length = 3 → ft_moments_for A ds S Q E → rd_moments_for A (endsOf .raw S Q E) (startD 3 ds) S := by
  rintro ds S Q E hc _ ⟨d, r1, r2, rfl, hn, q⟩
  unfold rd_moments_for
  exact sq (t := sRet _) (rts ⟨_, rfl, _, rfl, _, rfl, _, rfl, rfl, _, _, _, rfl, hn, ex_d hn q⟩)
/-! plan_fault (house, thing) slots: 0=house 1=thing 2=found 3=turn 4=sort 5=number -/
abbrev N_plan_fault : List Str := ["house", "thing", "found", "turn", "sort", "number"]
abbrev ps_plan_fault : List Str := ["house", "thing"]
def ft_plan_fault (A : Str → Addr) : FT := fun ds S Q E => ∃ d r1, ds = [d, r1] ∧ NoH S d ∧ E (A "BadHouse", [("thing", d)])
def rd_plan_fault (A : Str → Addr) : TSD :=
 sSeq (sDrop (dCall 1 (ft_check_house A) (dCons (dVar 0) (dNil))))
 (sSeq (sNever)
 (sSeq (sNever)
 (sSeq (sNever)
 (sSeq (sNever)
 (sSeq (sNever)
 (sNext))))))
theorem math_plan_fault (A : Str → Addr) : ∀ (ds : List D) (S : Store) (Q : D → Store → Prop) (E : Ex → Prop), ClosedS S.length S → ds.length = 2 → ft_plan_fault A ds S Q E → rd_plan_fault A (endsOf .raw S Q E) (startD 6 ds) S := by
  rintro ds S Q E hc _ ⟨d, r1, rfl, hn, q⟩
  unfold rd_plan_fault
  exact sq (t := sDrop _) (drp ⟨_, rfl, rfl, _, rfl, hn, ex_d hn q⟩)
/-! is_plan (house, thing) slots: 0=house 1=thing -/
abbrev N_is_plan : List Str := ["house", "thing"]
abbrev ps_is_plan : List Str := ["house", "thing"]
def ft_is_plan (A : Str → Addr) : FT := fun ds S Q E => ∃ d r1, ds = [d, r1] ∧ NoH S d ∧ E (A "BadHouse", [("thing", d)])
def rd_is_plan (A : Str → Addr) : TSD :=
 sSeq (sRet (dOp (oIsN false) (dCall 2 (ft_plan_fault A) (dCons (dVar 0) (dCons (dVar 1) (dNil)))) (dC .non)))
 (sNext)
theorem math_is_plan (A : Str → Addr) : ∀ (ds : List D) (S : Store) (Q : D → Store → Prop) (E : Ex → Prop), ClosedS S.length S → ds.length = 2 → ft_is_plan A ds S Q E → rd_is_plan A (endsOf .raw S Q E) (startD 2 ds) S := by
  rintro ds S Q E hc _ ⟨d, r1, rfl, hn, q⟩
  unfold rd_is_plan
  exact sq (t := sRet _) (rts ⟨_, rfl, _, rfl, rfl, _, _, rfl, hn, ex_d hn q⟩)
/-! check_plan (house, plan) slots: 0=house 1=plan -/
abbrev N_check_plan : List Str := ["house", "plan"]
abbrev ps_check_plan : List Str := ["house", "plan"]
def ft_check_plan (A : Str → Addr) : FT := fun ds S Q E => ∃ d r1, ds = [d, r1] ∧ NoH S d ∧ E (A "BadHouse", [("thing", d)])
def rd_check_plan (A : Str → Addr) : TSD :=
 sSeq (sIf (dNotT (dB (dCall 2 (ft_is_plan A) (dCons (dVar 0) (dCons (dVar 1) (dNil))))))
 (sSeq (sRaise (A "BadPlan") "plan" (dVar 1))
 (sNext))
 (sNext))
 (sNext)
theorem math_check_plan (A : Str → Addr) : ∀ (ds : List D) (S : Store) (Q : D → Store → Prop) (E : Ex → Prop), ClosedS S.length S → ds.length = 2 → ft_check_plan A ds S Q E → rd_check_plan A (endsOf .raw S Q E) (startD 2 ds) S := by
  rintro ds S Q E hc _ ⟨d, r1, rfl, hn, q⟩
  unfold rd_check_plan
  exact sq (t := sIf _ _ _) (ifx ⟨_, rfl, _, rfl, rfl, _, _, rfl, hn, ex_d hn q⟩)
/-! brings (house, plan) slots: 0=house 1=plan -/
abbrev N_brings : List Str := ["house", "plan"]
abbrev ps_brings : List Str := ["house", "plan"]
def ft_brings (A : Str → Addr) : FT := fun ds S Q E => ∃ d r1, ds = [d, r1] ∧ NoH S d ∧ E (A "BadHouse", [("thing", d)])
def rd_brings (A : Str → Addr) : TSD :=
 sSeq (sDrop (dCall 2 (ft_check_plan A) (dCons (dVar 0) (dCons (dVar 1) (dNil)))))
 (sSeq (sNever)
 (sNext))
theorem math_brings (A : Str → Addr) : ∀ (ds : List D) (S : Store) (Q : D → Store → Prop) (E : Ex → Prop), ClosedS S.length S → ds.length = 2 → ft_brings A ds S Q E → rd_brings A (endsOf .raw S Q E) (startD 2 ds) S := by
  rintro ds S Q E hc _ ⟨d, r1, rfl, hn, q⟩
  unfold rd_brings
  exact sq (t := sDrop _) (drp ⟨_, rfl, _, rfl, rfl, _, _, rfl, hn, ex_d hn q⟩)
/-! bell_of (house, plan) slots: 0=house 1=plan -/
abbrev N_bell_of : List Str := ["house", "plan"]
abbrev ps_bell_of : List Str := ["house", "plan"]
def ft_bell_of (A : Str → Addr) : FT := fun ds S Q E => ∃ d r1, ds = [d, r1] ∧ NoH S d ∧ E (A "BadHouse", [("thing", d)])
def rd_bell_of (A : Str → Addr) : TSD :=
 sSeq (sDrop (dCall 2 (ft_check_plan A) (dCons (dVar 0) (dCons (dVar 1) (dNil)))))
 (sSeq (sNever)
 (sNext))
theorem math_bell_of (A : Str → Addr) : ∀ (ds : List D) (S : Store) (Q : D → Store → Prop) (E : Ex → Prop), ClosedS S.length S → ds.length = 2 → ft_bell_of A ds S Q E → rd_bell_of A (endsOf .raw S Q E) (startD 2 ds) S := by
  rintro ds S Q E hc _ ⟨d, r1, rfl, hn, q⟩
  unfold rd_bell_of
  exact sq (t := sDrop _) (drp ⟨_, rfl, _, rfl, rfl, _, _, rfl, hn, ex_d hn q⟩)
/-! on_roads (house, plan, turn) slots: 0=house 1=plan 2=turn 3=found 4=begin 5=end 6=length 7=room 8=steps -/
abbrev N_on_roads : List Str := ["house", "plan", "turn", "found", "begin", "end", "length", "room", "steps"]
abbrev ps_on_roads : List Str := ["house", "plan", "turn"]
def ft_on_roads (A : Str → Addr) : FT := fun ds S Q E => ∃ d r1 r2, ds = [d, r1, r2] ∧ NoH S d ∧ E (A "BadHouse", [("thing", d)])
def rd_on_roads (A : Str → Addr) : TSD :=
 sSeq (sDrop (dCall 2 (ft_check_plan A) (dCons (dVar 0) (dCons (dVar 1) (dNil)))))
 (sSeq (sNever)
 (sSeq (sNever)
 (sSeq (sNever)
 (sSeq (sNever)
 (sNext)))))
theorem math_on_roads (A : Str → Addr) : ∀ (ds : List D) (S : Store) (Q : D → Store → Prop) (E : Ex → Prop), ClosedS S.length S → ds.length = 3 → ft_on_roads A ds S Q E → rd_on_roads A (endsOf .raw S Q E) (startD 9 ds) S := by
  rintro ds S Q E hc _ ⟨d, r1, r2, rfl, hn, q⟩
  unfold rd_on_roads
  exact sq (t := sDrop _) (drp ⟨_, rfl, _, rfl, rfl, _, _, rfl, hn, ex_d hn q⟩)
/-! asked (house, wishes, lot) slots: 0=house 1=wishes 2=lot 3=known -/
abbrev N_asked : List Str := ["house", "wishes", "lot", "known"]
abbrev ps_asked : List Str := ["house", "wishes", "lot"]
def ft_asked (A : Str → Addr) : FT := fun ds S Q E => ∃ d r1 r2, ds = [d, r1, r2] ∧ NoH S d ∧ E (A "BadHouse", [("thing", d)])
def rd_asked (A : Str → Addr) : TSD :=
 sSeq (sDrop (dCall 1 (ft_check_house A) (dCons (dVar 0) (dNil))))
 (sSeq (sNever)
 (sSeq (sNever)
 (sNext)))
theorem math_asked (A : Str → Addr) : ∀ (ds : List D) (S : Store) (Q : D → Store → Prop) (E : Ex → Prop), ClosedS S.length S → ds.length = 3 → ft_asked A ds S Q E → rd_asked A (endsOf .raw S Q E) (startD 4 ds) S := by
  rintro ds S Q E hc _ ⟨d, r1, r2, rfl, hn, q⟩
  unfold rd_asked
  exact sq (t := sDrop _) (drp ⟨_, rfl, rfl, _, rfl, hn, ex_d hn q⟩)
/-! lacking (house, wishes, bell) slots: 0=house 1=wishes 2=bell 3=known -/
abbrev N_lacking : List Str := ["house", "wishes", "bell", "known"]
abbrev ps_lacking : List Str := ["house", "wishes", "bell"]
def ft_lacking (A : Str → Addr) : FT := fun ds S Q E => ∃ d r1 r2, ds = [d, r1, r2] ∧ NoH S d ∧ E (A "BadHouse", [("thing", d)])
def rd_lacking (A : Str → Addr) : TSD :=
 sSeq (sDrop (dCall 1 (ft_check_house A) (dCons (dVar 0) (dNil))))
 (sSeq (sNever)
 (sSeq (sNever)
 (sSeq (sNever)
 (sNext))))
theorem math_lacking (A : Str → Addr) : ∀ (ds : List D) (S : Store) (Q : D → Store → Prop) (E : Ex → Prop), ClosedS S.length S → ds.length = 3 → ft_lacking A ds S Q E → rd_lacking A (endsOf .raw S Q E) (startD 4 ds) S := by
  rintro ds S Q E hc _ ⟨d, r1, r2, rfl, hn, q⟩
  unfold rd_lacking
  exact sq (t := sDrop _) (drp ⟨_, rfl, rfl, _, rfl, hn, ex_d hn q⟩)
/-! lot_for (house, wishes, bell) slots: 0=house 1=wishes 2=bell 3=known 4=lot -/
abbrev N_lot_for : List Str := ["house", "wishes", "bell", "known", "lot"]
abbrev ps_lot_for : List Str := ["house", "wishes", "bell"]
def ft_lot_for (A : Str → Addr) : FT := fun ds S Q E => ∃ d r1 r2, ds = [d, r1, r2] ∧ NoH S d ∧ E (A "BadHouse", [("thing", d)])
def rd_lot_for (A : Str → Addr) : TSD :=
 sSeq (sDrop (dCall 1 (ft_check_house A) (dCons (dVar 0) (dNil))))
 (sSeq (sNever)
 (sSeq (sNever)
 (sSeq (sNever)
 (sSeq (sNever)
 (sNext)))))
theorem math_lot_for (A : Str → Addr) : ∀ (ds : List D) (S : Store) (Q : D → Store → Prop) (E : Ex → Prop), ClosedS S.length S → ds.length = 3 → ft_lot_for A ds S Q E → rd_lot_for A (endsOf .raw S Q E) (startD 5 ds) S := by
  rintro ds S Q E hc _ ⟨d, r1, r2, rfl, hn, q⟩
  unfold rd_lot_for
  exact sq (t := sDrop _) (drp ⟨_, rfl, rfl, _, rfl, hn, ex_d hn q⟩)
/-! is_lot_for (house, wishes, bell, thing) slots: 0=house 1=wishes 2=bell 3=thing 4=known -/
abbrev N_is_lot_for : List Str := ["house", "wishes", "bell", "thing", "known"]
abbrev ps_is_lot_for : List Str := ["house", "wishes", "bell", "thing"]
def ft_is_lot_for (A : Str → Addr) : FT := fun ds S Q E => ∃ d r1 r2 r3, ds = [d, r1, r2, r3] ∧ NoH S d ∧ E (A "BadHouse", [("thing", d)])
def rd_is_lot_for (A : Str → Addr) : TSD :=
 sSeq (sDrop (dCall 1 (ft_check_house A) (dCons (dVar 0) (dNil))))
 (sSeq (sNever)
 (sSeq (sNever)
 (sSeq (sNever)
 (sSeq (sNever)
 (sNext)))))
theorem math_is_lot_for (A : Str → Addr) : ∀ (ds : List D) (S : Store) (Q : D → Store → Prop) (E : Ex → Prop), ClosedS S.length S → ds.length = 4 → ft_is_lot_for A ds S Q E → rd_is_lot_for A (endsOf .raw S Q E) (startD 5 ds) S := by
  rintro ds S Q E hc _ ⟨d, r1, r2, r3, rfl, hn, q⟩
  unfold rd_is_lot_for
  exact sq (t := sDrop _) (drp ⟨_, rfl, rfl, _, rfl, hn, ex_d hn q⟩)
/-! is_plan_for (house, wishes, bell, thing) slots: 0=house 1=wishes 2=bell 3=thing 4=known -/
abbrev N_is_plan_for : List Str := ["house", "wishes", "bell", "thing", "known"]
abbrev ps_is_plan_for : List Str := ["house", "wishes", "bell", "thing"]
def ft_is_plan_for (A : Str → Addr) : FT := fun ds S Q E => ∃ d r1 r2 r3, ds = [d, r1, r2, r3] ∧ NoH S d ∧ E (A "BadHouse", [("thing", d)])
def rd_is_plan_for (A : Str → Addr) : TSD :=
 sSeq (sDrop (dCall 1 (ft_check_house A) (dCons (dVar 0) (dNil))))
 (sSeq (sNever)
 (sSeq (sNever)
 (sSeq (sNever)
 (sNext))))
theorem math_is_plan_for (A : Str → Addr) : ∀ (ds : List D) (S : Store) (Q : D → Store → Prop) (E : Ex → Prop), ClosedS S.length S → ds.length = 4 → ft_is_plan_for A ds S Q E → rd_is_plan_for A (endsOf .raw S Q E) (startD 5 ds) S := by
  rintro ds S Q E hc _ ⟨d, r1, r2, r3, rfl, hn, q⟩
  unfold rd_is_plan_for
  exact sq (t := sDrop _) (drp ⟨_, rfl, rfl, _, rfl, hn, ex_d hn q⟩)
/-! check_both (house, order, bell) slots: 0=house 1=order 2=bell -/
abbrev N_check_both : List Str := ["house", "order", "bell"]
abbrev ps_check_both : List Str := ["house", "order", "bell"]
def ft_check_both (A : Str → Addr) : FT := fun ds S Q E => ∃ d r1 r2, ds = [d, r1, r2] ∧ NoH S d ∧ E (A "BadHouse", [("thing", d)])
def rd_check_both (A : Str → Addr) : TSD :=
 sSeq (sDrop (dCall 1 (ft_check_house A) (dCons (dVar 0) (dNil))))
 (sSeq (sNever)
 (sSeq (sNever)
 (sNext)))
theorem math_check_both (A : Str → Addr) : ∀ (ds : List D) (S : Store) (Q : D → Store → Prop) (E : Ex → Prop), ClosedS S.length S → ds.length = 3 → ft_check_both A ds S Q E → rd_check_both A (endsOf .raw S Q E) (startD 3 ds) S := by
  rintro ds S Q E hc _ ⟨d, r1, r2, rfl, hn, q⟩
  unfold rd_check_both
  exact sq (t := sDrop _) (drp ⟨_, rfl, rfl, _, rfl, hn, ex_d hn q⟩)
/-! plan_by_order (house, order, bell) slots: 0=house 1=order 2=bell -/
abbrev N_plan_by_order : List Str := ["house", "order", "bell"]
abbrev ps_plan_by_order : List Str := ["house", "order", "bell"]
def ft_plan_by_order (A : Str → Addr) : FT := fun ds S Q E => ∃ d r1 r2, ds = [d, r1, r2] ∧ NoH S d ∧ E (A "BadHouse", [("thing", d)])
def rd_plan_by_order (A : Str → Addr) : TSD :=
 sSeq (sDrop (dCall 3 (ft_check_both A) (dCons (dVar 0) (dCons (dVar 1) (dCons (dVar 2) (dNil))))))
 (sSeq (sNever)
 (sNext))
theorem math_plan_by_order (A : Str → Addr) : ∀ (ds : List D) (S : Store) (Q : D → Store → Prop) (E : Ex → Prop), ClosedS S.length S → ds.length = 3 → ft_plan_by_order A ds S Q E → rd_plan_by_order A (endsOf .raw S Q E) (startD 3 ds) S := by
  rintro ds S Q E hc _ ⟨d, r1, r2, rfl, hn, q⟩
  unfold rd_plan_by_order
  exact sq (t := sDrop _) (drp ⟨_, rfl, _, rfl, _, rfl, rfl, _, _, _, rfl, hn, ex_d hn q⟩)
/-! corner (house, order, bell) slots: 0=house 1=order 2=bell -/
abbrev N_corner : List Str := ["house", "order", "bell"]
abbrev ps_corner : List Str := ["house", "order", "bell"]
def ft_corner (A : Str → Addr) : FT := fun ds S Q E => ∃ d r1 r2, ds = [d, r1, r2] ∧ NoH S d ∧ E (A "BadHouse", [("thing", d)])
def rd_corner (A : Str → Addr) : TSD :=
 sSeq (sDrop (dCall 3 (ft_check_both A) (dCons (dVar 0) (dCons (dVar 1) (dCons (dVar 2) (dNil))))))
 (sSeq (sNever)
 (sNext))
theorem math_corner (A : Str → Addr) : ∀ (ds : List D) (S : Store) (Q : D → Store → Prop) (E : Ex → Prop), ClosedS S.length S → ds.length = 3 → ft_corner A ds S Q E → rd_corner A (endsOf .raw S Q E) (startD 3 ds) S := by
  rintro ds S Q E hc _ ⟨d, r1, r2, rfl, hn, q⟩
  unfold rd_corner
  exact sq (t := sDrop _) (drp ⟨_, rfl, _, rfl, _, rfl, rfl, _, _, _, rfl, hn, ex_d hn q⟩)
/-! corners (house, bell) slots: 0=house 1=bell 2=one 3=order 4=numbers -/
abbrev N_corners : List Str := ["house", "bell", "one", "order", "numbers"]
abbrev ps_corners : List Str := ["house", "bell"]
def ft_corners (A : Str → Addr) : FT := fun ds S Q E => ∃ d r1, ds = [d, r1] ∧ NoH S d ∧ E (A "BadHouse", [("thing", d)])
def rd_corners (A : Str → Addr) : TSD :=
 sSeq (sDrop (dCall 1 (ft_check_house A) (dCons (dVar 0) (dNil))))
 (sSeq (sNever)
 (sSeq (sNever)
 (sNext)))
theorem math_corners (A : Str → Addr) : ∀ (ds : List D) (S : Store) (Q : D → Store → Prop) (E : Ex → Prop), ClosedS S.length S → ds.length = 2 → ft_corners A ds S Q E → rd_corners A (endsOf .raw S Q E) (startD 5 ds) S := by
  rintro ds S Q E hc _ ⟨d, r1, rfl, hn, q⟩
  unfold rd_corners
  exact sq (t := sDrop _) (drp ⟨_, rfl, rfl, _, rfl, hn, ex_d hn q⟩)
/-! order_of (house, wishes, bell) slots: 0=house 1=wishes 2=bell 3=known 4=order 5=numbers -/
abbrev N_order_of : List Str := ["house", "wishes", "bell", "known", "order", "numbers"]
abbrev ps_order_of : List Str := ["house", "wishes", "bell"]
def ft_order_of (A : Str → Addr) : FT := fun ds S Q E => ∃ d r1 r2, ds = [d, r1, r2] ∧ NoH S d ∧ E (A "BadHouse", [("thing", d)])
def rd_order_of (A : Str → Addr) : TSD :=
 sSeq (sDrop (dCall 1 (ft_check_house A) (dCons (dVar 0) (dNil))))
 (sSeq (sNever)
 (sSeq (sNever)
 (sSeq (sNever)
 (sSeq (sNever)
 (sNext)))))
theorem math_order_of (A : Str → Addr) : ∀ (ds : List D) (S : Store) (Q : D → Store → Prop) (E : Ex → Prop), ClosedS S.length S → ds.length = 3 → ft_order_of A ds S Q E → rd_order_of A (endsOf .raw S Q E) (startD 6 ds) S := by
  rintro ds S Q E hc _ ⟨d, r1, r2, rfl, hn, q⟩
  unfold rd_order_of
  exact sq (t := sDrop _) (drp ⟨_, rfl, rfl, _, rfl, hn, ex_d hn q⟩)
/-! check_sorts (house, other) slots: 0=house 1=other 2=door -/
abbrev N_check_sorts : List Str := ["house", "other", "door"]
abbrev ps_check_sorts : List Str := ["house", "other"]
def ft_check_sorts (A : Str → Addr) : FT := fun ds S Q E => ∃ d r1, ds = [d, r1] ∧ NoH S d ∧ E (A "BadHouse", [("thing", d)])
def rd_check_sorts (A : Str → Addr) : TSD :=
 sSeq (sDrop (dCall 1 (ft_check_house A) (dCons (dVar 0) (dNil))))
 (sSeq (sNever)
 (sSeq (sNever)
 (sNext)))
theorem math_check_sorts (A : Str → Addr) : ∀ (ds : List D) (S : Store) (Q : D → Store → Prop) (E : Ex → Prop), ClosedS S.length S → ds.length = 2 → ft_check_sorts A ds S Q E → rd_check_sorts A (endsOf .raw S Q E) (startD 3 ds) S := by
  rintro ds S Q E hc _ ⟨d, r1, rfl, hn, q⟩
  unfold rd_check_sorts
  exact sq (t := sDrop _) (drp ⟨_, rfl, rfl, _, rfl, hn, ex_d hn q⟩)
/-! first_unlike (house, other) slots: 0=house 1=other -/
abbrev N_first_unlike : List Str := ["house", "other"]
abbrev ps_first_unlike : List Str := ["house", "other"]
def ft_first_unlike (A : Str → Addr) : FT := fun ds S Q E => ∃ d r1, ds = [d, r1] ∧ NoH S d ∧ E (A "BadHouse", [("thing", d)])
def rd_first_unlike (A : Str → Addr) : TSD :=
 sSeq (sDrop (dCall 2 (ft_check_sorts A) (dCons (dVar 0) (dCons (dVar 1) (dNil)))))
 (sSeq (sNever)
 (sNext))
theorem math_first_unlike (A : Str → Addr) : ∀ (ds : List D) (S : Store) (Q : D → Store → Prop) (E : Ex → Prop), ClosedS S.length S → ds.length = 2 → ft_first_unlike A ds S Q E → rd_first_unlike A (endsOf .raw S Q E) (startD 2 ds) S := by
  rintro ds S Q E hc _ ⟨d, r1, rfl, hn, q⟩
  unfold rd_first_unlike
  exact sq (t := sDrop _) (drp ⟨_, rfl, _, rfl, rfl, _, _, rfl, hn, ex_d hn q⟩)
/-! parting (house, other) slots: 0=house 1=other 2=found 3=bell 4=lot 5=house_is 6=order 7=door -/
abbrev N_parting : List Str := ["house", "other", "found", "bell", "lot", "house_is", "order", "door"]
abbrev ps_parting : List Str := ["house", "other"]
def ft_parting (A : Str → Addr) : FT := fun ds S Q E => ∃ d r1, ds = [d, r1] ∧ NoH S d ∧ E (A "BadHouse", [("thing", d)])
def rd_parting (A : Str → Addr) : TSD :=
 sSeq (sDrop (dCall 2 (ft_check_sorts A) (dCons (dVar 0) (dCons (dVar 1) (dNil)))))
 (sSeq (sNever)
 (sSeq (sNever)
 (sSeq (sNever)
 (sSeq (sNever)
 (sSeq (sNever)
 (sSeq (sNever)
 (sNext)))))))
theorem math_parting (A : Str → Addr) : ∀ (ds : List D) (S : Store) (Q : D → Store → Prop) (E : Ex → Prop), ClosedS S.length S → ds.length = 2 → ft_parting A ds S Q E → rd_parting A (endsOf .raw S Q E) (startD 8 ds) S := by
  rintro ds S Q E hc _ ⟨d, r1, rfl, hn, q⟩
  unfold rd_parting
  exact sq (t := sDrop _) (drp ⟨_, rfl, _, rfl, rfl, _, _, rfl, hn, ex_d hn q⟩)
/-! least_bell (house, wishes) slots: 0=house 1=wishes -/
abbrev N_least_bell : List Str := ["house", "wishes"]
abbrev ps_least_bell : List Str := ["house", "wishes"]
def ft_least_bell (A : Str → Addr) : FT := fun ds S Q E => ∃ d r1, ds = [d, r1] ∧ NoH S d ∧ E (A "BadHouse", [("thing", d)])
def rd_least_bell (A : Str → Addr) : TSD :=
 sSeq (sDrop (dCall 1 (ft_check_house A) (dCons (dVar 0) (dNil))))
 (sSeq (sNever)
 (sNext))
theorem math_least_bell (A : Str → Addr) : ∀ (ds : List D) (S : Store) (Q : D → Store → Prop) (E : Ex → Prop), ClosedS S.length S → ds.length = 2 → ft_least_bell A ds S Q E → rd_least_bell A (endsOf .raw S Q E) (startD 2 ds) S := by
  rintro ds S Q E hc _ ⟨d, r1, rfl, hn, q⟩
  unfold rd_least_bell
  exact sq (t := sDrop _) (drp ⟨_, rfl, rfl, _, rfl, hn, ex_d hn q⟩)
/-! never (house, wishes) slots: 0=house 1=wishes -/
abbrev N_never : List Str := ["house", "wishes"]
abbrev ps_never : List Str := ["house", "wishes"]
def ft_never (A : Str → Addr) : FT := fun ds S Q E => ∃ d r1, ds = [d, r1] ∧ NoH S d ∧ E (A "BadHouse", [("thing", d)])
def rd_never (A : Str → Addr) : TSD :=
 sSeq (sDrop (dCall 1 (ft_check_house A) (dCons (dVar 0) (dNil))))
 (sSeq (sNever)
 (sNext))
theorem math_never (A : Str → Addr) : ∀ (ds : List D) (S : Store) (Q : D → Store → Prop) (E : Ex → Prop), ClosedS S.length S → ds.length = 2 → ft_never A ds S Q E → rd_never A (endsOf .raw S Q E) (startD 2 ds) S := by
  rintro ds S Q E hc _ ⟨d, r1, rfl, hn, q⟩
  unfold rd_never
  exact sq (t := sDrop _) (drp ⟨_, rfl, rfl, _, rfl, hn, ex_d hn q⟩)
/-! rising (house, wishes) slots: 0=house 1=wishes 2=known 3=shut 4=found 5=bell 6=lot -/
abbrev N_rising : List Str := ["house", "wishes", "known", "shut", "found", "bell", "lot"]
abbrev ps_rising : List Str := ["house", "wishes"]
def ft_rising (A : Str → Addr) : FT := fun ds S Q E => ∃ d r1, ds = [d, r1] ∧ NoH S d ∧ E (A "BadHouse", [("thing", d)])
def rd_rising (A : Str → Addr) : TSD :=
 sSeq (sDrop (dCall 1 (ft_check_house A) (dCons (dVar 0) (dNil))))
 (sSeq (sNever)
 (sSeq (sNever)
 (sSeq (sNever)
 (sSeq (sNever)
 (sSeq (sNever)
 (sSeq (sNever)
 (sNext)))))))
theorem math_rising (A : Str → Addr) : ∀ (ds : List D) (S : Store) (Q : D → Store → Prop) (E : Ex → Prop), ClosedS S.length S → ds.length = 2 → ft_rising A ds S Q E → rd_rising A (endsOf .raw S Q E) (startD 7 ds) S := by
  rintro ds S Q E hc _ ⟨d, r1, rfl, hn, q⟩
  unfold rd_rising
  exact sq (t := sDrop _) (drp ⟨_, rfl, rfl, _, rfl, hn, ex_d hn q⟩)
/-! bell_with (house, wishes, door, other) slots: 0=house 1=wishes 2=door 3=other 4=known -/
abbrev N_bell_with : List Str := ["house", "wishes", "door", "other", "known"]
abbrev ps_bell_with : List Str := ["house", "wishes", "door", "other"]
def ft_bell_with (A : Str → Addr) : FT := fun ds S Q E => ∃ d r1 r2 r3, ds = [d, r1, r2, r3] ∧ NoH S d ∧ E (A "BadHouse", [("thing", d)])
def rd_bell_with (A : Str → Addr) : TSD :=
 sSeq (sDrop (dCall 1 (ft_check_house A) (dCons (dVar 0) (dNil))))
 (sSeq (sNever)
 (sSeq (sNever)
 (sSeq (sNever)
 (sNext))))
theorem math_bell_with (A : Str → Addr) : ∀ (ds : List D) (S : Store) (Q : D → Store → Prop) (E : Ex → Prop), ClosedS S.length S → ds.length = 4 → ft_bell_with A ds S Q E → rd_bell_with A (endsOf .raw S Q E) (startD 5 ds) S := by
  rintro ds S Q E hc _ ⟨d, r1, r2, r3, rfl, hn, q⟩
  unfold rd_bell_with
  exact sq (t := sDrop _) (drp ⟨_, rfl, rfl, _, rfl, hn, ex_d hn q⟩)
/-! dearest_order (house, bell, prices) slots: 0=house 1=bell 2=prices -/
abbrev N_dearest_order : List Str := ["house", "bell", "prices"]
abbrev ps_dearest_order : List Str := ["house", "bell", "prices"]
def ft_dearest_order (A : Str → Addr) : FT := fun ds S Q E => ∃ d r1 r2, ds = [d, r1, r2] ∧ NoH S d ∧ E (A "BadHouse", [("thing", d)])
def rd_dearest_order (A : Str → Addr) : TSD :=
 sSeq (sDrop (dCall 1 (ft_check_house A) (dCons (dVar 0) (dNil))))
 (sSeq (sNever)
 (sSeq (sNever)
 (sNext)))
theorem math_dearest_order (A : Str → Addr) : ∀ (ds : List D) (S : Store) (Q : D → Store → Prop) (E : Ex → Prop), ClosedS S.length S → ds.length = 3 → ft_dearest_order A ds S Q E → rd_dearest_order A (endsOf .raw S Q E) (startD 3 ds) S := by
  rintro ds S Q E hc _ ⟨d, r1, r2, rfl, hn, q⟩
  unfold rd_dearest_order
  exact sq (t := sDrop _) (drp ⟨_, rfl, rfl, _, rfl, hn, ex_d hn q⟩)
/-! dearest (house, bell, prices) slots: 0=house 1=bell 2=prices 3=order 4=much 5=price -/
abbrev N_dearest : List Str := ["house", "bell", "prices", "order", "much", "price"]
abbrev ps_dearest : List Str := ["house", "bell", "prices"]
def ft_dearest (A : Str → Addr) : FT := fun ds S Q E => ∃ d r1 r2, ds = [d, r1, r2] ∧ NoH S d ∧ E (A "BadHouse", [("thing", d)])
def rd_dearest (A : Str → Addr) : TSD :=
 sSeq (sAsg (dCall 3 (ft_dearest_order A) (dCons (dVar 0) (dCons (dVar 1) (dCons (dVar 2) (dNil))))) (gVar 3))
 (sSeq (sNever)
 (sNext))
theorem math_dearest (A : Str → Addr) : ∀ (ds : List D) (S : Store) (Q : D → Store → Prop) (E : Ex → Prop), ClosedS S.length S → ds.length = 3 → ft_dearest A ds S Q E → rd_dearest A (endsOf .raw S Q E) (startD 6 ds) S := by
  rintro ds S Q E hc _ ⟨d, r1, r2, rfl, hn, q⟩
  unfold rd_dearest
  exact sq (t := sAsg _ _) (asg ⟨_, rfl, _, rfl, _, rfl, rfl, _, _, _, rfl, hn, ex_d hn q⟩)
/-! checked_kept (house, wishes, bell) slots: 0=house 1=wishes 2=bell 3=known -/
abbrev N_checked_kept : List Str := ["house", "wishes", "bell", "known"]
abbrev ps_checked_kept : List Str := ["house", "wishes", "bell"]
def ft_checked_kept (A : Str → Addr) : FT := fun ds S Q E => ∃ d r1 r2, ds = [d, r1, r2] ∧ NoH S d ∧ E (A "BadHouse", [("thing", d)])
def rd_checked_kept (A : Str → Addr) : TSD :=
 sSeq (sDrop (dCall 1 (ft_check_house A) (dCons (dVar 0) (dNil))))
 (sSeq (sNever)
 (sSeq (sNever)
 (sSeq (sNever)
 (sSeq (sNever)
 (sNext)))))
theorem math_checked_kept (A : Str → Addr) : ∀ (ds : List D) (S : Store) (Q : D → Store → Prop) (E : Ex → Prop), ClosedS S.length S → ds.length = 3 → ft_checked_kept A ds S Q E → rd_checked_kept A (endsOf .raw S Q E) (startD 4 ds) S := by
  rintro ds S Q E hc _ ⟨d, r1, r2, rfl, hn, q⟩
  unfold rd_checked_kept
  exact sq (t := sDrop _) (drp ⟨_, rfl, rfl, _, rfl, hn, ex_d hn q⟩)
/-! further (house, wishes, bell, up, down) slots: 0=house 1=wishes 2=bell 3=up 4=down 5=known -/
abbrev N_further : List Str := ["house", "wishes", "bell", "up", "down", "known"]
abbrev ps_further : List Str := ["house", "wishes", "bell", "up", "down"]
def ft_further (A : Str → Addr) : FT := fun ds S Q E => ∃ d r1 r2 r3 r4, ds = [d, r1, r2, r3, r4] ∧ NoH S d ∧ E (A "BadHouse", [("thing", d)])
def rd_further (A : Str → Addr) : TSD :=
 sSeq (sDrop (dCall 1 (ft_check_house A) (dCons (dVar 0) (dNil))))
 (sSeq (sNever)
 (sSeq (sNever)
 (sSeq (sNever)
 (sSeq (sNever)
 (sSeq (sNever)
 (sSeq (sNever)
 (sSeq (sNever)
 (sNext))))))))
theorem math_further (A : Str → Addr) : ∀ (ds : List D) (S : Store) (Q : D → Store → Prop) (E : Ex → Prop), ClosedS S.length S → ds.length = 5 → ft_further A ds S Q E → rd_further A (endsOf .raw S Q E) (startD 6 ds) S := by
  rintro ds S Q E hc _ ⟨d, r1, r2, r3, r4, rfl, hn, q⟩
  unfold rd_further
  exact sq (t := sDrop _) (drp ⟨_, rfl, rfl, _, rfl, hn, ex_d hn q⟩)
/-! tight_by (house, wishes, bell) slots: 0=house 1=wishes 2=bell 3=lot -/
abbrev N_tight_by : List Str := ["house", "wishes", "bell", "lot"]
abbrev ps_tight_by : List Str := ["house", "wishes", "bell"]
def ft_tight_by (A : Str → Addr) : FT := fun _ _ _ _ => False
def rd_tight_by (A : Str → Addr) : TSD :=
 sSeq (sNever)
 (sNext)
theorem math_tight_by (A : Str → Addr) : ∀ (ds : List D) (S : Store) (Q : D → Store → Prop) (E : Ex → Prop), ClosedS S.length S → ds.length = 3 → ft_tight_by A ds S Q E → rd_tight_by A (endsOf .raw S Q E) (startD 4 ds) S := by intros; rename_i h; exact False.elim h
/-! tight (house, wishes, bell) slots: 0=house 1=wishes 2=bell -/
abbrev N_tight : List Str := ["house", "wishes", "bell"]
abbrev ps_tight : List Str := ["house", "wishes", "bell"]
def ft_tight (A : Str → Addr) : FT := fun ds S Q E => ∃ d r1 r2, ds = [d, r1, r2] ∧ NoH S d ∧ E (A "BadHouse", [("thing", d)])
def rd_tight (A : Str → Addr) : TSD :=
 sSeq (sRet (dCall 3 (ft_tight_by A) (dCons (dVar 0) (dCons (dCall 3 (ft_checked_kept A) (dCons (dVar 0) (dCons (dVar 1) (dCons (dVar 2) (dNil))))) (dCons (dVar 2) (dNil))))))
 (sNext)
theorem math_tight (A : Str → Addr) : ∀ (ds : List D) (S : Store) (Q : D → Store → Prop) (E : Ex → Prop), ClosedS S.length S → ds.length = 3 → ft_tight A ds S Q E → rd_tight A (endsOf .raw S Q E) (startD 3 ds) S := by
  rintro ds S Q E hc _ ⟨d, r1, r2, rfl, hn, q⟩
  unfold rd_tight
  exact sq (t := sRet _) (rts ⟨_, rfl, _, rfl, _, rfl, _, rfl, rfl, _, _, _, rfl, hn, ex_d hn q⟩)
/-! bound (house, wishes, bell, door) slots: 0=house 1=wishes 2=bell 3=door 4=known 5=lot -/
abbrev N_bound : List Str := ["house", "wishes", "bell", "door", "known", "lot"]
abbrev ps_bound : List Str := ["house", "wishes", "bell", "door"]
def ft_bound (A : Str → Addr) : FT := fun ds S Q E => ∃ d r1 r2 r3, ds = [d, r1, r2, r3] ∧ NoH S d ∧ E (A "BadHouse", [("thing", d)])
def rd_bound (A : Str → Addr) : TSD :=
 sSeq (sDrop (dCall 1 (ft_check_house A) (dCons (dVar 0) (dNil))))
 (sSeq (sNever)
 (sSeq (sNever)
 (sSeq (sNever)
 (sSeq (sNever)
 (sSeq (sNever)
 (sNext))))))
theorem math_bound (A : Str → Addr) : ∀ (ds : List D) (S : Store) (Q : D → Store → Prop) (E : Ex → Prop), ClosedS S.length S → ds.length = 4 → ft_bound A ds S Q E → rd_bound A (endsOf .raw S Q E) (startD 6 ds) S := by
  rintro ds S Q E hc _ ⟨d, r1, r2, r3, rfl, hn, q⟩
  unfold rd_bound
  exact sq (t := sDrop _) (drp ⟨_, rfl, rfl, _, rfl, hn, ex_d hn q⟩)
/-! times (house, wishes, bell) slots: 0=house 1=wishes 2=bell 3=known 4=found -/
abbrev N_times : List Str := ["house", "wishes", "bell", "known", "found"]
abbrev ps_times : List Str := ["house", "wishes", "bell"]
def ft_times (A : Str → Addr) : FT := fun ds S Q E => ∃ d r1 r2, ds = [d, r1, r2] ∧ NoH S d ∧ E (A "BadHouse", [("thing", d)])
def rd_times (A : Str → Addr) : TSD :=
 sSeq (sDrop (dCall 1 (ft_check_house A) (dCons (dVar 0) (dNil))))
 (sSeq (sNever)
 (sSeq (sNever)
 (sSeq (sNever)
 (sSeq (sNever)
 (sNext)))))
theorem math_times (A : Str → Addr) : ∀ (ds : List D) (S : Store) (Q : D → Store → Prop) (E : Ex → Prop), ClosedS S.length S → ds.length = 3 → ft_times A ds S Q E → rd_times A (endsOf .raw S Q E) (startD 5 ds) S := by
  rintro ds S Q E hc _ ⟨d, r1, r2, rfl, hn, q⟩
  unfold rd_times
  exact sq (t := sDrop _) (drp ⟨_, rfl, rfl, _, rfl, hn, ex_d hn q⟩)
/-! whole_times (house, wishes, bell) slots: 0=house 1=wishes 2=bell 3=found -/
abbrev N_whole_times : List Str := ["house", "wishes", "bell", "found"]
abbrev ps_whole_times : List Str := ["house", "wishes", "bell"]
def ft_whole_times (A : Str → Addr) : FT := fun ds S Q E => ∃ d r1 r2, ds = [d, r1, r2] ∧ NoH S d ∧ E (A "BadHouse", [("thing", d)])
def rd_whole_times (A : Str → Addr) : TSD :=
 sSeq (sAsg (dCall 3 (ft_times A) (dCons (dVar 0) (dCons (dVar 1) (dCons (dVar 2) (dNil))))) (gVar 3))
 (sSeq (sNever)
 (sNext))
theorem math_whole_times (A : Str → Addr) : ∀ (ds : List D) (S : Store) (Q : D → Store → Prop) (E : Ex → Prop), ClosedS S.length S → ds.length = 3 → ft_whole_times A ds S Q E → rd_whole_times A (endsOf .raw S Q E) (startD 4 ds) S := by
  rintro ds S Q E hc _ ⟨d, r1, r2, rfl, hn, q⟩
  unfold rd_whole_times
  exact sq (t := sAsg _ _) (asg ⟨_, rfl, _, rfl, _, rfl, rfl, _, _, _, rfl, hn, ex_d hn q⟩)
/-! parted (house, parts) slots: 0=house 1=parts 2=wrong -/
abbrev N_parted : List Str := ["house", "parts", "wrong"]
abbrev ps_parted : List Str := ["house", "parts"]
def ft_parted (A : Str → Addr) : FT := fun ds S Q E => ∃ d r1, ds = [d, r1] ∧ NoH S d ∧ E (A "BadHouse", [("thing", d)])
def rd_parted (A : Str → Addr) : TSD :=
 sSeq (sDrop (dCall 1 (ft_check_house A) (dCons (dVar 0) (dNil))))
 (sSeq (sNever)
 (sSeq (sNever)
 (sSeq (sNever)
 (sNext))))
theorem math_parted (A : Str → Addr) : ∀ (ds : List D) (S : Store) (Q : D → Store → Prop) (E : Ex → Prop), ClosedS S.length S → ds.length = 2 → ft_parted A ds S Q E → rd_parted A (endsOf .raw S Q E) (startD 3 ds) S := by
  rintro ds S Q E hc _ ⟨d, r1, rfl, hn, q⟩
  unfold rd_parted
  exact sq (t := sDrop _) (drp ⟨_, rfl, rfl, _, rfl, hn, ex_d hn q⟩)
/-! row_for (house, wishes, bell) slots: 0=house 1=wishes 2=bell 3=known -/
abbrev N_row_for : List Str := ["house", "wishes", "bell", "known"]
abbrev ps_row_for : List Str := ["house", "wishes", "bell"]
def ft_row_for (A : Str → Addr) : FT := fun ds S Q E => ∃ d r1 r2, ds = [d, r1, r2] ∧ NoH S d ∧ E (A "BadHouse", [("thing", d)])
def rd_row_for (A : Str → Addr) : TSD :=
 sSeq (sDrop (dCall 1 (ft_check_house A) (dCons (dVar 0) (dNil))))
 (sSeq (sNever)
 (sSeq (sNever)
 (sSeq (sNever)
 (sNext))))
theorem math_row_for (A : Str → Addr) : ∀ (ds : List D) (S : Store) (Q : D → Store → Prop) (E : Ex → Prop), ClosedS S.length S → ds.length = 3 → ft_row_for A ds S Q E → rd_row_for A (endsOf .raw S Q E) (startD 4 ds) S := by
  rintro ds S Q E hc _ ⟨d, r1, r2, rfl, hn, q⟩
  unfold rd_row_for
  exact sq (t := sDrop _) (drp ⟨_, rfl, rfl, _, rfl, hn, ex_d hn q⟩)
/-! is_row_for (house, wishes, bell, thing) slots: 0=house 1=wishes 2=bell 3=thing 4=known 5=whole -/
abbrev N_is_row_for : List Str := ["house", "wishes", "bell", "thing", "known", "whole"]
abbrev ps_is_row_for : List Str := ["house", "wishes", "bell", "thing"]
def ft_is_row_for (A : Str → Addr) : FT := fun ds S Q E => ∃ d r1 r2 r3, ds = [d, r1, r2, r3] ∧ NoH S d ∧ E (A "BadHouse", [("thing", d)])
def rd_is_row_for (A : Str → Addr) : TSD :=
 sSeq (sDrop (dCall 1 (ft_check_house A) (dCons (dVar 0) (dNil))))
 (sSeq (sNever)
 (sSeq (sNever)
 (sSeq (sNever)
 (sSeq (sNever)
 (sSeq (sNever)
 (sSeq (sNever)
 (sNext)))))))
theorem math_is_row_for (A : Str → Addr) : ∀ (ds : List D) (S : Store) (Q : D → Store → Prop) (E : Ex → Prop), ClosedS S.length S → ds.length = 4 → ft_is_row_for A ds S Q E → rd_is_row_for A (endsOf .raw S Q E) (startD 6 ds) S := by
  rintro ds S Q E hc _ ⟨d, r1, r2, r3, rfl, hn, q⟩
  unfold rd_is_row_for
  exact sq (t := sDrop _) (drp ⟨_, rfl, rfl, _, rfl, hn, ex_d hn q⟩)
/-! plan_for (house, wishes, bell) slots: 0=house 1=wishes 2=bell 3=known -/
abbrev N_plan_for : List Str := ["house", "wishes", "bell", "known"]
abbrev ps_plan_for : List Str := ["house", "wishes", "bell"]
def ft_plan_for (A : Str → Addr) : FT := fun ds S Q E => ∃ d r1 r2, ds = [d, r1, r2] ∧ NoH S d ∧ E (A "BadHouse", [("thing", d)])
def rd_plan_for (A : Str → Addr) : TSD :=
 sSeq (sDrop (dCall 1 (ft_check_house A) (dCons (dVar 0) (dNil))))
 (sSeq (sNever)
 (sSeq (sNever)
 (sSeq (sNever)
 (sNext))))
theorem math_plan_for (A : Str → Addr) : ∀ (ds : List D) (S : Store) (Q : D → Store → Prop) (E : Ex → Prop), ClosedS S.length S → ds.length = 3 → ft_plan_for A ds S Q E → rd_plan_for A (endsOf .raw S Q E) (startD 4 ds) S := by
  rintro ds S Q E hc _ ⟨d, r1, r2, rfl, hn, q⟩
  unfold rd_plan_for
  exact sq (t := sDrop _) (drp ⟨_, rfl, rfl, _, rfl, hn, ex_d hn q⟩)
/-! Desk.__init__ (self, house, bell) slots: 0=self 1=house 2=bell -/
abbrev N_Desk_init : List Str := ["self", "house", "bell"]
abbrev ps_Desk_init : List Str := ["self", "house", "bell"]
def ft_Desk_init (A : Str → Addr) : FT := fun ds S Q E => ∃ r0 d r2, ds = [r0, d, r2] ∧ NoH S d ∧ E (A "BadHouse", [("thing", d)])
def rd_Desk_init (A : Str → Addr) : TSD :=
 sSeq (sDrop (dCall 1 (ft_check_house A) (dCons (dVar 1) (dNil))))
 (sSeq (sNever)
 (sSeq (sNever)
 (sSeq (sNever)
 (sSeq (sNever)
 (sSeq (sNever)
 (sSeq (sNever)
 (sNext)))))))
theorem math_Desk_init (A : Str → Addr) : ∀ (ds : List D) (S : Store) (Q : D → Store → Prop) (E : Ex → Prop), ClosedS S.length S → ds.length = 3 → ft_Desk_init A ds S Q E → rd_Desk_init A (endsOf .raw S Q E) (startD 3 ds) S := by
  rintro ds S Q E hc _ ⟨r0, d, r2, rfl, hn, q⟩
  unfold rd_Desk_init
  exact sq (t := sDrop _) (drp ⟨_, rfl, rfl, _, rfl, hn, ex_d hn q⟩)
/-! Desk.plan (self) slots: 0=self -/
abbrev N_Desk_plan : List Str := ["self"]
abbrev ps_Desk_plan : List Str := ["self"]
def ft_Desk_plan (A : Str → Addr) : FT := fun _ _ _ _ => False
-- no reading: call plan_by_rows
/-! part_for (house, numbers, bell) slots: 0=house 1=numbers 2=bell 3=known -/
abbrev N_part_for : List Str := ["house", "numbers", "bell", "known"]
abbrev ps_part_for : List Str := ["house", "numbers", "bell"]
def ft_part_for (A : Str → Addr) : FT := fun ds S Q E => ∃ d r1 r2, ds = [d, r1, r2] ∧ NoH S d ∧ E (A "BadHouse", [("thing", d)])
def rd_part_for (A : Str → Addr) : TSD :=
 sSeq (sDrop (dCall 1 (ft_check_house A) (dCons (dVar 0) (dNil))))
 (sSeq (sNever)
 (sSeq (sNever)
 (sSeq (sNever)
 (sNext))))
theorem math_part_for (A : Str → Addr) : ∀ (ds : List D) (S : Store) (Q : D → Store → Prop) (E : Ex → Prop), ClosedS S.length S → ds.length = 3 → ft_part_for A ds S Q E → rd_part_for A (endsOf .raw S Q E) (startD 4 ds) S := by
  rintro ds S Q E hc _ ⟨d, r1, r2, rfl, hn, q⟩
  unfold rd_part_for
  exact sq (t := sDrop _) (drp ⟨_, rfl, rfl, _, rfl, hn, ex_d hn q⟩)
/-! part_lot (house, numbers, bell) slots: 0=house 1=numbers 2=bell 3=known 4=sums 5=least 6=lot 7=much -/
abbrev N_part_lot : List Str := ["house", "numbers", "bell", "known", "sums", "least", "lot", "much"]
abbrev ps_part_lot : List Str := ["house", "numbers", "bell"]
def ft_part_lot (A : Str → Addr) : FT := fun ds S Q E => ∃ d r1 r2, ds = [d, r1, r2] ∧ NoH S d ∧ E (A "BadHouse", [("thing", d)])
def rd_part_lot (A : Str → Addr) : TSD :=
 sSeq (sDrop (dCall 1 (ft_check_house A) (dCons (dVar 0) (dNil))))
 (sSeq (sNever)
 (sSeq (sNever)
 (sSeq (sNever)
 (sSeq (sNever)
 (sSeq (sNever)
 (sNext))))))
theorem math_part_lot (A : Str → Addr) : ∀ (ds : List D) (S : Store) (Q : D → Store → Prop) (E : Ex → Prop), ClosedS S.length S → ds.length = 3 → ft_part_lot A ds S Q E → rd_part_lot A (endsOf .raw S Q E) (startD 8 ds) S := by
  rintro ds S Q E hc _ ⟨d, r1, r2, rfl, hn, q⟩
  unfold rd_part_lot
  exact sq (t := sDrop _) (drp ⟨_, rfl, rfl, _, rfl, hn, ex_d hn q⟩)
/-! mix_for (house, wishes, bell) slots: 0=house 1=wishes 2=bell 3=known -/
abbrev N_mix_for : List Str := ["house", "wishes", "bell", "known"]
abbrev ps_mix_for : List Str := ["house", "wishes", "bell"]
def ft_mix_for (A : Str → Addr) : FT := fun ds S Q E => ∃ d r1 r2, ds = [d, r1, r2] ∧ NoH S d ∧ E (A "BadHouse", [("thing", d)])
def rd_mix_for (A : Str → Addr) : TSD :=
 sSeq (sDrop (dCall 1 (ft_check_house A) (dCons (dVar 0) (dNil))))
 (sSeq (sNever)
 (sSeq (sNever)
 (sSeq (sNever)
 (sNext))))
theorem math_mix_for (A : Str → Addr) : ∀ (ds : List D) (S : Store) (Q : D → Store → Prop) (E : Ex → Prop), ClosedS S.length S → ds.length = 3 → ft_mix_for A ds S Q E → rd_mix_for A (endsOf .raw S Q E) (startD 4 ds) S := by
  rintro ds S Q E hc _ ⟨d, r1, r2, rfl, hn, q⟩
  unfold rd_mix_for
  exact sq (t := sDrop _) (drp ⟨_, rfl, rfl, _, rfl, hn, ex_d hn q⟩)
/-! is_mix_for (house, wishes, bell, thing) slots: 0=house 1=wishes 2=bell 3=thing 4=known 5=total 6=found 7=order 8=share 9=one 10=end -/
abbrev N_is_mix_for : List Str := ["house", "wishes", "bell", "thing", "known", "total", "found", "order", "share", "one", "end"]
abbrev ps_is_mix_for : List Str := ["house", "wishes", "bell", "thing"]
def ft_is_mix_for (A : Str → Addr) : FT := fun ds S Q E => ∃ d r1 r2 r3, ds = [d, r1, r2, r3] ∧ NoH S d ∧ E (A "BadHouse", [("thing", d)])
def rd_is_mix_for (A : Str → Addr) : TSD :=
 sSeq (sDrop (dCall 1 (ft_check_house A) (dCons (dVar 0) (dNil))))
 (sSeq (sNever)
 (sSeq (sNever)
 (sSeq (sNever)
 (sSeq (sNever)
 (sSeq (sNever)
 (sSeq (sNever)
 (sNext)))))))
theorem math_is_mix_for (A : Str → Addr) : ∀ (ds : List D) (S : Store) (Q : D → Store → Prop) (E : Ex → Prop), ClosedS S.length S → ds.length = 4 → ft_is_mix_for A ds S Q E → rd_is_mix_for A (endsOf .raw S Q E) (startD 11 ds) S := by
  rintro ds S Q E hc _ ⟨d, r1, r2, r3, rfl, hn, q⟩
  unfold rd_is_mix_for
  exact sq (t := sDrop _) (drp ⟨_, rfl, rfl, _, rfl, hn, ex_d hn q⟩)
/-! turned (house) slots: 0=house -/
abbrev N_turned : List Str := ["house"]
abbrev ps_turned : List Str := ["house"]
def ft_turned (A : Str → Addr) : FT := fun ds S Q E => ∃ d, ds = [d] ∧ NoH S d ∧ E (A "BadHouse", [("thing", d)])
def rd_turned (A : Str → Addr) : TSD :=
 sSeq (sDrop (dCall 1 (ft_check_house A) (dCons (dVar 0) (dNil))))
 (sSeq (sNever)
 (sNext))
theorem math_turned (A : Str → Addr) : ∀ (ds : List D) (S : Store) (Q : D → Store → Prop) (E : Ex → Prop), ClosedS S.length S → ds.length = 1 → ft_turned A ds S Q E → rd_turned A (endsOf .raw S Q E) (startD 1 ds) S := by
  rintro ds S Q E hc _ ⟨d, rfl, hn, q⟩
  unfold rd_turned
  exact sq (t := sDrop _) (drp ⟨_, rfl, rfl, _, rfl, hn, ex_d hn q⟩)
/-! turned_plan (house, plan, bell) slots: 0=house 1=plan 2=bell 3=doors 4=steps 5=road -/
abbrev N_turned_plan : List Str := ["house", "plan", "bell", "doors", "steps", "road"]
abbrev ps_turned_plan : List Str := ["house", "plan", "bell"]
def ft_turned_plan (A : Str → Addr) : FT := fun ds S Q E => ∃ d r1 r2, ds = [d, r1, r2] ∧ NoH S d ∧ E (A "BadHouse", [("thing", d)])
def rd_turned_plan (A : Str → Addr) : TSD :=
 sSeq (sDrop (dCall 1 (ft_check_house A) (dCons (dVar 0) (dNil))))
 (sSeq (sNever)
 (sSeq (sNever)
 (sSeq (sNever)
 (sSeq (sNever)
 (sSeq (sNever)
 (sNext))))))
theorem math_turned_plan (A : Str → Addr) : ∀ (ds : List D) (S : Store) (Q : D → Store → Prop) (E : Ex → Prop), ClosedS S.length S → ds.length = 3 → ft_turned_plan A ds S Q E → rd_turned_plan A (endsOf .raw S Q E) (startD 6 ds) S := by
  rintro ds S Q E hc _ ⟨d, r1, r2, rfl, hn, q⟩
  unfold rd_turned_plan
  exact sq (t := sDrop _) (drp ⟨_, rfl, rfl, _, rfl, hn, ex_d hn q⟩)
/-! _law_stream (_law_script) slots: 0=_law_script -/
abbrev N_law_stream : List Str := ["_law_script"]
abbrev ps_law_stream : List Str := ["_law_script"]
def ft_law_stream (A : Str → Addr) : FT := fun _ _ _ _ => False
-- no reading: by hand
/-! _law_draw (_law_stream_here, _law_many) slots: 0=_law_stream_here 1=_law_many 2=_law_cell 3=_law_digit 4=_law_mixed_here -/
abbrev N_law_draw : List Str := ["_law_stream_here", "_law_many", "_law_cell", "_law_digit", "_law_mixed_here"]
abbrev ps_law_draw : List Str := ["_law_stream_here", "_law_many"]
def iL (ns : List Int) : T := .lst (ns.map .int)
theorem dat_iL {n : Nat} {L : List Int} : dat (n + 1) (iL L) = true := by unfold iL; rw [dat_lst]; intro t ht; simp at ht; obtain ⟨i, _, rfl⟩ := ht; exact dat_int
def drOf (t : T) : Str × Int × Int := match seqOf t with
  | some [.v (.str s), .v (.int a), .v (.int k)] => (s, a, k)
  | _ => ("", 0, 0)
theorem drOf_e {t : T} {s : Str} {a k : Int} (h : seqOf t = some [.v (.str s), .v (.int a), .v (.int k)]) : drOf t = (s, a, k) := by unfold drOf; rw [h]
theorem strOk_in : PyData.strOk "in" = true := by decide +kernel
theorem strOk_out : PyData.strOk "out" = true := by decide +kernel
theorem strOk_io {s : Str} (h : s = "in" ∨ s = "out") : PyData.strOk s = true := by
  rcases h with rfl | rfl
  · exact strOk_in
  · exact strOk_out
abbrev ft_law_draw (A : Str → Addr) : FT := ftDraw
def rd_law_draw (A : Str → Addr) : TSD :=
 sSeq (sAsg (dOp oAdd (dOp oIx (dVar 0) (dC (.int 2))) (dC (.int 1))) (gSubD (dVar 0) (dC (.int 2))))
 (sSeq (sWhile (dAndT (dB (dOp oEq (dOp oIx (dVar 0) (dC (.int 1))) (dC (.int 0)))) (dB (dOp oNe (dOp oIx (dVar 0) (dC (.int 0))) (dLst (dNil)))))
 (sSeq (sAsg (dCB cAbs (dCons (dBM tyLst mPopAt (dOp oIx (dVar 0) (dC (.int 0))) (dCons (dC (.int 0)) (dNil))) (dNil))) (gVar 2))
 (sSeq (sAsg (dOp (oI (fun _ j => 0 < j) fun i j => .int (i % j)) (dCB cInt (dCons (dOp oAdd (dOp oAdd (dOp oMul (dOp oIx (dVar 0) (dC (.int 3))) (dC (.int 8191))) (dVar 2)) (dC (.int 3))) (dNil))) (dC (.int 2147483647))) (gSubD (dVar 0) (dC (.int 3))))
 (sSeq (sAsg (dIf (dB (dOp (oI0 fun i j => .bl (decide (j ≤ i))) (dVar 2) (dOp (oI CPowW fun i j => .int (i ^ j.toNat)) (dC (.int 10)) (dC (.int 18))))) (dVar 2) (dC (.int 0))) (gSubD (dVar 0) (dC (.int 1))))
 (sNext)))))
 (sSeq (sIf (dB (dOp (oI0 fun i j => .bl (decide (j < i))) (dOp oIx (dVar 0) (dC (.int 1))) (dC (.int 0))))
 (sSeq (sAsg (dOp (oI (fun _ j => 0 < j) fun i j => .int (i % j)) (dCB cInt (dCons (dOp oIx (dVar 0) (dC (.int 1))) (dNil))) (dVar 1)) (gVar 3))
 (sSeq (sAsg (dOp (oI CDivW fun i j => .int (i / j)) (dOp oIx (dVar 0) (dC (.int 1))) (dVar 1)) (gSubD (dVar 0) (dC (.int 1))))
 (sSeq (sRet (dVar 3))
 (sNext))))
 (sNext))
 (sSeq (sAsg (dOp (oI (fun _ j => 0 < j) fun i j => .int (i % j)) (dCB cInt (dCons (dOp (oI CPowW fun i j => .int (i ^ j.toNat)) (dOp oAdd (dOp oAdd (dOp oIx (dVar 0) (dC (.int 3))) (dOp oMul (dC (.int 7919)) (dOp oIx (dVar 0) (dC (.int 2))))) (dC (.int 104729))) (dC (.int 5))) (dNil))) (dC (.int 2147483629))) (gVar 4))
 (sSeq (sRet (dOp (oI (fun _ j => 0 < j) fun i j => .int (i % j)) (dOp (oI (fun _ j => 0 < j) fun i j => .int (i % j)) (dCB cInt (dCons (dOp (oI CPowW fun i j => .int (i ^ j.toNat)) (dOp oAdd (dOp oAdd (dOp oMul (dVar 4) (dC (.int 48271))) (dOp oMul (dC (.int 30011)) (dOp oIx (dVar 0) (dC (.int 2))))) (dC (.int 29))) (dC (.int 3))) (dNil))) (dC (.int 1000000007))) (dVar 1)))
 (sNext)))))
section
variable {S0 : Store} {ns : List Int} {x y z : Int} {Q : D → Store → Prop}
theorem o_g0 (hl : 2 ≤ S0.length) : (openS S0 ns x y z)[0]? = some (.lst (ns.map .int)) := by rw [openS_get hl]; rfl
theorem o_g1 (hl : 2 ≤ S0.length) : (openS S0 ns x y z)[1]? = some (.lst [.m 0, .int x, .int y, .int z]) := by rw [openS_get hl]; rfl
theorem o_i0 (hl : 2 ≤ S0.length) : oIx (.m 1) (.t (.v (.int 0))) (openS S0 ns x y z) Q = Q (.m 0) (openS S0 ns x y z) := oIx_me (seqA_m (o_g1 hl)) rfl
theorem o_i1 (hl : 2 ≤ S0.length) : oIx (.m 1) (.t (.v (.int 1))) (openS S0 ns x y z) Q = Q (.int x) (openS S0 ns x y z) := oIx_me (seqA_m (o_g1 hl)) rfl
theorem o_i2 (hl : 2 ≤ S0.length) : oIx (.m 1) (.t (.v (.int 2))) (openS S0 ns x y z) Q = Q (.int y) (openS S0 ns x y z) := oIx_me (seqA_m (o_g1 hl)) rfl
theorem o_i3 (hl : 2 ≤ S0.length) : oIx (.m 1) (.t (.v (.int 3))) (openS S0 ns x y z) Q = Q (.int z) (openS S0 ns x y z) := oIx_me (seqA_m (o_g1 hl)) rfl
theorem o_set (v w t : Int) : (openS S0 ns x y z).set 1 (.lst [.m 0, .int v, .int w, .int t]) = openS S0 ns v w t := by unfold openS; rw [List.set_set]
theorem o_pop (ms : List Int) : (openS S0 ns x y z).set 0 (.lst (ms.map .int)) = openS S0 ms x y z := by
  unfold openS
  rw [List.set_comm _ _ (by omega), List.set_set]
theorem o_s1 (hl : 2 ≤ S0.length) {v : Int} {Q : Store → Prop} (q : Q (openS S0 ns v y z)) : subI (.m 1) (.t (.v (.int 1))) (.t (.v (.int v))) (openS S0 ns x y z) Q := subI_of (o_g1 hl) (j := 1) rfl (by show Q ((openS S0 ns x y z).set 1 (.lst [.m 0, .int v, .int y, .int z])); rw [o_set]; exact q)
theorem o_s2 (hl : 2 ≤ S0.length) {v : Int} {Q : Store → Prop} (q : Q (openS S0 ns x v z)) : subI (.m 1) (.t (.v (.int 2))) (.t (.v (.int v))) (openS S0 ns x y z) Q := subI_of (o_g1 hl) (j := 2) rfl (by show Q ((openS S0 ns x y z).set 1 (.lst [.m 0, .int x, .int v, .int z])); rw [o_set]; exact q)
theorem o_s3 (hl : 2 ≤ S0.length) {v : Int} {Q : Store → Prop} (q : Q (openS S0 ns x y v)) : subI (.m 1) (.t (.v (.int 3))) (.t (.v (.int v))) (openS S0 ns x y z) Q := subI_of (o_g1 hl) (j := 3) rfl (by show Q ((openS S0 ns x y z).set 1 (.lst [.m 0, .int x, .int y, .int v])); rw [o_set]; exact q)
theorem o_tree (hl : 2 ≤ S0.length) : D.tree (openS S0 ns x y z) (.m 0) = some (iL ns) := by
  unfold D.tree frz
  rw [o_g0 hl]
  show (if 0 ≤ 0 then (frzL 0 _ _ (ns.map D.int)).map T.lst else none) = _
  rw [if_pos (Nat.le_refl _)]
  have : ns.map D.int = (ns.map T.int).map D.t := by simp
  rw [this, frzL_map]
  rfl
theorem o_ne (hl : 2 ≤ S0.length) : oNe (.m 0) (.t (.lst [])) (openS S0 ns x y z) Q = Q (.bl (!ns.isEmpty)) (openS S0 ns x y z) := by
  rw [oNe_of (o_tree hl) tree_t dat_iL (by rw [dat_lst]; simp)]
  cases ns <;> simp [iL]
end
theorem natAbs_cell {n : Int} {B : Nat} (h : n.natAbs < B) : 0 ≤ (if n < 0 then -n else n) ∧ (if n < 0 then -n else n).natAbs < B := by
  split <;> omega
theorem mod_rng (a b : Int) (h : 0 < b) : 0 ≤ a % b ∧ a % b < b := ⟨Int.emod_nonneg _ (by omega), Int.emod_lt_of_pos _ h⟩
def W_draw (S0 : Store) (many : Int) (b : Nat) (m : Nat) (ρ' : Env) (S' : Store) : Prop := ∃ (ns : List Int) (x y z : Int) (o : Option D), S' = openS S0 ns x y z ∧ m = ns.length ∧ StrmB ns x y z b ∧ 1 ≤ y ∧ ρ' = [some (.m 1), some (.int many), o, none, none]
theorem pow54 {v : Int} (h0 : 0 ≤ v) (h : v < 2 ^ 54) (j : Int) (hj : 0 ≤ j) (hj2 : j ≤ 100) : CPowW v j := by
  refine ⟨hj, ?_⟩
  have : Builtin.Int.intBits v ≤ 54 := by
    unfold Builtin.Int.intBits
    split
    · omega
    · rename_i hv
      have h1 : v.natAbs < 2 ^ 54 := by omega
      have h2 : v.natAbs ≠ 0 := by simpa using hv
      have := (Nat.log2_lt h2).mpr h1
      omega
  have h3 : (Builtin.Int.intBits v : Int) ≤ 54 := by omega
  have : (Builtin.Int.intBits v : Int) * j ≤ 54 * 100 := Int.mul_le_mul h3 hj2 hj (by omega)
  omega
theorem draw_tail {S0 : Store} {ns : List Int} {x y z many : Int} {b : Nat} {Q : D → Store → Prop} (hm1 : 1 ≤ many) (sb : StrmB ns x y z b) (q : ∀ k : Int, 0 ≤ k → k < many → Q (.int k) (openS S0 ns x y z)) :
    CMulW 7919 y ∧ CPowW (z + 7919 * y + 104729) 5 ∧ CMulW ((z + 7919 * y + 104729) ^ 5 % 2147483629) 48271 ∧ CMulW 30011 y ∧ CPowW ((z + 7919 * y + 104729) ^ 5 % 2147483629 * 48271 + 30011 * y + 29) 3 ∧ 0 < many ∧
      Q (D.t (T.v (V.int (((z + 7919 * y + 104729) ^ 5 % 2147483629 * 48271 + 30011 * y + 29) ^ 3 % 1000000007 % many)))) (openS S0 ns x y z) := by
  have hy0 := sb.y0
  have hy1 := sb.y1
  have hz0 := sb.z0
  have hz1 := sb.z1
  have r1 := mod_rng ((z + 7919 * y + 104729) ^ 5) 2147483629 (by omega)
  generalize (z + 7919 * y + 104729) ^ 5 % 2147483629 = u at r1 ⊢
  refine ⟨wide_mul (a := 13) (b := 41) (by omega) (by omega) (by omega) (by omega) (by omega), pow54 (by omega) (by omega) 5 (by omega) (by omega), wide_mul (a := 31) (b := 16) (by omega) (by omega) (by omega) (by omega) (by omega),
    wide_mul (a := 15) (b := 41) (by omega) (by omega) (by omega) (by omega) (by omega), ?_, by omega, ?_⟩
  · -- below 2 ^ 57
    refine ⟨by omega, ?_⟩
    have h0 : 0 ≤ u * 48271 + 30011 * y + 29 := by omega
    have h1 : u * 48271 + 30011 * y + 29 < 2 ^ 57 := by omega
    generalize u * 48271 + 30011 * y + 29 = v at h0 h1 ⊢
    have : Builtin.Int.intBits v ≤ 57 := by
      unfold Builtin.Int.intBits
      split
      · omega
      · rename_i hv
        have h1 : v.natAbs < 2 ^ 57 := by omega
        have h2 : v.natAbs ≠ 0 := by simpa using hv
        have := (Nat.log2_lt h2).mpr h1
        omega
    omega
  · have r2 := mod_rng ((u * 48271 + 30011 * y + 29) ^ 3 % 1000000007) many (by omega)
    exact q _ r2.1 r2.2
theorem math_law_draw (A : Str → Addr) : ∀ (ds : List D) (S : Store) (Q : D → Store → Prop) (E : Ex → Prop), ClosedS S.length S → ds.length = 2 → ftDrawO ds S Q E → rd_law_draw A (endsOf .raw S Q E) (startD 5 ds) S := by
  rintro ds S Q E hcl _ ⟨S0, ns, x, y, z, many, b, rfl, hm1, hm2, rfl, e0, e1, sb, q⟩
  have hl := strm_len e1
  simp [rd_law_draw, o_i0 hl, o_i1 hl, o_i2 hl, o_i3 hl]
  refine o_s2 hl ?_
  have sb1 : StrmB ns x (y + 1) z b := ⟨sb.ns, sb.x0, sb.x1, by have := sb.y0; omega, by have := sb.y1; omega, sb.z0, sb.z1⟩
  refine while_I (W_draw S0 many b) _ ⟨ns, x, y + 1, z, none, rfl, rfl, sb1, by have := sb.y0; omega, rfl⟩ ?_
  rintro m ρ' S' ⟨ns, x, y, z, o, rfl, rfl, sb, hy, rfl⟩
  simp [o_i0 hl, o_i1 hl, o_i2 hl, o_i3 hl, o_ne hl]
  by_cases hx : x = 0
  · subst hx
    cases ns with
    | cons n ns =>
      simp
      refine loop_I ?_
      simp [o_i0 hl, o_i1 hl, o_i2 hl, o_i3 hl, o_ne hl]
      refine ⟨tyLst_m (o_g0 hl), popAt_of (k := 0) (o_g0 hl) (by omega) rfl ?_⟩
      simp only [List.map_cons, List.eraseIdx_cons_zero, o_pop]
      simp [o_i0 hl, o_i1 hl, o_i2 hl, o_i3 hl]
      have hn := sb.ns n (by simp)
      obtain ⟨c0, c1⟩ := natAbs_cell hn
      generalize (if n < 0 then -n else n) = c at c0 c1 ⊢
      have hz0 := sb.z0
      have hz1 := sb.z1
      refine ⟨wide_mul (a := 31) (b := 13) (by omega) (by omega) (by omega) (by omega) (by omega), o_s3 hl ?_⟩
      have rz := mod_rng (z * 8191 + c + 3) 2147483647 (by omega)
      have hp : CPowW 10 18 := pow54 (by omega) (by omega) 18 (by omega) (by omega)
      refine ⟨hp, ?_⟩
      by_cases hc : 1000000000000000000 ≤ c
      · rw [if_pos hc]
        refine o_s1 hl ⟨ns.length, by omega, ns, c, y, _, _, rfl, rfl, ⟨fun m hm => sb.ns m (by simp [hm]), c0, c1, sb.y0, sb.y1, rz.1, by omega⟩, hy, rfl⟩
      · rw [if_neg hc]
        refine o_s1 hl ⟨ns.length, by omega, ns, 0, y, _, _, rfl, rfl, ⟨fun m hm => sb.ns m (by simp [hm]), by omega, Nat.pow_pos (by omega), sb.y0, sb.y1, rz.1, by omega⟩, hy, rfl⟩
    | nil =>
      simp [o_i0 hl, o_i1 hl, o_i2 hl, o_i3 hl]
      exact draw_tail hm1 sb fun k h1 h2 => q k _ _ _ _ h1 h2 sb
  · simp [hx, o_i0 hl, o_i1 hl, o_i2 hl, o_i3 hl]
    by_cases hx0 : 0 < x
    · rw [if_pos hx0]
      have rx := mod_rng x many (by omega)
      have d0 : 0 ≤ x / many := Int.ediv_nonneg (by omega) (by omega)
      have d1 : x / many ≤ x := Int.ediv_le_self _ (by omega)
      refine ⟨by omega, wide_div (b := 62) (by omega) (by omega) (by omega) (by omega), o_s1 hl (q _ _ _ _ _ rx.1 rx.2 ⟨sb.ns, d0, wide_le d0 d1 sb.x1, sb.y0, sb.y1, sb.z0, sb.z1⟩)⟩
    · rw [if_neg hx0]
      exact draw_tail hm1 sb fun k h1 h2 => q k _ _ _ _ h1 h2 sb
/-! _law_pick (_law_stream_here, _law_things) slots: 0=_law_stream_here 1=_law_things -/
abbrev N_law_pick : List Str := ["_law_stream_here", "_law_things"]
abbrev ps_law_pick : List Str := ["_law_stream_here", "_law_things"]
def ft_law_pick (A : Str → Addr) : FT := fun ds S Q _ => ∃ (b : Nat) (R : Store) (d : D) (es : List D), ds = [.m 1, d] ∧ S = st b R ∧ 1 ≤ b ∧ seqA S d = some es ∧ 1 ≤ es.length ∧ es.length ≤ 100000 ∧ ∀ e b', e ∈ es → b ≤ b' + 1 → Q e (st b' R)
def rd_law_pick (A : Str → Addr) : TSD :=
 sSeq (sRet (dOp oIx (dVar 1) (dCall 2 (ft_law_draw A) (dCons (dVar 0) (dCons (dCB cLen (dCons (dVar 1) (dNil))) (dNil))))))
 (sNext)
theorem math_law_pick (A : Str → Addr) : ∀ (ds : List D) (S : Store) (Q : D → Store → Prop) (E : Ex → Prop), ClosedS S.length S → ds.length = 2 → ft_law_pick A ds S Q E → rd_law_pick A (endsOf .raw S Q E) (startD 2 ds) S := by
  rintro ds S Q E _ _ ⟨b, R, d, es, rfl, rfl, hb, hs, h1, h2, q⟩
  simp [rd_law_pick, cLen_A hs]
  refine draw_st (by omega) (by omega) hb fun k b' h3 h4 h5 => ?_
  obtain ⟨j, rfl⟩ : ∃ j : Nat, k = j := ⟨k.toNat, by omega⟩
  have hk : j < es.length := by omega
  refine oIx_m (seqA_st hs) (d := es[j]) ?_ (q _ _ (List.getElem_mem _) h5)
  rw [atI_nat, List.getElem?_eq_getElem hk]
/-! _law_mixed (_law_stream_here, _law_things) slots: 0=_law_stream_here 1=_law_things 2=_law_left 3=_law_found 4=_law_k -/
abbrev N_law_mixed : List Str := ["_law_stream_here", "_law_things", "_law_left", "_law_found", "_law_k"]
abbrev ps_law_mixed : List Str := ["_law_stream_here", "_law_things"]
def ft_law_mixed (A : Str → Addr) : FT := fun ds S Q _ => ∃ (b : Nat) (R : Store) (d : D) (ts : List T), ds = [.m 1, d] ∧ S = st b R ∧ ts.length ≤ b ∧ seqA S d = some (ts.map .t) ∧ ts.length ≤ 100000 ∧ ∀ (us : List T) b', us.Perm ts → b ≤ b' + ts.length → Q (.t (.lst us)) (st b' R)
def ft_law_mixedM (A : Str → Addr) : FT := fun ds S Q _ => ∃ (b : Nat) (R : Store) (d : D) (ts : List T), ds = [.m 1, d] ∧ S = st b R ∧ ts.length ≤ b ∧ seqA S d = some (ts.map .t) ∧ ts.length ≤ 100000 ∧ ∀ (us : List T) b', us.Perm ts → b ≤ b' + ts.length → Q (.m (R.length + 2)) (st b' (R ++ [.lst (us.map .t)]))
def rd_law_mixed (A : Str → Addr) : TSD :=
 sSeq (sPar 2 3 (dCons (dCB cListM (dCons (dVar 1) (dNil))) (dCons (dLstM (dNil)) (dNil))))
 (sSeq (sFor (iRange1 (dCons (dCB cLen (dCons (dVar 2) (dNil))) (dNil))) (gVar 4)
 (sSeq (sDrop (dBM tyLst mAppend (dVar 3) (dCons (dBM tyLst mPopAt (dVar 2) (dCons (dCall 2 (ft_law_draw A) (dCons (dVar 0) (dCons (dCB cLen (dCons (dVar 2) (dNil))) (dNil)))) (dNil))) (dNil))))
 (sNext)))
 (sSeq (sRet (dVar 3))
 (sNext)))
theorem eraseIdx_map' {α β : Type} (f : α → β) : ∀ (l : List α) (i : Nat), (l.map f).eraseIdx i = (l.eraseIdx i).map f
  | [], _ => by simp
  | _ :: _, 0 => by simp
  | x :: l, i + 1 => by simp [eraseIdx_map' f l i]
theorem perm_erase {α : Type} : ∀ (l : List α) (j : Nat) (h : j < l.length), (l[j] :: l.eraseIdx j).Perm l
  | [], _, h => absurd h (Nat.not_lt_zero _)
  | _ :: _, 0, _ => List.Perm.refl _
  | x :: l, j + 1, h => (List.Perm.swap x _ _).trans (List.Perm.cons x (perm_erase l j (by simpa using h)))
def I_mixed (b : Nat) (R : Store) (d : D) (ts : List T) (i : Nat) (ρ' : Env) (S' : Store) : Prop := ∃ (b' : Nat) (l f : List T) (o : Option D), S' = st b' (R ++ [.lst (l.map .t), .lst (f.map .t)]) ∧ ρ' = [some (.m 1), some d, some (.m (R.length + 2)), some (.m (R.length + 1 + 2)), o] ∧ b ≤ b' + i ∧ f.length = i ∧ (f ++ l).Perm ts
theorem mixed_gen (A : Str → Addr) (m : Mode) {b : Nat} {R : Store} {d : D} {ts : List T} {Q : D → Store → Prop} {E : Ex → Prop} (hb : ts.length ≤ b) (hs : seqA (st b R) d = some (ts.map .t)) (h2 : ts.length ≤ 100000)
    (q : ∀ (us : List T) b', us.Perm ts → b ≤ b' + ts.length → m.rt (R.length + 2) Q (.m (R.length + 1 + 2)) (st b' (R ++ [.lst [], .lst (us.map .t)]))) : rd_law_mixed A (endsOf m (st b R) Q E) (startD 5 [.m 1, d]) (st b R) := by
  have hz1 : (100010 : Nat) ≤ sizeLine := by decide
  simp only [rd_law_mixed]
  simp
  refine ⟨d, ts.map .t, rfl, hs, ?_⟩
  have g0 : ∀ b' (l f : List T), (st b' (R ++ [.lst (l.map .t), .lst (f.map .t)]))[R.length + 2]? = some (.lst (l.map .t)) := fun b' l f => by
    rw [st_get, List.getElem?_append_right (Nat.le_refl _)]; simp
  have g1 : ∀ b' (l f : List T), (st b' (R ++ [.lst (l.map .t), .lst (f.map .t)]))[R.length + 1 + 2]? = some (.lst (f.map .t)) := fun b' l f => by
    rw [st_get, List.getElem?_append_right (Nat.le_succ _)]; simp
  have s0 : ∀ b' (l l' f : List T), (st b' (R ++ [.lst (l.map .t), .lst (f.map .t)])).set (R.length + 2) (.lst (l'.map .t)) = st b' (R ++ [.lst (l'.map .t), .lst (f.map .t)]) := fun b' l l' f => by
    rw [st_set, List.set_append_right _ _ (Nat.le_refl _)]; simp
  have s1 : ∀ b' (l f f' : List T), (st b' (R ++ [.lst (l.map .t), .lst (f.map .t)])).set (R.length + 1 + 2) (.lst (f'.map .t)) = st b' (R ++ [.lst (l.map .t), .lst (f'.map .t)]) := fun b' l f f' => by
    rw [st_set, List.set_append_right _ _ (Nat.le_succ _)]; simp
  have gg := g0 b ts []
  simp only [List.map_nil] at gg
  simp
  rw [cLen_m gg]
  refine ⟨(ts.length : Nat), by simp, by omega, by omega, ?_⟩
  refine for_T dInts_T (I_mixed b R d ts)
    ⟨b, ts, [], none, by simp, by simp [Nat.add_right_comm], by omega, rfl, by simp⟩ ?_ ?_
  · rintro i x ρ' S' hx ⟨b', l, f, o, rfl, rfl, hb', hf, hp⟩
    have hi : i < ts.length := by
      have := (List.getElem?_eq_some_iff.mp hx).1
      simpa using this
    have hl : l.length = ts.length - i := by
      have := hp.length_eq
      simp at this
      omega
    simp
    rw [cLen_m (g0 b' l f)]
    refine ⟨tyLst_m (g1 b' l f), tyLst_m (g0 b' l f), ?_⟩
    refine draw_st (by simp; omega) (by simp; omega) (by omega) fun k b'' h3 h4 h5 => ?_
    obtain ⟨j, rfl⟩ : ∃ j : Nat, k = j := ⟨k.toNat, by omega⟩
    have hj : j < l.length := by simp at h4; omega
    refine popAt_of (y := .t l[j]) (g0 b'' l f) (by omega) (by simp [hj]) ?_
    rw [show (l.map D.t).eraseIdx j = (l.eraseIdx j).map D.t from eraseIdx_map' _ _ _, s0]
    refine append_of (g1 _ _ _) (by simp; omega) ?_
    rw [show f.map D.t ++ [D.t l[j]] = (f ++ [l[j]]).map D.t by simp, s1]
    refine ⟨b'', l.eraseIdx j, f ++ [l[j]], _, rfl, rfl, by omega, by simp [hf], ?_⟩
    refine List.Perm.trans ?_ hp
    rw [List.append_assoc]
    refine List.Perm.append_left f ?_
    exact perm_erase l j hj
  · rintro ρ' S' ⟨b', l, f, o, rfl, rfl, hb', hf, hp⟩
    simp at hf hb'
    have hl : l = [] := by
      have := hp.length_eq
      simp at this
      exact List.length_eq_zero_iff.mp (by omega)
    subst hl
    simpa using q f b' (by simpa using hp) hb'
theorem math_law_mixed (A : Str → Addr) : ∀ (ds : List D) (S : Store) (Q : D → Store → Prop) (E : Ex → Prop), ClosedS S.length S → ds.length = 2 → ft_law_mixed A ds S Q E → rd_law_mixed A (endsOf .tree S Q E) (startD 5 ds) S := by
  rintro ds S Q E hcl _ ⟨b, R, d, ts, rfl, rfl, hb, hs, h2, q⟩
  refine mixed_gen A .tree hb hs h2 fun us b' hp hb' => ?_
  have g1 : (st b' (R ++ [.lst [], .lst (us.map .t)]))[R.length + 1 + 2]? = some (.lst (us.map .t)) := by
    rw [st_get, List.getElem?_append_right (Nat.le_succ _)]; simp
  exact rTree_of (t := .lst us) (S0 := st b' R) (frz_lst (i := R.length + 1 + 2) g1 (by simp)) (by simp) (st_closed hcl) (q us b' hp hb')
theorem math_law_mixedM (A : Str → Addr) : ∀ (ds : List D) (S : Store) (Q : D → Store → Prop) (E : Ex → Prop), ClosedS S.length S → ds.length = 2 → ft_law_mixedM A ds S Q E → rd_law_mixed A (endsOf .top S Q E) (startD 5 ds) S := by
  rintro ds S Q E hcl _ ⟨b, R, d, ts, rfl, rfl, hb, hs, h2, q⟩
  refine mixed_gen A .top hb hs h2 fun us b' hp hb' => ?_
  have g1 : (st b' (R ++ [.lst [], .lst (us.map .t)]))[R.length + 1 + 2]? = some (.lst (us.map .t)) := by
    rw [st_get, List.getElem?_append_right (Nat.le_succ _)]; simp
  exact ⟨R.length + 1 + 2, _, rfl, by omega, g1, refC_lst, by rw [st_take, List.take_left' rfl]; exact st_closed hcl, by rw [st_take, List.take_left' rfl]; exact q us b' hp hb'⟩
/-! _law_same (_law_found, _law_due) slots: 0=_law_found 1=_law_due 2=_law_mine 3=_law_theirs -/
abbrev N_law_same : List Str := ["_law_found", "_law_due", "_law_mine", "_law_theirs"]
abbrev ps_law_same : List Str := ["_law_found", "_law_due"]
/-- depth n: things told alike: lists lists, tuples tuples, dicts dicts, the things in them equal -/
def ftR_law_same (A : Str → Addr) (n : Nat) : FT := fun ds S Q _ => ∃ (x y : T), ds = [.t x, .t y] ∧ sd n x = true ∧ n ≤ 60 ∧ x = y ∧ Q (.bl true) S
abbrev ft_law_same (A : Str → Addr) : FT := ftR_law_same A 6
def rd_law_same (A : Str → Addr) (rc : FT) : TSD :=
 sSeq (sIf (dB (dCB (cIsi (Cs A)) (dCons (dVar 1) (dCons (dTup (dCons (dC (.ty "list")) (dCons (dC (.ty "tuple")) (dNil)))) (dNil)))))
 (sSeq (sIf (dOrT (dB (dOp oNe (dCB (cIsi (Cs A)) (dCons (dVar 0) (dCons (dC (.ty "list")) (dNil)))) (dCB (cIsi (Cs A)) (dCons (dVar 1) (dCons (dC (.ty "list")) (dNil)))))) (dB (dOp oNe (dCB (cIsi (Cs A)) (dCons (dVar 0) (dCons (dC (.ty "tuple")) (dNil)))) (dCB (cIsi (Cs A)) (dCons (dVar 1) (dCons (dC (.ty "tuple")) (dNil)))))))
 (sSeq (sRet (dC (.bl false)))
 (sNext))
 (sNext))
 (sSeq (sRet (dAndV (dOp oEq (dCB cLen (dCons (dVar 0) (dNil))) (dCB cLen (dCons (dVar 1) (dNil)))) (dCB cAll (dCons (dLc (iZipD (dCons (dVar 0) (dCons (dVar 1) (dNil)))) (gTupD 2 (gConsD (gVar 2) (gConsD (gVar 3) (gNilD)))) (dYes) (dCall 2 rc (dCons (dVar 2) (dCons (dVar 3) (dNil)))) [2, 3]) (dNil)))))
 (sNext)))
 (sNext))
 (sSeq (sIf (dB (dCB (cIsi (Cs A)) (dCons (dVar 1) (dCons (dC (.ty "dict")) (dNil)))))
 (sSeq (sRet (dAndV (dCB (cIsi (Cs A)) (dCons (dVar 0) (dCons (dC (.ty "dict")) (dNil)))) (dCall 2 rc (dCons (dListIt (dVar 0)) (dCons (dListIt (dVar 1)) (dNil))))))
 (sNext))
 (sNext))
 (sSeq (sIf (dOrT (dB (dCB (cIsi (Cs A)) (dCons (dVar 1) (dCons (dC (.ty "bool")) (dNil))))) (dB (dCB (cIsi (Cs A)) (dCons (dVar 0) (dCons (dC (.ty "bool")) (dNil))))))
 (sSeq (sRet (dAndV (dCB (cIsi (Cs A)) (dCons (dVar 1) (dCons (dC (.ty "bool")) (dNil)))) (dAndV (dCB (cIsi (Cs A)) (dCons (dVar 0) (dCons (dC (.ty "bool")) (dNil)))) (dOp oEq (dVar 0) (dVar 1)))))
 (sNext))
 (sNext))
 (sSeq (sRet (dAndV (dNotV (dCB (cIsi (Cs A)) (dCons (dVar 0) (dCons (dTup (dCons (dC (.ty "list")) (dCons (dC (.ty "tuple")) (dCons (dC (.ty "dict")) (dNil))))) (dNil))))) (dOp oEq (dVar 0) (dVar 1))))
 (sNext))))
theorem math_law_same (A : Str → Addr) (n : Nat) : ∀ (ds : List D) (S : Store) (Q : D → Store → Prop) (E : Ex → Prop), ClosedS S.length S → ds.length = 2 → ftR_law_same A n ds S Q E → rd_law_same A (prevF (ftR_law_same A) n) (endsOf .raw S Q E) (startD 4 ds) S := by
  rintro ds S Q E hc _ ⟨x, y, rfl, hdx, hn, rfl, q⟩
  have hz1 : (100010 : Nat) ≤ sizeLine := by decide
  have hx1 := sd_ok1 (Cs := Cs A) hdx
  rcases sd_em hdx with ⟨v, rfl, hv⟩ | ⟨m, ts, rfl, hz, hlen, hdt⟩ | ⟨m, kvs, rfl, rfl, hlen, hdk⟩
  · have hs : isSeq (.v v) = false := rfl
    have hnd : isDct (.v v) = false := rfl
    have h64 : dat 64 (.v v) = true := dat0_v hv
    have he := eqT_refl 0 _ hv
    simp [rd_law_same, hx1, hs, hnd, h64, he, show 2 ≤ sizeLine by omega, show 3 ≤ sizeLine by omega]
    cases hb : isBl (.v v) with
    | true => simp; exact q
    | false =>
      simp
      refine isi_seqd hx1 ?_
      simp [hs, hnd]
      exact q
  · have hs : seqOf x = some ts := by rcases hz with rfl | rfl <;> rfl
    have hs1 : isSeq x = true := by rcases hz with rfl | rfl <;> rfl
    simp [rd_law_same, hx1, hs1, show 2 ≤ sizeLine by omega, cLen_x hs]
    refine zipT_x (by rcases hz with rfl | rfl; exact .inl ⟨rfl, rfl⟩; exact .inr ⟨rfl, rfl⟩) fun it hit => ?_
    refine lc_map (fun _ => .bl true) hit hc (by simp; omega) ?_ ?_
    · intro t ht S2 Ky hk
      simp at ht
      obtain ⟨a, b, hab, rfl⟩ := ht
      obtain ⟨rfl, ha⟩ := zip_self hab
      simp [wipeD]
      exact ⟨a, a, rfl, hdt a ha, by omega, rfl, hk⟩
    · rw [cAll_map, List.all_eq_true.mpr (fun _ _ => rfl)]
      exact q
  · have hs : isSeq (.dct kvs) = false := rfl
    have hnd : isDct (.dct kvs) = true := rfl
    simp [rd_law_same, hx1, hs, hnd, show 2 ≤ sizeLine by omega]
    exact ⟨_, _, rfl, sd_items hlen hdk, by omega, rfl, q⟩
/-! _law_stepping (_law_stream_here, _law_begin, _law_end, _law_order, _law_wide) slots: 0=_law_stream_here 1=_law_begin 2=_law_end 3=_law_order 4=_law_wide 5=_law_one 6=_law_other 7=_law_room 8=_law_first 9=_law_middle 10=_law_last 11=_law_found 12=_law_place -/
abbrev N_law_stepping : List Str := ["_law_stream_here", "_law_begin", "_law_end", "_law_order", "_law_wide", "_law_one", "_law_other", "_law_room", "_law_first", "_law_middle", "_law_last", "_law_found", "_law_place"]
abbrev ps_law_stepping : List Str := ["_law_stream_here", "_law_begin", "_law_end", "_law_order", "_law_wide"]
/-- a road's row: its ends of P, no loop -/
def RowOk (P : Int → Prop) (row : List T) : Prop := ∃ a b l w : Int, row = [.int a, .int b, .int l, .int w] ∧ P a ∧ P b ∧ a ≠ b ∧ 0 ≤ l ∧ 1 ≤ w
/-- .. that takes a turn -/
def RowOn (P : Int → Prop) (row : List T) : Prop := ∃ a b l w : Int, row = [.int a, .int b, .int l, .int w] ∧ P a ∧ P b ∧ a ≠ b ∧ 1 ≤ l ∧ 1 ≤ w
def ft_law_stepping (A : Str → Addr) : FT := fun ds S Q _ => ∃ (b : Nat) (R : Store) (be en wide : Int) (order : List Int), ds = [.m 1, .int be, .int en, .t (iL order), .int wide] ∧ S = st b R ∧ 20 ≤ b ∧ 1 ≤ wide ∧ wide ≤ 1000 ∧ order.Nodup ∧ 4 ≤ order.length ∧ order.length ≤ 1000 ∧ be ∈ order ∧ en ∈ order ∧ be ≠ en ∧
  ∀ (rows : List (List T)) b', rows.length = 5 → (∀ r ∈ rows, RowOn (· ∈ order) r) → b ≤ b' + 20 → Q (.t (.lst (rows.map .tup))) (st b' R)
def rd_law_stepping (A : Str → Addr) : TSD :=
 sSeq (sAsg (dSl (dLc (iSeq (dVar 3)) (gVar 12) (dAndT (dB (dOp oNe (dVar 12) (dVar 1))) (dB (dOp oNe (dVar 12) (dVar 2)))) (dVar 12) [12]) (dNoPart) (dPart (dC (.int 2)))) (gTupD 2 (gConsD (gVar 5) (gConsD (gVar 6) (gNilD)))))
 (sSeq (sPar 7 8 (dCons (dOp oAdd (dC (.int 1)) (dCall 2 (ft_law_draw A) (dCons (dVar 0) (dCons (dVar 4) (dNil))))) (dCons (dOp oAdd (dC (.int 1)) (dCall 2 (ft_law_draw A) (dCons (dVar 0) (dCons (dC (.int 2)) (dNil))))) (dNil))))
 (sSeq (sPar 9 10 (dCons (dOp oAdd (dC (.int 1)) (dCall 2 (ft_law_draw A) (dCons (dVar 0) (dCons (dC (.int 2)) (dNil))))) (dCons (dOp oAdd (dC (.int 1)) (dCall 2 (ft_law_draw A) (dCons (dVar 0) (dCons (dC (.int 2)) (dNil))))) (dNil))))
 (sSeq (sAsg (dLstM (dCons (dTup (dCons (dVar 1) (dCons (dVar 5) (dCons (dVar 8) (dCons (dVar 7) (dNil)))))) (dCons (dTup (dCons (dVar 5) (dCons (dVar 6) (dCons (dVar 9) (dCons (dVar 7) (dNil)))))) (dCons (dTup (dCons (dVar 6) (dCons (dVar 2) (dCons (dVar 10) (dCons (dVar 7) (dNil)))))) (dNil))))) (gVar 11))
 (sSeq (sDrop (dBM tyLst mAppend (dVar 11) (dCons (dTup (dCons (dVar 1) (dCons (dVar 6) (dCons (dOp oAdd (dOp oAdd (dOp oAdd (dVar 8) (dVar 9)) (dC (.int 1))) (dCall 2 (ft_law_draw A) (dCons (dVar 0) (dCons (dC (.int 3)) (dNil))))) (dCons (dOp oAdd (dC (.int 1)) (dCall 2 (ft_law_draw A) (dCons (dVar 0) (dCons (dVar 4) (dNil))))) (dNil)))))) (dNil))))
 (sSeq (sRet (dOp oAdd (dVar 11) (dLst (dCons (dTup (dCons (dVar 5) (dCons (dVar 2) (dCons (dOp oAdd (dOp oAdd (dOp oAdd (dVar 9) (dVar 10)) (dC (.int 1))) (dCall 2 (ft_law_draw A) (dCons (dVar 0) (dCons (dC (.int 3)) (dNil))))) (dCons (dOp oAdd (dC (.int 1)) (dCall 2 (ft_law_draw A) (dCons (dVar 0) (dCons (dVar 4) (dNil))))) (dNil)))))) (dNil)))))
 (sNext))))))
theorem filter_two : ∀ {L : List Int} {x : Int}, L.Nodup → L.length ≤ (L.filter fun z => !decide (z = x)).length + 1
  | [], _, _ => by simp
  | a :: L, x, h => by
    have h' := List.nodup_cons.mp h
    by_cases ha : a = x
    · subst ha
      have : (L.filter fun z => !decide (z = a)) = L := List.filter_eq_self.mpr fun z hz => by
        have : z ≠ a := fun e => h'.1 (e ▸ hz)
        simp [this]
      simp [this]
    · have := filter_two (x := x) h'.2
      simp [ha]; omega
theorem math_law_stepping (A : Str → Addr) : ∀ (ds : List D) (S : Store) (Q : D → Store → Prop) (E : Ex → Prop), ClosedS S.length S → ds.length = 5 → ft_law_stepping A ds S Q E → rd_law_stepping A (endsOf .tree S Q E) (startD 13 ds) S := by
  rintro ds S Q E hc _ ⟨b, R, be, en, wide, order, rfl, rfl, hb, hw1, hw2, hnd, h4, hlen, hbe, hen, hne, q⟩
  have hz1 : (100010 : Nat) ≤ sizeLine := by decide
  simp [rd_law_stepping]
  refine itT_x (ts := order.map .int) rfl fun it hit => ?_
  refine lc_fm (fun t => match t with | .v (.int z) => !decide (z = be) && !decide (z = en) | _ => false) id hit hc (by simp; omega) ?_ ?_
  · intro t ht S2 Ky Kn hy hn
    simp at ht
    obtain ⟨z, hz, rfl⟩ := ht
    simp [wipeD]
    by_cases h1 : z = be
    · subst h1; simp at hn ⊢; exact hn
    · by_cases h2 : z = en
      · subst h2; simp [h1] at hn ⊢; exact hn
      · simp [h1, h2] at hy ⊢; exact hy
  · have e : ((order.map T.int).filter fun t => match t with | .v (.int z) => !decide (z = be) && !decide (z = en) | _ => false) = (order.filter fun z => !decide (z = be) && !decide (z = en)).map T.int := by
      rw [List.filter_map]; rfl
    rw [e]
    have hl2 : 2 ≤ (order.filter fun z => !decide (z = be) && !decide (z = en)).length := by
      rw [← List.filter_filter]
      have h1 := filter_two (x := en) hnd
      have h2 := filter_two (x := be) (hnd.sublist (List.filter_sublist (p := fun z => !decide (z = en))))
      omega
    generalize hF : (order.filter fun z => !decide (z = be) && !decide (z = en)) = F at hl2
    have hm : ∀ z ∈ F, z ∈ order ∧ z ≠ be ∧ z ≠ en := fun z hz => by
      rw [← hF] at hz
      simpa using hz
    have hFn : F.Nodup := by rw [← hF]; exact hnd.sublist List.filter_sublist
    match F, hl2, hm, hFn with
    | u :: v :: F, _, hm, hFn =>
      have hu := hm u (by simp)
      have hv := hm v (by simp)
      have huv : u ≠ v := fun e => (List.nodup_cons.mp hFn).1 (by simp [e])
      have hz4 : (4 : Nat) ≤ sizeLine := by omega
      have hz3 : (3 : Nat) ≤ sizeLine := by omega
      simp [hz4, hz3]
      refine draw_st (by omega) (by omega) (by omega) fun d1 b1 _ _ _ => ?_
      simp [hz4, hz3]
      refine draw_st (by omega) (by omega) (by omega) fun d2 b2 _ _ _ => ?_
      simp [hz4, hz3]
      refine draw_st (by omega) (by omega) (by omega) fun d3 b3 _ _ _ => ?_
      simp [hz4, hz3]
      refine draw_st (by omega) (by omega) (by omega) fun d4 b4 _ _ _ => ?_
      simp [hz4, hz3]
      refine draw_st (by omega) (by omega) (by omega) fun d5 b5 _ _ _ => ?_
      simp [hz4, hz3]
      refine draw_st (by omega) (by omega) (by omega) fun d6 b6 _ _ _ => ?_
      simp [hz4, hz3]
      refine append_last (by simp; omega) ?_
      refine draw_st (by omega) (by omega) (by omega) fun d7 b7 _ _ _ => ?_
      simp [hz4, hz3]
      refine draw_st (by omega) (by omega) (by omega) fun d8 b8 _ _ _ => ?_
      simp [hz4, hz3, show (1 : Nat) ≤ sizeLine by omega]
      refine oAdd_s (xs := [.tup [.int be, .int u, .int (1 + d2), .int (1 + d1)], .tup [.int u, .int v, .int (1 + d3), .int (1 + d1)], .tup [.int v, .int en, .int (1 + d4), .int (1 + d1)], .tup [.int be, .int v, .int (1 + d2 + (1 + d3) + 1 + d5), .int (1 + d6)]])
        (ys := [.tup [.int u, .int en, .int (1 + d3 + (1 + d4) + 1 + d7), .int (1 + d8)]]) (seqL_m st_last) rfl (by simp; omega) ?_
      refine rTree_t (S0 := st b8 R) (by simp) (st_closed hc) ?_
      refine q [[.int be, .int u, .int (1 + d2), .int (1 + d1)], [.int u, .int v, .int (1 + d3), .int (1 + d1)], [.int v, .int en, .int (1 + d4), .int (1 + d1)], [.int be, .int v, .int (1 + d2 + (1 + d3) + 1 + d5), .int (1 + d6)], [.int u, .int en, .int (1 + d3 + (1 + d4) + 1 + d7), .int (1 + d8)]] b8 rfl ?_ (by omega)
      intro r hr
      simp only [List.mem_cons, List.not_mem_nil, or_false] at hr
      rcases hr with rfl | rfl | rfl | rfl | rfl
      · exact ⟨_, _, _, _, rfl, hbe, hu.1, fun e => hu.2.1 e.symm, by omega, by omega⟩
      · exact ⟨_, _, _, _, rfl, hu.1, hv.1, huv, by omega, by omega⟩
      · exact ⟨_, _, _, _, rfl, hv.1, hen, hv.2.2, by omega, by omega⟩
      · exact ⟨_, _, _, _, rfl, hbe, hv.1, fun e => hv.2.1 e.symm, by omega, by omega⟩
      · exact ⟨_, _, _, _, rfl, hu.1, hen, hu.2.2, by omega, by omega⟩
/-! _law_house (_law_stream_here, _law_places, _law_full, _law_doors) slots: 0=_law_stream_here 1=_law_places 2=_law_full 3=_law_doors 4=_law_many 5=_law_order 6=_law_found 7=_law_some 8=_law_long 9=_law_wide 10=_law_late 11=_law_cut 12=_law_sort 13=_law_begins 14=_law_ends 15=_law_k 16=_law_line 17=_law_one 18=_law_other 19=_law_roads 20=_law_rank 21=_law_length 22=_law_crossed 23=_law_at 24=_law_door -/
abbrev N_law_house : List Str := ["_law_stream_here", "_law_places", "_law_full", "_law_doors", "_law_many", "_law_order", "_law_found", "_law_some", "_law_long", "_law_wide", "_law_late", "_law_cut", "_law_sort", "_law_begins", "_law_ends", "_law_k", "_law_line", "_law_one", "_law_other", "_law_roads", "_law_rank", "_law_length", "_law_crossed", "_law_at", "_law_door"]
abbrev ps_law_house : List Str := ["_law_stream_here", "_law_places", "_law_full", "_law_doors"]
/-- a road's row, with a rank that roads of no turn rise in -/
def RowR (P : Int → Prop) (rk : Int → Nat) (row : List T) : Prop := ∃ a b l w : Int, row = [.int a, .int b, .int l, .int w] ∧ P a ∧ P b ∧ a ≠ b ∧ 0 ≤ l ∧ 1 ≤ w ∧ (l = 0 → rk a < rk b)
def RoadsOk (p : Int) (rows : List (List T)) : Prop := ∃ rk : Int → Nat, ∀ r ∈ rows, RowR (fun z => 0 ≤ z ∧ z < p) rk r
def DoorR (P Q : Int → Prop) (row : List T) : Prop := ∃ (s : Str) (a k : Int), row = [.str s, .int a, .int k] ∧ ((s = "in" ∧ P a) ∨ (s = "out" ∧ Q a)) ∧ 0 ≤ k
def DoorsOk (p : Int) (rows : List (List T)) : Prop := ∃ P Q : Int → Prop, (∀ z, P z → 0 ≤ z ∧ z < p) ∧ (∀ z, Q z → 0 ≤ z ∧ z < p) ∧ (∀ z, P z → Q z → False) ∧ ∀ r ∈ rows, DoorR P Q r
def costH : Nat := 20000
def ft_law_house (A : Str → Addr) : FT := fun ds S Q _ => ∃ (b : Nat) (R : Store) (pl full drs : Int), ds = [.m 1, .int pl, .int full, .int drs] ∧ S = st b R ∧ costH ≤ b ∧ 2 ≤ pl ∧ pl ≤ 100 ∧ 1 ≤ full ∧ full ≤ 100 ∧ 2 ≤ drs ∧ drs ≤ 100 ∧
  ∀ (many : Int) (rs dr : List (List T)) b', 2 ≤ many → many ≤ pl → RoadsOk many rs → DoorsOk many dr → 1 ≤ rs.length → rs.length ≤ 200 → 2 ≤ dr.length → dr.length ≤ 200 → b ≤ b' + costH → Q (.t (.tup [.int many, .lst (rs.map .tup), .lst (dr.map .tup)])) (st b' R)
def rd_law_house (A : Str → Addr) : TSD :=
 sSeq (sAsg (dOp oAdd (dC (.int 2)) (dCB (cInt2 fun i j => if j > i then j else i) (dCons (dCall 2 (ft_law_draw A) (dCons (dVar 0) (dCons (dOp (oI0 fun i j => .int (i - j)) (dVar 1) (dC (.int 1))) (dNil)))) (dCons (dCall 2 (ft_law_draw A) (dCons (dVar 0) (dCons (dOp (oI0 fun i j => .int (i - j)) (dVar 1) (dC (.int 1))) (dNil)))) (dNil))))) (gVar 4))
 (sSeq (sPar3 5 6 7 (dCons (dCall 2 (ft_law_mixed A) (dCons (dVar 0) (dCons (dListRg (dVar 4)) (dNil)))) (dCons (dLstM (dNil)) (dCons (dLstM (dNil)) (dNil)))))
 (sSeq (sPar3 8 9 10 (dCons (dCall 2 (ft_law_pick A) (dCons (dVar 0) (dCons (dLst (dCons (dC (.int 1)) (dCons (dC (.int 2)) (dCons (dC (.int 3)) (dCons (dC (.int 5)) (dNil)))))) (dNil)))) (dCons (dCall 2 (ft_law_pick A) (dCons (dVar 0) (dCons (dLst (dCons (dC (.int 1)) (dCons (dC (.int 3)) (dCons (dC (.int 3)) (dCons (dC (.int 10)) (dNil)))))) (dNil)))) (dCons (dCall 2 (ft_law_pick A) (dCons (dVar 0) (dCons (dLst (dCons (dC (.int 1)) (dCons (dC (.int 1)) (dCons (dC (.int 3)) (dNil))))) (dNil)))) (dNil)))))
 (sSeq (sAsg (dCall 2 (ft_law_pick A) (dCons (dVar 0) (dCons (dLst (dCons (dOp oAdd (dC (.int 1)) (dCall 2 (ft_law_draw A) (dCons (dVar 0) (dCons (dOp (oI0 fun i j => .int (i - j)) (dVar 4) (dC (.int 1))) (dNil))))) (dCons (dOp (oI CDivW fun i j => .int (i / j)) (dVar 4) (dC (.int 2))) (dCons (dOp (oI CDivW fun i j => .int (i / j)) (dOp oAdd (dVar 4) (dC (.int 1))) (dC (.int 2))) (dNil))))) (dNil)))) (gVar 11))
 (sSeq (sFor (iSeq (dOp oAdd (dLst (dCons (dC (.str "in")) (dCons (dC (.str "out")) (dNil)))) (dLc (iRange1 (dCons (dCall 2 (ft_law_draw A) (dCons (dVar 0) (dCons (dOp (oI0 fun i j => .int (i - j)) (dVar 3) (dC (.int 1))) (dNil)))) (dNil))) (gVar 15) (dYes) (dCall 2 (ft_law_pick A) (dCons (dVar 0) (dCons (dLst (dCons (dC (.str "in")) (dCons (dC (.str "out")) (dNil)))) (dNil)))) [15]))) (gVar 12)
 (sSeq (sDrop (dBM tyLst mAppend (dVar 7) (dCons (dTup (dCons (dVar 12) (dCons (dCall 2 (ft_law_pick A) (dCons (dVar 0) (dCons (dIf (dB (dOp oEq (dVar 12) (dC (.str "in")))) (dSl (dVar 5) (dNoPart) (dPart (dVar 11))) (dSl (dVar 5) (dPart (dVar 11)) (dNoPart))) (dNil)))) (dCons (dCall 2 (ft_law_draw A) (dCons (dVar 0) (dCons (dVar 10) (dNil)))) (dNil))))) (dNil))))
 (sNext)))
 (sSeq (sPar 13 14 (dCons (dLc (iSeq (dVar 7)) (gVar 24) (dB (dOp oEq (dOp oIx (dVar 24) (dC (.int 0))) (dC (.str "in")))) (dOp oIx (dVar 24) (dC (.int 1))) [24]) (dCons (dLc (iSeq (dVar 7)) (gVar 24) (dB (dOp oEq (dOp oIx (dVar 24) (dC (.int 0))) (dC (.str "out")))) (dOp oIx (dVar 24) (dC (.int 1))) [24]) (dNil))))
 (sSeq (sFor (iRange1 (dCons (dOp oAdd (dC (.int 2)) (dCall 2 (ft_law_draw A) (dCons (dVar 0) (dCons (dC (.int 5)) (dNil))))) (dNil))) (gVar 15)
 (sSeq (sAsg (dOp oCatM (dLst (dCons (dCall 2 (ft_law_pick A) (dCons (dVar 0) (dCons (dVar 13) (dNil)))) (dNil))) (dSl (dCall 2 (ft_law_mixed A) (dCons (dVar 0) (dCons (dVar 5) (dNil)))) (dNoPart) (dPart (dCall 2 (ft_law_pick A) (dCons (dVar 0) (dCons (dLst (dCons (dC (.int 0)) (dCons (dC (.int 0)) (dCons (dC (.int 1)) (dCons (dC (.int 1)) (dCons (dC (.int 2)) (dNil))))))) (dNil))))))) (gVar 16))
 (sSeq (sDrop (dBM tyLst mAppend (dVar 16) (dCons (dCall 2 (ft_law_pick A) (dCons (dVar 0) (dCons (dVar 14) (dNil)))) (dNil))))
 (sSeq (sDrop (dBM tyLst mExtend (dVar 6) (dCons (dLc (iZipD (dCons (dVar 16) (dCons (dSl (dVar 16) (dPart (dC (.int 1))) (dNoPart)) (dNil)))) (gTupD 2 (gConsD (gVar 17) (gConsD (gVar 18) (gNilD)))) (dB (dOp oNe (dVar 17) (dVar 18))) (dTup (dCons (dVar 17) (dCons (dVar 18) (dNil)))) [17, 18]) (dNil))))
 (sNext)))))
 (sSeq (sFor (iRange1 (dCons (dCall 2 (ft_law_draw A) (dCons (dVar 0) (dCons (dC (.int 3)) (dNil)))) (dNil))) (gVar 15)
 (sSeq (sAsg (dSl (dCall 2 (ft_law_mixed A) (dCons (dVar 0) (dCons (dVar 5) (dNil)))) (dNoPart) (dPart (dC (.int 2)))) (gTupD 2 (gConsD (gVar 17) (gConsD (gVar 18) (gNilD)))))
 (sSeq (sDrop (dBM tyLst mAppend (dVar 6) (dCons (dTup (dCons (dVar 17) (dCons (dVar 18) (dNil)))) (dNil))))
 (sNext))))
 (sSeq (sPar 19 20 (dCons (dLstM (dNil)) (dCons (dCall 2 (ft_law_pick A) (dCons (dVar 0) (dCons (dLst (dCons (dVar 5) (dCons (dVar 5) (dCons (dCall 2 (ft_law_mixed A) (dCons (dVar 0) (dCons (dVar 5) (dNil)))) (dNil))))) (dNil)))) (dNil))))
 (sSeq (sFor (iSeq (dSl (dVar 6) (dNoPart) (dPart (dVar 2)))) (gTupD 2 (gConsD (gVar 17) (gConsD (gVar 18) (gNilD))))
 (sSeq (sAsg (dCall 2 (ft_law_draw A) (dCons (dVar 0) (dCons (dOp oAdd (dVar 8) (dC (.int 1))) (dNil)))) (gVar 21))
 (sSeq (sAsg (dIf (dAndT (dB (dOp oEq (dVar 21) (dC (.int 0)))) (dB (dOp (oI0 fun i j => .bl (decide (j < i))) (dBM tyLst mIndexT (dVar 20) (dCons (dVar 17) (dNil))) (dBM tyLst mIndexT (dVar 20) (dCons (dVar 18) (dNil)))))) (dC (.int 1)) (dVar 21)) (gVar 21))
 (sSeq (sDrop (dBM tyLst mAppend (dVar 19) (dCons (dTup (dCons (dVar 17) (dCons (dVar 18) (dCons (dVar 21) (dCons (dOp oAdd (dC (.int 1)) (dCall 2 (ft_law_draw A) (dCons (dVar 0) (dCons (dVar 9) (dNil))))) (dNil)))))) (dNil))))
 (sNext)))))
 (sSeq (sIf (dAndT (dB (dOp (oI0 fun i j => .bl (decide (j < i))) (dVar 4) (dC (.int 3)))) (dAndT (dB (dOp (oI0 fun i j => .bl (decide (j < i))) (dVar 2) (dC (.int 4)))) (dB (dOp oEq (dCall 2 (ft_law_draw A) (dCons (dVar 0) (dCons (dC (.int 2)) (dNil)))) (dC (.int 0))))))
 (sSeq (sAsg (dCall 5 (ft_law_stepping A) (dCons (dVar 0) (dCons (dCall 2 (ft_law_pick A) (dCons (dVar 0) (dCons (dVar 13) (dNil)))) (dCons (dCall 2 (ft_law_pick A) (dCons (dVar 0) (dCons (dVar 14) (dNil)))) (dCons (dVar 5) (dCons (dVar 9) (dNil))))))) (gVar 22))
 (sSeq (sAsg (dCall 2 (ft_law_mixedM A) (dCons (dVar 0) (dCons (dOp oAdd (dVar 22) (dSl (dVar 19) (dNoPart) (dPart (dCall 2 (ft_law_draw A) (dCons (dVar 0) (dCons (dOp (oI0 fun i j => .int (i - j)) (dVar 2) (dC (.int 4))) (dNil))))))) (dNil)))) (gVar 19))
 (sNext)))
 (sNext))
 (sSeq (sIf (dAndT (dB (dOp oEq (dCall 2 (ft_law_draw A) (dCons (dVar 0) (dCons (dC (.int 3)) (dNil)))) (dC (.int 0)))) (dB (dOp (oI0 fun i j => .bl (decide (j < i))) (dCB cLen (dCons (dVar 19) (dNil))) (dC (.int 2)))))
 (sSeq (sAsg (dCall 2 (ft_law_draw A) (dCons (dVar 0) (dCons (dCB cLen (dCons (dVar 19) (dNil))) (dNil)))) (gVar 23))
 (sSeq (sAsg (dTup (dCons (dOp oIx (dOp oIx (dVar 19) (dVar 23)) (dC (.int 0))) (dCons (dOp oIx (dOp oIx (dVar 19) (dVar 23)) (dC (.int 1))) (dCons (dOp oAdd (dC (.int 6)) (dCall 2 (ft_law_draw A) (dCons (dVar 0) (dCons (dC (.int 4)) (dNil))))) (dCons (dOp oIx (dOp oIx (dVar 19) (dVar 23)) (dC (.int 3))) (dNil)))))) (gSubD (dVar 19) (dVar 23)))
 (sNext)))
 (sNext))
 (sSeq (sIf (dAndT (dB (dOp oEq (dCall 2 (ft_law_draw A) (dCons (dVar 0) (dCons (dC (.int 3)) (dNil)))) (dC (.int 0)))) (dB (dOp (oI0 fun i j => .bl (decide (j < i))) (dCB cLen (dCons (dVar 7) (dNil))) (dC (.int 2)))))
 (sSeq (sAsg (dOp oAdd (dC (.int 2)) (dCall 2 (ft_law_draw A) (dCons (dVar 0) (dCons (dOp (oI0 fun i j => .int (i - j)) (dCB cLen (dCons (dVar 7) (dNil))) (dC (.int 2))) (dNil))))) (gVar 23))
 (sSeq (sAsg (dTup (dCons (dOp oIx (dOp oIx (dVar 7) (dVar 23)) (dC (.int 0))) (dCons (dOp oIx (dOp oIx (dVar 7) (dVar 23)) (dC (.int 1))) (dCons (dOp oAdd (dC (.int 3)) (dCall 2 (ft_law_draw A) (dCons (dVar 0) (dCons (dC (.int 7)) (dNil))))) (dNil))))) (gSubD (dVar 7) (dVar 23)))
 (sNext)))
 (sNext))
 (sSeq (sRet (dTupM (dCons (dVar 4) (dCons (dVar 19) (dCons (dCall 2 (ft_law_mixed A) (dCons (dVar 0) (dCons (dVar 7) (dNil)))) (dNil))))))
 (sNext))))))))))))))
/-- the rest of the store: found at its place n, some behind it -/
structure HS (R : Store) (F G : List T) (R' : Store) : Prop where
  pre : R'.take R.length = R
  len : R.length + 2 ≤ R'.length
  f : R'[R.length]? = some (.lst (F.map .t))
  g : R'[R.length + 1]? = some (.lst (G.map .t))
  cl : ClosedR (R'.length + 2) R'
namespace HS
variable {R R' : Store} {F G : List T}
theorem closed (h : HS R F G R') {b : Nat} : ClosedS (st b R').length (st b R') := closed_st.mpr ⟨by simp, h.cl⟩
theorem app (h : HS R F G R') (ts : List T) : HS R F G (R' ++ [.lst (ts.map .t)]) where
  pre := by rw [List.take_append_of_le_length (by have := h.len; omega)]; exact h.pre
  len := by have := h.len; simp; omega
  f := by rw [List.getElem?_append_left (by have := h.len; omega)]; exact h.f
  g := by rw [List.getElem?_append_left (by have := h.len; omega)]; exact h.g
  cl := h.cl.app refC_lst
theorem setF (h : HS R F G R') (F2 : List T) : HS R F2 G (R'.set R.length (.lst (F2.map .t))) where
  pre := by rw [List.take_set_of_le (Nat.le_refl _)]; exact h.pre
  len := by simpa using h.len
  f := List.getElem?_set_self (by have := h.len; omega)
  g := by rw [List.getElem?_set_ne (by omega)]; exact h.g
  cl := by rw [List.length_set]; exact h.cl.set refC_lst
theorem setG (h : HS R F G R') (G2 : List T) : HS R F G2 (R'.set (R.length + 1) (.lst (G2.map .t))) where
  pre := by rw [List.take_set_of_le (Nat.le_succ _)]; exact h.pre
  len := by simpa using h.len
  f := by rw [List.getElem?_set_ne (by omega)]; exact h.f
  g := List.getElem?_set_self (by have := h.len; omega)
  cl := by rw [List.length_set]; exact h.cl.set refC_lst
theorem setO (h : HS R F G R') {i : Nat} (hi : R.length + 2 ≤ i) (ts : List T) : HS R F G (R'.set i (.lst (ts.map .t))) where
  pre := by rw [List.take_set_of_le (by omega)]; exact h.pre
  len := by simpa using h.len
  f := by rw [List.getElem?_set_ne (by omega)]; exact h.f
  g := by rw [List.getElem?_set_ne (by omega)]; exact h.g
  cl := by rw [List.length_set]; exact h.cl.set refC_lst
theorem atF (h : HS R F G R') {b : Nat} : (st b R')[R.length + 2]? = some (.lst (F.map .t)) := by rw [st_get]; exact h.f
theorem atG (h : HS R F G R') {b : Nat} : (st b R')[R.length + 2 + 1]? = some (.lst (G.map .t)) := h.g
end HS
theorem sum_c {α : Type} (n : Nat) : ∀ l : List α, (l.map fun _ => n).sum = n * l.length
  | [] => by simp
  | a :: l => by simp [sum_c n l, Nat.mul_add]; omega
def I_some (R : Store) (b : Nat) (c : List (Option D)) (P Q : Int → Prop) (i : Nat) (ρ' : Env) (S' : Store) : Prop := ∃ (b' : Nat) (R' : Store) (G : List (List T)) (o : Option D), S' = st b' R' ∧ b ≤ b' + 2 * i ∧ HS R [] (G.map .tup) R' ∧ G.length = i ∧ (∀ g ∈ G, DoorR P Q g) ∧ (1 ≤ i → ∃ g ∈ G, ∃ a k : Int, g = [.str "in", .int a, .int k]) ∧ (2 ≤ i → ∃ g ∈ G, ∃ a k : Int, g = [.str "out", .int a, .int k]) ∧
  ρ' = c ++ [o, none, none, none, none, none, none, none, none, none, none, none, none]
def prT (p : Int × Int) : T := .tup [.int p.1, .int p.2]
@[simp] theorem prT_e {a b : Int} : prT (a, b) = .tup [.int a, .int b] := rfl
def ne2 : T → Bool
  | .tup [.v (.int a), .v (.int b)] => decide (a ≠ b)
  | _ => false
@[simp] theorem ne2_e {a b : Int} : ne2 (.tup [.v (.int a), .v (.int b)]) = decide (a ≠ b) := rfl
theorem ne2_p : ne2 ∘ prT = fun p => decide (p.1 ≠ p.2) := rfl
def I_line (R : Store) (b : Nat) (c : List (Option D)) (order : List Int) (G : List T) (i : Nat) (ρ' : Env) (S' : Store) : Prop := ∃ (b' : Nat) (R' : Store) (F : List (Int × Int)) (o1 o2 : Option D), S' = st b' R' ∧ b ≤ b' + 110 * i ∧ HS R (F.map prT) G R' ∧ F.length ≤ 3 * i ∧ (1 ≤ i → 1 ≤ F.length) ∧ (∀ p ∈ F, p.1 ∈ order ∧ p.2 ∈ order ∧ p.1 ≠ p.2) ∧
  ρ' = c ++ [o1, o2, none, none, none, none, none, none, none, none]
theorem step_line {A : Str → Addr} {R : Store} {b n : Nat} {v1 v2 v3 v4 v7 v8 v9 v10 v11 v12 : Option D} {order begins ends : List Int} {G : List T} {De : DEnds}
    (hol : order.length ≤ 100) (hn : n ≤ 7) (hbl : 1 ≤ begins.length) (hbl2 : begins.length ≤ 102) (hel : 1 ≤ ends.length) (hel2 : ends.length ≤ 102) (hbo : ∀ z ∈ begins, z ∈ order) (heo : ∀ z ∈ ends, z ∈ order) (hne : ∀ x ∈ begins, ∀ y ∈ ends, x ≠ y) (hb : 1000 ≤ b)
    {i : Nat} {x : T} {ρ' : Env} {S' : Store} (hi : i < n)
    (hI : I_line R b [some (.m 1), v1, v2, v3, v4, some (.t (.lst (order.map .int))), some (.m (R.length + 2)), v7, v8, v9, v10, v11, v12, some (.t (.lst (begins.map .int))), some (.t (.lst (ends.map .int)))] order G i ρ' S')
    (hnx : De.nx = I_line R b [some (.m 1), v1, v2, v3, v4, some (.t (.lst (order.map .int))), some (.m (R.length + 2)), v7, v8, v9, v10, v11, v12, some (.t (.lst (begins.map .int))), some (.t (.lst (ends.map .int)))] order G (i + 1)) :
    gVar 15 (.t x) De.ex ρ' S' fun ρ2 S2 => 
            (sSeq
              (sAsg
                (dOp oCatM (dLst (dCons (dCall 2 (ft_law_pick A) (dCons (dVar 0) (dCons (dVar 13) dNil))) dNil))
                  (dSl (dCall 2 (ft_law_mixed A) (dCons (dVar 0) (dCons (dVar 5) dNil))) dNoPart
                    (dPart
                      (dCall 2 (ft_law_pick A)
                        (dCons (dVar 0)
                          (dCons
                            (dLst
                              (dCons (dC (V.int 0))
                                (dCons (dC (V.int 0))
                                  (dCons (dC (V.int 1)) (dCons (dC (V.int 1)) (dCons (dC (V.int 2)) dNil))))))
                            dNil))))))
                (gVar 16))
              (sSeq
                (sDrop
                  (dBM tyLst mAppend (dVar 16)
                    (dCons (dCall 2 (ft_law_pick A) (dCons (dVar 0) (dCons (dVar 14) dNil))) dNil)))
                (sSeq
                  (sDrop
                    (dBM tyLst mExtend (dVar 6)
                      (dCons
                        (dLc (iZipD (dCons (dVar 16) (dCons (dSl (dVar 16) (dPart (dC (V.int 1))) dNoPart) dNil)))
                          (gTupD 2 (gConsD (gVar 17) (gConsD (gVar 18) gNilD))) (dB (dOp oNe (dVar 17) (dVar 18)))
                          (dTup (dCons (dVar 17) (dCons (dVar 18) dNil))) [17, 18])
                        dNil)))
                  sNext))) De ρ2 S2 := by
  have hz1 : (100010 : Nat) ≤ sizeLine := by decide
  have hz5 : (5 : Nat) ≤ sizeLine := by omega
  have hz1' : (1 : Nat) ≤ sizeLine := by omega
  have hz2 : (2 : Nat) ≤ sizeLine := by omega
  obtain ⟨b', R', F, o1, o2, rfl, hb', hs, hF, hF1, hF2, rfl⟩ := hI
  simp [hz5, hz1']
  refine ⟨b', _, _, _, rfl, rfl, by omega, rfl, by simp; omega, by simp; omega, fun e b2 he hb2 => ?_⟩
  obtain ⟨u, rfl, hu⟩ : ∃ u : Int, e = .int u ∧ u ∈ begins := by
    have he : e ∈ begins.map fun z => D.int z := by simpa [Function.comp_def] using he
    obtain ⟨u, hu, rfl⟩ := List.mem_map.mp he
    exact ⟨u, rfl, hu⟩
  simp [hz5, hz1']
  refine ⟨b2, _, _, _, rfl, rfl, by simp; omega, rfl, by simp; omega, fun us b3 hus hb3 => ?_⟩
  obtain ⟨mx, rfl, hmx⟩ := perm_ints hus
  have hml : mx.length = order.length := hmx.length_eq
  simp at hb3
  simp [hz5, hz1']
  refine ⟨b3, _, _, _, rfl, rfl, by omega, rfl, by simp, by simp, fun e b4 he hb4 => ?_⟩
  obtain ⟨cu, rfl, hcu⟩ : ∃ k : Nat, e = .int (k : Int) ∧ k ≤ 2 := by
    simp at he
    rcases he with rfl | rfl | rfl
    · exact ⟨0, rfl, by omega⟩
    · exact ⟨1, rfl, by omega⟩
    · exact ⟨2, rfl, by omega⟩
  simp
  refine ⟨[.int u], (mx.take cu).map fun z => D.int z, rfl, by simp [seqL, List.map_take, Function.comp_def], by simp; omega, ?_⟩
  simp
  refine ⟨b4, R' ++ [.lst (.int u :: (mx.take cu).map fun z => D.int z)], _, _, rfl, by simp, by omega, rfl, by simp; omega, by simp; omega, fun e b5 he hb5 => ?_⟩
  obtain ⟨w, rfl, hw⟩ : ∃ w : Int, e = .int w ∧ w ∈ ends := by
    have he : e ∈ ends.map fun z => D.int z := by simpa [Function.comp_def] using he
    obtain ⟨u, hu, rfl⟩ := List.mem_map.mp he
    exact ⟨u, rfl, hu⟩
  refine append_last (by simp; omega) ?_
  have hline : (.int u :: (mx.take cu).map fun z => D.int z) ++ [.int w] = ((u :: (mx.take cu ++ [w])).map T.int).map D.t := by simp [Function.comp_def]
  rw [hline]
  have hs' := hs.app ((u :: (mx.take cu ++ [w])).map T.int)
  refine ⟨tyLst_m hs'.atF, ?_⟩
  refine slD_m st_last ?_
  refine zipG (seqL_m st_last) rfl fun it hit => ?_
  have hz : ((u :: (mx.take cu ++ [w])).map T.int).zip (cutG ((u :: (mx.take cu ++ [w])).map T.int) (some 1) none) = ((u :: (mx.take cu ++ [w])).zip (mx.take cu ++ [w])).map (Prod.map T.int T.int) := by
    rw [cutG_fr1, List.map_cons, List.drop_one, List.tail_cons, ← List.map_cons, List.zip_map]
  have hzz : (((u :: (mx.take cu ++ [w])).zip (mx.take cu ++ [w])).map (Prod.map T.int T.int)).map (fun p => T.tup [p.1, p.2]) = ((u :: (mx.take cu ++ [w])).zip (mx.take cu ++ [w])).map prT := by rw [List.map_map]; rfl
  rw [hz, hzz] at hit
  have hmem : ∀ p ∈ (u :: (mx.take cu ++ [w])).zip (mx.take cu ++ [w]), p.1 ∈ order ∧ p.2 ∈ order := by
    intro p hp
    have h1 := (List.of_mem_zip (a := p.1) (b := p.2) hp)
    have ht : ∀ z ∈ mx.take cu ++ [w], z ∈ order := by
      intro z hz
      rcases List.mem_append.mp hz with hz | hz
      · exact hmx.mem_iff.mp (List.mem_of_mem_take hz)
      · have : z = w := by simpa using hz
        exact this ▸ heo w hw
    refine ⟨?_, ht _ h1.2⟩
    rcases List.mem_cons.mp h1.1 with h | h
    · exact h ▸ hbo u hu
    · exact ht _ h
  have hzl : ((u :: (mx.take cu ++ [w])).zip (mx.take cu ++ [w])).length ≤ 3 := by
    rw [List.length_zip]; simp; omega
  refine lc_fmG ne2 id hit hs'.closed (by simp; omega) ?_ ?_
  · intro t ht S2 Ky Kn hy hn
    obtain ⟨⟨p, q⟩, _, rfl⟩ := List.mem_map.mp ht
    simp only [prT_e] at hy hn
    simp [wipeD, hz2]
    by_cases hpq : p = q
    · simp [hpq] at hn ⊢; exact hn
    · simp [hpq] at hy ⊢; exact hy
  · rw [List.map_id, List.filter_map, ne2_p]
    generalize hZ : ((u :: (mx.take cu ++ [w])).zip (mx.take cu ++ [w])).filter (fun p => decide (p.1 ≠ p.2)) = Z
    have hZ1 : Z.length ≤ 3 := by rw [← hZ]; exact Nat.le_trans (List.length_filter_le _ _) hzl
    have hZ2 : ∀ p ∈ Z, p.1 ∈ order ∧ p.2 ∈ order ∧ p.1 ≠ p.2 := by
      intro p hp
      rw [← hZ] at hp
      obtain ⟨h1, h2⟩ := List.mem_filter.mp hp
      exact ⟨(hmem p h1).1, (hmem p h1).2, by simpa using h2⟩
    have hZ3 : 1 ≤ Z.length := by
      obtain ⟨p, hp, hpn⟩ := adj_diff (mx.take cu) u w (hne u hu w hw)
      rw [← hZ]
      exact List.length_pos_of_mem (List.mem_filter.mpr ⟨hp, by simpa using hpn⟩)
    refine extend_of hs'.atF (ys := (Z.map prT).map D.t) rfl (by simp; omega) ?_
    rw [hnx]
    refine ⟨b5, _, F ++ Z, some (.t x), some (.m (R'.length + 2)), rfl, by omega, ?_, by simp; omega, fun _ => by simp; omega, ?_, rfl⟩
    · have := hs'.setF (F.map prT ++ Z.map prT)
      rw [List.map_append] at this
      rw [List.map_append]
      exact this
    · intro p hp
      rcases List.mem_append.mp hp with hp | hp
      · exact hF2 p hp
      · exact hZ2 p hp
def I_two (R : Store) (b : Nat) (c : List (Option D)) (order : List Int) (G : List T) (k i : Nat) (ρ' : Env) (S' : Store) : Prop := ∃ (b' : Nat) (R' : Store) (F : List (Int × Int)) (o1 o2 o3 o4 : Option D), S' = st b' R' ∧ b ≤ b' + 110 * i ∧ HS R (F.map prT) G R' ∧ F.length ≤ k + i ∧ 1 ≤ F.length ∧ (∀ p ∈ F, p.1 ∈ order ∧ p.2 ∈ order ∧ p.1 ≠ p.2) ∧
  ρ' = c ++ [o1, o2, o3, o4, none, none, none, none, none, none]
theorem step_two {A : Str → Addr} {R : Store} {b k : Nat} {v1 v2 v3 v4 v7 v8 v9 v10 v11 v12 v13 v14 : Option D} {order : List Int} {G : List T} {De : DEnds}
    (hol : order.length ≤ 100) (hol2 : 2 ≤ order.length) (hon : order.Nodup) (hk : k ≤ 50) (hb : 1000 ≤ b)
    {i : Nat} {x : T} {ρ' : Env} {S' : Store} (hi : i < 3)
    (hI : I_two R b [some (.m 1), v1, v2, v3, v4, some (.t (.lst (order.map .int))), some (.m (R.length + 2)), v7, v8, v9, v10, v11, v12, v13, v14] order G k i ρ' S')
    (hnx : De.nx = I_two R b [some (.m 1), v1, v2, v3, v4, some (.t (.lst (order.map .int))), some (.m (R.length + 2)), v7, v8, v9, v10, v11, v12, v13, v14] order G k (i + 1)) :
    gVar 15 (.t x) De.ex ρ' S' fun ρ2 S2 => 
                    (sSeq
                      (sAsg
                        (dSl (dCall 2 (ft_law_mixed A) (dCons (dVar 0) (dCons (dVar 5) dNil))) dNoPart
                          (dPart (dC (V.int 2))))
                        (gTupD 2 (gConsD (gVar 17) (gConsD (gVar 18) gNilD))))
                      (sSeq
                        (sDrop
                          (dBM tyLst mAppend (dVar 6) (dCons (dTup (dCons (dVar 17) (dCons (dVar 18) dNil))) dNil)))
                        sNext)) De ρ2 S2 := by
  have hz1 : (100010 : Nat) ≤ sizeLine := by decide
  have hz2 : (2 : Nat) ≤ sizeLine := by omega
  obtain ⟨b', R', F, o1, o2, o3, o4, rfl, hb', hs, hF, hF1, hF2, rfl⟩ := hI
  simp
  refine ⟨b', _, _, _, rfl, rfl, by simp; omega, rfl, by simp; omega, fun us b3 hus hb3 => ?_⟩
  obtain ⟨mx, rfl, hmx⟩ := perm_ints hus
  have hml : mx.length = order.length := hmx.length_eq
  match mx, (by omega : 2 ≤ mx.length), hmx with
  | p :: q :: mx, _, hmx =>
    have hnd := hmx.nodup_iff.mpr hon
    have hpq : p ≠ q := fun e => (List.nodup_cons.mp hnd).1 (by simp [e])
    have hp : p ∈ order := hmx.mem_iff.mp (by simp)
    have hq : q ∈ order := hmx.mem_iff.mp (by simp)
    simp at hb3 hml
    simp [hz2]
    refine ⟨tyLst_m hs.atF, append_of hs.atF (by simp; omega) ?_⟩
    rw [hnx]
    refine ⟨b3, _, F ++ [(p, q)], some (.t x), o2, some (.int p), some (.int q), rfl, by omega, ?_, by simp; omega, by simp, ?_, rfl⟩
    · have := hs.setF (F.map prT ++ [prT (p, q)])
      rw [List.map_append] at this
      rw [List.map_append]
      exact this
    · intro r hr
      rcases List.mem_append.mp hr with hr | hr
      · exact hF2 r hr
      · have : r = (p, q) := by simpa using hr
        exact this ▸ ⟨hp, hq, hpq⟩
def I_road (R : Store) (b j : Nat) (c : List (Option D)) (order : List Int) (rk : Int → Nat) (F G : List T) (v20 : Option D) (i : Nat) (ρ' : Env) (S' : Store) : Prop := ∃ (b' : Nat) (R' : Store) (rows : List (List T)) (o1 o2 o3 o4 o5 : Option D), S' = st b' R' ∧ b ≤ b' + 10 * i ∧ HS R F G R' ∧ R'[j]? = some (.lst ((rows.map T.tup).map .t)) ∧ rows.length = i ∧ (∀ r ∈ rows, RowR (· ∈ order) rk r) ∧
  ρ' = c ++ [o1, o2, o3, o4, some (.m (j + 2)), v20, o5, none, none, none]
theorem step_road {A : Str → Addr} {R : Store} {b j n : Nat} {v1 v2 v3 v4 v5 v6 v7 v10 v11 v12 v13 v14 : Option D} {order rank : List Int} {long wide : Int} {F G : List T} {De : DEnds}
    (hj : R.length + 2 ≤ j) (hn : n ≤ 60) (hlo : 1 ≤ long ∧ long ≤ 5) (hwi : 1 ≤ wide ∧ wide ≤ 10) (hrk : rank.Perm order) (hb : 1000 ≤ b)
    {i : Nat} {p q : Int} (hp : p ∈ order) (hq : q ∈ order) (hpq : p ≠ q) {ρ' : Env} {S' : Store} (hi : i < n)
    (hI : I_road R b j [some (.m 1), v1, v2, v3, v4, v5, v6, v7, some (.int long), some (.int wide), v10, v11, v12, v13, v14] order (fun z => rank.idxOf z) F G (some (.t (.lst (rank.map .int)))) i ρ' S')
    (hnx : De.nx = I_road R b j [some (.m 1), v1, v2, v3, v4, v5, v6, v7, some (.int long), some (.int wide), v10, v11, v12, v13, v14] order (fun z => rank.idxOf z) F G (some (.t (.lst (rank.map .int)))) (i + 1)) :
    (gTupD 2 (gConsD (gVar 17) (gConsD (gVar 18) gNilD))) (.t (prT (p, q))) De.ex ρ' S' fun ρ2 S2 => 
                        (sSeq
                          (sAsg
                            (dCall 2 (ft_law_draw A) (dCons (dVar 0) (dCons (dOp oAdd (dVar 8) (dC (V.int 1))) dNil)))
                            (gVar 21))
                          (sSeq
                            (sAsg
                              (dIf
                                (dAndT (dB (dOp oEq (dVar 21) (dC (V.int 0))))
                                  (dB
                                    (dOp (oI0 fun i j => V.bl (decide (j < i)))
                                      (dBM tyLst mIndexT (dVar 20) (dCons (dVar 17) dNil))
                                      (dBM tyLst mIndexT (dVar 20) (dCons (dVar 18) dNil)))))
                                (dC (V.int 1)) (dVar 21))
                              (gVar 21))
                            (sSeq
                              (sDrop
                                (dBM tyLst mAppend (dVar 19)
                                  (dCons
                                    (dTup
                                      (dCons (dVar 17)
                                        (dCons (dVar 18)
                                          (dCons (dVar 21)
                                            (dCons
                                              (dOp oAdd (dC (V.int 1))
                                                (dCall 2 (ft_law_draw A) (dCons (dVar 0) (dCons (dVar 9) dNil))))
                                              dNil)))))
                                    dNil)))
                              sNext))) De ρ2 S2 := by
  have hz1 : (100010 : Nat) ≤ sizeLine := by decide
  have hz2 : (2 : Nat) ≤ sizeLine := by omega
  have hz4 : (4 : Nat) ≤ sizeLine := by omega
  obtain ⟨b', R', rows, o1, o2, o3, o4, o5, rfl, hb', hs, hj1, hrl, hrw, rfl⟩ := hI
  have hp' := hrk.mem_iff.mpr hp
  have hq' := hrk.mem_iff.mpr hq
  simp [hz2]
  refine draw_st (by omega) (by omega) (by omega) fun d1 b1 hd0 hd1 hd2 => ?_
  have fin : ∀ l : Int, 0 ≤ l → (l = 0 → rank.idxOf p < rank.idxOf q) → ∀ (w : Int) (b2 : Nat), 1 ≤ w → b1 ≤ b2 + 1 → mAppend (.m (j + 2)) [.t (.tup [.int p, .int q, .int l, .int w])] (st b2 R') fun _ S1 => De.nx ([some (.m 1), v1, v2, v3, v4, v5, v6, v7, some (.int long), some (.int wide), v10, v11, v12, v13, v14] ++ [o1, o2, some (.int p), some (.int q), some (.m (j + 2)), some (.t (.lst (rank.map .int))), some (.int l), none, none, none]) S1 := by
    intro l hl hlr w b2 hw hb2
    refine append_of (xs := (rows.map T.tup).map .t) (by rw [st_get]; exact hj1) (by simp; omega) ?_
    rw [hnx]
    have hjl : j < R'.length := (List.getElem?_eq_some_iff.mp hj1).1
    refine ⟨b2, R'.set j (.lst (((rows ++ [[T.int p, T.int q, T.int l, T.int w]]).map T.tup).map .t)), rows ++ [[.int p, .int q, .int l, .int w]], o1, o2, some (.int p), some (.int q), some (.int l), by rw [st_set]; simp, by omega, hs.setO hj _, List.getElem?_set_self hjl, by simp [hrl], ?_, rfl⟩
    intro r hr
    rcases List.mem_append.mp hr with hr | hr
    · exact hrw r hr
    · have : r = [.int p, .int q, .int l, .int w] := by simpa using hr
      subst this
      exact ⟨p, q, l, w, rfl, hp, hq, hpq, hl, hw, hlr⟩
  have htl : ∀ b2, tyLst (.m (j + 2)) (st b2 R') := fun b2 => tyLst_m (by rw [st_get]; exact hj1)
  rw [oEq_t (by simp) (by simp)]
  simp
  by_cases h0 : d1 = 0
  · subst h0
    simp
    refine index_ints hp' ?_
    refine index_ints hq' ?_
    simp [hz4, htl]
    by_cases hlt : rank.idxOf q < rank.idxOf p
    · simp [hlt]
      refine draw_st (by omega) (by omega) (by omega) fun d2 b2 _ _ _ => ?_
      simp [hz4]
      exact fin 1 (by omega) (by omega) (1 + d2) b2 (by omega) (by omega)
    · simp [hlt]
      refine draw_st (by omega) (by omega) (by omega) fun d2 b2 _ _ _ => ?_
      simp [hz4]
      refine fin 0 (by omega) (fun _ => ?_) (1 + d2) b2 (by omega) (by omega)
      have : rank.idxOf p ≠ rank.idxOf q := fun e => hpq (idx_inj hp' hq' e)
      omega
  · simp [h0, hz4, htl]
    refine draw_st (by omega) (by omega) (by omega) fun d2 b2 _ _ _ => ?_
    simp [hz4]
    exact fin d1 (by omega) (by omega) (1 + d2) b2 (by omega) (by omega)
theorem perm_of {α β : Type} (f : α → β) (g : β → α) (hg : ∀ x, g (f x) = x) {L : List α} {us : List β} (h : us.Perm (L.map f)) : ∃ M : List α, us = M.map f ∧ M.Perm L := by
  have e : (L.map f).map g = L := by rw [List.map_map]; simp [Function.comp_def, hg]
  refine ⟨us.map g, ?_, by have := h.map g; rwa [e] at this⟩
  have : ∀ u ∈ us, f (g u) = u := fun u hu => by
    obtain ⟨x, _, rfl⟩ := List.mem_map.mp (h.mem_iff.mp hu)
    rw [hg]
  rw [List.map_map]
  conv => lhs; rw [← List.map_id us]
  exact List.map_congr_left fun u hu => (this u hu).symm
def untup : T → List T
  | .tup ts => ts
  | _ => []
theorem RowOn.row {P : Int → Prop} {rk : Int → Nat} {r : List T} (h : RowOn P r) : RowR P rk r := by
  obtain ⟨a, b, l, w, rfl, h1, h2, h3, h4, h5⟩ := h
  exact ⟨a, b, l, w, rfl, h1, h2, h3, by omega, h5, fun e => by omega⟩
theorem step_cross {A : Str → Addr} {R R1 : Store} {b j fn : Nat} {many wide : Int} {v1 v3 v6 v7 v8 v10 v11 v12 v15 v16 v17 v18 v20 v21 : Option D} {order begins ends : List Int} {rk : Int → Nat} {F G : List T} {rows : List (List T)} {De : DEnds}
    (hj : R.length + 2 ≤ j) (hol : order.length = many.toNat) (hm : many ≤ 100) (hon : order.Nodup) (hbl : 1 ≤ begins.length) (hbl2 : begins.length ≤ 102) (hel : 1 ≤ ends.length) (hel2 : ends.length ≤ 102) (hbo : ∀ z ∈ begins, z ∈ order) (heo : ∀ z ∈ ends, z ∈ order) (hne : ∀ x ∈ begins, ∀ y ∈ ends, x ≠ y)
    (hwi : 1 ≤ wide ∧ wide ≤ 10) (hfn : fn ≤ 100) (hb : 1000 ≤ b) (hs : HS R F G R1) (hj1 : R1[j]? = some (.lst ((rows.map T.tup).map .t))) (hr1 : 1 ≤ rows.length) (hr2 : rows.length ≤ 21) (hrw : ∀ r ∈ rows, RowR (· ∈ order) rk r)
    (hK : ∀ (b' : Nat) (R' : Store) (j' : Nat) (rows' : List (List T)) (o : Option D), b ≤ b' + 500 → HS R F G R' → R.length + 2 ≤ j' → R'[j']? = some (.lst ((rows'.map T.tup).map .t)) → 1 ≤ rows'.length → rows'.length ≤ 30 → (∀ r ∈ rows', RowR (· ∈ order) rk r) →
      De.nx [some (.m 1), v1, some (.int fn), v3, some (.int many), some (.t (.lst (order.map .int))), v6, v7, v8, some (.int wide), v10, v11, v12, some (.t (.lst (begins.map .int))), some (.t (.lst (ends.map .int))), v15, v16, v17, v18, some (.m (j' + 2)), v20, v21, o, none, none] (st b' R')) :
            (sIf
              (dAndT (dB (dOp (oI0 fun i j => V.bl (decide (j < i))) (dVar 4) (dC (V.int 3))))
                (dAndT (dB (dOp (oI0 fun i j => V.bl (decide (j < i))) (dVar 2) (dC (V.int 4))))
                  (dB (dOp oEq (dCall 2 (ft_law_draw A) (dCons (dVar 0) (dCons (dC (V.int 2)) dNil))) (dC (V.int 0))))))
              (sSeq
                (sAsg
                  (dCall 5 (ft_law_stepping A)
                    (dCons (dVar 0)
                      (dCons (dCall 2 (ft_law_pick A) (dCons (dVar 0) (dCons (dVar 13) dNil)))
                        (dCons (dCall 2 (ft_law_pick A) (dCons (dVar 0) (dCons (dVar 14) dNil)))
                          (dCons (dVar 5) (dCons (dVar 9) dNil))))))
                  (gVar 22))
                (sSeq
                  (sAsg
                    (dCall 2 (ft_law_mixedM A)
                      (dCons (dVar 0)
                        (dCons
                          (dOp oAdd (dVar 22)
                            (dSl (dVar 19) dNoPart
                              (dPart
                                (dCall 2 (ft_law_draw A)
                                  (dCons (dVar 0)
                                    (dCons (dOp (oI0 fun i j => V.int (i - j)) (dVar 2) (dC (V.int 4))) dNil))))))
                          dNil)))
                    (gVar 19))
                  sNext))
              sNext) De [some (.m 1), v1, some (.int fn), v3, some (.int many), some (.t (.lst (order.map .int))), v6, v7, v8, some (.int wide), v10, v11, v12, some (.t (.lst (begins.map .int))), some (.t (.lst (ends.map .int))), v15, v16, v17, v18, some (.m (j + 2)), v20, v21, none, none, none] (st b R1) := by
  have hz1 : (100010 : Nat) ≤ sizeLine := by decide
  have hno : ∀ b1, b ≤ b1 + 500 → _ := fun b1 hb1 => hK b1 R1 j rows none hb1 hs hj hj1 hr1 (by omega) hrw
  simp
  by_cases h1 : 3 < many
  · by_cases h2 : 4 < (fn : Int)
    · simp [h1, h2]
      refine draw_st (by omega) (by omega) (by omega) fun d1 b1 _ _ _ => ?_
      rw [oEq_t (by simp) (by simp)]
      simp
      by_cases h3 : d1 = 0
      · simp [h3]
        refine ⟨b1, _, _, _, rfl, rfl, by omega, rfl, by simp; omega, by simp; omega, fun e b2 he hb2 => ?_⟩
        obtain ⟨u, rfl, hu⟩ : ∃ u : Int, e = .int u ∧ u ∈ begins := by
          have he : e ∈ begins.map fun z => D.int z := by simpa [Function.comp_def] using he
          obtain ⟨u, hu, rfl⟩ := List.mem_map.mp he
          exact ⟨u, rfl, hu⟩
        refine ⟨b2, _, _, _, rfl, rfl, by omega, rfl, by simp; omega, by simp; omega, fun e b3 he hb3 => ?_⟩
        obtain ⟨w, rfl, hw⟩ : ∃ u : Int, e = .int u ∧ u ∈ ends := by
          have he : e ∈ ends.map fun z => D.int z := by simpa [Function.comp_def] using he
          obtain ⟨u, hu, rfl⟩ := List.mem_map.mp he
          exact ⟨u, rfl, hu⟩
        refine ⟨b3, R1, u, w, wide, order, rfl, rfl, by omega, by omega, by omega, hon, by omega, by omega, hbo u hu, heo w hw, hne u hu w hw, fun rows5 b4 h5 hon5 hb4 => ?_⟩
        simp
        refine draw_st (by omega) (by omega) (by omega) fun d2 b5 _ _ _ => ?_
        obtain ⟨dn, rfl⟩ : ∃ n : Nat, d2 = n := ⟨d2.toNat, by omega⟩
        simp
        refine slD_m (by rw [st_get]; exact hj1) ?_
        rw [cutG_to, ← List.map_take]
        refine oAdd_s (xs := rows5.map .tup) (ys := (rows.take dn).map .tup) rfl rfl (by simp; omega) ?_
        rw [← List.map_append]
        have hlen : (rows5 ++ rows.take dn).length ≤ 26 := by simp; omega
        refine ⟨b5, R1, _, (rows5 ++ rows.take dn).map .tup, rfl, rfl, by rw [List.length_map]; omega, rfl, by rw [List.length_map]; omega, fun us b6 hus hb6 => ?_⟩
        obtain ⟨M, rfl, hM⟩ := perm_of T.tup untup (fun _ => rfl) hus
        have hMl := hM.length_eq
        rw [List.length_map] at hb6
        refine hK b6 _ R1.length M _ (by omega) (hs.app _) hs.len (by simp) (by rw [hMl]; simp; omega) (by omega) ?_
        intro r hr
        rcases List.mem_append.mp (hM.mem_iff.mp hr) with h | h
        · exact (hon5 r h).row
        · exact hrw r (List.mem_of_mem_take h)
      · simp [h3]
        exact hno b1 (by omega)
    · simp [h1, h2]
      exact hno b (by omega)
  · simp [h1]
    exact hno b (by omega)
theorem step_late {A : Str → Addr} {R R1 : Store} {b j : Nat} {v1 v2 v3 v4 v5 v6 v7 v8 v9 v10 v11 v12 v13 v14 v15 v16 v17 v18 v20 v21 v22 : Option D} {P : Int → Prop} {rk : Int → Nat} {F G : List T} {rows : List (List T)} {De : DEnds}
    (hj : R.length + 2 ≤ j) (hb : 1000 ≤ b) (hs : HS R F G R1) (hj1 : R1[j]? = some (.lst ((rows.map T.tup).map .t))) (hr1 : 1 ≤ rows.length) (hr2 : rows.length ≤ 30) (hrw : ∀ r ∈ rows, RowR P rk r)
    (hK : ∀ (b' : Nat) (R' : Store) (rows' : List (List T)) (o : Option D), b ≤ b' + 500 → HS R F G R' → R'[j]? = some (.lst ((rows'.map T.tup).map .t)) → 1 ≤ rows'.length → rows'.length ≤ 30 → (∀ r ∈ rows', RowR P rk r) →
      De.nx [some (.m 1), v1, v2, v3, v4, v5, v6, v7, v8, v9, v10, v11, v12, v13, v14, v15, v16, v17, v18, some (.m (j + 2)), v20, v21, v22, o, none] (st b' R')) :
              (sIf
                (dAndT
                  (dB (dOp oEq (dCall 2 (ft_law_draw A) (dCons (dVar 0) (dCons (dC (V.int 3)) dNil))) (dC (V.int 0))))
                  (dB (dOp (oI0 fun i j => V.bl (decide (j < i))) (dCB cLen (dCons (dVar 19) dNil)) (dC (V.int 2)))))
                (sSeq
                  (sAsg (dCall 2 (ft_law_draw A) (dCons (dVar 0) (dCons (dCB cLen (dCons (dVar 19) dNil)) dNil)))
                    (gVar 23))
                  (sSeq
                    (sAsg
                      (dTup
                        (dCons (dOp oIx (dOp oIx (dVar 19) (dVar 23)) (dC (V.int 0)))
                          (dCons (dOp oIx (dOp oIx (dVar 19) (dVar 23)) (dC (V.int 1)))
                            (dCons
                              (dOp oAdd (dC (V.int 6))
                                (dCall 2 (ft_law_draw A) (dCons (dVar 0) (dCons (dC (V.int 4)) dNil))))
                              (dCons (dOp oIx (dOp oIx (dVar 19) (dVar 23)) (dC (V.int 3))) dNil)))))
                      (gSubD (dVar 19) (dVar 23)))
                    sNext))
                sNext) De [some (.m 1), v1, v2, v3, v4, v5, v6, v7, v8, v9, v10, v11, v12, v13, v14, v15, v16, v17, v18, some (.m (j + 2)), v20, v21, v22, none, none] (st b R1) := by
  have hz1 : (100010 : Nat) ≤ sizeLine := by decide
  have hz4 : (4 : Nat) ≤ sizeLine := by omega
  have hno : ∀ b1, b ≤ b1 + 500 → _ := fun b1 hb1 => hK b1 R1 rows none hb1 hs hj1 hr1 (by omega) hrw
  have hjj : ∀ b', (st b' R1)[j + 2]? = some (.lst ((rows.map T.tup).map .t)) := fun b' => by rw [st_get]; exact hj1
  simp
  refine draw_st (by omega) (by omega) (by omega) fun d1 b1 _ _ _ => ?_
  rw [oEq_t (by simp) (by simp)]
  simp
  by_cases h3 : d1 = 0
  · simp [h3]
    rw [cLen_m (hjj b1)]
    simp
    by_cases h4 : 2 < (rows.length : Int)
    · simp [h4]
      rw [cLen_m (hjj b1)]
      simp
      refine draw_st (by omega) (by omega) (by omega) fun d2 b2 h5 h6 _ => ?_
      obtain ⟨n, rfl⟩ : ∃ n : Nat, d2 = n := ⟨d2.toNat, by omega⟩
      have hn : n < rows.length := by omega
      obtain ⟨p, q, l, w, hrow, hp, hq, hpq, hl, hw, hlr⟩ := hrw rows[n] (List.getElem_mem _)
      have hat : atI ((rows.map T.tup).map D.t) (n : Int) = some (.t (.tup [.int p, .int q, .int l, .int w])) := by
        rw [atI_nat]; simp [List.getElem?_eq_getElem hn, hrow]
      refine oIx_m (seqA_m (hjj b2)) hat ?_
      simp
      refine oIx_m (seqA_m (hjj b2)) hat ?_
      simp
      refine draw_st (by omega) (by omega) (by omega) fun d3 b3 _ _ _ => ?_
      simp
      refine oIx_m (seqA_m (hjj b3)) hat ?_
      simp [hz4]
      have hix : ixN ((rows.map T.tup).map D.t).length (n : Int) = some n := by
        unfold ixN
        simp
        omega
      refine subI_of (hjj b3) hix ?_
      have hset : ((rows.map T.tup).map D.t).set n (.t (.tup [.int p, .int q, .int (6 + d3), .int w])) = ((rows.set n [.int p, .int q, .int (6 + d3), .int w]).map T.tup).map D.t := by
        rw [List.map_set, List.map_set]
      rw [hset]
      refine hK b3 _ (rows.set n [.int p, .int q, .int (6 + d3), .int w]) (some (.int n)) (by omega) (hs.setO hj _) (List.getElem?_set_self (List.getElem?_eq_some_iff.mp hj1).1) (by simp; omega) (by simp; omega) ?_
      intro r hr
      rcases List.mem_or_eq_of_mem_set hr with hr | rfl
      · exact hrw r hr
      · exact ⟨p, q, 6 + d3, w, rfl, hp, hq, hpq, by omega, hw, fun e => by omega⟩
    · simp [h4]
      exact hno b1 (by omega)
  · simp [h3]
    exact hno b1 (by omega)
theorem step_some {A : Str → Addr} {R R1 : Store} {b j : Nat} {v1 v2 v3 v4 v5 v6 v8 v9 v10 v11 v12 v13 v14 v15 v16 v17 v18 v19 v20 v21 v22 v23 : Option D} {P P2 : Int → Prop} {F : List T} {rows G : List (List T)} {De : DEnds}
    (hj : R.length + 2 ≤ j) (hb : 1000 ≤ b) (hs : HS R F (G.map T.tup) R1) (hj1 : R1[j]? = some (.lst ((rows.map T.tup).map .t))) (hr1 : 2 ≤ G.length) (hr2 : G.length ≤ 102) (hrw : ∀ r ∈ G, DoorR P P2 r)
    (hK : ∀ (b' : Nat) (R' : Store) (G' : List (List T)) (o : Option D), b ≤ b' + 500 → HS R F (G'.map T.tup) R' → R'[j]? = some (.lst ((rows.map T.tup).map .t)) → 2 ≤ G'.length → G'.length ≤ 102 → (∀ r ∈ G', DoorR P P2 r) →
      De.nx [some (.m 1), v1, v2, v3, v4, v5, v6, some (.m (R.length + 2 + 1)), v8, v9, v10, v11, v12, v13, v14, v15, v16, v17, v18, v19, v20, v21, v22, o, none] (st b' R')) :
                (sIf
                  (dAndT
                    (dB (dOp oEq (dCall 2 (ft_law_draw A) (dCons (dVar 0) (dCons (dC (V.int 3)) dNil))) (dC (V.int 0))))
                    (dB (dOp (oI0 fun i j => V.bl (decide (j < i))) (dCB cLen (dCons (dVar 7) dNil)) (dC (V.int 2)))))
                  (sSeq
                    (sAsg
                      (dOp oAdd (dC (V.int 2))
                        (dCall 2 (ft_law_draw A)
                          (dCons (dVar 0)
                            (dCons (dOp (oI0 fun i j => V.int (i - j)) (dCB cLen (dCons (dVar 7) dNil)) (dC (V.int 2)))
                              dNil))))
                      (gVar 23))
                    (sSeq
                      (sAsg
                        (dTup
                          (dCons (dOp oIx (dOp oIx (dVar 7) (dVar 23)) (dC (V.int 0)))
                            (dCons (dOp oIx (dOp oIx (dVar 7) (dVar 23)) (dC (V.int 1)))
                              (dCons
                                (dOp oAdd (dC (V.int 3))
                                  (dCall 2 (ft_law_draw A) (dCons (dVar 0) (dCons (dC (V.int 7)) dNil))))
                                dNil))))
                        (gSubD (dVar 7) (dVar 23)))
                      sNext))
                  sNext) De [some (.m 1), v1, v2, v3, v4, v5, v6, some (.m (R.length + 2 + 1)), v8, v9, v10, v11, v12, v13, v14, v15, v16, v17, v18, v19, v20, v21, v22, v23, none] (st b R1) := by
  have hz1 : (100010 : Nat) ≤ sizeLine := by decide
  have hz3 : (3 : Nat) ≤ sizeLine := by omega
  have hno : ∀ b1, b ≤ b1 + 500 → _ := fun b1 hb1 => hK b1 R1 G v23 hb1 hs hj1 hr1 (by omega) hrw
  have hjj : ∀ b', (st b' R1)[R.length + 2 + 1]? = some (.lst ((G.map T.tup).map .t)) := fun b' => hs.atG
  simp
  refine draw_st (by omega) (by omega) (by omega) fun d1 b1 _ _ _ => ?_
  rw [oEq_t (by simp) (by simp)]
  simp
  by_cases h3 : d1 = 0
  · simp [h3]
    rw [cLen_m (hjj b1)]
    simp
    by_cases h4 : 2 < (G.length : Int)
    · simp [h4]
      rw [cLen_m (hjj b1)]
      simp
      refine draw_st (by omega) (by omega) (by omega) fun d2 b2 h5 h6 _ => ?_
      simp
      obtain ⟨n, hn0⟩ : ∃ n : Nat, 2 + d2 = n := ⟨(2 + d2).toNat, by omega⟩
      rw [hn0]
      have hn : n < G.length := by omega
      obtain ⟨s, p, l, hrow, hsp, hl⟩ := hrw G[n] (List.getElem_mem _)
      have hat : atI ((G.map T.tup).map D.t) (n : Int) = some (.t (.tup [.str s, .int p, .int l])) := by
        rw [atI_nat]; simp [List.getElem?_eq_getElem hn, hrow]
      refine oIx_m (seqA_m (hjj b2)) hat ?_
      simp
      refine oIx_m (seqA_m (hjj b2)) hat ?_
      simp
      refine draw_st (by omega) (by omega) (by omega) fun d3 b3 _ _ _ => ?_
      simp [hz3]
      have hix : ixN ((G.map T.tup).map D.t).length (n : Int) = some n := by
        unfold ixN
        simp
        omega
      refine subI_of (hjj b3) hix ?_
      have hset : ((G.map T.tup).map D.t).set n (.t (.tup [.str s, .int p, .int (3 + d3)])) = ((G.set n [.str s, .int p, .int (3 + d3)]).map T.tup).map D.t := by
        rw [List.map_set, List.map_set]
      rw [hset]
      refine hK b3 _ (G.set n [.str s, .int p, .int (3 + d3)]) (some (.int n)) (by omega) (hs.setG _) (by rw [List.getElem?_set_ne (by omega)]; exact hj1) (by simp; omega) (by simp; omega) ?_
      intro r hr
      rcases List.mem_or_eq_of_mem_set hr with hr | rfl
      · exact hrw r hr
      · exact ⟨s, p, 3 + d3, rfl, hsp, by omega⟩
    · simp [h4]
      exact hno b1 (by omega)
  · simp [h3]
    exact hno b1 (by omega)
theorem frz_three {n i j : Nat} {S : Store} {f : Nat} {a c : T} {ts : List T} (h : S[i]? = some (.tup [.t a, .m j, .t c])) (hi : n ≤ i) (hj : S[j]? = some (.lst (ts.map .t))) (hj2 : n ≤ j) : frz n S (f + 2) (.m i) = some (.tup [a, .lst ts, c]) := by
  unfold frz
  rw [h]
  show (if n ≤ i then (frzL n S (f + 1) [.t a, .m j, .t c]).map T.tup else none) = _
  rw [if_pos hi]
  have e2 : frz n S (f + 1) (.m j) = some (.lst ts) := frz_lst hj hj2
  have e1 : frz n S (f + 1) (.t a) = some a := by unfold frz; rfl
  have e3 : frz n S (f + 1) (.t c) = some c := by unfold frz; rfl
  unfold frzL
  rw [e1]
  unfold frzL
  rw [e2]
  unfold frzL
  rw [e3]
  unfold frzL
  rfl
theorem house_tail {A : Str → Addr} {Q : D → Store → Prop} {E : Ex → Prop} {b b11 : Nat} {R R1 : Store} {pl full drs many long wide late : Int} {cn : Nat} {order begins ends : List Int} {G : List (List T)} {o : Option D}
    (hc : ClosedS (st b R).length (st b R)) (hb : 10000 ≤ b11) (hp : 2 ≤ many ∧ many ≤ 100) (hf1 : 1 ≤ full) (hf2 : full ≤ 100) (hol : order.length = many.toNat) (hon : order.Nodup) (hom : ∀ z, z ∈ order → 0 ≤ z ∧ z < many)
    (hlo : 1 ≤ long ∧ long ≤ 5) (hwi : 1 ≤ wide ∧ wide ≤ 10) (hs1 : HS R [] (G.map T.tup) R1) (hGl1 : 2 ≤ G.length) (hGl : G.length ≤ 102) (hG1 : ∀ g ∈ G, DoorR (· ∈ order.take cn) (· ∈ order.drop cn) g)
    (hb1 : 1 ≤ begins.length) (hbl : begins.length ≤ 102) (hb2 : ∀ z, z ∈ begins → z ∈ order.take cn) (he1 : 1 ≤ ends.length) (hel : ends.length ≤ 102) (he2 : ∀ z, z ∈ ends → z ∈ order.drop cn)
    (q : ∀ (rs dr : List (List T)) (b' : Nat), RoadsOk many rs → DoorsOk many dr → 1 ≤ rs.length → rs.length ≤ 200 → 2 ≤ dr.length → dr.length ≤ 200 → b11 ≤ b' + 10000 → Q (D.t (T.tup [T.int many, T.lst (List.map T.tup rs), T.lst (List.map T.tup dr)])) (st b' R)) :
     ft_law_draw A [D.m 1, D.t (T.v (V.int 5))] (st b11 R1)
    (fun y S2 =>
      oAdd (D.t (T.v (V.int 2))) y S2 fun x S1 =>
        rng1I [x] S1 fun it S1 =>
          forI (gVar 15)
            (sSeq
              (sAsg
                (dOp oCatM (dLst (dCons (dCall 2 (ft_law_pick A) (dCons (dVar 0) (dCons (dVar 13) dNil))) dNil))
                  (dSl (dCall 2 (ft_law_mixed A) (dCons (dVar 0) (dCons (dVar 5) dNil))) dNoPart
                    (dPart
                      (dCall 2 (ft_law_pick A)
                        (dCons (dVar 0)
                          (dCons
                            (dLst
                              (dCons (dC (V.int 0))
                                (dCons (dC (V.int 0))
                                  (dCons (dC (V.int 1)) (dCons (dC (V.int 1)) (dCons (dC (V.int 2)) dNil))))))
                            dNil))))))
                (gVar 16))
              (sSeq
                (sDrop
                  (dBM tyLst mAppend (dVar 16)
                    (dCons (dCall 2 (ft_law_pick A) (dCons (dVar 0) (dCons (dVar 14) dNil))) dNil)))
                (sSeq
                  (sDrop
                    (dBM tyLst mExtend (dVar 6)
                      (dCons
                        (dLc (iZipD (dCons (dVar 16) (dCons (dSl (dVar 16) (dPart (dC (V.int 1))) dNoPart) dNil)))
                          (gTupD 2 (gConsD (gVar 17) (gConsD (gVar 18) gNilD))) (dB (dOp oNe (dVar 17) (dVar 18)))
                          (dTup (dCons (dVar 17) (dCons (dVar 18) dNil))) [17, 18])
                        dNil)))
                  sNext)))
            {
              nx :=
                sSeq
                  (sFor (iRange1 (dCons (dCall 2 (ft_law_draw A) (dCons (dVar 0) (dCons (dC (V.int 3)) dNil))) dNil))
                    (gVar 15)
                    (sSeq
                      (sAsg
                        (dSl (dCall 2 (ft_law_mixed A) (dCons (dVar 0) (dCons (dVar 5) dNil))) dNoPart
                          (dPart (dC (V.int 2))))
                        (gTupD 2 (gConsD (gVar 17) (gConsD (gVar 18) gNilD))))
                      (sSeq
                        (sDrop
                          (dBM tyLst mAppend (dVar 6) (dCons (dTup (dCons (dVar 17) (dCons (dVar 18) dNil))) dNil)))
                        sNext)))
                  (sSeq
                    (sPar 19 20
                      (dCons (dLstM dNil)
                        (dCons
                          (dCall 2 (ft_law_pick A)
                            (dCons (dVar 0)
                              (dCons
                                (dLst
                                  (dCons (dVar 5)
                                    (dCons (dVar 5)
                                      (dCons (dCall 2 (ft_law_mixed A) (dCons (dVar 0) (dCons (dVar 5) dNil))) dNil))))
                                dNil)))
                          dNil)))
                    (sSeq
                      (sFor (iSeq (dSl (dVar 6) dNoPart (dPart (dVar 2))))
                        (gTupD 2 (gConsD (gVar 17) (gConsD (gVar 18) gNilD)))
                        (sSeq
                          (sAsg
                            (dCall 2 (ft_law_draw A) (dCons (dVar 0) (dCons (dOp oAdd (dVar 8) (dC (V.int 1))) dNil)))
                            (gVar 21))
                          (sSeq
                            (sAsg
                              (dIf
                                (dAndT (dB (dOp oEq (dVar 21) (dC (V.int 0))))
                                  (dB
                                    (dOp (oI0 fun i j => V.bl (decide (j < i)))
                                      (dBM tyLst mIndexT (dVar 20) (dCons (dVar 17) dNil))
                                      (dBM tyLst mIndexT (dVar 20) (dCons (dVar 18) dNil)))))
                                (dC (V.int 1)) (dVar 21))
                              (gVar 21))
                            (sSeq
                              (sDrop
                                (dBM tyLst mAppend (dVar 19)
                                  (dCons
                                    (dTup
                                      (dCons (dVar 17)
                                        (dCons (dVar 18)
                                          (dCons (dVar 21)
                                            (dCons
                                              (dOp oAdd (dC (V.int 1))
                                                (dCall 2 (ft_law_draw A) (dCons (dVar 0) (dCons (dVar 9) dNil))))
                                              dNil)))))
                                    dNil)))
                              sNext))))
                      (sSeq
                        (sIf
                          (dAndT (dB (dOp (oI0 fun i j => V.bl (decide (j < i))) (dVar 4) (dC (V.int 3))))
                            (dAndT (dB (dOp (oI0 fun i j => V.bl (decide (j < i))) (dVar 2) (dC (V.int 4))))
                              (dB
                                (dOp oEq (dCall 2 (ft_law_draw A) (dCons (dVar 0) (dCons (dC (V.int 2)) dNil)))
                                  (dC (V.int 0))))))
                          (sSeq
                            (sAsg
                              (dCall 5 (ft_law_stepping A)
                                (dCons (dVar 0)
                                  (dCons (dCall 2 (ft_law_pick A) (dCons (dVar 0) (dCons (dVar 13) dNil)))
                                    (dCons (dCall 2 (ft_law_pick A) (dCons (dVar 0) (dCons (dVar 14) dNil)))
                                      (dCons (dVar 5) (dCons (dVar 9) dNil))))))
                              (gVar 22))
                            (sSeq
                              (sAsg
                                (dCall 2 (ft_law_mixedM A)
                                  (dCons (dVar 0)
                                    (dCons
                                      (dOp oAdd (dVar 22)
                                        (dSl (dVar 19) dNoPart
                                          (dPart
                                            (dCall 2 (ft_law_draw A)
                                              (dCons (dVar 0)
                                                (dCons (dOp (oI0 fun i j => V.int (i - j)) (dVar 2) (dC (V.int 4)))
                                                  dNil))))))
                                      dNil)))
                                (gVar 19))
                              sNext))
                          sNext)
                        (sSeq
                          (sIf
                            (dAndT
                              (dB
                                (dOp oEq (dCall 2 (ft_law_draw A) (dCons (dVar 0) (dCons (dC (V.int 3)) dNil)))
                                  (dC (V.int 0))))
                              (dB
                                (dOp (oI0 fun i j => V.bl (decide (j < i))) (dCB cLen (dCons (dVar 19) dNil))
                                  (dC (V.int 2)))))
                            (sSeq
                              (sAsg
                                (dCall 2 (ft_law_draw A)
                                  (dCons (dVar 0) (dCons (dCB cLen (dCons (dVar 19) dNil)) dNil)))
                                (gVar 23))
                              (sSeq
                                (sAsg
                                  (dTup
                                    (dCons (dOp oIx (dOp oIx (dVar 19) (dVar 23)) (dC (V.int 0)))
                                      (dCons (dOp oIx (dOp oIx (dVar 19) (dVar 23)) (dC (V.int 1)))
                                        (dCons
                                          (dOp oAdd (dC (V.int 6))
                                            (dCall 2 (ft_law_draw A) (dCons (dVar 0) (dCons (dC (V.int 4)) dNil))))
                                          (dCons (dOp oIx (dOp oIx (dVar 19) (dVar 23)) (dC (V.int 3))) dNil)))))
                                  (gSubD (dVar 19) (dVar 23)))
                                sNext))
                            sNext)
                          (sSeq
                            (sIf
                              (dAndT
                                (dB
                                  (dOp oEq (dCall 2 (ft_law_draw A) (dCons (dVar 0) (dCons (dC (V.int 3)) dNil)))
                                    (dC (V.int 0))))
                                (dB
                                  (dOp (oI0 fun i j => V.bl (decide (j < i))) (dCB cLen (dCons (dVar 7) dNil))
                                    (dC (V.int 2)))))
                              (sSeq
                                (sAsg
                                  (dOp oAdd (dC (V.int 2))
                                    (dCall 2 (ft_law_draw A)
                                      (dCons (dVar 0)
                                        (dCons
                                          (dOp (oI0 fun i j => V.int (i - j)) (dCB cLen (dCons (dVar 7) dNil))
                                            (dC (V.int 2)))
                                          dNil))))
                                  (gVar 23))
                                (sSeq
                                  (sAsg
                                    (dTup
                                      (dCons (dOp oIx (dOp oIx (dVar 7) (dVar 23)) (dC (V.int 0)))
                                        (dCons (dOp oIx (dOp oIx (dVar 7) (dVar 23)) (dC (V.int 1)))
                                          (dCons
                                            (dOp oAdd (dC (V.int 3))
                                              (dCall 2 (ft_law_draw A) (dCons (dVar 0) (dCons (dC (V.int 7)) dNil))))
                                            dNil))))
                                    (gSubD (dVar 7) (dVar 23)))
                                  sNext))
                              sNext)
                            (sSeq
                              (sRet
                                (dTupM
                                  (dCons (dVar 4)
                                    (dCons (dVar 19)
                                      (dCons (dCall 2 (ft_law_mixed A) (dCons (dVar 0) (dCons (dVar 7) dNil))) dNil)))))
                              sNext))))))
                  (endsOf Mode.tree (st b R) Q E),
              rt := rTree (List.length R + 2) Q, bk := (endsOf Mode.tree (st b R) Q E).bk,
              ct := (endsOf Mode.tree (st b R) Q E).ct, ex := (endsOf Mode.tree (st b R) Q E).ex }
            [some (D.m 1), some (D.int pl), some (D.int full), some (D.int drs), some (D.int many),
              some (D.t (T.lst (List.map T.int order))), some (D.m (List.length R + 2)),
              some (D.m (List.length R + 2 + 1)), some (D.int long), some (D.int wide), some (D.int late),
              some (D.int ↑cn), o, some (D.t (T.lst (List.map T.int begins))), some (D.t (T.lst (List.map T.int ends))),
              none, none, none, none, none, none, none, none, none, none]
            it S1)
    fun e => (endsOf Mode.tree (st b R) Q E).ex e (st b11 R1) := by
  have hz1 : (100010 : Nat) ≤ sizeLine := by decide
  have hz4 : (4 : Nat) ≤ sizeLine := by omega
  have hz3 : (3 : Nat) ≤ sizeLine := by omega
  have hz2 : (2 : Nat) ≤ sizeLine := by omega
  have hz5 : (5 : Nat) ≤ sizeLine := by omega
  have hz0 : (1 : Nat) ≤ sizeLine := by omega
  have hdis : ∀ z, z ∈ order.take cn → z ∈ order.drop cn → False := by
    intro z h1 h2
    have h := hon
    rw [← List.take_append_drop cn order] at h
    exact (List.nodup_append.mp h).2.2 z h1 z h2 rfl
  have hbo : ∀ z ∈ begins, z ∈ order := fun z hz => List.mem_of_mem_take (hb2 z hz)
  have heo : ∀ z ∈ ends, z ∈ order := fun z hz => List.mem_of_mem_drop (he2 z hz)
  have hne : ∀ x ∈ begins, ∀ y ∈ ends, x ≠ y := fun x hx y hy e => hdis x (hb2 x hx) (e ▸ he2 y hy)
  refine draw_st (by omega) (by omega) (by omega) fun d5 b12 _ _ _ => ?_
  simp
  refine ⟨2 + d5, rfl, by omega, by omega, ?_⟩
  refine for_T2 dInts_T (I_line R b12 [some (D.m 1), some (D.int pl), some (D.int full), some (D.int drs), some (D.int many), some (D.t (T.lst (List.map T.int order))), some (D.m (List.length R + 2)), some (D.m (List.length R + 2 + 1)), some (D.int long), some (D.int wide), some (D.int late), some (D.int ↑cn), o, some (D.t (T.lst (List.map T.int begins))), some (D.t (T.lst (List.map T.int ends)))] order (G.map .tup))
    ⟨b12, R1, [], none, none, rfl, by omega, hs1, by simp, by omega, by simp, rfl⟩ ?_ ?_
  · intro i x ρ' S' De' hDe hx hI
    have hi : i < 7 := by have := (List.getElem?_eq_some_iff.mp hx).1; simp at this; omega
    exact step_line (n := 7) (by omega) (by omega) hb1 hbl he1 hel hbo heo hne (by omega) hi hI hDe
  · rintro ρ' S' ⟨b13, R2, F, o1, o2, rfl, hb13, hs2, hF, hF1, hF2, rfl⟩
    simp at hb13 hF hF1
    have hF1 := hF1 (by omega)
    have hb13' : b12 ≤ b13 + 660 := by omega
    have hFl : F.length ≤ 18 := by omega
    clear hF hb13
    simp
    refine draw_st (by omega) (by omega) (by omega) fun d6 b14 _ _ _ => ?_
    refine ⟨d6, rfl, by omega, by omega, ?_⟩
    refine for_T2 dInts_T (I_two R b14 [some (D.m 1), some (D.int pl), some (D.int full), some (D.int drs), some (D.int many), some (D.t (T.lst (List.map T.int order))), some (D.m (List.length R + 2)), some (D.m (List.length R + 2 + 1)), some (D.int long), some (D.int wide), some (D.int late), some (D.int ↑cn), o, some (D.t (T.lst (List.map T.int begins))), some (D.t (T.lst (List.map T.int ends)))] order (G.map .tup) 18)
      ⟨b14, R2, F, o1, o2, none, none, rfl, by omega, hs2, by omega, by omega, hF2, rfl⟩ ?_ ?_
    · intro i x ρ' S' De' hDe hx hI
      have hi : i < 3 := by have := (List.getElem?_eq_some_iff.mp hx).1; simp at this; omega
      exact step_two (by omega) (by omega) hon (by omega) (by omega) hi hI hDe
    · rintro ρ' S' ⟨b15, R3, F, o1, o2, o3, o4, rfl, hb15, hs3, hF, hF1, hF2, rfl⟩
      simp at hb15 hF
      have hb15' : b14 ≤ b15 + 330 := by omega
      have hFl : F.length ≤ 21 := by omega
      clear hF hb15
      simp
      refine ⟨b15, _, _, _, rfl, rfl, by simp; omega, rfl, by simp; omega, fun us b16 hus hb16 => ?_⟩
      obtain ⟨mx, rfl, hmx⟩ := perm_ints hus
      simp at hb16
      simp [hz3]
      refine ⟨b16, _, _, _, rfl, rfl, by omega, rfl, by simp, by simp, fun e b17 he hb17 => ?_⟩
      obtain ⟨rank, rfl, hrk⟩ : ∃ rank : List Int, e = .t (.lst (rank.map .int)) ∧ rank.Perm order := by
        simp at he
        rcases he with rfl | rfl
        · exact ⟨order, rfl, .refl _⟩
        · exact ⟨mx, rfl, hmx⟩
      obtain ⟨fn, rfl⟩ : ∃ n : Nat, full = n := ⟨full.toNat, by omega⟩
      have hs4 := hs3.app []
      refine slD_m hs4.atF ?_
      rw [cutG_to, ← List.map_take]
      refine itT_x (ts := (F.take fn).map prT) rfl fun it hit => ?_
      refine for_T2 hit (I_road R b17 R3.length [some (D.m 1), some (D.int pl), some (D.int fn), some (D.int drs), some (D.int many), some (D.t (T.lst (List.map T.int order))), some (D.m (List.length R + 2)), some (D.m (List.length R + 2 + 1)), some (D.int long), some (D.int wide), some (D.int late), some (D.int ↑cn), o, some (D.t (T.lst (List.map T.int begins))), some (D.t (T.lst (List.map T.int ends)))] order (fun z => rank.idxOf z) (F.map prT) (G.map .tup) (some (.t (.lst (rank.map .int)))))
        ⟨b17, _, [], o1, o2, o3, o4, none, rfl, by omega, hs4, by simp, rfl, by simp, rfl⟩ ?_ ?_
      · intro i x ρ' S' De' hDe hx hI
        obtain ⟨hlt, hx2⟩ := List.getElem?_eq_some_iff.mp hx
        have hxm : x ∈ (F.take fn).map prT := hx2 ▸ List.getElem_mem _
        obtain ⟨p, hpm, rfl⟩ := List.mem_map.mp hxm
        obtain ⟨h1, h2, h3⟩ := hF2 p (List.mem_of_mem_take hpm)
        exact step_road (n := 60) hs3.len (by omega) hlo hwi hrk (by omega) h1 h2 h3 (by simp at hlt; omega) hI hDe
      · rintro ρ' S' ⟨b18, R4, rows, o1, o2, o3, o4, o5, rfl, hb18, hs5, hj5, hrl, hrw, rfl⟩
        have hrl1 : 1 ≤ rows.length := by rw [hrl]; simp; omega
        have hrl2 : rows.length ≤ 21 := by rw [hrl]; simp; omega
        have hb18' : b17 ≤ b18 + 210 := by simp at hb18; omega
        clear hb18 hrl hit hus
        have hbud : b11 ≤ b18 + 1700 := by omega
        simp only [List.cons_append, List.nil_append]
        refine step_cross (b := b18) hs3.len hol (by omega) hon hb1 hbl he1 hel hbo heo hne hwi (by omega) (by omega) hs5 hj5 hrl1 hrl2 hrw ?_
        intro b19 R5 j rows1 o6 hb19 hs6 hj hj6 hr1 hr2 hrw1
        refine step_late (b := b19) (P := (· ∈ order)) hj (by omega) hs6 hj6 hr1 hr2 hrw1 ?_
        intro b20 R6 rows2 o7 hb20 hs7 hj7 hr3 hr4 hrw2
        refine step_some (b := b20) hj (by omega) hs7 hj7 hGl1 hGl hG1 ?_
        intro b21 R7 G2 o8 hb21 hs8 hj8 hg1 hg2 hgw
        simp
        refine ⟨b21, R7, _, G2.map T.tup, rfl, rfl, by simp; omega, seqA_m hs8.atG, by simp; omega, fun us b22 hus hb22 => ?_⟩
        obtain ⟨M, rfl, hM⟩ := perm_of T.tup untup (fun _ => rfl) hus
        have hMl := hM.length_eq
        rw [List.length_map] at hb22
        have hjl : j < R7.length := (List.getElem?_eq_some_iff.mp hj8).1
        have hfz : frz (R.length + 2) (st b22 R7 ++ [Cell.tup [D.int many, D.m (j + 2), .t (.lst (M.map .tup))]]) ((st b22 R7 ++ [Cell.tup [D.int many, D.m (j + 2), .t (.lst (M.map .tup))]]).length + 1) (.m (st b22 R7).length) = some (.tup [.int many, .lst (rows2.map .tup), .lst (M.map .tup)]) := by
          have hl : (st b22 R7 ++ [Cell.tup [D.int many, D.m (j + 2), .t (.lst (M.map .tup))]]).length + 1 = (R7.length + 2) + 2 := by simp
          rw [hl]
          refine frz_three (j := j + 2) ?_ ?_ ?_ ?_
          · rw [List.getElem?_append_right (Nat.le_refl _)]; simp
          · simp; have := hs8.len; omega
          · rw [List.getElem?_append_left (by simp; omega), st_get]; exact hj8
          · omega
        refine ⟨hz3, rTree_of (S0 := st b22 R) hfz ?_ (st_closed hc) (q rows2 M b22 ⟨fun z => rank.idxOf z, ?_⟩ ⟨(· ∈ order.take cn), (· ∈ order.drop cn), fun z hz => hom z (List.mem_of_mem_take hz), fun z hz => hom z (List.mem_of_mem_drop hz), hdis, fun r hr => hgw r (hM.mem_iff.mp hr)⟩ hr3 (by omega) (by omega) (by omega) (by omega))⟩
        · show (st b22 R7 ++ _).take (R.length + 2) = _
          rw [List.take_append_of_le_length (by simp; omega), st_take, hs8.pre]
        · intro r hr
          obtain ⟨x, y, l, w, rfl, h1, h2, h3⟩ := hrw2 r hr
          exact ⟨x, y, l, w, rfl, hom x h1, hom y h2, h3⟩
theorem math_law_house (A : Str → Addr) : ∀ (ds : List D) (S : Store) (Q : D → Store → Prop) (E : Ex → Prop), ClosedS S.length S → ds.length = 4 → ft_law_house A ds S Q E → rd_law_house A (endsOf .tree S Q E) (startD 25 ds) S := by
  rintro ds S Q E hc _ ⟨b, R, pl, full, drs, rfl, rfl, hb, hp1, hp2, hf1, hf2, hd1, hd2, q⟩
  unfold costH at hb q
  have hz1 : (100010 : Nat) ≤ sizeLine := by decide
  have hz4 : (4 : Nat) ≤ sizeLine := by omega
  have hz3 : (3 : Nat) ≤ sizeLine := by omega
  have hz2 : (2 : Nat) ≤ sizeLine := by omega
  have hz5 : (5 : Nat) ≤ sizeLine := by omega
  have hz0 : (1 : Nat) ≤ sizeLine := by omega
  simp only [rd_law_house]
  simp
  refine draw_st (by omega) (by omega) (by omega) fun d1 b1 _ _ _ => ?_
  refine draw_st (by omega) (by omega) (by omega) fun d2 b2 _ _ _ => ?_
  simp
  generalize hmany : (2 + if d1 < d2 then d2 else d1) = many
  have hm1 : 2 ≤ many ∧ many ≤ pl := by rw [← hmany]; split <;> omega
  refine ⟨by omega, by omega, ?_⟩
  refine ⟨b2, R, _, (List.range many.toNat).map fun i : Nat => .int i, rfl, rfl, by simp; omega, rfl, by simp; omega, fun us b3 hus hb3 => ?_⟩
  obtain ⟨order, rfl, hord⟩ := perm_ints (us := us) (L := (List.range many.toNat).map fun i : Nat => (i : Int)) (by rw [List.map_map]; exact hus)
  have hol : order.length = many.toNat := by have := hord.length_eq; simpa using this
  have hrn : ((List.range many.toNat).map fun i : Nat => (i : Int)).Nodup := List.Pairwise.map _ (fun a b h e => h (by omega)) List.nodup_range
  have hon : order.Nodup := hord.nodup_iff.mpr hrn
  have hom : ∀ z, z ∈ order → 0 ≤ z ∧ z < many := fun z hz => by
    have := hord.mem_iff.mp hz
    simp at this
    omega
  simp at hb3
  try simp [hz4, hz3, hz2, hz5, hz0]
  refine ⟨b3, _, _, _, rfl, rfl, by omega, rfl, by simp, by simp, fun e b4 he hb4 => ?_⟩
  obtain ⟨long, rfl, hlo⟩ : ∃ v : Int, e = .int v ∧ 1 ≤ v ∧ v ≤ 5 := by
    simp at he
    rcases he with rfl | rfl | rfl | rfl <;> exact ⟨_, rfl, by omega, by omega⟩
  try simp [hz4, hz3, hz2, hz5, hz0]
  refine ⟨b4, _, _, _, rfl, rfl, by omega, rfl, by simp, by simp, fun e b5 he hb5 => ?_⟩
  obtain ⟨wide, rfl, hwi⟩ : ∃ v : Int, e = .int v ∧ 1 ≤ v ∧ v ≤ 10 := by
    simp at he
    rcases he with rfl | rfl | rfl | rfl <;> exact ⟨_, rfl, by omega, by omega⟩
  try simp [hz4, hz3, hz2, hz5, hz0]
  refine ⟨b5, _, _, _, rfl, rfl, by omega, rfl, by simp, by simp, fun e b6 he hb6 => ?_⟩
  obtain ⟨late, rfl, hla⟩ : ∃ v : Int, e = .int v ∧ 1 ≤ v ∧ v ≤ 3 := by
    simp at he
    rcases he with rfl | rfl | rfl <;> exact ⟨_, rfl, by omega, by omega⟩
  try simp [hz4, hz3, hz2, hz5, hz0]
  refine draw_st (by omega) (by omega) (by omega) fun d3 b7 _ _ _ => ?_
  try simp [hz4, hz3, hz2, hz5, hz0]
  refine ⟨wide_div (b := 10) (by omega) (by omega) (by omega) (by omega), wide_div (b := 10) (by omega) (by omega) (by omega) (by omega), ?_⟩
  refine ⟨b7, _, _, _, rfl, rfl, by omega, rfl, by simp, by simp, fun e b8 he hb8 => ?_⟩
  obtain ⟨cut, rfl, hcu⟩ : ∃ v : Int, e = .int v ∧ 1 ≤ v ∧ v ≤ many - 1 := by
    simp at he
    rcases he with rfl | rfl | rfl <;> exact ⟨_, rfl, by omega, by omega⟩
  obtain ⟨cn, rfl⟩ : ∃ n : Nat, cut = n := ⟨cut.toNat, by omega⟩
  refine draw_st (by omega) (by omega) (by omega) fun d4 b9 _ _ _ => ?_
  have HS0 : HS R [] [] (R ++ [.lst [], .lst []]) := ⟨by simp, by simp, by rw [List.getElem?_append_right (Nat.le_refl _)]; simp, by rw [List.getElem?_append_right (by omega)]; simp, by
    have h1 := ((closed_st.mp hc).2).app (c := .lst ([].map D.t)) refC_lst
    have h2 := ClosedR.app (R := R ++ [.lst []]) h1 (c := .lst ([].map D.t)) refC_lst
    simpa using h2⟩
  have cl0 : ∀ b', ClosedS (st b' (R ++ [.lst [], .lst []])).length (st b' (R ++ [.lst [], .lst []])) := fun b' => HS0.closed
  refine ⟨d4, rfl, by omega, by omega, ?_⟩
  refine lc_st (fun _ u => u = .str "in" ∨ u = .str "out") (fun _ => 1) dInts_T (cl0 b9) (by simp; omega) (by rw [sum_c]; simp; omega) ?_ ?_
  · intro t ht bb c Ky hbb hk
    simp [wipeD, hz2]
    refine ⟨bb, _, _, _, rfl, rfl, hbb, rfl, by simp, by simp, fun e b' he hb' => ?_⟩
    simp at he
    rcases he with rfl | rfl
    · simpa using hk _ _ (.inl rfl) hb'
    · simpa using hk _ _ (.inr rfl) hb'
  · intro sorts b10 hso hb10
    have hsl : sorts.length = d4.toNat := by rw [← Paired.length hso]; simp
    have hsm : ∀ u ∈ sorts, u = .str "in" ∨ u = .str "out" := paired_all (p := fun u => u = .str "in" ∨ u = .str "out") hso fun _ _ r => r
    rw [sum_c] at hb10
    simp at hb10
    simp [show 2 + sorts.length ≤ sizeLine by omega]
    have hoi : (("out" : Str) == "in") = false := by decide +kernel
    refine itT_x (ts := T.v (V.str "in") :: T.v (V.str "out") :: sorts) rfl fun it hit => ?_
    refine for_T hit (I_some R b10 [some (.m 1), some (.int pl), some (.int full), some (.int drs), some (.int many), some (.t (.lst (order.map .int))), some (.m (R.length + 2)), some (.m (R.length + 2 + 1)), some (.int long), some (.int wide), some (.int late), some (.int cn)] (· ∈ order.take cn) (· ∈ order.drop cn))
      ⟨b10, _, [], none, rfl, by omega, HS0, rfl, by simp, by omega, by omega, rfl⟩ ?_ ?_
    · rintro i x ρ' S' hx ⟨b', R', G, o, rfl, hb', hs, hG, hG1, hG2, hG3, rfl⟩
      have hil : i < 2 + sorts.length := by have := (List.getElem?_eq_some_iff.mp hx).1; simp at this; omega
      have hx' : x = .str "in" ∨ x = .str "out" := by
        have := List.mem_of_getElem? hx
        simp only [List.mem_cons] at this
        rcases this with h | h | h
        · exact .inl h
        · exact .inr h
        · exact hsm x h
      have hxi : i = 0 → x = .str "in" := fun h => by subst h; simpa using hx.symm
      have hxo : i = 1 → x = .str "out" := fun h => by subst h; simpa using hx.symm
      have fin : ∀ (s : Str) (u k : Int) (b'' : Nat), x = .str s → ((s = "in" ∧ u ∈ order.take cn) ∨ (s = "out" ∧ u ∈ order.drop cn)) → 0 ≤ k → b' ≤ b'' + 2 → mAppend (.m (R.length + 2 + 1)) [.t (.tup [.str s, .int u, .int k])] (st b'' R') fun _ S1 =>
          I_some R b10 [some (.m 1), some (.int pl), some (.int full), some (.int drs), some (.int many), some (.t (.lst (order.map .int))), some (.m (R.length + 2)), some (.m (R.length + 2 + 1)), some (.int long), some (.int wide), some (.int late), some (.int cn)] (· ∈ order.take cn) (· ∈ order.drop cn) (i + 1)
            [some (.m 1), some (.int pl), some (.int full), some (.int drs), some (.int many), some (.t (.lst (order.map .int))), some (.m (R.length + 2)), some (.m (R.length + 2 + 1)), some (.int long), some (.int wide), some (.int late), some (.int cn), some (.t x), none, none, none, none, none, none, none, none, none, none, none, none] S1 := by
        intro s u k b'' hxs hsu hk hb''
        refine append_of hs.atG (by simp; omega) ?_
        refine ⟨b'', R'.set (R.length + 1) (.lst (((G ++ [[T.str s, T.int u, T.int k]]).map T.tup).map .t)), G ++ [[T.str s, T.int u, T.int k]], some (.t x), ?_, by omega, hs.setG _, by simp [hG], ?_, ?_, ?_, rfl⟩
        · show (st b'' R').set ((R.length + 1) + 2) _ = _
          rw [st_set]
          simp
        · intro g hg
          rcases List.mem_append.mp hg with hg | hg
          · exact hG1 g hg
          · have : g = [.str s, .int u, .int k] := by simpa using hg
            subst this
            exact ⟨s, u, k, rfl, hsu, hk⟩
        · intro _
          by_cases hi : i = 0
          · have e := hxi hi
            rw [hxs] at e
            have e : s = "in" := by simpa using e
            subst e
            exact ⟨_, by simp, u, k, rfl⟩
          · obtain ⟨g, hg, h⟩ := hG2 (by omega)
            exact ⟨g, by simp [hg], h⟩
        · intro _
          by_cases hi : i = 1
          · have e := hxo hi
            rw [hxs] at e
            have e : s = "out" := by simpa using e
            subst e
            exact ⟨_, by simp, u, k, rfl⟩
          · obtain ⟨g, hg, h⟩ := hG3 (by omega)
            exact ⟨g, by simp [hg], h⟩
      rcases hx' with rfl | rfl
      · simp [tyLst_m hs.atG, strOk_in, hz3]
        refine ⟨b', _, _, _, rfl, rfl, by omega, rfl, by simp; omega, by simp; omega, fun e b'' he hb'' => ?_⟩
        obtain ⟨u, rfl, hu⟩ : ∃ u : Int, e = .int u ∧ u ∈ order.take cn := by
          have he : e ∈ (order.take cn).map fun z => D.int z := by simpa [List.map_take, Function.comp_def] using he
          obtain ⟨u, hu, rfl⟩ := List.mem_map.mp he
          exact ⟨u, rfl, hu⟩
        refine draw_st (by omega) (by omega) (by omega) fun k b3' _ _ _ => ?_
        simp [hz3]
        exact fin "in" u k b3' rfl (.inl ⟨rfl, hu⟩) (by omega) (by omega)
      · simp [tyLst_m hs.atG, strOk_in, strOk_out, hoi, hz3]
        refine ⟨b', _, _, _, rfl, rfl, by omega, rfl, by simp; omega, by simp; omega, fun e b'' he hb'' => ?_⟩
        obtain ⟨u, rfl, hu⟩ : ∃ u : Int, e = .int u ∧ u ∈ order.drop cn := by
          have he : e ∈ (order.drop cn).map fun z => D.int z := by simpa [List.map_drop, Function.comp_def] using he
          obtain ⟨u, hu, rfl⟩ := List.mem_map.mp he
          exact ⟨u, rfl, hu⟩
        refine draw_st (by omega) (by omega) (by omega) fun k b3' _ _ _ => ?_
        simp [hz3]
        exact fin "out" u k b3' rfl (.inr ⟨rfl, hu⟩) (by omega) (by omega)
    · rintro ρ' S' ⟨b11, R1, G, o, rfl, hb11, hs1, hG, hG1, hG2, hG3, rfl⟩
      have hGl : G.length ≤ 102 := by simp at hG; omega
      have hG2 := hG2 (by simp)
      have hG3 := hG3 (by simp)
      simp only [List.length_cons] at hb11
      have hio : (("in" : Str) == "out") = false := by decide +kernel
      have hrow : ∀ x ∈ G.map T.tup, ∃ (s : Str) (a k : Int), x = .tup [.str s, .int a, .int k] ∧ ((s = "in" ∧ a ∈ order.take cn) ∨ (s = "out" ∧ a ∈ order.drop cn)) := by
        intro x hx
        obtain ⟨g, hg, rfl⟩ := List.mem_map.mp hx
        obtain ⟨s, a, k, rfl, h, _⟩ := hG1 g hg
        exact ⟨s, a, k, rfl, h⟩
      simp
      refine itG_x (seqA_m hs1.atG) fun it2 hit2 => ?_
      refine lc_fmG (fun x => decide ((drOf x).1 = "in")) (fun x => .int (drOf x).2.1) hit2 hs1.closed (by simp; omega) ?_ ?_
      · intro x hx S2 Ky Kn hy hn
        obtain ⟨s, a, k, rfl, h⟩ := hrow x hx
        have e' : drOf (.tup [.str s, .int a, .int k]) = (s, a, k) := drOf_e rfl
        rw [e'] at hy hn
        rcases h with ⟨rfl, _⟩ | ⟨rfl, _⟩
        · simp [wipeD, strOk_in] at hy ⊢
          exact hy
        · have hne : ¬ (Str.ofString "out" = Str.ofString "in") := by simpa using hoi
          simp [wipeD, strOk_in, strOk_out, hne] at hn ⊢
          exact hn
      · refine itG_x (seqA_m hs1.atG) fun it3 hit3 => ?_
        refine lc_fmG (fun x => decide ((drOf x).1 = "out")) (fun x => .int (drOf x).2.1) hit3 hs1.closed (by simp; omega) ?_ ?_
        · intro x hx S2 Ky Kn hy hn
          obtain ⟨s, a, k, rfl, h⟩ := hrow x hx
          have e' : drOf (.tup [.str s, .int a, .int k]) = (s, a, k) := drOf_e rfl
          rw [e'] at hy hn
          rcases h with ⟨rfl, _⟩ | ⟨rfl, _⟩
          · have hne : ¬ (Str.ofString "in" = Str.ofString "out") := by simpa using hio
            simp [wipeD, strOk_in, strOk_out, hne] at hn ⊢
            exact hn
          · simp [wipeD, strOk_out] at hy ⊢
            exact hy
        · obtain ⟨begins, hbeg, hb1, hb2⟩ : ∃ L : List Int, ((G.map T.tup).filter fun x => decide ((drOf x).1 = "in")).map (fun x => T.int (drOf x).2.1) = L.map T.int ∧ 1 ≤ L.length ∧ ∀ z ∈ L, z ∈ order.take cn := by
            refine ⟨((G.map T.tup).filter fun x => decide ((drOf x).1 = "in")).map fun x => (drOf x).2.1, by simp, ?_, ?_⟩
            · obtain ⟨g, hg, a, k, rfl⟩ := hG2
              rw [List.length_map]
              refine List.length_pos_of_mem (a := T.tup [.str "in", .int a, .int k]) (List.mem_filter.mpr ⟨List.mem_map.mpr ⟨_, hg, rfl⟩, ?_⟩)
              rw [drOf_e (t := .tup [.str "in", .int a, .int k]) rfl]; simp
            · intro z hz
              obtain ⟨x, hx, rfl⟩ := List.mem_map.mp hz
              obtain ⟨hx, hp⟩ := List.mem_filter.mp hx
              obtain ⟨s, a, k, rfl, h⟩ := hrow x hx
              rw [drOf_e (t := .tup [.str s, .int a, .int k]) rfl] at hp ⊢
              have hp : s = "in" := by simpa using hp
              rcases h with ⟨_, h⟩ | ⟨h, _⟩
              · exact h
              · rw [hp] at h; rw [h] at hio; simp at hio
          obtain ⟨ends, hend, he1, he2⟩ : ∃ L : List Int, ((G.map T.tup).filter fun x => decide ((drOf x).1 = "out")).map (fun x => T.int (drOf x).2.1) = L.map T.int ∧ 1 ≤ L.length ∧ ∀ z ∈ L, z ∈ order.drop cn := by
            refine ⟨((G.map T.tup).filter fun x => decide ((drOf x).1 = "out")).map fun x => (drOf x).2.1, by simp, ?_, ?_⟩
            · obtain ⟨g, hg, a, k, rfl⟩ := hG3
              rw [List.length_map]
              refine List.length_pos_of_mem (a := T.tup [.str "out", .int a, .int k]) (List.mem_filter.mpr ⟨List.mem_map.mpr ⟨_, hg, rfl⟩, ?_⟩)
              rw [drOf_e (t := .tup [.str "out", .int a, .int k]) rfl]; simp
            · intro z hz
              obtain ⟨x, hx, rfl⟩ := List.mem_map.mp hz
              obtain ⟨hx, hp⟩ := List.mem_filter.mp hx
              obtain ⟨s, a, k, rfl, h⟩ := hrow x hx
              rw [drOf_e (t := .tup [.str s, .int a, .int k]) rfl] at hp ⊢
              have hp : s = "out" := by simpa using hp
              rcases h with ⟨h, _⟩ | ⟨_, h⟩
              · rw [hp] at h; rw [← h] at hio; simp at hio
              · exact h
          have hbl : begins.length ≤ 102 := by
            have := congrArg List.length hbeg
            simp at this
            have h2 := List.length_filter_le (fun x => decide ((drOf x).1 = "in")) (G.map T.tup)
            simp at h2
            omega
          have hel : ends.length ≤ 102 := by
            have := congrArg List.length hend
            simp at this
            have h2 := List.length_filter_le (fun x => decide ((drOf x).1 = "out")) (G.map T.tup)
            simp at h2
            omega
          rw [hbeg, hend]
          clear hbeg hend
          exact house_tail hc (by omega) ⟨hm1.1, by omega⟩ hf1 hf2 hol hon hom hlo hwi hs1 (by rw [hG]; simp) hGl hG1 hb1 hbl hb2 he1 hel he2 (fun rs dr b' h1 h2 h3 h4 h5 h6 h7 => q many rs dr b' hm1.1 hm1.2 h1 h2 h3 h4 h5 h6 (by omega))
/-! _law_asked_a (_law_odd) slots: 0=_law_odd 1=_law_found -/
abbrev N_law_asked_a : List Str := ["_law_odd", "_law_found"]
abbrev ps_law_asked_a : List Str := ["_law_odd"]
/-- a list of refusals, one for each asking so far -/
def stF (S : Store) (d : D) (k : Nat) : Store := S ++ .lst ((List.range k).map fun i => .m (S.length + 1 + i)) :: List.replicate k (.tup [.t (.str "house"), d])
theorem stF_len {S : Store} {d : D} {k : Nat} : (stF S d k).length = S.length + 1 + k := by simp [stF]; omega
theorem stF_at {S : Store} {d : D} {k : Nat} : (stF S d k)[S.length]? = some (.lst ((List.range k).map fun i => .m (S.length + 1 + i))) := by simp [stF]
theorem dlst0 {X : XQ} {ρ : Env} {S : Store} {Q : D → Store → Prop} (q : Q (.m S.length) (S ++ [.lst []])) : dLstM dNil X ρ S Q := ⟨by decide, q⟩
theorem app_step {A : Str → Addr} {S : Store} {d : D} {k : Nat} {ρ : Env} {De : DEnds} {te : TED} (h1 : ρ[1]? = some (some (.m S.length)))
    (hte : ∀ (X : XQ) (Q : D → Store → Prop), X (A "BadHouse", [("thing", d)]) (stF S d k) → te X ρ (stF S d k) Q) (q : De.nx ρ (stF S d (k + 1))) (hk : k ≤ 1000 := by decide) :
    sDrop (dBM tyLst mAppend (dVar 1) (dCons (dTried (Xs A) "told" (cl_law_met A) false te) dNil)) De ρ (stF S d k) := by
  refine drp (bm (dvr h1 ⟨tyLst_m stF_at, dcons1 (hte _ _ ⟨by simp [Xs], ?_⟩)⟩))
  unfold cl_law_met hndD
  rw [if_pos rfl]
  refine ⟨_, rfl, .inr ?_⟩
  have g : (stF S d k ++ [Cell.tup [.t (.str "house"), d]])[S.length]? = some (.lst ((List.range k).map fun i => .m (S.length + 1 + i))) := by
    rw [List.getElem?_append_left (by rw [stF_len]; omega)]; exact stF_at
  have e1 : (stF S d k).length = S.length + 1 + k := stF_len
  have e : (stF S d k ++ [Cell.tup [.t (.str "house"), d]]).set S.length (.lst ((List.range k).map (fun i => D.m (S.length + 1 + i)) ++ [D.m (stF S d k).length])) = stF S d (k + 1) := by
    rw [e1]
    unfold stF
    rw [List.append_assoc, show S.length = S.length + 0 from rfl, set_app]
    simp [List.range_succ, List.replicate_succ']
  show mAppend (.m S.length) [.m (stF S d k).length] (stF S d k ++ [.tup [.t (.str "house"), d]]) _
  refine append_of g (Nat.lt_of_le_of_lt (m := 1000) (by simpa using hk) (by decide)) ?_
  rw [e]
  exact q
def ft_law_asked_a (A : Str → Addr) : FT := fun ds S Q _ => ∃ d, ds = [d] ∧ NoH S d ∧ Q (.m S.length) (stF S d 30)
def rd_law_asked_a (A : Str → Addr) : TSD :=
 sSeq (sAsg (dLstM (dNil)) (gVar 1))
 (sSeq (sDrop (dBM tyLst mAppend (dVar 1) (dCons (dTried (Xs A) "told" (cl_law_met A) false (dCall 3 (ft_asked A) (dCons (dVar 0) (dCons (dC .non) (dCons (dC .non) (dNil)))))) (dNil))))
 (sSeq (sDrop (dBM tyLst mAppend (dVar 1) (dCons (dTried (Xs A) "told" (cl_law_met A) false (dCallK 3 3 (ft_asked A) [2, 1, 0] (dCons (dC .non) (dCons (dC .non) (dCons (dVar 0) (dNil)))))) (dNil))))
 (sSeq (sDrop (dBM tyLst mAppend (dVar 1) (dCons (dTried (Xs A) "told" (cl_law_met A) false (dCall 3 (ft_lacking A) (dCons (dVar 0) (dCons (dC .non) (dCons (dC .non) (dNil)))))) (dNil))))
 (sSeq (sDrop (dBM tyLst mAppend (dVar 1) (dCons (dTried (Xs A) "told" (cl_law_met A) false (dCallK 3 3 (ft_lacking A) [2, 1, 0] (dCons (dC .non) (dCons (dC .non) (dCons (dVar 0) (dNil)))))) (dNil))))
 (sSeq (sDrop (dBM tyLst mAppend (dVar 1) (dCons (dTried (Xs A) "told" (cl_law_met A) false (dCall 3 (ft_lot_for A) (dCons (dVar 0) (dCons (dC .non) (dCons (dC .non) (dNil)))))) (dNil))))
 (sSeq (sDrop (dBM tyLst mAppend (dVar 1) (dCons (dTried (Xs A) "told" (cl_law_met A) false (dCallK 3 3 (ft_lot_for A) [2, 1, 0] (dCons (dC .non) (dCons (dC .non) (dCons (dVar 0) (dNil)))))) (dNil))))
 (sSeq (sDrop (dBM tyLst mAppend (dVar 1) (dCons (dTried (Xs A) "told" (cl_law_met A) false (dCall 4 (ft_is_lot_for A) (dCons (dVar 0) (dCons (dC .non) (dCons (dC .non) (dCons (dC .non) (dNil))))))) (dNil))))
 (sSeq (sDrop (dBM tyLst mAppend (dVar 1) (dCons (dTried (Xs A) "told" (cl_law_met A) false (dCallK 4 4 (ft_is_lot_for A) [3, 2, 1, 0] (dCons (dC .non) (dCons (dC .non) (dCons (dC .non) (dCons (dVar 0) (dNil))))))) (dNil))))
 (sSeq (sDrop (dBM tyLst mAppend (dVar 1) (dCons (dTried (Xs A) "told" (cl_law_met A) false (dCall 4 (ft_is_plan_for A) (dCons (dVar 0) (dCons (dC .non) (dCons (dC .non) (dCons (dC .non) (dNil))))))) (dNil))))
 (sSeq (sDrop (dBM tyLst mAppend (dVar 1) (dCons (dTried (Xs A) "told" (cl_law_met A) false (dCallK 4 4 (ft_is_plan_for A) [3, 2, 1, 0] (dCons (dC .non) (dCons (dC .non) (dCons (dC .non) (dCons (dVar 0) (dNil))))))) (dNil))))
 (sSeq (sDrop (dBM tyLst mAppend (dVar 1) (dCons (dTried (Xs A) "told" (cl_law_met A) false (dCall 3 (ft_plan_for A) (dCons (dVar 0) (dCons (dC .non) (dCons (dC .non) (dNil)))))) (dNil))))
 (sSeq (sDrop (dBM tyLst mAppend (dVar 1) (dCons (dTried (Xs A) "told" (cl_law_met A) false (dCallK 3 3 (ft_plan_for A) [2, 1, 0] (dCons (dC .non) (dCons (dC .non) (dCons (dVar 0) (dNil)))))) (dNil))))
 (sSeq (sDrop (dBM tyLst mAppend (dVar 1) (dCons (dTried (Xs A) "told" (cl_law_met A) false (dCall 3 (ft_row_for A) (dCons (dVar 0) (dCons (dC .non) (dCons (dC .non) (dNil)))))) (dNil))))
 (sSeq (sDrop (dBM tyLst mAppend (dVar 1) (dCons (dTried (Xs A) "told" (cl_law_met A) false (dCallK 3 3 (ft_row_for A) [2, 1, 0] (dCons (dC .non) (dCons (dC .non) (dCons (dVar 0) (dNil)))))) (dNil))))
 (sSeq (sDrop (dBM tyLst mAppend (dVar 1) (dCons (dTried (Xs A) "told" (cl_law_met A) false (dCall 4 (ft_is_row_for A) (dCons (dVar 0) (dCons (dC .non) (dCons (dC .non) (dCons (dC .non) (dNil))))))) (dNil))))
 (sSeq (sDrop (dBM tyLst mAppend (dVar 1) (dCons (dTried (Xs A) "told" (cl_law_met A) false (dCallK 4 4 (ft_is_row_for A) [3, 2, 1, 0] (dCons (dC .non) (dCons (dC .non) (dCons (dC .non) (dCons (dVar 0) (dNil))))))) (dNil))))
 (sSeq (sDrop (dBM tyLst mAppend (dVar 1) (dCons (dTried (Xs A) "told" (cl_law_met A) false (dCall 2 (ft_parted A) (dCons (dVar 0) (dCons (dC .non) (dNil))))) (dNil))))
 (sSeq (sDrop (dBM tyLst mAppend (dVar 1) (dCons (dTried (Xs A) "told" (cl_law_met A) false (dCallK 2 2 (ft_parted A) [1, 0] (dCons (dC .non) (dCons (dVar 0) (dNil))))) (dNil))))
 (sSeq (sDrop (dBM tyLst mAppend (dVar 1) (dCons (dTried (Xs A) "told" (cl_law_met A) false (dCall 3 (ft_most A) (dCons (dVar 0) (dCons (dC .non) (dCons (dC .non) (dNil)))))) (dNil))))
 (sSeq (sDrop (dBM tyLst mAppend (dVar 1) (dCons (dTried (Xs A) "told" (cl_law_met A) false (dCallK 3 3 (ft_most A) [2, 1, 0] (dCons (dC .non) (dCons (dC .non) (dCons (dVar 0) (dNil)))))) (dNil))))
 (sSeq (sDrop (dBM tyLst mAppend (dVar 1) (dCons (dTried (Xs A) "told" (cl_law_met A) false (dCall 3 (ft_most_plan A) (dCons (dVar 0) (dCons (dC .non) (dCons (dC .non) (dNil)))))) (dNil))))
 (sSeq (sDrop (dBM tyLst mAppend (dVar 1) (dCons (dTried (Xs A) "told" (cl_law_met A) false (dCallK 3 3 (ft_most_plan A) [2, 1, 0] (dCons (dC .non) (dCons (dC .non) (dCons (dVar 0) (dNil)))))) (dNil))))
 (sSeq (sDrop (dBM tyLst mAppend (dVar 1) (dCons (dTried (Xs A) "told" (cl_law_met A) false (dCall 2 (ft_levels A) (dCons (dVar 0) (dCons (dC .non) (dNil))))) (dNil))))
 (sSeq (sDrop (dBM tyLst mAppend (dVar 1) (dCons (dTried (Xs A) "told" (cl_law_met A) false (dCallK 2 2 (ft_levels A) [1, 0] (dCons (dC .non) (dCons (dVar 0) (dNil))))) (dNil))))
 (sSeq (sDrop (dBM tyLst mAppend (dVar 1) (dCons (dTried (Xs A) "told" (cl_law_met A) false (dCall 2 (ft_steady A) (dCons (dVar 0) (dCons (dC .non) (dNil))))) (dNil))))
 (sSeq (sDrop (dBM tyLst mAppend (dVar 1) (dCons (dTried (Xs A) "told" (cl_law_met A) false (dCallK 2 2 (ft_steady A) [1, 0] (dCons (dC .non) (dCons (dVar 0) (dNil))))) (dNil))))
 (sSeq (sDrop (dBM tyLst mAppend (dVar 1) (dCons (dTried (Xs A) "told" (cl_law_met A) false (dCall 3 (ft_lot_bell A) (dCons (dVar 0) (dCons (dC .non) (dCons (dC .non) (dNil)))))) (dNil))))
 (sSeq (sDrop (dBM tyLst mAppend (dVar 1) (dCons (dTried (Xs A) "told" (cl_law_met A) false (dCallK 3 3 (ft_lot_bell A) [2, 1, 0] (dCons (dC .non) (dCons (dC .non) (dCons (dVar 0) (dNil)))))) (dNil))))
 (sSeq (sDrop (dBM tyLst mAppend (dVar 1) (dCons (dTried (Xs A) "told" (cl_law_met A) false (dCall 4 (ft_is_moments A) (dCons (dVar 0) (dCons (dC .non) (dCons (dC .non) (dCons (dC .non) (dNil))))))) (dNil))))
 (sSeq (sDrop (dBM tyLst mAppend (dVar 1) (dCons (dTried (Xs A) "told" (cl_law_met A) false (dCallK 4 4 (ft_is_moments A) [3, 2, 1, 0] (dCons (dC .non) (dCons (dC .non) (dCons (dC .non) (dCons (dVar 0) (dNil))))))) (dNil))))
 (sSeq (sRet (dVar 1))
 (sNext))))))))))))))))))))))))))))))))
theorem math_law_asked_a (A : Str → Addr) : (Xs A).Nodup → ∀ (ds : List D) (S : Store) (Q : D → Store → Prop) (E : Ex → Prop), ClosedS S.length S → ds.length = 1 → ft_law_asked_a A ds S Q E → rd_law_asked_a A (endsOf .raw S Q E) (startD 2 ds) S := by
  intro hX
  rintro ds S Q E hc _ ⟨d, rfl, hn, q⟩
  have e1 : startD 2 [d] = [some d, none] := rfl
  rw [e1]
  unfold rd_law_asked_a
  refine sq (t := sAsg _ _) (asg (dlst0 (gv ?_)))
  have e2 : S ++ [.lst []] = stF S d 0 := rfl
  rw [e2]
  have e3 : ([some d, none] : Env).set 1 (some (.m S.length)) = [some d, some (.m S.length)] := rfl
  rw [e3]
  refine sq (t := sDrop _) (app_step rfl (fun X Q2 q2 => ⟨_, rfl, rfl, _, _, _, rfl, (NoH.app hn), q2⟩) ?_)
  refine sq (t := sDrop _) (app_step rfl (fun X Q2 q2 => ⟨_, rfl, rfl, rfl, _, _, _, rfl, (NoH.app hn), q2⟩) ?_)
  refine sq (t := sDrop _) (app_step rfl (fun X Q2 q2 => ⟨_, rfl, rfl, _, _, _, rfl, (NoH.app hn), q2⟩) ?_)
  refine sq (t := sDrop _) (app_step rfl (fun X Q2 q2 => ⟨_, rfl, rfl, rfl, _, _, _, rfl, (NoH.app hn), q2⟩) ?_)
  refine sq (t := sDrop _) (app_step rfl (fun X Q2 q2 => ⟨_, rfl, rfl, _, _, _, rfl, (NoH.app hn), q2⟩) ?_)
  refine sq (t := sDrop _) (app_step rfl (fun X Q2 q2 => ⟨_, rfl, rfl, rfl, _, _, _, rfl, (NoH.app hn), q2⟩) ?_)
  refine sq (t := sDrop _) (app_step rfl (fun X Q2 q2 => ⟨_, rfl, rfl, _, _, _, _, rfl, (NoH.app hn), q2⟩) ?_)
  refine sq (t := sDrop _) (app_step rfl (fun X Q2 q2 => ⟨_, rfl, rfl, rfl, _, _, _, _, rfl, (NoH.app hn), q2⟩) ?_)
  refine sq (t := sDrop _) (app_step rfl (fun X Q2 q2 => ⟨_, rfl, rfl, _, _, _, _, rfl, (NoH.app hn), q2⟩) ?_)
  refine sq (t := sDrop _) (app_step rfl (fun X Q2 q2 => ⟨_, rfl, rfl, rfl, _, _, _, _, rfl, (NoH.app hn), q2⟩) ?_)
  refine sq (t := sDrop _) (app_step rfl (fun X Q2 q2 => ⟨_, rfl, rfl, _, _, _, rfl, (NoH.app hn), q2⟩) ?_)
  refine sq (t := sDrop _) (app_step rfl (fun X Q2 q2 => ⟨_, rfl, rfl, rfl, _, _, _, rfl, (NoH.app hn), q2⟩) ?_)
  refine sq (t := sDrop _) (app_step rfl (fun X Q2 q2 => ⟨_, rfl, rfl, _, _, _, rfl, (NoH.app hn), q2⟩) ?_)
  refine sq (t := sDrop _) (app_step rfl (fun X Q2 q2 => ⟨_, rfl, rfl, rfl, _, _, _, rfl, (NoH.app hn), q2⟩) ?_)
  refine sq (t := sDrop _) (app_step rfl (fun X Q2 q2 => ⟨_, rfl, rfl, _, _, _, _, rfl, (NoH.app hn), q2⟩) ?_)
  refine sq (t := sDrop _) (app_step rfl (fun X Q2 q2 => ⟨_, rfl, rfl, rfl, _, _, _, _, rfl, (NoH.app hn), q2⟩) ?_)
  refine sq (t := sDrop _) (app_step rfl (fun X Q2 q2 => ⟨_, rfl, rfl, _, _, rfl, (NoH.app hn), q2⟩) ?_)
  refine sq (t := sDrop _) (app_step rfl (fun X Q2 q2 => ⟨_, rfl, rfl, rfl, _, _, rfl, (NoH.app hn), q2⟩) ?_)
  refine sq (t := sDrop _) (app_step rfl (fun X Q2 q2 => ⟨_, rfl, rfl, _, _, _, rfl, (NoH.app hn), q2⟩) ?_)
  refine sq (t := sDrop _) (app_step rfl (fun X Q2 q2 => ⟨_, rfl, rfl, rfl, _, _, _, rfl, (NoH.app hn), q2⟩) ?_)
  refine sq (t := sDrop _) (app_step rfl (fun X Q2 q2 => ⟨_, rfl, rfl, _, _, _, rfl, (NoH.app hn), q2⟩) ?_)
  refine sq (t := sDrop _) (app_step rfl (fun X Q2 q2 => ⟨_, rfl, rfl, rfl, _, _, _, rfl, (NoH.app hn), q2⟩) ?_)
  refine sq (t := sDrop _) (app_step rfl (fun X Q2 q2 => ⟨_, rfl, rfl, _, _, rfl, (NoH.app hn), q2⟩) ?_)
  refine sq (t := sDrop _) (app_step rfl (fun X Q2 q2 => ⟨_, rfl, rfl, rfl, _, _, rfl, (NoH.app hn), q2⟩) ?_)
  refine sq (t := sDrop _) (app_step rfl (fun X Q2 q2 => ⟨_, rfl, rfl, _, _, rfl, (NoH.app hn), q2⟩) ?_)
  refine sq (t := sDrop _) (app_step rfl (fun X Q2 q2 => ⟨_, rfl, rfl, rfl, _, _, rfl, (NoH.app hn), q2⟩) ?_)
  refine sq (t := sDrop _) (app_step rfl (fun X Q2 q2 => ⟨_, rfl, rfl, _, _, _, rfl, (NoH.app hn), q2⟩) ?_)
  refine sq (t := sDrop _) (app_step rfl (fun X Q2 q2 => ⟨_, rfl, rfl, rfl, _, _, _, rfl, (NoH.app hn), q2⟩) ?_)
  refine sq (t := sDrop _) (app_step rfl (fun X Q2 q2 => ⟨_, rfl, rfl, _, _, _, _, rfl, (NoH.app hn), q2⟩) ?_)
  refine sq (t := sDrop _) (app_step rfl (fun X Q2 q2 => ⟨_, rfl, rfl, rfl, _, _, _, _, rfl, (NoH.app hn), q2⟩) ?_)
  exact sq (t := sRet _) (rts (dvr rfl q))
/-! _law_asked_b (_law_odd) slots: 0=_law_odd 1=_law_found -/
abbrev N_law_asked_b : List Str := ["_law_odd", "_law_found"]
abbrev ps_law_asked_b : List Str := ["_law_odd"]
def ft_law_asked_b (A : Str → Addr) : FT := fun ds S Q _ => ∃ d, ds = [d] ∧ NoH S d ∧ Q (.m S.length) (stF S d 30)
def rd_law_asked_b (A : Str → Addr) : TSD :=
 sSeq (sAsg (dLstM (dNil)) (gVar 1))
 (sSeq (sDrop (dBM tyLst mAppend (dVar 1) (dCons (dTried (Xs A) "told" (cl_law_met A) false (dCall 2 (ft_worth A) (dCons (dVar 0) (dCons (dC .non) (dNil))))) (dNil))))
 (sSeq (sDrop (dBM tyLst mAppend (dVar 1) (dCons (dTried (Xs A) "told" (cl_law_met A) false (dCallK 2 2 (ft_worth A) [1, 0] (dCons (dC .non) (dCons (dVar 0) (dNil))))) (dNil))))
 (sSeq (sDrop (dBM tyLst mAppend (dVar 1) (dCons (dTried (Xs A) "told" (cl_law_met A) false (dCall 3 (ft_moments_for A) (dCons (dVar 0) (dCons (dC .non) (dCons (dC .non) (dNil)))))) (dNil))))
 (sSeq (sDrop (dBM tyLst mAppend (dVar 1) (dCons (dTried (Xs A) "told" (cl_law_met A) false (dCallK 3 3 (ft_moments_for A) [2, 1, 0] (dCons (dC .non) (dCons (dC .non) (dCons (dVar 0) (dNil)))))) (dNil))))
 (sSeq (sDrop (dBM tyLst mAppend (dVar 1) (dCons (dTried (Xs A) "told" (cl_law_met A) false (dCall 3 (ft_plan_by_order A) (dCons (dVar 0) (dCons (dC .non) (dCons (dC .non) (dNil)))))) (dNil))))
 (sSeq (sDrop (dBM tyLst mAppend (dVar 1) (dCons (dTried (Xs A) "told" (cl_law_met A) false (dCallK 3 3 (ft_plan_by_order A) [2, 1, 0] (dCons (dC .non) (dCons (dC .non) (dCons (dVar 0) (dNil)))))) (dNil))))
 (sSeq (sDrop (dBM tyLst mAppend (dVar 1) (dCons (dTried (Xs A) "told" (cl_law_met A) false (dCall 3 (ft_corner A) (dCons (dVar 0) (dCons (dC .non) (dCons (dC .non) (dNil)))))) (dNil))))
 (sSeq (sDrop (dBM tyLst mAppend (dVar 1) (dCons (dTried (Xs A) "told" (cl_law_met A) false (dCallK 3 3 (ft_corner A) [2, 1, 0] (dCons (dC .non) (dCons (dC .non) (dCons (dVar 0) (dNil)))))) (dNil))))
 (sSeq (sDrop (dBM tyLst mAppend (dVar 1) (dCons (dTried (Xs A) "told" (cl_law_met A) false (dCall 2 (ft_corners A) (dCons (dVar 0) (dCons (dC .non) (dNil))))) (dNil))))
 (sSeq (sDrop (dBM tyLst mAppend (dVar 1) (dCons (dTried (Xs A) "told" (cl_law_met A) false (dCallK 2 2 (ft_corners A) [1, 0] (dCons (dC .non) (dCons (dVar 0) (dNil))))) (dNil))))
 (sSeq (sDrop (dBM tyLst mAppend (dVar 1) (dCons (dTried (Xs A) "told" (cl_law_met A) false (dCall 3 (ft_order_of A) (dCons (dVar 0) (dCons (dC .non) (dCons (dC .non) (dNil)))))) (dNil))))
 (sSeq (sDrop (dBM tyLst mAppend (dVar 1) (dCons (dTried (Xs A) "told" (cl_law_met A) false (dCallK 3 3 (ft_order_of A) [2, 1, 0] (dCons (dC .non) (dCons (dC .non) (dCons (dVar 0) (dNil)))))) (dNil))))
 (sSeq (sDrop (dBM tyLst mAppend (dVar 1) (dCons (dTried (Xs A) "told" (cl_law_met A) false (dCall 2 (ft_is_plan A) (dCons (dVar 0) (dCons (dC .non) (dNil))))) (dNil))))
 (sSeq (sDrop (dBM tyLst mAppend (dVar 1) (dCons (dTried (Xs A) "told" (cl_law_met A) false (dCallK 2 2 (ft_is_plan A) [1, 0] (dCons (dC .non) (dCons (dVar 0) (dNil))))) (dNil))))
 (sSeq (sDrop (dBM tyLst mAppend (dVar 1) (dCons (dTried (Xs A) "told" (cl_law_met A) false (dCall 2 (ft_plan_fault A) (dCons (dVar 0) (dCons (dC .non) (dNil))))) (dNil))))
 (sSeq (sDrop (dBM tyLst mAppend (dVar 1) (dCons (dTried (Xs A) "told" (cl_law_met A) false (dCallK 2 2 (ft_plan_fault A) [1, 0] (dCons (dC .non) (dCons (dVar 0) (dNil))))) (dNil))))
 (sSeq (sDrop (dBM tyLst mAppend (dVar 1) (dCons (dTried (Xs A) "told" (cl_law_met A) false (dCall 2 (ft_brings A) (dCons (dVar 0) (dCons (dC .non) (dNil))))) (dNil))))
 (sSeq (sDrop (dBM tyLst mAppend (dVar 1) (dCons (dTried (Xs A) "told" (cl_law_met A) false (dCallK 2 2 (ft_brings A) [1, 0] (dCons (dC .non) (dCons (dVar 0) (dNil))))) (dNil))))
 (sSeq (sDrop (dBM tyLst mAppend (dVar 1) (dCons (dTried (Xs A) "told" (cl_law_met A) false (dCall 2 (ft_bell_of A) (dCons (dVar 0) (dCons (dC .non) (dNil))))) (dNil))))
 (sSeq (sDrop (dBM tyLst mAppend (dVar 1) (dCons (dTried (Xs A) "told" (cl_law_met A) false (dCallK 2 2 (ft_bell_of A) [1, 0] (dCons (dC .non) (dCons (dVar 0) (dNil))))) (dNil))))
 (sSeq (sDrop (dBM tyLst mAppend (dVar 1) (dCons (dTried (Xs A) "told" (cl_law_met A) false (dCall 3 (ft_on_roads A) (dCons (dVar 0) (dCons (dC .non) (dCons (dC .non) (dNil)))))) (dNil))))
 (sSeq (sDrop (dBM tyLst mAppend (dVar 1) (dCons (dTried (Xs A) "told" (cl_law_met A) false (dCallK 3 3 (ft_on_roads A) [2, 1, 0] (dCons (dC .non) (dCons (dC .non) (dCons (dVar 0) (dNil)))))) (dNil))))
 (sSeq (sDrop (dBM tyLst mAppend (dVar 1) (dCons (dTried (Xs A) "told" (cl_law_met A) false (dCall 2 (ft_least_bell A) (dCons (dVar 0) (dCons (dC .non) (dNil))))) (dNil))))
 (sSeq (sDrop (dBM tyLst mAppend (dVar 1) (dCons (dTried (Xs A) "told" (cl_law_met A) false (dCallK 2 2 (ft_least_bell A) [1, 0] (dCons (dC .non) (dCons (dVar 0) (dNil))))) (dNil))))
 (sSeq (sDrop (dBM tyLst mAppend (dVar 1) (dCons (dTried (Xs A) "told" (cl_law_met A) false (dCall 2 (ft_never A) (dCons (dVar 0) (dCons (dC .non) (dNil))))) (dNil))))
 (sSeq (sDrop (dBM tyLst mAppend (dVar 1) (dCons (dTried (Xs A) "told" (cl_law_met A) false (dCallK 2 2 (ft_never A) [1, 0] (dCons (dC .non) (dCons (dVar 0) (dNil))))) (dNil))))
 (sSeq (sDrop (dBM tyLst mAppend (dVar 1) (dCons (dTried (Xs A) "told" (cl_law_met A) false (dCall 2 (ft_rising A) (dCons (dVar 0) (dCons (dC .non) (dNil))))) (dNil))))
 (sSeq (sDrop (dBM tyLst mAppend (dVar 1) (dCons (dTried (Xs A) "told" (cl_law_met A) false (dCallK 2 2 (ft_rising A) [1, 0] (dCons (dC .non) (dCons (dVar 0) (dNil))))) (dNil))))
 (sSeq (sDrop (dBM tyLst mAppend (dVar 1) (dCons (dTried (Xs A) "told" (cl_law_met A) false (dCall 4 (ft_bell_with A) (dCons (dVar 0) (dCons (dC .non) (dCons (dC .non) (dCons (dC .non) (dNil))))))) (dNil))))
 (sSeq (sDrop (dBM tyLst mAppend (dVar 1) (dCons (dTried (Xs A) "told" (cl_law_met A) false (dCallK 4 4 (ft_bell_with A) [3, 2, 1, 0] (dCons (dC .non) (dCons (dC .non) (dCons (dC .non) (dCons (dVar 0) (dNil))))))) (dNil))))
 (sSeq (sRet (dVar 1))
 (sNext))))))))))))))))))))))))))))))))
theorem math_law_asked_b (A : Str → Addr) : (Xs A).Nodup → ∀ (ds : List D) (S : Store) (Q : D → Store → Prop) (E : Ex → Prop), ClosedS S.length S → ds.length = 1 → ft_law_asked_b A ds S Q E → rd_law_asked_b A (endsOf .raw S Q E) (startD 2 ds) S := by
  intro hX
  rintro ds S Q E hc _ ⟨d, rfl, hn, q⟩
  have e1 : startD 2 [d] = [some d, none] := rfl
  rw [e1]
  unfold rd_law_asked_b
  refine sq (t := sAsg _ _) (asg (dlst0 (gv ?_)))
  have e2 : S ++ [.lst []] = stF S d 0 := rfl
  rw [e2]
  have e3 : ([some d, none] : Env).set 1 (some (.m S.length)) = [some d, some (.m S.length)] := rfl
  rw [e3]
  refine sq (t := sDrop _) (app_step rfl (fun X Q2 q2 => ⟨_, rfl, rfl, _, _, rfl, (NoH.app hn), q2⟩) ?_)
  refine sq (t := sDrop _) (app_step rfl (fun X Q2 q2 => ⟨_, rfl, rfl, rfl, _, _, rfl, (NoH.app hn), q2⟩) ?_)
  refine sq (t := sDrop _) (app_step rfl (fun X Q2 q2 => ⟨_, rfl, rfl, _, _, _, rfl, (NoH.app hn), q2⟩) ?_)
  refine sq (t := sDrop _) (app_step rfl (fun X Q2 q2 => ⟨_, rfl, rfl, rfl, _, _, _, rfl, (NoH.app hn), q2⟩) ?_)
  refine sq (t := sDrop _) (app_step rfl (fun X Q2 q2 => ⟨_, rfl, rfl, _, _, _, rfl, (NoH.app hn), q2⟩) ?_)
  refine sq (t := sDrop _) (app_step rfl (fun X Q2 q2 => ⟨_, rfl, rfl, rfl, _, _, _, rfl, (NoH.app hn), q2⟩) ?_)
  refine sq (t := sDrop _) (app_step rfl (fun X Q2 q2 => ⟨_, rfl, rfl, _, _, _, rfl, (NoH.app hn), q2⟩) ?_)
  refine sq (t := sDrop _) (app_step rfl (fun X Q2 q2 => ⟨_, rfl, rfl, rfl, _, _, _, rfl, (NoH.app hn), q2⟩) ?_)
  refine sq (t := sDrop _) (app_step rfl (fun X Q2 q2 => ⟨_, rfl, rfl, _, _, rfl, (NoH.app hn), q2⟩) ?_)
  refine sq (t := sDrop _) (app_step rfl (fun X Q2 q2 => ⟨_, rfl, rfl, rfl, _, _, rfl, (NoH.app hn), q2⟩) ?_)
  refine sq (t := sDrop _) (app_step rfl (fun X Q2 q2 => ⟨_, rfl, rfl, _, _, _, rfl, (NoH.app hn), q2⟩) ?_)
  refine sq (t := sDrop _) (app_step rfl (fun X Q2 q2 => ⟨_, rfl, rfl, rfl, _, _, _, rfl, (NoH.app hn), q2⟩) ?_)
  refine sq (t := sDrop _) (app_step rfl (fun X Q2 q2 => ⟨_, rfl, rfl, _, _, rfl, (NoH.app hn), q2⟩) ?_)
  refine sq (t := sDrop _) (app_step rfl (fun X Q2 q2 => ⟨_, rfl, rfl, rfl, _, _, rfl, (NoH.app hn), q2⟩) ?_)
  refine sq (t := sDrop _) (app_step rfl (fun X Q2 q2 => ⟨_, rfl, rfl, _, _, rfl, (NoH.app hn), q2⟩) ?_)
  refine sq (t := sDrop _) (app_step rfl (fun X Q2 q2 => ⟨_, rfl, rfl, rfl, _, _, rfl, (NoH.app hn), q2⟩) ?_)
  refine sq (t := sDrop _) (app_step rfl (fun X Q2 q2 => ⟨_, rfl, rfl, _, _, rfl, (NoH.app hn), q2⟩) ?_)
  refine sq (t := sDrop _) (app_step rfl (fun X Q2 q2 => ⟨_, rfl, rfl, rfl, _, _, rfl, (NoH.app hn), q2⟩) ?_)
  refine sq (t := sDrop _) (app_step rfl (fun X Q2 q2 => ⟨_, rfl, rfl, _, _, rfl, (NoH.app hn), q2⟩) ?_)
  refine sq (t := sDrop _) (app_step rfl (fun X Q2 q2 => ⟨_, rfl, rfl, rfl, _, _, rfl, (NoH.app hn), q2⟩) ?_)
  refine sq (t := sDrop _) (app_step rfl (fun X Q2 q2 => ⟨_, rfl, rfl, _, _, _, rfl, (NoH.app hn), q2⟩) ?_)
  refine sq (t := sDrop _) (app_step rfl (fun X Q2 q2 => ⟨_, rfl, rfl, rfl, _, _, _, rfl, (NoH.app hn), q2⟩) ?_)
  refine sq (t := sDrop _) (app_step rfl (fun X Q2 q2 => ⟨_, rfl, rfl, _, _, rfl, (NoH.app hn), q2⟩) ?_)
  refine sq (t := sDrop _) (app_step rfl (fun X Q2 q2 => ⟨_, rfl, rfl, rfl, _, _, rfl, (NoH.app hn), q2⟩) ?_)
  refine sq (t := sDrop _) (app_step rfl (fun X Q2 q2 => ⟨_, rfl, rfl, _, _, rfl, (NoH.app hn), q2⟩) ?_)
  refine sq (t := sDrop _) (app_step rfl (fun X Q2 q2 => ⟨_, rfl, rfl, rfl, _, _, rfl, (NoH.app hn), q2⟩) ?_)
  refine sq (t := sDrop _) (app_step rfl (fun X Q2 q2 => ⟨_, rfl, rfl, _, _, rfl, (NoH.app hn), q2⟩) ?_)
  refine sq (t := sDrop _) (app_step rfl (fun X Q2 q2 => ⟨_, rfl, rfl, rfl, _, _, rfl, (NoH.app hn), q2⟩) ?_)
  refine sq (t := sDrop _) (app_step rfl (fun X Q2 q2 => ⟨_, rfl, rfl, _, _, _, _, rfl, (NoH.app hn), q2⟩) ?_)
  refine sq (t := sDrop _) (app_step rfl (fun X Q2 q2 => ⟨_, rfl, rfl, rfl, _, _, _, _, rfl, (NoH.app hn), q2⟩) ?_)
  exact sq (t := sRet _) (rts (dvr rfl q))
/-! _law_asked_c (_law_odd) slots: 0=_law_odd 1=_law_found -/
abbrev N_law_asked_c : List Str := ["_law_odd", "_law_found"]
abbrev ps_law_asked_c : List Str := ["_law_odd"]
def ft_law_asked_c (A : Str → Addr) : FT := fun ds S Q _ => ∃ d, ds = [d] ∧ NoH S d ∧ Q (.m S.length) (stF S d 30)
def rd_law_asked_c (A : Str → Addr) : TSD :=
 sSeq (sAsg (dLstM (dNil)) (gVar 1))
 (sSeq (sDrop (dBM tyLst mAppend (dVar 1) (dCons (dTried (Xs A) "told" (cl_law_met A) false (dCall 5 (ft_further A) (dCons (dVar 0) (dCons (dC .non) (dCons (dC .non) (dCons (dC .non) (dCons (dC .non) (dNil)))))))) (dNil))))
 (sSeq (sDrop (dBM tyLst mAppend (dVar 1) (dCons (dTried (Xs A) "told" (cl_law_met A) false (dCallK 5 5 (ft_further A) [4, 3, 2, 1, 0] (dCons (dC .non) (dCons (dC .non) (dCons (dC .non) (dCons (dC .non) (dCons (dVar 0) (dNil)))))))) (dNil))))
 (sSeq (sDrop (dBM tyLst mAppend (dVar 1) (dCons (dTried (Xs A) "told" (cl_law_met A) false (dCall 3 (ft_tight A) (dCons (dVar 0) (dCons (dC .non) (dCons (dC .non) (dNil)))))) (dNil))))
 (sSeq (sDrop (dBM tyLst mAppend (dVar 1) (dCons (dTried (Xs A) "told" (cl_law_met A) false (dCallK 3 3 (ft_tight A) [2, 1, 0] (dCons (dC .non) (dCons (dC .non) (dCons (dVar 0) (dNil)))))) (dNil))))
 (sSeq (sDrop (dBM tyLst mAppend (dVar 1) (dCons (dTried (Xs A) "told" (cl_law_met A) false (dCall 4 (ft_bound A) (dCons (dVar 0) (dCons (dC .non) (dCons (dC .non) (dCons (dC .non) (dNil))))))) (dNil))))
 (sSeq (sDrop (dBM tyLst mAppend (dVar 1) (dCons (dTried (Xs A) "told" (cl_law_met A) false (dCallK 4 4 (ft_bound A) [3, 2, 1, 0] (dCons (dC .non) (dCons (dC .non) (dCons (dC .non) (dCons (dVar 0) (dNil))))))) (dNil))))
 (sSeq (sDrop (dBM tyLst mAppend (dVar 1) (dCons (dTried (Xs A) "told" (cl_law_met A) false (dCall 3 (ft_times A) (dCons (dVar 0) (dCons (dC .non) (dCons (dC .non) (dNil)))))) (dNil))))
 (sSeq (sDrop (dBM tyLst mAppend (dVar 1) (dCons (dTried (Xs A) "told" (cl_law_met A) false (dCallK 3 3 (ft_times A) [2, 1, 0] (dCons (dC .non) (dCons (dC .non) (dCons (dVar 0) (dNil)))))) (dNil))))
 (sSeq (sDrop (dBM tyLst mAppend (dVar 1) (dCons (dTried (Xs A) "told" (cl_law_met A) false (dCall 3 (ft_whole_times A) (dCons (dVar 0) (dCons (dC .non) (dCons (dC .non) (dNil)))))) (dNil))))
 (sSeq (sDrop (dBM tyLst mAppend (dVar 1) (dCons (dTried (Xs A) "told" (cl_law_met A) false (dCallK 3 3 (ft_whole_times A) [2, 1, 0] (dCons (dC .non) (dCons (dC .non) (dCons (dVar 0) (dNil)))))) (dNil))))
 (sSeq (sDrop (dBM tyLst mAppend (dVar 1) (dCons (dTried (Xs A) "told" (cl_law_met A) false (dCall 3 (ft_part_for A) (dCons (dVar 0) (dCons (dC .non) (dCons (dC .non) (dNil)))))) (dNil))))
 (sSeq (sDrop (dBM tyLst mAppend (dVar 1) (dCons (dTried (Xs A) "told" (cl_law_met A) false (dCallK 3 3 (ft_part_for A) [2, 1, 0] (dCons (dC .non) (dCons (dC .non) (dCons (dVar 0) (dNil)))))) (dNil))))
 (sSeq (sDrop (dBM tyLst mAppend (dVar 1) (dCons (dTried (Xs A) "told" (cl_law_met A) false (dCall 3 (ft_part_lot A) (dCons (dVar 0) (dCons (dC .non) (dCons (dC .non) (dNil)))))) (dNil))))
 (sSeq (sDrop (dBM tyLst mAppend (dVar 1) (dCons (dTried (Xs A) "told" (cl_law_met A) false (dCallK 3 3 (ft_part_lot A) [2, 1, 0] (dCons (dC .non) (dCons (dC .non) (dCons (dVar 0) (dNil)))))) (dNil))))
 (sSeq (sDrop (dBM tyLst mAppend (dVar 1) (dCons (dTried (Xs A) "told" (cl_law_met A) false (dCall 3 (ft_mix_for A) (dCons (dVar 0) (dCons (dC .non) (dCons (dC .non) (dNil)))))) (dNil))))
 (sSeq (sDrop (dBM tyLst mAppend (dVar 1) (dCons (dTried (Xs A) "told" (cl_law_met A) false (dCallK 3 3 (ft_mix_for A) [2, 1, 0] (dCons (dC .non) (dCons (dC .non) (dCons (dVar 0) (dNil)))))) (dNil))))
 (sSeq (sDrop (dBM tyLst mAppend (dVar 1) (dCons (dTried (Xs A) "told" (cl_law_met A) false (dCall 4 (ft_is_mix_for A) (dCons (dVar 0) (dCons (dC .non) (dCons (dC .non) (dCons (dC .non) (dNil))))))) (dNil))))
 (sSeq (sDrop (dBM tyLst mAppend (dVar 1) (dCons (dTried (Xs A) "told" (cl_law_met A) false (dCallK 4 4 (ft_is_mix_for A) [3, 2, 1, 0] (dCons (dC .non) (dCons (dC .non) (dCons (dC .non) (dCons (dVar 0) (dNil))))))) (dNil))))
 (sSeq (sDrop (dBM tyLst mAppend (dVar 1) (dCons (dTried (Xs A) "told" (cl_law_met A) false (dCall 3 (ft_dearest A) (dCons (dVar 0) (dCons (dC .non) (dCons (dC .non) (dNil)))))) (dNil))))
 (sSeq (sDrop (dBM tyLst mAppend (dVar 1) (dCons (dTried (Xs A) "told" (cl_law_met A) false (dCallK 3 3 (ft_dearest A) [2, 1, 0] (dCons (dC .non) (dCons (dC .non) (dCons (dVar 0) (dNil)))))) (dNil))))
 (sSeq (sDrop (dBM tyLst mAppend (dVar 1) (dCons (dTried (Xs A) "told" (cl_law_met A) false (dCall 3 (ft_dearest_order A) (dCons (dVar 0) (dCons (dC .non) (dCons (dC .non) (dNil)))))) (dNil))))
 (sSeq (sDrop (dBM tyLst mAppend (dVar 1) (dCons (dTried (Xs A) "told" (cl_law_met A) false (dCallK 3 3 (ft_dearest_order A) [2, 1, 0] (dCons (dC .non) (dCons (dC .non) (dCons (dVar 0) (dNil)))))) (dNil))))
 (sSeq (sDrop (dBM tyLst mAppend (dVar 1) (dCons (dTried (Xs A) "told" (cl_law_met A) false (dCall 1 (ft_turned A) (dCons (dVar 0) (dNil)))) (dNil))))
 (sSeq (sDrop (dBM tyLst mAppend (dVar 1) (dCons (dTried (Xs A) "told" (cl_law_met A) false (dCallK 1 1 (ft_turned A) [0] (dCons (dVar 0) (dNil)))) (dNil))))
 (sSeq (sDrop (dBM tyLst mAppend (dVar 1) (dCons (dTried (Xs A) "told" (cl_law_met A) false (dCall 3 (ft_turned_plan A) (dCons (dVar 0) (dCons (dC .non) (dCons (dC .non) (dNil)))))) (dNil))))
 (sSeq (sDrop (dBM tyLst mAppend (dVar 1) (dCons (dTried (Xs A) "told" (cl_law_met A) false (dCallK 3 3 (ft_turned_plan A) [2, 1, 0] (dCons (dC .non) (dCons (dC .non) (dCons (dVar 0) (dNil)))))) (dNil))))
 (sSeq (sDrop (dBM tyLst mAppend (dVar 1) (dCons (dTried (Xs A) "told" (cl_law_met A) false (dCall 2 (ft_first_unlike A) (dCons (dVar 0) (dCons (dC .non) (dNil))))) (dNil))))
 (sSeq (sDrop (dBM tyLst mAppend (dVar 1) (dCons (dTried (Xs A) "told" (cl_law_met A) false (dCallK 2 2 (ft_first_unlike A) [1, 0] (dCons (dC .non) (dCons (dVar 0) (dNil))))) (dNil))))
 (sSeq (sDrop (dBM tyLst mAppend (dVar 1) (dCons (dTried (Xs A) "told" (cl_law_met A) false (dCall 2 (ft_parting A) (dCons (dVar 0) (dCons (dC .non) (dNil))))) (dNil))))
 (sSeq (sDrop (dBM tyLst mAppend (dVar 1) (dCons (dTried (Xs A) "told" (cl_law_met A) false (dCallK 2 2 (ft_parting A) [1, 0] (dCons (dC .non) (dCons (dVar 0) (dNil))))) (dNil))))
 (sSeq (sRet (dVar 1))
 (sNext))))))))))))))))))))))))))))))))
theorem math_law_asked_c (A : Str → Addr) : (Xs A).Nodup → ∀ (ds : List D) (S : Store) (Q : D → Store → Prop) (E : Ex → Prop), ClosedS S.length S → ds.length = 1 → ft_law_asked_c A ds S Q E → rd_law_asked_c A (endsOf .raw S Q E) (startD 2 ds) S := by
  intro hX
  rintro ds S Q E hc _ ⟨d, rfl, hn, q⟩
  have e1 : startD 2 [d] = [some d, none] := rfl
  rw [e1]
  unfold rd_law_asked_c
  refine sq (t := sAsg _ _) (asg (dlst0 (gv ?_)))
  have e2 : S ++ [.lst []] = stF S d 0 := rfl
  rw [e2]
  have e3 : ([some d, none] : Env).set 1 (some (.m S.length)) = [some d, some (.m S.length)] := rfl
  rw [e3]
  refine sq (t := sDrop _) (app_step rfl (fun X Q2 q2 => ⟨_, rfl, rfl, _, _, _, _, _, rfl, (NoH.app hn), q2⟩) ?_)
  refine sq (t := sDrop _) (app_step rfl (fun X Q2 q2 => ⟨_, rfl, rfl, rfl, _, _, _, _, _, rfl, (NoH.app hn), q2⟩) ?_)
  refine sq (t := sDrop _) (app_step rfl (fun X Q2 q2 => ⟨_, rfl, rfl, _, _, _, rfl, (NoH.app hn), q2⟩) ?_)
  refine sq (t := sDrop _) (app_step rfl (fun X Q2 q2 => ⟨_, rfl, rfl, rfl, _, _, _, rfl, (NoH.app hn), q2⟩) ?_)
  refine sq (t := sDrop _) (app_step rfl (fun X Q2 q2 => ⟨_, rfl, rfl, _, _, _, _, rfl, (NoH.app hn), q2⟩) ?_)
  refine sq (t := sDrop _) (app_step rfl (fun X Q2 q2 => ⟨_, rfl, rfl, rfl, _, _, _, _, rfl, (NoH.app hn), q2⟩) ?_)
  refine sq (t := sDrop _) (app_step rfl (fun X Q2 q2 => ⟨_, rfl, rfl, _, _, _, rfl, (NoH.app hn), q2⟩) ?_)
  refine sq (t := sDrop _) (app_step rfl (fun X Q2 q2 => ⟨_, rfl, rfl, rfl, _, _, _, rfl, (NoH.app hn), q2⟩) ?_)
  refine sq (t := sDrop _) (app_step rfl (fun X Q2 q2 => ⟨_, rfl, rfl, _, _, _, rfl, (NoH.app hn), q2⟩) ?_)
  refine sq (t := sDrop _) (app_step rfl (fun X Q2 q2 => ⟨_, rfl, rfl, rfl, _, _, _, rfl, (NoH.app hn), q2⟩) ?_)
  refine sq (t := sDrop _) (app_step rfl (fun X Q2 q2 => ⟨_, rfl, rfl, _, _, _, rfl, (NoH.app hn), q2⟩) ?_)
  refine sq (t := sDrop _) (app_step rfl (fun X Q2 q2 => ⟨_, rfl, rfl, rfl, _, _, _, rfl, (NoH.app hn), q2⟩) ?_)
  refine sq (t := sDrop _) (app_step rfl (fun X Q2 q2 => ⟨_, rfl, rfl, _, _, _, rfl, (NoH.app hn), q2⟩) ?_)
  refine sq (t := sDrop _) (app_step rfl (fun X Q2 q2 => ⟨_, rfl, rfl, rfl, _, _, _, rfl, (NoH.app hn), q2⟩) ?_)
  refine sq (t := sDrop _) (app_step rfl (fun X Q2 q2 => ⟨_, rfl, rfl, _, _, _, rfl, (NoH.app hn), q2⟩) ?_)
  refine sq (t := sDrop _) (app_step rfl (fun X Q2 q2 => ⟨_, rfl, rfl, rfl, _, _, _, rfl, (NoH.app hn), q2⟩) ?_)
  refine sq (t := sDrop _) (app_step rfl (fun X Q2 q2 => ⟨_, rfl, rfl, _, _, _, _, rfl, (NoH.app hn), q2⟩) ?_)
  refine sq (t := sDrop _) (app_step rfl (fun X Q2 q2 => ⟨_, rfl, rfl, rfl, _, _, _, _, rfl, (NoH.app hn), q2⟩) ?_)
  refine sq (t := sDrop _) (app_step rfl (fun X Q2 q2 => ⟨_, rfl, rfl, _, _, _, rfl, (NoH.app hn), q2⟩) ?_)
  refine sq (t := sDrop _) (app_step rfl (fun X Q2 q2 => ⟨_, rfl, rfl, rfl, _, _, _, rfl, (NoH.app hn), q2⟩) ?_)
  refine sq (t := sDrop _) (app_step rfl (fun X Q2 q2 => ⟨_, rfl, rfl, _, _, _, rfl, (NoH.app hn), q2⟩) ?_)
  refine sq (t := sDrop _) (app_step rfl (fun X Q2 q2 => ⟨_, rfl, rfl, rfl, _, _, _, rfl, (NoH.app hn), q2⟩) ?_)
  refine sq (t := sDrop _) (app_step rfl (fun X Q2 q2 => ⟨_, rfl, rfl, _, rfl, (NoH.app hn), q2⟩) ?_)
  refine sq (t := sDrop _) (app_step rfl (fun X Q2 q2 => ⟨_, rfl, rfl, rfl, _, rfl, (NoH.app hn), q2⟩) ?_)
  refine sq (t := sDrop _) (app_step rfl (fun X Q2 q2 => ⟨_, rfl, rfl, _, _, _, rfl, (NoH.app hn), q2⟩) ?_)
  refine sq (t := sDrop _) (app_step rfl (fun X Q2 q2 => ⟨_, rfl, rfl, rfl, _, _, _, rfl, (NoH.app hn), q2⟩) ?_)
  refine sq (t := sDrop _) (app_step rfl (fun X Q2 q2 => ⟨_, rfl, rfl, _, _, rfl, (NoH.app hn), q2⟩) ?_)
  refine sq (t := sDrop _) (app_step rfl (fun X Q2 q2 => ⟨_, rfl, rfl, rfl, _, _, rfl, (NoH.app hn), q2⟩) ?_)
  refine sq (t := sDrop _) (app_step rfl (fun X Q2 q2 => ⟨_, rfl, rfl, _, _, rfl, (NoH.app hn), q2⟩) ?_)
  refine sq (t := sDrop _) (app_step rfl (fun X Q2 q2 => ⟨_, rfl, rfl, rfl, _, _, rfl, (NoH.app hn), q2⟩) ?_)
  exact sq (t := sRet _) (rts (dvr rfl q))
abbrev N_law_met : List Str := ["_law_ask", "e"]
abbrev ps_law_met : List Str := ["_law_ask"]
/-! law (_law_script) slots: 0=_law_script 1=_law_stream_here 2=_law_house_here 3=_law_odd 4=_law_found -/
abbrev N_law : List Str := ["_law_script", "_law_stream_here", "_law_house_here", "_law_odd", "_law_found"]
abbrev ps_law : List Str := ["_law_script"]
def rd_law (A : Str → Addr) : TSD :=
 sSeq (sAsg (dCall 4 (ft_law_house A) (dCons (dVar 1) (dCons (dC (.int 4)) (dCons (dC (.int 5)) (dCons (dC (.int 3)) (dNil)))))) (gVar 2))
 (sSeq (sFor (iSeq (dTupM (dCons (dC .non) (dCons (dC (.int 5)) (dCons (dC (.str "house")) (dCons (dC (.bl true)) (dCons (dTup (dNil)) (dCons (dDispC (([(.inr "a", .int 0)] : List (Key × V)).map fun p => (p.1, .v p.2))) (dCons (dCB cListM (dCons (dVar 2) (dNil))) (dCons (dVar 2) (dCons (dLstM (dCons (dLstM (dCons (dOp oIx (dVar 2) (dC (.int 0))) (dNil))) (dCons (dC (.int 1)) (dNil)))) (dNil)))))))))))) (gVar 3)
 (sSeq (sAsg (dOp oCatM (dOp oCatM (dCall 1 (ft_law_asked_a A) (dCons (dVar 3) (dNil))) (dCall 1 (ft_law_asked_b A) (dCons (dVar 3) (dNil)))) (dCall 1 (ft_law_asked_c A) (dCons (dVar 3) (dNil)))) (gVar 4))
 (sSeq (sDrop (dBM tyLst mAppend (dVar 4) (dCons (dTried (Xs A) "told" (cl_law_met A) false (dMake (A "Desk") 3 (ft_Desk_init A) (dCons (dVar 3) (dCons (dC .non) (dNil))))) (dNil))))
 (sSeq (sDrop (dBM tyLst mAppend (dVar 4) (dCons (dTried (Xs A) "told" (cl_law_met A) false (dMakeK (A "Desk") 3 2 (ft_Desk_init A) [1, 0] (dCons (dC .non) (dCons (dVar 3) (dNil))))) (dNil))))
 (sSeq (sIf (dB (dCB (cIsi (Cs A)) (dCons (dVar 3) (dCons (dC (.ty "list")) (dNil)))))
 (sSeq (sDrop (dBM tyLst mAppend (dVar 3) (dCons (dC (.str "late")) (dNil))))
 (sNext))
 (sNext))
 (sSeq (sIf (dNotT (dB (dRO 2 (ft_law_same A) (dCons (dVar 4) (dCons (dOp oRepM (dLstM (dCons (dTupM (dCons (dC (.str "house")) (dCons (dVar 3) (dNil)))) (dNil))) (dCB cLen (dCons (dVar 4) (dNil)))) (dNil))))))
 (sSeq (sRet (dC (.bl false)))
 (sNext))
 (sNext))
 (sNext)))))))
 (sSeq (sRet (dC (.bl true)))
 (sNext)))
/-! the store of the law: what is asked with, then refusals and lists of such -/
def dOk (d : D) : Prop := (∃ x, d = .t x) ∨ ∃ j, d = .m j ∧ 2 ≤ j ∧ j < 5
def COk (S : Store) (c : Cell) : Prop := (∃ C, c = .ins C []) ∨ (∃ x d, c = .tup [.t x, d] ∧ dOk d) ∨ ∃ ms : List Nat, c = .lst (ms.map .m) ∧ ∀ j ∈ ms, 6 ≤ j ∧ ∃ x d, S[j]? = some (.tup [.t x, d])
structure Gd (b : Nat) (t2 t4 : List T) (m : T) (its : List D) (S : Store) : Prop where
  pre : S.take 2 = st b []
  c2 : S[2]? = some (.lst (t2.map .t))
  c3 : S[3]? = some (.lst ([m].map .t))
  c4 : S[4]? = some (.lst (.m 3 :: t4.map .t))
  c5 : S[5]? = some (.tup its)
  len : 6 ≤ S.length
  ok : ∀ i c, 6 ≤ i → S[i]? = some c → COk S c
theorem gt_app {S X : Store} {j : Nat} {c : Cell} (h : S[j]? = some c) : (S ++ X)[j]? = some c := by
  rw [List.getElem?_append_left (List.getElem?_eq_some_iff.mp h).1]; exact h
theorem COk.app {S X : Store} {c : Cell} (h : COk S c) : COk (S ++ X) c := by
  rcases h with h | h | ⟨ms, h1, h2⟩
  · exact .inl h
  · exact .inr (.inl h)
  · refine .inr (.inr ⟨ms, h1, fun j hj => ?_⟩)
    obtain ⟨h3, x, d, h4⟩ := h2 j hj
    exact ⟨h3, x, d, gt_app h4⟩
/-- the places ms hold refusals of d -/
def HTs (S : Store) (d : D) (ms : List Nat) : Prop := ∀ j ∈ ms, 6 ≤ j ∧ S[j]? = some (.tup [.t (.str "house"), d])
theorem HTs.app {S X : Store} {d : D} {ms : List Nat} (h : HTs S d ms) : HTs (S ++ X) d ms := fun j hj => ⟨(h j hj).1, gt_app (h j hj).2⟩
theorem HTs.cat {S : Store} {d : D} {ms ns : List Nat} (h : HTs S d ms) (h2 : HTs S d ns) : HTs S d (ms ++ ns) := fun j hj => by
  rcases List.mem_append.mp hj with hj | hj
  · exact h j hj
  · exact h2 j hj
section
variable {b : Nat} {t2 t4 : List T} {m : T} {its : List D} {S : Store} {d : D}
theorem HTs.ok {ms : List Nat} (h : HTs S d ms) : COk S (.lst (ms.map .m)) := .inr (.inr ⟨ms, rfl, fun j hj => ⟨(h j hj).1, _, _, (h j hj).2⟩⟩)
theorem Gd.app {X : Store} (h : Gd b t2 t4 m its S) (hX : ∀ c ∈ X, COk (S ++ X) c) : Gd b t2 t4 m its (S ++ X) where
  pre := by rw [List.take_append_of_le_length (by have := h.len; omega)]; exact h.pre
  c2 := gt_app h.c2
  c3 := gt_app h.c3
  c4 := gt_app h.c4
  c5 := gt_app h.c5
  len := by have := h.len; simp; omega
  ok := fun i c hi e => by
    rcases Nat.lt_or_ge i S.length with hl | hl
    · rw [List.getElem?_append_left hl] at e; exact (h.ok i c hi e).app
    · rw [List.getElem?_append_right hl] at e; exact hX c (List.mem_of_getElem? e)
theorem Gd.one {c : Cell} (h : Gd b t2 t4 m its S) (hc : COk (S ++ [c]) c) : Gd b t2 t4 m its (S ++ [c]) := h.app fun c' hc' => by
  have : c' = c := by simpa using hc'
  subst this; exact hc
theorem Gd.tup {x : T} (h : Gd b t2 t4 m its S) (hd : dOk d) : Gd b t2 t4 m its (S ++ [.tup [.t x, d]]) := h.one (.inr (.inl ⟨x, d, rfl, hd⟩))
theorem Gd.ins {C : Addr} (h : Gd b t2 t4 m its S) : Gd b t2 t4 m its (S ++ [.ins C []]) := h.one (.inl ⟨C, rfl⟩)
theorem Gd.lst {ms : List Nat} (h : Gd b t2 t4 m its S) (hm : HTs S d ms) : Gd b t2 t4 m its (S ++ [.lst (ms.map .m)]) := h.one hm.app.ok
theorem stF_tups {k : Nat} (h : 6 ≤ S.length) : HTs (stF S d k) d ((List.range k).map fun i => S.length + 1 + i) := fun j hj => by
  obtain ⟨i, hi, rfl⟩ := List.mem_map.mp hj
  have hi := List.mem_range.mp hi
  refine ⟨by omega, ?_⟩
  unfold stF
  rw [List.getElem?_append_right (by omega), show S.length + 1 + i - S.length = i + 1 by omega, List.getElem?_cons_succ, List.getElem?_replicate, if_pos hi]
theorem Gd.stF {k : Nat} (h : Gd b t2 t4 m its S) (hd : dOk d) : Gd b t2 t4 m its (stF S d k) := by
  have ht := stF_tups (d := d) (k := k) h.len
  refine h.app fun c hc => ?_
  rcases List.mem_cons.mp hc with rfl | hc
  · have := ht.ok
    rw [List.map_map] at this
    exact this
  · rw [List.mem_replicate] at hc
    rw [hc.2]
    exact .inr (.inl ⟨_, _, rfl, hd⟩)
/-- the list told, and what it holds -/
theorem stF_ms {k : Nat} (h : 6 ≤ S.length) : ∃ (ms : List Nat) (X : Store), DL.stF S d k = S ++ X ∧ ms.length = k ∧ (DL.stF S d k)[S.length]? = some (.lst (ms.map .m)) ∧ HTs (DL.stF S d k) d ms :=
  ⟨_, _, rfl, by simp, by rw [stF_at, List.map_map]; rfl, stF_tups h⟩
theorem Gd.setF {f : Nat} {ds : List D} {ms : List Nat} (h : Gd b t2 t4 m its S) (hf : 6 ≤ f) (hl : S[f]? = some (.lst ds)) (hm : HTs S d ms) : Gd b t2 t4 m its (S.set f (.lst (ms.map .m))) ∧ ∀ e ns, HTs S e ns → HTs (S.set f (.lst (ms.map .m))) e ns := by
  have key : ∀ j c, S[j]? = some c → (∀ es, c ≠ Cell.lst es) → (S.set f (.lst (ms.map .m)))[j]? = some c := fun j c hj hc => by
    by_cases hjf : f = j
    · subst hjf; rw [hl] at hj; exact absurd (Option.some.inj hj).symm (hc _)
    · rw [List.getElem?_set_ne hjf]; exact hj
  have ht : ∀ e ns, HTs S e ns → HTs (S.set f (.lst (ms.map .m))) e ns := fun e ns hn j hj => ⟨(hn j hj).1, key _ _ (hn j hj).2 fun es z => by cases z⟩
  refine ⟨⟨by rw [List.take_set_of_le (by omega)]; exact h.pre, by rw [List.getElem?_set_ne (by omega)]; exact h.c2, by rw [List.getElem?_set_ne (by omega)]; exact h.c3, by rw [List.getElem?_set_ne (by omega)]; exact h.c4, by rw [List.getElem?_set_ne (by omega)]; exact h.c5, by simpa using h.len, fun i c hi e => ?_⟩, ht⟩
  by_cases hif : f = i
  · subst hif
    rw [List.getElem?_set_self (List.getElem?_eq_some_iff.mp hl).1] at e
    cases e
    exact (ht _ _ hm).ok
  · rw [List.getElem?_set_ne hif] at e
    rcases h.ok i c hi e with h1 | h1 | ⟨ns, h1, h2⟩
    · exact .inl h1
    · exact .inr (.inl h1)
    · refine .inr (.inr ⟨ns, h1, fun j hj => ?_⟩)
      obtain ⟨h3, x, d', h4⟩ := h2 j hj
      exact ⟨h3, x, d', key _ _ h4 fun es z => by cases z⟩
theorem COk.low {k : Nat} {c0 c : Cell} (hk : k < 6) (h : COk S c) : COk (S.set k c0) c := by
  rcases h with h | h | ⟨ms, h1, h2⟩
  · exact .inl h
  · exact .inr (.inl h)
  · refine .inr (.inr ⟨ms, h1, fun j hj => ?_⟩)
    obtain ⟨h3, x, d, h4⟩ := h2 j hj
    exact ⟨h3, x, d, by rw [List.getElem?_set_ne (by omega)]; exact h4⟩
theorem Gd.late2 {t : List T} (h : Gd b t2 t4 m its S) : Gd b t t4 m its (S.set 2 (.lst (t.map .t))) where
  pre := by rw [List.take_set_of_le (Nat.le_refl _)]; exact h.pre
  c2 := List.getElem?_set_self (by have := h.len; omega)
  c3 := by rw [List.getElem?_set_ne (by omega)]; exact h.c3
  c4 := by rw [List.getElem?_set_ne (by omega)]; exact h.c4
  c5 := by rw [List.getElem?_set_ne (by omega)]; exact h.c5
  len := by simpa using h.len
  ok := fun i c hi e => by
    rw [List.getElem?_set_ne (by omega)] at e
    exact (h.ok i c hi e).low (by omega)
theorem Gd.late4 {t : List T} (h : Gd b t2 t4 m its S) : Gd b t2 t m its (S.set 4 (.lst (.m 3 :: t.map .t))) where
  pre := by rw [List.take_set_of_le (by omega)]; exact h.pre
  c2 := by rw [List.getElem?_set_ne (by omega)]; exact h.c2
  c3 := by rw [List.getElem?_set_ne (by omega)]; exact h.c3
  c4 := List.getElem?_set_self (by have := h.len; omega)
  c5 := by rw [List.getElem?_set_ne (by omega)]; exact h.c5
  len := by simpa using h.len
  ok := fun i c hi e => by
    rw [List.getElem?_set_ne (by omega)] at e
    exact (h.ok i c hi e).low (by omega)
def rkL (S : Store) (i : Nat) : Nat := if i < 6 then i else match S[i]? with
  | some (.lst _) => 8
  | some (.tup _) => 7
  | _ => 6
theorem Gd.allFz (h : Gd b t2 t4 m its S) (hl : 8 ≤ S.length) (hi : ∀ d ∈ its, dOk d) : AllFz S := by
  have hk : KR (st b []) (rkL S) S := by
    refine ⟨h.pre, by show 2 ≤ _; omega, fun i c hi2 e => ?_⟩
    have hi2 : 2 ≤ i := hi2
    show c.plain = true ∧ ∀ d ∈ dsOf c, refR 2 S.length (rkL S) (rkL S i) d
    have tree : ∀ (ts : List T) r, ∀ d ∈ ts.map D.t, refR 2 S.length (rkL S) r d := fun ts r d hd => by
      obtain ⟨t, _, rfl⟩ := List.mem_map.mp hd
      exact .inl ⟨t, rfl⟩
    have low : ∀ j, 2 ≤ j → j < 5 → ∀ r, 5 ≤ r → refR 2 S.length (rkL S) r (.m j) := fun j h1 h2 r hr => .inr ⟨j, rfl, h1, by omega, by unfold rkL; rw [if_pos (by omega)]; omega⟩
    have lowd : ∀ d, dOk d → ∀ r, 5 ≤ r → refR 2 S.length (rkL S) r d := fun d hd r hr => by
      rcases hd with ⟨x, rfl⟩ | ⟨j, rfl, h1, h2⟩
      · exact .inl ⟨x, rfl⟩
      · exact low j h1 h2 r hr
    by_cases h6 : 6 ≤ i
    · have hr : 5 ≤ rkL S i := by unfold rkL; rw [if_neg (by omega)]; split <;> omega
      rcases h.ok i c h6 e with ⟨C, rfl⟩ | ⟨x, d, rfl, hd⟩ | ⟨ms, rfl, hm⟩
      · exact ⟨rfl, fun d hd => by simp [dsOf] at hd⟩
      · refine ⟨rfl, fun e' he' => ?_⟩
        have he' : e' ∈ [D.t x, d] := he'
        simp only [List.mem_cons, List.not_mem_nil, or_false] at he'
        rcases he' with rfl | rfl
        · exact .inl ⟨_, rfl⟩
        · exact lowd _ hd _ hr
      · refine ⟨rfl, fun e' he' => ?_⟩
        obtain ⟨j, hj, rfl⟩ := List.mem_map.mp (show e' ∈ ms.map D.m from he')
        obtain ⟨h7, x, d, h8⟩ := hm j hj
        have h9 := (List.getElem?_eq_some_iff.mp h8).1
        refine .inr ⟨j, rfl, by omega, h9, ?_⟩
        unfold rkL
        rw [if_neg (by omega), if_neg (by omega), h8, e]
        show 7 < 8
        decide
    · have hri : rkL S i = i := by unfold rkL; rw [if_pos (by omega)]
      rw [hri]
      have : i = 2 ∨ i = 3 ∨ i = 4 ∨ i = 5 := by omega
      rcases this with rfl | rfl | rfl | rfl
      · rw [h.c2] at e; cases e; exact ⟨rfl, tree _ _⟩
      · rw [h.c3] at e; cases e; exact ⟨rfl, tree _ _⟩
      · rw [h.c4] at e; cases e
        refine ⟨rfl, fun d hd => ?_⟩
        rcases List.mem_cons.mp (show d ∈ D.m 3 :: t4.map D.t from hd) with rfl | hd
        · exact .inr ⟨3, rfl, by omega, by omega, by unfold rkL; rw [if_pos (by omega)]; omega⟩
        · exact tree _ _ d hd
      · rw [h.c5] at e; cases e
        exact ⟨rfl, fun d hd => lowd d (hi d hd) _ (Nat.le_refl _)⟩
  refine hk.allFz allFz_0 fun i => ?_
  unfold rkL
  split
  · omega
  · split <;> omega
/-- a list of refusals of d, as a tree -/
theorem frzL_same {n f : Nat} {x : T} : ∀ {ms : List Nat}, (∀ j ∈ ms, frz n S f (.m j) = some x) → frzL n S f (ms.map .m) = some (List.replicate ms.length x)
  | [], _ => by unfold frzL; rfl
  | j :: ms, h => by
    show frzL n S f (D.m j :: ms.map .m) = _
    unfold frzL
    rw [h j (by simp), frzL_same fun k hk => h k (by simp [hk])]
    rfl
theorem tree_told {f : Nat} {x : T} {ms : List Nat} (hl : 6 ≤ S.length) (hf : S[f]? = some (.lst (ms.map .m))) (hm : HTs S d ms) (hx : ∀ n, frz 0 S (n + 3) d = some x) : D.tree S (.m f) = some (.lst (List.replicate ms.length (.tup [.str "house", x]))) := by
  obtain ⟨n, hn⟩ : ∃ n, S.length = n + 4 := ⟨S.length - 4, by omega⟩
  show frz 0 S (S.length + 1) (.m f) = _
  rw [hn]
  unfold frz
  rw [hf]
  show (if 0 ≤ f then (frzL 0 S (n + 4) (ms.map .m)).map T.lst else none) = _
  rw [if_pos (Nat.zero_le _), frzL_same (x := .tup [.str "house", x]) fun j hj => ?_]
  · rfl
  · unfold frz
    rw [(hm j hj).2]
    show (if 0 ≤ j then (frzL 0 S (n + 3) [.t (.str "house"), d]).map T.tup else none) = _
    rw [if_pos (Nat.zero_le _)]
    unfold frzL
    rw [show frz 0 S (n + 3) (.t (.str "house")) = some (.str "house") from by unfold frz; rfl]
    unfold frzL
    rw [hx n]
    unfold frzL
    rfl
end

/-! ### small steps -/
theorem rox {A : Str → Addr} {t : TAD} {X : XQ} {ρ : Env} {S : Store} {Q : D → Store → Prop} (q : t X ρ S fun ds S1 => ds.length = 2 ∧ AllFz S1 ∧ ∃ ts, trees S1 ds = some ts ∧ ft_law_same A (ts.map .t) (frzS S1) (fun d S2 => S2 = frzS S1 ∧ ∃ v, d = .t (.v v) ∧ Q d S1) fun _ => False) : dRO 2 (ft_law_same A) t X ρ S Q := q
/-- one more refusal -/
theorem app_one {A : Str → Addr} {S : Store} {d : D} {f i : Nat} {ms : List Nat} {b : Nat} {t2 t4 : List T} {m : T} {its : List D} {ρ : Env} {De : DEnds} {te : TED} (S2 : Store) (h1 : ρ[i]? = some (some (.m f))) (hf : 6 ≤ f) (hS : S[f]? = some (.lst (ms.map .m))) (hl : ms.length ≤ 1000)
    (hG : Gd b t2 t4 m its S2) (hS2 : S2[f]? = some (.lst (ms.map .m))) (hm : HTs S2 d ms) (hd : dOk d) (hte : ∀ (X : XQ) (Q : D → Store → Prop), X (A "BadHouse", [("thing", d)]) S2 → te X ρ S Q)
    (q : ∀ S3 ns, Gd b t2 t4 m its S3 → S3[f]? = some (.lst (ns.map .m)) → HTs S3 d ns → ns.length = ms.length + 1 → S2.length < S3.length → De.nx ρ S3) :
    sDrop (dBM tyLst mAppend (dVar i) (dCons (dTried (Xs A) "told" (cl_law_met A) false te) dNil)) De ρ S := by
  refine drp (bm (dvr h1 ⟨tyLst_m hS, dcons1 (hte _ _ ⟨by simp [Xs], ?_⟩)⟩))
  unfold cl_law_met hndD
  rw [if_pos rfl]
  refine ⟨_, rfl, .inr ?_⟩
  show mAppend (.m f) [.m S2.length] (S2 ++ [.tup [.t (.str "house"), d]]) _
  have hfl := (List.getElem?_eq_some_iff.mp hS2).1
  have g : (S2 ++ [Cell.tup [.t (.str "house"), d]])[f]? = some (.lst (ms.map .m)) := gt_app hS2
  have hG2 : Gd b t2 t4 m its (S2 ++ [Cell.tup [.t (.str "house"), d]]) := hG.tup hd
  have hm2 : HTs (S2 ++ [Cell.tup [.t (.str "house"), d]]) d (ms ++ [S2.length]) := by
    refine hm.app.cat fun j hj => ?_
    have : j = S2.length := by simpa using hj
    subst this
    exact ⟨hG.len, by rw [List.getElem?_append_right (Nat.le_refl _)]; simp⟩
  refine append_of g (Nat.lt_of_le_of_lt (m := 1000) (by simpa using hl) (by decide)) ?_
  have e : ms.map D.m ++ [D.m S2.length] = (ms ++ [S2.length]).map D.m := by simp
  rw [e]
  obtain ⟨h3, h4⟩ := hG2.setF hf g hm2
  exact q _ _ h3 (List.getElem?_set_self (by simp; omega)) (h4 _ _ hm2) (by simp) (by simp)
/-- what is asked with -/
def Odd (t2 t4 : List T) (m : T) (d : D) (x : T) : Prop := (d = .t x ∧ isLst x = false) ∨ (d = .m 2 ∧ x = .lst t2) ∨ (d = .m 4 ∧ x = .lst (.lst [m] :: t4))
theorem late_step {A : Str → Addr} {S : Store} {d : D} {b : Nat} {t2 t4 u2 u4 : List T} {m x : T} {its : List D} {ρ : Env} {De : DEnds} (h1 : ρ[3]? = some (some d)) (hG : Gd b t2 t4 m its S)
    (hc : (∃ y, d = .t y ∧ ok1 (Cs A) y ∧ isLst y = false ∧ x = y ∧ u2 = t2 ∧ u4 = t4) ∨ (d = .m 2 ∧ u2 = t2 ++ [.str "late"] ∧ u4 = t4 ∧ x = .lst u2) ∨ (d = .m 4 ∧ u2 = t2 ∧ u4 = t4 ++ [.str "late"] ∧ x = .lst (.lst [m] :: u4))) (hl2 : t2.length ≤ 1000) (hl4 : t4.length ≤ 1000)
    (q : ∀ S2, Gd b u2 u4 m its S2 → S2.length = S.length → (∀ j, 6 ≤ j → S2[j]? = S[j]?) → (∀ S3 : Store, (∀ (j : Nat) (c : Cell), S2[j]? = some c → S3[j]? = some c) → ∀ n, frz 0 S3 (n + 3) d = some x) → De.nx ρ S2) :
    sIf (dB (dCB (cIsi (Cs A)) (dCons (dVar 3) (dCons (dC (.ty "list")) (dNil))))) (sSeq (sDrop (dBM tyLst mAppend (dVar 3) (dCons (dC (.str "late")) (dNil)))) sNext) sNext De ρ S := by
  rcases hc with ⟨y, rfl, hy, hyl, rfl, rfl, rfl⟩ | ⟨rfl, rfl, rfl, rfl⟩ | ⟨rfl, rfl, rfl, rfl⟩
  · refine ifx (dbx (dcb2 (dvr h1 ((isi_list hy).mpr ⟨false, by rw [hyl], ?_⟩))))
    exact q S hG rfl (fun j _ => rfl) fun S3 _ n => by unfold frz; rfl
  · have hty : tyD S (.m 2) = some .list := by show (S[2]?).bind tyC = _; rw [hG.c2]; rfl
    refine ifx (dbx (dcb2 (dvr h1 ⟨.m 2, .list, hty, .inl ⟨_, true, rfl, rfl, true, rfl, ?_⟩⟩)))
    refine sq (t := sDrop _) (drp (bm (dvr h1 ⟨tyLst_m hG.c2, ctL (xs := [.str "late"]) (isL_cons is_c isL_nil) (append_of (y := .t (.str "late")) hG.c2 (Nat.lt_of_le_of_lt (m := 1000) (by simpa using hl2) (by decide)) ?_)⟩)))
    have e : t2.map D.t ++ [D.t (.str "late")] = (t2 ++ [T.str "late"]).map D.t := by simp
    rw [e]
    refine q _ hG.late2 (by simp) (fun j hj => List.getElem?_set_ne (by omega)) fun S3 up n => ?_
    exact frz_lst (up _ _ (hG.late2 (t := t2 ++ [T.str "late"])).c2) (Nat.zero_le _)
  · have hty : tyD S (.m 4) = some .list := by show (S[4]?).bind tyC = _; rw [hG.c4]; rfl
    refine ifx (dbx (dcb2 (dvr h1 ⟨.m 4, .list, hty, .inl ⟨_, true, rfl, rfl, true, rfl, ?_⟩⟩)))
    refine sq (t := sDrop _) (drp (bm (dvr h1 ⟨tyLst_m hG.c4, ctL (xs := [.str "late"]) (isL_cons is_c isL_nil) (append_of (y := .t (.str "late")) hG.c4 (Nat.lt_of_le_of_lt (m := 1001) (by simp; omega) (by decide)) ?_)⟩)))
    have e : D.m 3 :: t4.map D.t ++ [D.t (.str "late")] = D.m 3 :: (t4 ++ [T.str "late"]).map D.t := by simp
    rw [e]
    have h2 := hG.late4 (t := t4 ++ [T.str "late"])
    refine q _ h2 (by simp) (fun j hj => List.getElem?_set_ne (by omega)) fun S3 up n => ?_
    unfold frz
    rw [up _ _ h2.c4]
    show (if 0 ≤ 4 then (frzL 0 _ (n + 2) (.m 3 :: (t4 ++ [T.str "late"]).map .t)).map T.lst else none) = _
    rw [if_pos (Nat.zero_le _)]
    unfold frzL
    rw [frz_lst (up _ _ h2.c3) (Nat.zero_le _), frzL_map]
    rfl

theorem dcb1 {r : RAD} {a : TED} {X : XQ} {ρ : Env} {S : Store} {Q : D → Store → Prop} (q : a X ρ S fun d S1 => r [d] S1 Q) : dCB r (dCons a dNil) X ρ S Q := q
theorem dtupMx {ta : TAD} {X : XQ} {ρ : Env} {S : Store} {Q : D → Store → Prop} (q : ta X ρ S fun ds S1 => ds.length ≤ sizeLine ∧ Q (.m S1.length) (S1 ++ [.tup ds])) : dTupM ta X ρ S Q := q
/-- the list of refusals is what is due -/
theorem due_step {A : Str → Addr} {S : Store} {d : D} {b f : Nat} {ms : List Nat} {t2 t4 : List T} {m x : T} {its : List D} {ρ : Env} {X : XQ} {P P2 : Store → Prop} (h3 : ρ[3]? = some (some d)) (h4 : ρ[4]? = some (some (.m f))) (hG : Gd b t2 t4 m its S) (hd : dOk d) (hi : ∀ d ∈ its, dOk d)
    (hf : S[f]? = some (.lst (ms.map .m))) (hm : HTs S d ms) (hl : ms.length ≤ 1000) (hx : ∀ S2 : Store, (∀ (j : Nat) (c : Cell), S[j]? = some c → S2[j]? = some c) → ∀ n, frz 0 S2 (n + 3) d = some x) (hsd : sd 6 (.lst (List.replicate ms.length (.tup [.str "house", x]))) = true) (q : ∀ S2, Gd b t2 t4 m its S2 → P2 S2) :
    dRO 2 (ft_law_same A) (dCons (dVar 4) (dCons (dOp oRepM (dLstM (dCons (dTupM (dCons (dC (.str "house")) (dCons (dVar 3) (dNil)))) (dNil))) (dCB cLen (dCons (dVar 4) (dNil)))) (dNil))) X ρ S fun d S3 => ∃ p, d = .bl p ∧ (if (!p) = true then P S3 else P2 S3) := by
  have hz1 : (100010 : Nat) ≤ sizeLine := by decide
  have g1 : Gd b t2 t4 m its (S ++ [.tup [.t (.str "house"), d]]) := hG.tup hd
  have m1 : HTs (S ++ [.tup [.t (.str "house"), d]]) d [S.length] := fun j hj => by
    have : j = S.length := by simpa using hj
    subst this
    exact ⟨hG.len, by simp⟩
  have g2 : Gd b t2 t4 m its (S ++ [.tup [.t (.str "house"), d]] ++ [.lst ([S.length].map .m)]) := g1.lst m1
  have m3 : HTs (S ++ [.tup [.t (.str "house"), d]] ++ [.lst ([S.length].map .m)]) d (List.replicate ms.length S.length) := fun j hj => by
    have := (List.mem_replicate.mp hj).2
    subst this
    exact m1.app _ (by simp)
  have g3 := g2.lst m3
  refine rox (dconsx (dvr h4 (dcons1 (dop (lstx (dcons1 (dtupMx (dconsx (ev1 is_c (dcons1 (dvr h3 ⟨Nat.le_trans (by simp) hz1, Nat.le_trans (by simp) hz1, ?_⟩))))))))))) 
  refine dcb1 (dvr h4 ?_)
  have f1 : (S ++ [.tup [.t (.str "house"), d]] ++ [.lst ([S.length].map .m)])[f]? = some (.lst (ms.map .m)) := gt_app (gt_app hf)
  have e1 : (S ++ [Cell.tup [.t (.str "house"), d]]).length = S.length + 1 := by simp
  show cLen [.m f] (S ++ [.tup [.t (.str "house"), d]] ++ [.lst ([S.length].map .m)]) _
  rw [cLen_m f1]
  have f2 : (S ++ [.tup [.t (.str "house"), d]] ++ [.lst ([S.length].map .m)])[S.length + 1]? = some (.lst ([S.length].map .m)) := by rw [← e1, List.getElem?_append_right (Nat.le_refl _)]; simp
  rw [List.length_map]
  have e2 : (List.replicate ((ms.length : Int)).toNat ([S.length].map D.m)).flatten = (List.replicate ms.length S.length).map D.m := by
    rw [Int.toNat_natCast]; simp
  refine ⟨_, (ms.length : Int), seqL_m (by rw [e1]; exact f2), rfl, by omega, by omega, Nat.le_trans (by simp; omega) hz1, ?_⟩
  rw [e2]
  generalize hS3 : S ++ [Cell.tup [.t (.str "house"), d]] ++ [Cell.lst ([S.length].map .m)] ++ [Cell.lst ((List.replicate ms.length S.length).map .m)] = S3
  have up : ∀ (j : Nat) (c : Cell), S[j]? = some c → S3[j]? = some c := fun j c h => by rw [← hS3]; exact gt_app (gt_app (gt_app h))
  have g4 : Gd b t2 t4 m its S3 := by rw [← hS3]; exact g3
  have f4 : S3[(S ++ [Cell.tup [.t (.str "house"), d]] ++ [Cell.lst ([S.length].map .m)]).length]? = some (.lst ((List.replicate ms.length S.length).map .m)) := by
    rw [← hS3, List.getElem?_append_right (Nat.le_refl _)]; simp
  have m4 : HTs S3 d (List.replicate ms.length S.length) := by rw [← hS3]; exact m3.app
  have x1 := tree_told (f := f) g4.len (up _ _ hf) (fun j hj => ⟨(hm j hj).1, up _ _ (hm j hj).2⟩) (hx S3 up)
  have x2 := tree_told g4.len f4 m4 (hx S3 up)
  rw [List.length_replicate] at x2
  refine ⟨rfl, g4.allFz (by have := hG.len; rw [← hS3]; simp; omega) hi, [_, _], ?_, _, _, rfl, hsd, by decide, rfl, rfl, _, rfl, true, rfl, q _ g4⟩
  show trees S3 [.m f, .m _] = _
  simp only [trees, x1, x2]
theorem iseqx {e : TED} {X : XQ} {ρ : Env} {S : Store} {R : ItD → Store → Prop} (q : e X ρ S fun d S1 => ∃ ds, (seqL S1 d = some ds ∧ R ⟨ds, Stays ds seqL d⟩ S1) ∨ (seqT S1 d = some ds ∧ R ⟨ds, Stays ds seqT d⟩ S1)) : iSeq e X ρ S R := q
theorem is_disp {kvs : List (Key × T)} {ρ : Env} : Is (dDispC kvs) (.dct (mergeT [] kvs)) ρ := fun X S Q q => q
def hsL (many : Int) (rs dr : List (List T)) : List T := [.int many, .lst (rs.map .tup), .lst (dr.map .tup)]
def oddT : T := .dct (mergeT [] [(.inr "a", .int 0)])
def itsL (many : Int) (rs dr : List (List T)) : List D := [.t (.v .non), .t (.int 5), .t (.str "house"), .t (.v (.bl true)), .t (.tup []), .t oddT, .m 2, .t (.tup (hsL many rs dr)), .m 4]
def T2 (many : Int) (rs dr : List (List T)) (i : Nat) : List T := if 6 < i then hsL many rs dr ++ [.str "late"] else hsL many rs dr
def T4 (i : Nat) : List T := if 8 < i then [.int 1] ++ [.str "late"] else [.int 1]
/-- a thing of data that is no list -/
def OdT (y : T) : Prop := (∃ ty, tyT y = some ty ∧ ty.pl) ∧ isLst y = false ∧ sd 4 y = true
theorem sd_hs {many : Int} {rs dr : List (List T)} (hro : RoadsOk many rs) (hdo : DoorsOk many dr) (h1 : rs.length ≤ 200) (h2 : dr.length ≤ 200) : ∀ t ∈ hsL many rs dr, sd 3 t = true := by
  obtain ⟨rk, hr⟩ := hro
  obtain ⟨P, P2, _, _, _, hd⟩ := hdo
  intro t ht
  simp only [hsL, List.mem_cons, List.not_mem_nil, or_false] at ht
  rcases ht with rfl | rfl | rfl
  · rw [sd_v]; rfl
  · refine sd_lst.mpr ⟨by simp; omega, fun t ht => ?_⟩
    obtain ⟨r, hr1, rfl⟩ := List.mem_map.mp ht
    obtain ⟨a, b, l, w, rfl, _⟩ := hr r hr1
    refine sd_tup.mpr ⟨by simp, fun t ht => ?_⟩
    simp only [List.mem_cons, List.not_mem_nil, or_false] at ht
    rcases ht with rfl | rfl | rfl | rfl <;> (rw [sd_v]; rfl)
  · refine sd_lst.mpr ⟨by simp; omega, fun t ht => ?_⟩
    obtain ⟨r, hr1, rfl⟩ := List.mem_map.mp ht
    obtain ⟨s, a, k, rfl, hs, _⟩ := hd r hr1
    refine sd_tup.mpr ⟨by simp, fun t ht => ?_⟩
    simp only [List.mem_cons, List.not_mem_nil, or_false] at ht
    rcases ht with rfl | rfl | rfl
    · rw [sd_v, dat_str]
      rcases hs with ⟨rfl, _⟩ | ⟨rfl, _⟩
      · exact strOk_in
      · exact strOk_out
    · rw [sd_v]; rfl
    · rw [sd_v]; rfl
theorem strOk_w : PyData.strOk "house" = true ∧ PyData.strOk "late" = true ∧ PyData.strOk "a" = true := by decide +kernel
theorem its_ok {many : Int} {rs dr : List (List T)} (hs : ∀ t ∈ hsL many rs dr, sd 3 t = true) {i : Nat} {d : D} (h : (itsL many rs dr)[i]? = some d) :
    (∃ y, d = .t y ∧ OdT y ∧ T2 many rs dr (i + 1) = T2 many rs dr i ∧ T4 (i + 1) = T4 i) ∨ (d = .m 2 ∧ T2 many rs dr (i + 1) = T2 many rs dr i ++ [.str "late"] ∧ T4 (i + 1) = T4 i ∧ T2 many rs dr i = hsL many rs dr) ∨ (d = .m 4 ∧ T2 many rs dr (i + 1) = T2 many rs dr i ∧ T4 (i + 1) = T4 i ++ [.str "late"] ∧ T4 i = [.int 1]) := by
  match i, h with
  | 0, h => cases h; exact .inl ⟨_, rfl, ⟨⟨_, rfl, True.intro⟩, rfl, by rw [sd_v]; rfl⟩, rfl, rfl⟩
  | 1, h => cases h; exact .inl ⟨_, rfl, ⟨⟨_, rfl, True.intro⟩, rfl, by rw [sd_v]; rfl⟩, rfl, rfl⟩
  | 2, h => cases h; exact .inl ⟨_, rfl, ⟨⟨_, rfl, True.intro⟩, rfl, by rw [sd_v, dat_str]; exact strOk_w.1⟩, rfl, rfl⟩
  | 3, h => cases h; exact .inl ⟨_, rfl, ⟨⟨_, rfl, True.intro⟩, rfl, by rw [sd_v]; rfl⟩, rfl, rfl⟩
  | 4, h => cases h; exact .inl ⟨_, rfl, ⟨⟨_, rfl, True.intro⟩, rfl, sd_tup.mpr ⟨by simp, fun t ht => by cases ht⟩⟩, rfl, rfl⟩
  | 5, h =>
    cases h
    refine .inl ⟨_, rfl, ⟨⟨_, rfl, True.intro⟩, rfl, ?_⟩, rfl, rfl⟩
    refine sd_dct.mpr ⟨by decide, fun p hp => ?_⟩
    have hp : p = (.inr "a", .int 0) := by simpa [mergeT, putT] using hp
    subst hp
    exact ⟨by show dat 0 (.v (.str "a")) = true; rw [dat_str]; exact strOk_w.2.2, by rw [sd_v]; rfl⟩
  | 6, h => cases h; exact .inr (.inl ⟨rfl, rfl, rfl, rfl⟩)
  | 7, h => cases h; exact .inl ⟨_, rfl, ⟨⟨_, rfl, True.intro⟩, rfl, sd_tup.mpr ⟨by simp [hsL], hs⟩⟩, rfl, rfl⟩
  | 8, h => cases h; exact .inr (.inr ⟨rfl, rfl, rfl, rfl⟩)
  | n + 9, h => simp [itsL] at h
theorem math_law (A : Str → Addr) : (Xs A).Nodup → ∀ (Qd : D → Store → Prop) (Ed : Ex → Prop), (∀ S, Qd (.bl true) S) → rd_law A (endsOf .raw strm0 Qd Ed) (startL 5) strm0 := by
  intro hX Q E q
  have e0 : strm0 = st (2 ^ 39) [] := rfl
  have e1 : startL 5 = [none, some (.m 1), none, none, none] := rfl
  rw [e1]
  generalize hD : endsOf Mode.raw strm0 Q E = De
  rw [e0]
  have hB : (2 : Nat) ^ 39 = 549755813888 := by decide
  generalize hb : (2 : Nat) ^ 39 = B at hB ⊢
  clear hb
  unfold rd_law
  refine sq (t := sAsg _ _) (asg ?_)
  refine ⟨_, rfl, rfl, B, [], 4, 5, 3, rfl, rfl, by unfold costH; omega, by omega, by omega, by omega, by omega, by omega, by omega, fun many rs dr b1 hm1 hm2 hro hdo hr1 hr2 hd1 hd2 hb2 => gv ?_⟩
  simp only [List.set_cons_zero, List.set_cons_succ]
  have hs := sd_hs hro hdo hr2 hd2
  have hz1 : (100010 : Nat) ≤ sizeLine := by decide
  generalize hh : T.tup [T.int many, T.lst (List.map T.tup rs), T.lst (List.map T.tup dr)] = h
  have hq : seqOf h = some (hsL many rs dr) := by rw [← hh]; rfl
  refine sq ?_
  refine forx (iseqx (dtupMx (dconsx (ev1 is_c (dconsx (ev1 is_c (dconsx (ev1 is_c (dconsx (ev1 is_c (dconsx (ev1 (is_tup isL_nil (by simp)) (dconsx (ev1 (x := oddT) is_disp (dconsx (dcb1 (dvr rfl ?_)))))))))))))))))
  rw [cListM_x hq]
  refine dconsx (dvr rfl (dcons1 (lstx (dconsx (lstx (dcons1 (ev1 (is_ix (z := .int many) (is_v rfl) is_c hq (by rw [atI_0]; rfl)) ⟨Nat.le_trans (by simp) hz1, dcons1 (ev1 is_c ⟨Nat.le_trans (by simp) hz1, Nat.le_trans (by simp) hz1, ?_⟩)⟩)))))))
  have eI : itsL many rs dr = [.t (.v .non), .t (.int 5), .t (.str "house"), .t (.v (.bl true)), .t (.tup []), .t oddT, .m 2, .t h, .m 4] := by rw [← hh]; rfl
  have G0 : Gd b1 (T2 many rs dr 0) (T4 0) (.int many) (itsL many rs dr) (st b1 [] ++ [.lst ((hsL many rs dr).map .t)] ++ [.lst [.t (.int many)]] ++ [.lst [.m 3, .t (.int 1)]] ++ [.tup (itsL many rs dr)]) :=
    ⟨rfl, rfl, rfl, rfl, rfl, Nat.le_refl 6, fun i c hi e => by
      have : i < 6 := (List.getElem?_eq_some_iff.mp e).1
      omega⟩
  refine ⟨itsL many rs dr, .inr ⟨by rw [eI]; rfl, ?_⟩⟩
  have hits : ∀ d ∈ itsL many rs dr, dOk d := fun d hd => by
    obtain ⟨i, hi⟩ := List.getElem?_of_mem hd
    rcases its_ok hs hi with ⟨y, rfl, _⟩ | ⟨rfl, _⟩ | ⟨rfl, _⟩
    · exact .inl ⟨_, rfl⟩
    · exact .inr ⟨2, rfl, by omega, by omega⟩
    · exact .inr ⟨4, rfl, by omega, by omega⟩
  have noh : ∀ {i d}, (itsL many rs dr)[i]? = some d → ∀ {u2 u4 S}, Gd b1 u2 u4 (.int many) (itsL many rs dr) S → NoH S d := fun {i d} hi {u2 u4 S} hG => by
    have := hG.len
    rcases its_ok hs hi with ⟨y, rfl, ⟨⟨ty, h1, h2⟩, _⟩, _⟩ | ⟨rfl, _⟩ | ⟨rfl, _⟩
    · exact ⟨ty, h1, h2, True.intro⟩
    · exact ⟨.list, by show (S[2]?).bind tyC = _; rw [hG.c2]; rfl, True.intro, (by show 2 < _; omega)⟩
    · exact ⟨.list, by show (S[4]?).bind tyC = _; rw [hG.c4]; rfl, True.intro, (by show 4 < _; omega)⟩
  refine ⟨fun i ρ S => ∃ o3 o4, Gd b1 (T2 many rs dr i) (T4 i) (.int many) (itsL many rs dr) S ∧ ρ = [none, some (.m 1), some (.t h), o3, o4], ⟨none, none, ?_, rfl⟩, ?_, ?_, ?_⟩
  · rw [eI] at G0; rw [eI]; exact G0
  · rintro i ρ S ⟨o3, o4, hG, rfl⟩
    show (S[5]?).bind cellT = _
    rw [hG.c5]; rfl
  · rintro i d ρ S hd ⟨o3, o4, hG, rfl⟩
    have hk := hits d (List.mem_of_getElem? hd)
    refine gv (sq (t := sAsg _ _) (asg (dop (dop ?_))))
    simp only [List.set_cons_zero, List.set_cons_succ]
    refine ⟨_, rfl, rfl, d, rfl, noh hd hG, ?_⟩
    obtain ⟨ms1, X1, _, l1, f1, h1⟩ := stF_ms (d := d) (k := 30) hG.len
    have G1 := hG.stF (k := 30) hk
    generalize DL.stF S d 30 = S1 at f1 h1 G1 ⊢
    refine ⟨_, rfl, rfl, d, rfl, noh hd G1, ?_⟩
    obtain ⟨ms2, X2, eX2, l2, f2, h2⟩ := stF_ms (d := d) (k := 30) G1.len
    have G2 := G1.stF (k := 30) hk
    have f1' : (DL.stF S1 d 30)[S.length]? = some (.lst (ms1.map .m)) := by rw [eX2]; exact gt_app f1
    have h1' : HTs (DL.stF S1 d 30) d ms1 := by rw [eX2]; exact h1.app
    generalize DL.stF S1 d 30 = S2 at f2 h2 G2 f1' h1' ⊢
    refine ⟨_, _, seqL_m f1', seqL_m f2, Nat.le_trans (by simp; omega) hz1, ?_⟩
    rw [← List.map_append]
    have G3 := G2.lst (h1'.cat h2)
    have f3 : (S2 ++ [Cell.lst ((ms1 ++ ms2).map .m)])[S2.length]? = some (.lst ((ms1 ++ ms2).map .m)) := by rw [List.getElem?_append_right (Nat.le_refl _)]; simp
    have h3 : HTs (S2 ++ [Cell.lst ((ms1 ++ ms2).map .m)]) d (ms1 ++ ms2) := (h1'.cat h2).app
    generalize S2 ++ [Cell.lst ((ms1 ++ ms2).map .m)] = S3 at f3 h3 G3 ⊢
    refine ⟨_, rfl, rfl, d, rfl, noh hd G3, ?_⟩
    obtain ⟨ms3, X3, eX3, l3, f4, h4⟩ := stF_ms (d := d) (k := 30) G3.len
    have G4 := G3.stF (k := 30) hk
    have f3' : (DL.stF S3 d 30)[S2.length]? = some (.lst ((ms1 ++ ms2).map .m)) := by rw [eX3]; exact gt_app f3
    have h3' : HTs (DL.stF S3 d 30) d (ms1 ++ ms2) := by rw [eX3]; exact h3.app
    generalize DL.stF S3 d 30 = S4 at f4 h4 G4 f3' h3' ⊢
    refine ⟨_, _, seqL_m f3', seqL_m f4, Nat.le_trans (by simp; omega) hz1, gv ?_⟩
    rw [← List.map_append]
    have G5 := G4.lst (h3'.cat h4)
    have f5 : (S4 ++ [Cell.lst ((ms1 ++ ms2 ++ ms3).map .m)])[S4.length]? = some (.lst ((ms1 ++ ms2 ++ ms3).map .m)) := by rw [List.getElem?_append_right (Nat.le_refl _)]; simp
    have h5 : HTs (S4 ++ [Cell.lst ((ms1 ++ ms2 ++ ms3).map .m)]) d (ms1 ++ ms2 ++ ms3) := (h3'.cat h4).app
    have hf : 6 ≤ S4.length := G4.len
    generalize S4.length = f at f5 hf ⊢
    generalize S4 ++ [Cell.lst ((ms1 ++ ms2 ++ ms3).map .m)] = S5 at f5 h5 G5 ⊢
    have l5 : (ms1 ++ ms2 ++ ms3).length = 90 := by simp; omega
    generalize ms1 ++ ms2 ++ ms3 = ms at f5 h5 l5 ⊢
    simp only [List.set_cons_zero, List.set_cons_succ]
    refine sq ?_
    refine app_one (S5 ++ [.ins (A "Desk") []]) rfl hf f5 (by omega) G5.ins (gt_app f5) h5.app hk (fun X Q2 q2 => ⟨_, rfl, rfl, _, _, _, rfl, NoH.app (noh hd G5), q2⟩) fun S6 ns G6 f6 h6 l6 _ => ?_
    refine sq ?_
    refine app_one (S6 ++ [.ins (A "Desk") []]) rfl hf f6 (by omega) G6.ins (gt_app f6) h6.app hk (fun X Q2 q2 => ⟨_, rfl, rfl, rfl, _, _, _, rfl, NoH.app (noh hd G6), q2⟩) fun S7 ns2 G7 f7 h7 l7 _ => ?_
    have hc : ∃ x, ((∃ y, d = .t y ∧ ok1 (Cs A) y ∧ isLst y = false ∧ x = y ∧ T2 many rs dr (i + 1) = T2 many rs dr i ∧ T4 (i + 1) = T4 i) ∨ (d = .m 2 ∧ T2 many rs dr (i + 1) = T2 many rs dr i ++ [.str "late"] ∧ T4 (i + 1) = T4 i ∧ x = .lst (T2 many rs dr (i + 1))) ∨
        (d = .m 4 ∧ T2 many rs dr (i + 1) = T2 many rs dr i ∧ T4 (i + 1) = T4 i ++ [.str "late"] ∧ x = .lst (.lst [.int many] :: T4 (i + 1)))) ∧ sd 4 x = true := by
      have hlate : ∀ n, sd n (.str "late") = true := fun n => by rw [sd_v, dat_str]; exact strOk_w.2.1
      have hint : ∀ n k, sd n (.int k) = true := fun n k => by rw [sd_v]; rfl
      rcases its_ok hs hd with ⟨y, rfl, ⟨⟨ty, t1, t2⟩, yl, ysd⟩, e2, e4⟩ | ⟨rfl, e2, e4, e5⟩ | ⟨rfl, e2, e4, e5⟩
      · exact ⟨y, .inl ⟨y, rfl, ⟨ty, t1, t2.okIn⟩, yl, rfl, e2, e4⟩, ysd⟩
      · refine ⟨_, .inr (.inl ⟨rfl, e2, e4, rfl⟩), sd_lst.mpr ⟨by rw [e2, e5]; simp [hsL], fun t ht => ?_⟩⟩
        rw [e2, e5] at ht
        rcases List.mem_append.mp ht with ht | ht
        · exact hs t ht
        · have : t = .str "late" := by simpa using ht
          subst this; exact hlate _
      · refine ⟨_, .inr (.inr ⟨rfl, e2, e4, rfl⟩), sd_lst.mpr ⟨by rw [e4, e5]; simp, fun t ht => ?_⟩⟩
        rw [e4, e5] at ht
        have ht : t = .lst [.int many] ∨ t = .int 1 ∨ t = .str "late" := by simpa using ht
        rcases ht with rfl | rfl | rfl
        · exact sd_lst.mpr ⟨by simp, fun t ht => by
            have : t = .int many := by simpa using ht
            subst this; exact hint _ _⟩
        · exact hint _ _
        · exact hlate _
    obtain ⟨x, hc, xsd⟩ := hc
    refine sq ?_
    refine late_step rfl G7 hc (by unfold T2; split <;> simp [hsL]) (by unfold T4; split <;> simp) fun S8 G8 l8 up8 hx8 => ?_
    have f8 : S8[f]? = some (.lst (ns2.map .m)) := by rw [up8 f hf]; exact f7
    have h8 : HTs S8 d ns2 := fun j hj => ⟨(h7 j hj).1, by rw [up8 j (h7 j hj).1]; exact (h7 j hj).2⟩
    dsimp only
    refine sq ?_
    refine ifx (ntx (dbx (due_step rfl rfl G8 hk hits f8 h8 (by omega) hx8 (sd_lst.mpr ⟨by simp; omega, fun t ht => ?_⟩) fun S9 G9 => ?_)))
    · have := (List.mem_replicate.mp ht).2
      subst this
      exact sd_tup.mpr ⟨by simp, fun t ht => by
        have ht : t = .str "house" ∨ t = x := by simpa using ht
        rcases ht with rfl | rfl
        · rw [sd_v, dat_str]; exact strOk_w.1
        · exact xsd⟩
    · exact (show ∃ (o3 o4 : Option D), Gd b1 (T2 many rs dr (i + 1)) (T4 (i + 1)) (.int many) (itsL many rs dr) S9 ∧ [none, some (.m 1), some (.t h), some d, some (.m f)] = [none, some (.m 1), some (.t h), o3, o4] from ⟨_, _, G9, rfl⟩)
  · rintro ρ S ⟨o3, o4, hG, rfl⟩
    dsimp only
    refine sq (t := sRet _) (rts ?_)
    subst hD
    exact q _
end DL
set_option Elab.async false
set_option linter.all false
set_option maxRecDepth 100000
set_option maxHeartbeats 0
namespace DL
open PySem PySem.Spec PyProof.Rows L2
def top (i : Nat) : Stmt := PySem.Challenge.pw_lastbell_k03_houses_asked_for.main.body.getD i (.Pass ⟨0, 0, 0, 0⟩)
section
variable {CT : TTs} {P : Program} {w : World} {K : PySem.W.Frag} {mg : Str → Option Value} {base : Heap} {A : Str → Addr}
theorem passN2 {X : Cx} {A : Around} {outer : List PySem.Env} {s : Shared} {H : Hp} {E : XK} {scope : Scope} {f c' : Addr} : Passes (L2.CX (LamX.lamCx X A outer s H E scope f c').prog (LamX.lamCx X A outer s H E scope f c').w) (LamX.lamCx X A outer s H E scope f c') E := @passN X A outer s H E scope f c'
abbrev st_BadHouse_init : Stmt := (inClass (top 13) 0)
theorem sc_BadHouse_init : FnScope N_BadHouse_init ps_BadHouse_init (defScope st_BadHouse_init) := ⟨rfl, rfl, rfl, by decide +kernel, rfl, by decide +kernel, by decide +kernel⟩
theorem ok_BadHouse_init {f : Addr} {fd : FuncData} (F : L2.Fun K "__init__" "BadHouse.__init__" st_BadHouse_init f fd) : FnOk P w K mg base (L2.CX P w) 1 f fd ps_BadHouse_init (spInit1 K "thing") :=
  F.okX sc_BadHouse_init (fun vs H Q E ⟨a, C, y, e, _⟩ => by rw [e]; rfl) fun cdv A' outer s H vs Q E hr h => ⟨_, pss_cons (ps_ost (pv 0) (pv 1)) pss_nil, init1_pure h⟩
abbrev st_BadPlan_init : Stmt := (inClass (top 18) 0)
theorem sc_BadPlan_init : FnScope N_BadPlan_init ps_BadPlan_init (defScope st_BadPlan_init) := ⟨rfl, rfl, rfl, by decide +kernel, rfl, by decide +kernel, by decide +kernel⟩
theorem ok_BadPlan_init {f : Addr} {fd : FuncData} (F : L2.Fun K "__init__" "BadPlan.__init__" st_BadPlan_init f fd) : FnOk P w K mg base (L2.CX P w) 1 f fd ps_BadPlan_init (spInit1 K "plan") :=
  F.okX sc_BadPlan_init (fun vs H Q E ⟨a, C, y, e, _⟩ => by rw [e]; rfl) fun cdv A' outer s H vs Q E hr h => ⟨_, pss_cons (ps_ost (pv 0) (pv 1)) pss_nil, init1_pure h⟩
abbrev st_check_house : Stmt := (top 43)
theorem sc_check_house : FnScope N_check_house ps_check_house (defScope st_check_house) := ⟨rfl, rfl, rfl, by decide +kernel, rfl, by decide +kernel, by decide +kernel⟩
theorem ok_check_house (hC_House : mg "House" = some (.ref (A "House"))) (B : Bs mg) (hOK : OwnOk K (Cs A)) (X_BadHouse : Xc1 P w K mg base "BadHouse" (A "BadHouse") "thing") {f : Addr} {fd : FuncData} (F : L2.Fun K "check_house" "check_house" st_check_house f fd) : FnOk P w K mg base (L2.CX P w) 3 f fd ps_check_house (spD CT 1 (ft_check_house A)) :=
 DL.Fun.okD F sc_check_house (m := .raw) (math_check_house A) fun cdv A' outer s H E hr => by
  have nd := (sc_check_house).nd
  exact dss_cons (ds_if (dt_not (dt_val (de_B ((call_isiY.or call_isiTY)) (br_isi hOK) B.isinstance bo_isinstance (da_cons (de_v 0) (da_cons (de_cls hC_House) (da_nil))))))
    (dss_cons (ds_raise rfl X_BadHouse (hr.mono (by decide)) (takes_of rfl rfl rfl rfl) passF (de_v 0))
    (dss_nil))
    (dss_nil))
    (dss_nil)
abbrev st_most_by : Stmt := (top 70)
theorem sc_most_by : FnScope N_most_by ps_most_by (defScope st_most_by) := ⟨rfl, rfl, rfl, by decide +kernel, rfl, by decide +kernel, by decide +kernel⟩
theorem ok_most_by  {f : Addr} {fd : FuncData} (F : L2.Fun K "most_by" "most_by" st_most_by f fd) : FnOk P w K mg base (L2.CX P w) 1 f fd ps_most_by (spD CT 3 (ft_most_by A)) :=
 DL.Fun.okD F sc_most_by (m := .raw) (math_most_by A) fun cdv A' outer s H E hr => by
  have nd := (sc_most_by).nd
  exact dss_cons (ds_never)
    (dss_nil)
abbrev st_checked_both : Stmt := (top 73)
theorem sc_checked_both : FnScope N_checked_both ps_checked_both (defScope st_checked_both) := ⟨rfl, rfl, rfl, by decide +kernel, rfl, by decide +kernel, by decide +kernel⟩
theorem ok_checked_both (G_check_house : FnG CT P w K mg base 3 "check_house" ps_check_house (ft_check_house A)) {f : Addr} {fd : FuncData} (F : L2.Fun K "checked_both" "checked_both" st_checked_both f fd) : FnOk P w K mg base (L2.CX P w) 4 f fd ps_checked_both (spD CT 3 (ft_checked_both A)) :=
 DL.Fun.okD F sc_checked_both (m := .raw) (math_checked_both A) fun cdv A' outer s H E hr => by
  have nd := (sc_checked_both).nd
  exact dss_cons (ds_expr (de_G (k := 3) (ps := ps_check_house) G_check_house (hr.mono (by decide)) passM (da_cons (de_v 0) (da_nil))))
    (dss_cons (ds_never)
    (dss_cons (ds_never)
    (dss_cons (ds_never)
    (dss_nil))))
abbrev st_most : Stmt := (top 74)
theorem sc_most : FnScope N_most ps_most (defScope st_most) := ⟨rfl, rfl, rfl, by decide +kernel, rfl, by decide +kernel, by decide +kernel⟩
theorem ok_most (G_checked_both : FnG CT P w K mg base 4 "checked_both" ps_checked_both (ft_checked_both A)) (G_most_by : FnG CT P w K mg base 1 "most_by" ps_most_by (ft_most_by A)) {f : Addr} {fd : FuncData} (F : L2.Fun K "most" "most" st_most f fd) : FnOk P w K mg base (L2.CX P w) 5 f fd ps_most (spD CT 3 (ft_most A)) :=
 DL.Fun.okD F sc_most (m := .raw) (math_most A) fun cdv A' outer s H E hr => by
  have nd := (sc_most).nd
  exact dss_cons (ds_ret (de_G (k := 1) (ps := ps_most_by) G_most_by (hr.mono (by decide)) passM (da_cons (de_v 0) (da_cons (de_G (k := 4) (ps := ps_checked_both) G_checked_both (hr.mono (by decide)) passM (da_cons (de_v 0) (da_cons (de_v 1) (da_cons (de_v 2) (da_nil))))) (da_cons (de_v 2) (da_nil))))))
    (dss_nil)
abbrev st_most_plan : Stmt := (top 75)
theorem sc_most_plan : FnScope N_most_plan ps_most_plan (defScope st_most_plan) := ⟨rfl, rfl, rfl, by decide +kernel, rfl, by decide +kernel, by decide +kernel⟩
theorem ok_most_plan (G_checked_both : FnG CT P w K mg base 4 "checked_both" ps_checked_both (ft_checked_both A)) {f : Addr} {fd : FuncData} (F : L2.Fun K "most_plan" "most_plan" st_most_plan f fd) : FnOk P w K mg base (L2.CX P w) 5 f fd ps_most_plan (spD CT 3 (ft_most_plan A)) :=
 DL.Fun.okD F sc_most_plan (m := .raw) (math_most_plan A) fun cdv A' outer s H E hr => by
  have nd := (sc_most_plan).nd
  exact dss_cons (ds_set (ps_set (i := 3) nd rfl (by first | exact .inl rfl | exact .inr rfl) (DE.pe (de_G (k := 4) (ps := ps_checked_both) G_checked_both (hr.mono (by decide)) passM (da_cons (de_v 0) (da_cons (de_v 1) (da_cons (de_v 2) (da_nil))))))))
    (dss_cons (ds_never)
    (dss_nil))
abbrev st_levels : Stmt := (top 76)
theorem sc_levels : FnScope N_levels ps_levels (defScope st_levels) := ⟨rfl, rfl, rfl, by decide +kernel, rfl, by decide +kernel, by decide +kernel⟩
theorem ok_levels (G_check_house : FnG CT P w K mg base 3 "check_house" ps_check_house (ft_check_house A)) {f : Addr} {fd : FuncData} (F : L2.Fun K "levels" "levels" st_levels f fd) : FnOk P w K mg base (L2.CX P w) 4 f fd ps_levels (spD CT 2 (ft_levels A)) :=
 DL.Fun.okD F sc_levels (m := .raw) (math_levels A) fun cdv A' outer s H E hr => by
  have nd := (sc_levels).nd
  exact dss_cons (ds_expr (de_G (k := 3) (ps := ps_check_house) G_check_house (hr.mono (by decide)) passM (da_cons (de_v 0) (da_nil))))
    (dss_cons (ds_never)
    (dss_nil))
abbrev st_steady : Stmt := (top 77)
theorem sc_steady : FnScope N_steady ps_steady (defScope st_steady) := ⟨rfl, rfl, rfl, by decide +kernel, rfl, by decide +kernel, by decide +kernel⟩
theorem ok_steady (G_levels : FnG CT P w K mg base 4 "levels" ps_levels (ft_levels A)) (B : Bs mg) {f : Addr} {fd : FuncData} (F : L2.Fun K "steady" "steady" st_steady f fd) : FnOk P w K mg base (L2.CX P w) 5 f fd ps_steady (spD CT 2 (ft_steady A)) :=
 DL.Fun.okD F sc_steady (m := .raw) (math_steady A) fun cdv A' outer s H E hr => by
  have nd := (sc_steady).nd
  exact dss_cons (ds_ret (de_B (cr_sum rfl) br_sum B.sum bo_sum (da_cons (de_lc (pe_lc (own := [("length", 2), ("amount", 3)]) rfl nd (DI.pi (di_seq (de_G (k := 4) (ps := ps_levels) G_levels (hr.mono (by decide)) passM (da_cons (de_v 0) (da_cons (de_v 1) (da_nil)))))) (blkOk_by (N := N_steady) (sc := defScope st_steady) (by decide +kernel)) (fun _ _ _ _ _ => DGw.pg (dgw_tup rfl (dgsw_cons (dgw_name (pg_name (i := 2) nd rfl (by first | exact .inl rfl | exact .inr rfl))) (dgsw_cons (dgw_name (pg_name (i := 3) nd rfl (by first | exact .inl rfl | exact .inr rfl))) (dgsw_nil))))) (fun _ _ _ _ _ => DTs.pts (dts_nil)) (fun _ _ _ _ _ => DE.pe (de_v 3)))) (da_nil))))
    (dss_nil)
abbrev st_lot_bell : Stmt := (top 79)
theorem sc_lot_bell : FnScope N_lot_bell ps_lot_bell (defScope st_lot_bell) := ⟨rfl, rfl, rfl, by decide +kernel, rfl, by decide +kernel, by decide +kernel⟩
theorem ok_lot_bell (G_check_house : FnG CT P w K mg base 3 "check_house" ps_check_house (ft_check_house A)) {f : Addr} {fd : FuncData} (F : L2.Fun K "lot_bell" "lot_bell" st_lot_bell f fd) : FnOk P w K mg base (L2.CX P w) 4 f fd ps_lot_bell (spD CT 3 (ft_lot_bell A)) :=
 DL.Fun.okD F sc_lot_bell (m := .raw) (math_lot_bell A) fun cdv A' outer s H E hr => by
  have nd := (sc_lot_bell).nd
  exact dss_cons (ds_expr (de_G (k := 3) (ps := ps_check_house) G_check_house (hr.mono (by decide)) passM (da_cons (de_v 0) (da_nil))))
    (dss_cons (ds_never)
    (dss_cons (ds_never)
    (dss_cons (ds_never)
    (dss_nil))))
abbrev st_is_moments : Stmt := (top 82)
theorem sc_is_moments : FnScope N_is_moments ps_is_moments (defScope st_is_moments) := ⟨rfl, rfl, rfl, by decide +kernel, rfl, by decide +kernel, by decide +kernel⟩
theorem ok_is_moments (G_checked_both : FnG CT P w K mg base 4 "checked_both" ps_checked_both (ft_checked_both A)) {f : Addr} {fd : FuncData} (F : L2.Fun K "is_moments" "is_moments" st_is_moments f fd) : FnOk P w K mg base (L2.CX P w) 5 f fd ps_is_moments (spD CT 4 (ft_is_moments A)) :=
 DL.Fun.okD F sc_is_moments (m := .raw) (math_is_moments A) fun cdv A' outer s H E hr => by
  have nd := (sc_is_moments).nd
  exact dss_cons (ds_set (ps_set (i := 4) nd rfl (by first | exact .inl rfl | exact .inr rfl) (DE.pe (de_G (k := 4) (ps := ps_checked_both) G_checked_both (hr.mono (by decide)) passM (da_cons (de_v 0) (da_cons (de_v 1) (da_cons (de_v 2) (da_nil))))))))
    (dss_cons (ds_never)
    (dss_nil))
abbrev st_worth : Stmt := (top 84)
theorem sc_worth : FnScope N_worth ps_worth (defScope st_worth) := ⟨rfl, rfl, rfl, by decide +kernel, rfl, by decide +kernel, by decide +kernel⟩
theorem ok_worth (G_check_house : FnG CT P w K mg base 3 "check_house" ps_check_house (ft_check_house A)) {f : Addr} {fd : FuncData} (F : L2.Fun K "worth" "worth" st_worth f fd) : FnOk P w K mg base (L2.CX P w) 4 f fd ps_worth (spD CT 2 (ft_worth A)) :=
 DL.Fun.okD F sc_worth (m := .raw) (math_worth A) fun cdv A' outer s H E hr => by
  have nd := (sc_worth).nd
  exact dss_cons (ds_expr (de_G (k := 3) (ps := ps_check_house) G_check_house (hr.mono (by decide)) passM (da_cons (de_v 0) (da_nil))))
    (dss_cons (ds_never)
    (dss_cons (ds_never)
    (dss_nil)))
abbrev st_moments_by : Stmt := (top 85)
theorem sc_moments_by : FnScope N_moments_by ps_moments_by (defScope st_moments_by) := ⟨rfl, rfl, rfl, by decide +kernel, rfl, by decide +kernel, by decide +kernel⟩
theorem ok_moments_by  {f : Addr} {fd : FuncData} (F : L2.Fun K "moments_by" "moments_by" st_moments_by f fd) : FnOk P w K mg base (L2.CX P w) 1 f fd ps_moments_by (spD CT 3 (ft_moments_by A)) :=
 DL.Fun.okD F sc_moments_by (m := .raw) (math_moments_by A) fun cdv A' outer s H E hr => by
  have nd := (sc_moments_by).nd
  exact dss_cons (ds_never)
    (dss_cons (ds_never)
    (dss_cons (ds_never)
    (dss_cons (ds_never)
    (dss_cons (ds_never)
    (dss_nil)))))
abbrev st_moments_for : Stmt := (top 86)
theorem sc_moments_for : FnScope N_moments_for ps_moments_for (defScope st_moments_for) := ⟨rfl, rfl, rfl, by decide +kernel, rfl, by decide +kernel, by decide +kernel⟩
theorem ok_moments_for (G_checked_both : FnG CT P w K mg base 4 "checked_both" ps_checked_both (ft_checked_both A)) (G_moments_by : FnG CT P w K mg base 1 "moments_by" ps_moments_by (ft_moments_by A)) {f : Addr} {fd : FuncData} (F : L2.Fun K "moments_for" "moments_for" st_moments_for f fd) : FnOk P w K mg base (L2.CX P w) 5 f fd ps_moments_for (spD CT 3 (ft_moments_for A)) :=
 DL.Fun.okD F sc_moments_for (m := .raw) (math_moments_for A) fun cdv A' outer s H E hr => by
  have nd := (sc_moments_for).nd
  exact dss_cons (ds_ret (de_G (k := 1) (ps := ps_moments_by) G_moments_by (hr.mono (by decide)) passM (da_cons (de_v 0) (da_cons (de_G (k := 4) (ps := ps_checked_both) G_checked_both (hr.mono (by decide)) passM (da_cons (de_v 0) (da_cons (de_v 1) (da_cons (de_v 2) (da_nil))))) (da_cons (de_v 2) (da_nil))))))
    (dss_nil)
abbrev st_plan_fault : Stmt := (top 102)
theorem sc_plan_fault : FnScope N_plan_fault ps_plan_fault (defScope st_plan_fault) := ⟨rfl, rfl, rfl, by decide +kernel, rfl, by decide +kernel, by decide +kernel⟩
theorem ok_plan_fault (G_check_house : FnG CT P w K mg base 3 "check_house" ps_check_house (ft_check_house A)) {f : Addr} {fd : FuncData} (F : L2.Fun K "plan_fault" "plan_fault" st_plan_fault f fd) : FnOk P w K mg base (L2.CX P w) 4 f fd ps_plan_fault (spD CT 2 (ft_plan_fault A)) :=
 DL.Fun.okD F sc_plan_fault (m := .raw) (math_plan_fault A) fun cdv A' outer s H E hr => by
  have nd := (sc_plan_fault).nd
  exact dss_cons (ds_expr (de_G (k := 3) (ps := ps_check_house) G_check_house (hr.mono (by decide)) passM (da_cons (de_v 0) (da_nil))))
    (dss_cons (ds_never)
    (dss_cons (ds_never)
    (dss_cons (ds_never)
    (dss_cons (ds_never)
    (dss_cons (ds_never)
    (dss_nil))))))
abbrev st_is_plan : Stmt := (top 103)
theorem sc_is_plan : FnScope N_is_plan ps_is_plan (defScope st_is_plan) := ⟨rfl, rfl, rfl, by decide +kernel, rfl, by decide +kernel, by decide +kernel⟩
theorem ok_is_plan (G_plan_fault : FnG CT P w K mg base 4 "plan_fault" ps_plan_fault (ft_plan_fault A)) {f : Addr} {fd : FuncData} (F : L2.Fun K "is_plan" "is_plan" st_is_plan f fd) : FnOk P w K mg base (L2.CX P w) 5 f fd ps_is_plan (spD CT 2 (ft_is_plan A)) :=
 DL.Fun.okD F sc_is_plan (m := .raw) (math_is_plan A) fun cdv A' outer s H E hr => by
  have nd := (sc_is_plan).nd
  exact dss_cons (ds_ret (de_cmp op_isN br_isN (de_G (k := 4) (ps := ps_plan_fault) G_plan_fault (hr.mono (by decide)) passM (da_cons (de_v 0) (da_cons (de_v 1) (da_nil)))) (de_none) (nomark _)))
    (dss_nil)
abbrev st_check_plan : Stmt := (top 104)
theorem sc_check_plan : FnScope N_check_plan ps_check_plan (defScope st_check_plan) := ⟨rfl, rfl, rfl, by decide +kernel, rfl, by decide +kernel, by decide +kernel⟩
theorem ok_check_plan (G_is_plan : FnG CT P w K mg base 5 "is_plan" ps_is_plan (ft_is_plan A)) (X_BadPlan : Xc1 P w K mg base "BadPlan" (A "BadPlan") "plan") {f : Addr} {fd : FuncData} (F : L2.Fun K "check_plan" "check_plan" st_check_plan f fd) : FnOk P w K mg base (L2.CX P w) 6 f fd ps_check_plan (spD CT 2 (ft_check_plan A)) :=
 DL.Fun.okD F sc_check_plan (m := .raw) (math_check_plan A) fun cdv A' outer s H E hr => by
  have nd := (sc_check_plan).nd
  exact dss_cons (ds_if (dt_not (dt_val (de_G (k := 5) (ps := ps_is_plan) G_is_plan (hr.mono (by decide)) passM (da_cons (de_v 0) (da_cons (de_v 1) (da_nil))))))
    (dss_cons (ds_raise rfl X_BadPlan (hr.mono (by decide)) (takes_of rfl rfl rfl rfl) passF (de_v 1))
    (dss_nil))
    (dss_nil))
    (dss_nil)
abbrev st_brings : Stmt := (top 106)
theorem sc_brings : FnScope N_brings ps_brings (defScope st_brings) := ⟨rfl, rfl, rfl, by decide +kernel, rfl, by decide +kernel, by decide +kernel⟩
theorem ok_brings (G_check_plan : FnG CT P w K mg base 6 "check_plan" ps_check_plan (ft_check_plan A)) {f : Addr} {fd : FuncData} (F : L2.Fun K "brings" "brings" st_brings f fd) : FnOk P w K mg base (L2.CX P w) 7 f fd ps_brings (spD CT 2 (ft_brings A)) :=
 DL.Fun.okD F sc_brings (m := .raw) (math_brings A) fun cdv A' outer s H E hr => by
  have nd := (sc_brings).nd
  exact dss_cons (ds_expr (de_G (k := 6) (ps := ps_check_plan) G_check_plan (hr.mono (by decide)) passM (da_cons (de_v 0) (da_cons (de_v 1) (da_nil)))))
    (dss_cons (ds_never)
    (dss_nil))
abbrev st_bell_of : Stmt := (top 108)
theorem sc_bell_of : FnScope N_bell_of ps_bell_of (defScope st_bell_of) := ⟨rfl, rfl, rfl, by decide +kernel, rfl, by decide +kernel, by decide +kernel⟩
theorem ok_bell_of (G_check_plan : FnG CT P w K mg base 6 "check_plan" ps_check_plan (ft_check_plan A)) {f : Addr} {fd : FuncData} (F : L2.Fun K "bell_of" "bell_of" st_bell_of f fd) : FnOk P w K mg base (L2.CX P w) 7 f fd ps_bell_of (spD CT 2 (ft_bell_of A)) :=
 DL.Fun.okD F sc_bell_of (m := .raw) (math_bell_of A) fun cdv A' outer s H E hr => by
  have nd := (sc_bell_of).nd
  exact dss_cons (ds_expr (de_G (k := 6) (ps := ps_check_plan) G_check_plan (hr.mono (by decide)) passM (da_cons (de_v 0) (da_cons (de_v 1) (da_nil)))))
    (dss_cons (ds_never)
    (dss_nil))
abbrev st_on_roads : Stmt := (top 109)
theorem sc_on_roads : FnScope N_on_roads ps_on_roads (defScope st_on_roads) := ⟨rfl, rfl, rfl, by decide +kernel, rfl, by decide +kernel, by decide +kernel⟩
theorem ok_on_roads (G_check_plan : FnG CT P w K mg base 6 "check_plan" ps_check_plan (ft_check_plan A)) {f : Addr} {fd : FuncData} (F : L2.Fun K "on_roads" "on_roads" st_on_roads f fd) : FnOk P w K mg base (L2.CX P w) 7 f fd ps_on_roads (spD CT 3 (ft_on_roads A)) :=
 DL.Fun.okD F sc_on_roads (m := .raw) (math_on_roads A) fun cdv A' outer s H E hr => by
  have nd := (sc_on_roads).nd
  exact dss_cons (ds_expr (de_G (k := 6) (ps := ps_check_plan) G_check_plan (hr.mono (by decide)) passM (da_cons (de_v 0) (da_cons (de_v 1) (da_nil)))))
    (dss_cons (ds_never)
    (dss_cons (ds_never)
    (dss_cons (ds_never)
    (dss_cons (ds_never)
    (dss_nil)))))
abbrev st_asked : Stmt := (top 115)
theorem sc_asked : FnScope N_asked ps_asked (defScope st_asked) := ⟨rfl, rfl, rfl, by decide +kernel, rfl, by decide +kernel, by decide +kernel⟩
theorem ok_asked (G_check_house : FnG CT P w K mg base 3 "check_house" ps_check_house (ft_check_house A)) {f : Addr} {fd : FuncData} (F : L2.Fun K "asked" "asked" st_asked f fd) : FnOk P w K mg base (L2.CX P w) 4 f fd ps_asked (spD CT 3 (ft_asked A)) :=
 DL.Fun.okD F sc_asked (m := .raw) (math_asked A) fun cdv A' outer s H E hr => by
  have nd := (sc_asked).nd
  exact dss_cons (ds_expr (de_G (k := 3) (ps := ps_check_house) G_check_house (hr.mono (by decide)) passM (da_cons (de_v 0) (da_nil))))
    (dss_cons (ds_never)
    (dss_cons (ds_never)
    (dss_nil)))
abbrev st_lacking : Stmt := (top 117)
theorem sc_lacking : FnScope N_lacking ps_lacking (defScope st_lacking) := ⟨rfl, rfl, rfl, by decide +kernel, rfl, by decide +kernel, by decide +kernel⟩
theorem ok_lacking (G_check_house : FnG CT P w K mg base 3 "check_house" ps_check_house (ft_check_house A)) {f : Addr} {fd : FuncData} (F : L2.Fun K "lacking" "lacking" st_lacking f fd) : FnOk P w K mg base (L2.CX P w) 4 f fd ps_lacking (spD CT 3 (ft_lacking A)) :=
 DL.Fun.okD F sc_lacking (m := .raw) (math_lacking A) fun cdv A' outer s H E hr => by
  have nd := (sc_lacking).nd
  exact dss_cons (ds_expr (de_G (k := 3) (ps := ps_check_house) G_check_house (hr.mono (by decide)) passM (da_cons (de_v 0) (da_nil))))
    (dss_cons (ds_never)
    (dss_cons (ds_never)
    (dss_cons (ds_never)
    (dss_nil))))
abbrev st_lot_for : Stmt := (top 120)
theorem sc_lot_for : FnScope N_lot_for ps_lot_for (defScope st_lot_for) := ⟨rfl, rfl, rfl, by decide +kernel, rfl, by decide +kernel, by decide +kernel⟩
theorem ok_lot_for (G_check_house : FnG CT P w K mg base 3 "check_house" ps_check_house (ft_check_house A)) {f : Addr} {fd : FuncData} (F : L2.Fun K "lot_for" "lot_for" st_lot_for f fd) : FnOk P w K mg base (L2.CX P w) 4 f fd ps_lot_for (spD CT 3 (ft_lot_for A)) :=
 DL.Fun.okD F sc_lot_for (m := .raw) (math_lot_for A) fun cdv A' outer s H E hr => by
  have nd := (sc_lot_for).nd
  exact dss_cons (ds_expr (de_G (k := 3) (ps := ps_check_house) G_check_house (hr.mono (by decide)) passM (da_cons (de_v 0) (da_nil))))
    (dss_cons (ds_never)
    (dss_cons (ds_never)
    (dss_cons (ds_never)
    (dss_cons (ds_never)
    (dss_nil)))))
abbrev st_is_lot_for : Stmt := (top 121)
theorem sc_is_lot_for : FnScope N_is_lot_for ps_is_lot_for (defScope st_is_lot_for) := ⟨rfl, rfl, rfl, by decide +kernel, rfl, by decide +kernel, by decide +kernel⟩
theorem ok_is_lot_for (G_check_house : FnG CT P w K mg base 3 "check_house" ps_check_house (ft_check_house A)) {f : Addr} {fd : FuncData} (F : L2.Fun K "is_lot_for" "is_lot_for" st_is_lot_for f fd) : FnOk P w K mg base (L2.CX P w) 4 f fd ps_is_lot_for (spD CT 4 (ft_is_lot_for A)) :=
 DL.Fun.okD F sc_is_lot_for (m := .raw) (math_is_lot_for A) fun cdv A' outer s H E hr => by
  have nd := (sc_is_lot_for).nd
  exact dss_cons (ds_expr (de_G (k := 3) (ps := ps_check_house) G_check_house (hr.mono (by decide)) passM (da_cons (de_v 0) (da_nil))))
    (dss_cons (ds_never)
    (dss_cons (ds_never)
    (dss_cons (ds_never)
    (dss_cons (ds_never)
    (dss_nil)))))
abbrev st_is_plan_for : Stmt := (top 122)
theorem sc_is_plan_for : FnScope N_is_plan_for ps_is_plan_for (defScope st_is_plan_for) := ⟨rfl, rfl, rfl, by decide +kernel, rfl, by decide +kernel, by decide +kernel⟩
theorem ok_is_plan_for (G_check_house : FnG CT P w K mg base 3 "check_house" ps_check_house (ft_check_house A)) {f : Addr} {fd : FuncData} (F : L2.Fun K "is_plan_for" "is_plan_for" st_is_plan_for f fd) : FnOk P w K mg base (L2.CX P w) 4 f fd ps_is_plan_for (spD CT 4 (ft_is_plan_for A)) :=
 DL.Fun.okD F sc_is_plan_for (m := .raw) (math_is_plan_for A) fun cdv A' outer s H E hr => by
  have nd := (sc_is_plan_for).nd
  exact dss_cons (ds_expr (de_G (k := 3) (ps := ps_check_house) G_check_house (hr.mono (by decide)) passM (da_cons (de_v 0) (da_nil))))
    (dss_cons (ds_never)
    (dss_cons (ds_never)
    (dss_cons (ds_never)
    (dss_nil))))
abbrev st_check_both : Stmt := (top 125)
theorem sc_check_both : FnScope N_check_both ps_check_both (defScope st_check_both) := ⟨rfl, rfl, rfl, by decide +kernel, rfl, by decide +kernel, by decide +kernel⟩
theorem ok_check_both (G_check_house : FnG CT P w K mg base 3 "check_house" ps_check_house (ft_check_house A)) {f : Addr} {fd : FuncData} (F : L2.Fun K "check_both" "check_both" st_check_both f fd) : FnOk P w K mg base (L2.CX P w) 4 f fd ps_check_both (spD CT 3 (ft_check_both A)) :=
 DL.Fun.okD F sc_check_both (m := .raw) (math_check_both A) fun cdv A' outer s H E hr => by
  have nd := (sc_check_both).nd
  exact dss_cons (ds_expr (de_G (k := 3) (ps := ps_check_house) G_check_house (hr.mono (by decide)) passM (da_cons (de_v 0) (da_nil))))
    (dss_cons (ds_never)
    (dss_cons (ds_never)
    (dss_nil)))
abbrev st_plan_by_order : Stmt := (top 129)
theorem sc_plan_by_order : FnScope N_plan_by_order ps_plan_by_order (defScope st_plan_by_order) := ⟨rfl, rfl, rfl, by decide +kernel, rfl, by decide +kernel, by decide +kernel⟩
theorem ok_plan_by_order (G_check_both : FnG CT P w K mg base 4 "check_both" ps_check_both (ft_check_both A)) {f : Addr} {fd : FuncData} (F : L2.Fun K "plan_by_order" "plan_by_order" st_plan_by_order f fd) : FnOk P w K mg base (L2.CX P w) 5 f fd ps_plan_by_order (spD CT 3 (ft_plan_by_order A)) :=
 DL.Fun.okD F sc_plan_by_order (m := .raw) (math_plan_by_order A) fun cdv A' outer s H E hr => by
  have nd := (sc_plan_by_order).nd
  exact dss_cons (ds_expr (de_G (k := 4) (ps := ps_check_both) G_check_both (hr.mono (by decide)) passM (da_cons (de_v 0) (da_cons (de_v 1) (da_cons (de_v 2) (da_nil))))))
    (dss_cons (ds_never)
    (dss_nil))
abbrev st_corner : Stmt := (top 132)
theorem sc_corner : FnScope N_corner ps_corner (defScope st_corner) := ⟨rfl, rfl, rfl, by decide +kernel, rfl, by decide +kernel, by decide +kernel⟩
theorem ok_corner (G_check_both : FnG CT P w K mg base 4 "check_both" ps_check_both (ft_check_both A)) {f : Addr} {fd : FuncData} (F : L2.Fun K "corner" "corner" st_corner f fd) : FnOk P w K mg base (L2.CX P w) 5 f fd ps_corner (spD CT 3 (ft_corner A)) :=
 DL.Fun.okD F sc_corner (m := .raw) (math_corner A) fun cdv A' outer s H E hr => by
  have nd := (sc_corner).nd
  exact dss_cons (ds_expr (de_G (k := 4) (ps := ps_check_both) G_check_both (hr.mono (by decide)) passM (da_cons (de_v 0) (da_cons (de_v 1) (da_cons (de_v 2) (da_nil))))))
    (dss_cons (ds_never)
    (dss_nil))
abbrev st_corners : Stmt := (top 134)
theorem sc_corners : FnScope N_corners ps_corners (defScope st_corners) := ⟨rfl, rfl, rfl, by decide +kernel, rfl, by decide +kernel, by decide +kernel⟩
theorem ok_corners (G_check_house : FnG CT P w K mg base 3 "check_house" ps_check_house (ft_check_house A)) {f : Addr} {fd : FuncData} (F : L2.Fun K "corners" "corners" st_corners f fd) : FnOk P w K mg base (L2.CX P w) 4 f fd ps_corners (spD CT 2 (ft_corners A)) :=
 DL.Fun.okD F sc_corners (m := .raw) (math_corners A) fun cdv A' outer s H E hr => by
  have nd := (sc_corners).nd
  exact dss_cons (ds_expr (de_G (k := 3) (ps := ps_check_house) G_check_house (hr.mono (by decide)) passM (da_cons (de_v 0) (da_nil))))
    (dss_cons (ds_never)
    (dss_cons (ds_never)
    (dss_nil)))
abbrev st_order_of : Stmt := (top 135)
theorem sc_order_of : FnScope N_order_of ps_order_of (defScope st_order_of) := ⟨rfl, rfl, rfl, by decide +kernel, rfl, by decide +kernel, by decide +kernel⟩
theorem ok_order_of (G_check_house : FnG CT P w K mg base 3 "check_house" ps_check_house (ft_check_house A)) {f : Addr} {fd : FuncData} (F : L2.Fun K "order_of" "order_of" st_order_of f fd) : FnOk P w K mg base (L2.CX P w) 4 f fd ps_order_of (spD CT 3 (ft_order_of A)) :=
 DL.Fun.okD F sc_order_of (m := .raw) (math_order_of A) fun cdv A' outer s H E hr => by
  have nd := (sc_order_of).nd
  exact dss_cons (ds_expr (de_G (k := 3) (ps := ps_check_house) G_check_house (hr.mono (by decide)) passM (da_cons (de_v 0) (da_nil))))
    (dss_cons (ds_never)
    (dss_cons (ds_never)
    (dss_cons (ds_never)
    (dss_cons (ds_never)
    (dss_nil)))))
abbrev st_check_sorts : Stmt := (top 137)
theorem sc_check_sorts : FnScope N_check_sorts ps_check_sorts (defScope st_check_sorts) := ⟨rfl, rfl, rfl, by decide +kernel, rfl, by decide +kernel, by decide +kernel⟩
theorem ok_check_sorts (G_check_house : FnG CT P w K mg base 3 "check_house" ps_check_house (ft_check_house A)) {f : Addr} {fd : FuncData} (F : L2.Fun K "check_sorts" "check_sorts" st_check_sorts f fd) : FnOk P w K mg base (L2.CX P w) 4 f fd ps_check_sorts (spD CT 2 (ft_check_sorts A)) :=
 DL.Fun.okD F sc_check_sorts (m := .raw) (math_check_sorts A) fun cdv A' outer s H E hr => by
  have nd := (sc_check_sorts).nd
  exact dss_cons (ds_expr (de_G (k := 3) (ps := ps_check_house) G_check_house (hr.mono (by decide)) passM (da_cons (de_v 0) (da_nil))))
    (dss_cons (ds_never)
    (dss_cons (ds_never)
    (dss_nil)))
abbrev st_first_unlike : Stmt := (top 140)
theorem sc_first_unlike : FnScope N_first_unlike ps_first_unlike (defScope st_first_unlike) := ⟨rfl, rfl, rfl, by decide +kernel, rfl, by decide +kernel, by decide +kernel⟩
theorem ok_first_unlike (G_check_sorts : FnG CT P w K mg base 4 "check_sorts" ps_check_sorts (ft_check_sorts A)) {f : Addr} {fd : FuncData} (F : L2.Fun K "first_unlike" "first_unlike" st_first_unlike f fd) : FnOk P w K mg base (L2.CX P w) 5 f fd ps_first_unlike (spD CT 2 (ft_first_unlike A)) :=
 DL.Fun.okD F sc_first_unlike (m := .raw) (math_first_unlike A) fun cdv A' outer s H E hr => by
  have nd := (sc_first_unlike).nd
  exact dss_cons (ds_expr (de_G (k := 4) (ps := ps_check_sorts) G_check_sorts (hr.mono (by decide)) passM (da_cons (de_v 0) (da_cons (de_v 1) (da_nil)))))
    (dss_cons (ds_never)
    (dss_nil))
abbrev st_parting : Stmt := (top 141)
theorem sc_parting : FnScope N_parting ps_parting (defScope st_parting) := ⟨rfl, rfl, rfl, by decide +kernel, rfl, by decide +kernel, by decide +kernel⟩
theorem ok_parting (G_check_sorts : FnG CT P w K mg base 4 "check_sorts" ps_check_sorts (ft_check_sorts A)) {f : Addr} {fd : FuncData} (F : L2.Fun K "parting" "parting" st_parting f fd) : FnOk P w K mg base (L2.CX P w) 5 f fd ps_parting (spD CT 2 (ft_parting A)) :=
 DL.Fun.okD F sc_parting (m := .raw) (math_parting A) fun cdv A' outer s H E hr => by
  have nd := (sc_parting).nd
  exact dss_cons (ds_expr (de_G (k := 4) (ps := ps_check_sorts) G_check_sorts (hr.mono (by decide)) passM (da_cons (de_v 0) (da_cons (de_v 1) (da_nil)))))
    (dss_cons (ds_never)
    (dss_cons (ds_never)
    (dss_cons (ds_never)
    (dss_cons (ds_never)
    (dss_cons (ds_never)
    (dss_cons (ds_never)
    (dss_nil)))))))
abbrev st_least_bell : Stmt := (top 144)
theorem sc_least_bell : FnScope N_least_bell ps_least_bell (defScope st_least_bell) := ⟨rfl, rfl, rfl, by decide +kernel, rfl, by decide +kernel, by decide +kernel⟩
theorem ok_least_bell (G_check_house : FnG CT P w K mg base 3 "check_house" ps_check_house (ft_check_house A)) {f : Addr} {fd : FuncData} (F : L2.Fun K "least_bell" "least_bell" st_least_bell f fd) : FnOk P w K mg base (L2.CX P w) 4 f fd ps_least_bell (spD CT 2 (ft_least_bell A)) :=
 DL.Fun.okD F sc_least_bell (m := .raw) (math_least_bell A) fun cdv A' outer s H E hr => by
  have nd := (sc_least_bell).nd
  exact dss_cons (ds_expr (de_G (k := 3) (ps := ps_check_house) G_check_house (hr.mono (by decide)) passM (da_cons (de_v 0) (da_nil))))
    (dss_cons (ds_never)
    (dss_nil))
abbrev st_never : Stmt := (top 146)
theorem sc_never : FnScope N_never ps_never (defScope st_never) := ⟨rfl, rfl, rfl, by decide +kernel, rfl, by decide +kernel, by decide +kernel⟩
theorem ok_never (G_check_house : FnG CT P w K mg base 3 "check_house" ps_check_house (ft_check_house A)) {f : Addr} {fd : FuncData} (F : L2.Fun K "never" "never" st_never f fd) : FnOk P w K mg base (L2.CX P w) 4 f fd ps_never (spD CT 2 (ft_never A)) :=
 DL.Fun.okD F sc_never (m := .raw) (math_never A) fun cdv A' outer s H E hr => by
  have nd := (sc_never).nd
  exact dss_cons (ds_expr (de_G (k := 3) (ps := ps_check_house) G_check_house (hr.mono (by decide)) passM (da_cons (de_v 0) (da_nil))))
    (dss_cons (ds_never)
    (dss_nil))
abbrev st_rising : Stmt := (top 147)
theorem sc_rising : FnScope N_rising ps_rising (defScope st_rising) := ⟨rfl, rfl, rfl, by decide +kernel, rfl, by decide +kernel, by decide +kernel⟩
theorem ok_rising (G_check_house : FnG CT P w K mg base 3 "check_house" ps_check_house (ft_check_house A)) {f : Addr} {fd : FuncData} (F : L2.Fun K "rising" "rising" st_rising f fd) : FnOk P w K mg base (L2.CX P w) 4 f fd ps_rising (spD CT 2 (ft_rising A)) :=
 DL.Fun.okD F sc_rising (m := .raw) (math_rising A) fun cdv A' outer s H E hr => by
  have nd := (sc_rising).nd
  exact dss_cons (ds_expr (de_G (k := 3) (ps := ps_check_house) G_check_house (hr.mono (by decide)) passM (da_cons (de_v 0) (da_nil))))
    (dss_cons (ds_never)
    (dss_cons (ds_never)
    (dss_cons (ds_never)
    (dss_cons (ds_never)
    (dss_cons (ds_never)
    (dss_cons (ds_never)
    (dss_nil)))))))
abbrev st_bell_with : Stmt := (top 150)
theorem sc_bell_with : FnScope N_bell_with ps_bell_with (defScope st_bell_with) := ⟨rfl, rfl, rfl, by decide +kernel, rfl, by decide +kernel, by decide +kernel⟩
theorem ok_bell_with (G_check_house : FnG CT P w K mg base 3 "check_house" ps_check_house (ft_check_house A)) {f : Addr} {fd : FuncData} (F : L2.Fun K "bell_with" "bell_with" st_bell_with f fd) : FnOk P w K mg base (L2.CX P w) 4 f fd ps_bell_with (spD CT 4 (ft_bell_with A)) :=
 DL.Fun.okD F sc_bell_with (m := .raw) (math_bell_with A) fun cdv A' outer s H E hr => by
  have nd := (sc_bell_with).nd
  exact dss_cons (ds_expr (de_G (k := 3) (ps := ps_check_house) G_check_house (hr.mono (by decide)) passM (da_cons (de_v 0) (da_nil))))
    (dss_cons (ds_never)
    (dss_cons (ds_never)
    (dss_cons (ds_never)
    (dss_nil))))
abbrev st_dearest_order : Stmt := (top 154)
theorem sc_dearest_order : FnScope N_dearest_order ps_dearest_order (defScope st_dearest_order) := ⟨rfl, rfl, rfl, by decide +kernel, rfl, by decide +kernel, by decide +kernel⟩
theorem ok_dearest_order (G_check_house : FnG CT P w K mg base 3 "check_house" ps_check_house (ft_check_house A)) {f : Addr} {fd : FuncData} (F : L2.Fun K "dearest_order" "dearest_order" st_dearest_order f fd) : FnOk P w K mg base (L2.CX P w) 4 f fd ps_dearest_order (spD CT 3 (ft_dearest_order A)) :=
 DL.Fun.okD F sc_dearest_order (m := .raw) (math_dearest_order A) fun cdv A' outer s H E hr => by
  have nd := (sc_dearest_order).nd
  exact dss_cons (ds_expr (de_G (k := 3) (ps := ps_check_house) G_check_house (hr.mono (by decide)) passM (da_cons (de_v 0) (da_nil))))
    (dss_cons (ds_never)
    (dss_cons (ds_never)
    (dss_nil)))
abbrev st_dearest : Stmt := (top 155)
theorem sc_dearest : FnScope N_dearest ps_dearest (defScope st_dearest) := ⟨rfl, rfl, rfl, by decide +kernel, rfl, by decide +kernel, by decide +kernel⟩
theorem ok_dearest (G_dearest_order : FnG CT P w K mg base 4 "dearest_order" ps_dearest_order (ft_dearest_order A)) {f : Addr} {fd : FuncData} (F : L2.Fun K "dearest" "dearest" st_dearest f fd) : FnOk P w K mg base (L2.CX P w) 5 f fd ps_dearest (spD CT 3 (ft_dearest A)) :=
 DL.Fun.okD F sc_dearest (m := .raw) (math_dearest A) fun cdv A' outer s H E hr => by
  have nd := (sc_dearest).nd
  exact dss_cons (ds_set (ps_set (i := 3) nd rfl (by first | exact .inl rfl | exact .inr rfl) (DE.pe (de_G (k := 4) (ps := ps_dearest_order) G_dearest_order (hr.mono (by decide)) passM (da_cons (de_v 0) (da_cons (de_v 1) (da_cons (de_v 2) (da_nil))))))))
    (dss_cons (ds_never)
    (dss_nil))
abbrev st_checked_kept : Stmt := (top 157)
theorem sc_checked_kept : FnScope N_checked_kept ps_checked_kept (defScope st_checked_kept) := ⟨rfl, rfl, rfl, by decide +kernel, rfl, by decide +kernel, by decide +kernel⟩
theorem ok_checked_kept (G_check_house : FnG CT P w K mg base 3 "check_house" ps_check_house (ft_check_house A)) {f : Addr} {fd : FuncData} (F : L2.Fun K "checked_kept" "checked_kept" st_checked_kept f fd) : FnOk P w K mg base (L2.CX P w) 4 f fd ps_checked_kept (spD CT 3 (ft_checked_kept A)) :=
 DL.Fun.okD F sc_checked_kept (m := .raw) (math_checked_kept A) fun cdv A' outer s H E hr => by
  have nd := (sc_checked_kept).nd
  exact dss_cons (ds_expr (de_G (k := 3) (ps := ps_check_house) G_check_house (hr.mono (by decide)) passM (da_cons (de_v 0) (da_nil))))
    (dss_cons (ds_never)
    (dss_cons (ds_never)
    (dss_cons (ds_never)
    (dss_cons (ds_never)
    (dss_nil)))))
abbrev st_further : Stmt := (top 161)
theorem sc_further : FnScope N_further ps_further (defScope st_further) := ⟨rfl, rfl, rfl, by decide +kernel, rfl, by decide +kernel, by decide +kernel⟩
theorem ok_further (G_check_house : FnG CT P w K mg base 3 "check_house" ps_check_house (ft_check_house A)) {f : Addr} {fd : FuncData} (F : L2.Fun K "further" "further" st_further f fd) : FnOk P w K mg base (L2.CX P w) 4 f fd ps_further (spD CT 5 (ft_further A)) :=
 DL.Fun.okD F sc_further (m := .raw) (math_further A) fun cdv A' outer s H E hr => by
  have nd := (sc_further).nd
  exact dss_cons (ds_expr (de_G (k := 3) (ps := ps_check_house) G_check_house (hr.mono (by decide)) passM (da_cons (de_v 0) (da_nil))))
    (dss_cons (ds_never)
    (dss_cons (ds_never)
    (dss_cons (ds_never)
    (dss_cons (ds_never)
    (dss_cons (ds_never)
    (dss_cons (ds_never)
    (dss_cons (ds_never)
    (dss_nil))))))))
abbrev st_tight_by : Stmt := (top 162)
theorem sc_tight_by : FnScope N_tight_by ps_tight_by (defScope st_tight_by) := ⟨rfl, rfl, rfl, by decide +kernel, rfl, by decide +kernel, by decide +kernel⟩
theorem ok_tight_by  {f : Addr} {fd : FuncData} (F : L2.Fun K "tight_by" "tight_by" st_tight_by f fd) : FnOk P w K mg base (L2.CX P w) 1 f fd ps_tight_by (spD CT 3 (ft_tight_by A)) :=
 DL.Fun.okD F sc_tight_by (m := .raw) (math_tight_by A) fun cdv A' outer s H E hr => by
  have nd := (sc_tight_by).nd
  exact dss_cons (ds_never)
    (dss_nil)
abbrev st_tight : Stmt := (top 163)
theorem sc_tight : FnScope N_tight ps_tight (defScope st_tight) := ⟨rfl, rfl, rfl, by decide +kernel, rfl, by decide +kernel, by decide +kernel⟩
theorem ok_tight (G_checked_kept : FnG CT P w K mg base 4 "checked_kept" ps_checked_kept (ft_checked_kept A)) (G_tight_by : FnG CT P w K mg base 1 "tight_by" ps_tight_by (ft_tight_by A)) {f : Addr} {fd : FuncData} (F : L2.Fun K "tight" "tight" st_tight f fd) : FnOk P w K mg base (L2.CX P w) 5 f fd ps_tight (spD CT 3 (ft_tight A)) :=
 DL.Fun.okD F sc_tight (m := .raw) (math_tight A) fun cdv A' outer s H E hr => by
  have nd := (sc_tight).nd
  exact dss_cons (ds_ret (de_G (k := 1) (ps := ps_tight_by) G_tight_by (hr.mono (by decide)) passM (da_cons (de_v 0) (da_cons (de_G (k := 4) (ps := ps_checked_kept) G_checked_kept (hr.mono (by decide)) passM (da_cons (de_v 0) (da_cons (de_v 1) (da_cons (de_v 2) (da_nil))))) (da_cons (de_v 2) (da_nil))))))
    (dss_nil)
abbrev st_bound : Stmt := (top 164)
theorem sc_bound : FnScope N_bound ps_bound (defScope st_bound) := ⟨rfl, rfl, rfl, by decide +kernel, rfl, by decide +kernel, by decide +kernel⟩
theorem ok_bound (G_check_house : FnG CT P w K mg base 3 "check_house" ps_check_house (ft_check_house A)) {f : Addr} {fd : FuncData} (F : L2.Fun K "bound" "bound" st_bound f fd) : FnOk P w K mg base (L2.CX P w) 4 f fd ps_bound (spD CT 4 (ft_bound A)) :=
 DL.Fun.okD F sc_bound (m := .raw) (math_bound A) fun cdv A' outer s H E hr => by
  have nd := (sc_bound).nd
  exact dss_cons (ds_expr (de_G (k := 3) (ps := ps_check_house) G_check_house (hr.mono (by decide)) passM (da_cons (de_v 0) (da_nil))))
    (dss_cons (ds_never)
    (dss_cons (ds_never)
    (dss_cons (ds_never)
    (dss_cons (ds_never)
    (dss_cons (ds_never)
    (dss_nil))))))
abbrev st_times : Stmt := (top 166)
theorem sc_times : FnScope N_times ps_times (defScope st_times) := ⟨rfl, rfl, rfl, by decide +kernel, rfl, by decide +kernel, by decide +kernel⟩
theorem ok_times (G_check_house : FnG CT P w K mg base 3 "check_house" ps_check_house (ft_check_house A)) {f : Addr} {fd : FuncData} (F : L2.Fun K "times" "times" st_times f fd) : FnOk P w K mg base (L2.CX P w) 4 f fd ps_times (spD CT 3 (ft_times A)) :=
 DL.Fun.okD F sc_times (m := .raw) (math_times A) fun cdv A' outer s H E hr => by
  have nd := (sc_times).nd
  exact dss_cons (ds_expr (de_G (k := 3) (ps := ps_check_house) G_check_house (hr.mono (by decide)) passM (da_cons (de_v 0) (da_nil))))
    (dss_cons (ds_never)
    (dss_cons (ds_never)
    (dss_cons (ds_never)
    (dss_cons (ds_never)
    (dss_nil)))))
abbrev st_whole_times : Stmt := (top 167)
theorem sc_whole_times : FnScope N_whole_times ps_whole_times (defScope st_whole_times) := ⟨rfl, rfl, rfl, by decide +kernel, rfl, by decide +kernel, by decide +kernel⟩
theorem ok_whole_times (G_times : FnG CT P w K mg base 4 "times" ps_times (ft_times A)) {f : Addr} {fd : FuncData} (F : L2.Fun K "whole_times" "whole_times" st_whole_times f fd) : FnOk P w K mg base (L2.CX P w) 5 f fd ps_whole_times (spD CT 3 (ft_whole_times A)) :=
 DL.Fun.okD F sc_whole_times (m := .raw) (math_whole_times A) fun cdv A' outer s H E hr => by
  have nd := (sc_whole_times).nd
  exact dss_cons (ds_set (ps_set (i := 3) nd rfl (by first | exact .inl rfl | exact .inr rfl) (DE.pe (de_G (k := 4) (ps := ps_times) G_times (hr.mono (by decide)) passM (da_cons (de_v 0) (da_cons (de_v 1) (da_cons (de_v 2) (da_nil))))))))
    (dss_cons (ds_never)
    (dss_nil))
abbrev st_parted : Stmt := (top 173)
theorem sc_parted : FnScope N_parted ps_parted (defScope st_parted) := ⟨rfl, rfl, rfl, by decide +kernel, rfl, by decide +kernel, by decide +kernel⟩
theorem ok_parted (G_check_house : FnG CT P w K mg base 3 "check_house" ps_check_house (ft_check_house A)) {f : Addr} {fd : FuncData} (F : L2.Fun K "parted" "parted" st_parted f fd) : FnOk P w K mg base (L2.CX P w) 4 f fd ps_parted (spD CT 2 (ft_parted A)) :=
 DL.Fun.okD F sc_parted (m := .raw) (math_parted A) fun cdv A' outer s H E hr => by
  have nd := (sc_parted).nd
  exact dss_cons (ds_expr (de_G (k := 3) (ps := ps_check_house) G_check_house (hr.mono (by decide)) passM (da_cons (de_v 0) (da_nil))))
    (dss_cons (ds_never)
    (dss_cons (ds_never)
    (dss_cons (ds_never)
    (dss_nil))))
abbrev st_row_for : Stmt := (top 177)
theorem sc_row_for : FnScope N_row_for ps_row_for (defScope st_row_for) := ⟨rfl, rfl, rfl, by decide +kernel, rfl, by decide +kernel, by decide +kernel⟩
theorem ok_row_for (G_check_house : FnG CT P w K mg base 3 "check_house" ps_check_house (ft_check_house A)) {f : Addr} {fd : FuncData} (F : L2.Fun K "row_for" "row_for" st_row_for f fd) : FnOk P w K mg base (L2.CX P w) 4 f fd ps_row_for (spD CT 3 (ft_row_for A)) :=
 DL.Fun.okD F sc_row_for (m := .raw) (math_row_for A) fun cdv A' outer s H E hr => by
  have nd := (sc_row_for).nd
  exact dss_cons (ds_expr (de_G (k := 3) (ps := ps_check_house) G_check_house (hr.mono (by decide)) passM (da_cons (de_v 0) (da_nil))))
    (dss_cons (ds_never)
    (dss_cons (ds_never)
    (dss_cons (ds_never)
    (dss_nil))))
abbrev st_is_row_for : Stmt := (top 179)
theorem sc_is_row_for : FnScope N_is_row_for ps_is_row_for (defScope st_is_row_for) := ⟨rfl, rfl, rfl, by decide +kernel, rfl, by decide +kernel, by decide +kernel⟩
theorem ok_is_row_for (G_check_house : FnG CT P w K mg base 3 "check_house" ps_check_house (ft_check_house A)) {f : Addr} {fd : FuncData} (F : L2.Fun K "is_row_for" "is_row_for" st_is_row_for f fd) : FnOk P w K mg base (L2.CX P w) 4 f fd ps_is_row_for (spD CT 4 (ft_is_row_for A)) :=
 DL.Fun.okD F sc_is_row_for (m := .raw) (math_is_row_for A) fun cdv A' outer s H E hr => by
  have nd := (sc_is_row_for).nd
  exact dss_cons (ds_expr (de_G (k := 3) (ps := ps_check_house) G_check_house (hr.mono (by decide)) passM (da_cons (de_v 0) (da_nil))))
    (dss_cons (ds_never)
    (dss_cons (ds_never)
    (dss_cons (ds_never)
    (dss_cons (ds_never)
    (dss_cons (ds_never)
    (dss_cons (ds_never)
    (dss_nil)))))))
abbrev st_plan_for : Stmt := (top 182)
theorem sc_plan_for : FnScope N_plan_for ps_plan_for (defScope st_plan_for) := ⟨rfl, rfl, rfl, by decide +kernel, rfl, by decide +kernel, by decide +kernel⟩
theorem ok_plan_for (G_check_house : FnG CT P w K mg base 3 "check_house" ps_check_house (ft_check_house A)) {f : Addr} {fd : FuncData} (F : L2.Fun K "plan_for" "plan_for" st_plan_for f fd) : FnOk P w K mg base (L2.CX P w) 4 f fd ps_plan_for (spD CT 3 (ft_plan_for A)) :=
 DL.Fun.okD F sc_plan_for (m := .raw) (math_plan_for A) fun cdv A' outer s H E hr => by
  have nd := (sc_plan_for).nd
  exact dss_cons (ds_expr (de_G (k := 3) (ps := ps_check_house) G_check_house (hr.mono (by decide)) passM (da_cons (de_v 0) (da_nil))))
    (dss_cons (ds_never)
    (dss_cons (ds_never)
    (dss_cons (ds_never)
    (dss_nil))))
abbrev st_Desk_init : Stmt := (inClass (top 184) 0)
theorem sc_Desk_init : FnScope N_Desk_init ps_Desk_init (defScope st_Desk_init) := ⟨rfl, rfl, rfl, by decide +kernel, rfl, by decide +kernel, by decide +kernel⟩
theorem ok_Desk_init (G_check_house : FnG CT P w K mg base 3 "check_house" ps_check_house (ft_check_house A)) {f : Addr} {fd : FuncData} (F : L2.Fun K "__init__" "Desk.__init__" st_Desk_init f fd) : FnOk P w K mg base (L2.CX P w) 4 f fd ps_Desk_init (spD CT 3 (ft_Desk_init A)) :=
 DL.Fun.okD F sc_Desk_init (m := .raw) (math_Desk_init A) fun cdv A' outer s H E hr => by
  have nd := (sc_Desk_init).nd
  exact dss_cons (ds_expr (de_G (k := 3) (ps := ps_check_house) G_check_house (hr.mono (by decide)) passM (da_cons (de_v 1) (da_nil))))
    (dss_cons (ds_never)
    (dss_cons (ds_never)
    (dss_cons (ds_never)
    (dss_cons (ds_never)
    (dss_cons (ds_never)
    (dss_cons (ds_never)
    (dss_nil)))))))
abbrev st_Desk_plan : Stmt := (inClass (top 184) 8)
-- Desk.plan: call plan_by_rows
abbrev st_part_for : Stmt := (top 191)
theorem sc_part_for : FnScope N_part_for ps_part_for (defScope st_part_for) := ⟨rfl, rfl, rfl, by decide +kernel, rfl, by decide +kernel, by decide +kernel⟩
theorem ok_part_for (G_check_house : FnG CT P w K mg base 3 "check_house" ps_check_house (ft_check_house A)) {f : Addr} {fd : FuncData} (F : L2.Fun K "part_for" "part_for" st_part_for f fd) : FnOk P w K mg base (L2.CX P w) 4 f fd ps_part_for (spD CT 3 (ft_part_for A)) :=
 DL.Fun.okD F sc_part_for (m := .raw) (math_part_for A) fun cdv A' outer s H E hr => by
  have nd := (sc_part_for).nd
  exact dss_cons (ds_expr (de_G (k := 3) (ps := ps_check_house) G_check_house (hr.mono (by decide)) passM (da_cons (de_v 0) (da_nil))))
    (dss_cons (ds_never)
    (dss_cons (ds_never)
    (dss_cons (ds_never)
    (dss_nil))))
abbrev st_part_lot : Stmt := (top 192)
theorem sc_part_lot : FnScope N_part_lot ps_part_lot (defScope st_part_lot) := ⟨rfl, rfl, rfl, by decide +kernel, rfl, by decide +kernel, by decide +kernel⟩
theorem ok_part_lot (G_check_house : FnG CT P w K mg base 3 "check_house" ps_check_house (ft_check_house A)) {f : Addr} {fd : FuncData} (F : L2.Fun K "part_lot" "part_lot" st_part_lot f fd) : FnOk P w K mg base (L2.CX P w) 4 f fd ps_part_lot (spD CT 3 (ft_part_lot A)) :=
 DL.Fun.okD F sc_part_lot (m := .raw) (math_part_lot A) fun cdv A' outer s H E hr => by
  have nd := (sc_part_lot).nd
  exact dss_cons (ds_expr (de_G (k := 3) (ps := ps_check_house) G_check_house (hr.mono (by decide)) passM (da_cons (de_v 0) (da_nil))))
    (dss_cons (ds_never)
    (dss_cons (ds_never)
    (dss_cons (ds_never)
    (dss_cons (ds_never)
    (dss_cons (ds_never)
    (dss_nil))))))
abbrev st_mix_for : Stmt := (top 200)
theorem sc_mix_for : FnScope N_mix_for ps_mix_for (defScope st_mix_for) := ⟨rfl, rfl, rfl, by decide +kernel, rfl, by decide +kernel, by decide +kernel⟩
theorem ok_mix_for (G_check_house : FnG CT P w K mg base 3 "check_house" ps_check_house (ft_check_house A)) {f : Addr} {fd : FuncData} (F : L2.Fun K "mix_for" "mix_for" st_mix_for f fd) : FnOk P w K mg base (L2.CX P w) 4 f fd ps_mix_for (spD CT 3 (ft_mix_for A)) :=
 DL.Fun.okD F sc_mix_for (m := .raw) (math_mix_for A) fun cdv A' outer s H E hr => by
  have nd := (sc_mix_for).nd
  exact dss_cons (ds_expr (de_G (k := 3) (ps := ps_check_house) G_check_house (hr.mono (by decide)) passM (da_cons (de_v 0) (da_nil))))
    (dss_cons (ds_never)
    (dss_cons (ds_never)
    (dss_cons (ds_never)
    (dss_nil))))
abbrev st_is_mix_for : Stmt := (top 203)
theorem sc_is_mix_for : FnScope N_is_mix_for ps_is_mix_for (defScope st_is_mix_for) := ⟨rfl, rfl, rfl, by decide +kernel, rfl, by decide +kernel, by decide +kernel⟩
theorem ok_is_mix_for (G_check_house : FnG CT P w K mg base 3 "check_house" ps_check_house (ft_check_house A)) {f : Addr} {fd : FuncData} (F : L2.Fun K "is_mix_for" "is_mix_for" st_is_mix_for f fd) : FnOk P w K mg base (L2.CX P w) 4 f fd ps_is_mix_for (spD CT 4 (ft_is_mix_for A)) :=
 DL.Fun.okD F sc_is_mix_for (m := .raw) (math_is_mix_for A) fun cdv A' outer s H E hr => by
  have nd := (sc_is_mix_for).nd
  exact dss_cons (ds_expr (de_G (k := 3) (ps := ps_check_house) G_check_house (hr.mono (by decide)) passM (da_cons (de_v 0) (da_nil))))
    (dss_cons (ds_never)
    (dss_cons (ds_never)
    (dss_cons (ds_never)
    (dss_cons (ds_never)
    (dss_cons (ds_never)
    (dss_cons (ds_never)
    (dss_nil)))))))
abbrev st_turned : Stmt := (top 206)
theorem sc_turned : FnScope N_turned ps_turned (defScope st_turned) := ⟨rfl, rfl, rfl, by decide +kernel, rfl, by decide +kernel, by decide +kernel⟩
theorem ok_turned (G_check_house : FnG CT P w K mg base 3 "check_house" ps_check_house (ft_check_house A)) {f : Addr} {fd : FuncData} (F : L2.Fun K "turned" "turned" st_turned f fd) : FnOk P w K mg base (L2.CX P w) 4 f fd ps_turned (spD CT 1 (ft_turned A)) :=
 DL.Fun.okD F sc_turned (m := .raw) (math_turned A) fun cdv A' outer s H E hr => by
  have nd := (sc_turned).nd
  exact dss_cons (ds_expr (de_G (k := 3) (ps := ps_check_house) G_check_house (hr.mono (by decide)) passM (da_cons (de_v 0) (da_nil))))
    (dss_cons (ds_never)
    (dss_nil))
abbrev st_turned_plan : Stmt := (top 208)
theorem sc_turned_plan : FnScope N_turned_plan ps_turned_plan (defScope st_turned_plan) := ⟨rfl, rfl, rfl, by decide +kernel, rfl, by decide +kernel, by decide +kernel⟩
theorem ok_turned_plan (G_check_house : FnG CT P w K mg base 3 "check_house" ps_check_house (ft_check_house A)) {f : Addr} {fd : FuncData} (F : L2.Fun K "turned_plan" "turned_plan" st_turned_plan f fd) : FnOk P w K mg base (L2.CX P w) 4 f fd ps_turned_plan (spD CT 3 (ft_turned_plan A)) :=
 DL.Fun.okD F sc_turned_plan (m := .raw) (math_turned_plan A) fun cdv A' outer s H E hr => by
  have nd := (sc_turned_plan).nd
  exact dss_cons (ds_expr (de_G (k := 3) (ps := ps_check_house) G_check_house (hr.mono (by decide)) passM (da_cons (de_v 0) (da_nil))))
    (dss_cons (ds_never)
    (dss_cons (ds_never)
    (dss_cons (ds_never)
    (dss_cons (ds_never)
    (dss_cons (ds_never)
    (dss_nil))))))
abbrev st_law_stream : Stmt := (top 210)
theorem sc_law_stream : FnScope ["_law_script"] ["_law_script"] (defScope st_law_stream) := ⟨rfl, rfl, rfl, by decide +kernel, rfl, by decide +kernel, by decide +kernel⟩
theorem ok_law_stream (B : Bs mg) {f : Addr} {fd : FuncData} (F : L2.Fun K "_law_stream" "_law_stream" st_law_stream f fd) : FnOk P w K mg base (L2.CX P w) 1 f fd ["_law_script"] (spStream CT K) :=
  F.okX sc_law_stream (fun vs H Q E ⟨a, ns, e, _⟩ => by rw [e]; rfl) fun cdv A' outer s H vs Q E hr h => ⟨_, pss_cons (ps_ret (pe_lst (pa_cons (pe_callTy call_list_of rfl B.list bo_list (pa_cons (pv 0) pa_nil)) (pa_cons pe_int (pa_cons pe_int (pa_cons pe_int pa_nil)))))) pss_nil, stream_pure h⟩
abbrev st_law_draw : Stmt := (top 211)
theorem sc_law_draw : FnScope N_law_draw ps_law_draw (defScope st_law_draw) := ⟨rfl, rfl, rfl, by decide +kernel, rfl, by decide +kernel, by decide +kernel⟩
theorem ok_law_draw (B : Bs mg) {f : Addr} {fd : FuncData} (F : L2.Fun K "_law_draw" "_law_draw" st_law_draw f fd) : FnOk P w K mg base (L2.CX P w) 1 f fd ps_law_draw (spD CT 2 (ft_law_draw A)) :=
 FnOk.imp (sp := spD CT 2 ftDrawO) (DL.Fun.okD F sc_law_draw (m := .raw) (math_law_draw A) fun cdv A' outer s H E hr => by
  have nd := (sc_law_draw).nd
  exact dss_cons (ds_asg (ps_asg (DE.pe (de_op op_addA br_add (de_ix (de_v 0) (de_int)) (de_int))) (DG.pg (dg_sub (pg_sub (DE.pe (de_v 0)) (DE.pe (de_int)) set_list)))))
    (dss_cons (ds_while (passes_of rfl) (DW.dt (dw_and (dt_cmp (op_eqD (Room.units hr)) br_eq (de_ix (de_v 0) (de_int)) (de_int) (nomark _)) (dw_and1 (dt_cmp (op_neD (Room.units hr)) br_ne (de_ix (de_v 0) (de_int)) (de_lst (da_nil)) (nomark _)))))
    (dss_cons (ds_set (ps_set (i := 2) nd rfl (by first | exact .inl rfl | exact .inr rfl) (DE.pe (de_B (call_abs) br_abs B.abs bo_abs (da_cons (de_bm (pe_bm PySem.F.plainAttrs_list PySem.F.slot_list_pop PySem.F.type_list_pop mt_popAt (DE.pe (de_ix (de_v 0) (de_int))) (DA.pa (da_cons (de_int) (da_nil)))) bt_lst br_popAt) (da_nil))))))
    (dss_cons (ds_asg (ps_asg (DE.pe (de_op op_mod br_I (de_T (call_int1) br_int B.int bo_int (da_cons (de_op op_addA br_add (de_op op_addA br_add (de_op op_mulA br_mul (de_ix (de_v 0) (de_int)) (de_int)) (de_v 2)) (de_int)) (da_nil))) (de_int))) (DG.pg (dg_sub (pg_sub (DE.pe (de_v 0)) (DE.pe (de_int)) set_list)))))
    (dss_cons (ds_asg (ps_asg (DE.pe (de_if (dt_cmp op_ge br_I0 (de_v 2) (de_op op_powW br_I (de_int) (de_int)) (nomark _)) (de_v 2) (de_int))) (DG.pg (dg_sub (pg_sub (DE.pe (de_v 0)) (DE.pe (de_int)) set_list)))))
    (dss_nil)))))
    (dss_cons (ds_if (dt_cmp op_gt br_I0 (de_ix (de_v 0) (de_int)) (de_int) (nomark _))
    (dss_cons (ds_set (ps_set (i := 3) nd rfl (by first | exact .inl rfl | exact .inr rfl) (DE.pe (de_op op_mod br_I (de_T (call_int1) br_int B.int bo_int (da_cons (de_ix (de_v 0) (de_int)) (da_nil))) (de_v 1)))))
    (dss_cons (ds_asg (ps_asg (DE.pe (de_op op_fdivW br_I (de_ix (de_v 0) (de_int)) (de_v 1))) (DG.pg (dg_sub (pg_sub (DE.pe (de_v 0)) (DE.pe (de_int)) set_list)))))
    (dss_cons (ds_ret (de_v 3))
    (dss_nil))))
    (dss_nil))
    (dss_cons (ds_set (ps_set (i := 4) nd rfl (by first | exact .inl rfl | exact .inr rfl) (DE.pe (de_op op_mod br_I (de_T (call_int1) br_int B.int bo_int (da_cons (de_op op_powW br_I (de_op op_addA br_add (de_op op_addA br_add (de_ix (de_v 0) (de_int)) (de_op op_mulA br_mul (de_int) (de_ix (de_v 0) (de_int)))) (de_int)) (de_int)) (da_nil))) (de_int)))))
    (dss_cons (ds_ret (de_op op_mod br_I (de_op op_mod br_I (de_T (call_int1) br_int B.int bo_int (da_cons (de_op op_powW br_I (de_op op_addA br_add (de_op op_addA br_add (de_op op_mulA br_mul (de_v 4) (de_int)) (de_op op_mulA br_mul (de_int) (de_ix (de_v 0) (de_int)))) (de_int)) (de_int)) (da_nil))) (de_int)) (de_v 1)))
    (dss_nil)))))) fun _ _ _ _ => draw_imp
abbrev st_law_pick : Stmt := (top 212)
theorem sc_law_pick : FnScope N_law_pick ps_law_pick (defScope st_law_pick) := ⟨rfl, rfl, rfl, by decide +kernel, rfl, by decide +kernel, by decide +kernel⟩
theorem ok_law_pick (B : Bs mg) (G_law_draw : FnG CT P w K mg base 1 "_law_draw" ps_law_draw (ft_law_draw A)) {f : Addr} {fd : FuncData} (F : L2.Fun K "_law_pick" "_law_pick" st_law_pick f fd) : FnOk P w K mg base (L2.CX P w) 2 f fd ps_law_pick (spD CT 2 (ft_law_pick A)) :=
 DL.Fun.okD F sc_law_pick (m := .raw) (math_law_pick A) fun cdv A' outer s H E hr => by
  have nd := (sc_law_pick).nd
  exact dss_cons (ds_ret (de_ix (de_v 1) (de_G (k := 1) (ps := ps_law_draw) G_law_draw (hr.mono (by decide)) passM (da_cons (de_v 0) (da_cons (de_B (call_len) br_len B.len bo_len (da_cons (de_v 1) (da_nil))) (da_nil))))))
    (dss_nil)
abbrev st_law_mixed : Stmt := (top 213)
theorem sc_law_mixed : FnScope N_law_mixed ps_law_mixed (defScope st_law_mixed) := ⟨rfl, rfl, rfl, by decide +kernel, rfl, by decide +kernel, by decide +kernel⟩
theorem ok_law_mixedM (B : Bs mg) (G_law_draw : FnG CT P w K mg base 1 "_law_draw" ps_law_draw (ft_law_draw A)) {f : Addr} {fd : FuncData} (F : L2.Fun K "_law_mixed" "_law_mixed" st_law_mixed f fd) : FnOk P w K mg base (L2.CX P w) 2 f fd ps_law_mixed (spD CT 2 (ft_law_mixedM A)) :=
 DL.Fun.okD F sc_law_mixed (m := .top) (math_law_mixedM A) fun cdv A' outer s H E hr => by
  have nd := (sc_law_mixed).nd
  exact dss_cons (ds_par (ps_par (i := 2) (j := 3) rfl nd rfl rfl (by decide) rfl rfl (DA.pa (da_cons (de_T (call_list_of) br_listM B.list bo_list (da_cons (de_v 1) (da_nil))) (da_cons (de_lstM (da_nil)) (da_nil)))) rfl))
    (dss_cons (ds_for (passes_of rfl) rfl (di_range1 (pi_range1 rfl B.range (DA.pa (da_cons (de_B (call_len) br_len B.len bo_len (da_cons (de_v 2) (da_nil))) (da_nil))))) (dg_name (pg_name (i := 4) nd rfl (by first | exact .inl rfl | exact .inr rfl)))
    (dss_cons (ds_expr (de_bm (pe_bm PySem.F.plainAttrs_list PySem.F.slot_list_append PySem.F.type_list_append mt_append (DE.pe (de_v 3)) (DA.pa (da_cons (de_bm (pe_bm PySem.F.plainAttrs_list PySem.F.slot_list_pop PySem.F.type_list_pop mt_popAt (DE.pe (de_v 2)) (DA.pa (da_cons (de_G (k := 1) (ps := ps_law_draw) G_law_draw (hr.mono (by decide)) passM (da_cons (de_v 0) (da_cons (de_B (call_len) br_len B.len bo_len (da_cons (de_v 2) (da_nil))) (da_nil)))) (da_nil)))) bt_lst br_popAt) (da_nil)))) bt_lst br_append))
    (dss_nil)))
    (dss_cons (ds_ret (de_v 3))
    (dss_nil)))
theorem ok_law_mixed (B : Bs mg) (G_law_draw : FnG CT P w K mg base 1 "_law_draw" ps_law_draw (ft_law_draw A)) {f : Addr} {fd : FuncData} (F : L2.Fun K "_law_mixed" "_law_mixed" st_law_mixed f fd) : FnOk P w K mg base (L2.CX P w) 2 f fd ps_law_mixed (spD CT 2 (ft_law_mixed A)) :=
 DL.Fun.okD F sc_law_mixed (m := .tree) (math_law_mixed A) fun cdv A' outer s H E hr => by
  have nd := (sc_law_mixed).nd
  exact dss_cons (ds_par (ps_par (i := 2) (j := 3) rfl nd rfl rfl (by decide) rfl rfl (DA.pa (da_cons (de_T (call_list_of) br_listM B.list bo_list (da_cons (de_v 1) (da_nil))) (da_cons (de_lstM (da_nil)) (da_nil)))) rfl))
    (dss_cons (ds_for (passes_of rfl) rfl (di_range1 (pi_range1 rfl B.range (DA.pa (da_cons (de_B (call_len) br_len B.len bo_len (da_cons (de_v 2) (da_nil))) (da_nil))))) (dg_name (pg_name (i := 4) nd rfl (by first | exact .inl rfl | exact .inr rfl)))
    (dss_cons (ds_expr (de_bm (pe_bm PySem.F.plainAttrs_list PySem.F.slot_list_append PySem.F.type_list_append mt_append (DE.pe (de_v 3)) (DA.pa (da_cons (de_bm (pe_bm PySem.F.plainAttrs_list PySem.F.slot_list_pop PySem.F.type_list_pop mt_popAt (DE.pe (de_v 2)) (DA.pa (da_cons (de_G (k := 1) (ps := ps_law_draw) G_law_draw (hr.mono (by decide)) passM (da_cons (de_v 0) (da_cons (de_B (call_len) br_len B.len bo_len (da_cons (de_v 2) (da_nil))) (da_nil)))) (da_nil)))) bt_lst br_popAt) (da_nil)))) bt_lst br_append))
    (dss_nil)))
    (dss_cons (ds_ret (de_v 3))
    (dss_nil)))
abbrev st_law_same : Stmt := (top 214)
theorem sc_law_same : FnScope N_law_same ps_law_same (defScope st_law_same) := ⟨rfl, rfl, rfl, by decide +kernel, rfl, by decide +kernel, by decide +kernel⟩
theorem ok_law_same (B : Bs mg) (hOK : OwnOk K (Cs A)) {f : Addr} {fd : FuncData} (F : L2.Fun K "_law_same" "_law_same" st_law_same f fd) (hm : mg "_law_same" = some (.ref f)) : FnOk P w K mg base (L2.CX P w) 7 f fd ps_law_same (spD CT 2 (ft_law_same A)) := by
  have nd := (sc_law_same).nd
  have key := rec_ok (CT := CT) (P := P) (w := w) (K := K) (mg := mg) (base := base) (x := "_law_same") (ps := ps_law_same) (f := f) (fd := fd) (lev := 0) (ft := ftR_law_same A) (F.binds fun _ _ _ _ _ _ us hl => match us, hl with | [_, _], _ => rfl) hm F.kp (fun n G_rec => DL.Fun.okD F sc_law_same (m := .raw) (math_law_same A n) fun cdv A' outer s H E hr => by
   have lev : Nat := 0
   exact dss_cons (ds_if (dt_val (de_B ((call_isiY.or call_isiTY)) (br_isi hOK) B.isinstance bo_isinstance (da_cons (de_v 1) (da_cons (de_tup (da_cons (de_ty B.list bo_list) (da_cons (de_ty B.tuple bo_tuple) (da_nil)))) (da_nil)))))
     (dss_cons (ds_if (DW.dt (dw_or (dt_cmp (op_neD (Room.units hr)) br_ne (de_B ((call_isiY.or call_isiTY)) (br_isi hOK) B.isinstance bo_isinstance (da_cons (de_v 0) (da_cons (de_ty B.list bo_list) (da_nil)))) (de_B ((call_isiY.or call_isiTY)) (br_isi hOK) B.isinstance bo_isinstance (da_cons (de_v 1) (da_cons (de_ty B.list bo_list) (da_nil)))) (nomark _)) (dw_or1 (dt_cmp (op_neD (Room.units hr)) br_ne (de_B ((call_isiY.or call_isiTY)) (br_isi hOK) B.isinstance bo_isinstance (da_cons (de_v 0) (da_cons (de_ty B.tuple bo_tuple) (da_nil)))) (de_B ((call_isiY.or call_isiTY)) (br_isi hOK) B.isinstance bo_isinstance (da_cons (de_v 1) (da_cons (de_ty B.tuple bo_tuple) (da_nil)))) (nomark _)))))
     (dss_cons (ds_ret (de_bool))
     (dss_nil))
     (dss_nil))
     (dss_cons (ds_ret (de_and (de_cmp (op_eqD (Room.units hr)) br_eq (de_B (call_len) br_len B.len bo_len (da_cons (de_v 0) (da_nil))) (de_B (call_len) br_len B.len bo_len (da_cons (de_v 1) (da_nil))) (nomark _)) (de_one (de_B (cr_all rfl) br_all B.all bo_all (da_cons (de_lc (pe_lc (own := [("_law_mine", 2), ("_law_theirs", 3)]) rfl nd (DI.pi (di_zip (RZ.pi_zipA rfl B.zip (DA.pa (da_cons (de_v 0) (da_cons (de_v 1) (da_nil))))))) (blkOk_by (N := N_law_same) (sc := defScope st_law_same) (by decide +kernel)) (fun _ _ _ _ _ => DGw.pg (dgw_tup rfl (dgsw_cons (dgw_name (pg_name (i := 2) nd rfl (by first | exact .inl rfl | exact .inr rfl))) (dgsw_cons (dgw_name (pg_name (i := 3) nd rfl (by first | exact .inl rfl | exact .inr rfl))) (dgsw_nil))))) (fun _ _ _ _ _ => DTs.pts (dts_nil)) (fun _ _ _ _ _ => DE.pe (de_G (k := (0 + n)) (ps := ps_law_same) G_rec hr passL (da_cons (de_v 2) (da_cons (de_v 3) (da_nil))))))) (da_nil))))))
     (dss_nil)))
     (dss_nil))
     (dss_cons (ds_if (dt_val (de_B ((call_isiY.or call_isiTY)) (br_isi hOK) B.isinstance bo_isinstance (da_cons (de_v 1) (da_cons (de_ty B.dict bo_dict) (da_nil)))))
     (dss_cons (ds_ret (de_and (de_B ((call_isiY.or call_isiTY)) (br_isi hOK) B.isinstance bo_isinstance (da_cons (de_v 0) (da_cons (de_ty B.dict bo_dict) (da_nil)))) (de_one (de_G (k := (0 + n)) (ps := ps_law_same) G_rec hr passM (da_cons (de_listIt rfl B.list (de_v 0)) (da_cons (de_listIt rfl B.list (de_v 1)) (da_nil)))))))
     (dss_nil))
     (dss_nil))
     (dss_cons (ds_if (DW.dt (dw_or (dt_val (de_B ((call_isiY.or call_isiTY)) (br_isi hOK) B.isinstance bo_isinstance (da_cons (de_v 1) (da_cons (de_ty B.bool bo_bool) (da_nil))))) (dw_or1 (dt_val (de_B ((call_isiY.or call_isiTY)) (br_isi hOK) B.isinstance bo_isinstance (da_cons (de_v 0) (da_cons (de_ty B.bool bo_bool) (da_nil))))))))
     (dss_cons (ds_ret (de_and (de_B ((call_isiY.or call_isiTY)) (br_isi hOK) B.isinstance bo_isinstance (da_cons (de_v 1) (da_cons (de_ty B.bool bo_bool) (da_nil)))) (de_and (de_B ((call_isiY.or call_isiTY)) (br_isi hOK) B.isinstance bo_isinstance (da_cons (de_v 0) (da_cons (de_ty B.bool bo_bool) (da_nil)))) (de_one (de_cmp (op_eqD (Room.units hr)) br_eq (de_v 0) (de_v 1) (nomark _))))))
     (dss_nil))
     (dss_nil))
     (dss_cons (ds_ret (de_and (de_not (de_B ((call_isiY.or call_isiTY)) (br_isi hOK) B.isinstance bo_isinstance (da_cons (de_v 0) (da_cons (de_tup (da_cons (de_ty B.list bo_list) (da_cons (de_ty B.tuple bo_tuple) (da_cons (de_ty B.dict bo_dict) (da_nil))))) (da_nil))))) (de_one (de_cmp (op_eqD (Room.units hr)) br_eq (de_v 0) (de_v 1) (nomark _)))))
     (dss_nil)))))
  exact key 6
abbrev st_law_stepping : Stmt := (top 215)
theorem sc_law_stepping : FnScope N_law_stepping ps_law_stepping (defScope st_law_stepping) := ⟨rfl, rfl, rfl, by decide +kernel, rfl, by decide +kernel, by decide +kernel⟩
theorem ok_law_stepping (G_law_draw : FnG CT P w K mg base 1 "_law_draw" ps_law_draw (ft_law_draw A)) {f : Addr} {fd : FuncData} (F : L2.Fun K "_law_stepping" "_law_stepping" st_law_stepping f fd) : FnOk P w K mg base (L2.CX P w) 2 f fd ps_law_stepping (spD CT 5 (ft_law_stepping A)) :=
 DL.Fun.okD F sc_law_stepping (m := .tree) (math_law_stepping A) fun cdv A' outer s H E hr => by
  have nd := (sc_law_stepping).nd
  exact dss_cons (ds_asg (ps_asg (DE.pe (de_sl (de_lc (pe_lc (own := [("_law_place", 12)]) rfl nd (DI.pi (di_seq (de_v 3))) (blkOk_by (N := N_law_stepping) (sc := defScope st_law_stepping) (by decide +kernel)) (fun _ _ _ _ _ => DGw.pg (dgw_name (pg_name (i := 12) nd rfl (by first | exact .inl rfl | exact .inr rfl)))) (fun _ _ _ _ _ => DTs.pts (dts_one (DW.dt (dw_and (dt_cmp (op_neD (Room.units hr)) br_ne (de_v 12) (de_v 1) (nomark _)) (dw_and1 (dt_cmp (op_neD (Room.units hr)) br_ne (de_v 12) (de_v 2) (nomark _))))))) (fun _ _ _ _ _ => DE.pe (de_v 12)))) (do_none) (do_some (de_int)))) (DG.pg (dg_tup rfl (dgs_cons (dg_name (pg_name (i := 5) nd rfl (by first | exact .inl rfl | exact .inr rfl))) (dgs_cons (dg_name (pg_name (i := 6) nd rfl (by first | exact .inl rfl | exact .inr rfl))) (dgs_nil)))))))
    (dss_cons (ds_par (ps_par (i := 7) (j := 8) rfl nd rfl rfl (by decide) rfl rfl (DA.pa (da_cons (de_op op_addA br_add (de_int) (de_G (k := 1) (ps := ps_law_draw) G_law_draw (hr.mono (by decide)) passM (da_cons (de_v 0) (da_cons (de_v 4) (da_nil))))) (da_cons (de_op op_addA br_add (de_int) (de_G (k := 1) (ps := ps_law_draw) G_law_draw (hr.mono (by decide)) passM (da_cons (de_v 0) (da_cons (de_int) (da_nil))))) (da_nil)))) rfl))
    (dss_cons (ds_par (ps_par (i := 9) (j := 10) rfl nd rfl rfl (by decide) rfl rfl (DA.pa (da_cons (de_op op_addA br_add (de_int) (de_G (k := 1) (ps := ps_law_draw) G_law_draw (hr.mono (by decide)) passM (da_cons (de_v 0) (da_cons (de_int) (da_nil))))) (da_cons (de_op op_addA br_add (de_int) (de_G (k := 1) (ps := ps_law_draw) G_law_draw (hr.mono (by decide)) passM (da_cons (de_v 0) (da_cons (de_int) (da_nil))))) (da_nil)))) rfl))
    (dss_cons (ds_set (ps_set (i := 11) nd rfl (by first | exact .inl rfl | exact .inr rfl) (DE.pe (de_lstM (da_cons (de_tup (da_cons (de_v 1) (da_cons (de_v 5) (da_cons (de_v 8) (da_cons (de_v 7) (da_nil)))))) (da_cons (de_tup (da_cons (de_v 5) (da_cons (de_v 6) (da_cons (de_v 9) (da_cons (de_v 7) (da_nil)))))) (da_cons (de_tup (da_cons (de_v 6) (da_cons (de_v 2) (da_cons (de_v 10) (da_cons (de_v 7) (da_nil)))))) (da_nil))))))))
    (dss_cons (ds_expr (de_bm (pe_bm PySem.F.plainAttrs_list PySem.F.slot_list_append PySem.F.type_list_append mt_append (DE.pe (de_v 11)) (DA.pa (da_cons (de_tup (da_cons (de_v 1) (da_cons (de_v 6) (da_cons (de_op op_addA br_add (de_op op_addA br_add (de_op op_addA br_add (de_v 8) (de_v 9)) (de_int)) (de_G (k := 1) (ps := ps_law_draw) G_law_draw (hr.mono (by decide)) passM (da_cons (de_v 0) (da_cons (de_int) (da_nil))))) (da_cons (de_op op_addA br_add (de_int) (de_G (k := 1) (ps := ps_law_draw) G_law_draw (hr.mono (by decide)) passM (da_cons (de_v 0) (da_cons (de_v 4) (da_nil))))) (da_nil)))))) (da_nil)))) bt_lst br_append))
    (dss_cons (ds_ret (de_op op_addA br_add (de_v 11) (de_lst (da_cons (de_tup (da_cons (de_v 5) (da_cons (de_v 2) (da_cons (de_op op_addA br_add (de_op op_addA br_add (de_op op_addA br_add (de_v 9) (de_v 10)) (de_int)) (de_G (k := 1) (ps := ps_law_draw) G_law_draw (hr.mono (by decide)) passM (da_cons (de_v 0) (da_cons (de_int) (da_nil))))) (da_cons (de_op op_addA br_add (de_int) (de_G (k := 1) (ps := ps_law_draw) G_law_draw (hr.mono (by decide)) passM (da_cons (de_v 0) (da_cons (de_v 4) (da_nil))))) (da_nil)))))) (da_nil)))))
    (dss_nil))))))
abbrev st_law_house : Stmt := (top 216)
theorem sc_law_house : FnScope N_law_house ps_law_house (defScope st_law_house) := ⟨rfl, rfl, rfl, by decide +kernel, rfl, by decide +kernel, by decide +kernel⟩
theorem ok_law_house (G_law_draw : FnG CT P w K mg base 1 "_law_draw" ps_law_draw (ft_law_draw A)) (B : Bs mg) (G_law_mixed : FnG CT P w K mg base 2 "_law_mixed" ps_law_mixed (ft_law_mixed A)) (G_law_pick : FnG CT P w K mg base 2 "_law_pick" ps_law_pick (ft_law_pick A)) (G_law_stepping : FnG CT P w K mg base 2 "_law_stepping" ps_law_stepping (ft_law_stepping A)) (G_law_mixedM : FnG CT P w K mg base 2 "_law_mixed" ps_law_mixed (ft_law_mixedM A)) {f : Addr} {fd : FuncData} (F : L2.Fun K "_law_house" "_law_house" st_law_house f fd) : FnOk P w K mg base (L2.CX P w) 3 f fd ps_law_house (spD CT 4 (ft_law_house A)) :=
 DL.Fun.okD F sc_law_house (m := .tree) (math_law_house A) fun cdv A' outer s H E hr => by
  have nd := (sc_law_house).nd
  exact dss_cons (ds_set (ps_set (i := 4) nd rfl (by first | exact .inl rfl | exact .inr rfl) (DE.pe (de_op op_addA br_add (de_int) (de_B ((call_max2 rfl)) br_int2 B.max bo_max (da_cons (de_G (k := 1) (ps := ps_law_draw) G_law_draw (hr.mono (by decide)) passM (da_cons (de_v 0) (da_cons (de_op op_sub br_I0 (de_v 1) (de_int)) (da_nil)))) (da_cons (de_G (k := 1) (ps := ps_law_draw) G_law_draw (hr.mono (by decide)) passM (da_cons (de_v 0) (da_cons (de_op op_sub br_I0 (de_v 1) (de_int)) (da_nil)))) (da_nil))))))))
    (dss_cons (ds_par3 (ps_par3 (i := 5) (j := 6) (l := 7) rfl nd rfl rfl rfl (by decide) (by decide) (by decide) rfl rfl rfl (DA.pa (da_cons (de_G (k := 2) (ps := ps_law_mixed) G_law_mixed (hr.mono (by decide)) passM (da_cons (de_v 0) (da_cons (de_listRg rfl B.list B.range (de_v 4)) (da_nil)))) (da_cons (de_lstM (da_nil)) (da_cons (de_lstM (da_nil)) (da_nil))))) rfl))
    (dss_cons (ds_par3 (ps_par3 (i := 8) (j := 9) (l := 10) rfl nd rfl rfl rfl (by decide) (by decide) (by decide) rfl rfl rfl (DA.pa (da_cons (de_G (k := 2) (ps := ps_law_pick) G_law_pick (hr.mono (by decide)) passM (da_cons (de_v 0) (da_cons (de_lst (da_cons (de_int) (da_cons (de_int) (da_cons (de_int) (da_cons (de_int) (da_nil)))))) (da_nil)))) (da_cons (de_G (k := 2) (ps := ps_law_pick) G_law_pick (hr.mono (by decide)) passM (da_cons (de_v 0) (da_cons (de_lst (da_cons (de_int) (da_cons (de_int) (da_cons (de_int) (da_cons (de_int) (da_nil)))))) (da_nil)))) (da_cons (de_G (k := 2) (ps := ps_law_pick) G_law_pick (hr.mono (by decide)) passM (da_cons (de_v 0) (da_cons (de_lst (da_cons (de_int) (da_cons (de_int) (da_cons (de_int) (da_nil))))) (da_nil)))) (da_nil))))) rfl))
    (dss_cons (ds_set (ps_set (i := 11) nd rfl (by first | exact .inl rfl | exact .inr rfl) (DE.pe (de_G (k := 2) (ps := ps_law_pick) G_law_pick (hr.mono (by decide)) passM (da_cons (de_v 0) (da_cons (de_lst (da_cons (de_op op_addA br_add (de_int) (de_G (k := 1) (ps := ps_law_draw) G_law_draw (hr.mono (by decide)) passM (da_cons (de_v 0) (da_cons (de_op op_sub br_I0 (de_v 4) (de_int)) (da_nil))))) (da_cons (de_op op_fdivW br_I (de_v 4) (de_int)) (da_cons (de_op op_fdivW br_I (de_op op_addA br_add (de_v 4) (de_int)) (de_int)) (da_nil))))) (da_nil)))))))
    (dss_cons (ds_for (passes_of rfl) rfl (di_seq (de_op op_addA br_add (de_lst (da_cons (de_str) (da_cons (de_str) (da_nil)))) (de_lc (pe_lc (own := [("_law_k", 15)]) rfl nd (DI.pi (di_range1 (pi_range1 rfl B.range (DA.pa (da_cons (de_G (k := 1) (ps := ps_law_draw) G_law_draw (hr.mono (by decide)) passM (da_cons (de_v 0) (da_cons (de_op op_sub br_I0 (de_v 3) (de_int)) (da_nil)))) (da_nil)))))) (blkOk_by (N := N_law_house) (sc := defScope st_law_house) (by decide +kernel)) (fun _ _ _ _ _ => DGw.pg (dgw_name (pg_name (i := 15) nd rfl (by first | exact .inl rfl | exact .inr rfl)))) (fun _ _ _ _ _ => DTs.pts (dts_nil)) (fun _ _ _ _ _ => DE.pe (de_G (k := 2) (ps := ps_law_pick) G_law_pick (hr.mono (by decide)) passL (da_cons (de_v 0) (da_cons (de_lst (da_cons (de_str) (da_cons (de_str) (da_nil)))) (da_nil))))))))) (dg_name (pg_name (i := 12) nd rfl (by first | exact .inl rfl | exact .inr rfl)))
    (dss_cons (ds_expr (de_bm (pe_bm PySem.F.plainAttrs_list PySem.F.slot_list_append PySem.F.type_list_append mt_append (DE.pe (de_v 7)) (DA.pa (da_cons (de_tup (da_cons (de_v 12) (da_cons (de_G (k := 2) (ps := ps_law_pick) G_law_pick (hr.mono (by decide)) passM (da_cons (de_v 0) (da_cons (de_if (dt_cmp (op_eqD (Room.units hr)) br_eq (de_v 12) (de_str) (nomark _)) (de_sl (de_v 5) (do_none) (do_some (de_v 11))) (de_sl (de_v 5) (do_some (de_v 11)) (do_none))) (da_nil)))) (da_cons (de_G (k := 1) (ps := ps_law_draw) G_law_draw (hr.mono (by decide)) passM (da_cons (de_v 0) (da_cons (de_v 10) (da_nil)))) (da_nil))))) (da_nil)))) bt_lst br_append))
    (dss_nil)))
    (dss_cons (ds_par (ps_par (i := 13) (j := 14) rfl nd rfl rfl (by decide) rfl rfl (DA.pa (da_cons (de_lc (pe_lc (own := [("_law_door", 24)]) rfl nd (DI.pi (di_seq (de_v 7))) (blkOk_by (N := N_law_house) (sc := defScope st_law_house) (by decide +kernel)) (fun _ _ _ _ _ => DGw.pg (dgw_name (pg_name (i := 24) nd rfl (by first | exact .inl rfl | exact .inr rfl)))) (fun _ _ _ _ _ => DTs.pts (dts_one (dt_cmp (op_eqD (Room.units hr)) br_eq (de_ix (de_v 24) (de_int)) (de_str) (nomark _)))) (fun _ _ _ _ _ => DE.pe (de_ix (de_v 24) (de_int))))) (da_cons (de_lc (pe_lc (own := [("_law_door", 24)]) rfl nd (DI.pi (di_seq (de_v 7))) (blkOk_by (N := N_law_house) (sc := defScope st_law_house) (by decide +kernel)) (fun _ _ _ _ _ => DGw.pg (dgw_name (pg_name (i := 24) nd rfl (by first | exact .inl rfl | exact .inr rfl)))) (fun _ _ _ _ _ => DTs.pts (dts_one (dt_cmp (op_eqD (Room.units hr)) br_eq (de_ix (de_v 24) (de_int)) (de_str) (nomark _)))) (fun _ _ _ _ _ => DE.pe (de_ix (de_v 24) (de_int))))) (da_nil)))) rfl))
    (dss_cons (ds_for (passes_of rfl) rfl (di_range1 (pi_range1 rfl B.range (DA.pa (da_cons (de_op op_addA br_add (de_int) (de_G (k := 1) (ps := ps_law_draw) G_law_draw (hr.mono (by decide)) passM (da_cons (de_v 0) (da_cons (de_int) (da_nil))))) (da_nil))))) (dg_name (pg_name (i := 15) nd rfl (by first | exact .inl rfl | exact .inr rfl)))
    (dss_cons (ds_set (ps_set (i := 16) nd rfl (by first | exact .inl rfl | exact .inr rfl) (DE.pe (de_op op_cat br_catM (de_lst (da_cons (de_G (k := 2) (ps := ps_law_pick) G_law_pick (hr.mono (by decide)) passM (da_cons (de_v 0) (da_cons (de_v 13) (da_nil)))) (da_nil))) (de_sl (de_G (k := 2) (ps := ps_law_mixed) G_law_mixed (hr.mono (by decide)) passM (da_cons (de_v 0) (da_cons (de_v 5) (da_nil)))) (do_none) (do_some (de_G (k := 2) (ps := ps_law_pick) G_law_pick (hr.mono (by decide)) passM (da_cons (de_v 0) (da_cons (de_lst (da_cons (de_int) (da_cons (de_int) (da_cons (de_int) (da_cons (de_int) (da_cons (de_int) (da_nil))))))) (da_nil))))))))))
    (dss_cons (ds_expr (de_bm (pe_bm PySem.F.plainAttrs_list PySem.F.slot_list_append PySem.F.type_list_append mt_append (DE.pe (de_v 16)) (DA.pa (da_cons (de_G (k := 2) (ps := ps_law_pick) G_law_pick (hr.mono (by decide)) passM (da_cons (de_v 0) (da_cons (de_v 14) (da_nil)))) (da_nil)))) bt_lst br_append))
    (dss_cons (ds_expr (de_bm (pe_bm PySem.F.plainAttrs_list PySem.F.slot_list_extend PySem.F.type_list_extend mt_extend (DE.pe (de_v 6)) (DA.pa (da_cons (de_lc (pe_lc (own := [("_law_one", 17), ("_law_other", 18)]) rfl nd (DI.pi (di_zip (RZ.pi_zipA rfl B.zip (DA.pa (da_cons (de_v 16) (da_cons (de_sl (de_v 16) (do_some (de_int)) (do_none)) (da_nil))))))) (blkOk_by (N := N_law_house) (sc := defScope st_law_house) (by decide +kernel)) (fun _ _ _ _ _ => DGw.pg (dgw_tup rfl (dgsw_cons (dgw_name (pg_name (i := 17) nd rfl (by first | exact .inl rfl | exact .inr rfl))) (dgsw_cons (dgw_name (pg_name (i := 18) nd rfl (by first | exact .inl rfl | exact .inr rfl))) (dgsw_nil))))) (fun _ _ _ _ _ => DTs.pts (dts_one (dt_cmp (op_neD (Room.units hr)) br_ne (de_v 17) (de_v 18) (nomark _)))) (fun _ _ _ _ _ => DE.pe (de_tup (da_cons (de_v 17) (da_cons (de_v 18) (da_nil))))))) (da_nil)))) bt_lst br_extend))
    (dss_nil)))))
    (dss_cons (ds_for (passes_of rfl) rfl (di_range1 (pi_range1 rfl B.range (DA.pa (da_cons (de_G (k := 1) (ps := ps_law_draw) G_law_draw (hr.mono (by decide)) passM (da_cons (de_v 0) (da_cons (de_int) (da_nil)))) (da_nil))))) (dg_name (pg_name (i := 15) nd rfl (by first | exact .inl rfl | exact .inr rfl)))
    (dss_cons (ds_asg (ps_asg (DE.pe (de_sl (de_G (k := 2) (ps := ps_law_mixed) G_law_mixed (hr.mono (by decide)) passM (da_cons (de_v 0) (da_cons (de_v 5) (da_nil)))) (do_none) (do_some (de_int)))) (DG.pg (dg_tup rfl (dgs_cons (dg_name (pg_name (i := 17) nd rfl (by first | exact .inl rfl | exact .inr rfl))) (dgs_cons (dg_name (pg_name (i := 18) nd rfl (by first | exact .inl rfl | exact .inr rfl))) (dgs_nil)))))))
    (dss_cons (ds_expr (de_bm (pe_bm PySem.F.plainAttrs_list PySem.F.slot_list_append PySem.F.type_list_append mt_append (DE.pe (de_v 6)) (DA.pa (da_cons (de_tup (da_cons (de_v 17) (da_cons (de_v 18) (da_nil)))) (da_nil)))) bt_lst br_append))
    (dss_nil))))
    (dss_cons (ds_par (ps_par (i := 19) (j := 20) rfl nd rfl rfl (by decide) rfl rfl (DA.pa (da_cons (de_lstM (da_nil)) (da_cons (de_G (k := 2) (ps := ps_law_pick) G_law_pick (hr.mono (by decide)) passM (da_cons (de_v 0) (da_cons (de_lst (da_cons (de_v 5) (da_cons (de_v 5) (da_cons (de_G (k := 2) (ps := ps_law_mixed) G_law_mixed (hr.mono (by decide)) passM (da_cons (de_v 0) (da_cons (de_v 5) (da_nil)))) (da_nil))))) (da_nil)))) (da_nil)))) rfl))
    (dss_cons (ds_for (passes_of rfl) rfl (di_seq (de_sl (de_v 6) (do_none) (do_some (de_v 2)))) (dg_tup rfl (dgs_cons (dg_name (pg_name (i := 17) nd rfl (by first | exact .inl rfl | exact .inr rfl))) (dgs_cons (dg_name (pg_name (i := 18) nd rfl (by first | exact .inl rfl | exact .inr rfl))) (dgs_nil))))
    (dss_cons (ds_set (ps_set (i := 21) nd rfl (by first | exact .inl rfl | exact .inr rfl) (DE.pe (de_G (k := 1) (ps := ps_law_draw) G_law_draw (hr.mono (by decide)) passM (da_cons (de_v 0) (da_cons (de_op op_addA br_add (de_v 8) (de_int)) (da_nil)))))))
    (dss_cons (ds_set (ps_set (i := 21) nd rfl (by first | exact .inl rfl | exact .inr rfl) (DE.pe (de_if (DW.dt (dw_and (dt_cmp (op_eqD (Room.units hr)) br_eq (de_v 21) (de_int) (nomark _)) (dw_and1 (dt_cmp op_gt br_I0 (de_bm (pe_bm PySem.F.plainAttrs_list PySem.F.slot_list_index PySem.F.type_list_index (mt_indexD (hu65 hr)) (DE.pe (de_v 20)) (DA.pa (da_cons (de_v 17) (da_nil)))) bt_lst br_indexD) (de_bm (pe_bm PySem.F.plainAttrs_list PySem.F.slot_list_index PySem.F.type_list_index (mt_indexD (hu65 hr)) (DE.pe (de_v 20)) (DA.pa (da_cons (de_v 18) (da_nil)))) bt_lst br_indexD) (nomark _))))) (de_int) (de_v 21)))))
    (dss_cons (ds_expr (de_bm (pe_bm PySem.F.plainAttrs_list PySem.F.slot_list_append PySem.F.type_list_append mt_append (DE.pe (de_v 19)) (DA.pa (da_cons (de_tup (da_cons (de_v 17) (da_cons (de_v 18) (da_cons (de_v 21) (da_cons (de_op op_addA br_add (de_int) (de_G (k := 1) (ps := ps_law_draw) G_law_draw (hr.mono (by decide)) passM (da_cons (de_v 0) (da_cons (de_v 9) (da_nil))))) (da_nil)))))) (da_nil)))) bt_lst br_append))
    (dss_nil)))))
    (dss_cons (ds_if (DW.dt (dw_and (dt_cmp op_gt br_I0 (de_v 4) (de_int) (nomark _)) (dw_and (dt_cmp op_gt br_I0 (de_v 2) (de_int) (nomark _)) (dw_and1 (dt_cmp (op_eqD (Room.units hr)) br_eq (de_G (k := 1) (ps := ps_law_draw) G_law_draw (hr.mono (by decide)) passM (da_cons (de_v 0) (da_cons (de_int) (da_nil)))) (de_int) (nomark _))))))
    (dss_cons (ds_set (ps_set (i := 22) nd rfl (by first | exact .inl rfl | exact .inr rfl) (DE.pe (de_G (k := 2) (ps := ps_law_stepping) G_law_stepping (hr.mono (by decide)) passM (da_cons (de_v 0) (da_cons (de_G (k := 2) (ps := ps_law_pick) G_law_pick (hr.mono (by decide)) passM (da_cons (de_v 0) (da_cons (de_v 13) (da_nil)))) (da_cons (de_G (k := 2) (ps := ps_law_pick) G_law_pick (hr.mono (by decide)) passM (da_cons (de_v 0) (da_cons (de_v 14) (da_nil)))) (da_cons (de_v 5) (da_cons (de_v 9) (da_nil))))))))))
    (dss_cons (ds_set (ps_set (i := 19) nd rfl (by first | exact .inl rfl | exact .inr rfl) (DE.pe (de_G (k := 2) (ps := ps_law_mixed) G_law_mixedM (hr.mono (by decide)) passM (da_cons (de_v 0) (da_cons (de_op op_addA br_add (de_v 22) (de_sl (de_v 19) (do_none) (do_some (de_G (k := 1) (ps := ps_law_draw) G_law_draw (hr.mono (by decide)) passM (da_cons (de_v 0) (da_cons (de_op op_sub br_I0 (de_v 2) (de_int)) (da_nil))))))) (da_nil)))))))
    (dss_nil)))
    (dss_nil))
    (dss_cons (ds_if (DW.dt (dw_and (dt_cmp (op_eqD (Room.units hr)) br_eq (de_G (k := 1) (ps := ps_law_draw) G_law_draw (hr.mono (by decide)) passM (da_cons (de_v 0) (da_cons (de_int) (da_nil)))) (de_int) (nomark _)) (dw_and1 (dt_cmp op_gt br_I0 (de_B (call_len) br_len B.len bo_len (da_cons (de_v 19) (da_nil))) (de_int) (nomark _)))))
    (dss_cons (ds_set (ps_set (i := 23) nd rfl (by first | exact .inl rfl | exact .inr rfl) (DE.pe (de_G (k := 1) (ps := ps_law_draw) G_law_draw (hr.mono (by decide)) passM (da_cons (de_v 0) (da_cons (de_B (call_len) br_len B.len bo_len (da_cons (de_v 19) (da_nil))) (da_nil)))))))
    (dss_cons (ds_asg (ps_asg (DE.pe (de_tup (da_cons (de_ix (de_ix (de_v 19) (de_v 23)) (de_int)) (da_cons (de_ix (de_ix (de_v 19) (de_v 23)) (de_int)) (da_cons (de_op op_addA br_add (de_int) (de_G (k := 1) (ps := ps_law_draw) G_law_draw (hr.mono (by decide)) passM (da_cons (de_v 0) (da_cons (de_int) (da_nil))))) (da_cons (de_ix (de_ix (de_v 19) (de_v 23)) (de_int)) (da_nil))))))) (DG.pg (dg_sub (pg_sub (DE.pe (de_v 19)) (DE.pe (de_v 23)) set_list)))))
    (dss_nil)))
    (dss_nil))
    (dss_cons (ds_if (DW.dt (dw_and (dt_cmp (op_eqD (Room.units hr)) br_eq (de_G (k := 1) (ps := ps_law_draw) G_law_draw (hr.mono (by decide)) passM (da_cons (de_v 0) (da_cons (de_int) (da_nil)))) (de_int) (nomark _)) (dw_and1 (dt_cmp op_gt br_I0 (de_B (call_len) br_len B.len bo_len (da_cons (de_v 7) (da_nil))) (de_int) (nomark _)))))
    (dss_cons (ds_set (ps_set (i := 23) nd rfl (by first | exact .inl rfl | exact .inr rfl) (DE.pe (de_op op_addA br_add (de_int) (de_G (k := 1) (ps := ps_law_draw) G_law_draw (hr.mono (by decide)) passM (da_cons (de_v 0) (da_cons (de_op op_sub br_I0 (de_B (call_len) br_len B.len bo_len (da_cons (de_v 7) (da_nil))) (de_int)) (da_nil))))))))
    (dss_cons (ds_asg (ps_asg (DE.pe (de_tup (da_cons (de_ix (de_ix (de_v 7) (de_v 23)) (de_int)) (da_cons (de_ix (de_ix (de_v 7) (de_v 23)) (de_int)) (da_cons (de_op op_addA br_add (de_int) (de_G (k := 1) (ps := ps_law_draw) G_law_draw (hr.mono (by decide)) passM (da_cons (de_v 0) (da_cons (de_int) (da_nil))))) (da_nil)))))) (DG.pg (dg_sub (pg_sub (DE.pe (de_v 7)) (DE.pe (de_v 23)) set_list)))))
    (dss_nil)))
    (dss_nil))
    (dss_cons (ds_ret (de_tupM (da_cons (de_v 4) (da_cons (de_v 19) (da_cons (de_G (k := 2) (ps := ps_law_mixed) G_law_mixed (hr.mono (by decide)) passM (da_cons (de_v 0) (da_cons (de_v 7) (da_nil)))) (da_nil))))))
    (dss_nil))))))))))))))
abbrev st_law_asked_a : Stmt := (top 217)
theorem sc_law_asked_a : FnScope N_law_asked_a ps_law_asked_a (defScope st_law_asked_a) := ⟨rfl, rfl, rfl, by decide +kernel, rfl, by decide +kernel, by decide +kernel⟩
theorem ok_law_asked_a (T_law_met : TrG P w K mg base "_law_met" "told" (cl_law_met A) false) (hAp : XcApart K (Xs A)) (hXn : (Xs A).Nodup) (G_asked : FnG CT P w K mg base 4 "asked" ps_asked (ft_asked A)) (GK_asked__lot_wishes_house : FnKG CT P w K mg base 4 "asked" ps_asked (ft_asked A) ["lot", "wishes", "house"] [2, 1, 0]) (G_lacking : FnG CT P w K mg base 4 "lacking" ps_lacking (ft_lacking A)) (GK_lacking__bell_wishes_house : FnKG CT P w K mg base 4 "lacking" ps_lacking (ft_lacking A) ["bell", "wishes", "house"] [2, 1, 0]) (G_lot_for : FnG CT P w K mg base 4 "lot_for" ps_lot_for (ft_lot_for A)) (GK_lot_for__bell_wishes_house : FnKG CT P w K mg base 4 "lot_for" ps_lot_for (ft_lot_for A) ["bell", "wishes", "house"] [2, 1, 0]) (G_is_lot_for : FnG CT P w K mg base 4 "is_lot_for" ps_is_lot_for (ft_is_lot_for A)) (GK_is_lot_for__thing_bell_wishes_house : FnKG CT P w K mg base 4 "is_lot_for" ps_is_lot_for (ft_is_lot_for A) ["thing", "bell", "wishes", "house"] [3, 2, 1, 0]) (G_is_plan_for : FnG CT P w K mg base 4 "is_plan_for" ps_is_plan_for (ft_is_plan_for A)) (GK_is_plan_for__thing_bell_wishes_house : FnKG CT P w K mg base 4 "is_plan_for" ps_is_plan_for (ft_is_plan_for A) ["thing", "bell", "wishes", "house"] [3, 2, 1, 0]) (G_plan_for : FnG CT P w K mg base 4 "plan_for" ps_plan_for (ft_plan_for A)) (GK_plan_for__bell_wishes_house : FnKG CT P w K mg base 4 "plan_for" ps_plan_for (ft_plan_for A) ["bell", "wishes", "house"] [2, 1, 0]) (G_row_for : FnG CT P w K mg base 4 "row_for" ps_row_for (ft_row_for A)) (GK_row_for__bell_wishes_house : FnKG CT P w K mg base 4 "row_for" ps_row_for (ft_row_for A) ["bell", "wishes", "house"] [2, 1, 0]) (G_is_row_for : FnG CT P w K mg base 4 "is_row_for" ps_is_row_for (ft_is_row_for A)) (GK_is_row_for__thing_bell_wishes_house : FnKG CT P w K mg base 4 "is_row_for" ps_is_row_for (ft_is_row_for A) ["thing", "bell", "wishes", "house"] [3, 2, 1, 0]) (G_parted : FnG CT P w K mg base 4 "parted" ps_parted (ft_parted A)) (GK_parted__parts_house : FnKG CT P w K mg base 4 "parted" ps_parted (ft_parted A) ["parts", "house"] [1, 0]) (G_most : FnG CT P w K mg base 5 "most" ps_most (ft_most A)) (GK_most__bell_lot_house : FnKG CT P w K mg base 5 "most" ps_most (ft_most A) ["bell", "lot", "house"] [2, 1, 0]) (G_most_plan : FnG CT P w K mg base 5 "most_plan" ps_most_plan (ft_most_plan A)) (GK_most_plan__bell_lot_house : FnKG CT P w K mg base 5 "most_plan" ps_most_plan (ft_most_plan A) ["bell", "lot", "house"] [2, 1, 0]) (G_levels : FnG CT P w K mg base 4 "levels" ps_levels (ft_levels A)) (GK_levels__lot_house : FnKG CT P w K mg base 4 "levels" ps_levels (ft_levels A) ["lot", "house"] [1, 0]) (G_steady : FnG CT P w K mg base 5 "steady" ps_steady (ft_steady A)) (GK_steady__lot_house : FnKG CT P w K mg base 5 "steady" ps_steady (ft_steady A) ["lot", "house"] [1, 0]) (G_lot_bell : FnG CT P w K mg base 4 "lot_bell" ps_lot_bell (ft_lot_bell A)) (GK_lot_bell__amount_lot_house : FnKG CT P w K mg base 4 "lot_bell" ps_lot_bell (ft_lot_bell A) ["amount", "lot", "house"] [2, 1, 0]) (G_is_moments : FnG CT P w K mg base 5 "is_moments" ps_is_moments (ft_is_moments A)) (GK_is_moments__thing_bell_lot_house : FnKG CT P w K mg base 5 "is_moments" ps_is_moments (ft_is_moments A) ["thing", "bell", "lot", "house"] [3, 2, 1, 0]) {cc PP : Addr} (hTB : LamX.TabB base mg cc PP) (hTm : (PP, ("_law_asked_a" : Str) ++ ".<locals>." ++ "<lambda>") ∈ CT) (hTu : ∀ p ∈ CT, p.1 = PP → p.2 = ("_law_asked_a" : Str) ++ ".<locals>." ++ "<lambda>") {f : Addr} {fd : FuncData} (F : L2.Fun K "_law_asked_a" "_law_asked_a" st_law_asked_a f fd) (hcc : fd.code = .ref cc) : FnOk P w K mg base (L2.CX P w) 8 f fd ps_law_asked_a (spD CT 1 (ft_law_asked_a A)) :=
 okD_code F sc_law_asked_a (m := .raw) (math_law_asked_a A hXn) fun cdv A' outer s H E hcd hr => by
  have nd := (sc_law_asked_a).nd
  exact dss_cons (ds_set (ps_set (i := 1) nd rfl (by first | exact .inl rfl | exact .inr rfl) (DE.pe (de_lstM (da_nil)))))
    (dss_cons (ds_expr (de_bm (pe_bm PySem.F.plainAttrs_list PySem.F.slot_list_append PySem.F.type_list_append mt_append (DE.pe (de_v 1)) (DA.pa (da_cons (de_tried (k := 4) T_law_met hAp (by simp [cl_law_met, Xs]) hTB (hcd.symm.trans hcc) hTm hTu (hr.mono (by decide)) (fun A2 outer2 s2 H2 E2 f2 c2 hr => de_G (k := 4) (ps := ps_asked) G_asked (hr.mono (by decide)) passN2 (da_cons (de_v 0) (da_cons (de_none) (da_cons (de_none) (da_nil))))) (LamX.lamS_by (sc := defScope st_law_asked_a) (by decide +kernel))) (da_nil)))) bt_lst br_append))
    (dss_cons (ds_expr (de_bm (pe_bm PySem.F.plainAttrs_list PySem.F.slot_list_append PySem.F.type_list_append mt_append (DE.pe (de_v 1)) (DA.pa (da_cons (de_tried (k := 4) T_law_met hAp (by simp [cl_law_met, Xs]) hTB (hcd.symm.trans hcc) hTm hTu (hr.mono (by decide)) (fun A2 outer2 s2 H2 E2 f2 c2 hr => de_GK (k := 4) (ps := ps_asked) (ks := ["lot", "wishes", "house"]) GK_asked__lot_wishes_house (hr.mono (by decide)) passN2 (dk_cons (de_none) (dk_cons (de_none) (dk_cons (de_v 0) (dk_nil))))) (LamX.lamS_by (sc := defScope st_law_asked_a) (by decide +kernel))) (da_nil)))) bt_lst br_append))
    (dss_cons (ds_expr (de_bm (pe_bm PySem.F.plainAttrs_list PySem.F.slot_list_append PySem.F.type_list_append mt_append (DE.pe (de_v 1)) (DA.pa (da_cons (de_tried (k := 4) T_law_met hAp (by simp [cl_law_met, Xs]) hTB (hcd.symm.trans hcc) hTm hTu (hr.mono (by decide)) (fun A2 outer2 s2 H2 E2 f2 c2 hr => de_G (k := 4) (ps := ps_lacking) G_lacking (hr.mono (by decide)) passN2 (da_cons (de_v 0) (da_cons (de_none) (da_cons (de_none) (da_nil))))) (LamX.lamS_by (sc := defScope st_law_asked_a) (by decide +kernel))) (da_nil)))) bt_lst br_append))
    (dss_cons (ds_expr (de_bm (pe_bm PySem.F.plainAttrs_list PySem.F.slot_list_append PySem.F.type_list_append mt_append (DE.pe (de_v 1)) (DA.pa (da_cons (de_tried (k := 4) T_law_met hAp (by simp [cl_law_met, Xs]) hTB (hcd.symm.trans hcc) hTm hTu (hr.mono (by decide)) (fun A2 outer2 s2 H2 E2 f2 c2 hr => de_GK (k := 4) (ps := ps_lacking) (ks := ["bell", "wishes", "house"]) GK_lacking__bell_wishes_house (hr.mono (by decide)) passN2 (dk_cons (de_none) (dk_cons (de_none) (dk_cons (de_v 0) (dk_nil))))) (LamX.lamS_by (sc := defScope st_law_asked_a) (by decide +kernel))) (da_nil)))) bt_lst br_append))
    (dss_cons (ds_expr (de_bm (pe_bm PySem.F.plainAttrs_list PySem.F.slot_list_append PySem.F.type_list_append mt_append (DE.pe (de_v 1)) (DA.pa (da_cons (de_tried (k := 4) T_law_met hAp (by simp [cl_law_met, Xs]) hTB (hcd.symm.trans hcc) hTm hTu (hr.mono (by decide)) (fun A2 outer2 s2 H2 E2 f2 c2 hr => de_G (k := 4) (ps := ps_lot_for) G_lot_for (hr.mono (by decide)) passN2 (da_cons (de_v 0) (da_cons (de_none) (da_cons (de_none) (da_nil))))) (LamX.lamS_by (sc := defScope st_law_asked_a) (by decide +kernel))) (da_nil)))) bt_lst br_append))
    (dss_cons (ds_expr (de_bm (pe_bm PySem.F.plainAttrs_list PySem.F.slot_list_append PySem.F.type_list_append mt_append (DE.pe (de_v 1)) (DA.pa (da_cons (de_tried (k := 4) T_law_met hAp (by simp [cl_law_met, Xs]) hTB (hcd.symm.trans hcc) hTm hTu (hr.mono (by decide)) (fun A2 outer2 s2 H2 E2 f2 c2 hr => de_GK (k := 4) (ps := ps_lot_for) (ks := ["bell", "wishes", "house"]) GK_lot_for__bell_wishes_house (hr.mono (by decide)) passN2 (dk_cons (de_none) (dk_cons (de_none) (dk_cons (de_v 0) (dk_nil))))) (LamX.lamS_by (sc := defScope st_law_asked_a) (by decide +kernel))) (da_nil)))) bt_lst br_append))
    (dss_cons (ds_expr (de_bm (pe_bm PySem.F.plainAttrs_list PySem.F.slot_list_append PySem.F.type_list_append mt_append (DE.pe (de_v 1)) (DA.pa (da_cons (de_tried (k := 4) T_law_met hAp (by simp [cl_law_met, Xs]) hTB (hcd.symm.trans hcc) hTm hTu (hr.mono (by decide)) (fun A2 outer2 s2 H2 E2 f2 c2 hr => de_G (k := 4) (ps := ps_is_lot_for) G_is_lot_for (hr.mono (by decide)) passN2 (da_cons (de_v 0) (da_cons (de_none) (da_cons (de_none) (da_cons (de_none) (da_nil)))))) (LamX.lamS_by (sc := defScope st_law_asked_a) (by decide +kernel))) (da_nil)))) bt_lst br_append))
    (dss_cons (ds_expr (de_bm (pe_bm PySem.F.plainAttrs_list PySem.F.slot_list_append PySem.F.type_list_append mt_append (DE.pe (de_v 1)) (DA.pa (da_cons (de_tried (k := 4) T_law_met hAp (by simp [cl_law_met, Xs]) hTB (hcd.symm.trans hcc) hTm hTu (hr.mono (by decide)) (fun A2 outer2 s2 H2 E2 f2 c2 hr => de_GK (k := 4) (ps := ps_is_lot_for) (ks := ["thing", "bell", "wishes", "house"]) GK_is_lot_for__thing_bell_wishes_house (hr.mono (by decide)) passN2 (dk_cons (de_none) (dk_cons (de_none) (dk_cons (de_none) (dk_cons (de_v 0) (dk_nil)))))) (LamX.lamS_by (sc := defScope st_law_asked_a) (by decide +kernel))) (da_nil)))) bt_lst br_append))
    (dss_cons (ds_expr (de_bm (pe_bm PySem.F.plainAttrs_list PySem.F.slot_list_append PySem.F.type_list_append mt_append (DE.pe (de_v 1)) (DA.pa (da_cons (de_tried (k := 4) T_law_met hAp (by simp [cl_law_met, Xs]) hTB (hcd.symm.trans hcc) hTm hTu (hr.mono (by decide)) (fun A2 outer2 s2 H2 E2 f2 c2 hr => de_G (k := 4) (ps := ps_is_plan_for) G_is_plan_for (hr.mono (by decide)) passN2 (da_cons (de_v 0) (da_cons (de_none) (da_cons (de_none) (da_cons (de_none) (da_nil)))))) (LamX.lamS_by (sc := defScope st_law_asked_a) (by decide +kernel))) (da_nil)))) bt_lst br_append))
    (dss_cons (ds_expr (de_bm (pe_bm PySem.F.plainAttrs_list PySem.F.slot_list_append PySem.F.type_list_append mt_append (DE.pe (de_v 1)) (DA.pa (da_cons (de_tried (k := 4) T_law_met hAp (by simp [cl_law_met, Xs]) hTB (hcd.symm.trans hcc) hTm hTu (hr.mono (by decide)) (fun A2 outer2 s2 H2 E2 f2 c2 hr => de_GK (k := 4) (ps := ps_is_plan_for) (ks := ["thing", "bell", "wishes", "house"]) GK_is_plan_for__thing_bell_wishes_house (hr.mono (by decide)) passN2 (dk_cons (de_none) (dk_cons (de_none) (dk_cons (de_none) (dk_cons (de_v 0) (dk_nil)))))) (LamX.lamS_by (sc := defScope st_law_asked_a) (by decide +kernel))) (da_nil)))) bt_lst br_append))
    (dss_cons (ds_expr (de_bm (pe_bm PySem.F.plainAttrs_list PySem.F.slot_list_append PySem.F.type_list_append mt_append (DE.pe (de_v 1)) (DA.pa (da_cons (de_tried (k := 4) T_law_met hAp (by simp [cl_law_met, Xs]) hTB (hcd.symm.trans hcc) hTm hTu (hr.mono (by decide)) (fun A2 outer2 s2 H2 E2 f2 c2 hr => de_G (k := 4) (ps := ps_plan_for) G_plan_for (hr.mono (by decide)) passN2 (da_cons (de_v 0) (da_cons (de_none) (da_cons (de_none) (da_nil))))) (LamX.lamS_by (sc := defScope st_law_asked_a) (by decide +kernel))) (da_nil)))) bt_lst br_append))
    (dss_cons (ds_expr (de_bm (pe_bm PySem.F.plainAttrs_list PySem.F.slot_list_append PySem.F.type_list_append mt_append (DE.pe (de_v 1)) (DA.pa (da_cons (de_tried (k := 4) T_law_met hAp (by simp [cl_law_met, Xs]) hTB (hcd.symm.trans hcc) hTm hTu (hr.mono (by decide)) (fun A2 outer2 s2 H2 E2 f2 c2 hr => de_GK (k := 4) (ps := ps_plan_for) (ks := ["bell", "wishes", "house"]) GK_plan_for__bell_wishes_house (hr.mono (by decide)) passN2 (dk_cons (de_none) (dk_cons (de_none) (dk_cons (de_v 0) (dk_nil))))) (LamX.lamS_by (sc := defScope st_law_asked_a) (by decide +kernel))) (da_nil)))) bt_lst br_append))
    (dss_cons (ds_expr (de_bm (pe_bm PySem.F.plainAttrs_list PySem.F.slot_list_append PySem.F.type_list_append mt_append (DE.pe (de_v 1)) (DA.pa (da_cons (de_tried (k := 4) T_law_met hAp (by simp [cl_law_met, Xs]) hTB (hcd.symm.trans hcc) hTm hTu (hr.mono (by decide)) (fun A2 outer2 s2 H2 E2 f2 c2 hr => de_G (k := 4) (ps := ps_row_for) G_row_for (hr.mono (by decide)) passN2 (da_cons (de_v 0) (da_cons (de_none) (da_cons (de_none) (da_nil))))) (LamX.lamS_by (sc := defScope st_law_asked_a) (by decide +kernel))) (da_nil)))) bt_lst br_append))
    (dss_cons (ds_expr (de_bm (pe_bm PySem.F.plainAttrs_list PySem.F.slot_list_append PySem.F.type_list_append mt_append (DE.pe (de_v 1)) (DA.pa (da_cons (de_tried (k := 4) T_law_met hAp (by simp [cl_law_met, Xs]) hTB (hcd.symm.trans hcc) hTm hTu (hr.mono (by decide)) (fun A2 outer2 s2 H2 E2 f2 c2 hr => de_GK (k := 4) (ps := ps_row_for) (ks := ["bell", "wishes", "house"]) GK_row_for__bell_wishes_house (hr.mono (by decide)) passN2 (dk_cons (de_none) (dk_cons (de_none) (dk_cons (de_v 0) (dk_nil))))) (LamX.lamS_by (sc := defScope st_law_asked_a) (by decide +kernel))) (da_nil)))) bt_lst br_append))
    (dss_cons (ds_expr (de_bm (pe_bm PySem.F.plainAttrs_list PySem.F.slot_list_append PySem.F.type_list_append mt_append (DE.pe (de_v 1)) (DA.pa (da_cons (de_tried (k := 4) T_law_met hAp (by simp [cl_law_met, Xs]) hTB (hcd.symm.trans hcc) hTm hTu (hr.mono (by decide)) (fun A2 outer2 s2 H2 E2 f2 c2 hr => de_G (k := 4) (ps := ps_is_row_for) G_is_row_for (hr.mono (by decide)) passN2 (da_cons (de_v 0) (da_cons (de_none) (da_cons (de_none) (da_cons (de_none) (da_nil)))))) (LamX.lamS_by (sc := defScope st_law_asked_a) (by decide +kernel))) (da_nil)))) bt_lst br_append))
    (dss_cons (ds_expr (de_bm (pe_bm PySem.F.plainAttrs_list PySem.F.slot_list_append PySem.F.type_list_append mt_append (DE.pe (de_v 1)) (DA.pa (da_cons (de_tried (k := 4) T_law_met hAp (by simp [cl_law_met, Xs]) hTB (hcd.symm.trans hcc) hTm hTu (hr.mono (by decide)) (fun A2 outer2 s2 H2 E2 f2 c2 hr => de_GK (k := 4) (ps := ps_is_row_for) (ks := ["thing", "bell", "wishes", "house"]) GK_is_row_for__thing_bell_wishes_house (hr.mono (by decide)) passN2 (dk_cons (de_none) (dk_cons (de_none) (dk_cons (de_none) (dk_cons (de_v 0) (dk_nil)))))) (LamX.lamS_by (sc := defScope st_law_asked_a) (by decide +kernel))) (da_nil)))) bt_lst br_append))
    (dss_cons (ds_expr (de_bm (pe_bm PySem.F.plainAttrs_list PySem.F.slot_list_append PySem.F.type_list_append mt_append (DE.pe (de_v 1)) (DA.pa (da_cons (de_tried (k := 4) T_law_met hAp (by simp [cl_law_met, Xs]) hTB (hcd.symm.trans hcc) hTm hTu (hr.mono (by decide)) (fun A2 outer2 s2 H2 E2 f2 c2 hr => de_G (k := 4) (ps := ps_parted) G_parted (hr.mono (by decide)) passN2 (da_cons (de_v 0) (da_cons (de_none) (da_nil)))) (LamX.lamS_by (sc := defScope st_law_asked_a) (by decide +kernel))) (da_nil)))) bt_lst br_append))
    (dss_cons (ds_expr (de_bm (pe_bm PySem.F.plainAttrs_list PySem.F.slot_list_append PySem.F.type_list_append mt_append (DE.pe (de_v 1)) (DA.pa (da_cons (de_tried (k := 4) T_law_met hAp (by simp [cl_law_met, Xs]) hTB (hcd.symm.trans hcc) hTm hTu (hr.mono (by decide)) (fun A2 outer2 s2 H2 E2 f2 c2 hr => de_GK (k := 4) (ps := ps_parted) (ks := ["parts", "house"]) GK_parted__parts_house (hr.mono (by decide)) passN2 (dk_cons (de_none) (dk_cons (de_v 0) (dk_nil)))) (LamX.lamS_by (sc := defScope st_law_asked_a) (by decide +kernel))) (da_nil)))) bt_lst br_append))
    (dss_cons (ds_expr (de_bm (pe_bm PySem.F.plainAttrs_list PySem.F.slot_list_append PySem.F.type_list_append mt_append (DE.pe (de_v 1)) (DA.pa (da_cons (de_tried (k := 5) T_law_met hAp (by simp [cl_law_met, Xs]) hTB (hcd.symm.trans hcc) hTm hTu (hr.mono (by decide)) (fun A2 outer2 s2 H2 E2 f2 c2 hr => de_G (k := 5) (ps := ps_most) G_most (hr.mono (by decide)) passN2 (da_cons (de_v 0) (da_cons (de_none) (da_cons (de_none) (da_nil))))) (LamX.lamS_by (sc := defScope st_law_asked_a) (by decide +kernel))) (da_nil)))) bt_lst br_append))
    (dss_cons (ds_expr (de_bm (pe_bm PySem.F.plainAttrs_list PySem.F.slot_list_append PySem.F.type_list_append mt_append (DE.pe (de_v 1)) (DA.pa (da_cons (de_tried (k := 5) T_law_met hAp (by simp [cl_law_met, Xs]) hTB (hcd.symm.trans hcc) hTm hTu (hr.mono (by decide)) (fun A2 outer2 s2 H2 E2 f2 c2 hr => de_GK (k := 5) (ps := ps_most) (ks := ["bell", "lot", "house"]) GK_most__bell_lot_house (hr.mono (by decide)) passN2 (dk_cons (de_none) (dk_cons (de_none) (dk_cons (de_v 0) (dk_nil))))) (LamX.lamS_by (sc := defScope st_law_asked_a) (by decide +kernel))) (da_nil)))) bt_lst br_append))
    (dss_cons (ds_expr (de_bm (pe_bm PySem.F.plainAttrs_list PySem.F.slot_list_append PySem.F.type_list_append mt_append (DE.pe (de_v 1)) (DA.pa (da_cons (de_tried (k := 5) T_law_met hAp (by simp [cl_law_met, Xs]) hTB (hcd.symm.trans hcc) hTm hTu (hr.mono (by decide)) (fun A2 outer2 s2 H2 E2 f2 c2 hr => de_G (k := 5) (ps := ps_most_plan) G_most_plan (hr.mono (by decide)) passN2 (da_cons (de_v 0) (da_cons (de_none) (da_cons (de_none) (da_nil))))) (LamX.lamS_by (sc := defScope st_law_asked_a) (by decide +kernel))) (da_nil)))) bt_lst br_append))
    (dss_cons (ds_expr (de_bm (pe_bm PySem.F.plainAttrs_list PySem.F.slot_list_append PySem.F.type_list_append mt_append (DE.pe (de_v 1)) (DA.pa (da_cons (de_tried (k := 5) T_law_met hAp (by simp [cl_law_met, Xs]) hTB (hcd.symm.trans hcc) hTm hTu (hr.mono (by decide)) (fun A2 outer2 s2 H2 E2 f2 c2 hr => de_GK (k := 5) (ps := ps_most_plan) (ks := ["bell", "lot", "house"]) GK_most_plan__bell_lot_house (hr.mono (by decide)) passN2 (dk_cons (de_none) (dk_cons (de_none) (dk_cons (de_v 0) (dk_nil))))) (LamX.lamS_by (sc := defScope st_law_asked_a) (by decide +kernel))) (da_nil)))) bt_lst br_append))
    (dss_cons (ds_expr (de_bm (pe_bm PySem.F.plainAttrs_list PySem.F.slot_list_append PySem.F.type_list_append mt_append (DE.pe (de_v 1)) (DA.pa (da_cons (de_tried (k := 4) T_law_met hAp (by simp [cl_law_met, Xs]) hTB (hcd.symm.trans hcc) hTm hTu (hr.mono (by decide)) (fun A2 outer2 s2 H2 E2 f2 c2 hr => de_G (k := 4) (ps := ps_levels) G_levels (hr.mono (by decide)) passN2 (da_cons (de_v 0) (da_cons (de_none) (da_nil)))) (LamX.lamS_by (sc := defScope st_law_asked_a) (by decide +kernel))) (da_nil)))) bt_lst br_append))
    (dss_cons (ds_expr (de_bm (pe_bm PySem.F.plainAttrs_list PySem.F.slot_list_append PySem.F.type_list_append mt_append (DE.pe (de_v 1)) (DA.pa (da_cons (de_tried (k := 4) T_law_met hAp (by simp [cl_law_met, Xs]) hTB (hcd.symm.trans hcc) hTm hTu (hr.mono (by decide)) (fun A2 outer2 s2 H2 E2 f2 c2 hr => de_GK (k := 4) (ps := ps_levels) (ks := ["lot", "house"]) GK_levels__lot_house (hr.mono (by decide)) passN2 (dk_cons (de_none) (dk_cons (de_v 0) (dk_nil)))) (LamX.lamS_by (sc := defScope st_law_asked_a) (by decide +kernel))) (da_nil)))) bt_lst br_append))
    (dss_cons (ds_expr (de_bm (pe_bm PySem.F.plainAttrs_list PySem.F.slot_list_append PySem.F.type_list_append mt_append (DE.pe (de_v 1)) (DA.pa (da_cons (de_tried (k := 5) T_law_met hAp (by simp [cl_law_met, Xs]) hTB (hcd.symm.trans hcc) hTm hTu (hr.mono (by decide)) (fun A2 outer2 s2 H2 E2 f2 c2 hr => de_G (k := 5) (ps := ps_steady) G_steady (hr.mono (by decide)) passN2 (da_cons (de_v 0) (da_cons (de_none) (da_nil)))) (LamX.lamS_by (sc := defScope st_law_asked_a) (by decide +kernel))) (da_nil)))) bt_lst br_append))
    (dss_cons (ds_expr (de_bm (pe_bm PySem.F.plainAttrs_list PySem.F.slot_list_append PySem.F.type_list_append mt_append (DE.pe (de_v 1)) (DA.pa (da_cons (de_tried (k := 5) T_law_met hAp (by simp [cl_law_met, Xs]) hTB (hcd.symm.trans hcc) hTm hTu (hr.mono (by decide)) (fun A2 outer2 s2 H2 E2 f2 c2 hr => de_GK (k := 5) (ps := ps_steady) (ks := ["lot", "house"]) GK_steady__lot_house (hr.mono (by decide)) passN2 (dk_cons (de_none) (dk_cons (de_v 0) (dk_nil)))) (LamX.lamS_by (sc := defScope st_law_asked_a) (by decide +kernel))) (da_nil)))) bt_lst br_append))
    (dss_cons (ds_expr (de_bm (pe_bm PySem.F.plainAttrs_list PySem.F.slot_list_append PySem.F.type_list_append mt_append (DE.pe (de_v 1)) (DA.pa (da_cons (de_tried (k := 4) T_law_met hAp (by simp [cl_law_met, Xs]) hTB (hcd.symm.trans hcc) hTm hTu (hr.mono (by decide)) (fun A2 outer2 s2 H2 E2 f2 c2 hr => de_G (k := 4) (ps := ps_lot_bell) G_lot_bell (hr.mono (by decide)) passN2 (da_cons (de_v 0) (da_cons (de_none) (da_cons (de_none) (da_nil))))) (LamX.lamS_by (sc := defScope st_law_asked_a) (by decide +kernel))) (da_nil)))) bt_lst br_append))
    (dss_cons (ds_expr (de_bm (pe_bm PySem.F.plainAttrs_list PySem.F.slot_list_append PySem.F.type_list_append mt_append (DE.pe (de_v 1)) (DA.pa (da_cons (de_tried (k := 4) T_law_met hAp (by simp [cl_law_met, Xs]) hTB (hcd.symm.trans hcc) hTm hTu (hr.mono (by decide)) (fun A2 outer2 s2 H2 E2 f2 c2 hr => de_GK (k := 4) (ps := ps_lot_bell) (ks := ["amount", "lot", "house"]) GK_lot_bell__amount_lot_house (hr.mono (by decide)) passN2 (dk_cons (de_none) (dk_cons (de_none) (dk_cons (de_v 0) (dk_nil))))) (LamX.lamS_by (sc := defScope st_law_asked_a) (by decide +kernel))) (da_nil)))) bt_lst br_append))
    (dss_cons (ds_expr (de_bm (pe_bm PySem.F.plainAttrs_list PySem.F.slot_list_append PySem.F.type_list_append mt_append (DE.pe (de_v 1)) (DA.pa (da_cons (de_tried (k := 5) T_law_met hAp (by simp [cl_law_met, Xs]) hTB (hcd.symm.trans hcc) hTm hTu (hr.mono (by decide)) (fun A2 outer2 s2 H2 E2 f2 c2 hr => de_G (k := 5) (ps := ps_is_moments) G_is_moments (hr.mono (by decide)) passN2 (da_cons (de_v 0) (da_cons (de_none) (da_cons (de_none) (da_cons (de_none) (da_nil)))))) (LamX.lamS_by (sc := defScope st_law_asked_a) (by decide +kernel))) (da_nil)))) bt_lst br_append))
    (dss_cons (ds_expr (de_bm (pe_bm PySem.F.plainAttrs_list PySem.F.slot_list_append PySem.F.type_list_append mt_append (DE.pe (de_v 1)) (DA.pa (da_cons (de_tried (k := 5) T_law_met hAp (by simp [cl_law_met, Xs]) hTB (hcd.symm.trans hcc) hTm hTu (hr.mono (by decide)) (fun A2 outer2 s2 H2 E2 f2 c2 hr => de_GK (k := 5) (ps := ps_is_moments) (ks := ["thing", "bell", "lot", "house"]) GK_is_moments__thing_bell_lot_house (hr.mono (by decide)) passN2 (dk_cons (de_none) (dk_cons (de_none) (dk_cons (de_none) (dk_cons (de_v 0) (dk_nil)))))) (LamX.lamS_by (sc := defScope st_law_asked_a) (by decide +kernel))) (da_nil)))) bt_lst br_append))
    (dss_cons (ds_ret (de_v 1))
    (dss_nil))))))))))))))))))))))))))))))))
abbrev st_law_asked_b : Stmt := (top 218)
theorem sc_law_asked_b : FnScope N_law_asked_b ps_law_asked_b (defScope st_law_asked_b) := ⟨rfl, rfl, rfl, by decide +kernel, rfl, by decide +kernel, by decide +kernel⟩
theorem ok_law_asked_b (T_law_met : TrG P w K mg base "_law_met" "told" (cl_law_met A) false) (hAp : XcApart K (Xs A)) (hXn : (Xs A).Nodup) (G_worth : FnG CT P w K mg base 4 "worth" ps_worth (ft_worth A)) (GK_worth__moments_house : FnKG CT P w K mg base 4 "worth" ps_worth (ft_worth A) ["moments", "house"] [1, 0]) (G_moments_for : FnG CT P w K mg base 5 "moments_for" ps_moments_for (ft_moments_for A)) (GK_moments_for__bell_lot_house : FnKG CT P w K mg base 5 "moments_for" ps_moments_for (ft_moments_for A) ["bell", "lot", "house"] [2, 1, 0]) (G_plan_by_order : FnG CT P w K mg base 5 "plan_by_order" ps_plan_by_order (ft_plan_by_order A)) (GK_plan_by_order__bell_order_house : FnKG CT P w K mg base 5 "plan_by_order" ps_plan_by_order (ft_plan_by_order A) ["bell", "order", "house"] [2, 1, 0]) (G_corner : FnG CT P w K mg base 5 "corner" ps_corner (ft_corner A)) (GK_corner__bell_order_house : FnKG CT P w K mg base 5 "corner" ps_corner (ft_corner A) ["bell", "order", "house"] [2, 1, 0]) (G_corners : FnG CT P w K mg base 4 "corners" ps_corners (ft_corners A)) (GK_corners__bell_house : FnKG CT P w K mg base 4 "corners" ps_corners (ft_corners A) ["bell", "house"] [1, 0]) (G_order_of : FnG CT P w K mg base 4 "order_of" ps_order_of (ft_order_of A)) (GK_order_of__bell_wishes_house : FnKG CT P w K mg base 4 "order_of" ps_order_of (ft_order_of A) ["bell", "wishes", "house"] [2, 1, 0]) (G_is_plan : FnG CT P w K mg base 5 "is_plan" ps_is_plan (ft_is_plan A)) (GK_is_plan__thing_house : FnKG CT P w K mg base 5 "is_plan" ps_is_plan (ft_is_plan A) ["thing", "house"] [1, 0]) (G_plan_fault : FnG CT P w K mg base 4 "plan_fault" ps_plan_fault (ft_plan_fault A)) (GK_plan_fault__thing_house : FnKG CT P w K mg base 4 "plan_fault" ps_plan_fault (ft_plan_fault A) ["thing", "house"] [1, 0]) (G_brings : FnG CT P w K mg base 7 "brings" ps_brings (ft_brings A)) (GK_brings__plan_house : FnKG CT P w K mg base 7 "brings" ps_brings (ft_brings A) ["plan", "house"] [1, 0]) (G_bell_of : FnG CT P w K mg base 7 "bell_of" ps_bell_of (ft_bell_of A)) (GK_bell_of__plan_house : FnKG CT P w K mg base 7 "bell_of" ps_bell_of (ft_bell_of A) ["plan", "house"] [1, 0]) (G_on_roads : FnG CT P w K mg base 7 "on_roads" ps_on_roads (ft_on_roads A)) (GK_on_roads__turn_plan_house : FnKG CT P w K mg base 7 "on_roads" ps_on_roads (ft_on_roads A) ["turn", "plan", "house"] [2, 1, 0]) (G_least_bell : FnG CT P w K mg base 4 "least_bell" ps_least_bell (ft_least_bell A)) (GK_least_bell__wishes_house : FnKG CT P w K mg base 4 "least_bell" ps_least_bell (ft_least_bell A) ["wishes", "house"] [1, 0]) (G_never : FnG CT P w K mg base 4 "never" ps_never (ft_never A)) (GK_never__wishes_house : FnKG CT P w K mg base 4 "never" ps_never (ft_never A) ["wishes", "house"] [1, 0]) (G_rising : FnG CT P w K mg base 4 "rising" ps_rising (ft_rising A)) (GK_rising__wishes_house : FnKG CT P w K mg base 4 "rising" ps_rising (ft_rising A) ["wishes", "house"] [1, 0]) (G_bell_with : FnG CT P w K mg base 4 "bell_with" ps_bell_with (ft_bell_with A)) (GK_bell_with__other_door_wishes_house : FnKG CT P w K mg base 4 "bell_with" ps_bell_with (ft_bell_with A) ["other", "door", "wishes", "house"] [3, 2, 1, 0]) {cc PP : Addr} (hTB : LamX.TabB base mg cc PP) (hTm : (PP, ("_law_asked_b" : Str) ++ ".<locals>." ++ "<lambda>") ∈ CT) (hTu : ∀ p ∈ CT, p.1 = PP → p.2 = ("_law_asked_b" : Str) ++ ".<locals>." ++ "<lambda>") {f : Addr} {fd : FuncData} (F : L2.Fun K "_law_asked_b" "_law_asked_b" st_law_asked_b f fd) (hcc : fd.code = .ref cc) : FnOk P w K mg base (L2.CX P w) 10 f fd ps_law_asked_b (spD CT 1 (ft_law_asked_b A)) :=
 okD_code F sc_law_asked_b (m := .raw) (math_law_asked_b A hXn) fun cdv A' outer s H E hcd hr => by
  have nd := (sc_law_asked_b).nd
  exact dss_cons (ds_set (ps_set (i := 1) nd rfl (by first | exact .inl rfl | exact .inr rfl) (DE.pe (de_lstM (da_nil)))))
    (dss_cons (ds_expr (de_bm (pe_bm PySem.F.plainAttrs_list PySem.F.slot_list_append PySem.F.type_list_append mt_append (DE.pe (de_v 1)) (DA.pa (da_cons (de_tried (k := 4) T_law_met hAp (by simp [cl_law_met, Xs]) hTB (hcd.symm.trans hcc) hTm hTu (hr.mono (by decide)) (fun A2 outer2 s2 H2 E2 f2 c2 hr => de_G (k := 4) (ps := ps_worth) G_worth (hr.mono (by decide)) passN2 (da_cons (de_v 0) (da_cons (de_none) (da_nil)))) (LamX.lamS_by (sc := defScope st_law_asked_b) (by decide +kernel))) (da_nil)))) bt_lst br_append))
    (dss_cons (ds_expr (de_bm (pe_bm PySem.F.plainAttrs_list PySem.F.slot_list_append PySem.F.type_list_append mt_append (DE.pe (de_v 1)) (DA.pa (da_cons (de_tried (k := 4) T_law_met hAp (by simp [cl_law_met, Xs]) hTB (hcd.symm.trans hcc) hTm hTu (hr.mono (by decide)) (fun A2 outer2 s2 H2 E2 f2 c2 hr => de_GK (k := 4) (ps := ps_worth) (ks := ["moments", "house"]) GK_worth__moments_house (hr.mono (by decide)) passN2 (dk_cons (de_none) (dk_cons (de_v 0) (dk_nil)))) (LamX.lamS_by (sc := defScope st_law_asked_b) (by decide +kernel))) (da_nil)))) bt_lst br_append))
    (dss_cons (ds_expr (de_bm (pe_bm PySem.F.plainAttrs_list PySem.F.slot_list_append PySem.F.type_list_append mt_append (DE.pe (de_v 1)) (DA.pa (da_cons (de_tried (k := 5) T_law_met hAp (by simp [cl_law_met, Xs]) hTB (hcd.symm.trans hcc) hTm hTu (hr.mono (by decide)) (fun A2 outer2 s2 H2 E2 f2 c2 hr => de_G (k := 5) (ps := ps_moments_for) G_moments_for (hr.mono (by decide)) passN2 (da_cons (de_v 0) (da_cons (de_none) (da_cons (de_none) (da_nil))))) (LamX.lamS_by (sc := defScope st_law_asked_b) (by decide +kernel))) (da_nil)))) bt_lst br_append))
    (dss_cons (ds_expr (de_bm (pe_bm PySem.F.plainAttrs_list PySem.F.slot_list_append PySem.F.type_list_append mt_append (DE.pe (de_v 1)) (DA.pa (da_cons (de_tried (k := 5) T_law_met hAp (by simp [cl_law_met, Xs]) hTB (hcd.symm.trans hcc) hTm hTu (hr.mono (by decide)) (fun A2 outer2 s2 H2 E2 f2 c2 hr => de_GK (k := 5) (ps := ps_moments_for) (ks := ["bell", "lot", "house"]) GK_moments_for__bell_lot_house (hr.mono (by decide)) passN2 (dk_cons (de_none) (dk_cons (de_none) (dk_cons (de_v 0) (dk_nil))))) (LamX.lamS_by (sc := defScope st_law_asked_b) (by decide +kernel))) (da_nil)))) bt_lst br_append))
    (dss_cons (ds_expr (de_bm (pe_bm PySem.F.plainAttrs_list PySem.F.slot_list_append PySem.F.type_list_append mt_append (DE.pe (de_v 1)) (DA.pa (da_cons (de_tried (k := 5) T_law_met hAp (by simp [cl_law_met, Xs]) hTB (hcd.symm.trans hcc) hTm hTu (hr.mono (by decide)) (fun A2 outer2 s2 H2 E2 f2 c2 hr => de_G (k := 5) (ps := ps_plan_by_order) G_plan_by_order (hr.mono (by decide)) passN2 (da_cons (de_v 0) (da_cons (de_none) (da_cons (de_none) (da_nil))))) (LamX.lamS_by (sc := defScope st_law_asked_b) (by decide +kernel))) (da_nil)))) bt_lst br_append))
    (dss_cons (ds_expr (de_bm (pe_bm PySem.F.plainAttrs_list PySem.F.slot_list_append PySem.F.type_list_append mt_append (DE.pe (de_v 1)) (DA.pa (da_cons (de_tried (k := 5) T_law_met hAp (by simp [cl_law_met, Xs]) hTB (hcd.symm.trans hcc) hTm hTu (hr.mono (by decide)) (fun A2 outer2 s2 H2 E2 f2 c2 hr => de_GK (k := 5) (ps := ps_plan_by_order) (ks := ["bell", "order", "house"]) GK_plan_by_order__bell_order_house (hr.mono (by decide)) passN2 (dk_cons (de_none) (dk_cons (de_none) (dk_cons (de_v 0) (dk_nil))))) (LamX.lamS_by (sc := defScope st_law_asked_b) (by decide +kernel))) (da_nil)))) bt_lst br_append))
    (dss_cons (ds_expr (de_bm (pe_bm PySem.F.plainAttrs_list PySem.F.slot_list_append PySem.F.type_list_append mt_append (DE.pe (de_v 1)) (DA.pa (da_cons (de_tried (k := 5) T_law_met hAp (by simp [cl_law_met, Xs]) hTB (hcd.symm.trans hcc) hTm hTu (hr.mono (by decide)) (fun A2 outer2 s2 H2 E2 f2 c2 hr => de_G (k := 5) (ps := ps_corner) G_corner (hr.mono (by decide)) passN2 (da_cons (de_v 0) (da_cons (de_none) (da_cons (de_none) (da_nil))))) (LamX.lamS_by (sc := defScope st_law_asked_b) (by decide +kernel))) (da_nil)))) bt_lst br_append))
    (dss_cons (ds_expr (de_bm (pe_bm PySem.F.plainAttrs_list PySem.F.slot_list_append PySem.F.type_list_append mt_append (DE.pe (de_v 1)) (DA.pa (da_cons (de_tried (k := 5) T_law_met hAp (by simp [cl_law_met, Xs]) hTB (hcd.symm.trans hcc) hTm hTu (hr.mono (by decide)) (fun A2 outer2 s2 H2 E2 f2 c2 hr => de_GK (k := 5) (ps := ps_corner) (ks := ["bell", "order", "house"]) GK_corner__bell_order_house (hr.mono (by decide)) passN2 (dk_cons (de_none) (dk_cons (de_none) (dk_cons (de_v 0) (dk_nil))))) (LamX.lamS_by (sc := defScope st_law_asked_b) (by decide +kernel))) (da_nil)))) bt_lst br_append))
    (dss_cons (ds_expr (de_bm (pe_bm PySem.F.plainAttrs_list PySem.F.slot_list_append PySem.F.type_list_append mt_append (DE.pe (de_v 1)) (DA.pa (da_cons (de_tried (k := 4) T_law_met hAp (by simp [cl_law_met, Xs]) hTB (hcd.symm.trans hcc) hTm hTu (hr.mono (by decide)) (fun A2 outer2 s2 H2 E2 f2 c2 hr => de_G (k := 4) (ps := ps_corners) G_corners (hr.mono (by decide)) passN2 (da_cons (de_v 0) (da_cons (de_none) (da_nil)))) (LamX.lamS_by (sc := defScope st_law_asked_b) (by decide +kernel))) (da_nil)))) bt_lst br_append))
    (dss_cons (ds_expr (de_bm (pe_bm PySem.F.plainAttrs_list PySem.F.slot_list_append PySem.F.type_list_append mt_append (DE.pe (de_v 1)) (DA.pa (da_cons (de_tried (k := 4) T_law_met hAp (by simp [cl_law_met, Xs]) hTB (hcd.symm.trans hcc) hTm hTu (hr.mono (by decide)) (fun A2 outer2 s2 H2 E2 f2 c2 hr => de_GK (k := 4) (ps := ps_corners) (ks := ["bell", "house"]) GK_corners__bell_house (hr.mono (by decide)) passN2 (dk_cons (de_none) (dk_cons (de_v 0) (dk_nil)))) (LamX.lamS_by (sc := defScope st_law_asked_b) (by decide +kernel))) (da_nil)))) bt_lst br_append))
    (dss_cons (ds_expr (de_bm (pe_bm PySem.F.plainAttrs_list PySem.F.slot_list_append PySem.F.type_list_append mt_append (DE.pe (de_v 1)) (DA.pa (da_cons (de_tried (k := 4) T_law_met hAp (by simp [cl_law_met, Xs]) hTB (hcd.symm.trans hcc) hTm hTu (hr.mono (by decide)) (fun A2 outer2 s2 H2 E2 f2 c2 hr => de_G (k := 4) (ps := ps_order_of) G_order_of (hr.mono (by decide)) passN2 (da_cons (de_v 0) (da_cons (de_none) (da_cons (de_none) (da_nil))))) (LamX.lamS_by (sc := defScope st_law_asked_b) (by decide +kernel))) (da_nil)))) bt_lst br_append))
    (dss_cons (ds_expr (de_bm (pe_bm PySem.F.plainAttrs_list PySem.F.slot_list_append PySem.F.type_list_append mt_append (DE.pe (de_v 1)) (DA.pa (da_cons (de_tried (k := 4) T_law_met hAp (by simp [cl_law_met, Xs]) hTB (hcd.symm.trans hcc) hTm hTu (hr.mono (by decide)) (fun A2 outer2 s2 H2 E2 f2 c2 hr => de_GK (k := 4) (ps := ps_order_of) (ks := ["bell", "wishes", "house"]) GK_order_of__bell_wishes_house (hr.mono (by decide)) passN2 (dk_cons (de_none) (dk_cons (de_none) (dk_cons (de_v 0) (dk_nil))))) (LamX.lamS_by (sc := defScope st_law_asked_b) (by decide +kernel))) (da_nil)))) bt_lst br_append))
    (dss_cons (ds_expr (de_bm (pe_bm PySem.F.plainAttrs_list PySem.F.slot_list_append PySem.F.type_list_append mt_append (DE.pe (de_v 1)) (DA.pa (da_cons (de_tried (k := 5) T_law_met hAp (by simp [cl_law_met, Xs]) hTB (hcd.symm.trans hcc) hTm hTu (hr.mono (by decide)) (fun A2 outer2 s2 H2 E2 f2 c2 hr => de_G (k := 5) (ps := ps_is_plan) G_is_plan (hr.mono (by decide)) passN2 (da_cons (de_v 0) (da_cons (de_none) (da_nil)))) (LamX.lamS_by (sc := defScope st_law_asked_b) (by decide +kernel))) (da_nil)))) bt_lst br_append))
    (dss_cons (ds_expr (de_bm (pe_bm PySem.F.plainAttrs_list PySem.F.slot_list_append PySem.F.type_list_append mt_append (DE.pe (de_v 1)) (DA.pa (da_cons (de_tried (k := 5) T_law_met hAp (by simp [cl_law_met, Xs]) hTB (hcd.symm.trans hcc) hTm hTu (hr.mono (by decide)) (fun A2 outer2 s2 H2 E2 f2 c2 hr => de_GK (k := 5) (ps := ps_is_plan) (ks := ["thing", "house"]) GK_is_plan__thing_house (hr.mono (by decide)) passN2 (dk_cons (de_none) (dk_cons (de_v 0) (dk_nil)))) (LamX.lamS_by (sc := defScope st_law_asked_b) (by decide +kernel))) (da_nil)))) bt_lst br_append))
    (dss_cons (ds_expr (de_bm (pe_bm PySem.F.plainAttrs_list PySem.F.slot_list_append PySem.F.type_list_append mt_append (DE.pe (de_v 1)) (DA.pa (da_cons (de_tried (k := 4) T_law_met hAp (by simp [cl_law_met, Xs]) hTB (hcd.symm.trans hcc) hTm hTu (hr.mono (by decide)) (fun A2 outer2 s2 H2 E2 f2 c2 hr => de_G (k := 4) (ps := ps_plan_fault) G_plan_fault (hr.mono (by decide)) passN2 (da_cons (de_v 0) (da_cons (de_none) (da_nil)))) (LamX.lamS_by (sc := defScope st_law_asked_b) (by decide +kernel))) (da_nil)))) bt_lst br_append))
    (dss_cons (ds_expr (de_bm (pe_bm PySem.F.plainAttrs_list PySem.F.slot_list_append PySem.F.type_list_append mt_append (DE.pe (de_v 1)) (DA.pa (da_cons (de_tried (k := 4) T_law_met hAp (by simp [cl_law_met, Xs]) hTB (hcd.symm.trans hcc) hTm hTu (hr.mono (by decide)) (fun A2 outer2 s2 H2 E2 f2 c2 hr => de_GK (k := 4) (ps := ps_plan_fault) (ks := ["thing", "house"]) GK_plan_fault__thing_house (hr.mono (by decide)) passN2 (dk_cons (de_none) (dk_cons (de_v 0) (dk_nil)))) (LamX.lamS_by (sc := defScope st_law_asked_b) (by decide +kernel))) (da_nil)))) bt_lst br_append))
    (dss_cons (ds_expr (de_bm (pe_bm PySem.F.plainAttrs_list PySem.F.slot_list_append PySem.F.type_list_append mt_append (DE.pe (de_v 1)) (DA.pa (da_cons (de_tried (k := 7) T_law_met hAp (by simp [cl_law_met, Xs]) hTB (hcd.symm.trans hcc) hTm hTu (hr.mono (by decide)) (fun A2 outer2 s2 H2 E2 f2 c2 hr => de_G (k := 7) (ps := ps_brings) G_brings (hr.mono (by decide)) passN2 (da_cons (de_v 0) (da_cons (de_none) (da_nil)))) (LamX.lamS_by (sc := defScope st_law_asked_b) (by decide +kernel))) (da_nil)))) bt_lst br_append))
    (dss_cons (ds_expr (de_bm (pe_bm PySem.F.plainAttrs_list PySem.F.slot_list_append PySem.F.type_list_append mt_append (DE.pe (de_v 1)) (DA.pa (da_cons (de_tried (k := 7) T_law_met hAp (by simp [cl_law_met, Xs]) hTB (hcd.symm.trans hcc) hTm hTu (hr.mono (by decide)) (fun A2 outer2 s2 H2 E2 f2 c2 hr => de_GK (k := 7) (ps := ps_brings) (ks := ["plan", "house"]) GK_brings__plan_house (hr.mono (by decide)) passN2 (dk_cons (de_none) (dk_cons (de_v 0) (dk_nil)))) (LamX.lamS_by (sc := defScope st_law_asked_b) (by decide +kernel))) (da_nil)))) bt_lst br_append))
    (dss_cons (ds_expr (de_bm (pe_bm PySem.F.plainAttrs_list PySem.F.slot_list_append PySem.F.type_list_append mt_append (DE.pe (de_v 1)) (DA.pa (da_cons (de_tried (k := 7) T_law_met hAp (by simp [cl_law_met, Xs]) hTB (hcd.symm.trans hcc) hTm hTu (hr.mono (by decide)) (fun A2 outer2 s2 H2 E2 f2 c2 hr => de_G (k := 7) (ps := ps_bell_of) G_bell_of (hr.mono (by decide)) passN2 (da_cons (de_v 0) (da_cons (de_none) (da_nil)))) (LamX.lamS_by (sc := defScope st_law_asked_b) (by decide +kernel))) (da_nil)))) bt_lst br_append))
    (dss_cons (ds_expr (de_bm (pe_bm PySem.F.plainAttrs_list PySem.F.slot_list_append PySem.F.type_list_append mt_append (DE.pe (de_v 1)) (DA.pa (da_cons (de_tried (k := 7) T_law_met hAp (by simp [cl_law_met, Xs]) hTB (hcd.symm.trans hcc) hTm hTu (hr.mono (by decide)) (fun A2 outer2 s2 H2 E2 f2 c2 hr => de_GK (k := 7) (ps := ps_bell_of) (ks := ["plan", "house"]) GK_bell_of__plan_house (hr.mono (by decide)) passN2 (dk_cons (de_none) (dk_cons (de_v 0) (dk_nil)))) (LamX.lamS_by (sc := defScope st_law_asked_b) (by decide +kernel))) (da_nil)))) bt_lst br_append))
    (dss_cons (ds_expr (de_bm (pe_bm PySem.F.plainAttrs_list PySem.F.slot_list_append PySem.F.type_list_append mt_append (DE.pe (de_v 1)) (DA.pa (da_cons (de_tried (k := 7) T_law_met hAp (by simp [cl_law_met, Xs]) hTB (hcd.symm.trans hcc) hTm hTu (hr.mono (by decide)) (fun A2 outer2 s2 H2 E2 f2 c2 hr => de_G (k := 7) (ps := ps_on_roads) G_on_roads (hr.mono (by decide)) passN2 (da_cons (de_v 0) (da_cons (de_none) (da_cons (de_none) (da_nil))))) (LamX.lamS_by (sc := defScope st_law_asked_b) (by decide +kernel))) (da_nil)))) bt_lst br_append))
    (dss_cons (ds_expr (de_bm (pe_bm PySem.F.plainAttrs_list PySem.F.slot_list_append PySem.F.type_list_append mt_append (DE.pe (de_v 1)) (DA.pa (da_cons (de_tried (k := 7) T_law_met hAp (by simp [cl_law_met, Xs]) hTB (hcd.symm.trans hcc) hTm hTu (hr.mono (by decide)) (fun A2 outer2 s2 H2 E2 f2 c2 hr => de_GK (k := 7) (ps := ps_on_roads) (ks := ["turn", "plan", "house"]) GK_on_roads__turn_plan_house (hr.mono (by decide)) passN2 (dk_cons (de_none) (dk_cons (de_none) (dk_cons (de_v 0) (dk_nil))))) (LamX.lamS_by (sc := defScope st_law_asked_b) (by decide +kernel))) (da_nil)))) bt_lst br_append))
    (dss_cons (ds_expr (de_bm (pe_bm PySem.F.plainAttrs_list PySem.F.slot_list_append PySem.F.type_list_append mt_append (DE.pe (de_v 1)) (DA.pa (da_cons (de_tried (k := 4) T_law_met hAp (by simp [cl_law_met, Xs]) hTB (hcd.symm.trans hcc) hTm hTu (hr.mono (by decide)) (fun A2 outer2 s2 H2 E2 f2 c2 hr => de_G (k := 4) (ps := ps_least_bell) G_least_bell (hr.mono (by decide)) passN2 (da_cons (de_v 0) (da_cons (de_none) (da_nil)))) (LamX.lamS_by (sc := defScope st_law_asked_b) (by decide +kernel))) (da_nil)))) bt_lst br_append))
    (dss_cons (ds_expr (de_bm (pe_bm PySem.F.plainAttrs_list PySem.F.slot_list_append PySem.F.type_list_append mt_append (DE.pe (de_v 1)) (DA.pa (da_cons (de_tried (k := 4) T_law_met hAp (by simp [cl_law_met, Xs]) hTB (hcd.symm.trans hcc) hTm hTu (hr.mono (by decide)) (fun A2 outer2 s2 H2 E2 f2 c2 hr => de_GK (k := 4) (ps := ps_least_bell) (ks := ["wishes", "house"]) GK_least_bell__wishes_house (hr.mono (by decide)) passN2 (dk_cons (de_none) (dk_cons (de_v 0) (dk_nil)))) (LamX.lamS_by (sc := defScope st_law_asked_b) (by decide +kernel))) (da_nil)))) bt_lst br_append))
    (dss_cons (ds_expr (de_bm (pe_bm PySem.F.plainAttrs_list PySem.F.slot_list_append PySem.F.type_list_append mt_append (DE.pe (de_v 1)) (DA.pa (da_cons (de_tried (k := 4) T_law_met hAp (by simp [cl_law_met, Xs]) hTB (hcd.symm.trans hcc) hTm hTu (hr.mono (by decide)) (fun A2 outer2 s2 H2 E2 f2 c2 hr => de_G (k := 4) (ps := ps_never) G_never (hr.mono (by decide)) passN2 (da_cons (de_v 0) (da_cons (de_none) (da_nil)))) (LamX.lamS_by (sc := defScope st_law_asked_b) (by decide +kernel))) (da_nil)))) bt_lst br_append))
    (dss_cons (ds_expr (de_bm (pe_bm PySem.F.plainAttrs_list PySem.F.slot_list_append PySem.F.type_list_append mt_append (DE.pe (de_v 1)) (DA.pa (da_cons (de_tried (k := 4) T_law_met hAp (by simp [cl_law_met, Xs]) hTB (hcd.symm.trans hcc) hTm hTu (hr.mono (by decide)) (fun A2 outer2 s2 H2 E2 f2 c2 hr => de_GK (k := 4) (ps := ps_never) (ks := ["wishes", "house"]) GK_never__wishes_house (hr.mono (by decide)) passN2 (dk_cons (de_none) (dk_cons (de_v 0) (dk_nil)))) (LamX.lamS_by (sc := defScope st_law_asked_b) (by decide +kernel))) (da_nil)))) bt_lst br_append))
    (dss_cons (ds_expr (de_bm (pe_bm PySem.F.plainAttrs_list PySem.F.slot_list_append PySem.F.type_list_append mt_append (DE.pe (de_v 1)) (DA.pa (da_cons (de_tried (k := 4) T_law_met hAp (by simp [cl_law_met, Xs]) hTB (hcd.symm.trans hcc) hTm hTu (hr.mono (by decide)) (fun A2 outer2 s2 H2 E2 f2 c2 hr => de_G (k := 4) (ps := ps_rising) G_rising (hr.mono (by decide)) passN2 (da_cons (de_v 0) (da_cons (de_none) (da_nil)))) (LamX.lamS_by (sc := defScope st_law_asked_b) (by decide +kernel))) (da_nil)))) bt_lst br_append))
    (dss_cons (ds_expr (de_bm (pe_bm PySem.F.plainAttrs_list PySem.F.slot_list_append PySem.F.type_list_append mt_append (DE.pe (de_v 1)) (DA.pa (da_cons (de_tried (k := 4) T_law_met hAp (by simp [cl_law_met, Xs]) hTB (hcd.symm.trans hcc) hTm hTu (hr.mono (by decide)) (fun A2 outer2 s2 H2 E2 f2 c2 hr => de_GK (k := 4) (ps := ps_rising) (ks := ["wishes", "house"]) GK_rising__wishes_house (hr.mono (by decide)) passN2 (dk_cons (de_none) (dk_cons (de_v 0) (dk_nil)))) (LamX.lamS_by (sc := defScope st_law_asked_b) (by decide +kernel))) (da_nil)))) bt_lst br_append))
    (dss_cons (ds_expr (de_bm (pe_bm PySem.F.plainAttrs_list PySem.F.slot_list_append PySem.F.type_list_append mt_append (DE.pe (de_v 1)) (DA.pa (da_cons (de_tried (k := 4) T_law_met hAp (by simp [cl_law_met, Xs]) hTB (hcd.symm.trans hcc) hTm hTu (hr.mono (by decide)) (fun A2 outer2 s2 H2 E2 f2 c2 hr => de_G (k := 4) (ps := ps_bell_with) G_bell_with (hr.mono (by decide)) passN2 (da_cons (de_v 0) (da_cons (de_none) (da_cons (de_none) (da_cons (de_none) (da_nil)))))) (LamX.lamS_by (sc := defScope st_law_asked_b) (by decide +kernel))) (da_nil)))) bt_lst br_append))
    (dss_cons (ds_expr (de_bm (pe_bm PySem.F.plainAttrs_list PySem.F.slot_list_append PySem.F.type_list_append mt_append (DE.pe (de_v 1)) (DA.pa (da_cons (de_tried (k := 4) T_law_met hAp (by simp [cl_law_met, Xs]) hTB (hcd.symm.trans hcc) hTm hTu (hr.mono (by decide)) (fun A2 outer2 s2 H2 E2 f2 c2 hr => de_GK (k := 4) (ps := ps_bell_with) (ks := ["other", "door", "wishes", "house"]) GK_bell_with__other_door_wishes_house (hr.mono (by decide)) passN2 (dk_cons (de_none) (dk_cons (de_none) (dk_cons (de_none) (dk_cons (de_v 0) (dk_nil)))))) (LamX.lamS_by (sc := defScope st_law_asked_b) (by decide +kernel))) (da_nil)))) bt_lst br_append))
    (dss_cons (ds_ret (de_v 1))
    (dss_nil))))))))))))))))))))))))))))))))
abbrev st_law_asked_c : Stmt := (top 219)
theorem sc_law_asked_c : FnScope N_law_asked_c ps_law_asked_c (defScope st_law_asked_c) := ⟨rfl, rfl, rfl, by decide +kernel, rfl, by decide +kernel, by decide +kernel⟩
theorem ok_law_asked_c (T_law_met : TrG P w K mg base "_law_met" "told" (cl_law_met A) false) (hAp : XcApart K (Xs A)) (hXn : (Xs A).Nodup) (G_further : FnG CT P w K mg base 4 "further" ps_further (ft_further A)) (GK_further__down_up_bell_wishes_house : FnKG CT P w K mg base 4 "further" ps_further (ft_further A) ["down", "up", "bell", "wishes", "house"] [4, 3, 2, 1, 0]) (G_tight : FnG CT P w K mg base 5 "tight" ps_tight (ft_tight A)) (GK_tight__bell_wishes_house : FnKG CT P w K mg base 5 "tight" ps_tight (ft_tight A) ["bell", "wishes", "house"] [2, 1, 0]) (G_bound : FnG CT P w K mg base 4 "bound" ps_bound (ft_bound A)) (GK_bound__door_bell_wishes_house : FnKG CT P w K mg base 4 "bound" ps_bound (ft_bound A) ["door", "bell", "wishes", "house"] [3, 2, 1, 0]) (G_times : FnG CT P w K mg base 4 "times" ps_times (ft_times A)) (GK_times__bell_wishes_house : FnKG CT P w K mg base 4 "times" ps_times (ft_times A) ["bell", "wishes", "house"] [2, 1, 0]) (G_whole_times : FnG CT P w K mg base 5 "whole_times" ps_whole_times (ft_whole_times A)) (GK_whole_times__bell_wishes_house : FnKG CT P w K mg base 5 "whole_times" ps_whole_times (ft_whole_times A) ["bell", "wishes", "house"] [2, 1, 0]) (G_part_for : FnG CT P w K mg base 4 "part_for" ps_part_for (ft_part_for A)) (GK_part_for__bell_numbers_house : FnKG CT P w K mg base 4 "part_for" ps_part_for (ft_part_for A) ["bell", "numbers", "house"] [2, 1, 0]) (G_part_lot : FnG CT P w K mg base 4 "part_lot" ps_part_lot (ft_part_lot A)) (GK_part_lot__bell_numbers_house : FnKG CT P w K mg base 4 "part_lot" ps_part_lot (ft_part_lot A) ["bell", "numbers", "house"] [2, 1, 0]) (G_mix_for : FnG CT P w K mg base 4 "mix_for" ps_mix_for (ft_mix_for A)) (GK_mix_for__bell_wishes_house : FnKG CT P w K mg base 4 "mix_for" ps_mix_for (ft_mix_for A) ["bell", "wishes", "house"] [2, 1, 0]) (G_is_mix_for : FnG CT P w K mg base 4 "is_mix_for" ps_is_mix_for (ft_is_mix_for A)) (GK_is_mix_for__thing_bell_wishes_house : FnKG CT P w K mg base 4 "is_mix_for" ps_is_mix_for (ft_is_mix_for A) ["thing", "bell", "wishes", "house"] [3, 2, 1, 0]) (G_dearest : FnG CT P w K mg base 5 "dearest" ps_dearest (ft_dearest A)) (GK_dearest__prices_bell_house : FnKG CT P w K mg base 5 "dearest" ps_dearest (ft_dearest A) ["prices", "bell", "house"] [2, 1, 0]) (G_dearest_order : FnG CT P w K mg base 4 "dearest_order" ps_dearest_order (ft_dearest_order A)) (GK_dearest_order__prices_bell_house : FnKG CT P w K mg base 4 "dearest_order" ps_dearest_order (ft_dearest_order A) ["prices", "bell", "house"] [2, 1, 0]) (G_turned : FnG CT P w K mg base 4 "turned" ps_turned (ft_turned A)) (GK_turned__house : FnKG CT P w K mg base 4 "turned" ps_turned (ft_turned A) ["house"] [0]) (G_turned_plan : FnG CT P w K mg base 4 "turned_plan" ps_turned_plan (ft_turned_plan A)) (GK_turned_plan__bell_plan_house : FnKG CT P w K mg base 4 "turned_plan" ps_turned_plan (ft_turned_plan A) ["bell", "plan", "house"] [2, 1, 0]) (G_first_unlike : FnG CT P w K mg base 5 "first_unlike" ps_first_unlike (ft_first_unlike A)) (GK_first_unlike__other_house : FnKG CT P w K mg base 5 "first_unlike" ps_first_unlike (ft_first_unlike A) ["other", "house"] [1, 0]) (G_parting : FnG CT P w K mg base 5 "parting" ps_parting (ft_parting A)) (GK_parting__other_house : FnKG CT P w K mg base 5 "parting" ps_parting (ft_parting A) ["other", "house"] [1, 0]) {cc PP : Addr} (hTB : LamX.TabB base mg cc PP) (hTm : (PP, ("_law_asked_c" : Str) ++ ".<locals>." ++ "<lambda>") ∈ CT) (hTu : ∀ p ∈ CT, p.1 = PP → p.2 = ("_law_asked_c" : Str) ++ ".<locals>." ++ "<lambda>") {f : Addr} {fd : FuncData} (F : L2.Fun K "_law_asked_c" "_law_asked_c" st_law_asked_c f fd) (hcc : fd.code = .ref cc) : FnOk P w K mg base (L2.CX P w) 8 f fd ps_law_asked_c (spD CT 1 (ft_law_asked_c A)) :=
 okD_code F sc_law_asked_c (m := .raw) (math_law_asked_c A hXn) fun cdv A' outer s H E hcd hr => by
  have nd := (sc_law_asked_c).nd
  exact dss_cons (ds_set (ps_set (i := 1) nd rfl (by first | exact .inl rfl | exact .inr rfl) (DE.pe (de_lstM (da_nil)))))
    (dss_cons (ds_expr (de_bm (pe_bm PySem.F.plainAttrs_list PySem.F.slot_list_append PySem.F.type_list_append mt_append (DE.pe (de_v 1)) (DA.pa (da_cons (de_tried (k := 4) T_law_met hAp (by simp [cl_law_met, Xs]) hTB (hcd.symm.trans hcc) hTm hTu (hr.mono (by decide)) (fun A2 outer2 s2 H2 E2 f2 c2 hr => de_G (k := 4) (ps := ps_further) G_further (hr.mono (by decide)) passN2 (da_cons (de_v 0) (da_cons (de_none) (da_cons (de_none) (da_cons (de_none) (da_cons (de_none) (da_nil))))))) (LamX.lamS_by (sc := defScope st_law_asked_c) (by decide +kernel))) (da_nil)))) bt_lst br_append))
    (dss_cons (ds_expr (de_bm (pe_bm PySem.F.plainAttrs_list PySem.F.slot_list_append PySem.F.type_list_append mt_append (DE.pe (de_v 1)) (DA.pa (da_cons (de_tried (k := 4) T_law_met hAp (by simp [cl_law_met, Xs]) hTB (hcd.symm.trans hcc) hTm hTu (hr.mono (by decide)) (fun A2 outer2 s2 H2 E2 f2 c2 hr => de_GK (k := 4) (ps := ps_further) (ks := ["down", "up", "bell", "wishes", "house"]) GK_further__down_up_bell_wishes_house (hr.mono (by decide)) passN2 (dk_cons (de_none) (dk_cons (de_none) (dk_cons (de_none) (dk_cons (de_none) (dk_cons (de_v 0) (dk_nil))))))) (LamX.lamS_by (sc := defScope st_law_asked_c) (by decide +kernel))) (da_nil)))) bt_lst br_append))
    (dss_cons (ds_expr (de_bm (pe_bm PySem.F.plainAttrs_list PySem.F.slot_list_append PySem.F.type_list_append mt_append (DE.pe (de_v 1)) (DA.pa (da_cons (de_tried (k := 5) T_law_met hAp (by simp [cl_law_met, Xs]) hTB (hcd.symm.trans hcc) hTm hTu (hr.mono (by decide)) (fun A2 outer2 s2 H2 E2 f2 c2 hr => de_G (k := 5) (ps := ps_tight) G_tight (hr.mono (by decide)) passN2 (da_cons (de_v 0) (da_cons (de_none) (da_cons (de_none) (da_nil))))) (LamX.lamS_by (sc := defScope st_law_asked_c) (by decide +kernel))) (da_nil)))) bt_lst br_append))
    (dss_cons (ds_expr (de_bm (pe_bm PySem.F.plainAttrs_list PySem.F.slot_list_append PySem.F.type_list_append mt_append (DE.pe (de_v 1)) (DA.pa (da_cons (de_tried (k := 5) T_law_met hAp (by simp [cl_law_met, Xs]) hTB (hcd.symm.trans hcc) hTm hTu (hr.mono (by decide)) (fun A2 outer2 s2 H2 E2 f2 c2 hr => de_GK (k := 5) (ps := ps_tight) (ks := ["bell", "wishes", "house"]) GK_tight__bell_wishes_house (hr.mono (by decide)) passN2 (dk_cons (de_none) (dk_cons (de_none) (dk_cons (de_v 0) (dk_nil))))) (LamX.lamS_by (sc := defScope st_law_asked_c) (by decide +kernel))) (da_nil)))) bt_lst br_append))
    (dss_cons (ds_expr (de_bm (pe_bm PySem.F.plainAttrs_list PySem.F.slot_list_append PySem.F.type_list_append mt_append (DE.pe (de_v 1)) (DA.pa (da_cons (de_tried (k := 4) T_law_met hAp (by simp [cl_law_met, Xs]) hTB (hcd.symm.trans hcc) hTm hTu (hr.mono (by decide)) (fun A2 outer2 s2 H2 E2 f2 c2 hr => de_G (k := 4) (ps := ps_bound) G_bound (hr.mono (by decide)) passN2 (da_cons (de_v 0) (da_cons (de_none) (da_cons (de_none) (da_cons (de_none) (da_nil)))))) (LamX.lamS_by (sc := defScope st_law_asked_c) (by decide +kernel))) (da_nil)))) bt_lst br_append))
    (dss_cons (ds_expr (de_bm (pe_bm PySem.F.plainAttrs_list PySem.F.slot_list_append PySem.F.type_list_append mt_append (DE.pe (de_v 1)) (DA.pa (da_cons (de_tried (k := 4) T_law_met hAp (by simp [cl_law_met, Xs]) hTB (hcd.symm.trans hcc) hTm hTu (hr.mono (by decide)) (fun A2 outer2 s2 H2 E2 f2 c2 hr => de_GK (k := 4) (ps := ps_bound) (ks := ["door", "bell", "wishes", "house"]) GK_bound__door_bell_wishes_house (hr.mono (by decide)) passN2 (dk_cons (de_none) (dk_cons (de_none) (dk_cons (de_none) (dk_cons (de_v 0) (dk_nil)))))) (LamX.lamS_by (sc := defScope st_law_asked_c) (by decide +kernel))) (da_nil)))) bt_lst br_append))
    (dss_cons (ds_expr (de_bm (pe_bm PySem.F.plainAttrs_list PySem.F.slot_list_append PySem.F.type_list_append mt_append (DE.pe (de_v 1)) (DA.pa (da_cons (de_tried (k := 4) T_law_met hAp (by simp [cl_law_met, Xs]) hTB (hcd.symm.trans hcc) hTm hTu (hr.mono (by decide)) (fun A2 outer2 s2 H2 E2 f2 c2 hr => de_G (k := 4) (ps := ps_times) G_times (hr.mono (by decide)) passN2 (da_cons (de_v 0) (da_cons (de_none) (da_cons (de_none) (da_nil))))) (LamX.lamS_by (sc := defScope st_law_asked_c) (by decide +kernel))) (da_nil)))) bt_lst br_append))
    (dss_cons (ds_expr (de_bm (pe_bm PySem.F.plainAttrs_list PySem.F.slot_list_append PySem.F.type_list_append mt_append (DE.pe (de_v 1)) (DA.pa (da_cons (de_tried (k := 4) T_law_met hAp (by simp [cl_law_met, Xs]) hTB (hcd.symm.trans hcc) hTm hTu (hr.mono (by decide)) (fun A2 outer2 s2 H2 E2 f2 c2 hr => de_GK (k := 4) (ps := ps_times) (ks := ["bell", "wishes", "house"]) GK_times__bell_wishes_house (hr.mono (by decide)) passN2 (dk_cons (de_none) (dk_cons (de_none) (dk_cons (de_v 0) (dk_nil))))) (LamX.lamS_by (sc := defScope st_law_asked_c) (by decide +kernel))) (da_nil)))) bt_lst br_append))
    (dss_cons (ds_expr (de_bm (pe_bm PySem.F.plainAttrs_list PySem.F.slot_list_append PySem.F.type_list_append mt_append (DE.pe (de_v 1)) (DA.pa (da_cons (de_tried (k := 5) T_law_met hAp (by simp [cl_law_met, Xs]) hTB (hcd.symm.trans hcc) hTm hTu (hr.mono (by decide)) (fun A2 outer2 s2 H2 E2 f2 c2 hr => de_G (k := 5) (ps := ps_whole_times) G_whole_times (hr.mono (by decide)) passN2 (da_cons (de_v 0) (da_cons (de_none) (da_cons (de_none) (da_nil))))) (LamX.lamS_by (sc := defScope st_law_asked_c) (by decide +kernel))) (da_nil)))) bt_lst br_append))
    (dss_cons (ds_expr (de_bm (pe_bm PySem.F.plainAttrs_list PySem.F.slot_list_append PySem.F.type_list_append mt_append (DE.pe (de_v 1)) (DA.pa (da_cons (de_tried (k := 5) T_law_met hAp (by simp [cl_law_met, Xs]) hTB (hcd.symm.trans hcc) hTm hTu (hr.mono (by decide)) (fun A2 outer2 s2 H2 E2 f2 c2 hr => de_GK (k := 5) (ps := ps_whole_times) (ks := ["bell", "wishes", "house"]) GK_whole_times__bell_wishes_house (hr.mono (by decide)) passN2 (dk_cons (de_none) (dk_cons (de_none) (dk_cons (de_v 0) (dk_nil))))) (LamX.lamS_by (sc := defScope st_law_asked_c) (by decide +kernel))) (da_nil)))) bt_lst br_append))
    (dss_cons (ds_expr (de_bm (pe_bm PySem.F.plainAttrs_list PySem.F.slot_list_append PySem.F.type_list_append mt_append (DE.pe (de_v 1)) (DA.pa (da_cons (de_tried (k := 4) T_law_met hAp (by simp [cl_law_met, Xs]) hTB (hcd.symm.trans hcc) hTm hTu (hr.mono (by decide)) (fun A2 outer2 s2 H2 E2 f2 c2 hr => de_G (k := 4) (ps := ps_part_for) G_part_for (hr.mono (by decide)) passN2 (da_cons (de_v 0) (da_cons (de_none) (da_cons (de_none) (da_nil))))) (LamX.lamS_by (sc := defScope st_law_asked_c) (by decide +kernel))) (da_nil)))) bt_lst br_append))
    (dss_cons (ds_expr (de_bm (pe_bm PySem.F.plainAttrs_list PySem.F.slot_list_append PySem.F.type_list_append mt_append (DE.pe (de_v 1)) (DA.pa (da_cons (de_tried (k := 4) T_law_met hAp (by simp [cl_law_met, Xs]) hTB (hcd.symm.trans hcc) hTm hTu (hr.mono (by decide)) (fun A2 outer2 s2 H2 E2 f2 c2 hr => de_GK (k := 4) (ps := ps_part_for) (ks := ["bell", "numbers", "house"]) GK_part_for__bell_numbers_house (hr.mono (by decide)) passN2 (dk_cons (de_none) (dk_cons (de_none) (dk_cons (de_v 0) (dk_nil))))) (LamX.lamS_by (sc := defScope st_law_asked_c) (by decide +kernel))) (da_nil)))) bt_lst br_append))
    (dss_cons (ds_expr (de_bm (pe_bm PySem.F.plainAttrs_list PySem.F.slot_list_append PySem.F.type_list_append mt_append (DE.pe (de_v 1)) (DA.pa (da_cons (de_tried (k := 4) T_law_met hAp (by simp [cl_law_met, Xs]) hTB (hcd.symm.trans hcc) hTm hTu (hr.mono (by decide)) (fun A2 outer2 s2 H2 E2 f2 c2 hr => de_G (k := 4) (ps := ps_part_lot) G_part_lot (hr.mono (by decide)) passN2 (da_cons (de_v 0) (da_cons (de_none) (da_cons (de_none) (da_nil))))) (LamX.lamS_by (sc := defScope st_law_asked_c) (by decide +kernel))) (da_nil)))) bt_lst br_append))
    (dss_cons (ds_expr (de_bm (pe_bm PySem.F.plainAttrs_list PySem.F.slot_list_append PySem.F.type_list_append mt_append (DE.pe (de_v 1)) (DA.pa (da_cons (de_tried (k := 4) T_law_met hAp (by simp [cl_law_met, Xs]) hTB (hcd.symm.trans hcc) hTm hTu (hr.mono (by decide)) (fun A2 outer2 s2 H2 E2 f2 c2 hr => de_GK (k := 4) (ps := ps_part_lot) (ks := ["bell", "numbers", "house"]) GK_part_lot__bell_numbers_house (hr.mono (by decide)) passN2 (dk_cons (de_none) (dk_cons (de_none) (dk_cons (de_v 0) (dk_nil))))) (LamX.lamS_by (sc := defScope st_law_asked_c) (by decide +kernel))) (da_nil)))) bt_lst br_append))
    (dss_cons (ds_expr (de_bm (pe_bm PySem.F.plainAttrs_list PySem.F.slot_list_append PySem.F.type_list_append mt_append (DE.pe (de_v 1)) (DA.pa (da_cons (de_tried (k := 4) T_law_met hAp (by simp [cl_law_met, Xs]) hTB (hcd.symm.trans hcc) hTm hTu (hr.mono (by decide)) (fun A2 outer2 s2 H2 E2 f2 c2 hr => de_G (k := 4) (ps := ps_mix_for) G_mix_for (hr.mono (by decide)) passN2 (da_cons (de_v 0) (da_cons (de_none) (da_cons (de_none) (da_nil))))) (LamX.lamS_by (sc := defScope st_law_asked_c) (by decide +kernel))) (da_nil)))) bt_lst br_append))
    (dss_cons (ds_expr (de_bm (pe_bm PySem.F.plainAttrs_list PySem.F.slot_list_append PySem.F.type_list_append mt_append (DE.pe (de_v 1)) (DA.pa (da_cons (de_tried (k := 4) T_law_met hAp (by simp [cl_law_met, Xs]) hTB (hcd.symm.trans hcc) hTm hTu (hr.mono (by decide)) (fun A2 outer2 s2 H2 E2 f2 c2 hr => de_GK (k := 4) (ps := ps_mix_for) (ks := ["bell", "wishes", "house"]) GK_mix_for__bell_wishes_house (hr.mono (by decide)) passN2 (dk_cons (de_none) (dk_cons (de_none) (dk_cons (de_v 0) (dk_nil))))) (LamX.lamS_by (sc := defScope st_law_asked_c) (by decide +kernel))) (da_nil)))) bt_lst br_append))
    (dss_cons (ds_expr (de_bm (pe_bm PySem.F.plainAttrs_list PySem.F.slot_list_append PySem.F.type_list_append mt_append (DE.pe (de_v 1)) (DA.pa (da_cons (de_tried (k := 4) T_law_met hAp (by simp [cl_law_met, Xs]) hTB (hcd.symm.trans hcc) hTm hTu (hr.mono (by decide)) (fun A2 outer2 s2 H2 E2 f2 c2 hr => de_G (k := 4) (ps := ps_is_mix_for) G_is_mix_for (hr.mono (by decide)) passN2 (da_cons (de_v 0) (da_cons (de_none) (da_cons (de_none) (da_cons (de_none) (da_nil)))))) (LamX.lamS_by (sc := defScope st_law_asked_c) (by decide +kernel))) (da_nil)))) bt_lst br_append))
    (dss_cons (ds_expr (de_bm (pe_bm PySem.F.plainAttrs_list PySem.F.slot_list_append PySem.F.type_list_append mt_append (DE.pe (de_v 1)) (DA.pa (da_cons (de_tried (k := 4) T_law_met hAp (by simp [cl_law_met, Xs]) hTB (hcd.symm.trans hcc) hTm hTu (hr.mono (by decide)) (fun A2 outer2 s2 H2 E2 f2 c2 hr => de_GK (k := 4) (ps := ps_is_mix_for) (ks := ["thing", "bell", "wishes", "house"]) GK_is_mix_for__thing_bell_wishes_house (hr.mono (by decide)) passN2 (dk_cons (de_none) (dk_cons (de_none) (dk_cons (de_none) (dk_cons (de_v 0) (dk_nil)))))) (LamX.lamS_by (sc := defScope st_law_asked_c) (by decide +kernel))) (da_nil)))) bt_lst br_append))
    (dss_cons (ds_expr (de_bm (pe_bm PySem.F.plainAttrs_list PySem.F.slot_list_append PySem.F.type_list_append mt_append (DE.pe (de_v 1)) (DA.pa (da_cons (de_tried (k := 5) T_law_met hAp (by simp [cl_law_met, Xs]) hTB (hcd.symm.trans hcc) hTm hTu (hr.mono (by decide)) (fun A2 outer2 s2 H2 E2 f2 c2 hr => de_G (k := 5) (ps := ps_dearest) G_dearest (hr.mono (by decide)) passN2 (da_cons (de_v 0) (da_cons (de_none) (da_cons (de_none) (da_nil))))) (LamX.lamS_by (sc := defScope st_law_asked_c) (by decide +kernel))) (da_nil)))) bt_lst br_append))
    (dss_cons (ds_expr (de_bm (pe_bm PySem.F.plainAttrs_list PySem.F.slot_list_append PySem.F.type_list_append mt_append (DE.pe (de_v 1)) (DA.pa (da_cons (de_tried (k := 5) T_law_met hAp (by simp [cl_law_met, Xs]) hTB (hcd.symm.trans hcc) hTm hTu (hr.mono (by decide)) (fun A2 outer2 s2 H2 E2 f2 c2 hr => de_GK (k := 5) (ps := ps_dearest) (ks := ["prices", "bell", "house"]) GK_dearest__prices_bell_house (hr.mono (by decide)) passN2 (dk_cons (de_none) (dk_cons (de_none) (dk_cons (de_v 0) (dk_nil))))) (LamX.lamS_by (sc := defScope st_law_asked_c) (by decide +kernel))) (da_nil)))) bt_lst br_append))
    (dss_cons (ds_expr (de_bm (pe_bm PySem.F.plainAttrs_list PySem.F.slot_list_append PySem.F.type_list_append mt_append (DE.pe (de_v 1)) (DA.pa (da_cons (de_tried (k := 4) T_law_met hAp (by simp [cl_law_met, Xs]) hTB (hcd.symm.trans hcc) hTm hTu (hr.mono (by decide)) (fun A2 outer2 s2 H2 E2 f2 c2 hr => de_G (k := 4) (ps := ps_dearest_order) G_dearest_order (hr.mono (by decide)) passN2 (da_cons (de_v 0) (da_cons (de_none) (da_cons (de_none) (da_nil))))) (LamX.lamS_by (sc := defScope st_law_asked_c) (by decide +kernel))) (da_nil)))) bt_lst br_append))
    (dss_cons (ds_expr (de_bm (pe_bm PySem.F.plainAttrs_list PySem.F.slot_list_append PySem.F.type_list_append mt_append (DE.pe (de_v 1)) (DA.pa (da_cons (de_tried (k := 4) T_law_met hAp (by simp [cl_law_met, Xs]) hTB (hcd.symm.trans hcc) hTm hTu (hr.mono (by decide)) (fun A2 outer2 s2 H2 E2 f2 c2 hr => de_GK (k := 4) (ps := ps_dearest_order) (ks := ["prices", "bell", "house"]) GK_dearest_order__prices_bell_house (hr.mono (by decide)) passN2 (dk_cons (de_none) (dk_cons (de_none) (dk_cons (de_v 0) (dk_nil))))) (LamX.lamS_by (sc := defScope st_law_asked_c) (by decide +kernel))) (da_nil)))) bt_lst br_append))
    (dss_cons (ds_expr (de_bm (pe_bm PySem.F.plainAttrs_list PySem.F.slot_list_append PySem.F.type_list_append mt_append (DE.pe (de_v 1)) (DA.pa (da_cons (de_tried (k := 4) T_law_met hAp (by simp [cl_law_met, Xs]) hTB (hcd.symm.trans hcc) hTm hTu (hr.mono (by decide)) (fun A2 outer2 s2 H2 E2 f2 c2 hr => de_G (k := 4) (ps := ps_turned) G_turned (hr.mono (by decide)) passN2 (da_cons (de_v 0) (da_nil))) (LamX.lamS_by (sc := defScope st_law_asked_c) (by decide +kernel))) (da_nil)))) bt_lst br_append))
    (dss_cons (ds_expr (de_bm (pe_bm PySem.F.plainAttrs_list PySem.F.slot_list_append PySem.F.type_list_append mt_append (DE.pe (de_v 1)) (DA.pa (da_cons (de_tried (k := 4) T_law_met hAp (by simp [cl_law_met, Xs]) hTB (hcd.symm.trans hcc) hTm hTu (hr.mono (by decide)) (fun A2 outer2 s2 H2 E2 f2 c2 hr => de_GK (k := 4) (ps := ps_turned) (ks := ["house"]) GK_turned__house (hr.mono (by decide)) passN2 (dk_cons (de_v 0) (dk_nil))) (LamX.lamS_by (sc := defScope st_law_asked_c) (by decide +kernel))) (da_nil)))) bt_lst br_append))
    (dss_cons (ds_expr (de_bm (pe_bm PySem.F.plainAttrs_list PySem.F.slot_list_append PySem.F.type_list_append mt_append (DE.pe (de_v 1)) (DA.pa (da_cons (de_tried (k := 4) T_law_met hAp (by simp [cl_law_met, Xs]) hTB (hcd.symm.trans hcc) hTm hTu (hr.mono (by decide)) (fun A2 outer2 s2 H2 E2 f2 c2 hr => de_G (k := 4) (ps := ps_turned_plan) G_turned_plan (hr.mono (by decide)) passN2 (da_cons (de_v 0) (da_cons (de_none) (da_cons (de_none) (da_nil))))) (LamX.lamS_by (sc := defScope st_law_asked_c) (by decide +kernel))) (da_nil)))) bt_lst br_append))
    (dss_cons (ds_expr (de_bm (pe_bm PySem.F.plainAttrs_list PySem.F.slot_list_append PySem.F.type_list_append mt_append (DE.pe (de_v 1)) (DA.pa (da_cons (de_tried (k := 4) T_law_met hAp (by simp [cl_law_met, Xs]) hTB (hcd.symm.trans hcc) hTm hTu (hr.mono (by decide)) (fun A2 outer2 s2 H2 E2 f2 c2 hr => de_GK (k := 4) (ps := ps_turned_plan) (ks := ["bell", "plan", "house"]) GK_turned_plan__bell_plan_house (hr.mono (by decide)) passN2 (dk_cons (de_none) (dk_cons (de_none) (dk_cons (de_v 0) (dk_nil))))) (LamX.lamS_by (sc := defScope st_law_asked_c) (by decide +kernel))) (da_nil)))) bt_lst br_append))
    (dss_cons (ds_expr (de_bm (pe_bm PySem.F.plainAttrs_list PySem.F.slot_list_append PySem.F.type_list_append mt_append (DE.pe (de_v 1)) (DA.pa (da_cons (de_tried (k := 5) T_law_met hAp (by simp [cl_law_met, Xs]) hTB (hcd.symm.trans hcc) hTm hTu (hr.mono (by decide)) (fun A2 outer2 s2 H2 E2 f2 c2 hr => de_G (k := 5) (ps := ps_first_unlike) G_first_unlike (hr.mono (by decide)) passN2 (da_cons (de_v 0) (da_cons (de_none) (da_nil)))) (LamX.lamS_by (sc := defScope st_law_asked_c) (by decide +kernel))) (da_nil)))) bt_lst br_append))
    (dss_cons (ds_expr (de_bm (pe_bm PySem.F.plainAttrs_list PySem.F.slot_list_append PySem.F.type_list_append mt_append (DE.pe (de_v 1)) (DA.pa (da_cons (de_tried (k := 5) T_law_met hAp (by simp [cl_law_met, Xs]) hTB (hcd.symm.trans hcc) hTm hTu (hr.mono (by decide)) (fun A2 outer2 s2 H2 E2 f2 c2 hr => de_GK (k := 5) (ps := ps_first_unlike) (ks := ["other", "house"]) GK_first_unlike__other_house (hr.mono (by decide)) passN2 (dk_cons (de_none) (dk_cons (de_v 0) (dk_nil)))) (LamX.lamS_by (sc := defScope st_law_asked_c) (by decide +kernel))) (da_nil)))) bt_lst br_append))
    (dss_cons (ds_expr (de_bm (pe_bm PySem.F.plainAttrs_list PySem.F.slot_list_append PySem.F.type_list_append mt_append (DE.pe (de_v 1)) (DA.pa (da_cons (de_tried (k := 5) T_law_met hAp (by simp [cl_law_met, Xs]) hTB (hcd.symm.trans hcc) hTm hTu (hr.mono (by decide)) (fun A2 outer2 s2 H2 E2 f2 c2 hr => de_G (k := 5) (ps := ps_parting) G_parting (hr.mono (by decide)) passN2 (da_cons (de_v 0) (da_cons (de_none) (da_nil)))) (LamX.lamS_by (sc := defScope st_law_asked_c) (by decide +kernel))) (da_nil)))) bt_lst br_append))
    (dss_cons (ds_expr (de_bm (pe_bm PySem.F.plainAttrs_list PySem.F.slot_list_append PySem.F.type_list_append mt_append (DE.pe (de_v 1)) (DA.pa (da_cons (de_tried (k := 5) T_law_met hAp (by simp [cl_law_met, Xs]) hTB (hcd.symm.trans hcc) hTm hTu (hr.mono (by decide)) (fun A2 outer2 s2 H2 E2 f2 c2 hr => de_GK (k := 5) (ps := ps_parting) (ks := ["other", "house"]) GK_parting__other_house (hr.mono (by decide)) passN2 (dk_cons (de_none) (dk_cons (de_v 0) (dk_nil)))) (LamX.lamS_by (sc := defScope st_law_asked_c) (by decide +kernel))) (da_nil)))) bt_lst br_append))
    (dss_cons (ds_ret (de_v 1))
    (dss_nil))))))))))))))))))))))))))))))))
abbrev st_law_met : Stmt := (top 220)
theorem sc_law_met : FnScope N_law_met ps_law_met (defScope st_law_met) := ⟨rfl, rfl, rfl, by decide +kernel, rfl, by decide +kernel, by decide +kernel⟩
theorem tr_law_met (hC_BadHouse : mg "BadHouse" = some (.ref (A "BadHouse"))) (x_BadHouse : XfC K (A "BadHouse")) (n_BadHouse : PySem.W.findIn K (.ref (A "BadHouse")) "thing" = some none) {g : Addr} {fd : FuncData} (F : L2.Fun K "_law_met" "_law_met" st_law_met g fd) (hm : mg "_law_met" = some (.ref g)) : TrG P w K mg base "_law_met" "told" (cl_law_met A) false :=
  TrG.mk' (Ng := N_law_met) F hm rfl (fun _ _ _ _ _ _ us hl => match us, hl with | [_], _ => rfl) sc_law_met (.inl rfl) fun X q cdv e1 e2 e3 e4 e5 => by
    subst e1 e2 e3 e4 e5
    exact tried_gives1 (n := "e") (by decide) rfl rfl (fun s H => rfl) fun s H => .cons ⟨rfl, by decide, .inl hC_BadHouse⟩ (fun a oe cls d pn hz hf => pss_cons (ps_ret (pe_tup (pa_cons pe_str (pa_cons (pe_xf x_BadHouse n_BadHouse hz hf (pv 1)) pa_nil)))) pss_nil) (.rest (fun _ _ _ _ h => h))
abbrev st_law : Stmt := (top 221)
theorem sc_law : FnScope N_law ps_law (defScope st_law) := ⟨rfl, rfl, rfl, by decide +kernel, rfl, by decide +kernel, by decide +kernel⟩
theorem ok_law (G_law_house : FnG CT P w K mg base 3 "_law_house" ps_law_house (ft_law_house A)) (B : Bs mg) (G_law_asked_a : FnG CT P w K mg base 8 "_law_asked_a" ps_law_asked_a (ft_law_asked_a A)) (G_law_asked_b : FnG CT P w K mg base 10 "_law_asked_b" ps_law_asked_b (ft_law_asked_b A)) (G_law_asked_c : FnG CT P w K mg base 8 "_law_asked_c" ps_law_asked_c (ft_law_asked_c A)) (T_law_met : TrG P w K mg base "_law_met" "told" (cl_law_met A) false) (hAp : XcApart K (Xs A)) (hXn : (Xs A).Nodup) (K_Desk : MkG CT P w K mg base 4 "Desk" (A "Desk") ps_Desk_init (ft_Desk_init A)) (KK_Desk__bell_house : MkKG CT P w K mg base 4 "Desk" (A "Desk") ps_Desk_init (ft_Desk_init A) ["bell", "house"] [1, 0]) (hOK : OwnOk K (Cs A)) (G_law_same : FnG CT P w K mg base 7 "_law_same" ps_law_same (ft_law_same A)) {cc PP : Addr} (hTB : LamX.TabB base mg cc PP) (hTm : (PP, ("law" : Str) ++ ".<locals>." ++ "<lambda>") ∈ CT) (hTu : ∀ p ∈ CT, p.1 = PP → p.2 = ("law" : Str) ++ ".<locals>." ++ "<lambda>") {f fS : Addr} {fd fdS : FuncData} (F : L2.Fun K "law" "law" st_law f fd) (hcc : fd.code = .ref cc) (GS : FnOk P w K mg base (L2.CX P w) 1 fS fdS ps_law_stream (spStream CT K)) (bS : Binds K fdS ps_law_stream []) (mS : mg "_law_stream" = some (.ref fS)) (kS : PySem.W.keepIn K (.ref fS) = true) : FnOk P w K mg base (L2.CX P w) 11 f fd ps_law (spLaw CT K) := by
  refine okX_code F sc_law (fun vs H Q E ⟨a, ns, e, _⟩ => by rw [e]; rfl) fun cdv A' outer s H vs Q E hcd hr h => ?_
  have nd := (sc_law).nd
  refine ⟨_, pss_cons (ps_set (i := 1) nd rfl (Or.inl rfl) (pe_call GS (hr.mono (by decide)) rfl mS kS bS .nil passM (pa_cons (pv 0) pa_nil))) (DSs.ps ?_), law_pure (by decide) (math_law A hXn) h⟩
  exact dss_cons (ds_set (ps_set (i := 2) nd rfl (by first | exact .inl rfl | exact .inr rfl) (DE.pe (de_G (k := 3) (ps := ps_law_house) G_law_house (hr.mono (by decide)) passM (da_cons (de_v 1) (da_cons (de_int) (da_cons (de_int) (da_cons (de_int) (da_nil)))))))))
    (dss_cons (ds_for (passes_of rfl) rfl (di_seq (de_tupM (da_cons (de_none) (da_cons (de_int) (da_cons (de_str) (da_cons (de_bool) (da_cons (de_tup (da_nil)) (da_cons (de_dispC (kvs := [(.inr "a", .int 0)]) (pps_cons pe_str pe_int (pps_nil)) rfl rfl (by simp) (by decide) (by decide)) (da_cons (de_T (call_list_of) br_listM B.list bo_list (da_cons (de_v 2) (da_nil))) (da_cons (de_v 2) (da_cons (de_lstM (da_cons (de_lstM (da_cons (de_ix (de_v 2) (de_int)) (da_nil))) (da_cons (de_int) (da_nil)))) (da_nil)))))))))))) (dg_name (pg_name (i := 3) nd rfl (by first | exact .inl rfl | exact .inr rfl)))
    (dss_cons (ds_set (ps_set (i := 4) nd rfl (by first | exact .inl rfl | exact .inr rfl) (DE.pe (de_op op_cat br_catM (de_op op_cat br_catM (de_G (k := 8) (ps := ps_law_asked_a) G_law_asked_a (hr.mono (by decide)) passM (da_cons (de_v 3) (da_nil))) (de_G (k := 10) (ps := ps_law_asked_b) G_law_asked_b (hr.mono (by decide)) passM (da_cons (de_v 3) (da_nil)))) (de_G (k := 8) (ps := ps_law_asked_c) G_law_asked_c (hr.mono (by decide)) passM (da_cons (de_v 3) (da_nil)))))))
    (dss_cons (ds_expr (de_bm (pe_bm PySem.F.plainAttrs_list PySem.F.slot_list_append PySem.F.type_list_append mt_append (DE.pe (de_v 4)) (DA.pa (da_cons (de_tried (k := 5) T_law_met hAp (by simp [cl_law_met, Xs]) hTB (hcd.symm.trans hcc) hTm hTu (hr.mono (by decide)) (fun A2 outer2 s2 H2 E2 f2 c2 hr => de_K (k := 4) (ps := ps_Desk_init) K_Desk (hr.mono (by decide)) passN2 (da_cons (de_v 3) (da_cons (de_none) (da_nil)))) (LamX.lamS_by (sc := defScope st_law) (by decide +kernel))) (da_nil)))) bt_lst br_append))
    (dss_cons (ds_expr (de_bm (pe_bm PySem.F.plainAttrs_list PySem.F.slot_list_append PySem.F.type_list_append mt_append (DE.pe (de_v 4)) (DA.pa (da_cons (de_tried (k := 5) T_law_met hAp (by simp [cl_law_met, Xs]) hTB (hcd.symm.trans hcc) hTm hTu (hr.mono (by decide)) (fun A2 outer2 s2 H2 E2 f2 c2 hr => de_KK (k := 4) (ps := ps_Desk_init) (ks := ["bell", "house"]) KK_Desk__bell_house (hr.mono (by decide)) passN2 (dk_cons (de_none) (dk_cons (de_v 3) (dk_nil)))) (LamX.lamS_by (sc := defScope st_law) (by decide +kernel))) (da_nil)))) bt_lst br_append))
    (dss_cons (ds_if (dt_val (de_B ((call_isiY.or call_isiTY)) (br_isi hOK) B.isinstance bo_isinstance (da_cons (de_v 3) (da_cons (de_ty B.list bo_list) (da_nil)))))
    (dss_cons (ds_expr (de_bm (pe_bm PySem.F.plainAttrs_list PySem.F.slot_list_append PySem.F.type_list_append mt_append (DE.pe (de_v 3)) (DA.pa (da_cons (de_str) (da_nil)))) bt_lst br_append))
    (dss_nil))
    (dss_nil))
    (dss_cons (ds_if (dt_not (dt_val (de_GR (k := 7) (ps := ps_law_same) G_law_same (hr.mono (by decide)) passM (da_cons (de_v 4) (da_cons (de_op op_rep br_repM (de_lstM (da_cons (de_tupM (da_cons (de_str) (da_cons (de_v 3) (da_nil)))) (da_nil))) (de_B (call_len) br_len B.len bo_len (da_cons (de_v 4) (da_nil)))) (da_nil))))))
    (dss_cons (ds_ret (de_bool))
    (dss_nil))
    (dss_nil))
    (dss_nil)))))))
    (dss_cons (ds_ret (de_bool))
    (dss_nil)))
end
end DL
set_option Elab.async false
set_option linter.all false
set_option maxRecDepth 100000
set_option maxHeartbeats 0
namespace DL
open PySem PySem.Spec PyProof.Rows L2
def dd_BadHouse_init : He.DefD := ⟨("BadHouse", some "__init__"), "__init__", "BadHouse.__init__", defArgs st_BadHouse_init, defBody st_BadHouse_init, defScope st_BadHouse_init, [], []⟩
def dd_BadPlan_init : He.DefD := ⟨("BadPlan", some "__init__"), "__init__", "BadPlan.__init__", defArgs st_BadPlan_init, defBody st_BadPlan_init, defScope st_BadPlan_init, [], []⟩
def dd_check_house : He.DefD := ⟨("check_house", none), "check_house", "check_house", defArgs st_check_house, defBody st_check_house, defScope st_check_house, [], []⟩
def dd_most_by : He.DefD := ⟨("most_by", none), "most_by", "most_by", defArgs st_most_by, defBody st_most_by, defScope st_most_by, [], []⟩
def dd_checked_both : He.DefD := ⟨("checked_both", none), "checked_both", "checked_both", defArgs st_checked_both, defBody st_checked_both, defScope st_checked_both, [], []⟩
def dd_most : He.DefD := ⟨("most", none), "most", "most", defArgs st_most, defBody st_most, defScope st_most, [], []⟩
def dd_most_plan : He.DefD := ⟨("most_plan", none), "most_plan", "most_plan", defArgs st_most_plan, defBody st_most_plan, defScope st_most_plan, [], []⟩
def dd_levels : He.DefD := ⟨("levels", none), "levels", "levels", defArgs st_levels, defBody st_levels, defScope st_levels, [], []⟩
def dd_steady : He.DefD := ⟨("steady", none), "steady", "steady", defArgs st_steady, defBody st_steady, defScope st_steady, [], []⟩
def dd_lot_bell : He.DefD := ⟨("lot_bell", none), "lot_bell", "lot_bell", defArgs st_lot_bell, defBody st_lot_bell, defScope st_lot_bell, [], []⟩
def dd_is_moments : He.DefD := ⟨("is_moments", none), "is_moments", "is_moments", defArgs st_is_moments, defBody st_is_moments, defScope st_is_moments, [], []⟩
def dd_worth : He.DefD := ⟨("worth", none), "worth", "worth", defArgs st_worth, defBody st_worth, defScope st_worth, [], []⟩
def dd_moments_by : He.DefD := ⟨("moments_by", none), "moments_by", "moments_by", defArgs st_moments_by, defBody st_moments_by, defScope st_moments_by, [], []⟩
def dd_moments_for : He.DefD := ⟨("moments_for", none), "moments_for", "moments_for", defArgs st_moments_for, defBody st_moments_for, defScope st_moments_for, [], []⟩
def dd_plan_fault : He.DefD := ⟨("plan_fault", none), "plan_fault", "plan_fault", defArgs st_plan_fault, defBody st_plan_fault, defScope st_plan_fault, [], []⟩
def dd_is_plan : He.DefD := ⟨("is_plan", none), "is_plan", "is_plan", defArgs st_is_plan, defBody st_is_plan, defScope st_is_plan, [], []⟩
def dd_check_plan : He.DefD := ⟨("check_plan", none), "check_plan", "check_plan", defArgs st_check_plan, defBody st_check_plan, defScope st_check_plan, [], []⟩
def dd_brings : He.DefD := ⟨("brings", none), "brings", "brings", defArgs st_brings, defBody st_brings, defScope st_brings, [], []⟩
def dd_bell_of : He.DefD := ⟨("bell_of", none), "bell_of", "bell_of", defArgs st_bell_of, defBody st_bell_of, defScope st_bell_of, [], []⟩
def dd_on_roads : He.DefD := ⟨("on_roads", none), "on_roads", "on_roads", defArgs st_on_roads, defBody st_on_roads, defScope st_on_roads, [], []⟩
def dd_asked : He.DefD := ⟨("asked", none), "asked", "asked", defArgs st_asked, defBody st_asked, defScope st_asked, [], []⟩
def dd_lacking : He.DefD := ⟨("lacking", none), "lacking", "lacking", defArgs st_lacking, defBody st_lacking, defScope st_lacking, [], []⟩
def dd_lot_for : He.DefD := ⟨("lot_for", none), "lot_for", "lot_for", defArgs st_lot_for, defBody st_lot_for, defScope st_lot_for, [], []⟩
def dd_is_lot_for : He.DefD := ⟨("is_lot_for", none), "is_lot_for", "is_lot_for", defArgs st_is_lot_for, defBody st_is_lot_for, defScope st_is_lot_for, [], []⟩
def dd_is_plan_for : He.DefD := ⟨("is_plan_for", none), "is_plan_for", "is_plan_for", defArgs st_is_plan_for, defBody st_is_plan_for, defScope st_is_plan_for, [], []⟩
def dd_check_both : He.DefD := ⟨("check_both", none), "check_both", "check_both", defArgs st_check_both, defBody st_check_both, defScope st_check_both, [], []⟩
def dd_plan_by_order : He.DefD := ⟨("plan_by_order", none), "plan_by_order", "plan_by_order", defArgs st_plan_by_order, defBody st_plan_by_order, defScope st_plan_by_order, [], []⟩
def dd_corner : He.DefD := ⟨("corner", none), "corner", "corner", defArgs st_corner, defBody st_corner, defScope st_corner, [], []⟩
def dd_corners : He.DefD := ⟨("corners", none), "corners", "corners", defArgs st_corners, defBody st_corners, defScope st_corners, [], []⟩
def dd_order_of : He.DefD := ⟨("order_of", none), "order_of", "order_of", defArgs st_order_of, defBody st_order_of, defScope st_order_of, [], []⟩
def dd_check_sorts : He.DefD := ⟨("check_sorts", none), "check_sorts", "check_sorts", defArgs st_check_sorts, defBody st_check_sorts, defScope st_check_sorts, [], []⟩
def dd_first_unlike : He.DefD := ⟨("first_unlike", none), "first_unlike", "first_unlike", defArgs st_first_unlike, defBody st_first_unlike, defScope st_first_unlike, [], []⟩
def dd_parting : He.DefD := ⟨("parting", none), "parting", "parting", defArgs st_parting, defBody st_parting, defScope st_parting, [], []⟩
def dd_least_bell : He.DefD := ⟨("least_bell", none), "least_bell", "least_bell", defArgs st_least_bell, defBody st_least_bell, defScope st_least_bell, [], []⟩
def dd_never : He.DefD := ⟨("never", none), "never", "never", defArgs st_never, defBody st_never, defScope st_never, [], []⟩
def dd_rising : He.DefD := ⟨("rising", none), "rising", "rising", defArgs st_rising, defBody st_rising, defScope st_rising, [], []⟩
def dd_bell_with : He.DefD := ⟨("bell_with", none), "bell_with", "bell_with", defArgs st_bell_with, defBody st_bell_with, defScope st_bell_with, [], []⟩
def dd_dearest_order : He.DefD := ⟨("dearest_order", none), "dearest_order", "dearest_order", defArgs st_dearest_order, defBody st_dearest_order, defScope st_dearest_order, [], []⟩
def dd_dearest : He.DefD := ⟨("dearest", none), "dearest", "dearest", defArgs st_dearest, defBody st_dearest, defScope st_dearest, [], []⟩
def dd_checked_kept : He.DefD := ⟨("checked_kept", none), "checked_kept", "checked_kept", defArgs st_checked_kept, defBody st_checked_kept, defScope st_checked_kept, [], []⟩
def dd_further : He.DefD := ⟨("further", none), "further", "further", defArgs st_further, defBody st_further, defScope st_further, [], []⟩
def dd_tight_by : He.DefD := ⟨("tight_by", none), "tight_by", "tight_by", defArgs st_tight_by, defBody st_tight_by, defScope st_tight_by, [], []⟩
def dd_tight : He.DefD := ⟨("tight", none), "tight", "tight", defArgs st_tight, defBody st_tight, defScope st_tight, [], []⟩
def dd_bound : He.DefD := ⟨("bound", none), "bound", "bound", defArgs st_bound, defBody st_bound, defScope st_bound, [], []⟩
def dd_times : He.DefD := ⟨("times", none), "times", "times", defArgs st_times, defBody st_times, defScope st_times, [], []⟩
def dd_whole_times : He.DefD := ⟨("whole_times", none), "whole_times", "whole_times", defArgs st_whole_times, defBody st_whole_times, defScope st_whole_times, [], []⟩
def dd_parted : He.DefD := ⟨("parted", none), "parted", "parted", defArgs st_parted, defBody st_parted, defScope st_parted, [], []⟩
def dd_row_for : He.DefD := ⟨("row_for", none), "row_for", "row_for", defArgs st_row_for, defBody st_row_for, defScope st_row_for, [], []⟩
def dd_is_row_for : He.DefD := ⟨("is_row_for", none), "is_row_for", "is_row_for", defArgs st_is_row_for, defBody st_is_row_for, defScope st_is_row_for, [], []⟩
def dd_plan_for : He.DefD := ⟨("plan_for", none), "plan_for", "plan_for", defArgs st_plan_for, defBody st_plan_for, defScope st_plan_for, [], []⟩
def dd_Desk_init : He.DefD := ⟨("Desk", some "__init__"), "__init__", "Desk.__init__", defArgs st_Desk_init, defBody st_Desk_init, defScope st_Desk_init, [], []⟩
def dd_Desk_plan : He.DefD := ⟨("Desk", some "plan"), "plan", "Desk.plan", defArgs st_Desk_plan, defBody st_Desk_plan, defScope st_Desk_plan, [], []⟩
def dd_part_for : He.DefD := ⟨("part_for", none), "part_for", "part_for", defArgs st_part_for, defBody st_part_for, defScope st_part_for, [], []⟩
def dd_part_lot : He.DefD := ⟨("part_lot", none), "part_lot", "part_lot", defArgs st_part_lot, defBody st_part_lot, defScope st_part_lot, [], []⟩
def dd_mix_for : He.DefD := ⟨("mix_for", none), "mix_for", "mix_for", defArgs st_mix_for, defBody st_mix_for, defScope st_mix_for, [], []⟩
def dd_is_mix_for : He.DefD := ⟨("is_mix_for", none), "is_mix_for", "is_mix_for", defArgs st_is_mix_for, defBody st_is_mix_for, defScope st_is_mix_for, [], []⟩
def dd_turned : He.DefD := ⟨("turned", none), "turned", "turned", defArgs st_turned, defBody st_turned, defScope st_turned, [], []⟩
def dd_turned_plan : He.DefD := ⟨("turned_plan", none), "turned_plan", "turned_plan", defArgs st_turned_plan, defBody st_turned_plan, defScope st_turned_plan, [], []⟩
def dd_law_stream : He.DefD := ⟨("_law_stream", none), "_law_stream", "_law_stream", defArgs st_law_stream, defBody st_law_stream, defScope st_law_stream, [], []⟩
def dd_law_draw : He.DefD := ⟨("_law_draw", none), "_law_draw", "_law_draw", defArgs st_law_draw, defBody st_law_draw, defScope st_law_draw, [], []⟩
def dd_law_pick : He.DefD := ⟨("_law_pick", none), "_law_pick", "_law_pick", defArgs st_law_pick, defBody st_law_pick, defScope st_law_pick, [], []⟩
def dd_law_mixed : He.DefD := ⟨("_law_mixed", none), "_law_mixed", "_law_mixed", defArgs st_law_mixed, defBody st_law_mixed, defScope st_law_mixed, [], []⟩
def dd_law_same : He.DefD := ⟨("_law_same", none), "_law_same", "_law_same", defArgs st_law_same, defBody st_law_same, defScope st_law_same, [], []⟩
def dd_law_stepping : He.DefD := ⟨("_law_stepping", none), "_law_stepping", "_law_stepping", defArgs st_law_stepping, defBody st_law_stepping, defScope st_law_stepping, [], []⟩
def dd_law_house : He.DefD := ⟨("_law_house", none), "_law_house", "_law_house", defArgs st_law_house, defBody st_law_house, defScope st_law_house, [], []⟩
def dd_law_asked_a : He.DefD := ⟨("_law_asked_a", none), "_law_asked_a", "_law_asked_a", defArgs st_law_asked_a, defBody st_law_asked_a, defScope st_law_asked_a, [], []⟩
def dd_law_asked_b : He.DefD := ⟨("_law_asked_b", none), "_law_asked_b", "_law_asked_b", defArgs st_law_asked_b, defBody st_law_asked_b, defScope st_law_asked_b, [], []⟩
def dd_law_asked_c : He.DefD := ⟨("_law_asked_c", none), "_law_asked_c", "_law_asked_c", defArgs st_law_asked_c, defBody st_law_asked_c, defScope st_law_asked_c, [], []⟩
def dd_law_met : He.DefD := ⟨("_law_met", none), "_law_met", "_law_met", defArgs st_law_met, defBody st_law_met, defScope st_law_met, [], []⟩
def dd_law : He.DefD := ⟨("law", none), "law", "law", defArgs st_law, defBody st_law, defScope st_law, [], []⟩
def fnL : List He.DefD := [dd_BadHouse_init, dd_BadPlan_init, dd_check_house, dd_most_by, dd_checked_both, dd_most, dd_most_plan, dd_levels, dd_steady, dd_lot_bell, dd_is_moments, dd_worth, dd_moments_by, dd_moments_for, dd_plan_fault, dd_is_plan, dd_check_plan, dd_brings, dd_bell_of, dd_on_roads, dd_asked, dd_lacking, dd_lot_for, dd_is_lot_for, dd_is_plan_for, dd_check_both, dd_plan_by_order, dd_corner, dd_corners, dd_order_of, dd_check_sorts, dd_first_unlike, dd_parting, dd_least_bell, dd_never, dd_rising, dd_bell_with, dd_dearest_order, dd_dearest, dd_checked_kept, dd_further, dd_tight_by, dd_tight, dd_bound, dd_times, dd_whole_times, dd_parted, dd_row_for, dd_is_row_for, dd_plan_for, dd_Desk_init, dd_Desk_plan, dd_part_for, dd_part_lot, dd_mix_for, dd_is_mix_for, dd_turned, dd_turned_plan, dd_law_stream, dd_law_draw, dd_law_pick, dd_law_mixed, dd_law_same, dd_law_stepping, dd_law_house, dd_law_asked_a, dd_law_asked_b, dd_law_asked_c, dd_law_met, dd_law]
def faL : List He.Fa := [.free "len", .free "isinstance", .free "int", .free "bool", .free "str", .free "list", .free "tuple", .free "dict", .free "range", .free "enumerate", .free "zip", .free "any", .free "all", .free "abs", .free "max", .free "min", .free "sum", .free "sorted", .free "repr", .cls "House", .glo "BadHouse", .noat "BadHouse" "thing", .glo "_law_met", .glo "_law_draw", .glo "House", .meth "BadHouse" "__init__", .glo "_law_mixed", .glo "_law_pick", .glo "_law_stepping", .glo "check_house", .glo "checked_both", .glo "most_by", .glo "levels", .glo "moments_by", .glo "plan_fault", .glo "check_both", .glo "check_sorts", .glo "dearest_order", .glo "checked_kept", .glo "tight_by", .glo "times", .glo "is_plan", .noat "BadPlan" "plan", .meth "BadPlan" "__init__", .glo "BadPlan", .glo "check_plan", .glo "_law_same", .glo "asked", .glo "lacking", .glo "lot_for", .glo "is_lot_for", .glo "is_plan_for", .glo "plan_for", .glo "row_for", .glo "is_row_for", .glo "parted", .glo "most", .glo "most_plan", .glo "steady", .glo "lot_bell", .glo "is_moments", .glo "further", .glo "tight", .glo "bound", .glo "whole_times", .glo "part_for", .glo "part_lot", .glo "mix_for", .glo "is_mix_for", .glo "dearest", .glo "turned", .glo "turned_plan", .glo "first_unlike", .glo "parting", .glo "worth", .glo "moments_for", .glo "plan_by_order", .glo "corner", .glo "corners", .glo "order_of", .glo "brings", .glo "bell_of", .glo "on_roads", .glo "least_bell", .glo "never", .glo "rising", .glo "bell_with", .glo "_law_house", .glo "_law_asked_a", .glo "_law_asked_b", .glo "_law_asked_c", .mkr "Desk", .glo "Desk", .glo "_law_stream", .glo "law"]
def tfL : List He.Defn := [("_law_asked_a", none), ("_law_asked_b", none), ("_law_asked_c", none), ("law", none)]
def CTf (K : PySem.W.Frag) : TTs := [((He.cT K ("_law_asked_a", none)).2, ("_law_asked_a" : Str) ++ ".<locals>." ++ "<lambda>"), ((He.cT K ("_law_asked_b", none)).2, ("_law_asked_b" : Str) ++ ".<locals>." ++ "<lambda>"), ((He.cT K ("_law_asked_c", none)).2, ("_law_asked_c" : Str) ++ ".<locals>." ++ "<lambda>"), ((He.cT K ("law", none)).2, ("law" : Str) ++ ".<locals>." ++ "<lambda>")]
def exB (K : PySem.W.Frag) : Bool := ownB K (He.ga K "House") && (eqB K (He.ga K "House") && (xcB K (He.ga K "BadHouse") && (xcB K (He.ga K "BadPlan") && (apartB K (Xs (He.ga K)) && (decide ((Xs (He.ga K)).Nodup) && (decide (((CTf K).map (·.1)).Nodup)))))))
def loose1 : List Str := ["_wall", "is_integer", "is_number", "is_positive", "is_list", "are_numbers", "common", "lowest", "is_fraction", "BellError", "BadHouse", "BadPlaces", "BadRoads", "BadDoors", "BadTurn", "BadPlan", "BadLot", "BadBell", "BadAmount", "BadMoments", "BadOrder", "BadWishes", "BadParts", "Never", "BadDoor", "SameDoor", "NotKept", "BadNumbers", "BadPrices", "OtherDoors"]
def loose2 : List Str := ["Lacks", "is_place", "is_road", "at_once", "bad_road", "is_door", "bad_door", "House", "Draft", "check_house", "check_bell", "is_in", "is_number_of_door", "check_door", "is_lot", "checked_lot", "all_lots", "GREAT", "turned_arc", "Web", "nearest", "way_back", "nearest_way", "leaf_of", "house_web", "no_changes", "change_along", "steps_by", "plan_by", "plan_by_streams"]
def loose3 : List Str := ["lot_web", "pushed", "levels_by", "through_by", "most_by", "next_way", "repeated", "checked_both", "most", "most_plan", "levels", "steady", "bell_for", "lot_bell", "are_moments", "is_moments", "worth_by", "worth", "moments_by", "moments_for", "is_steps", "check_turn", "passed_by", "passed_in_all", "change", "added", "moved", "is_form", "first_early", "first_full"]
def loose4 : List Str := ["changes_of", "first_uneven", "faults_by", "plan_fault", "is_plan", "check_plan", "brings_by", "brings", "bell_by", "bell_of", "on_roads", "signed", "are_wishes", "checked_wishes", "asked_by", "asked", "lacking_by", "lacking", "least_of", "lot_by", "lot_for", "is_lot_for", "is_plan_for", "is_order", "check_both", "open_out", "shut_in", "by_order", "plan_by_order", "differences"]
def loose5 : List Str := ["corner_by", "corner", "all_corners", "corners", "order_of", "check_sorts", "first_bell", "first_by", "first_unlike", "parting", "least_by", "least_bell", "never_by", "never", "rising", "check_pair", "with_more", "bell_with", "checked_prices", "order_by", "dearest_order", "dearest", "checked_kept", "check_kept", "left_of", "further_by", "further", "tight_by", "tight", "bound"]
def loose6 : List Str := ["most_times", "times", "whole_times", "is_part", "bad_part", "draft_by", "parted_by", "parted", "Row", "row_by", "row_for", "together_by", "is_row_for", "plan_by_rows", "plan_for", "Desk", "checked_numbers", "table_by", "sum_of", "sums_by", "part_by", "part_for", "part_lot", "asked_of", "corner_along", "order_through", "room_beyond", "beyond", "mix_by", "mix_for"]
def loose7 : List Str := ["is_pair", "plus", "is_mix_for", "turned_by", "turned", "turned_steps", "turned_plan", "_law_stream", "_law_draw", "_law_pick", "_law_mixed", "_law_same", "_law_stepping", "_law_house", "_law_asked_a", "_law_asked_b", "_law_asked_c", "_law_met"]
def looseL : List Str := loose1 ++ loose2 ++ loose3 ++ loose4 ++ loose5 ++ loose6 ++ loose7
abbrev RR : PySem.W.OpenRow := PySem.W.OpenLaw.row PySem.Challenge.rw_lastbell_k03_houses_asked_for
def maskL : List Bool := [false, false, false, false, false, false, false, false, false, false, false, false, false, false, false, false, false, false, false, false, true, false, false, false, false, true, false, false, false, false, false, false, false, false, false, false, false, false, false, false, false, false, false, false, false, false, false, true, false, true, false, false, false, false, false, false, false, false, false, false, false, false, false, false, false, false, false, false, false, false, false, false, false, false, true, false, false, true, true, true, true, true, false, true, false, true, false, true, true, true, false, false, false, false, false, false, false, false, false, false, false, false, false, true, true, true, false, true, false, true, true, false, false, false, false, true, false, true, false, false, true, true, true, false, true, false, false, false, true, false, false, true, false, true, true, true, false, false, true, true, false, true, false, true, true, false, false, true, false, false, true, true, true, false, false, false, true, true, true, true, false, true, true, false, false, false, false, true, false, false, true, false, true, false, true, true, false, false, false, false, false, true, true, false, false, false, false, false, false, true, false, false, true, false, true, false, true, true, true, true, true, true, true, true, true, true, true, true, true]
def asL : (Addr → Option Obj) → List Addr := asZ maskL
abbrev hkL : PySem.W.Hook := hookZ asL faL fnL [] tfL exB
def obL (s : PySem.W.SharedT) : He.AlX := obsZ asL faL fnL [] tfL exB (HandSHeadRun.getT s)
theorem ob_eq (s : PySem.W.SharedT) : obL s = hkL.obs s.abs := obsZ_eq (HandSHeadRun.getT_eq s)
theorem fin1 (w : World) : HandSHeadRun.goF (HandSHeadRun.stepQ (HandSHeadRun.denQ HandSHeadRun.tabQ) PC w) 29 (some (.ref 6)) 50 (KC w osC) (PySem.W.restOf (LC.drop 221) envC codeC (ePos LC 221) [PySem.W.topFrame qC]) = some (KC w osC) := by kernel_rfl
theorem fin2 (w : World) : (openF (fun q => HandSHeadRun.stepQ (HandSHeadRun.denQ HandSHeadRun.tabQ) q w) HandSHeadRun.fenceQ 70000 PC).map (fun r => HandSHeadRun.looksF PC r.1.heap (KC w osC).abs) = some true := by kernel_rfl
open PySem.W PySem.Calls HandSHeadRun in
theorem fin3 (w : World) : seenQ (PySem.W.view RR.prog [0, 221]) looseL (importedModules PC.main.body) (fun s => xlAt (PySem.W.view RR.prog [0, 221]) [] s && recOk RR.toRowW.records s) (KC w osC).abs = openGood (PySem.W.view RR.prog [0, 221]) looseL := by kernel_rfl
theorem fin4 (w : World) : obL (KC w osC) = hkL.val w := by kernel_rfl
open PySem.W PySem.Calls HandSHeadRun in
theorem leftC : LeftO RR.prog (PySem.W.view RR.prog [0, 221]) looseL (fun s => xlAt (PySem.W.view RR.prog [0, 221]) [] s && recOk RR.toRowW.records s) hkL.obs hkL.val 70000 true :=
  left_cut (m0 := 29) (ann := (some (.ref 6))) (n1 := 12) (n2 := 50) (n3 := 60000) (n4 := 50) (S := SC) (K := KC) (OS := osC) (rest := LC.drop 221) preC chainC (fun w => fin_of (fin1 w) (fin2 w) (fin3 w) ((ob_eq (KC w osC)).symm.trans (fin4 w))) (by decide +kernel)
theorem facts {P : Program} {w : World} {K : PySem.W.Frag} {h hh : Heap} {mg : Str → Option Value} {f : Addr} (X : K.In h) (G : h.Ns mainGlobals mg) (hfa : mg ("law" : Str) = some (.ref f)) (c : He.SaysX faL fnL [] tfL exB w hh K) :
    ∃ fd : FuncData, (∀ (s : Shared) (v : Value), BindsTo s fd ⟨[v], []⟩ [("_law_script", v)]) ∧ ∀ base : Heap, K.In base → base.Ns mainGlobals mg → (∀ p ∈ tfL.map (He.cT K), LamX.TabB base mg p.1 p.2) → FnOk P w K mg base (L2.CX P w) 11 f fd ["_law_script"] (spLaw (CTf K) K) := by
  obtain ⟨fd_law, E_law⟩ := c.t.d.def_ 69 (d := dd_law) rfl
  have e := hfa.symm.trans (He.glo_ok X G (c.t.d.fact 94 (f := .glo "law") rfl))
  cases e
  have F_law : L2.Fun K "law" "law" st_law (He.fAd K dd_law.at_) fd_law := fun_of E_law
  have bb := FunD.bindsA (ps := ["_law_script"]) E_law fun _ _ _ _ _ _ us hl => match us, hl with | [_], _ => rfl
  refine ⟨fd_law, fun s v => bb s [v] rfl, fun base _ _ hTB => ?_⟩
  have hB : Bs mg := bs_of fun x hx => by
    simp only [bsL, List.mem_cons, List.not_mem_nil, or_false] at hx
    rcases hx with rfl | rfl | rfl | rfl | rfl | rfl | rfl | rfl | rfl | rfl | rfl | rfl | rfl | rfl | rfl | rfl | rfl | rfl | rfl
    · exact He.free_ok X G (c.t.d.fact 0 (f := .free "len") rfl)
    · exact He.free_ok X G (c.t.d.fact 1 (f := .free "isinstance") rfl)
    · exact He.free_ok X G (c.t.d.fact 2 (f := .free "int") rfl)
    · exact He.free_ok X G (c.t.d.fact 3 (f := .free "bool") rfl)
    · exact He.free_ok X G (c.t.d.fact 4 (f := .free "str") rfl)
    · exact He.free_ok X G (c.t.d.fact 5 (f := .free "list") rfl)
    · exact He.free_ok X G (c.t.d.fact 6 (f := .free "tuple") rfl)
    · exact He.free_ok X G (c.t.d.fact 7 (f := .free "dict") rfl)
    · exact He.free_ok X G (c.t.d.fact 8 (f := .free "range") rfl)
    · exact He.free_ok X G (c.t.d.fact 9 (f := .free "enumerate") rfl)
    · exact He.free_ok X G (c.t.d.fact 10 (f := .free "zip") rfl)
    · exact He.free_ok X G (c.t.d.fact 11 (f := .free "any") rfl)
    · exact He.free_ok X G (c.t.d.fact 12 (f := .free "all") rfl)
    · exact He.free_ok X G (c.t.d.fact 13 (f := .free "abs") rfl)
    · exact He.free_ok X G (c.t.d.fact 14 (f := .free "max") rfl)
    · exact He.free_ok X G (c.t.d.fact 15 (f := .free "min") rfl)
    · exact He.free_ok X G (c.t.d.fact 16 (f := .free "sum") rfl)
    · exact He.free_ok X G (c.t.d.fact 17 (f := .free "sorted") rfl)
    · exact He.free_ok X G (c.t.d.fact 18 (f := .free "repr") rfl)
  have hOK1 : ∀ C ∈ Cs (He.ga K), OwnC K C := fun C hC => by
    simp only [Cs, mem_CF, List.mem_cons, List.not_mem_nil, or_false] at hC
    rcases hC with rfl
    · exact ownB_ok (He.cls_ok (c.t.d.fact 19 (f := .cls "House") rfl)) (He.ba c.more).1
  have hOK : OwnOk K (Cs (He.ga K)) := ⟨hOK1, fun a ha => by simp [Cs] at ha, fun h => absurd rfl h⟩
  obtain ⟨fd_BadHouse_init, E_BadHouse_init⟩ := c.t.d.def_ 0 (d := dd_BadHouse_init) rfl
  have F_BadHouse_init : L2.Fun K "__init__" "BadHouse.__init__" st_BadHouse_init (He.fAd K dd_BadHouse_init.at_) fd_BadHouse_init := fun_of E_BadHouse_init
  have ok_BadHouse_init_ := ok_BadHouse_init (P := P) (w := w) (K := K) (mg := mg) (base := base) F_BadHouse_init
  obtain ⟨fd_BadPlan_init, E_BadPlan_init⟩ := c.t.d.def_ 1 (d := dd_BadPlan_init) rfl
  have F_BadPlan_init : L2.Fun K "__init__" "BadPlan.__init__" st_BadPlan_init (He.fAd K dd_BadPlan_init.at_) fd_BadPlan_init := fun_of E_BadPlan_init
  have ok_BadPlan_init_ := ok_BadPlan_init (P := P) (w := w) (K := K) (mg := mg) (base := base) F_BadPlan_init
  obtain ⟨fd_most_by, E_most_by⟩ := c.t.d.def_ 3 (d := dd_most_by) rfl
  have F_most_by : L2.Fun K "most_by" "most_by" st_most_by (He.fAd K dd_most_by.at_) fd_most_by := fun_of E_most_by
  have ok_most_by_ := ok_most_by (CT := (CTf K)) (P := P) (w := w) (A := He.ga K) (K := K) (mg := mg) (base := base)  F_most_by
  obtain ⟨fd_moments_by, E_moments_by⟩ := c.t.d.def_ 12 (d := dd_moments_by) rfl
  have F_moments_by : L2.Fun K "moments_by" "moments_by" st_moments_by (He.fAd K dd_moments_by.at_) fd_moments_by := fun_of E_moments_by
  have ok_moments_by_ := ok_moments_by (CT := (CTf K)) (P := P) (w := w) (A := He.ga K) (K := K) (mg := mg) (base := base)  F_moments_by
  obtain ⟨fd_tight_by, E_tight_by⟩ := c.t.d.def_ 41 (d := dd_tight_by) rfl
  have F_tight_by : L2.Fun K "tight_by" "tight_by" st_tight_by (He.fAd K dd_tight_by.at_) fd_tight_by := fun_of E_tight_by
  have ok_tight_by_ := ok_tight_by (CT := (CTf K)) (P := P) (w := w) (A := He.ga K) (K := K) (mg := mg) (base := base)  F_tight_by
  obtain ⟨fd_Desk_plan, E_Desk_plan⟩ := c.t.d.def_ 51 (d := dd_Desk_plan) rfl
  have F_Desk_plan : L2.Fun K "plan" "Desk.plan" st_Desk_plan (He.fAd K dd_Desk_plan.at_) fd_Desk_plan := fun_of E_Desk_plan
  obtain ⟨fd_law_stream, E_law_stream⟩ := c.t.d.def_ 58 (d := dd_law_stream) rfl
  have F_law_stream : L2.Fun K "_law_stream" "_law_stream" st_law_stream (He.fAd K dd_law_stream.at_) fd_law_stream := fun_of E_law_stream
  have ok_law_stream_ := ok_law_stream (CT := (CTf K)) (P := P) (w := w) (K := K) (mg := mg) (base := base) hB F_law_stream
  obtain ⟨fd_law_draw, E_law_draw⟩ := c.t.d.def_ 59 (d := dd_law_draw) rfl
  have F_law_draw : L2.Fun K "_law_draw" "_law_draw" st_law_draw (He.fAd K dd_law_draw.at_) fd_law_draw := fun_of E_law_draw
  have ok_law_draw_ := ok_law_draw (CT := (CTf K)) (P := P) (w := w) (A := He.ga K) (K := K) (mg := mg) (base := base) hB F_law_draw
  obtain ⟨fd_law_met, E_law_met⟩ := c.t.d.def_ 68 (d := dd_law_met) rfl
  have F_law_met : L2.Fun K "_law_met" "_law_met" st_law_met (He.fAd K dd_law_met.at_) fd_law_met := fun_of E_law_met
  have tr_law_met_ := tr_law_met (P := P) (w := w) (A := He.ga K) (K := K) (mg := mg) (base := base) (He.glo_ok X G (c.t.d.fact 20 (f := .glo "BadHouse") rfl)) (xcB_ok (He.ba (He.ba (He.ba c.more).2).2).1).x (He.noat_ok (c.t.d.fact 21 (f := .noat "BadHouse" "thing") rfl)) F_law_met (He.glo_ok X G (c.t.d.fact 22 (f := .glo "_law_met") rfl))
  obtain ⟨fd_law_pick, E_law_pick⟩ := c.t.d.def_ 60 (d := dd_law_pick) rfl
  have F_law_pick : L2.Fun K "_law_pick" "_law_pick" st_law_pick (He.fAd K dd_law_pick.at_) fd_law_pick := fun_of E_law_pick
  have ok_law_pick_ := ok_law_pick (CT := (CTf K)) (P := P) (w := w) (A := He.ga K) (K := K) (mg := mg) (base := base) hB (FnG.mk' F_law_draw ok_law_draw_ (He.glo_ok X G (c.t.d.fact 23 (f := .glo "_law_draw") rfl)) (fun _ _ _ _ _ _ us hl => match us, hl with | [_, _], _ => rfl)) F_law_pick
  obtain ⟨fd_law_mixed, E_law_mixed⟩ := c.t.d.def_ 61 (d := dd_law_mixed) rfl
  have F_law_mixed : L2.Fun K "_law_mixed" "_law_mixed" st_law_mixed (He.fAd K dd_law_mixed.at_) fd_law_mixed := fun_of E_law_mixed
  have ok_law_mixed_ := ok_law_mixed (CT := (CTf K)) (P := P) (w := w) (A := He.ga K) (K := K) (mg := mg) (base := base) hB (FnG.mk' F_law_draw ok_law_draw_ (He.glo_ok X G (c.t.d.fact 23 (f := .glo "_law_draw") rfl)) (fun _ _ _ _ _ _ us hl => match us, hl with | [_, _], _ => rfl)) F_law_mixed
  have ok_law_mixedM_ := ok_law_mixedM (CT := (CTf K)) (P := P) (w := w) (A := He.ga K) (K := K) (mg := mg) (base := base) hB (FnG.mk' F_law_draw ok_law_draw_ (He.glo_ok X G (c.t.d.fact 23 (f := .glo "_law_draw") rfl)) (fun _ _ _ _ _ _ us hl => match us, hl with | [_, _], _ => rfl)) F_law_mixed
  obtain ⟨fd_law_stepping, E_law_stepping⟩ := c.t.d.def_ 63 (d := dd_law_stepping) rfl
  have F_law_stepping : L2.Fun K "_law_stepping" "_law_stepping" st_law_stepping (He.fAd K dd_law_stepping.at_) fd_law_stepping := fun_of E_law_stepping
  have ok_law_stepping_ := ok_law_stepping (CT := (CTf K)) (P := P) (w := w) (A := He.ga K) (K := K) (mg := mg) (base := base) (FnG.mk' F_law_draw ok_law_draw_ (He.glo_ok X G (c.t.d.fact 23 (f := .glo "_law_draw") rfl)) (fun _ _ _ _ _ _ us hl => match us, hl with | [_, _], _ => rfl)) F_law_stepping
  obtain ⟨fd_check_house, E_check_house⟩ := c.t.d.def_ 2 (d := dd_check_house) rfl
  have F_check_house : L2.Fun K "check_house" "check_house" st_check_house (He.fAd K dd_check_house.at_) fd_check_house := fun_of E_check_house
  have ok_check_house_ := ok_check_house (CT := (CTf K)) (P := P) (w := w) (A := He.ga K) (K := K) (mg := mg) (base := base) (He.glo_ok X G (c.t.d.fact 24 (f := .glo "House") rfl)) hB hOK (Xc1.mk ⟨_, _, _, _, ok_BadHouse_init_, F_BadHouse_init.binds (fun _ _ _ _ _ _ us hl => match us, hl with | [_, _], _ => rfl), (He.meth_ok (c.t.d.fact 25 (f := .meth "BadHouse" "__init__") rfl)).at_, beq_iff_eq.mp (He.meth_ok (c.t.d.fact 25 (f := .meth "BadHouse" "__init__") rfl)).fn⟩ (xcB_ok (He.ba (He.ba (He.ba c.more).2).2).1) (He.noat_ok (c.t.d.fact 21 (f := .noat "BadHouse" "thing") rfl)) (He.glo_ok X G (c.t.d.fact 20 (f := .glo "BadHouse") rfl))) F_check_house
  obtain ⟨fd_law_house, E_law_house⟩ := c.t.d.def_ 64 (d := dd_law_house) rfl
  have F_law_house : L2.Fun K "_law_house" "_law_house" st_law_house (He.fAd K dd_law_house.at_) fd_law_house := fun_of E_law_house
  have ok_law_house_ := ok_law_house (CT := (CTf K)) (P := P) (w := w) (A := He.ga K) (K := K) (mg := mg) (base := base) (FnG.mk' F_law_draw ok_law_draw_ (He.glo_ok X G (c.t.d.fact 23 (f := .glo "_law_draw") rfl)) (fun _ _ _ _ _ _ us hl => match us, hl with | [_, _], _ => rfl)) hB (FnG.mk' F_law_mixed ok_law_mixed_ (He.glo_ok X G (c.t.d.fact 26 (f := .glo "_law_mixed") rfl)) (fun _ _ _ _ _ _ us hl => match us, hl with | [_, _], _ => rfl)) (FnG.mk' F_law_pick ok_law_pick_ (He.glo_ok X G (c.t.d.fact 27 (f := .glo "_law_pick") rfl)) (fun _ _ _ _ _ _ us hl => match us, hl with | [_, _], _ => rfl)) (FnG.mk' F_law_stepping ok_law_stepping_ (He.glo_ok X G (c.t.d.fact 28 (f := .glo "_law_stepping") rfl)) (fun _ _ _ _ _ _ us hl => match us, hl with | [_, _, _, _, _], _ => rfl)) (FnG.mk' F_law_mixed ok_law_mixedM_ (He.glo_ok X G (c.t.d.fact 26 (f := .glo "_law_mixed") rfl)) (fun _ _ _ _ _ _ us hl => match us, hl with | [_, _], _ => rfl)) F_law_house
  obtain ⟨fd_checked_both, E_checked_both⟩ := c.t.d.def_ 4 (d := dd_checked_both) rfl
  have F_checked_both : L2.Fun K "checked_both" "checked_both" st_checked_both (He.fAd K dd_checked_both.at_) fd_checked_both := fun_of E_checked_both
  have ok_checked_both_ := ok_checked_both (CT := (CTf K)) (P := P) (w := w) (A := He.ga K) (K := K) (mg := mg) (base := base) (FnG.mk' F_check_house ok_check_house_ (He.glo_ok X G (c.t.d.fact 29 (f := .glo "check_house") rfl)) (fun _ _ _ _ _ _ us hl => match us, hl with | [_], _ => rfl)) F_checked_both
  obtain ⟨fd_levels, E_levels⟩ := c.t.d.def_ 7 (d := dd_levels) rfl
  have F_levels : L2.Fun K "levels" "levels" st_levels (He.fAd K dd_levels.at_) fd_levels := fun_of E_levels
  have ok_levels_ := ok_levels (CT := (CTf K)) (P := P) (w := w) (A := He.ga K) (K := K) (mg := mg) (base := base) (FnG.mk' F_check_house ok_check_house_ (He.glo_ok X G (c.t.d.fact 29 (f := .glo "check_house") rfl)) (fun _ _ _ _ _ _ us hl => match us, hl with | [_], _ => rfl)) F_levels
  obtain ⟨fd_lot_bell, E_lot_bell⟩ := c.t.d.def_ 9 (d := dd_lot_bell) rfl
  have F_lot_bell : L2.Fun K "lot_bell" "lot_bell" st_lot_bell (He.fAd K dd_lot_bell.at_) fd_lot_bell := fun_of E_lot_bell
  have ok_lot_bell_ := ok_lot_bell (CT := (CTf K)) (P := P) (w := w) (A := He.ga K) (K := K) (mg := mg) (base := base) (FnG.mk' F_check_house ok_check_house_ (He.glo_ok X G (c.t.d.fact 29 (f := .glo "check_house") rfl)) (fun _ _ _ _ _ _ us hl => match us, hl with | [_], _ => rfl)) F_lot_bell
  obtain ⟨fd_worth, E_worth⟩ := c.t.d.def_ 11 (d := dd_worth) rfl
  have F_worth : L2.Fun K "worth" "worth" st_worth (He.fAd K dd_worth.at_) fd_worth := fun_of E_worth
  have ok_worth_ := ok_worth (CT := (CTf K)) (P := P) (w := w) (A := He.ga K) (K := K) (mg := mg) (base := base) (FnG.mk' F_check_house ok_check_house_ (He.glo_ok X G (c.t.d.fact 29 (f := .glo "check_house") rfl)) (fun _ _ _ _ _ _ us hl => match us, hl with | [_], _ => rfl)) F_worth
  obtain ⟨fd_plan_fault, E_plan_fault⟩ := c.t.d.def_ 14 (d := dd_plan_fault) rfl
  have F_plan_fault : L2.Fun K "plan_fault" "plan_fault" st_plan_fault (He.fAd K dd_plan_fault.at_) fd_plan_fault := fun_of E_plan_fault
  have ok_plan_fault_ := ok_plan_fault (CT := (CTf K)) (P := P) (w := w) (A := He.ga K) (K := K) (mg := mg) (base := base) (FnG.mk' F_check_house ok_check_house_ (He.glo_ok X G (c.t.d.fact 29 (f := .glo "check_house") rfl)) (fun _ _ _ _ _ _ us hl => match us, hl with | [_], _ => rfl)) F_plan_fault
  obtain ⟨fd_asked, E_asked⟩ := c.t.d.def_ 20 (d := dd_asked) rfl
  have F_asked : L2.Fun K "asked" "asked" st_asked (He.fAd K dd_asked.at_) fd_asked := fun_of E_asked
  have ok_asked_ := ok_asked (CT := (CTf K)) (P := P) (w := w) (A := He.ga K) (K := K) (mg := mg) (base := base) (FnG.mk' F_check_house ok_check_house_ (He.glo_ok X G (c.t.d.fact 29 (f := .glo "check_house") rfl)) (fun _ _ _ _ _ _ us hl => match us, hl with | [_], _ => rfl)) F_asked
  obtain ⟨fd_lacking, E_lacking⟩ := c.t.d.def_ 21 (d := dd_lacking) rfl
  have F_lacking : L2.Fun K "lacking" "lacking" st_lacking (He.fAd K dd_lacking.at_) fd_lacking := fun_of E_lacking
  have ok_lacking_ := ok_lacking (CT := (CTf K)) (P := P) (w := w) (A := He.ga K) (K := K) (mg := mg) (base := base) (FnG.mk' F_check_house ok_check_house_ (He.glo_ok X G (c.t.d.fact 29 (f := .glo "check_house") rfl)) (fun _ _ _ _ _ _ us hl => match us, hl with | [_], _ => rfl)) F_lacking
  obtain ⟨fd_lot_for, E_lot_for⟩ := c.t.d.def_ 22 (d := dd_lot_for) rfl
  have F_lot_for : L2.Fun K "lot_for" "lot_for" st_lot_for (He.fAd K dd_lot_for.at_) fd_lot_for := fun_of E_lot_for
  have ok_lot_for_ := ok_lot_for (CT := (CTf K)) (P := P) (w := w) (A := He.ga K) (K := K) (mg := mg) (base := base) (FnG.mk' F_check_house ok_check_house_ (He.glo_ok X G (c.t.d.fact 29 (f := .glo "check_house") rfl)) (fun _ _ _ _ _ _ us hl => match us, hl with | [_], _ => rfl)) F_lot_for
  obtain ⟨fd_is_lot_for, E_is_lot_for⟩ := c.t.d.def_ 23 (d := dd_is_lot_for) rfl
  have F_is_lot_for : L2.Fun K "is_lot_for" "is_lot_for" st_is_lot_for (He.fAd K dd_is_lot_for.at_) fd_is_lot_for := fun_of E_is_lot_for
  have ok_is_lot_for_ := ok_is_lot_for (CT := (CTf K)) (P := P) (w := w) (A := He.ga K) (K := K) (mg := mg) (base := base) (FnG.mk' F_check_house ok_check_house_ (He.glo_ok X G (c.t.d.fact 29 (f := .glo "check_house") rfl)) (fun _ _ _ _ _ _ us hl => match us, hl with | [_], _ => rfl)) F_is_lot_for
  obtain ⟨fd_is_plan_for, E_is_plan_for⟩ := c.t.d.def_ 24 (d := dd_is_plan_for) rfl
  have F_is_plan_for : L2.Fun K "is_plan_for" "is_plan_for" st_is_plan_for (He.fAd K dd_is_plan_for.at_) fd_is_plan_for := fun_of E_is_plan_for
  have ok_is_plan_for_ := ok_is_plan_for (CT := (CTf K)) (P := P) (w := w) (A := He.ga K) (K := K) (mg := mg) (base := base) (FnG.mk' F_check_house ok_check_house_ (He.glo_ok X G (c.t.d.fact 29 (f := .glo "check_house") rfl)) (fun _ _ _ _ _ _ us hl => match us, hl with | [_], _ => rfl)) F_is_plan_for
  obtain ⟨fd_check_both, E_check_both⟩ := c.t.d.def_ 25 (d := dd_check_both) rfl
  have F_check_both : L2.Fun K "check_both" "check_both" st_check_both (He.fAd K dd_check_both.at_) fd_check_both := fun_of E_check_both
  have ok_check_both_ := ok_check_both (CT := (CTf K)) (P := P) (w := w) (A := He.ga K) (K := K) (mg := mg) (base := base) (FnG.mk' F_check_house ok_check_house_ (He.glo_ok X G (c.t.d.fact 29 (f := .glo "check_house") rfl)) (fun _ _ _ _ _ _ us hl => match us, hl with | [_], _ => rfl)) F_check_both
  obtain ⟨fd_corners, E_corners⟩ := c.t.d.def_ 28 (d := dd_corners) rfl
  have F_corners : L2.Fun K "corners" "corners" st_corners (He.fAd K dd_corners.at_) fd_corners := fun_of E_corners
  have ok_corners_ := ok_corners (CT := (CTf K)) (P := P) (w := w) (A := He.ga K) (K := K) (mg := mg) (base := base) (FnG.mk' F_check_house ok_check_house_ (He.glo_ok X G (c.t.d.fact 29 (f := .glo "check_house") rfl)) (fun _ _ _ _ _ _ us hl => match us, hl with | [_], _ => rfl)) F_corners
  obtain ⟨fd_order_of, E_order_of⟩ := c.t.d.def_ 29 (d := dd_order_of) rfl
  have F_order_of : L2.Fun K "order_of" "order_of" st_order_of (He.fAd K dd_order_of.at_) fd_order_of := fun_of E_order_of
  have ok_order_of_ := ok_order_of (CT := (CTf K)) (P := P) (w := w) (A := He.ga K) (K := K) (mg := mg) (base := base) (FnG.mk' F_check_house ok_check_house_ (He.glo_ok X G (c.t.d.fact 29 (f := .glo "check_house") rfl)) (fun _ _ _ _ _ _ us hl => match us, hl with | [_], _ => rfl)) F_order_of
  obtain ⟨fd_check_sorts, E_check_sorts⟩ := c.t.d.def_ 30 (d := dd_check_sorts) rfl
  have F_check_sorts : L2.Fun K "check_sorts" "check_sorts" st_check_sorts (He.fAd K dd_check_sorts.at_) fd_check_sorts := fun_of E_check_sorts
  have ok_check_sorts_ := ok_check_sorts (CT := (CTf K)) (P := P) (w := w) (A := He.ga K) (K := K) (mg := mg) (base := base) (FnG.mk' F_check_house ok_check_house_ (He.glo_ok X G (c.t.d.fact 29 (f := .glo "check_house") rfl)) (fun _ _ _ _ _ _ us hl => match us, hl with | [_], _ => rfl)) F_check_sorts
  obtain ⟨fd_least_bell, E_least_bell⟩ := c.t.d.def_ 33 (d := dd_least_bell) rfl
  have F_least_bell : L2.Fun K "least_bell" "least_bell" st_least_bell (He.fAd K dd_least_bell.at_) fd_least_bell := fun_of E_least_bell
  have ok_least_bell_ := ok_least_bell (CT := (CTf K)) (P := P) (w := w) (A := He.ga K) (K := K) (mg := mg) (base := base) (FnG.mk' F_check_house ok_check_house_ (He.glo_ok X G (c.t.d.fact 29 (f := .glo "check_house") rfl)) (fun _ _ _ _ _ _ us hl => match us, hl with | [_], _ => rfl)) F_least_bell
  obtain ⟨fd_never, E_never⟩ := c.t.d.def_ 34 (d := dd_never) rfl
  have F_never : L2.Fun K "never" "never" st_never (He.fAd K dd_never.at_) fd_never := fun_of E_never
  have ok_never_ := ok_never (CT := (CTf K)) (P := P) (w := w) (A := He.ga K) (K := K) (mg := mg) (base := base) (FnG.mk' F_check_house ok_check_house_ (He.glo_ok X G (c.t.d.fact 29 (f := .glo "check_house") rfl)) (fun _ _ _ _ _ _ us hl => match us, hl with | [_], _ => rfl)) F_never
  obtain ⟨fd_rising, E_rising⟩ := c.t.d.def_ 35 (d := dd_rising) rfl
  have F_rising : L2.Fun K "rising" "rising" st_rising (He.fAd K dd_rising.at_) fd_rising := fun_of E_rising
  have ok_rising_ := ok_rising (CT := (CTf K)) (P := P) (w := w) (A := He.ga K) (K := K) (mg := mg) (base := base) (FnG.mk' F_check_house ok_check_house_ (He.glo_ok X G (c.t.d.fact 29 (f := .glo "check_house") rfl)) (fun _ _ _ _ _ _ us hl => match us, hl with | [_], _ => rfl)) F_rising
  obtain ⟨fd_bell_with, E_bell_with⟩ := c.t.d.def_ 36 (d := dd_bell_with) rfl
  have F_bell_with : L2.Fun K "bell_with" "bell_with" st_bell_with (He.fAd K dd_bell_with.at_) fd_bell_with := fun_of E_bell_with
  have ok_bell_with_ := ok_bell_with (CT := (CTf K)) (P := P) (w := w) (A := He.ga K) (K := K) (mg := mg) (base := base) (FnG.mk' F_check_house ok_check_house_ (He.glo_ok X G (c.t.d.fact 29 (f := .glo "check_house") rfl)) (fun _ _ _ _ _ _ us hl => match us, hl with | [_], _ => rfl)) F_bell_with
  obtain ⟨fd_dearest_order, E_dearest_order⟩ := c.t.d.def_ 37 (d := dd_dearest_order) rfl
  have F_dearest_order : L2.Fun K "dearest_order" "dearest_order" st_dearest_order (He.fAd K dd_dearest_order.at_) fd_dearest_order := fun_of E_dearest_order
  have ok_dearest_order_ := ok_dearest_order (CT := (CTf K)) (P := P) (w := w) (A := He.ga K) (K := K) (mg := mg) (base := base) (FnG.mk' F_check_house ok_check_house_ (He.glo_ok X G (c.t.d.fact 29 (f := .glo "check_house") rfl)) (fun _ _ _ _ _ _ us hl => match us, hl with | [_], _ => rfl)) F_dearest_order
  obtain ⟨fd_checked_kept, E_checked_kept⟩ := c.t.d.def_ 39 (d := dd_checked_kept) rfl
  have F_checked_kept : L2.Fun K "checked_kept" "checked_kept" st_checked_kept (He.fAd K dd_checked_kept.at_) fd_checked_kept := fun_of E_checked_kept
  have ok_checked_kept_ := ok_checked_kept (CT := (CTf K)) (P := P) (w := w) (A := He.ga K) (K := K) (mg := mg) (base := base) (FnG.mk' F_check_house ok_check_house_ (He.glo_ok X G (c.t.d.fact 29 (f := .glo "check_house") rfl)) (fun _ _ _ _ _ _ us hl => match us, hl with | [_], _ => rfl)) F_checked_kept
  obtain ⟨fd_further, E_further⟩ := c.t.d.def_ 40 (d := dd_further) rfl
  have F_further : L2.Fun K "further" "further" st_further (He.fAd K dd_further.at_) fd_further := fun_of E_further
  have ok_further_ := ok_further (CT := (CTf K)) (P := P) (w := w) (A := He.ga K) (K := K) (mg := mg) (base := base) (FnG.mk' F_check_house ok_check_house_ (He.glo_ok X G (c.t.d.fact 29 (f := .glo "check_house") rfl)) (fun _ _ _ _ _ _ us hl => match us, hl with | [_], _ => rfl)) F_further
  obtain ⟨fd_bound, E_bound⟩ := c.t.d.def_ 43 (d := dd_bound) rfl
  have F_bound : L2.Fun K "bound" "bound" st_bound (He.fAd K dd_bound.at_) fd_bound := fun_of E_bound
  have ok_bound_ := ok_bound (CT := (CTf K)) (P := P) (w := w) (A := He.ga K) (K := K) (mg := mg) (base := base) (FnG.mk' F_check_house ok_check_house_ (He.glo_ok X G (c.t.d.fact 29 (f := .glo "check_house") rfl)) (fun _ _ _ _ _ _ us hl => match us, hl with | [_], _ => rfl)) F_bound
  obtain ⟨fd_times, E_times⟩ := c.t.d.def_ 44 (d := dd_times) rfl
  have F_times : L2.Fun K "times" "times" st_times (He.fAd K dd_times.at_) fd_times := fun_of E_times
  have ok_times_ := ok_times (CT := (CTf K)) (P := P) (w := w) (A := He.ga K) (K := K) (mg := mg) (base := base) (FnG.mk' F_check_house ok_check_house_ (He.glo_ok X G (c.t.d.fact 29 (f := .glo "check_house") rfl)) (fun _ _ _ _ _ _ us hl => match us, hl with | [_], _ => rfl)) F_times
  obtain ⟨fd_parted, E_parted⟩ := c.t.d.def_ 46 (d := dd_parted) rfl
  have F_parted : L2.Fun K "parted" "parted" st_parted (He.fAd K dd_parted.at_) fd_parted := fun_of E_parted
  have ok_parted_ := ok_parted (CT := (CTf K)) (P := P) (w := w) (A := He.ga K) (K := K) (mg := mg) (base := base) (FnG.mk' F_check_house ok_check_house_ (He.glo_ok X G (c.t.d.fact 29 (f := .glo "check_house") rfl)) (fun _ _ _ _ _ _ us hl => match us, hl with | [_], _ => rfl)) F_parted
  obtain ⟨fd_row_for, E_row_for⟩ := c.t.d.def_ 47 (d := dd_row_for) rfl
  have F_row_for : L2.Fun K "row_for" "row_for" st_row_for (He.fAd K dd_row_for.at_) fd_row_for := fun_of E_row_for
  have ok_row_for_ := ok_row_for (CT := (CTf K)) (P := P) (w := w) (A := He.ga K) (K := K) (mg := mg) (base := base) (FnG.mk' F_check_house ok_check_house_ (He.glo_ok X G (c.t.d.fact 29 (f := .glo "check_house") rfl)) (fun _ _ _ _ _ _ us hl => match us, hl with | [_], _ => rfl)) F_row_for
  obtain ⟨fd_is_row_for, E_is_row_for⟩ := c.t.d.def_ 48 (d := dd_is_row_for) rfl
  have F_is_row_for : L2.Fun K "is_row_for" "is_row_for" st_is_row_for (He.fAd K dd_is_row_for.at_) fd_is_row_for := fun_of E_is_row_for
  have ok_is_row_for_ := ok_is_row_for (CT := (CTf K)) (P := P) (w := w) (A := He.ga K) (K := K) (mg := mg) (base := base) (FnG.mk' F_check_house ok_check_house_ (He.glo_ok X G (c.t.d.fact 29 (f := .glo "check_house") rfl)) (fun _ _ _ _ _ _ us hl => match us, hl with | [_], _ => rfl)) F_is_row_for
  obtain ⟨fd_plan_for, E_plan_for⟩ := c.t.d.def_ 49 (d := dd_plan_for) rfl
  have F_plan_for : L2.Fun K "plan_for" "plan_for" st_plan_for (He.fAd K dd_plan_for.at_) fd_plan_for := fun_of E_plan_for
  have ok_plan_for_ := ok_plan_for (CT := (CTf K)) (P := P) (w := w) (A := He.ga K) (K := K) (mg := mg) (base := base) (FnG.mk' F_check_house ok_check_house_ (He.glo_ok X G (c.t.d.fact 29 (f := .glo "check_house") rfl)) (fun _ _ _ _ _ _ us hl => match us, hl with | [_], _ => rfl)) F_plan_for
  obtain ⟨fd_Desk_init, E_Desk_init⟩ := c.t.d.def_ 50 (d := dd_Desk_init) rfl
  have F_Desk_init : L2.Fun K "__init__" "Desk.__init__" st_Desk_init (He.fAd K dd_Desk_init.at_) fd_Desk_init := fun_of E_Desk_init
  have ok_Desk_init_ := ok_Desk_init (CT := (CTf K)) (P := P) (w := w) (A := He.ga K) (K := K) (mg := mg) (base := base) (FnG.mk' F_check_house ok_check_house_ (He.glo_ok X G (c.t.d.fact 29 (f := .glo "check_house") rfl)) (fun _ _ _ _ _ _ us hl => match us, hl with | [_], _ => rfl)) F_Desk_init
  obtain ⟨fd_part_for, E_part_for⟩ := c.t.d.def_ 52 (d := dd_part_for) rfl
  have F_part_for : L2.Fun K "part_for" "part_for" st_part_for (He.fAd K dd_part_for.at_) fd_part_for := fun_of E_part_for
  have ok_part_for_ := ok_part_for (CT := (CTf K)) (P := P) (w := w) (A := He.ga K) (K := K) (mg := mg) (base := base) (FnG.mk' F_check_house ok_check_house_ (He.glo_ok X G (c.t.d.fact 29 (f := .glo "check_house") rfl)) (fun _ _ _ _ _ _ us hl => match us, hl with | [_], _ => rfl)) F_part_for
  obtain ⟨fd_part_lot, E_part_lot⟩ := c.t.d.def_ 53 (d := dd_part_lot) rfl
  have F_part_lot : L2.Fun K "part_lot" "part_lot" st_part_lot (He.fAd K dd_part_lot.at_) fd_part_lot := fun_of E_part_lot
  have ok_part_lot_ := ok_part_lot (CT := (CTf K)) (P := P) (w := w) (A := He.ga K) (K := K) (mg := mg) (base := base) (FnG.mk' F_check_house ok_check_house_ (He.glo_ok X G (c.t.d.fact 29 (f := .glo "check_house") rfl)) (fun _ _ _ _ _ _ us hl => match us, hl with | [_], _ => rfl)) F_part_lot
  obtain ⟨fd_mix_for, E_mix_for⟩ := c.t.d.def_ 54 (d := dd_mix_for) rfl
  have F_mix_for : L2.Fun K "mix_for" "mix_for" st_mix_for (He.fAd K dd_mix_for.at_) fd_mix_for := fun_of E_mix_for
  have ok_mix_for_ := ok_mix_for (CT := (CTf K)) (P := P) (w := w) (A := He.ga K) (K := K) (mg := mg) (base := base) (FnG.mk' F_check_house ok_check_house_ (He.glo_ok X G (c.t.d.fact 29 (f := .glo "check_house") rfl)) (fun _ _ _ _ _ _ us hl => match us, hl with | [_], _ => rfl)) F_mix_for
  obtain ⟨fd_is_mix_for, E_is_mix_for⟩ := c.t.d.def_ 55 (d := dd_is_mix_for) rfl
  have F_is_mix_for : L2.Fun K "is_mix_for" "is_mix_for" st_is_mix_for (He.fAd K dd_is_mix_for.at_) fd_is_mix_for := fun_of E_is_mix_for
  have ok_is_mix_for_ := ok_is_mix_for (CT := (CTf K)) (P := P) (w := w) (A := He.ga K) (K := K) (mg := mg) (base := base) (FnG.mk' F_check_house ok_check_house_ (He.glo_ok X G (c.t.d.fact 29 (f := .glo "check_house") rfl)) (fun _ _ _ _ _ _ us hl => match us, hl with | [_], _ => rfl)) F_is_mix_for
  obtain ⟨fd_turned, E_turned⟩ := c.t.d.def_ 56 (d := dd_turned) rfl
  have F_turned : L2.Fun K "turned" "turned" st_turned (He.fAd K dd_turned.at_) fd_turned := fun_of E_turned
  have ok_turned_ := ok_turned (CT := (CTf K)) (P := P) (w := w) (A := He.ga K) (K := K) (mg := mg) (base := base) (FnG.mk' F_check_house ok_check_house_ (He.glo_ok X G (c.t.d.fact 29 (f := .glo "check_house") rfl)) (fun _ _ _ _ _ _ us hl => match us, hl with | [_], _ => rfl)) F_turned
  obtain ⟨fd_turned_plan, E_turned_plan⟩ := c.t.d.def_ 57 (d := dd_turned_plan) rfl
  have F_turned_plan : L2.Fun K "turned_plan" "turned_plan" st_turned_plan (He.fAd K dd_turned_plan.at_) fd_turned_plan := fun_of E_turned_plan
  have ok_turned_plan_ := ok_turned_plan (CT := (CTf K)) (P := P) (w := w) (A := He.ga K) (K := K) (mg := mg) (base := base) (FnG.mk' F_check_house ok_check_house_ (He.glo_ok X G (c.t.d.fact 29 (f := .glo "check_house") rfl)) (fun _ _ _ _ _ _ us hl => match us, hl with | [_], _ => rfl)) F_turned_plan
  obtain ⟨fd_most, E_most⟩ := c.t.d.def_ 5 (d := dd_most) rfl
  have F_most : L2.Fun K "most" "most" st_most (He.fAd K dd_most.at_) fd_most := fun_of E_most
  have ok_most_ := ok_most (CT := (CTf K)) (P := P) (w := w) (A := He.ga K) (K := K) (mg := mg) (base := base) (FnG.mk' F_checked_both ok_checked_both_ (He.glo_ok X G (c.t.d.fact 30 (f := .glo "checked_both") rfl)) (fun _ _ _ _ _ _ us hl => match us, hl with | [_, _, _], _ => rfl)) (FnG.mk' F_most_by ok_most_by_ (He.glo_ok X G (c.t.d.fact 31 (f := .glo "most_by") rfl)) (fun _ _ _ _ _ _ us hl => match us, hl with | [_, _, _], _ => rfl)) F_most
  obtain ⟨fd_most_plan, E_most_plan⟩ := c.t.d.def_ 6 (d := dd_most_plan) rfl
  have F_most_plan : L2.Fun K "most_plan" "most_plan" st_most_plan (He.fAd K dd_most_plan.at_) fd_most_plan := fun_of E_most_plan
  have ok_most_plan_ := ok_most_plan (CT := (CTf K)) (P := P) (w := w) (A := He.ga K) (K := K) (mg := mg) (base := base) (FnG.mk' F_checked_both ok_checked_both_ (He.glo_ok X G (c.t.d.fact 30 (f := .glo "checked_both") rfl)) (fun _ _ _ _ _ _ us hl => match us, hl with | [_, _, _], _ => rfl)) F_most_plan
  obtain ⟨fd_steady, E_steady⟩ := c.t.d.def_ 8 (d := dd_steady) rfl
  have F_steady : L2.Fun K "steady" "steady" st_steady (He.fAd K dd_steady.at_) fd_steady := fun_of E_steady
  have ok_steady_ := ok_steady (CT := (CTf K)) (P := P) (w := w) (A := He.ga K) (K := K) (mg := mg) (base := base) (FnG.mk' F_levels ok_levels_ (He.glo_ok X G (c.t.d.fact 32 (f := .glo "levels") rfl)) (fun _ _ _ _ _ _ us hl => match us, hl with | [_, _], _ => rfl)) hB F_steady
  obtain ⟨fd_is_moments, E_is_moments⟩ := c.t.d.def_ 10 (d := dd_is_moments) rfl
  have F_is_moments : L2.Fun K "is_moments" "is_moments" st_is_moments (He.fAd K dd_is_moments.at_) fd_is_moments := fun_of E_is_moments
  have ok_is_moments_ := ok_is_moments (CT := (CTf K)) (P := P) (w := w) (A := He.ga K) (K := K) (mg := mg) (base := base) (FnG.mk' F_checked_both ok_checked_both_ (He.glo_ok X G (c.t.d.fact 30 (f := .glo "checked_both") rfl)) (fun _ _ _ _ _ _ us hl => match us, hl with | [_, _, _], _ => rfl)) F_is_moments
  obtain ⟨fd_moments_for, E_moments_for⟩ := c.t.d.def_ 13 (d := dd_moments_for) rfl
  have F_moments_for : L2.Fun K "moments_for" "moments_for" st_moments_for (He.fAd K dd_moments_for.at_) fd_moments_for := fun_of E_moments_for
  have ok_moments_for_ := ok_moments_for (CT := (CTf K)) (P := P) (w := w) (A := He.ga K) (K := K) (mg := mg) (base := base) (FnG.mk' F_checked_both ok_checked_both_ (He.glo_ok X G (c.t.d.fact 30 (f := .glo "checked_both") rfl)) (fun _ _ _ _ _ _ us hl => match us, hl with | [_, _, _], _ => rfl)) (FnG.mk' F_moments_by ok_moments_by_ (He.glo_ok X G (c.t.d.fact 33 (f := .glo "moments_by") rfl)) (fun _ _ _ _ _ _ us hl => match us, hl with | [_, _, _], _ => rfl)) F_moments_for
  obtain ⟨fd_is_plan, E_is_plan⟩ := c.t.d.def_ 15 (d := dd_is_plan) rfl
  have F_is_plan : L2.Fun K "is_plan" "is_plan" st_is_plan (He.fAd K dd_is_plan.at_) fd_is_plan := fun_of E_is_plan
  have ok_is_plan_ := ok_is_plan (CT := (CTf K)) (P := P) (w := w) (A := He.ga K) (K := K) (mg := mg) (base := base) (FnG.mk' F_plan_fault ok_plan_fault_ (He.glo_ok X G (c.t.d.fact 34 (f := .glo "plan_fault") rfl)) (fun _ _ _ _ _ _ us hl => match us, hl with | [_, _], _ => rfl)) F_is_plan
  obtain ⟨fd_plan_by_order, E_plan_by_order⟩ := c.t.d.def_ 26 (d := dd_plan_by_order) rfl
  have F_plan_by_order : L2.Fun K "plan_by_order" "plan_by_order" st_plan_by_order (He.fAd K dd_plan_by_order.at_) fd_plan_by_order := fun_of E_plan_by_order
  have ok_plan_by_order_ := ok_plan_by_order (CT := (CTf K)) (P := P) (w := w) (A := He.ga K) (K := K) (mg := mg) (base := base) (FnG.mk' F_check_both ok_check_both_ (He.glo_ok X G (c.t.d.fact 35 (f := .glo "check_both") rfl)) (fun _ _ _ _ _ _ us hl => match us, hl with | [_, _, _], _ => rfl)) F_plan_by_order
  obtain ⟨fd_corner, E_corner⟩ := c.t.d.def_ 27 (d := dd_corner) rfl
  have F_corner : L2.Fun K "corner" "corner" st_corner (He.fAd K dd_corner.at_) fd_corner := fun_of E_corner
  have ok_corner_ := ok_corner (CT := (CTf K)) (P := P) (w := w) (A := He.ga K) (K := K) (mg := mg) (base := base) (FnG.mk' F_check_both ok_check_both_ (He.glo_ok X G (c.t.d.fact 35 (f := .glo "check_both") rfl)) (fun _ _ _ _ _ _ us hl => match us, hl with | [_, _, _], _ => rfl)) F_corner
  obtain ⟨fd_first_unlike, E_first_unlike⟩ := c.t.d.def_ 31 (d := dd_first_unlike) rfl
  have F_first_unlike : L2.Fun K "first_unlike" "first_unlike" st_first_unlike (He.fAd K dd_first_unlike.at_) fd_first_unlike := fun_of E_first_unlike
  have ok_first_unlike_ := ok_first_unlike (CT := (CTf K)) (P := P) (w := w) (A := He.ga K) (K := K) (mg := mg) (base := base) (FnG.mk' F_check_sorts ok_check_sorts_ (He.glo_ok X G (c.t.d.fact 36 (f := .glo "check_sorts") rfl)) (fun _ _ _ _ _ _ us hl => match us, hl with | [_, _], _ => rfl)) F_first_unlike
  obtain ⟨fd_parting, E_parting⟩ := c.t.d.def_ 32 (d := dd_parting) rfl
  have F_parting : L2.Fun K "parting" "parting" st_parting (He.fAd K dd_parting.at_) fd_parting := fun_of E_parting
  have ok_parting_ := ok_parting (CT := (CTf K)) (P := P) (w := w) (A := He.ga K) (K := K) (mg := mg) (base := base) (FnG.mk' F_check_sorts ok_check_sorts_ (He.glo_ok X G (c.t.d.fact 36 (f := .glo "check_sorts") rfl)) (fun _ _ _ _ _ _ us hl => match us, hl with | [_, _], _ => rfl)) F_parting
  obtain ⟨fd_dearest, E_dearest⟩ := c.t.d.def_ 38 (d := dd_dearest) rfl
  have F_dearest : L2.Fun K "dearest" "dearest" st_dearest (He.fAd K dd_dearest.at_) fd_dearest := fun_of E_dearest
  have ok_dearest_ := ok_dearest (CT := (CTf K)) (P := P) (w := w) (A := He.ga K) (K := K) (mg := mg) (base := base) (FnG.mk' F_dearest_order ok_dearest_order_ (He.glo_ok X G (c.t.d.fact 37 (f := .glo "dearest_order") rfl)) (fun _ _ _ _ _ _ us hl => match us, hl with | [_, _, _], _ => rfl)) F_dearest
  obtain ⟨fd_tight, E_tight⟩ := c.t.d.def_ 42 (d := dd_tight) rfl
  have F_tight : L2.Fun K "tight" "tight" st_tight (He.fAd K dd_tight.at_) fd_tight := fun_of E_tight
  have ok_tight_ := ok_tight (CT := (CTf K)) (P := P) (w := w) (A := He.ga K) (K := K) (mg := mg) (base := base) (FnG.mk' F_checked_kept ok_checked_kept_ (He.glo_ok X G (c.t.d.fact 38 (f := .glo "checked_kept") rfl)) (fun _ _ _ _ _ _ us hl => match us, hl with | [_, _, _], _ => rfl)) (FnG.mk' F_tight_by ok_tight_by_ (He.glo_ok X G (c.t.d.fact 39 (f := .glo "tight_by") rfl)) (fun _ _ _ _ _ _ us hl => match us, hl with | [_, _, _], _ => rfl)) F_tight
  obtain ⟨fd_whole_times, E_whole_times⟩ := c.t.d.def_ 45 (d := dd_whole_times) rfl
  have F_whole_times : L2.Fun K "whole_times" "whole_times" st_whole_times (He.fAd K dd_whole_times.at_) fd_whole_times := fun_of E_whole_times
  have ok_whole_times_ := ok_whole_times (CT := (CTf K)) (P := P) (w := w) (A := He.ga K) (K := K) (mg := mg) (base := base) (FnG.mk' F_times ok_times_ (He.glo_ok X G (c.t.d.fact 40 (f := .glo "times") rfl)) (fun _ _ _ _ _ _ us hl => match us, hl with | [_, _, _], _ => rfl)) F_whole_times
  obtain ⟨fd_check_plan, E_check_plan⟩ := c.t.d.def_ 16 (d := dd_check_plan) rfl
  have F_check_plan : L2.Fun K "check_plan" "check_plan" st_check_plan (He.fAd K dd_check_plan.at_) fd_check_plan := fun_of E_check_plan
  have ok_check_plan_ := ok_check_plan (CT := (CTf K)) (P := P) (w := w) (A := He.ga K) (K := K) (mg := mg) (base := base) (FnG.mk' F_is_plan ok_is_plan_ (He.glo_ok X G (c.t.d.fact 41 (f := .glo "is_plan") rfl)) (fun _ _ _ _ _ _ us hl => match us, hl with | [_, _], _ => rfl)) (Xc1.mk ⟨_, _, _, _, ok_BadPlan_init_, F_BadPlan_init.binds (fun _ _ _ _ _ _ us hl => match us, hl with | [_, _], _ => rfl), (He.meth_ok (c.t.d.fact 43 (f := .meth "BadPlan" "__init__") rfl)).at_, beq_iff_eq.mp (He.meth_ok (c.t.d.fact 43 (f := .meth "BadPlan" "__init__") rfl)).fn⟩ (xcB_ok (He.ba (He.ba (He.ba (He.ba c.more).2).2).2).1) (He.noat_ok (c.t.d.fact 42 (f := .noat "BadPlan" "plan") rfl)) (He.glo_ok X G (c.t.d.fact 44 (f := .glo "BadPlan") rfl))) F_check_plan
  obtain ⟨fd_brings, E_brings⟩ := c.t.d.def_ 17 (d := dd_brings) rfl
  have F_brings : L2.Fun K "brings" "brings" st_brings (He.fAd K dd_brings.at_) fd_brings := fun_of E_brings
  have ok_brings_ := ok_brings (CT := (CTf K)) (P := P) (w := w) (A := He.ga K) (K := K) (mg := mg) (base := base) (FnG.mk' F_check_plan ok_check_plan_ (He.glo_ok X G (c.t.d.fact 45 (f := .glo "check_plan") rfl)) (fun _ _ _ _ _ _ us hl => match us, hl with | [_, _], _ => rfl)) F_brings
  obtain ⟨fd_bell_of, E_bell_of⟩ := c.t.d.def_ 18 (d := dd_bell_of) rfl
  have F_bell_of : L2.Fun K "bell_of" "bell_of" st_bell_of (He.fAd K dd_bell_of.at_) fd_bell_of := fun_of E_bell_of
  have ok_bell_of_ := ok_bell_of (CT := (CTf K)) (P := P) (w := w) (A := He.ga K) (K := K) (mg := mg) (base := base) (FnG.mk' F_check_plan ok_check_plan_ (He.glo_ok X G (c.t.d.fact 45 (f := .glo "check_plan") rfl)) (fun _ _ _ _ _ _ us hl => match us, hl with | [_, _], _ => rfl)) F_bell_of
  obtain ⟨fd_on_roads, E_on_roads⟩ := c.t.d.def_ 19 (d := dd_on_roads) rfl
  have F_on_roads : L2.Fun K "on_roads" "on_roads" st_on_roads (He.fAd K dd_on_roads.at_) fd_on_roads := fun_of E_on_roads
  have ok_on_roads_ := ok_on_roads (CT := (CTf K)) (P := P) (w := w) (A := He.ga K) (K := K) (mg := mg) (base := base) (FnG.mk' F_check_plan ok_check_plan_ (He.glo_ok X G (c.t.d.fact 45 (f := .glo "check_plan") rfl)) (fun _ _ _ _ _ _ us hl => match us, hl with | [_, _], _ => rfl)) F_on_roads
  obtain ⟨fd_law_same, E_law_same⟩ := c.t.d.def_ 62 (d := dd_law_same) rfl
  have F_law_same : L2.Fun K "_law_same" "_law_same" st_law_same (He.fAd K dd_law_same.at_) fd_law_same := fun_of E_law_same
  have ok_law_same_ := ok_law_same (CT := (CTf K)) (P := P) (w := w) (A := He.ga K) (K := K) (mg := mg) (base := base) hB hOK F_law_same (He.glo_ok X G (c.t.d.fact 46 (f := .glo "_law_same") rfl))
  obtain ⟨fd_law_asked_a, E_law_asked_a⟩ := c.t.d.def_ 65 (d := dd_law_asked_a) rfl
  have F_law_asked_a : L2.Fun K "_law_asked_a" "_law_asked_a" st_law_asked_a (He.fAd K dd_law_asked_a.at_) fd_law_asked_a := fun_of E_law_asked_a
  have ok_law_asked_a_ := ok_law_asked_a (CT := (CTf K)) (P := P) (w := w) (A := He.ga K) (K := K) (mg := mg) (base := base) tr_law_met_ (apartB_ok (He.ba (He.ba (He.ba (He.ba (He.ba c.more).2).2).2).2).1) (of_decide_eq_true (He.ba (He.ba (He.ba (He.ba (He.ba (He.ba c.more).2).2).2).2).2).1) (FnG.mk' F_asked ok_asked_ (He.glo_ok X G (c.t.d.fact 47 (f := .glo "asked") rfl)) (fun _ _ _ _ _ _ us hl => match us, hl with | [_, _, _], _ => rfl)) (FnKG.mk' F_asked ok_asked_ (He.glo_ok X G (c.t.d.fact 47 (f := .glo "asked") rfl)) (fun _ _ _ _ _ _ us ws h1 h2 => match us, ws, h1, h2 with | [], [_, _, _], _, _ => rfl)) (FnG.mk' F_lacking ok_lacking_ (He.glo_ok X G (c.t.d.fact 48 (f := .glo "lacking") rfl)) (fun _ _ _ _ _ _ us hl => match us, hl with | [_, _, _], _ => rfl)) (FnKG.mk' F_lacking ok_lacking_ (He.glo_ok X G (c.t.d.fact 48 (f := .glo "lacking") rfl)) (fun _ _ _ _ _ _ us ws h1 h2 => match us, ws, h1, h2 with | [], [_, _, _], _, _ => rfl)) (FnG.mk' F_lot_for ok_lot_for_ (He.glo_ok X G (c.t.d.fact 49 (f := .glo "lot_for") rfl)) (fun _ _ _ _ _ _ us hl => match us, hl with | [_, _, _], _ => rfl)) (FnKG.mk' F_lot_for ok_lot_for_ (He.glo_ok X G (c.t.d.fact 49 (f := .glo "lot_for") rfl)) (fun _ _ _ _ _ _ us ws h1 h2 => match us, ws, h1, h2 with | [], [_, _, _], _, _ => rfl)) (FnG.mk' F_is_lot_for ok_is_lot_for_ (He.glo_ok X G (c.t.d.fact 50 (f := .glo "is_lot_for") rfl)) (fun _ _ _ _ _ _ us hl => match us, hl with | [_, _, _, _], _ => rfl)) (FnKG.mk' F_is_lot_for ok_is_lot_for_ (He.glo_ok X G (c.t.d.fact 50 (f := .glo "is_lot_for") rfl)) (fun _ _ _ _ _ _ us ws h1 h2 => match us, ws, h1, h2 with | [], [_, _, _, _], _, _ => rfl)) (FnG.mk' F_is_plan_for ok_is_plan_for_ (He.glo_ok X G (c.t.d.fact 51 (f := .glo "is_plan_for") rfl)) (fun _ _ _ _ _ _ us hl => match us, hl with | [_, _, _, _], _ => rfl)) (FnKG.mk' F_is_plan_for ok_is_plan_for_ (He.glo_ok X G (c.t.d.fact 51 (f := .glo "is_plan_for") rfl)) (fun _ _ _ _ _ _ us ws h1 h2 => match us, ws, h1, h2 with | [], [_, _, _, _], _, _ => rfl)) (FnG.mk' F_plan_for ok_plan_for_ (He.glo_ok X G (c.t.d.fact 52 (f := .glo "plan_for") rfl)) (fun _ _ _ _ _ _ us hl => match us, hl with | [_, _, _], _ => rfl)) (FnKG.mk' F_plan_for ok_plan_for_ (He.glo_ok X G (c.t.d.fact 52 (f := .glo "plan_for") rfl)) (fun _ _ _ _ _ _ us ws h1 h2 => match us, ws, h1, h2 with | [], [_, _, _], _, _ => rfl)) (FnG.mk' F_row_for ok_row_for_ (He.glo_ok X G (c.t.d.fact 53 (f := .glo "row_for") rfl)) (fun _ _ _ _ _ _ us hl => match us, hl with | [_, _, _], _ => rfl)) (FnKG.mk' F_row_for ok_row_for_ (He.glo_ok X G (c.t.d.fact 53 (f := .glo "row_for") rfl)) (fun _ _ _ _ _ _ us ws h1 h2 => match us, ws, h1, h2 with | [], [_, _, _], _, _ => rfl)) (FnG.mk' F_is_row_for ok_is_row_for_ (He.glo_ok X G (c.t.d.fact 54 (f := .glo "is_row_for") rfl)) (fun _ _ _ _ _ _ us hl => match us, hl with | [_, _, _, _], _ => rfl)) (FnKG.mk' F_is_row_for ok_is_row_for_ (He.glo_ok X G (c.t.d.fact 54 (f := .glo "is_row_for") rfl)) (fun _ _ _ _ _ _ us ws h1 h2 => match us, ws, h1, h2 with | [], [_, _, _, _], _, _ => rfl)) (FnG.mk' F_parted ok_parted_ (He.glo_ok X G (c.t.d.fact 55 (f := .glo "parted") rfl)) (fun _ _ _ _ _ _ us hl => match us, hl with | [_, _], _ => rfl)) (FnKG.mk' F_parted ok_parted_ (He.glo_ok X G (c.t.d.fact 55 (f := .glo "parted") rfl)) (fun _ _ _ _ _ _ us ws h1 h2 => match us, ws, h1, h2 with | [], [_, _], _, _ => rfl)) (FnG.mk' F_most ok_most_ (He.glo_ok X G (c.t.d.fact 56 (f := .glo "most") rfl)) (fun _ _ _ _ _ _ us hl => match us, hl with | [_, _, _], _ => rfl)) (FnKG.mk' F_most ok_most_ (He.glo_ok X G (c.t.d.fact 56 (f := .glo "most") rfl)) (fun _ _ _ _ _ _ us ws h1 h2 => match us, ws, h1, h2 with | [], [_, _, _], _, _ => rfl)) (FnG.mk' F_most_plan ok_most_plan_ (He.glo_ok X G (c.t.d.fact 57 (f := .glo "most_plan") rfl)) (fun _ _ _ _ _ _ us hl => match us, hl with | [_, _, _], _ => rfl)) (FnKG.mk' F_most_plan ok_most_plan_ (He.glo_ok X G (c.t.d.fact 57 (f := .glo "most_plan") rfl)) (fun _ _ _ _ _ _ us ws h1 h2 => match us, ws, h1, h2 with | [], [_, _, _], _, _ => rfl)) (FnG.mk' F_levels ok_levels_ (He.glo_ok X G (c.t.d.fact 32 (f := .glo "levels") rfl)) (fun _ _ _ _ _ _ us hl => match us, hl with | [_, _], _ => rfl)) (FnKG.mk' F_levels ok_levels_ (He.glo_ok X G (c.t.d.fact 32 (f := .glo "levels") rfl)) (fun _ _ _ _ _ _ us ws h1 h2 => match us, ws, h1, h2 with | [], [_, _], _, _ => rfl)) (FnG.mk' F_steady ok_steady_ (He.glo_ok X G (c.t.d.fact 58 (f := .glo "steady") rfl)) (fun _ _ _ _ _ _ us hl => match us, hl with | [_, _], _ => rfl)) (FnKG.mk' F_steady ok_steady_ (He.glo_ok X G (c.t.d.fact 58 (f := .glo "steady") rfl)) (fun _ _ _ _ _ _ us ws h1 h2 => match us, ws, h1, h2 with | [], [_, _], _, _ => rfl)) (FnG.mk' F_lot_bell ok_lot_bell_ (He.glo_ok X G (c.t.d.fact 59 (f := .glo "lot_bell") rfl)) (fun _ _ _ _ _ _ us hl => match us, hl with | [_, _, _], _ => rfl)) (FnKG.mk' F_lot_bell ok_lot_bell_ (He.glo_ok X G (c.t.d.fact 59 (f := .glo "lot_bell") rfl)) (fun _ _ _ _ _ _ us ws h1 h2 => match us, ws, h1, h2 with | [], [_, _, _], _, _ => rfl)) (FnG.mk' F_is_moments ok_is_moments_ (He.glo_ok X G (c.t.d.fact 60 (f := .glo "is_moments") rfl)) (fun _ _ _ _ _ _ us hl => match us, hl with | [_, _, _, _], _ => rfl)) (FnKG.mk' F_is_moments ok_is_moments_ (He.glo_ok X G (c.t.d.fact 60 (f := .glo "is_moments") rfl)) (fun _ _ _ _ _ _ us ws h1 h2 => match us, ws, h1, h2 with | [], [_, _, _, _], _, _ => rfl)) (hTB _ (List.mem_map.mpr ⟨("_law_asked_a", none), by simp [tfL], rfl⟩)) (show (_, _) ∈ CTf K by simp [CTf]) (names_of (of_decide_eq_true (He.ba (He.ba (He.ba (He.ba (He.ba (He.ba c.more).2).2).2).2).2).2) (show (_, _) ∈ CTf K by simp [CTf])) F_law_asked_a (fun_code E_law_asked_a)
  obtain ⟨fd_law_asked_c, E_law_asked_c⟩ := c.t.d.def_ 67 (d := dd_law_asked_c) rfl
  have F_law_asked_c : L2.Fun K "_law_asked_c" "_law_asked_c" st_law_asked_c (He.fAd K dd_law_asked_c.at_) fd_law_asked_c := fun_of E_law_asked_c
  have ok_law_asked_c_ := ok_law_asked_c (CT := (CTf K)) (P := P) (w := w) (A := He.ga K) (K := K) (mg := mg) (base := base) tr_law_met_ (apartB_ok (He.ba (He.ba (He.ba (He.ba (He.ba c.more).2).2).2).2).1) (of_decide_eq_true (He.ba (He.ba (He.ba (He.ba (He.ba (He.ba c.more).2).2).2).2).2).1) (FnG.mk' F_further ok_further_ (He.glo_ok X G (c.t.d.fact 61 (f := .glo "further") rfl)) (fun _ _ _ _ _ _ us hl => match us, hl with | [_, _, _, _, _], _ => rfl)) (FnKG.mk' F_further ok_further_ (He.glo_ok X G (c.t.d.fact 61 (f := .glo "further") rfl)) (fun _ _ _ _ _ _ us ws h1 h2 => match us, ws, h1, h2 with | [], [_, _, _, _, _], _, _ => rfl)) (FnG.mk' F_tight ok_tight_ (He.glo_ok X G (c.t.d.fact 62 (f := .glo "tight") rfl)) (fun _ _ _ _ _ _ us hl => match us, hl with | [_, _, _], _ => rfl)) (FnKG.mk' F_tight ok_tight_ (He.glo_ok X G (c.t.d.fact 62 (f := .glo "tight") rfl)) (fun _ _ _ _ _ _ us ws h1 h2 => match us, ws, h1, h2 with | [], [_, _, _], _, _ => rfl)) (FnG.mk' F_bound ok_bound_ (He.glo_ok X G (c.t.d.fact 63 (f := .glo "bound") rfl)) (fun _ _ _ _ _ _ us hl => match us, hl with | [_, _, _, _], _ => rfl)) (FnKG.mk' F_bound ok_bound_ (He.glo_ok X G (c.t.d.fact 63 (f := .glo "bound") rfl)) (fun _ _ _ _ _ _ us ws h1 h2 => match us, ws, h1, h2 with | [], [_, _, _, _], _, _ => rfl)) (FnG.mk' F_times ok_times_ (He.glo_ok X G (c.t.d.fact 40 (f := .glo "times") rfl)) (fun _ _ _ _ _ _ us hl => match us, hl with | [_, _, _], _ => rfl)) (FnKG.mk' F_times ok_times_ (He.glo_ok X G (c.t.d.fact 40 (f := .glo "times") rfl)) (fun _ _ _ _ _ _ us ws h1 h2 => match us, ws, h1, h2 with | [], [_, _, _], _, _ => rfl)) (FnG.mk' F_whole_times ok_whole_times_ (He.glo_ok X G (c.t.d.fact 64 (f := .glo "whole_times") rfl)) (fun _ _ _ _ _ _ us hl => match us, hl with | [_, _, _], _ => rfl)) (FnKG.mk' F_whole_times ok_whole_times_ (He.glo_ok X G (c.t.d.fact 64 (f := .glo "whole_times") rfl)) (fun _ _ _ _ _ _ us ws h1 h2 => match us, ws, h1, h2 with | [], [_, _, _], _, _ => rfl)) (FnG.mk' F_part_for ok_part_for_ (He.glo_ok X G (c.t.d.fact 65 (f := .glo "part_for") rfl)) (fun _ _ _ _ _ _ us hl => match us, hl with | [_, _, _], _ => rfl)) (FnKG.mk' F_part_for ok_part_for_ (He.glo_ok X G (c.t.d.fact 65 (f := .glo "part_for") rfl)) (fun _ _ _ _ _ _ us ws h1 h2 => match us, ws, h1, h2 with | [], [_, _, _], _, _ => rfl)) (FnG.mk' F_part_lot ok_part_lot_ (He.glo_ok X G (c.t.d.fact 66 (f := .glo "part_lot") rfl)) (fun _ _ _ _ _ _ us hl => match us, hl with | [_, _, _], _ => rfl)) (FnKG.mk' F_part_lot ok_part_lot_ (He.glo_ok X G (c.t.d.fact 66 (f := .glo "part_lot") rfl)) (fun _ _ _ _ _ _ us ws h1 h2 => match us, ws, h1, h2 with | [], [_, _, _], _, _ => rfl)) (FnG.mk' F_mix_for ok_mix_for_ (He.glo_ok X G (c.t.d.fact 67 (f := .glo "mix_for") rfl)) (fun _ _ _ _ _ _ us hl => match us, hl with | [_, _, _], _ => rfl)) (FnKG.mk' F_mix_for ok_mix_for_ (He.glo_ok X G (c.t.d.fact 67 (f := .glo "mix_for") rfl)) (fun _ _ _ _ _ _ us ws h1 h2 => match us, ws, h1, h2 with | [], [_, _, _], _, _ => rfl)) (FnG.mk' F_is_mix_for ok_is_mix_for_ (He.glo_ok X G (c.t.d.fact 68 (f := .glo "is_mix_for") rfl)) (fun _ _ _ _ _ _ us hl => match us, hl with | [_, _, _, _], _ => rfl)) (FnKG.mk' F_is_mix_for ok_is_mix_for_ (He.glo_ok X G (c.t.d.fact 68 (f := .glo "is_mix_for") rfl)) (fun _ _ _ _ _ _ us ws h1 h2 => match us, ws, h1, h2 with | [], [_, _, _, _], _, _ => rfl)) (FnG.mk' F_dearest ok_dearest_ (He.glo_ok X G (c.t.d.fact 69 (f := .glo "dearest") rfl)) (fun _ _ _ _ _ _ us hl => match us, hl with | [_, _, _], _ => rfl)) (FnKG.mk' F_dearest ok_dearest_ (He.glo_ok X G (c.t.d.fact 69 (f := .glo "dearest") rfl)) (fun _ _ _ _ _ _ us ws h1 h2 => match us, ws, h1, h2 with | [], [_, _, _], _, _ => rfl)) (FnG.mk' F_dearest_order ok_dearest_order_ (He.glo_ok X G (c.t.d.fact 37 (f := .glo "dearest_order") rfl)) (fun _ _ _ _ _ _ us hl => match us, hl with | [_, _, _], _ => rfl)) (FnKG.mk' F_dearest_order ok_dearest_order_ (He.glo_ok X G (c.t.d.fact 37 (f := .glo "dearest_order") rfl)) (fun _ _ _ _ _ _ us ws h1 h2 => match us, ws, h1, h2 with | [], [_, _, _], _, _ => rfl)) (FnG.mk' F_turned ok_turned_ (He.glo_ok X G (c.t.d.fact 70 (f := .glo "turned") rfl)) (fun _ _ _ _ _ _ us hl => match us, hl with | [_], _ => rfl)) (FnKG.mk' F_turned ok_turned_ (He.glo_ok X G (c.t.d.fact 70 (f := .glo "turned") rfl)) (fun _ _ _ _ _ _ us ws h1 h2 => match us, ws, h1, h2 with | [], [_], _, _ => rfl)) (FnG.mk' F_turned_plan ok_turned_plan_ (He.glo_ok X G (c.t.d.fact 71 (f := .glo "turned_plan") rfl)) (fun _ _ _ _ _ _ us hl => match us, hl with | [_, _, _], _ => rfl)) (FnKG.mk' F_turned_plan ok_turned_plan_ (He.glo_ok X G (c.t.d.fact 71 (f := .glo "turned_plan") rfl)) (fun _ _ _ _ _ _ us ws h1 h2 => match us, ws, h1, h2 with | [], [_, _, _], _, _ => rfl)) (FnG.mk' F_first_unlike ok_first_unlike_ (He.glo_ok X G (c.t.d.fact 72 (f := .glo "first_unlike") rfl)) (fun _ _ _ _ _ _ us hl => match us, hl with | [_, _], _ => rfl)) (FnKG.mk' F_first_unlike ok_first_unlike_ (He.glo_ok X G (c.t.d.fact 72 (f := .glo "first_unlike") rfl)) (fun _ _ _ _ _ _ us ws h1 h2 => match us, ws, h1, h2 with | [], [_, _], _, _ => rfl)) (FnG.mk' F_parting ok_parting_ (He.glo_ok X G (c.t.d.fact 73 (f := .glo "parting") rfl)) (fun _ _ _ _ _ _ us hl => match us, hl with | [_, _], _ => rfl)) (FnKG.mk' F_parting ok_parting_ (He.glo_ok X G (c.t.d.fact 73 (f := .glo "parting") rfl)) (fun _ _ _ _ _ _ us ws h1 h2 => match us, ws, h1, h2 with | [], [_, _], _, _ => rfl)) (hTB _ (List.mem_map.mpr ⟨("_law_asked_c", none), by simp [tfL], rfl⟩)) (show (_, _) ∈ CTf K by simp [CTf]) (names_of (of_decide_eq_true (He.ba (He.ba (He.ba (He.ba (He.ba (He.ba c.more).2).2).2).2).2).2) (show (_, _) ∈ CTf K by simp [CTf])) F_law_asked_c (fun_code E_law_asked_c)
  obtain ⟨fd_law_asked_b, E_law_asked_b⟩ := c.t.d.def_ 66 (d := dd_law_asked_b) rfl
  have F_law_asked_b : L2.Fun K "_law_asked_b" "_law_asked_b" st_law_asked_b (He.fAd K dd_law_asked_b.at_) fd_law_asked_b := fun_of E_law_asked_b
  have ok_law_asked_b_ := ok_law_asked_b (CT := (CTf K)) (P := P) (w := w) (A := He.ga K) (K := K) (mg := mg) (base := base) tr_law_met_ (apartB_ok (He.ba (He.ba (He.ba (He.ba (He.ba c.more).2).2).2).2).1) (of_decide_eq_true (He.ba (He.ba (He.ba (He.ba (He.ba (He.ba c.more).2).2).2).2).2).1) (FnG.mk' F_worth ok_worth_ (He.glo_ok X G (c.t.d.fact 74 (f := .glo "worth") rfl)) (fun _ _ _ _ _ _ us hl => match us, hl with | [_, _], _ => rfl)) (FnKG.mk' F_worth ok_worth_ (He.glo_ok X G (c.t.d.fact 74 (f := .glo "worth") rfl)) (fun _ _ _ _ _ _ us ws h1 h2 => match us, ws, h1, h2 with | [], [_, _], _, _ => rfl)) (FnG.mk' F_moments_for ok_moments_for_ (He.glo_ok X G (c.t.d.fact 75 (f := .glo "moments_for") rfl)) (fun _ _ _ _ _ _ us hl => match us, hl with | [_, _, _], _ => rfl)) (FnKG.mk' F_moments_for ok_moments_for_ (He.glo_ok X G (c.t.d.fact 75 (f := .glo "moments_for") rfl)) (fun _ _ _ _ _ _ us ws h1 h2 => match us, ws, h1, h2 with | [], [_, _, _], _, _ => rfl)) (FnG.mk' F_plan_by_order ok_plan_by_order_ (He.glo_ok X G (c.t.d.fact 76 (f := .glo "plan_by_order") rfl)) (fun _ _ _ _ _ _ us hl => match us, hl with | [_, _, _], _ => rfl)) (FnKG.mk' F_plan_by_order ok_plan_by_order_ (He.glo_ok X G (c.t.d.fact 76 (f := .glo "plan_by_order") rfl)) (fun _ _ _ _ _ _ us ws h1 h2 => match us, ws, h1, h2 with | [], [_, _, _], _, _ => rfl)) (FnG.mk' F_corner ok_corner_ (He.glo_ok X G (c.t.d.fact 77 (f := .glo "corner") rfl)) (fun _ _ _ _ _ _ us hl => match us, hl with | [_, _, _], _ => rfl)) (FnKG.mk' F_corner ok_corner_ (He.glo_ok X G (c.t.d.fact 77 (f := .glo "corner") rfl)) (fun _ _ _ _ _ _ us ws h1 h2 => match us, ws, h1, h2 with | [], [_, _, _], _, _ => rfl)) (FnG.mk' F_corners ok_corners_ (He.glo_ok X G (c.t.d.fact 78 (f := .glo "corners") rfl)) (fun _ _ _ _ _ _ us hl => match us, hl with | [_, _], _ => rfl)) (FnKG.mk' F_corners ok_corners_ (He.glo_ok X G (c.t.d.fact 78 (f := .glo "corners") rfl)) (fun _ _ _ _ _ _ us ws h1 h2 => match us, ws, h1, h2 with | [], [_, _], _, _ => rfl)) (FnG.mk' F_order_of ok_order_of_ (He.glo_ok X G (c.t.d.fact 79 (f := .glo "order_of") rfl)) (fun _ _ _ _ _ _ us hl => match us, hl with | [_, _, _], _ => rfl)) (FnKG.mk' F_order_of ok_order_of_ (He.glo_ok X G (c.t.d.fact 79 (f := .glo "order_of") rfl)) (fun _ _ _ _ _ _ us ws h1 h2 => match us, ws, h1, h2 with | [], [_, _, _], _, _ => rfl)) (FnG.mk' F_is_plan ok_is_plan_ (He.glo_ok X G (c.t.d.fact 41 (f := .glo "is_plan") rfl)) (fun _ _ _ _ _ _ us hl => match us, hl with | [_, _], _ => rfl)) (FnKG.mk' F_is_plan ok_is_plan_ (He.glo_ok X G (c.t.d.fact 41 (f := .glo "is_plan") rfl)) (fun _ _ _ _ _ _ us ws h1 h2 => match us, ws, h1, h2 with | [], [_, _], _, _ => rfl)) (FnG.mk' F_plan_fault ok_plan_fault_ (He.glo_ok X G (c.t.d.fact 34 (f := .glo "plan_fault") rfl)) (fun _ _ _ _ _ _ us hl => match us, hl with | [_, _], _ => rfl)) (FnKG.mk' F_plan_fault ok_plan_fault_ (He.glo_ok X G (c.t.d.fact 34 (f := .glo "plan_fault") rfl)) (fun _ _ _ _ _ _ us ws h1 h2 => match us, ws, h1, h2 with | [], [_, _], _, _ => rfl)) (FnG.mk' F_brings ok_brings_ (He.glo_ok X G (c.t.d.fact 80 (f := .glo "brings") rfl)) (fun _ _ _ _ _ _ us hl => match us, hl with | [_, _], _ => rfl)) (FnKG.mk' F_brings ok_brings_ (He.glo_ok X G (c.t.d.fact 80 (f := .glo "brings") rfl)) (fun _ _ _ _ _ _ us ws h1 h2 => match us, ws, h1, h2 with | [], [_, _], _, _ => rfl)) (FnG.mk' F_bell_of ok_bell_of_ (He.glo_ok X G (c.t.d.fact 81 (f := .glo "bell_of") rfl)) (fun _ _ _ _ _ _ us hl => match us, hl with | [_, _], _ => rfl)) (FnKG.mk' F_bell_of ok_bell_of_ (He.glo_ok X G (c.t.d.fact 81 (f := .glo "bell_of") rfl)) (fun _ _ _ _ _ _ us ws h1 h2 => match us, ws, h1, h2 with | [], [_, _], _, _ => rfl)) (FnG.mk' F_on_roads ok_on_roads_ (He.glo_ok X G (c.t.d.fact 82 (f := .glo "on_roads") rfl)) (fun _ _ _ _ _ _ us hl => match us, hl with | [_, _, _], _ => rfl)) (FnKG.mk' F_on_roads ok_on_roads_ (He.glo_ok X G (c.t.d.fact 82 (f := .glo "on_roads") rfl)) (fun _ _ _ _ _ _ us ws h1 h2 => match us, ws, h1, h2 with | [], [_, _, _], _, _ => rfl)) (FnG.mk' F_least_bell ok_least_bell_ (He.glo_ok X G (c.t.d.fact 83 (f := .glo "least_bell") rfl)) (fun _ _ _ _ _ _ us hl => match us, hl with | [_, _], _ => rfl)) (FnKG.mk' F_least_bell ok_least_bell_ (He.glo_ok X G (c.t.d.fact 83 (f := .glo "least_bell") rfl)) (fun _ _ _ _ _ _ us ws h1 h2 => match us, ws, h1, h2 with | [], [_, _], _, _ => rfl)) (FnG.mk' F_never ok_never_ (He.glo_ok X G (c.t.d.fact 84 (f := .glo "never") rfl)) (fun _ _ _ _ _ _ us hl => match us, hl with | [_, _], _ => rfl)) (FnKG.mk' F_never ok_never_ (He.glo_ok X G (c.t.d.fact 84 (f := .glo "never") rfl)) (fun _ _ _ _ _ _ us ws h1 h2 => match us, ws, h1, h2 with | [], [_, _], _, _ => rfl)) (FnG.mk' F_rising ok_rising_ (He.glo_ok X G (c.t.d.fact 85 (f := .glo "rising") rfl)) (fun _ _ _ _ _ _ us hl => match us, hl with | [_, _], _ => rfl)) (FnKG.mk' F_rising ok_rising_ (He.glo_ok X G (c.t.d.fact 85 (f := .glo "rising") rfl)) (fun _ _ _ _ _ _ us ws h1 h2 => match us, ws, h1, h2 with | [], [_, _], _, _ => rfl)) (FnG.mk' F_bell_with ok_bell_with_ (He.glo_ok X G (c.t.d.fact 86 (f := .glo "bell_with") rfl)) (fun _ _ _ _ _ _ us hl => match us, hl with | [_, _, _, _], _ => rfl)) (FnKG.mk' F_bell_with ok_bell_with_ (He.glo_ok X G (c.t.d.fact 86 (f := .glo "bell_with") rfl)) (fun _ _ _ _ _ _ us ws h1 h2 => match us, ws, h1, h2 with | [], [_, _, _, _], _, _ => rfl)) (hTB _ (List.mem_map.mpr ⟨("_law_asked_b", none), by simp [tfL], rfl⟩)) (show (_, _) ∈ CTf K by simp [CTf]) (names_of (of_decide_eq_true (He.ba (He.ba (He.ba (He.ba (He.ba (He.ba c.more).2).2).2).2).2).2) (show (_, _) ∈ CTf K by simp [CTf])) F_law_asked_b (fun_code E_law_asked_b)
  exact ok_law (FnG.mk' F_law_house ok_law_house_ (He.glo_ok X G (c.t.d.fact 87 (f := .glo "_law_house") rfl)) (fun _ _ _ _ _ _ us hl => match us, hl with | [_, _, _, _], _ => rfl)) hB (FnG.mk' F_law_asked_a ok_law_asked_a_ (He.glo_ok X G (c.t.d.fact 88 (f := .glo "_law_asked_a") rfl)) (fun _ _ _ _ _ _ us hl => match us, hl with | [_], _ => rfl)) (FnG.mk' F_law_asked_b ok_law_asked_b_ (He.glo_ok X G (c.t.d.fact 89 (f := .glo "_law_asked_b") rfl)) (fun _ _ _ _ _ _ us hl => match us, hl with | [_], _ => rfl)) (FnG.mk' F_law_asked_c ok_law_asked_c_ (He.glo_ok X G (c.t.d.fact 90 (f := .glo "_law_asked_c") rfl)) (fun _ _ _ _ _ _ us hl => match us, hl with | [_], _ => rfl)) tr_law_met_ (apartB_ok (He.ba (He.ba (He.ba (He.ba (He.ba c.more).2).2).2).2).1) (of_decide_eq_true (He.ba (He.ba (He.ba (He.ba (He.ba (He.ba c.more).2).2).2).2).2).1) (MkG.mk' F_Desk_init ok_Desk_init_ (He.mkr_ok (c.t.d.fact 91 (f := .mkr "Desk") rfl)) (He.glo_ok X G (c.t.d.fact 92 (f := .glo "Desk") rfl)) (fun _ _ _ _ _ _ us hl => match us, hl with | [_, _, _], _ => rfl)) (MkKG.mk' F_Desk_init ok_Desk_init_ (He.mkr_ok (c.t.d.fact 91 (f := .mkr "Desk") rfl)) (He.glo_ok X G (c.t.d.fact 92 (f := .glo "Desk") rfl)) (fun _ _ _ _ _ _ us ws h1 h2 => match us, ws, h1, h2 with | [_], [_, _], _, _ => rfl)) hOK (FnG.mk' F_law_same ok_law_same_ (He.glo_ok X G (c.t.d.fact 46 (f := .glo "_law_same") rfl)) (fun _ _ _ _ _ _ us hl => match us, hl with | [_, _], _ => rfl)) (hTB _ (List.mem_map.mpr ⟨("law", none), by simp [tfL], rfl⟩)) (show (_, _) ∈ CTf K by simp [CTf]) (names_of (of_decide_eq_true (He.ba (He.ba (He.ba (He.ba (He.ba (He.ba c.more).2).2).2).2).2).2) (show (_, _) ∈ CTf K by simp [CTf])) F_law (fun_code E_law) ok_law_stream_ (F_law_stream.binds (fun _ _ _ _ _ _ us hl => match us, hl with | [_], _ => rfl)) (He.glo_ok X G (c.t.d.fact 93 (f := .glo "_law_stream") rfl)) F_law_stream.kp
end DL
open PySem PySem.W PySem.Calls PyProof.Rows
theorem PySem.Challenge.cw_lastbell_k03_houses_asked_for_holds : PySem.Challenge.rw_lastbell_k03_houses_asked_for.Holds := by
  refine DL.openC fun said => ?_
  refine DL.head_cut (r := OpenLaw.row PySem.Challenge.rw_lastbell_k03_houses_asked_for) (q := view (OpenLaw.row PySem.Challenge.rw_lastbell_k03_houses_asked_for).prog [0, 221]) (H := DL.hkL) (ob := DL.obL) (M := 70000) (loose := DL.looseL) (d := HandSHeadRun.topDef (OpenLaw.row PySem.Challenge.rw_lastbell_k03_houses_asked_for).prog 221) (kwd := [])
    DL.leftC (by kernel_rfl) (by kernel_rfl) (by kernel_rfl) (by rfl) (by first | assumption | decide +kernel) (by decide +kernel) DL.bareC ?hw ?hc
  case hw => w_witness2
  case hc =>
    refine LamX.walk_ofTsE (l := PySem.Challenge.rw_lastbell_k03_houses_asked_for) (n := 63) (k := 11) (x := "_law_script") (CX := fun w => L2.CX PySem.Challenge.rw_lastbell_k03_houses_asked_for.prog w) rfl (by decide) (by kernel_rfl) ⟨rfl, by decide, by decide⟩ ?F ?C
    case F =>
      intro w mg fa h Y G hmg0
      obtain ⟨K, KX, c⟩ := Y
      have hmg : mg ("law" : PySem.Str) = some (.ref fa) := by
        have e : (HandSHeadRun.topDef (OpenLaw.row PySem.Challenge.rw_lastbell_k03_houses_asked_for).prog 221).name = ("law" : PySem.Str) := by kernel_rfl
        rw [← e]
        exact hmg0
      obtain ⟨fd, hb, hF⟩ := DL.facts (P := PySem.Challenge.rw_lastbell_k03_houses_asked_for.prog) (w := w) KX G hmg c
      refine ⟨K, KX, fd, DL.tfL.map (He.cT K), DL.spLaw (DL.CTf K) K, (fun p hp => ?_), (fun p hp => ?_), (fun p hp => ?_), hb, fun H a ns hl hbits ht hS => ?_, fun base h1 h2 h3 => hF base h1 h2 h3⟩
      · obtain ⟨q, hq, rfl⟩ := List.mem_map.mp hp; exact c.empty q hq
      · obtain ⟨q, hq, rfl⟩ := List.mem_map.mp hp; exact c.out q hq
      · obtain ⟨q, hq, rfl⟩ := List.mem_map.mp hp; exact PySem.W.codeHd_of_K KX (c.hd q hq)
      refine ⟨a, ns, rfl, ⟨hS, hl, fun n hn => DL.bits_nat (hbits n hn)⟩, (fun p hp => ?_), fun _ => rfl⟩
      simp only [DL.CTf, List.mem_cons, List.not_mem_nil, or_false] at hp
      rcases hp with rfl | rfl | rfl | rfl
      · exact LamX.TabS.nil (ht _ (List.mem_map.mpr ⟨("_law_asked_a", none), by simp [DL.tfL], rfl⟩))
      · exact LamX.TabS.nil (ht _ (List.mem_map.mpr ⟨("_law_asked_b", none), by simp [DL.tfL], rfl⟩))
      · exact LamX.TabS.nil (ht _ (List.mem_map.mpr ⟨("_law_asked_c", none), by simp [DL.tfL], rfl⟩))
      · exact LamX.TabS.nil (ht _ (List.mem_map.mpr ⟨("law", none), by simp [DL.tfL], rfl⟩))
    case C => exact fun w H s e s' z => DL.cx_none z
