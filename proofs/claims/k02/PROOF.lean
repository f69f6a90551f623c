import PyProof.Rows.All
import Wide.All
import OpenK.AllK
import Wide.FinOn
import HandS.ForMost
import HandS.Exc
import HandS.Flow
import HandS.Star
import HandS.TupAny
import HandS.TupMul
import KE.KDictCopyH
import KE.KDictKeyed
import HandS.Dict
import HandS.Deep
import HandS.Text
import HandS.CallSlots
import HandS.IsInst
import HandS.ExcOwn
import HandS.WordsExc
import KE.GoesNew
import HandS.Rev
import HandS.Iter
import HandS.Comp
import HandS.List
import HandS.Small
import HandS.TryMany
import HandS.ExcField
import HandS.ExcIs
import HandS.DictComp
import KE.KExcSuper
import HandS.ExcInit
import HandS.ExcSuper
import KE.KExcIs
import KE.SortData
import KE.KDictSum
import HandS.More
import HandS.SetFor
import HandS.Strs
import KE.KSortedM
import HandS.Conv
import HandS.Style
import PyProof.P3Eq
import KE.KEqDict
import HandS.TupSets
import HandS.RevRange
import KE.KEqNest
import PyProof.NeKinds
import KE.KIndexOf
import KE.DataAny
import KE.DataCmp
import KE.KDictPairs
import PyProof.IsRules
import KE.DataMinMax
import KE.KDictItemsList
import HandS.DictTup
import HandS.SortKw
import HandS.TryOnly
import KE.KRevSl
import KE.SortKeyHeap
import HandS.Records
import HandS.OwnEq
import PyProof.InstNe
import PyProof.Rows.PlainNe
import HandS.HeadHook2
import HandS.Finally
import HandS.SuiteRaise
import HandS.HeadHook3
import KE.KDictZip
import KE.GoesZip
import HandS.Head2
import HandS.HeadEnd
import HandS.Defaults
import Open.Pieces
import Open.Line
import PySem.Challenge.RW_anydlooks_k02_rows_sums_and_inverses
set_option Elab.async false
set_option linter.all false
set_option maxRecDepth 100000
set_option maxHeartbeats 4100000
namespace Mi
noncomputable section
open PySem PySem.W PySem.Calls HandSHeadRun
/-! ### the top in pieces -/
section
variable (stQ : SharedT → Thread → Option (SharedT × Thread)) (n0 : Nat) (ann : Option Value)
/-- some statements, to their end -/
def segF : Nat → SharedT → Thread → Option (SharedT × Code × Pos)
 | 0, _, _ => none
 | m + 1, s, t => match endAt 1 t with
  | some f => (match f with
   | .next => some (s, t.code, t.pos)
   | _ => none)
  | none => match stepOk n0 ann t with
   | false => none
   | true => match stQ s t with
    | some (s', t') => frS s' fun s' => segF m s' t'
    | none => none
/-- so many steps -/
def preF : Nat → SharedT → Thread → Option (SharedT × Thread)
 | 0, s, t => some (s, t)
 | m + 1, s, t =>
    match through t with
  | true => none
  | false =>
     match stepOk n0 ann t with
   | false => none
   | true => match stQ s t with
    | some (s', t') => frS s' fun s' => preF m s' t'
    | none => none
end
theorem jGe {tb : String → Option Builtin} {p : Program} {w : World} {n0 : Nat} {ann : Option Value} : ∀ {m : Nat} {s s' : SharedT} {t : Thread} {cQ : Code} {q : Pos}, segF (stepT (denote tb) p w) n0 ann m s t = some (s', cQ, q) → segRunT tb p w n0 ann 1 m s t = some (.next, s', cQ, q)
 | 0, _, _, _, _, _, h => by cases h
 | m + 1, s, s', t, cQ, q, h => by
  unfold segF at h
  unfold segRunT
  cases he : endAt 1 t with
  | some f =>
   rw [he] at h
   cases f with
   | next => cases h; rfl
   | _ => cases h
  | none =>
   rw [he] at h
   dsimp only at h ⊢
   cases
      hk : stepOk n0 ann t with
   | false =>
      rw [hk] at h; cases h
   | true =>
    rw [hk] at h
    dsimp only at h ⊢
    cases
       hs : stepT (denote tb) p w s t with
    | none =>
       rw [hs] at h; cases h
    | some r =>
     obtain ⟨s2, t2⟩ := r
     rw [hs] at h
     dsimp only at h ⊢
     rw [frS_eq] at h
     exact jGe h
theorem jHY {tb : String → Option Builtin} {p : Program} {w : World} {n0 : Nat} {ann : Option Value} : ∀ {m : Nat} {s s' : SharedT} {t t' : Thread}, preF (stepT (denote tb) p w) n0 ann m s t = some (s', t') → topGo tb p w n0 ann m s.abs t = some (s'.abs, t')
 | 0, _, _, _, _, h =>
    by cases h; rfl
 | m + 1, s, s', t, t', h => by
  unfold preF at h
  unfold topGo
  cases he : through t with
  | true => rw [he] at h; cases h
  | false =>
   rw [he] at h
   dsimp only at h ⊢
   cases
      hk : stepOk n0 ann t with
   | false =>
      rw [hk] at h; cases h
   | true =>
    rw [hk] at h
    dsimp only at h ⊢
    cases
       hs : stepT (denote tb) p w s t with
    | none =>
       rw [hs] at h; cases h
    | some r =>
     obtain ⟨s2, t2⟩ := r
     rw [hs] at h
     dsimp only at h ⊢
     rw [frS_eq] at h
     rw [stepT_spec hs]
     exact jHY h
/-- by the library's twins -/
def execsQ : List Stmt → Env → Sem Flow := PySem.W.Fast.tw12563942051412417395
theorem jIG : @PySem.execs = execsQ := PySem.W.Fast.te12563942051412417395
def blockQ : List Stmt → Env → Sem Unit := PySem.W.Fast.tw1066825118222455980
theorem jIW : @PySem.blockStart = blockQ := PySem.W.Fast.te1066825118222455980
def jEK (l : List Stmt) (env : Env) (cQ : Code) (p : Pos) (B : List Frame) : Thread := ⟨(execsQ l env).wrap doneF deadEnd id id, cQ, p, B⟩
def jD8 (l : List Stmt) (env : Env) (cQ : Code) (p : Pos) (B : List Frame) : Thread := ⟨(blockQ l env).wrap (fun _ => doneF .next) deadEnd id id, cQ, p, B⟩
theorem jH5 (l : List Stmt) (env : Env) (cQ : Code) (p : Pos) (B : List Frame) : jEK l env cQ p B = piecesOf l env cQ p B := by
 unfold jEK piecesOf
 rw [jIG]
theorem jG7 (l : List Stmt) (env : Env) (cQ : Code) (p : Pos) (B : List Frame) : jD8 l env cQ p B = blockOf l env cQ p B := by
 unfold jD8 blockOf
 rw [jIW]
abbrev stQ (p : Program) (w : World) : SharedT → Thread → Option (SharedT × Thread) := stepQ (denQ tabQ) p w
theorem jGI (p : Program) (w : World) : stQ p w = stepT (denote treeTable) p w := by
 rw
   [stepQ_eq, denQ_eq, tabQ_eq]
/-- the module's body, its env, its code -/
def jEp (p : Program) : Env := { scope := p.main.scope, locals := mainNs, globals := mainNs, cells := [], code := .ref 13, frame := some 14 }
abbrev topB (p : Program) : List Stmt := behindTheImports p
abbrev topC (p : Program) : Code := .body (topB p) (jEp p)
/-- behind k statements: what is left comes through in M steps -/
def Left (p : Program) (w : World) (r : SharedT) (k M : Nat) (s : SharedT) (pos : Pos) : Prop := topRun treeTable p w 11 (bootAnn w) M s.abs (restOf ((topB p).drop k) (jEp p) (topC p) pos [topFrame default]) = some r.abs
theorem Left.nil {p : Program} {w : World} {r : SharedT} {k : Nat} {pos : Pos} (h : (topB p).drop k = []) (eQ : goF (stQ p w) 11 (bootAnn w) 2 r ⟨doneF .next, topC p, pos, [topFrame default]⟩ = some r) : Left p w r k 2 r pos := by
 unfold Left
 rw [h]
 refine piece_nil ?_
 rw [jGI] at eQ
 exact goF_ok eQ
theorem Left.go {p : Program} {w : World} {r s s' : SharedT} {k j N M : Nat} {pos pos' : Pos} (eQ : segF (stQ p w) 11 (bootAnn w) N s (jEK (((topB p).drop k).take j) (jEp p) (topC p) pos [topFrame default]) = some (s', topC p, pos')) (h : Left p w r (k + j) M s' pos') : Left p w r k (N + M) s pos := by
 unfold Left at h ⊢
 rw [jGI, jH5] at eQ
 have a := piece_app (segRun_of (jGe eQ)) h
 rw [← List.drop_drop, List.take_append_drop] at a
 exact a
theorem Left.block {p : Program} {w : World} {r s s' : SharedT} {N M : Nat} {pos pos' : Pos} (eQ : segF (stQ p w) 11 (bootAnn w) N s (jD8 (topB p) (jEp p) (topC p) pos [topFrame default]) = some (s', topC p, pos')) (h : Left p w r 0 M s' pos') :
  topRun treeTable p w 11 (bootAnn w) (N + M) s.abs ⟨denote treeTable (topC p), topC p, pos, [topFrame default]⟩ = some r.abs := by
 rw [jGI, jG7] at eQ
 exact piece_block (segRun_of (jGe eQ)) h
def bootS (w : World) (os : OsState) (k : SharedT → Option (SharedT × Thread)) : Option (SharedT × Thread) := match putAll (boot_heap w.params).objs.toList .nil 0 with
 | some (t, n) => k (bootT w os (t, n))
 | none => none
theorem Left.boot {p : Program} {w : World} {os : OsState} {r s' : SharedT} {N M : Nat} {pos : Pos} (eQ : bootS w os (fun s => preF (stQ p w) 11 (bootAnn w) N s (topStub p)) = some (s', ⟨denQ tabQ (topC p), topC p, pos, [topFrame default]⟩))
  (h : topRun treeTable p w 11 (bootAnn w) M s'.abs ⟨denote treeTable (topC p), topC p, pos, [topFrame default]⟩ = some r.abs) : topRun treeTable p w 11 (bootAnn w) (N + M) ⟨boot_heap w.params, #[], boot_drawn, boot_toks, os⟩ (topStub p) = some r.abs := by
 unfold bootS at eQ
 cases q : putAll (boot_heap w.params).objs.toList .nil 0 with
 | none => rw [q] at eQ; cases eQ
 | some x =>
  obtain ⟨t, n⟩ := x
  rw [q] at eQ
  have eQ : preF (stQ p w) 11 (bootAnn w) N (bootT w os (t, n)) (topStub p) = some (s', ⟨denQ tabQ (topC p), topC p, pos, [topFrame default]⟩) := eQ
  rw [jGI, ← tabQ_eq, ← denQ_eq] at eQ
  have eh := putAll_heap q
  have eb : (bootT w os (t, n)).abs = ⟨boot_heap w.params, #[], boot_drawn, boot_toks, os⟩ :=
     by
   show
      (⟨absHeap t n (boot_heap w.params).life, #[], boot_drawn, boot_toks, os⟩ : Shared) = _
   rw [eh]
  have g := jHY eQ
  rw [eb] at g
  exact go_top g h
/-- what is asked of the head, the end told -/
def CutEq (r : OpenRow) (q : Program) (H : Hook) (ob : SharedT → H.α) (M : Nat) (loose : List PySem.Str) (w : World) : Prop :=
 ∀ os : OsState, ∃ s : SharedT, topRun treeTable r.prog w 11 (bootAnn w) M ⟨boot_heap w.params, #[], boot_drawn, boot_toks, os⟩ (topStub r.prog) = some s.abs ∧ looksF r.prog (boot_heap w.params) s.abs = true ∧
  seenQ q loose (importedModules r.prog.main.body) (fun s => xlAt q [] s && recOk r.toRowW.records s) s.abs = openGood q loose ∧ ob s = H.val w
theorem jIV (P : Params) : (boot_heap P).objs.size = 11 := by kernel_rfl
theorem left_cut {p q : Program} {loose : List Str} {Xt : Shared → Bool} {α : Type} {Yf : Shared → α} {Ya : World → α} {N M : Nat}
  (eQ : opening p = plainProg p.main.scope.names) (hN : Nat.ble 600 N = true) (f : ∀ s, fenceModules? p s = some s) (le : Nat.ble M N = true)
  (run : ∀ (w : World) (os : OsState), ∃ s : SharedT, topRun treeTable p w 11 (bootAnn w) M ⟨boot_heap w.params, #[], boot_drawn, boot_toks, os⟩ (topStub p) = some s.abs ∧ looksF p (boot_heap w.params) s.abs = true ∧
   openSeen q loose (importedModules p.main.body) Xt true s.abs = openGood q loose ∧ Yf s.abs = Ya w) :
  LeftO p q loose Xt Yf Ya N true := fun w =>
     by
 obtain ⟨⟨h, gs, d, k, os⟩, a, a'⟩ := Option.map_eq_some_iff.mp (boot_open eQ hN f w)
 obtain ⟨rfl, rfl, rfl, rfl⟩ : h = boot_heap w.params ∧ gs = Array.mk [] ∧ d = boot_drawn ∧ k = boot_toks :=
    by simpa using a'
 obtain ⟨s, hs, l1, l2, l3⟩ := run w os
 have r := topRun_mono (N - M) _ _ _ _ hs
 rw
   [show M + (N - M) = N by have := Nat.le_of_ble_eq_true le; omega] at r
 have bd : ∀ (o : Option Shared) (g : Shared → Option Shared), o = some s.abs → g s.abs = some s.abs → o.bind g = some s.abs := fun o g x y => by
  rw [x]
  exact y
 have t : topFrom treeTable p w N ⟨boot_heap w.params, Array.mk [], boot_drawn, boot_toks, os⟩ = some s.abs :=
    by
  unfold topFrom
  dsimp only
  rw [boot_ns, jIV]
  refine bd _ _ r ?_
  unfold looksF at l1
  rw [l1]
 unfold openEnds
 rw [a]
 show
    (topFrom treeTable p w N _).map _ = _
 rw [t]
 exact
    congrArg some (Prod.ext l2 l3)
theorem head_cut {r : OpenRow} {q : Program} {H : Hook} {ob : SharedT → H.α} {M : Nat} {loose : List PySem.Str} {d : DefRec} {kwd : List (PySem.Str × PySem.Expr)} (hoQ : ∀ s : SharedT, ob s = H.obs s.abs)
  (eQ : opening r.prog = plainProg r.prog.main.scope.names) (f : ∀ s, fenceModules? r.prog s = some s) (run : ∀ w, CutEq r q H ob M loose w)
  (hdef : defOf q r.name = some (d, kwd)) (hpQ : r.prog.theDef r.name = some (d.params, d.body, d.scope)) (hk : kwWritten? d.params.kwonlyargs d.params.kw_defaults = some kwd) (hwr : (!r.writes || r.records.isEmpty) = true) (k1 : r.wellSaid = true) (ok : (chainsOk q && opensWell r.prog && (frees r.toRowW && r.within.isEmpty)) = true) (hb : r.prog.bare) (hw : r.toRowW.promised)
  (call : WalkO q loose (XL q []) H.says r.toRowW d kwd fun f vs =>
     PySem.call f vs) : r.Holds := by
 have left : LeftO r.prog q loose (fun s =>
    xlAt q [] s && recOk r.toRowW.records s) H.obs H.val (M + 600) true :=
  left_cut (M := M) eQ (Nat.ble_eq_true_of_le (by omega)) f (Nat.ble_eq_true_of_le (by omega)) fun w os => by
   obtain ⟨s, h1, h2, h3, h4⟩ := run w os
   exact ⟨s, h1, h2, (seenQ_eq q loose _ _ s.abs).trans h3, (hoQ s).symm.trans h4⟩
 exact holds_open (r := r) (q := q) (loose := loose) (XP := XL q []) (YP := H.says) (d := d) (kwd := kwd) left H.of H.keeps (fun s zQ => xl_of s (Bool.and_eq_true_iff.mp zQ).1) XL.keeps hdef hpQ hk (fun s zQ => recFacts_of (Bool.and_eq_true_iff.mp zQ).2) hwr k1 ok hb hw call
end
end Mi

namespace Mi
open PySem PySem.W HandSHeadRun
/-! ### the top, followed without its steps -/
abbrev Ent3 := Str × Nat × Value
/-- what a statement of the top brings: a def; a name's value (objects, steps of the clock ahead of its name, triples); the module's name -/
inductive Op where
 | d
 | v (n : Str) (x : Value) (dt : Nat) (k : Nat) (os : Params → List Obj) (cs : List Value)
 | n (x : Str)
 | r (i : Nat)
structure Sm where
 os : List Obj
 es : List Ent3
 cs : List Value
 ov : List (Nat × Value)
 a : Nat
 t : Nat
 mn : Value
def oTu (l : List Value) : Obj := ⟨.type "tuple", none, .seq l.toArray 0, #[]⟩
def oFi (l : List Value) : Obj := ⟨.none, none, .fields l.toArray, #[]⟩
def oDi (P : Params) (l : List Ent3) (n : Nat) : Obj := ⟨.type "dict", none, .dict (l.map fun eQ => (⟨PyData.keyHash P eQ.1, .str eQ.1 eQ.2.1, eQ.2.2⟩ : DictEntry)).toArray n, #[]⟩
def sVs : List Str → Nat → List Value
 | [], _ => []
 | s :: r, t => frNat t fun t => .str s t :: sVs r (t + 1)
def kLoc : NameKind → Bool | .local => true | _ => false
def kCel : NameKind → Bool | .cell => true | _ => false
def kFre : NameKind → Bool | .free => true | _ => false
def ofK (k : NameKind → Bool) : List (Str × NameKind) → List Str
 | [] => []
 | p :: r => match k p.2 with
  | true => p.1 :: ofK k r
  | false => ofK k r
def lenN {α : Type} : List α → Nat → (Nat → Nat)
 | [], n => fun _ => n
 | _ :: r, n => fun k => lenN r (n + 1) k
/-- a def's code object -/
def cdO (n q : Str) (ar : Nat) (line a t t3 fl : Nat) (vs ce fn : Value) : Obj :=
 oFi [.str n t, .str q (t + 1), .str "/claim/cut.py" (t + 2), .int line 0, .int ar 0, .int 0 0, .int 0 0, .int fl 0, .ref a, .bool true, .int 181 0, .ref (a + 1), .none, vs, ce, fn, .int t3 0, .int line 0, .str "/claim/cut.py" (t3 + 1)]
def cdT (o : Obj) : Obj := { o with cls := .type "code" }
/-- a def's objects, then k with the address of its last one, the clock; q its qualname -/
def fnOs {α : Type} (n q : Str) (ar : Arguments) (b : List Stmt) (sc : Scope) (line a t fl : Nat) (mn : Value) (cl : List (Str × Addr)) (ct : Value) (k : List Obj → Nat → Nat → α) : α :=
 frNat (t + 3 + (ofK kFre sc.names).length) fun t2 =>
  let fd : FuncData := ⟨n, q, ar, .stmts b, sc, 0, [], .none, .none, .none, .none, none, .none, .none, 0⟩
  match sc.more with
  | [] => frNat (t2 + (ofK kLoc sc.names).length) fun t3 => frNat (t3 + (ofK kCel sc.names).length) fun t4 => frNat (a + 4) fun f => frNat (t4 + 2) fun t5 => frNat (f + 2) fun zQ =>
   k [oTu (sVs (ofK kFre sc.names) (t + 3)), oFi [], oTu (sVs (ofK kLoc sc.names) t2), oTu (sVs (ofK kCel sc.names) t3), ⟨.none, none, .func fd, #[]⟩, cdT (cdO n q ar.args.length line a t t4 fl (.ref (a + 2)) (.ref (a + 3)) (.ref f)),
    ⟨.type "function", none, .func { fd with globals := 3, closure := cl, pyModule := mn, code := .ref (f + 1), closureTuple := ct }, #[]⟩] zQ t5
  | _ :: _ => frNat (a + 2) fun f => frNat (t2 + 2) fun t5 => frNat (f + 2) fun zQ =>
   k [oTu (sVs (ofK kFre sc.names) (t + 3)), oFi [], ⟨.none, none, .func fd, #[]⟩, cdT (cdO n q ar.args.length line a t t2 fl .none .none (.ref f)),
    ⟨.type "function", none, .func { fd with globals := 3, closure := cl, pyModule := mn, code := .ref (f + 1), closureTuple := ct }, #[]⟩] zQ t5
def sim (P : Params) : List Op → List Stmt → Nat → Nat → Value → Sm
 | [], _, a, t, mn => ⟨[], [], [], [], a, t, mn⟩
 | _ :: _, [], a, t, mn => ⟨[], [], [], [], a, t, mn⟩
 | o :: os, stQ :: sts, a, t, mn => match o with
  | .n x => frNat (t + 2) fun t' => sim P os sts a t' (.str x t)
  | .v n x dt k l cs => frNat (t + dt) fun t1 => frNat (t1 + 1) fun t2 => frNat (a + k) fun a' => match sim P os sts a' t2 mn with
   | ⟨r, es, c2, ov, a2, t3, m2⟩ => ⟨l P ++ r, (n, t1, x) :: es, cs ++ c2, ov, a2, t3, m2⟩
  | .d => match stQ with
   | .FunctionDef n ar b _ _ _ sc _ _ pos => fnOs n n ar b sc pos.line a t 3 mn [] .none fun l zQ t5 => frNat (t5 + 1) fun t6 => frNat (zQ + 1) fun a' => match sim P os sts a' t6 mn with
    | ⟨r, es, c2, ov, a2, t3, m2⟩ => ⟨l ++ r, (n, t5, .ref zQ) :: es, .int pos.line 0 :: .int pos.col 0 :: .ref (zQ - 1) :: c2, ov, a2, t3, m2⟩
   | _ => ⟨[], [], [], [], a, t, mn⟩
  | .r i => match stQ with
   | .FunctionDef n ar b _ _ _ sc _ _ pos => fnOs n n ar b sc pos.line a t 3 mn [] .none fun l zQ t5 => frNat (t5 + 1) fun t6 => frNat (zQ + 1) fun a' => match sim P os sts a' t6 mn with
    | ⟨r, es, c2, ov, a2, t3, m2⟩ => ⟨l ++ r, es, .int pos.line 0 :: .int pos.col 0 :: .ref (zQ - 1) :: c2, (i, .ref zQ) :: ov, a2, t3, m2⟩
   | _ => ⟨[], [], [], [], a, t, mn⟩
/-- every second one, from the first, from the next -/
def half {α : Type} : Bool → List α → List α
 | _, [] => []
 | true, x :: r =>
    x :: half false r
 | false, _ :: r =>
    half true r
def btQ : Nat → List Obj → BT
 | 0, _ => .nil
 | _ + 1, [] => .nil
 | k + 1, o :: r => .node o (btQ k (half true r)) (btQ k (half false r))
def setV : Nat → Value → List Ent3 → List Ent3
 | _, _, [] => []
 | 0, x, eQ :: r => (eQ.1, eQ.2.1, x) :: r
 | n + 1, x, eQ :: r => eQ :: setV n x r
def setVs : List (Nat × Value) → List Ent3 → List Ent3
 | [], l => l
 | p :: r, l => setVs r (setV p.1 p.2 l)
/-- the objects ahead of the body: the boot's, the module's code -/
def setAt {α : Type} : Nat → α → List α → List α
 | _, _, [] => []
 | 0, x, _ :: r => x :: r
 | n + 1, x, y :: r => y :: setAt n x r
def baseE (mn : Value) : List Ent3 := [("__name__", 165, mn), ("__doc__", 166, .none), ("__package__", 167, .none), ("__loader__", 168, .builtin "__main__.__loader__#opaque"), ("__spec__", 169, .none), ("__annotations__", 170, .ref 6),
 ("__builtins__", 171, .ref 4), ("__file__", 173, .str "/claim/cut.py" 172), ("__cached__", 174, .none)]
def modO (cs : List Value) : List Obj := [oTu [], oFi cs, ⟨.type "code", none, .fields #[.str "<module>" 182, .str "<module>" 183, .str "/claim/cut.py" 184, .int 1 0, .int 0 0, .int 0 0, .int 0 0, .int 0 0, .ref 11, .bool false, .int 181 0, .ref 12, .none, .none, .none, .none, .int 185 0, .int 1 0, .str "/claim/cut.py" 186], #[]⟩,
 ⟨.type "frame", none, .plain, #[some (.ref 13), some (.ref 3), some (.ref 3), none, some (.str "__main__" 164), none, some (.ref 0)]⟩]
noncomputable def stS (w : World) (os : OsState) (ops : List Op) (sts : List Stmt) : SharedT := match sim w.params ops sts 15 187 (.str "__main__" 164) with
 | ⟨r, es, cs, ov, a, t, mn⟩ => ⟨btQ 40 (setAt 3 (oDi w.params (setVs ov (baseE mn ++ es)) ((baseE mn ++ es).length)) (boot_heap w.params).objs.toList ++ (modO cs ++ r)), a, (boot_heap w.params).life, #[], boot_drawn, t, os⟩
def fnL (stQ : Stmt) (q : Str) (a t : Nat) (mn : Value) (cl : List (Str × Addr)) (ct : Value) : List Obj := match stQ with
 | .FunctionDef n ar b _ _ _ sc _ _ pos => fnOs n q ar b sc pos.line a t 3 mn cl ct fun l _ _ => l
 | _ => []
/-- the j-th statement of the i-th one, a class -/
def cst (p : Program) (i j : Nat) : Stmt := match (topB p)[i]? with
 | some (.ClassDef _ _ _ b _ _ _ _ _ _ _) => b.getD j default
 | _ => default
/-- the world w, as it says b to one of its questions -/
noncomputable def flw (w : World) (b : Bool) : World := { w with params := { w.params with followText := fun s => bif s == "special-get-raises" then b else w.params.followText s } }
theorem flw_eq (w : World) : flw w (w.params.followText "special-get-raises") = w := by
 have eQ : (fun s => bif s == "special-get-raises" then w.params.followText "special-get-raises" else w.params.followText s) = w.params.followText := by
  funext s
  cases q : s == "special-get-raises" with
  | false => rfl
  | true => rw [beq_iff_eq.mp q]; rfl
 unfold flw
 rw [eQ]
/-- what holds whatever is said to it holds -/
theorem flw_ind {P : World → Prop} (t : ∀ w, P (flw w true)) (f : ∀ w, P (flw w false)) (w : World) : P w := by
 have eQ := flw_eq w
 cases q : w.params.followText "special-get-raises" with
 | false => rw [q] at eQ; rw [← eQ]; exact f w
 | true => rw [q] at eQ; rw [← eQ]; exact t w
end Mi

namespace Mi
open PySem PySem.TablesWhole
/-! ### the tables' look in pieces -/
def gaS (p : Program) (l : List Stmt) : List Str := wSs gather p.main.scope ⟨p.main.scope, [], [], [], none⟩ p.main.scope l
def hoS (p : Program) (l : List Stmt) : Bool := wSs holds p.main.scope ⟨p.main.scope, [], [], [], none⟩ p.main.scope l
theorem jIA (p : Program) : ∀ l m, gaS p (l ++ m) = gaS p l ++ gaS p m
 | [], m => by
  unfold gaS
  rw [List.nil_append, wSs]
  rfl
 | s :: l, m => by
  have ih := jIA p l m
  unfold gaS at ih ⊢
  rw [List.cons_append, wSs, wSs, ih]
  show _ ++ (_ ++ _) = (_ ++ _) ++ _
  rw [List.append_assoc]
theorem jI8 (p : Program) : ∀ l m, hoS p (l ++ m) = (hoS p l && hoS p m)
 | [], m => by
  unfold hoS
  rw [List.nil_append, wSs]
  rfl
 | s :: l, m => by
  have ih := jI8 p l m
  unfold hoS at ih ⊢
  rw [List.cons_append, wSs, wSs, ih]
  show (_ && (_ && _)) = ((_ && _) && _)
  rw [Bool.and_assoc]
theorem gaS_cut {p : Program} {l : List Stmt} {k : Nat} (n : Nat) (a : gaS p ((l.drop k).take n) = []) (b : gaS p (l.drop (k + n)) = []) : gaS p (l.drop k) = [] := by
 rw [← List.drop_drop] at b
 rw [← List.take_append_drop n (l.drop k), jIA, a, b]
 rfl
theorem hoS_cut {p : Program} {l : List Stmt} {k : Nat} (n : Nat) (a : hoS p ((l.drop k).take n) = true) (b : hoS p (l.drop (k + n)) = true) : hoS p (l.drop k) = true := by
 rw [← List.drop_drop] at b
 rw [← List.take_append_drop n (l.drop k), jI8, a, b]
 rfl
theorem whole_of {p : Program} (ga : gaS p (p.main.body.drop 0) = []) (hoQ : hoS p (p.main.body.drop 0) = true) (h : (holds.enter p.main.scope && noTwice p.main.scope) = true) (hm : p.modules = []) (hpQ : p.parses = []) (hh : p.harvested = []) : p.tablesWhole = true := by
 rw [List.drop_zero] at ga hoQ
 obtain ⟨h1, h2⟩ := Bool.and_eq_true_iff.mp h
 have eQ : wModule holds p.main = true := by
  unfold gaS at ga
  unfold hoS at hoQ
  unfold wModule
  rw [ga]
  show (holds.enter p.main.scope && (noTwice p.main.scope && (wSs holds p.main.scope ⟨p.main.scope, [], [], [], none⟩ p.main.scope p.main.body && true))) = true
  rw [h1, h2, hoQ]
  rfl
 unfold Program.tablesWhole wProgram
 rw [eQ, hm, hpQ, hh]
 rfl
end Mi
namespace Mi
open PySem PySem.TablesWhole
/-! ### no name twice, by numbers -/
def encS (s : Str) : Nat := s.cps.toList.foldl (fun a cQ => a * 1114113 + (cQ + 1)) 0
def notIn (n : Nat) : List Nat → Bool
 | [] => true
 | m :: r => match Nat.beq n m with
  | true => false
  | false => notIn n r
def ndB : List Nat → Bool
 | [] => true
 | n :: r => match notIn n r with
  | true => ndB r
  | false => false
/-- the numbers first, then f -/
def encL : List (Str × NameKind) → List Nat
 | [] => []
 | p :: r => match encS p.1 with
  | 0 => 0 :: encL r
  | n + 1 => (n + 1) :: encL r
theorem jIL : ∀ l, encL l = l.map fun p => encS p.1
 | [] => rfl
 | p :: r => by
  unfold encL
  rw [jIL r, List.map_cons]
  cases encS p.1 <;> rfl
theorem jGZ : ∀ {n : Nat} {l : List Nat}, notIn n l = true → ∀ m ∈ l, m ≠ n
 | _, [], _, _, h => nomatch h
 | n, m :: r, h, k, hk => by
  unfold notIn at h
  cases q : Nat.beq n m with
  | true => rw [q] at h; cases h
  | false =>
   rw [q] at h
   rcases List.mem_cons.mp hk with zQ | zQ
   ·rw [zQ]
    intro eQ
    rw [eQ, Nat.beq_refl] at q
    cases q
   ·exact jGZ h k zQ
theorem jHl : ∀ {l : List (Str × NameKind)}, ndB (l.map fun p => encS p.1) = true → ∀ x ∈ l, l.filter (fun y => y.1 == x.1) = [x]
 | [], _, _, h => nomatch h
 | p :: r, h, x, hxQ => by
  rw [List.map_cons] at h
  unfold ndB at h
  cases q : notIn (encS p.1) (r.map fun p => encS p.1) with
  | false => rw [q] at h; cases h
  | true =>
   rw [q] at h
   have far := jGZ q
   have ne : ∀ y ∈ r, y.1 ≠ p.1 := fun y hy eQ => far _ (List.mem_map.mpr ⟨y, hy, rfl⟩) (by rw [eQ])
   rcases List.mem_cons.mp hxQ with zQ | zQ
   ·rw [zQ, List.filter_cons_of_pos (by exact beq_self_eq_true p.1)]
    congr 1
    refine List.filter_eq_nil_iff.mpr fun y hy eQ => ne y hy (eq_of_beq eQ)
   ·rw [List.filter_cons_of_neg (p := fun y : Str × NameKind => y.1 == x.1) (fun eQ => ne x zQ (eq_of_beq eQ).symm)]
    exact jHl h x zQ
theorem jH6 {sc : Scope} (h : ndB (encL sc.names) = true) : noTwice sc = true := by
 rw [jIL] at h
 unfold noTwice
 refine List.all_eq_true.mpr fun x hxQ => ?_
 obtain ⟨n, k⟩ := x
 have eQ := jHl h (n, k) hxQ
 dsimp only at eQ ⊢
 rw [eQ]
end Mi

namespace Mi
noncomputable section
open PySem
open PySem.W
open PySem.Calls
/-! ### the law's looks in parts -/
def bareL : List Str := ["vars", "dir", "locals"]
def nrQ : Look → List Stmt → Bool := PySem.W.Fast.tw8326940854005059898
theorem nrQ_eq : @noRoadLSs = nrQ := PySem.W.Fast.te8326940854005059898
def nmQ : Program → List Stmt → (Scope → Str → Bool) → Bool := PySem.W.Fast.tw17119622794617984870
theorem nmQ_eq : @namesMeet = nmQ := PySem.W.Fast.te17119622794617984870
def nvQ : Program → Bool := PySem.W.Fast.tw8377067652309620493
theorem nvQ_eq : @namesResolve = nvQ := PySem.W.Fast.te8377067652309620493
/-- is the name never read out -/
def jCb (p : Program) (n : Str) : Bool := nmQ p p.main.body fun sc x => x != n || !(sc.names.lookup x == some .globalImplicit || sc.names.lookup x == some .globalExplicit)
theorem jF1 {p : Program} (a : jCb p "vars" = true) (b : jCb p "dir" = true) (cQ : jCb p "locals" = true) (h1 : (sreFenced p.main && ((moduleNames p.main.body).isEmpty || lookedIntoSs (moduleNames p.main.body) p.main.body)) = true) (h3 : nvQ p = true) (h4 : (p.boundNames.all fun n => !worldNames.contains n) = true)
  (h5 : nrQ { strict := !(importedModules p.main.body).all cThrough.contains, foot := none, bare := [] } p.main.body = true) (h6 : nmQ p p.main.body (fun _ n => attrL n) = true) : looksOpen p = true := by
 have r : ∀ n, jCb p n = true → readsOut p p.main.body n = false := fun n h => by
  unfold readsOut
  rw [nmQ_eq]
  show (!jCb p n) = false
  rw [h]
  rfl
 have eQ : List.filter (readsOut p p.main.body) (["vars", "dir", "locals"] : List Str) = [] := by
  rw [List.filter_cons_of_neg (by rw [r _ a]; exact Bool.false_ne_true), List.filter_cons_of_neg (by rw [r _ b]; exact Bool.false_ne_true), List.filter_cons_of_neg (by rw [r _ cQ]; exact Bool.false_ne_true)]
  rfl
 unfold looksOpen
 rw [eQ, nrQ_eq, nmQ_eq, nvQ_eq, h1, h3, h4, h5, h6]
 rfl
end
end Mi

namespace Mi
noncomputable section
inductive P where
 | non | bl (b : Bool) | int (i : Int) | str (s : List Nat) | tup (d : Nat) (l : List P) | fn (k : Nat)
 deriving Inhabited
inductive D where
 | p (x : P) | ref (k : Nat) | mt (l : List D)
 deriving Inhabited
inductive O where
 | lst (l : List D) | dic (v : Nat) (l : List (P × D)) | set (l : List P) | ins (cQ : Nat) (fs : List (Nat × D)) | exc (cQ : Nat) (x : P)
 deriving Inhabited
inductive Tr where
 | lf | nd (o : Option O) (l r : Tr)
structure EH where
 n : Nat
 t : Tr
abbrev Env := List (Option D)
inductive RE where
 | ok (v : D) (h : EH) | ex (cQ : Nat) (x : P) (h : EH) | bad
inductive RS where
 | nx (σQ : Env) (h : EH) | rt (v : D) (h : EH) | bk (σQ : Env) (h : EH) | ct (σQ : Env) (h : EH) | ex (cQ : Nat) (x : P) (σQ : Env) (h : EH) | bad
inductive RL where
 | ok (v : List D) (h : EH) | ex (cQ : Nat) (x : P) (h : EH) | bad
inductive VR where
 | val (v : D) | new (o : O) | bad
abbrev Ph := Nat → List D → EH → RE
abbrev CE := Ph → Env → EH → RE
abbrev CL := Ph → Env → EH → RL
abbrev CS := Ph → Env → EH → RS

@[reducible] def fN {α : Sort u} (n : Nat) (k : Nat → α) : α := Nat.rec (k 0) (fun m _ => k (Nat.succ m)) n
def fI {α : Sort u} (i : Int) (k : Int → α) : α := Int.rec (fun n => fN n fun n => k (.ofNat n)) (fun n => fN n fun n => k (.negSucc n)) i
def fB {α : Sort u} (b : Bool) (k : Bool → α) : α := Bool.rec (k false) (k true) b
def P.cs {α : Sort u} (x : P) (a : α) (b : Bool → α) (cQ : Int → α) (d : List Nat → α) (eQ : Nat → List P → α) (f : Nat → α) : α :=
 P.rec (motive_1 := fun _ => α) (motive_2 := fun _ => PUnit) a b cQ d (fun n l _ => eQ n l) f PUnit.unit (fun _ _ _ _ => PUnit.unit) x
def D.cs {α : Sort u} (x : D) (a : P → α) (b : Nat → α) (cQ : List D → α) : α :=
 D.rec (motive_1 := fun _ => α) (motive_2 := fun _ => PUnit) a b (fun l _ => cQ l) PUnit.unit (fun _ _ _ _ => PUnit.unit) x
def fP {α : Sort u} (x : P) (k : P → α) : α := P.cs x (k .non) (fun b => fB b fun b => k (.bl b)) (fun i => fI i fun i => k (.int i)) (fun s => k (.str s)) (fun d l => fN d fun d => k (.tup d l)) (fun n => k (.fn n))
def fD {α : Sort u} (x : D) (k : D → α) : α := D.cs x (fun x => fP x fun x => k (.p x)) (fun a => fN a fun a => k (.ref a)) (fun l => k (.mt l))

def isN {α : Type u} (l : List α) : Bool := List.rec false (fun _ _ _ => true) l
def nth {α : Type u} (l : List α) (i : Nat) : Option α :=
 List.rec (motive := fun _ => Nat → Option α) (fun _ => none) (fun a _ ih i => Nat.rec (motive := fun _ => Option α) (some a) (fun j _ => ih j) i) l i
def setN {α : Type u} (l : List α) (i : Nat) (x : α) : List α :=
 List.rec (motive := fun _ => Nat → List α) (fun _ => []) (fun a r ih i => Nat.rec (motive := fun _ => List α) (x :: r) (fun j _ => a :: ih j) i) l i
def app {α : Type u} (l m : List α) : List α := List.rec m (fun a _ ih => a :: ih) l
def lenA {α : Type u} (l : List α) (n : Nat) : Nat := List.rec (motive := fun _ => Nat → Nat) (fun n => n) (fun _ _ ih n => fN n fun n => ih (Nat.succ n)) l n
def lenL {α : Type u} (l : List α) : Nat := lenA l 0
def mapL {α : Type u} {β : Type v} (f : α → β) (l : List α) : List β := List.rec [] (fun a _ ih => f a :: ih) l
def revA {α : Type u} (l acc : List α) : List α := List.rec (motive := fun _ => List α → List α) (fun acc => acc) (fun a _ ih acc => ih (a :: acc)) l acc
def revL {α : Type u} (l : List α) : List α := revA l []
def takeL {α : Type u} (l : List α) (i : Nat) : List α := List.rec (motive := fun _ => Nat → List α) (fun _ => []) (fun a _ ih i => Nat.rec (motive := fun _ => List α) [] (fun j _ => a :: ih j) i) l i
def dropL {α : Type u} (l : List α) (i : Nat) : List α := List.rec (motive := fun _ => Nat → List α) (fun _ => []) (fun a r ih i => Nat.rec (motive := fun _ => List α) (a :: r) (fun j _ => ih j) i) l i
def jEs {α : Type u} (l : List α) (n : Nat) : Bool := List.rec (motive := fun _ => Nat → Bool) (fun _ => true) (fun _ _ ih n => Nat.rec (motive := fun _ => Bool) false (fun m _ => ih m) n) l n
def jAG {α : Type u} (l : List α) : Bool := jEs l 1000000
def repL {α : Type u} (l : List α) (n : Nat) : List α := Nat.rec [] (fun _ ih => app l ih) n
def gd (b : Bool) (r : VR) : VR := Bool.rec .bad r b

def iEq (i j : Int) : Bool := Int.rec (motive := fun _ => Bool) (fun a => Int.rec (motive := fun _ => Bool) (fun b => Nat.beq a b) (fun _ => false) j) (fun a => Int.rec (motive := fun _ => Bool) (fun _ => false) (fun b => Nat.beq a b) j) i
def iLe (i j : Int) : Bool := Int.rec (motive := fun _ => Bool) (fun a => Int.rec (motive := fun _ => Bool) (fun b => Nat.ble a b) (fun _ => false) j) (fun a => Int.rec (motive := fun _ => Bool) (fun _ => true) (fun b => Nat.ble b a) j) i
def iLt (i j : Int) : Bool := Bool.not (iLe j i)
def iSm (i : Int) (n : Nat) : Bool := Int.rec (motive := fun _ => Bool) (fun a => Nat.blt a n) (fun a => Nat.blt (Nat.succ a) n) i
def bI (b : Bool) : Int := Bool.rec (.ofNat 0) (.ofNat 1) b
def bEq (a b : Bool) : Bool := Bool.rec (Bool.not b) b a
def sEq (s t : List Nat) : Bool :=
 List.rec (motive := fun _ => List Nat → Bool) (fun t => Bool.not (isN t)) (fun a _ ih t => List.rec (motive := fun _ => Bool) false (fun b r _ => Bool.rec (motive := fun _ => Bool) false (ih r) (Nat.beq a b)) t) s t
def sLt (s t : List Nat) : Bool :=
 List.rec (motive := fun _ => List Nat → Bool) (fun t => isN t) (fun a _ ih t => List.rec (motive := fun _ => Bool) false (fun b r _ => Bool.rec (motive := fun _ => Bool) (Nat.blt a b) (ih r) (Nat.beq a b)) t) s t
def eqL {α : Type} (f : α → α → Bool) (l m : List α) : Bool :=
 List.rec (motive := fun _ => List α → Bool) (fun m => Bool.not (isN m)) (fun a _ ih m => List.rec (motive := fun _ => Bool) false (fun b r _ => Bool.rec (motive := fun _ => Bool) false (ih r) (f a b)) m) l m
def eqP : Nat → P → P → Bool := fun n => Nat.rec (motive := fun _ => P → P → Bool) (fun _ _ => false)
 (fun _ ih x y => P.cs x
  (P.cs y true (fun _ => false) (fun _ => false) (fun _ => false) (fun _ _ => false) (fun _ => false))
  (fun a => P.cs y false (fun b => bEq a b) (fun j => iEq (bI a) j) (fun _ => false) (fun _ _ => false) (fun _ => false))
  (fun i => P.cs y false (fun b => iEq i (bI b)) (fun j => iEq i j) (fun _ => false) (fun _ _ => false) (fun _ => false))
  (fun s => P.cs y false (fun _ => false) (fun _ => false) (fun t => sEq s t) (fun _ _ => false) (fun _ => false))
  (fun _ l => P.cs y false (fun _ => false) (fun _ => false) (fun _ => false) (fun _ m => eqL ih l m) (fun _ => false))
  (fun _ => false)) n
def fl (d : Nat) : Bool := Nat.ble 100 d
def unf (d : Nat) : Nat := Bool.rec (motive := fun _ => Nat) d (Nat.sub d 100) (fl d)
def dep (x : P) : Nat := P.cs x 0 (fun _ => 0) (fun _ => 0) (fun _ => 0) (fun d _ => unf d) (fun _ => 1000)
def maxN (a b : Nat) : Nat := Bool.rec a b (Nat.ble a b)
def dmx (l : List P) : Nat := List.rec 1 (fun a _ ih => fN (Nat.succ (dep a)) fun d => fN ih fun eQ => maxN d eQ) l
def deepest : Nat := 50

def stp {α : Sort u} (k : Nat) (a : α) (b cQ : Nat → α) : α := Bool.rec (motive := fun _ => α) (Bool.rec (motive := fun _ => α) (cQ (Nat.sub (Nat.div k 2) 1)) (b (Nat.div k 2)) (Nat.beq (Nat.mod k 2) 1)) a (Nat.beq k 0)
def Tr.get (t : Tr) (k : Nat) : Option O := Tr.rec (motive := fun _ => Nat → Option O) (fun _ => none) (fun o _ _ gl gr k => stp k o gl gr) t k
def fT {α : Sort u} (t : Tr) (k : Tr → α) : α := Tr.rec (motive := fun _ => α) (k .lf) (fun o l r _ _ => k (.nd o l r)) t
def Tr.path (x : O) (f k : Nat) : Tr := Nat.rec (motive := fun _ => Nat → Tr) (fun _ => .nd (some x) .lf .lf) (fun _ ih k => stp k (.nd (some x) .lf .lf) (fun j => .nd none (ih j) .lf) (fun j => .nd none .lf (ih j))) f k
def Tr.put (t : Tr) (k : Nat) (x : O) : Tr := Tr.rec (motive := fun _ => Nat → Tr) (fun k => Tr.path x (Nat.succ k) k) (fun o l r pl pr k => stp k (.nd (some x) l r) (fun j => fT (pl j) fun l => .nd o l r) (fun j => fT (pr j) fun r => .nd o l r)) t k
def EH.get (h : EH) (k : Nat) : Option O := EH.rec (fun n t => Bool.rec (motive := fun _ => Option O) none (t.get k) (Nat.blt k n)) h
def EH.put (h : EH) (k : Nat) (o : O) : EH := EH.rec (fun n t => fT (t.put (Nat.sub (Nat.sub n 1) (Nat.sub (Nat.sub n 1) k)) o) fun t => ⟨n, t⟩) h
def EH.new {α : Sort u} (h : EH) (o : O) (k : Nat → EH → α) : α := EH.rec (fun n t => fN n fun n => fT (t.put n o) fun t => k n ⟨Nat.succ n, t⟩) h
def e0 : EH := ⟨0, .lf⟩
def O.cs {α : Sort u} (o : O) (a : List D → α) (b : Nat → List (P × D) → α) (cQ : List P → α) (d : Nat → List (Nat × D) → α) (eQ : Nat → P → α) : α := O.rec a b cQ d eQ o
def jAw {α : Sort u} (h : EH) (k : Nat) (y : List D → α) (n : α) : α := Option.rec (motive := fun _ => α) n (fun o => O.cs o y (fun _ _ => n) (fun _ => n) (fun _ _ => n) (fun _ _ => n)) (h.get k)

def jC7 (l : List D) : Option (List P) := List.rec (motive := fun _ => Option (List P)) (some []) (fun a _ ih => D.cs a (fun x => Option.rec (motive := fun _ => Option (List P)) none (fun r => some (x :: r)) ih) (fun _ => none) (fun _ => none)) l
def mkT (l : List D) : VR := gd (jAG l) (Option.rec (motive := fun _ => VR) (.val (.mt l)) (fun r => fN (dmx r) fun d => gd (Nat.ble d deepest) (.val (.p (.tup d r)))) (jC7 l))
def flg (x : D) : D := D.cs x (fun p => P.cs p x (fun _ => x) (fun _ => x) (fun _ => x) (fun d l => fN (Nat.add d 100) fun d => .p (.tup d l)) (fun _ => x)) (fun _ => x) (fun _ => x)
def mkTc (l : List D) : VR := VR.rec (motive := fun _ => VR) (fun v => .val (flg v)) (fun o => .new o) .bad (mkT l)
def upP (l : List P) : List D := List.rec [] (fun a _ ih => .p a :: ih) l
def tupOf {α : Sort u} (x : D) (y : List D → α) (n : α) : α := D.cs x (fun p => P.cs p n (fun _ => n) (fun _ => n) (fun _ => n) (fun _ l => y (upP l)) (fun _ => n)) (fun _ => n) (fun l => y l)
def seqOf {α : Sort u} (h : EH) (x : D) (y : List D → α) (n : α) : α := D.cs x (fun p => P.cs p n (fun _ => n) (fun _ => n) (fun _ => n) (fun _ l => y (upP l)) (fun _ => n)) (fun k => jAw h k y n) (fun l => y l)

def bE (r : RE) (f : D → EH → RE) : RE := RE.rec (motive := fun _ => RE) f (fun cQ x h => .ex cQ x h) .bad r
def bES (σQ : Env) (r : RE) (f : D → EH → RS) : RS := RE.rec (motive := fun _ => RS) f (fun cQ x h => .ex cQ x σQ h) .bad r
def bEL (r : RE) (f : D → EH → RL) : RL := RE.rec (motive := fun _ => RL) f (fun cQ x h => .ex cQ x h) .bad r
def bL (r : RL) (f : List D → EH → RE) : RE := RL.rec (motive := fun _ => RE) f (fun cQ x h => .ex cQ x h) .bad r
def bLL (r : RL) (f : List D → EH → RL) : RL := RL.rec (motive := fun _ => RL) f (fun cQ x h => .ex cQ x h) .bad r
def VR.re (r : VR) (h : EH) : RE := VR.rec (motive := fun _ => RE) (fun v => .ok v h) (fun o => h.new o fun k h => .ok (.ref k) h) .bad r
def cVar (i : Nat) : CE := fun _ σQ h => Option.rec (motive := fun _ => RE) .bad (fun o => Option.rec (motive := fun _ => RE) .bad (fun v => .ok v h) o) (nth σQ i)
def cC (x : P) : CE := fun _ _ h => .ok (.p x) h
def cNil : CL := fun _ _ h => .ok [] h
def jAb (a : CE) (b : CL) : CL := fun Φ σQ h => bEL (a Φ σQ h) fun x h => fD x fun x => bLL (b Φ σQ h) fun r h => .ok (x :: r) h
def cTup (l : CL) : CE := fun Φ σQ h => bL (l Φ σQ h) fun r h => (mkTc r).re h
def cLst (l : CL) : CE := fun Φ σQ h => bL (l Φ σQ h) fun r h => (gd (jAG r) (.new (.lst r))).re h
def tru (h : EH) (x : D) : Option Bool :=
 D.cs x (fun y => P.cs y (some false) (fun b => some b) (fun i => some (Bool.not (iEq i (.ofNat 0)))) (fun s => some (isN s)) (fun _ l => some (isN l)) (fun _ => none))
  (fun k => Option.rec (motive := fun _ => Option Bool) none (fun o => O.cs o (fun l => some (isN l)) (fun _ l => none) (fun l => none) (fun _ _ => none) (fun _ _ => none)) (h.get k))
  (fun l => some (isN l))
def tE {α : Sort u} (h : EH) (x : D) (y n b : α) : α := Option.rec (motive := fun _ => α) b (fun q => Bool.rec (motive := fun _ => α) n y q) (tru h x)
def cIf (cQ a b : CE) : CE := fun Φ σQ h => bE (cQ Φ σQ h) fun x h => tE h x (a Φ σQ h) (b Φ σQ h) .bad
def cAnd (a b : CE) : CE := fun Φ σQ h => bE (a Φ σQ h) fun x h => tE h x (b Φ σQ h) (.ok x h) .bad
def cOr (a b : CE) : CE := fun Φ σQ h => bE (a Φ σQ h) fun x h => tE h x (.ok x h) (b Φ σQ h) .bad
def cNot (a : CE) : CE := fun Φ σQ h => bE (a Φ σQ h) fun x h => tE h x (.ok (.p (.bl false)) h) (.ok (.p (.bl true)) h) .bad
def cOp1 (f : EH → D → VR) (a : CE) : CE := fun Φ σQ h => bE (a Φ σQ h) fun x h => (f h x).re h
def cOp2 (f : EH → D → D → VR) (a b : CE) : CE := fun Φ σQ h => bE (a Φ σQ h) fun x h => bE (b Φ σQ h) fun y h => (f h x y).re h

def vP (x : P) : VR := .val (.p x)
def pOf {α : Sort u} (x : D) (y : P → α) (n : α) : α := D.cs x y (fun _ => n) (fun _ => n)
def jAI {α : Sort u} (x : D) (y : Int → α) (n : α) : α := pOf x (fun p => P.cs p n (fun _ => n) y (fun _ => n) (fun _ _ => n) (fun _ => n)) n
def strOf {α : Sort u} (x : D) (y : List Nat → α) (n : α) : α := pOf x (fun p => P.cs p n (fun _ => n) (fun _ => n) y (fun _ _ => n) (fun _ => n)) n
def catT (d : Nat) (l : List P) (y : D) : VR :=
 D.cs y (fun q => P.cs q .bad (fun _ => .bad) (fun _ => .bad) (fun _ => .bad) (fun eQ m => gd (jAG (app l m)) (fN (maxN (unf d) (unf eQ)) fun f => vP (.tup f (app l m)))) (fun _ => .bad)) (fun _ => .bad) (fun m => mkT (app (upP l) m))
def oAdd (h : EH) (x y : D) : VR :=
 D.cs x
  (fun p => P.cs p .bad (fun _ => .bad)
   (fun i => jAI y (fun j => fI (Int.add i j) fun r => vP (.int r)) .bad)
   (fun s => strOf y (fun t => gd (jAG (app s t)) (vP (.str (app s t)))) .bad)
   (fun d l => catT d l y)
   (fun _ => .bad))
  (fun k => jAw h k (fun l => D.cs y (fun _ => .bad) (fun j => jAw h j (fun m => gd (jAG (app l m)) (.new (.lst (app l m)))) .bad) (fun _ => .bad)) .bad)
  (fun l => tupOf y (fun m => mkT (app l m)) .bad)
def oSub (_ : EH) (x y : D) : VR := jAI x (fun i => jAI y (fun j => fI (Int.sub i j) fun r => vP (.int r)) .bad) .bad
def n64 : Nat := 18446744073709551616
def oMul (h : EH) (x y : D) : VR :=
 D.cs x
  (fun p => P.cs p .bad (fun _ => .bad)
   (fun i => jAI y (fun j => gd (Bool.or (iSm i n64) (iSm j n64)) (fI (Int.mul i j) fun r => vP (.int r))) .bad)
   (fun s => .bad)
   (fun d l => jAI y (fun j => gd (Bool.and (isN l) (Bool.and (iLe (.ofNat 2) j) (iLe j (.ofNat 1000)))) (gd (jEs l 1000) (fN (unf d) fun d => vP (.tup d (repL l j.toNat))))) .bad)
   (fun _ => .bad))
  (fun k => jAw h k (fun l => jAI y (fun j => gd (iSm j 1000000) (gd (jAG (repL l j.toNat)) (.new (.lst (repL l j.toNat))))) .bad) .bad)
  (fun l => .bad)
def oMod (_ : EH) (x y : D) : VR := jAI x (fun i => jAI y (fun j => gd (Bool.not (iEq j (.ofNat 0))) (fI (Int.fmod i j) fun r => vP (.int r))) .bad) .bad
def oDiv (_ : EH) (x y : D) : VR := jAI x (fun i => jAI y (fun j => gd (Bool.and (Bool.not (iEq j (.ofNat 0))) (iSm j 1073741824)) (fI (Int.fdiv i j) fun r => vP (.int r))) .bad) .bad
def oPow (_ : EH) (x y : D) : VR := jAI x (fun i => jAI y (fun j => gd (Bool.and (iLe (.ofNat 0) j) (Bool.and (iLe j (.ofNat 1000000)) (iSm i n64))) (fI (i ^ j.toNat) fun r => vP (.int r))) .bad) .bad
def oNeg (_ : EH) (x : D) : VR := jAI x (fun i => fI (Int.neg i) fun r => vP (.int r)) .bad

inductive Qd where
 | non | bl (b : Bool) | int (i : Int) | str (s : List Nat) | lst (l : List Qd) | tup (l : List Qd)
def Qd.cs {α : Sort u} (x : Qd) (a : α) (b : Bool → α) (cQ : Int → α) (d : List Nat → α) (eQ : List Qd → α) (f : List Qd → α) : α :=
 Qd.rec (motive_1 := fun _ => α) (motive_2 := fun _ => PUnit) a b cQ d (fun l _ => eQ l) (fun l _ => f l) PUnit.unit (fun _ _ _ _ => PUnit.unit) x
def eqQ : Nat → Qd → Qd → Bool := fun n => Nat.rec (motive := fun _ => Qd → Qd → Bool) (fun _ _ => false)
 (fun _ ih x y => Qd.cs x
  (Qd.cs y true (fun _ => false) (fun _ => false) (fun _ => false) (fun _ => false) (fun _ => false))
  (fun a => Qd.cs y false (fun b => bEq a b) (fun j => iEq (bI a) j) (fun _ => false) (fun _ => false) (fun _ => false))
  (fun i => Qd.cs y false (fun b => iEq i (bI b)) (fun j => iEq i j) (fun _ => false) (fun _ => false) (fun _ => false))
  (fun s => Qd.cs y false (fun _ => false) (fun _ => false) (fun t => sEq s t) (fun _ => false) (fun _ => false))
  (fun l => Qd.cs y false (fun _ => false) (fun _ => false) (fun _ => false) (fun m => eqL ih l m) (fun _ => false))
  (fun l => Qd.cs y false (fun _ => false) (fun _ => false) (fun _ => false) (fun _ => false) (fun m => eqL ih l m))) n
def allO {α : Type} {β : Type} (f : α → Option β) (l : List α) : Option (List β) :=
 List.rec (motive := fun _ => Option (List β)) (some []) (fun a _ ih => Option.rec (motive := fun _ => Option (List β)) none (fun b => Option.rec (motive := fun _ => Option (List β)) none (fun r => some (b :: r)) ih) (f a)) l
def pQ : Nat → P → Option Qd := fun n => Nat.rec (motive := fun _ => P → Option Qd) (fun _ => none)
 (fun _ ih x => P.cs x (some .non) (fun b => some (.bl b)) (fun i => some (.int i)) (fun s => some (.str s)) (fun _ l => Option.rec (motive := fun _ => Option Qd) none (fun r => some (.tup r)) (allO ih l)) (fun _ => none)) n
def dQ (h : EH) : Nat → D → Option Qd := fun n => Nat.rec (motive := fun _ => D → Option Qd) (fun _ => none)
 (fun m ih x => D.cs x (fun p => pQ m p)
  (fun k => jAw h k (fun l => Option.rec (motive := fun _ => Option Qd) none (fun r => some (.lst r)) (allO ih l)) none)
  (fun l => Option.rec (motive := fun _ => Option Qd) none (fun r => some (.tup r)) (allO ih l))) n
def isFn (x : P) : Bool := P.cs x false (fun _ => false) (fun _ => false) (fun _ => false) (fun _ _ => false) (fun _ => true)
def eqW {α : Sort u} (h : EH) (x y : D) (k : Bool → α) (n : α) : α :=
 let slow := fun (_ : PUnit.{1}) => Option.rec (motive := fun _ => α) n (fun a => Option.rec (motive := fun _ => α) n (fun b => fB (eqQ 60 a b) k) (dQ h 50 y)) (dQ h 50 x)
 D.cs x (fun a => D.cs y (fun b => Bool.rec (motive := fun _ => α) (fB (eqP 60 a b) k) n (Bool.or (isFn a) (isFn b))) (fun _ => slow PUnit.unit) (fun _ => slow PUnit.unit)) (fun _ => slow PUnit.unit) (fun _ => slow PUnit.unit)
def oEq (h : EH) (x y : D) : VR := eqW h x y (fun r => vP (.bl r)) .bad
def oNe (h : EH) (x y : D) : VR := eqW h x y (fun r => vP (.bl (Bool.not r))) .bad
def ordW (fi : Int → Int → Bool) (fs : List Nat → List Nat → Bool) (x y : D) : VR :=
 pOf x (fun p => P.cs p .bad (fun _ => .bad) (fun i => jAI y (fun j => fB (fi i j) fun r => vP (.bl r)) .bad) (fun s => strOf y (fun t => fB (fs s t) fun r => vP (.bl r)) .bad) (fun _ _ => .bad) (fun _ => .bad)) .bad
def oLt (_ : EH) (x y : D) : VR := ordW iLt sLt x y
def oLe (_ : EH) (x y : D) : VR := ordW iLe (fun s t => Bool.not (sLt t s)) x y
def oGt (_ : EH) (x y : D) : VR := ordW (fun i j => iLt j i) (fun s t => sLt t s) x y
def oGe (_ : EH) (x y : D) : VR := ordW (fun i j => iLe j i) (fun s t => Bool.not (sLt s t)) x y
def jCk (x : P) : Bool := P.cs x true (fun _ => false) (fun _ => false) (fun _ => false) (fun _ _ => false) (fun _ => false)
def isNon (x : D) : Bool := D.cs x jCk (fun _ => false) (fun _ => false)
def oIs (_ : EH) (x y : D) : VR := gd (isNon y) (fB (isNon x) fun r => vP (.bl r))
def jDZ (f g : EH → D → D → VR) (a b cQ : CE) : CE := fun Φ σQ h => bE (a Φ σQ h) fun x h => bE (b Φ σQ h) fun y h => bE ((f h x y).re h) fun zQ h =>
 pOf zQ (fun p => P.cs p .bad (fun q => Bool.rec (motive := fun _ => RE) (.ok (.p (.bl false)) h) (bE (cQ Φ σQ h) fun w h => (g h y w).re h) q) (fun _ => .bad) (fun _ => .bad) (fun _ _ => .bad) (fun _ => .bad)) .bad

def atD {α : Type} (l : List α) (i : Int) : Option α := Int.rec (motive := fun _ => Option α) (fun k => nth l k) (fun k => fN (lenL l) fun n => Bool.rec (motive := fun _ => Option α) none (nth l (Nat.sub n (Nat.succ k))) (Nat.ble (Nat.succ k) n)) i
def ixD {α : Type} (l : List α) (i : Int) : Option Nat := fN (lenL l) fun n => Int.rec (motive := fun _ => Option Nat) (fun k => Bool.rec (motive := fun _ => Option Nat) none (some k) (Nat.blt k n)) (fun k => Bool.rec (motive := fun _ => Option Nat) none (some (Nat.sub n (Nat.succ k))) (Nat.ble (Nat.succ k) n)) i
def oV {α : Type} (o : Option α) (f : α → VR) : VR := Option.rec (motive := fun _ => VR) .bad f o
def oIx (h : EH) (x y : D) : VR :=
 D.cs x
  (fun p => P.cs p .bad (fun _ => .bad) (fun _ => .bad) (fun s => jAI y (fun i => oV (atD s i) fun cQ => vP (.str [cQ])) .bad) (fun _ l => jAI y (fun i => oV (atD l i) vP) .bad) (fun _ => .bad))
  (fun k => jAw h k (fun l => jAI y (fun i => oV (atD l i) .val) .bad) .bad)
  (fun l => jAI y (fun i => oV (atD l i) .val) .bad)
def sIxD (n d : Nat) (o : Option Int) : Nat := Option.rec (motive := fun _ => Nat) d (fun i => Int.rec (motive := fun _ => Nat) (fun k => Bool.rec (motive := fun _ => Nat) n k (Nat.ble k n)) (fun k => Nat.sub n (Nat.succ k)) i) o
def cutD {α : Type} (l : List α) (lo hi : Option Int) : List α := fN (lenL l) fun n => fN (sIxD n 0 lo) fun a => fN (sIxD n n hi) fun b => takeL (dropL l a) (Nat.sub b a)
abbrev CO := Ph → Env → EH → (Option Int → EH → RE) → RE
def coN : CO := fun _ _ h k => k none h
def coS (cQ : CE) : CO := fun Φ σQ h k => bE (cQ Φ σQ h) fun x h => jAI x (fun i => k (some i) h) .bad
abbrev CT := D → Env → Option Env
abbrev CTs := List D → Env → Option Env
def jAq (i : Nat) : CT := fun v σQ => fD v fun v => some (setN σQ i (some v))
def tNil : CTs := fun l σQ => List.rec (motive := fun _ => Option Env) (some σQ) (fun _ _ _ => none) l
def jAF (a : CT) (b : CTs) : CTs := fun l σQ => List.rec (motive := fun _ => Option Env) none (fun x r _ => Option.rec (motive := fun _ => Option Env) none (fun σQ => b r σQ) (a x σQ)) l
def tTup (t : CTs) : CT := fun v σQ => tupOf v (fun l => t l σQ) none
def jA1 (i : Nat) (eQ : CE) : CS := fun Φ σQ h => bES σQ (eQ Φ σQ h) fun x h => fD x fun x => .nx (setN σQ i (some x)) h
def sSet (t : CT) (eQ : CE) : CS := fun Φ σQ h => bES σQ (eQ Φ σQ h) fun x h => Option.rec (motive := fun _ => RS) .bad (fun σQ => .nx σQ h) (t x σQ)
def sExpr (eQ : CE) : CS := fun Φ σQ h => bES σQ (eQ Φ σQ h) fun _ h => .nx σQ h
def sRet (eQ : CE) : CS := fun Φ σQ h => bES σQ (eQ Φ σQ h) fun x h => fD x fun x => .rt x h
def sIf (cQ : CE) (a b : CS) : CS := fun Φ σQ h => bES σQ (cQ Φ σQ h) fun x h => tE h x (a Φ σQ h) (b Φ σQ h) .bad
def sNop : CS := fun _ σQ h => .nx σQ h
def bSS (r : RS) (f : Env → EH → RS) : RS := RS.rec (motive := fun _ => RS) f (fun v h => .rt v h) (fun σQ h => .bk σQ h) (fun σQ h => .ct σQ h) (fun cQ v σQ h => .ex cQ v σQ h) .bad r
def sSeq (a b : CS) : CS := fun Φ σQ h => bSS (a Φ σQ h) fun σQ h => b Φ σQ h
def setD {α : Sort u} (h : EH) (o i v : D) (k : EH → α) (n : α) : α :=
 D.cs o (fun _ => n) (fun a => jAw h a (fun l => jAI i (fun j => Option.rec (motive := fun _ => α) n (fun m => k (h.put a (.lst (setN l m v)))) (ixD l j)) n) n) (fun _ => n)
def big : Nat := 100000000
def turnS (r : RS) (f : Env → EH → RS) : RS := RS.rec (motive := fun _ => RS) f (fun v h => .rt v h) (fun σQ h => .nx σQ h) (fun σQ h => f σQ h) (fun cQ v σQ h => .ex cQ v σQ h) .bad r
def oLen (h : EH) (x : D) : VR :=
 D.cs x (fun p => P.cs p .bad (fun _ => .bad) (fun _ => .bad) (fun s => fN (lenL s) fun n => vP (.int (.ofNat n))) (fun _ l => fN (lenL l) fun n => vP (.int (.ofNat n))) (fun _ => .bad))
  (fun k => jAw h k (fun l => fN (lenL l) fun n => vP (.int (.ofNat n))) .bad) (fun l => fN (lenL l) fun n => vP (.int (.ofNat n)))
def oTup (h : EH) (x : D) : VR := D.cs x (fun p => P.cs p .bad (fun _ => .bad) (fun _ => .bad) (fun _ => .bad) (fun d l => vP (.tup d l)) (fun _ => .bad)) (fun k => jAw h k mkTc .bad) (fun l => mkT l)
def oLst (h : EH) (x : D) : VR := seqOf h x (fun l => .new (.lst l)) .bad
def jC3 (l : List D) : Option (List Int) :=
 List.rec (motive := fun _ => Option (List Int)) (some []) (fun a _ ih => jAI a (fun b => Option.rec (motive := fun _ => Option (List Int)) none (fun r => some (b :: r)) ih) none) l
def sumI (l : List Int) : Int := List.rec (.ofNat 0) (fun a _ ih => Int.add a ih) l
def oSum (h : EH) (x : D) : VR := D.cs x (fun _ => .bad) (fun k => jAw h k (fun l => oV (jC3 l) fun r => fI (sumI r) fun b => vP (.int b)) .bad) (fun _ => .bad)
def oInt (_ : EH) (x : D) : VR := pOf x (fun p => P.cs p .bad (fun b => vP (.int (bI b))) (fun i => vP (.int i)) (fun _ => .bad) (fun _ _ => .bad) (fun _ => .bad)) .bad
def oAbs (_ : EH) (x : D) : VR := jAI x (fun i => fN i.natAbs fun n => vP (.int (.ofNat n))) .bad
def kindOf (h : EH) (x : D) : Nat := D.cs x (fun p => P.cs p 0 (fun _ => 1) (fun _ => 2) (fun _ => 3) (fun _ _ => 4) (fun _ => 9)) (fun k => jAw h k (fun _ => 5) 9) (fun _ => 4)
def isK (k j : Nat) : Bool := Bool.or (Nat.beq k j) (Bool.and (Nat.beq k 1) (Nat.beq j 2))
def oIsi (js : List Nat) (h : EH) (x : D) : VR := fN (kindOf h x) fun k => gd (Nat.blt k 9) (fB (List.rec (motive := fun _ => Bool) false (fun j _ ih => Bool.rec (motive := fun _ => Bool) ih true (isK k j)) js) fun b => vP (.bl b))

def shD (n : Nat) (x : D) : D := D.rec (motive_1 := fun _ => D) (motive_2 := fun _ => List D) (fun x => .p x) (fun k => .ref (Nat.add k n)) (fun _ ih => .mt ih) [] (fun _ _ a b => a :: b) x
def jB2 (l : List D) : Bool := List.rec true (fun a _ ih => D.cs a (fun _ => ih) (fun _ => false) (fun _ => false)) l
def shO (n : Nat) (o : O) : O := O.cs o (fun l => .lst (mapL (shD n) l)) (fun v l => .dic v (mapL (fun q => (q.1, shD n q.2)) l)) (fun l => .set l) (fun cQ fs => .ins cQ (mapL (fun q => (q.1, shD n q.2)) fs)) (fun cQ x => .exc cQ x)
def tgd (t : Tr) (k : Nat) : O := Option.rec (.set []) (fun o => o) (t.get k)
def impA (t : Tr) (n0 n m : Nat) (h : EH) : EH := Nat.rec (motive := fun _ => Nat → EH → EH) (fun _ h => h) (fun _ ih m h => h.new (shO n0 (tgd t m)) fun _ h => fN (Nat.succ m) fun m => ih m h) n m h
def jDs (v : D) (h' h : EH) : RE := EH.rec (fun n t => EH.rec (fun n' t' => .ok (shD n v) (impA t' n n' 0 ⟨n, t⟩)) h') h
def jDr (l : List (P × D)) : Bool := List.rec true (fun a _ ih => D.cs a.2 (fun _ => ih) (fun _ => false) (fun _ => false)) l
def lone (o : O) : Bool := O.cs o (fun l => jB2 l) (fun v l => Bool.rec (motive := fun _ => Bool) false (jDr l) (Nat.blt v 2)) (fun _ => false) (fun _ _ => false) (fun _ _ => false)
def jBh {α : Sort u} (h : EH) (k : Nat) (y : O → α) (n : α) : α := Option.rec (motive := fun _ => α) n (fun o => Bool.rec (motive := fun _ => α) n (y o) (lone o)) (h.get k)
def impD (v : D) (h' h : EH) : RE := D.cs v (fun x => .ok (.p x) h) (fun k => jBh h' k (fun o => h.new o fun k h => .ok (.ref k) h) (jDs v h' h)) (fun _ => jDs v h' h)
def jA8 (φ : List D → EH → RE) (l : List D) (h : EH) : RE :=
 Bool.rec (motive := fun _ => RE) (φ l h) (RE.rec (motive := fun _ => RE) (fun v h' => impD v h' h) (fun cQ x _ => .ex cQ x h) .bad (φ l e0)) (jB2 l)
def jAs (k : Nat) (l : CL) : CE := fun Φ σQ h => bL (l Φ σQ h) fun r h => jA8 (Φ k) r h
structure Fn where
 ar : Nat
 sl : Nat
 body : CS
def nones (n : Nat) : Env := Nat.rec (motive := fun _ => Env) [] (fun _ ih => none :: ih) n
def somes (l : List D) (r : Env) : Env := List.rec (motive := fun _ => Env) r (fun a _ ih => some a :: ih) l
def endS (r : RS) : RE := RS.rec (motive := fun _ => RE) (fun _ h => .ok (.p .non) h) (fun v h => .ok v h) (fun _ _ => .bad) (fun _ _ => .bad) (fun cQ x _ h => .ex cQ x h) .bad r
def runF (f : Fn) (Φ : Ph) (l : List D) (h : EH) : RE := Bool.rec (motive := fun _ => RE) .bad (endS (f.body Φ (somes l (nones (Nat.sub f.sl f.ar))) h)) (Nat.beq (lenL l) f.ar)
def jEB (r : RE) : RE := RE.rec (motive := fun _ => RE) (fun v h => D.cs v (fun x => .ok (.p x) e0) (fun k => jBh h k (fun o => e0.new o fun k h => .ok (.ref k) h) (.ok v h)) (fun _ => .ok v h)) (fun cQ x _ => .ex cQ x e0) .bad r
def jFi (l : List D) (h : EH) : Bool := EH.rec (motive := fun _ => Bool) (fun n _ => Bool.rec (motive := fun _ => Bool) false (jB2 l) (Nat.beq n 0)) h
def runT (f : Fn) (Φ : Ph) (l : List D) (h : EH) : RE := Bool.rec (motive := fun _ => RE) (runF f Φ l h) (jEB (runF f Φ l e0)) (jFi l h)
def lev (T : Nat → Option Fn) : Nat → Ph := fun n => Nat.rec (motive := fun _ => Ph) (fun _ _ _ => .bad) (fun _ ih f l h => Option.rec (motive := fun _ => RE) .bad (fun g => runT g ih l h) (T f)) n

def pickL {α : Type u} (ps : List Nat) (l : List α) : List α := List.rec [] (fun i _ ih => Option.rec ih (fun x => x :: ih) (nth l i)) ps
def jFU (k n m : Nat) (ps : List Nat) (df : List P) (l lk : CL) : CE := fun Φ σQ h => bL (l Φ σQ h) fun r h => bL (lk Φ σQ h) fun q h =>
 Bool.rec (motive := fun _ => RE) .bad (jA8 (Φ k) (pickL ps (app r (app q (upP df)))) h) (Bool.and (Nat.beq (lenL r) n) (Nat.beq (lenL q) m))
def bB {α : Sort u} (b : Bool) (y n : α) : α := Bool.rec (motive := fun _ => α) n y b
def jBH {α : Sort u} (h : EH) (k : Nat) (y : Nat → List (P × D) → α) (n : α) : α := Option.rec (motive := fun _ => α) n (fun o => O.cs o (fun _ => n) y (fun _ => n) (fun _ _ => n) (fun _ _ => n)) (h.get k)
def jB4 {α : Sort u} (h : EH) (x : D) (y : Nat → Nat → List (P × D) → α) (n : α) : α := D.cs x (fun _ => n) (fun k => jBH h k (y k) n) (fun _ => n)
def unlH {α : Sort u} (k : Nat) (h : EH) (y : EH → α) (n : α) : α := jBH h k (fun v l => bB (Nat.ble 2 v) (y (h.put k (.dic (Nat.sub v 2) l))) n) n
def unlS (k : Nat) (r : RS) : RS := RS.rec (motive := fun _ => RS) (fun σQ h => unlH k h (fun h => .nx σQ h) .bad) (fun v h => unlH k h (fun h => .rt v h) .bad) (fun σQ h => unlH k h (fun h => .bk σQ h) .bad) (fun σQ h => unlH k h (fun h => .ct σQ h) .bad) (fun cQ x σQ h => .ex cQ x σQ h) .bad r
def unlL (k : Nat) (r : RL) : RL := RL.rec (motive := fun _ => RL) (fun l h => unlH k h (fun h => .ok l h) .bad) (fun cQ x h => .ex cQ x h) .bad r
inductive Sc where
 | l (k : Nat) | t (r : List D)
inductive It where
 | seq (l : List D) | lst (k : Nat) (i : Nat) | rng (i : Int) (n : Nat) | enum (i : Nat) (s : Sc) | zip (s t : Sc) (i : Nat) | zip3 (s t u : Sc) (i : Nat) | rev (k : Nat) (i : Nat) | dic (m k : Nat) (lk : Bool) (l : List (P × D))
inductive Nx where
 | stop | item (x : D) (t : It) | two (l : List D) (t : It) | bad
inductive RI where
 | ok (t : It) (h : EH) | ex (cQ : Nat) (x : P) (h : EH) | bad
abbrev CI := Ph → Env → EH → RI
def oN {α : Type} (o : Option α) (f : α → Nx) : Nx := Option.rec (motive := fun _ => Nx) .stop f o
def Sc.at (s : Sc) (h : EH) (i : Nat) (y : D → Sc → Nx) (n : Nx) : Nx :=
 Sc.rec (motive := fun _ => Nx) (fun k => jAw h k (fun l => Option.rec (motive := fun _ => Nx) (Bool.rec .bad n (Nat.beq (lenL l) i)) (fun x => y x (.l k)) (nth l i)) .bad)
  (fun r => List.rec (motive := fun _ => Nx) n (fun x r _ => y x (.t r)) r) s
def It.next (t : It) (h : EH) : Nx :=
 It.rec (motive := fun _ => Nx)
  (fun l => List.rec (motive := fun _ => Nx) .stop (fun x r _ => .item x (.seq r)) l)
  (fun k i => jAw h k (fun l => oN (nth l i) fun x => fN (Nat.succ i) fun j => .item x (.lst k j)) .bad)
  (fun i n => Nat.rec (motive := fun _ => Nx) .stop (fun m _ => fI i fun i => .item (.p (.int i)) (.rng (Int.add i 1) m)) n)
  (fun i s => fN i fun i => s.at h i (fun x s => .two [.p (.int (.ofNat i)), x] (.enum (Nat.succ i) s)) .stop)
  (fun s t i => fN i fun i => s.at h i (fun x s => t.at h i (fun y t => .two [x, y] (.zip s t (Nat.succ i))) .stop) (t.at h i (fun _ _ => .stop) .stop))
  (fun s t u i => fN i fun i => s.at h i (fun x s => t.at h i (fun y t => u.at h i (fun zQ u => .two [x, y, zQ] (.zip3 s t u (Nat.succ i))) .stop) (u.at h i (fun _ _ => .stop) .stop)) (t.at h i (fun _ _ => u.at h i (fun _ _ => .stop) .stop) (u.at h i (fun _ _ => .stop) .stop)))
  (fun k i => Nat.rec (motive := fun _ => Nx) .stop (fun m _ => jAw h k (fun l => Option.rec (motive := fun _ => Nx) .bad (fun x => .item x (.rev k m)) (nth l m)) .bad) i)
  (fun m k lk l => List.rec (motive := fun _ => Nx) .stop (fun x r _ => Nat.rec (motive := fun _ => Nx) (.item (.p x.1) (.dic 0 k lk r)) (fun m _ => Nat.rec (motive := fun _ => Nx) (.item x.2 (.dic 1 k lk r)) (fun _ _ => .two [.p x.1, x.2] (.dic 2 k lk r)) m) m) l) t
def unlT {α : Sort u} (t : It) (f : Nat → α → α) (r : α) : α := It.rec (motive := fun _ => α) (fun _ => r) (fun _ _ => r) (fun _ _ => r) (fun _ _ => r) (fun _ _ _ => r) (fun _ _ _ _ => r) (fun _ _ => r) (fun _ k lk _ => bB lk (f k r) r) t
def bEI (r : RE) (f : D → EH → RI) : RI := RE.rec (motive := fun _ => RI) f (fun cQ x h => .ex cQ x h) .bad r
def bLI (r : RL) (f : List D → EH → RI) : RI := RL.rec (motive := fun _ => RI) f (fun cQ x h => .ex cQ x h) .bad r
def scOf {α : Sort u} (h : EH) (x : D) (y : Sc → α) (n : α) : α := D.cs x (fun p => P.cs p n (fun _ => n) (fun _ => n) (fun _ => n) (fun _ l => y (.t (upP l))) (fun _ => n)) (fun k => jAw h k (fun _ => y (.l k)) n) (fun l => y (.t l))
def iDicT (m k v : Nat) (l : List (P × D)) (h : EH) : RI := bB (Nat.blt v 2) (.ok (.dic m k true l) (h.put k (.dic (Nat.add v 2) l))) (.ok (.dic m k false l) h)
def jEl (cQ : CE) : CI := fun Φ σQ h => bEI (cQ Φ σQ h) fun x h => jB4 h x (fun k v l => iDicT 0 k v l h) (scOf h x (fun s => Sc.rec (motive := fun _ => RI) (fun k => .ok (.lst k 0) h) (fun l => .ok (.seq l) h) s) .bad)
def i62 (i : Int) : Bool := iSm i 4611686018427387904
def i1 {α : Sort u} (l : List D) (y : D → α) (n : α) : α := List.rec (motive := fun _ => α) n (fun x r _ => Bool.rec (motive := fun _ => α) (y x) n (isN r)) l
def i2 {α : Sort u} (l : List D) (y : D → D → α) (n : α) : α := List.rec (motive := fun _ => α) n (fun x r _ => i1 r (y x) n) l
def jEm (cQ : CL) : CI := fun Φ σQ h => bLI (cQ Φ σQ h) fun l h => i1 l (fun x => jAI x (fun i => Bool.rec (motive := fun _ => RI) .bad (fN i.toNat fun n => .ok (.rng (.ofNat 0) n) h) (i62 i)) .bad) .bad
def iRng2 (cQ : CL) : CI := fun Φ σQ h => bLI (cQ Φ σQ h) fun l h => i2 l (fun x y => jAI x (fun i => jAI y (fun j => Bool.rec (motive := fun _ => RI) .bad (fN (Int.sub j i).toNat fun n => .ok (.rng i n) h) (Bool.and (i62 i) (i62 j))) .bad) .bad) .bad
def iEnum (cQ : CL) : CI := fun Φ σQ h => bLI (cQ Φ σQ h) fun l h => i1 l (fun x => scOf h x (fun s => .ok (.enum 0 s) h) .bad) .bad
def iZip (cQ : CL) : CI := fun Φ σQ h => bLI (cQ Φ σQ h) fun l h => i2 l (fun x y => scOf h x (fun s => scOf h y (fun t => .ok (.zip s t 0) h) .bad) .bad) .bad
def tgt {α : Sort u} (tg : CT) (n : Nx) (σQ : Env) (stop : α) (f : Env → It → α) (b : α) : α :=
 Nx.rec (motive := fun _ => α) stop (fun x t => Option.rec (motive := fun _ => α) b (fun σQ => f σQ t) (tg x σQ))
  (fun l t => Option.rec (motive := fun _ => α) b (fun σQ => f σQ t) (VR.rec (motive := fun _ => Option Env) (fun v => tg v σQ) (fun _ => none) none (mkT l))) b n
def forN (tg : CT) (b : Env → EH → RS) : Nat → It → Env → EH → RS := fun n =>
 Nat.rec (motive := fun _ => It → Env → EH → RS) (fun _ _ _ => .bad) (fun _ ih t σQ h => tgt tg (t.next h) σQ (.nx σQ h) (fun σQ t => turnS (b σQ h) fun σQ h => ih t σQ h) .bad) n
def sFor (tg : CT) (it : CI) (b : CS) : CS := fun Φ σQ h => RI.rec (motive := fun _ => RS) (fun t h => unlT t unlS (forN tg (b Φ) big t σQ h)) (fun cQ x h => .ex cQ x σQ h) .bad (it Φ σQ h)
def bC (r : RE) (f : D → EH → RL) : RL := RE.rec (motive := fun _ => RL) f (fun _ _ _ => .bad) .bad r
def jBI (tg : CT) (cQ eQ : Env → EH → RE) (σQ : Env) : Nat → It → EH → List D → RL := fun n =>
 Nat.rec (motive := fun _ => It → EH → List D → RL) (fun _ _ _ => .bad)
  (fun _ ih t h acc => tgt tg (t.next h) σQ (.ok acc h) (fun σQ t => bC (cQ σQ h) fun b h => tE h b (bC (eQ σQ h) fun y h => fD y fun y => ih t h (y :: acc)) (ih t h acc) .bad) .bad) n
def jBj (l : List Nat) (σQ : Env) : Env := List.rec (motive := fun _ => Env) σQ (fun i _ ih => setN ih i none) l
def jCG : Nat := 1000000
def jBi (own : List Nat) (tg : CT) (it : CI) (cQ eQ : CE) : CE := fun Φ σQ h =>
 RI.rec (motive := fun _ => RE) (fun t h => RL.rec (motive := fun _ => RE) (fun acc h => (VR.new (.lst (revL acc))).re h) (fun _ _ _ => .bad) .bad (unlT t unlL (jBI tg (cQ Φ) (eQ Φ) (jBj own σQ) jCG t h []))) (fun cQ x h => .ex cQ x h) .bad (it Φ σQ h)
def sRaise (cQ : Nat) (l : CL) : CS := fun Φ σQ h => RL.rec (motive := fun _ => RS) (fun r h => Bool.rec (motive := fun _ => RS) .bad (.ex cQ .non σQ h) (jAG r)) (fun cQ x h => .ex cQ x σQ h) .bad (l Φ σQ h)
structure Hdl where
 cs : List Nat
 slot : Option Nat
 su : Nat → P → CS
def memN (cQ : Nat) (cs : List Nat) : Bool := List.rec false (fun a _ ih => Bool.rec ih true (Nat.beq a cQ)) cs
def unS (o : Option Nat) (σQ : Env) : Env := Option.rec σQ (fun i => setN σQ i none) o
def hnd : Nat := 1000000
def bdS (o : Option Nat) (σQ : Env) : Env := Option.rec σQ (fun i => setN σQ i (some (.p (.fn hnd)))) o
def noHP (x : P) : Bool := P.rec (motive_1 := fun _ => Bool) (motive_2 := fun _ => Bool) true (fun _ => true) (fun _ => true) (fun _ => true) (fun _ _ ih => ih) (fun k => Bool.not (Nat.beq k hnd)) true (fun _ _ a b => Bool.and a b) x
def noHD (x : D) : Bool := D.rec (motive_1 := fun _ => Bool) (motive_2 := fun _ => Bool) (fun x => noHP x) (fun _ => true) (fun _ ih => ih) true (fun _ _ a b => Bool.and a b) x
def noHL (l : List D) : Bool := List.rec true (fun x _ ih => Bool.and (noHD x) ih) l
def noHE (σQ : Env) : Bool := List.rec true (fun o _ ih => Bool.and (Option.rec true (fun d => noHD d) o) ih) σQ
def noHK (l : List (P × D)) : Bool := List.rec true (fun q _ ih => Bool.and (Bool.and (noHP q.1) (noHD q.2)) ih) l
def noHF (l : List (Nat × D)) : Bool := List.rec true (fun q _ ih => Bool.and (noHD q.2) ih) l
def noHO (o : O) : Bool := O.cs o noHL (fun _ l => noHK l) (fun _ => false) (fun _ l => noHF l) (fun _ x => noHP x)
def noHT (t : Tr) : Bool := Tr.rec true (fun o _ _ a b => Bool.and (Option.rec true (fun o => noHO o) o) (Bool.and a b)) t
def noHH (h : EH) : Bool := EH.rec (fun _ t => noHT t) h
def onlyS (b : Bool) (r : RS) : RS := Bool.rec (motive := fun _ => RS) .bad r b
def jHv (o : Option Nat) (r : RS) : RS := RS.rec (motive := fun _ => RS) (fun σQ h => onlyS (Bool.and (noHE (unS o σQ)) (noHH h)) (.nx (unS o σQ) h)) (fun v h => onlyS (Bool.and (noHD v) (noHH h)) (.rt v h))
 (fun σQ h => onlyS (Bool.and (noHE (unS o σQ)) (noHH h)) (.bk (unS o σQ) h)) (fun σQ h => onlyS (Bool.and (noHE (unS o σQ)) (noHH h)) (.ct (unS o σQ) h)) (fun _ _ _ _ => .bad) .bad r
def jFT (hs : List Hdl) (cQ : Nat) (x : P) (Φ : Ph) (σQ : Env) (h : EH) : RS :=
 List.rec (motive := fun _ => RS) (.ex cQ x σQ h) (fun q _ ih => Bool.rec (motive := fun _ => RS) ih (jHv q.slot (q.su cQ x Φ (bdS q.slot σQ) h)) (memN cQ q.cs)) hs
def sTry (b : CS) (hs : List Hdl) : CS := fun Φ σQ h => RS.rec (motive := fun _ => RS) (fun σQ h => .nx σQ h) (fun v h => .rt v h) (fun σQ h => .bk σQ h) (fun σQ h => .ct σQ h) (fun cQ x σQ h => jFT hs cQ x Φ σQ h) .bad (b Φ σQ h)
def isH (y : D) : Bool := D.cs y (fun p => P.cs p false (fun _ => false) (fun _ => false) (fun _ => false) (fun _ _ => false) (fun k => Nat.beq k hnd)) (fun _ => false) (fun _ => false)
def cOfH (b : Bool) (cQ : CE) (x : P) : CE := fun Φ σQ h => bE (cQ Φ σQ h) fun y h => Bool.rec (motive := fun _ => RE) .bad (.ok (.p x) h) (Bool.and b (isH y))
def cLm (f : List D → List D → EH → (List D → D → RE) → RE) (o : CE) (l : CL) : CE := fun Φ σQ h => bE (o Φ σQ h) fun x h => D.cs x (fun _ => .bad)
 (fun k => jAw h k (fun _ => bL (l Φ σQ h) fun vs h => jAw h k (fun xs => f xs vs h fun ys v => .ok v (h.put k (.lst ys))) .bad) .bad) (fun _ => .bad)
def mApp : List D → List D → EH → (List D → D → RE) → RE := fun xs vs _ k => i1 vs (fun y => bB (jAG xs) (k (app xs [y]) (.p .non)) .bad) .bad
def isLf (x : P) : Bool := P.cs x true (fun _ => false) (fun _ => true) (fun _ => true) (fun _ _ => false) (fun _ => false)
def isTp (x : P) : Bool := P.cs x false (fun _ => false) (fun _ => false) (fun _ => false) (fun d _ => Nat.ble (unf d) 8) (fun _ => false)
def kOf {α : Sort u} (x : P) (y : Nat → α) (n : α) : α := bB (isLf x) (y 0) (bB (isTp x) (y 1) n)
def keyOf {α : Sort u} (x : D) (y : P → Nat → α) (n : α) : α := pOf x (fun p => kOf p (y p) n) n
def okR (v : Nat) (l : List (P × D)) (j : Nat) : Bool := Bool.or (Nat.beq v j) (Bool.or (Nat.beq v (Nat.add j 2)) (Bool.not (isN l)))
def okW (v : Nat) (l : List (P × D)) (j : Nat) : Bool := Bool.or (Nat.beq v j) (Bool.and (Nat.blt v 2) (Bool.not (isN l)))
def jDf (p : P) (l : List (P × D)) : Option D := List.rec (motive := fun _ => Option D) none (fun a _ ih => Bool.rec (motive := fun _ => Option D) ih (some a.2) (eqP 60 a.1 p)) l
def dPut (p : P) (d : D) (l : List (P × D)) : List (P × D) := List.rec (motive := fun _ => List (P × D)) [(p, d)] (fun a r ih => Bool.rec (motive := fun _ => List (P × D)) (a :: ih) ((a.1, d) :: r) (eqP 60 a.1 p)) l
def dGet {α : Sort u} (v : Nat) (l : List (P × D)) (y : D) (k : Option D → α) (n : α) : α := keyOf y (fun p j => bB (okR v l j) (k (jDf p l)) n) n
def oIxA (h : EH) (x y : D) : VR := jB4 h x (fun _ v l => dGet v l y (fun o => oV o .val) .bad) (oIx h x y)
def putD {α : Sort u} (h : EH) (o i v : D) (y : EH → α) (n : α) : α :=
 jB4 h o (fun k w l => keyOf i (fun p j => bB (Bool.and (okW w l j) (jAG l)) (y (h.put k (.dic j (dPut p v l)))) n) n) (setD h o i v y n)
def jDO (o i eQ : CE) : CS := fun Φ σQ h => bES σQ (eQ Φ σQ h) fun v h => fD v fun v => bES σQ (o Φ σQ h) fun o h => bES σQ (i Φ σQ h) fun i h => putD h o i v (fun h => .nx σQ h) .bad
def jBP (h : EH) (x : D) : VR := jB4 h x (fun _ _ l => fN (lenL l) fun n => vP (.int (.ofNat n))) (oLen h x)
end
noncomputable section
open PySem PySem.Spec L2
open PyProof.Rows hiding St
abbrev Sk := Int ⊕ List Nat
noncomputable def tkP (x : P) : List Sk := P.rec (motive_1 := fun _ => List Sk) (motive_2 := fun _ => List Sk) [] (fun b => [.inl (bI b)]) (fun i => [.inl i]) (fun s => [.inr s]) (fun _ _ ih => ih) (fun _ => []) [.inl (.ofNat 0)] (fun _ _ a b => .inl (.ofNat 1) :: app a b) x
noncomputable def ltS (a b : Sk) : Bool := Sum.rec (motive := fun _ => Bool) (fun i => Sum.rec (motive := fun _ => Bool) (fun j => iLt i j) (fun _ => true) b) (fun s => Sum.rec (motive := fun _ => Bool) (fun _ => false) (fun t => sLt s t) b) a
noncomputable def lxS (l m : List Sk) : Bool := List.rec (motive := fun _ => List Sk → Bool) (fun m => isN m) (fun x _ ih m => List.rec (motive := fun _ => Bool) false (fun y t _ => bB (ltS x y) true (bB (ltS y x) false (ih t))) m) l m
noncomputable def alk (x : P) : P → Bool := P.rec (motive_1 := fun _ => P → Bool) (motive_2 := fun _ => List P → Bool) (fun y => jCk y) (fun _ y => P.cs y false (fun _ => true) (fun _ => false) (fun _ => false) (fun _ _ => false) (fun _ => false))
 (fun _ y => P.cs y false (fun _ => false) (fun _ => true) (fun _ => false) (fun _ _ => false) (fun _ => false)) (fun _ y => P.cs y false (fun _ => false) (fun _ => false) (fun _ => true) (fun _ _ => false) (fun _ => false))
 (fun _ _ ih y => P.cs y false (fun _ => false) (fun _ => false) (fun _ => false) (fun _ m => ih m) (fun _ => false)) (fun _ _ => false) (fun _ => true) (fun _ _ a b m => List.rec (motive := fun _ => Bool) true (fun y r _ => bB (a y) (b r) false) m) x
noncomputable def allL {α : Type} (f : α → Bool) (l : List α) : Bool := List.rec (motive := fun _ => Bool) true (fun a _ ih => bB (f a) ih false) l
noncomputable def eqDl (m : List (P × D)) (l : List (P × D)) : Option Bool := List.rec (motive := fun _ => Option Bool) (some true)
 (fun a _ ih => Option.rec (motive := fun _ => Option Bool) (some false) (fun d => D.cs a.2 (fun p => D.cs d (fun q => bB (Bool.or (isFn p) (isFn q)) none (Option.rec (motive := fun _ => Option Bool) none (fun r => some (Bool.and (eqP 60 p q) r)) ih)) (fun _ => none) (fun _ => none)) (fun _ => none) (fun _ => none)) (jDf a.1 m)) l
noncomputable def goB (o : Option Bool) (f : Bool → VR) : VR := Option.rec (motive := fun _ => VR) .bad f o
noncomputable def eqDc (v : Nat) (l : List (P × D)) (v' : Nat) (m : List (P × D)) (f : Bool → VR) : VR := bB (okR v l 0) (bB (okR v' m 0) (bB (Nat.beq (lenL l) (lenL m)) (goB (eqDl m l) f) (f false)) .bad) .bad
noncomputable def oEqA (h : EH) (x y : D) : VR := jB4 h x (fun _ v l => jB4 h y (fun _ v' m => eqDc v l v' m fun r => vP (.bl r)) .bad) (oEq h x y)
noncomputable def oNeA (h : EH) (x y : D) : VR := jB4 h x (fun _ v l => jB4 h y (fun _ v' m => eqDc v l v' m fun r => vP (.bl (Bool.not r))) .bad) (oNe h x y)
noncomputable def pInts (m : List P) : Option (List Int) := List.rec (motive := fun _ => Option (List Int)) (some []) (fun a _ ih => P.cs a none (fun _ => none) (fun i => Option.rec (motive := fun _ => Option (List Int)) none (fun r => some (i :: r)) ih) (fun _ => none) (fun _ _ => none) (fun _ => none)) m
def jEk (h : EH) (x : D) : VR := jB4 h x (fun _ _ l => bB (jAG l) (.new (.lst (upP (mapL (fun q => q.1) l)))) .bad) (oLst h x)
end
noncomputable section
open PySem PySem.Spec L2
open PyProof.Rows hiding St
open PySem.SeqAt (EqIn EqAt)
def andO (a b : Option Bool) : Option Bool := Option.rec (motive := fun _ => Option Bool) none (fun x => Option.rec (motive := fun _ => Option Bool) none (fun y => some (Bool.and x y)) b) a
def eqXl (f : D → D → Option Bool) (l : List D) : List D → Option Bool := List.rec (motive := fun _ => List D → Option Bool) (fun _ => some true) (fun a _ ih m => List.rec (motive := fun _ => Option Bool) none (fun b r _ => andO (f a b) (ih r)) m) l
def eqXd (f : D → D → Option Bool) (m : List (P × D)) (l : List (P × D)) : Option Bool := List.rec (motive := fun _ => Option Bool) (some true) (fun a _ ih => Option.rec (motive := fun _ => Option Bool) (some false) (fun d => andO (f a.2 d) ih) (jDf a.1 m)) l
def objX (f : D → D → Option Bool) (o o' : O) : Option Bool :=
 O.cs o (fun l => O.cs o' (fun m => bB (Nat.beq (lenL l) (lenL m)) (eqXl f l m) (some false)) (fun _ _ => none) (fun _ => none) (fun _ _ => none) (fun _ _ => none))
  (fun v l => O.cs o' (fun _ => none) (fun v' m => bB (Bool.and (okR v l 0) (okR v' m 0)) (bB (Nat.beq (lenL l) (lenL m)) (eqXd f m l) (some false)) (bB (Bool.and (okR v l 1) (okR v' m 1)) (bB (Nat.beq (lenL l) (lenL m)) (eqXd f m l) (some false)) none)) (fun _ => none) (fun _ _ => none) (fun _ _ => none))
  (fun _ => none) (fun _ _ => none) (fun _ _ => none)
def isObj (h : EH) (k : Nat) : Option Bool := Option.rec (motive := fun _ => Option Bool) none (fun o => O.cs o (fun _ => some false) (fun _ _ => some false) (fun _ => none) (fun _ _ => none) (fun _ _ => none)) (h.get k)
def refX (f : D → D → Option Bool) (h : EH) (k k' : Nat) : Option Bool := Option.rec (motive := fun _ => Option Bool) none (fun o => Option.rec (motive := fun _ => Option Bool) none (fun o' => objX f o o') (h.get k')) (h.get k)
def eqX (h : EH) (n : Nat) : D → D → Option Bool := Nat.rec (motive := fun _ => D → D → Option Bool) (fun _ _ => none) (fun _ ih x y => D.cs x
 (fun p => D.cs y (fun q => bB (Bool.or (isFn p) (isFn q)) none (some (eqP 60 p q))) (fun _ => none) (fun _ => none))
 (fun k => D.cs y (fun q => bB (jCk q) (isObj h k) none) (fun k' => bB (Nat.beq k k') (some true) (refX ih h k k')) (fun _ => none))
 (fun _ => none)) n
def topX (h : EH) (x y : D) : Option Bool := D.cs x (fun _ => none) (fun k => D.cs y (fun q => bB (jCk q) (isObj h k) none) (fun k' => refX (eqX h 12) h k k') (fun _ => none)) (fun _ => none)
def oEqB (h : EH) (x y : D) : VR := Option.rec (motive := fun _ => VR) (oEqA h x y) (fun r => fB r fun r => vP (.bl r)) (topX h x y)
def oNeB (h : EH) (x y : D) : VR := Option.rec (motive := fun _ => VR) (oNeA h x y) (fun r => fB r fun r => vP (.bl (Bool.not r))) (topX h x y)
end
noncomputable section
open PySem PySem.Spec L2
open PyProof.Rows hiding St
noncomputable def jAM (h : EH) (x y : D) : VR := D.cs x (fun p => P.cs p (oMul h x y) (fun _ => oMul h x y) (fun _ => oMul h x y) (fun _ => oMul h x y) (fun d l => jAI y (fun j => bB (isN l) (bB (iEq j (.ofNat 1)) (vP (.tup d l)) (bB (iLe j (.ofNat 0)) (bB (i62 j) (vP (.tup 1 [])) .bad) (oMul h x y))) .bad) .bad) (fun _ => oMul h x y)) (fun _ => oMul h x y) (fun _ => oMul h x y)
def truP (p : P) : Bool := P.cs p false (fun b => b) (fun i => Bool.not (iEq i (.ofNat 0))) (fun _ => false) (fun _ _ => false) (fun _ => false)
def plnP (p : P) : Bool := P.cs p true (fun _ => true) (fun _ => true) (fun _ => false) (fun _ _ => false) (fun _ => false)
def allT (l : List P) : Bool := List.rec (motive := fun _ => Bool) true (fun a _ ih => Bool.and (truP a) ih) l
def jFz (h : EH) (x : D) : VR := seqOf h x (fun l => Option.rec (motive := fun _ => VR) .bad (fun r => bB (allL plnP r) (fB (allT r) fun b => vP (.bl b)) .bad) (jC7 l)) .bad
def ordT (old : EH → D → D → VR) (f : List Sk → List Sk → Bool) (h : EH) (x y : D) : VR := pOf x (fun p => P.cs p (old h x y) (fun _ => old h x y) (fun _ => old h x y) (fun _ => old h x y) (fun _ _ => pOf y (fun q => bB (Bool.and (alk p q) (Bool.not (isFn q))) (fB (f (tkP p) (tkP q)) fun b => vP (.bl b)) .bad) .bad) (fun _ => old h x y)) (old h x y)
def oLtA : EH → D → D → VR := ordT oLt fun a b => lxS a b
def oLeA : EH → D → D → VR := ordT oLe fun a b => Bool.not (lxS b a)
def oGtA : EH → D → D → VR := ordT oGt fun a b => lxS b a
def oGeA : EH → D → D → VR := ordT oGe fun a b => Bool.not (lxS a b)
def isBB (b : Bool) (x : D) : Bool := pOf x (fun p => P.cs p false (fun cQ => bEq cQ b) (fun _ => false) (fun _ => false) (fun _ _ => false) (fun _ => false)) false
def isT (f : Bool → Bool) (old : EH → D → D → VR) (h : EH) (x y : D) : VR := pOf y (fun q => P.cs q (old h x y) (fun b => fB (f (isBB b x)) fun r => vP (.bl r)) (fun _ => old h x y) (fun _ => old h x y) (fun _ _ => old h x y) (fun _ => old h x y)) (old h x y)
def oIsA : EH → D → D → VR := isT (fun b => b) oIs
def oSumA (h : EH) (x : D) : VR := pOf x (fun p => P.cs p .bad (fun _ => .bad) (fun _ => .bad) (fun _ => .bad) (fun _ l => Option.rec (motive := fun _ => VR) .bad (fun ns => fI (sumI ns) fun b => vP (.int b)) (pInts l)) (fun _ => .bad)) (oSum h x)
def upI (ns : List Int) : List D := List.rec [] (fun i _ ih => .p (.int i) :: ih) ns
def slDS (ns : List Int) (_ : EH) (x : D) (lo hi : Option Int) : VR :=
 D.cs x (fun p => P.cs p .bad (fun _ => .bad) (fun _ => .bad) (fun _ => .bad) (fun _ _ => .bad) (fun k => bB (Nat.beq k 999) (.new (.lst (cutD (upI ns) lo hi))) .bad)) (fun _ => .bad) (fun _ => .bad)
def cSlS (ns : List Int) (cQ : CE) (lo hi : CO) : CE := fun Φ σQ h => bE (cQ Φ σQ h) fun x h => lo Φ σQ h fun l h => hi Φ σQ h fun u h => (slDS ns h x l u).re h
noncomputable def upV (q : List (P × P)) : List (P × D) := mapL (fun p => (p.1, .p p.2)) q
inductive Ans where
 | v (x : P) | l (q : List P) | x (cQ : Nat) (y : P) | d (v : Nat) (q : List (P × P))
noncomputable def Ans.re (a : Ans) : RE := Ans.rec (motive := fun _ => RE) (fun x => .ok (.p x) e0) (fun q => e0.new (.lst (upP q)) fun k h => .ok (.ref k) h) (fun cQ y => .ex cQ y e0) (fun v q => e0.new (.dic v (upV q)) fun k h => .ok (.ref k) h) a
def top (i : Nat) : Stmt := PySem.Challenge.pw_anydlooks_k02_rows_sums_and_inverses.main.body.getD i (.Pass ⟨0, 0, 0, 0⟩)
def b_is_number : CS := (sRet (cAnd (cOp1 (oIsi [2]) (cVar 0)) (cNot (cOp1 (oIsi [1]) (cVar 0)))))
def b_is_row : CS := (sSeq (sIf (cOr (cNot (cOp1 (oIsi [4]) (cVar 0))) (cOp2 oNeB (cOp1 jBP (cVar 0)) (cVar 2))) (sRet (cC (.bl false))) sNop) (sRet (cOp1 jFz (jBi [3] (jAq 3) (jEl (cVar 0)) (cC (.bl true)) (cAnd (jAs 0 (jAb (cVar 3) cNil)) (jDZ oLeA oLtA (cC (.int (.ofNat 0))) (cVar 3) (cVar 1)))))))
def b_inverse : CS := (sSeq (sFor (jAq 2) (iRng2 (jAb (cC (.int (.ofNat 1))) (jAb (cVar 0) cNil))) (sIf (cOp2 oEqB (cOp2 oMod (cOp2 jAM (cVar 2) (cVar 1)) (cVar 0)) (cC (.int (.ofNat 1)))) (sRet (cVar 2)) sNop)) (sRaise 0 cNil))
def b_row_by : CS := (sSeq (jA1 4 (cOp2 jAM (cLst (jAb (cC (.int (.ofNat 0))) cNil)) (cVar 3))) (sSeq (sFor (tTup (jAF (jAq 5) (jAF (jAq 6) tNil))) (iZip (jAb (cVar 1) (jAb (cVar 2) cNil))) (jA1 4 (jBi [7, 8] (tTup (jAF (jAq 7) (jAF (jAq 8) tNil))) (iZip (jAb (cVar 4) (jAb (cVar 5) cNil))) (cC (.bl true)) (cOp2 oMod (cOp2 oAdd (cVar 7) (cOp2 jAM (cVar 6) (cVar 8))) (cVar 0))))) (sRet (cOp1 oTup (cVar 4)))))
def b_product : CS := (sRet (cOp2 oMod (cOp1 oSumA (jBi [3, 4] (tTup (jAF (jAq 3) (jAF (jAq 4) tNil))) (iZip (jAb (cVar 1) (jAb (cVar 2) cNil))) (cC (.bl true)) (cOp2 jAM (cVar 3) (cVar 4)))) (cVar 0)))
def b__law_box : CS := (sSeq (jA1 2 (cIf (cOp2 oLtA (cVar 1) (cOp1 jBP (cVar 0))) (cOp2 oIxA (cVar 0) (cVar 1)) (cC (.int (.ofNat 0))))) (sRet (cLst (jAb (cOp2 jAM (cOp1 oAbs (cVar 2)) (cOp1 oInt (cOp2 oGeA (cOp1 oAbs (cVar 2)) (cOp2 oPow (cC (.int (.ofNat 10))) (cC (.int (.ofNat 18))))))) (jAb (cOp2 oAdd (cOp2 oAdd (cOp2 oMod (cOp1 oInt (cVar 2)) (cC (.int (.ofNat 2305843009213693951)))) (cOp2 jAM (cC (.int (.ofNat 39373))) (cVar 1))) (cC (.int (.ofNat 3155002)))) (jAb (cC (.int (.ofNat 0))) cNil))))))
def b__law_take : CS := (sSeq (sIf (cOp2 oGtA (cOp2 oIxA (cVar 0) (cC (.int (.ofNat 0)))) (cC (.int (.ofNat 0)))) (sSeq (jA1 5 (cOp2 oMod (cOp1 oInt (cOp2 oIxA (cVar 0) (cC (.int (.ofNat 0))))) (cVar 1))) (sSeq (jDO (cVar 0) (cC (.int (.ofNat 0))) (cOp2 oDiv (cOp2 oIxA (cVar 0) (cC (.int (.ofNat 0)))) (cVar 1))) (sRet (cVar 5)))) sNop) (sSeq (jDO (cVar 0) (cC (.int (.ofNat 2))) (cOp2 oAdd (cOp2 oIxA (cVar 0) (cC (.int (.ofNat 2)))) (cC (.int (.ofNat 1))))) (sSeq (jA1 2 (cOp2 oMod (cOp1 oInt (cOp2 jAM (cOp2 oAdd (cOp2 oIxA (cVar 0) (cC (.int (.ofNat 1)))) (cOp2 jAM (cC (.int (.ofNat 48271))) (cOp2 oIxA (cVar 0) (cC (.int (.ofNat 2)))))) (cOp2 oAdd (cC (.int (.ofNat 39373))) (cOp2 oIxA (cVar 0) (cC (.int (.ofNat 2))))))) (cC (.int (.ofNat 2147483647))))) (sSeq (jA1 3 (cOp2 oAdd (cOp2 oMod (cOp1 oInt (cVar 2)) (cC (.int (.ofNat 40009)))) (cC (.int (.ofNat 7))))) (sSeq (jA1 4 (cOp2 oMod (cOp1 oInt (cOp2 jAM (cOp2 oAdd (cOp2 oAdd (cVar 2) (cOp2 oIxA (cVar 0) (cC (.int (.ofNat 2))))) (cOp2 oDiv (cOp2 oIxA (cVar 0) (cC (.int (.ofNat 1)))) (cC (.int (.ofNat 1000003))))) (cVar 3))) (cC (.int (.ofNat 2147483629))))) (sRet (cOp2 oMod (cOp1 oInt (cOp2 oDiv (cOp2 oMod (cOp1 oInt (cOp2 oAdd (cOp2 jAM (cVar 4) (cC (.int (.ofNat 48271)))) (cVar 2))) (cC (.int (.ofNat 2147483587)))) (cC (.int (.ofNat 64))))) (cVar 1))))))))
def jDp (ns : List Int) : CS := (sSeq (jA1 2 (cOr (cOp1 jEk (cSlS ns (cVar 0) coN (coS (cVar 1)))) (cLst (jAb (cC (.int (.ofNat 0))) cNil)))) (sSeq (sFor (tTup (jAF (jAq 3) (jAF (jAq 4) tNil))) (iEnum (jAb (cSlS ns (cVar 0) (coS (cVar 1)) (coS (cC (.int (.ofNat 63))))) cNil)) (sSeq (jA1 5 (cOp2 oMod (cOp1 oInt (cVar 3)) (cVar 1))) (jDO (cVar 2) (cVar 5) (cOp2 oAdd (cOp2 oIxA (cVar 2) (cVar 5)) (cOp2 jAM (cVar 4) (cOp2 oAdd (cVar 3) (cC (.int (.ofNat 2))))))))) (sRet (cVar 2))))
def b__law_of : CS := (sRet (cOp2 oIxA (cVar 1) (jAs 6 (jAb (cVar 0) (jAb (cOp1 jBP (cVar 1)) cNil)))))
def b__law_lists : CS := (sRet (cIf (cOp1 (oIsi [5, 4]) (cVar 0)) (jBi [1] (jAq 1) (jEl (cVar 0)) (cC (.bl true)) (jAs 9 (jAb (cVar 1) cNil))) (cVar 0)))
def b__law_same : CS := (sSeq (sIf (cOp1 (oIsi [5, 4]) (cVar 1)) (sSeq (sIf (cOr (cOp2 oNeB (cOp1 (oIsi [5]) (cVar 0)) (cOp1 (oIsi [5]) (cVar 1))) (cOp2 oNeB (cOp1 (oIsi [4]) (cVar 0)) (cOp1 (oIsi [4]) (cVar 1)))) (sRet (cC (.bl false))) sNop) (sRet (cAnd (cOp2 oEqB (cOp1 jBP (cVar 0)) (cOp1 jBP (cVar 1))) (cOp1 jFz (jBi [2, 3] (tTup (jAF (jAq 2) (jAF (jAq 3) tNil))) (iZip (jAb (cVar 0) (jAb (cVar 1) cNil))) (cC (.bl true)) (jAs 10 (jAb (cVar 2) (jAb (cVar 3) cNil)))))))) sNop) (sSeq (sIf (cOr (cOp2 oIsA (cVar 1) (cC .non)) (cOp1 (oIsi [1, 3]) (cVar 1))) (sRet (cAnd (cOp2 oEqB (cVar 0) (cVar 1)) (cAnd (cOp2 oEqB (cOp1 (oIsi [1]) (cVar 0)) (cOp1 (oIsi [1]) (cVar 1))) (cOp2 oEqB (cOp2 oIsA (cVar 0) (cC .non)) (cOp2 oIsA (cVar 1) (cC .non)))))) sNop) (sRet (cAnd (cOp1 (oIsi [2]) (cVar 0)) (cAnd (cNot (cOp1 (oIsi [1]) (cVar 0))) (cOp2 oEqB (cVar 0) (cVar 1)))))))
def b__law_plus : CS := (sRet (cOp1 oTup (jBi [4, 5] (tTup (jAF (jAq 4) (jAF (jAq 5) tNil))) (iZip (jAb (cVar 1) (jAb (cVar 2) cNil))) (cC (.bl true)) (cOp2 oMod (cOp1 oInt (cOp2 oAdd (cVar 4) (cOp2 jAM (cVar 3) (cVar 5)))) (cVar 0)))))
def b__law_mixed : CS := (sSeq (jA1 4 (cOp2 jAM (cTup (jAb (cC (.int (.ofNat 0))) cNil)) (cVar 3))) (sSeq (sFor (tTup (jAF (jAq 5) (jAF (jAq 6) tNil))) (iZip (jAb (cVar 1) (jAb (cVar 2) cNil))) (jA1 4 (jAs 11 (jAb (cVar 0) (jAb (cVar 4) (jAb (cVar 5) (jAb (cVar 6) cNil))))))) (sRet (cVar 4))))
def b__law_times : CS := (sRet (cOp2 oMod (cOp1 oInt (cOp1 oSumA (jBi [3, 4] (tTup (jAF (jAq 3) (jAF (jAq 4) tNil))) (iZip (jAb (cVar 1) (jAb (cVar 2) cNil))) (cC (.bl true)) (cOp2 jAM (cVar 3) (cVar 4))))) (cVar 0)))
def b__law_drawn_vectors : CS := (sSeq (jA1 4 (cLst cNil)) (sSeq (sFor (jAq 5) (jEm (jAb (cVar 2) cNil)) (sSeq (jA1 6 (jAs 6 (jAb (cVar 0) (jAb (cC (.int (.ofNat 6))) cNil)))) (sIf (cOp2 oEqB (cVar 6) (cC (.int (.ofNat 0)))) (sExpr (cLm mApp (cVar 4) (jAb (cOp2 jAM (cTup (jAb (cC (.int (.ofNat 0))) cNil)) (cVar 3)) cNil))) (sIf (cAnd (cOp2 oEqB (cVar 6) (cC (.int (.ofNat 1)))) (cOp2 oNeB (cVar 4) (cLst cNil))) (sExpr (cLm mApp (cVar 4) (jAb (jAs 11 (jAb (cVar 1) (jAb (cOp2 jAM (cTup (jAb (cC (.int (.ofNat 0))) cNil)) (cVar 3)) (jAb (jAs 8 (jAb (cVar 0) (jAb (cVar 4) cNil))) (jAb (jAs 6 (jAb (cVar 0) (jAb (cVar 1) cNil))) cNil))))) cNil))) (sExpr (cLm mApp (cVar 4) (jAb (cOp1 oTup (jBi [7] (jAq 7) (jEm (jAb (cVar 3) cNil)) (cC (.bl true)) (jAs 6 (jAb (cVar 0) (jAb (cVar 1) cNil))))) cNil))))))) (sRet (cOp1 oTup (cVar 4)))))
def b__law_heard : CS := (sSeq (sSet (tTup (jAF (jAq 3) (jAF (jAq 4) tNil))) (cTup (jAb (cC .non) (jAb (cC .non) cNil)))) (sSeq (sTry (jA1 4 (jAs 2 (jAb (cVar 0) (jAb (cVar 1) cNil)))) [⟨[0], (some 2), fun cQ x => (jA1 3 (cLst (jAb (cC (.str [117, 110, 102, 105, 116])) (jAb (cOfH true (cVar 2) (.bl true)) cNil))))⟩]) (sRet (cIf (cOp2 oIsA (cVar 3) (cC .non)) (cVar 4) (cVar 3)))))
def b__law_by_hand_right : CS := (sSeq (jA1 0 (jBi [5] (jAq 5) (jEl (cTup (jAb (cC (.int (.ofNat 2))) (jAb (cC (.int (.ofNat 3))) (jAb (cC (.int (.ofNat 5))) cNil))))) (cC (.bl true)) (jBi [6] (jAq 6) (jEm (jAb (cVar 5) cNil)) (cC (.bl true)) (jAs 15 (jAb (cVar 5) (jAb (cVar 6) cNil)))))) (sSeq (jA1 1 (cLst (jAb (cLst (jAb (cLst (jAb (cC (.str [117, 110, 102, 105, 116])) (jAb (cC (.bl true)) cNil))) (jAb (cC (.int (.ofNat 1))) cNil))) (jAb (cLst (jAb (cLst (jAb (cC (.str [117, 110, 102, 105, 116])) (jAb (cC (.bl true)) cNil))) (jAb (cC (.int (.ofNat 1))) (jAb (cC (.int (.ofNat 2))) cNil)))) (jAb (cLst (jAb (cLst (jAb (cC (.str [117, 110, 102, 105, 116])) (jAb (cC (.bl true)) cNil))) (jAb (cC (.int (.ofNat 1))) (jAb (cC (.int (.ofNat 3))) (jAb (cC (.int (.ofNat 2))) (jAb (cC (.int (.ofNat 4))) cNil)))))) cNil))))) (sSeq (jA1 0 (cOp2 oAdd (cVar 0) (cLst (jAb (jFU 2 0 2 [1, 0] [] cNil (jAb (cC (.int (.ofNat 4))) (jAb (cC (.int (.ofNat 5))) cNil))) (jAb (jAs 4 (jAb (cC (.int (.ofNat 5))) (jAb (cTup (jAb (cC (.int (.ofNat 2))) (jAb (cC (.int (.ofNat 3))) cNil))) (jAb (cTup (jAb (cC (.int (.ofNat 4))) (jAb (cC (.int (.ofNat 4))) cNil))) cNil)))) (jAb (jAs 4 (jAb (cC (.int (.ofNat 3))) (jAb (cTup cNil) (jAb (cTup cNil) cNil)))) (jAb (jFU 4 0 3 [2, 1, 0] [] cNil (jAb (cLst (jAb (cC (.int (.ofNat 1))) (jAb (cC (.int (.ofNat 2))) cNil))) (jAb (cLst (jAb (cC (.int (.ofNat 2))) (jAb (cC (.int (.ofNat 2))) cNil))) (jAb (cC (.int (.ofNat 3))) cNil)))) cNil))))))) (sSeq (jA1 1 (cOp2 oAdd (cVar 1) (cLst (jAb (cC (.int (.ofNat 4))) (jAb (cC (.int (.ofNat 0))) (jAb (cC (.int (.ofNat 0))) (jAb (cC (.int (.ofNat 0))) cNil))))))) (sSeq (jA1 0 (cOp2 oAdd (cVar 0) (cLst (jAb (jAs 3 (jAb (cC (.int (.ofNat 3))) (jAb (cTup (jAb (cTup (jAb (cC (.int (.ofNat 1))) (jAb (cC (.int (.ofNat 2))) (jAb (cC (.int (.ofNat 0))) cNil)))) (jAb (cTup (jAb (cC (.int (.ofNat 2))) (jAb (cC (.int (.ofNat 1))) (jAb (cC (.int (.ofNat 0))) cNil)))) (jAb (cTup (jAb (cC (.int (.ofNat 0))) (jAb (cC (.int (.ofNat 1))) (jAb (cC (.int (.ofNat 1))) cNil)))) cNil)))) (jAb (cTup (jAb (cC (.int (.ofNat 0))) (jAb (cC (.int (.ofNat 2))) (jAb (cC (.int (.ofNat 1))) cNil)))) (jAb (cC (.int (.ofNat 3))) cNil))))) (jAb (jAs 3 (jAb (cC (.int (.ofNat 2))) (jAb (cTup cNil) (jAb (cTup cNil) (jAb (cC (.int (.ofNat 4))) cNil))))) (jAb (jAs 3 (jAb (cC (.int (.ofNat 5))) (jAb (cTup (jAb (cTup cNil) (jAb (cTup cNil) cNil))) (jAb (cTup (jAb (cC (.int (.ofNat 1))) (jAb (cC (.int (.ofNat 4))) cNil))) (jAb (cC (.int (.ofNat 0))) cNil))))) cNil)))))) (sSeq (jA1 1 (cOp2 oAdd (cVar 1) (cLst (jAb (cTup (jAb (cC (.int (.ofNat 1))) (jAb (cC (.int (.ofNat 0))) (jAb (cC (.int (.ofNat 1))) cNil)))) (jAb (cTup (jAb (cC (.int (.ofNat 0))) (jAb (cC (.int (.ofNat 0))) (jAb (cC (.int (.ofNat 0))) (jAb (cC (.int (.ofNat 0))) cNil))))) (jAb (cTup cNil) cNil)))))) (sSeq (jA1 0 (cOp2 oAdd (cVar 0) (cLst (jAb (jFU 3 0 4 [3, 2, 1, 0] [] cNil (jAb (cC (.int (.ofNat 2))) (jAb (cLst (jAb (cC (.int (.ofNat 4))) (jAb (cC (.int (.ofNat 4))) cNil))) (jAb (cLst (jAb (cLst (jAb (cC (.int (.ofNat 1))) (jAb (cC (.int (.ofNat 2))) cNil))) (jAb (cLst (jAb (cC (.int (.ofNat 3))) (jAb (cC (.int (.ofNat 4))) cNil))) cNil))) (jAb (cC (.int (.ofNat 5))) cNil))))) (jAb (jAs 3 (jAb (cC (.int (.ofNat 3))) (jAb (cTup (jAb (cTup (jAb (cC (.int (.ofNat 2))) (jAb (cC (.int (.ofNat 2))) cNil))) (jAb (cTup (jAb (cC (.int (.ofNat 2))) (jAb (cC (.int (.ofNat 2))) cNil))) (jAb (cTup (jAb (cC (.int (.ofNat 2))) (jAb (cC (.int (.ofNat 2))) cNil))) cNil)))) (jAb (cTup (jAb (cC (.int (.ofNat 1))) (jAb (cC (.int (.ofNat 1))) (jAb (cC (.int (.ofNat 1))) cNil)))) (jAb (cC (.int (.ofNat 2))) cNil))))) cNil))))) (sSeq (jA1 1 (cOp2 oAdd (cVar 1) (cLst (jAb (cTup (jAb (cC (.int (.ofNat 1))) (jAb (cC (.int (.ofNat 4))) cNil))) (jAb (cTup (jAb (cC (.int (.ofNat 0))) (jAb (cC (.int (.ofNat 0))) cNil))) cNil))))) (sSeq (jA1 2 (cOp1 oTup (jBi [7] (jAq 7) (jEm (jAb (cC (.int (.ofNat 40))) cNil)) (cC (.bl true)) (cOp2 oMod (cOp1 oInt (cVar 7)) (cC (.int (.ofNat 5))))))) (sSeq (jA1 0 (cOp2 oAdd (cVar 0) (cLst (jAb (jAs 3 (jAb (cC (.int (.ofNat 5))) (jAb (cOp2 jAM (cTup (jAb (cVar 2) cNil)) (cC (.int (.ofNat 40)))) (jAb (cOp2 jAM (cTup (jAb (cC (.int (.ofNat 2))) cNil)) (cC (.int (.ofNat 40)))) (jAb (cC (.int (.ofNat 40))) cNil))))) (jAb (jAs 4 (jAb (cC (.int (.ofNat 5))) (jAb (cVar 2) (jAb (cVar 2) cNil)))) cNil))))) (sSeq (jA1 1 (cOp2 oAdd (cVar 1) (cLst (jAb (cOp2 jAM (cTup (jAb (cC (.int (.ofNat 0))) cNil)) (cC (.int (.ofNat 40)))) (jAb (cC (.int (.ofNat 0))) cNil))))) (sSeq (jA1 3 (cLst (jAb (cTup (jAb (cTup cNil) (jAb (cC (.int (.ofNat 2))) (jAb (cC (.int (.ofNat 0))) cNil)))) (jAb (cTup (jAb (cTup (jAb (cC (.int (.ofNat 0))) (jAb (cC (.int (.ofNat 1))) cNil))) (jAb (cC (.int (.ofNat 2))) (jAb (cC (.int (.ofNat 2))) cNil)))) (jAb (cTup (jAb (cTup (jAb (cC (.int (.ofNat 2))) (jAb (cC (.int (.ofNat 0))) (jAb (cC (.int (.ofNat 1))) cNil)))) (jAb (cC (.int (.ofNat 3))) (jAb (cC (.int (.ofNat 3))) cNil)))) (jAb (cTup (jAb (cTup (jAb (cC (.int (.ofNat 4))) cNil)) (jAb (cC (.int (.ofNat 5))) (jAb (cC (.int (.ofNat 1))) cNil)))) cNil)))))) (sSeq (jA1 4 (cLst (jAb (cTup (jAb (cTup (jAb (cC (.int (.ofNat 2))) cNil)) (jAb (cC (.int (.ofNat 2))) (jAb (cC (.int (.ofNat 1))) cNil)))) (jAb (cTup (jAb (cTup (jAb (cC (.int (.ofNat 3))) (jAb (cC (.int (.ofNat 0))) cNil))) (jAb (cC (.int (.ofNat 3))) (jAb (cC (.int (.ofNat 2))) cNil)))) (jAb (cTup (jAb (cTup (jAb (cOp1 oNeg (cC (.int (.ofNat 1)))) cNil)) (jAb (cC (.int (.ofNat 5))) (jAb (cC (.int (.ofNat 1))) cNil)))) (jAb (cTup (jAb (cTup (jAb (cC (.int (.ofNat 0))) (jAb (cC (.int (.ofNat 1))) cNil))) (jAb (cC (.int (.ofNat 2))) (jAb (cC (.int (.ofNat 3))) cNil)))) (jAb (cTup (jAb (cTup (jAb (cC (.int (.ofNat 0))) (jAb (cC (.int (.ofNat 1))) cNil))) (jAb (cC (.int (.ofNat 2))) (jAb (cC (.int (.ofNat 1))) cNil)))) (jAb (cTup (jAb (cLst (jAb (cC (.int (.ofNat 0))) (jAb (cC (.int (.ofNat 1))) cNil))) (jAb (cC (.int (.ofNat 2))) (jAb (cC (.int (.ofNat 2))) cNil)))) (jAb (cTup (jAb (cTup (jAb (cC (.bl true)) (jAb (cC (.int (.ofNat 0))) cNil))) (jAb (cC (.int (.ofNat 2))) (jAb (cC (.int (.ofNat 2))) cNil)))) (jAb (cTup (jAb (cC .non) (jAb (cC (.int (.ofNat 2))) (jAb (cC (.int (.ofNat 0))) cNil)))) cNil)))))))))) (sSeq (jA1 4 (cOp2 oAdd (cVar 4) (cLst (jAb (cTup (jAb (cTup (jAb (cC (.str [48])) cNil)) (jAb (cC (.int (.ofNat 2))) (jAb (cC (.int (.ofNat 1))) cNil)))) (jAb (cTup (jAb (cTup (jAb (cTup (jAb (cC (.int (.ofNat 0))) cNil)) cNil)) (jAb (cC (.int (.ofNat 2))) (jAb (cC (.int (.ofNat 1))) cNil)))) (jAb (cTup (jAb (cTup (jAb (cC (.int (.ofNat 0))) (jAb (cC .non) cNil))) (jAb (cC (.int (.ofNat 3))) (jAb (cC (.int (.ofNat 2))) cNil)))) (jAb (cTup (jAb (cC (.int (.ofNat 0))) (jAb (cC (.int (.ofNat 2))) (jAb (cC (.int (.ofNat 1))) cNil)))) (jAb (cTup (jAb (cTup (jAb (cC (.bl false)) cNil)) (jAb (cC (.int (.ofNat 5))) (jAb (cC (.int (.ofNat 1))) cNil)))) (jAb (cTup (jAb (cC (.str [48, 49])) (jAb (cC (.int (.ofNat 2))) (jAb (cC (.int (.ofNat 2))) cNil)))) cNil))))))))) (sSeq (jA1 0 (cOp2 oAdd (cOp2 oAdd (cVar 0) (jBi [8] (jAq 8) (jEl (cVar 3)) (cC (.bl true)) (jAs 1 (jAb (cOp2 oIxA (cVar 8) (cC (.int (.ofNat 0)))) (jAb (cOp2 oIxA (cVar 8) (cC (.int (.ofNat 1)))) (jAb (cOp2 oIxA (cVar 8) (cC (.int (.ofNat 2)))) cNil)))))) (jBi [8] (jAq 8) (jEl (cVar 4)) (cC (.bl true)) (jFU 1 0 3 [2, 1, 0] [] cNil (jAb (cOp2 oIxA (cVar 8) (cC (.int (.ofNat 2)))) (jAb (cOp2 oIxA (cVar 8) (cC (.int (.ofNat 1)))) (jAb (cOp2 oIxA (cVar 8) (cC (.int (.ofNat 0)))) cNil))))))) (sRet (jAs 10 (jAb (cVar 0) (jAb (cOp2 oAdd (cOp2 oAdd (cVar 1) (cOp2 jAM (cLst (jAb (cC (.bl true)) cNil)) (cOp1 jBP (cVar 3)))) (cOp2 jAM (cLst (jAb (cC (.bl false)) cNil)) (cOp1 jBP (cVar 4)))) cNil)))))))))))))))))))
def b__law_right : CS := (sSeq (sSet (tTup (jAF (jAq 10) (jAF (jAq 11) (jAF (jAq 12) tNil)))) (cTup (jAb (jAs 8 (jAb (cVar 0) (jAb (cLst (jAb (cC (.int (.ofNat 2))) (jAb (cC (.int (.ofNat 3))) (jAb (cC (.int (.ofNat 5))) cNil)))) cNil))) (jAb (jAs 6 (jAb (cVar 0) (jAb (cC (.int (.ofNat 7))) cNil))) (jAb (jAs 6 (jAb (cVar 0) (jAb (cC (.int (.ofNat 7))) cNil))) cNil))))) (sSeq (jA1 1 (jAs 14 (jAb (cVar 0) (jAb (cVar 10) (jAb (cVar 11) (jAb (cVar 12) cNil)))))) (sSeq (jA1 2 (cOp1 oTup (jBi [13] (jAq 13) (jEm (jAb (cVar 11) cNil)) (cC (.bl true)) (jAs 6 (jAb (cVar 0) (jAb (cVar 10) cNil)))))) (sSeq (jA1 3 (jAs 12 (jAb (cVar 10) (jAb (cVar 1) (jAb (cVar 2) (jAb (cVar 12) cNil)))))) (sSeq (jA1 4 (cLst (jAb (jAs 3 (jAb (cVar 10) (jAb (cVar 1) (jAb (cVar 2) (jAb (cVar 12) cNil))))) (jAb (jAs 3 (jAb (cVar 10) (jAb (jAs 9 (jAb (cVar 1) cNil)) (jAb (cOp1 jEk (cVar 2)) (jAb (cVar 12) cNil))))) cNil)))) (sSeq (jA1 5 (cLst (jAb (cVar 3) (jAb (cVar 3) cNil)))) (sSeq (sFor (jAq 6) (jEl (cVar 1)) (sSeq (sExpr (cLm mApp (cVar 4) (jAb (jAs 4 (jAb (cVar 10) (jAb (cVar 6) (jAb (cVar 3) cNil)))) cNil))) (sExpr (cLm mApp (cVar 5) (jAb (jAs 13 (jAb (cVar 10) (jAb (cVar 6) (jAb (cVar 3) cNil)))) cNil))))) (sSeq (jA1 7 (cOp1 jEk (cVar 3))) (sSeq (sIf (cOp2 oNeB (cVar 7) (cLst cNil)) (jDO (cVar 7) (jAs 6 (jAb (cVar 0) (jAb (cVar 12) cNil))) (jAs 8 (jAb (cVar 0) (jAb (cLst (jAb (cVar 10) (jAb (cOp1 oNeg (cC (.int (.ofNat 1)))) (jAb (cC .non) (jAb (cC (.bl true)) (jAb (cC (.str [48])) (jAb (cC (.int (.ofNat 0))) (jAb (cOp2 oSub (cVar 10) (cC (.int (.ofNat 1)))) (jAb (cTup (jAb (cC (.int (.ofNat 0))) cNil)) (jAb (cOp2 oAdd (cVar 10) (cC (.int (.ofNat 3)))) cNil)))))))))) cNil)))) sNop) (sSeq (jA1 8 (cOp1 oTup (cVar 7))) (sSeq (jA1 9 (cOp2 oEqB (jBi [14] (jAq 14) (jEl (cVar 8)) (cOr (cOp1 (oIsi [1]) (cVar 14)) (cOr (cNot (cOp1 (oIsi [2]) (cVar 14))) (cNot (jDZ oLeA oLtA (cC (.int (.ofNat 0))) (cVar 14) (cVar 10))))) (cVar 14)) (cLst cNil))) (sSeq (jA1 4 (cOp2 oAdd (cVar 4) (cLst (jAb (jAs 1 (jAb (cVar 3) (jAb (cVar 10) (jAb (cVar 12) cNil)))) (jAb (jAs 1 (jAb (cVar 3) (jAb (cVar 10) (jAb (cOp2 oAdd (cVar 12) (cC (.int (.ofNat 1)))) cNil)))) (jAb (jAs 1 (jAb (cOp1 jEk (cVar 3)) (jAb (cVar 10) (jAb (cVar 12) cNil)))) (jAb (jAs 1 (jAb (cVar 8) (jAb (cVar 10) (jAb (cVar 12) cNil)))) cNil))))))) (sRet (jAs 10 (jAb (cVar 4) (jAb (cOp2 oAdd (cVar 5) (cLst (jAb (cC (.bl true)) (jAb (cC (.bl false)) (jAb (cC (.bl false)) (jAb (cVar 9) cNil)))))) cNil))))))))))))))))
def b_law : CS := (sSeq (sIf (cNot (jAs 16 cNil)) (sRet (cC (.bl false))) sNop) (sSeq (jA1 1 (jAs 7 (jAb (cVar 0) (jAb (cC (.int (.ofNat 2))) cNil)))) (sRet (cOp1 jFz (jBi [2] (jAq 2) (jEm (jAb (cOp1 jBP (cVar 1)) cNil)) (cC (.bl true)) (jAs 17 (jAb (jAs 5 (jAb (cVar 1) (jAb (cVar 2) cNil))) cNil)))))))
def tab (ns : List Int) : Nat → Option Fn := fun i => match i with
 | 0 => some ⟨1, 1, b_is_number⟩
 | 1 => some ⟨3, 4, b_is_row⟩
 | 2 => some ⟨2, 3, b_inverse⟩
 | 3 => some ⟨4, 9, b_row_by⟩
 | 4 => some ⟨3, 5, b_product⟩
 | 5 => some ⟨2, 3, b__law_box⟩
 | 6 => some ⟨2, 6, b__law_take⟩
 | 7 => some ⟨2, 6, jDp ns⟩
 | 8 => some ⟨2, 2, b__law_of⟩
 | 9 => some ⟨1, 2, b__law_lists⟩
 | 10 => some ⟨2, 4, b__law_same⟩
 | 11 => some ⟨4, 6, b__law_plus⟩
 | 12 => some ⟨4, 7, b__law_mixed⟩
 | 13 => some ⟨3, 5, b__law_times⟩
 | 14 => some ⟨4, 8, b__law_drawn_vectors⟩
 | 15 => some ⟨2, 5, b__law_heard⟩
 | 16 => some ⟨0, 9, b__law_by_hand_right⟩
 | 17 => some ⟨1, 15, b__law_right⟩
 | 18 => some ⟨1, 3, b_law⟩
 | _ => none
abbrev Lk := PySem.W.Frag → Bool
structure IniD where
 x : Str
 params : Arguments
 body : List Stmt
 scope : Scope
abbrev InI : Type := Option (Arguments × FuncBody × Scope)
def inAd (K : PySem.W.Frag) (x : Str) : Addr := He.fAd K (x, some "__init__")
def iniW (K : PySem.W.Frag) (x : Str) : InI := match K.lookup (inAd K x) with
 | some ⟨_, _, .func fd, _⟩ => some (fd.params, fd.body, fd.scope)
 | _ => none
def IniD.val (d : IniD) : InI := some (d.params, .stmts d.body, d.scope)
abbrev AlM : Type := He.AlD × List InI
def obsM (fs : List Lk) (fn : List He.DefD) (xs : List IniD) (K : PySem.W.Frag) : AlM := (((fs.all fun f => f K) && fn.all fun d => d.ok K, fn.map fun d => He.fnW K d.at_), xs.map fun d => iniW K d.x)
def valM (fn : List He.DefD) (xs : List IniD) : AlM := (He.valD fn, xs.map IniD.val)
def hookM (n : List Addr) (fs : List Lk) (fn : List He.DefD) (xs : List IniD) : PySem.W.Hook where
 α := AlM
 obs := fun s => obsM fs fn xs (He.frG s.heap.get? (cStatics :: n))
 val := fun _ => valM fn xs
 says := fun _ h => ∃ K : PySem.W.Frag, K.In h ∧ obsM fs fn xs K = valM fn xs
 of := fun _ _ eQ => ⟨_, He.frG_in, eQ⟩
 keeps := fun _ _ _ ⟨K, i, cQ⟩ k => ⟨K, PySem.W.Frag.In.keeps i k, cQ⟩
def obM (n : List Addr) (fs : List Lk) (fn : List He.DefD) (xs : List IniD) (s : PySem.W.SharedT) : AlM := obsM fs fn xs (He.frG (HandSHeadRun.getT s) (cStatics :: n))
def jB3 (x : Str) : Lk := fun K => He.eqO (PySem.W.nsIn K mainGlobals x) (some (some (.ref (He.ga K x))))
def jAV (x : Str) : Lk := fun K => He.eqO (PySem.W.nsIn K mainGlobals x) (some none)
def lkExc (x : Str) (bm : List Value) (newId : String) : Lk := fun K => PySem.W.excIn K (He.ga K x) bm newId && (PySem.W.keepIn K (.ref (He.ga K x)) && (decide (PySem.W.subIn K (.ref (He.ga K x)) (.type "BaseException") = some true) && decide (PySem.W.typeIn K (.ref (He.ga K x)) = some (.type "type"))))
def lkKit (x : Str) (T : String) (b : Bool) : Lk := fun K => decide (PySem.W.kitOne K (.ref (He.ga K x)) (.type T) = some b)
def jIr (y : Str) (cs : List Nat) (l : List (Nat × Str)) : Lk := fun K => l.all fun p => decide (PySem.W.exmOne K (.ref (He.ga K p.2)) (.ref (He.ga K y)) = some (memN p.1 cs))
def jFs (r : RE) : Bool := RE.rec (motive := fun _ => Bool) (fun v _ => D.cs v (fun p => P.cs p false (fun b => b) (fun _ => false) (fun _ => false) (fun _ _ => false) (fun _ => false)) (fun _ => false) (fun _ => false)) (fun _ _ _ => false) false r
def lkExcC (x : Str) : Lk := fun K => xfB K (He.ga K x) && (decide (PySem.W.findIn K (.ref (He.ga K x)) "__class__" = some (some (.builtin "object.__class__"))) && (decide (PySem.W.specialIn K (.builtin "object.__class__") "__get__" = some (some (.builtin "getset_descriptor.__get__"))) &&
 (decide (PySem.W.takesIn K (.builtin "object.__class__") = some true) && decide (PySem.W.mroIn K (He.ga K x) (.type "object") = some true))))
theorem ek_hand (ns : List Int) : jFs (lev (tab ns) 59 16 [] e0) = true := by kernel_rfl
def ddf (x : Str) (t : Stmt) : He.DefD := ⟨(x, none), x, x, defArgs t, defBody t, defScope t, [], []⟩
def jA3 : List He.DefD := [ddf "is_number" (top 3), ddf "is_row" (top 5), ddf "inverse" (top 6), ddf "row_by" (top 7), ddf "product" (top 8), ddf "_law_box" (top 10), ddf "_law_take" (top 11), ddf "_law_cells" (top 12), ddf "_law_of" (top 13), ddf "_law_lists" (top 14), ddf "_law_same" (top 15), ddf "_law_plus" (top 16), ddf "_law_mixed" (top 17), ddf "_law_times" (top 18), ddf "_law_drawn_vectors" (top 19), ddf "_law_heard" (top 20), ddf "_law_by_hand_right" (top 21), ddf "_law_right" (top 22), ddf "law" (top 23)]
def clsL : List (Nat × Str) := [(0, "Unfit")]
def jA2 : List IniD := []
def jAD : List Lk := [jAV "len", jAV "tuple", jAV "list", jAV "all", jAV "any", jAV "sum", jAV "max", jAV "min", jAV "int", jAV "bool", jAV "str", jAV "abs", jAV "isinstance", jAV "range", jAV "enumerate", jAV "zip", jAV "reversed", jAV "set", jAV "sorted", jAV "dict", jAV "divmod", jB3 "Unfit", lkExc "Unfit" [.type "ValueError", .type "Exception", .type "BaseException", .type "object"] "ValueError.__new__", jIr "Unfit" [0] clsL, jAV "ValueError", lkExcC "Unfit", lkKit "Unfit" "ValueError" true, jB3 "is_number", jB3 "is_row", jB3 "inverse", jB3 "row_by", jB3 "product", jB3 "_law_box", jB3 "_law_take", jB3 "_law_cells", jB3 "_law_of", jB3 "_law_lists", jB3 "_law_same", jB3 "_law_plus", jB3 "_law_mixed", jB3 "_law_times", jB3 "_law_drawn_vectors", jB3 "_law_heard", jB3 "_law_by_hand_right", jB3 "_law_right", jB3 "law"]
end
noncomputable section
open PySem
open PySem.W
open PySem.Calls
open PyProof.Rows
abbrev Rw : OpenRow := OpenLaw.row PySem.Challenge.rw_anydlooks_k02_rows_sums_and_inverses
def names0 : List PySem.Str := ["Unfit", "is_number", "is_row", "inverse", "row_by", "product", "_law_box", "_law_take", "_law_cells", "_law_of", "_law_lists", "_law_same", "_law_plus", "_law_mixed", "_law_times", "_law_drawn_vectors", "_law_heard", "_law_by_hand_right", "_law_right"]
def names : List PySem.Str := names0
def cl1 (P : Params) : List Obj := [oTu [(.type "ValueError")],
 ⟨(.type "builtin_function_or_method"), none, .fields #[(.builtin "type.__prepare__"), (.type "type")], #[]⟩,
 oDi P [("__module__", 196, (.str "anydlooks.errors" 187)), ("__qualname__", 198, (.str "Unfit" 197)), ("__firstlineno__", 200, (.int 2 199)), ("__static_attributes__", 201, (.ref 22))] 4,
 oTu [],
 oFi [],
 cdT (oFi [(.str "Unfit" 191), (.str "Unfit" 192), (.str "/claim/cut.py" 193), (.int 2 0), (.int 0 0), (.int 0 0), (.int 0 0), (.int 0 0), (.ref 18), (.bool false), (.int 181 0), (.ref 19), .none, .none, .none, .none, (.int 194 0), (.int 2 0), (.str "/claim/cut.py" 195)]),
 ⟨(.type "frame"), none, .plain, #[(some (.ref 20)), (some (.ref 3)), (some (.ref 17)), none, (some (.str "anydlooks.errors" 187)), none, (some (.ref 0))]⟩,
 oTu [],
 oDi P [("__module__", 196, (.str "anydlooks.errors" 187)), ("__firstlineno__", 200, (.int 2 199)), ("__static_attributes__", 201, (.ref 22)), ("__weakref__", 203, (.ref 25)), ("__doc__", 204, .none)] 3,
 ⟨(.type "type"), none, (.cls ⟨"Unfit", [(.type "ValueError")], [(.ref 24), (.type "ValueError"), (.type "Exception"), (.type "BaseException"), (.type "object")], 23, "Unfit", true, [], [], false, none, false⟩), #[(some (.ref 15)), none, (some (.str "Unfit" 189)), (some (.str "Unfit" 197)), (some (.builtin "ValueError.__new__")), (some (.bool true))]⟩,
 ⟨(.type "getset_descriptor"), none, .fields #[(.str "__weakref__" 202), (.ref 24), (.builtin "ExceptionGroup.__weakref__"), .none], #[]⟩,
 ⟨(.type "super"), none, .fields #[(.ref 24), (.ref 24), (.ref 24)], #[]⟩,
 ⟨(.type "builtin_function_or_method"), none, .fields #[(.builtin "object.__init_subclass__"), (.ref 24)], #[]⟩]
def ops0 : List Op := [.n "anydlooks.errors", .v "Unfit" (.ref 24) 17 13 cl1 [(.int 2 0), (.int 0 0), (.ref 20)], .n "anydlooks.plain", .d, .n "anydlooks.residues", .d, .d, .d, .d, .n "law_anydlooks_k02_rows_sums_and_inverses", .d, .d, .d, .d, .d, .d, .d, .d, .d, .d, .d, .d, .d, .d]
def opsL : List Op := ops0

noncomputable def StE (k : Nat) (w : World) (os : OsState) : SharedT := stS w os (opsL.take k) (topB Rw.prog)
def adr0 : List Addr := [0, 3, 4, 6, 22, 23, 24, 25, 28, 29, 30, 31, 32, 33, 34, 35, 36, 37, 38, 39, 40, 41, 42, 43, 44, 45, 46, 47, 48, 49, 50, 51, 52, 53, 54, 55, 56, 57, 58, 59, 60, 61, 62, 63, 64, 65, 66, 67, 68, 69]
def adr1 : List Addr := [70, 71, 72, 73, 74, 75, 76, 77, 78, 79, 80, 81, 82, 83, 84, 85, 86, 87, 88, 89, 90, 91, 92, 93, 94, 95, 96, 97, 98, 99, 100, 101, 102, 103, 104, 105, 106, 107, 108, 109, 110, 111, 112, 113, 114, 115, 116, 117, 118, 119]
def adr2 : List Addr := [120, 121, 122, 123, 124, 125, 126, 127, 128, 129, 130, 131, 132, 133, 134, 135, 136, 137, 138]
def adr : List Addr := adr0 ++ adr1 ++ adr2
theorem ek_hs1 : jCb Rw.prog "vars" = true := by kernel_rfl
theorem ek_hs2 : jCb Rw.prog "dir" = true := by kernel_rfl
theorem ek_hs3 : jCb Rw.prog "locals" = true := by kernel_rfl
theorem ek_hs4 : (sreFenced Rw.prog.main && ((moduleNames Rw.prog.main.body).isEmpty || lookedIntoSs (moduleNames Rw.prog.main.body) Rw.prog.main.body)) = true := by kernel_rfl
theorem ek_hs5 : nvQ Rw.prog = true := by kernel_rfl
theorem ek_hs6 : (Rw.prog.boundNames.all fun n => !worldNames.contains n) = true := by kernel_rfl
theorem ek_hs7 : nrQ { strict := !(importedModules Rw.prog.main.body).all cThrough.contains, foot := none, bare := [] } Rw.prog.main.body = true := by kernel_rfl
theorem ek_hs8 : nmQ Rw.prog Rw.prog.main.body (fun _ n => attrL n) = true := by kernel_rfl
theorem ek_said : OpenLaw.wellSaid PySem.Challenge.rw_anydlooks_k02_rows_sums_and_inverses = true := by
 unfold OpenLaw.wellSaid OpenRow.wellSaid OpenRow.partSaid
 rw [jF1 (p := Rw.prog) ek_hs1 ek_hs2 ek_hs3 ek_hs4 ek_hs5 ek_hs6 ek_hs7 ek_hs8, nrQ_eq, nmQ_eq]
 decide +kernel
theorem ek_h1 : opening Rw.prog = plainProg Rw.prog.main.scope.names := by kernel_rfl
theorem ek_h2 (s : Shared) : fenceModules? Rw.prog s = some s := by kernel_rfl
theorem ek_h3 : defOf (view Rw.prog [23]) Rw.name = some ((HandSHeadRun.topDef Rw.prog 23), []) := by kernel_rfl
theorem ek_h4 : Rw.prog.theDef Rw.name = some ((HandSHeadRun.topDef Rw.prog 23).params, (HandSHeadRun.topDef Rw.prog 23).body, (HandSHeadRun.topDef Rw.prog 23).scope) := by kernel_rfl
theorem ek_h5 : kwWritten? (HandSHeadRun.topDef Rw.prog 23).params.kwonlyargs (HandSHeadRun.topDef Rw.prog 23).params.kw_defaults = some [] := by kernel_rfl
theorem ek_h6 : (!Rw.writes || Rw.records.isEmpty) = true := by rfl
theorem ek_h8 : chainsOk (view Rw.prog [23]) = true := by decide +kernel
theorem ek_h9 : (opening Rw.prog).tameTopW = true := by decide +kernel
theorem ek_h10 : bearImports (behindTheImports Rw.prog) = false := by decide +kernel
theorem ek_h11 : (frees Rw.toRowW && Rw.within.isEmpty) = true := by decide +kernel
theorem ek_h12 : (chainsOk (view Rw.prog [23]) && opensWell Rw.prog && (frees Rw.toRowW && Rw.within.isEmpty)) = true := by
 unfold opensWell
 rw [ek_h8, ek_h9, ek_h10, ek_h11]
 rfl
theorem ek_g0 : gaS Rw.prog ((Rw.prog.main.body.drop 0).take 40) = [] := by kernel_rfl
theorem ek_t0 : hoS Rw.prog ((Rw.prog.main.body.drop 0).take 40) = true := by kernel_rfl
theorem ek_gz : gaS Rw.prog (Rw.prog.main.body.drop 40) = [] := by kernel_rfl
theorem ek_tz : hoS Rw.prog (Rw.prog.main.body.drop 40) = true := by kernel_rfl
theorem ek_h12a : ndB (encL Rw.prog.main.scope.names) = true := by kernel_rfl
theorem ek_h12b : (TablesWhole.holds.enter Rw.prog.main.scope && TablesWhole.noTwice Rw.prog.main.scope) = true := by
 rw [jH6 ek_h12a]
 rfl
theorem ek_h13 : Rw.prog.bare := ⟨rfl, rfl, rfl, rfl, rfl, whole_of (gaS_cut (k := 0) 40 ek_g0 ek_gz) (hoS_cut (k := 0) 40 ek_t0 ek_tz) ek_h12b rfl rfl rfl⟩
theorem ek_head (hoQ : ∀ s : PySem.W.SharedT, (obM adr jAD jA3 jA2) s = (hookM adr jAD jA3 jA2).obs s.abs) (hr : ∀ w : World, CutEq Rw (view Rw.prog [23]) (hookM adr jAD jA3 jA2) (obM adr jAD jA3 jA2) (12 + (1 + (766 + 2))) names w) (hc : PySem.W.WalkO (view Rw.prog [23]) names (PySem.W.XL (view Rw.prog [23]) []) (hookM adr jAD jA3 jA2).says Rw.toRowW (HandSHeadRun.topDef Rw.prog 23) [] fun f vs => PySem.call f vs) : PySem.Challenge.rw_anydlooks_k02_rows_sums_and_inverses.Holds := by
 w_on
 refine holds_law ek_said fun said => ?_
 refine head_cut (r := Rw) (q := view Rw.prog [23]) (H := (hookM adr jAD jA3 jA2)) (ob := (obM adr jAD jA3 jA2)) (M := (12 + (1 + (766 + 2)))) (loose := Mi.names) (d := HandSHeadRun.topDef Rw.prog 23) (kwd := []) hoQ
  ek_h1 ek_h2 hr ek_h3 ek_h4 ek_h5 ek_h6 (by assumption) ek_h12 ek_h13 ?hw hc
 w_witness2
theorem ek_p0 (w : World) (os : OsState) : bootS w os (fun s => preF (stQ Rw.prog w) 11 (HandSHeadRun.bootAnn w) 12 s (topStub Rw.prog)) = some (StE 0 w os, ⟨HandSHeadRun.denQ HandSHeadRun.tabQ (topC Rw.prog), topC Rw.prog, default, [topFrame default]⟩) := by kernel_rfl
theorem ek_p1 (w : World) (os : OsState) : segF (stQ Rw.prog w) 11 (HandSHeadRun.bootAnn w) 1 (StE 0 w os) (jD8 (topB Rw.prog) (jEp Rw.prog) (topC Rw.prog) default [topFrame default]) = some (StE 0 w os, topC Rw.prog, default) := by kernel_rfl
theorem ek_p2 (w : World) (os : OsState) : segF (stQ Rw.prog w) 11 (HandSHeadRun.bootAnn w) 766 (StE 0 w os) (jEK (((topB Rw.prog).drop 0).take 24) (jEp Rw.prog) (topC Rw.prog) default [topFrame default]) = some (StE 24 w os, topC Rw.prog, ⟨117, 0, 121, 81⟩) := by kernel_rfl
theorem ek_pn (w : World) (os : OsState) : HandSHeadRun.goF (stQ Rw.prog w) 11 (HandSHeadRun.bootAnn w) 2 (StE 24 w os) ⟨doneF .next, topC Rw.prog, ⟨117, 0, 121, 81⟩, [topFrame default]⟩ = some (StE 24 w os) := by kernel_rfl
theorem ek_top (w : World) (os : OsState) : topRun treeTable Rw.prog w 11 (HandSHeadRun.bootAnn w) (12 + (1 + (766 + 2))) ⟨boot_heap w.params, #[], boot_drawn, boot_toks, os⟩ (topStub Rw.prog) = some (StE 24 w os).abs := Left.boot (ek_p0 w os) (Left.block (ek_p1 w os) (Left.go (ek_p2 w os) (Left.nil (by kernel_rfl) (ek_pn w os))))
theorem ek_r1 (w : World) (os : PySem.OsState) : HandSHeadRun.looksF Rw.prog (PySem.W.boot_heap w.params) (StE 24 w os).abs = true := by kernel_rfl
theorem ek_r2 (w : World) (os : PySem.OsState) : HandSHeadRun.seenQ (view Rw.prog [23]) names (PySem.importedModules Rw.prog.main.body) (fun s => PySem.W.xlAt (view Rw.prog [23]) [] s && PySem.W.recOk Rw.records s) (StE 24 w os).abs = PySem.W.openGood (view Rw.prog [23]) names := by kernel_rfl
theorem ek_r3 (w : World) (os : PySem.OsState) : Option.map (fun s => obM adr jAD (jA3) jA2 s) (some (StE 24 w os)) = some (valM (jA3) jA2) := by kernel_rfl
end
end Mi
set_option Elab.async false
set_option linter.all false
set_option maxRecDepth 100000
set_option maxHeartbeats 4100000
namespace Mi
noncomputable section
def num (x : P) : Option Int := P.cs x none (fun b => some (bI b)) (fun i => some i) (fun _ => none) (fun _ _ => none) (fun _ => none)
def EH.nw (h : EH) (o : O) : EH := h.new o fun _ h => h
end
end Mi

namespace Mi
open PySem PySem.Spec L2
open PyProof.Rows hiding St
structure Kb where
 n : Nat
 ks : List Str
 dfl : List P
 ps : List Nat
structure Gi where
 K : PySem.W.Frag
 pg : Program
 w : World
 /-- classes of one's own, their fields' names -/
 ic : Nat → Option Addr
 at_ : Nat → Str
 fa : Nat → Option Addr
 ca : Nat → Option Addr
 fld : Nat → Option Str
 /-- what is known of the heap beside -/
 pins : List (Addr × HO)
 prs : List (P × V)
 /-- how the defs may be called, but for all arguments by place -/
 kb : Nat → List Kb
def sV (s : List Nat) : Str := ⟨s.toArray⟩
def Cln (H : Hp) (a : Addr) : Prop := ∃ o xs, H a = some (.frz o (.tup xs)) ∧ o.dict = none
structure TK (K : PySem.W.Frag) (H H' : Hp) : Prop where
 s : ∀ a xs, SqT K H a xs → SqT K H' a xs
 c : ∀ a, Cln H a → Cln H' a
instance {K : PySem.W.Frag} {H H' : Hp} : CoeFun (TK K H H') (fun _ => ∀ a xs, SqT K H a xs → SqT K H' a xs) := ⟨TK.s⟩
theorem TK.trans {K : PySem.W.Frag} {H H' H2 : Hp} (a : TK K H H') (b : TK K H' H2) : TK K H H2 := ⟨fun x xs q => b.s x xs (a.s x xs q), fun x q => b.c x (a.c x q)⟩
theorem TK.refl {K : PySem.W.Frag} {H : Hp} : TK K H H := ⟨fun _ _ q => q, fun _ q => q⟩
mutual
inductive PR (G : Gi) (H : Hp) : P → V → Prop
 | non : PR G H .non .non
 | bl (b : Bool) : PR G H (.bl b) (.bl b)
 | int (i : Int) : PR G H (.int i) (.int i)
 | str (s : List Nat) (zQ : s.length ≤ sizeLine) (cQ : ∀ x ∈ s, x < 1114112) : PR G H (.str s) (.str (sV s))
 | tup {d : Nat} {l : List P} {a : Addr} {vs : List V} : SqT G.K H a vs → PRs G H l vs → (∀ x ∈ l, dep x < unf d) → 0 < unf d ∧ unf d ≤ deepest → (fl d = true → Cln H a) → PR G H (.tup d l) (.ref a)
 | fn {k : Nat} {a : Addr} : G.fa k = some a → PR G H (.fn k) (.ref a)
inductive PRs (G : Gi) (H : Hp) : List P → List V → Prop
 | nil : PRs G H [] []
 | cons {x : P} {v : V} {l : List P} {vs : List V} : PR G H x v → PRs G H l vs → PRs G H (x :: l) (v :: vs)
end
def atR (ρ : List Addr) (k : Nat) : Option Addr := if k < ρ.length then ρ[ρ.length - 1 - k]? else none
mutual
inductive DR (G : Gi) (ρ : List Addr) (H : Hp) : D → V → Prop
 | p {x : P} {v : V} : PR G H x v → DR G ρ H (.p x) v
 | ref {k : Nat} {a : Addr} : atR ρ k = some a → DR G ρ H (.ref k) (.ref a)
 | mt {l : List D} {a : Addr} {vs : List V} : SqT G.K H a vs → DRs G ρ H l vs → DR G ρ H (.mt l) (.ref a)
inductive DRs (G : Gi) (ρ : List Addr) (H : Hp) : List D → List V → Prop
 | nil : DRs G ρ H [] []
 | cons {x : D} {v : V} {l : List D} {vs : List V} : DR G ρ H x v → DRs G ρ H l vs → DRs G ρ H (x :: l) (v :: vs)
end
mutual
def keyP : P → NestedKey
 | .non => .none
 | .bl b => .num (if b then 1 else 0)
 | .int i => .num i
 | .str s => .text (sV s)
 | .tup _ l => .tup (jDv l)
 | .fn _ => .none
def jDv : List P → List NestedKey
 | [] => []
 | x :: l => keyP x :: jDv l
end
def lfIs (k : Leaf) (v : Value) : Bool := Leaf.isOf k v && (match v with | .bool _ => false | _ => true)
theorem jBQ {k : Leaf} {v : Value} (h : lfIs k v = true) : Leaf.isOf k v = true := (Bool.and_eq_true_iff.mp h).1
def lf0 (P : Program) (w : World) : KeyKind P w Leaf where
 is := lfIs
 hash := (leafKind P w).hash
 inj := fun v a b x y => (leafKind P w).inj v a b (jBQ x) (jBQ y)
 byValue := fun k v x => (leafKind P w).byValue k v (jBQ x)
 pyHash := fun x h => (leafKind P w).pyHash (jBQ x) h
 eqBool := fun x y h => (leafKind P w).eqBool (jBQ x) (jBQ y) h
 «strs» := fun k x t v h => by
  have eQ : Leaf.isOf k v = v.isStr x := (leafKind P w).strs k x t v (jBQ h)
  show (Leaf.isOf k v && _) = _
  rw [eQ]
  cases v <;> first | rfl | exact Bool.and_true _
def jDS : P → Option Leaf
 | .non => some .none
 | .int i => some (.num i)
 | .str s => some (.text (sV s))
 | _ => none
def D0 (P : Program) (w : World) (a : Addr) (vs : List (Leaf × Value)) (h : Heap) : Prop := (a == sysModules) = false ∧ h.DictOf (lf0 P w) a vs
def D1 (P : Program) (w : World) (a : Addr) (xs : List (NestedKey × Addr × Value)) (h : Heap) : Prop := (a == sysModules) = false ∧
 ∃ o es ep, h.get? a = some o ∧ o.ExactDict ∧ o.data = .dict es ep ∧ es.toList = xs.map (entryOfKey (nestedKind P w)) ∧ (xs.map (·.1)).Nodup
def R0Q (G : Gi) (ρ : List Addr) (H : Hp) (p : P × D) (q : Leaf × Value) : Prop := jDS p.1 = some q.1 ∧ (∃ v, PR G H p.1 v) ∧ ∃ v, RelV v q.2 ∧ DR G ρ H p.2 v
def R1 (G : Gi) (ρ : List Addr) (H : Hp) (p : P × D) (q : NestedKey × Addr × Value) : Prop := keyP p.1 = q.1 ∧ isTp p.1 = true ∧ PR G H p.1 (.ref q.2.1) ∧ ∃ v, RelV v q.2.2 ∧ DR G ρ H p.2 v
def RF (G : Gi) (ρ : List Addr) (H : Hp) (p : Nat × D) (q : Str × V) : Prop := G.at_ p.1 = q.1 ∧ DR G ρ H p.2 q.2
def EX (C dx a : Addr) : Heap → Prop := fun h => ∃ tt : Addr, h.get? a = some ({ cls := .ref C, dict := some dx, data := .fields #[.ref tt, .none, .none, .none, .bool false, .none] } : Obj)
inductive OR (G : Gi) (ρ : List Addr) (H : Hp) : O → Addr → Prop
 | lst {l : List D} {a : Addr} {vs : List V} : H a = some (.lst vs) → DRs G ρ H l vs → OR G ρ H (.lst l) a
 | d0 {l : List (P × D)} {a : Addr} {vs : List (Leaf × Value)} : H a = some (.ext (D0 G.pg G.w a vs)) → Paired (R0Q G ρ H) l vs → l.length ≤ sizeLine ∧ (vs.map (·.1)).Nodup → OR G ρ H (.dic 0 l) a
 | d1 {l : List (P × D)} {a : Addr} {xs : List (NestedKey × Addr × Value)} : H a = some (.ext (D1 G.pg G.w a xs)) → Paired (R1 G ρ H) l xs → l.length ≤ sizeLine ∧ (xs.map (·.1)).Nodup → OR G ρ H (.dic 1 l) a
 | l0 {l : List (P × D)} {a : Addr} {o : Obj} {vs : List (Leaf × Value)} : H a = some (.frz o (.ext (D0 G.pg G.w a vs))) → Paired (R0Q G ρ H) l vs → l.length ≤ sizeLine ∧ (vs.map (·.1)).Nodup → OR G ρ H (.dic 2 l) a
 | l1 {l : List (P × D)} {a : Addr} {o : Obj} {xs : List (NestedKey × Addr × Value)} : H a = some (.frz o (.ext (D1 G.pg G.w a xs))) → Paired (R1 G ρ H) l xs → l.length ≤ sizeLine ∧ (xs.map (·.1)).Nodup → OR G ρ H (.dic 3 l) a
 | ins {cQ : Nat} {l : List (Nat × D)} {a C dx : Addr} {fs : List (Str × V)} : G.ic cQ = some C → H a = some (.ins C dx fs) → H dx = some (.own a) → dx ∉ ρ → Paired (RF G ρ H) l fs → OR G ρ H (.ins cQ l) a
 | exc {cQ : Nat} {x : P} {a C dx : Addr} {f : Str} {v : V} : G.ca cQ = some C → G.fld cQ = some f → H a = some (.ext (EX C dx a)) → H dx = some (.xd [(f, v)]) → dx ∉ ρ → PR G H x v → OR G ρ H (.exc cQ x) a
noncomputable def lsT (t : Tr) (n : Nat) : List O := Nat.rec [] (fun m ih => tgd t m :: ih) n
noncomputable def EH.l (h : EH) : List O := lsT h.t h.n
theorem jIp (t : Tr) : ∀ n, (lsT t n).length = n
 | 0 => rfl
 | n + 1 => congrArg Nat.succ (jIp t n)
theorem EH.l_len (h : EH) : h.n = h.l.length := (jIp h.t h.n).symm
def PinK (u : HO) : Prop := (∀ xs, u ≠ .lst xs) ∧ ∀ φ, u ≠ .ext φ
structure Sim (G : Gi) (ρ : List Addr) (h : EH) (H : Hp) : Prop where
 n : h.n = h.l.length
 len : ρ.length = h.l.length
 nd : ρ.Nodup
 obj : ∀ (i : Nat) (o : O) (a : Addr), h.l[i]? = some o → ρ[i]? = some a → OR G ρ H o a
 pin : ∀ p ∈ G.pins, H p.1 = some p.2 ∧ p.1 ∉ ρ ∧ PinK p.2
 pr : ∀ p ∈ G.prs, PR G H p.1 p.2
structure Ext (G : Gi) (ρ ρ' : List Addr) (H H' : Hp) : Prop where
 suf : ∃ new, ρ' = new ++ ρ ∧ ∀ a ∈ new, H a = none
 keep : ∀ a o, H a = some o → a ∉ ρ → H' a = some o
 tup : TK G.K H H'
 trk : ∀ a ∈ ρ, H' a ≠ none
 frz : ∀ a ∈ ρ, ∀ o u, H a = some (.frz o u) → H' a = some (.frz o u)
section
variable {G : Gi} {ρ ρ' ρ1 ρ2 ρ3 : List Addr} {H H' H1 H2 H3 : Hp} {h h' : EH}
theorem OR.trk {o : O} {a : Addr} (x : OR G ρ H o a) : H a ≠ none := by
 cases x with
 | lst eQ => rw [eQ]; exact fun zQ => nomatch zQ
 | d0 eQ => rw [eQ]; exact fun zQ => nomatch zQ
 | d1 eQ => rw [eQ]; exact fun zQ => nomatch zQ
 | l0 eQ => rw [eQ]; exact fun zQ => nomatch zQ
 | l1 eQ => rw [eQ]; exact fun zQ => nomatch zQ
 | ins _ eQ => rw [eQ]; exact fun zQ => nomatch zQ
 | exc _ _ eQ => rw [eQ]; exact fun zQ => nomatch zQ
theorem OR.noTup {o : O} {a : Addr} (x : OR G ρ H o a) : ∀ xs, ¬ Rd H a (.tup xs) := by
 rintro xs (zQ | ⟨_, zQ⟩)
 ·cases x <;> simp_all
 ·cases x <;> simp_all
theorem Sim.at {i : Nat} {a : Addr} (S : Sim G ρ h H) (eQ : ρ[i]? = some a) : ∃ o, h.l[i]? = some o ∧ OR G ρ H o a := by
 have hi : i < h.l.length := by rw [← S.len]; exact (List.getElem?_eq_some_iff.mp eQ).1
 exact ⟨h.l[i], List.getElem?_eq_getElem hi, S.obj i _ a (List.getElem?_eq_getElem hi) eQ⟩
theorem Sim.mem {a : Addr} (S : Sim G ρ h H) (eQ : a ∈ ρ) : ∃ (i : Nat) (o : O), ρ[i]? = some a ∧ h.l[i]? = some o ∧ OR G ρ H o a := by
 obtain ⟨i, hi⟩ := List.mem_iff_getElem?.mp eQ
 obtain ⟨o, h1, h2⟩ := S.at hi
 exact ⟨i, o, hi, h1, h2⟩
theorem Sim.trk (S : Sim G ρ h H) : ∀ a ∈ ρ, H a ≠ none := fun a eQ => by
 obtain ⟨_, _, _, _, x⟩ := S.mem eQ
 exact x.trk
theorem jGK (S : Sim G ρ h H) (k : ∀ a o, H a = some o → a ∉ ρ → H' a = some o) : TK G.K H H' := ⟨fun a xs x => by
 rcases x with x | x
 ·have na : a ∉ ρ := fun m => by
   obtain ⟨_, _, _, _, y⟩ := S.mem m
   exact y.noTup xs x
  rcases x with x | ⟨o, x⟩
  ·exact .inl (.inl (k a _ x na))
  ·exact .inl (.inr ⟨o, k a _ x na⟩)
 ·exact .inr x, fun a ⟨o, xs, eQ, q⟩ => by
 have na : a ∉ ρ := fun m => by
  obtain ⟨_, _, _, _, y⟩ := S.mem m
  exact y.noTup xs (.inr ⟨o, eQ⟩)
 exact ⟨o, xs, k a _ eQ na, q⟩⟩
theorem Ext.of (S : Sim G ρ h H) {new : List Addr} (eQ : ρ' = new ++ ρ) (fr : ∀ a ∈ new, H a = none) (k : ∀ a o, H a = some o → a ∉ ρ → H' a = some o) (t : ∀ a ∈ ρ, H' a ≠ none) (zQ : ∀ a ∈ ρ, ∀ o u, H a = some (.frz o u) → H' a = some (.frz o u)) : Ext G ρ ρ' H H' :=
 ⟨⟨new, eQ, fr⟩, k, jGK S k, t, zQ⟩
theorem Ext.all (S : Sim G ρ h H) {new : List Addr} (eQ : ρ' = new ++ ρ) (fr : ∀ a ∈ new, H a = none) (k : ∀ a o, H a = some o → H' a = some o) : Ext G ρ ρ' H H' :=
 .of S eQ fr (fun a o q _ => k a o q) (fun a m zQ => by
  cases q : H a with
  | none => exact S.trk a m q
  | some u => rw [k a u q] at zQ; cases zQ) fun a _ o u q => k a _ q
theorem Ext.refl (S : Sim G ρ h H) : Ext G ρ ρ H H := ⟨⟨[], rfl, fun _ zQ => absurd zQ (by simp)⟩, fun _ _ eQ _ => eQ, TK.refl, S.trk, fun _ _ _ _ eQ => eQ⟩
theorem Ext.trans (a : Ext G ρ1 ρ2 H1 H2) (b : Ext G ρ2 ρ3 H2 H3) : Ext G ρ1 ρ3 H1 H3 := by
 obtain ⟨n1, e1, f1⟩ := a.suf
 obtain ⟨n2, e2, f2⟩ := b.suf
 have none1 : ∀ x, H2 x = none → H1 x = none := fun x hxQ => by
  cases q : H1 x with
  | none => rfl
  | some o =>
   by_cases m : x ∈ ρ1
   ·exact absurd hxQ (a.trk x m)
   ·have zQ := a.keep x o q m
    rw [hxQ] at zQ; cases zQ
 refine ⟨⟨n2 ++ n1, by rw [e2, e1, List.append_assoc], fun x hxQ => ?_⟩, fun x o q m => ?_, a.tup.trans b.tup, fun x m => b.trk x (by rw [e1]; exact List.mem_append_right _ m), fun x m o u q => b.frz x (by rw [e1]; exact List.mem_append_right _ m) o u (a.frz x m o u q)⟩
 ·rcases List.mem_append.mp hxQ with zQ | zQ
  ·exact none1 x (f2 x zQ)
  ·exact f1 x zQ
 ·refine b.keep x o (a.keep x o q m) fun zQ => ?_
  rw [e1] at zQ
  rcases List.mem_append.mp zQ with zQ | zQ
  ·rw [f1 x zQ] at q; cases q
  ·exact m zQ
theorem Ext.at (eQ : Ext G ρ ρ' H H') {k : Nat} {a : Addr} (h : atR ρ k = some a) : atR ρ' k = some a := by
 obtain ⟨n, eQ, _⟩ := eQ.suf
 subst eQ
 unfold atR at h ⊢
 by_cases hk : k < ρ.length
 ·rw [if_pos hk] at h
  rw [if_pos (by rw [List.length_append]; omega), List.length_append, List.getElem?_append_right (by omega)]
  rw [show n.length + ρ.length - 1 - k - n.length = ρ.length - 1 - k by omega]
  exact h
 ·rw [if_neg hk] at h; cases h
mutual
theorem PR.mono (t : TK G.K H H') : ∀ {x : P} {v : V}, PR G H x v → PR G H' x v
 | _, _, .non => .non
 | _, _, .bl b => .bl b
 | _, _, .int i => .int i
 | _, _, .str s zQ cQ => .str s zQ cQ
 | _, _, .tup a b cQ d eQ => .tup (t.s _ _ a) (PRs.mono t b) cQ d fun zQ => t.c _ (eQ zQ)
 | _, _, .fn eQ => .fn eQ
theorem PRs.mono (t : TK G.K H H') : ∀ {x : List P} {v : List V}, PRs G H x v → PRs G H' x v
 | _, _, .nil => .nil
 | _, _, .cons a b => .cons (PR.mono t a) (PRs.mono t b)
end
mutual
theorem DR.mono (eQ : Ext G ρ ρ' H H') : ∀ {x : D} {v : V}, DR G ρ H x v → DR G ρ' H' x v
 | _, _, .p x => .p (x.mono eQ.tup)
 | _, _, .ref a => .ref (eQ.at a)
 | _, _, .mt a b => .mt (eQ.tup.s _ _ a) (DRs.mono eQ b)
theorem DRs.mono (eQ : Ext G ρ ρ' H H') : ∀ {x : List D} {v : List V}, DRs G ρ H x v → DRs G ρ' H' x v
 | _, _, .nil => .nil
 | _, _, .cons a b => .cons (DR.mono eQ a) (DRs.mono eQ b)
end
theorem DRs.length : ∀ {x : List D} {v : List V}, DRs G ρ H x v → x.length = v.length
 | _, _, .nil => rfl
 | _, _, .cons _ b => by rw [List.length_cons, List.length_cons, DRs.length b]
theorem PRs.length : ∀ {x : List P} {v : List V}, PRs G H x v → x.length = v.length
 | _, _, .nil => rfl
 | _, _, .cons _ b => by rw [List.length_cons, List.length_cons, PRs.length b]
theorem PRs.up : ∀ {x : List P} {v : List V}, PRs G H x v → DRs G ρ H (upP x) v
 | _, _, .nil => .nil
 | _, _, .cons a b => .cons (.p a) (PRs.up b)
theorem jEJ : ∀ {l : List D} {r : List P}, jC7 l = some r → l = upP r
 | [], r, h => by
  have : some [] = some r := h
  cases this; rfl
 | .p x :: l, r, h => by
  have h' : Option.rec (motive := fun _ => Option (List P)) none (fun r => some (x :: r)) (jC7 l) = some r := h
  cases q : jC7 l with
  | none => rw [q] at h'; cases h'
  | some r' =>
   rw [q] at h'
   have : some (x :: r') = some r := h'
   cases this
   have := jEJ q
   subst this
   rfl
 | .ref k :: l, r, h => nomatch (show (none : Option (List P)) = some r from h)
 | .mt m :: l, r, h => nomatch (show (none : Option (List P)) = some r from h)
theorem DRs.down : ∀ {r : List P} {v : List V}, DRs G ρ H (upP r) v → PRs G H r v
 | [], _, .nil => .nil
 | _ :: _, _, .cons (.p a) b => .cons a (DRs.down b)
structure EnvR (G : Gi) (ρ : List Addr) (H : Hp) (σd : Env) (σQ : St) : Prop where
 len : σd.length ≤ σQ.length
 val : ∀ (i : Nat) (d : D), σd[i]? = some (some d) → ∃ v, σQ[i]? = some (some v) ∧ DR G ρ H d v
theorem EnvR.mono {σd : Env} {σQ : St} (x : EnvR G ρ H σd σQ) (eQ : Ext G ρ ρ' H H') : EnvR G ρ' H' σd σQ := ⟨x.len, fun i d q => by
 obtain ⟨v, h1, h2⟩ := x.val i d q
 exact ⟨v, h1, h2.mono eQ⟩⟩
theorem EnvR.set {σd : Env} {σQ : St} {i : Nat} {d : D} {v : V} (x : EnvR G ρ H σd σQ) (r : DR G ρ H d v) : EnvR G ρ H (σd.set i (some d)) (σQ.set i (some v)) := by
 refine ⟨by rw [List.length_set, List.length_set]; exact x.len, fun j eQ q => ?_⟩
 by_cases hj : i = j
 ·subst hj
  have hi : i < (σd.set i (some d)).length := (List.getElem?_eq_some_iff.mp q).1
  rw [List.length_set] at hi
  rw [List.getElem?_set_self hi] at q
  cases q
  exact ⟨v, List.getElem?_set_self (Nat.lt_of_lt_of_le hi x.len), r⟩
 ·rw [List.getElem?_set_ne hj] at q ⊢
  exact x.val j eQ q
end

def XR (G : Gi) (H : Hp) (cQ : Nat) (x : P) (cls : Value) (dd : Option Addr) : Prop :=
 ∃ C, G.ca cQ = some C ∧ cls = .ref C ∧ (match G.fld cQ with
  | none => dd = none
  | some f => ∃ d v, dd = some d ∧ H d = some (.xd [(f, v)]) ∧ PR G H x v)
def wE (G : Gi) (W : WX) (ρ : List Addr) (H : Hp) (σQ : St) (r : RE) (Q : VK) : Prop :=
 match r with
 | .ok d h' => ∀ ρ' H' v, Ext G ρ ρ' H H' → Sim G ρ' h' H' → DR G ρ' H' d v → Q v H'
 | .ex cQ x h' => ∀ ρ' H' cls dd, Ext G ρ ρ' H H' → Sim G ρ' h' H' → XR G H' cQ x cls dd → W cls dd σQ H'
 | .bad => False
def wL (G : Gi) (W : WX) (ρ : List Addr) (H : Hp) (σQ : St) (r : RL) (Q : List V → Hp → Prop) : Prop :=
 match r with
 | .ok d h' => ∀ ρ' H' v, Ext G ρ ρ' H H' → Sim G ρ' h' H' → DRs G ρ' H' d v → Q v H'
 | .ex cQ x h' => ∀ ρ' H' cls dd, Ext G ρ ρ' H H' → Sim G ρ' h' H' → XR G H' cQ x cls dd → W cls dd σQ H'
 | .bad => False
def wS (G : Gi) (W : WX) (ρ : List Addr) (H : Hp) (r : RS) (D : Ends) : Prop :=
 match r with
 | .nx σd h' => ∀ ρ' H' σ', Ext G ρ ρ' H H' → Sim G ρ' h' H' → EnvR G ρ' H' σd σ' → D.nx σ' H'
 | .ct σd h' => ∀ ρ' H' σ', Ext G ρ ρ' H H' → Sim G ρ' h' H' → EnvR G ρ' H' σd σ' → D.ct σ' H'
 | .bk σd h' => ∀ ρ' H' σ', Ext G ρ ρ' H H' → Sim G ρ' h' H' → EnvR G ρ' H' σd σ' → D.bk σ' H'
 | .rt d h' => ∀ ρ' H' v, Ext G ρ ρ' H H' → Sim G ρ' h' H' → DR G ρ' H' d v → D.rt v H'
 | .ex cQ x σd h' => ∀ ρ' H' σ' cls dd, Ext G ρ ρ' H H' → Sim G ρ' h' H' → EnvR G ρ' H' σd σ' → XR G H' cQ x cls dd → W cls dd σ' H'
 | .bad => False
end Mi

namespace Mi
open PySem PySem.Spec L2
open PyProof.Rows hiding St
section
universe u v
variable {α : Type u} {β : Type v}
theorem jA7 {α : Sort u} (n : Nat) (k : Nat → α) : fN n k = k n := by cases n <;> rfl
theorem jDw {α : Sort u} (i : Int) (k : Int → α) : fI i k = k i := by
 cases i with
 | ofNat n => exact jA7 n fun n => k (.ofNat n)
 | negSucc n => exact jA7 n fun n => k (.negSucc n)
theorem jAR {α : Sort u} (b : Bool) (k : Bool → α) : fB b k = k b := by cases b <;> rfl
theorem fP_eq {α : Sort u} (x : P) (k : P → α) : fP x k = k x := by
 cases x with
 | non => rfl
 | bl b => exact jAR b fun b => k (.bl b)
 | int i => exact jDw i fun i => k (.int i)
 | str s => rfl
 | tup d l => exact jA7 d fun d => k (.tup d l)
 | fn k => rfl
theorem jBs {α : Sort u} (x : D) (k : D → α) : fD x k = k x := by
 cases x with
 | p x => exact fP_eq x fun x => k (.p x)
 | ref a => exact jA7 a fun a => k (.ref a)
 | mt l => rfl
theorem jBp : ∀ (l : List α) (i : Nat), nth l i = l[i]?
 | [], _ => rfl
 | _ :: _, 0 => rfl
 | _ :: l, i + 1 => (jBp l i).trans (by simp)
theorem jBC : ∀ (l : List α) (i : Nat) (x : α), setN l i x = l.set i x
 | [], _, _ => rfl
 | _ :: _, 0, _ => rfl
 | a :: l, i + 1, x => congrArg (a :: ·) (jBC l i x)
theorem jB8 : ∀ (l m : List α), app l m = l ++ m
 | [], _ => rfl
 | a :: l, m => congrArg (a :: ·) (jB8 l m)
theorem jIy : ∀ (l : List α) (n : Nat), lenA l n = n + l.length
 | [], _ => rfl
 | a :: l, n => by
  show fN n (fun n => lenA l (Nat.succ n)) = _
  rw [jA7, jIy l, List.length_cons]; omega
theorem jAx (l : List α) : lenL l = l.length := (jIy l 0).trans (Nat.zero_add _)
theorem jCj (f : α → β) : ∀ (l : List α), mapL f l = l.map f
 | [] => rfl
 | a :: l => congrArg (f a :: ·) (jCj f l)
theorem jHV : ∀ (l acc : List α), revA l acc = l.reverse ++ acc
 | [], _ => rfl
 | a :: l, acc => (jHV l (a :: acc)).trans (by simp)
theorem jHU (l : List α) : revL l = l.reverse := (jHV l []).trans (by simp)
theorem jDz : ∀ (l : List α) (i : Nat), takeL l i = l.take i
 | [], _ => by rw [List.take_nil]; rfl
 | _ :: _, 0 => rfl
 | a :: l, i + 1 => congrArg (a :: ·) (jDz l i)
theorem jD3 : ∀ (l : List α) (i : Nat), dropL l i = l.drop i
 | [], _ => by rw [List.drop_nil]; rfl
 | _ :: _, 0 => rfl
 | _ :: l, i + 1 => jD3 l i
theorem jDG : ∀ (l : List α) (n : Nat), jEs l n = true → l.length ≤ n
 | [], _, _ => Nat.zero_le _
 | _ :: _, 0, h => nomatch (show false = true from h)
 | _ :: l, n + 1, h => Nat.succ_le_succ (jDG l n h)
theorem jGP {l : List α} (h : jAG l = true) : l.length ≤ 1000000 := jDG l _ h
theorem jAL {l : List α} (h : jAG l = true) : l.length < sizeLine := Nat.lt_of_le_of_lt (jGP h) (by decide)
theorem jEG (l : List α) : ∀ (n : Nat), repL l n = (List.replicate n l).flatten
 | 0 => rfl
 | n + 1 => (jB8 l (repL l n)).trans (by rw [jEG l n]; rfl)
theorem isN_eq : ∀ (l : List α), isN l = !l.isEmpty
 | [] => rfl
 | _ :: _ => rfl
end
theorem jBw : ∀ (i j : Int), iEq i j = decide (i = j)
 | .ofNat a, .ofNat b => by
  show Nat.beq a b = _
  cases h : Nat.beq a b with
  | true =>
     rw [Nat.eq_of_beq_eq_true h]; simp
  | false =>
   have : a ≠ b :=
      Nat.ne_of_beq_eq_false h
   exact (decide_eq_false fun q => this (by injection q)).symm
 | .negSucc a, .negSucc b => by
  show Nat.beq a b = _
  cases h : Nat.beq a b with
  | true =>
     rw [Nat.eq_of_beq_eq_true h]; simp
  | false =>
   have : a ≠ b :=
      Nat.ne_of_beq_eq_false h
   exact (decide_eq_false fun q => this (by injection q)).symm
 | .ofNat _, .negSucc _ => rfl
 | .negSucc _, .ofNat _ => rfl
theorem jBZ : ∀ (i j : Int), iLe i j = decide (i ≤ j)
 | .ofNat a, .ofNat b => by
  show Nat.ble a b = _
  cases h : Nat.ble a b with
  | true =>
   have : a ≤ b := Nat.le_of_ble_eq_true h
   simp; omega
  | false =>
   have : ¬ a ≤ b := Nat.not_le_of_not_ble_eq_true (by rw [h]; decide)
   simp; omega
 | .negSucc a, .negSucc b => by
  show Nat.ble b a = _
  cases h : Nat.ble b a with
  | true =>
   have : b ≤ a := Nat.le_of_ble_eq_true h
   simp only [Int.negSucc_eq]; symm; rw [decide_eq_true_iff]; omega
  | false =>
   have : ¬ b ≤ a := Nat.not_le_of_not_ble_eq_true (by rw [h]; decide)
   simp only [Int.negSucc_eq]; symm; rw [decide_eq_false_iff_not]; omega
 | .ofNat a, .negSucc b => by
  show false = _
  symm; rw [decide_eq_false_iff_not, Int.negSucc_eq, Int.ofNat_eq_natCast]; omega
 | .negSucc a, .ofNat b => by
  show true = _
  symm; rw [decide_eq_true_iff, Int.negSucc_eq, Int.ofNat_eq_natCast]; omega
theorem jF8 : ∀ {i : Int} {n : Nat}, iSm i n = true → i.natAbs < n
 | .ofNat a, n, h => Nat.le_of_ble_eq_true h
 | .negSucc a, n, h => Nat.le_of_ble_eq_true h
theorem bEq_eq (a b : Bool) : bEq a b = decide (a = b) := by cases a <;> cases b <;> rfl
section
variable {G : Gi} {ρ ρ' : List Addr} {H H' : Hp} {h h' : EH}
theorem jAU {α : Sort u} (k : Nat) (a : α) (b cQ : Nat → α) : (k = 0 ∧ stp k a b cQ = a) ∨ (∃ j, k = 2 * j + 1 ∧ stp k a b cQ = b j) ∨ ∃ j, k = 2 * j + 2 ∧ stp k a b cQ = cQ j := by
 unfold stp
 cases q : Nat.beq k 0 with
 | true => exact .inl ⟨Nat.eq_of_beq_eq_true q, rfl⟩
 | false =>
  have k0 : k ≠ 0 := fun zQ => by rw [zQ] at q; cases q
  cases p : Nat.beq (Nat.mod k 2) 1 with
  | true =>
   have eQ : k % 2 = 1 := Nat.eq_of_beq_eq_true p
   exact .inr (.inl ⟨k / 2, by omega, rfl⟩)
  | false =>
   have eQ : k % 2 ≠ 1 := fun zQ => by
    have : Nat.beq (Nat.mod k 2) 1 = true := by
     show Nat.beq (k % 2) 1 = true
     rw [zQ]; rfl
    rw [this] at p; cases p
   exact .inr (.inr ⟨k / 2 - 1, by omega, rfl⟩)
theorem stp_o {α : Sort u} {a : α} {b cQ : Nat → α} (j : Nat) : stp (2 * j + 1) a b cQ = b j := by
 rcases jAU (2 * j + 1) a b cQ with ⟨zQ, _⟩ | ⟨i, zQ, eQ⟩ | ⟨i, zQ, _⟩
 ·omega
 ·rw [eQ, show i = j by omega]
 ·omega
theorem stp_e {α : Sort u} {a : α} {b cQ : Nat → α} (j : Nat) : stp (2 * j + 2) a b cQ = cQ j := by
 rcases jAU (2 * j + 2) a b cQ with ⟨zQ, _⟩ | ⟨i, zQ, _⟩ | ⟨i, zQ, eQ⟩
 ·omega
 ·omega
 ·rw [eQ, show i = j by omega]
theorem fT_eq {α : Sort u} (t : Tr) (k : Tr → α) : fT t k = k t := by cases t <;> rfl
theorem Tr.get_nd {o : Option O} {l r : Tr} {k : Nat} : (Tr.nd o l r).get k = stp k o l.get r.get := rfl
theorem Tr.path_s {x : O} {f k : Nat} : Tr.path x (f + 1) k = stp k (.nd (some x) .lf .lf) (fun j => .nd none (Tr.path x f j) .lf) (fun j => .nd none .lf (Tr.path x f j)) := rfl
theorem Tr.get_path (x : O) : ∀ (f k : Nat), k < f → ∀ i, (Tr.path x f k).get i = if i = k then some x else none
 | 0, _, h, _ => absurd h (Nat.not_lt_zero _)
 | f + 1, k, h, i => by
  rw [Tr.path_s]
  have lf : ∀ j, Tr.get .lf j = none := fun _ => rfl
  rcases jAU k (Tr.nd (some x) .lf .lf) (fun j => .nd none (Tr.path x f j) .lf) (fun j => .nd none .lf (Tr.path x f j)) with ⟨zQ, eQ⟩ | ⟨j, zQ, eQ⟩ | ⟨j, zQ, eQ⟩ <;> rw [eQ, Tr.get_nd]
  ·rcases jAU i (some x) (Tr.get .lf) (Tr.get .lf) with ⟨y, e2⟩ | ⟨m, y, e2⟩ | ⟨m, y, e2⟩ <;> rw [e2]
   ·rw [if_pos (by omega)]
   ·rw [if_neg (by omega)]; rfl
   ·rw [if_neg (by omega)]; rfl
  ·rcases jAU i none (Tr.get (Tr.path x f j)) (Tr.get .lf) with ⟨y, e2⟩ | ⟨m, y, e2⟩ | ⟨m, y, e2⟩ <;> rw [e2]
   ·rw [if_neg (by omega)]
   ·rw [Tr.get_path x f j (by omega)]
    by_cases q : m = j
    ·rw [if_pos q, if_pos (by omega)]
    ·rw [if_neg q, if_neg (by omega)]
   ·rw [if_neg (by omega)]; rfl
  ·rcases jAU i none (Tr.get .lf) (Tr.get (Tr.path x f j)) with ⟨y, e2⟩ | ⟨m, y, e2⟩ | ⟨m, y, e2⟩ <;> rw [e2]
   ·rw [if_neg (by omega)]
   ·rw [if_neg (by omega)]; rfl
   ·rw [Tr.get_path x f j (by omega)]
    by_cases q : m = j
    ·rw [if_pos q, if_pos (by omega)]
    ·rw [if_neg q, if_neg (by omega)]
theorem Tr.put_nd {o : Option O} {l r : Tr} {k : Nat} {x : O} : (Tr.nd o l r).put k x = stp k (.nd (some x) l r) (fun j => .nd o (l.put j x) r) (fun j => .nd o l (r.put j x)) := by
 show stp k (Tr.nd (some x) l r) (fun j => fT (l.put j x) fun l => .nd o l r) (fun j => fT (r.put j x) fun r => .nd o l r) = _
 congr 1
 ·funext j; exact fT_eq _ _
 ·funext j; exact fT_eq _ _
theorem Tr.get_put (x : O) : ∀ (t : Tr) (k i : Nat), (t.put k x).get i = if i = k then some x else t.get i
 | .lf, k, i => by
  rw [show Tr.put .lf k x = Tr.path x (k + 1) k from rfl, Tr.get_path x (k + 1) k (Nat.lt_succ_self k)]
  rfl
 | .nd o l r, k, i => by
  rw [Tr.put_nd]
  rcases jAU k (Tr.nd (some x) l r) (fun j => .nd o (l.put j x) r) (fun j => .nd o l (r.put j x)) with ⟨zQ, eQ⟩ | ⟨j, zQ, eQ⟩ | ⟨j, zQ, eQ⟩ <;> rw [eQ, Tr.get_nd, Tr.get_nd]
  ·rcases jAU i o l.get r.get with ⟨y, e2⟩ | ⟨m, y, e2⟩ | ⟨m, y, e2⟩
   ·subst y; rw [if_pos (by omega)]; rfl
   ·rw [if_neg (by omega), y, stp_o, stp_o]
   ·rw [if_neg (by omega), y, stp_e, stp_e]
  ·rcases jAU i o l.get r.get with ⟨y, e2⟩ | ⟨m, y, e2⟩ | ⟨m, y, e2⟩
   ·subst y; rw [if_neg (by omega)]; rfl
   ·subst y
    rw [stp_o, stp_o, Tr.get_put x l j m]
    by_cases q : m = j
    ·rw [if_pos q, if_pos (by omega)]
    ·rw [if_neg q, if_neg (by omega)]
   ·rw [if_neg (by omega), y, stp_e, stp_e]
  ·rcases jAU i o l.get r.get with ⟨y, e2⟩ | ⟨m, y, e2⟩ | ⟨m, y, e2⟩
   ·subst y; rw [if_neg (by omega)]; rfl
   ·rw [if_neg (by omega), y, stp_o, stp_o]
   ·subst y
    rw [stp_e, stp_e, Tr.get_put x r j m]
    by_cases q : m = j
    ·rw [if_pos q, if_pos (by omega)]
    ·rw [if_neg q, if_neg (by omega)]
theorem jHN {t : Tr} {k i : Nat} {x : O} : tgd (t.put k x) i = if i = k then x else tgd t i := by
 unfold tgd
 rw [Tr.get_put]
 by_cases q : i = k
 ·rw [if_pos q, if_pos q]
 ·rw [if_neg q, if_neg q]
theorem lsT_at (t : Tr) : ∀ (n i : Nat), i < n → (lsT t n)[n - 1 - i]? = some (tgd t i)
 | 0, i, h => absurd h (Nat.not_lt_zero _)
 | n + 1, i, h => by
  show (tgd t n :: lsT t n)[n + 1 - 1 - i]? = _
  by_cases q : i = n
  ·subst q
   rw [show i + 1 - 1 - i = 0 by omega]; rfl
  ·rw [show n + 1 - 1 - i = (n - 1 - i) + 1 by omega, List.getElem?_cons_succ]
   exact lsT_at t n i (by omega)
theorem jGo {t : Tr} {k : Nat} {x : O} : ∀ (n : Nat), lsT (t.put k x) n = if k < n then (lsT t n).set (n - 1 - k) x else lsT t n
 | 0 => rfl
 | n + 1 => by
  show tgd (t.put k x) n :: lsT (t.put k x) n = _
  rw [jHN, jGo n]
  by_cases q : n = k
  ·subst q
   rw [if_pos rfl, if_neg (Nat.lt_irrefl _), if_pos (Nat.lt_succ_self _), show n + 1 - 1 - n = 0 by omega]; rfl
  ·rw [if_neg q]
   by_cases h : k < n
   ·rw [if_pos h, if_pos (by omega), show n + 1 - 1 - k = (n - 1 - k) + 1 by omega]; rfl
   ·rw [if_neg h, if_neg (by omega)]; rfl
theorem EH.get_some {h : EH} {k : Nat} {o : O} (eQ : h.get k = some o) : k < h.l.length ∧ h.l[h.l.length - 1 - k]? = some o := by
 obtain ⟨n, t⟩ := h
 have eQ : Bool.rec (motive := fun _ => Option O) none (t.get k) (Nat.blt k n) = some o := eQ
 rw [← EH.l_len]
 show k < n ∧ (lsT t n)[n - 1 - k]? = some o
 cases q : Nat.blt k n with
 | false => rw [q] at eQ; cases eQ
 | true =>
  rw [q] at eQ
  have eQ : t.get k = some o := eQ
  have hk : k < n := Nat.le_of_ble_eq_true q
  refine ⟨hk, ?_⟩
  rw [lsT_at t n k hk]
  unfold tgd
  rw [eQ]
theorem EH.nw_eq (h : EH) (o : O) : h.nw o = ⟨Nat.succ h.n, h.t.put h.n o⟩ := by
 obtain ⟨n, t⟩ := h
 show fN n (fun n => fT (t.put n o) fun t => (⟨Nat.succ n, t⟩ : EH)) = _
 rw [jA7, fT_eq]
theorem EH.new_eq {α : Sort u} (h : EH) (o : O) (k : Nat → EH → α) : h.new o k = k h.n (h.nw o) := by
 rw [EH.nw_eq]
 obtain ⟨n, t⟩ := h
 show fN n (fun n => fT (t.put n o) fun t => k n ⟨Nat.succ n, t⟩) = _
 rw [jA7, fT_eq]
theorem EH.nw_n {h : EH} {o : O} : (h.nw o).n = Nat.succ h.n := by rw [EH.nw_eq]
theorem EH.nw_l {h : EH} {o : O} : (h.nw o).l = o :: h.l := by
 rw [EH.nw_eq]
 show tgd (h.t.put h.n o) h.n :: lsT (h.t.put h.n o) h.n = o :: lsT h.t h.n
 rw [jHN, if_pos rfl, jGo, if_neg (Nat.lt_irrefl _)]
theorem EH.put_n {h : EH} {k : Nat} {o : O} : (h.put k o).n = h.n := by
 obtain ⟨n, t⟩ := h
 show (fT (t.put (Nat.sub (Nat.sub n 1) (Nat.sub (Nat.sub n 1) k)) o) fun t => (⟨n, t⟩ : EH)).n = n
 rw [fT_eq]
theorem EH.put_l {h : EH} {k : Nat} {o : O} : (h.put k o).l = h.l.set (h.n - 1 - k) o := by
 obtain ⟨n, t⟩ := h
 show (fT (t.put (n - 1 - (n - 1 - k)) o) fun t => (⟨n, t⟩ : EH)).l = (lsT t n).set (n - 1 - k) o
 rw [fT_eq]
 show lsT (t.put (n - 1 - (n - 1 - k)) o) n = _
 rw [jGo]
 by_cases q : n = 0
 ·subst q; rfl
 ·rw [if_pos (by omega), show n - 1 - (n - 1 - (n - 1 - k)) = n - 1 - k by omega]
theorem Sim.get {k : Nat} {o : O} (S : Sim G ρ h H) (eQ : h.get k = some o) : ∃ a, atR ρ k = some a ∧ OR G ρ H o a := by
 obtain ⟨hk, eQ⟩ := EH.get_some eQ
 have hi : h.l.length - 1 - k < ρ.length := by rw [S.len]; omega
 refine ⟨ρ[h.l.length - 1 - k], ?_, S.obj _ _ _ eQ (List.getElem?_eq_getElem hi)⟩
 unfold atR
 rw [if_pos (by rw [S.len]; exact hk), S.len]
 exact List.getElem?_eq_getElem hi
theorem jE0 {α : Sort u} {k : Nat} {y : List D → α} {n : α} : (∃ l, h.get k = some (.lst l) ∧ jAw h k y n = y l) ∨ ((∀ l, h.get k ≠ some (.lst l)) ∧ jAw h k y n = n) := by
 unfold jAw
 cases q : h.get k with
 | none => exact .inr ⟨fun l zQ => (nomatch zQ), rfl⟩
 | some o =>
  cases o with
  | lst l => exact .inl ⟨l, rfl, rfl⟩
  | dic v l => exact .inr ⟨fun l zQ => (nomatch zQ), rfl⟩
  | set l => exact .inr ⟨fun l zQ => (nomatch zQ), rfl⟩
  | ins cQ l => exact .inr ⟨fun l zQ => (nomatch zQ), rfl⟩
  | exc cQ l => exact .inr ⟨fun l zQ => (nomatch zQ), rfl⟩
theorem jFh {a : Addr} : atR (a :: ρ) ρ.length = some a := by
 unfold atR
 rw [if_pos (by simp)]
 simp
theorem R0Q.mono {p : P × D} {q : Leaf × Value} (x : R0Q G ρ H p q) (eQ : Ext G ρ ρ' H H') : R0Q G ρ' H' p q := by
 obtain ⟨h1, ⟨v, h2⟩, u, h3, h4⟩ := x
 exact ⟨h1, ⟨v, h2.mono eQ.tup⟩, u, h3, h4.mono eQ⟩
theorem R1.mono {p : P × D} {q : NestedKey × Addr × Value} (x : R1 G ρ H p q) (eQ : Ext G ρ ρ' H H') : R1 G ρ' H' p q := by
 obtain ⟨h1, h2, h5, u, h3, h4⟩ := x
 exact ⟨h1, h2, h5.mono eQ.tup, u, h3, h4.mono eQ⟩
theorem RF.mono {p : Nat × D} {q : Str × V} (x : RF G ρ H p q) (eQ : Ext G ρ ρ' H H') : RF G ρ' H' p q := ⟨x.1, x.2.mono eQ⟩
theorem OR.mono {o : O} {a : Addr} (x : OR G ρ H o a) (eQ : Ext G ρ ρ' H H') (k : H' a = H a) : OR G ρ' H' o a := by
 cases x with
 | lst q r => exact .lst (k.trans q) (r.mono eQ)
 | d0 q r zQ => exact .d0 (k.trans q) (L2.Paired.mapP r fun _ _ h => h.mono eQ) zQ
 | d1 q r zQ => exact .d1 (k.trans q) (L2.Paired.mapP r fun _ _ h => h.mono eQ) zQ
 | l0 q r zQ => exact .l0 (k.trans q) (L2.Paired.mapP r fun _ _ h => h.mono eQ) zQ
 | l1 q r zQ => exact .l1 (k.trans q) (L2.Paired.mapP r fun _ _ h => h.mono eQ) zQ
 | ins cQ q d n r =>
  refine .ins cQ (k.trans q) (eQ.keep _ _ d n) (fun m => ?_) (L2.Paired.mapP r fun _ _ h => h.mono eQ)
  obtain ⟨new, en, fr⟩ := eQ.suf
  rw [en] at m
  rcases List.mem_append.mp m with m | m
  ·rw [fr _ m] at d; cases d
  ·exact n m
 | exc cQ f q d n r =>
  refine .exc cQ f (k.trans q) (eQ.keep _ _ d n) (fun m => ?_) (r.mono eQ.tup)
  obtain ⟨new, en, fr⟩ := eQ.suf
  rw [en] at m
  rcases List.mem_append.mp m with m | m
  ·rw [fr _ m] at d; cases d
  ·exact n m
theorem Sim.new {o : O} {a : Addr} (S : Sim G ρ h H) (fr : H a = none) (k : ∀ b u, H b = some u → H' b = some u) (x : OR G (a :: ρ) H' o a) :
  Sim G (a :: ρ) (h.nw o) H' ∧ Ext G ρ (a :: ρ) H H' := by
 have na : a ∉ ρ := fun m => S.trk a m fr
 have E : Ext G ρ (a :: ρ) H H' := .all S (new := [a]) rfl (fun b hb => by
  have : b = a := by simpa using hb
  rw [this]; exact fr) k
 refine ⟨⟨EH.l_len _, by rw [EH.nw_l, List.length_cons, List.length_cons, S.len], List.nodup_cons.mpr ⟨na, S.nd⟩, fun i u b e1 e2 => ?_, fun p hpQ => ⟨k _ _ (S.pin p hpQ).1, fun m => by
  rcases List.mem_cons.mp m with zQ | zQ
  ·have := (S.pin p hpQ).1; rw [zQ, fr] at this; cases this
  ·exact (S.pin p hpQ).2.1 zQ, (S.pin p hpQ).2.2⟩, fun p hpQ => (S.pr p hpQ).mono E.tup⟩, E⟩
 rw [EH.nw_l] at e1
 cases i with
 | zero =>
  simp at e1 e2
  subst e1; subst e2
  exact x
 | succ i =>
  have e1 : h.l[i]? = some u := by simpa using e1
  have e2 : ρ[i]? = some b := by simpa using e2
  have y := S.obj i u b e1 e2
  refine y.mono E ?_
  cases q : H b with
  | none => exact absurd q y.trk
  | some w => exact k b w q
theorem Sim.kept (S : Sim G ρ h H) (k : ∀ b u, H b = some u → H' b = some u) : Sim G ρ h H' ∧ Ext G ρ ρ H H' := by
 have E : Ext G ρ ρ H H' := .all S (new := []) rfl (fun b hb => absurd hb (by simp)) k
 refine ⟨⟨S.n, S.len, S.nd, fun i u b e1 e2 => ?_, fun p hpQ => ⟨k _ _ (S.pin p hpQ).1, (S.pin p hpQ).2⟩, fun p hpQ => (S.pr p hpQ).mono E.tup⟩, E⟩
 have y := S.obj i u b e1 e2
 refine y.mono E ?_
 cases q : H b with
 | none => exact absurd q y.trk
 | some w => exact k b w q
theorem jBK {a : Addr} {o : HO} (fr : H a = none) : ∀ b u, H b = some u → upd H a o b = some u := fun b u q => by rw [upd_ne (ne_of_none q fr)]; exact q
theorem Sim.newL {l : List D} {vs : List V} {a : Addr} (S : Sim G ρ h H) (fr : H a = none) (r : DRs G ρ H l vs) :
  Sim G (a :: ρ) (h.nw (.lst l)) (upd H a (.lst vs)) ∧ Ext G ρ (a :: ρ) H (upd H a (.lst vs)) := by
 obtain ⟨S1, E1⟩ := S.new (o := .lst []) (H' := upd H a (.lst [])) fr (jBK fr) (.lst upd_same .nil)
 have E : Ext G ρ (a :: ρ) H (upd H a (.lst vs)) := .all S (new := [a]) rfl (fun b hb => by
  have : b = a := by simpa using hb
  rw [this]; exact fr) (jBK fr)
 exact S.new fr (jBK fr) (.lst upd_same (r.mono E))
theorem jGn (a b : Nat) : maxN a b = max a b := by
 unfold maxN
 cases q : Nat.ble a b with
 | true => have := Nat.le_of_ble_eq_true q; show b = _; omega
 | false => have : ¬ a ≤ b := Nat.not_le_of_not_ble_eq_true (by rw [q]; decide); show a = _; omega
theorem dmx_lt : ∀ (l : List P), ∀ x ∈ l, dep x < dmx l
 | [], x, h => absurd h (by simp)
 | a :: l, x, h => by
  have eQ : dmx (a :: l) = max (dep a + 1) (dmx l) := by
   show fN (Nat.succ (dep a)) (fun d => fN (dmx l) fun eQ => maxN d eQ) = _
   rw [jA7, jA7, jGn]
  rw [eQ]
  rcases List.mem_cons.mp h with zQ | zQ
  ·subst zQ; omega
  ·have := dmx_lt l x zQ; omega
theorem dmx_pos : ∀ (l : List P), 0 < dmx l
 | [] => Nat.zero_lt_one
 | a :: l => Nat.lt_of_le_of_lt (Nat.zero_le _) (dmx_lt (a :: l) a List.mem_cons_self)
theorem jB0 (l : List D) : mkT l = .bad ∨ (jAG l = true ∧ ((mkT l = .val (.mt l)) ∨ ∃ r, l = upP r ∧ mkT l = .val (.p (.tup (dmx r) r)) ∧ dmx r ≤ deepest)) := by
 unfold mkT
 cases hs : jAG l with
 | false => exact .inl rfl
 | true =>
  show Option.rec (motive := fun _ => VR) (.val (.mt l)) (fun r => fN (dmx r) fun d => gd (Nat.ble d deepest) (.val (.p (.tup d r)))) (jC7 l) = _ ∨ _
  cases q : jC7 l with
  | none => exact .inr ⟨rfl, .inl rfl⟩
  | some r =>
   show fN (dmx r) (fun d => gd (Nat.ble d deepest) (.val (.p (.tup d r)))) = _ ∨ _
   rw [jA7]
   cases qd : Nat.ble (dmx r) deepest with
   | false => exact .inl rfl
   | true => exact .inr ⟨rfl, .inr ⟨r, jEJ q, (jA7 (dmx r) fun d => gd (Nat.ble d deepest) (.val (.p (.tup d r)))).trans (by rw [qd]; rfl), Nat.le_of_ble_eq_true qd⟩⟩
theorem jEn {d : Nat} (h : d ≤ deepest) : unf d = d ∧ fl d = false := by
 have q : fl d = false := by
  cases zQ : fl d with
  | false => rfl
  | true =>
   have h1 := Nat.le_of_ble_eq_true zQ
   have h2 : d ≤ 50 := h
   omega
 refine ⟨?_, q⟩
 unfold unf
 rw [q]
theorem unf_bg {d : Nat} : unf (Nat.add d 100) = d ∧ fl (Nat.add d 100) = true := by
 have q : fl (Nat.add d 100) = true := Nat.ble_eq_true_of_le (Nat.le_add_left _ _)
 refine ⟨?_, q⟩
 unfold unf
 rw [q]
 exact Nat.add_sub_cancel (n := d) (m := 100)
theorem unf_no {d : Nat} (h : d ≤ deepest) {p : Prop} : fl d = true → p := fun zQ => by rw [(jEn h).2] at zQ; cases zQ
theorem PR.tups {d : Nat} {l : List P} {a : Addr} {vs : List V} (sq : SqT G.K H a vs) (r : PRs G H l vs) (hd : ∀ x ∈ l, dep x < d) (hzQ : 0 < d ∧ d ≤ deepest) : PR G H (.tup d l) (.ref a) :=
 .tup sq r (by rw [(jEn hzQ.2).1]; exact hd) (by rw [(jEn hzQ.2).1]; exact hzQ) (unf_no hzQ.2)
theorem DR.tup {l : List D} {vs : List V} {a : Addr} {d : D} (hs : SqT G.K H a vs) (r : DRs G ρ H l vs) (eQ : mkT l = .val d) : DR G ρ H d (.ref a) := by
 rcases jB0 l with zQ | ⟨_, zQ | ⟨m, z1, zQ, zd⟩⟩
 ·rw [zQ] at eQ; cases eQ
 ·rw [zQ] at eQ; cases eQ; exact .mt hs r
 ·rw [zQ] at eQ; cases eQ
  subst z1
  exact .p (.tup hs r.down (by rw [(jEn zd).1]; exact dmx_lt m) (by rw [(jEn zd).1]; exact ⟨dmx_pos m, zd⟩) (unf_no zd))
theorem DR.tupc {l : List D} {vs : List V} {a : Addr} {d : D} (hs : SqT G.K H a vs) (r : DRs G ρ H l vs) (cQ : Cln H a) (eQ : mkTc l = .val d) : DR G ρ H d (.ref a) := by
 unfold mkTc at eQ
 cases q : mkT l with
 | new o => rw [q] at eQ; cases eQ
 | bad => rw [q] at eQ; cases eQ
 | val x =>
  rw [q] at eQ
  have eQ : VR.val (flg x) = .val d := eQ
  cases eQ
  have rx := DR.tup hs r q
  cases x with
  | ref k => exact rx
  | mt l => exact rx
  | p p =>
   cases p with
   | tup d l =>
    show DR G ρ H (fN (Nat.add d 100) fun d => .p (.tup d l)) (.ref a)
    rw [jA7]
    cases rx with
    | p rp => cases rp with
     | tup sq rl hd hzQ hc =>
      have zQ : unf d = d := by
       cases y : fl d with
       | true =>
        exfalso
        rcases jB0 _ with zQ | ⟨_, zQ | ⟨m, _, zQ, zd⟩⟩
        ·rw [zQ] at q; cases q
        ·rw [zQ] at q; cases q
        ·rw [zQ] at q
         cases q
         rw [(jEn zd).2] at y; cases y
       | false => unfold unf; rw [y]
      rw [zQ] at hd hzQ
      exact .p (.tup sq rl (by rw [unf_bg.1]; exact hd) (by rw [unf_bg.1]; exact hzQ) fun _ => cQ)
   | _ => exact rx
theorem Sim.newT {vs : List V} {a : Addr} (S : Sim G ρ h H) (fr : H a = none) : Sim G ρ h (upd H a (.tup vs)) ∧ Ext G ρ ρ H (upd H a (.tup vs)) ∧ SqT G.K (upd H a (.tup vs)) a vs := by
 obtain ⟨S1, E1⟩ := S.kept (H' := upd H a (.tup vs)) (jBK fr)
 exact ⟨S1, E1, .of upd_same⟩
end

section
variable {G : Gi} {W : WX} {ρ ρ' ρ1 : List Addr} {H H' H1 : Hp} {h h1 h' : EH} {σQ : St} {σd : Env} {Q : VK}
def rdE (G : Gi) (W : WX) (cQ : Env → EH → RE) : TE := fun σQ H Q => ∃ ρ σd h, EnvR G ρ H σd σQ ∧ Sim G ρ h H ∧ wE G W ρ H σQ (cQ σd h) Q
def rdL (G : Gi) (W : WX) (cQ : Env → EH → RL) : TA := fun σQ H Q => ∃ ρ σd h, EnvR G ρ H σd σQ ∧ Sim G ρ h H ∧ wL G W ρ H σQ (cQ σd h) Q
def rdS (G : Gi) (W : WX) (cQ : Env → EH → RS) : TS := fun D σQ H => ∃ ρ σd h, EnvR G ρ H σd σQ ∧ Sim G ρ h H ∧ wS G W ρ H (cQ σd h) D
theorem wE.mono {r : RE} (x : wE G W ρ H σQ r Q) (eQ : Ext G ρ ρ1 H H1) : wE G W ρ1 H1 σQ r Q := by
 cases r with
 | ok d h' => exact fun ρ' H' v eQ' s r => x ρ' H' v (eQ.trans eQ') s r
 | ex cQ y h' => exact fun ρ' H' cls dd eQ' s r => x ρ' H' cls dd (eQ.trans eQ') s r
 | bad => exact x
theorem wL.mono {r : RL} {Q : List V → Hp → Prop} (x : wL G W ρ H σQ r Q) (eQ : Ext G ρ ρ1 H H1) : wL G W ρ1 H1 σQ r Q := by
 cases r with
 | ok d h' => exact fun ρ' H' v eQ' s r => x ρ' H' v (eQ.trans eQ') s r
 | ex cQ y h' => exact fun ρ' H' cls dd eQ' s r => x ρ' H' cls dd (eQ.trans eQ') s r
 | bad => exact x
theorem wS.mono {r : RS} {D : Ends} (x : wS G W ρ H r D) (eQ : Ext G ρ ρ1 H H1) : wS G W ρ1 H1 r D := by
 cases r with
 | nx d h' => exact fun ρ' H' v eQ' s r => x ρ' H' v (eQ.trans eQ') s r
 | rt d h' => exact fun ρ' H' v eQ' s r => x ρ' H' v (eQ.trans eQ') s r
 | bk d h' => exact fun ρ' H' v eQ' s r => x ρ' H' v (eQ.trans eQ') s r
 | ct d h' => exact fun ρ' H' v eQ' s r => x ρ' H' v (eQ.trans eQ') s r
 | ex cQ y d h' => exact fun ρ' H' σ' cls dd eQ' s en r => x ρ' H' σ' cls dd (eQ.trans eQ') s en r
 | bad => exact x
theorem wE.bind {r : RE} {f : D → EH → RE} (x : wE G W ρ H σQ (bE r f) Q) : wE G W ρ H σQ r fun v H1 => ∃ ρ1 d h1, Ext G ρ ρ1 H H1 ∧ Sim G ρ1 h1 H1 ∧ DR G ρ1 H1 d v ∧ wE G W ρ1 H1 σQ (f d h1) Q := by
 cases r with
 | ok d h' => exact fun ρ' H' v eQ s r => ⟨ρ', d, h', eQ, s, r, wE.mono x eQ⟩
 | ex cQ y h' => exact x
 | bad => exact x
theorem wE.bindL {r : RE} {f : D → EH → RL} {Q : List V → Hp → Prop} (x : wL G W ρ H σQ (bEL r f) Q) : wE G W ρ H σQ r fun v H1 => ∃ ρ1 d h1, Ext G ρ ρ1 H H1 ∧ Sim G ρ1 h1 H1 ∧ DR G ρ1 H1 d v ∧ wL G W ρ1 H1 σQ (f d h1) Q := by
 cases r with
 | ok d h' => exact fun ρ' H' v eQ s r => ⟨ρ', d, h', eQ, s, r, wL.mono x eQ⟩
 | ex cQ y h' => exact x
 | bad => exact x
theorem wL.bind {r : RL} {f : List D → EH → RE} (x : wE G W ρ H σQ (bL r f) Q) : wL G W ρ H σQ r fun v H1 => ∃ ρ1 d h1, Ext G ρ ρ1 H H1 ∧ Sim G ρ1 h1 H1 ∧ DRs G ρ1 H1 d v ∧ wE G W ρ1 H1 σQ (f d h1) Q := by
 cases r with
 | ok d h' => exact fun ρ' H' v eQ s r => ⟨ρ', d, h', eQ, s, r, wE.mono x eQ⟩
 | ex cQ y h' => exact x
 | bad => exact x
theorem wL.bindL {r : RL} {f : List D → EH → RL} {Q : List V → Hp → Prop} (x : wL G W ρ H σQ (bLL r f) Q) : wL G W ρ H σQ r fun v H1 => ∃ ρ1 d h1, Ext G ρ ρ1 H H1 ∧ Sim G ρ1 h1 H1 ∧ DRs G ρ1 H1 d v ∧ wL G W ρ1 H1 σQ (f d h1) Q := by
 cases r with
 | ok d h' => exact fun ρ' H' v eQ s r => ⟨ρ', d, h', eQ, s, r, wL.mono x eQ⟩
 | ex cQ y h' => exact x
 | bad => exact x
theorem wE.bindS {r : RE} {f : D → EH → RS} {D : Ends} (en : EnvR G ρ H σd σQ) (x : wS G W ρ H (bES σd r f) D) : wE G W ρ H σQ r fun v H1 => ∃ ρ1 d h1, Ext G ρ ρ1 H H1 ∧ Sim G ρ1 h1 H1 ∧ DR G ρ1 H1 d v ∧ wS G W ρ1 H1 (f d h1) D := by
 cases r with
 | ok d h' => exact fun ρ' H' v eQ s r => ⟨ρ', d, h', eQ, s, r, wS.mono x eQ⟩
 | ex cQ y h' => exact fun ρ' H' cls dd eQ s r => x ρ' H' σQ cls dd eQ s (en.mono eQ) r
 | bad => exact x
theorem wE.imp {r : RE} {Q' : VK} (x : wE G W ρ H σQ r Q) (f : ∀ v H', Q v H' → Q' v H') : wE G W ρ H σQ r Q' := by
 cases r with
 | ok d h' => exact fun ρ' H' v eQ s r => f _ _ (x ρ' H' v eQ s r)
 | ex cQ y h' => exact x
 | bad => exact x
theorem wL.imp {r : RL} {Q Q' : List V → Hp → Prop} (x : wL G W ρ H σQ r Q) (f : ∀ v H', Q v H' → Q' v H') : wL G W ρ H σQ r Q' := by
 cases r with
 | ok d h' => exact fun ρ' H' v eQ s r => f _ _ (x ρ' H' v eQ s r)
 | ex cQ y h' => exact x
 | bad => exact x
end
end Mi

namespace Mi
open PySem PySem.Spec L2
open PyProof.Rows hiding St
section
variable {X : Cx} {G : Gi} {W : WX} {Φ : Ph} {pos : Pos} {a b cQ : Expr} {es : List Expr} {ca cb cc : CE} {cl cm : CL}
theorem _root_.L2.PE.weak {eQ : Expr} {t t' : TE} (h : PE X eQ t) (w : ∀ σQ H Q, t' σQ H Q → t σQ H Q) : PE X eQ t' := ⟨fun pins s σQ H Q I q => h.run pins s σQ H Q I (w σQ H Q q)⟩
theorem _root_.L2.PT.weak {eQ : Expr} {t t' : TT} (h : PT X eQ t) (w : ∀ σQ H Q, t' σQ H Q → t σQ H Q) : PT X eQ t' := ⟨fun pins s σQ H Q I q => h.run pins s σQ H Q I (w σQ H Q q)⟩
theorem _root_.L2.PA.weak {eQ : List Expr} {t t' : TA} (h : PA X eQ t) (w : ∀ σQ H Q, t' σQ H Q → t σQ H Q) : PA X eQ t' := ⟨fun pos pins s σQ H Q I q => h.run pos pins s σQ H Q I (w σQ H Q q)⟩
theorem _root_.L2.PS.weak {eQ : Stmt} {t t' : TS} (h : PS X eQ t) (w : ∀ D σQ H, t' D σQ H → t D σQ H) : PS X eQ t' := ⟨fun pins s σQ H D I q => h.run pins s σQ H D I (w D σQ H q)⟩
theorem _root_.L2.PSs.weak {eQ : List Stmt} {t t' : TS} (h : PSs X eQ t) (w : ∀ D σQ H, t' D σQ H → t D σQ H) : PSs X eQ t' := ⟨fun pins s σQ H D I q => h.run pins s σQ H D I (w D σQ H q)⟩
abbrev SE (X : Cx) (G : Gi) (W : WX) (Φ : Ph) (eQ : Expr) (cQ : CE) : Prop := PE X eQ (rdE G W (cQ Φ))
abbrev SL (X : Cx) (G : Gi) (W : WX) (Φ : Ph) (es : List Expr) (cQ : CL) : Prop := PA X es (rdL G W (cQ Φ))
abbrev SS (X : Cx) (G : Gi) (W : WX) (Φ : Ph) (stQ : Stmt) (cQ : CS) : Prop := PS X stQ (rdS G W (cQ Φ))
abbrev SSs (X : Cx) (G : Gi) (W : WX) (Φ : Ph) (stQ : List Stmt) (cQ : CS) : Prop := PSs X stQ (rdS G W (cQ Φ))
theorem wE.val {ρ : List Addr} {H : Hp} {h : EH} {σQ : St} {d : D} {v : V} {Q : VK} (S : Sim G ρ h H) (x : wE G W ρ H σQ (.ok d h) Q) (r : DR G ρ H d v) : Q v H := x ρ H v (.refl S) S r

theorem se_var {i : Nat} {x : Str} (hN : X.N[i]? = some x) (hv : Vis X.env.scope x) (hd : (x == ("__debug__" : Str)) = false := by decide) (hcd : (x == ("__classdict__" : Str)) = false := by decide) : SE X G W Φ (.Name x pos) (cVar i) :=
 (pe_var hN hv hd hcd).weak fun σQ H Q ⟨ρ, σd, h, en, S, x⟩ => by
  unfold cVar at x
  rw [jBp] at x
  cases q : σd[i]? with
  | none => rw [q] at x; exact x.elim
  | some o =>
   rw [q] at x
   cases o with
   | none => exact x.elim
   | some d =>
    obtain ⟨v, h1, h2⟩ := en.val i d q
    exact ⟨v, h1, wE.val S x h2⟩
theorem jAc {i : Int} {j : Nat} : SE X G W Φ (.Constant (.int i) j pos) (cC (.int i)) := pe_int.weak fun σQ H Q ⟨ρ, σd, h, en, S, x⟩ => wE.val S x (.p (.int i))
theorem jCL {i : Bool} {j : Nat} : SE X G W Φ (.Constant (.bool i) j pos) (cC (.bl i)) := pe_bl.weak fun σQ H Q ⟨ρ, σd, h, en, S, x⟩ => wE.val S x (.p (.bl i))
theorem jCI {j : Nat} : SE X G W Φ (.Constant .none j pos) (cC .non) := pe_non.weak fun σQ H Q ⟨ρ, σd, h, en, S, x⟩ => wE.val S x (.p .non)
theorem jDH {s : List Nat} {y : Str} {j : Nat} (eQ : y = sV s := by decide) (zQ : s.length ≤ sizeLine := by decide) (cQ : ∀ x ∈ s, x < 1114112 := by decide) : SE X G W Φ (.Constant (.str y) j pos) (cC (.str s)) := by
 subst eQ
 exact pe_str.weak fun σQ H Q ⟨ρ, σd, h, en, S, x⟩ => wE.val S x (.p (.str s zQ cQ))
theorem jAd : SL X G W Φ [] cNil := pa_nil.weak fun σQ H Q ⟨ρ, σd, h, en, S, x⟩ => x ρ H [] (.refl S) S .nil
theorem jAa (ha : SE X G W Φ a ca) (hr : SL X G W Φ es cl) (hs : starEach (a :: es) X.env = (false, eval a X.env) :: starEach es X.env := by rfl) : SL X G W Φ (a :: es) (jAb ca cl) :=
 (pa_cons ha hr hs).weak fun σQ H Q ⟨ρ, σd, h, en, S, x⟩ => ⟨ρ, σd, h, en, S, by
  refine (wE.bindL x).imp fun v H1 ⟨ρ1, d, h1, E1, S1, r1, x1⟩ => ?_
  rw [jBs] at x1
  exact ⟨ρ1, σd, h1, en.mono E1, S1, (wL.bindL x1).imp fun vs H2 ⟨ρ2, dsQ, h2, E2, S2, r2, x2⟩ => x2 ρ2 H2 _ (.refl S2) S2 (.cons (r1.mono E2) r2)⟩⟩
theorem jAu {ρ : List Addr} {H : Hp} {h : EH} {k : Nat} {a : Addr} (S : Sim G ρ h H) (eQ : atR ρ k = some a) :
  (∀ (α : Type) (y : List D → α) (n : α), jAw h k y n = n) ∨ ∃ l vs, H a = some (.lst vs) ∧ DRs G ρ H l vs ∧ h.get k = some (.lst l) ∧ ∀ (α : Type) (y : List D → α) (n : α), jAw h k y n = y l := by
 by_cases q : ∃ l, h.get k = some (.lst l)
 ·obtain ⟨l, q⟩ := q
  obtain ⟨a', eQ', x⟩ := S.get q
  rw [eQ] at eQ'; cases eQ'
  cases x with
  | @lst _ _ vs zQ r =>
   refine .inr ⟨l, vs, zQ, r, q, fun α y n => ?_⟩
   rcases jE0 (h := h) (k := k) (y := y) (n := n) with ⟨l', z', w⟩ | ⟨z', w⟩
   ·rw [q] at z'; cases z'; exact w
   ·exact absurd q (z' l)
 ·refine .inl fun α y n => ?_
  rcases jE0 (h := h) (k := k) (y := y) (n := n) with ⟨l, zQ, _⟩ | ⟨_, zQ⟩
  ·exact absurd ⟨l, zQ⟩ q
  ·exact zQ
theorem jE6 {ρ : List Addr} {H : Hp} {h : EH} {a : Addr} {k : Nat} (S : Sim G ρ h H) (eQ : atR ρ k = some a) : (∀ (α : Type) (y : Nat → List (P × D) → α) (n : α), jBH h k y n = n) ∨ ∃ v l, h.get k = some (.dic v l) ∧ OR G ρ H (.dic v l) a ∧ ∀ (α : Type) (y : Nat → List (P × D) → α) (n : α), jBH h k y n = y v l := by
 cases q : h.get k with
 | none => exact .inl fun α y n => by unfold jBH; rw [q]
 | some o =>
  cases o with
  | dic v l =>
   obtain ⟨a', eQ', x⟩ := S.get q
   rw [eQ] at eQ'; cases eQ'
   exact .inr ⟨v, l, rfl, x, fun α y n => by unfold jBH; rw [q]; rfl⟩
  | lst => exact .inl fun α y n => by unfold jBH; rw [q]; rfl
  | set => exact .inl fun α y n => by unfold jBH; rw [q]; rfl
  | ins => exact .inl fun α y n => by unfold jBH; rw [q]; rfl
  | exc => exact .inl fun α y n => by unfold jBH; rw [q]; rfl
theorem jAP {ρ : List Addr} {H : Hp} {h : EH} {d : D} {x : V} (S : Sim G ρ h H) (r : DR G ρ H d x) : (∀ (α : Type) (y : Nat → Nat → List (P × D) → α) (n : α), jB4 h d y n = n) ∨ ∃ k a v l, d = .ref k ∧ x = .ref a ∧ atR ρ k = some a ∧ h.get k = some (.dic v l) ∧ OR G ρ H (.dic v l) a ∧ ∀ (α : Type) (y : Nat → Nat → List (P × D) → α) (n : α), jB4 h d y n = y k v l := by
 cases r with
 | p => exact .inl fun _ _ _ => rfl
 | mt => exact .inl fun _ _ _ => rfl
 | @ref k a eQ =>
  rcases jE6 S eQ with zQ | ⟨v, l, h1, h2, zQ⟩
  ·exact .inl fun α y n => zQ α (y k) n
  ·exact .inr ⟨k, a, v, l, rfl, rfl, eQ, h1, h2, fun α y n => zQ α (y k) n⟩
theorem jEt {ρ : List Addr} {H : Hp} {h : EH} {d : D} {v : V} (S : Sim G ρ h H) (r : DR G ρ H d v) :
  (∀ (α : Type) (y : List D → α) (n : α), seqOf h d y n = n) ∨ ∃ l a vs, v = .ref a ∧ (SqT G.K H a vs ∨ SqL G.K H a vs) ∧ DRs G ρ H l vs ∧ ∀ (α : Type) (y : List D → α) (n : α), seqOf h d y n = y l := by
 cases r with
 | p r =>
  cases r with
  | tup s r _ _ => exact .inr ⟨_, _, _, rfl, .inl s, r.up, fun _ _ _ => rfl⟩
  | non => exact .inl fun _ _ _ => rfl
  | bl => exact .inl fun _ _ _ => rfl
  | int => exact .inl fun _ _ _ => rfl
  | str => exact .inl fun _ _ _ => rfl
  | fn => exact .inl fun _ _ _ => rfl
 | mt s r => exact .inr ⟨_, _, _, rfl, .inl s, r, fun _ _ _ => rfl⟩
 | @ref k a eQ =>
  rcases jAu S eQ with zQ | ⟨l, vs, zQ, r, _, w⟩
  ·exact .inl fun α y n => zQ α y n
  ·exact .inr ⟨l, a, vs, rfl, .inr (.of zQ), r, fun α y n => w α y n⟩
theorem DRs.append {ρ : List Addr} {H : Hp} : ∀ {l m : List D} {vs ws : List V}, DRs G ρ H l vs → DRs G ρ H m ws → DRs G ρ H (l ++ m) (vs ++ ws)
 | _, _, _, _, .nil, s => s
 | _, _, _, _, .cons r t, s => .cons r (DRs.append t s)
theorem jGN {ρ : List Addr} {H : Hp} {l : List D} {vs : List V} (r : DRs G ρ H l vs) (h : jAG l = true) : vs.length ≤ sizeLine := by
 rw [← r.length]
 exact Nat.le_of_lt (jAL h)
theorem jDR {l : List D} (h : mkT l ≠ .bad) : jAG l = true := by
 rcases jB0 l with zQ | ⟨zQ, _⟩
 ·exact absurd zQ h
 ·exact zQ
theorem jCT (h : EH) (o : O) : VR.re (.new o) h = .ok (.ref h.n) (h.nw o) := EH.new_eq h o fun k h => RE.ok (.ref k) h
theorem wE.newL {ρ : List Addr} {H : Hp} {h : EH} {σQ : St} {l : List D} {vs : List V} {Q : VK} {p : Addr} (S : Sim G ρ h H) (x : wE G W ρ H σQ (VR.re (.new (.lst l)) h) Q) (r : DRs G ρ H l vs) (fr : H p = none) : Q (.ref p) (upd H p (.lst vs)) := by
 obtain ⟨S1, E1⟩ := S.newL fr r
 rw [jCT] at x
 refine x (p :: ρ) _ _ E1 S1 (.ref ?_)
 rw [S.n, ← S.len]
 exact jFh
theorem gd_cases (b : Bool) (r : VR) : (b = true ∧ gd b r = r) ∨ gd b r = .bad := by cases b with
 | true => exact .inl ⟨rfl, rfl⟩
 | false => exact .inr rfl
def tTupF (t : TA) : TE := fun σQ H Q => t σQ H fun xs H1 => xs.length ≤ sizeLine ∧ ∀ p o, H1 p = none → o.dict = none → Q (.ref p) (upd H1 p (.frz o (.tup xs)))
theorem pe_tupF {k : Nat} {t : TA} (h : PA X es t) : PE X (.Tuple es k pos) (tTupF t) := by
 refine ⟨fun pins s σQ H Q I hq => ?_⟩
 refine wpAny_Tuple_spliced (thn (h.run pos pins s σQ H _ I hq) fun us s1Q ⟨xs, H1, I1Q, r, zQ, q⟩ => ⟨by rw [← r.length]; exact zQ, ?_⟩)
 have hf : H1 s1Q.heap.objs.size = none := I1Q.hok.fresh (Nat.le_refl _)
 refine ⟨.ref s1Q.heap.objs.size, upd H1 s1Q.heap.objs.size (.frz { cls := .type "tuple", data := .seq us.toArray } (.tup xs)), I1Q.laid (t' := s1Q.toks) (fun b u eQ => Heap.get?_push_of_some _ eQ) (Nat.le_refl _) ?_, rfl, q _ _ hf rfl⟩
 exact ⟨Heap.get?_push_size _ rfl, zQ, us, r, ⟨_, Heap.get?_push_size _ rfl, rfl, _, rfl⟩⟩
theorem Sim.newF {ρ : List Addr} {H : Hp} {h : EH} {vs : List V} {a : Addr} {o : Obj} (S : Sim G ρ h H) (fr : H a = none) (hd : o.dict = none) : Sim G ρ h (upd H a (.frz o (.tup vs))) ∧ Ext G ρ ρ H (upd H a (.frz o (.tup vs))) ∧ SqT G.K (upd H a (.frz o (.tup vs))) a vs ∧ Cln (upd H a (.frz o (.tup vs))) a := by
 obtain ⟨S1, E1⟩ := S.kept (H' := upd H a (.frz o (.tup vs))) (jBK fr)
 exact ⟨S1, E1, .inl (.inr ⟨o, upd_same⟩), o, vs, upd_same, hd⟩
theorem jDa (l : List D) : mkTc l = .bad ∨ ∃ d, mkTc l = .val d ∧ mkT l ≠ .bad := by
 unfold mkTc
 rcases jB0 l with zQ | ⟨_, zQ | ⟨r, _, zQ, _⟩⟩
 ·rw [zQ]; exact .inl rfl
 ·rw [zQ]; exact .inr ⟨_, rfl, fun w => nomatch w⟩
 ·rw [zQ]; exact .inr ⟨_, rfl, fun w => nomatch w⟩
theorem wE.newF {ρ : List Addr} {H : Hp} {h : EH} {σQ : St} {l : List D} {vs : List V} {Q : VK} {p : Addr} {o : Obj} (S : Sim G ρ h H) (x : wE G W ρ H σQ ((mkTc l).re h) Q) (r : DRs G ρ H l vs) (fr : H p = none) (hd : o.dict = none) : Q (.ref p) (upd H p (.frz o (.tup vs))) := by
 obtain ⟨S1, E1, sq, cQ⟩ := S.newF (vs := vs) fr hd
 rcases jDa l with zQ | ⟨d, zQ, _⟩
 ·rw [zQ] at x; exact x.elim
 ·rw [zQ] at x
  exact x ρ _ _ E1 S1 (.tupc sq (r.mono E1) cQ zQ)
theorem jAj {k : Nat} (h : SL X G W Φ es cl) : SE X G W Φ (.Tuple es k pos) (cTup cl) :=
 L2.PE.weak (pe_tupF h) fun σQ H Q ⟨ρ, σd, h, en, S, x⟩ => ⟨ρ, σd, h, en, S, by
  refine (wL.bind x).imp fun vs H1 ⟨ρ1, l, h1, E1, S1, r1, x1⟩ => ?_
  rcases jDa l with zQ | ⟨d, zQ, nb⟩
  ·rw [zQ] at x1; exact x1.elim
  ·exact ⟨jGN r1 (jDR nb), fun p o fr hd => wE.newF S1 x1 r1 fr hd⟩⟩
theorem jAy (h : SL X G W Φ es cl) : SE X G W Φ (.List es pos) (cLst cl) :=
 (pe_lst h).weak fun σQ H Q ⟨ρ, σd, h, en, S, x⟩ => ⟨ρ, σd, h, en, S, by
  refine (wL.bind x).imp fun vs H1 ⟨ρ1, l, h1, E1, S1, r1, x1⟩ => ?_
  rcases gd_cases (jAG l) (.new (.lst l)) with ⟨zQ, eQ⟩ | eQ
  ·rw [eQ] at x1
   exact ⟨jGN r1 zQ, fun p fr => wE.newL S1 x1 r1 fr⟩
  ·rw [eQ] at x1; exact x1.elim⟩

def wV (G : Gi) (ρ : List Addr) (H : Hp) (r : VR) (h : EH) (Q : VK) : Prop :=
 match r with
 | .val d => ∀ ρ' H' v, Ext G ρ ρ' H H' → Sim G ρ' h H' → DR G ρ' H' d v → Q v H'
 | .new o => ∀ ρ' H' v, Ext G ρ ρ' H H' → Sim G ρ' (h.nw o) H' → DR G ρ' H' (.ref h.n) v → Q v H'
 | .bad => False
theorem wE.toV {ρ : List Addr} {H : Hp} {h : EH} {σQ : St} {r : VR} {Q : VK} (x : wE G W ρ H σQ (r.re h) Q) : wV G ρ H r h Q := by
 cases r with
 | val d => exact x
 | new o => rw [jCT] at x; exact x
 | bad => exact x
theorem wV.val {ρ : List Addr} {H : Hp} {h : EH} {d : D} {v : V} {Q : VK} (S : Sim G ρ h H) (x : wV G ρ H (.val d) h Q) (r : DR G ρ H d v) : Q v H := x ρ H v (.refl S) S r
theorem wV.newT {ρ : List Addr} {H : Hp} {h : EH} {l : List D} {vs : List V} {Q : VK} {p : Addr} (S : Sim G ρ h H) (x : wV G ρ H (mkT l) h Q) (r : DRs G ρ H l vs) (fr : H p = none) : Q (.ref p) (upd H p (.tup vs)) := by
 obtain ⟨S1, E1, r1⟩ := S.newT (vs := vs) fr
 cases q : mkT l with
 | bad => rw [q] at x; exact x.elim
 | val d => rw [q] at x; exact x ρ _ _ E1 S1 (.tup r1 (r.mono E1) q)
 | new o =>
  rcases jB0 l with zQ | ⟨_, zQ | ⟨_, _, zQ, _⟩⟩
  ·rw [zQ] at q; cases q
  ·rw [zQ] at q; cases q
  ·rw [zQ] at q; cases q
theorem wV.newL {ρ : List Addr} {H : Hp} {h : EH} {l : List D} {vs : List V} {Q : VK} {p : Addr} (S : Sim G ρ h H) (x : wV G ρ H (.new (.lst l)) h Q) (r : DRs G ρ H l vs) (fr : H p = none) : Q (.ref p) (upd H p (.lst vs)) := by
 obtain ⟨S1, E1⟩ := S.newL fr r
 refine x (p :: ρ) _ _ E1 S1 (.ref ?_)
 rw [S.n, ← S.len]
 exact jFh
def rO1 (G : Gi) (f : EH → D → VR) : V → Hp → VK → Prop := fun x H Q => ∃ ρ d h, Sim G ρ h H ∧ DR G ρ H d x ∧ wV G ρ H (f h d) h Q
def rO2 (G : Gi) (f : EH → D → D → VR) : R2 := fun x y H Q => ∃ ρ d eQ h, Sim G ρ h H ∧ DR G ρ H d x ∧ DR G ρ H eQ y ∧ wV G ρ H (f h d eQ) h Q
theorem to_o2 {f : EH → D → D → VR} {σQ : St} {H : Hp} {Q : VK} : rdE G W (cOp2 f ca cb Φ) σQ H Q → tOp (rO2 G f) (rdE G W (ca Φ)) (rdE G W (cb Φ)) σQ H Q := fun ⟨ρ, σd, h, en, S, x⟩ =>
 ⟨ρ, σd, h, en, S, (wE.bind x).imp fun v H1 ⟨ρ1, d, h1, E1, S1, r1, x1⟩ => ⟨ρ1, σd, h1, en.mono E1, S1, (wE.bind x1).imp fun u H2 ⟨ρ2, eQ, h2, E2, S2, r2, x2⟩ => ⟨ρ2, d, eQ, h2, S2, r1.mono E2, r2, wE.toV x2⟩⟩⟩
theorem to_o1 {f : EH → D → VR} {σQ : St} {H : Hp} {Q : VK} : rdE G W (cOp1 f ca Φ) σQ H Q → tUn (rO1 G f) (rdE G W (ca Φ)) σQ H Q := fun ⟨ρ, σd, h, en, S, x⟩ =>
 ⟨ρ, σd, h, en, S, (wE.bind x).imp fun v H1 ⟨ρ1, d, h1, E1, S1, r1, x1⟩ => ⟨ρ1, d, h1, S1, r1, wE.toV x1⟩⟩
theorem jAi {op : Operator} {f : EH → D → D → VR} (hoQ : OpR X (binaryOp op) (rO2 G f)) (ha : SE X G W Φ a ca) (hb : SE X G W Φ b cb) : SE X G W Φ (.BinOp a op b pos) (cOp2 f ca cb) :=
 L2.PE.weak (pe_op hoQ ha hb) fun σQ H Q => to_o2
theorem se_un {op : UnaryOp} {f : EH → D → VR} (hoQ : UnR X (unaryOp op) (rO1 G f)) (ha : SE X G W Φ a ca) : SE X G W Φ (.UnaryOp op a pos) (cOp1 f ca) :=
 L2.PE.weak (pe_un hoQ ha) fun σQ H Q => to_o1
theorem jCJ {op : CmpOp} {f : EH → D → D → VR} (hoQ : OpR X (compareOp op) (rO2 G f)) (ha : SE X G W Φ a ca) (hb : SE X G W Φ b cb) (hm : behindInMarks op b = false) : SE X G W Φ (.Compare a [op] [b] pos) (cOp2 f ca cb) :=
 L2.PE.weak (pe_cmpR hoQ ha hb hm) fun σQ H Q => to_o2
theorem jC2 {f : Value → Value → Sem Value} {r r' : R2} (h : OpR X f r) (h' : OpR X f r') : OpR X f (fun x y H Q => r x y H Q ∨ r' x y H Q) := fun pins s σQ H x y v u Q I rx ry q =>
 q.elim (fun zQ => h pins s σQ H x y v u Q I rx ry zQ) fun zQ => h' pins s σQ H x y v u Q I rx ry zQ
theorem jAS {f : Value → Value → Sem Value} {r r' : R2} (h : OpR X f r) (w : ∀ x y H Q, r' x y H Q → r x y H Q) : OpR X f r' := fun pins s σQ H x y v u Q I rx ry q => h pins s σQ H x y v u Q I rx ry (w _ _ _ _ q)
end
end Mi

namespace Mi
open PySem PySem.Spec L2
open PyProof.Rows hiding St
section
variable {X : Cx} {G : Gi} {ρ : List Addr} {H : Hp} {h : EH} {d : D} {v : V} {Q : VK}
theorem jAp (r : DR G ρ H d v) : (∀ (α : Type) (y : Int → α) (n : α), jAI d y n = n) ∨ ∃ i, v = .int i ∧ d = .p (.int i) := by
 cases r with
 | p r =>
  cases r with
  | int i => exact .inr ⟨i, rfl, rfl⟩
  | non => exact .inl fun _ _ _ => rfl
  | bl => exact .inl fun _ _ _ => rfl
  | str => exact .inl fun _ _ _ => rfl
  | tup => exact .inl fun _ _ _ => rfl
  | fn => exact .inl fun _ _ _ => rfl
 | mt => exact .inl fun _ _ _ => rfl
 | ref => exact .inl fun _ _ _ => rfl
theorem jEq (r : DR G ρ H d v) : (∀ (α : Type) (y : List Nat → α) (n : α), strOf d y n = n) ∨ ∃ s, v = .str (sV s) ∧ d = .p (.str s) ∧ s.length ≤ sizeLine ∧ ∀ x ∈ s, x < 1114112 := by
 cases r with
 | p r =>
  cases r with
  | str s zQ cQ => exact .inr ⟨s, rfl, rfl, zQ, cQ⟩
  | non => exact .inl fun _ _ _ => rfl
  | bl => exact .inl fun _ _ _ => rfl
  | int => exact .inl fun _ _ _ => rfl
  | tup => exact .inl fun _ _ _ => rfl
  | fn => exact .inl fun _ _ _ => rfl
 | mt => exact .inl fun _ _ _ => rfl
 | ref => exact .inl fun _ _ _ => rfl
theorem jEo (r : DR G ρ H d v) : (∀ (α : Type) (y : List D → α) (n : α), tupOf d y n = n) ∨ ∃ l a vs, v = .ref a ∧ SqT G.K H a vs ∧ DRs G ρ H l vs ∧ ∀ (α : Type) (y : List D → α) (n : α), tupOf d y n = y l := by
 cases r with
 | p r =>
  cases r with
  | tup s r _ _ => exact .inr ⟨_, _, _, rfl, s, r.up, fun _ _ _ => rfl⟩
  | non => exact .inl fun _ _ _ => rfl
  | bl => exact .inl fun _ _ _ => rfl
  | int => exact .inl fun _ _ _ => rfl
  | str => exact .inl fun _ _ _ => rfl
  | fn => exact .inl fun _ _ _ => rfl
 | mt s r => exact .inr ⟨_, _, _, rfl, s, r, fun _ _ _ => rfl⟩
 | ref => exact .inl fun _ _ _ => rfl
theorem wV.oldT {l : List D} {vs : List V} {a : Addr} (S : Sim G ρ h H) (x : wV G ρ H (mkT l) h Q) (sq : SqT G.K H a vs) (r : DRs G ρ H l vs) : Q (.ref a) H := by
 cases q : mkT l with
 | bad => rw [q] at x; exact x.elim
 | val d => rw [q] at x; exact x ρ _ _ (.refl S) S (.tup sq r q)
 | new o =>
  rcases jB0 l with zQ | ⟨_, zQ | ⟨_, _, zQ, _⟩⟩
  ·rw [zQ] at q; cases q
  ·rw [zQ] at q; cases q
  ·rw [zQ] at q; cases q
theorem wV.gd {b : Bool} {r : VR} (x : wV G ρ H (gd b r) h Q) : b = true ∧ wV G ρ H r h Q := by
 cases b with
 | true => exact ⟨rfl, x⟩
 | false => exact x.elim
theorem sV_app (s t : List Nat) : sV s ++ sV t = sV (s ++ t) := by
 show (⟨s.toArray ++ t.toArray⟩ : Str) = ⟨(s ++ t).toArray⟩
 simp
theorem jDN (s : List Nat) : (sV s).length = s.length := by
 show s.toArray.size = s.length
 simp
theorem PRs.append : ∀ {l m : List P} {vs ws : List V}, PRs G H l vs → PRs G H m ws → PRs G H (l ++ m) (vs ++ ws)
 | _, _, _, _, .nil, s => s
 | _, _, _, _, .cons r t, s => .cons r (PRs.append t s)
theorem DRs.nil_of {l : List D} {vs : List V} (r : DRs G ρ H l vs) (eQ : vs = []) : l = [] := by
 subst eQ; cases r; rfl
theorem jA0 (hK : G.K = X.K) : OpR X (binaryOp .Add) (rO2 G oAdd) := by
 refine jAS (jC2 op_add (jC2 op_add_str (jC2 op_cat op_catA))) fun x y H Q ⟨ρ, d, eQ, h, S, rx, ry, w⟩ => ?_
 cases rx with
 | p r =>
  cases r with
  | non => exact w.elim
  | bl => exact w.elim
  | fn => exact w.elim
  | int i =>
   have w : wV G ρ H (jAI eQ (fun j => fI (Int.add i j) fun r => vP (.int r)) .bad) h Q := w
   rcases jAp ry with zQ | ⟨j, rfl, rfl⟩
   ·rw [zQ] at w; exact w.elim
   ·have w : wV G ρ H (fI (Int.add i j) fun r => vP (.int r)) h Q := w
    rw [jDw] at w
    exact .inl ⟨i, j, rfl, rfl, wV.val S w (.p (.int _))⟩
  | str s zs cs =>
   have w : wV G ρ H (strOf eQ (fun t => Mi.gd (jAG (app s t)) (vP (.str (app s t)))) .bad) h Q := w
   rcases jEq ry with zQ | ⟨t, rfl, rfl, zt, ct⟩
   ·rw [zQ] at w; exact w.elim
   ·obtain ⟨q, w⟩ := wV.gd (show wV G ρ H (Mi.gd (jAG (app s t)) (vP (.str (app s t)))) h Q from w)
    rw [jB8] at q w
    have hl := Nat.le_of_lt (jAL q)
    refine .inr (.inl ⟨sV s, sV t, rfl, rfl, ?_, ?_⟩)
    ·rw [jDN, jDN, ← List.length_append]; exact hl
    ·rw [sV_app]
     exact wV.val S w (.p (.str _ hl fun x hxQ => (List.mem_append.mp hxQ).elim (cs x) (ct x)))
  | @tup d l a vs sq r hd hzQ hc =>
   have w : wV G ρ H (catT d l eQ) h Q := w
   rw [hK] at sq
   cases ry with
   | p ry =>
    cases ry with
    | @tup d2 m b ws sq2 r2 hd2 hz2 hc2 =>
     obtain ⟨q, w⟩ := wV.gd (show wV G ρ H (Mi.gd (jAG (app l m)) (fN (maxN (unf d) (unf d2)) fun f => vP (.tup f (app l m)))) h Q from w)
     rw [jA7, jGn, jB8] at w
     rw [jB8] at q
     have hdep : ∀ x ∈ l ++ m, dep x < max (unf d) (unf d2) := fun x hxQ => (List.mem_append.mp hxQ).elim (fun zQ => by have := hd x zQ; omega) fun zQ => by have := hd2 x zQ; omega
     have hz' : 0 < max (unf d) (unf d2) ∧ max (unf d) (unf d2) ≤ deepest := ⟨by omega, by omega⟩
     rw [hK] at sq2
     refine .inr (.inr (.inr ⟨a, b, vs, ws, rfl, rfl, sq, sq2, ?_, fun eQ => ?_, fun _ eQ => ?_, fun _ _ p fr => ?_⟩))
     ·rw [← r.length, ← r2.length, ← List.length_append]; exact Nat.le_of_lt (jAL q)
     ·subst eQ
      cases r
      exact wV.val S w (.p (PR.tups (by rw [hK]; exact sq2) r2 hdep hz'))
     ·subst eQ
      cases r2
      rw [List.append_nil] at w hdep
      exact wV.val S w (.p (PR.tups (by rw [hK]; exact sq) r hdep hz'))
     ·obtain ⟨S1, E1, s1Q⟩ := S.newT (vs := vs ++ ws) fr
      exact w ρ _ _ E1 S1 (.p (PR.tups s1Q ((r.append r2).mono E1.tup) hdep hz'))
    | non => exact w.elim
    | bl => exact w.elim
    | int => exact w.elim
    | str => exact w.elim
    | fn => exact w.elim
   | @mt m b ws sq2 r2 =>
    have w : wV G ρ H (mkT (app (upP l) m)) h Q := w
    rw [jB8] at w
    have hs : jAG (upP l ++ m) = true := jDR fun zQ => by rw [zQ] at w; exact w
    rw [hK] at sq2
    have ru := r.up (ρ := ρ)
    refine .inr (.inr (.inr ⟨a, b, vs, ws, rfl, rfl, sq, sq2, ?_, fun eQ => ?_, fun _ eQ => ?_, fun _ _ p fr => ?_⟩))
    ·rw [← ru.length, ← r2.length, ← List.length_append]; exact Nat.le_of_lt (jAL hs)
    ·rw [ru.nil_of eQ] at w
     exact wV.oldT S w (by rw [hK]; exact sq2) r2
    ·rw [r2.nil_of eQ, List.append_nil] at w
     exact wV.oldT S w (by rw [hK]; exact sq) ru
    ·exact wV.newT S w (ru.append r2) fr
   | ref => exact w.elim
 | @ref k a e1 =>
  have w : wV G ρ H (jAw h k (fun l => D.cs eQ (fun _ => .bad) (fun j => jAw h j (fun m => Mi.gd (jAG (app l m)) (.new (.lst (app l m)))) .bad) (fun _ => .bad)) .bad) h Q := w
  rcases jAu S e1 with zQ | ⟨l, vs, hl, r, _, zQ⟩
  ·rw [zQ] at w; exact w.elim
  ·rw [zQ] at w
   cases ry with
   | p => exact w.elim
   | mt => exact w.elim
   | @ref j b e2 =>
    have w : wV G ρ H (jAw h j (fun m => Mi.gd (jAG (app l m)) (.new (.lst (app l m)))) .bad) h Q := w
    rcases jAu S e2 with zQ | ⟨m, ws, hm, r2, _, zQ⟩
    ·rw [zQ] at w; exact w.elim
    ·rw [zQ] at w
     obtain ⟨q, w⟩ := wV.gd w
     rw [jB8] at q w
     refine .inr (.inr (.inl ⟨a, b, vs, ws, rfl, rfl, hl, hm, ?_, fun p fr => wV.newL S w (r.append r2) fr⟩))
     rw [← r.length, ← r2.length, ← List.length_append]; exact Nat.le_of_lt (jAL q)
 | @mt l a vs sq r =>
  have w : wV G ρ H (tupOf eQ (fun m => mkT (app l m)) .bad) h Q := w
  rcases jEo ry with zQ | ⟨m, b, ws, rfl, sq2, r2, zQ⟩
  ·rw [zQ] at w; exact w.elim
  ·rw [zQ, jB8] at w
   have hs : jAG (l ++ m) = true := jDR fun zQ => by rw [zQ] at w; exact w
   rw [hK] at sq sq2
   refine .inr (.inr (.inr ⟨a, b, vs, ws, rfl, rfl, sq, sq2, ?_, fun eQ => ?_, fun _ eQ => ?_, fun _ _ p fr => ?_⟩))
   ·rw [← r.length, ← r2.length, ← List.length_append]; exact Nat.le_of_lt (jAL hs)
   ·rw [r.nil_of eQ] at w
    exact wV.oldT S w (by rw [hK]; exact sq2) r2
   ·rw [r2.nil_of eQ, List.append_nil] at w
    exact wV.oldT S w (by rw [hK]; exact sq) r
   ·exact wV.newT S w (r.append r2) fr
theorem ints2 {f : Int → Int → VR} {eQ : D} {y : V} (rx : DR G ρ H d v) (ry : DR G ρ H eQ y) (w : wV G ρ H (jAI d (fun i => jAI eQ (fun j => f i j) .bad) .bad) h Q) : ∃ i j, v = .int i ∧ y = .int j ∧ wV G ρ H (f i j) h Q := by
 rcases jAp rx with zQ | ⟨i, rfl, rfl⟩
 ·rw [zQ] at w; exact w.elim
 ·have w : wV G ρ H (jAI eQ (fun j => f i j) .bad) h Q := w
  rcases jAp ry with zQ | ⟨j, rfl, rfl⟩
  ·rw [zQ] at w; exact w.elim
  ·exact ⟨i, j, rfl, rfl, w⟩
theorem wV.int {i : Int} (S : Sim G ρ h H) (w : wV G ρ H (fI i fun r => vP (.int r)) h Q) : Q (.int i) H := by
 rw [jDw] at w
 exact wV.val S w (.p (.int _))
theorem opr_sub : OpR X (binaryOp .Sub) (rO2 G oSub) := jAS op_sub fun x y H Q ⟨ρ, d, eQ, h, S, rx, ry, w⟩ => by
 obtain ⟨i, j, e1, e2, w⟩ := ints2 rx ry w
 exact ⟨i, j, e1, e2, w.int S⟩
theorem not_t {b : Bool} (h : Bool.not b = true) : b = false := by cases b with
 | true => exact nomatch (show false = true from h)
 | false => rfl
theorem jBg : OpR X (binaryOp .Mod) (rO2 G oMod) := jAS op_modN fun x y H Q ⟨ρ, d, eQ, h, S, rx, ry, w⟩ => by
 obtain ⟨i, j, e1, e2, w⟩ := ints2 rx ry w
 obtain ⟨q, w⟩ := w.gd
 have q := not_t q
 rw [jBw] at q
 exact ⟨i, j, e1, e2, fun zQ => of_decide_eq_false q zQ, w.int S⟩
theorem jEd {a b : Bool} (h : Bool.and a b = true) : a = true ∧ b = true := by cases a <;> cases b <;> first | exact ⟨rfl, rfl⟩ | exact nomatch (show false = true from h)
theorem jGi : OpR X (binaryOp .FloorDiv) (rO2 G oDiv) := jAS op_fdivN fun x y H Q ⟨ρ, d, eQ, h, S, rx, ry, w⟩ => by
 obtain ⟨i, j, e1, e2, w⟩ := ints2 rx ry w
 obtain ⟨q, w⟩ := w.gd
 obtain ⟨q1, q2⟩ := jEd q
 have q := not_t q1
 rw [jBw] at q
 exact ⟨i, j, e1, e2, ⟨fun zQ => of_decide_eq_false q zQ, jF8 q2⟩, w.int S⟩
theorem opr_pow : OpR X (binaryOp .Pow) (rO2 G oPow) := jAS op_pow fun x y H Q ⟨ρ, d, eQ, h, S, rx, ry, w⟩ => by
 obtain ⟨i, j, e1, e2, w⟩ := ints2 rx ry w
 obtain ⟨q, w⟩ := w.gd
 obtain ⟨q1, q2⟩ := jEd q
 obtain ⟨q2, q3⟩ := jEd q2
 rw [jBZ] at q1 q2
 exact ⟨i, j, e1, e2, ⟨of_decide_eq_true q1, of_decide_eq_true q2, jF8 q3⟩, w.int S⟩
theorem jIb : UnR X (unaryOp .USub) (rO1 G oNeg) := fun pins s σQ H x v Q I rx ⟨ρ, d, h, S, r, w⟩ => by
 have w : wV G ρ H (jAI d (fun i => fI (Int.neg i) fun r => vP (.int r)) .bad) h Q := w
 rcases jAp r with zQ | ⟨i, rfl, rfl⟩
 ·rw [zQ] at w; exact w.elim
 ·exact un_neg pins s σQ H _ v Q I rx ⟨i, rfl, wV.int S w⟩
theorem sm64 {i : Int} (h : iSm i n64 = true) : -(2 ^ 64) < i ∧ i < 2 ^ 64 := by
 have h := jF8 h
 unfold n64 at h
 omega
theorem or_t {a b : Bool} (h : Bool.or a b = true) : a = true ∨ b = true := by cases a <;> cases b <;> first | exact .inl rfl | exact .inr rfl | exact nomatch (show false = true from h)
theorem PRs.rep {l : List P} {vs : List V} (r : PRs G H l vs) : ∀ n : Nat, PRs G H (List.replicate n l).flatten (List.replicate n vs).flatten
 | 0 => .nil
 | n + 1 => by rw [List.replicate_succ, List.replicate_succ, List.flatten_cons, List.flatten_cons]; exact r.append (PRs.rep r n)
theorem DRs.rep {l : List D} {vs : List V} (r : DRs G ρ H l vs) : ∀ n : Nat, DRs G ρ H (List.replicate n l).flatten (List.replicate n vs).flatten
 | 0 => .nil
 | n + 1 => by rw [List.replicate_succ, List.replicate_succ, List.flatten_cons, List.flatten_cons]; exact r.append (DRs.rep r n)
theorem jIm {α : Type} {l : List α} {x : α} : ∀ {n : Nat}, x ∈ (List.replicate n l).flatten → x ∈ l
 | 0, h => absurd h (by simp)
 | n + 1, h => by
  rw [List.replicate_succ, List.flatten_cons] at h
  exact (List.mem_append.mp h).elim id jIm
theorem jIw {α : Type} {l : List α} : ∀ {n : Nat}, (List.replicate n l).flatten.length = l.length * n
 | 0 => by simp
 | n + 1 => by rw [List.replicate_succ, List.flatten_cons, List.length_append, jIw, Nat.mul_succ, Nat.add_comm]
theorem opr_mul (hK : G.K = X.K) : OpR X (binaryOp .Mult) (rO2 G oMul) := by
 refine jAS (jC2 op_mul (jC2 op_rep op_repT)) fun x y H Q ⟨ρ, d, eQ, h, S, rx, ry, w⟩ => ?_
 cases rx with
 | p r =>
  cases r with
  | non => exact w.elim
  | bl => exact w.elim
  | fn => exact w.elim
  | str => exact w.elim
  | int i =>
   have w : wV G ρ H (jAI eQ (fun j => Mi.gd (Bool.or (iSm i n64) (iSm j n64)) (fI (Int.mul i j) fun r => vP (.int r))) .bad) h Q := w
   rcases jAp ry with zQ | ⟨j, rfl, rfl⟩
   ·rw [zQ] at w; exact w.elim
   ·obtain ⟨q, w⟩ := wV.gd (show wV G ρ H (Mi.gd (Bool.or (iSm i n64) (iSm j n64)) (fI (Int.mul i j) fun r => vP (.int r))) h Q from w)
    exact .inl ⟨i, j, rfl, rfl, (or_t q).imp sm64 sm64, w.int S⟩
  | @tup d l a vs sq r hd hzQ hc =>
   have w : wV G ρ H (jAI eQ (fun j => Mi.gd (Bool.and (isN l) (Bool.and (iLe (.ofNat 2) j) (iLe j (.ofNat 1000)))) (Mi.gd (jEs l 1000) (fN (unf d) fun d => vP (.tup d (repL l j.toNat))))) .bad) h Q := w
   rcases jAp ry with zQ | ⟨j, rfl, rfl⟩
   ·rw [zQ] at w; exact w.elim
   ·obtain ⟨q, w⟩ := wV.gd (show wV G ρ H (Mi.gd (Bool.and (isN l) (Bool.and (iLe (.ofNat 2) j) (iLe j (.ofNat 1000)))) (Mi.gd (jEs l 1000) (fN (unf d) fun d => vP (.tup d (repL l j.toNat))))) h Q from w)
    obtain ⟨q2, w⟩ := w.gd
    obtain ⟨q0, q1⟩ := jEd q
    obtain ⟨q1, q3⟩ := jEd q1
    rw [jBZ] at q1 q3
    rw [jA7, jEG] at w
    refine .inr (.inr ⟨a, j, vs, rfl, rfl, by rw [← hK]; exact sq, fun zQ => ?_, of_decide_eq_true q1, of_decide_eq_true q3, ?_, fun p fr => ?_⟩)
    ·subst zQ
     cases r
     exact nomatch (show false = true from q0)
    ·rw [← r.length]; exact jDG _ _ q2
    ·obtain ⟨S1, E1, s1Q⟩ := S.newT (vs := (List.replicate j.toNat vs).flatten) fr
     exact w ρ _ _ E1 S1 (.p (PR.tups s1Q ((r.mono E1.tup).rep _) (fun x hxQ => hd x (jIm hxQ)) hzQ))
 | @ref k a e1 =>
  have w : wV G ρ H (jAw h k (fun l => jAI eQ (fun j => Mi.gd (iSm j 1000000) (Mi.gd (jAG (repL l j.toNat)) (.new (.lst (repL l j.toNat))))) .bad) .bad) h Q := w
  rcases jAu S e1 with zQ | ⟨l, vs, hl, r, _, zQ⟩
  ·rw [zQ] at w; exact w.elim
  ·rw [zQ] at w
   rcases jAp ry with zQ | ⟨j, rfl, rfl⟩
   ·rw [zQ] at w; exact w.elim
   ·obtain ⟨q, w⟩ := wV.gd (show wV G ρ H (Mi.gd (iSm j 1000000) (Mi.gd (jAG (repL l j.toNat)) (.new (.lst (repL l j.toNat))))) h Q from w)
    obtain ⟨q2, w⟩ := w.gd
    rw [jEG] at w q2
    have q := jF8 q
    refine .inr (.inl ⟨a, j, vs, rfl, rfl, hl, by omega, by omega, ?_, fun p fr => wV.newL S w (r.rep _) fr⟩)
    have := Nat.le_of_lt (jAL q2)
    rw [jIw, r.length] at this
    exact this
 | mt => exact w.elim
end
end Mi

namespace Mi
open PySem PySem.Spec L2
open PyProof.Rows hiding St
mutual
def pyP : P → PyData
 | .non => .none
 | .bl b => .bool b
 | .int i => .int i
 | .str s => .str (sV s)
 | .tup _ l => .tuple (pyPs l)
 | .fn _ => .none
def pyPs : List P → List PyData
 | [] => []
 | x :: l => pyP x :: pyPs l
end
mutual
def pyQ : Qd → PyData
 | .non => .none
 | .bl b => .bool b
 | .int i => .int i
 | .str s => .str (sV s)
 | .tup l => .tuple (pyQs l)
 | .lst l => .list (pyQs l)
def pyQs : List Qd → List PyData
 | [] => []
 | x :: l => pyQ x :: pyQs l
end
theorem jGG {s : List Nat} (cQ : ∀ x ∈ s, x < 1114112) : PyData.strOk (sV s) = true := by
 show (s.toArray.all (· < 0x110000)) = true
 rw [List.all_toArray, List.all_eq_true]
 intro x hxQ
 exact decide_eq_true (cQ x hxQ)
section
variable {G : Gi} {ρ : List Addr} {H : Hp} {h : EH}
mutual
theorem PR.dp : ∀ {x : P} {v : V}, PR G H x v → isFn x = false → Dp G.K H v (pyP x) ∧ PyData.canLay0 (pyP x) = true ∧ PyData.depth (pyP x) ≤ dep x
 | _, _, .non, _ => ⟨.non, by simp [pyP, PyData.canLay0], by simp [pyP, PyData.depth]⟩
 | _, _, .bl b, _ => ⟨.bl b, by simp [pyP, PyData.canLay0], by simp [pyP, PyData.depth]⟩
 | _, _, .int i, _ => ⟨.int i, by simp [pyP, PyData.canLay0], by simp [pyP, PyData.depth]⟩
 | _, _, .str s zQ cQ, _ => ⟨.str _, by simp only [pyP, PyData.canLay0]; exact jGG cQ, by simp [pyP, PyData.depth]⟩
 | _, _, @PR.tup _ _ d l _ _ sq r hd hzQ hc, _ => by
  obtain ⟨h1, h2, h3⟩ := PRs.dp r (unf d) hd hzQ.2
  refine ⟨.tup sq h1, by simp only [pyP, PyData.canLay0]; exact h2, ?_⟩
  simp only [pyP, PyData.depth]
  show _ ≤ unf d
  obtain ⟨hz0, hzQ⟩ := hzQ
  omega
 | _, _, .fn _, zQ => nomatch (show true = false from zQ)
theorem PRs.dp : ∀ {l : List P} {vs : List V}, PRs G H l vs → ∀ d, (∀ x ∈ l, dep x < d) → d ≤ deepest → DpAll G.K H vs (pyPs l) ∧ PyData.canLayAll0 (pyPs l) = true ∧ PyData.depthAll (pyPs l) ≤ d - 1
 | _, _, .nil, _, _, _ => ⟨.nil, by simp [pyPs, PyData.canLayAll0], by simp [pyPs, PyData.depthAll]⟩
 | _, _, .cons (x := x) r t, d, hd, hzQ => by
  have hxQ := hd x List.mem_cons_self
  have hf : isFn x = false := by
   cases x with
   | fn k =>
    have : dep (.fn k) = 1000 := rfl
    rw [this] at hxQ
    unfold deepest at hzQ
    omega
   | non => rfl
   | bl => rfl
   | int => rfl
   | str => rfl
   | tup => rfl
  obtain ⟨a1, a2, a3⟩ := PR.dp r hf
  obtain ⟨b1, b2, b3⟩ := PRs.dp t d (fun y hy => hd y (List.mem_cons_of_mem _ hy)) hzQ
  refine ⟨.cons a1 b1, by simp only [pyPs, PyData.canLayAll0, a2, b2]; rfl, ?_⟩
  simp only [pyPs, PyData.depthAll]
  omega
end
end
end Mi

namespace Mi
open PySem PySem.Spec L2
open PyProof.Rows hiding St
theorem bI_eq (b : Bool) : bI b = if b then 1 else 0 := by cases b <;> rfl
theorem sEq_eq : ∀ (s t : List Nat), sEq s t = decide (s = t)
 | [], [] => rfl
 | [], _ :: _ => rfl
 | _ :: _, [] => rfl
 | a :: s, b :: t => by
  show Bool.rec (motive := fun _ => Bool) false (sEq s t) (Nat.beq a b) = _
  cases h : Nat.beq a b with
  | true =>
   have eQ := Nat.eq_of_beq_eq_true h
   subst eQ
   show sEq s t = _
   rw [sEq_eq s t]
   simp
  | false =>
   have : a ≠ b :=
      Nat.ne_of_beq_eq_false h
   show false = _
   simp [this]
theorem sV_inj {s t : List Nat} : sV s = sV t ↔ s = t := by
 constructor
 ·intro h
  have h : s.toArray = t.toArray := by injection h
  simpa using congrArg Array.toList h
 ·intro h; rw [h]
theorem jGb (s t : List Nat) : (sV s == sV t) = decide (s = t) := by
 rw [Bool.eq_iff_iff]
 simp [sV_inj]
section
variable {G : Gi} {ρ : List Addr} {H : Hp} {h : EH}
theorem jII {f : P → P → Bool} : ∀ (l m : List P), (∀ x ∈ l, ∀ y ∈ m, f x y = PyData.eqv (pyP x) (pyP y)) → eqL f l m = PyData.eqvAll (pyPs l) (pyPs m)
 | [], [], _ => by simp only [pyPs, PyData.eqvAll]; rfl
 | [], _ :: _, _ => by simp only [pyPs, PyData.eqvAll]; rfl
 | _ :: _, [], _ => by simp only [pyPs, PyData.eqvAll]; rfl
 | x :: l, y :: m, hf => by
  show Bool.rec (motive := fun _ => Bool) false (eqL f l m) (f x y) = _
  rw [hf x List.mem_cons_self y List.mem_cons_self, jII l m fun a ha b hb => hf a (List.mem_cons_of_mem _ ha) b (List.mem_cons_of_mem _ hb)]
  simp only [pyPs, PyData.eqvAll]
  cases PyData.eqv (pyP x) (pyP y) <;> rfl
theorem jGx {f : Qd → Qd → Bool} : ∀ (l m : List Qd), (∀ x ∈ l, ∀ y ∈ m, f x y = PyData.eqv (pyQ x) (pyQ y)) → eqL f l m = PyData.eqvAll (pyQs l) (pyQs m)
 | [], [], _ => by simp only [pyQs, PyData.eqvAll]; rfl
 | [], _ :: _, _ => by simp only [pyQs, PyData.eqvAll]; rfl
 | _ :: _, [], _ => by simp only [pyQs, PyData.eqvAll]; rfl
 | x :: l, y :: m, hf => by
  show Bool.rec (motive := fun _ => Bool) false (eqL f l m) (f x y) = _
  rw [hf x List.mem_cons_self y List.mem_cons_self, jGx l m fun a ha b hb => hf a (List.mem_cons_of_mem _ ha) b (List.mem_cons_of_mem _ hb)]
  simp only [pyQs, PyData.eqvAll]
  cases PyData.eqv (pyQ x) (pyQ y) <;> rfl
theorem PRs.mem {l : List P} {vs : List V} : PRs G H l vs → ∀ x ∈ l, ∃ v, PR G H x v
 | .nil, x, h => absurd h (by simp)
 | .cons r t, x, h => by
  rcases List.mem_cons.mp h with zQ | zQ
  ·subst zQ; exact ⟨_, r⟩
  ·exact PRs.mem t x zQ
theorem jD2 {x : P} (h : dep x ≤ deepest) : isFn x = false := by
 cases x with
 | fn k =>
  have : dep (.fn k) = 1000 := rfl
  rw [this] at h
  unfold deepest at h
  omega
 | non => rfl
 | bl => rfl
 | int => rfl
 | str => rfl
 | tup => rfl
theorem jDV : ∀ (n : Nat) (x y : P) (v u : V), PR G H x v → PR G H y u → dep x < n → isFn x = false → isFn y = false → eqP n x y = PyData.eqv (pyP x) (pyP y)
 | 0, _, _, _, _, _, _, h, _, _ => absurd h (Nat.not_lt_zero _)
 | n + 1, x, y, v, u, rx, ry, hn, fx, fy => by
  cases rx with
  | non => cases ry with
   | fn => exact nomatch (show true = false from fy)
   | _ => simp only [pyP, PyData.eqv]; rfl
  | bl a => cases ry with
   | fn => exact nomatch (show true = false from fy)
   | bl b => simp only [pyP, PyData.eqv]; exact (bEq_eq a b).trans (by cases a <;> cases b <;> rfl)
   | int j =>
    simp only [pyP, PyData.eqv]
    show iEq (bI a) j = _
    rw [jBw, bI_eq]
    cases a <;> rfl
   | _ => simp only [pyP, PyData.eqv]; rfl
  | int i => cases ry with
   | fn => exact nomatch (show true = false from fy)
   | bl b =>
    simp only [pyP, PyData.eqv]
    show iEq i (bI b) = _
    rw [jBw, bI_eq]
    cases b <;> rfl
   | int j =>
    simp only [pyP, PyData.eqv]
    show iEq i j = _
    rw [jBw]
    rfl
   | _ => simp only [pyP, PyData.eqv]; rfl
  | str s _ _ => cases ry with
   | fn => exact nomatch (show true = false from fy)
   | str t _ _ =>
    simp only [pyP, PyData.eqv]
    show sEq s t = _
    rw [sEq_eq, jGb]
   | _ => simp only [pyP, PyData.eqv]; rfl
  | @tup d l a vs sq r hd hzQ hc => cases ry with
   | fn => exact nomatch (show true = false from fy)
   | @tup eQ m b ws sq2 r2 hd2 hz2 hc2 =>
    simp only [pyP, PyData.eqv]
    show eqL (eqP n) l m = _
    refine jII l m fun p hpQ q hq => ?_
    obtain ⟨p', rp⟩ := r.mem p hpQ
    obtain ⟨q', rq⟩ := r2.mem q hq
    have h1 := hd p hpQ
    have h2 := hd2 q hq
    have hn : unf d < n + 1 := hn
    exact jDV n p q p' q' rp rq (by omega) (jD2 (by omega)) (jD2 (by omega))
   | _ => simp only [pyP, PyData.eqv]; rfl
  | fn => exact nomatch (show true = false from fx)
theorem jFc : ∀ {l : List Qd} {x : Qd}, x ∈ l → PyData.depth (pyQ x) ≤ PyData.depthAll (pyQs l)
 | a :: l, x, h => by
  simp only [pyQs, PyData.depthAll]
  rcases List.mem_cons.mp h with zQ | zQ
  ·subst zQ; omega
  ·have := jFc zQ; omega
theorem eqQ_eq : ∀ (n : Nat) (x y : Qd), PyData.depth (pyQ x) < n → eqQ n x y = PyData.eqv (pyQ x) (pyQ y)
 | 0, _, _, h =>
    absurd h (Nat.not_lt_zero _)
 | n + 1, x, y, hn => by
  cases x with
  | non => cases y <;> (simp only [pyQ, PyData.eqv]; rfl)
  | bl a => cases y with
   | bl b => simp only [pyQ, PyData.eqv]; exact (bEq_eq a b).trans (by cases a <;> cases b <;> rfl)
   | int j =>
    simp only [pyQ, PyData.eqv]
    show iEq (bI a) j = _
    rw [jBw, bI_eq]
    cases a <;> rfl
   | _ => simp only [pyQ, PyData.eqv]; rfl
  | int i => cases y with
   | bl b =>
    simp only [pyQ, PyData.eqv]
    show iEq i (bI b) = _
    rw [jBw, bI_eq]
    cases b <;> rfl
   | int j =>
    simp only [pyQ, PyData.eqv]
    show iEq i j = _
    rw [jBw]
    rfl
   | _ => simp only [pyQ, PyData.eqv]; rfl
  | str s => cases y with
   | str t =>
    simp only [pyQ, PyData.eqv]
    show sEq s t = _
    rw [sEq_eq, jGb]
   | _ => simp only [pyQ, PyData.eqv]; rfl
  | tup l => cases y with
   | tup m =>
    simp only [pyQ, PyData.eqv]
    show eqL (eqQ n) l m = _
    refine jGx l m fun p hpQ q hq => ?_
    have := jFc hpQ
    simp only [pyQ, PyData.depth] at hn
    exact eqQ_eq n p q (by omega)
   | _ => simp only [pyQ, PyData.eqv]; rfl
  | lst l => cases y with
   | lst m =>
    simp only [pyQ, PyData.eqv]
    show eqL (eqQ n) l m = _
    refine jGx l m fun p hpQ q hq => ?_
    have := jFc hpQ
    simp only [pyQ, PyData.depth] at hn
    exact eqQ_eq n p q (by omega)
   | _ => simp only [pyQ, PyData.eqv]; rfl
def Told (G : Gi) (H : Hp) (v : V) (q : Qd) (n : Nat) : Prop := Dp G.K H v (pyQ q) ∧ PyData.canLay0 (pyQ q) = true ∧ PyData.depth (pyQ q) ≤ n
def TolAll (G : Gi) (H : Hp) (vs : List V) (q : List Qd) (n : Nat) : Prop := DpAll G.K H vs (pyQs q) ∧ PyData.canLayAll0 (pyQs q) = true ∧ PyData.depthAll (pyQs q) ≤ n
theorem TolAll.cons {v : V} {vs : List V} {q : Qd} {qs : List Qd} {n : Nat} (a : Told G H v q n) (b : TolAll G H vs qs n) : TolAll G H (v :: vs) (q :: qs) n := by
 obtain ⟨a1, a2, a3⟩ := a
 obtain ⟨b1, b2, b3⟩ := b
 refine ⟨.cons a1 b1, by simp only [pyQs, PyData.canLayAll0, a2, b2]; rfl, ?_⟩
 simp only [pyQs, PyData.depthAll]
 omega
theorem TolAll.nil {n : Nat} : TolAll G H [] [] n := ⟨.nil, by simp [pyQs, PyData.canLayAll0], by simp [pyQs, PyData.depthAll]⟩
theorem jFZ {α β : Type} {f : α → Option β} {a : α} {l : List α} {r : List β} (eQ : allO f (a :: l) = some r) : ∃ b r', f a = some b ∧ allO f l = some r' ∧ r = b :: r' := by
 have eQ : Option.rec (motive := fun _ => Option (List β)) none (fun b => Option.rec (motive := fun _ => Option (List β)) none (fun r => some (b :: r)) (allO f l)) (f a) = some r := eQ
 cases h1 : f a with
 | none => rw [h1] at eQ; cases eQ
 | some b =>
  rw [h1] at eQ
  cases h2 : allO f l with
  | none => rw [h2] at eQ; cases eQ
  | some r' =>
   rw [h2] at eQ
   have eQ : some (b :: r') = some r := eQ
   cases eQ
   exact ⟨b, r', rfl, rfl, rfl⟩
theorem jIa : ∀ (n : Nat) (x : P) (v : V) (q : Qd), PR G H x v → pQ n x = some q → Told G H v q n
 | 0, _, _, _, _, eQ => nomatch eQ
 | n + 1, x, v, q, r, eQ => by
  cases r with
  | non => cases (show some Qd.non = some q from eQ); exact ⟨.non, by simp [pyQ, PyData.canLay0], by simp [pyQ, PyData.depth]⟩
  | bl b => cases (show some (Qd.bl b) = some q from eQ); exact ⟨.bl b, by simp [pyQ, PyData.canLay0], by simp [pyQ, PyData.depth]⟩
  | int b => cases (show some (Qd.int b) = some q from eQ); exact ⟨.int b, by simp [pyQ, PyData.canLay0], by simp [pyQ, PyData.depth]⟩
  | str s zQ cQ => cases (show some (Qd.str s) = some q from eQ); exact ⟨.str _, by simp only [pyQ, PyData.canLay0]; exact jGG cQ, by simp [pyQ, PyData.depth]⟩
  | fn => cases (show (none : Option Qd) = some q from eQ)
  | @tup d l a vs sq r hd hzQ hc =>
   have eQ : Option.rec (motive := fun _ => Option Qd) none (fun r => some (.tup r)) (allO (pQ n) l) = some q := eQ
   cases h1 : allO (pQ n) l with
   | none => rw [h1] at eQ; cases eQ
   | some qs =>
    rw [h1] at eQ
    cases (show some (Qd.tup qs) = some q from eQ)
    have all : ∀ (l : List P) (vs : List V) (qs : List Qd), PRs G H l vs → allO (pQ n) l = some qs → TolAll G H vs qs n := by
     intro l
     induction l with
     | nil => intro vs qs r eQ; cases r; cases (show some ([] : List Qd) = some qs from eQ); exact .nil
     | cons p l ih =>
      intro vs qs r eQ
      cases r with
      | cons r1 r2 =>
       obtain ⟨b, r', e1, e2, rfl⟩ := jFZ eQ
       have t := jIa n p _ b r1 e1
       exact .cons t (ih _ _ r2 e2)
    obtain ⟨h1, h2, h3⟩ := all l vs qs r h1
    refine ⟨.tup sq h1, by simp only [pyQ, PyData.canLay0]; exact h2, ?_⟩
    simp only [pyQ, PyData.depth]
    omega
theorem jG3 (S : Sim G ρ h H) : ∀ (n : Nat) (x : D) (v : V) (q : Qd), DR G ρ H x v → dQ h n x = some q → Told G H v q n
 | 0, _, _, _, _, eQ => nomatch eQ
 | n + 1, x, v, q, r, eQ => by
  have all : ∀ (l : List D) (vs : List V) (qs : List Qd), DRs G ρ H l vs → allO (dQ h n) l = some qs → TolAll G H vs qs n := by
   intro l
   induction l with
   | nil => intro vs qs r eQ; cases r; cases (show some ([] : List Qd) = some qs from eQ); exact .nil
   | cons p l ih =>
    intro vs qs r eQ
    cases r with
    | cons r1 r2 =>
     obtain ⟨b, r', e1, e2, rfl⟩ := jFZ eQ
     exact .cons (jG3 S n p _ b r1 e1) (ih _ _ r2 e2)
  cases r with
  | p r =>
   obtain ⟨a, b, cQ⟩ := jIa n _ v q r eQ
   exact ⟨a, b, by omega⟩
  | @mt l a vs sq r =>
   have eQ : Option.rec (motive := fun _ => Option Qd) none (fun r => some (.tup r)) (allO (dQ h n) l) = some q := eQ
   cases h1 : allO (dQ h n) l with
   | none => rw [h1] at eQ; cases eQ
   | some qs =>
    rw [h1] at eQ
    cases (show some (Qd.tup qs) = some q from eQ)
    obtain ⟨h1, h2, h3⟩ := all l vs qs r h1
    refine ⟨.tup sq h1, by simp only [pyQ, PyData.canLay0]; exact h2, ?_⟩
    simp only [pyQ, PyData.depth]
    omega
  | @ref k a e1 =>
   have eQ : jAw h k (fun l => Option.rec (motive := fun _ => Option Qd) none (fun r => some (.lst r)) (allO (dQ h n) l)) none = some q := eQ
   rcases jAu S e1 with zQ | ⟨l, vs, hl, r, _, zQ⟩
   ·rw [zQ] at eQ; cases eQ
   ·rw [zQ] at eQ
    cases h1 : allO (dQ h n) l with
    | none => rw [h1] at eQ; cases eQ
    | some qs =>
     rw [h1] at eQ
     cases (show some (Qd.lst qs) = some q from eQ)
     obtain ⟨h1, h2, h3⟩ := all l vs qs r h1
     refine ⟨.lst (.of hl) h1, by simp only [pyQ, PyData.canLay0]; exact h2, ?_⟩
     simp only [pyQ, PyData.depth]
     omega
theorem Told.shaped {v : V} {q : Qd} {n : Nat} (t : Told G H v q n) (hn : n ≤ 64) : SeqAt.shaped (pyQ q) = true := by
 obtain ⟨_, b, cQ⟩ := t
 unfold SeqAt.shaped
 rw [b, decide_eq_true (by omega)]
 rfl
theorem PR.shaped {x : P} {v : V} (r : PR G H x v) (f : isFn x = false) : SeqAt.shaped (pyP x) = true := by
 obtain ⟨_, b, cQ⟩ := r.dp f
 have hd : dep x ≤ 50 := by
  cases r with
  | tup _ _ _ hzQ => exact hzQ.2
  | fn => exact nomatch (show true = false from f)
  | non => exact Nat.zero_le _
  | bl => exact Nat.zero_le _
  | int => exact Nat.zero_le _
  | str => exact Nat.zero_le _
 unfold SeqAt.shaped
 rw [b, decide_eq_true (by omega)]
 rfl
theorem PR.dep50 {x : P} {v : V} (r : PR G H x v) (f : isFn x = false) : dep x ≤ 50 := by
 cases r with
 | tup _ _ _ hzQ => exact hzQ.2
 | fn => exact nomatch (show true = false from f)
 | non => exact Nat.zero_le _
 | bl => exact Nat.zero_le _
 | int => exact Nat.zero_le _
 | str => exact Nat.zero_le _
theorem eqW_ok {α : Type} {k : Bool → α} {n : α} {d eQ : D} {x y : V} (S : Sim G ρ h H) (rx : DR G ρ H d x) (ry : DR G ρ H eQ y) :
  eqW h d eQ k n = n ∨ ∃ p q, Dp G.K H x p ∧ Dp G.K H y q ∧ SeqAt.shaped p = true ∧ SeqAt.shaped q = true ∧ eqW h d eQ k n = k (PyData.eqv p q) := by
 have slow : (Option.rec (motive := fun _ => α) n (fun a => Option.rec (motive := fun _ => α) n (fun b => fB (eqQ 60 a b) k) (dQ h 50 eQ)) (dQ h 50 d)) = n ∨
   ∃ p q, Dp G.K H x p ∧ Dp G.K H y q ∧ SeqAt.shaped p = true ∧ SeqAt.shaped q = true ∧ (Option.rec (motive := fun _ => α) n (fun a => Option.rec (motive := fun _ => α) n (fun b => fB (eqQ 60 a b) k) (dQ h 50 eQ)) (dQ h 50 d)) = k (PyData.eqv p q) := by
  cases h1 : dQ h 50 d with
  | none => exact .inl rfl
  | some a =>
   cases h2 : dQ h 50 eQ with
   | none => exact .inl rfl
   | some b =>
    have t1 := jG3 S 50 d x a rx h1
    have t2 := jG3 S 50 eQ y b ry h2
    refine .inr ⟨pyQ a, pyQ b, t1.1, t2.1, t1.shaped (by decide), t2.shaped (by decide), ?_⟩
    show fB (eqQ 60 a b) k = _
    rw [jAR, eqQ_eq 60 a b (by have := t1.2.2; omega)]
 cases rx with
 | p rx =>
  cases ry with
  | p ry =>
   rename_i a b
   cases h1 : isFn a with
   | true => exact .inl (by show Bool.rec (motive := fun _ => α) (fB (eqP 60 a b) k) n (Bool.or (isFn a) (isFn b)) = n; rw [h1]; rfl)
   | false =>
    cases h2 : isFn b with
    | true => exact .inl (by show Bool.rec (motive := fun _ => α) (fB (eqP 60 a b) k) n (Bool.or (isFn a) (isFn b)) = n; rw [h1, h2]; rfl)
    | false =>
     refine .inr ⟨pyP a, pyP b, (rx.dp h1).1, (ry.dp h2).1, rx.shaped h1, ry.shaped h2, ?_⟩
     show Bool.rec (motive := fun _ => α) (fB (eqP 60 a b) k) n (Bool.or (isFn a) (isFn b)) = _
     rw [h1, h2]
     show fB (eqP 60 a b) k = _
     rw [jAR, jDV 60 a b _ _ rx ry (by have := rx.dep50 h1; omega) h1 h2]
  | ref => exact slow
  | mt => exact slow
 | ref => exact slow
 | mt => exact slow
end
section
variable {X : Cx} {G : Gi}
theorem opr_eq (hK : G.K = X.K) (hu : X.A.units + 64 < cLine) : OpR X (compareOp .Eq) (rO2 G oEq) := jAS (op_eqD hu) fun x y H Q ⟨ρ, d, eQ, h, S, rx, ry, w⟩ => by
 rcases eqW_ok (k := fun r => vP (.bl r)) (n := VR.bad) S rx ry with zQ | ⟨p, q, a, b, cQ, f, zQ⟩
 ·have w : wV G ρ H (eqW h d eQ (fun r => vP (.bl r)) .bad) h Q := w
  rw [zQ] at w; exact w.elim
 ·have w : wV G ρ H (eqW h d eQ (fun r => vP (.bl r)) .bad) h Q := w
  rw [zQ] at w
  rw [hK] at a b
  exact ⟨p, q, a, b, cQ, f, wV.val S w (.p (.bl _))⟩
theorem opr_ne (hK : G.K = X.K) (hu : X.A.units + 64 < cLine) : OpR X (compareOp .NotEq) (rO2 G oNe) := jAS (op_neD hu) fun x y H Q ⟨ρ, d, eQ, h, S, rx, ry, w⟩ => by
 rcases eqW_ok (k := fun r => vP (.bl (Bool.not r))) (n := VR.bad) S rx ry with zQ | ⟨p, q, a, b, cQ, f, zQ⟩
 ·have w : wV G ρ H (eqW h d eQ (fun r => vP (.bl (Bool.not r))) .bad) h Q := w
  rw [zQ] at w; exact w.elim
 ·have w : wV G ρ H (eqW h d eQ (fun r => vP (.bl (Bool.not r))) .bad) h Q := w
  rw [zQ] at w
  rw [hK] at a b
  exact ⟨p, q, a, b, cQ, f, wV.val S w (.p (.bl _))⟩
end
end Mi

namespace Mi
open PySem PySem.Spec L2
open PyProof.Rows hiding St
theorem jF9 (i j : Int) : iLt i j = decide (i < j) := by
 unfold iLt
 rw [jBZ]
 show (!decide (j ≤ i)) = _
 rw [Bool.eq_iff_iff]; simp
theorem jEw : ∀ (s t : List Nat), sLt s t = decide (s < t)
 | [], [] => rfl
 | [], _ :: _ => by show true = _; simp
 | _ :: _, [] => by show false = _; simp
 | a :: s, b :: t => by
  show Bool.rec (motive := fun _ => Bool) (Nat.blt a b) (sLt s t) (Nat.beq a b) = _
  rw [Bool.eq_iff_iff]
  cases h : Nat.beq a b with
  | true =>
   have eQ := Nat.eq_of_beq_eq_true h
   subst eQ
   show sLt s t = true ↔ _
   rw [jEw s t]
   simp [List.cons_lt_cons_iff]
  | false =>
   have ne : a ≠ b := Nat.ne_of_beq_eq_false h
   show Nat.ble (a + 1) b = true ↔ _
   rw [Nat.ble_eq]
   simp [List.cons_lt_cons_iff, ne, Nat.lt_iff_add_one_le]
theorem jCM (s : List Nat) : (sV s).cps.toList = s := by show s.toArray.toList = s; simp
section
variable {X : Cx} {G : Gi} {ρ : List Addr} {H : Hp} {h : EH} {d eQ : D} {x y : V} {Q : VK}
theorem jEL {fi : Int → Int → Bool} {fs : List Nat → List Nat → Bool} (S : Sim G ρ h H) (rx : DR G ρ H d x) (ry : DR G ρ H eQ y) (w : wV G ρ H (ordW fi fs d eQ) h Q) :
  (∃ i j, x = .int i ∧ y = .int j ∧ Q (.bl (fi i j)) H) ∨ ∃ s t, x = .str (sV s) ∧ y = .str (sV t) ∧ Q (.bl (fs s t)) H := by
 cases rx with
 | p rx =>
  cases rx with
  | int i =>
   have w : wV G ρ H (jAI eQ (fun j => fB (fi i j) fun r => vP (.bl r)) .bad) h Q := w
   rcases jAp ry with zQ | ⟨j, rfl, rfl⟩
   ·rw [zQ] at w; exact w.elim
   ·have w : wV G ρ H (fB (fi i j) fun r => vP (.bl r)) h Q := w
    rw [jAR] at w
    exact .inl ⟨i, j, rfl, rfl, wV.val S w (.p (.bl _))⟩
  | str s _ _ =>
   have w : wV G ρ H (strOf eQ (fun j => fB (fs s j) fun r => vP (.bl r)) .bad) h Q := w
   rcases jEq ry with zQ | ⟨t, rfl, rfl, _, _⟩
   ·rw [zQ] at w; exact w.elim
   ·have w : wV G ρ H (fB (fs s t) fun r => vP (.bl r)) h Q := w
    rw [jAR] at w
    exact .inr ⟨s, t, rfl, rfl, wV.val S w (.p (.bl _))⟩
  | _ => exact w.elim
 | _ => exact w.elim
theorem opr_lt : OpR X (compareOp .Lt) (rO2 G oLt) := jAS (jC2 op_lt op_lt_str) fun x y H Q ⟨ρ, d, eQ, h, S, rx, ry, w⟩ => by
 rcases jEL S rx ry w with ⟨i, j, a, b, q⟩ | ⟨s, t, a, b, q⟩
 ·rw [jF9] at q; exact .inl ⟨i, j, a, b, q⟩
 ·rw [jEw] at q; exact .inr ⟨_, _, a, b, by rw [jCM, jCM]; exact q⟩
theorem opr_le : OpR X (compareOp .LtE) (rO2 G oLe) := jAS (jC2 op_le op_le_str) fun x y H Q ⟨ρ, d, eQ, h, S, rx, ry, w⟩ => by
 rcases jEL S rx ry w with ⟨i, j, a, b, q⟩ | ⟨s, t, a, b, q⟩
 ·rw [jBZ] at q; exact .inl ⟨i, j, a, b, q⟩
 ·rw [jEw] at q; exact .inr ⟨_, _, a, b, by rw [jCM, jCM]; exact q⟩
theorem opr_gt : OpR X (compareOp .Gt) (rO2 G oGt) := jAS (jC2 op_gt op_gt_str) fun x y H Q ⟨ρ, d, eQ, h, S, rx, ry, w⟩ => by
 rcases jEL S rx ry w with ⟨i, j, a, b, q⟩ | ⟨s, t, a, b, q⟩
 ·rw [jF9] at q; exact .inl ⟨i, j, a, b, q⟩
 ·rw [jEw] at q; exact .inr ⟨_, _, a, b, by rw [jCM, jCM]; exact q⟩
theorem opr_ge : OpR X (compareOp .GtE) (rO2 G oGe) := jAS (jC2 op_ge op_ge_str) fun x y H Q ⟨ρ, d, eQ, h, S, rx, ry, w⟩ => by
 rcases jEL S rx ry w with ⟨i, j, a, b, q⟩ | ⟨s, t, a, b, q⟩
 ·rw [jBZ] at q; exact .inl ⟨i, j, a, b, q⟩
 ·rw [jEw] at q; exact .inr ⟨_, _, a, b, by rw [jCM, jCM]; exact q⟩
theorem jHj (r : DR G ρ H d x) : isNon d = decide (x = .non) := by
 cases r with
 | p r => cases r <;> rfl
 | ref => rfl
 | mt => rfl
theorem opr_is : OpR X (compareOp .Is) (rO2 G oIs) := jAS op_isN fun x y H Q ⟨ρ, d, eQ, h, S, rx, ry, w⟩ => by
 obtain ⟨q, w⟩ := w.gd
 rw [jHj ry] at q
 rw [jAR, jHj rx] at w
 exact ⟨of_decide_eq_true q, wV.val S w (.p (.bl _))⟩
theorem jDC (S : Sim G ρ h H) (rx : DR G ρ H d x) {b : Bool} (q : tru h d = some b) : TruV G.K x H b := by
 cases rx with
 | p rx =>
  cases rx with
  | non => cases (show some false = some b from q); rfl
  | bl cQ => cases (show some cQ = some b from q); rfl
  | int i =>
   cases (show some (Bool.not (iEq i (.ofNat 0))) = some b from q)
   show Bool.not (iEq i (.ofNat 0)) = (i != 0)
   rw [jBw]
   rfl
  | str s zQ cQ =>
   cases (show some (isN s) = some b from q)
   refine ⟨by rw [jDN]; exact zQ, ?_⟩
   rw [jDN]
   cases s with
   | nil => rfl
   | cons a s =>
    show true = _
    symm
    rw [bne_iff_ne]
    simp only [List.length_cons]
    omega
  | @tup dd l a vs sq rl _ _ _ =>
   cases (show some (isN l) = some b from q)
   refine .inr (.inl ⟨vs, sq, ?_⟩)
   rw [isN_eq]
   cases rl <;> rfl
  | fn => cases (show (none : Option Bool) = some b from q)
 | @mt l a vs sq rl =>
  cases (show some (isN l) = some b from q)
  refine .inr (.inl ⟨vs, sq, ?_⟩)
  rw [isN_eq]
  cases rl <;> rfl
 | @ref k a e1 =>
  have q : Option.rec (motive := fun _ => Option Bool) none (fun o => O.cs o (fun l => some (isN l)) (fun _ l => none) (fun l => none) (fun _ _ => none) (fun _ _ => none)) (h.get k) = some b := q
  cases h1 : h.get k with
  | none => rw [h1] at q; cases q
  | some o =>
   rw [h1] at q
   obtain ⟨a', e2, r⟩ := S.get h1
   rw [e1] at e2; cases e2
   cases r with
   | @lst l _ vs hl rl =>
    cases (show some (isN l) = some b from q)
    refine .inl ⟨vs, .of hl, ?_⟩
    rw [isN_eq]
    cases rl <;> rfl
   | _ => cases q
end
end Mi

namespace Mi
open PySem PySem.Spec L2
open PyProof.Rows hiding St
def wT (G : Gi) (W : WX) (ρ : List Addr) (H : Hp) (σQ : St) (r : RE) (Q : Bool → Hp → Prop) : Prop :=
 match r with
 | .ok d h' => ∃ b, tru h' d = some b ∧ ∀ ρ' H', Ext G ρ ρ' H H' → Sim G ρ' h' H' → Q b H'
 | .ex cQ x h' => ∀ ρ' H' cls dd, Ext G ρ ρ' H H' → Sim G ρ' h' H' → XR G H' cQ x cls dd → W cls dd σQ H'
 | .bad => False
def rdT (G : Gi) (W : WX) (cQ : Env → EH → RE) : TT := fun σQ H Q => ∃ ρ σd h, EnvR G ρ H σd σQ ∧ Sim G ρ h H ∧ wT G W ρ H σQ (cQ σd h) Q
section
variable {X : Cx} {G : Gi} {W : WX} {Φ : Ph} {pos : Pos} {a b cQ : Expr} {es rest : List Expr} {ca cb cc : CE} {cl cm : CL}
abbrev ST (X : Cx) (G : Gi) (W : WX) (Φ : Ph) (eQ : Expr) (cQ : CE) : Prop := PT X eQ (rdT G W (cQ Φ))
abbrev SW (X : Cx) (G : Gi) (W : WX) (Φ : Ph) (eQ : Expr) (cQ : CE) : Prop := PW X eQ (rdT G W (cQ Φ))
theorem _root_.L2.PW.weak {eQ : Expr} {t t' : TT} (h : PW X eQ t) (w : ∀ σQ H Q, t' σQ H Q → t σQ H Q) : PW X eQ t' := ⟨fun wh pins s σQ H Q I q => h.run wh pins s σQ H Q I (w σQ H Q q)⟩
theorem wT.mono {ρ ρ1 : List Addr} {H H1 : Hp} {σQ : St} {r : RE} {Q : Bool → Hp → Prop} (x : wT G W ρ H σQ r Q) (eQ : Ext G ρ ρ1 H H1) : wT G W ρ1 H1 σQ r Q := by
 cases r with
 | ok d h' => obtain ⟨b, q, x⟩ := x; exact ⟨b, q, fun ρ' H' eQ' s => x ρ' H' (eQ.trans eQ') s⟩
 | ex cQ y h' => exact fun ρ' H' cls dd eQ' s r => x ρ' H' cls dd (eQ.trans eQ') s r
 | bad => exact x
theorem jBL {α : Type} (h : EH) (x : D) (y n b : α) : (tru h x = some true ∧ tE h x y n b = y) ∨ (tru h x = some false ∧ tE h x y n b = n) ∨ (tru h x = none ∧ tE h x y n b = b) := by
 unfold tE
 cases q : tru h x with
 | none => exact .inr (.inr ⟨rfl, rfl⟩)
 | some k => cases k with
  | true => exact .inl ⟨rfl, rfl⟩
  | false => exact .inr (.inl ⟨rfl, rfl⟩)
theorem wT.test {ρ : List Addr} {H : Hp} {σQ : St} {r : RE} {f g : D → EH → RE} {Q : Bool → Hp → Prop} (x : wT G W ρ H σQ (bE r fun d h => tE h d (f d h) (g d h) .bad) Q) :
  wT G W ρ H σQ r fun k H1 => ∃ ρ1 d h1, Ext G ρ ρ1 H H1 ∧ Sim G ρ1 h1 H1 ∧ tru h1 d = some k ∧ wT G W ρ1 H1 σQ (if k = true then f d h1 else g d h1) Q := by
 cases r with
 | ok d h' =>
  have x : wT G W ρ H σQ (tE h' d (f d h') (g d h') .bad) Q := x
  rcases jBL h' d (f d h') (g d h') RE.bad with ⟨q, eQ⟩ | ⟨q, eQ⟩ | ⟨q, eQ⟩
  ·rw [eQ] at x; exact ⟨true, q, fun ρ' H' E S => ⟨ρ', d, h', E, S, q, wT.mono x E⟩⟩
  ·rw [eQ] at x; exact ⟨false, q, fun ρ' H' E S => ⟨ρ', d, h', E, S, q, wT.mono x E⟩⟩
  ·rw [eQ] at x; exact x.elim
 | ex cQ y h' => exact x
 | bad => exact x
theorem wE.test {ρ : List Addr} {H : Hp} {σQ : St} {r : RE} {f g : D → EH → RE} {Q : VK} (x : wE G W ρ H σQ (bE r fun d h => tE h d (f d h) (g d h) .bad) Q) :
  wT G W ρ H σQ r fun k H1 => ∃ ρ1 d h1, Ext G ρ ρ1 H H1 ∧ Sim G ρ1 h1 H1 ∧ wE G W ρ1 H1 σQ (if k = true then f d h1 else g d h1) Q := by
 cases r with
 | ok d h' =>
  have x : wE G W ρ H σQ (tE h' d (f d h') (g d h') .bad) Q := x
  rcases jBL h' d (f d h') (g d h') RE.bad with ⟨q, eQ⟩ | ⟨q, eQ⟩ | ⟨q, eQ⟩
  ·rw [eQ] at x; exact ⟨true, q, fun ρ' H' E S => ⟨ρ', d, h', E, S, wE.mono x E⟩⟩
  ·rw [eQ] at x; exact ⟨false, q, fun ρ' H' E S => ⟨ρ', d, h', E, S, wE.mono x E⟩⟩
  ·rw [eQ] at x; exact x.elim
 | ex cQ y h' => exact x
 | bad => exact x
theorem wT.imp {ρ : List Addr} {H : Hp} {σQ : St} {r : RE} {Q Q' : Bool → Hp → Prop} (x : wT G W ρ H σQ r Q) (f : ∀ v H', Q v H' → Q' v H') : wT G W ρ H σQ r Q' := by
 cases r with
 | ok d h' => obtain ⟨b, q, x⟩ := x; exact ⟨b, q, fun ρ' H' eQ s => f _ _ (x ρ' H' eQ s)⟩
 | ex cQ y h' => exact x
 | bad => exact x
theorem wT.toE {ρ : List Addr} {H : Hp} {σQ : St} {r : RE} {Q : Bool → Hp → Prop} (x : wT G W ρ H σQ r Q) : wE G W ρ H σQ r fun v H' => ∃ k, TruV G.K v H' k ∧ Q k H' := by
 cases r with
 | ok d h' => obtain ⟨b, q, x⟩ := x; exact fun ρ' H' v eQ s r => ⟨b, jDC s r q, x ρ' H' eQ s⟩
 | ex cQ y h' => exact x
 | bad => exact x

theorem jBM (hK : G.K = X.K) (ha : SE X G W Φ a ca) (he : ∀ jDs, isTrue a X.env jDs = (do let v ← jDs; standAt a.pos; holding [v] (truthy v)) := by intro _; rfl) : ST X G W Φ a ca :=
 (pt_truth ha he).weak fun σQ H Q ⟨ρ, σd, h, en, S, x⟩ => ⟨ρ, σd, h, en, S, by rw [← hK]; exact x.toE⟩
def BV (f : EH → D → D → VR) : Prop := ∀ h x y, f h x y = .bad ∨ ∃ k, f h x y = .val (.p (.bl k))
theorem jBX {op : CmpOp} {f : EH → D → D → VR} (hoQ : OpR X (compareOp op) (rO2 G f)) (hf : BV f) (ha : SE X G W Φ a ca) (hb : SE X G W Φ b cb) (hm : behindInMarks op b = false) : ST X G W Φ (.Compare a [op] [b] pos) (cOp2 f ca cb) :=
 (pt_cmpR hoQ ha hb hm).weak fun σQ H Q ⟨ρ, σd, h, en, S, x⟩ => to_o2 (f := f) ⟨ρ, σd, h, en, S, by
  show wE G W ρ H σQ (bE (ca Φ σd h) fun x h => bE (cb Φ σd h) fun y h => (f h x y).re h) _
  have x : wT G W ρ H σQ (bE (ca Φ σd h) fun x h => bE (cb Φ σd h) fun y h => (f h x y).re h) Q := x
  cases h1 : ca Φ σd h with
  | ex cQ y h' => rw [h1] at x; exact x
  | bad => rw [h1] at x; exact x
  | ok d h' =>
   rw [h1] at x
   have x : wT G W ρ H σQ (bE (cb Φ σd h') fun y h => (f h d y).re h) Q := x
   show wE G W ρ H σQ (bE (cb Φ σd h') fun y h => (f h d y).re h) _
   cases h2 : cb Φ σd h' with
   | ex cQ y h' => rw [h2] at x; exact x
   | bad => rw [h2] at x; exact x
   | ok eQ h2' =>
    rw [h2] at x
    have x : wT G W ρ H σQ ((f h2' d eQ).re h2') Q := x
    show wE G W ρ H σQ ((f h2' d eQ).re h2') _
    rcases hf h2' d eQ with zQ | ⟨k, zQ⟩
    ·rw [zQ] at x; exact x.elim
    ·rw [zQ] at x ⊢
     obtain ⟨q, eQ, x⟩ := x
     cases (show some k = some q from eQ)
     intro ρ' H' v E S' r
     cases r with
     | p r => cases r; exact ⟨k, rfl, x ρ' H' E S'⟩⟩
theorem sw_pt (h : SW X G W Φ a ca) : ST X G W Φ a ca := h.pt
theorem sw_and1 (ha : ST X G W Φ a ca) : SW X G W Φ (.BoolOp .And [a] pos) ca := pw_and1 ha
theorem jGF (ha : ST X G W Φ a ca) : SW X G W Φ (.BoolOp .Or [a] pos) ca := pw_or1 ha
theorem sw_and (ha : ST X G W Φ a ca) (hb : SW X G W Φ (.BoolOp .And (b :: rest) pos) cb) : SW X G W Φ (.BoolOp .And (a :: b :: rest) pos) (cAnd ca cb) :=
 (pw_and ha hb).weak fun σQ H Q ⟨ρ, σd, h, en, S, x⟩ => ⟨ρ, σd, h, en, S, (wT.test (f := fun _ h => cb Φ σd h) (g := fun d h => .ok d h) x).imp fun k H1 ⟨ρ1, d, h1, E1, S1, q, x1⟩ => by
  cases k with
  | true => rw [if_pos rfl] at x1 ⊢; exact ⟨ρ1, σd, h1, en.mono E1, S1, x1⟩
  | false =>
   rw [if_neg Bool.false_ne_true] at x1 ⊢
   obtain ⟨b, q', x1⟩ := x1
   rw [q] at q'; cases q'
   exact x1 ρ1 H1 (.refl S1) S1⟩
theorem sw_or (ha : ST X G W Φ a ca) (hb : SW X G W Φ (.BoolOp .Or (b :: rest) pos) cb) : SW X G W Φ (.BoolOp .Or (a :: b :: rest) pos) (cOr ca cb) :=
 (pw_or ha hb).weak fun σQ H Q ⟨ρ, σd, h, en, S, x⟩ => ⟨ρ, σd, h, en, S, (wT.test (f := fun d h => .ok d h) (g := fun _ h => cb Φ σd h) x).imp fun k H1 ⟨ρ1, d, h1, E1, S1, q, x1⟩ => by
  cases k with
  | false => rw [if_neg Bool.false_ne_true] at x1 ⊢; exact ⟨ρ1, σd, h1, en.mono E1, S1, x1⟩
  | true =>
   rw [if_pos rfl] at x1 ⊢
   obtain ⟨b, q', x1⟩ := x1
   rw [q] at q'; cases q'
   exact x1 ρ1 H1 (.refl S1) S1⟩
theorem jGH (ha : ST X G W Φ a ca) : ST X G W Φ (.UnaryOp .Not a pos) (cNot ca) :=
 (pt_not ha).weak fun σQ H Q ⟨ρ, σd, h, en, S, x⟩ => ⟨ρ, σd, h, en, S, (wT.test (f := fun _ h => .ok (.p (.bl false)) h) (g := fun _ h => .ok (.p (.bl true)) h) x).imp fun k H1 ⟨ρ1, d, h1, E1, S1, q, x1⟩ => by
  cases k with
  | true => rw [if_pos rfl] at x1; obtain ⟨b, q', x1⟩ := x1; cases (show some false = some b from q'); exact x1 ρ1 H1 (.refl S1) S1
  | false => rw [if_neg Bool.false_ne_true] at x1; obtain ⟨b, q', x1⟩ := x1; cases (show some true = some b from q'); exact x1 ρ1 H1 (.refl S1) S1⟩

theorem se_if (hc : ST X G W Φ cQ cc) (ha : SE X G W Φ a ca) (hb : SE X G W Φ b cb) : SE X G W Φ (.IfExp cQ a b pos) (cIf cc ca cb) :=
 (pe_ifExp hc ha hb).weak fun σQ H Q ⟨ρ, σd, h, en, S, x⟩ => ⟨ρ, σd, h, en, S, (wE.test (f := fun _ h => ca Φ σd h) (g := fun _ h => cb Φ σd h) x).imp fun k H1 ⟨ρ1, d, h1, E1, S1, x1⟩ => by
  cases k with
  | true => rw [if_pos rfl] at x1 ⊢; exact ⟨ρ1, σd, h1, en.mono E1, S1, x1⟩
  | false => rw [if_neg Bool.false_ne_true] at x1 ⊢; exact ⟨ρ1, σd, h1, en.mono E1, S1, x1⟩⟩
theorem jEu {op : BoolOp} (h : SE X G W Φ a ca) : SE X G W Φ (.BoolOp op [a] pos) ca := pe_one h
theorem jDI (hK : G.K = X.K) (ha : SE X G W Φ a ca) (hb : SE X G W Φ (.BoolOp .And (b :: rest) pos) cb) : SE X G W Φ (.BoolOp .And (a :: b :: rest) pos) (cAnd ca cb) :=
 (pe_andT ha hb).weak fun σQ H Q ⟨ρ, σd, h, en, S, x⟩ => ⟨ρ, σd, h, en, S, (wE.bind x).imp fun v H1 ⟨ρ1, d, h1, E1, S1, r, x1⟩ => by
  rw [← hK]
  rcases jBL h1 d (cb Φ σd h1) (RE.ok d h1) RE.bad with ⟨q, eQ⟩ | ⟨q, eQ⟩ | ⟨q, eQ⟩
  ·rw [eQ] at x1; exact ⟨true, jDC S1 r q, by rw [if_pos rfl]; exact ⟨ρ1, σd, h1, en.mono E1, S1, x1⟩⟩
  ·rw [eQ] at x1; exact ⟨false, jDC S1 r q, by rw [if_neg Bool.false_ne_true]; exact wE.val S1 x1 r⟩
  ·rw [eQ] at x1; exact x1.elim⟩
theorem se_or (hK : G.K = X.K) (ha : SE X G W Φ a ca) (hb : SE X G W Φ (.BoolOp .Or (b :: rest) pos) cb) : SE X G W Φ (.BoolOp .Or (a :: b :: rest) pos) (cOr ca cb) :=
 (pe_orT ha hb).weak fun σQ H Q ⟨ρ, σd, h, en, S, x⟩ => ⟨ρ, σd, h, en, S, (wE.bind x).imp fun v H1 ⟨ρ1, d, h1, E1, S1, r, x1⟩ => by
  rw [← hK]
  rcases jBL h1 d (RE.ok d h1) (cb Φ σd h1) RE.bad with ⟨q, eQ⟩ | ⟨q, eQ⟩ | ⟨q, eQ⟩
  ·rw [eQ] at x1; exact ⟨true, jDC S1 r q, by rw [if_pos rfl]; exact wE.val S1 x1 r⟩
  ·rw [eQ] at x1; exact ⟨false, jDC S1 r q, by rw [if_neg Bool.false_ne_true]; exact ⟨ρ1, σd, h1, en.mono E1, S1, x1⟩⟩
  ·rw [eQ] at x1; exact x1.elim⟩
theorem se_not (hK : G.K = X.K) (ha : SE X G W Φ a ca) : SE X G W Φ (.UnaryOp .Not a pos) (cNot ca) :=
 (pe_notT ha).weak fun σQ H Q ⟨ρ, σd, h, en, S, x⟩ => ⟨ρ, σd, h, en, S, (wE.bind x).imp fun v H1 ⟨ρ1, d, h1, E1, S1, r, x1⟩ => by
  rw [← hK]
  rcases jBL h1 d (RE.ok (.p (.bl false)) h1) (RE.ok (.p (.bl true)) h1) RE.bad with ⟨q, eQ⟩ | ⟨q, eQ⟩ | ⟨q, eQ⟩
  ·rw [eQ] at x1; exact ⟨true, jDC S1 r q, wE.val S1 x1 (.p (.bl false))⟩
  ·rw [eQ] at x1; exact ⟨false, jDC S1 r q, wE.val S1 x1 (.p (.bl true))⟩
  ·rw [eQ] at x1; exact x1.elim⟩
theorem jGC {f g : EH → D → D → VR} {σQ : St} {H : Hp} {Q : VK} : rdE G W (jDZ f g ca cb cc Φ) σQ H Q → tChain (rO2 G f) (rO2 G g) (rdE G W (ca Φ)) (rdE G W (cb Φ)) (rdE G W (cc Φ)) σQ H Q := fun ⟨ρ, σd, h, en, S, x⟩ =>
 ⟨ρ, σd, h, en, S, (wE.bind x).imp fun v H1 ⟨ρ1, d, h1, E1, S1, r1, x1⟩ => ⟨ρ1, σd, h1, en.mono E1, S1, (wE.bind x1).imp fun u H2 ⟨ρ2, eQ, h2, E2, S2, r2, x2⟩ => by
  refine ⟨ρ2, d, eQ, h2, S2, r1.mono E2, r2, ?_⟩
  cases q : f h2 d eQ with
  | bad => rw [q] at x2; exact x2.elim
  | new o =>
   rw [q, jCT] at x2
   exact x2.elim
  | val t =>
   rw [q] at x2
   have x2 : wE G W ρ2 H2 σQ (pOf t (fun p => P.cs p .bad (fun q => Bool.rec (motive := fun _ => RE) (.ok (.p (.bl false)) h2) (bE (cc Φ σd h2) fun w h => (g h eQ w).re h) q) (fun _ => .bad) (fun _ => .bad) (fun _ _ => .bad) (fun _ => .bad)) .bad) Q := x2
   intro ρ3 H3 zQ E3 S3 r3
   cases r3 with
   | ref => exact x2.elim
   | mt => exact x2.elim
   | p r3 =>
    cases r3 with
    | bl k =>
     refine ⟨k, rfl, ?_⟩
     cases k with
     | false =>
      rw
        [if_neg Bool.false_ne_true]
      exact wE.val S3 (wE.mono x2 E3) (.p (.bl false))
     | true =>
      rw [if_pos rfl]
      have x3 : wE G W ρ3 H3 σQ (bE (cc Φ σd h2) fun w h => (g h eQ w).re h) Q := wE.mono x2 E3
      exact ⟨ρ3, σd, h2, ((en.mono E1).mono E2).mono E3, S3, (wE.bind x3).imp fun w H4 ⟨ρ4, y, h4, E4, S4, r4, x4⟩ => ⟨ρ4, eQ, y, h4, S4, (r2.mono E3).mono E4, r4, wE.toV x4⟩⟩
    | _ => exact x2.elim⟩⟩
theorem se_chain {op op' : CmpOp} {f g : EH → D → D → VR} (hoQ : OpR X (compareOp op) (rO2 G f)) (ho' : OpR X (compareOp op') (rO2 G g)) (ha : SE X G W Φ a ca) (hb : SE X G W Φ b cb) (hc : SE X G W Φ cQ cc)
  (hm : lastMarks [op, op'] [b, cQ] = false := by with_unfolding_all rfl) : SE X G W Φ (.Compare a [op, op'] [b, cQ] pos) (jDZ f g ca cb cc) :=
 (pe_chain hoQ ho' ha hb hc hm).weak fun σQ H Q => jGC
def RB (r : RE) : Prop := ∀ d h, r = .ok d h → ∃ k, d = .p (.bl k)
theorem RB.bind {r : RE} {f : D → EH → RE} (h : ∀ d h, RB (f d h)) : RB (bE r f) := by
 cases r with
 | ok d h' => exact h d h'
 | ex cQ y h' => intro d h eQ; cases (show RE.ex cQ y h' = .ok d h from eQ)
 | bad => intro d h eQ; cases (show RE.bad = .ok d h from eQ)
theorem RB.bad : RB .bad := fun d h eQ => nomatch eQ
theorem RB.ok {k : Bool} {h : EH} : RB (.ok (.p (.bl k)) h) := fun d h eQ => by injection eQ with eQ _; exact ⟨k, eQ.symm⟩
theorem RB.re {f : EH → D → D → VR} (hf : BV f) (h : EH) (x y : D) (h' : EH) : RB ((f h x y).re h') := by
 rcases hf h x y with zQ | ⟨k, zQ⟩
 ·rw [zQ]; exact .bad
 ·rw [zQ]; exact .ok
theorem wT.toB {ρ : List Addr} {H : Hp} {σQ : St} {r : RE} {Q : Bool → Hp → Prop} (hr : RB r) (x : wT G W ρ H σQ r Q) : wE G W ρ H σQ r fun v H' => ∃ k, v = .bl k ∧ Q k H' := by
 cases r with
 | ok d h' =>
  obtain ⟨k, rfl⟩ := hr d h' rfl
  obtain ⟨b, q, x⟩ := x
  cases (show some k = some b from q)
  intro ρ' H' v eQ s r
  cases r with
  | p r => cases r; exact ⟨k, rfl, x ρ' H' eQ s⟩
 | ex cQ y h' => exact x
 | bad => exact x
theorem rb_cmp2 {f g : EH → D → D → VR} (hf : BV f) (hg : BV g) (σd : Env) (h : EH) : RB (jDZ f g ca cb cc Φ σd h) :=
 .bind fun x h1 => .bind fun y h2 => .bind fun zQ h3 => by
  cases zQ with
  | ref => exact .bad
  | mt => exact .bad
  | p zQ => cases zQ with
   | bl k => cases k with
    | false => exact .ok
    | true => exact .bind fun w h4 => .re hg _ _ _ _
   | _ => exact .bad
theorem st_chain {op op' : CmpOp} {f g : EH → D → D → VR} (hoQ : OpR X (compareOp op) (rO2 G f)) (ho' : OpR X (compareOp op') (rO2 G g)) (hf : BV f) (hg : BV g) (ha : SE X G W Φ a ca) (hb : SE X G W Φ b cb) (hc : SE X G W Φ cQ cc)
  (hm : lastMarks [op, op'] [b, cQ] = false := by with_unfolding_all rfl) : ST X G W Φ (.Compare a [op, op'] [b, cQ] pos) (jDZ f g ca cb cc) :=
 (pt_chain hoQ ho' ha hb hc hm).weak fun σQ H Q ⟨ρ, σd, h, en, S, x⟩ => jGC (f := f) (g := g) ⟨ρ, σd, h, en, S, x.toB (rb_cmp2 hf hg σd h)⟩
theorem eqW_bv (k : Bool → VR) (hk : ∀ b, ∃ q, k b = .val (.p (.bl q))) (h : EH) (x y : D) : eqW h x y k .bad = .bad ∨ ∃ q, eqW h x y k .bad = .val (.p (.bl q)) := by
 have slow : (Option.rec (motive := fun _ => VR) .bad (fun a => Option.rec (motive := fun _ => VR) .bad (fun b => fB (eqQ 60 a b) k) (dQ h 50 y)) (dQ h 50 x)) = .bad ∨
   ∃ q, (Option.rec (motive := fun _ => VR) .bad (fun a => Option.rec (motive := fun _ => VR) .bad (fun b => fB (eqQ 60 a b) k) (dQ h 50 y)) (dQ h 50 x)) = .val (.p (.bl q)) := by
  cases dQ h 50 x with
  | none => exact .inl rfl
  | some a => cases dQ h 50 y with
   | none => exact .inl rfl
   | some b => exact .inr (by show ∃ q, fB (eqQ 60 a b) k = _; rw [jAR]; exact hk _)
 cases x with
 | p a => cases y with
  | p b =>
   show Bool.rec (motive := fun _ => VR) (fB (eqP 60 a b) k) .bad (Bool.or (isFn a) (isFn b)) = .bad ∨ ∃ q, Bool.rec (motive := fun _ => VR) (fB (eqP 60 a b) k) .bad (Bool.or (isFn a) (isFn b)) = _
   cases Bool.or (isFn a) (isFn b) with
   | true => exact .inl rfl
   | false => exact .inr (by show ∃ q, fB (eqP 60 a b) k = _; rw [jAR]; exact hk _)
  | ref => exact slow
  | mt => exact slow
 | ref => exact slow
 | mt => exact slow
theorem bv_eq : BV oEq := eqW_bv _ fun b => ⟨b, rfl⟩
theorem bv_ne : BV oNe := eqW_bv _ fun b => ⟨_, rfl⟩
theorem bv_ord {fi : Int → Int → Bool} {fs : List Nat → List Nat → Bool} : BV fun _ x y => ordW fi fs x y := fun h x y => by
 cases x with
 | p a => cases a with
  | int i => cases y with
   | p b => cases b with
    | int j => exact .inr (by show ∃ k, fB (fi i j) (fun r => vP (.bl r)) = _; rw [jAR]; exact ⟨_, rfl⟩)
    | _ => exact .inl rfl
   | _ => exact .inl rfl
  | str i => cases y with
   | p b => cases b with
    | str j => exact .inr (by show ∃ k, fB (fs i j) (fun r => vP (.bl r)) = _; rw [jAR]; exact ⟨_, rfl⟩)
    | _ => exact .inl rfl
   | _ => exact .inl rfl
  | _ => exact .inl rfl
 | _ => exact .inl rfl
theorem bv_lt : BV oLt := bv_ord
theorem bv_le : BV oLe := bv_ord
theorem bv_gt : BV oGt := bv_ord
theorem bv_is : BV oIs := fun h x y => by
 unfold oIs
 rw [jAR]
 cases isNon y with
 | true => exact .inr ⟨_, rfl⟩
 | false => exact .inl rfl
end
end Mi

namespace Mi
open PySem PySem.Spec L2
open PyProof.Rows hiding St
theorem jHt {α : Type} (l : List α) (i : Int) : atD l i = L2.atI l i := by
 unfold L2.atI L2.ixN
 cases i with
 | ofNat k =>
  show nth l k = _
  rw [jBp, if_pos (by exact Int.natCast_nonneg k)]
  by_cases hk : k < l.length
  ·rw [if_pos (by rw [Int.ofNat_eq_natCast]; omega)]
   rfl
  ·rw [if_neg (by rw [Int.ofNat_eq_natCast]; omega), List.getElem?_eq_none (by omega)]
   rfl
 | negSucc k =>
  show fN (lenL l) (fun n => Bool.rec (motive := fun _ => Option α) none (nth l (Nat.sub n (Nat.succ k))) (Nat.ble (Nat.succ k) n)) = _
  rw [jA7, jAx, if_neg (by rw [Int.negSucc_eq]; omega), jBp]
  cases q : Nat.ble (Nat.succ k) l.length with
  | true =>
   have := Nat.le_of_ble_eq_true q
   rw [if_pos (by rw [Int.negSucc_eq]; omega)]
   show l[l.length - (k + 1)]? = l[(Int.negSucc k + (l.length : Int)).toNat]?
   rw [show (Int.negSucc k + (l.length : Int)).toNat = l.length - (k + 1) by rw [Int.negSucc_eq]; omega]
  | false =>
   have : ¬ Nat.succ k ≤ l.length := Nat.not_le_of_not_ble_eq_true (by rw [q]; decide)
   rw [if_neg (by rw [Int.negSucc_eq]; omega)]
   rfl
theorem ixD_eq {α : Type} (l : List α) (i : Int) : ixD l i = L2.ixN l.length i := by
 unfold L2.ixN ixD
 rw [jA7, jAx]
 cases i with
 | ofNat k =>
  show Bool.rec (motive := fun _ => Option Nat) none (some k) (Nat.blt k l.length) = _
  rw [if_pos (by exact Int.natCast_nonneg k)]
  cases q : Nat.blt k l.length with
  | true =>
   have : k + 1 ≤ l.length := Nat.le_of_ble_eq_true q
   rw [if_pos (by rw [Int.ofNat_eq_natCast]; omega)]
   rfl
  | false =>
   have : ¬ k + 1 ≤ l.length := Nat.not_le_of_not_ble_eq_true (by rw [show Nat.ble (k + 1) l.length = false from q]; decide)
   rw [if_neg (by rw [Int.ofNat_eq_natCast]; omega)]
 | negSucc k =>
  show Bool.rec (motive := fun _ => Option Nat) none (some (Nat.sub l.length (Nat.succ k))) (Nat.ble (Nat.succ k) l.length) = _
  rw [if_neg (by rw [Int.negSucc_eq]; omega)]
  cases q : Nat.ble (Nat.succ k) l.length with
  | true =>
   have := Nat.le_of_ble_eq_true q
   rw [if_pos (by rw [Int.negSucc_eq]; omega)]
   show some (l.length - (k + 1)) = _
   rw [show (Int.negSucc k + (l.length : Int)).toNat = l.length - (k + 1) by rw [Int.negSucc_eq]; omega]
  | false =>
   have : ¬ Nat.succ k ≤ l.length := Nat.not_le_of_not_ble_eq_true (by rw [q]; decide)
   rw [if_neg (by rw [Int.negSucc_eq]; omega)]
theorem jHS (n d : Nat) (o : Option Int) : sIxD n d o = HT.sIx n d o := by
 cases o with
 | none => rfl
 | some i => cases i with
  | ofNat k =>
   show Bool.rec (motive := fun _ => Nat) n k (Nat.ble k n) = _
   rw [Int.ofNat_eq_natCast, HT.sIx_nat]
   cases q : Nat.ble k n with
   | true => have := Nat.le_of_ble_eq_true q; show k = _; omega
   | false => have : ¬ k ≤ n := Nat.not_le_of_not_ble_eq_true (by rw [q]; decide); show n = _; omega
  | negSucc k =>
   show n - (k + 1) = (if Int.negSucc k < 0 then (Int.negSucc k + (n : Int)).toNat else min (Int.negSucc k).toNat n)
   rw [if_pos (by rw [Int.negSucc_eq]; omega), Int.negSucc_eq]
   omega
theorem cutD_eq {α : Type} (l : List α) (lo hi : Option Int) : cutD l lo hi = (l.drop (HT.sIx l.length 0 lo)).take (HT.sIx l.length l.length hi - HT.sIx l.length 0 lo) := by
 unfold cutD
 rw [jA7, jA7, jA7, jAx, jHS, jHS, jDz, jD3]
 rfl
section
variable {G : Gi} {ρ : List Addr} {H : Hp}
theorem DRs.get {l : List D} {vs : List V} (r : DRs G ρ H l vs) : ∀ {i : Nat} {x : D}, l[i]? = some x → ∃ v, vs[i]? = some v ∧ DR G ρ H x v := by
 intro i
 induction i generalizing l vs with
 | zero =>
  intro x eQ
  cases r with
  | nil => cases eQ
  | cons a b => simp at eQ; subst eQ; exact ⟨_, rfl, a⟩
 | succ i ih =>
  intro x eQ
  cases r with
  | nil => cases eQ
  | cons a b => exact ih b (by simpa using eQ)
theorem PRs.get {l : List P} {vs : List V} (r : PRs G H l vs) : ∀ {i : Nat} {x : P}, l[i]? = some x → ∃ v, vs[i]? = some v ∧ PR G H x v := by
 intro i
 induction i generalizing l vs with
 | zero =>
  intro x eQ
  cases r with
  | nil => cases eQ
  | cons a b => simp at eQ; subst eQ; exact ⟨_, rfl, a⟩
 | succ i ih =>
  intro x eQ
  cases r with
  | nil => cases eQ
  | cons a b => exact ih b (by simpa using eQ)
theorem DRs.at {l : List D} {vs : List V} (r : DRs G ρ H l vs) {i : Int} {x : D} (eQ : L2.atI l i = some x) : ∃ v, L2.atI vs i = some v ∧ DR G ρ H x v := by
 unfold L2.atI at eQ ⊢
 rw [← r.length]
 cases q : L2.ixN l.length i with
 | none => rw [q] at eQ; cases eQ
 | some j => rw [q] at eQ; exact r.get eQ
theorem PRs.at {l : List P} {vs : List V} (r : PRs G H l vs) {i : Int} {x : P} (eQ : L2.atI l i = some x) : ∃ v, L2.atI vs i = some v ∧ PR G H x v := by
 unfold L2.atI at eQ ⊢
 rw [← r.length]
 cases q : L2.ixN l.length i with
 | none => rw [q] at eQ; cases eQ
 | some j => rw [q] at eQ; exact r.get eQ
theorem DRs.drop : ∀ {l : List D} {vs : List V} (n : Nat), DRs G ρ H l vs → DRs G ρ H (l.drop n) (vs.drop n)
 | _, _, 0, r => r
 | _, _, _ + 1, .nil => .nil
 | _, _, n + 1, .cons _ b => DRs.drop n b
theorem DRs.take : ∀ {l : List D} {vs : List V} (n : Nat), DRs G ρ H l vs → DRs G ρ H (l.take n) (vs.take n)
 | _, _, 0, _ => .nil
 | _, _, _ + 1, .nil => .nil
 | _, _, n + 1, .cons a b => .cons a (DRs.take n b)
end
section
variable {X : Cx} {G : Gi} {W : WX} {Φ : Ph} {pos p2 : Pos} {a b cQ : Expr} {ca cb cc : CE}
theorem jHi {r r' : R2} (h : IxR X r) (w : ∀ x y H Q, r' x y H Q → r x y H Q) : IxR X r' := fun value slice pins s σQ H x y v u Q I rx ry q hs => h value slice pins s σQ H x y v u Q I rx ry (w _ _ _ _ q) hs
theorem ixr_all (hK : G.K = X.K) : IxR X (rO2 G oIx) := jHi (ix_list.or (ix_tup.or ix_str)) fun x y H Q ⟨ρ, d, eQ, h, S, rx, ry, w⟩ => by
 cases rx with
 | p r =>
  cases r with
  | str s zQ cQ =>
   have w : wV G ρ H (jAI eQ (fun i => oV (atD s i) fun cQ => vP (.str [cQ])) .bad) h Q := w
   rcases jAp ry with q | ⟨i, rfl, rfl⟩
   ·rw [q] at w; exact w.elim
   ·have w : wV G ρ H (oV (atD s i) fun cQ => vP (.str [cQ])) h Q := w
    rw [jHt] at w
    cases q : L2.atI s i with
    | none => rw [q] at w; exact w.elim
    | some t =>
     rw [q] at w
     have ht : t ∈ s := by
      unfold L2.atI at q
      cases q' : L2.ixN s.length i with
      | none => rw [q'] at q; cases q
      | some j => rw [q'] at q; exact List.mem_of_getElem? q
     refine .inr (.inr ⟨sV s, i, t, rfl, rfl, by rw [jDN]; exact zQ, by rw [jCM]; exact q, ?_⟩)
     refine wV.val S w (.p (.str [t] ?_ fun x hxQ => ?_))
     ·show 1 ≤ sizeLine; decide
     ·rw [List.mem_singleton.mp hxQ]; exact cQ t ht
  | @tup dd l a vs sq rl hd hzQ hc =>
   have w : wV G ρ H (jAI eQ (fun i => oV (atD l i) vP) .bad) h Q := w
   rcases jAp ry with q | ⟨i, rfl, rfl⟩
   ·rw [q] at w; exact w.elim
   ·have w : wV G ρ H (oV (atD l i) vP) h Q := w
    rw [jHt] at w
    cases q : L2.atI l i with
    | none => rw [q] at w; exact w.elim
    | some t =>
     rw [q] at w
     obtain ⟨v, q', r⟩ := rl.at q
     exact .inr (.inl ⟨a, vs, i, v, rfl, rfl, by rw [← hK]; exact sq, q', wV.val S w (.p r)⟩)
  | _ => exact w.elim
 | @mt l a vs sq rl =>
  have w : wV G ρ H (jAI eQ (fun i => oV (atD l i) .val) .bad) h Q := w
  rcases jAp ry with q | ⟨i, rfl, rfl⟩
  ·rw [q] at w; exact w.elim
  ·have w : wV G ρ H (oV (atD l i) .val) h Q := w
   rw [jHt] at w
   cases q : L2.atI l i with
   | none => rw [q] at w; exact w.elim
   | some t =>
    rw [q] at w
    obtain ⟨v, q', r⟩ := rl.at q
    exact .inr (.inl ⟨a, vs, i, v, rfl, rfl, by rw [← hK]; exact sq, q', wV.val S w r⟩)
 | @ref k a e1 =>
  have w : wV G ρ H (jAw h k (fun l => jAI eQ (fun i => oV (atD l i) .val) .bad) .bad) h Q := w
  rcases jAu S e1 with zQ | ⟨l, vs, hl, rl, _, zQ⟩
  ·rw [zQ] at w; exact w.elim
  ·rw [zQ] at w
   rcases jAp ry with q | ⟨i, rfl, rfl⟩
   ·rw [q] at w; exact w.elim
   ·have w : wV G ρ H (oV (atD l i) .val) h Q := w
    rw [jHt] at w
    cases q : L2.atI l i with
    | none => rw [q] at w; exact w.elim
    | some t =>
     rw [q] at w
     obtain ⟨v, q', r⟩ := rl.at q
     exact .inl ⟨a, vs, i, v, rfl, rfl, .of hl, q', wV.val S w r⟩
def rdO (G : Gi) (W : WX) (cQ : Env → EH → (Option Int → EH → RE) → RE) : TO := fun σQ H Q => ∃ ρ σd h k Q', EnvR G ρ H σd σQ ∧ Sim G ρ h H ∧ wE G W ρ H σQ (cQ σd h k) Q' ∧ ∀ o ρ1 h1 H1, Ext G ρ ρ1 H H1 → Sim G ρ1 h1 H1 → wE G W ρ1 H1 σQ (k o h1) Q' → Q o H1
abbrev SO (X : Cx) (G : Gi) (W : WX) (Φ : Ph) (eQ : Option Expr) (cQ : CO) : Prop := PO X eQ (rdO G W (cQ Φ))
theorem _root_.L2.PO.weak {eQ : Option Expr} {t t' : TO} (h : PO X eQ t) (w : ∀ σQ H Q, t' σQ H Q → t σQ H Q) : PO X eQ t' := ⟨fun pins s σQ H Q I q => h.run pins s σQ H Q I (w σQ H Q q)⟩
theorem so_none : SO X G W Φ none coN := po_none.weak fun σQ H Q ⟨ρ, σd, h, k, Q', en, S, x, f⟩ => f none ρ h H (.refl S) S x
theorem jGd (ha : SE X G W Φ a ca) : SO X G W Φ (some a) (coS ca) := (po_some ha).weak fun σQ H Q ⟨ρ, σd, h, k, Q', en, S, x, f⟩ => ⟨ρ, σd, h, en, S, (wE.bind x).imp fun v H1 ⟨ρ1, d, h1, E1, S1, r, x1⟩ => by
 rcases jAp r with q | ⟨i, rfl, rfl⟩
 ·rw [q] at x1; exact x1.elim
 ·exact ⟨i, rfl, f (some i) ρ1 h1 H1 E1 S1 x1⟩⟩
def rO3 (G : Gi) (f : EH → D → Option Int → Option Int → VR) : V → Option Int → Option Int → Hp → VK → Prop := fun x lo hi H Q => ∃ ρ d h, Sim G ρ h H ∧ DR G ρ H d x ∧ wV G ρ H (f h d lo hi) h Q
theorem slr_weak {r r' : V → Option Int → Option Int → Hp → VK → Prop} (h : SlR X r) (w : ∀ x l u H Q, r' x l u H Q → r x l u H Q) : SlR X r' := fun pins s σQ H x v vl vu lo hi sl Q I rx hs a b q => h pins s σQ H x v vl vu lo hi sl Q I rx hs a b (w _ _ _ _ _ q)
end
end Mi

namespace Mi
open PySem PySem.Spec L2
open PyProof.Rows hiding St
section
variable {X : Cx} {G : Gi} {W : WX} {Φ : Ph} {pos p2 : Pos} {a b cQ eQ : Expr} {es : List Expr} {ca cb cc : CE} {stQ : Stmt} {sts stb : List Stmt} {s t : CS}
theorem jDy (σQ : St) {i : Nat} (x : Option V) : ∀ {vs : List Nat}, i ∈ vs → wipe (σQ.set i x) vs = wipe σQ vs
 | v :: vs, h => by
  unfold wipe
  rcases List.mem_cons.mp h with zQ | zQ
  ·subst zQ
   by_cases m : i ∈ vs
   ·rw [jDy σQ x m]
   ·have eQ : ∀ (ws : List Nat), i ∉ ws → wipe (σQ.set i x) ws = (wipe σQ ws).set i x := by
     intro ws
     induction ws with
     | nil => intro _; rfl
     | cons w ws ih =>
      intro hw
      have h1 : w ≠ i := fun zQ => hw (by rw [zQ]; exact List.mem_cons_self)
      have h2 : i ∉ ws := fun zQ => hw (List.mem_cons_of_mem _ zQ)
      show (wipe (σQ.set i x) ws).set w none = ((wipe σQ ws).set w none).set i x
      rw [ih h2, List.set_comm _ _ (Ne.symm h1)]
    rw [eQ vs m, List.set_set]
  ·rw [jDy σQ x zQ]
def wG (G : Gi) (vs : List Nat) (σ₀ : St) (ρ : List Addr) (H : Hp) (r : Option Env) (Q : St → Hp → Prop) : Prop :=
 match r with
 | some σd => ∀ σQ, EnvR G ρ H σd σQ → wipe σQ vs = wipe σ₀ vs → Q σQ H
 | none => False
def rdG (G : Gi) (vs : List Nat) (t : CT) : TG := fun v σQ H Q => ∃ ρ d σd h, DR G ρ H d v ∧ EnvR G ρ H σd σQ ∧ Sim G ρ h H ∧ wG G vs σQ ρ H (t d σd) Q
def rdGs (G : Gi) (vs : List Nat) (t : CTs) : TGs := fun us σQ H Q => ∃ ρ dsQ σd h, DRs G ρ H dsQ us ∧ EnvR G ρ H σd σQ ∧ Sim G ρ h H ∧ wG G vs σQ ρ H (t dsQ σd) Q
abbrev SG (X : Cx) (G : Gi) (vs : List Nat) (eQ : Expr) (t : CT) : Prop := PG X eQ (rdG G vs t)
abbrev SGs (X : Cx) (G : Gi) (vs : List Nat) (eQ : List Expr) (t : CTs) : Prop := PGs X eQ (rdGs G vs t)
theorem _root_.L2.PG.weak {eQ : Expr} {t t' : TG} (h : PG X eQ t) (w : ∀ v σQ H Q, t' v σQ H Q → t v σQ H Q) : PG X eQ t' := ⟨fun pins s σQ H v u Q I r q => h.run pins s σQ H v u Q I r (w v σQ H Q q)⟩
theorem _root_.L2.PGs.weak {eQ : List Expr} {t t' : TGs} (h : PGs X eQ t) (w : ∀ v σQ H Q, t' v σQ H Q → t v σQ H Q) : PGs X eQ t' := ⟨fun pins s σQ H v u Q I r q => h.run pins s σQ H v u Q I r (w v σQ H Q q)⟩
variable {vs : List Nat}
theorem sg_name {i : Nat} {x : Str} (hm : i ∈ vs) (hN : X.N.Nodup) (hi : X.N[i]? = some x) (hxQ : Loc X.env.scope x) (hf : X.fn x = true ∨ X.env.scope.names.lookup x = some .local := by first | exact .inl rfl | exact .inr rfl | assumption) : SG X G vs (.Name x pos) (jAq i) :=
 (pg_name hN hi hxQ hf).weak fun v σQ H Q ⟨ρ, d, σd, h, r, en, S, w⟩ => by
  unfold jAq at w
  rw [jBs, jBC] at w
  exact w _ (en.set r) (jDy σQ _ hm)
theorem jBB : SGs X G vs [] tNil := pgs_nil.weak fun v σQ H Q ⟨ρ, d, σd, h, r, en, S, w⟩ => by
 cases r with
 | nil => exact ⟨rfl, w _ en rfl⟩
 | cons => exact w.elim
theorem jA5 {ta : CT} {tb : CTs} (ha : SG X G vs a ta) (hb : SGs X G vs es tb) (hs : (assignEach (a :: es) X.env).map (·.2) = assign a X.env :: (assignEach es X.env).map (·.2) := by rfl) : SGs X G vs (a :: es) (jAF ta tb) :=
 (pgs_cons ha hb hs).weak fun v σQ H Q ⟨ρ, d, σd, h, r, en, S, w⟩ => by
  cases r with
  | nil => exact w.elim
  | @cons x v l ws r1 r2 =>
   have w : wG G vs σQ ρ H (Option.rec (motive := fun _ => Option Env) none (fun σQ => tb l σQ) (ta x σd)) Q := w
   cases q : ta x σd with
   | none => rw [q] at w; exact w.elim
   | some σd' =>
    rw [q] at w
    refine ⟨v, ws, rfl, ρ, x, σd, h, r1, en, S, ?_⟩
    rw [q]
    intro σ' en' hw
    refine ⟨ρ, l, σd', h, r2, en', S, ?_⟩
    have w : wG G vs σQ ρ H (tb l σd') Q := w
    cases q2 : tb l σd' with
    | none => rw [q2] at w; exact w.elim
    | some σd2 => rw [q2] at w; exact fun σ2 en2 hw2 => w σ2 en2 (hw2.trans hw)
theorem jC1 {k n : Nat} {ts : CTs} (hK : G.K = X.K) (hc : X.calm = true) (h : SGs X G vs es ts) (hl : ∀ l σd, ts l σd ≠ none → l.length = n)
  (hn : (assignEach es X.env).length = n := by rfl) (hst : (assignEach es X.env).findIdx? (·.1) = none := by rfl) : SG X G vs (.Tuple es k pos) (tTup ts) :=
 (pg_tup (n := n) hc h hn hst).weak fun v σQ H Q ⟨ρ, d, σd, h, r, en, S, w⟩ => by
  unfold tTup at w
  rcases jEo r with zQ | ⟨l, a, us, rfl, sq, rl, zQ⟩
  ·rw [zQ] at w; exact w.elim
  ·rw [zQ] at w
   have hl' := hl l σd (fun q => by rw [q] at w; exact w)
   exact ⟨a, us, rfl, by rw [← hK]; exact sq, by rw [← rl.length]; exact hl', ρ, l, σd, h, rl, en, S, w⟩
theorem jBm : ∀ l σd, tNil l σd ≠ none → l.length = 0 := fun l σd h => by
 cases l with
 | nil => rfl
 | cons a l => exact absurd rfl h
theorem jAv {ta : CT} {tb : CTs} {n : Nat} (h : ∀ l σd, tb l σd ≠ none → l.length = n) : ∀ l σd, jAF ta tb l σd ≠ none → l.length = n + 1 := fun l σd q => by
 cases l with
 | nil => exact absurd rfl q
 | cons x l =>
  have q : Option.rec (motive := fun _ => Option Env) none (fun σQ => tb l σQ) (ta x σd) ≠ none := q
  cases q1 : ta x σd with
  | none => rw [q1] at q; exact absurd rfl q
  | some σd' =>
   rw [q1] at q
   rw [List.length_cons, h l σd' q]

theorem ss_setN {i : Nat} {x : Str} (hN : X.N.Nodup) (hi : X.N[i]? = some x) (hxQ : Loc X.env.scope x) (he : SE X G W Φ eQ ca) (hs : swapsWith eQ (some (.Name x p2)) pos.line X.env = pure false := by rfl) (hf : X.fn x = true ∨ X.env.scope.names.lookup x = some .local := by first | exact .inl rfl | exact .inr rfl | assumption) :
  SS X G W Φ (.Assign [.Name x p2] eQ pos) (jA1 i ca) :=
 (ps_set hN hi hxQ he hs hf).weak fun D σQ H ⟨ρ, σd, h, en, S, x⟩ => ⟨ρ, σd, h, en, S, (wE.bindS en x).imp fun v H1 ⟨ρ1, d, h1, E1, S1, r, x1⟩ => by
  rw [jBs, jBC] at x1
  exact x1 ρ1 H1 _ (.refl S1) S1 ((en.mono E1).set r)⟩
theorem ss_set {ta : CT} (he : SE X G W Φ eQ ca) (hg : SG X G vs a ta) (hs : swapsWithSole [a] eQ pos.line X.env = pure false := by rfl) (hw : swappedStores [a] eQ X.env = pure none := by rfl)
  (h1 : (assignEach [a] X.env).map (·.2) = [assign a X.env] := by rfl) : SS X G W Φ (.Assign [a] eQ pos) (sSet ta ca) :=
 (ps_asg he hg hs hw h1).weak fun D σQ H ⟨ρ, σd, h, en, S, x⟩ => ⟨ρ, σd, h, en, S, (wE.bindS en x).imp fun v H1 ⟨ρ1, d, h1, E1, S1, r, x1⟩ => by
  refine ⟨ρ1, d, σd, h1, r, en.mono E1, S1, ?_⟩
  cases q : ta d σd with
  | none => rw [q] at x1; exact x1.elim
  | some σd' => rw [q] at x1; exact fun σ' en' _ => x1 ρ1 H1 σ' (.refl S1) S1 en'⟩
theorem jDE (he : SE X G W Φ eQ ca) (hs : swapsWith eQ none pos.line X.env = pure false := by rfl) : SS X G W Φ (.Expr eQ pos) (sExpr ca) :=
 (ps_expr he hs).weak fun D σQ H ⟨ρ, σd, h, en, S, x⟩ => ⟨ρ, σd, h, en, S, (wE.bindS en x).imp fun v H1 ⟨ρ1, d, h1, E1, S1, r, x1⟩ => x1 ρ1 H1 σQ (.refl S1) S1 (en.mono E1)⟩
theorem jAO (he : SE X G W Φ eQ ca) : SS X G W Φ (.Return (some eQ) pos) (sRet ca) :=
 (ps_ret he).weak fun D σQ H ⟨ρ, σd, h, en, S, x⟩ => ⟨ρ, σd, h, en, S, (wE.bindS en x).imp fun v H1 ⟨ρ1, d, h1, E1, S1, r, x1⟩ => by
  rw [jBs] at x1
  exact x1 ρ1 H1 v (.refl S1) S1 r⟩
theorem ss_pass : SS X G W Φ (.Pass pos) sNop := ps_pass.weak fun D σQ H ⟨ρ, σd, h, en, S, x⟩ => x ρ H σQ (.refl S) S en
theorem jCc : SSs X G W Φ [] sNop := pss_nil.weak fun D σQ H ⟨ρ, σd, h, en, S, x⟩ => x ρ H σQ (.refl S) S en
theorem jAn (h : SS X G W Φ stQ s) : SSs X G W Φ [stQ] s := pss_one h
theorem jAh (h : SS X G W Φ stQ s) (hr : SSs X G W Φ sts t) : SSs X G W Φ (stQ :: sts) (sSeq s t) :=
 (pss_cons h hr).weak fun D σQ H ⟨ρ, σd, h, en, S, x⟩ => ⟨ρ, σd, h, en, S, by
  have x : wS G W ρ H (bSS (s Φ σd h) fun σQ h => t Φ σQ h) D := x
  cases q : s Φ σd h with
  | nx σd' h' => rw [q] at x; exact fun ρ' H' σ' E S' en' => ⟨ρ', σd', h', en', S', wS.mono x E⟩
  | rt v h' => rw [q] at x; exact x
  | bk σd' h' => rw [q] at x; exact x
  | ct σd' h' => rw [q] at x; exact x
  | ex cQ v σd' h' => rw [q] at x; exact x
  | bad => rw [q] at x; exact x⟩
theorem wS.test {ρ : List Addr} {H : Hp} {σQ : St} {σd : Env} {r : RE} {f g : D → EH → RS} {D : Ends} (en : EnvR G ρ H σd σQ) (x : wS G W ρ H (bES σd r fun d h => tE h d (f d h) (g d h) .bad) D) :
  wT G W ρ H σQ r fun k H1 => ∃ ρ1 d h1, Ext G ρ ρ1 H H1 ∧ Sim G ρ1 h1 H1 ∧ wS G W ρ1 H1 (if k = true then f d h1 else g d h1) D := by
 cases r with
 | ok d h' =>
  have x : wS G W ρ H (tE h' d (f d h') (g d h') .bad) D := x
  rcases jBL h' d (f d h') (g d h') RS.bad with ⟨q, eQ⟩ | ⟨q, eQ⟩ | ⟨q, eQ⟩
  ·rw [eQ] at x; exact ⟨true, q, fun ρ' H' E S => ⟨ρ', d, h', E, S, wS.mono x E⟩⟩
  ·rw [eQ] at x; exact ⟨false, q, fun ρ' H' E S => ⟨ρ', d, h', E, S, wS.mono x E⟩⟩
  ·rw [eQ] at x; exact x.elim
 | ex cQ y h' => exact fun ρ' H' cls dd eQ s r => x ρ' H' σQ cls dd eQ s (en.mono eQ) r
 | bad => exact x
theorem jEi (hc : ST X G W Φ cQ cc) (ha : SSs X G W Φ sts s) (hb : SSs X G W Φ stb t) : SS X G W Φ (.If cQ sts stb pos) (sIf cc s t) :=
 (ps_if hc ha hb).weak fun D σQ H ⟨ρ, σd, h, en, S, x⟩ => ⟨ρ, σd, h, en, S, (wS.test (f := fun _ h => s Φ σd h) (g := fun _ h => t Φ σd h) en x).imp fun k H1 ⟨ρ1, d, h1, E1, S1, x1⟩ => by
  cases k with
  | true => rw [if_pos rfl] at x1 ⊢; exact ⟨ρ1, σd, h1, en.mono E1, S1, x1⟩
  | false => rw [if_neg Bool.false_ne_true] at x1 ⊢; exact ⟨ρ1, σd, h1, en.mono E1, S1, x1⟩⟩
theorem wS.turn {ρ : List Addr} {H : Hp} {r : RS} {f : Env → EH → RS} {D : Ends} (x : wS G W ρ H (turnS r f) D) {N : St → Hp → Prop}
  (hN : ∀ ρ' H' σ' σd' h', Ext G ρ ρ' H H' → Sim G ρ' h' H' → EnvR G ρ' H' σd' σ' → wS G W ρ' H' (f σd' h') D → N σ' H') : wS G W ρ H r { D with nx := N, ct := N, bk := D.nx } := by
 cases r with
 | nx σd' h' => exact fun ρ' H' σ' E S en => hN ρ' H' σ' σd' h' E S en (wS.mono x E)
 | ct σd' h' => exact fun ρ' H' σ' E S en => hN ρ' H' σ' σd' h' E S en (wS.mono x E)
 | bk σd' h' => exact x
 | rt v h' => exact x
 | ex cQ v σd' h' => exact x
 | bad => exact x
end
end Mi

namespace Mi
open PySem PySem.Spec L2
open PyProof.Rows hiding St
section
variable {G : Gi} {ρ ρ' : List Addr} {H H' : Hp} {h h' : EH}
theorem Sim.setO {k : Nat} {a : Addr} {o : O} {u : HO} (S : Sim G ρ h H) (eQ : atR ρ k = some a) (nf : ∀ o u, H a ≠ some (.frz o u)) (x : Ext G ρ ρ H (upd H a u) → OR G ρ (upd H a u) o a) :
  Sim G ρ (h.put k o) (upd H a u) ∧ Ext G ρ ρ H (upd H a u) := by
 unfold atR at eQ
 by_cases hk : k < ρ.length
 ·rw [if_pos hk] at eQ
  have am : a ∈ ρ := List.mem_of_getElem? eQ
  have E : Ext G ρ ρ H (upd H a u) := .of S (new := []) rfl (fun b hb => absurd hb (by simp)) (fun b u q nb => (upd_ne (fun zQ : b = a => nb (by rw [zQ]; exact am))).trans q) (fun b hb zQ => by
   by_cases hba : b = a
   ·subst hba; rw [upd_same] at zQ; cases zQ
   ·rw [upd_ne hba] at zQ; exact S.trk b hb zQ) fun b _ o w q => (upd_ne (fun zQ : b = a => nf o w (by rw [← zQ]; exact q))).trans q
  refine ⟨⟨?_, ?_, S.nd, fun i u b e1 e2 => ?_, fun p hpQ => ⟨(upd_ne (fun zQ => (S.pin p hpQ).2.1 (by rw [zQ]; exact am))).trans (S.pin p hpQ).1, (S.pin p hpQ).2⟩, fun p hpQ => (S.pr p hpQ).mono E.tup⟩, E⟩
  ·exact EH.l_len _
  ·rw [EH.put_l, List.length_set]; exact S.len
  ·rw [EH.put_l] at e1
   rw [S.n, ← S.len] at e1
   by_cases hi : ρ.length - 1 - k = i
   ·subst hi
    rw [eQ] at e2; cases e2
    rw [List.getElem?_set_self (by rw [← S.len]; omega)] at e1
    cases e1
    exact x E
   ·rw [List.getElem?_set_ne hi] at e1
    have y := S.obj i u b e1 e2
    refine y.mono E ?_
    rw [upd_ne]
    rintro rfl
    obtain ⟨h1, q1⟩ := List.getElem?_eq_some_iff.mp eQ
    obtain ⟨h2, q2⟩ := List.getElem?_eq_some_iff.mp e2
    exact hi ((List.getElem_inj S.nd).mp (q1.trans q2.symm))
 ·rw [if_neg hk] at eQ; cases eQ
theorem Sim.setL {k : Nat} {a : Addr} {l : List D} {vs ws : List V} (S : Sim G ρ h H) (eQ : atR ρ k = some a) (ha : H a = some (.lst ws)) (r : DRs G ρ H l vs) :
  Sim G ρ (h.put k (.lst l)) (upd H a (.lst vs)) ∧ Ext G ρ ρ H (upd H a (.lst vs)) := S.setO eQ (fun o u zQ => by rw [ha] at zQ; cases zQ) fun E => .lst upd_same (r.mono E)
theorem DRs.set {l : List D} {vs : List V} (r : DRs G ρ H l vs) {d : D} {v : V} (q : DR G ρ H d v) : ∀ (i : Nat), DRs G ρ H (l.set i d) (vs.set i v) := by
 intro i
 induction i generalizing l vs with
 | zero => cases r with
  | nil => exact .nil
  | cons a b => exact .cons q b
 | succ i ih => cases r with
  | nil => exact .nil
  | cons a b => exact .cons a (ih b)
end
section
variable {X : Cx} {G : Gi} {W : WX} {Φ : Ph} {pos p2 p3 p4 : Pos} {a b cQ eQ : Expr} {es : List Expr} {ca cb cc : CE} {cl : CL}
def rC1 (G : Gi) (f : EH → D → VR) : List V → Hp → VK → Prop := fun xs H Q => ∃ x ρ d h, xs = [x] ∧ Sim G ρ h H ∧ DR G ρ H d x ∧ wV G ρ H (f h d) h Q
theorem jAY {f : Value} {r r' : List V → Hp → VK → Prop} (h : CallR X f r) (w : ∀ xs H Q, r' xs H Q → r xs H Q) : CallR X f r' := fun pins s σQ H xs us Q I rx q => h pins s σQ H xs us Q I rx (w _ _ _ q)
theorem jD7 {f : Value} {r r' : List V → Hp → VK → Prop} (h : CallR X f r) (h' : CallR X f r') : CallR X f (fun xs H Q => r xs H Q ∨ r' xs H Q) := fun pins s σQ H xs us Q I rx q =>
 q.elim (fun zQ => h pins s σQ H xs us Q I rx zQ) fun zQ => h' pins s σQ H xs us Q I rx zQ
theorem jC6 {x : Str} {id : String} {f : EH → D → VR} (hc : CallR X (.builtin id) (rC1 G f)) (hg : Gl X x) (hm : X.mg x = none) (hv : bootBuiltins x = some (.builtin id)) (ha : SE X G W Φ a ca) (hn : x ≠ "__name__" := by decide) (hdb : (x == ("__debug__" : Str)) = false := by decide)
  (hs : starEach [a] X.env = (false, eval a X.env) :: starEach [] X.env := by rfl) (hpl : (backTo pos (starEach [] X.env)).any (·.1) = false := by rfl) : SE X G W Φ (.Call (.Name x p2) [a] [] pos) (cOp1 f ca) :=
 (pe_callB hc hg hm hv (pa_cons ha pa_nil hs) hn hdb hs hpl).weak fun σQ H Q ⟨ρ, σd, h, en, S, x⟩ => ⟨ρ, σd, h, en, S, (wE.bind x).imp fun v H1 ⟨ρ1, d, h1, E1, S1, r, x1⟩ => ⟨v, ρ1, d, h1, rfl, S1, r, wE.toV x1⟩⟩
theorem jBz {x : Str} {T : String} {f : EH → D → VR} (hc : CallR X (.type T) (rC1 G f)) (hg : Gl X x) (hm : X.mg x = none) (hv : bootBuiltins x = some (.type T)) (ha : SE X G W Φ a ca) (hn : x ≠ "__name__" := by decide) (hdb : (x == ("__debug__" : Str)) = false := by decide)
  (hs : starEach [a] X.env = (false, eval a X.env) :: starEach [] X.env := by rfl) (hpl : (backTo pos (starEach [] X.env)).any (·.1) = false := by rfl) : SE X G W Φ (.Call (.Name x p2) [a] [] pos) (cOp1 f ca) :=
 (pe_callTy hc hg hm hv (pa_cons ha pa_nil hs) hn hdb hs hpl).weak fun σQ H Q ⟨ρ, σd, h, en, S, x⟩ => ⟨ρ, σd, h, en, S, (wE.bind x).imp fun v H1 ⟨ρ1, d, h1, E1, S1, r, x1⟩ => ⟨v, ρ1, d, h1, rfl, S1, r, wE.toV x1⟩⟩
theorem wV.nat {ρ : List Addr} {H : Hp} {h : EH} {Q : VK} {n : Nat} (S : Sim G ρ h H) (w : wV G ρ H (fN n fun n => vP (.int (.ofNat n))) h Q) : Q (.int n) H := by
 rw [jA7] at w
 exact wV.val S w (.p (.int _))
theorem cr_len (hK : G.K = X.K) : CallR X (.builtin "len") (rC1 G oLen) := jAY call_len fun xs H Q ⟨x, ρ, d, h, eQ, S, r, w⟩ => by
 subst eQ
 cases r with
 | p r =>
  cases r with
  | str s zQ cQ =>
   have w : wV G ρ H (fN (lenL s) fun n => vP (.int (.ofNat n))) h Q := w
   rw [jAx] at w
   exact ⟨_, s.length, rfl, ⟨by rw [jDN]; exact zQ, (jDN s).symm⟩, w.nat S⟩
  | @tup dd l a vs sq rl _ _ _ =>
   have w : wV G ρ H (fN (lenL l) fun n => vP (.int (.ofNat n))) h Q := w
   rw [jAx, rl.length] at w
   exact ⟨_, vs.length, rfl, .inr ⟨vs, by rw [← hK]; exact sq, rfl⟩, w.nat S⟩
  | _ => exact w.elim
 | @mt l a vs sq rl =>
  have w : wV G ρ H (fN (lenL l) fun n => vP (.int (.ofNat n))) h Q := w
  rw [jAx, rl.length] at w
  exact ⟨_, vs.length, rfl, .inr ⟨vs, by rw [← hK]; exact sq, rfl⟩, w.nat S⟩
 | @ref k a e1 =>
  have w : wV G ρ H (jAw h k (fun l => fN (lenL l) fun n => vP (.int (.ofNat n))) .bad) h Q := w
  rcases jAu S e1 with zQ | ⟨l, vs, hl, rl, _, zQ⟩
  ·rw [zQ] at w; exact w.elim
  ·rw [zQ, jAx, rl.length] at w
   exact ⟨_, vs.length, rfl, .inl ⟨vs, .of hl, rfl⟩, w.nat S⟩
def rTupN (K : PySem.W.Frag) : List V → Hp → VK → Prop := fun xs H Q => ∃ p ys, xs = [.ref p] ∧ SqL K H p ys ∧ ∀ l o, H l = none → o.dict = none → Q (.ref l) (upd H l (.frz o (.tup ys)))
theorem cr_tupN : CallR X (.type "tuple") (rTupN X.K) := by
 intro pins s σQ H xs us Q I r h
 obtain ⟨p, ys, rfl, hq, q⟩ :=
    h
 obtain ⟨u, rfl, rx⟩ :=
    vals1 r
 cases rx
 obtain ⟨its, r', pl, hzQ⟩ := I.list hq
 have hlen := r'.length
 refine call_tuple_list pl.isList (fun h' kp =>
    ?_) (by simp only [List.size_toArray] <;> omega)
 have I1Q : Inv X pins σQ H { s with heap := h' } := I.kept (t' := s.toks) kp
 have gt : (h'.push { cls := .type "tuple", data := .seq its.toArray }).get? h'.objs.size = some { cls := .type "tuple", data := .seq its.toArray } := Heap.get?_push_size _ rfl
 have I2 : Inv X pins σQ (upd H h'.objs.size (.frz { cls := .type "tuple", data := .seq its.toArray } (.tup ys))) { s with heap := h'.push { cls := .type "tuple", data := .seq its.toArray } } :=
  I1Q.laid (t' := s.toks) (fun b o eQ => Heap.get?_push_of_some _ eQ) (Nat.le_refl _) (show ObjOk X.prog X.w _ _ _ (.frz _ (.tup ys)) from ⟨gt, hzQ, its, r', IsTup.new _ _⟩)
 exact ⟨.ref h'.objs.size, _, I2, rfl, q _ _ (I1Q.hok.fresh (Nat.le_refl _)) rfl⟩
theorem wV.newF {ρ : List Addr} {H : Hp} {h : EH} {l : List D} {vs : List V} {Q : VK} {p : Addr} {o : Obj} (S : Sim G ρ h H) (x : wV G ρ H (mkTc l) h Q) (r : DRs G ρ H l vs) (fr : H p = none) (hd : o.dict = none) : Q (.ref p) (upd H p (.frz o (.tup vs))) := by
 obtain ⟨S1, E1, sq, cQ⟩ := S.newF (vs := vs) fr hd
 rcases jDa l with zQ | ⟨d, zQ, _⟩
 ·rw [zQ] at x; exact x.elim
 ·rw [zQ] at x
  exact x ρ _ _ E1 S1 (.tupc sq (r.mono E1) cQ zQ)
theorem jBU (hK : G.K = X.K) : CallR X (.type "tuple") (rC1 G oTup) := jAY (jD7 call_tuple_of cr_tupN) fun xs H Q ⟨x, ρ, d, h, eQ, S, r, w⟩ => by
 subst eQ
 cases r with
 | p r =>
  cases r with
  | @tup dd l a vs sq rl hd hzQ hc => exact .inl ⟨a, vs, rfl, .inr ⟨by rw [← hK]; exact sq, wV.val S w (.p (.tup sq rl hd hzQ hc))⟩⟩
  | _ => exact w.elim
 | @mt l a vs sq rl => exact .inl ⟨a, vs, rfl, .inr ⟨by rw [← hK]; exact sq, wV.oldT (l := l) S w sq rl⟩⟩
 | @ref k a e1 =>
  have w : wV G ρ H (jAw h k mkTc .bad) h Q := w
  rcases jAu S e1 with zQ | ⟨l, vs, hl, rl, _, zQ⟩
  ·rw [zQ] at w; exact w.elim
  ·rw [zQ] at w
   exact .inr ⟨a, vs, rfl, .of hl, fun p o fr hd => wV.newF S w rl fr hd⟩
theorem cr_list (hK : G.K = X.K) : CallR X (.type "list") (rC1 G oLst) := jAY call_list_of fun xs H Q ⟨x, ρ, d, h, eQ, S, r, w⟩ => by
 subst eQ
 have w : wV G ρ H (seqOf h d (fun l => .new (.lst l)) .bad) h Q := w
 rcases jEt S r with zQ | ⟨l, a, vs, rfl, sq, rl, zQ⟩
 ·rw [zQ] at w; exact w.elim
 ·rw [zQ] at w
  rw [hK] at sq
  exact ⟨a, vs, rfl, sq.symm, fun p fr => wV.newL S w rl fr⟩
theorem jBt : CallR X (.type "int") (rC1 G oInt) := jAY call_int1 fun xs H Q ⟨x, ρ, d, h, eQ, S, r, w⟩ => by
 subst eQ
 cases r with
 | ref => exact w.elim
 | mt => exact w.elim
 | p r => cases r with
  | bl b => exact .inr ⟨b, rfl, by rw [← bI_eq]; exact wV.val S w (.p (.int _))⟩
  | int i => exact .inl ⟨i, rfl, wV.val S w (.p (.int _))⟩
  | _ => exact w.elim
theorem jIR : CallR X (.builtin "abs") (rC1 G oAbs) := jAY call_abs fun xs H Q ⟨x, ρ, d, h, eQ, S, r, w⟩ => by
 subst eQ
 have w : wV G ρ H (jAI d (fun i => fN i.natAbs fun n => vP (.int (.ofNat n))) .bad) h Q := w
 rcases jAp r with zQ | ⟨i, rfl, rfl⟩
 ·rw [zQ] at w; exact w.elim
 ·refine ⟨i, rfl, ?_⟩
  have w := wV.nat S w
  have : (if i < 0 then -i else i) = (i.natAbs : Int) := by split <;> omega
  rw [this]; exact w
theorem jDU {ρ : List Addr} {H : Hp} : ∀ {l : List D} {vs : List V} {bs : List Int}, DRs G ρ H l vs → jC3 l = some bs → vs = bs.map V.int
 | _, _, _, .nil, eQ => by cases (show some ([] : List Int) = some _ from eQ); rfl
 | _, _, bs, .cons (x := x) (l := l) r t, eQ => by
  have eQ : jAI x (fun b => Option.rec (motive := fun _ => Option (List Int)) none (fun r => some (b :: r)) (jC3 l)) none = some bs := eQ
  rcases jAp r with zQ | ⟨i, rfl, rfl⟩
  ·rw [zQ] at eQ; cases eQ
  ·have eQ : Option.rec (motive := fun _ => Option (List Int)) none (fun r => some (i :: r)) (jC3 l) = some bs := eQ
   cases q : jC3 l with
   | none => rw [q] at eQ; cases eQ
   | some r =>
    rw [q] at eQ
    cases (show some (i :: r) = some bs from eQ)
    rw [List.map_cons, ← jDU t q]
theorem jEC : ∀ l : List Int, sumI l = l.sum
 | [] => rfl
 | a :: l => by
  show Int.add a (sumI l) = _
  rw [jEC l, List.sum_cons]
  rfl
theorem cr_sumM (hK : G.K = X.K) (hc : X.calm = true) : CallR X (.builtin "sum") (rC1 G oSum) := jAY (cr_sum hc) fun xs H Q ⟨x, ρ, d, h, eQ, S, r, w⟩ => by
 subst eQ
 cases r with
 | p => exact w.elim
 | mt => exact w.elim
 | @ref k a e1 =>
  have w : wV G ρ H (jAw h k (fun l => oV (jC3 l) fun r => fI (sumI r) fun b => vP (.int b)) .bad) h Q := w
  rcases jAu S e1 with zQ | ⟨l, vs, hl, rl, _, zQ⟩
  ·rw [zQ] at w; exact w.elim
  ·rw [zQ] at w
   cases q : jC3 l with
   | none => rw [q] at w; exact w.elim
   | some bs =>
    rw [q] at w
    have w := wV.int S (show wV G ρ H (fI (sumI bs) fun b => vP (.int b)) h Q from w)
    rw [jEC] at w
    have := jDU rl q
    subst this
    exact ⟨a, bs, rfl, .of hl, w⟩
end
end Mi

namespace Mi
open PySem PySem.Spec L2
open PyProof.Rows hiding St
def knm (k : Nat) : String := match k with
 | 0 => "NoneType" | 1 => "bool" | 2 => "int" | 3 => "str" | 4 => "tuple" | 5 => "list" | _ => "object"
theorem kit_tab : (List.range 6).all (fun k => (List.range 5).all fun j => kitB (knm k) (knm (j + 1)) == some (isK k (j + 1))) = true := by decide +kernel
theorem jE1 {k j : Nat} (hk : k < 6) (hj : 1 ≤ j ∧ j < 6) : kitB (knm k) (knm j) = some (isK k j) := by
 have h := List.all_eq_true.mp (List.all_eq_true.mp kit_tab k (List.mem_range.mpr hk)) (j - 1) (List.mem_range.mpr (by omega))
 rw [show j - 1 + 1 = j by omega] at h
 exact beq_iff_eq.mp h
section
variable {G : Gi} {ρ ρ' : List Addr} {H H' : Hp} {h h' : EH}
theorem sqt_ty {K : PySem.W.Frag} {a : Addr} {vs : List V} (s : SqT K H a vs) : TyX K H (.ref a) (.type "tuple") := by
 rcases s with (s | ⟨o, s⟩) | ⟨o, its, n, s, cQ, _⟩
 ·exact .base (.tup s)
 ·exact .fTuple s
 ·exact .kTuple s cQ
theorem jGp {d : D} {v : V} (S : Sim G ρ h H) (r : DR G ρ H d v) (hk : kindOf h d < 9) : kindOf h d < 6 ∧ TyX G.K H v (.type (knm (kindOf h d))) := by
 cases r with
 | p r => cases r with
  | non => exact ⟨by show 0 < 6; decide, .base .non⟩
  | bl b => exact ⟨by show 1 < 6; decide, .base (.bl b)⟩
  | int b => exact ⟨by show 2 < 6; decide, .base (.int b)⟩
  | str b => exact ⟨by show 3 < 6; decide, .base (.str _)⟩
  | tup s => exact ⟨by show 4 < 6; decide, sqt_ty s⟩
  | fn => exact absurd (show (9 : Nat) < 9 from hk) (by decide)
 | mt s => exact ⟨by show 4 < 6; decide, sqt_ty s⟩
 | @ref k a e1 =>
  have hk : jAw h k (fun _ => 5) 9 < 9 := hk
  rcases jAu S e1 with zQ | ⟨l, vs, hl, rl, _, zQ⟩
  ·rw [zQ] at hk; exact absurd hk (by decide)
  ·have eQ : kindOf h (.ref k) = 5 := zQ _ _ _
   rw [eQ]
   exact ⟨by decide, .base (.lst hl)⟩
theorem jIX {K : PySem.W.Frag} {k : Nat} (hk : k < 6) : ∀ (js : List Nat), (∀ j ∈ js, 1 ≤ j ∧ j < 6) →
  PySem.W.kitAny K (.type (knm k)) (js.map fun j => .type (knm j)) = some (List.rec (motive := fun _ => Bool) false (fun j _ ih => Bool.rec (motive := fun _ => Bool) ih true (isK k j)) js)
 | [], _ => rfl
 | j :: js, hj => by
  have ih := jIX (K := K) hk js fun i hi => hj i (List.mem_cons_of_mem _ hi)
  have eQ := kit_ty (K := K) (jE1 hk (hj j List.mem_cons_self))
  show PySem.W.kitAny K (.type (knm k)) (.type (knm j) :: js.map fun j => .type (knm j)) = some (Bool.rec (motive := fun _ => Bool) _ true (isK k j))
  refine kitAny_cons eQ (fun zQ => ?_) fun zQ => ?_
  ·rw [zQ]; exact ih
  ·rw [zQ]
end
section
variable {X : Cx} {G : Gi} {W : WX} {Φ : Ph} {pos p2 p3 p4 p5 : Pos} {a b cQ eQ : Expr} {es : List Expr} {ca cb cc : CE} {cl : CL}
theorem wV.isi {ρ : List Addr} {H : Hp} {h : EH} {js : List Nat} {d : D} {Q : VK} (w : wV G ρ H (oIsi js h d) h Q) : kindOf h d < 9 ∧ wV G ρ H (vP (.bl (List.rec (motive := fun _ => Bool) false (fun j _ ih => Bool.rec (motive := fun _ => Bool) ih true (isK (kindOf h d) j)) js))) h Q := by
 unfold oIsi at w
 rw [jA7, jAR] at w
 obtain ⟨q, w⟩ := w.gd
 exact ⟨Nat.le_of_ble_eq_true q, w⟩
theorem jBE {T : String} {x : Str} {j : Nat} (hK : G.K = X.K) (hg : Gl X "isinstance") (hm : X.mg "isinstance" = none) (hgT : Gl X x) (hmT : X.mg x = none) (hv : bootBuiltins x = some (.type T)) (hj : (1 ≤ j ∧ j < 6) ∧ knm j = T) (ha : SE X G W Φ a ca)
  (hn : x ≠ "__name__" := by decide) (hdb : (x == ("__debug__" : Str)) = false := by decide)
  (hs : starEach [a, .Name x p3] X.env = (false, eval a X.env) :: starEach [.Name x p3] X.env := by rfl) (hpl : (backTo pos (starEach [.Name x p3] X.env)).any (·.1) = false := by rfl) :
  SE X G W Φ (.Call (.Name "isinstance" p2) [a, .Name x p3] [] pos) (cOp1 (oIsi [j]) ca) :=
 (pe_callB call_isi hg hm PyProof.Rows.boot_isinstance (pa_cons ha (pa_cons (pe_bltn (v := .ty T) hgT hmT hv rfl hn hdb) pa_nil) hs) (hpl := hpl) (he := hs)).weak fun σQ H Q ⟨ρ, σd, h, en, S, x⟩ => ⟨ρ, σd, h, en, S, (wE.bind x).imp fun v H1 ⟨ρ1, d, h1, E1, S1, r, x1⟩ => by
  obtain ⟨q, w⟩ := wV.isi (wE.toV x1)
  obtain ⟨hk, ty⟩ := jGp S1 r q
  refine ⟨v, .ty T, .type (knm (kindOf h1 d)), .type T, isK (kindOf h1 d) j, rfl, .ty T, by rw [← hK]; exact ty, ?_, ?_⟩
  ·rw [← hj.2]; exact kit_ty (jE1 hk hj.1)
  ·have w := wV.val S1 w (.p (.bl _))
   have : (Bool.rec (motive := fun _ => Bool) false true (isK (kindOf h1 d) j)) = isK (kindOf h1 d) j := by cases isK (kindOf h1 d) j <;> rfl
   rw [← this]; exact w⟩
theorem jGf {T U : String} {x y : Str} {j i k : Nat} (hK : G.K = X.K) (hg : Gl X "isinstance") (hm : X.mg "isinstance" = none) (hgT : Gl X x) (hmT : X.mg x = none) (hv : bootBuiltins x = some (.type T)) (hj : (1 ≤ j ∧ j < 6) ∧ knm j = T)
  (hgU : Gl X y) (hmU : X.mg y = none) (hvU : bootBuiltins y = some (.type U)) (hi : (1 ≤ i ∧ i < 6) ∧ knm i = U) (ha : SE X G W Φ a ca)
  (hn : x ≠ "__name__" := by decide) (hdb : (x == ("__debug__" : Str)) = false := by decide) (hn2 : y ≠ "__name__" := by decide) (hdb2 : (y == ("__debug__" : Str)) = false := by decide)
  (hs : starEach [a, .Tuple [.Name x p3, .Name y p4] k p5] X.env = (false, eval a X.env) :: starEach [.Tuple [.Name x p3, .Name y p4] k p5] X.env := by rfl) (hpl : (backTo pos (starEach [.Tuple [.Name x p3, .Name y p4] k p5] X.env)).any (·.1) = false := by rfl) :
  SE X G W Φ (.Call (.Name "isinstance" p2) [a, .Tuple [.Name x p3, .Name y p4] k p5] [] pos) (cOp1 (oIsi [j, i]) ca) :=
 (pe_callB call_isiT hg hm PyProof.Rows.boot_isinstance (pa_cons ha (pa_cons (pe_tup (pa_cons (pe_bltn (v := .ty T) hgT hmT hv rfl hn hdb) (pa_cons (pe_bltn (v := .ty U) hgU hmU hvU rfl hn2 hdb2) pa_nil))) pa_nil) hs) (hpl := hpl) (he := hs)).weak fun σQ H Q ⟨ρ, σd, h, en, S, x⟩ => ⟨ρ, σd, h, en, S, (wE.bind x).imp fun v H1 ⟨ρ1, d, h1, E1, S1, r, x1⟩ => by
  obtain ⟨q, w⟩ := wV.isi (wE.toV x1)
  refine ⟨by show 2 ≤ sizeLine; decide, fun p fr => ?_⟩
  obtain ⟨hk, ty⟩ := jGp S1 r q
  obtain ⟨S2, E2⟩ := S1.kept (H' := upd H1 p (.tup [.ty T, .ty U])) (jBK fr)
  obtain ⟨_, ty2⟩ := jGp S2 (r.mono E2) q
  refine ⟨v, p, [.ty T, .ty U], .type (knm (kindOf h1 d)), [.type T, .type U], _, rfl, upd_same, .cons (.ty T) (.cons (.ty U) .nil), by rw [← hK]; exact ty2, ?_, w ρ1 _ _ E2 S2 (.p (.bl _))⟩
  have := jIX (K := X.K) hk [j, i] (fun m hm => by
   rcases List.mem_cons.mp hm with zQ | zQ
   ·rw [zQ]; exact hj.1
   ·rw [List.mem_singleton.mp zQ]; exact hi.1)
  rw [← hj.2, ← hi.2]
  exact this⟩
end
section
variable {G : Gi} {ρ ρ' : List Addr} {H H' : Hp} {h h' : EH}
theorem atR_app {k : Nat} {a : Addr} (eQ : atR ρ' k = some a) : atR (ρ' ++ ρ) (k + ρ.length) = some a := by
 unfold atR at eQ ⊢
 by_cases hk : k < ρ'.length
 ·rw [if_pos hk] at eQ
  rw [if_pos (by rw [List.length_append]; omega), List.length_append, List.getElem?_append_left (by omega)]
  rw [show ρ'.length + ρ.length - 1 - (k + ρ.length) = ρ'.length - 1 - k by omega]
  exact eQ
 ·rw [if_neg hk] at eQ; cases eQ
mutual
theorem DR.shift : ∀ {d : D} {v : V}, DR G ρ' H d v → DR G (ρ' ++ ρ) H (shD ρ.length d) v
 | _, _, .p r => .p r
 | _, _, .ref eQ => .ref (atR_app eQ)
 | _, _, .mt s r => .mt s (DRs.shiftR r)
theorem DRs.shiftR : ∀ {l : List D} {vs : List V}, DRs G ρ' H l vs → DRs G (ρ' ++ ρ) H (D.rec_1 (motive_1 := fun _ => D) (motive_2 := fun _ => List D) (fun x => .p x) (fun k => .ref (Nat.add k ρ.length)) (fun _ ih => .mt ih) [] (fun _ _ a b => a :: b) l) vs
 | _, _, .nil => .nil
 | _, _, .cons a b => .cons (DR.shift a) (DRs.shiftR b)
end
theorem DRs.shift : ∀ {l : List D} {vs : List V}, DRs G ρ' H l vs → DRs G (ρ' ++ ρ) H (mapL (shD ρ.length) l) vs
 | _, _, .nil => .nil
 | _, _, .cons a b => .cons a.shift (DRs.shift b)
theorem R0Q.shift {p : P × D} {q : Leaf × Value} (x : R0Q G ρ' H p q) : R0Q G (ρ' ++ ρ) H (p.1, shD ρ.length p.2) q := by
 obtain ⟨h1, h2, u, h3, h4⟩ := x
 exact ⟨h1, h2, u, h3, h4.shift⟩
theorem R1.shift {p : P × D} {q : NestedKey × Addr × Value} (x : R1 G ρ' H p q) : R1 G (ρ' ++ ρ) H (p.1, shD ρ.length p.2) q := by
 obtain ⟨h1, h2, h5, u, h3, h4⟩ := x
 exact ⟨h1, h2, h5, u, h3, h4.shift⟩
theorem jBx {α β γ : Type} {R : α → β → Prop} {R' : γ → β → Prop} {f : α → γ} (k : ∀ a b, R a b → R' (f a) b) : ∀ {l : List α} {m : List β}, Paired R l m → Paired R' (mapL f l) m
 | _, _, .nil => .nil
 | _, _, .cons a b => .cons (k _ _ a) (jBx k b)
theorem OR.shift {o : O} {a : Addr} (x : OR G ρ' H o a) (S : ∀ b ∈ ρ, ∀ y, H b ≠ some (.own y)) (S' : ∀ b ∈ ρ, ∀ fs, H b ≠ some (.xd fs)) : OR G (ρ' ++ ρ) H (shO ρ.length o) a := by
 have le : ∀ {l : List (P × D)}, l.length ≤ sizeLine → (mapL (fun q : P × D => (q.1, shD ρ.length q.2)) l).length ≤ sizeLine := fun zQ => by rw [jCj, List.length_map]; exact zQ
 cases x with
 | lst eQ r => exact .lst eQ r.shift
 | d0 eQ r zQ => exact .d0 eQ (jBx (fun _ _ h => h.shift) r) ⟨le zQ.1, zQ.2⟩
 | d1 eQ r zQ => exact .d1 eQ (jBx (fun _ _ h => h.shift) r) ⟨le zQ.1, zQ.2⟩
 | l0 eQ r zQ => exact .l0 eQ (jBx (fun _ _ h => h.shift) r) ⟨le zQ.1, zQ.2⟩
 | l1 eQ r zQ => exact .l1 eQ (jBx (fun _ _ h => h.shift) r) ⟨le zQ.1, zQ.2⟩
 | ins cQ q d n r =>
  refine .ins cQ q d (fun m => ?_) (jBx (fun _ _ h => ⟨h.1, h.2.shift⟩) r)
  rcases List.mem_append.mp m with m | m
  ·exact n m
  ·exact S _ m _ d
 | exc cQ f q d n r =>
  refine .exc cQ f q d (fun m => ?_) r
  rcases List.mem_append.mp m with m | m
  ·exact n m
  ·exact S' _ m _ d
theorem OR.noOwn {o : O} {a : Addr} (x : OR G ρ H o a) : ∀ y, H a ≠ some (.own y) := fun y zQ => by
 cases x <;> simp_all
theorem Sim.noOwn (S : Sim G ρ h H) : ∀ b ∈ ρ, ∀ y, H b ≠ some (.own y) := fun b m => by
 obtain ⟨_, _, _, _, x⟩ := S.mem m
 exact x.noOwn
theorem OR.noXd {o : O} {a : Addr} (x : OR G ρ H o a) : ∀ fs, H a ≠ some (.xd fs) := fun fs zQ => by
 cases x <;> simp_all
theorem Sim.noXd0 (S : Sim G ρ h H) : ∀ b ∈ ρ, ∀ fs, H b ≠ some (.xd fs) := fun b m => by
 obtain ⟨_, _, _, _, x⟩ := S.mem m
 exact x.noXd
theorem impA_s (t : Tr) (n0 n m : Nat) (h : EH) : impA t n0 (n + 1) m h = impA t n0 n (m + 1) (h.nw (shO n0 (tgd t m))) := by
 show h.new (shO n0 (tgd t m)) (fun _ h => fN (Nat.succ m) fun m => impA t n0 n m h) = _
 rw [EH.new_eq, jA7]
theorem seg_eq (t : Tr) : ∀ (n m : Nat), ∃ s : List O, s.length = n ∧ (∀ n0 h, (impA t n0 n m h).l = mapL (shO n0) s ++ h.l) ∧ lsT t (m + n) = s ++ lsT t m
 | 0, m => ⟨[], rfl, fun _ _ => rfl, rfl⟩
 | n + 1, m => by
  obtain ⟨s, e1, e2, e3⟩ := seg_eq t n (m + 1)
  refine ⟨s ++ [tgd t m], by rw [List.length_append, e1]; rfl, fun n0 h => ?_, ?_⟩
  ·rw [impA_s, e2, EH.nw_l, jCj, jCj, List.map_append, List.append_assoc]; rfl
  ·rw [show m + (n + 1) = m + 1 + n by omega, e3, List.append_assoc]; rfl
theorem imp_l {h' h : EH} {n0 : Nat} : (impA h'.t n0 h'.n 0 h).l = mapL (shO n0) h'.l ++ h.l := by
 obtain ⟨s, _, e2, e3⟩ := seg_eq h'.t h'.n 0
 rw [e2]
 have : h'.l = s := by
  show lsT h'.t h'.n = s
  rw [Nat.zero_add] at e3
  rw [e3]
  exact List.append_nil s
 rw [this]
theorem Sim.import_ (S : Sim G ρ h H) (E : Ext G [] ρ' H H') (S' : Sim G ρ' h' H') : Sim G (ρ' ++ ρ) (impA h'.t ρ.length h'.n 0 h) H' ∧ Ext G ρ (ρ' ++ ρ) H H' := by
 have keep : ∀ b u, H b = some u → H' b = some u := fun b u q => E.keep b u q (by simp)
 obtain ⟨new, eQ, fr⟩ := E.suf
 rw [List.append_nil] at eQ
 subst eQ
 have dis : ∀ a ∈ ρ', a ∉ ρ := fun a ha hb => S.trk a hb (fr a ha)
 have E2 : Ext G ρ (ρ' ++ ρ) H H' := .all S (new := ρ') rfl fr keep
 refine ⟨⟨?_, ?_, ?_, fun i o a e1 e2 => ?_, fun p hpQ => ⟨(S'.pin p hpQ).1, fun m => by
  rcases List.mem_append.mp m with m | m
  ·exact (S'.pin p hpQ).2.1 m
  ·exact (S.pin p hpQ).2.1 m, (S'.pin p hpQ).2.2⟩, S'.pr⟩, E2⟩
 ·exact EH.l_len _
 ·rw [imp_l, List.length_append, List.length_append, jCj, List.length_map, S.len, S'.len]
 ·exact List.nodup_append.mpr ⟨S'.nd, S.nd, fun a ha b hb zQ => dis a ha (zQ ▸ hb)⟩
 ·rw [imp_l, jCj] at e1
  by_cases hi : i < ρ'.length
  ·rw [List.getElem?_append_left hi] at e2
   rw [List.getElem?_append_left (by rw [List.length_map, ← S'.len]; exact hi), List.getElem?_map] at e1
   cases q : h'.l[i]? with
   | none => rw [q] at e1; cases e1
   | some u =>
    rw [q] at e1
    cases e1
    exact (S'.obj i u a q e2).shift (S.kept keep).1.noOwn (S.kept keep).1.noXd0
  ·rw [List.getElem?_append_right (by omega)] at e2
   rw [List.getElem?_append_right (by rw [List.length_map, ← S'.len]; omega), List.length_map, ← S'.len] at e1
   have y := S.obj _ o a e1 e2
   refine y.mono E2 ?_
   cases q : H a with
   | none => exact absurd q y.trk
   | some w => exact keep a w q
theorem jHu : ∀ {l : List D}, jB2 l = true → ∃ r, l = upP r
 | [], _ => ⟨[], rfl⟩
 | .p x :: l, eQ => by
  obtain ⟨r, q⟩ := jHu (l := l) eQ
  exact ⟨x :: r, by rw [q]; rfl⟩
 | .ref k :: l, eQ => nomatch (show false = true from eQ)
 | .mt m :: l, eQ => nomatch (show false = true from eQ)
theorem DRs.pure {l : List D} {vs : List V} (eQ : jB2 l = true) (r : DRs G ρ H l vs) : DRs G ρ' H l vs := by
 obtain ⟨q, zQ⟩ := jHu eQ
 subst zQ
 exact r.down.up
theorem R0Q.pureV {p : P × D} {q : Leaf × Value} (eQ : jDr [p] = true) (x : R0Q G ρ H p q) : R0Q G ρ' H p q := by
 obtain ⟨k, d⟩ := p
 obtain ⟨h1, h2, u, h3, h4⟩ := x
 refine ⟨h1, h2, u, h3, ?_⟩
 cases d with
 | p x => cases h4 with | p r => exact .p r
 | _ => exact nomatch (show false = true from eQ)
theorem R1.pureV {p : P × D} {q : NestedKey × Addr × Value} (eQ : jDr [p] = true) (x : R1 G ρ H p q) : R1 G ρ' H p q := by
 obtain ⟨k, d⟩ := p
 obtain ⟨h1, h2, h5, u, h3, h4⟩ := x
 refine ⟨h1, h2, h5, u, h3, ?_⟩
 cases d with
 | p x => cases h4 with | p r => exact .p r
 | _ => exact nomatch (show false = true from eQ)
theorem jEf {p : P × D} {l : List (P × D)} (eQ : jDr (p :: l) = true) : jDr [p] = true ∧ jDr l = true := by
 obtain ⟨k, d⟩ := p
 cases d with
 | p x => exact ⟨rfl, eQ⟩
 | _ => exact nomatch (show false = true from eQ)
theorem jCe {β : Type} {R R' : P × D → β → Prop} (k : ∀ a b, jDr [a] = true → R a b → R' a b) : ∀ {l : List (P × D)} {m : List β}, jDr l = true → Paired R l m → Paired R' l m
 | _, _, _, .nil => .nil
 | _, _, eQ, .cons a b => .cons (k _ _ (jEf eQ).1 a) (jCe k (jEf eQ).2 b)
theorem OR.lone {o : O} {a : Addr} (eQ : lone o = true) (x : OR G ρ H o a) : OR G ρ' H o a := by
 cases x with
 | lst zQ r => exact .lst zQ (r.pure eQ)
 | d0 zQ r b => exact .d0 zQ (jCe (fun _ _ eQ h => h.pureV eQ) eQ r) b
 | d1 zQ r b => exact .d1 zQ (jCe (fun _ _ eQ h => h.pureV eQ) eQ r) b
 | l0 zQ r b => exact nomatch (show false = true from eQ)
 | l1 zQ r b => exact nomatch (show false = true from eQ)
 | ins _ _ _ _ _ => exact nomatch (show false = true from eQ)
 | exc _ _ _ _ _ _ => exact nomatch (show false = true from eQ)
theorem Sim.empty (S : Sim G ρ h H) : Sim G [] e0 H := ⟨rfl, rfl, List.nodup_nil, fun i o a e1 e2 => (by cases e2), fun p hpQ => ⟨(S.pin p hpQ).1, fun m => (nomatch m), (S.pin p hpQ).2.2⟩, S.pr⟩
end
def wF (G : Gi) (ρ : List Addr) (H : Hp) (r : RE) (Q : VK) (E : XK) : Prop :=
 match r with
 | .ok d h' => ∀ ρ' H' v, Ext G ρ ρ' H H' → Sim G ρ' h' H' → DR G ρ' H' d v → Q v H'
 | .ex cQ x h' => ∀ ρ' H' cls dd, Ext G ρ ρ' H H' → Sim G ρ' h' H' → XR G H' cQ x cls dd → E cls dd H'
 | .bad => False
def spF (G : Gi) (n : Nat) (φ : List D → EH → RE) : Sp := fun vs H Q E => vs.length = n ∧ ∃ ρ dsQ h, DRs G ρ H dsQ vs ∧ Sim G ρ h H ∧ wF G ρ H (φ dsQ h) Q E
section
variable {G : Gi} {W : WX} {ρ ρ' : List Addr} {H H' : Hp} {h h' : EH} {σQ : St} {Q : VK}
theorem wE.call {φ : List D → EH → RE} {l : List D} {vs : List V} {n : Nat} (hn : vs.length = n) (S : Sim G ρ h H) (r : DRs G ρ H l vs) (x : wE G W ρ H σQ (jA8 φ l h) Q) : spF G n φ vs H Q (WE W σQ) := by
 refine ⟨hn, ?_⟩
 unfold jA8 at x
 cases hpQ : jB2 l with
 | false =>
  rw [hpQ] at x
  have x : wE G W ρ H σQ (φ l h) Q := x
  refine ⟨ρ, l, h, r, S, ?_⟩
  cases q : φ l h with
  | ok d h' => rw [q] at x; exact x
  | ex cQ y h' => rw [q] at x; exact x
  | bad => rw [q] at x; exact x
 | true =>
  rw [hpQ] at x
  have x : wE G W ρ H σQ (RE.rec (motive := fun _ => RE) (fun v h' => impD v h' h) (fun cQ x _ => .ex cQ x h) .bad (φ l e0)) Q := x
  refine ⟨[], l, e0, r.pure hpQ, S.empty, ?_⟩
  cases q : φ l e0 with
  | bad => rw [q] at x; exact x
  | ex cQ y h' =>
   rw [q] at x
   intro ρ' H' cls dd E S' xr
   obtain ⟨S2, E2⟩ := S.kept (H' := H') fun b u zQ => E.keep b u zQ (by simp)
   exact x ρ H' cls dd E2 S2 xr
  | ok d h' =>
   rw [q] at x
   have x : wE G W ρ H σQ (impD d h' h) Q := x
   intro ρ' H' v E S' rd
   have wh : wE G W ρ H σQ (jDs d h' h) Q → Q v H' := fun x => by
    obtain ⟨S2, E2⟩ := S.import_ E S'
    have eQ : jDs d h' h = .ok (shD h.n d) (impA h'.t h.n h'.n 0 h) := by
     obtain ⟨n', l'⟩ := h'
     obtain ⟨n0, l0⟩ := h
     rfl
    rw [eQ, S.n, ← S.len] at x
    exact x _ _ _ E2 S2 rd.shift
   cases rd with
   | p rd =>
    obtain ⟨S2, E2⟩ := S.kept (H' := H') fun b u zQ => E.keep b u zQ (by simp)
    exact x ρ H' v E2 S2 (.p rd)
   | mt s rd => exact wh x
   | @ref k a e1 =>
    have x : wE G W ρ H σQ (jBh h' k (fun o => h.new o fun k h => .ok (.ref k) h) (jDs (.ref k) h' h)) Q := x
    unfold jBh at x
    cases hg : h'.get k with
    | none => rw [hg] at x; exact wh x
    | some o =>
     rw [hg] at x
     have x : wE G W ρ H σQ (Bool.rec (motive := fun _ => RE) (jDs (.ref k) h' h) (h.new o fun k h => .ok (.ref k) h) (lone o)) Q := x
     cases hoQ : lone o with
     | false => rw [hoQ] at x; exact wh x
     | true =>
      rw [hoQ] at x
      have x : wE G W ρ H σQ (VR.re (.new o) h) Q := x
      rw [jCT] at x
      obtain ⟨a', e2, y⟩ := S'.get hg
      rw [e1] at e2; cases e2
      obtain ⟨new, en, fr⟩ := E.suf
      rw [List.append_nil] at en
      subst en
      have am : a ∈ ρ' := by
       unfold atR at e1
       by_cases hk : k < ρ'.length
       ·rw [if_pos hk] at e1; exact List.mem_of_getElem? e1
       ·rw [if_neg hk] at e1; cases e1
      obtain ⟨S2, E2⟩ := S.new (o := o) (H' := H') (fr a am) (fun b u zQ => E.keep b u zQ (by simp)) (y.lone hoQ)
      refine x (a :: ρ) H' _ E2 S2 (.ref ?_)
      rw [S.n, ← S.len]
      exact jFh
end
end Mi

namespace Mi
open PySem PySem.Spec L2
open PyProof.Rows hiding St
def pick {α : Type} (ps : List Nat) (l : List α) : List α := ps.filterMap fun i => l[i]?
def KbOk (K : PySem.W.Frag) (G : Gi) (fd : FuncData) (ps : List Str) (q : Kb) : Prop :=
 ∃ (dus : List Value) (dvs : List V), Vals dvs dus ∧ (∀ H, PRs G H q.dfl dvs) ∧ ∀ (s : Shared) (us ws : List Value), K.In s.heap → us.length = q.n → ws.length = q.ks.length → BindsTo s fd ⟨us, q.ks.zip ws⟩ (ps.zip (pick q.ps (us ++ (ws ++ dus))))
inductive Who where
 | fn (x : Str) | me (cQ : Nat) (m : Str) | ini (cQ : Nat) (x : Str)
def WhOk (K : PySem.W.Frag) (mg : Str → Option Value) (G : Gi) (q : Who) (f : Addr) (j : Nat) : Prop := match q with
 | .fn x => mg x = some (.ref f) ∧ PySem.W.keepIn K (.ref f) = true ∧ G.fa j = some f
 | .me cQ m => ∃ C, G.ic cQ = some C ∧ Cls K C ∧ Meth K C m f
 | .ini cQ x => ∃ C, G.ic cQ = some C ∧ mg x = some (.ref C) ∧ Mk K C f
def FX (P : Program) (w : World) (K : PySem.W.Frag) (mg : Str → Option Value) (base : Heap) (G : Gi) (Φ : Ph) (k : Nat) (u : Who) (j : Nat) : Prop :=
 ∃ (f : Addr) (fd : FuncData) (ps : List Str), FnOk P w K mg base (L2.CX P w) (2 * k) f fd ps (spF G ps.length (Φ j)) ∧ WhOk K mg G u f j ∧ Binds K fd ps [] ∧ (∀ l h, l.length ≠ ps.length → Φ j l h = .bad) ∧ ∀ q ∈ G.kb j, KbOk K G fd ps q
abbrev FA (P : Program) (w : World) (K : PySem.W.Frag) (mg : Str → Option Value) (base : Heap) (G : Gi) (Φ : Ph) (k : Nat) (x : Str) (j : Nat) : Prop := FX P w K mg base G Φ k (.fn x) j
section
variable {X : Cx} {G : Gi} {W : WX} {Φ : Ph} {pos p2 : Pos} {a b cQ eQ : Expr} {es : List Expr} {ca cb cc : CE} {cl : CL} {k ar j : Nat} {f : Addr} {fd : FuncData} {ps : List Str} {x : Str}
theorem jDY {φ : List D → EH → RE} {l : List D} {h : EH} (zQ : ∀ h, φ l h = .bad) : jA8 φ l h = .bad := by
 unfold jA8
 cases jB2 l with
 | false => exact zQ h
 | true =>
  show RE.rec (motive := fun _ => RE) (fun v h' => impD v h' h) (fun cQ x _ => .ex cQ x h) .bad (φ l e0) = .bad
  rw [zQ e0]
theorem se_call (A : FA X.prog X.w X.K X.mg X.base G Φ k x j) (hr : Room (2 * k + 1) X.A) (hg : Gl X x) (tk : Takes X W)
  (ha : SL X G W Φ (eQ :: es) cl) (hdb : (x == ("__debug__" : Str)) = false := by decide) (he : starEach (eQ :: es) X.env = (false, eval eQ X.env) :: starEach es X.env := by rfl) (hpl : (backTo pos (starEach es X.env)).any (·.1) = false := by rfl) :
  SE X G W Φ (.Call (.Name x p2) (eQ :: es) [] pos) (jAs j cl) := by
 obtain ⟨f, fd, ps, F, ⟨hm, hk, _⟩, hb, hzQ, _⟩ := A
 refine (pe_callS (E := fun σQ => WE W σQ) F (hr.mono (Nat.le_succ _)) hg hm hk hb (fun σQ => passAt tk σQ) ha hdb he hpl).weak fun σQ H Q ⟨ρ, σd, h, en, S, x⟩ => ⟨ρ, σd, h, en, S, (wL.bind x).imp fun vs H1 ⟨ρ1, dsQ, h1, E1, S1, r, x1⟩ => ?_⟩
 by_cases hl : vs.length = ps.length
 ·exact wE.call hl S1 r x1
 ·rw [jDY (fun h => hzQ dsQ h (by rw [r.length]; exact hl))] at x1
  exact x1.elim
theorem se_call0 (A : FA X.prog X.w X.K X.mg X.base G Φ k x j) (hr : Room (2 * k + 1) X.A) (hg : Gl X x) (tk : Takes X W) (hdb : (x == ("__debug__" : Str)) = false := by decide) :
  SE X G W Φ (.Call (.Name x p2) [] [] pos) (jAs j cNil) := by
 obtain ⟨f, fd, ps, F, ⟨hm, hk, _⟩, hb, hzQ, _⟩ := A
 refine ⟨fun pins s σQ H Q I ⟨ρ, σd, h, en, S, x⟩ => ?_⟩
 refine
    wpAny_Call_Name_kw (ld_glob I hg hm ?_ hdb)
 refine PySem.W.callWith_K0 I.kIn hk (run_fnS (us := []) F (hr.mono (Nat.le_succ _)) hb (passAt tk σQ) I .nil ?_)
 have x : wE G W ρ H σQ (jA8 (Φ j) [] h) Q := x
 by_cases hl : ([] : List V).length = ps.length
 ·exact wE.call hl S .nil x
 ·rw [jDY (fun h => hzQ [] h hl)] at x
  exact x.elim
end
section
variable {P : Program} {w : World} {K : PySem.W.Frag} {mg : Str → Option Value} {base : Heap} {G : Gi}
theorem jHa : ∀ n, nones n = List.replicate n none
 | 0 => rfl
 | n + 1 => congrArg (none :: ·) (jHa n)
theorem jGL : ∀ (l : List D) (r : Env), somes l r = l.map some ++ r
 | [], _ => rfl
 | a :: l, r => congrArg (some a :: ·) (jGL l r)
theorem jFm {ρ : List Addr} {H : Hp} {n m : Nat} : ∀ {dsQ : List D} {vs : List V}, DRs G ρ H dsQ vs → ∀ (i : Nat) (d : D), (dsQ.map some ++ List.replicate n none)[i]? = some (some d) → ∃ v, (vs.map some ++ List.replicate m none)[i]? = some (some v) ∧ DR G ρ H d v
 | _, _, .nil, i, d, q => by
  rw [List.map_nil, List.nil_append] at q
  have := List.mem_of_getElem? q
  rw [List.mem_replicate] at this
  cases this.2
 | _, _, .cons (v := v) a b, 0, d, q => by
  rw [List.map_cons, List.cons_append, List.getElem?_cons_zero] at q
  cases q
  exact ⟨v, by rw [List.map_cons, List.cons_append, List.getElem?_cons_zero], a⟩
 | _, _, .cons a b, i + 1, d, q => by
  rw [List.map_cons, List.cons_append, List.getElem?_cons_succ] at q
  obtain ⟨v, h1, h2⟩ := jFm b i d q
  exact ⟨v, by rw [List.map_cons, List.cons_append, List.getElem?_cons_succ]; exact h1, h2⟩
theorem jHP {ρ : List Addr} {H : Hp} {dsQ : List D} {vs : List V} {N : List Str} (r : DRs G ρ H dsQ vs) : EnvR G ρ H (somes dsQ (nones (N.length - vs.length))) (L2.start N vs) := by
 rw [jGL, jHa]
 refine ⟨by unfold L2.start; rw [List.length_append, List.length_append, List.length_map, List.length_map, List.length_replicate, List.length_replicate, r.length]; exact Nat.le_refl _, fun i d q => jFm r i d q⟩
abbrev jEa (P : Program) (w : World) (K : PySem.W.Frag) (mg : Str → Option Value) (base : Heap) (N : List Str) (x : Str) (stQ : Stmt) (f : Addr) (cdv : Value) (A : Around) (outer : List PySem.Env) (s : Shared) (H : Hp) (E : XK) : Cx :=
 cxOf (L2.CX P w) P w K mg base N x (defScope stQ) f cdv A outer s H E
def Good (P : Program) (w : World) (K : PySem.W.Frag) (mg : Str → Option Value) (base : Heap) (G : Gi) (Φ : Ph) (k : Nat) (N : List Str) (x : Str) (stQ : Stmt) (cQ : CS) : Prop :=
 ∀ (f : Addr) (cdv : Value) (A : Around) (outer : List PySem.Env) (s : Shared) (H : Hp) (E : XK), Room (2 * k + 1) (jEa P w K mg base N x stQ f cdv A outer s H E).A →
  SSs (jEa P w K mg base N x stQ f cdv A outer s H E) G (fun cls d _ H => E cls d H) Φ (defBody stQ) cQ
theorem wS.end {W : XK} {ρ : List Addr} {H : Hp} {r : RS} {Q : VK} (x : wF G ρ H (endS r) Q W) : wS G (fun cls d _ H => W cls d H) ρ H r { nx := fun _ H' => Q .non H', rt := Q } := by
 cases r with
 | nx σQ h => exact fun ρ' H' σ' eQ s _ => x ρ' H' .non eQ s (.p .non)
 | rt v h => exact x
 | bk σQ h => exact x.elim
 | ct σQ h => exact x.elim
 | ex cQ v σQ h => exact fun ρ' H' σ' cls dd eQ s _ r => x ρ' H' cls dd eQ s r
 | bad => exact x
theorem FnOk.sub {f : Addr} {fd : FuncData} {ps : List Str} {k : Nat} {s1Q s2 : Sp} (F : FnOk P w K mg base (L2.CX P w) k f fd ps s1Q) (zQ : ∀ vs H Q E, s2 vs H Q E → s1Q vs H Q E) : FnOk P w K mg base (L2.CX P w) k f fd ps s2 :=
 ⟨fun vs H Q E h => F.1 vs H Q E (zQ _ _ _ _ h), fun A outer s H args us vs Q E hr e0 btQ r h => F.2 A outer s H args us vs Q E hr e0 btQ r (zQ _ _ _ _ h)⟩
theorem jH0 (r : RE) : jEB r = r ∨ jEB r = RE.rec (motive := fun _ => RE) (fun v h' => impD v h' e0) (fun cQ x _ => .ex cQ x e0) .bad r := by
 cases r with
 | bad => exact .inl rfl
 | ex cQ x h => exact .inr rfl
 | ok v h =>
  cases v with
  | p x => exact .inr rfl
  | mt l => exact .inl rfl
  | ref k =>
   show jBh h k _ _ = _ ∨ jBh h k _ _ = jBh h k _ _
   unfold jBh
   cases h.get k with
   | none => exact .inl rfl
   | some o =>
    show Bool.rec (motive := fun _ => RE) _ _ (lone o) = _ ∨ Bool.rec (motive := fun _ => RE) _ _ (lone o) = Bool.rec (motive := fun _ => RE) _ _ (lone o)
    cases lone o with
    | true => exact .inr rfl
    | false => exact .inl rfl
theorem wF_wE {ρ : List Addr} {H : Hp} {r : RE} {Q : VK} {E : XK} (σQ : St) (x : wF G ρ H r Q E) : wE G (fun cls dd _ H => E cls dd H) ρ H σQ r Q := by
 cases r with
 | ok d h => exact x
 | ex cQ y h => exact x
 | bad => exact x
theorem apart_t {l : List D} {h : EH} (q : jFi l h = true) : h.n = 0 ∧ jB2 l = true := by
 obtain ⟨n, t⟩ := h
 have q : Bool.rec (motive := fun _ => Bool) false (jB2 l) (Nat.beq n 0) = true := q
 cases zQ : Nat.beq n 0 with
 | false => rw [zQ] at q; cases q
 | true => rw [zQ] at q; exact ⟨Nat.eq_of_beq_eq_true zQ, q⟩
theorem runT_sp {ar : Nat} {g : Fn} {Φ : Ph} : ∀ vs H Q E, spF G ar (runT g Φ) vs H Q E → spF G ar (runF g Φ) vs H Q E := fun vs H Q E ⟨hn, ρ, dsQ, h, r, S, x⟩ => by
 unfold runT at x
 cases q : jFi dsQ h with
 | false => rw [q] at x; exact ⟨hn, ρ, dsQ, h, r, S, x⟩
 | true =>
  obtain ⟨h0, hpQ⟩ := apart_t q
  rw [q] at x
  have x : wF G ρ H (jEB (runF g Φ dsQ e0)) Q E := x
  have eQ : ρ = [] := List.eq_nil_of_length_eq_zero (by rw [S.len, ← S.n]; exact h0)
  subst eQ
  rcases jH0 (runF g Φ dsQ e0) with zQ | zQ
  ·rw [zQ] at x; exact ⟨hn, [], dsQ, e0, r, S.empty, x⟩
  ·rw [zQ] at x
   have y : jA8 (runF g Φ) dsQ e0 = RE.rec (motive := fun _ => RE) (fun v h' => impD v h' e0) (fun cQ x _ => .ex cQ x e0) .bad (runF g Φ dsQ e0) := by
    unfold jA8
    rw [hpQ]
   rw [← y] at x
   exact wE.call (W := fun cls dd _ H => E cls dd H) (σQ := []) hn S.empty r (wF_wE [] x)
theorem fa_all {n : Nat} {T : Nat → Option Fn} {wh : Nat → Who} (ar : ∀ j, j < n → ∃ (f : Addr) (fd : FuncData) (ps : List Str) (g : Fn), T j = some g ∧ g.ar = ps.length ∧ WhOk K mg G (wh j) f j ∧ Binds K fd ps [] ∧ (∀ q ∈ G.kb j, KbOk K G fd ps q) ∧
   ∀ (k : Nat) (Φ : Ph), (∀ i, i < n → FX P w K mg base G Φ k (wh i) i) → FnOk P w K mg base (L2.CX P w) (2 * (k + 1)) f fd ps (spF G ps.length (runF g Φ))) :
  ∀ k j, j < n → FX P w K mg base G (lev T k) k (wh j) j
 | 0, j, hj => by
  obtain ⟨f, fd, ps, g, _, _, hm, hb, kb, _⟩ := ar j hj
  refine ⟨f, fd, ps, ⟨fun vs H Q E h => h.1, fun A outer s H args us vs Q E hr e0 btQ r h => ?_⟩, hm, hb, fun l h zQ => rfl, kb⟩
  obtain ⟨_, ρ, dsQ, h, r, S1, x⟩ := h
  exact False.elim x
 | k + 1, j, hj => by
  obtain ⟨f, fd, ps, g, hT, hg, hm, hb, kb, zQ⟩ := ar j hj
  have eQ : ∀ l h, lev T (k + 1) j l h = runT g (lev T k) l h := fun l h => by
   show Option.rec (motive := fun _ => RE) .bad (fun g => runT g (lev T k) l h) (T j) = _
   rw [hT]
  have eQ' : lev T (k + 1) j = runT g (lev T k) := funext fun l => funext fun h => eQ l h
  refine ⟨f, fd, ps, ?_, hm, hb, fun l h q => ?_, kb⟩
  ·rw [eQ']
   exact FnOk.sub (zQ k (lev T k) (fun i hi => fa_all ar k i hi)) runT_sp
  ·rw [eQ]
   have rb : ∀ h, runF g (lev T k) l h = .bad := fun h => by
    unfold runF
    rw [jAx, hg]
    have : Nat.beq l.length ps.length = false := by
     cases b : Nat.beq l.length ps.length with
     | true => exact absurd (Nat.eq_of_beq_eq_true b) q
     | false => rfl
    rw [this]
   unfold runT
   rw [rb, rb]
   cases jFi l h <;> rfl
end
end Mi

namespace Mi
open PySem PySem.Spec L2
open PyProof.Rows hiding St
def Src (K : PySem.W.Frag) (H : Hp) (b : Bool) (a : Addr) (xs : List V) : Prop := if b = true then SqT K H a xs else SqL K H a xs
def ItOn (b : Bool) (h : Heap) (it a : Addr) (i : Nat) : Prop := if b = true then h.IsTupleIter it a i else h.IsListIter it a i
def IsOn (b : Bool) (h : Heap) (a : Addr) (us : Array Value) : Prop := if b = true then h.IsTuple a us else h.IsList a us
def objOn (b : Bool) (a : Addr) : Obj := if b = true then { cls := .type "tuple_iterator", data := .fields #[.ref a, .int 0 0] } else { cls := .type "list_iterator", data := .fields #[.ref a, .int 0 0] }
theorem jEb (b : Bool) (a : Addr) (us : Array Value) : Begins (.ref a) (objOn b a) fun h => IsOn b h a us := by
 cases b with
 | true => exact begins_tuple a us
 | false => exact begins_list a us
theorem jCu {P : Program} {w : World} {A : Around} (b : Bool) (hh : A.handled = none) (it a : Addr) (hne : a ≠ it) (us : Array Value) : Draws P w A it [it, a] us.size (fun i v => us[i]? = some v) (fun i h => ItOn b h it a i ∧ IsOn b h a us) := by
 cases b with
 | true => exact Draws.tuple hh it a hne us
 | false => exact Draws.list hh it a hne us
theorem jD1 {b : Bool} {h : Heap} {it a : Addr} {i : Nat} (x : ItOn b h it a i) : ∃ o, h.get? it = some o ∧ ∀ v, o.data ≠ .cell v := by
 cases b with
 | true =>
  obtain ⟨o, eQ, cQ, d⟩ := (x : h.IsTupleIter it a i)
  exact ⟨o, eQ, fun v q => by rw [d] at q; cases q⟩
 | false =>
  obtain ⟨o, eQ, cQ, d⟩ := (x : h.IsListIter it a i)
  exact ⟨o, eQ, fun v q => by rw [d] at q; cases q⟩
theorem jGr {b : Bool} {h h' : Heap} {it a : Addr} {i : Nat} (x : ItOn b h it a i) (k : ∀ o, h.get? it = some o → h'.get? it = some o) : ItOn b h' it a i := by
 cases b with
 | true => exact (x : h.IsTupleIter it a i).at k
 | false => exact (x : h.IsListIter it a i).at k
theorem jEV {b : Bool} {h : Heap} {it a : Addr} (eQ : h.get? it = some (objOn b a)) : ItOn b h it a 0 := by
 cases b with
 | true => exact ⟨_, eQ, rfl, rfl⟩
 | false => exact ⟨_, eQ, rfl, rfl⟩
section
variable {X : Cx} {pins : List (Addr × Obj)} {σQ : St} {H : Hp} {s : Shared}
theorem jCH {b : Bool} {a : Addr} {xs : List V} (I : Inv X pins σQ H s) (q : Src X.K H b a xs) : ∃ us, Vals xs us ∧ IsOn b s.heap a us.toArray ∧ a < s.heap.objs.size := by
 cases b with
 | true =>
  obtain ⟨us, rv, p, _⟩ := I.tuple (q : SqT X.K H a xs)
  obtain ⟨o, hoQ, _⟩ := id p
  exact ⟨us, rv, p, Heap.lt_size hoQ⟩
 | false =>
  obtain ⟨us, rv, p, _⟩ := I.list (q : SqL X.K H a xs)
  exact ⟨us, rv, p.isList, p.lt⟩
theorem jGc {b : Bool} {a : Addr} {xs ys : List V} (I : Inv X pins σQ H s) (q : Src X.K H b a xs) (r : Src X.K H b a ys) : xs = ys := by
 cases b with
 | true => exact I.tuple_inj q r
 | false => exact I.list_inj q r
theorem jF4 {tg : Expr} {it : Addr} {fpG wr : List Addr} {n i : Nat} {Y : Nat → Heap → Value → Heap → Prop} {St : Nat → Heap → Prop} {xs : List V} {Pq : V → Hp → Heap → Prop} {E : Value → Shared → Prop} (I : Inv X pins σQ H s) (Wk : GoesN X.prog X.w X.A tg it fpG wr n Y St) (hi : i < n) (stQ : St i s.heap)
  (hf : ∀ b ∈ wr, FpOk X pins H b) (hl : xs.length ≤ sizeLine) (hY : ∀ v h', Y i s.heap v h' → ∃ T us, v = .ref T ∧ s.heap.objs.size ≤ T ∧ h'.IsTuple T us ∧ Vals xs us.toList)
  (fin : ∀ T h', s.heap.objs.size ≤ T → H T = none → St (i + 1) h' → Pq (.ref T) (upd H T (.tup xs)) h') :
  wpAny (model X.prog X.w) X.A (pyNext (.ref it)) (fun r s1Q => ∃ u, r = some u ∧ wpAny (model X.prog X.w) X.A (letOwnedTupleGo tg (.ref it) u) (fun _ s2 => ∃ x H', Inv X pins σQ H' s2 ∧ RelV x u ∧ Pq x H' s2.heap) E s1Q) E s := by
 refine Wk.goes i s (fun u s2 => ∃ x H', Inv X pins σQ H' s2 ∧ RelV x u ∧ Pq x H' s2.heap) E hi stQ fun v h' tk y st' hk htk => ?_
 obtain ⟨T, us, ev, hT, ht, rv⟩ := hY v h' y
 subst ev
 have new : ObjOk X.prog X.w (upd H T (.tup xs)) h' T (.tup xs) := ⟨hl, us.toList, rv, ht⟩
 exact ⟨.ref T, _, I.turnedNew (ch := wr) hk hf hT new, rfl, fin T h' hT (I.hok.fresh hT) st'⟩
theorem jFJ {tg : Expr} {it : Addr} {fpG wr : List Addr} {n : Nat} {Y : Nat → Heap → Value → Heap → Prop} {St : Nat → Heap → Prop} {E : Value → Shared → Prop} (I : Inv X pins σQ H s) (Wk : GoesN X.prog X.w X.A tg it fpG wr n Y St) (stQ : St n s.heap)
  (hf : ∀ b ∈ wr, FpOk X pins H b) : wpAny (model X.prog X.w) X.A (pyNext (.ref it)) (fun r s1Q => r = none ∧ Inv X pins σQ H s1Q) E s :=
 Wk.stops s (fun s1Q => Inv X pins σQ H s1Q) E stQ fun h' tk hk htk => I.turnedL (ch := wr) hk hf
end
def IteS (K : PySem.W.Frag) (b : Bool) (a : Addr) : L2.It :=
 ⟨fun i H => ∃ (xs : List V), Src K H b a xs ∧ i < xs.length, fun i H v H' => ∃ T x, v = .ref T ∧ H T = none ∧ H' = upd H T (.tup [.int (i : Nat), x]) ∧ ∀ xs, Src K H b a xs → xs[i]? = some x, fun i H => ∃ xs : List V, Src K H b a xs ∧ xs.length = i⟩
theorem jHx {P : Program} {w : World} {K : PySem.W.Frag} {elts : List Expr} {kk : Nat} {tpos : Pos} (b : Bool) (a eQ it : Addr) (hai : a ≠ it) (hae : a ≠ eQ) :
  Turn P w K (.Tuple elts kk tpos) (IteS K b a) [eQ, it] eQ (fun i h => (∃ old, IsEnum h eQ it ((i : Nat) : Int) old) ∧ ItOn b h it a i ∧ eQ ≠ it) where
 mem := by simp
 obj := fun i h stQ cQ hc => by
  obtain ⟨⟨old, he⟩, hi, _⟩ := stQ
  have eQ' : cQ = eQ ∨ cQ = it := by simpa using hc
  rcases eQ' with zQ | zQ
  ·rw [zQ]; exact ⟨_, he, fun v q => nomatch q⟩
  ·rw [zQ]; exact jD1 hi
 keep := fun i h h' stQ k => let ⟨⟨old, he⟩, hi, hne⟩ := stQ; ⟨⟨old, k eQ (by simp) _ he⟩, jGr hi fun o q => k it (by simp) o q, hne⟩
 item := by
  intro X hP hw hK hc i pins s σQ H E I hf stQ hg
  subst hP hw hK
  obtain ⟨⟨old, he⟩, hit, hne⟩ := stQ
  obtain ⟨xs, hq, hxQ⟩ := hg
  obtain ⟨us, rv, p, pl⟩ := jCH I hq
  have hd := I.ok.hd hc
  have D := jCu (P := X.prog) (w := X.w) (A := X.A.in1) b hd it a hai us.toArray
  have Wk := GoesN.enumFrom (elts := elts) (x1 := kk) (pos := tpos) 0 D eQ hne (by simp; exact ⟨hne, fun zQ => hae zQ.symm⟩) (by simp)
  obtain ⟨u, hu, ru⟩ := rv.get (List.getElem?_eq_getElem hxQ)
  refine wpAny_mono (jF4 (xs := [.int (i : Nat), xs[i]]) (Pq := fun x H' h' => (IteS X.K b a).yld i H x H' ∧ ((∃ old, IsEnum h' eQ it ((i + 1 : Nat) : Int) old) ∧ ItOn b h' it a (i + 1) ∧ eQ ≠ it) ∧ ∀ cQ ∈ [eQ, it], H' cQ = none) (E := E) I Wk (by simp [← rv.length]; exact hxQ)
   ⟨⟨old, by rw [Int.zero_add]; exact he⟩, hit, p⟩ hf (by show 2 ≤ sizeLine; decide) (fun v h' y => ?_) fun T h' hT hn st' => ?_) (fun r s1Q zQ => zQ) fun _ _ zQ => zQ
  ·obtain ⟨T, t, x, ev, hT, hx', ht⟩ := y
   refine ⟨T, _, ev, hT, ht, .cons ⟨t, by rw [Int.zero_add]⟩ (.cons ?_ .nil)⟩
   have : us[i]? = some x := by simpa using hx'
   rw [hu] at this
   cases this
   exact ru
  ·obtain ⟨⟨old', he'⟩, hit', _⟩ := st'
   refine ⟨⟨T, xs[i], rfl, hn, rfl, fun ys hy => by rw [jGc I hy hq]; exact List.getElem?_eq_getElem hxQ⟩, ⟨⟨old', by rw [Int.zero_add] at he'; exact he'⟩, hit', hne⟩, fun cQ hc' => ?_⟩
   have hc1 : cQ < s.heap.objs.size := by
    have eQ' : cQ = eQ ∨ cQ = it := by simpa using hc'
    rcases eQ' with zQ | zQ
    ·rw [zQ]; exact Heap.lt_size he
    ·rw [zQ]; obtain ⟨o, q, _⟩ := jD1 hit; exact Heap.lt_size q
   rw [upd_ne (Nat.ne_of_lt (Nat.lt_of_lt_of_le hc1 hT))]
   exact (hf cQ hc').1
 done := by
  intro X hP hw hK hc i pins s σQ H E I hf stQ hg
  subst hP hw hK
  obtain ⟨⟨old, he⟩, hit, hne⟩ := stQ
  obtain ⟨xs, hq, hxQ⟩ := hg
  obtain ⟨us, rv, p, pl⟩ := jCH I hq
  have hd := I.ok.hd hc
  have D := jCu (P := X.prog) (w := X.w) (A := X.A.in1) b hd it a hai us.toArray
  have Wk := GoesN.enumFrom (elts := elts) (x1 := kk) (pos := tpos) 0 D eQ hne (by simp; exact ⟨hne, fun zQ => hae zQ.symm⟩) (by simp)
  have hn : us.toArray.size = i := by simp [← rv.length]; exact hxQ
  exact jFJ I Wk (by rw [hn]; exact ⟨⟨old, by rw [Int.zero_add]; exact he⟩, hit, p⟩) hf
 self := fun A i s Q E stQ h => let ⟨⟨_, he⟩, _⟩ := stQ; wpAny_pyIter_enum he h
theorem jCv {v : Value} {o : Obj} {H : Heap → Prop} (B : Begins v o H) :
  Meets (Builtin.«enumerate.__new__» ⟨[.type "enumerate", v], []⟩) (fun _ R s => H s.heap ∧
   R (.ok (.ret (.ref (s.heap.push o).objs.size))) { s with heap := (s.heap.push o).push { cls := .type "enumerate", data := .fields #[.none, .bool false, .ref s.heap.objs.size, rawInt 0, .none, .none] } }) :=
 .of_wp fun prog w A R s h =>
  by
  obtain ⟨hpQ, g, d, tk, os⟩ := s; obtain ⟨h1, h⟩ := h
  have hsub := sub_enumerate
  have q1 : ∀ {A' : Around} {E : Value → Shared → Prop} {Q : Value → Shared → Prop}, Q (.ref hpQ.objs.size) ⟨hpQ.push o, g, d, tk, os⟩ → wpAny (model prog w) A' (pyIter v) Q E ⟨hpQ, g, d, tk, os⟩ :=
   fun q => B.iter prog w _ _ ⟨hpQ, g, d, tk, os⟩ _ h1 q
  wp_walk using q1
  refine wpAny_stack_any fun stQ => wpAny_pure ?_
  split
  ·rename_i cQ _ _ _ _ _
   cases (cQ == Value.type "enumerate")
   ·wp_walk using q1
    exact ⟨_, rfl, h⟩
   ·wp_walk using q1
    exact ⟨_, rfl, h⟩
  ·wp_walk using q1
   exact ⟨_, rfl, h⟩
theorem jFI {prog : Program} {w : World} {A : Around} {E : Value → Shared → Prop} {s : Shared} {v : Value} {o : Obj} {H : Heap → Prop} {Q : Value → Shared → Prop} (B : Begins v o H) (h1 : H s.heap)
  (h : ∀ h', IsEnum h' (s.heap.objs.size + 1) s.heap.objs.size 0 .none → h'.get? s.heap.objs.size = some o → h'.objs.size = s.heap.objs.size + 2 → (∀ b o, s.heap.get? b = some o → h'.get? b = some o) → Q (.ref (s.heap.objs.size + 1)) { s with heap := h' }) :
  wpAny (model prog w) A (call (.type "enumerate") [v]) Q E s := by
 refine callType_new F.called_enumerate (by decide) (F.typeCall_enumerate_1 _) (F.newCall_enumerate_1 _) (fun obj =>
    F.args_object_init_2 obj _) F.entry_enumerate_new
  (jCv B) ⟨h1, ?_⟩
 have hzQ : (s.heap.push o).objs.size = s.heap.objs.size + 1 := Heap.size_push ..
 show _ ∧ _
 rw [hzQ]
 have he : IsEnum ((s.heap.push o).push { cls := .type "enumerate", data := .fields #[.none, .bool false, .ref s.heap.objs.size, rawInt 0, .none, .none] }) (s.heap.objs.size + 1) s.heap.objs.size 0 .none := by
  have := Heap.get?_push_size (s.heap.push o) (o := { cls := .type "enumerate", data := .fields #[.none, .bool false, .ref s.heap.objs.size, rawInt 0, .none, .none] }) rfl
  rw [hzQ] at this; exact this
 refine ⟨⟨_, he, rfl⟩, h _ he (Heap.get?_push_of_some _ (Heap.get?_push_size _ B.free)) (by rw [Heap.size_push, hzQ]) fun b o x => Heap.get?_push_of_some _ (Heap.get?_push_of_some _ x)⟩
def iEnumS (K : PySem.W.Frag) (ta : TA) : TI := fun σQ H R => ta σQ H fun vs H1 => ∃ b a xs, vs = [.ref a] ∧ Src K H1 b a xs ∧ R (IteS K b a) H1
theorem pi_enumS {X : Cx} {eQ : Expr} {ta : TA} {p pos tpos : Pos} {elts : List Expr} {kk : Nat} (hg : Gl X "enumerate") (hm : X.mg "enumerate" = none) (ha : PA X [eQ] ta) (hs : starEach [eQ] X.env = [(false, eval eQ X.env)] := by rfl) :
  PI X (.Tuple elts kk tpos) (.Call (.Name "enumerate" p) [eQ] [] pos) (iEnumS X.K ta) := by
 refine ⟨fun pins s σQ H R I h => ?_⟩
 refine Call_ (ld_blt I hg hm boot_enumerate (PyProof.Rows.callWith_type1 (thn (ha.run pos pins s σQ H _ I h) fun us s1Q ⟨vs, H1, I1Q, r1, q1⟩ => ?_) hs rfl))
 obtain ⟨b, a, xs, ex, hq, q⟩ := q1
 subst ex
 cases r1 with
 | cons r rr =>
  cases rr
  cases r
  obtain ⟨us, rv, p', pl⟩ := jCH I1Q hq
  refine jFI (jEb b a us.toArray) p' fun h' he hit hsz hk => wpAny_pyIter_enum he ?_
  have I2 : Inv X pins σQ H1 { s1Q with heap := h' } := I1Q.kept (t' := s1Q.toks) hk
  refine ⟨s1Q.heap.objs.size + 1, [s1Q.heap.objs.size + 1, s1Q.heap.objs.size], _, _, H1, rfl, I2, jHx b a (s1Q.heap.objs.size + 1) s1Q.heap.objs.size (Nat.ne_of_lt pl) (Nat.ne_of_lt (Nat.lt_succ_of_lt pl)), ⟨⟨.none, he⟩, jEV hit, Nat.succ_ne_self _⟩, fun b hb => ?_, q⟩
  have eQ' : b = s1Q.heap.objs.size + 1 ∨ b = s1Q.heap.objs.size := by simpa using hb
  have hle : s1Q.heap.objs.size ≤ b := by
   rcases eQ' with zQ | zQ
   ·rw [zQ]; exact Nat.le_add_right _ _
   ·rw [zQ]; exact Nat.le_refl _
  exact I1Q.fpOk hle (I1Q.hok.fresh hle)
theorem zipSep0 {a1 a2 N : Nat} (h1 : a1 < N) (h2 : a2 < N) : ZipSep2 (N + 4) (N + 2) (N + 3) N (N + 1) [N, a1] [N + 1, a2] := by
 have nin : ∀ {x y zQ : Nat}, x ≠ y → x ≠ zQ → ¬ (x : Addr) ∈ ([y, zQ] : List Addr) := fun h1 h2 q => by
  rcases List.mem_cons.mp q with q | q
  ·exact h1 q
  ·exact h2 (List.mem_singleton.mp q)
 exact ⟨show (N + 2 : Nat) ≠ N + 4 by omega, show (N + 3 : Nat) ≠ N + 4 by omega, show (N + 2 : Nat) ≠ N + 3 by omega, show (N + 2 : Nat) ≠ N by omega, List.mem_cons_self, nin (by omega) (by omega), nin (by omega) (by omega),
  show (N + 2 : Nat) ≠ N + 1 by omega, List.mem_cons_self, nin (by omega) (by omega), nin (by omega) (by omega), nin (by omega) (by omega), nin (by omega) (by omega)⟩
theorem zipSep {a1 a2 N : Addr} (l1 : a1 < N) (l2 : a2 < N) : ZipSep2 (N + 4) (N + 2) (N + 3) N (N + 1) [N, a1] [N + 1, a2] := zipSep0 l1 l2
theorem sub4 {N : Addr} : ∀ b ∈ [N + 4, N + 3, N, N + 1], b ∈ [N + 4, N + 2, N + 3, N, N + 1] := fun b hb => by
 have eQ : b = N + 4 ∨ b = N + 3 ∨ b = N ∨ b = N + 1 := by simpa using hb
 rcases eQ with eQ | eQ | eQ | eQ <;> rw [eQ] <;> simp
theorem all5 {N m : Addr} (h : N + 4 < m) : ∀ b ∈ [N + 4, N + 2, N + 3, N, N + 1], b < m := fun b hb => by
 have eQ : b = N + 4 ∨ b = N + 2 ∨ b = N + 3 ∨ b = N ∨ b = N + 1 := by simpa using hb
 have h' : Nat.add N 4 < m := h
 rcases eQ with eQ | eQ | eQ | eQ | eQ <;> rw [eQ] <;> first | exact h | exact Nat.lt_of_le_of_lt (Nat.add_le_add_left (by decide) N) h | exact Nat.lt_of_le_of_lt (Nat.le_add_right N 4) h
def ItzS (K : PySem.W.Frag) (b1 : Bool) (a1 : Addr) (b2 : Bool) (a2 : Addr) : L2.It :=
 ⟨fun i H => ∃ (xs ys : List V), Src K H b1 a1 xs ∧ Src K H b2 a2 ys ∧ i < xs.length ∧ i < ys.length,
  fun i H v H' => ∃ T x y, v = .ref T ∧ H T = none ∧ H' = upd H T (.tup [x, y]) ∧ (∀ xs, Src K H b1 a1 xs → xs[i]? = some x) ∧ ∀ ys, Src K H b2 a2 ys → ys[i]? = some y,
  fun i H => ∃ xs ys : List V, Src K H b1 a1 xs ∧ Src K H b2 a2 ys ∧ min xs.length ys.length = i⟩
theorem jHJ {P : Program} {w : World} {K : PySem.W.Frag} {elts : List Expr} {kk : Nat} {tpos : Pos} (b1 b2 : Bool) (a1 a2 N : Addr) (l1 : a1 < N) (l2 : a2 < N) :
  Turn P w K (.Tuple elts kk tpos) (ItzS K b1 a1 b2 a2) [N + 4, N + 2, N + 3, N, N + 1] (N + 4) (fun i h => IsZip h (N + 4) (N + 2) (N + 3) .none ∧ IsTupOf2 h (N + 2) (.ref N) (.ref (N + 1)) ∧ (∃ x y, IsTupOf2 h (N + 3) x y) ∧ ItOn b1 h N a1 i ∧ ItOn b2 h (N + 1) a2 i) where
 mem := by simp
 obj := fun i h stQ cQ hc => by
  obtain ⟨hzQ, hTIQ, ⟨x, y, hTOQ⟩, h1, h2⟩ := stQ
  have eQ' : cQ = N + 4 ∨ cQ = N + 2 ∨ cQ = N + 3 ∨ cQ = N ∨ cQ = N + 1 := by simpa using hc
  rcases eQ' with q | q | q | q | q
  ·rw [q]; exact ⟨_, hzQ, fun v q => nomatch q⟩
  ·rw [q]; exact ⟨_, hTIQ, fun v q => nomatch q⟩
  ·rw [q]; exact ⟨_, hTOQ, fun v q => nomatch q⟩
  ·rw [q]; exact jD1 h1
  ·rw [q]; exact jD1 h2
 keep := fun i h h' stQ k => by
  obtain ⟨hzQ, hTIQ, ⟨x, y, hTOQ⟩, h1, h2⟩ := stQ
  exact ⟨k _ (by simp) _ hzQ, k _ (by simp) _ hTIQ, ⟨x, y, k _ (by simp) _ hTOQ⟩, jGr h1 fun o q => k _ (by simp) o q, jGr h2 fun o q => k _ (by simp) o q⟩
 item := by
  intro X hP hw hK hc i pins s σQ H E I hf stQ hg
  subst hP hw hK
  obtain ⟨hzQ, hTIQ, hTOQ, h1, h2⟩ := stQ
  obtain ⟨xs, ys, hq1, hq2, hxQ, hy⟩ := hg
  obtain ⟨us, rv, p, pl⟩ := jCH I hq1
  obtain ⟨us2, rv2, p2, pl2⟩ := jCH I hq2
  have hd := I.ok.hd hc
  have D1 := jCu (P := X.prog) (w := X.w) (A := X.A.in1) b1 hd N a1 (Nat.ne_of_lt l1) us.toArray
  have D2 := jCu (P := X.prog) (w := X.w) (A := X.A.in1) b2 hd (N + 1) a2 (Nat.ne_of_lt (Nat.lt_succ_of_lt l2)) us2.toArray
  have Wk := GoesN.zip2 (elts := elts) (x1 := kk) (pos := tpos) (zipSep l1 l2) D1 D2
  obtain ⟨u, hu, ru⟩ := rv.get (List.getElem?_eq_getElem hxQ)
  obtain ⟨u2, hu2, ru2⟩ := rv2.get (List.getElem?_eq_getElem hy)
  have hzl : N + 4 < s.heap.objs.size := Heap.lt_size hzQ
  refine wpAny_mono (jF4 (xs := [xs[i], ys[i]]) (Pq := fun x H' h' => (ItzS X.K b1 a1 b2 a2).yld i H x H' ∧ (IsZip h' (N + 4) (N + 2) (N + 3) .none ∧ IsTupOf2 h' (N + 2) (.ref N) (.ref (N + 1)) ∧ (∃ x y, IsTupOf2 h' (N + 3) x y) ∧ ItOn b1 h' N a1 (i + 1) ∧ ItOn b2 h' (N + 1) a2 (i + 1)) ∧ ∀ cQ ∈ [N + 4, N + 2, N + 3, N, N + 1], H' cQ = none) (E := E) I Wk (by have e1 := rv.length; have e2 := rv2.length; simp only [List.size_toArray]; rw [← e1, ← e2]; exact Nat.lt_min.mpr ⟨hxQ, hy⟩)
   ⟨hzQ, hTIQ, hTOQ, ⟨h1, p⟩, h2, p2⟩ (fun b hb => hf b (sub4 b hb)) (by show 2 ≤ sizeLine; decide) (fun v h' y => ?_) fun T h' hT hn st' => ?_) (fun r s1Q zQ => zQ) fun _ _ zQ => zQ
  ·obtain ⟨T, x, y, ev, hT, hx', hy', ht⟩ := y
   refine ⟨T, _, ev, hT, ht, .cons ?_ (.cons ?_ .nil)⟩
   ·have : us[i]? = some x := by simpa using hx'
    rw [hu] at this
    cases this
    exact ru
   ·have : us2[i]? = some y := by simpa using hy'
    rw [hu2] at this
    cases this
    exact ru2
  ·obtain ⟨hz', hTI', hTO', ⟨h1', _⟩, h2', _⟩ := st'
   refine ⟨⟨T, xs[i], ys[i], rfl, hn, rfl, fun zs hy => by rw [jGc I hy hq1]; exact List.getElem?_eq_getElem hxQ, fun zs hzQ => by rw [jGc I hzQ hq2]; exact List.getElem?_eq_getElem hy⟩, ⟨hz', hTI', hTO', h1', h2'⟩, fun cQ hc' => ?_⟩
   have hc1 : cQ < s.heap.objs.size := all5 hzl cQ hc'
   rw [upd_ne (Nat.ne_of_lt (Nat.lt_of_lt_of_le hc1 hT))]
   exact (hf cQ hc').1
 done := by
  intro X hP hw hK hc i pins s σQ H E I hf stQ hg
  subst hP hw hK
  obtain ⟨hzQ, hTIQ, hTOQ, h1, h2⟩ := stQ
  obtain ⟨xs, ys, hq1, hq2, hxQ⟩ := hg
  obtain ⟨us, rv, p, pl⟩ := jCH I hq1
  obtain ⟨us2, rv2, p2, pl2⟩ := jCH I hq2
  have hd := I.ok.hd hc
  have D1 := jCu (P := X.prog) (w := X.w) (A := X.A.in1) b1 hd N a1 (Nat.ne_of_lt l1) us.toArray
  have D2 := jCu (P := X.prog) (w := X.w) (A := X.A.in1) b2 hd (N + 1) a2 (Nat.ne_of_lt (Nat.lt_succ_of_lt l2)) us2.toArray
  have Wk := GoesN.zip2 (elts := elts) (x1 := kk) (pos := tpos) (zipSep l1 l2) D1 D2
  have hn : min us.toArray.size us2.toArray.size = i := by have e1 := rv.length; have e2 := rv2.length; simp only [List.size_toArray]; rw [← e1, ← e2]; exact hxQ
  exact jFJ I Wk (by rw [hn]; exact ⟨hzQ, hTIQ, hTOQ, ⟨h1, p⟩, h2, p2⟩) fun b hb => hf b (sub4 b hb)
 self := fun A i s Q E stQ h => wpAny_pyIter_zip stQ.1 h
def iZipS (K : PySem.W.Frag) (ta : TA) : TI := fun σQ H R => ta σQ H fun vs H1 => ∃ b1 a1 b2 a2 xs ys, vs = [.ref a1, .ref a2] ∧ Src K H1 b1 a1 xs ∧ Src K H1 b2 a2 ys ∧ R (ItzS K b1 a1 b2 a2) H1
theorem pi_zipS {X : Cx} {eQ e2 : Expr} {ta : TA} {p pos tpos : Pos} {elts : List Expr} {kk : Nat} (hg : Gl X "zip") (hm : X.mg "zip" = none) (ha : PA X [eQ, e2] ta)
  (hs : starEach [eQ, e2] X.env = (false, eval eQ X.env) :: starEach [e2] X.env := by rfl) (hpl : (backTo pos (starEach [e2] X.env)).any (·.1) = false := by rfl) :
  PI X (.Tuple elts kk tpos) (.Call (.Name "zip" p) [eQ, e2] [] pos) (iZipS X.K ta) := by
 refine ⟨fun pins s σQ H R I h => ?_⟩
 refine Call_ (ld_blt I hg hm PyProof.Rows.boot_zip (PyProof.Rows.callWith_type1 (thn (ha.run pos pins s σQ H _ I h) fun us s1Q ⟨vs, H1, I1Q, r1, q1⟩ => ?_) hs hpl))
 obtain ⟨b1, a1, b2, a2, xs, ys, ex, hq1, hq2, q⟩ := q1
 subst ex
 cases r1 with
 | cons r rr =>
  cases rr with
  | cons r' rr =>
   cases rr
   cases r
   cases r'
   have fresh5 : ∀ cQ, cQ ∈ [s1Q.heap.objs.size + 4, s1Q.heap.objs.size + 2, s1Q.heap.objs.size + 3, s1Q.heap.objs.size, s1Q.heap.objs.size + 1] → FpOk X pins H1 cQ := fun cQ hcm => by
    have hle : s1Q.heap.objs.size ≤ cQ := by
     have eQ' : cQ = s1Q.heap.objs.size + 4 ∨ cQ = s1Q.heap.objs.size + 2 ∨ cQ = s1Q.heap.objs.size + 3 ∨ cQ = s1Q.heap.objs.size ∨ cQ = s1Q.heap.objs.size + 1 := by simpa using hcm
     rcases eQ' with zQ | zQ | zQ | zQ | zQ <;> rw [zQ] <;> first | exact Nat.le_add_right _ _ | exact Nat.le_refl _
    exact I1Q.fpOk hle (I1Q.hok.fresh hle)
   obtain ⟨us, rv, p1, pl⟩ := jCH I1Q hq1
   obtain ⟨us2, rv2, p2, pl2⟩ := jCH I1Q hq2
   refine zip_begins2 (jEb b1 a1 us.toArray) (jEb b2 a2 us2.toArray) p1 p2 fun h' hzQ hTIQ hTOQ g1 g2Q hsz hk => wpAny_pyIter_zip hzQ ?_
   have I2 : Inv X pins σQ H1 { s1Q with heap := h' } := I1Q.kept (t' := s1Q.toks) hk
   exact ⟨s1Q.heap.objs.size + 4, [s1Q.heap.objs.size + 4, s1Q.heap.objs.size + 2, s1Q.heap.objs.size + 3, s1Q.heap.objs.size, s1Q.heap.objs.size + 1], _, _, H1, rfl, I2, jHJ b1 b2 a1 a2 s1Q.heap.objs.size pl pl2, ⟨hzQ, hTIQ, ⟨_, _, hTOQ⟩, jEV g1, jEV g2Q⟩, fresh5, q⟩
def ItzW (K : PySem.W.Frag) (b1 : Bool) (a1 : Addr) (b2 : Bool) (a2 : Addr) (b3 : Bool) (a3 : Addr) : L2.It :=
 ⟨fun i H => ∃ (xs ys zs : List V), Src K H b1 a1 xs ∧ Src K H b2 a2 ys ∧ Src K H b3 a3 zs ∧ i < xs.length ∧ i < ys.length ∧ i < zs.length,
  fun i H v H' => ∃ T x y zQ, v = .ref T ∧ H T = none ∧ H' = upd H T (.tup [x, y, zQ]) ∧ (∀ xs, Src K H b1 a1 xs → xs[i]? = some x) ∧ (∀ ys, Src K H b2 a2 ys → ys[i]? = some y) ∧ ∀ zs, Src K H b3 a3 zs → zs[i]? = some zQ,
  fun i H => ∃ xs ys zs : List V, Src K H b1 a1 xs ∧ Src K H b2 a2 ys ∧ Src K H b3 a3 zs ∧ min (min xs.length ys.length) zs.length = i⟩
def ItDk (d : Addr) (o : Obj) (u : HO) (es : Array DictEntry) : L2.It :=
 ⟨fun i H => H d = some (.frz o u) ∧ i < es.size, fun i H x H' => H' = H ∧ ∃ eQ, es[i]? = some eQ ∧ RelV x eQ.key, fun i H => H d = some (.frz o u) ∧ es.size ≤ i⟩
def ItDv (d : Addr) (o : Obj) (u : HO) (es : Array DictEntry) : L2.It :=
 ⟨fun i H => H d = some (.frz o u) ∧ i < es.size, fun i H x H' => H' = H ∧ ∃ eQ, es[i]? = some eQ ∧ RelV x eQ.val, fun i H => H d = some (.frz o u) ∧ es.size ≤ i⟩
def ItDi (d : Addr) (o : Obj) (u : HO) (es : Array DictEntry) : L2.It :=
 ⟨fun i H => H d = some (.frz o u) ∧ i < es.size, fun i H x H' => ∃ T k v eQ, es[i]? = some eQ ∧ RelV k eQ.key ∧ RelV v eQ.val ∧ x = .ref T ∧ H T = none ∧ H' = upd H T (.tup [k, v]), fun i H => H d = some (.frz o u) ∧ es.size ≤ i⟩
def Told2 (es : Array DictEntry) : Prop := ∀ (i : Nat) (hi : i < es.size), (∃ k, RelV k es[i].key) ∧ ∃ v, RelV v es[i].val
section
variable {P : Program} {w : World} {K : PySem.W.Frag} {tg : Expr} {d : Addr} {o : Obj} {u : HO} {es : Array DictEntry} {ep : Nat}
theorem turn_dk (it : Addr) (hxQ : o.ExactDict) (hd : o.data = .dict es ep) (ht : Told2 es) : Turn P w K tg (ItDk d o u es) [it] it (fun i h => h.IsKeyIter it d i es.size ep) where
 mem := by simp
 obj := fun i h ⟨oi, eQ, cQ, dd⟩ b hb => by
  obtain rfl : b = it := by simpa using hb
  exact ⟨oi, eQ, fun v zQ => by rw [dd] at zQ; cases zQ⟩
 keep := fun i h h' stQ k => stQ.at fun oi eQ => k it (by simp) oi eQ
 item := by
  rintro X rfl rfl rfl hc i pins s σQ H E I hf stQ ⟨hl, hi⟩
  obtain ⟨g0, g1, g2Q, g3, g4, g5⟩ := hf it (by simp)
  obtain ⟨⟨k, rk⟩, _⟩ := ht i hi
  have en : es[i]? = some es[i] := by simp [hi]
  refine next_key_item stQ (I.hok d _ hl).1 hd rfl en fun h' st' sb => ?_
  have I1Q : Inv X pins σQ H { s with heap := h' } := I.turned (t' := s.toks) (fun b ob nb eQ => (sb.2 b nb).trans eQ) g0 g1 g3 g4 g5
  obtain ⟨oi, eQ, cQ, dd⟩ := id st'
  exact ⟨es[i].key, rfl, go_of (s := { s with heap := h' }) eQ cQ dd (by decide) ⟨k, H, I1Q, rk, ⟨rfl, _, en, rk⟩, st', fun b hb => (hf b hb).1⟩⟩
 done := by
  rintro X rfl rfl rfl hc i pins s σQ H E I hf stQ ⟨hl, hi⟩
  obtain ⟨g0, g1, g2Q, g3, g4, g5⟩ := hf it (by simp)
  exact next_key_end (I.ok.hd hc) stQ (I.hok d _ hl).1 hd rfl hi fun h' eb => ⟨rfl, I.turned (t' := s.toks) (fun b ob nb eQ => eb b ob nb eQ) g0 g1 g3 g4 g5⟩
 self := fun A i s Q E stQ h => by
  refine wpAny_pyIter_slot stQ.typeIs F.slot_dict_keyiterator_iter (wpAny_call_entry F.slot_dict_keyiterator_iter stQ.typeIs F.entry_dict_keyiterator_iter ?_ (F.args_dict_keyiterator_iter_1 _))
  show wpAny _ _
     (ret (.ref it)) _ _ s
  exact wpAny_pure ⟨_, rfl, "dict_keyiterator", _, stQ.typeIs, F.slot_dict_keyiterator_next.lookup, h⟩
end
end Mi

namespace Mi
open PySem PySem.Spec L2
open PyProof.Rows hiding St
section
variable {G : Gi} {ρ ρ' : List Addr} {H H' : Hp} {h h' : EH}
inductive ScR (G : Gi) (ρ : List Addr) (H : Hp) : Sc → Bool → Addr → Nat → Prop
 | l {k a i} : atR ρ k = some a → ScR G ρ H (.l k) false a i
 | t {r a vs i} : SqT G.K H a vs → DRs G ρ H r (vs.drop i) → i ≤ vs.length → ScR G ρ H (.t r) true a i
def DEnt (G : Gi) (ρ : List Addr) (H : Hp) (p : P × D) (eQ : DictEntry) : Prop := (∃ k, RelV k eQ.key ∧ PR G H p.1 k) ∧ ∃ v, RelV v eQ.val ∧ DR G ρ H p.2 v
theorem DEnt.mono {p : P × D} {x : DictEntry} (r : DEnt G ρ H p x) (eQ : Ext G ρ ρ' H H') : DEnt G ρ' H' p x := by
 obtain ⟨⟨k, h1, h2⟩, v, h3, h4⟩ := r
 exact ⟨⟨k, h1, h2.mono eQ.tup⟩, v, h3, h4.mono eQ⟩
def toV : Value → Option V
 | .none => some .non
 | .bool b => some (.bl b)
 | .int i _ => some (.int i)
 | .str x _ => some (.str x)
 | .bytes b _ => some (.byt b)
 | .float b _ => some (.flt b)
 | .ref a => some (.ref a)
 | .type n => some (.ty n)
 | _ => none
theorem toV_of {x : V} {u : Value} (a : RelV x u) : toV u = some x := by
 cases x with
 | non => cases a; rfl
 | bl => cases a; rfl
 | ref => cases a; rfl
 | ty => cases a; rfl
 | int => obtain ⟨t, rfl⟩ := a; rfl
 | str => obtain ⟨t, rfl⟩ := a; rfl
 | byt => obtain ⟨t, rfl⟩ := a; rfl
 | flt => obtain ⟨t, rfl⟩ := a; rfl
theorem jD0 {x y : V} {u : Value} (a : RelV x u) (b : RelV y u) : x = y := Option.some.inj ((toV_of a).symm.trans (toV_of b))
theorem Ext.frz' (eQ : Ext G ρ ρ' H H') {a : Addr} {o : Obj} {u : HO} (h : H a = some (.frz o u)) : H' a = some (.frz o u) := by
 by_cases m : a ∈ ρ
 ·exact eQ.frz a m o u h
 ·exact eQ.keep a _ h m
inductive Wk (G : Gi) (ρ : List Addr) (H : Hp) : L2.It → Nat → It → Prop
 | lst {k a i} : atR ρ k = some a → Wk G ρ H (Itl G.K a) i (.lst k i)
 | seq {a vs l i} : SqT G.K H a vs → DRs G ρ H l (vs.drop i) → Wk G ρ H (Itt G.K a) i (.seq l)
 | rng {lo j : Int} {n i m : Nat} : j = lo + (i : Int) → m + i = n → Wk G ρ H (Itr lo n) i (.rng j m)
 | enum {s b a i} : ScR G ρ H s b a i → Wk G ρ H (IteS G.K b a) i (.enum i s)
 | zip {s b a t cQ d i} : ScR G ρ H s b a i → ScR G ρ H t cQ d i → Wk G ρ H (ItzS G.K b a cQ d) i (.zip s t i)
 | zip3 {s b a t cQ d u eQ f i} : ScR G ρ H s b a i → ScR G ρ H t cQ d i → ScR G ρ H u eQ f i → Wk G ρ H (ItzW G.K b a cQ d eQ f) i (.zip3 s t u i)
 | rev {k a n m i} : atR ρ k = some a → m + i = n → Wk G ρ H (Itv G.K a n) i (.rev k m)
 | rvt {a vs l i n} : SqT G.K H a vs → vs.length = n → DRs G ρ H l (vs.reverse.drop i) → Wk G ρ H (RT.ItvT G.K a n) i (.seq l)
 | sqi {lo cQ : Int} {n i : Nat} {l : List D} : (∀ (j : Nat) (d : D), l[j]? = some d → d = .p (.int (lo + ((i + j : Nat) : Int) * cQ))) → i + l.length = n → Wk G ρ H (Itc lo cQ n) i (.seq l)
 | dk {k lk l i a o u} {es : Array DictEntry} : H a = some (.frz o u) → (lk = true → ∃ b, atR ρ k = some b) → Paired (DEnt G ρ H) l (es.toList.drop i) → Wk G ρ H (ItDk a o u es) i (.dic 0 k lk l)
 | dv {k lk l i a o u} {es : Array DictEntry} : H a = some (.frz o u) → (lk = true → ∃ b, atR ρ k = some b) → Paired (DEnt G ρ H) l (es.toList.drop i) → Wk G ρ H (ItDv a o u es) i (.dic 1 k lk l)
 | di {k lk l i a o u} {es : Array DictEntry} : H a = some (.frz o u) → (lk = true → ∃ b, atR ρ k = some b) → Paired (DEnt G ρ H) l (es.toList.drop i) → Wk G ρ H (ItDi a o u es) i (.dic 2 k lk l)
theorem ScR.mono {s : Sc} {b : Bool} {a : Addr} {i : Nat} (x : ScR G ρ H s b a i) (eQ : Ext G ρ ρ' H H') : ScR G ρ' H' s b a i := by
 cases x with
 | l q => exact .l (eQ.at q)
 | t q r zQ => exact .t (eQ.tup _ _ q) (r.mono eQ) zQ
theorem Wk.mono {J : L2.It} {i : Nat} {t : It} (x : Wk G ρ H J i t) (eQ : Ext G ρ ρ' H H') : Wk G ρ' H' J i t := by
 cases x with
 | lst q => exact .lst (eQ.at q)
 | seq q r => exact .seq (eQ.tup _ _ q) (r.mono eQ)
 | rng q r => exact .rng q r
 | enum q => exact .enum (q.mono eQ)
 | zip q r => exact .zip (q.mono eQ) (r.mono eQ)
 | zip3 q r w => exact .zip3 (q.mono eQ) (r.mono eQ) (w.mono eQ)
 | rev q r => exact .rev (eQ.at q) r
 | rvt q zQ r => exact .rvt (eQ.tup _ _ q) zQ (r.mono eQ)
 | sqi q r => exact .sqi q r
 | dk q zQ r => exact .dk (eQ.frz' q) (fun y => (zQ y).imp fun _ => eQ.at) (L2.Paired.mapP r fun _ _ h => h.mono eQ)
 | dv q zQ r => exact .dv (eQ.frz' q) (fun y => (zQ y).imp fun _ => eQ.at) (L2.Paired.mapP r fun _ _ h => h.mono eQ)
 | di q zQ r => exact .di (eQ.frz' q) (fun y => (zQ y).imp fun _ => eQ.at) (L2.Paired.mapP r fun _ _ h => h.mono eQ)
theorem Wk.at_ {J : L2.It} {i : Nat} {t : It} (x : Wk G ρ H J i t) : ∀ m k l, t = .dic m k true l → ∃ a, atR ρ k = some a := fun m k l eQ => by
 cases x <;> cases eQ <;> (rename_i q _; exact q rfl)
theorem jFa {R : P × D → DictEntry → Prop} {es : Array DictEntry} {i : Nat} {p : P × D} {l : List (P × D)} (r : Paired R (p :: l) (es.toList.drop i)) : i < es.size ∧ ∃ eQ, es[i]? = some eQ ∧ R p eQ ∧ Paired R l (es.toList.drop (i + 1)) := by
 have hi : i < es.toList.length := by
  refine Nat.lt_of_not_le fun q => ?_
  rw [List.drop_eq_nil_of_le q] at r
  cases r
 rw [List.drop_eq_getElem_cons hi] at r
 cases r with
 | cons a b => exact ⟨by simpa using hi, es.toList[i], by simp [show i < es.size by simpa using hi], a, b⟩
theorem jGy {R : P × D → DictEntry → Prop} {es : Array DictEntry} {i : Nat} (r : Paired R [] (es.toList.drop i)) : es.size ≤ i := by
 have : es.toList.drop i = [] := by
  cases q : es.toList.drop i with
  | nil => rfl
  | cons => rw [q] at r; cases r
 have := List.drop_eq_nil_iff.mp this
 simpa using this
theorem jDW {vs us : List V} {v : V} {i : Nat} (h : vs.drop i = v :: us) : vs[i]? = some v ∧ vs.drop (i + 1) = us ∧ i < vs.length := by
 have h1 : i < vs.length := by
  refine Nat.lt_of_not_le fun q => ?_
  rw [List.drop_eq_nil_of_le q] at h
  cases h
 rw [List.drop_eq_getElem_cons h1] at h
 injection h with e1 e2
 exact ⟨by rw [List.getElem?_eq_getElem h1, e1], e2, h1⟩
theorem drop_nil {vs : List V} {i : Nat} (h : vs.drop i = []) : vs.length ≤ i := List.drop_eq_nil_iff.mp h
theorem Sc.at_cases (S : Sim G ρ h H) {s : Sc} {b : Bool} {a : Addr} {i : Nat} (x : ScR G ρ H s b a i) (y : D → Sc → Nx) (n : Nx) :
  s.at h i y n = .bad ∨ (s.at h i y n = n ∧ ∃ xs, Src G.K H b a xs ∧ xs.length = i) ∨
   ∃ d s' v xs, s.at h i y n = y d s' ∧ Src G.K H b a xs ∧ i < xs.length ∧ xs[i]? = some v ∧ DR G ρ H d v ∧ ScR G ρ H s' b a (i + 1) := by
 cases x with
 | @l k a _ eQ =>
  unfold Sc.at
  rcases jAu S eQ with zQ | ⟨l, vs, hl, rl, _, zQ⟩
  ·exact .inl (zQ _ _ _)
  ·have sq : Src G.K H false a vs := .of hl
   rw [show (Sc.rec (motive := fun _ => Nx) (fun k => jAw h k (fun l => Option.rec (motive := fun _ => Nx) (Bool.rec .bad n (Nat.beq (lenL l) i)) (fun x => y x (.l k)) (nth l i)) .bad) (fun r => List.rec (motive := fun _ => Nx) n (fun x r _ => y x (.t r)) r) (.l k) : Nx) = Option.rec (motive := fun _ => Nx) (Bool.rec .bad n (Nat.beq (lenL l) i)) (fun x => y x (.l k)) (nth l i) from zQ _ _ _, jBp, jAx]
   cases q : l[i]? with
   | none =>
    cases q2 : Nat.beq l.length i with
    | false => exact .inl rfl
    | true => exact .inr (.inl ⟨rfl, vs, sq, by rw [← rl.length]; exact Nat.eq_of_beq_eq_true q2⟩)
   | some d =>
    obtain ⟨v, h1, h2⟩ := rl.get q
    exact .inr (.inr ⟨d, .l k, v, vs, rfl, sq, (List.getElem?_eq_some_iff.mp h1).1, h1, h2, .l eQ⟩)
 | @t r a vs _ q rl hi =>
  refine .inr ?_
  cases r with
  | nil =>
   refine .inl ⟨rfl, vs, q, Nat.le_antisymm (drop_nil ?_) hi⟩
   cases hd : vs.drop i with
   | nil => rfl
   | cons => rw [hd] at rl; cases rl
  | cons d r =>
   cases hd : vs.drop i with
   | nil => rw [hd] at rl; cases rl
   | cons v us =>
    rw [hd] at rl
    cases rl with
    | cons r1 r2 =>
     obtain ⟨h1, h2, h3⟩ := jDW hd
     exact .inr ⟨d, .t r, v, vs, rfl, q, h3, h1, r1, .t q (by rw [h2]; exact r2) h3⟩
theorem next_ok (S : Sim G ρ h H) {J : L2.It} {i : Nat} {t : It} (x : Wk G ρ H J i t) :
  t.next h = .bad ∨ (t.next h = .stop ∧ J.stop i H) ∨ (∃ d t', t.next h = .item d t' ∧ J.go i H ∧ ∀ x H', J.yld i H x H' → H' = H ∧ DR G ρ H d x ∧ Wk G ρ H J (i + 1) t') ∨
   ∃ l t', t.next h = .two l t' ∧ J.go i H ∧ ∀ x H', J.yld i H x H' → ∃ T us, x = .ref T ∧ H T = none ∧ H' = upd H T (.tup us) ∧ DRs G ρ H l us ∧ Wk G ρ H J (i + 1) t' := by
 cases x with
 | @lst k a _ eQ =>
  rcases jAu S eQ with zQ | ⟨l, vs, hl, rl, _, zQ⟩
  ·exact .inl (zQ _ _ _)
  ·have sq : SqL G.K H a vs := .of hl
   have en : (It.lst k i).next h = oN (nth l i) fun x => fN (Nat.succ i) fun j => .item x (.lst k j) := zQ _ _ _
   rw [en, jBp]
   cases q : l[i]? with
   | none =>
    refine .inr (.inl ⟨rfl, vs, sq, ?_⟩)
    rw [← rl.length]
    exact List.getElem?_eq_none_iff.mp q
   | some d =>
    obtain ⟨v, h1, h2⟩ := rl.get q
    refine .inr (.inr (.inl ⟨d, .lst k (i + 1), jA7 (Nat.succ i) (fun j => Nx.item d (.lst k j)), ⟨vs, v, sq, h1⟩, fun x H' ⟨e1, e2⟩ => ⟨e1, ?_, .lst eQ⟩⟩))
    have := e2 vs sq
    rw [h1] at this
    cases this
    exact h2
 | @sqi lo cQ n _ l q r =>
  cases l with
  | nil => exact .inr (.inl ⟨rfl, show n ≤ i by rw [← r]; exact Nat.le_refl _⟩)
  | cons d r' =>
   have hd := q 0 d rfl
   subst hd
   have hn : i < n := by rw [← r, List.length_cons]; omega
   have w2 : Wk G ρ H (Itc lo cQ n) (i + 1) (.seq r') := .sqi (fun j d h => by
    have := q (j + 1) d h
    rw [this, show i + (j + 1) = i + 1 + j by omega]) (by rw [← r, List.length_cons]; omega)
   exact .inr (.inr (.inl ⟨_, .seq r', rfl, hn, fun x H' ⟨e1, e2⟩ => ⟨e1, by rw [e2]; exact .p (.int _), w2⟩⟩))
 | @seq a vs l _ sq rl =>
  cases l with
  | nil =>
   refine .inr (.inl ⟨rfl, vs, sq, drop_nil ?_⟩)
   cases hd : vs.drop i with
   | nil => rfl
   | cons => rw [hd] at rl; cases rl
  | cons d r =>
   cases hd : vs.drop i with
   | nil => rw [hd] at rl; cases rl
   | cons v us =>
    rw [hd] at rl
    cases rl with
    | cons r1 r2 =>
     obtain ⟨h1, h2, h3⟩ := jDW hd
     refine .inr (.inr (.inl ⟨d, .seq r, rfl, ⟨vs, v, sq, h1⟩, fun x H' ⟨e1, e2⟩ => ⟨e1, ?_, .seq sq (by rw [h2]; exact r2)⟩⟩))
     have := e2 vs sq
     rw [h1] at this
     cases this
     exact r1
 | @rvt a vs l _ n sq hn rl =>
  cases l with
  | nil =>
   refine .inr (.inl ⟨rfl, ?_⟩)
   have := drop_nil (vs := vs.reverse) (i := i) (by cases hd : vs.reverse.drop i with
    | nil => rfl
    | cons => rw [hd] at rl; cases rl)
   rw [List.length_reverse, hn] at this
   exact this
  | cons d r =>
   cases hd : vs.reverse.drop i with
   | nil => rw [hd] at rl; cases rl
   | cons v us =>
    rw [hd] at rl
    cases rl with
    | cons r1 r2 =>
     obtain ⟨h1, h2, h3⟩ := jDW hd
     rw [List.length_reverse] at h3
     rw [List.getElem?_reverse h3] at h1
     rw [hn] at h1
     refine .inr (.inr (.inl ⟨d, .seq r, rfl, ⟨by rw [← hn]; exact h3, vs, v, sq, h1⟩, fun x H' ⟨e1, e2⟩ => ⟨e1, ?_, .rvt sq hn (by rw [h2]; exact r2)⟩⟩))
     have := e2 vs sq
     rw [h1] at this
     cases this
     exact r1
 | @rng lo j n _ m ej em =>
  cases m with
  | zero => exact .inr (.inl ⟨rfl, by show n ≤ i; omega⟩)
  | succ m =>
   refine .inr (.inr (.inl ⟨.p (.int j), .rng (Int.add j 1) m, jDw j (fun i => Nx.item (.p (.int i)) (.rng (Int.add i 1) m)), by show i < n; omega, fun x H' ⟨e1, e2⟩ => ⟨e1, ?_, .rng ?_ (by omega)⟩⟩))
   ·rw [e2, ej]; exact .p (.int _)
   ·rw [ej]; show lo + (i : Int) + 1 = lo + ((i + 1 : Nat) : Int); omega
 | @rev k a n m _ eQ em =>
  cases m with
  | zero => exact .inr (.inl ⟨rfl, by show n ≤ i; omega⟩)
  | succ m =>
   rcases jAu S eQ with zQ | ⟨l, vs, hl, rl, _, zQ⟩
   ·exact .inl (zQ _ _ _)
   ·have sq : SqL G.K H a vs := .of hl
    have en : (It.rev k (m + 1)).next h = Option.rec (motive := fun _ => Nx) .bad (fun x => .item x (.rev k m)) (nth l m) := zQ _ _ _
    rw [en, jBp]
    cases q : l[m]? with
    | none => exact .inl rfl
    | some d =>
     obtain ⟨v, h1, h2⟩ := rl.get q
     have em' : n - 1 - i = m := by omega
     refine .inr (.inr (.inl ⟨d, .rev k m, rfl, ⟨by omega, vs, v, sq, by rw [em']; exact h1⟩, fun x H' ⟨e1, e2⟩ => ⟨e1, ?_, .rev eQ (by omega)⟩⟩))
     have := e2 vs sq
     rw [em', h1] at this
     cases this
     exact h2
 | @enum s b a _ sr =>
  have en : (It.enum i s).next h = s.at h i (fun x s => .two [.p (.int (.ofNat i)), x] (.enum (Nat.succ i) s)) .stop := jA7 i (fun i => s.at h i (fun x s => .two [.p (.int (.ofNat i)), x] (.enum (Nat.succ i) s)) .stop)
  rw [en]
  rcases Sc.at_cases S sr (fun x s => .two [.p (.int (.ofNat i)), x] (.enum (Nat.succ i) s)) .stop with zQ | ⟨zQ, xs, q, hi⟩ | ⟨d, s', v, xs, zQ, q, hi, hv, r, sr'⟩
  ·exact .inl zQ
  ·exact .inr (.inl ⟨zQ, xs, q, hi⟩)
  ·refine .inr (.inr (.inr ⟨_, _, zQ, ⟨xs, q, hi⟩, fun x H' ⟨T, u, e1, e2, e3, e4⟩ => ⟨T, [.int (i : Nat), u], e1, e2, e3, .cons (.p (.int _)) (.cons ?_ .nil), .enum sr'⟩⟩))
   have := e4 xs q
   rw [hv] at this
   cases this
   exact r
 | @zip s b a t cQ d i sr tr =>
  have en : (It.zip s t i).next h = s.at h i (fun x s => t.at h i (fun y t => .two [x, y] (.zip s t (Nat.succ i))) .stop) (t.at h i (fun _ _ => .stop) .stop) := jA7 i (fun i => s.at h i (fun x s => t.at h i (fun y t => .two [x, y] (.zip s t (Nat.succ i))) .stop) (t.at h i (fun _ _ => .stop) .stop))
  rw [en]
  rcases Sc.at_cases S sr (fun x s => t.at h i (fun y t => .two [x, y] (.zip s t (Nat.succ i))) .stop) (t.at h i (fun _ _ => .stop) .stop) with zQ | ⟨zQ, xs, q, hi⟩ | ⟨d1, s', v, xs, zQ, q, hi, hv, r, sr'⟩
  ·exact .inl zQ
  ·rw [zQ]
   rcases Sc.at_cases S tr (fun _ _ => .stop) .stop with zQ | ⟨zQ, ys, q2, hj⟩ | ⟨d1, s', v, ys, zQ, q2, hj, hv, r, sr'⟩
   ·exact .inl zQ
   ·exact .inr (.inl ⟨zQ, xs, ys, q, q2, by omega⟩)
   ·exact .inr (.inl ⟨zQ, xs, ys, q, q2, by omega⟩)
  ·rw [zQ]
   rcases Sc.at_cases S tr (fun y t => .two [d1, y] (.zip s' t (Nat.succ i))) .stop with zQ | ⟨zQ, ys, q2, hj⟩ | ⟨d2, t', v2, ys, zQ, q2, hj, hv2, r2, tr'⟩
   ·exact .inl zQ
   ·exact .inr (.inl ⟨zQ, xs, ys, q, q2, by omega⟩)
   ·refine .inr (.inr (.inr ⟨_, _, zQ, ⟨xs, ys, q, q2, hi, hj⟩, fun x H' ⟨T, u, u2, e1, e2, e3, e4, e5⟩ => ⟨T, [u, u2], e1, e2, e3, .cons ?_ (.cons ?_ .nil), .zip sr' tr'⟩⟩))
    ·have := e4 xs q
     rw [hv] at this
     cases this
     exact r
    ·have := e5 ys q2
     rw [hv2] at this
     cases this
     exact r2
 | @zip3 s b a t cQ d u eQ f i sr tr ur =>
  have en : (It.zip3 s t u i).next h = s.at h i (fun x s => t.at h i (fun y t => u.at h i (fun zQ u => .two [x, y, zQ] (.zip3 s t u (Nat.succ i))) .stop) (u.at h i (fun _ _ => .stop) .stop)) (t.at h i (fun _ _ => u.at h i (fun _ _ => .stop) .stop) (u.at h i (fun _ _ => .stop) .stop)) :=
   jA7 i (fun i => s.at h i (fun x s => t.at h i (fun y t => u.at h i (fun zQ u => .two [x, y, zQ] (.zip3 s t u (Nat.succ i))) .stop) (u.at h i (fun _ _ => .stop) .stop)) (t.at h i (fun _ _ => u.at h i (fun _ _ => .stop) .stop) (u.at h i (fun _ _ => .stop) .stop)))
  rw [en]
  have third : ∀ {xs ys : List V} , Src G.K H b a xs → Src G.K H cQ d ys → i ≤ xs.length → i ≤ ys.length → (xs.length = i ∨ ys.length = i) → (u.at h i (fun _ _ => .stop) .stop = .bad ∨ (u.at h i (fun _ _ => .stop) .stop = .stop ∧ (ItzW G.K b a cQ d eQ f).stop i H)) := by
   intro xs ys q q2 h1 h2 h3
   rcases Sc.at_cases S ur (fun _ _ => .stop) .stop with zQ | ⟨zQ, zs, q3, hk⟩ | ⟨d1, s', v, zs, zQ, q3, hk, hv, r, sr'⟩
   ·exact .inl zQ
   ·exact .inr ⟨zQ, xs, ys, zs, q, q2, q3, by omega⟩
   ·exact .inr ⟨zQ, xs, ys, zs, q, q2, q3, by omega⟩
  have le3 : ∀ {r : Nx}, (r = .bad ∨ (r = .stop ∧ (ItzW G.K b a cQ d eQ f).stop i H)) → (r = .bad ∨ (r = .stop ∧ (ItzW G.K b a cQ d eQ f).stop i H) ∨ (∃ d' t', r = .item d' t' ∧ (ItzW G.K b a cQ d eQ f).go i H ∧ ∀ x H', (ItzW G.K b a cQ d eQ f).yld i H x H' → H' = H ∧ DR G ρ H d' x ∧ Wk G ρ H (ItzW G.K b a cQ d eQ f) (i + 1) t') ∨
   ∃ l t', r = .two l t' ∧ (ItzW G.K b a cQ d eQ f).go i H ∧ ∀ x H', (ItzW G.K b a cQ d eQ f).yld i H x H' → ∃ T us, x = .ref T ∧ H T = none ∧ H' = upd H T (.tup us) ∧ DRs G ρ H l us ∧ Wk G ρ H (ItzW G.K b a cQ d eQ f) (i + 1) t') := fun zQ => zQ.imp id .inl
  rcases Sc.at_cases S sr (fun x s => t.at h i (fun y t => u.at h i (fun zQ u => .two [x, y, zQ] (.zip3 s t u (Nat.succ i))) .stop) (u.at h i (fun _ _ => .stop) .stop)) (t.at h i (fun _ _ => u.at h i (fun _ _ => .stop) .stop) (u.at h i (fun _ _ => .stop) .stop)) with zQ | ⟨zQ, xs, q, hi⟩ | ⟨d1, s', v, xs, zQ, q, hi, hv, r, sr'⟩
  ·exact .inl zQ
  ·rw [zQ]
   rcases Sc.at_cases S tr (fun _ _ => u.at h i (fun _ _ => .stop) .stop) (u.at h i (fun _ _ => .stop) .stop) with zQ | ⟨zQ, ys, q2, hj⟩ | ⟨d1, s', v, ys, zQ, q2, hj, hv, r, sr'⟩
   ·exact .inl zQ
   ·rw [zQ]; exact le3 (third q q2 (by omega) (by omega) (.inl hi))
   ·rw [zQ]; exact le3 (third q q2 (by omega) (by omega) (.inl hi))
  ·rw [zQ]
   rcases Sc.at_cases S tr (fun y t => u.at h i (fun zQ u => .two [d1, y, zQ] (.zip3 s' t u (Nat.succ i))) .stop) (u.at h i (fun _ _ => .stop) .stop) with zQ | ⟨zQ, ys, q2, hj⟩ | ⟨d2, t', v2, ys, zQ, q2, hj, hv2, r2, tr'⟩
   ·exact .inl zQ
   ·rw [zQ]; exact le3 (third q q2 (by omega) (by omega) (.inr hj))
   ·rw [zQ]
    rcases Sc.at_cases S ur (fun zQ u => .two [d1, d2, zQ] (.zip3 s' t' u (Nat.succ i))) .stop with zQ | ⟨zQ, zs, q3, hk⟩ | ⟨d3, u', v3, zs, zQ, q3, hk, hv3, r3, ur'⟩
    ·exact .inl zQ
    ·exact .inr (.inl ⟨zQ, xs, ys, zs, q, q2, q3, by omega⟩)
    ·refine .inr (.inr (.inr ⟨_, _, zQ, ⟨xs, ys, zs, q, q2, q3, hi, hj, hk⟩, fun x H' ⟨T, w, w2, w3, e1, e2, e3, e4, e5, e6⟩ => ⟨T, [w, w2, w3], e1, e2, e3, .cons ?_ (.cons ?_ (.cons ?_ .nil)), .zip3 sr' tr' ur'⟩⟩))
     ·have := e4 xs q
      rw [hv] at this
      cases this
      exact r
     ·have := e5 ys q2
      rw [hv2] at this
      cases this
      exact r2
     ·have := e6 zs q3
      rw [hv3] at this
      cases this
      exact r3
 | @dk k lk l _ a o u es ha kb rl =>
  cases l with
  | nil => exact .inr (.inl ⟨rfl, ha, jGy rl⟩)
  | cons p l =>
   obtain ⟨hi, eQ, he, ⟨⟨kv, rk, pk⟩, _⟩, rl'⟩ := jFa rl
   exact .inr (.inr (.inl ⟨.p p.1, .dic 0 k lk l, rfl, ⟨ha, hi⟩, fun x H' ⟨e1, eQ', he', rx⟩ => ⟨e1, by rw [he] at he'; cases he'; rw [jD0 rx rk]; exact .p pk, .dk ha kb rl'⟩⟩))
 | @dv k lk l _ a o u es ha kb rl =>
  cases l with
  | nil => exact .inr (.inl ⟨rfl, ha, jGy rl⟩)
  | cons p l =>
   obtain ⟨hi, eQ, he, ⟨_, v, rv, pv⟩, rl'⟩ := jFa rl
   exact .inr (.inr (.inl ⟨p.2, .dic 1 k lk l, rfl, ⟨ha, hi⟩, fun x H' ⟨e1, eQ', he', rx⟩ => ⟨e1, by rw [he] at he'; cases he'; rw [jD0 rx rv]; exact pv, .dv ha kb rl'⟩⟩))
 | @di k lk l _ a o u es ha kb rl =>
  cases l with
  | nil => exact .inr (.inl ⟨rfl, ha, jGy rl⟩)
  | cons p l =>
   obtain ⟨hi, eQ, he, ⟨⟨kv, rk, pk⟩, v, rv, pv⟩, rl'⟩ := jFa rl
   exact .inr (.inr (.inr ⟨_, .dic 2 k lk l, rfl, ⟨ha, hi⟩, fun x H' ⟨T, k1, v1, eQ', he', rk', rv', e1, e2, e3⟩ => ⟨T, [k1, v1], e1, e2, e3, .cons (by rw [he] at he'; cases he'; rw [jD0 rk' rk]; exact .p pk) (.cons (by rw [he] at he'; cases he'; rw [jD0 rv' rv]; exact pv) .nil), .di ha kb rl'⟩⟩))
end
end Mi

namespace Mi
open PySem PySem.Spec L2
open PyProof.Rows hiding St
def LkOk (ρ : List Addr) (H : Hp) (t : It) : Prop := ∀ m k l a, t = .dic m k true l → atR ρ k = some a → ∀ o u, H a ≠ some (.frz o u)
theorem LkOk.not {ρ : List Addr} {H : Hp} {t : It} (h : ∀ m k l, t ≠ .dic m k true l) : LkOk ρ H t := fun m k l _ eQ => absurd eQ (h m k l)
def wI (G : Gi) (W : WX) (ρ : List Addr) (H : Hp) (σQ : St) (r : RI) (R : L2.It → Hp → Prop) : Prop :=
 match r with
 | .ok t h' => ∀ ρ' H' J, Ext G ρ ρ' H H' → Sim G ρ' h' H' → Wk G ρ' H' J 0 t → LkOk ρ' H t → R J H'
 | .ex cQ x h' => ∀ ρ' H' cls dd, Ext G ρ ρ' H H' → Sim G ρ' h' H' → XR G H' cQ x cls dd → W cls dd σQ H'
 | .bad => False
def rdI (G : Gi) (W : WX) (cQ : Env → EH → RI) : TI := fun σQ H R => ∃ ρ σd h, EnvR G ρ H σd σQ ∧ Sim G ρ h H ∧ wI G W ρ H σQ (cQ σd h) R
abbrev SI (X : Cx) (G : Gi) (W : WX) (Φ : Ph) (tg eQ : Expr) (cQ : CI) : Prop := PI X tg eQ (rdI G W (cQ Φ))
section
variable {G : Gi} {W : WX} {ρ ρ1 : List Addr} {H H1 : Hp} {σQ : St} {R : L2.It → Hp → Prop}
theorem _root_.L2.PI.weak {X : Cx} {tg eQ : Expr} {t t' : TI} (h : PI X tg eQ t) (w : ∀ σQ H R, t' σQ H R → t σQ H R) : PI X tg eQ t' := ⟨fun pins s σQ H R I q => h.run pins s σQ H R I (w σQ H R q)⟩
theorem wI.mono {r : RI} (x : wI G W ρ H σQ r R) (eQ : Ext G ρ ρ1 H H1) : wI G W ρ1 H1 σQ r R := by
 cases r with
 | ok d h' => exact fun ρ' H' v eQ' s r zQ => x ρ' H' v (eQ.trans eQ') s r fun m k l a q w o u f => zQ m k l a q w o u (eQ.frz' f)
 | ex cQ y h' => exact fun ρ' H' cls dd eQ' s r => x ρ' H' cls dd (eQ.trans eQ') s r
 | bad => exact x
theorem wE.bindI {r : RE} {f : D → EH → RI} (x : wI G W ρ H σQ (bEI r f) R) : wE G W ρ H σQ r fun v H1 => ∃ ρ1 d h1, Ext G ρ ρ1 H H1 ∧ Sim G ρ1 h1 H1 ∧ DR G ρ1 H1 d v ∧ wI G W ρ1 H1 σQ (f d h1) R := by
 cases r with
 | ok d h' => exact fun ρ' H' v eQ s r => ⟨ρ', d, h', eQ, s, r, wI.mono x eQ⟩
 | ex cQ y h' => exact x
 | bad => exact x
theorem wL.bindI {r : RL} {f : List D → EH → RI} (x : wI G W ρ H σQ (bLI r f) R) : wL G W ρ H σQ r fun v H1 => ∃ ρ1 d h1, Ext G ρ ρ1 H H1 ∧ Sim G ρ1 h1 H1 ∧ DRs G ρ1 H1 d v ∧ wI G W ρ1 H1 σQ (f d h1) R := by
 cases r with
 | ok d h' => exact fun ρ' H' v eQ s r => ⟨ρ', d, h', eQ, s, r, wI.mono x eQ⟩
 | ex cQ y h' => exact x
 | bad => exact x
theorem jFn {h : EH} {d : D} {v : V} (S : Sim G ρ h H) (r : DR G ρ H d v) :
  (∀ (α : Type) (y : Sc → α) (n : α), scOf h d y n = n) ∨ (∃ l a vs, v = .ref a ∧ SqT G.K H a vs ∧ DRs G ρ H l vs ∧ ∀ (α : Type) (y : Sc → α) (n : α), scOf h d y n = y (.t l)) ∨
   ∃ k a l vs, v = .ref a ∧ atR ρ k = some a ∧ SqL G.K H a vs ∧ DRs G ρ H l vs ∧ (∀ (α : Type) (y : List D → α) (n : α), jAw h k y n = y l) ∧ ∀ (α : Type) (y : Sc → α) (n : α), scOf h d y n = y (.l k) := by
 cases r with
 | p r =>
  cases r with
  | tup s r _ _ => exact .inr (.inl ⟨_, _, _, rfl, s, r.up, fun _ _ _ => rfl⟩)
  | non => exact .inl fun _ _ _ => rfl
  | bl => exact .inl fun _ _ _ => rfl
  | int => exact .inl fun _ _ _ => rfl
  | str => exact .inl fun _ _ _ => rfl
  | fn => exact .inl fun _ _ _ => rfl
 | mt s r => exact .inr (.inl ⟨_, _, _, rfl, s, r, fun _ _ _ => rfl⟩)
 | @ref k a eQ =>
  rcases jAu S eQ with zQ | ⟨l, vs, hl, rl, _, zQ⟩
  ·exact .inl fun α y n => zQ α (fun _ => y (.l k)) n
  ·exact .inr (.inr ⟨k, a, l, vs, rfl, eQ, .of hl, rl, zQ, fun α y n => zQ α (fun _ => y (.l k)) n⟩)
theorem jEY {l : List D} {vs : List V} (r : DRs G ρ H l vs) : (∀ (α : Type) (y : D → α) (n : α), i1 l y n = n) ∨ ∃ d v, l = [d] ∧ vs = [v] ∧ DR G ρ H d v ∧ ∀ (α : Type) (y : D → α) (n : α), i1 l y n = y d := by
 cases r with
 | nil => exact .inl fun _ _ _ => rfl
 | cons a b => cases b with
  | nil => exact .inr ⟨_, _, rfl, rfl, a, fun _ _ _ => rfl⟩
  | cons => exact .inl fun _ _ _ => rfl
theorem jI7 {l : List D} {vs : List V} (r : DRs G ρ H l vs) : (∀ (α : Type) (y : D → D → α) (n : α), i2 l y n = n) ∨ ∃ d v eQ u, l = [d, eQ] ∧ vs = [v, u] ∧ DR G ρ H d v ∧ DR G ρ H eQ u ∧ ∀ (α : Type) (y : D → D → α) (n : α), i2 l y n = y d eQ := by
 cases r with
 | nil => exact .inl fun _ _ _ => rfl
 | cons a b =>
  rcases jEY b with zQ | ⟨d, v, rfl, rfl, r, zQ⟩
  ·exact .inl fun α y n => zQ α (y _) n
  ·exact .inr ⟨_, _, d, v, rfl, rfl, a, r, fun α y n => zQ α (y _) n⟩
end
section
variable {X : Cx} {G : Gi} {W : WX} {Φ : Ph} {pos p2 tpos : Pos} {tg a b eQ : Expr} {elts : List Expr} {kk : Nat} {ca : CE} {cl : CL}
theorem jE5 {i : Int} (h : i62 i = true) : -(2 ^ 62) ≤ i ∧ i < 2 ^ 62 := by
 cases i with
 | ofNat n =>
  have h : Nat.blt n 4611686018427387904 = true := h
  have h := Nat.le_of_ble_eq_true h
  constructor
  ·have : (0 : Int) ≤ Int.ofNat n := Int.natCast_nonneg n; omega
  ·show (n : Int) < 2 ^ 62
   omega
 | negSucc n =>
  have h : Nat.blt (n + 1) 4611686018427387904 = true := h
  have h := Nat.le_of_ble_eq_true h
  constructor
  ·have : Int.negSucc n = -((n : Int) + 1) := by omega
   rw [this]; omega
  ·have : Int.negSucc n = -((n : Int) + 1) := by omega
   rw [this]; omega
theorem brec {r : RI} {b : Bool} {ρ : List Addr} {H : Hp} {σQ : St} {R : L2.It → Hp → Prop} (x : wI G W ρ H σQ (Bool.rec (motive := fun _ => RI) .bad r b) R) : b = true ∧ wI G W ρ H σQ r R := by
 cases b with
 | false => exact x.elim
 | true => exact ⟨rfl, x⟩
theorem jCY (hg : Gl X "range") (hm : X.mg "range" = none) (ha : SL X G W Φ [a] cl) (hs : starEach [a] X.env = [(false, eval a X.env)] := by rfl) : SI X G W Φ tg (.Call (.Name "range" p2) [a] [] pos) (jEm cl) :=
 (pi_range1 hg hm ha hs).weak fun σQ H R ⟨ρ, σd, h, en, S, x⟩ => ⟨ρ, σd, h, en, S, (wL.bindI x).imp fun vs H1 ⟨ρ1, dsQ, h1, E1, S1, r, x1⟩ => by
  rcases jEY r with zQ | ⟨d, v, rfl, rfl, r, zQ⟩
  ·rw [zQ] at x1; exact x1.elim
  ·rw [zQ] at x1
   rcases jAp r with zQ | ⟨i, rfl, rfl⟩
   ·rw [zQ] at x1; exact x1.elim
   ·obtain ⟨q, x1⟩ := brec (b := i62 i) (r := fN i.toNat fun n => .ok (.rng (.ofNat 0) n) h1) x1
    rw [jA7] at x1
    exact ⟨i, rfl, (jE5 q).1, (jE5 q).2, x1 ρ1 H1 _ (.refl S1) S1 (.rng rfl (Nat.add_zero _)) (.not fun _ _ _ zQ => nomatch zQ)⟩⟩
theorem si_rng2 (hg : Gl X "range") (hm : X.mg "range" = none) (ha : SL X G W Φ [a, b] cl) (hs : starEach [a, b] X.env = [(false, eval a X.env), (false, eval b X.env)] := by rfl) (hs2 : starEach [b] X.env = [(false, eval b X.env)] := by rfl) :
  SI X G W Φ tg (.Call (.Name "range" p2) [a, b] [] pos) (iRng2 cl) :=
 (pi_range2 hg hm ha hs hs2).weak fun σQ H R ⟨ρ, σd, h, en, S, x⟩ => ⟨ρ, σd, h, en, S, (wL.bindI x).imp fun vs H1 ⟨ρ1, dsQ, h1, E1, S1, r, x1⟩ => by
  rcases jI7 r with zQ | ⟨d, v, eQ, u, rfl, rfl, r, r2, zQ⟩
  ·rw [zQ] at x1; exact x1.elim
  ·rw [zQ] at x1
   rcases jAp r with zQ | ⟨i, rfl, rfl⟩
   ·rw [zQ] at x1; exact x1.elim
   ·have x1 : wI G W ρ1 H1 σQ (jAI eQ (fun j => Bool.rec RI.bad (fN (Int.sub j i).toNat fun n => RI.ok (It.rng i n) h1) (Bool.and (i62 i) (i62 j))) RI.bad) R := x1
    rcases jAp r2 with zQ | ⟨j, rfl, rfl⟩
    ·rw [zQ] at x1; exact x1.elim
    ·obtain ⟨q, x1⟩ := brec (b := Bool.and (i62 i) (i62 j)) (r := fN (Int.sub j i).toNat fun n => .ok (.rng i n) h1) x1
     rw [jA7] at x1
     obtain ⟨q1, q2⟩ : i62 i = true ∧ i62 j = true := by
      revert q
      show and (i62 i) (i62 j) = true → _
      rw [Bool.and_eq_true]; exact id
     exact ⟨i, j, rfl, ⟨(jE5 q1).1, (jE5 q1).2, (jE5 q2).1, (jE5 q2).2⟩, x1 ρ1 H1 _ (.refl S1) S1 (.rng (by show i = i + ((0 : Nat) : Int); omega) (Nat.add_zero _)) (.not fun _ _ _ zQ => nomatch zQ)⟩⟩
theorem src_of (hK : G.K = X.K) {ρ : List Addr} {H : Hp} {h : EH} {d : D} {v : V} (S : Sim G ρ h H) (r : DR G ρ H d v) :
  (∀ (α : Type) (y : Sc → α) (n : α), scOf h d y n = n) ∨ ∃ b a xs s, v = .ref a ∧ Src X.K H b a xs ∧ ScR G ρ H s b a 0 ∧ ∀ (α : Type) (y : Sc → α) (n : α), scOf h d y n = y s := by
 rcases jFn S r with zQ | ⟨l, a, vs, rfl, sq, rl, zQ⟩ | ⟨k, a, l, vs, rfl, eQ, sq, rl, _, zQ⟩
 ·exact .inl zQ
 ·exact .inr ⟨true, a, vs, .t l, rfl, by rw [← hK]; exact sq, .t sq rl (Nat.zero_le _), zQ⟩
 ·exact .inr ⟨false, a, vs, .l k, rfl, by rw [← hK]; exact sq, .l eQ, zQ⟩
theorem si_enum (hK : G.K = X.K) (hg : Gl X "enumerate") (hm : X.mg "enumerate" = none) (ha : SL X G W Φ [a] cl) (hs : starEach [a] X.env = [(false, eval a X.env)] := by rfl) : SI X G W Φ (.Tuple elts kk tpos) (.Call (.Name "enumerate" p2) [a] [] pos) (iEnum cl) :=
 (pi_enumS hg hm ha hs).weak fun σQ H R ⟨ρ, σd, h, en, S, x⟩ => ⟨ρ, σd, h, en, S, (wL.bindI x).imp fun vs H1 ⟨ρ1, dsQ, h1, E1, S1, r, x1⟩ => by
  rcases jEY r with zQ | ⟨d, v, rfl, rfl, r, zQ⟩
  ·rw [zQ] at x1; exact x1.elim
  ·rw [zQ] at x1
   rcases src_of hK S1 r with zQ | ⟨b, a, xs, s, rfl, q, sr, zQ⟩
   ·rw [zQ] at x1; exact x1.elim
   ·rw [zQ] at x1
    refine ⟨b, a, xs, rfl, q, ?_⟩
    rw [← hK]
    exact x1 ρ1 H1 _ (.refl S1) S1 (.enum sr) (.not fun _ _ _ zQ => nomatch zQ)⟩
theorem jDF (hK : G.K = X.K) (hg : Gl X "zip") (hm : X.mg "zip" = none) (ha : SL X G W Φ [a, b] cl) (hs : starEach [a, b] X.env = (false, eval a X.env) :: starEach [b] X.env := by rfl) (hpl : (backTo pos (starEach [b] X.env)).any (·.1) = false := by rfl) :
  SI X G W Φ (.Tuple elts kk tpos) (.Call (.Name "zip" p2) [a, b] [] pos) (iZip cl) :=
 (pi_zipS hg hm ha hs hpl).weak fun σQ H R ⟨ρ, σd, h, en, S, x⟩ => ⟨ρ, σd, h, en, S, (wL.bindI x).imp fun vs H1 ⟨ρ1, dsQ, h1, E1, S1, r, x1⟩ => by
  rcases jI7 r with zQ | ⟨d, v, eQ, u, rfl, rfl, r, r2, zQ⟩
  ·rw [zQ] at x1; exact x1.elim
  ·rw [zQ] at x1
   rcases src_of hK S1 r with zQ | ⟨b1, a1, xs, s, rfl, q, sr, zQ⟩
   ·rw [zQ] at x1; exact x1.elim
   ·rw [zQ] at x1
    rcases src_of hK S1 r2 with zQ | ⟨b2, a2, ys, t, rfl, q2, tr, zQ⟩
    ·rw [zQ] at x1; exact x1.elim
    ·rw [zQ] at x1
     refine ⟨b1, a1, b2, a2, xs, ys, rfl, q, q2, ?_⟩
     rw [← hK]
     exact x1 ρ1 H1 _ (.refl S1) S1 (.zip sr tr) (.not fun _ _ _ zQ => nomatch zQ)⟩
end
end Mi

namespace Mi
open PySem PySem.Spec L2
open PyProof.Rows hiding St
section
variable {X : Cx} {G : Gi} {W : WX} {Φ : Ph} {pos p2 tpos : Pos} {tg eQ : Expr} {ct : CT} {ci : CI} {sts : List Stmt} {s : CS} {vs : List Nat}
theorem jHK {α : Type} {ρ : List Addr} {H : Hp} {h : EH} (S : Sim G ρ h H) {J : L2.It} {i : Nat} {t : It} (x : Wk G ρ H J i t) (σd : Env) (stQ : α) (f : Env → It → α) (b : α) :
  tgt ct (t.next h) σd stQ f b = b ∨ (tgt ct (t.next h) σd stQ f b = stQ ∧ J.stop i H) ∨
   (J.go i H ∧ ∃ σd' t', tgt ct (t.next h) σd stQ f b = f σd' t' ∧ ∀ x H', J.yld i H x H' → ∃ d, Ext G ρ ρ H H' ∧ Sim G ρ h H' ∧ DR G ρ H' d x ∧ ct d σd = some σd' ∧ Wk G ρ H' J (i + 1) t') := by
 rcases next_ok S x with zQ | ⟨zQ, stQ⟩ | ⟨d, t', zQ, go, k⟩ | ⟨l, t', zQ, go, k⟩
 ·rw [zQ]; exact .inl rfl
 ·rw [zQ]; exact .inr (.inl ⟨rfl, stQ⟩)
 ·rw [zQ]
  cases q : ct d σd with
  | none => exact .inl (by show Option.rec (motive := fun _ => α) b (fun σQ => f σQ t') (ct d σd) = b; rw [q])
  | some σd' =>
   refine .inr (.inr ⟨go, σd', t', by show Option.rec (motive := fun _ => α) b (fun σQ => f σQ t') (ct d σd) = _; rw [q], fun x H' y => ?_⟩)
   obtain ⟨rfl, r, w⟩ := k x H' y
   exact ⟨d, .refl S, S, r, q, w⟩
 ·rw [zQ]
  have e0 : tgt ct (.two l t') σd stQ f b = Option.rec (motive := fun _ => α) b (fun σQ => f σQ t') (VR.rec (motive := fun _ => Option Env) (fun v => ct v σd) (fun _ => none) none (mkT l)) := rfl
  rw [e0]
  have go2 : ∀ u : D, mkT l = .val u → tgt ct (.two l t') σd stQ f b = b ∨ (tgt ct (.two l t') σd stQ f b = stQ ∧ J.stop i H) ∨
   (J.go i H ∧ ∃ σd' t'', tgt ct (.two l t') σd stQ f b = f σd' t'' ∧ ∀ x H', J.yld i H x H' → ∃ d, Ext G ρ ρ H H' ∧ Sim G ρ h H' ∧ DR G ρ H' d x ∧ ct d σd = some σd' ∧ Wk G ρ H' J (i + 1) t'') := fun u hu => by
   rw [e0, hu]
   cases q : ct u σd with
   | none => exact .inl (by show Option.rec (motive := fun _ => α) b (fun σQ => f σQ t') (ct u σd) = b; rw [q])
   | some σd' =>
    refine .inr (.inr ⟨go, σd', t', by show Option.rec (motive := fun _ => α) b (fun σQ => f σQ t') (ct u σd) = _; rw [q], fun x H' y => ?_⟩)
    obtain ⟨T, us, rfl, fr, rfl, r1, wk⟩ := k x H' y
    obtain ⟨S2, E2, sq⟩ := S.newT (vs := us) fr
    exact ⟨u, E2, S2, DR.tup sq (r1.mono E2) hu, q, wk.mono E2⟩
  rcases jB0 l with zQ | ⟨_, zQ | ⟨r, _, zQ, _⟩⟩
  ·rw [zQ]; exact .inl rfl
  ·exact go2 _ zQ
  ·exact go2 _ zQ
end
end Mi

namespace Mi
open PySem PySem.Spec L2
open PyProof.Rows hiding St
def hide (Z : Addr) (H : Hp) : Hp := fun b => if b = Z then none else H b
section
variable {G : Gi} {ρ ρ' : List Addr} {H H' : Hp} {h h' : EH} {Z : Addr}
theorem jAB {b : Addr} (h : b ≠ Z) : hide Z H b = H b := if_neg h
theorem jAW : hide Z H Z = none := if_pos rfl
theorem jCl {b : Addr} {o : HO} (eQ : hide Z H b = some o) : b ≠ Z ∧ H b = some o := by
 by_cases hb : b = Z
 ·subst hb; rw [jAW] at eQ; cases eQ
 ·exact ⟨hb, (jAB (H := H) hb).symm.trans eQ⟩
theorem jCU {o : HO} : hide Z (upd H Z o) = hide Z H := funext fun b => by
 by_cases hb : b = Z
 ·subst hb; rw [jAW, jAW]
 ·rw [jAB hb, jAB hb, upd_ne hb]
theorem jI9 (eQ : H Z = none) : hide Z H = H := funext fun b => by
 by_cases hb : b = Z
 ·subst hb; rw [jAW, eQ]
 ·rw [jAB hb]
structure Lift (G : Gi) (ρ ρ' : List Addr) (H H' : Hp) : Prop where
 at' : ∀ {k : Nat} {a : Addr}, atR ρ k = some a → atR ρ' k = some a
 tup : TK G.K H H'
mutual
theorem DR.lift (eQ : Lift G ρ ρ' H H') : ∀ {x : D} {v : V}, DR G ρ H x v → DR G ρ' H' x v
 | _, _, .p x => .p (x.mono eQ.tup)
 | _, _, .ref a => .ref (eQ.at' a)
 | _, _, .mt a b => .mt (eQ.tup _ _ a) (DRs.lift eQ b)
theorem DRs.lift (eQ : Lift G ρ ρ' H H') : ∀ {x : List D} {v : List V}, DRs G ρ H x v → DRs G ρ' H' x v
 | _, _, .nil => .nil
 | _, _, .cons a b => .cons (DR.lift eQ a) (DRs.lift eQ b)
end
theorem ScR.lift {s : Sc} {b : Bool} {a : Addr} {i : Nat} (eQ : Lift G ρ ρ' H H') (x : ScR G ρ H s b a i) : ScR G ρ' H' s b a i := by
 cases x with
 | l q => exact .l (eQ.at' q)
 | t q r zQ => exact .t (eQ.tup _ _ q) (r.lift eQ) zQ
theorem Wk.lift {J : L2.It} {i : Nat} {t : It} (eQ : Lift G ρ ρ' H H') (x : Wk G ρ H J i t) (zQ : ∀ a o u, H a = some (.frz o u) → H' a = some (.frz o u)) : Wk G ρ' H' J i t := by
 have f : ∀ (p : P × D) (y : DictEntry), DEnt G ρ H p y → DEnt G ρ' H' p y := fun p y ⟨⟨k, h1, h2⟩, v, h3, h4⟩ => ⟨⟨k, h1, h2.mono eQ.tup⟩, v, h3, h4.lift eQ⟩
 cases x with
 | lst q => exact .lst (eQ.at' q)
 | seq q r => exact .seq (eQ.tup _ _ q) (r.lift eQ)
 | rng q r => exact .rng q r
 | enum q => exact .enum (q.lift eQ)
 | zip q r => exact .zip (q.lift eQ) (r.lift eQ)
 | zip3 q r w => exact .zip3 (q.lift eQ) (r.lift eQ) (w.lift eQ)
 | rev q r => exact .rev (eQ.at' q) r
 | rvt q n r => exact .rvt (eQ.tup _ _ q) n (r.lift eQ)
 | sqi q r => exact .sqi q r
 | dk q y r => exact .dk (zQ _ _ _ q) (fun w => (y w).imp fun _ => eQ.at') (L2.Paired.mapP r f)
 | dv q y r => exact .dv (zQ _ _ _ q) (fun w => (y w).imp fun _ => eQ.at') (L2.Paired.mapP r f)
 | di q y r => exact .di (zQ _ _ _ q) (fun w => (y w).imp fun _ => eQ.at') (L2.Paired.mapP r f)
theorem Sim.show_ {o : HO} (S : Sim G ρ h (hide Z H)) (eQ : H Z = some o) : Sim G ρ h H ∧ Ext G ρ ρ (hide Z H) H := S.kept fun b u q => (jCl q).2
theorem Sim.noD (S : Sim G ρ h (hide Z H)) : Z ∉ ρ := fun m => S.trk Z m jAW
def Hid (u : HO) : Prop := (∃ vs, u = .lst vs) ∨ ∃ φ, u = .ext φ
theorem jDb {u : HO} (eQ : H Z = some u) (hu : Hid u) : Lift G ρ ρ H (hide Z H) := ⟨fun q => q, ⟨fun a xs q => by
 rcases q with q | q
 ·have na : a ≠ Z := by
   rintro rfl
   rcases hu with ⟨_, rfl⟩ | ⟨_, rfl⟩ <;> rcases q with q | ⟨_, q⟩ <;> rw [eQ] at q <;> cases q
  rcases q with q | ⟨o, q⟩
  ·exact .inl (.inl (by rw [jAB na]; exact q))
  ·exact .inl (.inr ⟨o, by rw [jAB na]; exact q⟩)
 ·exact .inr q, fun a ⟨o, xs, q, d⟩ => by
 have na : a ≠ Z := by
  rintro rfl
  rcases hu with ⟨_, rfl⟩ | ⟨_, rfl⟩ <;> rw [eQ] at q <;> cases q
 exact ⟨o, xs, by rw [jAB na]; exact q, d⟩⟩⟩
theorem jF2 {vs : List V} (eQ : H Z = some (.lst vs)) : Lift G ρ ρ H (hide Z H) := jDb eQ (.inl ⟨vs, rfl⟩)
theorem OR.hide {o : O} {a : Addr} {u : HO} (eQ : H Z = some u) (hu : Hid u) (na : a ≠ Z) (x : OR G ρ H o a) : OR G ρ (hide Z H) o a := by
 have L := jDb (G := G) (ρ := ρ) eQ hu
 have f0 : ∀ (p : P × D) (q : Leaf × Value), R0Q G ρ H p q → R0Q G ρ (Mi.hide Z H) p q := fun p q ⟨h1, ⟨v, h2⟩, u, h3, h4⟩ => ⟨h1, ⟨v, h2.mono L.tup⟩, u, h3, h4.lift L⟩
 have f1 : ∀ (p : P × D) (q : NestedKey × Addr × Value), R1 G ρ H p q → R1 G ρ (Mi.hide Z H) p q := fun p q ⟨h1, h2, h5, u, h3, h4⟩ => ⟨h1, h2, h5.mono L.tup, u, h3, h4.lift L⟩
 cases x with
 | lst q r => exact .lst (by rw [jAB na]; exact q) (r.lift L)
 | d0 q r zQ => exact .d0 (by rw [jAB na]; exact q) (L2.Paired.mapP r f0) zQ
 | d1 q r zQ => exact .d1 (by rw [jAB na]; exact q) (L2.Paired.mapP r f1) zQ
 | l0 q r zQ => exact .l0 (by rw [jAB na]; exact q) (L2.Paired.mapP r f0) zQ
 | l1 q r zQ => exact .l1 (by rw [jAB na]; exact q) (L2.Paired.mapP r f1) zQ
 | ins cQ q d n r => exact .ins cQ (by rw [jAB na]; exact q) (by rw [jAB (ne_of d eQ fun zQ => by rcases hu with ⟨_, rfl⟩ | ⟨_, rfl⟩ <;> cases zQ)]; exact d) n (L2.Paired.mapP r fun _ _ h => ⟨h.1, h.2.lift L⟩)
 | exc cQ f q d n r => exact .exc cQ f (by rw [jAB na]; exact q) (by rw [jAB (ne_of d eQ fun zQ => by rcases hu with ⟨_, rfl⟩ | ⟨_, rfl⟩ <;> cases zQ)]; exact d) n (r.mono L.tup)
theorem jIE {u : HO} (eQ : H Z = some u) (hu : Hid u) : ∀ a o w, H a = some (.frz o w) → hide Z H a = some (.frz o w) := fun a o w q => by
 rw [jAB fun zQ => by rw [zQ, eQ] at q; rcases hu with ⟨_, rfl⟩ | ⟨_, rfl⟩ <;> cases q]
 exact q
theorem frz_hide {vs : List V} (eQ : H Z = some (.lst vs)) : ∀ a o u, H a = some (.frz o u) → hide Z H a = some (.frz o u) := jIE eQ (.inl ⟨vs, rfl⟩)
theorem Sim.hideU {u : HO} (S : Sim G ρ h H) (eQ : H Z = some u) (hu : Hid u) (nD : Z ∉ ρ) : Sim G ρ h (hide Z H) :=
 ⟨S.n, S.len, S.nd, fun i o a h1 h2 => (S.obj i o a h1 h2).hide eQ hu fun zQ => nD (by rw [← zQ]; exact List.mem_of_getElem? h2), fun p hpQ => ⟨(jAB (fun zQ => by
  have := (S.pin p hpQ).1
  rw [zQ, eQ] at this
  have k := (S.pin p hpQ).2.2
  rcases hu with ⟨vs, rfl⟩ | ⟨φ, rfl⟩
  ·exact k.1 vs (Option.some.inj this).symm
  ·exact k.2 φ (Option.some.inj this).symm)).trans (S.pin p hpQ).1, (S.pin p hpQ).2⟩, fun p hpQ => (S.pr p hpQ).mono (jDb (ρ := ρ) eQ hu).tup⟩
theorem Ext.hideU {u : HO} (S : Sim G ρ h (hide Z H)) (eQ : H Z = some u) (hu : Hid u) (E : Ext G ρ ρ' H H') (S' : Sim G ρ' h' H') : H' Z = some u ∧ Sim G ρ' h' (Mi.hide Z H') ∧ Ext G ρ ρ' (Mi.hide Z H) (Mi.hide Z H') := by
 have eQ' := E.keep Z _ eQ S.noD
 obtain ⟨new, en, fr⟩ := E.suf
 have nD : Z ∉ ρ' := fun m => by
  rw [en] at m
  rcases List.mem_append.mp m with m | m
  ·rw [fr Z m] at eQ; cases eQ
  ·exact S.noD m
 refine ⟨eQ', S'.hideU eQ' hu nD, .of S (new := new) en (fun a m => ?_) (fun a o q na => ?_) (fun a m zQ => ?_) fun a m o u q => ?_⟩
 ·by_cases ha : a = Z
  ·subst ha; exact jAW
  ·rw [jAB ha]; exact fr a m
 ·obtain ⟨h1, h2⟩ := jCl q
  rw [jAB h1]; exact E.keep a o h2 na
 ·have ha : a ≠ Z := by rintro rfl; exact S.noD m
  rw [jAB ha] at zQ
  exact E.trk a m zQ
 ·obtain ⟨h1, h2⟩ := jCl q
  rw [jAB h1]; exact E.frz a m o u h2
theorem Ext.hide {vs : List V} (S : Sim G ρ h (hide Z H)) (eQ : H Z = some (.lst vs)) (E : Ext G ρ ρ' H H') (S' : Sim G ρ' h' H') : H' Z = some (.lst vs) ∧ Sim G ρ' h' (Mi.hide Z H') ∧ Ext G ρ ρ' (Mi.hide Z H) (Mi.hide Z H') := E.hideU S eQ (.inl ⟨vs, rfl⟩) S'
theorem EnvR.lift {σd : Env} {σQ : St} (x : EnvR G ρ H σd σQ) (eQ : Lift G ρ ρ' H H') : EnvR G ρ' H' σd σQ := ⟨x.len, fun i d q => by
 obtain ⟨v, h1, h2⟩ := x.val i d q
 exact ⟨v, h1, h2.lift eQ⟩⟩
theorem OR.lift {o : O} {b : Addr} (x : OR G ρ H o b) (L : Lift G ρ ρ H H') (k : H' b = H b) (kp : ∀ y w, H y = some w → y ∉ ρ → H' y = some w) : OR G ρ H' o b := by
 have f0 : ∀ (p : P × D) (q : Leaf × Value), R0Q G ρ H p q → R0Q G ρ H' p q := fun p q ⟨h1, ⟨v, h2⟩, u, h3, h4⟩ => ⟨h1, ⟨v, h2.mono L.tup⟩, u, h3, h4.lift L⟩
 have f1 : ∀ (p : P × D) (q : NestedKey × Addr × Value), R1 G ρ H p q → R1 G ρ H' p q := fun p q ⟨h1, h2, h5, u, h3, h4⟩ => ⟨h1, h2, h5.mono L.tup, u, h3, h4.lift L⟩
 cases x with
 | lst q r => exact .lst (k.trans q) (r.lift L)
 | d0 q r zQ => exact .d0 (k.trans q) (L2.Paired.mapP r f0) zQ
 | d1 q r zQ => exact .d1 (k.trans q) (L2.Paired.mapP r f1) zQ
 | l0 q r zQ => exact .l0 (k.trans q) (L2.Paired.mapP r f0) zQ
 | l1 q r zQ => exact .l1 (k.trans q) (L2.Paired.mapP r f1) zQ
 | ins cQ q d n r => exact .ins cQ (k.trans q) (kp _ _ d n) n (L2.Paired.mapP r fun _ _ h => ⟨h.1, h.2.lift L⟩)
 | exc cQ f q d n r => exact .exc cQ f (k.trans q) (kp _ _ d n) n (r.mono L.tup)
theorem jFj (σQ : St) : ∀ (ws vs : List Nat), (∀ i ∈ ws, i ∈ vs) → wipe (wipe σQ ws) vs = wipe σQ vs
 | [], _, _ => rfl
 | w :: ws, vs, h => by
  show wipe ((wipe σQ ws).set w none) vs = _
  rw [jDy _ _ (h w List.mem_cons_self)]
  exact jFj σQ ws vs fun i hi => h i (List.mem_cons_of_mem _ hi)
theorem EnvR.setN {σd : Env} {σQ : St} (x : EnvR G ρ H σd σQ) (i : Nat) : EnvR G ρ H (σd.set i none) (σQ.set i none) := by
 refine ⟨by rw [List.length_set, List.length_set]; exact x.len, fun j eQ q => ?_⟩
 by_cases hj : i = j
 ·subst hj
  have hi : i < (σd.set i none).length := (List.getElem?_eq_some_iff.mp q).1
  rw [List.length_set] at hi
  rw [List.getElem?_set_self hi] at q
  cases q
 ·rw [List.getElem?_set_ne hj] at q ⊢
  exact x.val j eQ q
theorem EnvR.wipe {σd : Env} {σQ : St} (x : EnvR G ρ H σd σQ) : ∀ (vs : List Nat), EnvR G ρ H (jBj vs σd) (wipe σQ vs)
 | [] => x
 | v :: vs => by
  show EnvR G ρ H (Mi.setN (jBj vs σd) v none) ((L2.wipe σQ vs).set v none)
  rw [jBC]
  exact (EnvR.wipe x vs).setN v
end
section
variable {X : Cx} {G : Gi} {W : WX} {Φ : Ph} {pos p2 tpos : Pos} {tg eQ : Expr} {ct : CT} {ci : CI} {ifs : List Expr} {cc ce : CE}
abbrev SQ (X : Cx) (G : Gi) (W : WX) (Φ : Ph) (es : List Expr) (cQ : CE) : Prop := PTs X es (rdT G W (cQ Φ))
theorem _root_.L2.PTs.weak {es : List Expr} {t t' : TT} (h : PTs X es t) (w : ∀ σQ H Q, t' σQ H Q → t σQ H Q) : PTs X es t' := ⟨fun pins s σQ H Q I q => h.run pins s σQ H Q I (w σQ H Q q)⟩
theorem jBy : SQ X G W Φ [] (cC (.bl true)) := pts_nil.weak fun σQ H Q ⟨ρ, σd, h, en, S, x⟩ => by
 obtain ⟨b, q, x⟩ := (x : ∃ b, tru h (.p (.bl true)) = some b ∧ ∀ ρ' H', Ext G ρ ρ' H H' → Sim G ρ' h H' → Q b H')
 cases (show some true = some b from q)
 exact x ρ H (.refl S) S
theorem sq_one (h : ST X G W Φ eQ cc) : SQ X G W Φ [eQ] cc := pts_one h
abbrev W0 : WX := fun _ _ _ _ => False
theorem jC0 {s : Shared} {H : Hp} {scope : Scope} {cenv : PySem.Env} {fp : List Addr} : Takes (X.blk s H scope cenv fp) W0 := fun _ _ x => by
 obtain ⟨_, _, _, _, _, _, _, _, _, _, _, _, _, _, _, _, zQ⟩ := x
 exact zQ.elim
end
section
variable {X : Cx} {G : Gi} {W : WX} {Φ : Ph} {pos p2 tpos : Pos} {tg eQ : Expr} {ct : CT} {ci : CI} {sts : List Stmt} {s : CS} {vs : List Nat}
inductive Unl (H0 : Hp) : Hp → Hp → Prop
 | refl {H : Hp} : Unl H0 H H
 | step {H H2 : Hp} {a : Addr} {o : Obj} {u : HO} : H a = some (.frz o u) → (∀ o' u', H0 a ≠ some (.frz o' u')) → Unl H0 (upd H a u) H2 → Unl H0 H H2
theorem Unl.inv {X : Cx} {pins : List (Addr × Obj)} {σQ σ0 : St} {H0 H H2 : Hp} {s0 s : Shared} (I0 : Inv X pins σ0 H0 s0) (u : Unl H0 H H2) (I : Inv X pins σQ H s) : Inv X pins σQ H2 s := by
 induction u with
 | refl => exact I
 | step eQ n _ ih => exact ih (I.unlock eQ fun o' u' zQ => n o' u' (I0.base.frzs _ o' u' zQ))
def unlE (H0 : Hp) (D : Ends) : Ends := { nx := fun σQ H => ∃ H2, Unl H0 H H2 ∧ D.nx σQ H2, rt := fun v H => ∃ H2, Unl H0 H H2 ∧ D.rt v H2, bk := fun σQ H => ∃ H2, Unl H0 H H2 ∧ D.bk σQ H2, ct := fun σQ H => ∃ H2, Unl H0 H H2 ∧ D.ct σQ H2 }
def unlQ (H0 : Hp) (Q : VK) : VK := fun v H => ∃ H2, Unl H0 H H2 ∧ Q v H2
theorem ps_unl {stQ : Stmt} {t : TS} (h : PS X stQ t) : PS X stQ (fun D σQ H => t (unlE H D) σQ H) := ⟨fun pins s σQ H D I q => wpAny_mono (h.run pins s σQ H _ I q) (fun r s' zQ => by
 cases r with
 | next => obtain ⟨σ', H', I', H2, u, q⟩ := zQ; exact ⟨σ', H2, u.inv I I', q⟩
 | brk => obtain ⟨σ', H', I', H2, u, q⟩ := zQ; exact ⟨σ', H2, u.inv I I', q⟩
 | cont => obtain ⟨σ', H', I', H2, u, q⟩ := zQ; exact ⟨σ', H2, u.inv I I', q⟩
 | ret w => obtain ⟨v, σ', H', I', rv, H2, u, q⟩ := zQ; exact ⟨v, σ', H2, u.inv I I', rv, q⟩) fun _ _ zQ => zQ⟩
theorem pe_unl {eQ : Expr} {t : TE} (h : PE X eQ t) : PE X eQ (fun σQ H Q => t σQ H (unlQ H Q)) := ⟨fun pins s σQ H Q I q => wpAny_mono (h.run pins s σQ H _ I q) (fun r s' zQ => by
 obtain ⟨v, H', I', rv, H2, u, q⟩ := zQ
 exact ⟨v, H2, u.inv I I', rv, q⟩) fun _ _ zQ => zQ⟩
theorem jHH {ρ ρ' : List Addr} {H H' : Hp} {h' : EH} {k : Nat} {a : Addr} (S : Sim G ρ' h' H') (E : Ext G ρ ρ' H H') (eQ : atR ρ' k = some a) (n : ∀ o u, H a ≠ some (.frz o u)) : (∀ (α : Type) (y : EH → α) (b : α), unlH k h' y b = b) ∨
  ∃ h2 H2, Unl H H' H2 ∧ Sim G ρ' h2 H2 ∧ Ext G ρ ρ' H H2 ∧ Lift G ρ' ρ' H' H2 ∧ (∃ o u, H' a = some (.frz o u) ∧ H2 = upd H' a u) ∧ ∀ (α : Type) (y : EH → α) (b : α), unlH k h' y b = y h2 := by
 have am : a ∈ ρ' := by
  unfold atR at eQ
  by_cases hk : k < ρ'.length
  ·rw [if_pos hk] at eQ; exact List.mem_of_getElem? eQ
  ·rw [if_neg hk] at eQ; cases eQ
 rcases jE6 S eQ with zQ | ⟨v, l, hk, x, zQ⟩
 ·exact .inl fun α y b => zQ α _ b
 ·cases q : Nat.ble 2 v with
  | false => exact .inl fun α y b => (zQ α _ b).trans (by rw [q]; rfl)
  | true =>
   have go : ∀ (o : Obj) (u : HO), H' a = some (.frz o u) → (∀ xs, u ≠ .tup xs) → (∀ y, u ≠ .own y) → (Lift G ρ' ρ' H' (upd H' a u) → OR G ρ' (upd H' a u) (.dic (Nat.sub v 2) l) a) →
     ∃ h2 H2, h2 = h'.put k (.dic (Nat.sub v 2) l) ∧ Unl H H' H2 ∧ Sim G ρ' h2 H2 ∧ Ext G ρ ρ' H H2 ∧ Lift G ρ' ρ' H' H2 ∧ (∃ o u, H' a = some (.frz o u) ∧ H2 = upd H' a u) := fun o u q nt no xx => by
    have ne : ∀ b w, H' b = some w → (∀ o u, w ≠ .frz o u) → b ≠ a := fun b w zQ n y => by rw [y, q] at zQ; exact n _ _ (Option.some.inj zQ).symm
    have kp : ∀ b w, H' b = some w → b ∉ ρ' → upd H' a u b = some w := fun b w zQ nm => (upd_ne fun y => nm (by rw [y]; exact am)).trans zQ
    have L : Lift G ρ' ρ' H' (upd H' a u) := ⟨fun zQ => zQ, jGK S kp⟩
    refine ⟨_, _, rfl, .step q n .refl, ?_, ?_, L, o, u, q, rfl⟩
    ·obtain ⟨hk1, e1⟩ : k < ρ'.length ∧ ρ'[ρ'.length - 1 - k]? = some a := by
      unfold atR at eQ
      by_cases hk : k < ρ'.length
      ·rw [if_pos hk] at eQ; exact ⟨hk, eQ⟩
      ·rw [if_neg hk] at eQ; cases eQ
     refine ⟨?_, ?_, S.nd, fun i w b e2 e3 => ?_, fun p hpQ => ⟨kp _ _ (S.pin p hpQ).1 (S.pin p hpQ).2.1, (S.pin p hpQ).2⟩, fun p hpQ => (S.pr p hpQ).mono L.tup⟩
     ·exact EH.l_len _
     ·rw [EH.put_l, List.length_set]; exact S.len
     ·rw [EH.put_l] at e2
      rw [S.n, ← S.len] at e2
      by_cases hi : ρ'.length - 1 - k = i
      ·subst hi
       rw [e1] at e3; cases e3
       rw [List.getElem?_set_self (by rw [← S.len]; omega)] at e2
       cases e2
       exact xx L
      ·rw [List.getElem?_set_ne hi] at e2
       refine (S.obj i w b e2 e3).lift L (upd_ne ?_) kp
       rintro rfl
       obtain ⟨h1, q1⟩ := List.getElem?_eq_some_iff.mp e1
       obtain ⟨h2, q2⟩ := List.getElem?_eq_some_iff.mp e3
       exact hi ((List.getElem_inj S.nd).mp (q1.trans q2.symm))
    ·obtain ⟨new, en, fr⟩ := E.suf
     refine ⟨⟨new, en, fr⟩, fun b w zQ nm => ?_, E.tup.trans L.tup, fun b m zQ => ?_, fun b m o' u' zQ => ?_⟩
     ·by_cases y : b = a
      ·subst y
       rw [en] at am
       rcases List.mem_append.mp am with m | m
       ·rw [fr b m] at zQ; cases zQ
       ·exact absurd m nm
      ·rw [upd_ne y]; exact E.keep b w zQ nm
     ·by_cases y : b = a
      ·subst y; rw [upd_same] at zQ; cases zQ
      ·rw [upd_ne y] at zQ; exact E.trk b m zQ
     ·have y : b ≠ a := fun y => n o' u' (by rw [← y]; exact zQ)
      rw [upd_ne y]; exact E.frz b m o' u' zQ
   have fin : (∃ h2 H2, h2 = h'.put k (.dic (Nat.sub v 2) l) ∧ Unl H H' H2 ∧ Sim G ρ' h2 H2 ∧ Ext G ρ ρ' H H2 ∧ Lift G ρ' ρ' H' H2 ∧ (∃ o u, H' a = some (.frz o u) ∧ H2 = upd H' a u)) → ∃ h2 H2, Unl H H' H2 ∧ Sim G ρ' h2 H2 ∧ Ext G ρ ρ' H H2 ∧ Lift G ρ' ρ' H' H2 ∧ (∃ o u, H' a = some (.frz o u) ∧ H2 = upd H' a u) ∧ ∀ (α : Type) (y : EH → α) (b : α), unlH k h' y b = y h2 := fun ⟨h2, H2, w1, w2, w3, w4, w5, w6⟩ => ⟨h2, H2, w2, w3, w4, w5, w6, fun α y b => (zQ α _ b).trans (by rw [q, w1]; rfl)⟩
   have p0 : ∀ {l : List (P × D)} {vs : List (Leaf × Value)} {H2 : Hp}, Lift G ρ' ρ' H' H2 → Paired (R0Q G ρ' H') l vs → Paired (R0Q G ρ' H2) l vs := fun L r => L2.Paired.mapP r fun p q ⟨h1, ⟨v, h2⟩, u, h3, h4⟩ => ⟨h1, ⟨v, h2.mono L.tup⟩, u, h3, h4.lift L⟩
   have p1 : ∀ {l : List (P × D)} {vs : List (NestedKey × Addr × Value)} {H2 : Hp}, Lift G ρ' ρ' H' H2 → Paired (R1 G ρ' H') l vs → Paired (R1 G ρ' H2) l vs := fun L r => L2.Paired.mapP r fun p q ⟨h1, h2, h5, u, h3, h4⟩ => ⟨h1, h2, h5.mono L.tup, u, h3, h4.lift L⟩
   cases x with
   | d0 => cases q
   | d1 => cases q
   | l0 ha r hzQ => exact .inr (fin (go _ _ ha (fun _ zQ => nomatch zQ) (fun _ zQ => nomatch zQ) fun L => .d0 upd_same (p0 L r) hzQ))
   | l1 ha r hzQ => exact .inr (fin (go _ _ ha (fun _ zQ => nomatch zQ) (fun _ zQ => nomatch zQ) fun L => .d1 upd_same (p1 L r) hzQ))
theorem unlT_S {ρ ρ1 : List Addr} {H H1 : Hp} {t : It} {r : RS} {D : Ends} (E : Ext G ρ ρ1 H H1) (zQ : LkOk ρ1 H t) (hk : ∀ m k l, t = .dic m k true l → ∃ a, atR ρ1 k = some a) (x : wS G W ρ H (unlT t unlS r) D) : wS G W ρ1 H1 r (unlE H D) := by
 have triv : wS G W ρ H r D → wS G W ρ1 H1 r (unlE H D) := fun x => by
  have x := wS.mono x E
  cases r with
  | nx => exact fun ρ' H' σ' eQ s n => ⟨H', .refl, x ρ' H' σ' eQ s n⟩
  | rt => exact fun ρ' H' v eQ s n => ⟨H', .refl, x ρ' H' v eQ s n⟩
  | bk => exact fun ρ' H' σ' eQ s n => ⟨H', .refl, x ρ' H' σ' eQ s n⟩
  | ct => exact fun ρ' H' σ' eQ s n => ⟨H', .refl, x ρ' H' σ' eQ s n⟩
  | ex => exact x
  | bad => exact x
 cases t with
 | dic m k lk l =>
  cases lk with
  | false => exact triv x
  | true =>
   obtain ⟨a, ha⟩ := hk m k l rfl
   have n := zQ m k l a rfl ha
   have x : wS G W ρ H (unlS k r) D := x
   have n1 : ∀ {ρ' : List Addr} {H' : Hp} {h' : EH}, Ext G ρ1 ρ' H1 H' → Sim G ρ' h' H' → (∀ (α : Type) (y : EH → α) (b : α), unlH k h' y b = b) ∨ ∃ h2 H2, Unl H H' H2 ∧ Sim G ρ' h2 H2 ∧ Ext G ρ ρ' H H2 ∧ Lift G ρ' ρ' H' H2 ∧ (∃ o u, H' a = some (.frz o u) ∧ H2 = upd H' a u) ∧ ∀ (α : Type) (y : EH → α) (b : α), unlH k h' y b = y h2 := fun eQ s => jHH s (E.trans eQ) (eQ.at ha) n
   cases r with
   | bad => exact x
   | ex => exact wS.mono x E
   | nx σd h =>
    have x : wS G W ρ H (unlH k h (fun h => RS.nx σd h) .bad) D := x
    intro ρ' H' σ' eQ s en
    rcases n1 eQ s with q | ⟨h2, H2, u, s2, e2, L, _, q⟩
    ·rw [q] at x; exact x.elim
    ·rw [q] at x; exact ⟨H2, u, x ρ' H2 σ' e2 s2 (en.lift L)⟩
   | rt v h =>
    have x : wS G W ρ H (unlH k h (fun h => RS.rt v h) .bad) D := x
    intro ρ' H' v' eQ s rv
    rcases n1 eQ s with q | ⟨h2, H2, u, s2, e2, L, _, q⟩
    ·rw [q] at x; exact x.elim
    ·rw [q] at x; exact ⟨H2, u, x ρ' H2 v' e2 s2 (rv.lift L)⟩
   | bk σd h =>
    have x : wS G W ρ H (unlH k h (fun h => RS.bk σd h) .bad) D := x
    intro ρ' H' σ' eQ s en
    rcases n1 eQ s with q | ⟨h2, H2, u, s2, e2, L, _, q⟩
    ·rw [q] at x; exact x.elim
    ·rw [q] at x; exact ⟨H2, u, x ρ' H2 σ' e2 s2 (en.lift L)⟩
   | ct σd h =>
    have x : wS G W ρ H (unlH k h (fun h => RS.ct σd h) .bad) D := x
    intro ρ' H' σ' eQ s en
    rcases n1 eQ s with q | ⟨h2, H2, u, s2, e2, L, _, q⟩
    ·rw [q] at x; exact x.elim
    ·rw [q] at x; exact ⟨H2, u, x ρ' H2 σ' e2 s2 (en.lift L)⟩
 | _ => exact triv x
theorem jEr (hpQ : PassesOwn (model X.prog X.w) X.A X.env X.xe) (hc : X.calm = true) (hi : SI X G W Φ tg eQ ci) (hg : SG X G vs tg ct) (hb : SSs X G W Φ sts s)
  (hs : ∀ x, foldedSetIterable eQ X.env x = pure x := by intro _; rfl) : SS X G W Φ (.For tg eQ sts [] pos) (sFor ct ci s) :=
 (ps_unl (ps_for hpQ hc hi hg hb hs)).weak fun D σQ H0 ⟨ρ, σd, h, en, S, x⟩ => by
  refine ⟨ρ, σd, h, en, S, ?_⟩
  have x : wS G W ρ H0 (RI.rec (motive := fun _ => RS) (fun t h => unlT t unlS (forN ct (s Φ) big t σd h)) (fun cQ x h => .ex cQ x σd h) .bad (ci Φ σd h)) D := x
  cases q : ci Φ σd h with
  | bad => rw [q] at x; exact x.elim
  | ex cQ y h' => rw [q] at x; exact fun ρ' H' cls dd E S' r => x ρ' H' σQ cls dd E S' (en.mono E) r
  | ok t h' =>
   rw [q] at x
   intro ρ1 H1 J E1 S1 wk lk
   have x := unlT_S E1 lk wk.at_ x
   refine ⟨fun i m σQ H => ∃ ρ σd h t, EnvR G ρ H σd σQ ∧ Sim G ρ h H ∧ Wk G ρ H J i t ∧ wS G W ρ H (forN ct (s Φ) m t σd h) (unlE H0 D), ⟨big, ρ1, σd, h', t, en.mono E1, S1, wk, x⟩, ?_⟩
   clear x wk S1 E1 q S en
   rintro i m σQ H ⟨ρ, σd, h, t, en, S, wk, x⟩
   cases m with
   | zero => exact x.elim
   | succ m =>
    have x : wS G W ρ H (tgt ct (t.next h) σd (.nx σd h) (fun σQ t => turnS (s Φ σQ h) fun σQ h => forN ct (s Φ) m t σQ h) .bad) (unlE H0 D) := x
    rcases jHK (ct := ct) S wk σd (.nx σd h) (fun σQ t => turnS (s Φ σQ h) fun σQ h => forN ct (s Φ) m t σQ h) RS.bad with zQ | ⟨zQ, stQ⟩ | ⟨go, σd', t', zQ, k⟩
    ·rw [zQ] at x; exact x.elim
    ·rw [zQ] at x; exact .inl ⟨stQ, x ρ H σQ (.refl S) S en⟩
    ·rw [zQ] at x
     refine .inr ⟨go, fun σ' H' => ∃ ρ σd h t, EnvR G ρ H' σd σ' ∧ Sim G ρ h H' ∧ Wk G ρ H' J (i + 1) t ∧ wS G W ρ H' (forN ct (s Φ) m t σd h) (unlE H0 D), fun σ' H' zQ => ⟨m, Nat.lt_succ_self m, zQ⟩, fun y H' yl => ?_⟩
     obtain ⟨d, E2, S2, r, hct, wk2⟩ := k y H' yl
     refine ⟨ρ, d, σd, h, r, en.mono E2, S2, ?_⟩
     rw [hct]
     intro σ2 en2 _
     exact ⟨ρ, σd', h, en2, S2, wS.turn (wS.mono x E2) fun ρ' H'' σ' σd2 h2 E S3 en3 w => ⟨ρ', σd2, h2, t', en3, S3, wk2.mono E, w⟩⟩
end
end Mi

namespace Mi
open PySem PySem.Spec L2
open PyProof.Rows hiding St
section
variable {G : Gi} {W : WX} {ρ ρ1 : List Addr} {H H1 : Hp} {σQ : St}
theorem wE.bindC {r : RE} {f : D → EH → RL} {K : RL → Prop} (hb : ¬ K .bad) (x : K (bC r f)) : wE G W0 ρ H σQ r fun v H1 => ∃ ρ1 d h1, Ext G ρ ρ1 H H1 ∧ Sim G ρ1 h1 H1 ∧ DR G ρ1 H1 d v ∧ K (f d h1) := by
 cases r with
 | ok d h' => exact fun ρ' H' v eQ s r => ⟨ρ', d, h', eQ, s, r, x⟩
 | ex cQ y h' => exact (hb x).elim
 | bad => exact (hb x).elim
theorem wT.bindC {r : RE} {f g : D → EH → RL} {K : RL → Prop} (hb : ¬ K .bad) (x : K (bC r fun d h => tE h d (f d h) (g d h) .bad)) : wT G W0 ρ H σQ r fun b H1 => ∃ ρ1 d h1, Ext G ρ ρ1 H H1 ∧ Sim G ρ1 h1 H1 ∧ K (if b = true then f d h1 else g d h1) := by
 cases r with
 | ok d h' =>
  have x : K (tE h' d (f d h') (g d h') .bad) := x
  rcases jBL h' d (f d h') (g d h') RL.bad with ⟨q, eQ⟩ | ⟨q, eQ⟩ | ⟨q, eQ⟩
  ·rw [eQ] at x; exact ⟨true, q, fun ρ' H' E S => ⟨ρ', d, h', E, S, x⟩⟩
  ·rw [eQ] at x; exact ⟨false, q, fun ρ' H' E S => ⟨ρ', d, h', E, S, x⟩⟩
  ·rw [eQ] at x; exact (hb x).elim
 | ex cQ y h' => exact (hb x).elim
 | bad => exact (hb x).elim
end
def CompAt (G : Gi) (ρ1 : List Addr) (H1 : Hp) (Z : Addr) (J : L2.It) (K : RL → Prop) (run : Nat → It → EH → List D → RL) (L : Nat) (i m : Nat) (H' : Hp) : Prop :=
 ∃ ρ' h t acc us, Ext G ρ1 ρ' H1 (hide Z H') ∧ Sim G ρ' h (hide Z H') ∧ Wk G ρ' (hide Z H') J i t ∧ H' Z = some (.lst us) ∧ DRs G ρ' (hide Z H') acc.reverse us ∧ acc.length + m ≤ L ∧ K (run m t h acc)
section
variable {X : Cx} {G : Gi} {W : WX} {Φ : Ph} {pos p2 tpos : Pos} {tg iter elt : Expr} {ct : CT} {ci : CI} {ifs : List Expr} {cc ce : CE} {scope : Scope} {own : List (Str × Nat)}
theorem jHC {ρ1 : List Addr} {H1 : Hp} {Z : Addr} {J : L2.It} {K : RL → Prop} {σQ : St} {σd : Env} (hb : ¬ K .bad) (en : EnvR G ρ1 H1 σd σQ) {vs : List Nat} {L : Nat} (hL : L ≤ jCG) (Qd : Hp → Prop)
  (hd : ∀ ρ' h acc us H', Ext G ρ1 ρ' H1 (hide Z H') → Sim G ρ' h (hide Z H') → H' Z = some (.lst us) → DRs G ρ' (hide Z H') acc.reverse us → acc.length ≤ L → K (.ok acc h) → Qd H') :
  ∀ i m H, CompAt G ρ1 H1 Z J K (jBI ct (cc Φ) (ce Φ) (jBj vs σd)) L i m H →
   (J.stop i H ∧ Qd H) ∨ (J.go i H ∧ ∃ Nx : Hp → Prop, (∀ H', Nx H' → ∃ m', m' < m ∧ CompAt G ρ1 H1 Z J K (jBI ct (cc Φ) (ce Φ) (jBj vs σd)) L (i + 1) m' H') ∧ ∀ x H', J.yld i H x H' → rdG G vs ct x (wipe σQ vs) H' fun σ2 H2 => wipe σ2 vs = wipe σQ vs ∧ rdT G W0 (cc Φ) σ2 H2 fun b H3 =>
    if b = true then rdE G W0 (ce Φ) σ2 H3 fun y H4 => ∃ acc, H4 Z = some (.lst acc) ∧ acc.length < sizeLine ∧ Nx (upd H4 Z (.lst (acc ++ [y]))) else Nx H3) := by
 rintro i m H ⟨ρ', h, t, acc, us, E, S, wk, hzQ, ra, hl, x⟩
 cases m with
 | zero => exact (hb x).elim
 | succ m =>
  obtain ⟨S0, E0⟩ := S.show_ hzQ
  have wk0 := wk.mono E0
  have x : K (tgt ct (t.next h) (jBj vs σd) (.ok acc h) (fun σQ t => bC (cc Φ σQ h) fun b h => tE h b (bC (ce Φ σQ h) fun y h => fD y fun y => jBI ct (cc Φ) (ce Φ) (jBj vs σd) m t h (y :: acc)) (jBI ct (cc Φ) (ce Φ) (jBj vs σd) m t h acc) .bad) .bad) := x
  rcases jHK (ct := ct) S0 wk0 (jBj vs σd) (.ok acc h) (fun σQ t => bC (cc Φ σQ h) fun b h => tE h b (bC (ce Φ σQ h) fun y h => fD y fun y => jBI ct (cc Φ) (ce Φ) (jBj vs σd) m t h (y :: acc)) (jBI ct (cc Φ) (ce Φ) (jBj vs σd) m t h acc) .bad) RL.bad with zQ | ⟨zQ, stQ⟩ | ⟨go, σd', t', zQ, k⟩
  ·rw [zQ] at x; exact (hb x).elim
  ·rw [zQ] at x; exact .inl ⟨stQ, hd ρ' h acc us H E S hzQ ra (by omega) x⟩
  ·rw [zQ] at x
   refine .inr ⟨go, fun H' => CompAt G ρ1 H1 Z J K (jBI ct (cc Φ) (ce Φ) (jBj vs σd)) L (i + 1) m H', fun H' q => ⟨m, Nat.lt_succ_self m, q⟩, fun v H' yl => ?_⟩
   obtain ⟨d, E2, S2, r, hct, wk2⟩ := k v H' yl
   refine ⟨ρ', d, jBj vs σd, h, r, ((en.mono E).mono E0).mono E2 |>.wipe vs, S2, ?_⟩
   rw [hct]
   intro σ2 en2 hw
   refine ⟨hw.trans (jFj σQ vs vs fun _ zQ => zQ), ρ', σd', h, en2, S2, ?_⟩
   refine (wT.bindC (f := fun _ h => bC (ce Φ σd' h) fun y h => fD y fun y => jBI ct (cc Φ) (ce Φ) (jBj vs σd) m t' h (y :: acc)) (g := fun _ h => jBI ct (cc Φ) (ce Φ) (jBj vs σd) m t' h acc) hb x).imp fun b H3 ⟨ρ3, d3, h3, E3, S3, x3⟩ => ?_
   -- beside the new list all is kept
   obtain ⟨hz2, Sh2, Eh2⟩ := E2.hide S hzQ S2
   obtain ⟨hz3, Sh3, Eh3⟩ := E3.hide Sh2 hz2 S3
   have ra3 := (ra.mono Eh2).mono Eh3
   have wk3 := (wk2.lift (jF2 hz2) (frz_hide hz2)).mono Eh3
   cases b with
   | false =>
    rw [if_neg Bool.false_ne_true] at x3 ⊢
    exact ⟨ρ3, h3, t', acc, us, (E.trans Eh2).trans Eh3, Sh3, wk3, hz3, ra3, by omega, x3⟩
   | true =>
    rw [if_pos rfl] at x3 ⊢
    refine ⟨ρ3, σd', h3, en2.mono E3, S3, (wE.bindC (f := fun y h => fD y fun y => jBI ct (cc Φ) (ce Φ) (jBj vs σd) m t' h (y :: acc)) hb x3).imp fun y H4 ⟨ρ4, d4, h4, E4, S4, r4, x4⟩ => ?_⟩
    obtain ⟨hz4, Sh4, Eh4⟩ := E4.hide Sh3 hz3 S4
    have hlu : us.length = acc.length := by rw [← ra.length, List.length_reverse]
    refine ⟨us, hz4, ?_, ?_⟩
    ·rw [hlu]
     have : jCG < sizeLine := by decide
     omega
    ·rw [jBs] at x4
     refine ⟨ρ4, h4, t', d4 :: acc, us ++ [y], ?_, ?_, ?_, upd_same, ?_, by rw [List.length_cons]; omega, x4⟩
     ·rw [jCU]; exact ((E.trans Eh2).trans Eh3).trans Eh4
     ·rw [jCU]; exact Sh4
     ·rw [jCU]; exact wk3.mono Eh4
     ·rw [jCU, List.reverse_cons]
      exact (ra3.mono Eh4).append (.cons (r4.lift (jF2 hz4)) .nil)
theorem jHq {σQ : St} {H H' : Hp} {Q : VK} {ρ ρ' : List Addr} {h : EH} {Z : Addr} {acc : List D} {us : List V} (S : Sim G ρ' h (hide Z H')) (hzQ : H' Z = some (.lst us)) (ra : DRs G ρ' (hide Z H') acc.reverse us) (E : Ext G ρ ρ' H (hide Z H')) (x : wE G W ρ H σQ ((VR.new (.lst (revL acc))).re h) Q) : Q (.ref Z) H' := by
 rw [jCT, jHU] at x
 obtain ⟨S0, E0⟩ := S.show_ hzQ
 obtain ⟨S3, E3⟩ := S.new (o := .lst []) (a := Z) (H' := upd (hide Z H') Z (.lst [])) jAW (jBK jAW) (.lst upd_same .nil)
 have l : Lift G ρ' (Z :: ρ') (hide Z H') H' := ⟨fun q => E3.at q, E0.tup⟩
 obtain ⟨S2, E2⟩ := S.new (o := .lst acc.reverse) (a := Z) (H' := H') jAW (fun b u q => (jCl q).2) (.lst hzQ (ra.lift l))
 refine x (Z :: ρ') H' _ (E.trans E2) S2 (.ref ?_)
 rw [S.n, ← S.len]
 exact jFh
theorem comp_unl {σQ : St} {H H1 H' : Hp} {Q : VK} {ρ ρ1 ρ' : List Addr} {h : EH} {Z : Addr} {acc : List D} {us : List V} {t : It} (E1 : Ext G ρ ρ1 H H1) (lk : LkOk ρ1 H t) (hk : ∀ m k l, t = .dic m k true l → ∃ a, atR ρ1 k = some a) (S : Sim G ρ' h (hide Z H')) (hzQ : H' Z = some (.lst us)) (ra : DRs G ρ' (hide Z H') acc.reverse us) (E : Ext G ρ1 ρ' H1 (hide Z H'))
  (x : wE G W ρ H σQ (RL.rec (motive := fun _ => RE) (fun acc h => (VR.new (.lst (revL acc))).re h) (fun _ _ _ => .bad) .bad (unlT t unlL (.ok acc h))) Q) : unlQ H Q (.ref Z) H' := by
 have triv : wE G W ρ H σQ ((VR.new (.lst (revL acc))).re h) Q → unlQ H Q (.ref Z) H' := fun x => ⟨H', .refl, jHq S hzQ ra (E1.trans E) x⟩
 cases t with
 | dic m k b l =>
  cases b with
  | false => exact triv x
  | true =>
   obtain ⟨a, ha⟩ := hk m k l rfl
   have x : wE G W ρ H σQ (RL.rec (motive := fun _ => RE) (fun acc h => (VR.new (.lst (revL acc))).re h) (fun _ _ _ => .bad) .bad (unlH k h (fun h => RL.ok acc h) .bad)) Q := x
   rcases jHH S (E1.trans E) (E.at ha) (lk m k l a rfl ha) with q | ⟨h2, H2, u, s2, e2, L, ⟨o, w, hoQ, rfl⟩, q⟩
   ·rw [q] at x; exact x.elim
   ·rw [q] at x
    obtain ⟨na, ho'⟩ := jCl hoQ
    have eh : upd (hide Z H') a w = hide Z (upd H' a w) := funext fun b => by
     by_cases hb : b = Z
     ·subst hb; rw [jAW, upd_ne (Ne.symm na), jAW]
     ·rw [jAB hb]
      by_cases hc : b = a
      ·subst hc; rw [upd_same, upd_same]
      ·rw [upd_ne hc, upd_ne hc, jAB hb]
    rw [eh] at s2 e2 L
    refine ⟨upd H' a w, .step ho' (fun o' u' zQ => lk m k l a rfl ha o' u' zQ) .refl, jHq s2 (by rw [upd_ne (Ne.symm na)]; exact hzQ) (ra.lift L) e2 x⟩
 | _ => exact triv x
theorem jE7 {σQ : St} {H : Hp} {Q : VK} {ρ : List Addr} {σd : Env} {h : EH} (en : EnvR G ρ H σd σQ) {vs : List Nat} (x : wE G W ρ H σQ (jBi vs ct ci cc ce Φ σd h) Q) :
  wI G W ρ H σQ (ci Φ σd h) fun J H1 => ∀ Z, H1 Z = none → ∃ Wf : Nat → Nat → Hp → Prop, (∃ m, Wf 0 m (upd H1 Z (.lst []))) ∧ ∀ i m H', Wf i m H' →
   (J.stop i H' ∧ unlQ H Q (.ref Z) H') ∨ (J.go i H' ∧ ∃ Nx : Hp → Prop, (∀ H', Nx H' → ∃ m', m' < m ∧ Wf (i + 1) m' H') ∧ ∀ x H2, J.yld i H' x H2 → rdG G vs ct x (wipe σQ vs) H2 fun σ2 H2 => wipe σ2 vs = wipe σQ vs ∧ rdT G W0 (cc Φ) σ2 H2 fun b H3 =>
    if b = true then rdE G W0 (ce Φ) σ2 H3 fun y H4 => ∃ acc, H4 Z = some (.lst acc) ∧ acc.length < sizeLine ∧ Nx (upd H4 Z (.lst (acc ++ [y]))) else Nx H3) := by
 have x : wE G W ρ H σQ (RI.rec (motive := fun _ => RE) (fun t h => RL.rec (motive := fun _ => RE) (fun acc h => (VR.new (.lst (revL acc))).re h) (fun _ _ _ => .bad) .bad (unlT t unlL (jBI ct (cc Φ) (ce Φ) (jBj vs σd) jCG t h []))) (fun cQ x h => .ex cQ x h) .bad (ci Φ σd h)) Q := x
 cases q : ci Φ σd h with
 | bad => rw [q] at x; exact x.elim
 | ex cQ y h' => rw [q] at x; exact x
 | ok t h' =>
  rw [q] at x
  intro ρ1 H1 J E1 S1 wk lk Z hZ
  have hh : hide Z (upd H1 Z (.lst [])) = H1 := by rw [jCU, jI9 hZ]
  have nb : ¬ wE G W ρ H σQ (RL.rec (motive := fun _ => RE) (fun acc h => (VR.new (.lst (revL acc))).re h) (fun _ _ _ => .bad) .bad (unlT t unlL .bad)) Q := fun zQ => by
   cases t with
   | dic m k b l => cases b <;> exact zQ
   | _ => exact zQ
  refine ⟨_, ⟨jCG, ρ1, h', t, [], [], ?_, ?_, ?_, upd_same, .nil, Nat.le_refl _, ?_⟩, jHC (K := fun r => wE G W ρ H σQ (RL.rec (motive := fun _ => RE) (fun acc h => (VR.new (.lst (revL acc))).re h) (fun _ _ _ => .bad) .bad (unlT t unlL r)) Q) nb (en.mono E1) (Nat.le_refl _) (fun H' => unlQ H Q (.ref Z) H') ?_⟩
  ·intro ρ' h acc us H' E S hzQ ra _ x
   exact comp_unl E1 lk wk.at_ S hzQ ra E x
  ·rw [hh]; exact .refl S1
  ·rw [hh]; exact S1
  ·rw [hh]; exact wk
  ·exact x
theorem jBf {vs : List Nat} (hov : own.map (·.2) = vs) (hc : X.calm = true) (hN : X.N.Nodup) (hi : SI X G W Φ tg iter ci) (ok : BlkOk X.N X.env.scope scope own)
  (hg : ∀ (s : Shared) (H : Hp) (C : Addr) (cl : List (Str × Addr)) (fp : List Addr), SG (X.blk s H scope (compEnvC scope cl C X.env) fp) G vs tg ct)
  (ht : ∀ (s : Shared) (H : Hp) (C : Addr) (cl : List (Str × Addr)) (fp : List Addr), SQ (X.blk s H scope (compEnvC scope cl C X.env) fp) G W0 Φ ifs cc)
  (he : ∀ (s : Shared) (H : Hp) (C : Addr) (cl : List (Str × Addr)) (fp : List Addr), SE (X.blk s H scope (compEnvC scope cl C X.env) fp) G W0 Φ elt ce) (hs : ∀ x, foldedSetIterable iter X.env x = pure x := by intro _; rfl) :
  SE X G W Φ (.ListComp elt [⟨tg, iter, ifs, 0⟩] scope pos) (jBi vs ct ci cc ce) := by
 subst hov
 exact (pe_unl (pe_lc hc hN hi ok hg ht he hs)).weak fun σQ H Q ⟨ρ, σd, h, en, S, x⟩ => ⟨ρ, σd, h, en, S, jE7 en x⟩
theorem jGJ {vs : List Nat} {i : Nat} {y : Str} {py spos : Pos} (hov : own.map (·.2) = vs) (hc : X.calm = true) (hN : X.N.Nodup) (hy : X.N[i]? = some y) (hyl : X.env.scope.names.lookup y = some .local)
  (hsw : swapsWith (.ListComp elt [⟨tg, iter, ifs, 0⟩] scope pos) (some (.Name y py)) spos.line X.env = pure true) (hi : SI X G W Φ tg iter ci) (ok : BlkOk X.N X.env.scope scope own)
  (hg : ∀ (s : Shared) (H : Hp) (C : Addr) (cl : List (Str × Addr)) (fp : List Addr), SG (X.blk s H scope (compEnvC scope cl C X.env) fp) G vs tg ct)
  (ht : ∀ (s : Shared) (H : Hp) (C : Addr) (cl : List (Str × Addr)) (fp : List Addr), SQ (X.blk s H scope (compEnvC scope cl C X.env) fp) G W0 Φ ifs cc)
  (he : ∀ (s : Shared) (H : Hp) (C : Addr) (cl : List (Str × Addr)) (fp : List Addr), SE (X.blk s H scope (compEnvC scope cl C X.env) fp) G W0 Φ elt ce) (hs : ∀ x, foldedSetIterable iter X.env x = pure x := by intro _; rfl) :
  SS X G W Φ (.Assign [.Name y py] (.ListComp elt [⟨tg, iter, ifs, 0⟩] scope pos) spos) (jA1 i (jBi vs ct ci cc ce)) := by
 subst hov
 refine (ps_unl (ps_setLc hc hN hy hyl hsw hi ok hg ht he hs)).weak fun D σQ H ⟨ρ, σd, h, en, S, x⟩ => ?_
 have x2 := (wE.bindS en x).imp (Q' := fun v H1 => gName i v σQ H1 D.nx) fun v H1 ⟨ρ1, d, h1, E1, S1, r, x1⟩ => by
  rw [jBs, jBC] at x1
  exact x1 ρ1 H1 _ (.refl S1) S1 ((en.mono E1).set r)
 exact ⟨ρ, σd, h, en, S, jE7 (Q := fun v H1 => gName i v σQ H1 D.nx) en x2⟩
end
end Mi

namespace Mi
open PySem PySem.Spec L2
open PyProof.Rows hiding St
end Mi

namespace Mi
open PySem PySem.Spec L2
open PyProof.Rows hiding St
structure Blt (mg : Str → Option Value) : Prop where
 len : mg "len" = none
 tuple : mg "tuple" = none
 list : mg "list" = none
 all : mg "all" = none
 any : mg "any" = none
 sum : mg "sum" = none
 max : mg "max" = none
 min : mg "min" = none
 int : mg "int" = none
 bool : mg "bool" = none
 str : mg "str" = none
 abs : mg "abs" = none
 isinstance : mg "isinstance" = none
 range : mg "range" = none
 enumerate : mg "enumerate" = none
 zip : mg "zip" = none
 reversed : mg "reversed" = none
 set : mg "set" = none
 sorted : mg "sorted" = none
 dict : mg "dict" = none
 divmod : mg "divmod" = none
section
variable {X : Cx} {G : Gi} {W : WX} {Φ : Ph} {pos p2 : Pos} {a b cQ eQ : Expr} {es : List Expr} {ca cb cc : CE} {cl : CL} {vs : List Nat}
theorem sv (i : Nat) {x : Str} (hN : X.N[i]? = some x := by rfl) (hv : Vis X.env.scope x := by first | exact Or.inl rfl | exact Or.inr (Or.inl rfl) | exact Or.inr (Or.inr rfl)) (hd : (x == ("__debug__" : Str)) = false := by decide)
  (hcd : (x == ("__classdict__" : Str)) = false := by decide) : SE X G W Φ (.Name x pos) (cVar i) := se_var hN hv hd hcd
theorem sg (i : Nat) {x : Str} (nd : X.N.Nodup) (hm : i ∈ vs := by decide) (hi : X.N[i]? = some x := by rfl) (hxQ : Loc X.env.scope x := by first | exact Or.inl rfl | exact Or.inr rfl)
  (hf : X.fn x = true ∨ X.env.scope.names.lookup x = some .local := by first | exact .inl rfl | exact .inr rfl) : SG X G vs (.Name x pos) (jAq i) := sg_name hm nd hi hxQ hf
theorem ssN (i : Nat) {x : Str} (nd : X.N.Nodup) (he : SE X G W Φ eQ ca) (hi : X.N[i]? = some x := by rfl) (hxQ : Loc X.env.scope x := by first | exact Or.inl rfl | exact Or.inr rfl)
  (hs : swapsWith eQ (some (.Name x p2)) pos.line X.env = pure false := by rfl) (hf : X.fn x = true ∨ X.env.scope.names.lookup x = some .local := by first | exact .inl rfl | exact .inr rfl) : SS X G W Φ (.Assign [.Name x p2] eQ pos) (jA1 i ca) := ss_setN nd hi hxQ he hs hf
theorem sc {k j : Nat} {x : Str} (A : FA X.prog X.w X.K X.mg X.base G Φ k x j) (hr : Room (2 * k + 1) X.A) (tk : Takes X W) (ha : SL X G W Φ (eQ :: es) cl) (hg : Gl X x := by rfl) (hdb : (x == ("__debug__" : Str)) = false := by decide)
  (he : starEach (eQ :: es) X.env = (false, eval eQ X.env) :: starEach es X.env := by rfl) (hpl : (backTo pos (starEach es X.env)).any (·.1) = false := by rfl) : SE X G W Φ (.Call (.Name x p2) (eQ :: es) [] pos) (jAs j cl) := se_call A hr hg tk ha hdb he hpl
theorem sc0 {k j : Nat} {x : Str} (A : FA X.prog X.w X.K X.mg X.base G Φ k x j) (hr : Room (2 * k + 1) X.A) (tk : Takes X W) (hg : Gl X x := by rfl) (hdb : (x == ("__debug__" : Str)) = false := by decide) : SE X G W Φ (.Call (.Name x p2) [] [] pos) (jAs j cNil) := se_call0 A hr hg tk hdb
theorem hu64 {k : Nat} (hr : Room k X.A) : X.A.units + 64 < cLine := Nat.lt_of_le_of_lt (by omega) hr.un
theorem hu65 {k : Nat} (hr : Room k X.A) : X.A.units + 65 < cLine := Nat.lt_of_le_of_lt (by omega) hr.un
end
end Mi

namespace Mi
open PySem PySem.Spec L2
open PyProof.Rows hiding St
section
variable {X : Cx} {G : Gi} {W : WX} {Φ : Ph} {pos p2 : Pos} {a b cQ eQ o : Expr} {es : List Expr} {ca cb cc : CE} {cl : CL} {vs : List Nat}
def LmR (G : Gi) (f : List D → List D → EH → (List D → D → RE) → RE) (r : V → List V → Hp → VK → Prop) : Prop :=
 ∀ {W : WX} {σQ : St} {ρ : List Addr} {H : Hp} {h : EH} {k : Nat} {a : Addr} {xs us : List D} {ws zs : List V} {Q : VK}, Sim G ρ h H → atR ρ k = some a → H a = some (.lst ws) → DRs G ρ H xs ws → DRs G ρ H us zs →
  wE G W ρ H σQ (f xs us h fun ys v => .ok v (h.put k (.lst ys))) Q → r (.ref a) zs H Q
theorem to_lm {K : PySem.W.Frag} {f : List D → List D → EH → (List D → D → RE) → RE} {r : V → List V → Hp → VK → Prop} (hf : LmR G f r) (σQ : St) (H : Hp) (Q : VK) (x : rdE G W (cLm f ca cl Φ) σQ H Q) :
  tBM K "list" r (rdE G W (ca Φ)) (rdL G W (cl Φ)) σQ H Q := by
 obtain ⟨ρ, σd, h, en, S, x⟩ := x
 refine ⟨ρ, σd, h, en, S, (wE.bind x).imp fun v H1 ⟨ρ1, d, h1, E1, S1, r1, x1⟩ => ?_⟩
 cases r1 with
 | p r => exact x1.elim
 | mt s r => exact x1.elim
 | @ref k a e1 =>
  have x1 : wE G W ρ1 H1 σQ (jAw h1 k (fun _ => bL (cl Φ σd h1) fun vs h => jAw h k (fun xs => f xs vs h fun ys v => .ok v (h.put k (.lst ys))) .bad) .bad) Q := x1
  rcases jAu S1 e1 with zQ | ⟨l, vs, hl, rl, _, zQ⟩
  ·rw [zQ] at x1; exact x1.elim
  ·rw [zQ] at x1
   refine ⟨.inl ⟨rfl, vs, SqL.of hl⟩, ρ1, σd, h1, en.mono E1, S1, (wL.bind x1).imp fun zs H2 ⟨ρ2, us, h2, E2, S2, r2, x2⟩ => ?_⟩
   rcases jAu S2 (E2.at e1) with zQ | ⟨l2, vs2, hl2, rl2, _, zQ⟩
   ·rw [zQ] at x2; exact x2.elim
   ·rw [zQ] at x2
    exact hf S2 (E2.at e1) hl2 rl2 r2 x2
theorem bB_t {ρ : List Addr} {H : Hp} {σQ : St} {Q : VK} {b : Bool} {r : RE} (x : wE G W ρ H σQ (bB b r .bad) Q) : b = true ∧ wE G W ρ H σQ r Q := by
 cases b with
 | false => exact x.elim
 | true => exact ⟨rfl, x⟩
theorem lm_app : LmR G mApp rAppend := by
 intro W σQ ρ H h k a xs us ws zs Q S eQ hl rx ru x
 rcases jEY ru with zQ | ⟨d, v, rfl, rfl, r, zQ⟩
 ·have x : wE G W ρ H σQ (i1 us _ .bad) Q := x
  rw [zQ] at x; exact x.elim
 ·have x : wE G W ρ H σQ (i1 [d] (fun y => bB (jAG xs) (.ok (.p .non) (h.put k (.lst (app xs [y])))) .bad) .bad) Q := x
  rw [zQ] at x
  obtain ⟨q, x⟩ := bB_t x
  have ls := jAL q
  rw [jB8] at x
  obtain ⟨S2, E2⟩ := S.setL eQ hl (rx.append (.cons r .nil))
  exact ⟨a, ws, v, rfl, rfl, hl, by rw [← rx.length]; exact ls, x _ _ _ E2 S2 (.p .non)⟩
theorem jCd (hoQ : SE X G W Φ o ca) (ha : SL X G W Φ (eQ :: es) cl) (hbase : attributeBase o "append" X.env (eval o X.env) = eval o X.env := by rfl)
  (hfew : ((backTo pos (starEach (eQ :: es) X.env)).all (fun x => !x.1) && (backToKw pos (keywordEach [] X.env)).all (fun x => x.1.isSome)
   && decide ((eQ :: es).length + ([] : List Keyword).length + (if ([] : List Keyword).isEmpty then 0 else 1) < 30)) = true := by rfl)
  (hline : (p2.endLine == pos.line) = true := by rfl) (hs : starEach (eQ :: es) X.env = (false, eval eQ X.env) :: starEach es X.env := by rfl) (hplain : (backTo pos (starEach es X.env)).any (·.1) = false := by rfl) :
  SE X G W Φ (.Call (.Attribute o "append" p2) (eQ :: es) [] pos) (cLm mApp ca cl) :=
 (pe_bm PySem.F.plainAttrs_list PySem.F.slot_list_append PySem.F.type_list_append mt_append hoQ ha hbase hfew hline hs hplain).weak fun σQ H Q x => to_lm lm_app σQ H Q x
end
end Mi

namespace Mi
open PySem PySem.Spec L2
open PyProof.Rows hiding St
theorem jGW {α : Type} (l : List α) : ∀ ps : List Nat, pickL ps l = pick ps l
 | [] => rfl
 | i :: ps => by
  show Option.rec (pickL ps l) (fun x => x :: pickL ps l) (nth l i) = pick (i :: ps) l
  rw [jBp, jGW l ps]
  unfold pick
  rw [List.filterMap_cons]
  cases l[i]? <;> rfl
theorem DRs.pick {G : Gi} {ρ : List Addr} {H : Hp} {l : List D} {vs : List V} (r : DRs G ρ H l vs) : ∀ ps : List Nat, DRs G ρ H (pick ps l) (pick ps vs)
 | [] => .nil
 | i :: ps => by
  have ih := DRs.pick r ps
  unfold Mi.pick at ih ⊢
  rw [List.filterMap_cons, List.filterMap_cons]
  cases q : l[i]? with
  | none =>
   have : vs[i]? = none := by
    rw [List.getElem?_eq_none_iff] at q ⊢
    rw [← r.length]; exact q
   rw [this]; exact ih
  | some d =>
   obtain ⟨v, h1, h2⟩ := r.get q
   rw [h1]; exact .cons h2 ih
theorem jFl {vs : List V} {us : List Value} (r : Vals vs us) : ∀ ps : List Nat, Vals (pick ps vs) (pick ps us)
 | [] => .nil
 | i :: ps => by
  have ih := jFl r ps
  unfold pick at ih ⊢
  rw [List.filterMap_cons, List.filterMap_cons]
  cases q : vs[i]? with
  | none =>
   have : us[i]? = none := by
    rw [List.getElem?_eq_none_iff] at q ⊢
    rw [← r.length]; exact q
   rw [this]; exact ih
  | some d =>
   obtain ⟨u, h1, h2⟩ := r.get q
   rw [h1]; exact .cons h2 ih
section
variable {X : Cx} {G : Gi} {W : WX} {Φ : Ph} {pos p2 kpos : Pos} {a b cQ eQ : Expr} {es : List Expr} {kws : List Keyword} {ca cb cc : CE} {cl ck : CL} {k j n m : Nat} {ps : List Nat} {df : List P} {x : Str} {nm : Option Str} {q : Kb}
abbrev SK (X : Cx) (G : Gi) (W : WX) (Φ : Ph) (es : List Keyword) (cQ : CL) : Prop := PK X es (rdL G W (cQ Φ))
theorem _root_.L2.PK.weak {es : List Keyword} {t t' : TA} (h : PK X es t) (w : ∀ σQ H Q, t' σQ H Q → t σQ H Q) : PK X es t' := ⟨fun pos pins s σQ H Q I q => h.run pos pins s σQ H Q I (w σQ H Q q)⟩
theorem jGM : SK X G W Φ [] cNil := pk_nil.weak fun σQ H Q ⟨ρ, σd, h, en, S, x⟩ => x ρ H [] (.refl S) S .nil
theorem jBr (ha : SE X G W Φ a ca) (hr : SK X G W Φ kws cl) : SK X G W Φ (⟨nm, a, kpos⟩ :: kws) (jAb ca cl) :=
 (pk_cons ha hr).weak fun σQ H Q ⟨ρ, σd, h, en, S, x⟩ => ⟨ρ, σd, h, en, S, by
  refine (wE.bindL x).imp fun v H1 ⟨ρ1, d, h1, E1, S1, r1, x1⟩ => ?_
  rw [jBs] at x1
  exact ⟨ρ1, σd, h1, en.mono E1, S1, (wL.bindL x1).imp fun vs H2 ⟨ρ2, dsQ, h2, E2, S2, r2, x2⟩ => x2 ρ2 H2 _ (.refl S2) S2 (.cons (r1.mono E2) r2)⟩⟩
theorem run_kb {pins : List (Addr × Obj)} {σQ : St} {H : Hp} {s : Shared} {Q : VK} {ρ : List Addr} {h : EH} {us ws : List Value} {vs zs : List V} {r1 r2 : List D} {f : Addr} {fd : FuncData} {pn : List Str}
  (F : FnOk X.prog X.w X.K X.mg X.base (L2.CX X.prog X.w) (2 * k) f fd pn (spF G pn.length (Φ j))) (hzQ : ∀ l h, l.length ≠ pn.length → Φ j l h = .bad) (hr : Room (2 * k + 1) X.A) (tk : Takes X W) (hq : KbOk X.K G fd pn q) (I : Inv X pins σQ H s) (rv : Vals vs us) (rz : Vals zs ws) (S : Sim G ρ h H) (d1 : DRs G ρ H r1 vs) (d2 : DRs G ρ H r2 zs)
  (x : wE G W ρ H σQ (Bool.rec (motive := fun _ => RE) .bad (jA8 (Φ j) (pickL q.ps (app r1 (app r2 (upP q.dfl)))) h) (Bool.and (Nat.beq (lenL r1) q.n) (Nat.beq (lenL r2) q.ks.length))) Q) :
  wpAny (model X.prog X.w) X.A (call (.ref f) us (q.ks.zip ws)) (EP X pins σQ Q) X.xe s := by
 obtain ⟨dus, dvs, rd, dp, bd⟩ := hq
 cases b : Bool.and (Nat.beq (lenL r1) q.n) (Nat.beq (lenL r2) q.ks.length) with
 | false => rw [b] at x; exact x.elim
 | true =>
  rw [b] at x
  have b' : (Nat.beq (lenL r1) q.n && Nat.beq (lenL r2) q.ks.length) = true := b
  rw [Bool.and_eq_true, jAx, jAx] at b'
  have l1 := Nat.eq_of_beq_eq_true b'.1
  have l2 := Nat.eq_of_beq_eq_true b'.2
  have x : wE G W ρ H σQ (jA8 (Φ j) (pickL q.ps (app r1 (app r2 (upP q.dfl)))) h) Q := x
  rw [jGW, jB8, jB8] at x
  have dd := (d1.append (d2.append ((dp H).up))).pick q.ps
  have vv := jFl (rv.append (rz.append rd)) q.ps
  by_cases hl : (pick q.ps (vs ++ (zs ++ dvs))).length = pn.length
  ·have sp := wE.call hl S dd x
   refine wpAny_call (codeAny_mono (F.run X.A X.stack s H ⟨us, q.ks.zip ws⟩ (pick q.ps (us ++ (ws ++ dus))) (pick q.ps (vs ++ (zs ++ dvs))) Q (WE W σQ) (hr.mono (Nat.le_succ _)) I.env0 (bd s us ws I.kIn (by rw [← rv.length, ← d1.length]; exact l1) (by rw [← rz.length, ← d2.length]; exact l2)) vv sp) fun r s' hq => ?_)
   cases r with
   | error eQ => exact passAt tk σQ pins H s eQ s' I hq
   | ok fl =>
    cases fl with
    | ret u => exact I.after hq
    | next => exact False.elim hq
    | brk => exact False.elim hq
    | cont => exact False.elim hq
  ·rw [jDY (fun h => hzQ _ h (by rw [dd.length]; exact hl))] at x
   exact x.elim
theorem jCK (A : FA X.prog X.w X.K X.mg X.base G Φ k x j) (hq : q ∈ G.kb j) (hr : Room (2 * k + 1) X.A) (tk : Takes X W) (hkw : SK X G W Φ kws ck) (hg : Gl X x := by rfl)
  (hall : (backToKw pos (keywordEach kws X.env)).all (·.1.isSome) = true := by rfl) (hks : (backToKw pos (keywordEach kws X.env)).filterMap (·.1) = q.ks := by rfl)
  (hdb : (x == ("__debug__" : Str)) = false := by decide) (hpl : ((backTo pos (starEach [] X.env)).any (·.1) || (backToKw pos (keywordEach kws X.env)).any (·.1.isNone)) = false := by rfl) :
  SE X G W Φ (.Call (.Name x p2) [] kws pos) (jFU j q.n q.ks.length q.ps q.dfl cNil ck) := by
 obtain ⟨f, fd, pn, F, ⟨hm, hk, _⟩, hb, hzQ, kb⟩ := A
 refine ⟨fun pins s σQ H Q I ⟨ρ, σd, h, en, S, x⟩ => ?_⟩
 refine
    wpAny_Call_Name_kw (ld_glob I hg hm ?_ hdb)
 refine PySem.W.callWith_KW0 (h₀ := X.base) I.ok.mod.kin hk hall ?_ hpl
 have x : wE G W ρ H σQ (bL (ck Φ σd h) fun q' h => Bool.rec (motive := fun _ => RE) .bad (jA8 (Φ j) (pickL q.ps (app [] (app q' (upP q.dfl)))) h) (Bool.and (Nat.beq (lenL ([] : List D)) q.n) (Nat.beq (lenL q') q.ks.length))) Q := x
 refine thn (hkw.run pos pins s σQ H _ I ⟨ρ, σd, h, en, S, wL.bind x⟩) fun ws s2 ⟨zs, H2, I2, rz, ρ2, d2, h2, E2, S2, r2, x2⟩ => ⟨I2.kIn, ?_⟩
 rw [hks]
 exact run_kb (us := []) F hzQ hr tk (kb q hq) I2 .nil rz S2 .nil r2 x2
end
end Mi

namespace Mi
open PySem PySem.Spec L2
open PyProof.Rows hiding St
def Exc0 (K : PySem.W.Frag) (mg : Str → Option Value) (G : Gi) (x : Str) (cQ : Nat) : Prop :=
 ∃ (C : Addr) (B newId initId : String) (bmB : List Value), ExcBaseFacts B newId initId bmB ∧ PySem.W.excIn K C bmB newId = true ∧ mg x = some (.ref C) ∧ PySem.W.keepIn K (.ref C) = true ∧
  PySem.W.subIn K (.ref C) (.type "BaseException") = some true ∧ PySem.W.typeIn K (.ref C) = some (.type "type") ∧ G.ca cQ = some C ∧ G.fld cQ = none
section
variable {X : Cx} {G : Gi} {W : WX} {Φ : Ph} {pos p2 p3 : Pos} {eQ : Expr} {es : List Expr} {cl : CL} {x : Str} {cQ : Nat}
theorem mk0 {C : Addr} {B newId initId : String} {bmB : List Value} (F : ExcBaseFacts B newId initId bmB) (q : PySem.W.excIn X.K C bmB newId = true) (gC : X.mg x = some (.ref C)) (kC : PySem.W.keepIn X.K (.ref C) = true) (r : Raises X (.ref C)) (hg : Gl X x)
  (hdb : (x == ("__debug__" : Str)) = false := by decide) : PMk X (.Call (.Name x p2) [] [] pos) (fun σQ H Q => Q (.ref C) none H) := fun pins s σQ H Q I h => by
 refine wpAny_Call_Name_kw (ld_glob I hg gC (PySem.W.callWith_K0 I.kIn kC ?_) hdb)
 obtain ⟨_, _, _, _, _, _, _, _, _, _, _, _, _, _, _, _, _, hC, hN, hni, T⟩ := exc_obj I.kIn q
 exact wpAny_call_exc_subT F T hC hN hni (fun h' eQ hm => mk_of I hm r h (I.hok.gone hm.new)) (Nat.zero_le _)
theorem jHQ (E : Exc0 X.K X.mg G x cQ) (hc : X.calm = true) (tk : Takes X W) (hg : Gl X x := by rfl) (hdb : (x == ("__debug__" : Str)) = false := by decide) :
  SS X G W Φ (.Raise (some (.Call (.Name x p2) [] [] p3)) none pos) (sRaise cQ cNil) := by
 obtain ⟨C, B, n1, n2, bm, F, q, gC, kC, h1, h2, ca, fl⟩ := E
 exact (ps_raise hc tk (mk0 F q gC kC (raises_own h1 h2) hg hdb)).weak fun D σQ H ⟨ρ, σd, h, en, S, w⟩ => w ρ H σQ (.ref C) none (.refl S) S en ⟨C, ca, rfl, by rw [fl]⟩
end
end Mi

namespace Mi
open PySem PySem.Spec L2
open PyProof.Rows hiding St
structure Like (G G' : Gi) : Prop where
 K : G.K = G'.K
 fa : ∀ k a, G.fa k = some a → G'.fa k = some a
 pg : G.pg = G'.pg
 w : G.w = G'.w
 ic : G.ic = G'.ic
 at_ : G.at_ = G'.at_
 ca : G.ca = G'.ca
 fld : G.fld = G'.fld
 bk : ∀ k a, G'.fa k = some a → k ≠ hnd → G.fa k = some a
section
variable {G G' : Gi} {ρ ρ' : List Addr} {H H' : Hp} {h : EH}
mutual
theorem PR.like (l : Like G G') : ∀ {x : P} {v : V}, PR G H x v → PR G' H x v
 | _, _, .non => .non
 | _, _, .bl b => .bl b
 | _, _, .int i => .int i
 | _, _, .str s zQ cQ => .str s zQ cQ
 | _, _, .tup a b cQ d eQ => .tup (l.K ▸ a) (PRs.like l b) cQ d eQ
 | _, _, .fn eQ => .fn (l.fa _ _ eQ)
theorem PRs.like (l : Like G G') : ∀ {x : List P} {v : List V}, PRs G H x v → PRs G' H x v
 | _, _, .nil => .nil
 | _, _, .cons a b => .cons (PR.like l a) (PRs.like l b)
end
mutual
theorem DR.like (l : Like G G') : ∀ {x : D} {v : V}, DR G ρ H x v → DR G' ρ H x v
 | _, _, .p x => .p (x.like l)
 | _, _, .ref a => .ref a
 | _, _, .mt a b => .mt (l.K ▸ a) (DRs.like l b)
theorem DRs.like (l : Like G G') : ∀ {x : List D} {v : List V}, DRs G ρ H x v → DRs G' ρ H x v
 | _, _, .nil => .nil
 | _, _, .cons a b => .cons (DR.like l a) (DRs.like l b)
end
noncomputable def noHPs (l : List P) : Bool := l.all noHP
theorem jHb (d : Nat) : ∀ l : List P, noHP (.tup d l) = noHPs l
 | [] => rfl
 | x :: l => by
  have ih := jHb d l
  show Bool.and (noHP x) (noHP (.tup d l)) = (noHP x && noHPs l)
  rw [ih]
theorem noHL_eq : ∀ l : List D, noHL l = l.all noHD
 | [] => rfl
 | x :: l => by
  show Bool.and (noHD x) (noHL l) = (noHD x && l.all noHD)
  rw [noHL_eq l]
theorem jIi : ∀ l : List D, noHD (.mt l) = noHL l
 | [] => rfl
 | x :: l => by
  have ih := jIi l
  show Bool.and (noHD x) (noHD (.mt l)) = Bool.and (noHD x) (noHL l)
  rw [ih]
theorem jBJ {a b : Bool} (h : Bool.and a b = true) : a = true ∧ b = true := by
 cases a with
 | true => exact ⟨rfl, h⟩
 | false => cases h
mutual
theorem PR.unlike (l : Like G G') : ∀ {x : P} {v : V}, PR G' H x v → noHP x = true → PR G H x v
 | _, _, .non, _ => .non
 | _, _, .bl b, _ => .bl b
 | _, _, .int i, _ => .int i
 | _, _, .str s zQ cQ, _ => .str s zQ cQ
 | _, _, .tup (d := d) (l := m) a b cQ eQ f, q => .tup (l.K.symm ▸ a) (PRs.unlike l b (by rw [jHb] at q; exact q)) cQ eQ f
 | _, _, .fn (k := k) eQ, q => .fn (l.bk _ _ eQ fun zQ => by
   subst zQ
   cases q)
theorem PRs.unlike (l : Like G G') : ∀ {x : List P} {v : List V}, PRs G' H x v → noHPs x = true → PRs G H x v
 | _, _, .nil, _ => .nil
 | _, _, .cons a b, q => .cons (PR.unlike l a (jBJ q).1) (PRs.unlike l b (jBJ q).2)
end
mutual
theorem DR.unlike (l : Like G G') : ∀ {x : D} {v : V}, DR G' ρ H x v → noHD x = true → DR G ρ H x v
 | _, _, .p x, q => .p (x.unlike l q)
 | _, _, .ref a, _ => .ref a
 | _, _, .mt a b, q => .mt (l.K.symm ▸ a) (DRs.unlike l b (by rw [jIi] at q; exact q))
theorem DRs.unlike (l : Like G G') : ∀ {x : List D} {v : List V}, DRs G' ρ H x v → noHL x = true → DRs G ρ H x v
 | _, _, .nil, _ => .nil
 | _, _, .cons a b, q => .cons (DR.unlike l a (jBJ q).1) (DRs.unlike l b (jBJ q).2)
end
theorem EnvR.like (l : Like G G') {σd : Env} {σQ : St} (x : EnvR G ρ H σd σQ) : EnvR G' ρ H σd σQ := ⟨x.len, fun i d q => by
 obtain ⟨v, h1, h2⟩ := x.val i d q
 exact ⟨v, h1, h2.like l⟩⟩
theorem jHd : ∀ {σQ : Env} {i : Nat} {d : D}, noHE σQ = true → σQ[i]? = some (some d) → noHD d = true
 | [], i, d, _, q => by cases q
 | o :: σQ, 0, d, n, q => by
  rw [List.getElem?_cons_zero] at q
  cases q
  exact (jBJ n).1
 | o :: σQ, i + 1, d, n, q => by
  rw [List.getElem?_cons_succ] at q
  exact jHd (jBJ n).2 q
theorem EnvR.unlike (l : Like G G') {σd : Env} {σQ : St} (x : EnvR G' ρ H σd σQ) (n : noHE σd = true) : EnvR G ρ H σd σQ := ⟨x.len, fun i d q => by
 obtain ⟨v, h1, h2⟩ := x.val i d q
 exact ⟨v, h1, h2.unlike l (jHd n q)⟩⟩
theorem jCS : ∀ {l : List (P × D)}, noHK l = true → ∀ p ∈ l, noHP p.1 = true ∧ noHD p.2 = true
 | [], _, p, h => by cases h
 | q :: l, n, p, h => by
  obtain ⟨n1, n2⟩ := jBJ n
  rcases List.mem_cons.mp h with zQ | zQ
  ·subst zQ; exact jBJ n1
  ·exact jCS n2 p zQ
theorem jHc : ∀ {l : List (Nat × D)}, noHF l = true → ∀ p ∈ l, noHD p.2 = true
 | [], _, p, h => by cases h
 | q :: l, n, p, h => by
  obtain ⟨n1, n2⟩ := jBJ n
  rcases List.mem_cons.mp h with zQ | zQ
  ·subst zQ; exact n1
  ·exact jHc n2 p zQ
theorem jCs {α β : Type} {R R' : α → β → Prop} : ∀ {l : List α} {m : List β}, Paired R l m → (∀ a ∈ l, ∀ b, R a b → R' a b) → Paired R' l m
 | _, _, .nil, _ => .nil
 | _, _, .cons a b, k => .cons (k _ List.mem_cons_self _ a) (jCs b fun x h => k x (List.mem_cons_of_mem _ h))
theorem OR.like (l : Like G G') {o : O} {a : Addr} (x : OR G ρ H o a) : OR G' ρ H o a := by
 have f0 : ∀ (p : P × D) (q : Leaf × Value), R0Q G ρ H p q → R0Q G' ρ H p q := fun p q ⟨h1, ⟨v, h2⟩, u, h3, h4⟩ => ⟨h1, ⟨v, h2.like l⟩, u, h3, h4.like l⟩
 have f1 : ∀ (p : P × D) (q : NestedKey × Addr × Value), R1 G ρ H p q → R1 G' ρ H p q := fun p q ⟨h1, h2, h5, u, h3, h4⟩ => ⟨h1, h2, h5.like l, u, h3, h4.like l⟩
 cases x with
 | lst eQ r => exact .lst eQ (r.like l)
 | d0 q r zQ => exact .d0 (l.pg ▸ l.w ▸ q) (L2.Paired.mapP r f0) zQ
 | d1 q r zQ => exact .d1 (l.pg ▸ l.w ▸ q) (L2.Paired.mapP r f1) zQ
 | l0 q r zQ => exact .l0 (l.pg ▸ l.w ▸ q) (L2.Paired.mapP r f0) zQ
 | l1 q r zQ => exact .l1 (l.pg ▸ l.w ▸ q) (L2.Paired.mapP r f1) zQ
 | ins cQ q d n r => exact .ins (l.ic ▸ cQ) q d n (L2.Paired.mapP r fun _ _ h => ⟨l.at_ ▸ h.1, h.2.like l⟩)
 | exc cQ f q d n r => exact .exc (l.ca ▸ cQ) (l.fld ▸ f) q d n (r.like l)
theorem OR.unlike (l : Like G G') {o : O} {a : Addr} (x : OR G' ρ H o a) (n : noHO o = true) : OR G ρ H o a := by
 have f0 : ∀ {m : List (P × D)} {vs : List (Leaf × Value)}, noHK m = true → Paired (R0Q G' ρ H) m vs → Paired (R0Q G ρ H) m vs := fun n r => jCs r fun p hpQ q ⟨h1, ⟨v, h2⟩, u, h3, h4⟩ => ⟨h1, ⟨v, h2.unlike l (jCS n p hpQ).1⟩, u, h3, h4.unlike l (jCS n p hpQ).2⟩
 have f1 : ∀ {m : List (P × D)} {vs : List (NestedKey × Addr × Value)}, noHK m = true → Paired (R1 G' ρ H) m vs → Paired (R1 G ρ H) m vs := fun n r => jCs r fun p hpQ q ⟨h1, h2, h5, u, h3, h4⟩ => ⟨h1, h2, h5.unlike l (jCS n p hpQ).1, u, h3, h4.unlike l (jCS n p hpQ).2⟩
 cases x with
 | lst eQ r => exact .lst eQ (r.unlike l n)
 | d0 q r zQ => exact .d0 (l.pg ▸ l.w ▸ q) (f0 n r) zQ
 | d1 q r zQ => exact .d1 (l.pg ▸ l.w ▸ q) (f1 n r) zQ
 | l0 q r zQ => exact .l0 (l.pg ▸ l.w ▸ q) (f0 n r) zQ
 | l1 q r zQ => exact .l1 (l.pg ▸ l.w ▸ q) (f1 n r) zQ
 | ins cQ q d m r => exact .ins (l.ic ▸ cQ) q d m (jCs r fun p hpQ q h => ⟨l.at_ ▸ h.1, h.2.unlike l (jHc n p hpQ)⟩)
 | exc cQ f q d m r => exact .exc (l.ca ▸ cQ) (l.fld ▸ f) q d m (r.unlike l n)
theorem jET : ∀ {t : Tr} {k : Nat} {o : O}, noHT t = true → t.get k = some o → noHO o = true
 | .lf, _, _, _, q => nomatch q
 | .nd p l r, k, o, n, q => by
  have n : Bool.and (Option.rec true (fun o => noHO o) p) (Bool.and (noHT l) (noHT r)) = true := n
  obtain ⟨n1, n2⟩ := jBJ n
  obtain ⟨n2, n3⟩ := jBJ n2
  rw [Tr.get_nd] at q
  rcases jAU k p l.get r.get with ⟨_, eQ⟩ | ⟨j, _, eQ⟩ | ⟨j, _, eQ⟩ <;> rw [eQ] at q
  ·rw [q] at n1; exact n1
  ·exact jET n2 q
  ·exact jET n3 q
theorem jIo {t : Tr} {o : O} : ∀ {n : Nat}, o ∈ lsT t n → ∃ k, o = tgd t k
 | 0, h => absurd h List.not_mem_nil
 | n + 1, h => by
  have h : o ∈ tgd t n :: lsT t n := h
  rcases List.mem_cons.mp h with zQ | zQ
  ·exact ⟨n, zQ⟩
  ·exact jIo zQ
theorem noHH_get {h : EH} {i : Nat} {o : O} (n : noHH h = true) (q : h.l[i]? = some o) : noHO o = true ∨ o = .set [] := by
 obtain ⟨k, rfl⟩ := jIo (List.mem_of_getElem? q)
 unfold tgd
 cases eQ : h.t.get k with
 | none => exact .inr rfl
 | some o =>
  obtain ⟨m, t⟩ := h
  exact .inl (jET n eQ)
theorem Ext.unlike (l : Like G G') (x : Ext G' ρ ρ' H H') : Ext G ρ ρ' H H' := ⟨x.suf, x.keep, ⟨fun a xs q => l.K.symm ▸ x.tup.s a xs (l.K.symm ▸ q), x.tup.c⟩, x.trk, x.frz⟩
theorem Sim.like (l : Like G G') (S : Sim G ρ h H) (hpQ : ∀ p ∈ G'.pins, H p.1 = some p.2 ∧ p.1 ∉ ρ ∧ PinK p.2) (hr : ∀ p ∈ G'.prs, PR G' H p.1 p.2) : Sim G' ρ h H :=
 ⟨S.n, S.len, S.nd, fun i o a h1 h2 => (S.obj i o a h1 h2).like l, hpQ, hr⟩
theorem Sim.unlike (l : Like G G') (S : Sim G' ρ h H) (n : noHH h = true) (hpQ : ∀ p ∈ G.pins, H p.1 = some p.2 ∧ p.1 ∉ ρ ∧ PinK p.2) (hr : ∀ p ∈ G.prs, PR G H p.1 p.2) : Sim G ρ h H :=
 ⟨S.n, S.len, S.nd, fun i o a h1 h2 => by
  have x := S.obj i o a h1 h2
  rcases noHH_get n h1 with zQ | zQ
  ·exact x.unlike l zQ
  ·exact False.elim (by subst zQ; cases x), hpQ, hr⟩
end
end Mi

namespace Mi
open PySem PySem.Spec L2
open PyProof.Rows hiding St
def gone (o : Option Nat) (D : Ends) : Ends := match o with
 | none => D
 | some i => { nx := fun σQ H => D.nx (σQ.set i none) H, rt := D.rt, bk := fun σQ H => D.bk (σQ.set i none) H, ct := fun σQ H => D.ct (σQ.set i none) H }
def bound (o : Option Nat) (a : Addr) (σQ : St) : St := match o with
 | none => σQ
 | some i => σQ.set i (some (.ref a))
abbrev Clause := Value × Option Nat × (Addr → Value → Option Addr → TS)
def wAll (K : PySem.W.Frag) (Wout : WX) (D : Ends) : List Clause → WX
 | [] => Wout
 | q :: r => fun cls d σQ H => ∃ b, PySem.W.exmOne K cls q.1 = some b ∧ (b = true → ∀ a, H a = none → q.2.2 a cls d (gone q.2.1 D) (bound q.2.1 a σQ) H) ∧ (b = false → wAll K Wout D r cls d σQ H)
def jG9 (X : Cx) (b : List Stmt) (ts : Addr → Value → Option Addr → TS) : Prop :=
 ∀ (a : Addr) (oeQ : Obj) (cls : Value) (d : Option Addr) (pn : List (Addr × Obj)), Zc cls d oeQ → (∃ vs, oeQ.data = .fields vs) → PSs (X.suite a ((a, oeQ) :: pn)) b (ts a cls d)
inductive jCq (X : Cx) : List ExceptHandler → List Clause → Prop
 | nil : jCq X [] []
 | bare {x : Str} {cQ : Value} {ts : Addr → Value → Option Addr → TS} {b : Stmt} {bs : List Stmt} {np hpQ : Pos} {hs : List ExceptHandler} {l : List Clause} : Names X x cQ → jG9 X (b :: bs) ts → jCq X hs l →
   jCq X (.ExceptHandler (some (.Name x np)) none (b :: bs) hpQ :: hs) ((cQ, none, ts) :: l)
 | named {x n : Str} {cQ : Value} {i : Nat} {ts : Addr → Value → Option Addr → TS} {b : Stmt} {bs : List Stmt} {np hpQ : Pos} {hs : List ExceptHandler} {l : List Clause} : Names X x cQ → jG9 X (b :: bs) ts → X.N[i]? = some n → X.env.kindOf n = some .local → jCq X hs l →
   jCq X (.ExceptHandler (some (.Name x np)) (some n) (b :: bs) hpQ :: hs) ((cQ, some i, ts) :: l)
section
variable {X : Cx} {pins : List (Addr × Obj)} {σQ : St} {H : Hp} {D : Ends} {Wout : WX} {a : Addr} {cls : Value} {d : Option Addr}
theorem jHO {f : Flow} {s : Shared} {pn : List (Addr × Obj)} (ok : X.Ok) (q : SP (X.suite a (pn ++ (X.pn ++ pins))) [] D f s) (u : ∀ {σQ : St} {H : Hp}, Inv (X.suite a (pn ++ (X.pn ++ pins))) [] σQ H s → Inv X pins σQ H s) : SP X pins D f s := by
 cases f with
 | ret v => obtain ⟨w, σ1, H1, I, r, zQ⟩ := q; exact ⟨w, σ1, H1, u I, r, zQ⟩
 | next => obtain ⟨σ1, H1, I, zQ⟩ := q; exact ⟨σ1, H1, u I, zQ⟩
 | brk => obtain ⟨σ1, H1, I, zQ⟩ := q; exact ⟨σ1, H1, u I, zQ⟩
 | cont => obtain ⟨σ1, H1, I, zQ⟩ := q; exact ⟨σ1, H1, u I, zQ⟩
theorem jE8 {x : Str} {cQ : Value} {np : Pos} {s : Shared} {oeQ : Obj} {Q E : Value → Shared → Prop} (hc : Names X x cQ) (S : Inv (X.suite a ((a, oeQ) :: (X.pn ++ pins))) [] σQ H s) (q : Q cQ s) :
  wpAny (model X.prog X.w) (X.A.mark (some (.ref a))) (eval (.Name x np) X.env) Q E s := by
 rcases hc with ⟨g, dbg, m | ⟨m, v, nn⟩⟩
 ·exact ld_glob (X := X.suite a ((a, oeQ) :: (X.pn ++ pins))) S g m q dbg
 ·exact ld_blt (X := X.suite a ((a, oeQ) :: (X.pn ++ pins))) S g m v q nn dbg
theorem jHD {s : Shared} {h : Heap} {oeQ : Obj} (ok : X.Ok) (hN : X.N.Nodup) (he : h.get? a = some oeQ) (hzQ : Zc cls d oeQ) (na : H a = none) (kin : X.K.In h) (S : Inv (X.suite a ((a, oeQ) :: (X.pn ++ pins))) [] σQ H { s with heap := h })
  (again : ∀ {A : Around} {Q : Unit → Shared → Prop} {E : Value → Shared → Prop}, (∀ h' oe', Inv (X.suite a ((a, oe') :: (X.pn ++ pins))) [] σQ H { s with heap := h' } → Zc cls d oe' → (∃ vs, oe'.data = .fields vs) → Q () { s with heap := h' }) → wpAny (model X.prog X.w) A (setFlight (.ref a) none) Q E { s with heap := h })
  (out : Wout cls d σQ H → wpAny (model X.prog X.w) X.A (handleBy (.ref a) X.env []) (SP X pins D) X.xe { s with heap := h }) :
  ∀ {hs : List ExceptHandler} {l : List Clause}, jCq X hs l → wAll X.K Wout D l cls d σQ H → wpAny (model X.prog X.w) X.A (handleBy (.ref a) X.env hs) (SP X pins D) X.xe { s with heap := h } := by
 have ty : PySem.W.Looks (model X.prog X.w) h (typeOf (.ref a)) cls := fun _ _ _ _ k q => wpAny_typeOf_ref (k _ _ he) (by rw [hzQ.1]; exact q)
 intro hs l hk
 induction hk with
 | nil => exact out
 | bare hc su _ ih =>
  rintro ⟨b, e1, yes, no⟩
  refine wpAny_handleBy_cons (codeAny_handlers_test (jE8 hc S ((PySem.W.exm_one (M := model X.prog X.w) kin ty e1).here ?_))) (fun zQ => nomatch zQ)
  cases b with
  | false => exact ih (no rfl)
  | true => exact codeAny_handlers_suite (again fun h' oe' S' z' v' => wpAny_mono ((su a oe' cls d (X.pn ++ pins) z' v').run [] _ _ _ _ S' (yes rfl a na)) (fun f s6 q => jHO (pn := [(a, oe')]) ok q fun J => J.unsuite ok) fun _ _ zQ => zQ.elim)
 | @named x n cQ i ts b0 bs np hpQ hs l hc su hi hln _ ih =>
  rintro ⟨b, e1, yes, no⟩
  refine wpAny_handleBy_cons (codeAny_handlers_test (jE8 hc S ((PySem.W.exm_one (M := model X.prog X.w) kin ty e1).here ?_))) (fun zQ => nomatch zQ)
  cases b with
  | false => exact ih (no rfl)
  | true =>
   refine codeAny_handlers_suite_as (again fun h' oe' S' z' v' => store_ok (X := X.suite a ((a, oe') :: (X.pn ++ pins))) (v := .ref a) S' hN hi (.inl hln) rfl (fun s5 S5 => ?_) (.inr hln))
   refine wpAny_mono ((su a oe' cls d (X.pn ++ pins) z' v').run [] s5 _ _ _ S5 (yes rfl a na)) (fun f s6 q => ?_) fun _ _ zQ => zQ.elim
   have bye : ∀ {σ6 : St} {H6 : Hp} {Q : Shared → Prop}, Inv (X.suite a ((a, oe') :: (X.pn ++ pins))) [] σ6 H6 s6 → (∀ s7, Inv X pins (σ6.set i none) H6 s7 → Q s7) → wpAny (model X.prog X.w) X.A (do bindName X.env n .none; unbindBehindTheSuite X.env n hpQ) (fun _ s7 => Q s7) X.xe s6 :=
    fun J k => gone_ok (J.unsuite ok) hN hi hln k
   cases f with
   | ret v => obtain ⟨w, σ1, H1, J, r, zQ⟩ := q; exact bye J fun s7 J7 => ⟨w, _, _, J7, r, zQ⟩
   | next => obtain ⟨σ1, H1, J, zQ⟩ := q; exact bye J fun s7 J7 => ⟨_, _, J7, zQ⟩
   | brk => obtain ⟨σ1, H1, J, zQ⟩ := q; exact bye J fun s7 J7 => ⟨_, _, J7, zQ⟩
   | cont => obtain ⟨σ1, H1, J, zQ⟩ := q; exact bye J fun s7 J7 => ⟨_, _, J7, zQ⟩
theorem ps_tryA {body : List Stmt} {h₀ : ExceptHandler} {hds : List ExceptHandler} {l : List Clause} {pos : Pos} {tb : WX → TS} (hs : X.stack = X.env :: X.outer) (hf : X.env.frame = some X.env.locals) (hN : X.N.Nodup) (tk : Takes X Wout)
  (hb : ∀ (W : WX) (pn : List (Addr × Obj)) (xe : Value → Shared → Prop), Takes (X.tr pn xe) W → PassesOwn (model X.prog X.w) X.A X.env xe → PSs (X.tr pn xe) body (tb W)) (hc : jCq X (h₀ :: hds) l) :
  PS X (.Try body (h₀ :: hds) [] [] pos) (fun D σQ H => tb (wAll X.K Wout D l) D σQ H) := by
 refine ⟨fun pins s σQ H D I w => ?_⟩
 have ok := I.ok
 have fr : X.A.frames = some (X.env :: X.outer) := ok.frames.trans (congrArg some hs)
 let land : Value → Shared → Prop := fun eQ s1Q => wpAny (model X.prog X.w) X.A (noteFrame eQ X.env) (fun _ s2 => wpAny (model X.prog X.w) X.A (setFlight eQ none) (fun _ s3 => wpAny (model X.prog X.w) X.A (handleBy eQ X.env (h₀ :: hds)) (SP X pins D) X.xe s3) X.xe s2) X.xe s1Q
 have took : Takes (X.tr (X.pn ++ pins) land) (wAll X.K Wout D l) := by
  rintro u s1Q ⟨a, B, sI, ps, σ1, H1, cls, d, rfl, J0, nb, up, sky, na, os, ag, w1⟩
  have J : Inv X pins σ1 H1 sI := J0.ofTry ok
  rw [show (X.tr (X.pn ++ pins) land).stack = X.env :: X.outer from hs] at sky
  refine Sky.land Zc.steady fr hf sky fun h3 fl up3 => ?_
  have at3 := J.landed (s' := { s1Q with heap := h3 }) nb fl.1 (up.trans up3) os ag
  obtain ⟨oeQ, vs, he, hzQ, hd⟩ := fl.there
  have out : ∀ fs : List Addr, (∀ b ∈ fs, b ∈ frs (X.env :: X.outer)) → a ∉ fs := fun fs sub m => by
   obtain ⟨_, o, eQ, nf⟩ := fl.2.2.1.mem (sub a m)
   exact nf vs ((congrArg (fun zQ => zQ.map Obj.data) (he.symm.trans eQ)) |> fun zQ => (Option.some.inj zQ).symm.trans hd)
  have nL : a ≠ X.env.locals := fun zQ => out [X.env.locals] (fun b m => by rw [List.mem_singleton.mp m]; exact List.mem_filterMap.mpr ⟨X.env, List.mem_cons_self, hf⟩) (by rw [zQ]; exact List.mem_singleton_self _)
  have nF : a ∉ X.fs := out X.fs fun b m => by
   obtain ⟨eQ, h1, h2⟩ := List.mem_filterMap.mp m
   exact List.mem_filterMap.mpr ⟨eQ, List.mem_cons_of_mem _ h1, h2⟩
  refine jHD (s := s1Q) ok hN he hzQ na at3.kIn (at3.suite he hd na nL nF) (fun {A Q E} k => ?_) (fun q => ?_) hc w1
  ·refine HandSPX.lands_againZ fl fun h4 fl4 up4 => ?_
   obtain ⟨oe4, vs4, he4, hz4, hd4Q⟩ := fl4.there
   exact k h4 oe4 ((J.landed (s' := { s1Q with heap := h4 }) nb fl4.1 ((up.trans up3).trans up4) os ag).suite he4 hd4Q na nL nF) hz4 ⟨vs4, hd4Q⟩
  ·refine wpAny_handleBy_nil ?_
   have rise : wpAny (model X.prog X.w) X.A (setFlight (.ref a) X.env.frame) (fun _ s4 => wpAny (model X.prog X.w) X.A (throw (.ref a) : Sem Flow) (SP X pins D) X.xe s4) X.xe { s1Q with heap := h3 } := by
    rw [hf]
    exact HandSPX.setFlight_upZ fl fun h4 held up4 => wpAny_throw (tk _ _ ⟨a, B, sI, pins, σ1, H1, cls, d, rfl, J, nb, (up.trans up3).trans up4, by rw [hs]; exact .inr (.inr held), na, os, ag, q⟩)
   obtain ⟨_, _, _, _, _, T, _, _, e1, _, e3, e4, _⟩ := id fl
   unfold PySem.passOn
   refine wpAny_bind (wpAny_field e1 e3 e4 ?_)
   rw [if_neg (by simp : ¬ (Value.ref T == Value.none) = true)]
   first | exact wpAny_bind rise | exact wpAny_bind (wpAny_pure (wpAny_bind rise))
 refine wpAny_Try_except (wpAny_mono ((hb _ _ _ took PassesOwn.looking).run [] s σQ H D (I.toTry _) w) (fun f s1Q q => ?_) fun _ _ zQ => zQ)
 cases f with
 | next => obtain ⟨σ1, H1, J, zQ⟩ := q; exact wpAny_execs_nil ⟨σ1, H1, J.ofTry ok, zQ⟩
 | ret v => obtain ⟨u, σ1, H1, J, r, zQ⟩ := q; exact ⟨u, σ1, H1, J.ofTry ok, r, zQ⟩
 | brk => obtain ⟨σ1, H1, J, zQ⟩ := q; exact ⟨σ1, H1, J.ofTry ok, zQ⟩
 | cont => obtain ⟨σ1, H1, J, zQ⟩ := q; exact ⟨σ1, H1, J.ofTry ok, zQ⟩
end
end Mi

namespace Mi
open PySem PySem.Spec L2
open PyProof.Rows hiding St
structure SuG (G : Gi) (cQ : Nat) (x : P) (cls : Value) (d : Option Addr) (a : Addr) (G' : Gi) : Prop where
 like : Like G G'
 at' : G'.fa hnd = some a
 pins : ∀ p ∈ G.pins, p ∈ G'.pins
 prs : ∀ p ∈ G.prs, p ∈ G'.prs
 cl : ∃ C, G.ca cQ = some C ∧ cls = .ref C
 nd : G.fld cQ = none → d = none
 fl : ∀ f, G.fld cQ = some f → ∃ dd v, d = some dd ∧ (dd, HO.xd [(f, v)]) ∈ G'.pins ∧ (x, v) ∈ G'.prs
def tsOf (G : Gi) (Φ : Ph) (q : Hdl) : Addr → Value → Option Addr → TS := fun a cls d D σQ H => ∃ cQ x G', memN cQ q.cs = true ∧ SuG G cQ x cls d a G' ∧ rdS G' W0 (q.su cQ x Φ) D σQ H
section
variable {X : Cx} {G G' : Gi} {W : WX} {Φ : Ph} {ρ ρ' : List Addr} {H H' : Hp} {h : EH}
theorem suite_ok {b : List Stmt} {q : Hdl} (k : ∀ (a : Addr) (oeQ : Obj) (cls : Value) (d : Option Addr) (pn : List (Addr × Obj)) (cQ : Nat) (x : P) (G' : Gi), Zc cls d oeQ → (∃ vs, oeQ.data = .fields vs) → memN cQ q.cs = true → SuG G cQ x cls d a G' → SSs (X.suite a ((a, oeQ) :: pn)) G' W0 Φ b (q.su cQ x)) :
  jG9 X b (tsOf G Φ q) := fun a oeQ cls d pn zQ v => ⟨fun pins s σQ H D I ⟨cQ, x, G', m, g, w⟩ => (k a oeQ cls d pn cQ x G' zQ v m g).run pins s σQ H D I w⟩
theorem Sim.noXd {a : Addr} {fs : List (Str × V)} (S : Sim G ρ h H) (eQ : H a = some (.xd fs)) : a ∉ ρ := fun m => by
 obtain ⟨_, _, _, _, y⟩ := S.mem m
 have := y.trk
 cases y <;> simp_all
theorem memN1 {cQ k : Nat} (h : memN cQ [k] = true) : cQ = k := by
 have h : Bool.rec (motive := fun _ => Bool) false true (Nat.beq k cQ) = true := h
 cases q : Nat.beq k cQ with
 | true => exact (Nat.eq_of_beq_eq_true q).symm
 | false => rw [q] at h; cases h
theorem suite_in {cQ : Nat} {x : P} {cls : Value} {d : Option Addr} {a : Addr} (hH : G.fa hnd = none) (S : Sim G ρ h H) (r : XR G H cQ x cls d) : ∃ G', SuG G cQ x cls d a G' ∧ Sim G' ρ h H := by
 obtain ⟨C, ca, eQ, f⟩ := r
 have fa1 : ∀ k b, G.fa k = some b → (if k = hnd then some a else G.fa k) = some b := fun k b q => by
  rw [if_neg]
  ·exact q
  ·intro zQ; rw [zQ, hH] at q; cases q
 have fa2 : ∀ k b, (if k = hnd then some a else G.fa k) = some b → k ≠ hnd → G.fa k = some b := fun k b q n => by rw [if_neg n] at q; exact q
 cases hf : G.fld cQ with
 | none =>
  have l : Like G { G with fa := fun k => if k = hnd then some a else G.fa k } := ⟨rfl, fa1, rfl, rfl, rfl, rfl, rfl, rfl, fa2⟩
  exact ⟨_, ⟨l, (show (if hnd = hnd then some a else G.fa hnd) = some a from if_pos rfl), fun _ zQ => zQ, fun _ zQ => zQ, ⟨C, ca, eQ⟩, fun _ => (by rw [hf] at f; exact f), fun f zQ => by rw [hf] at zQ; cases zQ⟩, S.like l S.pin fun p zQ => (S.pr p zQ).like l⟩
 | some f' =>
  rw [hf] at f
  obtain ⟨dd, v, hd, hh, rv⟩ := f
  have l : Like G { G with fa := fun k => if k = hnd then some a else G.fa k, pins := (dd, HO.xd [(f', v)]) :: G.pins, prs := (x, v) :: G.prs } := ⟨rfl, fa1, rfl, rfl, rfl, rfl, rfl, rfl, fa2⟩
  refine ⟨_, ⟨l, (show (if hnd = hnd then some a else G.fa hnd) = some a from if_pos rfl), fun p zQ => List.mem_cons_of_mem _ zQ, fun p zQ => List.mem_cons_of_mem _ zQ, ⟨C, ca, eQ⟩, fun zQ => (by rw [hf] at zQ; cases zQ), fun f zQ => ?_⟩, S.like l (fun p zQ => ?_) fun p zQ => ?_⟩
  ·rw [hf] at zQ; cases zQ; exact ⟨dd, v, hd, List.mem_cons_self, List.mem_cons_self⟩
  ·rcases List.mem_cons.mp zQ with zQ | zQ
   ·rw [zQ]; exact ⟨hh, S.noXd hh, (fun xs q => nomatch q), fun φ q => nomatch q⟩
   ·exact S.pin p zQ
  ·rcases List.mem_cons.mp zQ with zQ | zQ
   ·rw [zQ]; exact rv.like l
   ·exact (S.pr p zQ).like l
theorem SuG.back {cQ : Nat} {x : P} {cls : Value} {d : Option Addr} {a : Addr} (g : SuG G cQ x cls d a G') (hP : ∀ p ∈ G.prs, noHP p.1 = true) (S : Sim G' ρ h H) (n : noHH h = true) : Sim G ρ h H :=
 S.unlike g.like n (fun p zQ => S.pin p (g.pins p zQ)) fun p zQ => (S.pr p (g.prs p zQ)).unlike g.like (hP p zQ)
theorem EnvR.forget {σd : Env} {σQ : St} (x : EnvR G ρ H σd σQ) (i : Nat) (v : Option V) : EnvR G ρ H (σd.set i none) (σQ.set i v) := by
 refine ⟨by rw [List.length_set, List.length_set]; exact x.len, fun j eQ q => ?_⟩
 by_cases hj : i = j
 ·subst hj
  have hi : i < (σd.set i none).length := (List.getElem?_eq_some_iff.mp q).1
  rw [List.length_set] at hi
  rw [List.getElem?_set_self hi] at q
  cases q
 ·rw [List.getElem?_set_ne hj] at q ⊢
  exact x.val j eQ q
theorem EnvR.bound {σd : Env} {σQ : St} (x : EnvR G ρ H σd σQ) (o : Option Nat) {a : Addr} (ha : G.fa hnd = some a) : EnvR G ρ H (bdS o σd) (bound o a σQ) := by
 cases o with
 | none => exact x
 | some i => show EnvR G ρ H (Mi.setN σd i _) _; rw [jBC]; exact x.set (.p (.fn ha))
theorem jEN {b : Bool} {r : RS} {D : Ends} (w : wS G W ρ H (onlyS b r) D) : b = true ∧ wS G W ρ H r D := by
 cases b with
 | true => exact ⟨rfl, w⟩
 | false => exact w.elim
theorem jH2 {cQ : Nat} {x : P} {cls : Value} {d : Option Addr} {a : Addr} {o : Option Nat} {r : RS} {D : Ends} (g : SuG G cQ x cls d a G') (hP : ∀ p ∈ G.prs, noHP p.1 = true) (w : wS G W ρ H (jHv o r) D) : wS G' W0 ρ H r (gone o D) := by
 have un : ∀ {ρ' : List Addr} {H' : Hp} {σd : Env} {σQ : St}, EnvR G' ρ' H' σd σQ → noHE (unS o σd) = true → match o with | none => EnvR G ρ' H' (unS o σd) σQ | some i => EnvR G ρ' H' (unS o σd) (σQ.set i none) := fun {ρ' H' σd σQ} en n => by
  cases o with
  | none => exact en.unlike g.like n
  | some i =>
   refine EnvR.unlike g.like ?_ n
   show EnvR G' ρ' H' (Mi.setN σd i none) _
   rw [jBC]
   exact en.forget i none
 cases r with
 | bad => exact w
 | ex => exact w.elim
 | rt v h' =>
  obtain ⟨q, w⟩ := jEN w
  intro ρ' H' u E S rd
  have := w ρ' H' u (E.unlike g.like) (g.back hP S (jBJ q).2) (rd.unlike g.like (jBJ q).1)
  cases o <;> exact this
 | nx σd h' =>
  obtain ⟨q, w⟩ := jEN w
  intro ρ' H' σQ E S en
  have eQ := un en (jBJ q).1
  have := fun σ' zQ => w ρ' H' σ' (E.unlike g.like) (g.back hP S (jBJ q).2) zQ
  cases o <;> exact this _ eQ
 | bk σd h' =>
  obtain ⟨q, w⟩ := jEN w
  intro ρ' H' σQ E S en
  have eQ := un en (jBJ q).1
  have := fun σ' zQ => w ρ' H' σ' (E.unlike g.like) (g.back hP S (jBJ q).2) zQ
  cases o <;> exact this _ eQ
 | ct σd h' =>
  obtain ⟨q, w⟩ := jEN w
  intro ρ' H' σQ E S en
  have eQ := un en (jBJ q).1
  have := fun σ' zQ => w ρ' H' σ' (E.unlike g.like) (g.back hP S (jBJ q).2) zQ
  cases o <;> exact this _ eQ
def jHw (K : PySem.W.Frag) (G : Gi) (cv : Value) (cs : List Nat) : Prop := ∀ cQ C, G.ca cQ = some C → PySem.W.exmOne K (.ref C) cv = some (memN cQ cs)
theorem jHs {K : PySem.W.Frag} {D : Ends} {cQ : Nat} {x : P} {cls : Value} {d : Option Addr} {σd : Env} {σQ : St} (hH : G.fa hnd = none) (hP : ∀ p ∈ G.prs, noHP p.1 = true) (S : Sim G ρ h H) (en : EnvR G ρ H σd σQ) (r : XR G H cQ x cls d) :
  ∀ (l : List (Value × Hdl)), (∀ p ∈ l, jHw K G p.1 p.2.cs) → wS G W ρ H (jFT (l.map (·.2)) cQ x Φ σd h) D → wAll K W D (l.map fun p => (p.1, p.2.slot, tsOf G Φ p.2)) cls d σQ H
 | [], _, w => w ρ H σQ cls d (.refl S) S en r
 | (cv, q) :: l, ht, w => by
  obtain ⟨C, ca, eQ, _⟩ := id r
  refine ⟨memN cQ q.cs, by rw [eQ]; exact ht _ List.mem_cons_self cQ C ca, fun b a _ => ?_, fun b => ?_⟩
  ·have w : wS G W ρ H (Bool.rec (motive := fun _ => RS) (jFT (l.map (·.2)) cQ x Φ σd h) (jHv q.slot (q.su cQ x Φ (bdS q.slot σd) h)) (memN cQ q.cs)) D := w
   rw [b] at w
   obtain ⟨G', g, S'⟩ := suite_in (a := a) hH S r
   exact ⟨cQ, x, G', b, g, ρ, bdS q.slot σd, h, (en.like g.like).bound q.slot g.at', S', jH2 g hP w⟩
  ·have w : wS G W ρ H (Bool.rec (motive := fun _ => RS) (jFT (l.map (·.2)) cQ x Φ σd h) (jHv q.slot (q.su cQ x Φ (bdS q.slot σd) h)) (memN cQ q.cs)) D := w
   rw [b] at w
   exact jHs hH hP S en r l (fun p hpQ => ht p (List.mem_cons_of_mem _ hpQ)) w
theorem ss_try {body : List Stmt} {h₀ : ExceptHandler} {hds : List ExceptHandler} {pos : Pos} {b : CS} {l : List (Value × Hdl)} (hs : X.stack = X.env :: X.outer) (hf : X.env.frame = some X.env.locals) (hN : X.N.Nodup) (hH : G.fa hnd = none) (hP : ∀ p ∈ G.prs, noHP p.1 = true) (tk : Takes X W)
  (hb : ∀ (W : WX) (pn : List (Addr × Obj)) (xe : Value → Shared → Prop), Takes (X.tr pn xe) W → PassesOwn (model X.prog X.w) X.A X.env xe → SSs (X.tr pn xe) G W Φ body b)
  (hc : jCq X (h₀ :: hds) (l.map fun p => (p.1, p.2.slot, tsOf G Φ p.2))) (ht : ∀ p ∈ l, jHw X.K G p.1 p.2.cs) : SS X G W Φ (.Try body (h₀ :: hds) [] [] pos) (sTry b (l.map (·.2))) :=
 (ps_tryA (tb := fun W => rdS G W (b Φ)) hs hf hN tk hb hc).weak fun D σQ H ⟨ρ, σd, h, en, S, w⟩ => ⟨ρ, σd, h, en, S, by
  have w : wS G W ρ H (RS.rec (motive := fun _ => RS) (fun σQ h => .nx σQ h) (fun v h => .rt v h) (fun σQ h => .bk σQ h) (fun σQ h => .ct σQ h) (fun cQ x σQ h => jFT (l.map (·.2)) cQ x Φ σQ h) .bad (b Φ σd h)) D := w
  cases k : b Φ σd h with
  | bad => rw [k] at w; exact w
  | nx σ1 h1 => rw [k] at w; exact w
  | rt v h1 => rw [k] at w; exact w
  | bk σ1 h1 => rw [k] at w; exact w
  | ct σ1 h1 => rw [k] at w; exact w
  | ex cQ x σ1 h1 => rw [k] at w; exact fun ρ' H' σ2 cls d E S' en' r => jHs hH hP S' en' r l ht (wS.mono w E)⟩
end
end Mi

namespace Mi
open PySem PySem.Spec L2
open PyProof.Rows hiding St
section
variable {X : Cx} {G G' : Gi} {W : WX} {Φ : Ph} {pos p2 p3 : Pos} {eQ : Expr} {ca : CE} {f : Str} {cQ : Nat} {x : P} {cls : Value} {d : Option Addr} {a : Addr} {oeQ : Obj} {pn : List (Addr × Obj)}
theorem isH_some {ρ : List Addr} {H : Hp} {y : D} {v : V} (r : DR G ρ H y v) (h : isH y = true) : y = .p (.fn hnd) := by
 cases r with
 | ref => cases h
 | mt => cases h
 | p r => cases r with
  | fn => rw [Nat.eq_of_beq_eq_true (show Nat.beq _ hnd = true from h)]
  | _ => cases h
theorem ofH {ρ : List Addr} {H : Hp} {σQ : St} {b : Bool} {σd : Env} {h : EH} {Q : VK} (w : wE G W ρ H σQ (cOfH b ca x Φ σd h) Q) : wE G W ρ H σQ (ca Φ σd h) fun v H1 => b = true ∧ ∃ ρ1 h1 a', Ext G ρ ρ1 H H1 ∧ Sim G ρ1 h1 H1 ∧ v = .ref a' ∧ G.fa hnd = some a' ∧ wE G W ρ1 H1 σQ (.ok (.p x) h1) Q :=
 (wE.bind w).imp fun v H1 ⟨ρ1, y, h1, E1, S1, r, w1⟩ => by
  cases k : Bool.and b (isH y) with
  | false => rw [k] at w1; exact w1.elim
  | true =>
   rw [k] at w1
   obtain ⟨k1, k2⟩ := jBJ k
   have := isH_some r k2
   subst this
   cases r with
   | p r => cases r with
    | fn q => exact ⟨k1, ρ1, h1, _, E1, S1, rfl, q, w1⟩
end
end Mi

namespace Mi
open PySem PySem.Spec L2
open PyProof.Rows hiding St
end Mi

namespace Mi
open PySem PySem.Spec L2
open PyProof.Rows hiding St
mutual
theorem jIH : ∀ x y : P, PyData.eqv (pyP x) (pyP y) = NestedKey.beq (keyP x) (keyP y)
 | .non, .non => by simp [pyP, keyP, PyData.eqv, NestedKey.beq]
 | .non, .bl b => by simp [pyP, keyP, PyData.eqv, NestedKey.beq]
 | .non, .int b => by simp [pyP, keyP, PyData.eqv, NestedKey.beq]
 | .non, .str b => by simp [pyP, keyP, PyData.eqv, NestedKey.beq]
 | .non, .tup _ m => by simp [pyP, keyP, PyData.eqv, NestedKey.beq]
 | .non, .fn b => by simp [pyP, keyP, PyData.eqv, NestedKey.beq]
 | .bl a, .non => by simp [pyP, keyP, PyData.eqv, NestedKey.beq]
 | .bl a, .bl b => by cases a <;> cases b <;> simp [pyP, keyP, PyData.eqv, NestedKey.beq]
 | .bl a, .int b => by cases a <;> simp [pyP, keyP, PyData.eqv, NestedKey.beq] <;> rfl
 | .bl a, .str b => by simp [pyP, keyP, PyData.eqv, NestedKey.beq]
 | .bl a, .tup _ m => by simp [pyP, keyP, PyData.eqv, NestedKey.beq]
 | .bl a, .fn b => by simp [pyP, keyP, PyData.eqv, NestedKey.beq]
 | .int a, .non => by simp [pyP, keyP, PyData.eqv, NestedKey.beq]
 | .int a, .bl b => by cases b <;> simp [pyP, keyP, PyData.eqv, NestedKey.beq] <;> rfl
 | .int a, .int b => by simp [pyP, keyP, PyData.eqv, NestedKey.beq] <;> rfl
 | .int a, .str b => by simp [pyP, keyP, PyData.eqv, NestedKey.beq]
 | .int a, .tup _ m => by simp [pyP, keyP, PyData.eqv, NestedKey.beq]
 | .int a, .fn b => by simp [pyP, keyP, PyData.eqv, NestedKey.beq]
 | .str a, .non => by simp [pyP, keyP, PyData.eqv, NestedKey.beq]
 | .str a, .bl b => by simp [pyP, keyP, PyData.eqv, NestedKey.beq]
 | .str a, .int b => by simp [pyP, keyP, PyData.eqv, NestedKey.beq]
 | .str a, .str b => by
  simp only [pyP, keyP, PyData.eqv, NestedKey.beq]
  rw [jGb]
  by_cases eQ : a = b
  ·rw [decide_eq_true eQ, decide_eq_true (congrArg sV eQ)]
  ·rw [decide_eq_false eQ, decide_eq_false fun zQ => eQ (sV_inj.mp zQ)]
 | .str a, .tup _ m => by simp [pyP, keyP, PyData.eqv, NestedKey.beq]
 | .str a, .fn b => by simp [pyP, keyP, PyData.eqv, NestedKey.beq]
 | .tup _ l, .non => by simp [pyP, keyP, PyData.eqv, NestedKey.beq]
 | .tup _ l, .bl b => by simp [pyP, keyP, PyData.eqv, NestedKey.beq]
 | .tup _ l, .int b => by simp [pyP, keyP, PyData.eqv, NestedKey.beq]
 | .tup _ l, .str b => by simp [pyP, keyP, PyData.eqv, NestedKey.beq]
 | .tup _ l, .tup _ m => by simp only [pyP, keyP, PyData.eqv, NestedKey.beq]; exact jHn l m
 | .tup _ l, .fn b => by simp [pyP, keyP, PyData.eqv, NestedKey.beq]
 | .fn a, .non => by simp [pyP, keyP, PyData.eqv, NestedKey.beq]
 | .fn a, .bl b => by simp [pyP, keyP, PyData.eqv, NestedKey.beq]
 | .fn a, .int b => by simp [pyP, keyP, PyData.eqv, NestedKey.beq]
 | .fn a, .str b => by simp [pyP, keyP, PyData.eqv, NestedKey.beq]
 | .fn a, .tup _ m => by simp [pyP, keyP, PyData.eqv, NestedKey.beq]
 | .fn a, .fn b => by simp [pyP, keyP, PyData.eqv, NestedKey.beq]
theorem jHn : ∀ l m : List P, PyData.eqvAll (pyPs l) (pyPs m) = NestedKey.beqAll (jDv l) (jDv m)
 | [], [] => by simp [pyPs, jDv, PyData.eqvAll, NestedKey.beqAll]
 | [], _ :: _ => by simp [pyPs, jDv, PyData.eqvAll, NestedKey.beqAll]
 | _ :: _, [] => by simp [pyPs, jDv, PyData.eqvAll, NestedKey.beqAll]
 | x :: l, y :: m => by simp only [pyPs, jDv, PyData.eqvAll, NestedKey.beqAll]; rw [jIH x y, jHn l m]
end
section
variable {G : Gi} {ρ : List Addr} {H : Hp} {h : EH}
theorem fn_key {x : P} (h : isLf x = true ∨ isTp x = true) : isFn x = false := by
 cases x with
 | fn => rcases h with h | h <;> cases h
 | _ => rfl
theorem lf_dep {x : P} (h : isLf x = true) : dep x = 0 := by cases x <;> first | rfl | cases h
theorem tp_dep {x : P} (h : isTp x = true) : dep x ≤ 8 := by
 cases x with
 | tup d l => exact Nat.le_of_ble_eq_true (show Nat.ble (unf d) 8 = true from h)
 | _ => cases h
theorem key_dep {x : P} (h : isLf x = true ∨ isTp x = true) : dep x < 60 := by
 rcases h with h | h
 ·rw [lf_dep h]; decide
 ·have := tp_dep h; omega
theorem jEZ {x y : P} {v u : V} (rx : PR G H x v) (ry : PR G H y u) (hxQ : isLf x = true ∨ isTp x = true) (hy : isLf y = true ∨ isTp y = true) : eqP 60 x y = decide (keyP x = keyP y) := by
 rw [jDV 60 x y v u rx ry (key_dep hxQ) (fn_key hxQ) (fn_key hy), jIH, NestedKey.decide_eq]
theorem jCt {x : P} {k : Leaf} (h : jDS x = some k) : keyP x = k.key ∧ isLf x = true := by
 cases x with
 | non => cases h; exact ⟨by simp [keyP, Leaf.key], rfl⟩
 | int i => cases h; exact ⟨by simp [keyP, Leaf.key], rfl⟩
 | str s => cases h; exact ⟨by simp [keyP, Leaf.key], rfl⟩
 | _ => cases h
theorem jIv {x : P} (h : isLf x = true) : ∃ k, jDS x = some k := by
 cases x with
 | non => exact ⟨_, rfl⟩
 | int i => exact ⟨_, rfl⟩
 | str s => exact ⟨_, rfl⟩
 | _ => cases h
theorem jHg {x : P} {k : Leaf} {v : V} {u : Value} (h : jDS x = some k) (r : PR G H x v) (q : RelV v u) : lfIs k u = true := by
 cases r with
 | non => cases h; cases q; rfl
 | int i => cases h; obtain ⟨t, rfl⟩ := q; simp [lfIs, Leaf.isOf]
 | str s => cases h; obtain ⟨t, rfl⟩ := q; simp [lfIs, Leaf.isOf, Value.isStrOf]
 | _ => cases h
theorem jIz {x y : P} {j k : Leaf} (hxQ : jDS x = some j) (hy : jDS y = some k) : decide (keyP x = keyP y) = decide (j = k) := by
 rw [(jCt hxQ).1, (jCt hy).1]
 by_cases eQ : j = k
 ·rw [decide_eq_true eQ, decide_eq_true (congrArg Leaf.key eQ)]
 ·rw [decide_eq_false eQ, decide_eq_false fun zQ => eQ (Leaf.key_inj zQ)]
def RelD (G : Gi) (ρ : List Addr) (H : Hp) : Option D → Option Value → Prop
 | some d, some u => ∃ v, RelV v u ∧ DR G ρ H d v
 | none, none => True
 | _, _ => False
theorem find0 {p : P} {k : Leaf} {v : V} (hpQ : jDS p = some k) (rp : PR G H p v) : ∀ {l : List (P × D)} {vs : List (Leaf × Value)}, Paired (R0Q G ρ H) l vs → RelD G ρ H (jDf p l) (valueAt vs k)
 | _, _, .nil => True.intro
 | _, _, @Paired.cons _ _ _ a b l vs ⟨h1, ⟨w, h2⟩, u, h3, h4⟩ t => by
  have eQ : eqP 60 a.1 p = decide (b.1 = k) := (jEZ h2 rp (.inl (jCt h1).2) (.inl (jCt hpQ).2)).trans (jIz h1 hpQ)
  show RelD G ρ H (Bool.rec (motive := fun _ => Option D) (jDf p l) (some a.2) (eqP 60 a.1 p)) _
  rw [eQ]
  unfold valueAt
  rw [List.find?_cons]
  by_cases q : b.1 = k
  ·rw [decide_eq_true q]; exact ⟨u, h3, h4⟩
  ·rw [decide_eq_false q]; exact find0 hpQ rp t
theorem find1 {p : P} {v : V} (hpQ : isTp p = true) (rp : PR G H p v) : ∀ {l : List (P × D)} {xs : List (NestedKey × Addr × Value)}, Paired (R1 G ρ H) l xs → RelD G ρ H (jDf p l) ((atKey xs (keyP p)).map (·.2))
 | _, _, .nil => True.intro
 | _, _, @Paired.cons _ _ _ a b l vs ⟨h1, h2, h5, u, h3, h4⟩ t => by
  have eQ : eqP 60 a.1 p = decide (b.1 = keyP p) := by rw [jEZ h5 rp (.inr h2) (.inr hpQ), h1]
  show RelD G ρ H (Bool.rec (motive := fun _ => Option D) (jDf p l) (some a.2) (eqP 60 a.1 p)) _
  rw [eQ]
  unfold atKey
  rw [List.find?_cons]
  by_cases q : b.1 = keyP p
  ·rw [decide_eq_true q]; exact ⟨u, h3, h4⟩
  ·rw [decide_eq_false q]; exact find1 hpQ rp t
end
end Mi

namespace Mi
open PySem PySem.Spec L2
open PyProof.Rows hiding St
theorem D0.stay {P : Program} {w : World} {a : Addr} {vs : List (Leaf × Value)} {h1 h2 : Heap} (x : D0 P w a vs h1) (k : ∀ o, h1.get? a = some o → h2.get? a = some o) : D0 P w a vs h2 := by
 obtain ⟨zQ, o, es, ep, eQ, r⟩ := x
 exact ⟨zQ, o, es, ep, k _ eQ, r⟩
theorem D1.stay {P : Program} {w : World} {a : Addr} {xs : List (NestedKey × Addr × Value)} {h1 h2 : Heap} (x : D1 P w a xs h1) (k : ∀ o, h1.get? a = some o → h2.get? a = some o) : D1 P w a xs h2 := by
 obtain ⟨zQ, o, es, ep, eQ, r⟩ := x
 exact ⟨zQ, o, es, ep, k _ eQ, r⟩
theorem ext0 {P : Program} {w : World} {H : Hp} {a : Addr} {vs : List (Leaf × Value)} {h : Heap} (x : D0 P w a vs h) : ObjOk P w H h a (.ext (D0 P w a vs)) := by
 obtain ⟨zQ, o, es, ep, eQ, r⟩ := id x
 exact ⟨x, ⟨o, eQ⟩, fun _ _ y k => y.stay k⟩
theorem ext1 {P : Program} {w : World} {H : Hp} {a : Addr} {xs : List (NestedKey × Addr × Value)} {h : Heap} (x : D1 P w a xs h) : ObjOk P w H h a (.ext (D1 P w a xs)) := by
 obtain ⟨zQ, o, es, ep, eQ, r⟩ := id x
 exact ⟨x, ⟨o, eQ⟩, fun _ _ y k => y.stay k⟩
structure Same (G : Gi) (X : Cx) : Prop where
 K : G.K = X.K
 pg : G.pg = X.prog
 w : G.w = X.w
section
variable {G : Gi} {X : Cx} {pins : List (Addr × Obj)} {σQ : St} {H : Hp} {s : Shared} {a : Addr}
theorem rd0 (g : Same G X) (I : Inv X pins σQ H s) {vs : List (Leaf × Value)} (r : Rd H a (.ext (D0 G.pg G.w a vs))) : D0 X.prog X.w a vs s.heap := by
 have zQ := (r.ok I.hok).1
 rw [g.pg, g.w] at zQ
 exact zQ
theorem rd1 (g : Same G X) (I : Inv X pins σQ H s) {xs : List (NestedKey × Addr × Value)} (r : Rd H a (.ext (D1 G.pg G.w a xs))) : D1 X.prog X.w a xs s.heap := by
 have zQ := (r.ok I.hok).1
 rw [g.pg, g.w] at zQ
 exact zQ
mutual
theorem jIl (g : Same G X) (I : Inv X pins σQ H s) : ∀ {p : P} {v : V} {u : Value}, PR G H p v → RelV v u → isFn p = false → NestedIs s.heap (keyP p) u
 | _, _, _, .non, r, _ => by cases r; simp only [keyP]; exact .none
 | _, _, _, .bl b, r, _ => by cases r; simp only [keyP]; exact .bool rfl
 | _, _, _, .int i, r, _ => by obtain ⟨t, rfl⟩ := r; simp only [keyP]; exact .int i t
 | _, _, _, .str q _ _, r, _ => by obtain ⟨t, rfl⟩ := r; simp only [keyP]; exact .text _ t
 | _, _, _, .tup (l := l) (d := d) sq rl hd hzQ hc, r, _ => by
  cases r
  rw [g.K] at sq
  obtain ⟨its, ri, ⟨o, eQ, cQ, n, dt⟩, _⟩ := I.tuple sq
  simp only [keyP]
  exact .tup eQ cQ dt (jHe g I rl ri fun x hxQ => jD2 (Nat.le_trans (Nat.le_of_lt (hd x hxQ)) hzQ.2))
 | _, _, _, .fn _, _, zQ => nomatch (show true = false from zQ)
theorem jHe (g : Same G X) (I : Inv X pins σQ H s) : ∀ {l : List P} {vs : List V} {us : List Value}, PRs G H l vs → Vals vs us → (∀ x ∈ l, isFn x = false) → NestedAll s.heap (jDv l) us
 | _, _, _, .nil, r, _ => by cases r; exact .nil
 | _, _, _, .cons a b, r, f => by
  cases r with
  | cons r1 r2 => exact .cons (jIl g I a r1 (f _ List.mem_cons_self)) (jHe g I b r2 fun x hxQ => f x (List.mem_cons_of_mem _ hxQ))
end
mutual
theorem jHh : ∀ {p : P} {v : V}, PR G H p v → (keyP p).depth ≤ dep p
 | _, _, .non => Nat.le_refl _
 | _, _, .bl _ => Nat.le_refl _
 | _, _, .int _ => Nat.le_refl _
 | _, _, .str _ _ _ => Nat.le_refl _
 | _, _, .tup (d := d) (l := l) _ r hd hzQ hc => by
  have := jF3 r (unf d - 1) fun x hxQ => by have := hd x hxQ; omega
  simp only [keyP, NestedKey.depth]
  show _ ≤ unf d
  omega
 | _, _, .fn _ => Nat.zero_le _
theorem jF3 : ∀ {l : List P} {vs : List V}, PRs G H l vs → ∀ d, (∀ x ∈ l, dep x ≤ d) → NestedKey.depthAll (jDv l) ≤ d
 | _, _, .nil, _, _ => by simp [jDv, NestedKey.depthAll]
 | _, _, .cons a b, d, f => by
  have h1 := jHh a
  have h2 := jF3 b d fun x hxQ => f x (List.mem_cons_of_mem _ hxQ)
  have h3 := f _ List.mem_cons_self
  simp only [jDv, NestedKey.depthAll]
  omega
end
def KeyT (G : Gi) (H : Hp) (k : NestedKey) (b : Addr) : Prop := ∃ q, PR G H q (.ref b) ∧ keyP q = k ∧ isTp q = true
theorem KeyT.is (g : Same G X) (I : Inv X pins σQ H s) {k : NestedKey} {b : Addr} (x : KeyT G H k b) : (nestedKind X.prog X.w).is s.heap k b := by
 obtain ⟨q, r, eQ, t⟩ := x
 subst eQ
 exact ⟨jIl g I r rfl (fn_key (.inr t)), Nat.le_trans (jHh r) (tp_dep t)⟩
theorem keys1 (g : Same G X) (I : Inv X pins σQ H s) {xs : List (NestedKey × Addr × Value)} (r : Rd H a (.ext (D1 G.pg G.w a xs))) (hk : ∀ x ∈ xs, KeyT G H x.1 x.2.1) : s.heap.DictOfH (nestedKind X.prog X.w) a xs := by
 obtain ⟨zQ, o, es, ep, eQ, h1, h2, h3, h4⟩ := rd1 g I r
 exact ⟨o, es, ep, eQ, h1, h2, h3, fun x hxQ => (hk x hxQ).is g I, h4⟩
def DK (G : Gi) (H : Hp) (a : Addr) (y : V) (o : Option V) : Prop :=
 (∃ vs k, Rd H a (.ext (D0 G.pg G.w a vs)) ∧ (∀ u, RelV y u → lfIs k u = true) ∧ RelO o (valueAt vs k)) ∨
 ∃ xs k b, Rd H a (.ext (D1 G.pg G.w a xs)) ∧ y = .ref b ∧ KeyT G H k b ∧ (∀ x ∈ xs, KeyT G H x.1 x.2.1) ∧ RelO o ((atKey xs k).map (·.2))
theorem jFu {v : V} {o : Option Value} (r : RelO (some v) o) : ∃ u, o = some u ∧ RelV v u := by
 cases o with
 | none => exact r.elim
 | some u => exact ⟨u, rfl, r⟩
theorem room8 {A : Around} (hu : A.units + 64 < cLine) : (nestedKind X.prog X.w).room A.in1 := by
 show A.units + 1 + 8 < cLine
 omega
def DPw (G : Gi) (H : Hp) (a : Addr) (y : V) (u : Value) (H' : Hp) : Prop :=
 (∃ vs k, H a = some (.ext (D0 G.pg G.w a vs)) ∧ (∀ u, RelV y u → lfIs k u = true) ∧ vs.length < sizeLine ∧ H' = upd H a (.ext (D0 G.pg G.w a (stored vs k u)))) ∨
 ∃ xs k b, H a = some (.ext (D1 G.pg G.w a xs)) ∧ y = .ref b ∧ KeyT G H k b ∧ (∀ x ∈ xs, KeyT G H x.1 x.2.1) ∧ xs.length < sizeLine ∧ H' = upd H a (.ext (D1 G.pg G.w a (storedH xs k b u)))
theorem jIn {A : Around} {E : Value → Shared → Prop} {y : V} {u t : Value} {H' : Hp} {Q : Unit → Shared → Prop} (g : Same G X) (hu : A.units + 64 < cLine) (I : Inv X pins σQ H s) (d : DPw G H a y t H') (ry : RelV y u) (h : ∀ s', Inv X pins σQ H' s' → Q () s') :
  wpAny (model X.prog X.w) A (setItem (.ref a) u t) Q E s := by
 rcases d with ⟨vs, k, eQ, hk, zQ, rfl⟩ | ⟨xs, k, b, eQ, rfl, hk, hxQ, zQ, rfl⟩
 ·have D := rd0 g I (.inl eQ)
  refine wpAny_setItem_pairs (hsz := Nat.le_of_lt zQ) (hk _ ry) D.2 fun h' D' hs => h _ ?_
  obtain ⟨o, es, ep, e1, r⟩ := id D'
  rw [g.pg, g.w]
  exact d_write I (by rw [eQ]; exact True.intro) hs ⟨o, e1⟩ (ext0 ⟨D.1, D'⟩)
 ·cases ry
  have D := keys1 g I (.inl eQ) hxQ
  refine wpAny_setItem_heap (hsz := Nat.le_of_lt zQ) (room8 hu) (hk.is g I) D fun h' D' hs => h _ ?_
  obtain ⟨o, es, ep, e1, r1, r2, r3, _, r4⟩ := id D'
  rw [g.pg, g.w]
  exact d_write I (by rw [eQ]; exact True.intro) hs ⟨o, e1⟩ (ext1 ⟨(rd1 g I (.inl eQ)).1, o, es, ep, e1, r1, r2, r3, r4⟩)
end
end Mi

namespace Mi
open PySem PySem.Spec L2
open PyProof.Rows hiding St
theorem jI5 {α : Type} {l : List α} (h : Bool.not (isN l) = true) : l = [] := by
 cases l with
 | nil => rfl
 | cons => cases h
theorem or3 {a b cQ : Bool} (h : Bool.or a (Bool.or b cQ) = true) : a = true ∨ b = true ∨ cQ = true := by
 rcases or_t h with h | h
 ·exact .inl h
 ·exact .inr (or_t h)
theorem D01 {P : Program} {w : World} {a : Addr} : D0 P w a [] = D1 P w a [] := funext fun h => propext ⟨fun ⟨zQ, o, es, ep, h1, h2, h3, _, h5, _⟩ => ⟨zQ, o, es, ep, h1, h2, h3, by
  have eQ : es.toList = [] := by
   cases q : es.toList with
   | nil => rfl
   | cons x r => rw [q] at h5; cases h5
  exact eQ, List.nodup_nil⟩, fun ⟨zQ, o, es, ep, h1, h2, h3, h4, _⟩ => ⟨zQ, o, es, ep, h1, h2, h3, by
  have eQ : es.toList = [] := h4
  refine ⟨fun x hxQ => ?_, by rw [eQ]; exact .nil, List.nodup_nil⟩
  have hxQ : x ∈ es.toList := Array.mem_toList_iff.mpr hxQ
  rw [eQ] at hxQ; cases hxQ⟩⟩
section
variable {G : Gi} {ρ : List Addr} {H : Hp} {h : EH} {a : Addr} {l : List (P × D)} {v : Nat}
theorem as0 (x : OR G ρ H (.dic v l) a) (cQ : v = 0 ∨ v = 2 ∨ l = []) : ∃ vs, Rd H a (.ext (D0 G.pg G.w a vs)) ∧ Paired (R0Q G ρ H) l vs ∧ l.length ≤ sizeLine ∧ (vs.map (·.1)).Nodup := by
 cases x with
 | d0 eQ r zQ => exact ⟨_, .inl eQ, r, zQ⟩
 | l0 eQ r zQ => exact ⟨_, .inr ⟨_, eQ⟩, r, zQ⟩
 | d1 eQ r zQ =>
  rcases cQ with cQ | cQ | cQ
  ·cases cQ
  ·cases cQ
  ·subst cQ; cases r; exact ⟨[], .inl (by rw [D01]; exact eQ), .nil, zQ.1, List.nodup_nil⟩
 | l1 eQ r zQ =>
  rcases cQ with cQ | cQ | cQ
  ·cases cQ
  ·cases cQ
  ·subst cQ; cases r; exact ⟨[], .inr ⟨_, by rw [D01]; exact eQ⟩, .nil, zQ.1, List.nodup_nil⟩
theorem as1 (x : OR G ρ H (.dic v l) a) (cQ : v = 1 ∨ v = 3 ∨ l = []) : ∃ xs, Rd H a (.ext (D1 G.pg G.w a xs)) ∧ Paired (R1 G ρ H) l xs ∧ l.length ≤ sizeLine ∧ (xs.map (·.1)).Nodup := by
 cases x with
 | d1 eQ r zQ => exact ⟨_, .inl eQ, r, zQ⟩
 | l1 eQ r zQ => exact ⟨_, .inr ⟨_, eQ⟩, r, zQ⟩
 | d0 eQ r zQ =>
  rcases cQ with cQ | cQ | cQ
  ·cases cQ
  ·cases cQ
  ·subst cQ; cases r; exact ⟨[], .inl (by rw [← D01]; exact eQ), .nil, zQ.1, List.nodup_nil⟩
 | l0 eQ r zQ =>
  rcases cQ with cQ | cQ | cQ
  ·cases cQ
  ·cases cQ
  ·subst cQ; cases r; exact ⟨[], .inr ⟨_, by rw [← D01]; exact eQ⟩, .nil, zQ.1, List.nodup_nil⟩
theorem wr0 (x : OR G ρ H (.dic v l) a) (cQ : v = 0 ∨ (v < 2 ∧ l = [])) : ∃ vs, H a = some (.ext (D0 G.pg G.w a vs)) ∧ Paired (R0Q G ρ H) l vs ∧ (vs.map (·.1)).Nodup := by
 cases x with
 | d0 eQ r zQ => exact ⟨_, eQ, r, zQ.2⟩
 | l0 eQ r zQ => rcases cQ with cQ | ⟨cQ, _⟩ <;> omega
 | d1 eQ r zQ =>
  rcases cQ with cQ | ⟨_, cQ⟩
  ·cases cQ
  ·subst cQ; cases r; exact ⟨[], by rw [D01]; exact eQ, .nil, List.nodup_nil⟩
 | l1 eQ r zQ => rcases cQ with cQ | ⟨cQ, _⟩ <;> omega
theorem wr1 (x : OR G ρ H (.dic v l) a) (cQ : v = 1 ∨ (v < 2 ∧ l = [])) : ∃ xs, H a = some (.ext (D1 G.pg G.w a xs)) ∧ Paired (R1 G ρ H) l xs ∧ (xs.map (·.1)).Nodup := by
 cases x with
 | d1 eQ r zQ => exact ⟨_, eQ, r, zQ.2⟩
 | l1 eQ r zQ => rcases cQ with cQ | ⟨cQ, _⟩ <;> omega
 | d0 eQ r zQ =>
  rcases cQ with cQ | ⟨_, cQ⟩
  ·cases cQ
  ·subst cQ; cases r; exact ⟨[], by rw [← D01]; exact eQ, .nil, List.nodup_nil⟩
 | l0 eQ r zQ => rcases cQ with cQ | ⟨cQ, _⟩ <;> omega
theorem jDo {j : Nat} (h : okR v l j = true) : v = j ∨ v = j + 2 ∨ l = [] := by
 rcases or3 (show Bool.or (Nat.beq v j) (Bool.or (Nat.beq v (Nat.add j 2)) (Bool.not (isN l))) = true from h) with h | h | h
 ·exact .inl (Nat.eq_of_beq_eq_true h)
 ·exact .inr (.inl (Nat.eq_of_beq_eq_true h))
 ·exact .inr (.inr (jI5 h))
theorem okW_or {j : Nat} (h : okW v l j = true) : v = j ∨ (v < 2 ∧ l = []) := by
 rcases or_t (show Bool.or (Nat.beq v j) (Bool.and (Nat.blt v 2) (Bool.not (isN l))) = true from h) with h | h
 ·exact .inl (Nat.eq_of_beq_eq_true h)
 ·obtain ⟨h1, h2⟩ := jEd h
  exact .inr ⟨Nat.le_of_ble_eq_true h1, jI5 h2⟩
theorem kOf_some (p : P) : (∀ (α : Type) (y : Nat → α) (n : α), kOf p y n = n) ∨ (isLf p = true ∧ ∀ (α : Type) (y : Nat → α) (n : α), kOf p y n = y 0) ∨ (isTp p = true ∧ ∀ (α : Type) (y : Nat → α) (n : α), kOf p y n = y 1) := by
 unfold kOf
 cases h1 : isLf p with
 | true => exact .inr (.inl ⟨rfl, fun _ _ _ => rfl⟩)
 | false =>
  cases h2 : isTp p with
  | true => exact .inr (.inr ⟨rfl, fun _ _ _ => rfl⟩)
  | false => exact .inl fun _ _ _ => rfl
theorem jE2 {d : D} {x : V} (r : DR G ρ H d x) : (∀ (α : Type) (y : P → Nat → α) (n : α), keyOf d y n = n) ∨ ∃ p, d = .p p ∧ PR G H p x ∧ ((isLf p = true ∧ ∀ (α : Type) (y : P → Nat → α) (n : α), keyOf d y n = y p 0) ∨ (isTp p = true ∧ ∀ (α : Type) (y : P → Nat → α) (n : α), keyOf d y n = y p 1)) := by
 cases r with
 | ref => exact .inl fun _ _ _ => rfl
 | mt => exact .inl fun _ _ _ => rfl
 | @p p _ r =>
  rcases kOf_some p with zQ | ⟨h, zQ⟩ | ⟨h, zQ⟩
  ·exact .inl fun α y n => zQ α (y p) n
  ·exact .inr ⟨p, rfl, r, .inl ⟨h, fun α y n => zQ α (y p) n⟩⟩
  ·exact .inr ⟨p, rfl, r, .inr ⟨h, fun α y n => zQ α (y p) n⟩⟩
def RelV2 (G : Gi) (ρ : List Addr) (H : Hp) : Option D → Option V → Prop
 | some d, some v => DR G ρ H d v
 | none, none => True
 | _, _ => False
theorem jEx {o : Option D} {u : Option Value} (r : RelD G ρ H o u) : ∃ w, RelV2 G ρ H o w ∧ RelO w u := by
 cases o with
 | none => cases u with
  | none => exact ⟨none, True.intro, True.intro⟩
  | some u => exact r.elim
 | some d => cases u with
  | none => exact r.elim
  | some u => obtain ⟨v, h1, h2⟩ := r; exact ⟨some v, h2, h1⟩
theorem keysT {xs : List (NestedKey × Addr × Value)} : ∀ {l : List (P × D)} {xs : List (NestedKey × Addr × Value)}, Paired (R1 G ρ H) l xs → ∀ x ∈ xs, KeyT G H x.1 x.2.1
 | _, _, .nil, x, h => by cases h
 | _, _, .cons ⟨h1, h2, h5, _⟩ t, x, h => by
  rcases List.mem_cons.mp h with zQ | zQ
  ·subst zQ; exact ⟨_, h5, h1, h2⟩
  ·exact keysT (xs := []) t x zQ
theorem jFR {d : D} {y : V} (x : OR G ρ H (.dic v l) a) (r : DR G ρ H d y) : (∀ (α : Type) (k : Option D → α) (n : α), dGet v l d k n = n) ∨ ∃ o w, RelV2 G ρ H o w ∧ DK G H a y w ∧ ∀ (α : Type) (k : Option D → α) (n : α), dGet v l d k n = k o := by
 unfold dGet
 rcases jE2 r with zQ | ⟨p, rfl, rp, ⟨hpQ, zQ⟩ | ⟨hpQ, zQ⟩⟩
 ·exact .inl fun α k n => zQ α _ n
 ·cases q : okR v l 0 with
  | false => exact .inl fun α k n => by rw [zQ]; rw [q]; rfl
  | true =>
   obtain ⟨vs, rd, pr, _⟩ := as0 x (jDo q)
   obtain ⟨k0, hk⟩ := jIv hpQ
   obtain ⟨w, w1, w2⟩ := jEx (find0 hk rp pr)
   exact .inr ⟨_, w, w1, .inl ⟨vs, k0, rd, fun u ru => jHg hk rp ru, w2⟩, fun α k n => by rw [zQ]; rw [q]; rfl⟩
 ·cases q : okR v l 1 with
  | false => exact .inl fun α k n => by rw [zQ]; rw [q]; rfl
  | true =>
   obtain ⟨xs, rd, pr, _⟩ := as1 x (jDo q)
   obtain ⟨w, w1, w2⟩ := jEx (find1 hpQ rp pr)
   have ⟨b, hb⟩ : ∃ b, y = .ref b := by
    cases rp with
    | tup => exact ⟨_, rfl⟩
    | _ => cases hpQ
   subst hb
   exact .inr ⟨_, w, w1, .inr ⟨xs, keyP p, b, rd, rfl, ⟨p, rp, rfl, hpQ⟩, keysT (xs := []) pr, w2⟩, fun α k n => by rw [zQ]; rw [q]; rfl⟩
theorem put0 {p : P} {k : Leaf} {w : V} {d : D} {vv : V} {u : Value} (hpQ : jDS p = some k) (rp : PR G H p w) (ru : RelV vv u) (rd : DR G ρ H d vv) : ∀ {l : List (P × D)} {vs : List (Leaf × Value)}, Paired (R0Q G ρ H) l vs → (vs.map (·.1)).Nodup → Paired (R0Q G ρ H) (dPut p d l) (stored vs k u)
 | _, _, .nil, _ => by
  show Paired _ [(p, d)] [(k, u)]
  exact .cons ⟨hpQ, ⟨_, rp⟩, _, ru, rd⟩ .nil
 | _, _, @Paired.cons _ _ _ a b l vs ⟨h1, ⟨x, h2⟩, h3⟩ t, nd => by
  have eQ : eqP 60 a.1 p = decide (b.1 = k) := (jEZ h2 rp (.inl (jCt h1).2) (.inl (jCt hpQ).2)).trans (jIz h1 hpQ)
  rw [List.map_cons] at nd; rw [List.nodup_cons] at nd
  show Paired _ (Bool.rec (motive := fun _ => List (P × D)) (a :: dPut p d l) ((a.1, d) :: l) (eqP 60 a.1 p)) _
  rw [eQ]
  by_cases q : b.1 = k
  ·rw [decide_eq_true q]
   have s : stored (b :: vs) k u = (b.1, u) :: vs := by
    unfold stored
    rw [List.any_cons, decide_eq_true q, Bool.true_or, if_pos rfl, List.map_cons, if_pos q]
    congr 1
    refine (List.map_congr_left fun zQ hzQ => ?_).trans (List.map_id _)
    rw [if_neg]
    ·rfl
    ·intro w; exact nd.1 (by rw [q, ← w]; exact List.mem_map_of_mem hzQ)
   rw [s]
   exact .cons ⟨h1, ⟨x, h2⟩, _, ru, rd⟩ t
  ·rw [decide_eq_false q]
   have s : stored (b :: vs) k u = b :: stored vs k u := by
    unfold stored
    rw [List.any_cons, decide_eq_false q, Bool.false_or]
    by_cases zQ : (vs.any fun kv => decide (kv.1 = k)) = true
    ·rw [if_pos zQ, if_pos zQ, List.map_cons, if_neg q]
    ·rw [if_neg zQ, if_neg zQ, List.cons_append]
   rw [s]
   exact .cons ⟨h1, ⟨x, h2⟩, h3⟩ (put0 hpQ rp ru rd t nd.2)
theorem put1 {p : P} {b0 : Addr} {d : D} {vv : V} {u : Value} (hpQ : isTp p = true) (rp : PR G H p (.ref b0)) (ru : RelV vv u) (rd : DR G ρ H d vv) : ∀ {l : List (P × D)} {xs : List (NestedKey × Addr × Value)}, Paired (R1 G ρ H) l xs → (xs.map (·.1)).Nodup → Paired (R1 G ρ H) (dPut p d l) (storedH xs (keyP p) b0 u)
 | _, _, .nil, _ => by
  show Paired _ [(p, d)] [(keyP p, b0, u)]
  exact .cons ⟨rfl, hpQ, rp, _, ru, rd⟩ .nil
 | _, _, @Paired.cons _ _ _ a b l xs ⟨h1, h2, h5, h3⟩ t, nd => by
  have eQ : eqP 60 a.1 p = decide (b.1 = keyP p) := by rw [jEZ h5 rp (.inr h2) (.inr hpQ), h1]
  rw [List.map_cons] at nd; rw [List.nodup_cons] at nd
  show Paired _ (Bool.rec (motive := fun _ => List (P × D)) (a :: dPut p d l) ((a.1, d) :: l) (eqP 60 a.1 p)) _
  rw [eQ]
  by_cases q : b.1 = keyP p
  ·rw [decide_eq_true q]
   have s : storedH (b :: xs) (keyP p) b0 u = (b.1, b.2.1, u) :: xs := by
    have e1 : (atKey (b :: xs) (keyP p)).isSome = true := by unfold atKey; rw [List.find?_cons, decide_eq_true q]; rfl
    unfold storedH
    rw [if_pos e1, List.map_cons]
    congr 1
    ·unfold putAt; rw [if_pos q]
    ·refine (List.map_congr_left fun zQ hzQ => ?_).trans (List.map_id _)
     unfold putAt
     rw [if_neg]
     ·rfl
     ·intro w; exact nd.1 (by rw [q, ← w]; exact List.mem_map_of_mem hzQ)
   rw [s]
   exact .cons ⟨h1, h2, h5, _, ru, rd⟩ t
  ·rw [decide_eq_false q]
   have s : storedH (b :: xs) (keyP p) b0 u = b :: storedH xs (keyP p) b0 u := by
    have e1 : atKey (b :: xs) (keyP p) = atKey xs (keyP p) := by unfold atKey; rw [List.find?_cons, decide_eq_false q]
    unfold storedH
    rw [e1]
    by_cases zQ : (atKey xs (keyP p)).isSome = true
    ·rw [if_pos zQ, if_pos zQ, List.map_cons]
     congr 1
     unfold putAt; rw [if_neg q]
    ·rw [if_neg zQ, if_neg zQ, List.cons_append]
   rw [s]
   exact .cons ⟨h1, h2, h5, h3⟩ (put1 hpQ rp ru rd t nd.2)
theorem jIx (p : P) (d : D) : ∀ l : List (P × D), (dPut p d l).length ≤ l.length + 1
 | [] => Nat.le_refl _
 | a :: l => by
  have := jIx p d l
  show (Bool.rec (motive := fun _ => List (P × D)) (a :: dPut p d l) ((a.1, d) :: l) (eqP 60 a.1 p)).length ≤ _
  cases eqP 60 a.1 p with
  | true => show l.length + 1 ≤ l.length + 1 + 1; omega
  | false => show (dPut p d l).length + 1 ≤ l.length + 1 + 1; omega
theorem nd_put0 {k : Leaf} {u : Value} {vs : List (Leaf × Value)} (n : (vs.map (·.1)).Nodup) : ((stored vs k u).map (·.1)).Nodup := by
 unfold stored
 by_cases zQ : (vs.any fun kv => decide (kv.1 = k)) = true
 ·rw [if_pos zQ, List.map_map]
  refine (List.map_congr_left (g := fun q : Leaf × Value => q.1) fun q _ => ?_) ▸ n
  show (if q.1 = k then (q.1, u) else q).1 = q.1
  by_cases h : q.1 = k
  ·rw [if_pos h]
  ·rw [if_neg h]
 ·rw [if_neg zQ, List.map_append, List.nodup_append]
  refine ⟨n, List.nodup_cons.mpr ⟨by simp, List.nodup_nil⟩, fun x hxQ y hy eQ => zQ ?_⟩
  have hy : y = k := by simpa using hy
  subst hy eQ
  obtain ⟨q, hq, eQ⟩ := List.mem_map.mp hxQ
  exact List.any_eq_true.mpr ⟨q, hq, decide_eq_true eQ⟩
theorem nd_put1 {k : NestedKey} {b : Addr} {u : Value} {xs : List (NestedKey × Addr × Value)} (n : (xs.map (·.1)).Nodup) : ((storedH xs k b u).map (·.1)).Nodup := by
 unfold storedH
 by_cases zQ : (atKey xs k).isSome = true
 ·rw [if_pos zQ, List.map_map]
  refine (List.map_congr_left (g := fun q : NestedKey × Addr × Value => q.1) fun q _ => ?_) ▸ n
  show (putAt k u q).1 = q.1
  unfold putAt
  by_cases h : q.1 = k
  ·rw [if_pos h]
  ·rw [if_neg h]
 ·rw [if_neg zQ, List.map_append, List.nodup_append]
  refine ⟨n, List.nodup_cons.mpr ⟨by simp, List.nodup_nil⟩, fun x hxQ y hy eQ => zQ ?_⟩
  have hy : y = k := by simpa using hy
  subst hy eQ
  obtain ⟨q, hq, eQ⟩ := List.mem_map.mp hxQ
  unfold atKey
  rw [Option.isSome_map, List.find?_isSome]
  exact ⟨q, hq, decide_eq_true eQ⟩
end
end Mi

namespace Mi
open PySem PySem.Spec L2
open PyProof.Rows hiding St
section
variable {G : Gi} {X : Cx} {pins : List (Addr × Obj)} {σQ : St} {H : Hp} {s : Shared} {a : Addr}
def IsDm (G : Gi) (H : Hp) (a : Addr) : Prop := (∃ vs, Rd H a (.ext (D0 G.pg G.w a vs))) ∨ ∃ xs, Rd H a (.ext (D1 G.pg G.w a xs))
theorem IsDm.of {ρ : List Addr} {v : Nat} {l : List (P × D)} (x : OR G ρ H (.dic v l) a) : IsDm G H a := by
 cases x with
 | d0 eQ => exact .inl ⟨_, .inl eQ⟩
 | l0 eQ => exact .inl ⟨_, .inr ⟨_, eQ⟩⟩
 | d1 eQ => exact .inr ⟨_, .inl eQ⟩
 | l1 eQ => exact .inr ⟨_, .inr ⟨_, eQ⟩⟩
theorem DK.isD {y : V} {o : Option V} (d : DK G H a y o) : IsDm G H a := by
 rcases d with ⟨vs, _, r, _⟩ | ⟨xs, _, _, r, _⟩
 ·exact .inl ⟨vs, r⟩
 ·exact .inr ⟨xs, r⟩
theorem IsDm.raw (g : Same G X) (I : Inv X pins σQ H s) (d : IsDm G H a) : (a == sysModules) = false ∧ ∃ o, s.heap.get? a = some o ∧ o.ExactDict := by
 rcases d with ⟨vs, r⟩ | ⟨xs, r⟩
 ·obtain ⟨zQ, o, _, _, eQ, x, _⟩ := rd0 g I r
  exact ⟨zQ, o, eQ, x⟩
 ·obtain ⟨zQ, o, _, _, eQ, x, _⟩ := rd1 g I r
  exact ⟨zQ, o, eQ, x⟩
theorem IsDm.ty (g : Same G X) (I : Inv X pins σQ H s) (d : IsDm G H a) : s.TypeIs (.ref a) "dict" := by
 obtain ⟨_, o, eQ, x⟩ := d.raw g I
 exact ⟨o, eQ, x.1⟩
theorem m_item {A : Around} {E : Value → Shared → Prop} {y v : V} {u : Value} (g : Same G X) (hu : A.units + 64 < cLine) (I : Inv X pins σQ H s) (d : DK G H a y (some v)) (ry : RelV y u) :
  ∃ zQ, RelV v zQ ∧ ∀ (Q : Value → Shared → Prop), (∀ s', Inv X pins σQ H s' → Q zQ s') → wpAny (model X.prog X.w) A (getItem (.ref a) u) Q E s := by
 rcases d with ⟨vs, k, r, hk, ro⟩ | ⟨xs, k, b, r, rfl, hk, hxQ, ro⟩
 ·obtain ⟨zQ, e1, e2⟩ := jFu ro
  exact ⟨zQ, e2, fun Q h => wpAny_getItem_of (hk _ ry) (rd0 g I r).2.mapOf e1 (h _ (I.tok _))⟩
 ·cases ry
  obtain ⟨zQ, e1, e2⟩ := jFu ro
  obtain ⟨q, e3, e4⟩ := Option.map_eq_some_iff.mp e1
  exact ⟨zQ, e2, fun Q h => wpAny_getItem_heap (room8 hu) (hk.is g I) (keys1 g I r hxQ) e3 (by rw [e4]; exact h _ (I.tok _))⟩
def rIxD (G : Gi) : R2 := fun x y H Q => ∃ a v, x = .ref a ∧ DK G H a y (some v) ∧ Q v H
theorem ix_dic (g : Same G X) (hu : X.A.units + 64 < cLine) : IxR X (rIxD G) := by
 intro value slice pins s σQ H x y v u Q I rx ry h hs
 obtain ⟨a, w, rfl, d, q⟩ := h
 cases rx
 obtain ⟨zQ, rz, k⟩ := m_item (E := X.xe) g hu I d ry
 exact subscriptTail_builtinR (x := zQ) (d.isD.ty g I) PySem.F.slot_dict_getitem.lookup (k _ fun s' I' => ⟨rfl, w, H, I', rz, q⟩) hs
theorem jIh {o : Option D} {w : Option V} {ρ : List Addr} {f : D → VR} (r : RelV2 G ρ H o w) : (o = none ∧ oV o f = .bad) ∨ ∃ d v, o = some d ∧ w = some v ∧ DR G ρ H d v ∧ oV o f = f d := by
 cases o with
 | none => exact Or.inl ⟨rfl, rfl⟩
 | some d => cases w with
  | none => exact r.elim
  | some v => exact .inr ⟨d, v, rfl, rfl, r, rfl⟩
theorem ixr_A (hK : G.K = X.K) (g : Same G X) (hu : X.A.units + 64 < cLine) : IxR X (rO2 G oIxA) := jHi ((ixr_all hK).or (ix_dic g hu)) fun x y H Q ⟨ρ, d, eQ, h, S, rx, ry, w⟩ => by
 rcases jAP S rx with zQ | ⟨k, a, v, l, rfl, rfl, _, _, x, zQ⟩
 ·exact .inl ⟨ρ, d, eQ, h, S, rx, ry, by unfold oIxA at w; rw [zQ] at w; exact w⟩
 ·unfold oIxA at w
  rw [zQ] at w
  rcases jFR x ry with q | ⟨o, u, r, dk, q⟩
  ·rw [q] at w; exact w.elim
  ·rw [q] at w
   rcases jIh (f := .val) r with ⟨_, eQ⟩ | ⟨d, v, _, rfl, rd, eQ⟩
   ·rw [eQ] at w; exact w.elim
   ·rw [eQ] at w
    exact .inr ⟨a, v, rfl, dk, wV.val S w rd⟩
end
section
variable {X : Cx} {G : Gi} {W : WX} {Φ : Ph} {pos p2 p3 : Pos} {a b eQ o : Expr} {es : List Expr} {ca cb cc : CE} {cl : CL}
theorem jBk (hK : G.K = X.K) (g : Same G X) (hu : X.A.units + 64 < cLine) (ha : SE X G W Φ a ca) (hb : SE X G W Φ b cb) (hs : PlainIx b := by intro _ _; rfl) : SE X G W Φ (.Subscript a b pos) (cOp2 oIxA ca cb) :=
 (pe_ix (ixr_A hK g hu) ha hb hs).weak fun σQ H Q x => to_o2 x
def rSetA (G : Gi) : TSet := fun o i v H Q => rSetL o i v H Q ∨ ∃ p, o = .ref p ∧ ∀ u, RelV v u → ∃ H', DPw G H p i u H' ∧ Q H'
theorem set_A (g : Same G X) (hu : X.A.units + 64 < cLine) : PSet X (rSetA G) := fun pins s σQ H o i v ov ivQ u Q I ro ri rv h => by
 rcases h with h | ⟨p, rfl, h⟩
 ·exact set_list pins s σQ H o i v ov ivQ u Q I ro ri rv h
 ·cases ro
  obtain ⟨H', d, q⟩ := h u rv
  exact jIn g hu I d ri fun s' I' => ⟨H', I', q⟩
theorem jHX {ρ : List Addr} {H : Hp} {h : EH} {k v : Nat} {l : List (P × D)} {zQ : Addr} {id d : D} {i w : V} (S : Sim G ρ h H) (eQ : atR ρ k = some zQ) (x : OR G ρ H (.dic v l) zQ) (ri : DR G ρ H id i) (rd : DR G ρ H d w) :
  (∀ (α : Type) (y : EH → α) (n : α), keyOf id (fun p j => bB (Bool.and (okW v l j) (jAG l)) (y (h.put k (.dic j (dPut p d l)))) n) n = n) ∨
  ∃ p j, okW v l j = true ∧ jAG l = true ∧ (∀ (α : Type) (y : EH → α) (n : α), keyOf id (fun p j => bB (Bool.and (okW v l j) (jAG l)) (y (h.put k (.dic j (dPut p d l)))) n) n = y (h.put k (.dic j (dPut p d l)))) ∧
   ∀ u, RelV w u → ∃ H', DPw G H zQ i u H' ∧ Sim G ρ (h.put k (.dic j (dPut p d l))) H' ∧ Ext G ρ ρ H H' := by
 have size : jAG l = true → (dPut (.non) (.p .non) l).length ≤ sizeLine → True := fun _ _ => True.intro
 have le : ∀ p, jAG l = true → (dPut p d l).length ≤ sizeLine := fun p zQ => by
  have h1 := jGP zQ
  have h2 := jIx p d l
  rw [sizeLine_eq]; omega
 rcases jE2 ri with q | ⟨p, rfl, rp, ⟨hpQ, q⟩ | ⟨hpQ, q⟩⟩
 ·exact .inl fun α y n => q α _ n
 ·cases w0 : Bool.and (okW v l 0) (jAG l) with
  | false => exact .inl fun α y n => by rw [q, w0]; rfl
  | true =>
   obtain ⟨w1, w2⟩ := jEd w0
   refine .inr ⟨p, 0, w1, w2, fun α y n => by rw [q, w0]; rfl, fun u ru => ?_⟩
   obtain ⟨vs, hzQ, pr, nd⟩ := wr0 x (okW_or w1)
   obtain ⟨kk, hk⟩ := jIv hpQ
   have hl : vs.length < sizeLine := by have := Paired.length pr; rw [← this]; exact jAL w2
   refine ⟨_, .inl ⟨vs, kk, hzQ, fun u ru => jHg hk rp ru, hl, rfl⟩, S.setO eQ (fun o u zQ => by rw [hzQ] at zQ; cases zQ) fun E => .d0 upd_same (put0 hk (rp.mono E.tup) ru (rd.mono E) (L2.Paired.mapP pr fun _ _ h => h.mono E) nd) ⟨le p w2, nd_put0 nd⟩⟩
 ·cases w0 : Bool.and (okW v l 1) (jAG l) with
  | false => exact .inl fun α y n => by rw [q, w0]; rfl
  | true =>
   obtain ⟨w1, w2⟩ := jEd w0
   refine .inr ⟨p, 1, w1, w2, fun α y n => by rw [q, w0]; rfl, fun u ru => ?_⟩
   obtain ⟨xs, hzQ, pr, nd⟩ := wr1 x (okW_or w1)
   have ⟨b, hb⟩ : ∃ b, i = .ref b := by
    cases rp with
    | tup => exact ⟨_, rfl⟩
    | _ => cases hpQ
   subst hb
   have hl : xs.length < sizeLine := by have := Paired.length pr; rw [← this]; exact jAL w2
   refine ⟨_, .inr ⟨xs, keyP p, b, hzQ, rfl, ⟨p, rp, rfl, hpQ⟩, keysT (xs := []) pr, hl, rfl⟩, S.setO eQ (fun o u zQ => by rw [hzQ] at zQ; cases zQ) fun E => .d1 upd_same (put1 hpQ (rp.mono E.tup) ru (rd.mono E) (L2.Paired.mapP pr fun _ _ h => h.mono E) nd) ⟨le p w2, nd_put1 nd⟩⟩
theorem jED (g : Same G X) (hu : X.A.units + 64 < cLine) (he : SE X G W Φ eQ ca) (hoQ : SE X G W Φ a cb) (hi : SE X G W Φ b cc) (hs : swapsWithSole [.Subscript a b p2] eQ pos.line X.env = pure false := by rfl) (hw : swappedStores [.Subscript a b p2] eQ X.env = pure none := by rfl)
  (h1 : (assignEach [.Subscript a b p2] X.env).map (·.2) = [assign (.Subscript a b p2) X.env] := by rfl)
  (hb : ∀ v, assign (.Subscript a b p2) X.env v = (do
   let ov ← holding [v] (eval a X.env)
   let ivQ ← holding [v, ov] (eval b X.env)
   standAt p2
   holding [v, ov, ivQ] (setItem ov ivQ v)
   release [v, ov, ivQ] []) := by intro _; rfl) : SS X G W Φ (.Assign [.Subscript a b p2] eQ pos) (jDO cb cc ca) :=
 (ps_asg he (pg_sub hoQ hi (set_A g hu) hb) hs hw h1).weak fun D σQ H ⟨ρ, σd, h, en, S, x⟩ => ⟨ρ, σd, h, en, S, (wE.bindS en x).imp fun v H1 ⟨ρ1, d, h1, E1, S1, r1, x1⟩ => by
  rw [jBs] at x1
  have en1 := en.mono E1
  refine ⟨ρ1, σd, h1, en1, S1, (wE.bindS en1 x1).imp fun o H2 ⟨ρ2, od, h2, E2, S2, r2, x2⟩ => ?_⟩
  have en2 := en1.mono E2
  refine ⟨ρ2, σd, h2, en2, S2, (wE.bindS en2 x2).imp fun i H3 ⟨ρ3, id, h3, E3, S3, r3, x3⟩ => ?_⟩
  have r2' := r2.mono E3
  have r1' := (r1.mono E2).mono E3
  have x3 : wS G W ρ3 H3 (putD h3 od id d (fun h => .nx σd h) .bad) D := x3
  unfold putD at x3
  rcases jAP S3 r2' with zQ | ⟨k, q, v', l, rfl, rfl, e1, _, xx, zQ⟩
  ·rw [zQ] at x3
   cases r2' with
   | p => exact x3.elim
   | mt => exact x3.elim
   | @ref k a e1 =>
    have x3 : wS G W ρ3 H3 (jAw h3 k (fun l => jAI id (fun j => Option.rec (motive := fun _ => RS) .bad (fun m => .nx σd (h3.put k (.lst (setN l m d)))) (ixD l j)) .bad) .bad) D := x3
    rcases jAu S3 e1 with zQ | ⟨l, vs, hl, rl, _, zQ⟩
    ·rw [zQ] at x3; exact x3.elim
    ·rw [zQ] at x3
     rcases jAp r3 with q | ⟨j, rfl, rfl⟩
     ·rw [q] at x3; exact x3.elim
     ·have x3 : wS G W ρ3 H3 (Option.rec (motive := fun _ => RS) .bad (fun m => .nx σd (h3.put k (.lst (setN l m d)))) (ixD l j)) D := x3
      rw [ixD_eq] at x3
      cases q : L2.ixN l.length j with
      | none => rw [q] at x3; exact x3.elim
      | some m =>
       rw [q] at x3
       refine .inl ⟨a, vs, j, m, rfl, rfl, hl, by rw [← rl.length]; exact q, ?_⟩
       have x3 : wS G W ρ3 H3 (.nx σd (h3.put k (.lst (setN l m d)))) D := x3
       rw [jBC] at x3
       obtain ⟨S4, E4⟩ := S3.setL e1 hl (rl.set r1' m)
       exact x3 ρ3 _ _ E4 S4 ((en2.mono E3).mono E4)
  ·rw [zQ] at x3
   rcases jHX S3 e1 xx r3 r1' with w | ⟨p, j, _, _, w, f⟩
   ·rw [w] at x3; exact x3.elim
   ·rw [w] at x3
    refine .inr ⟨q, rfl, fun u ru => ?_⟩
    obtain ⟨H', d1, S4, E4⟩ := f u ru
    exact ⟨H', d1, x3 ρ3 H' σQ E4 S4 ((en2.mono E3).mono E4)⟩⟩
end
end Mi

namespace Mi
open PySem PySem.Spec L2
open PyProof.Rows hiding St
section
variable {X : Cx} {G : Gi} {W : WX} {Φ : Ph} {pos p2 p3 : Pos} {a b eQ o : Expr} {es : List Expr} {ca cb cc : CE} {cl : CL}
theorem jHG (g : Same G X) : CallR X (.builtin "len") (fun xs H Q => ∃ a n, xs = [.ref a] ∧ ((∃ vs, Rd H a (.ext (D0 G.pg G.w a vs)) ∧ n = vs.length ∧ n ≤ sizeLine) ∨ ∃ ents, Rd H a (.ext (D1 G.pg G.w a ents)) ∧ n = ents.length ∧ n ≤ sizeLine) ∧ Q (.int (n : Nat)) H) := by
 intro pins s σQ H xs us Q I r h
 obtain ⟨a, n, rfl, h, q⟩ := h
 cases r with
 | cons r1 r2 =>
  cases r2; cases r1
  have hs := sizeLine_eq
  have raw : (a == sysModules) = false ∧ ∃ es ep, s.heap.DictRaw a es ep ∧ es.size = n ∧ n ≤ sizeLine := by
   rcases h with ⟨vs, r, rfl, zQ⟩ | ⟨ents, r, rfl, zQ⟩
   ·obtain ⟨es, ep, hr, eQ, _⟩ := (rd0 g I r).2.raw
    exact ⟨(rd0 g I r).1, es, ep, hr, eQ, zQ⟩
   ·obtain ⟨z0, o, es, ep, e1, e2, e3, e4, _⟩ := rd1 g I r
    exact ⟨z0, es, ep, ⟨o, e1, e2, e3⟩, by rw [← Array.length_toList, e4, List.length_map], zQ⟩
  obtain ⟨z0, es, ep, hr, eQ, zQ⟩ := raw
  refine call_len_slot (n := (n : Int)) hr.typeIs PySem.F.slot_dict_len (fun Q' hq => call_len_raw z0 hr (by rw [eQ]; exact hq)) (by omega) (by omega) ⟨.int n, H, I.tok _, ⟨_, rfl⟩, q⟩
theorem jCm (hK : G.K = X.K) (g : Same G X) : CallR X (.builtin "len") (rC1 G jBP) := jAY (jD7 (cr_len hK) (jHG g)) fun xs H Q ⟨x, ρ, d, h, eQ, S, r, w⟩ => by
 subst eQ
 rcases jAP S r with zQ | ⟨k, a, v, l, rfl, rfl, _, _, xx, zQ⟩
 ·exact .inl ⟨x, ρ, d, h, rfl, S, r, by unfold jBP at w; rw [zQ] at w; exact w⟩
 ·unfold jBP at w
  rw [zQ] at w
  have q := wV.nat S w
  rw [jAx] at q
  refine .inr ⟨a, l.length, rfl, ?_, q⟩
  cases xx with
  | d0 eQ r zQ => exact .inl ⟨_, .inl eQ, Paired.length r, zQ.1⟩
  | l0 eQ r zQ => exact .inl ⟨_, .inr ⟨_, eQ⟩, Paired.length r, zQ.1⟩
  | d1 eQ r zQ => exact .inr ⟨_, .inl eQ, Paired.length r, zQ.1⟩
  | l1 eQ r zQ => exact .inr ⟨_, .inr ⟨_, eQ⟩, Paired.length r, zQ.1⟩
end
end Mi

namespace Mi
open PySem PySem.Spec L2
open PyProof.Rows hiding St
abbrev Uc := Sum (List (Leaf × Value)) (List (NestedKey × Addr × Value))
def uOf (G : Gi) (a : Addr) : Uc → HO
 | .inl vs => .ext (D0 G.pg G.w a vs)
 | .inr xs => .ext (D1 G.pg G.w a xs)
def entOf (G : Gi) : Uc → Array DictEntry → Prop
 | .inl vs, es => Pairs (lf0 G.pg G.w) es.toList vs
 | .inr xs, es => es.toList = xs.map (entryOfKey (nestedKind G.pg G.w))
theorem uOf_mut {G : Gi} {a : Addr} (cQ : Uc) : Mut (some (uOf G a cQ)) := by cases cQ <;> exact True.intro
theorem uOf_frz {G : Gi} {a : Addr} (cQ : Uc) : ∀ o u, uOf G a cQ ≠ .frz o u := fun o u => by cases cQ <;> exact fun zQ => nomatch zQ
def LockR (G : Gi) (H : Hp) (a : Addr) (k : Obj → HO → Array DictEntry → Hp → Prop) : Prop :=
 ∃ cQ, (H a = some (uOf G a cQ) ∧ ∀ o es ep, o.ExactDict → o.data = .dict es ep → entOf G cQ es → Told2 es ∧ k o (uOf G a cQ) es (upd H a (.frz o (uOf G a cQ)))) ∨
  ∃ o, H a = some (.frz o (uOf G a cQ)) ∧ ∀ es ep, o.ExactDict → o.data = .dict es ep → entOf G cQ es → Told2 es ∧ k o (uOf G a cQ) es H
section
variable {X : Cx} {G : Gi} {W : WX} {Φ : Ph} {pos p2 tpos : Pos} {tg eQ : Expr} {elts : List Expr} {kk : Nat} {ca : CE}
theorem jIF {pins : List (Addr × Obj)} {σQ : St} {H : Hp} {s : Shared} {a : Addr} {o : Obj} {cQ : Uc} (g : Same G X) (I : Inv X pins σQ H s) (h : H a = some (.frz o (uOf G a cQ))) : (a == sysModules) = false ∧ s.heap.get? a = some o ∧ o.ExactDict ∧ ∃ es ep, o.data = .dict es ep ∧ entOf G cQ es := by
 have hoQ : s.heap.get? a = some o := (I.hok a _ h).1
 cases cQ with
 | inl vs =>
  obtain ⟨zQ, o', es, ep, eQ, x, d, _, p, _⟩ := rd0 g I (.inr ⟨o, h⟩)
  rw [hoQ] at eQ; cases eQ
  exact ⟨zQ, hoQ, x, es, ep, d, by show Pairs (lf0 G.pg G.w) _ _; rw [g.pg, g.w]; exact p⟩
 | inr xs =>
  obtain ⟨zQ, o', es, ep, eQ, x, d, p, _⟩ := rd1 g I (.inr ⟨o, h⟩)
  rw [hoQ] at eQ; cases eQ
  exact ⟨zQ, hoQ, x, es, ep, d, by show es.toList = xs.map (entryOfKey (nestedKind G.pg G.w)); rw [g.pg, g.w]; exact p⟩
theorem LockR.go {pins : List (Addr × Obj)} {σQ : St} {H : Hp} {s : Shared} {a : Addr} {k : Obj → HO → Array DictEntry → Hp → Prop} (g : Same G X) (I : Inv X pins σQ H s) (h : LockR G H a k) :
  ∃ o u es ep H', Inv X pins σQ H' s ∧ H' a = some (.frz o u) ∧ (a == sysModules) = false ∧ s.heap.get? a = some o ∧ o.ExactDict ∧ o.data = .dict es ep ∧ Told2 es ∧ k o u es H' := by
 obtain ⟨cQ, ⟨h, f⟩ | ⟨o, h, f⟩⟩ := h
 ·obtain ⟨od, I2⟩ := I.lock h (uOf_mut cQ)
  have h2 : upd H a (.frz od (uOf G a cQ)) a = some (.frz od (uOf G a cQ)) := upd_same
  obtain ⟨zQ, hoQ, x, es, ep, d, en⟩ := jIF g I2 h2
  obtain ⟨t, q⟩ := f od es ep x d en
  exact ⟨od, _, es, ep, _, I2, h2, zQ, hoQ, x, d, t, q⟩
 ·obtain ⟨zQ, hoQ, x, es, ep, d, en⟩ := jIF g I h
  obtain ⟨t, q⟩ := f es ep x d en
  exact ⟨o, _, es, ep, H, I, h, zQ, hoQ, x, d, t, q⟩
def iAnyA (G : Gi) (K : PySem.W.Frag) (tl : TE) : TI := fun σQ H R => tl σQ H fun x H1 => ∃ a, x = .ref a ∧ (((∃ xs, SqL K H1 a xs) ∧ R (Itl K a) H1) ∨ ((∃ xs, SqT K H1 a xs) ∧ R (Itt K a) H1) ∨ LockR G H1 a fun o u es H2 => R (ItDk a o u es) H2)
theorem pi_anyA {tl : TE} (g : Same G X) (hl : PE X eQ tl) : PI X tg eQ (iAnyA G X.K tl) := by
 refine ⟨fun pins s σQ H R I h => ?_⟩
 refine thn (hl.run pins s σQ H _ I h) fun v s1Q ⟨x, H1, I1Q, r1, a, ex, q⟩ => ?_
 subst ex
 cases r1
 rcases q with ⟨⟨xs, hq⟩, q⟩ | ⟨⟨xs, hq⟩, q⟩ | q
 ·obtain ⟨its, rv, p, hzQ⟩ := I1Q.list hq
  exact wpAny_pyIter_list p.isList (pi_one (tk := s1Q.toks) I1Q _ (turn_list a _) ⟨_, Heap.get?_push_size _ rfl, rfl, rfl⟩ q)
 ·obtain ⟨its, rv, p, hzQ⟩ := I1Q.tuple hq
  exact wpAny_pyIter_tuple (show s1Q.heap.IsTuple a its.toArray from p) (pi_one (tk := s1Q.toks) I1Q _ (turn_tuple a _) ⟨_, Heap.get?_push_size _ rfl, rfl, rfl⟩ q)
 ·obtain ⟨o, u, es, ep, H2, I2, h2, zQ, hoQ, x, d, t, q⟩ := q.go g I1Q
  exact iter_keys zQ hoQ x d (pi_one (tk := s1Q.toks) I2 _ (turn_dk _ x d t) ⟨_, Heap.get?_push_size _ rfl, rfl, rfl⟩ q)
theorem leaf_rel {H : Hp} {x : P} {k : Leaf} {v : V} {u : Value} (h1 : jDS x = some k) (h2 : PR G H x v) (k1 : lfIs k u = true) : RelV v u := by
 have k3 := jBQ k1
 cases h2 with
 | non =>
  cases h1
  cases u <;> first | rfl | cases k3
 | int i =>
  cases h1
  cases u <;> first | exact ⟨_, by rw [show _ = i from of_decide_eq_true k3]⟩ | cases k3 | (unfold lfIs at k1; rw [Bool.and_false] at k1; cases k1)
 | str s =>
  cases h1
  obtain ⟨t, q⟩ := Value.isStrOf_shape (show Value.isStrOf (sV s) u = true from k3)
  exact ⟨t, q⟩
 | bl => cases h1
 | tup => cases h1
 | fn => cases h1
theorem ent0 {ρ : List Addr} {H : Hp} {l : List (P × D)} {vs : List (Leaf × Value)} {es : List DictEntry} (r : Paired (R0Q G ρ H) l vs) (q : Pairs (lf0 G.pg G.w) es vs) : Paired (DEnt G ρ H) l es := by
 induction r generalizing es with
 | nil => cases q; exact .nil
 | @cons p kv l vs a t ih =>
  obtain ⟨h1, ⟨v, h2⟩, u, h3, h4⟩ := a
  cases q with
  | @cons eQ _ es _ k1 k2 r =>
  refine .cons ⟨⟨v, ?_, h2⟩, u, by rw [k2]; exact h3, h4⟩ (ih r)
  have k1 : lfIs kv.1 eQ.key = true := k1
  have k3 := jBQ k1
  exact leaf_rel h1 h2 k1
theorem ent1 {ρ : List Addr} {H : Hp} : ∀ {l : List (P × D)} {xs : List (NestedKey × Addr × Value)}, Paired (R1 G ρ H) l xs → Paired (DEnt G ρ H) l (xs.map (entryOfKey (nestedKind G.pg G.w)))
 | _, _, .nil => .nil
 | _, _, .cons ⟨h1, h2, h5, u, h3, h4⟩ t => .cons ⟨⟨.ref _, rfl, h5⟩, u, h3, h4⟩ (ent1 t)
theorem jHo {ρ : List Addr} {H : Hp} {l : List (P × D)} {es : Array DictEntry} (r : Paired (DEnt G ρ H) l es.toList) : Told2 es := fun i hi => by
 have go : ∀ {l : List (P × D)} {es : List DictEntry}, Paired (DEnt G ρ H) l es → ∀ eQ ∈ es, (∃ k, RelV k eQ.key) ∧ ∃ v, RelV v eQ.val := fun {l es} r => by
  induction r with
  | nil => intro eQ h; cases h
  | cons a b ih =>
   intro eQ h
   rcases List.mem_cons.mp h with zQ | zQ
   ·subst zQ; obtain ⟨⟨k, k1, _⟩, v, v1, _⟩ := a; exact ⟨⟨k, k1⟩, v, v1⟩
   ·exact ih eQ zQ
 exact go r _ (by simp)
theorem lock_of {ρ : List Addr} {H : Hp} {h : EH} {k v m : Nat} {a : Addr} {l : List (P × D)} {R : L2.It → Hp → Prop} {σQ : St} {J : Obj → HO → Array DictEntry → L2.It} (S : Sim G ρ h H) (eQ : atR ρ k = some a) (x : OR G ρ H (.dic v l) a) (w : wI G W ρ H σQ (iDicT m k v l h) R)
  (hJ : ∀ {ρ' : List Addr} {H' : Hp} {lk : Bool} {o : Obj} {u : HO} {es : Array DictEntry}, H' a = some (.frz o u) → (lk = true → ∃ b, atR ρ' k = some b) → Paired (DEnt G ρ' H') l es.toList → Wk G ρ' H' (J o u es) 0 (.dic m k lk l)) : LockR G H a fun o u es H2 => R (J o u es) H2 := by
 unfold iDicT at w
 have main : ∀ cQ : Uc, (∀ es, entOf G cQ es → Paired (DEnt G ρ H) l es.toList) → ((v < 2 ∧ H a = some (uOf G a cQ) ∧ ∀ o, Ext G ρ ρ H (upd H a (.frz o (uOf G a cQ))) → OR G ρ (upd H a (.frz o (uOf G a cQ))) (.dic (v + 2) l) a) ∨ (2 ≤ v ∧ ∃ o, H a = some (.frz o (uOf G a cQ)))) → LockR G H a fun o u es H2 => R (J o u es) H2 := fun cc en cQ => by
  rcases cQ with ⟨lt, hu, ok⟩ | ⟨ge, o, hu⟩
  ·have b : Nat.blt v 2 = true := Nat.ble_eq_true_of_le lt
   rw [b] at w
   have w : wI G W ρ H σQ (.ok (.dic m k true l) (h.put k (.dic (v + 2) l))) R := w
   refine ⟨cc, .inl ⟨hu, fun o es ep hxQ hd he => ⟨jHo (en es he), ?_⟩⟩⟩
   have nf : ∀ o' u', H a ≠ some (.frz o' u') := fun o' u' zQ => by
    rw [hu] at zQ; exact uOf_frz cc _ _ (Option.some.inj zQ)
   obtain ⟨S2, E2⟩ := S.setO (o := .dic (v + 2) l) (u := .frz o (uOf G a cc)) eQ nf (ok o)
   refine w ρ _ _ E2 S2 (hJ upd_same (fun _ => ⟨a, eQ⟩) (L2.Paired.mapP (en es he) fun _ _ zQ => zQ.mono E2)) fun m' k' l' a' q ea o' u' zQ => ?_
   cases q
   rw [eQ] at ea; cases ea
   exact nf _ _ zQ
  ·have b : Nat.blt v 2 = false := by
    cases q : Nat.blt v 2 with
    | false => rfl
    | true => have := Nat.le_of_ble_eq_true q; omega
   rw [b] at w
   have w : wI G W ρ H σQ (.ok (.dic m k false l) h) R := w
   exact ⟨cc, .inr ⟨o, hu, fun es ep hxQ hd he => ⟨jHo (en es he), w ρ H _ (.refl S) S (hJ hu (fun zQ => nomatch zQ) (en es he)) (.not fun _ _ _ zQ => nomatch zQ)⟩⟩⟩
 have m0 : ∀ {E0 : Hp} {vs : List (Leaf × Value)}, Ext G ρ ρ H E0 → Paired (R0Q G ρ H) l vs → Paired (R0Q G ρ E0) l vs := fun E r => L2.Paired.mapP r fun _ _ zQ => zQ.mono E
 have m1 : ∀ {E0 : Hp} {vs : List (NestedKey × Addr × Value)}, Ext G ρ ρ H E0 → Paired (R1 G ρ H) l vs → Paired (R1 G ρ E0) l vs := fun E r => L2.Paired.mapP r fun _ _ zQ => zQ.mono E
 have n1 : ∀ {xs : List (NestedKey × Addr × Value)} {es : Array DictEntry}, Paired (R1 G ρ H) l xs → entOf G (.inr xs) es → Paired (DEnt G ρ H) l es.toList := fun r en => by
  have en : _ = _ := en
  rw [en]; exact ent1 r
 cases x with
 | @d0 _ _ vs e0 r zQ => exact main (.inl vs) (fun es en => ent0 r en) (.inl ⟨by decide, e0, fun o E => .l0 upd_same (m0 E r) zQ⟩)
 | @d1 _ _ xs e0 r zQ => exact main (.inr xs) (fun es en => n1 r en) (.inl ⟨by decide, e0, fun o E => .l1 upd_same (m1 E r) zQ⟩)
 | @l0 _ _ o vs e0 r zQ => exact main (.inl vs) (fun es en => ent0 r en) (.inr ⟨by decide, o, e0⟩)
 | @l1 _ _ o xs e0 r zQ => exact main (.inr xs) (fun es en => n1 r en) (.inr ⟨by decide, o, e0⟩)
theorem jC5 (hK : G.K = X.K) (g : Same G X) (ha : SE X G W Φ eQ ca) : SI X G W Φ tg eQ (jEl ca) :=
 (pi_anyA g ha).weak fun σQ H R ⟨ρ, σd, h, en, S, x⟩ => ⟨ρ, σd, h, en, S, (wE.bindI x).imp fun v H1 ⟨ρ1, d, h1, E1, S1, r, x1⟩ => by
  rcases jAP S1 r with zQ | ⟨k, a, w, l, rfl, rfl, ea, _, xx, zQ⟩
  ·rw [zQ] at x1
   rcases jFn S1 r with zQ | ⟨l, a, vs, rfl, sq, rl, zQ⟩ | ⟨k, a, l, vs, rfl, eQ, sq, rl, _, zQ⟩
   ·rw [zQ] at x1; exact x1.elim
   ·rw [zQ] at x1
    refine ⟨a, rfl, .inr (.inl ⟨⟨vs, by rw [← hK]; exact sq⟩, ?_⟩)⟩
    rw [← hK]
    exact x1 ρ1 H1 _ (.refl S1) S1 (.seq sq rl) (.not fun _ _ _ zQ => nomatch zQ)
   ·rw [zQ] at x1
    refine ⟨a, rfl, .inl ⟨⟨vs, by rw [← hK]; exact sq⟩, ?_⟩⟩
    rw [← hK]
    exact x1 ρ1 H1 _ (.refl S1) S1 (.lst eQ) (.not fun _ _ _ zQ => nomatch zQ)
  ·rw [zQ] at x1
   exact ⟨a, rfl, .inr (.inr (lock_of (J := fun o u es => ItDk a o u es) S1 ea xx x1 fun h1 h2 h3 => .dk h1 h2 h3))⟩⟩
end
end Mi

namespace Mi
open PySem PySem.Spec L2
open PyProof.Rows hiding St
end Mi

namespace Mi
open PySem PySem.Spec L2
open PyProof.Rows hiding St
end Mi

namespace Mi
open PySem PySem.Spec L2
open PyProof.Rows hiding St
end Mi

namespace Mi
open PySem PySem.Spec L2
open PyProof.Rows hiding St
section
variable {X : Cx} {G G' : Gi} {W : WX} {Φ : Ph} {pos p2 p3 : Pos} {eQ : Expr} {ca : CE} {cQ : Nat} {x : P} {cls : Value} {d : Option Addr} {a D : Addr} {oeQ : Obj} {pn : List (Addr × Obj)}
def rIs2 (K : PySem.W.Frag) (D a : Addr) (d : Option Addr) : List V → Hp → VK → Prop := fun xs H Q => ∃ (t : V) (tv : Value) (b : Bool), xs = [.ref a, t] ∧ (∀ u, RelV t u → u = tv) ∧ PySem.W.kitOne K (.ref D) tv = some b ∧ (∀ zQ, d = some zQ → ∃ fs, H zQ = some (.xd fs)) ∧ Q (.bl b) H
theorem call_is2 (T : ExcC X.K D) (hzQ : Zc (.ref D) d oeQ) (hf : ∃ vs, oeQ.data = .fields vs) : CallR (X.suite a ((a, oeQ) :: pn)) (.builtin "isinstance") (rIs2 X.K D a d) := by
 intro pins s σQ H xs us Q I r h
 obtain ⟨t, tv, b, rfl, ht, hk, hd, q⟩ := h
 cases r with
 | cons r1 r2 => cases r2 with
  | cons r3 r4 =>
   cases r4; cases r1
   have := ht _ r3
   subst this
   obtain ⟨at_, _⟩ := I.pin (a, oeQ) (List.mem_append_left _ List.mem_cons_self)
   obtain ⟨vs, hv⟩ := hf
   obtain ⟨z1, z2⟩ := hzQ
   have inst : ∃ od, PySem.W.InstAt s.heap a oeQ D od := by
    obtain ⟨oc, od, dt, osl⟩ := oeQ
    dsimp only at z1 z2 hv
    subst z1 hv
    cases d with
    | none => subst z2; exact ⟨none, at_, rfl, rfl, trivial⟩
    | some zQ =>
     subst z2
     obtain ⟨fs, hxQ⟩ := hd zQ rfl
     obtain ⟨mA, ⟨o, _, _, hoQ, _⟩, _⟩ : ∃ mA, s.heap.Ns1 zQ mA ∧ ∀ f, RelO (fs.lookup f) (mA f) := I.hok zQ _ hxQ
     exact ⟨some o, at_, rfl, rfl, hoQ⟩
   obtain ⟨od, J⟩ := inst
   have cl : (PySem.W.clsIn X.K D).isSome = true := by
    obtain ⟨cd, hc, _⟩ := PySem.W.any_some T.hd
    rw [hc]; rfl
   exact PySem.W.kia_one (PySem.W.kitx_exc cl T.hg T.hk T.hs T.ha T.hn T.ht T.hm) I.kIn J hk (fun zQ => nomatch zQ) fun tk => ⟨.bl b, H, I.kept (t' := tk) fun _ _ zQ => zQ, rfl, q⟩
theorem se_isE2 {T : String} {y : Str} {r : Bool} (g : SuG G cQ x cls d a G') (hzQ : Zc cls d oeQ) (hf : ∃ vs, oeQ.data = .fields vs) (hxQ : ∀ C, G.ca cQ = some C → ExcC X.K C ∧ PySem.W.kitOne X.K (.ref C) (.type T) = some r)
  (hg : Gl X "isinstance") (hm : X.mg "isinstance" = none) (hgT : Gl X y) (hmT : X.mg y = none) (hv : bootBuiltins y = some (.type T)) (he : SE (X.suite a ((a, oeQ) :: pn)) G' W Φ eQ ca)
  (hn1 : y ≠ "__name__" := by decide) (hdb : (y == ("__debug__" : Str)) = false := by decide)
  (hs : starEach [eQ, .Name y p3] X.env = (false, eval eQ X.env) :: starEach [.Name y p3] X.env := by rfl) (hpl : (backTo pos (starEach [.Name y p3] X.env)).any (·.1) = false := by rfl) :
  SE (X.suite a ((a, oeQ) :: pn)) G' W Φ (.Call (.Name "isinstance" p2) [eQ, .Name y p3] [] pos) (cOfH true ca (.bl r)) := by
 obtain ⟨C, hC, ec⟩ := g.cl
 subst ec
 obtain ⟨T1, kt⟩ := hxQ C hC
 refine (pe_callB (call_is2 (d := d) T1 hzQ hf) hg hm PyProof.Rows.boot_isinstance (pa_cons he (pa_cons (pe_bltn (v := .ty T) hgT hmT hv rfl hn1 hdb) pa_nil) hs) (hpl := hpl) (he := hs)).weak fun σQ H Q ⟨ρ, σd, h, en, S, w⟩ => ⟨ρ, σd, h, en, S, (ofH w).imp fun v H1 ⟨_, ρ1, h1, a', E1, S1, ev, fa, w1⟩ => ?_⟩
 rw [g.at'] at fa
 cases fa
 refine ⟨.ty T, .type T, r, by rw [ev], fun u q => q, kt, fun zQ hd => ?_, w1 ρ1 H1 _ (.refl S1) S1 (.p (.bl r))⟩
 cases q : G.fld cQ with
 | none => rw [g.nd q] at hd; cases hd
 | some f =>
  obtain ⟨dd, u, h2, hpQ, _⟩ := g.fl f q
  rw [h2] at hd
  cases hd
  exact ⟨_, (S1.pin _ hpQ).1⟩
end
end Mi

namespace Mi
open PySem PySem.Spec L2
open PyProof.Rows hiding St
theorem jG8 {α : Type} {f : α → Bool} : ∀ {l : List α}, allL f l = true → ∀ x ∈ l, f x = true
 | a :: l, h, x, hxQ => by
  have h : bB (f a) (allL f l) false = true := h
  cases q : f a with
  | false => rw [q] at h; cases h
  | true =>
   rw [q] at h
   rcases List.mem_cons.mp hxQ with zQ | zQ
   ·rw [zQ]; exact q
   ·exact jG8 h x zQ
mutual
theorem tkP_eq : ∀ x : P, tkP x = PySem.W.keyToks (pyP x)
 | .non => by simp only [pyP, PySem.W.keyToks]; rfl
 | .bl b => by simp only [pyP, PySem.W.keyToks]; cases b <;> rfl
 | .int i => by simp only [pyP, PySem.W.keyToks]; rfl
 | .str s => by simp only [pyP, PySem.W.keyToks]; rfl
 | .tup _ l => by simp only [pyP, PySem.W.keyToks]; exact jHM l
 | .fn _ => by simp only [pyP, PySem.W.keyToks]; rfl
theorem jHM : ∀ l : List P, (P.rec_1 (motive_1 := fun _ => List Sk) (motive_2 := fun _ => List Sk) [] (fun b => [.inl (bI b)]) (fun i => [.inl i]) (fun s => [.inr s]) (fun _ _ ih => ih) (fun _ => []) [.inl (.ofNat 0)] (fun _ _ a b => .inl (.ofNat 1) :: app a b) l : List Sk) = PySem.W.keyToksAll (pyPs l)
 | [] => by simp only [pyPs, PySem.W.keyToksAll]; rfl
 | x :: l => by
  simp only [pyPs, PySem.W.keyToksAll]
  have e1 := tkP_eq x
  have e2 := jHM l
  show Sum.inl (Int.ofNat 1) :: app (tkP x) _ = _
  rw [jB8, e1, e2]
  rfl
end
theorem ltS_eq (a b : Sk) : ltS a b = PyProof.Rows.itemLt a b := by
 cases a with
 | inl i => cases b with
  | inl j => exact jF9 i j
  | inr t => rfl
 | inr s => cases b with
  | inl j => rfl
  | inr t => exact jEw s t
theorem lxS_eq : ∀ l m : List Sk, lxS l m = PyProof.Rows.lexLt PyProof.Rows.itemOrd l m
 | [], [] => rfl
 | [], _ :: _ => rfl
 | _ :: _, [] => rfl
 | x :: l, y :: m => by
  show bB (ltS x y) true (bB (ltS y x) false (lxS l m)) = (PyProof.Rows.itemOrd.blt x y || (!PyProof.Rows.itemOrd.blt y x && PyProof.Rows.lexLt PyProof.Rows.itemOrd l m))
  rw [ltS_eq, ltS_eq, lxS_eq l m]
  show bB (PyProof.Rows.itemLt x y) true (bB (PyProof.Rows.itemLt y x) false _) = (PyProof.Rows.itemLt x y || (!PyProof.Rows.itemLt y x && _))
  cases PyProof.Rows.itemLt x y <;> cases PyProof.Rows.itemLt y x <;> rfl
mutual
theorem jGa : ∀ x y : P, alk x y = true → PySem.W.alike (pyP x) (pyP y) = true
 | .non, y, h => by
  have h : jCk y = true := h
  cases y with
  | non => simp only [pyP, PySem.W.alike]
  | _ => cases h
 | .bl _, y, h => by
  cases y with
  | bl => simp only [pyP, PySem.W.alike]
  | _ => cases h
 | .int _, y, h => by
  cases y with
  | int => simp only [pyP, PySem.W.alike]
  | _ => cases h
 | .str _, y, h => by
  cases y with
  | str => simp only [pyP, PySem.W.alike]
  | _ => cases h
 | .tup _ l, y, h => by
  cases y with
  | tup _ m => simp only [pyP, PySem.W.alike]; exact jJd l m h
  | _ => cases h
 | .fn _, _, h => nomatch (show false = true from h)
theorem jJd : ∀ l m : List P, (P.rec_1 (motive_1 := fun _ => P → Bool) (motive_2 := fun _ => List P → Bool) (fun y => jCk y) (fun _ y => P.cs y false (fun _ => true) (fun _ => false) (fun _ => false) (fun _ _ => false) (fun _ => false))
 (fun _ y => P.cs y false (fun _ => false) (fun _ => true) (fun _ => false) (fun _ _ => false) (fun _ => false)) (fun _ y => P.cs y false (fun _ => false) (fun _ => false) (fun _ => true) (fun _ _ => false) (fun _ => false))
 (fun _ _ ih y => P.cs y false (fun _ => false) (fun _ => false) (fun _ => false) (fun _ m => ih m) (fun _ => false)) (fun _ _ => false) (fun _ => true) (fun _ _ a b m => List.rec (motive := fun _ => Bool) true (fun y r _ => bB (a y) (b r) false) m) l m : Bool) = true → PySem.W.alikeAll (pyPs l) (pyPs m) = true
 | [], m, _ => by simp only [pyPs, PySem.W.alikeAll]
 | x :: l, [], _ => by simp only [pyPs, PySem.W.alikeAll]
 | x :: l, y :: m, h => by
  simp only [pyPs, PySem.W.alikeAll]
  have h : bB (alk x y) _ false = true := h
  cases q : alk x y with
  | false => rw [q] at h; cases h
  | true =>
   rw [q] at h
   rw [jGa x y q, jJd l m h]
   rfl
end
end Mi

namespace Mi
open PySem PySem.Spec L2
open PyProof.Rows hiding St
section
variable {G : Gi} {X : Cx} {pins : List (Addr × Obj)} {σQ : St} {H : Hp} {s : Shared}
mutual
theorem jAX (g : Same G X) (I : Inv X pins σQ H s) : ∀ {p : P} {v : V} {u : Value}, PR G H p v → RelV v u → isFn p = false → Reads s.heap u (pyP p) []
 | _, _, _, .non, r, _ => by cases r; simp only [pyP]; exact .none
 | _, _, _, .bl b, r, _ => by cases r; simp only [pyP]; exact .bool b
 | _, _, _, .int i, r, _ => by obtain ⟨t, rfl⟩ := r; simp only [pyP]; exact .int i t
 | _, _, _, .str q _ _, r, _ => by obtain ⟨t, rfl⟩ := r; simp only [pyP]; exact .str _ t
 | _, _, _, .tup (l := l) (d := d) sq rl hd hzQ hc, r, _ => by
  cases r
  rw [g.K] at sq
  obtain ⟨its, ri, ⟨o, eQ, cQ, n, dt⟩, _⟩ := I.tuple sq
  simp only [pyP]
  exact .tuple eQ cQ dt (jCN g I rl ri fun x hxQ => jD2 (Nat.le_trans (Nat.le_of_lt (hd x hxQ)) hzQ.2))
 | _, _, _, .fn _, _, zQ => nomatch (show true = false from zQ)
theorem jCN (g : Same G X) (I : Inv X pins σQ H s) : ∀ {l : List P} {vs : List V} {us : List Value}, PRs G H l vs → Vals vs us → (∀ x ∈ l, isFn x = false) → ReadsAll s.heap us (pyPs l) []
 | _, _, _, .nil, r, _ => by cases r; simp only [pyPs]; exact .nil
 | _, _, _, .cons a b, r, f => by
  cases r with
  | cons r1 r2 => simp only [pyPs]; exact .cons (as := []) (bs := []) (jAX g I a r1 (f _ List.mem_cons_self)) (jCN g I b r2 fun x hxQ => f x (List.mem_cons_of_mem _ hxQ))
end
theorem dep_le {p : P} {v : V} (r : PR G H p v) (n : isFn p = false) : dep p ≤ 50 := by
 cases r with
 | tup _ _ _ zQ => exact zQ.2
 | fn => cases n
 | _ => exact Nat.zero_le _
theorem jBd : ∀ l : List P, (upP l).length = l.length
 | [] => rfl
 | _ :: l => congrArg Nat.succ (jBd l)
end
section
variable {G : Gi} {X : Cx} {pins : List (Addr × Obj)} {σQ : St} {H : Hp} {s : Shared}
theorem bB_v {ρ : List Addr} {h : EH} {Q : VK} {b : Bool} {r : VR} (w : wV G ρ H (bB b r .bad) h Q) : b = true ∧ wV G ρ H r h Q := by
 cases b with
 | true => exact ⟨rfl, w⟩
 | false => exact w.elim
end
end Mi

namespace Mi
open PySem PySem.Spec L2
open PyProof.Rows hiding St

end Mi

namespace Mi
open PySem PySem.Spec L2
open PyProof.Rows hiding St
end Mi

namespace Mi
open PySem PySem.Spec L2
open PyProof.Rows hiding St
end Mi

namespace Mi
open PySem PySem.Spec L2
open PyProof.Rows hiding St
end Mi

namespace Mi
open PySem PySem.Spec L2
open PyProof.Rows hiding St
section
variable {G : Gi} {X : Cx} {pins : List (Addr × Obj)} {σQ : St} {H : Hp} {s : Shared} {ρ : List Addr}
theorem jGs {A : Around} (g : Same G X) (I : Inv X pins σQ H s) (hu : A.units + 50 < cLine) {m : List (P × D)} {kb : List (Leaf × Value)} (rb : Paired (R0Q G ρ H) m kb) : ∀ {l : List (P × D)} {ka : List (Leaf × Value)} {r : Bool}, Paired (R0Q G ρ H) l ka → eqDl m l = some r → PySem.W.KeqHits A s kb ka r
 | _, _, r, .nil, eQ => by
  have eQ : some true = some r := eQ
  cases eQ
  exact .nil
 | _, _, r, @Paired.cons _ _ _ (kp, dv) (k, v) l ka ⟨h1, ⟨w, h2⟩, u, h3, h4⟩ t, eQ => by
  have h1 : jDS kp = some k := h1
  have h2 : PR G H kp w := h2
  have h3 : RelV u v := h3
  have h4 : DR G ρ H dv u := h4
  have f := find0 h1 h2 rb
  have eQ : Option.rec (motive := fun _ => Option Bool) (some false) (fun d => D.cs dv (fun p => D.cs d (fun q => bB (Bool.or (isFn p) (isFn q)) none (Option.rec (motive := fun _ => Option Bool) none (fun r => some (Bool.and (eqP 60 p q) r)) (eqDl m l))) (fun _ => none) (fun _ => none)) (fun _ => none) (fun _ => none)) (jDf kp m) = some r := eQ
  cases q : jDf kp m with
  | none =>
   rw [q] at eQ f
   have eQ : some false = some r := eQ
   cases eQ
   cases q2 : valueAt kb k with
   | none => exact .miss q2
   | some y => rw [q2] at f; exact f.elim
  | some d =>
   rw [q] at eQ f
   cases q2 : valueAt kb k with
   | none => rw [q2] at f; exact f.elim
   | some y =>
    rw [q2] at f
    obtain ⟨vv, f1, f2⟩ := f
    cases h4 with
    | @p pp _ rp =>
     cases f2 with
     | @p pq _ rq =>
      have eQ : bB (Bool.or (isFn pp) (isFn pq)) none (Option.rec (motive := fun _ => Option Bool) none (fun r => some (Bool.and (eqP 60 pp pq) r)) (eqDl m l)) = some r := eQ
      cases n1 : isFn pp with
      | true => rw [n1] at eQ; cases eQ
      | false =>
       cases n2 : isFn pq with
       | true => rw [n1, n2] at eQ; cases eQ
       | false =>
        rw [n1, n2] at eQ
        cases n3 : eqDl m l with
        | none => rw [n3] at eQ; cases eQ
        | some r' =>
         rw [n3] at eQ
         have eQ : some (Bool.and (eqP 60 pp pq) r') = some r := eQ
         cases eQ
         have b1 := dep_le rp n1
         have c1 := rp.dp n1
         have c2 := rq.dp n2
         rw [jDV 60 pp pq _ _ rp rq (by omega) n1 n2]
         refine .hit q2 (SeqAt.eqAt_reads _ _ A s _ _ [] [] (jAX g I rp h3 n1) (jAX g I rq f1 n2) c1.2.1 c2.2.1 ?_) (jGs g I hu rb t n3)
         have := Nat.min_le_left (PyData.depth (pyP pp)) (PyData.depth (pyP pq))
         have := c1.2.2
         omega
     | _ => cases eQ
    | _ => cases eQ
theorem jIK {h : EH} {v v' : Nat} {l m : List (P × D)} {a b : Addr} {f : Bool → VR} {Q : VK} (S : Sim G ρ h H) (xa : OR G ρ H (.dic v l) a) (xb : OR G ρ H (.dic v' m) b) (w : wV G ρ H (eqDc v l v' m f) h Q) :
  ∃ ka kb, Rd H a (.ext (D0 G.pg G.w a ka)) ∧ Rd H b (.ext (D0 G.pg G.w b kb)) ∧ Paired (R0Q G ρ H) l ka ∧ Paired (R0Q G ρ H) m kb ∧ ∃ r, (ka.length = kb.length → eqDl m l = some r) ∧ wV G ρ H (f (ka.length == kb.length && r)) h Q := by
 obtain ⟨w1, w⟩ := bB_v w
 obtain ⟨w2, w⟩ := bB_v w
 obtain ⟨ka, ra, pa, _, _⟩ := as0 xa (jDo w1)
 obtain ⟨kb, rb, pb, _, _⟩ := as0 xb (jDo w2)
 refine ⟨ka, kb, ra, rb, pa, pb, ?_⟩
 have l1 := Paired.length pa
 have l2 := Paired.length pb
 rw [jAx, jAx, l1, l2] at w
 cases q : Nat.beq ka.length kb.length with
 | false =>
  have ne : ka.length ≠ kb.length := fun zQ => by rw [zQ, Nat.beq_refl] at q; cases q
  rw [q] at w
  refine ⟨true, fun zQ => absurd zQ ne, ?_⟩
  have eQ : (ka.length == kb.length) = false := by simpa using ne
  rw [eQ]
  exact w
 | true =>
  have eq := Nat.eq_of_beq_eq_true q
  rw [q] at w
  have w : wV G ρ H (goB (eqDl m l) f) h Q := w
  cases n : eqDl m l with
  | none => rw [n] at w; exact w.elim
  | some r =>
   rw [n] at w
   refine ⟨r, fun _ => rfl, ?_⟩
   have eQ : (ka.length == kb.length) = true := by simpa using eq
   rw [eQ, Bool.true_and]
   exact w
theorem opr_eqA (hK : G.K = X.K) (g : Same G X) (hu : X.A.units + 64 < cLine) : OpR X (compareOp .Eq) (rO2 G oEqA) := by
 intro pins s σQ H x y v u Q I rx ry ⟨ρ, d, eQ, h, S, rdx, rdy, w⟩
 have w : wV G ρ H (jB4 h d (fun _ v l => jB4 h eQ (fun _ v' m => eqDc v l v' m fun r => vP (.bl r)) .bad) (oEq h d eQ)) h Q := w
 rcases jAP S rdx with zQ | ⟨k, a, v', l, rfl, rfl, ea, _, xx, zQ⟩
 ·exact opr_eq hK hu pins s σQ H _ _ v u Q I rx ry ⟨ρ, d, eQ, h, S, rdx, rdy, by rw [zQ] at w; exact w⟩
 ·rw [zQ] at w
  rcases jAP S rdy with zQ | ⟨k2, b, v2, m, rfl, rfl, eb, _, yy, zQ⟩
  ·rw [zQ] at w; exact w.elim
  ·rw [zQ] at w
   cases rx; cases ry
   obtain ⟨ka, kb, ra, rb, pa, pb, r, hr, w⟩ := jIK S xx yy w
   obtain ⟨za, da⟩ := rd0 g I ra
   obtain ⟨zb, db⟩ := rd0 g I rb
   exact PySem.W.keq_eq (knd := lf0 X.prog X.w) (r := r) za zb da db (by omega) (fun hl => jGs g I (by show X.A.units + 1 + 50 < cLine; omega) pb pa (hr hl)) ⟨.bl _, H, I, rfl, wV.val S w (.p (.bl _))⟩
theorem opr_neA (hK : G.K = X.K) (g : Same G X) (hu : X.A.units + 64 < cLine) : OpR X (compareOp .NotEq) (rO2 G oNeA) := by
 intro pins s σQ H x y v u Q I rx ry ⟨ρ, d, eQ, h, S, rdx, rdy, w⟩
 have w : wV G ρ H (jB4 h d (fun _ v l => jB4 h eQ (fun _ v' m => eqDc v l v' m fun r => vP (.bl (Bool.not r))) .bad) (oNe h d eQ)) h Q := w
 rcases jAP S rdx with zQ | ⟨k, a, v', l, rfl, rfl, ea, _, xx, zQ⟩
 ·exact opr_ne hK hu pins s σQ H _ _ v u Q I rx ry ⟨ρ, d, eQ, h, S, rdx, rdy, by rw [zQ] at w; exact w⟩
 ·rw [zQ] at w
  rcases jAP S rdy with zQ | ⟨k2, b, v2, m, rfl, rfl, eb, _, yy, zQ⟩
  ·rw [zQ] at w; exact w.elim
  ·rw [zQ] at w
   cases rx; cases ry
   obtain ⟨ka, kb, ra, rb, pa, pb, r, hr, w⟩ := jIK S xx yy w
   obtain ⟨za, da⟩ := rd0 g I ra
   obtain ⟨zb, db⟩ := rd0 g I rb
   exact PySem.W.keq_ne (knd := lf0 X.prog X.w) (r := r) za zb da db (by omega) (fun hl => jGs g I (by show X.A.units + 1 + 50 < cLine; omega) pb pa (hr hl)) ⟨.bl _, H, I, rfl, wV.val S w (.p (.bl _))⟩
theorem bv_goB {o : Option Bool} {f : Bool → Bool} : goB o (fun r => vP (.bl (f r))) = .bad ∨ ∃ k, goB o (fun r => vP (.bl (f r))) = .val (.p (.bl k)) := by
 cases o with
 | none => exact .inl rfl
 | some r => exact .inr ⟨_, rfl⟩
theorem jIU {v : Nat} {l : List (P × D)} {v' : Nat} {m : List (P × D)} {f : Bool → Bool} : eqDc v l v' m (fun r => vP (.bl (f r))) = .bad ∨ ∃ k, eqDc v l v' m (fun r => vP (.bl (f r))) = .val (.p (.bl k)) := by
 unfold eqDc
 cases okR v l 0 with
 | false => exact .inl rfl
 | true => cases okR v' m 0 with
  | false => exact .inl rfl
  | true => cases Nat.beq (lenL l) (lenL m) with
   | true => exact bv_goB
   | false => exact .inr ⟨_, rfl⟩
theorem jFf {h : EH} {x : D} {y : Nat → Nat → List (P × D) → VR} {n : VR} (hy : ∀ k v l, y k v l = .bad ∨ ∃ k', y k v l = .val (.p (.bl k'))) (hn : n = .bad ∨ ∃ k, n = .val (.p (.bl k))) : jB4 h x y n = .bad ∨ ∃ k, jB4 h x y n = .val (.p (.bl k)) := by
 cases x with
 | p => exact hn
 | mt => exact hn
 | ref k =>
  show jBH h k (y k) n = _ ∨ ∃ b, jBH h k (y k) n = _
  unfold jBH
  cases h.get k with
  | none => exact hn
  | some o => cases o with
   | dic v l => exact hy k v l
   | _ => exact hn
theorem bv_eqA : BV oEqA := fun h x y => jFf (fun _ _ _ => jFf (fun _ _ _ => jIU (f := fun r => r)) (.inl rfl)) (bv_eq h x y)
theorem bv_neA : BV oNeA := fun h x y => jFf (fun _ _ _ => jFf (fun _ _ _ => jIU (f := fun r => Bool.not r)) (.inl rfl)) (bv_ne h x y)
end
end Mi

namespace Mi
open PySem PySem.Spec L2
open PyProof.Rows hiding St
end Mi

namespace Mi
open PySem PySem.Spec L2
open PyProof.Rows hiding St
theorem jJb {α : Type} {f : α → Bool} : ∀ {l : List α}, (∀ x ∈ l, f x = true) → allL f l = true
 | [], _ => rfl
 | a :: l, h => by
  show bB (f a) (allL f l) false = true
  rw [h a List.mem_cons_self]
  exact jJb fun x hxQ => h x (List.mem_cons_of_mem _ hxQ)
section
variable {G : Gi} {X : Cx} {H : Hp} {ρ : List Addr}
theorem jEy : ∀ {m : List P} {vs : List V} {ns : List Int}, PRs G H m vs → pInts m = some ns → vs = ns.map V.int
 | _, _, ns, .nil, eQ => by cases (show some ([] : List Int) = some ns from eQ); rfl
 | _, _, ns, .cons (x := x) (l := l) r t, eQ => by
  have eQ : P.cs x none (fun _ => none) (fun i => Option.rec (motive := fun _ => Option (List Int)) none (fun r => some (i :: r)) (pInts l)) (fun _ => none) (fun _ _ => none) (fun _ => none) = some ns := eQ
  cases r with
  | int i =>
   cases q : pInts l with
   | none => rw [q] at eQ; cases eQ
   | some r =>
    rw [q] at eQ
    cases (show some (i :: r) = some ns from eQ)
    rw [jEy t q] <;> rfl
  | _ => cases eQ
end
end Mi

namespace Mi
open PySem PySem.Spec L2
open PyProof.Rows hiding St
structure PP (X : Cx) (pos : Pos) (keys : List (Option Expr)) (values : List Expr) (t : TA) : Prop where
 ex : ∃ pairs : List (Sem Value × Sem Value), pairs.length = keys.length ∧ (evalEachOpt keys X.env).zip ((evalEach values X.env).map fun v => do let x ← v; standAt pos; pure x) = pairs.map (fun p => (some p.1, p.2)) ∧
  ∀ (pins : List (Addr × Obj)) (s : Shared) (σQ : St) (H : Hp) (Q : List V → Hp → Prop), Inv X pins σQ H s → t σQ H Q → wpAny (model X.prog X.w) X.A (evalPairs pairs) (fun us s' => ∃ vs H', Inv X pins σQ H' s' ∧ Vals vs (us.flatMap fun p => [p.1, p.2]) ∧ Q vs H') X.xe s

abbrev SP (X : Cx) (G : Gi) (W : WX) (Φ : Ph) (pos : Pos) (keys : List (Option Expr)) (values : List Expr) (cQ : CL) : Prop := PP X pos keys values (rdL G W (cQ Φ))
end Mi

namespace Mi
open PySem PySem.Spec L2
open PyProof.Rows hiding St
def nFd : Nat := 128
def AtOk (at_ : Nat → Str) : Prop := ∀ i j, i < nFd → j < nFd → at_ i = at_ j → i = j
theorem bBt {α : Sort u} {b : Bool} {y n : α} (h : b = true) : bB b y n = y := by rw [h]; rfl
theorem bBf {α : Sort u} {b : Bool} {y n : α} (h : b = false) : bB b y n = n := by rw [h]; rfl
end Mi

namespace Mi
open PySem PySem.Spec L2
open PyProof.Rows hiding St
end Mi

namespace Mi
open PySem PySem.Spec L2
open PyProof.Rows hiding St
section
variable {X : Cx} {G : Gi} {W : WX} {Φ : Ph} {pos p2 : Pos} {a b cQ eQ o : Expr} {es : List Expr} {ca cb cc : CE} {cl : CL} {vs : List Nat}
theorem i62_b {i : Int} (h : i62 i = true) : -(2 ^ 63) ≤ i ∧ i < 2 ^ 63 := by
 have := jF8 (show iSm i 4611686018427387904 = true from h)
 constructor <;> omega
end
end Mi

namespace Mi
open PySem PySem.Spec L2
open PyProof.Rows hiding St
end Mi

namespace Mi
open PySem PySem.Spec L2
open PyProof.Rows hiding St
theorem atOk_of {l : List Str} (h : l.length = nFd) (nd : l.Nodup) : AtOk (fun i => l.getD i "") := fun i j hi hj eQ => by
 rw [← h] at hi hj
 have eQ : l.getD i "" = l.getD j "" := eQ
 rw [List.getD_eq_getElem?_getD, List.getD_eq_getElem?_getD, List.getElem?_eq_getElem hi, List.getElem?_eq_getElem hj] at eQ
 exact (List.getElem_inj nd).mp eQ
end Mi

namespace Mi
open PySem PySem.Spec L2
open PyProof.Rows hiding St
noncomputable section
end
section
variable {X : Cx} {G : Gi} {W : WX} {Φ : Ph} {pos p2 p3 pos2 : Pos} {a b cQ eQ o : Expr} {es : List Expr} {ca cb ce : CE} {cl : CL} {x m : Str}
theorem dic_raw {pins : List (Addr × Obj)} {σQ : St} {H : Hp} {s : Shared} {a : Addr} {ρ : List Addr} {v : Nat} {l : List (P × D)} (g : Same G X) (I : Inv X pins σQ H s) (x : OR G ρ H (.dic v l) a) :
  (a == sysModules) = false ∧ ∃ (o : Obj) (es : Array DictEntry) (ep : Nat), s.heap.get? a = some o ∧ o.ExactDict ∧ o.data = .dict es ep ∧ Paired (DEnt G ρ H) l es.toList := by
 have k0 : ∀ {vs : List (Leaf × Value)}, Rd H a (.ext (D0 G.pg G.w a vs)) → Paired (R0Q G ρ H) l vs → (a == sysModules) = false ∧ ∃ (o : Obj) (es : Array DictEntry) (ep : Nat), s.heap.get? a = some o ∧ o.ExactDict ∧ o.data = .dict es ep ∧ Paired (DEnt G ρ H) l es.toList := fun r pr => by
  obtain ⟨zQ, o, es, ep, e1, e2, e3, _, p, _⟩ := rd0 g I r
  rw [← g.pg, ← g.w] at p
  exact ⟨zQ, o, es, ep, e1, e2, e3, ent0 pr p⟩
 have k1 : ∀ {xs : List (NestedKey × Addr × Value)}, Rd H a (.ext (D1 G.pg G.w a xs)) → Paired (R1 G ρ H) l xs → (a == sysModules) = false ∧ ∃ (o : Obj) (es : Array DictEntry) (ep : Nat), s.heap.get? a = some o ∧ o.ExactDict ∧ o.data = .dict es ep ∧ Paired (DEnt G ρ H) l es.toList := fun r pr => by
  obtain ⟨zQ, o, es, ep, e1, e2, e3, p, _⟩ := rd1 g I r
  rw [← g.pg, ← g.w] at p
  exact ⟨zQ, o, es, ep, e1, e2, e3, by rw [p]; exact ent1 pr⟩
 cases x with
 | d0 eQ pr => exact k0 (.inl eQ) pr
 | l0 eQ pr => exact k0 (.inr ⟨_, eQ⟩) pr
 | d1 eQ pr => exact k1 (.inl eQ) pr
 | l1 eQ pr => exact k1 (.inr ⟨_, eQ⟩) pr
theorem jI0 {ρ : List Addr} {H : Hp} : ∀ {l : List (P × D)} {es : List DictEntry}, Paired (DEnt G ρ H) l es → ∃ vs, Vals vs (es.map (·.key)) ∧ DRs G ρ H (upP (mapL (fun q => q.1) l)) vs
 | _, _, .nil => ⟨[], .nil, .nil⟩
 | _, _, .cons ⟨⟨k, h1, h2⟩, _⟩ t => by
  obtain ⟨vs, h3, h4⟩ := jI0 t
  exact ⟨k :: vs, .cons h1 h3, .cons (.p h2) h4⟩
theorem jHF (hc : X.calm = true) (g : Same G X) : CallR X (.type "list") (fun xs H Q => ∃ (ρ : List Addr) (v : Nat) (l : List (P × D)) (a : Addr), xs = [.ref a] ∧ OR G ρ H (.dic v l) a ∧ l.length ≤ sizeLine ∧ ∀ vs p, DRs G ρ H (upP (mapL (fun q => q.1) l)) vs → H p = none → Q (.ref p) (upd H p (.lst vs))) := by
 intro pins s σQ H xs us Q I r h
 obtain ⟨ρ, v, l, a, rfl, x, hzQ, q⟩ := h
 cases r with
 | cons r1 r2 =>
  cases r2; cases r1
  obtain ⟨lo, o, es, ep, e1, e2, e3, pr⟩ := dic_raw g I x
  have hl : l.length = es.size := (Paired.length pr).trans Array.length_toList
  obtain ⟨vs, rv, rd⟩ := jI0 pr
  refine PySem.W.kdl_call (L2.kdl_raw lo e2 e3) (I.ok.hd hc) e1 (by omega) fun h' tk acc' c' kp eQ it => ?_
  have ea : acc'.toList = es.toList.map (·.key) := by
   have hl2 : acc'.toList.length = es.toList.length := by rw [Array.length_toList, it.1, Array.length_toList]
   apply List.ext_getElem?
   intro j
   rw [List.getElem?_map]
   cases
      hj : acc'.toList[j]? with
   | none =>
    have h1 :=
       List.getElem?_eq_none_iff.mp hj
    rw [List.getElem?_eq_none_iff.mpr (by rw [← hl2]; exact h1)]
    rfl
   | some u =>
    obtain ⟨en, h1, h2⟩ := it.2 j u (by rw [← Array.getElem?_toList]; exact hj)
    rw [Array.getElem?_toList, h1, h2]
    rfl
  refine ⟨.ref s.heap.objs.size, upd H s.heap.objs.size (.lst vs), I.laid kp (Nat.le_refl _) (show ObjOk X.prog X.w _ _ _ (.lst vs) from ⟨?_, acc'.toList, c', ?_, ?_⟩), rfl, q vs _ rd (I.hok.fresh (Nat.le_refl _))⟩
  ·have zQ : vs.length = es.size := by rw [rv.length, List.length_map, Array.length_toList]
   rw [zQ, ← hl]; exact hzQ
  ·rw [ea]; exact rv
  ·rw [Array.toArray_toList]; exact eQ
theorem jD5 (hK : G.K = X.K) (hc : X.calm = true) (g : Same G X) : CallR X (.type "list") (rC1 G jEk) := jAY (jD7 (cr_list hK) (jHF hc g)) fun xs H Q ⟨x, ρ, d, h, eQ, S, r, w⟩ => by
 subst eQ
 have w : wV G ρ H (jB4 h d (fun _ _ l => bB (jAG l) (.new (.lst (upP (mapL (fun q => q.1) l)))) .bad) (oLst h d)) h Q := w
 rcases jAP S r with zQ | ⟨k, a, v, l, rfl, rfl, _, _, xx, zQ⟩
 ·exact .inl ⟨x, ρ, d, h, rfl, S, r, by rw [zQ] at w; exact w⟩
 ·rw [zQ] at w
  obtain ⟨w1, w⟩ := bB_v w
  exact .inr ⟨ρ, v, l, a, rfl, xx, Nat.le_of_lt (jAL w1), fun vs p rd fr => wV.newL S w rd fr⟩
end
end Mi

namespace Mi
open PySem PySem.Spec L2
open PyProof.Rows hiding St
end Mi

namespace Mi
open PySem PySem.Spec L2
open PyProof.Rows hiding St
noncomputable section
def oGet (h : EH) (x y : D) : VR := jB4 h x (fun _ v l => dGet v l y (fun o => oV o .val) .bad) (D.cs x (fun _ => .bad) (fun k => jAw h k (fun l => jAI y (fun i => bB (iLe (.ofNat 0) i) (oV (nth l i.toNat) .val) .bad) .bad) .bad) (fun _ => .bad))
end
section
variable {X : Cx} {G : Gi} {W : WX} {Φ : Ph} {pos p2 p3 pos2 tpos : Pos} {a b cQ eQ o i : Expr} {es : List Expr} {ca cb ce co ci : CE} {cl : CL} {x m f : Str} {op : Operator} {g : EH → D → D → VR} {n : Nat} {cs : List Nat}
def rGetA (G : Gi) (K : PySem.W.Frag) : V → V → Hp → VK → Prop := fun x y H Q => (∃ p xs i zQ, x = .ref p ∧ y = .int i ∧ H p = some (.lst xs) ∧ 0 ≤ i ∧ xs[i.toNat]? = some zQ ∧ Q zQ H) ∨ rIxD G x y H Q
theorem get_some {ρ : List Addr} {H : Hp} {h : EH} {d eQ : D} {x y : V} {Q : VK} (S : Sim G ρ h H) (rx : DR G ρ H d x) (ry : DR G ρ H eQ y) (w : wV G ρ H (oGet h d eQ) h Q) : rGetA G X.K x y H Q := by
 have w : wV G ρ H (jB4 h d (fun _ v l => dGet v l eQ (fun o => oV o .val) .bad) (D.cs d (fun _ => .bad) (fun k => jAw h k (fun l => jAI eQ (fun i => bB (iLe (.ofNat 0) i) (oV (nth l i.toNat) .val) .bad) .bad) .bad) (fun _ => .bad))) h Q := w
 rcases jAP S rx with zQ | ⟨k, a, v, l, rfl, rfl, _, _, xx, zQ⟩
 ·rw [zQ] at w
  cases rx with
  | p => exact w.elim
  | mt => exact w.elim
  | @ref k a e1 =>
   have w : wV G ρ H (jAw h k (fun l => jAI eQ (fun i => bB (iLe (.ofNat 0) i) (oV (nth l i.toNat) .val) .bad) .bad) .bad) h Q := w
   rcases jAu S e1 with zQ | ⟨l, vs, hl, rl, _, zQ⟩
   ·rw [zQ] at w; exact w.elim
   ·rw [zQ] at w
    rcases jAp ry with zQ | ⟨i, rfl, rfl⟩
    ·rw [zQ] at w; exact w.elim
    ·have w : wV G ρ H (bB (iLe (.ofNat 0) i) (oV (nth l i.toNat) .val) .bad) h Q := w
     obtain ⟨w1, w⟩ := bB_v w
     rw [jBZ] at w1
     rw [jBp] at w
     cases q : l[i.toNat]? with
     | none => rw [q] at w; exact w.elim
     | some d =>
      rw [q] at w
      obtain ⟨v, h1, h2⟩ := rl.get q
      exact .inl ⟨a, vs, i, v, rfl, rfl, hl, of_decide_eq_true w1, h1, wV.val S w h2⟩
 ·rw [zQ] at w
  rcases jFR xx ry with zQ | ⟨o, w', r, dk, zQ⟩
  ·rw [zQ] at w; exact w.elim
  ·rw [zQ] at w
   rcases jIh (f := VR.val) r with ⟨_, zQ⟩ | ⟨d, v, rfl, rfl, rd, zQ⟩
   ·rw [zQ] at w; exact w.elim
   ·exact .inr ⟨a, v, rfl, dk, wV.val S w rd⟩
end
end Mi

namespace Mi
open PySem PySem.Spec L2
open PyProof.Rows hiding St
open PySem.SeqAt (EqIn EqAt RcAt RcNeAt)
section
variable
   {prog : Program} {w : World} {K : Type} [DecidableEq K] {knd : HeapKind prog w K} {A : Around} {E : Value → Shared → Prop} {s : Shared}
inductive HitH (prog : Program) (w : World) {K : Type} [DecidableEq K] (A : Around) (s : Shared) (yb : List (K × Addr × Value)) : List (K × Addr × Value) → Bool → Prop
 | nil : HitH prog w A s yb [] true
 | miss {k : K} {p : Addr × Value} {r : List (K × Addr × Value)} : atKey yb k = none → HitH prog w A s yb ((k, p) :: r) false
 | hit {k : K} {p y : Addr × Value} {r : List (K × Addr × Value)} {eQ b : Bool} : atKey yb k = some y → EqIn prog w A s p.2 y.2 eQ → HitH prog w A s yb r b → HitH prog w A s yb ((k, p) :: r) (eQ && b)
theorem HitH.inv {yb : List (K × Addr × Value)} {k : K} {p : Addr × Value} {r : List (K × Addr × Value)} {b : Bool} (h : HitH prog w A s yb ((k, p) :: r) b) :
  (atKey yb k = none ∧ b = false) ∨ ∃ y eQ b', atKey yb k = some y ∧ EqIn prog w A s p.2 y.2 eQ ∧ HitH prog w A s yb r b' ∧ b = (eQ && b') := by
 cases h with
 | miss hn =>
    exact .inl ⟨hn, rfl⟩
 | hit hy he hr =>
    exact .inr ⟨_, _, _, hy, he, hr, rfl⟩
theorem at_none {xs : List (K × Addr × Value)} {k : K} (h : ∀ (j : Nat) (p : Addr × Value), xs[j]? ≠ some (k, p)) : atKey xs k = none := by
 unfold atKey
 rw [List.find?_eq_none.mpr fun x hxQ => ?_]
 ·rfl
 ·obtain ⟨j, hj⟩ := List.mem_iff_getElem?.mp hxQ
  intro eQ
  obtain ⟨x1, x2⟩ := x
  have eQ : x1 = k := of_decide_eq_true eQ
  exact h j x2 (by rw [hj, eQ])
theorem at_some {xs : List (K × Addr × Value)} {k : K} {j : Nat} {p : Addr × Value} (nd : (xs.map (·.1)).Nodup) (h : xs[j]? = some (k, p)) : atKey xs k = some p := by
 unfold atKey
 cases q : xs.find? fun x => decide (x.1 = k) with
 | none =>
  have := List.find?_eq_none.mp q (k, p) (List.mem_of_getElem? h)
  simp at this
 | some y =>
  obtain ⟨i, hi⟩ := List.mem_iff_getElem?.mp (List.mem_of_find?_eq_some q)
  have eQ : y.1 = k := of_decide_eq_true (List.find?_some (p := fun x : K × Addr × Value => decide (x.1 = k)) q)
  have hij : i = j := by
   have h1 : (xs.map (·.1))[i]? = some k := by rw [List.getElem?_map, hi]; exact congrArg some eQ
   have h2 : (xs.map (·.1))[j]? = some k := by rw [List.getElem?_map, h]; rfl
   obtain ⟨l1, e1⟩ := List.getElem?_eq_some_iff.mp h1
   obtain ⟨l2, e2⟩ := List.getElem?_eq_some_iff.mp h2
   exact (List.getElem_inj nd).mp (e1.trans e2.symm)
  subst hij
  rw [hi] at h
  cases h
  rfl
theorem jFo {nm : String} {a b : Addr} {xa xb : List (K × Addr × Value)} {r : Bool} {Q : Bool → Shared → Prop} (hu : knd.room A) (ha : (a == sysModules) = false) (hb : (b == sysModules) = false)
  (da : s.heap.DictOfH knd a xa) (db : s.heap.DictOfH knd b xb) (hits : xa.length = xb.length → HitH prog w A s xb xa r) (h : Q (xa.length == xb.length && r) s) : wpAny (model prog w) A (Builtin.Dict.samePairs nm a b) Q E s := by
 obtain ⟨oa, es, ep, hoa, _, hda, hea, hia, _⟩ := da
 obtain ⟨ob, es', ep', hob, _, hdb, heb, hib, hnb⟩ := db
 have hla : xa.length = es.size := (size_of_entries hea).symm
 have hlb : xb.length = es'.size := (size_of_entries heb).symm
 rw [hla, hlb] at h
 unfold
   Builtin.Dict.samePairs Builtin.Dict.showsAll
 rw
   [if_neg (show ¬ (a == sysModules) = true by rw [ha]; exact Bool.false_ne_true), if_neg (show ¬ (b == sysModules) = true by rw [hb]; exact Bool.false_ne_true)]
 refine
    wpAny_bind (wpAny_pure (wpAny_bind (wpAny_pure ?_)))
 refine
    wpAny_bind (wpAny_dictEntries hoa hda ?_)
 dsimp only
 refine
    wpAny_bind (wpAny_dictEntries hob hdb ?_)
 by_cases
    hsz : es.size = es'.size
 case neg =>
  rw
    [if_pos (by simpa using hsz)]
  have hbf : (es.size == es'.size) = false :=
     by simpa using hsz
  rw [hbf, Bool.false_and] at h
  exact
     wpAny_bind (wpAny_rule (wpAny_pure h))
 case pos =>
  have h' : Q r s :=
     by simpa [hsz] using h
  have hits' :=
     hits (by rw [hla, hlb]; exact hsz)
  rw
    [if_neg (by rw [hsz]; simp)]
  refine
     wpAny_bind (wpAny_dictEpoch hoa hda ?_)
  refine wpAny_bind ?_
  rw
    [Std.Legacy.Range.forIn_eq_forIn_range']
  simp only
     [Std.Legacy.Range.size, Nat.sub_zero, Nat.add_sub_cancel, Nat.div_one]
  refine wpAny_forIn_list _
   (fun rest q s' => s' = s ∧ q = (none, ()) ∧ ∃ i, rest = List.range' i (es.size - i) ∧ i ≤ es.size ∧ HitH prog w A s xb (xa.drop i) r)
   _ ?_
      ?_ _ _ ⟨rfl, rfl, 0, by simp, Nat.zero_le _, hits'⟩
  ·rintro
     x rest q s' ⟨rfl, rfl, i, hr, hi, hpre⟩
   have hlt : i < es.size := by
    rcases
       Nat.lt_or_ge i es.size with h | h
    ·exact h
    ·rw
       [Nat.sub_eq_zero_of_le h] at hr; simp at hr
   obtain ⟨rfl, hrest⟩ : x = i ∧ rest = List.range' (i + 1) (es.size - (i + 1)) :=
      by
    have eQ : es.size - i = (es.size - (i + 1)) + 1 := by omega
    rw [eQ, List.range'_succ] at hr
    injection hr with h1 h2
    exact ⟨h1, h2⟩
   refine
      wpAny_bind (wpAny_dictEntries hoa hda ?_)
   rw
     [Array.getElem?_eq_getElem hlt]
   have hlt' : x < xa.length := by rw [hla]; exact hlt
   obtain ⟨k, p, hkv⟩ : ∃ k p, xa[x] = (k, p) := ⟨_, _, rfl⟩
   have hdrop : xa.drop x = (k, p) :: xa.drop (x + 1) := by rw [← hkv]; exact List.drop_eq_getElem_cons hlt'
   have hent : es[x] = entryOfKey knd (k, p) := by
    have e1 : es.toList[x]? = some es[x] := by rw [Array.getElem?_toList]; exact Array.getElem?_eq_getElem hlt
    rw [hea, List.getElem?_map, List.getElem?_eq_getElem hlt', hkv] at e1
    exact (Option.some.inj e1).symm
   have hkey : knd.is s'.heap k p.1 := hia (k, p) (by rw [← hkv]; exact List.getElem_mem hlt')
   rw [hdrop] at hpre
   rw [hent]
   show wpAny _ _ (holding [Value.ref p.1, p.2] _ >>= _) _ _ _
   refine wpAny_bind (wpAny_holding (wpAny_bind (wpAny_dictFind_heap hu hkey hob hdb heb hib hnb (fun hno => ?_) fun j y hy => ?_)))
   ·have hn : atKey xb k = none := at_none hno
    rcases
       hpre.inv with ⟨_, er⟩ | ⟨y, _, _, hy, _⟩
    ·rw [er] at h'
     refine wpAny_pure ?_
     show wpAny _ _
        (if (!false) = true then _ else _) _ _ _
     rw [if_pos (by decide)]
     exact
        wpAny_pure (wpAny_pure h')
    ·rw [hn] at hy; exact
       nomatch hy
   ·have hv' : atKey xb k = some y := at_some hnb hy
    refine
       wpAny_bind (wpAny_dictEntries hob hdb ?_)
    have hj : es'[j]? = some (entryOfKey knd (k, y)) := by
     rw [← Array.getElem?_toList, heb, List.getElem?_map, hy]; rfl
    rw [hj]
    rcases hpre.inv with ⟨hn, _⟩ | ⟨y', eQ, b', hy', he, hrr, er⟩
    ·rw [hv'] at hn; exact
       nomatch hn
    ·have ey : y = y' := Option.some.inj (hv'.symm.trans hy')
     rw [← ey] at he
     refine
        wpAny_holding (he _ _ ?_)
     cases eQ with
     | false =>
      rw [er, Bool.false_and] at h'
      show wpAny _ _
         (if (!false) = true then _ else _) _ _ _
      rw [if_pos (by decide)]
      exact
         wpAny_pure (wpAny_pure h')
     | true =>
      rw [Bool.true_and] at er
      rw [← er] at hrr
      show wpAny _ _
         (if (!true) = true then _ else _) _ _ _
      rw [if_neg (by decide)]
      refine
         wpAny_bind (wpAny_dictEpoch hoa hda ?_)
      rw [if_neg (by simp)]
      exact
         wpAny_pure ⟨rfl, rfl, x + 1, hrest, hlt, hrr⟩
  ·rintro
     q s' ⟨rfl, rfl, i, hr, hi, hpre⟩
   have hin : i = es.size := by
    rcases
       Nat.lt_or_ge i es.size with h | h
    ·have eQ : es.size - i = (es.size - (i + 1)) + 1 := by omega
     rw [eQ, List.range'_succ] at hr; exact nomatch hr
    ·exact Nat.le_antisymm hi h
   refine wpAny_pure ?_
   rw
     [hin, ← hla, List.drop_length] at hpre
   cases hpre
   exact h'
theorem jFK {a b : Addr} {Q : Bool → Shared → Prop} (neg : Bool) (ta : s.TypeIs (.ref a) "dict") (tb : s.TypeIs (.ref b) "dict") (hu : A.units < cLine)
  (h : ∀ (nm : String) (E' : Value → Shared → Prop) (Q' : Bool → Shared → Prop), (∀ r, Q r s → Q' r s) → wpAny (model prog w) A.in1 (Builtin.Dict.samePairs nm a b) Q' E' s) {R : Value → Shared → Prop} (hR : ∀ r, Q r s → R (.bool (if neg then !r else r)) s) :
  wpAny (model prog w) A (richCompare (if neg then .NotEq else .Eq) (.ref a) (.ref b)) R E s := by
 cases neg with
 | false =>
  refine wpAny_richCompare_same_room (op := .Eq) ta tb PySem.F.slot_dict_eq (wpAny_call_entry PySem.F.slot_dict_eq ta PySem.F.entry_dict_eq ?_ (PySem.F.args_dict_eq_2 _ _)) hu
  show wpAny _ _
     (Builtin.Dict.dictSlotArgs "__eq__" ⟨[.ref a, .ref b], []⟩ >>= _) _ _ s
  refine wpAny_bind ?_
  unfold
    Builtin.Dict.dictSlotArgs
  refine wpAny_bind (wpAny_notOrdered_dict ta ?_)
  show wpAny _ _
     (pure (Value.ref a, Value.ref b)) _ _ s
  refine wpAny_pure ?_
  refine wpAny_bind (wpAny_isInstance (T := "dict") tb PySem.F.sub_dict_dict ?_)
  simp only
     [Bool.not_true, Bool.false_eq_true, if_false]
  refine
     wpAny_bind (wpAny_pure (wpAny_bind (wpAny_pure ?_)))
  refine wpAny_bind (h _ _ _ fun r hr => ?_)
  refine
     wpAny_pure ⟨_, rfl, ?_, ?_⟩
  ·exact fun x => nomatch x
  ·simpa using hR r hr
 | true =>
  refine wpAny_richCompare_same_room (op := .NotEq) ta tb PySem.F.slot_dict_ne (wpAny_call_entry PySem.F.slot_dict_ne ta PySem.F.entry_dict_ne ?_ (PySem.F.args_dict_ne_2 _ _)) hu
  show wpAny _ _
     (Builtin.Dict.dictSlotArgs "__ne__" ⟨[.ref a, .ref b], []⟩ >>= _) _ _ s
  refine wpAny_bind ?_
  unfold
    Builtin.Dict.dictSlotArgs
  refine wpAny_bind (wpAny_notOrdered_dict ta ?_)
  show wpAny _ _
     (pure (Value.ref a, Value.ref b)) _ _ s
  refine wpAny_pure ?_
  refine wpAny_bind (wpAny_isInstance (T := "dict") tb PySem.F.sub_dict_dict ?_)
  simp only
     [Bool.not_true, Bool.false_eq_true, if_false]
  refine
     wpAny_bind (wpAny_pure (wpAny_bind (wpAny_pure ?_)))
  refine wpAny_bind (h _ _ _ fun r hr => ?_)
  refine
     wpAny_pure ⟨_, rfl, ?_, ?_⟩
  ·exact fun x => nomatch x
  ·simpa using hR r hr
end
end Mi
namespace Mi
open PySem PySem.SeqAt PySem.Calls
open AutoSeq1
 (wpAny_loadPart')
open MeetsSeq
open MeetsSeq2
open MeetsSeq3
open SeqRoads2
section
variable
   {prog : Program} {w : World}
theorem ne_loopX (l b : Addr) (items items2 : Array Value) (n n2 : Nat) (dd dd2 : Option Addr) (sl sl2 : Array (Option Value)) (hsz : items.size = items2.size) (eQ : Nat → Bool) (k : Nat) :
  ∀ i : Nat, items.size - i = k → MeetsIn prog w (Builtin.«list.__eq__.loop» ⟨[.ref l, .ref b, rawInt i, rawInt 3], []⟩)
   (fun A R s =>
      s.heap.get? l = some { cls := .type "list", dict := dd, data := .seq items n, slots := sl } ∧ s.heap.get? b = some { cls := .type "list", dict := dd2, data := .seq items2 n2, slots := sl2 } ∧
    (∀ j (h1 : j < items.size) (h2 : j < items2.size), EqIn prog w A.in1 s items[j] items2[j] (eQ j)) ∧
    R (.ok (.ret (.bool (!((List.range items.size).drop i).all eQ)))) s) := by
 induction k with
 | zero =>
  intro i hk A R s h
  obtain ⟨hpQ, g, d, tk, os⟩ := s; obtain ⟨hl, hb, he, h⟩ := h
  wp_walk
     using wpAny_loadPart' hl, wpAny_loadPart' hb
  have hi1 : items[((i : Nat) : Int).toNat]? = none :=
     by simp; omega
  have hi2 : items2[((i : Nat) : Int).toNat]? = none :=
     by simp; omega
  have hd : (List.range items.size).drop i = [] :=
     by simp; omega
  rw [hd] at h
  rw [hi1, hi2]
  wp_walk
     using wpAny_loadPart' hl, wpAny_loadPart' hb
  show
     R (.ok (.ret (.bool (items.size != items2.size)))) _
  rw [hsz]
  simpa using h
 | succ k ih =>
  intro i hk A R s h
  obtain ⟨hpQ, g, d, tk, os⟩ := s; obtain ⟨hl, hb, he, h⟩ := h
  wp_walk
     using wpAny_loadPart' hl, wpAny_loadPart' hb
  have hlt : i < items.size :=
     by omega
  have hlt2 : i < items2.size :=
     by omega
  have hi1 : items[((i : Nat) : Int).toNat]? = some items[i] :=
     by simp [hlt]
  have hi2 : items2[((i : Nat) : Int).toNat]? = some items2[i] :=
     by simp [hlt2]
  have hd : (List.range items.size).drop i = i :: (List.range items.size).drop (i + 1) :=
     by simp [List.drop_eq_getElem_cons, hlt]
  have hc : ((i : Int) + 1) = ((i + 1 : Nat) : Int) :=
     by push_cast; rfl
  rw [hd, List.all_cons] at h
  rw [hi1, hi2]
  refine
     wpAny_bind (he i hlt hlt2 _ _ ?_)
  cases hb' : eQ i with
  | true =>
   rw [hb'] at h
   wp_walk
   rw [hc]
   exact
      ⟨plainId_quiet plain_eq_loop _, codeAny_builtin entry_eq_loop (by
    rw
      [Around.under_plainId plain_eq_loop _]
    exact
       ih (i + 1) (by omega) A R _ ⟨hl, hb, he, by simpa using h⟩)⟩
  | false =>
   rw [hb'] at h
   wp_walk
      using wpAny_loadPart' hl, wpAny_loadPart' hb
   rw [hi1, hi2]
   wp_walk
   simpa using h
theorem list_neX (l b : Addr) (items items2 : Array Value) (n n2 : Nat) (dd dd2 : Option Addr) (sl sl2 : Array (Option Value)) (hsz : items.size = items2.size) (eQ : Nat → Bool) :
  MeetsIn prog w (Builtin.«list.__ne__» ⟨[.ref l, .ref b], []⟩)
   (fun A R s =>
      s.heap.get? l = some { cls := .type "list", dict := dd, data := .seq items n, slots := sl } ∧ s.heap.get? b = some { cls := .type "list", dict := dd2, data := .seq items2 n2, slots := sl2 } ∧
    (∀ j (h1 : j < items.size) (h2 : j < items2.size), EqIn prog w A.in1 s items[j] items2[j] (eQ j)) ∧
    R (.ok (.ret (.bool (!(List.range items.size).all eQ)))) s) := by
 intro A R s h
 obtain ⟨hpQ, g, d, tk, os⟩ := s; obtain ⟨hl, hb, he, h⟩ := h
 have f3Q := AutoSeq1.sub_list_list
 have hne : ¬ (items.size != items2.size) = true :=
    by simp [hsz]
 wp_walk
    using wpAny_loadPart' hl, wpAny_loadPart' hb
 exact
    ⟨plainId_quiet plain_eq_loop _, codeAny_builtin entry_eq_loop (by
  rw
    [Around.under_plainId plain_eq_loop _]
  exact ne_loopX l b items items2 n n2 dd dd2 sl sl2 hsz eQ _ 0 rfl A R _ ⟨hl, hb, he, by simpa using h⟩)⟩
theorem jHW {A : Around} {s : Shared} {E : Value → Shared → Prop} {l b : Addr} {items items2 : Array Value} {eQ : Nat → Bool} {Q : Value → Shared → Prop} (neg : Bool) (hl : s.heap.IsList l items) (hb : s.heap.IsList b items2) (hsz : items.size = items2.size) (hu : A.units < cLine)
  (he : ∀ j (h1 : j < items.size) (h2 : j < items2.size), EqIn prog w A.in1 s items[j] items2[j] (eQ j)) (h : Q (.bool (if neg then !(List.range items.size).all eQ else (List.range items.size).all eQ)) s) : wpAny (model prog w) A (richCompare (if neg then .NotEq else .Eq) (.ref l) (.ref b)) Q E s := by
 cases neg with
 | false => exact rcIn_lists hl hb hsz hu he h
 | true =>
  obtain ⟨⟨cls, dd, data, sl⟩, hoQ, hc, n, hd⟩ := id hl
  obtain ⟨⟨cls2, dd2, data2, sl2⟩, ho2, hc2, n2, hd2⟩ :=
     id hb
  simp only at hc hd hc2 hd2
  subst hc hd hc2 hd2
  exact wpAny_richCompare_same_room (T := "list") (op := .NotEq) ⟨_, hoQ, rfl⟩ ⟨_, ho2, rfl⟩ F.slot_list_ne (call_meetsIn F.slot_list_ne ⟨_, hoQ, rfl⟩ F.entry_list_ne (F.args_list_ne_2 _ _) (list_neX l b items items2 n n2 dd dd2 sl sl2 hsz eQ)
   ⟨hoQ, ho2, he, show Value.bool (!(List.range items.size).all eQ) ≠ Value.notImplemented ∧ Q (.bool (!(List.range items.size).all eQ)) s from ⟨(fun x => nomatch x), h⟩⟩) hu
theorem rcX_len {A : Around} {s : Shared} {E : Value → Shared → Prop} {l b : Addr} {items items2 : Array Value} {Q : Value → Shared → Prop} (neg : Bool) (hl : s.heap.IsList l items) (hb : s.heap.IsList b items2) (hsz : (items.size != items2.size) = true) (hu : A.units < cLine)
  (h : Q (.bool (if neg then true else false)) s) : wpAny (model prog w) A (richCompare (if neg then .NotEq else .Eq) (.ref l) (.ref b)) Q E s := by
 cases neg with
 | false => exact RcAt.lists_lengths hl hb hsz hu prog w E Q h
 | true => exact RcNeAt.lists_lengths hl hb hsz hu prog w E Q h
theorem jIM {A : Around} {s : Shared} {E : Value → Shared → Prop} {a : Addr} {Q : Value → Shared → Prop} (neg : Bool) (ta : s.TypeIs (.ref a) "dict") (h : Q .notImplemented s) : wpAny (model prog w) A (call (.builtin (if neg then "dict.__ne__" else "dict.__eq__")) [.ref a, .none]) Q E s := by
 cases neg with
 | false =>
  refine wpAny_call_entry PySem.F.slot_dict_eq ta PySem.F.entry_dict_eq ?_ (PySem.F.args_dict_eq_2 _ _)
  show wpAny _ _ (Builtin.Dict.dictSlotArgs "__eq__" ⟨[.ref a, .none], []⟩ >>= _) _ _ s
  refine wpAny_bind ?_
  unfold
    Builtin.Dict.dictSlotArgs
  refine wpAny_bind (wpAny_notOrdered_dict ta ?_)
  show wpAny _ _ (pure (Value.ref a, Value.none)) _ _ s
  refine wpAny_pure ?_
  refine wpAny_bind (wpAny_isInstance (T := "NoneType") rfl PySem.F.sub_NoneType_dict ?_)
  simp only
     [Bool.not_false, if_true]
  refine
     wpAny_bind (wpAny_rule (wpAny_pure ?_))
  exact ⟨_, rfl, h⟩
 | true =>
  refine wpAny_call_entry PySem.F.slot_dict_ne ta PySem.F.entry_dict_ne ?_ (PySem.F.args_dict_ne_2 _ _)
  show wpAny _ _ (Builtin.Dict.dictSlotArgs "__ne__" ⟨[.ref a, .none], []⟩ >>= _) _ _ s
  refine wpAny_bind ?_
  unfold
    Builtin.Dict.dictSlotArgs
  refine wpAny_bind (wpAny_notOrdered_dict ta ?_)
  show wpAny _ _ (pure (Value.ref a, Value.none)) _ _ s
  refine wpAny_pure ?_
  refine wpAny_bind (wpAny_isInstance (T := "NoneType") rfl PySem.F.sub_NoneType_dict ?_)
  simp only
     [Bool.not_false, if_true]
  refine
     wpAny_bind (wpAny_rule (wpAny_pure ?_))
  exact ⟨_, rfl, h⟩
theorem jEI {A : Around} {s : Shared} {E : Value → Shared → Prop} {a : Addr} {Q : Value → Shared → Prop} (neg : Bool) (ta : s.TypeIs (.ref a) "dict") (hu : A.units < cLine) (h : Q (.bool (if neg then true else false)) s) : wpAny (model prog w) A (richCompare (if neg then .NotEq else .Eq) (.ref a) .none) Q E s := by
 have tn : s.TypeIs Value.none "NoneType" := rfl
 cases neg with
 | false =>
  show wpAny (model prog w) A (richCompare .Eq (.ref a) .none) Q E s
  exact rc_eq_decline_or (k := false) ta tn (by decide) PySem.F.sub_NoneType_dict PySem.F.slot_dict_eq PySem.F.slot_NoneType_eq_refl (fun _ hq => jIM false ta hq)
   (fun _ hq => call_gives F.slot_NoneType_eq_refl rfl F.entry_NoneType_eq (F.args_NoneType_eq_2 _ _) (NoneType___eq___none_ref_0 a) hq) (fun _ hq => wpAny_of_eq (rfl : isSame (.ref a) .none = pure false) hq) (.inr hu) h
 | true =>
  show wpAny (model prog w) A (richCompare .NotEq (.ref a) .none) Q E s
  exact rc_ne_decline_or (k := false) ta tn (by decide) PySem.F.sub_NoneType_dict PySem.F.slot_dict_ne PySem.F.slot_NoneType_ne_refl (fun _ hq => jIM true ta hq)
   (fun _ hq => call_gives F.slot_NoneType_ne_refl rfl F.entry_NoneType_ne (F.args_NoneType_ne_2 _ _) (NoneType___ne___none_ref_0 a) hq) (fun _ hq => wpAny_of_eq (rfl : isSame (.ref a) .none = pure false) hq) (.inr hu) h
theorem jEH {A : Around} {s : Shared} {E : Value → Shared → Prop} {l : Addr} {items : Array Value} {Q : Value → Shared → Prop} (neg : Bool) (hl : s.heap.IsList l items) (hu : A.units < cLine) (h : Q (.bool (if neg then true else false)) s) : wpAny (model prog w) A (richCompare (if neg then .NotEq else .Eq) (.ref l) .none) Q E s := by
 cases neg with
 | false => exact RcAt.list_none hl hu prog w E Q h
 | true => exact RcNeAt.list_none hl hu prog w E Q h
end
end Mi

namespace Mi
open PySem PySem.Spec L2
open PyProof.Rows hiding St
open PySem.SeqAt (EqIn EqAt)
noncomputable section
end
theorem jEe {a b : Option Bool} {r : Bool} (h : andO a b = some r) : ∃ x y, a = some x ∧ b = some y ∧ r = (x && y) := by
 cases a with
 | none => cases h
 | some x => cases b with
  | none => cases h
  | some y =>
   have h : some (Bool.and x y) = some r := h
   cases h
   exact ⟨x, y, rfl, rfl, rfl⟩
section
variable {G : Gi} {X : Cx} {pins : List (Addr × Obj)} {σQ : St} {H : Hp} {s : Shared} {ρ : List Addr} {h : EH}
def EqF (X : Cx) (G : Gi) (ρ : List Addr) (H : Hp) (s : Shared) (f : D → D → Option Bool) (A : Around) : Prop :=
 ∀ {x y : D} {vx vy : V} {u w : Value} {r : Bool}, DR G ρ H x vx → DR G ρ H y vy → RelV vx u → RelV vy w → f x y = some r → EqIn X.prog X.w A s u w r
theorem jIu {f : D → D → Option Bool} {A : Around} (F : EqF X G ρ H s f A) : ∀ {l m : List D} {vs ws : List V} {us xs : List Value} {r : Bool}, DRs G ρ H l vs → DRs G ρ H m ws → Vals vs us → Vals ws xs → l.length = m.length → eqXl f l m = some r →
  ∃ eQ : Nat → Bool, (∀ (j : Nat) (u w : Value), us[j]? = some u → xs[j]? = some w → EqIn X.prog X.w A s u w (eQ j)) ∧ r = (List.range l.length).all eQ
 | _, _, _, _, _, _, r, .nil, .nil, .nil, .nil, _, q => by
  have q : some true = some r := q
  cases q
  exact ⟨fun _ => true, (fun j u w h _ => by cases j <;> cases h), rfl⟩
 | _, _, _, _, _, _, r, .cons (x := a) (l := l) a1 a2, .cons (x := b) (l := m) b1 b2, .cons c1 c2, .cons d1 d2, hl, q => by
  obtain ⟨x, y, q1, q2, q3⟩ := jEe (show andO (f a b) (eqXl f l m) = some r from q)
  obtain ⟨eQ, h1, h2⟩ := jIu F a2 b2 c2 d2 (Nat.succ.inj hl) q2
  refine ⟨fun j => match j with | 0 => x | j + 1 => eQ j, fun j u w hu hw => ?_, ?_⟩
  ·cases j with
   | zero => cases hu; cases hw; exact F a1 b1 c1 d1 q1
   | succ j => exact h1 j u w hu hw
  ·rw [q3, h2, List.length_cons, List.range_succ_eq_map, List.all_cons, List.all_map]
   rfl
theorem hits0 {f : D → D → Option Bool} {A : Around} (F : EqF X G ρ H s f A) {m : List (P × D)} {kb : List (Leaf × Value)} (rb : Paired (R0Q G ρ H) m kb) : ∀ {l : List (P × D)} {ka : List (Leaf × Value)} {r : Bool}, Paired (R0Q G ρ H) l ka → eqXd f m l = some r → PySem.W.KeqHitsIn X.prog X.w A s kb ka r
 | _, _, r, .nil, eQ => by
  have eQ : some true = some r := eQ
  cases eQ
  exact .nil
 | _, _, r, @Paired.cons _ _ _ (kp, dv) (k, v) l ka ⟨h1, ⟨w, h2⟩, u, h3, h4⟩ t, eQ => by
  have h1 : jDS kp = some k := h1
  have h2 : PR G H kp w := h2
  have h3 : RelV u v := h3
  have h4 : DR G ρ H dv u := h4
  have f0 := find0 h1 h2 rb
  have eQ : Option.rec (motive := fun _ => Option Bool) (some false) (fun d => andO (f dv d) (eqXd f m l)) (jDf kp m) = some r := eQ
  cases q : jDf kp m with
  | none =>
   rw [q] at eQ f0
   have eQ : some false = some r := eQ
   cases eQ
   cases q2 : valueAt kb k with
   | none => exact .miss q2
   | some y => rw [q2] at f0; exact f0.elim
  | some d =>
   rw [q] at eQ f0
   cases q2 : valueAt kb k with
   | none => rw [q2] at f0; exact f0.elim
   | some y =>
    rw [q2] at f0
    obtain ⟨vv, f1, f2⟩ := f0
    obtain ⟨x, zQ, e1, e2, e3⟩ := jEe (show andO (f dv d) (eqXd f m l) = some r from eQ)
    rw [e3]
    exact .hit q2 (F h4 f2 h3 f1 e1) (hits0 F rb t e2)
theorem hits1 {f : D → D → Option Bool} {A : Around} (F : EqF X G ρ H s f A) {m : List (P × D)} {kb : List (NestedKey × Addr × Value)} (rb : Paired (R1 G ρ H) m kb) : ∀ {l : List (P × D)} {ka : List (NestedKey × Addr × Value)} {r : Bool}, Paired (R1 G ρ H) l ka → eqXd f m l = some r → HitH X.prog X.w A s kb ka r
 | _, _, r, .nil, eQ => by
  have eQ : some true = some r := eQ
  cases eQ
  exact .nil
 | _, _, r, @Paired.cons _ _ _ (kp, dv) (k, p) l ka ⟨h1, h2, h5, u, h3, h4⟩ t, eQ => by
  have h1 : keyP kp = k := h1
  have h2 : isTp kp = true := h2
  have h5 : PR G H kp (.ref p.1) := h5
  have h3 : RelV u p.2 := h3
  have h4 : DR G ρ H dv u := h4
  have f0 := find1 h2 h5 rb
  rw [h1] at f0
  have eQ : Option.rec (motive := fun _ => Option Bool) (some false) (fun d => andO (f dv d) (eqXd f m l)) (jDf kp m) = some r := eQ
  cases q : jDf kp m with
  | none =>
   rw [q] at eQ f0
   have eQ : some false = some r := eQ
   cases eQ
   cases q2 : atKey kb k with
   | none => exact .miss q2
   | some y => rw [q2] at f0; exact f0.elim
  | some d =>
   rw [q] at eQ f0
   cases q2 : atKey kb k with
   | none => rw [q2] at f0; exact f0.elim
   | some y =>
    rw [q2] at f0
    obtain ⟨vv, f1, f2⟩ := f0
    obtain ⟨x, zQ, e1, e2, e3⟩ := jEe (show andO (f dv d) (eqXd f m l) = some r from eQ)
    rw [e3]
    exact .hit q2 (F h4 f2 h3 f1 e1) (hits1 F rb t e2)
theorem bB_o {α : Type} {b : Bool} {x y : Option α} {r : α} (h : bB b x y = some r) : (b = true ∧ x = some r) ∨ (b = false ∧ y = some r) := by
 cases b with
 | true => exact .inl ⟨rfl, h⟩
 | false => exact .inr ⟨rfl, h⟩
theorem obj_X (g : Same G X) (I : Inv X pins σQ H s) {f : D → D → Option Bool} {A : Around} (F : EqF X G ρ H s f A.in1) (hu : A.units + 20 < cLine) {o o' : O} {a b : Addr} {r : Bool} (xa : OR G ρ H o a) (xb : OR G ρ H o' b) (q : objX f o o' = some r) (neg : Bool) {E Q : Value → Shared → Prop} (hq : Q (.bool (if neg then !r else r)) s) :
  wpAny (model X.prog X.w) A (richCompare (if neg then .NotEq else .Eq) (.ref a) (.ref b)) Q E s := by
 have dics : ∀ {v v' : Nat} {l m : List (P × D)}, OR G ρ H (.dic v l) a → OR G ρ H (.dic v' m) b → objX f (.dic v l) (.dic v' m) = some r → wpAny (model X.prog X.w) A (richCompare (if neg then .NotEq else .Eq) (.ref a) (.ref b)) Q E s := fun {v v' l m} xa xb q => by
  have ta : s.TypeIs (.ref a) "dict" := (IsDm.of xa).ty g I
  have tb : s.TypeIs (.ref b) "dict" := (IsDm.of xb).ty g I
  have q : bB (Bool.and (okR v l 0) (okR v' m 0)) (bB (Nat.beq (lenL l) (lenL m)) (eqXd f m l) (some false)) (bB (Bool.and (okR v l 1) (okR v' m 1)) (bB (Nat.beq (lenL l) (lenL m)) (eqXd f m l) (some false)) none) = some r := q
  rw [jAx, jAx] at q
  rcases bB_o q with ⟨k, q⟩ | ⟨_, q⟩
  ·obtain ⟨k1, k2⟩ := jEd k
   obtain ⟨ka, ra, pa, _, _⟩ := as0 xa (jDo k1)
   obtain ⟨kb, rb, pb, _, _⟩ := as0 xb (jDo k2)
   obtain ⟨za, da⟩ := rd0 g I ra
   obtain ⟨zb, db⟩ := rd0 g I rb
   have l1 := Paired.length pa
   have l2 := Paired.length pb
   refine jFK (Q := fun x s' => x = r ∧ s' = s) neg ta tb (by omega) (fun nm E' Q' hr => ?_) fun x hxQ => by rw [hxQ.1]; exact hq
   rcases bB_o q with ⟨k3, q⟩ | ⟨k3, q⟩
   ·have eQ := Nat.eq_of_beq_eq_true k3
    refine PySem.W.keq_samePairsIn (knd := lf0 X.prog X.w) (r := r) za zb da db (fun _ => hits0 F pb pa q) (hr _ ⟨?_, rfl⟩)
    rw [show (ka.length == kb.length) = true by simp; omega, Bool.true_and]
   ·cases q
    have eQ : l.length ≠ m.length := fun zQ => by rw [zQ, Nat.beq_refl] at k3; cases k3
    refine PySem.W.keq_samePairsIn (knd := lf0 X.prog X.w) (r := false) za zb da db (fun zQ => absurd zQ (by omega)) (hr _ ⟨?_, rfl⟩)
    rw [show (ka.length == kb.length) = false by simp; omega, Bool.false_and]
  ·rcases bB_o q with ⟨k, q⟩ | ⟨_, q⟩
   ·obtain ⟨k1, k2⟩ := jEd k
    obtain ⟨ka, ra, pa, _, _⟩ := as1 xa (jDo k1)
    obtain ⟨kb, rb, pb, _, _⟩ := as1 xb (jDo k2)
    have za := (rd1 g I ra).1
    have zb := (rd1 g I rb).1
    have da := keys1 g I ra (keysT (xs := []) pa)
    have db := keys1 g I rb (keysT (xs := []) pb)
    have l1 := Paired.length pa
    have l2 := Paired.length pb
    have rm : (nestedKind X.prog X.w).room A.in1 := by show A.units + 1 + 8 < cLine; omega
    refine jFK (Q := fun x s' => x = r ∧ s' = s) neg ta tb (by omega) (fun nm E' Q' hr => ?_) fun x hxQ => by rw [hxQ.1]; exact hq
    rcases bB_o q with ⟨k3, q⟩ | ⟨k3, q⟩
    ·have eQ := Nat.eq_of_beq_eq_true k3
     refine jFo (r := r) rm za zb da db (fun _ => hits1 F pb pa q) (hr _ ⟨?_, rfl⟩)
     rw [show (ka.length == kb.length) = true by simp; omega, Bool.true_and]
    ·cases q
     have eQ : l.length ≠ m.length := fun zQ => by rw [zQ, Nat.beq_refl] at k3; cases k3
     refine jFo (r := false) rm za zb da db (fun zQ => absurd zQ (by omega)) (hr _ ⟨?_, rfl⟩)
     rw [show (ka.length == kb.length) = false by simp; omega, Bool.false_and]
   ·cases q
 cases o with
 | lst l => cases o' with
  | lst m =>
   cases xa with
   | @lst _ _ vs ea rl =>
    cases xb with
    | @lst _ _ ws eb rm =>
     have q : bB (Nat.beq (lenL l) (lenL m)) (eqXl f l m) (some false) = some r := q
     rw [jAx, jAx] at q
     obtain ⟨ia, na, va, ha, _⟩ := I.lst ea
     obtain ⟨ib, nb, vb, hb, _⟩ := I.lst eb
     have la : s.heap.IsList a ia.toArray := ⟨_, ha, rfl, na, rfl⟩
     have lb : s.heap.IsList b ib.toArray := ⟨_, hb, rfl, nb, rfl⟩
     have z1 : ia.length = l.length := by rw [← va.length, ← rl.length]
     have z2 : ib.length = m.length := by rw [← vb.length, ← rm.length]
     rcases bB_o q with ⟨k, q⟩ | ⟨k, q⟩
     ·have eQ := Nat.eq_of_beq_eq_true k
      obtain ⟨eQ', h1, h2⟩ := jIu F rl rm va vb eQ q
      refine jHW neg la lb (by simp; omega) (by omega) (eQ := eQ') (fun j j1 j2 => h1 j _ _ ?_ ?_) ?_
      ·rw [← List.getElem?_toArray]; exact Array.getElem?_eq_getElem j1
      ·rw [← List.getElem?_toArray]; exact Array.getElem?_eq_getElem j2
      ·rw [List.size_toArray, z1, ← h2]; exact hq
     ·cases q
      have eQ : l.length ≠ m.length := fun zQ => by rw [zQ, Nat.beq_refl] at k; cases k
      refine rcX_len neg la lb (by simp; omega) (by omega) ?_
      cases neg <;> exact hq
  | _ => cases q
 | dic v l => cases o' with
  | dic v' m => exact dics xa xb q
  | _ => cases q
 | _ => cases q
theorem none_X (g : Same G X) (I : Inv X pins σQ H s) (S : Sim G ρ h H) {A : Around} (hu : A.units + 20 < cLine) {k : Nat} {a : Addr} {r : Bool} (eQ : atR ρ k = some a) (q : isObj h k = some r) (neg : Bool) {E Q : Value → Shared → Prop} (hq : Q (.bool (if neg then !r else r)) s) :
  wpAny (model X.prog X.w) A (richCompare (if neg then .NotEq else .Eq) (.ref a) .none) Q E s := by
 unfold isObj at q
 cases k1 : h.get k with
 | none => rw [k1] at q; cases q
 | some o =>
  rw [k1] at q
  obtain ⟨a', eQ', x⟩ := S.get k1
  rw [eQ] at eQ'; cases eQ'
  cases o with
  | lst l =>
   cases x with
   | @lst _ _ vs ea rl =>
    cases (show some false = some r from q)
    obtain ⟨ia, na, va, ha, _⟩ := I.lst ea
    exact jEH neg ⟨_, ha, rfl, na, rfl⟩ (by omega) (by cases neg <;> exact hq)
  | dic v l =>
   cases (show some false = some r from q)
   exact jEI neg ((IsDm.of x).ty g I) (by omega) (by cases neg <;> exact hq)
  | _ => cases q
theorem jIJ {A : Around} {a : Addr} {r : Bool} (k : ∀ (E Q : Value → Shared → Prop), Q (.bool r) s → wpAny (model X.prog X.w) A (richCompare .Eq (.ref a) .none) Q E s) : EqIn X.prog X.w A s (.ref a) .none r := fun E Q hq => by
 unfold eqBool
 refine wpAny_holding ?_
 refine PySem.wpAny_ite_split (fun hab => absurd (eq_of_beq hab) nofun) (fun _ => ?_)
 exact wpAny_bind (k E _ (wpAny_truthy_bool hq))
theorem eqX_ok (g : Same G X) (I : Inv X pins σQ H s) (S : Sim G ρ h H) : ∀ (n : Nat) {A : Around}, A.units + (51 + n) < cLine → EqF X G ρ H s (eqX h n) A
 | 0, A, _ => fun _ _ _ _ q => nomatch q
 | n + 1, A, hu => by
  rename_i x y vx vy u w r
  intro rx ry ru rw' q
  have ih : EqF X G ρ H s (eqX h n) A.in1 := eqX_ok g I S n (by show A.units + 1 + (51 + n) < cLine; omega)
  cases rx with
  | @p p _ rp =>
   cases ry with
   | @p p' _ rq =>
    have q : bB (Bool.or (isFn p) (isFn p')) none (some (eqP 60 p p')) = some r := q
    rcases bB_o q with ⟨_, q⟩ | ⟨n0, q⟩
    ·cases q
    ·cases n1 : isFn p with
     | true => rw [n1] at n0; cases n0
     | false =>
      cases n2 : isFn p' with
      | true => rw [n1, n2] at n0; cases n0
      | false =>
       cases q
       have b1 := dep_le rp n1
       have c1 := rp.dp n1
       have c2 := rq.dp n2
       rw [jDV 60 p p' _ _ rp rq (by omega) n1 n2]
       refine (SeqAt.eqAt_reads _ _ A s _ _ [] [] (jAX g I rp ru n1) (jAX g I rq rw' n2) c1.2.1 c2.2.1 ?_).inModel _ _
       have := Nat.min_le_left (PyData.depth (pyP p)) (PyData.depth (pyP p'))
       have := c1.2.2
       omega
   | ref => cases q
   | mt => cases q
  | mt => cases q
  | @ref k a ea =>
   obtain rfl : u = Value.ref a :=
      ru
   cases ry with
   | mt => cases q
   | @p p' _ rq =>
    have q : bB (jCk p') (isObj h k) none = some r := q
    rcases bB_o q with ⟨k1, q⟩ | ⟨_, q⟩
    ·cases rq with
     | non =>
      obtain rfl : w = Value.none := rw'
      exact jIJ fun E Q hq => none_X g I S (by omega) ea q false hq
     | _ => cases k1
    ·cases q
   | @ref k' b eb =>
    obtain rfl : w = Value.ref b := rw'
    have q : bB (Nat.beq k k') (some true) (refX (eqX h n) h k k') = some r := q
    rcases bB_o q with ⟨k1, q⟩ | ⟨k1, q⟩
    ·cases q
     have := Nat.eq_of_beq_eq_true k1
     subst this
     rw [ea] at eb; cases eb
     exact (SeqAt.EqAt.same _).inModel _ _
    ·have q : Option.rec (motive := fun _ => Option Bool) none (fun o => Option.rec (motive := fun _ => Option Bool) none (fun o' => objX (eqX h n) o o') (h.get k')) (h.get k) = some r := q
     cases g1 : h.get k with
     | none => rw [g1] at q; cases q
     | some o =>
      rw [g1] at q
      cases g2Q : h.get k' with
      | none => rw [g2Q] at q; cases q
      | some o' =>
       rw [g2Q] at q
       obtain ⟨a', e1, xa⟩ := S.get g1
       rw [ea] at e1; cases e1
       obtain ⟨b', e2, xb⟩ := S.get g2Q
       rw [eb] at e2; cases e2
       have ne : a ≠ b := fun zQ => by
        subst zQ
        unfold atR at ea eb
        by_cases c1 : k < ρ.length
        ·by_cases c2 : k' < ρ.length
         ·rw [if_pos c1] at ea
          rw [if_pos c2] at eb
          obtain ⟨l1, e1⟩ := List.getElem?_eq_some_iff.mp ea
          obtain ⟨l2, e2⟩ := List.getElem?_eq_some_iff.mp eb
          have := (List.getElem_inj S.nd).mp (e1.trans e2.symm)
          have : k = k' := by omega
          rw [this, Nat.beq_refl] at k1
          cases k1
         ·rw [if_neg c2] at eb; cases eb
        ·rw [if_neg c1] at ea; cases ea
       exact SeqAt.EqIn.of_refs ne fun E Q hq => obj_X g I ih (by omega) xa xb q false hq
theorem jHL (g : Same G X) (I : Inv X pins σQ H s) (S : Sim G ρ h H) {A : Around} (hu : A.units + 64 < cLine) {x y : D} {vx vy : V} {u w : Value} {r : Bool} (rx : DR G ρ H x vx) (ry : DR G ρ H y vy) (ru : RelV vx u) (rw' : RelV vy w) (q : topX h x y = some r) (neg : Bool) {E Q : Value → Shared → Prop} (hq : Q (.bool (if neg then !r else r)) s) :
  wpAny (model X.prog X.w) A (richCompare (if neg then .NotEq else .Eq) u w) Q E s := by
 have ih : EqF X G ρ H s (eqX h 12) A.in1 := eqX_ok g I S 12 (by show A.units + 1 + (51 + 12) < cLine; omega)
 cases rx with
 | p => cases q
 | mt => cases q
 | @ref k a ea =>
  obtain rfl : u = Value.ref a :=
     ru
  cases ry with
  | mt => cases q
  | @p p' _ rq =>
   have q : bB (jCk p') (isObj h k) none = some r := q
   rcases bB_o q with ⟨k1, q⟩ | ⟨_, q⟩
   ·cases rq with
    | non =>
     obtain rfl : w = Value.none := rw'
     exact none_X g I S (by omega) ea q neg hq
    | _ => cases k1
   ·cases q
  | @ref k' b eb =>
   obtain rfl : w = Value.ref b := rw'
   have q : Option.rec (motive := fun _ => Option Bool) none (fun o => Option.rec (motive := fun _ => Option Bool) none (fun o' => objX (eqX h 12) o o') (h.get k')) (h.get k) = some r := q
   cases g1 : h.get k with
   | none => rw [g1] at q; cases q
   | some o =>
    rw [g1] at q
    cases g2Q : h.get k' with
    | none => rw [g2Q] at q; cases q
    | some o' =>
     rw [g2Q] at q
     obtain ⟨a', e1, xa⟩ := S.get g1
     rw [ea] at e1; cases e1
     obtain ⟨b', e2, xb⟩ := S.get g2Q
     rw [eb] at e2; cases e2
     exact obj_X g I ih (by omega) xa xb q neg hq
theorem jBO (hK : G.K = X.K) (g : Same G X) (hu : X.A.units + 64 < cLine) : OpR X (compareOp .Eq) (rO2 G oEqB) := by
 intro pins s σQ H x y v u Q I rx ry ⟨ρ, d, eQ, h, S, rdx, rdy, w⟩
 have w : wV G ρ H (Option.rec (motive := fun _ => VR) (oEqA h d eQ) (fun r => fB r fun r => vP (.bl r)) (topX h d eQ)) h Q := w
 cases q : topX h d eQ with
 | none => rw [q] at w; exact opr_eqA hK g hu pins s σQ H _ _ v u Q I rx ry ⟨ρ, d, eQ, h, S, rdx, rdy, w⟩
 | some r =>
  rw [q] at w
  have w : wV G ρ H (fB r fun r => vP (.bl r)) h Q := w
  rw [jAR] at w
  exact jHL g I S hu rdx rdy rx ry q false ⟨.bl r, H, I, rfl, wV.val S w (.p (.bl _))⟩
theorem jDQ (hK : G.K = X.K) (g : Same G X) (hu : X.A.units + 64 < cLine) : OpR X (compareOp .NotEq) (rO2 G oNeB) := by
 intro pins s σQ H x y v u Q I rx ry ⟨ρ, d, eQ, h, S, rdx, rdy, w⟩
 have w : wV G ρ H (Option.rec (motive := fun _ => VR) (oNeA h d eQ) (fun r => fB r fun r => vP (.bl (Bool.not r))) (topX h d eQ)) h Q := w
 cases q : topX h d eQ with
 | none => rw [q] at w; exact opr_neA hK g hu pins s σQ H _ _ v u Q I rx ry ⟨ρ, d, eQ, h, S, rdx, rdy, w⟩
 | some r =>
  rw [q] at w
  have w : wV G ρ H (fB r fun r => vP (.bl (Bool.not r))) h Q := w
  rw [jAR] at w
  exact jHL g I S hu rdx rdy rx ry q true ⟨.bl (!r), H, I, rfl, wV.val S w (.p (.bl _))⟩
theorem bv_eqB : BV oEqB := fun h x y => by
 show Option.rec (motive := fun _ => VR) (oEqA h x y) (fun r => fB r fun r => vP (.bl r)) (topX h x y) = .bad ∨ ∃ k, Option.rec (motive := fun _ => VR) (oEqA h x y) (fun r => fB r fun r => vP (.bl r)) (topX h x y) = .val (.p (.bl k))
 cases topX h x y with
 | none => exact bv_eqA h x y
 | some r => exact .inr ⟨r, jAR r _⟩
theorem jFV : BV oNeB := fun h x y => by
 show Option.rec (motive := fun _ => VR) (oNeA h x y) (fun r => fB r fun r => vP (.bl (Bool.not r))) (topX h x y) = .bad ∨ ∃ k, Option.rec (motive := fun _ => VR) (oNeA h x y) (fun r => fB r fun r => vP (.bl (Bool.not r))) (topX h x y) = .val (.p (.bl k))
 cases topX h x y with
 | none => exact bv_neA h x y
 | some r => exact .inr ⟨Bool.not r, jAR r _⟩
end
end Mi

namespace Mi
open PySem PySem.Spec L2
open PyProof.Rows hiding St
end Mi

namespace L2
open PySem
open PySem.Spec
open PyProof.Rows
theorem jHz (l : Addr) (items : Array Value) (n : Nat) (dd : Option Addr) (sl : Array (Option Value)) (x : Int) (u : Tok) (c0 : (decide (x < -(2 ^ 63)) || decide (x ≥ 2 ^ 63)) = false) (c1 : (items.isEmpty || x == 1) = true) :
  Meets (Builtin.«tuple.__mul__» ⟨[.ref l, .int x u], []⟩) (fun _ R s => s.heap.get? l = some { cls := .type "tuple", dict := dd, data := .seq items n, slots := sl } ∧ R (.ok (.ret (Value.ref l))) s) :=
 .of_wp fun prog w A R s h =>
  by
  obtain ⟨hpQ, g, d, tk, os⟩ := s
  obtain ⟨hl, h⟩ := h
  have f1 := AutoSeq1.idx_int
  wp_walk
     using wpAny_loadPart' hl
  repeat (first
   | (refine
      wpAny_ite_false (decide_eq_false (by rw [c0]; exact Bool.false_ne_true)) ?_; wp_walk using wpAny_loadPart' hl)
   | (refine wpAny_ite_true (decide_eq_true c1) ?_; wp_walk using wpAny_loadPart' hl))
  exact ⟨_, rfl, h⟩
theorem jHy (l : Addr) (items : Array Value) (n : Nat) (dd : Option Addr) (sl : Array (Option Value)) (x : Int) (u : Tok) (c0 : (decide (x < -(2 ^ 63)) || decide (x ≥ 2 ^ 63)) = false) (c1 : (items.isEmpty || x == 1) = false) (c2 : (decide (x ≤ 0) || items.isEmpty) = true) :
  Meets (Builtin.«tuple.__mul__» ⟨[.ref l, .int x u], []⟩) (fun _ R s =>
     s.heap.get? l = some { cls := .type "tuple", dict := dd, data := .seq items n, slots := sl } ∧
   R (.ok (.ret (Value.ref s.heap.objs.size))) { s with heap := s.heap.push { cls := Value.type "tuple", data := Data.seq #[] }, toks := s.toks }) :=
 .of_wp fun prog w A R s h =>
  by
  obtain ⟨hpQ, g, d, tk, os⟩ := s
  obtain ⟨hl, h⟩ := h
  have f1 := AutoSeq1.idx_int
  wp_walk
     using wpAny_loadPart' hl
  repeat (first
   | (refine
      wpAny_ite_false (decide_eq_false (by rw [c0]; exact Bool.false_ne_true)) ?_; wp_walk using wpAny_loadPart' hl)
   | (refine
      wpAny_ite_false (decide_eq_false (by rw [c1]; exact Bool.false_ne_true)) ?_; wp_walk using wpAny_loadPart' hl)
   | (refine wpAny_ite_true (decide_eq_true c2) ?_; wp_walk using wpAny_loadPart' hl))
  exact ⟨_, rfl, h⟩
def rRepS (K : PySem.W.Frag) : R2 := fun x y H Q => ∃ l k xs, x = .ref l ∧ y = .int k ∧ SqT K H l xs ∧ xs ≠ [] ∧ ((k = 1 ∧ Q (.ref l) H) ∨ (-(2 ^ 63) ≤ k ∧ k ≤ 0 ∧ ∀ p, H p = none → Q (.ref p) (upd H p (.tup []))))
theorem op_repS {X : Cx} : OpR X (binaryOp .Mult) (rRepS X.K) := by
 intro pins s σQ H x y v u Q I rx ry h
 obtain ⟨l, k, xs, rfl, rfl, hT, hne, h⟩ := h
 cases rx
 obtain ⟨t, rfl⟩ := ry
 obtain ⟨its, r, ⟨⟨cls, dd, data, sl⟩, hoQ, hc, n, hd⟩, hs⟩ := I.tuple hT
 simp only at hc hd
 subst hc hd
 have hle : its.length = xs.length :=
    r.length.symm
 have hn : its ≠ [] := fun eQ => hne (by
  rw [eQ] at hle
  exact
     List.eq_nil_of_length_eq_zero hle.symm)
 have hi : its.toArray.isEmpty = false :=
    by
  cases its with
  | nil => exact absurd rfl hn
  | cons a b => rfl
 rcases h with ⟨rfl, q⟩ | ⟨k0, k1, q⟩
 ·refine wpAny_binaryOp_repeat_ref (T := "tuple") (U := "int") (by decide) ⟨_, hoQ, rfl⟩ (fun s' => typeIs_int s' 1 t) noFill_tuple_mul F.fills_int_mul F.slot_int_rmul repeat_tuple F.slot_int_index.lookup
   (call_meets F.slot_int_rmul (typeIs_int s 1 t) F.entry_int_rmul (F.args_int_rmul_2 _ _) (int_rmul_tuple 1 t l its.toArray n dd sl)
    ⟨hoQ, rfl, ⟨_, hoQ, rfl⟩, call_meets F.slot_tuple_mul ⟨_, hoQ, rfl⟩ F.entry_tuple_mul (F.args_tuple_mul_2 _ _) (jHz l its.toArray n dd sl 1 t (by decide) (by rw [hi]; rfl)) ⟨hoQ, ?_⟩⟩)
  exact ⟨.ref l, H, I, rfl, q⟩
 ·have c0 : (decide (k < -(2 ^ 63)) || decide (k ≥ 2 ^ 63)) = false := by
   rw
     [decide_eq_false (by omega), decide_eq_false (by omega)] <;> rfl
  have c1 : (its.toArray.isEmpty || k == 1) = false :=
     by
   rw [hi, Bool.false_or]
   exact
      beq_eq_false_iff_ne.mpr (by omega)
  have c2 : (decide (k ≤ 0) || its.toArray.isEmpty) = true := by
   rw [decide_eq_true k1]; rfl
  refine wpAny_binaryOp_repeat_ref (T := "tuple") (U := "int") (by decide) ⟨_, hoQ, rfl⟩ (fun s' => typeIs_int s' k t) noFill_tuple_mul F.fills_int_mul F.slot_int_rmul repeat_tuple F.slot_int_index.lookup
   (call_meets
      F.slot_int_rmul (typeIs_int s k t) F.entry_int_rmul (F.args_int_rmul_2 _ _) (int_rmul_tuple k t l its.toArray n dd sl)
    ⟨hoQ, rfl, ⟨_, hoQ, rfl⟩, call_meets F.slot_tuple_mul ⟨_, hoQ, rfl⟩ F.entry_tuple_mul (F.args_tuple_mul_2 _ _) (jHy l its.toArray n dd sl k t c0 c1 c2) ⟨hoQ, ?_⟩⟩)
  refine ⟨.ref s.heap.objs.size, _, I.laid (t' := s.toks) (o := .tup []) (fun b ob q => Heap.get?_push_of_some _ q) (Nat.le_refl _) ?_, rfl, q _ (I.hok.fresh (Nat.le_refl _))⟩
  exact ⟨by rw [sizeLine_eq]; decide, [], .nil, IsTup.new _ _⟩
end L2
namespace Mi
open PySem PySem.Spec L2
open PyProof.Rows hiding St
section
variable {G : Gi} {X : Cx}
theorem jA6 (hK : G.K = X.K) : OpR X (binaryOp .Mult) (rO2 G jAM) := by
 refine jAS (jC2 (opr_mul hK) op_repS) fun x y H Q ⟨ρ, d, eQ, h, S, rx, ry, w⟩ => ?_
 have old : wV G ρ H (oMul h d eQ) h Q → rO2 G oMul x y H Q ∨ rRepS X.K x y H Q := fun w => .inl ⟨ρ, d, eQ, h, S, rx, ry, w⟩
 cases rx with
 | mt s r => exact old w
 | ref e1 => exact old w
 | p r =>
  cases r with
  | @tup dd l a vs sq r hd hzQ hc =>
   rcases jAp ry with zQ | ⟨j, rfl, rfl⟩
   ·have w : wV G ρ H (jAI eQ (fun j => bB (isN l) (bB (iEq j (.ofNat 1)) (vP (.tup dd l)) (bB (iLe j (.ofNat 0)) (bB (i62 j) (vP (.tup 1 [])) .bad) (oMul h (.p (.tup dd l)) eQ))) .bad) .bad) h Q := w
    rw [zQ] at w; exact w.elim
   ·have w : wV G ρ H (bB (isN l) (bB (iEq j (.ofNat 1)) (vP (.tup dd l)) (bB (iLe j (.ofNat 0)) (bB (i62 j) (vP (.tup 1 [])) .bad) (oMul h (.p (.tup dd l)) (.p (.int j))))) .bad) h Q := w
    obtain ⟨w0, w⟩ := bB_v w
    have ne : vs ≠ [] := fun zQ => by
     subst zQ
     cases r
     cases w0
    rw [jBw, jBZ] at w
    by_cases h1 : j = Int.ofNat 1
    ·rw [bBt (decide_eq_true h1)] at w
     exact .inr ⟨a, j, vs, rfl, rfl, by rw [← hK]; exact sq, ne, .inl ⟨h1, wV.val S w (.p (.tup sq r hd hzQ hc))⟩⟩
    ·rw [bBf (decide_eq_false h1)] at w
     by_cases h2 : j ≤ Int.ofNat 0
     ·rw [bBt (decide_eq_true h2)] at w
      obtain ⟨w1, w⟩ := bB_v w
      refine .inr ⟨a, j, vs, rfl, rfl, by rw [← hK]; exact sq, ne, .inr ⟨(i62_b w1).1, h2, fun p fr => ?_⟩⟩
      obtain ⟨S1, E1, s1Q⟩ := S.newT (vs := []) fr
      exact w ρ _ _ E1 S1 (.p (PR.tups s1Q .nil (fun x hxQ => nomatch hxQ) ⟨by decide, by decide⟩))
     ·rw [bBf (decide_eq_false h2)] at w
      exact old w
  | non => exact old w
  | bl => exact old w
  | int => exact old w
  | str => exact old w
  | fn => exact old w
end
end Mi

namespace Mi
open PySem PySem.Spec L2
open PyProof.Rows hiding St
end Mi

namespace Mi
open PySem PySem.Spec L2
open PyProof.Rows hiding St
noncomputable section
def anyT (l : List P) : Bool := List.rec (motive := fun _ => Bool) false (fun a _ ih => Bool.or (truP a) ih) l
end
theorem pln_tru {p : P} (h : plnP p = true) : (pyP p).truthy = truP p ∧ (pyP p).plain = true ∧ (pyP p).fits63 ∧ isFn p = false := by
 cases p with
 | non => simp only [pyP]; exact ⟨rfl, rfl, trivial, rfl⟩
 | bl b => simp only [pyP]; exact ⟨rfl, rfl, trivial, rfl⟩
 | int i =>
  simp only [pyP]
  refine ⟨?_, rfl, trivial, rfl⟩
  show (i != 0) = Bool.not (iEq i (.ofNat 0))
  rw [jBw]
  show (!(i == 0)) = !(decide (i = 0))
  by_cases q : i = 0
  ·subst q; rfl
  ·rw [beq_eq_false_iff_ne.mpr q, decide_eq_false q]
 | str => exact nomatch h
 | tup => exact nomatch h
 | fn => exact nomatch h
theorem jHZ : ∀ {l : List P}, allL plnP l = true → (pyPs l).any PyData.truthy = anyT l ∧ (pyPs l).all PyData.truthy = allT l ∧ PyData.plainAll (pyPs l) = true ∧ (∀ x ∈ pyPs l, x.fits63) ∧ ∀ p ∈ l, isFn p = false
 | [], _ => by simp only [pyPs]; exact ⟨rfl, rfl, rfl, fun _ h => (List.not_mem_nil h).elim, fun _ h => (List.not_mem_nil h).elim⟩
 | p :: l, h => by
  have h1 := jG8 h p List.mem_cons_self
  have h2 : allL plnP l = true := jJb fun x hxQ => jG8 h x (List.mem_cons_of_mem _ hxQ)
  obtain ⟨a1, a2, a3, a4⟩ := pln_tru h1
  obtain ⟨b1, b2, b3, b4, b5⟩ := jHZ h2
  simp only [pyPs]
  refine ⟨?_, ?_, ?_, fun x hxQ => ?_, fun x hxQ => ?_⟩
  ·rw [List.any_cons, a1, b1]; rfl
  ·rw [List.all_cons, a1, b2]; rfl
  ·rw [PyData.plainAll, a2, b3]; rfl
  ·rcases List.mem_cons.mp hxQ with rfl | hxQ
   ·exact a3
   ·exact b4 x hxQ
  ·rcases List.mem_cons.mp hxQ with rfl | hxQ
   ·exact a4
   ·exact b5 x hxQ
section
variable {X : Cx} {G : Gi}
theorem jG4 (hc : X.calm = true) (g : Same G X) : CallR X (.builtin "all") (rC1 G jFz) := by
 intro pins s σQ H xs us Q I r ⟨x, ρ, d, h, eQ, S, rd, w⟩
 subst eQ
 cases r with
 | cons r1 r2 =>
  cases r2
  have w : wV G ρ H (seqOf h d (fun l => Option.rec (motive := fun _ => VR) .bad (fun r => bB (allL plnP r) (fB (allT r) fun b => vP (.bl b)) .bad) (jC7 l)) .bad) h Q := w
  rcases jEt S rd with zQ | ⟨l, a, vs, rfl, sq, rl, zQ⟩
  ·rw [zQ] at w; exact w.elim
  ·rw [zQ] at w
   cases r1
   cases q : jC7 l with
   | none => rw [q] at w; exact w.elim
   | some r =>
    rw [q] at w
    have eQ := jEJ q
    subst eQ
    have pr := rl.down
    obtain ⟨w1, w⟩ := bB_v (show wV G ρ H (bB (allL plnP r) (fB (allT r) fun b => vP (.bl b)) .bad) h Q from w)
    rw [jAR] at w
    obtain ⟨b1, b2, b3, b4, b5⟩ := jHZ w1
    rw [g.K] at sq
    rcases sq with sq | sq
    ·obtain ⟨its, rv, p, hzQ⟩ := I.tuple sq
     refine PySem.W.all_tuple_data (I.ok.hd hc) p (jCN g I pr rv b5) b3 b4 fun h' tk hk => ?_
     rw [b2]
     exact ⟨.bl (allT r), H, I.kept (t' := tk) hk, rfl, wV.val S w (.p (.bl _))⟩
    ·obtain ⟨its, rv, p, hzQ⟩ := I.list sq
     refine PySem.W.all_list_data (I.ok.hd hc) p.isList (jCN g I pr rv b5) b3 b4 fun h' tk hk => ?_
     rw [b2]
     exact ⟨.bl (allT r), H, I.kept (t' := tk) hk, rfl, wV.val S w (.p (.bl _))⟩
end
end Mi

namespace Mi
open PySem PySem.Spec L2
open PyProof.Rows hiding St
noncomputable section
end
section
variable {X : Cx} {G : Gi}
theorem jCO {ρ : List Addr} {H : Hp} {h : EH} {old : EH → D → D → VR} {f : List Sk → List Sk → Bool} {d eQ : D} {x y : V} {Q : VK} (w : wV G ρ H (ordT old f h d eQ) h Q) (rx : DR G ρ H d x) (ry : DR G ρ H eQ y) :
  wV G ρ H (old h d eQ) h Q ∨ ∃ p q, PR G H p x ∧ PR G H q y ∧ isFn p = false ∧ isFn q = false ∧ pyP p ≠ .none ∧ alk p q = true ∧ wV G ρ H (vP (.bl (f (tkP p) (tkP q)))) h Q := by
 cases rx with
 | ref => exact .inl w
 | mt => exact .inl w
 | @p p _ rp =>
  cases p with
  | tup dd l =>
   have w : wV G ρ H (pOf eQ (fun q => bB (Bool.and (alk (.tup dd l) q) (Bool.not (isFn q))) (fB (f (tkP (.tup dd l)) (tkP q)) fun b => vP (.bl b)) .bad) .bad) h Q := w
   cases ry with
   | ref => exact w.elim
   | mt => exact w.elim
   | @p q _ rq =>
    obtain ⟨w1, w⟩ := bB_v (show wV G ρ H (bB (Bool.and (alk (.tup dd l) q) (Bool.not (isFn q))) (fB (f (tkP (.tup dd l)) (tkP q)) fun b => vP (.bl b)) .bad) h Q from w)
    obtain ⟨w1, w2⟩ := jEd w1
    rw [jAR] at w
    refine .inr ⟨_, _, rp, rq, rfl, ?_, (by simp only [pyP]; intro zQ; cases zQ), w1, w⟩
    cases zQ : isFn q with
    | false => rfl
    | true => rw [zQ] at w2; cases w2
  | non => exact .inl w
  | bl => exact .inl w
  | int => exact .inl w
  | str => exact .inl w
  | fn => exact .inl w
theorem jEU (p q : P) : lxS (tkP p) (tkP q) = PySem.W.dataLt (pyP p) (pyP q) := by
 rw [tkP_eq, tkP_eq, lxS_eq]
 rfl
theorem jCP (g : Same G X) (hu : X.A.units + 64 < cLine) {H : Hp} {p q : P} {x y : V} (rp : PR G H p x) (n : isFn p = false) : X.A.units + min (pyP p).depth (pyP q).depth < cLine := by
 have d1 := (rp.dp n).2.2
 have d2 := dep_le rp n
 have := Nat.min_le_left (pyP p).depth (pyP q).depth
 omega
theorem jGh (g : Same G X) (hu : X.A.units + 64 < cLine) : OpR X (compareOp .Lt) (rO2 G oLtA) := by
 intro pins s σQ H x y v u Q I rx ry ⟨ρ, d, eQ, h, S, rdx, rdy, w⟩
 rcases jCO w rdx rdy with w | ⟨p, q, rp, rq, n1, n2, hn, al, w⟩
 ·exact opr_lt pins s σQ H x y v u Q I rx ry ⟨ρ, d, eQ, h, S, rdx, rdy, w⟩
 ·refine PySem.W.lt_data (jAX g I rp rx n1) (jAX g I rq ry n2) (jGa p q al) hn (jCP g hu rp n1 (y := y)) ?_
  rw [jEU] at w
  exact ⟨.bl _, H, I, rfl, wV.val S w (.p (.bl _))⟩
theorem opr_gtA (g : Same G X) (hu : X.A.units + 64 < cLine) : OpR X (compareOp .Gt) (rO2 G oGtA) := by
 intro pins s σQ H x y v u Q I rx ry ⟨ρ, d, eQ, h, S, rdx, rdy, w⟩
 rcases jCO w rdx rdy with w | ⟨p, q, rp, rq, n1, n2, hn, al, w⟩
 ·exact opr_gt pins s σQ H x y v u Q I rx ry ⟨ρ, d, eQ, h, S, rdx, rdy, w⟩
 ·refine PySem.W.gt_data (jAX g I rp rx n1) (jAX g I rq ry n2) (jGa p q al) hn (jCP g hu rp n1 (y := y)) ?_
  rw [jEU] at w
  exact ⟨.bl _, H, I, rfl, wV.val S w (.p (.bl _))⟩
theorem jIc (g : Same G X) (hu : X.A.units + 64 < cLine) : OpR X (compareOp .LtE) (rO2 G oLeA) := by
 intro pins s σQ H x y v u Q I rx ry ⟨ρ, d, eQ, h, S, rdx, rdy, w⟩
 rcases jCO w rdx rdy with w | ⟨p, q, rp, rq, n1, n2, hn, al, w⟩
 ·exact opr_le pins s σQ H x y v u Q I rx ry ⟨ρ, d, eQ, h, S, rdx, rdy, w⟩
 ·refine PySem.W.le_data (jAX g I rp rx n1) (jAX g I rq ry n2) (jGa p q al) hn (jCP g hu rp n1 (y := y)) ?_
  rw [jEU] at w
  exact ⟨.bl _, H, I, rfl, wV.val S w (.p (.bl _))⟩
theorem opr_geA (g : Same G X) (hu : X.A.units + 64 < cLine) : OpR X (compareOp .GtE) (rO2 G oGeA) := by
 intro pins s σQ H x y v u Q I rx ry ⟨ρ, d, eQ, h, S, rdx, rdy, w⟩
 rcases jCO w rdx rdy with w | ⟨p, q, rp, rq, n1, n2, hn, al, w⟩
 ·exact opr_ge pins s σQ H x y v u Q I rx ry ⟨ρ, d, eQ, h, S, rdx, rdy, w⟩
 ·refine PySem.W.ge_data (jAX g I rp rx n1) (jAX g I rq ry n2) (jGa p q al) hn (jCP g hu rp n1 (y := y)) ?_
  rw [jEU] at w
  exact ⟨.bl _, H, I, rfl, wV.val S w (.p (.bl _))⟩
theorem jG6 {old : EH → D → D → VR} {f : List Sk → List Sk → Bool} (b : BV old) : BV (ordT old f) := by
 intro h x y
 cases x with
 | ref => exact b h _ y
 | mt => exact b h _ y
 | p p =>
  cases p with
  | tup dd l =>
   cases y with
   | ref => exact .inl rfl
   | mt => exact .inl rfl
   | p q =>
    show bB (Bool.and (alk (.tup dd l) q) (Bool.not (isFn q))) (fB (f (tkP (.tup dd l)) (tkP q)) fun b => vP (.bl b)) .bad = .bad ∨ ∃ k, bB (Bool.and (alk (.tup dd l) q) (Bool.not (isFn q))) (fB (f (tkP (.tup dd l)) (tkP q)) fun b => vP (.bl b)) .bad = .val (.p (.bl k))
    cases Bool.and (alk (.tup dd l) q) (Bool.not (isFn q)) with
    | false => exact .inl rfl
    | true => exact .inr ⟨f (tkP (.tup dd l)) (tkP q), jAR (f (tkP (.tup dd l)) (tkP q)) fun b => vP (.bl b)⟩
  | non => exact b h _ y
  | bl => exact b h _ y
  | int => exact b h _ y
  | str => exact b h _ y
  | fn => exact b h _ y
theorem bv_ltA : BV oLtA := jG6 bv_lt
theorem bv_leA : BV oLeA := jG6 bv_le
theorem bv_gtA : BV oGtA := jG6 bv_gt
end
end Mi

namespace PySem
end PySem
namespace Mi
open PySem PySem.Spec L2
open PyProof.Rows hiding St
end Mi

namespace Mi
open PySem PySem.Spec L2
open PyProof.Rows hiding St
end Mi

namespace Mi
open PySem PySem.Spec L2
open PyProof.Rows hiding St
noncomputable section
end
section
variable {X : Cx} {G : Gi}
theorem isT_some {ρ : List Addr} {H : Hp} {h : EH} {old : EH → D → D → VR} {f : Bool → Bool} {d eQ : D} {y : V} {Q : VK} (w : wV G ρ H (isT f old h d eQ) h Q) (ry : DR G ρ H eQ y) :
  wV G ρ H (old h d eQ) h Q ∨ ∃ b, y = .bl b ∧ wV G ρ H (vP (.bl (f (isBB b d)))) h Q := by
 cases ry with
 | ref => exact .inl w
 | mt => exact .inl w
 | p rq => cases rq with
  | bl b => exact .inr ⟨b, rfl, by rw [← jAR (f (isBB b d)) fun r => vP (.bl r)]; exact w⟩
  | _ => exact .inl w
theorem isBB_ok {ρ : List Addr} {H : Hp} {d : D} {x : V} {v : Value} {b : Bool} (rd : DR G ρ H d x) (rx : RelV x v) : plainIs v (.bool b) = true ∧ (v == .bool b) = isBB b d := by
 cases rd with
 | ref => cases rx; exact ⟨rfl, rfl⟩
 | mt => cases rx; exact ⟨rfl, rfl⟩
 | p rp => cases rp with
  | non => cases rx; exact ⟨rfl, rfl⟩
  | bl cQ => cases rx; refine ⟨rfl, ?_⟩; cases cQ <;> cases b <;> rfl
  | int => obtain ⟨t, rfl⟩ := rx; exact ⟨rfl, rfl⟩
  | str => obtain ⟨t, rfl⟩ := rx; exact ⟨rfl, rfl⟩
  | tup => cases rx; exact ⟨rfl, rfl⟩
  | fn => cases rx; exact ⟨rfl, rfl⟩
theorem jEM : OpR X (compareOp .Is) (rO2 G oIsA) := by
 intro pins s σQ H x y v u Q I rx ry ⟨ρ, d, eQ, h, S, rdx, rdy, w⟩
 rcases isT_some w rdy with w | ⟨b, rfl, w⟩
 ·exact opr_is pins s σQ H x y v u Q I rx ry ⟨ρ, d, eQ, h, S, rdx, rdy, w⟩
 ·cases ry
  obtain ⟨h1, h2⟩ := isBB_ok (b := b) rdx rx
  refine wpAny_is_plain h1 ?_
  rw [h2]
  exact ⟨.bl _, H, I, rfl, wV.val S w (.p (.bl _))⟩
theorem bv_isT {f : Bool → Bool} {old : EH → D → D → VR} (b : BV old) : BV (isT f old) := by
 intro h x y
 cases y with
 | ref => exact b h x _
 | mt => exact b h x _
 | p q => cases q with
  | bl cQ => exact .inr ⟨f (isBB cQ x), jAR (f (isBB cQ x)) fun r => vP (.bl r)⟩
  | non => exact b h x _
  | int => exact b h x _
  | str => exact b h x _
  | tup => exact b h x _
  | fn => exact b h x _
theorem bv_isA : BV oIsA := bv_isT bv_is
end
end Mi

namespace L2
open PySem
open PySem.Spec
open PyProof.Rows
theorem sum_rawT {prog : Program} {w : World} {A : Around} {E : Value → Shared → Prop} {s : Shared} {l : Addr} {its : List Value} {ns : List Int} {Q : Value → Shared → Prop} (hh : A.handled = none) (hl : s.heap.IsTuple l its.toArray) (hi : IntsAre its ns) (h : ∀ h' tk t', (∀ b o, s.heap.get? b = some o → h'.get? b = some o) → Q (.int ns.sum t') { s with heap := h', toks := tk }) : wpAny (model prog w) A (call (.builtin "sum") [.ref l]) Q E s := by
 obtain ⟨xs, eQ⟩ := hi.allInts.items
 have hn : numsOf (intItems xs).toList = ns := by rw [← eQ]; exact hi.numsOf
 rw [nums_intItems] at hn
 rw [eQ] at hl
 have lt : l < s.heap.objs.size := by
  obtain ⟨_, q, _⟩ := hl
  exact Heap.lt_size q
 refine PySem.call_sum_walkG (wpAny_pyIter_tuple hl ⟨_, _, _, _, _, _, numAt xs, rfl, Walks.tuple (A := A.in1) hh s.heap.objs.size l (Nat.ne_of_lt lt) (intItems xs), ⟨⟨_, Heap.get?_push_size _ rfl, rfl, rfl⟩, hl.push _⟩, fun b hb => ?_, (fun _ _ => intItems_at), fun h' tk t' hk => ?_⟩)
 ·have sz : ∀ o : Obj, (s.heap.push o).objs.size = s.heap.objs.size + 1 := fun o => by simp [Heap.push]
  show
     b < (s.heap.push _).objs.size
  rw [sz]
  have hb : b ∈ [s.heap.objs.size, l] := hb
  rcases List.mem_cons.mp hb with zQ | zQ
  ·rw [zQ]; exact Nat.lt_succ_self _
  ·have zQ : b ∈ [l] := zQ
   rw [List.mem_singleton] at zQ
   rw [zQ]; exact Nat.lt_succ_of_lt lt
 ·have := h h' tk t' fun b o q => hk b o (by
   intro zQ
   have zQ : b ∈ [s.heap.objs.size] := zQ
   rw [List.mem_singleton] at zQ
   exact absurd (zQ ▸ Heap.lt_size q) (Nat.lt_irrefl _)) (Heap.get?_push_of_some _ q)
  have sz : (intItems xs).size = xs.size := by simp [intItems]
  rw [sz, preSum_eq, List.take_of_length_le (by simp), hn]
  exact this
end L2
namespace Mi
open PySem PySem.Spec L2
open PyProof.Rows hiding St
noncomputable section
end
section
variable {X : Cx} {G : Gi}
theorem jIS (hc : X.calm = true) : CallR X (.builtin "sum") (fun vs H Q => ∃ (a : Addr) (ns : List Int), vs = [V.ref a] ∧ SqT X.K H a (ns.map V.int) ∧ Q (.int ns.sum) H) := by
 intro pins s σQ H vs us Q I r h
 obtain ⟨a, ns, rfl, hs, q⟩ :=
    h
 obtain ⟨its, rv, hl, _⟩ := I.tuple hs
 rw [Vals.ref1 r]
 exact sum_rawT (I.ok.hd hc) hl rv.ints fun h' tk t' hk => ⟨.int _, H, I.kept hk, ⟨_, rfl⟩, q⟩
theorem jIQ (hK : G.K = X.K) (hc : X.calm = true) : CallR X (.builtin "sum") (rC1 G oSumA) := jAY (jD7 (cr_sumM (G := G) hK hc) (jIS hc)) fun xs H Q ⟨x, ρ, d, h, eQ, S, r, w⟩ => by
 subst eQ
 cases r with
 | ref k => exact .inl ⟨_, ρ, _, h, rfl, S, .ref k, w⟩
 | mt => exact w.elim
 | p rp => cases rp with
  | @tup d l a vs sq rl hd hzQ hc =>
   have w : wV G ρ H (Option.rec (motive := fun _ => VR) .bad (fun ns => fI (sumI ns) fun b => vP (.int b)) (pInts l)) h Q := w
   cases q : pInts l with
   | none => rw [q] at w; exact w.elim
   | some ns =>
    rw [q] at w
    have w := wV.int S (show wV G ρ H (fI (sumI ns) fun b => vP (.int b)) h Q from w)
    rw [jEC] at w
    have ev := jEy rl q
    subst ev
    rw [hK] at sq
    exact .inr ⟨_, ns, rfl, sq, w⟩
  | _ => exact w.elim
end
end Mi

namespace Mi
open PySem PySem.Spec L2
open PyProof.Rows hiding St
noncomputable section
end
theorem jBn : ∀ ns : List Int, upI ns = ns.map fun i => D.p (.int i)
 | [] => rfl
 | i :: ns => congrArg (D.p (.int i) :: ·) (jBn ns)
def Scr (K : PySem.W.Frag) (G : Gi) (ns : List Int) : Prop := ∃ a, G.fa 999 = some a ∧ ∀ ρ h H, Sim G ρ h H → SqL K H a (ns.map V.int)
section
variable {X : Cx} {G : Gi} {W : WX} {Φ : Ph} {pos p2 p3 pos2 : Pos} {a b cQ eQ o : Expr} {es : List Expr} {ca cb ce : CE} {cl : CL}
theorem upI_r {ρ : List Addr} {H : Hp} : ∀ ns : List Int, DRs G ρ H (upI ns) (ns.map V.int)
 | [] => .nil
 | i :: ns => .cons (.p (.int i)) (upI_r ns)
theorem slr_scr {ns : List Int} (hK : G.K = X.K) (hs : Scr X.K G ns) : SlR X (rO3 G (slDS ns)) := slr_weak (sl_list.or (sl_tupA.or sl_str)) fun x lo hi H Q ⟨ρ, d, h, S, rx, w⟩ => by
 cases rx with
 | p r =>
  cases r with
  | @fn k a hk =>
   have w1 : wV G ρ H (bB (Nat.beq k 999) (.new (.lst (cutD (upI ns) lo hi))) .bad) h Q := w
   cases q : Nat.beq k 999 with
   | false => rw [bBf q] at w1; exact w1.elim
   | true =>
    rw [bBt q] at w1
    clear w
    have ek := Nat.eq_of_beq_eq_true q
    subst ek
    obtain ⟨a', h1, h2⟩ := hs
    rw [hk] at h1
    cases h1
    have rl : DRs G ρ H (upI ns) (ns.map V.int) := upI_r ns
    rw [cutD_eq] at w1
    have rc := (rl.drop (HT.sIx (upI ns).length 0 lo)).take (HT.sIx (upI ns).length (upI ns).length hi - HT.sIx (upI ns).length 0 lo)
    rw [rl.length] at rc w1
    exact .inl ⟨a, ns.map V.int, rfl, h2 ρ h H S, fun p fr => wV.newL S w1 rc fr⟩
  | _ => exact w.elim
 | mt => exact w.elim
 | ref => exact w.elim
theorem se_slS {ns : List Int} {lo hi : Option Expr} {cl ch : CO} (hK : G.K = X.K) (hs : Scr X.K G ns) (ha : SE X G W Φ a ca) (hl : SO X G W Φ lo cl) (hh : SO X G W Φ hi ch) : SE X G W Φ (.Subscript a (.Slice lo hi none p2) pos) (cSlS ns ca cl ch) :=
 (pe_slice (slr_scr hK hs) ha hl hh).weak fun σQ H Q ⟨ρ, σd, h, en, S, x⟩ => ⟨ρ, σd, h, en, S, (wE.bind x).imp fun v H1 ⟨ρ1, d, h1, E1, S1, r, x1⟩ =>
  ⟨ρ1, σd, h1, _, _, en.mono E1, S1, x1, fun l ρ2 h2 H2 E2 S2 x2 => ⟨ρ2, σd, h2, _, _, (en.mono E1).mono E2, S2, x2, fun u ρ3 h3 H3 E3 S3 x3 => ⟨ρ3, d, h3, S3, (r.mono E2).mono E3, wE.toV x3⟩⟩⟩⟩
end
end Mi

namespace Mi
open PySem PySem.Spec L2
open PyProof.Rows hiding St
section
variable {Φ : Ph} {σQ σ1 : Env} {h h1 h2 h3 : EH} {a b cQ : CE} {la : CL} {v x y : D} {r : RS}
theorem bE_ok {f : D → EH → RE} : bE (.ok x h) f = f x h := rfl
theorem jFW {f : D → EH → RS} : bES σQ (.ok x h) f = f x h := rfl
theorem bEL_ok {f : D → EH → RL} : bEL (.ok x h) f = f x h := rfl
theorem bL_ok {f : List D → EH → RE} {l : List D} : bL (.ok l h) f = f l h := rfl
theorem jAl {i : Nat} (eQ : nth σQ i = some (some v)) : cVar i Φ σQ h = .ok v h := by unfold cVar; rw [eQ]
theorem v_c {p : P} : cC p Φ σQ h = .ok (.p p) h := rfl
theorem jC4 {f : EH → D → VR} (eQ : a Φ σQ h = .ok x h1) (g : f h1 x = .val v) : cOp1 f a Φ σQ h = .ok v h1 := by
 show bE (a Φ σQ h) _ = _
 rw [eQ]; show (f h1 x).re h1 = _
 rw [g]; rfl
theorem jAE {f : EH → D → D → VR} (eQ : a Φ σQ h = .ok x h1) (e2 : b Φ σQ h1 = .ok y h2) (g : f h2 x y = .val v) : cOp2 f a b Φ σQ h = .ok v h2 := by
 show bE (a Φ σQ h) _ = _
 rw [eQ]; show bE (b Φ σQ h1) _ = _
 rw [e2]; show (f h2 x y).re h2 = _
 rw [g]; rfl
theorem jCa {r : List D} (eQ : a Φ σQ h = .ok x h1) (e2 : la Φ σQ h1 = .ok r h2) : jAb a la Φ σQ h = .ok (x :: r) h2 := by
 show bEL (a Φ σQ h) _ = _
 rw [eQ, bEL_ok, jBs, e2]; rfl
theorem v_nil : cNil Φ σQ h = .ok [] h := rfl
theorem v_if (eQ : a Φ σQ h = .ok x h1) {t : Bool} (g : tru h1 x = some t) {w : RE} (k : (bif t then b Φ σQ h1 else cQ Φ σQ h1) = w) : cIf a b cQ Φ σQ h = w := by
 show bE (a Φ σQ h) _ = _
 rw [eQ]; show tE h1 x (b Φ σQ h1) (cQ Φ σQ h1) .bad = _
 unfold tE
 rw [g]
 cases t <;> exact k
theorem jDh {i : Nat} (eQ : a Φ σQ h = .ok x h1) : jA1 i a Φ σQ h = .nx (setN σQ i (some x)) h1 := by
 show bES σQ (a Φ σQ h) _ = _
 rw [eQ, jFW, jBs]
theorem jDB {s t : CS} (eQ : s Φ σQ h = .nx σ1 h1) (k : t Φ σ1 h1 = r) : sSeq s t Φ σQ h = r := by
 show bSS (s Φ σQ h) _ = _
 rw [eQ]; exact k
theorem w_ret (eQ : a Φ σQ h = .ok x h1) : sRet a Φ σQ h = .rt x h1 := by
 show bES σQ (a Φ σQ h) _ = _
 rw [eQ, jFW, jBs]
theorem w_if {s t : CS} (eQ : a Φ σQ h = .ok x h1) {q : Bool} (g : tru h1 x = some q) (k : (bif q then s Φ σQ h1 else t Φ σQ h1) = r) : sIf a s t Φ σQ h = r := by
 show bES σQ (a Φ σQ h) _ = _
 rw [eQ]; show tE h1 x (s Φ σQ h1) (t Φ σQ h1) .bad = _
 unfold tE
 rw [g]
 cases q <;> exact k
theorem w_seqr {s t : CS} (eQ : s Φ σQ h = .rt v h1) : sSeq s t Φ σQ h = .rt v h1 := by
 show bSS (s Φ σQ h) _ = _
 rw [eQ]; rfl
theorem gdt {b : Bool} {w : VR} (eQ : b = true) : gd b w = w := by rw [eQ]; rfl
theorem v_lst {l : List D} (eQ : la Φ σQ h = .ok l h1) (g : jAG l = true) : cLst la Φ σQ h = .ok (.ref h1.n) (h1.nw (.lst l)) := by
 show bL (la Φ σQ h) _ = _
 rw [eQ, bL_ok, gdt g]
 exact jCT _ _
theorem jB7 {k : Nat} {o : O} (eQ : h.get k = some o) : k < h.n := by
 have := (EH.get_some eQ).1
 rw [← EH.l_len] at this
 exact this
theorem jCB {k : Nat} (eQ : k < h.n) : h.get k = h.t.get k := by
 obtain ⟨n, t⟩ := h
 show Bool.rec (motive := fun _ => Option O) none (t.get k) (Nat.blt k n) = t.get k
 rw [show Nat.blt k n = true from Nat.ble_eq_true_of_le eQ]
theorem put_t {k : Nat} {o : O} (eQ : k < h.n) : (h.put k o).t = h.t.put k o := by
 obtain ⟨n, t⟩ := h
 have eQ : k < n := eQ
 show (fT (t.put (n - 1 - (n - 1 - k)) o) fun t => (⟨n, t⟩ : EH)).t = t.put k o
 rw [fT_eq, show n - 1 - (n - 1 - k) = k by omega]
theorem get_put {k : Nat} {o o1 : O} (eQ : h.get k = some o) : (h.put k o1).get k = some o1 := by
 have lt := jB7 eQ
 rw [jCB (by rw [EH.put_n]; exact lt), put_t lt, Tr.get_put, if_pos rfl]
theorem jBb {k j : Nat} {o o1 o2 : O} (eQ : h.get k = some o) (e2 : h.get j = some o2) (ne : j ≠ k) : (h.put k o1).get j = some o2 := by
 have lt := jB7 eQ
 have lj := jB7 e2
 rw [jCB (by rw [EH.put_n]; exact lj), put_t lt, Tr.get_put, if_neg ne, ← jCB lj, e2]
theorem jAr {o : O} : (h.nw o).get h.n = some o := by
 rw [jCB (by rw [EH.nw_n]; exact Nat.lt_succ_self _), EH.nw_eq]
 show (h.t.put h.n o).get h.n = _
 rw [Tr.get_put, if_pos rfl]
theorem jAm {k : Nat} {o o1 : O} (eQ : h.get k = some o) : (h.nw o1).get k = some o := by
 have lt := jB7 eQ
 rw [jCB (by rw [EH.nw_n]; exact Nat.lt_succ_of_lt lt), EH.nw_eq]
 show (h.t.put h.n o1).get k = _
 rw [Tr.get_put, if_neg (Nat.ne_of_lt lt), ← jCB lt, eQ]
theorem jAo {α : Sort u} {k : Nat} {l : List D} {f : List D → α} {n : α} (g : h.get k = some (.lst l)) : jAw h k f n = f l := by
 unfold jAw
 rw [g]; rfl
theorem jBG {α : Sort u} {k : Nat} {l : List D} {f : Nat → List (P × D) → α} {n : α} (g : h.get k = some (.lst l)) : jBH h k f n = n := by
 unfold jBH
 rw [g]; rfl
theorem o_ix {k : Nat} {l : List D} {i : Int} (g : h.get k = some (.lst l)) (eQ : atD l i = some v) : oIxA h (.ref k) (.p (.int i)) = .val v := by
 show jBH h k _ (oIx h (.ref k) (.p (.int i))) = _
 rw [jBG g]
 show jAw h k _ _ = _
 rw [jAo g]
 show oV (atD l i) _ = _
 rw [eQ]; rfl
theorem w_putA {o i eQ : CE} {k : Nat} {l : List D} {j : Int} {m : Nat} (e1 : eQ Φ σQ h = .ok v h1) (e2 : o Φ σQ h1 = .ok (.ref k) h2) (e3 : i Φ σQ h2 = .ok (.p (.int j)) h3) (g : h3.get k = some (.lst l)) (q : ixD l j = some m) :
  jDO o i eQ Φ σQ h = .nx σQ (h3.put k (.lst (setN l m v))) := by
 show bES σQ (eQ Φ σQ h) _ = _
 rw [e1, jFW, jBs, e2, jFW, e3, jFW]
 show jBH h3 k _ (setD h3 (.ref k) (.p (.int j)) v _ _) = _
 rw [jBG g]
 show jAw h3 k _ _ = _
 rw [jAo g]
 show Option.rec (motive := fun _ => RS) _ _ (ixD l j) = _
 rw [q]
variable {i j : Int}
theorem jEj : oInt h (.p (.int i)) = .val (.p (.int i)) := rfl
theorem o_intb {b : Bool} : oInt h (.p (.bl b)) = .val (.p (.int (bI b))) := rfl
theorem jDu (hj : j ≠ 0) : oMod h (.p (.int i)) (.p (.int j)) = .val (.p (.int (Int.fmod i j))) := by
 show gd (Bool.not (iEq j (.ofNat 0))) (fI (Int.fmod i j) fun r => vP (.int r)) = _
 rw [gdt (by rw [jBw, decide_eq_false (by simpa using hj)]; rfl), jDw]; rfl
theorem o_div (hj : j ≠ 0) (hs : iSm j 1073741824 = true) : oDiv h (.p (.int i)) (.p (.int j)) = .val (.p (.int (Int.fdiv i j))) := by
 show gd (Bool.and (Bool.not (iEq j (.ofNat 0))) (iSm j 1073741824)) (fI (Int.fdiv i j) fun r => vP (.int r)) = _
 rw [gdt (by rw [jBw, decide_eq_false (by simpa using hj), hs]; rfl), jDw]; rfl
theorem jCA : oAdd h (.p (.int i)) (.p (.int j)) = .val (.p (.int (i + j))) := by
 show fI (Int.add i j) (fun r => vP (.int r)) = _
 rw [jDw]; rfl
theorem o_sub : oSub h (.p (.int i)) (.p (.int j)) = .val (.p (.int (i - j))) := by
 show fI (Int.sub i j) (fun r => vP (.int r)) = _
 rw [jDw]; rfl
theorem jES (hs : Bool.or (iSm i n64) (iSm j n64) = true) : jAM h (.p (.int i)) (.p (.int j)) = .val (.p (.int (i * j))) := by
 show gd (Bool.or (iSm i n64) (iSm j n64)) (fI (Int.mul i j) fun r => vP (.int r)) = _
 rw [gdt hs, jDw]; rfl
theorem o_abs : oAbs h (.p (.int i)) = .val (.p (.int i.natAbs)) := by
 show fN i.natAbs (fun n => vP (.int (.ofNat n))) = _
 rw [jA7]; rfl
theorem o_gt : oGtA h (.p (.int i)) (.p (.int j)) = .val (.p (.bl (decide (j < i)))) := by
 show fB (iLt j i) (fun r => vP (.bl r)) = _
 rw [jAR, jF9]; rfl
theorem o_lt : oLtA h (.p (.int i)) (.p (.int j)) = .val (.p (.bl (decide (i < j)))) := by
 show fB (iLt i j) (fun r => vP (.bl r)) = _
 rw [jAR, jF9]; rfl
theorem o_ge : oGeA h (.p (.int i)) (.p (.int j)) = .val (.p (.bl (decide (j ≤ i)))) := by
 show fB (iLe j i) (fun r => vP (.bl r)) = _
 rw [jAR, jBZ]; rfl
theorem jE4 {n : Nat} (h : i.natAbs < n) : iSm i n = true := by
 cases i with
 | ofNat a => exact Nat.ble_eq_true_of_le h
 | negSucc a => exact Nat.ble_eq_true_of_le h
end
noncomputable section
def bBox (cQ : Nat) : CS := (sSeq (jA1 2 (cIf (cOp2 oLtA (cVar 1) (cOp1 jBP (cVar 0))) (cOp2 oIxA (cVar 0) (cVar 1)) (cC (.int (.ofNat 0))))) (sRet (cLst (jAb (cOp2 jAM (cOp1 oAbs (cVar 2)) (cOp1 oInt (cOp2 oGeA (cOp1 oAbs (cVar 2)) (cOp2 oPow (cC (.int (.ofNat 10))) (cC (.int (.ofNat 18))))))) (jAb (cOp2 oAdd (cOp2 oAdd (cOp2 oMod (cOp1 oInt (cVar 2)) (cC (.int (.ofNat 2305843009213693951)))) (cOp2 jAM (cC (.int (.ofNat 39373))) (cVar 1))) (cC (.int (.ofNat cQ)))) (jAb (cC (.int (.ofNat 0))) cNil))))))
def jDx : CS := (sSeq (sIf (cOp2 oGtA (cOp2 oIxA (cVar 0) (cC (.int (.ofNat 0)))) (cC (.int (.ofNat 0)))) (sSeq (jA1 5 (cOp2 oMod (cOp1 oInt (cOp2 oIxA (cVar 0) (cC (.int (.ofNat 0))))) (cVar 1))) (sSeq (jDO (cVar 0) (cC (.int (.ofNat 0))) (cOp2 oDiv (cOp2 oIxA (cVar 0) (cC (.int (.ofNat 0)))) (cVar 1))) (sRet (cVar 5)))) sNop) (sSeq (jDO (cVar 0) (cC (.int (.ofNat 2))) (cOp2 oAdd (cOp2 oIxA (cVar 0) (cC (.int (.ofNat 2)))) (cC (.int (.ofNat 1))))) (sSeq (jA1 2 (cOp2 oMod (cOp1 oInt (cOp2 jAM (cOp2 oAdd (cOp2 oIxA (cVar 0) (cC (.int (.ofNat 1)))) (cOp2 jAM (cC (.int (.ofNat 48271))) (cOp2 oIxA (cVar 0) (cC (.int (.ofNat 2)))))) (cOp2 oAdd (cC (.int (.ofNat 39373))) (cOp2 oIxA (cVar 0) (cC (.int (.ofNat 2))))))) (cC (.int (.ofNat 2147483647))))) (sSeq (jA1 3 (cOp2 oAdd (cOp2 oMod (cOp1 oInt (cVar 2)) (cC (.int (.ofNat 40009)))) (cC (.int (.ofNat 7))))) (sSeq (jA1 4 (cOp2 oMod (cOp1 oInt (cOp2 jAM (cOp2 oAdd (cOp2 oAdd (cVar 2) (cOp2 oIxA (cVar 0) (cC (.int (.ofNat 2))))) (cOp2 oDiv (cOp2 oIxA (cVar 0) (cC (.int (.ofNat 1)))) (cC (.int (.ofNat 1000003))))) (cVar 3))) (cC (.int (.ofNat 2147483629))))) (sRet (cOp2 oMod (cOp1 oInt (cOp2 oDiv (cOp2 oMod (cOp1 oInt (cOp2 oAdd (cOp2 jAM (cVar 4) (cC (.int (.ofNat 48271)))) (cVar 2))) (cC (.int (.ofNat 2147483587)))) (cC (.int (.ofNat 64))))) (cVar 1))))))))
def jDq (ns : List Int) : CS := (sSeq (jA1 2 (cOr (cOp1 jEk (cSlS ns (cVar 0) coN (coS (cVar 1)))) (cLst (jAb (cC (.int (.ofNat 0))) cNil)))) (sSeq (sFor (tTup (jAF (jAq 3) (jAF (jAq 4) tNil))) (iEnum (jAb (cSlS ns (cVar 0) (coS (cVar 1)) (coS (cC (.int (.ofNat 63))))) cNil)) (sSeq (jA1 5 (cOp2 oMod (cOp1 oInt (cVar 3)) (cVar 1))) (jDO (cVar 2) (cVar 5) (cOp2 oAdd (cOp2 oIxA (cVar 2) (cVar 5)) (cOp2 jAM (cVar 4) (cOp2 oAdd (cVar 3) (cC (.int (.ofNat 2))))))))) (sRet (cVar 2))))
def li (l : List Int) : O := .lst (upI l)
end
section
variable {Φ : Ph} {h : EH}
theorem o_ixl {k : Nat} {l : List Int} {i j : Int} (g : h.get k = some (li l)) (eQ : atD (upI l) i = some (.p (.int j))) : oIxA h (.ref k) (.p (.int i)) = .val (.p (.int j)) := o_ix g eQ
theorem take_ok {t : Nat} {x y zQ n : Int} (g : h.get t = some (li [x, y, zQ])) (hn : 0 < n) (hs : n < 1000000000) (hxQ : 0 ≤ x) (hy : 0 ≤ y ∧ y < 4611686018427387904) (hzQ : 0 ≤ zQ ∧ zQ < 4294967296) :
  ∃ r x' z', 0 ≤ r ∧ r < n ∧ 0 ≤ x' ∧ 0 ≤ z' ∧ z' ≤ zQ + 1 ∧ runF ⟨2, 6, jDx⟩ Φ [.ref t, .p (.int n)] h = .ok (.p (.int r)) (h.put t (li [x', y, z'])) := by
 have hn0 : n ≠ 0 := by omega
 have ix0 : ∀ {σQ : Env} {h : EH} {x y zQ : Int}, nth σQ 0 = some (some (.ref t)) → h.get t = some (li [x, y, zQ]) → cOp2 oIxA (cVar 0) (cC (.int (.ofNat 0))) Φ σQ h = .ok (.p (.int x)) h := fun eQ g => jAE (jAl eQ) v_c (o_ixl g rfl)
 have ix1 : ∀ {σQ : Env} {h : EH} {x y zQ : Int}, nth σQ 0 = some (some (.ref t)) → h.get t = some (li [x, y, zQ]) → cOp2 oIxA (cVar 0) (cC (.int (.ofNat 1))) Φ σQ h = .ok (.p (.int y)) h := fun eQ g => jAE (jAl eQ) v_c (o_ixl g rfl)
 have ix2 : ∀ {σQ : Env} {h : EH} {x y zQ : Int}, nth σQ 0 = some (some (.ref t)) → h.get t = some (li [x, y, zQ]) → cOp2 oIxA (cVar 0) (cC (.int (.ofNat 2))) Φ σQ h = .ok (.p (.int zQ)) h := fun eQ g => jAE (jAl eQ) v_c (o_ixl g rfl)
 by_cases h0 : 0 < x
 ·refine ⟨Int.fmod x n, Int.fdiv x n, zQ, ?_, ?_, ?_, hzQ.1, by omega, ?_⟩
  ·rw [Int.fmod_eq_emod_of_nonneg _ (by omega)]; exact Int.emod_nonneg _ hn0
  ·rw [Int.fmod_eq_emod_of_nonneg _ (by omega)]; exact Int.emod_lt_of_pos _ hn
  ·rw [Int.fdiv_eq_ediv_of_nonneg _ (by omega)]; exact Int.ediv_nonneg hxQ (by omega)
  ·show endS (jDx Φ [some (.ref t), some (.p (.int n)), none, none, none, none] h) = _
   have eQ : jDx Φ [some (.ref t), some (.p (.int n)), none, none, none, none] h = .rt (.p (.int (Int.fmod x n))) (h.put t (li [Int.fdiv x n, y, zQ])) := by
    refine w_seqr (w_if (q := true) (jAE (ix0 rfl g) v_c o_gt) ?_ ?_)
    ·show some (decide ((0 : Int) < x)) = some true
     rw [decide_eq_true h0]
    ·refine jDB (jDh (jAE (jC4 (ix0 rfl g) jEj) (jAl rfl) (jDu hn0))) (jDB (w_putA (jAE (ix0 rfl g) (jAl rfl) (o_div hn0 (jE4 (by omega)))) (jAl rfl) v_c g rfl) (w_ret (jAl rfl)))
   rw [eQ]; rfl
 ·have g1 : (h.put t (li [x, y, zQ + 1])).get t = some (li [x, y, zQ + 1]) := get_put g
  have eQ : ∃ w, jDx Φ [some (.ref t), some (.p (.int n)), none, none, none, none] h = .rt (.p (.int (Int.fmod w n))) (h.put t (li [x, y, zQ + 1])) := by
   apply Exists.intro
   refine jDB (w_if (q := false) (jAE (ix0 rfl g) v_c o_gt) ?_ rfl) ?_
   ·show some (decide ((0 : Int) < x)) = some false
    rw [decide_eq_false h0]
   ·refine jDB (w_putA (jAE (ix2 rfl g) v_c jCA) (jAl rfl) v_c g rfl) ?_
    refine jDB (jDh (jAE (jC4 (jAE (jAE (ix1 rfl g1) (jAE v_c (ix2 rfl g1) (jES rfl)) jCA) (jAE v_c (ix2 rfl g1) jCA) (jES ?_)) jEj) v_c (jDu (by decide)))) ?_
    ·rw [jE4 (i := Int.ofNat 39373 + (zQ + 1)) (n := n64) (by show _ < 18446744073709551616; simp only [Int.ofNat_eq_natCast]; omega), Bool.or_true]
    ·refine jDB (jDh (jAE (jAE (jC4 (jAl rfl) jEj) v_c (jDu (by decide))) v_c jCA)) ?_
     refine jDB (jDh (jAE (jC4 (jAE (jAE (jAE (jAl rfl) (ix2 rfl g1) jCA) (jAE (ix1 rfl g1) v_c (o_div (by decide) rfl)) jCA) (jAl rfl) (jES ?_)) jEj) v_c (jDu (by decide)))) ?_
     ·rw [jE4 (i := _ + Int.ofNat 7) (n := n64) ?_, Bool.or_true]
      show _ < 18446744073709551616
      rw
        [Int.fmod_eq_emod_of_nonneg _ (by decide)]
      simp only [Int.ofNat_eq_natCast]
      omega
     ·exact w_ret (jAE (jC4 (jAE (jAE (jC4 (jAE (jAE (jAl rfl) v_c (jES (by rw [show iSm (Int.ofNat 48271) n64 = true from rfl, Bool.or_true]))) (jAl rfl) jCA) jEj) v_c (jDu (by decide))) v_c (o_div (by decide) rfl)) jEj) (jAl rfl) (jDu hn0))
  obtain ⟨w, eQ⟩ := eQ
  refine ⟨Int.fmod w n, x, zQ + 1, ?_, ?_, hxQ, by omega, by omega, ?_⟩
  ·rw [Int.fmod_eq_emod_of_nonneg _ (by omega)]; exact Int.emod_nonneg _ hn0
  ·rw [Int.fmod_eq_emod_of_nonneg _ (by omega)]; exact Int.emod_lt_of_pos _ hn
  ·show endS (jDx Φ [some (.ref t), some (.p (.int n)), none, none, none, none] h) = _
   rw [eQ]; rfl
end
end Mi

namespace Mi
open PySem PySem.Spec L2
open PyProof.Rows hiding St
section
variable {Φ : Ph} {σQ : Env} {h h1 h2 : EH} {a b cQ : CE} {la : CL} {v x y : D}
theorem jGO {α : Type} : ∀ (l : List α) (n : Nat), l.length ≤ n → jEs l n = true
 | [], _, _ => rfl
 | _ :: l, 0, eQ => absurd eQ (by simp)
 | _ :: l, n + 1, eQ => jGO l n (Nat.le_of_succ_le_succ eQ)
theorem o_len {k : Nat} {l : List D} (g : h.get k = some (.lst l)) : jBP h (.ref k) = .val (.p (.int l.length)) := by
 show jBH h k _ (oLen h (.ref k)) = _
 rw [jBG g]
 show jAw h k _ _ = _
 rw [jAo g, jAx, jA7]; rfl
theorem o_pow18 : oPow h (.p (.int (.ofNat 10))) (.p (.int (.ofNat 18))) = .val (.p (.int 1000000000000000000)) := rfl
theorem jBe (l : List Int) : (upI l).length = l.length := by rw [jBn, List.length_map]
theorem upI_at {l : List Int} {k : Nat} (eQ : k < l.length) : atD (upI l) (Int.ofNat k) = some (.p (.int l[k])) := by
 show nth (upI l) k = _
 rw [jBp, jBn, List.getElem?_map, List.getElem?_eq_getElem eQ]; rfl
theorem box_ok {t k m : Nat} {cs : List Int} (g : h.get t = some (li cs)) (hk : k < 1000000) (hm : m < 1000000000) :
  ∃ x y, 0 ≤ x ∧ 0 ≤ y ∧ y < 4611686018427387000 ∧ runF ⟨2, 3, bBox m⟩ Φ [.ref t, .p (.int (.ofNat k))] h = .ok (.ref h.n) (h.nw (li [x, y, 0])) := by
 have c1 : ∃ cell, cIf (cOp2 oLtA (cVar 1) (cOp1 jBP (cVar 0))) (cOp2 oIxA (cVar 0) (cVar 1)) (cC (.int (.ofNat 0))) Φ [some (.ref t), some (.p (.int (.ofNat k))), none] h = .ok (.p (.int cell)) h := by
  by_cases q : k < cs.length
  ·refine ⟨cs[k], v_if (t := true) (jAE (jAl rfl) (jC4 (jAl rfl) (o_len g)) o_lt) ?_ (jAE (jAl rfl) (jAl rfl) (o_ix g (upI_at q)))⟩
   show some (decide (Int.ofNat k < ((upI cs).length : Int))) = some true
   rw [jBe, decide_eq_true (by simp only [Int.ofNat_eq_natCast]; omega)]
  ·refine ⟨0, v_if (t := false) (jAE (jAl rfl) (jC4 (jAl rfl) (o_len g)) o_lt) ?_ rfl⟩
   show some (decide (Int.ofNat k < ((upI cs).length : Int))) = some false
   rw [jBe, decide_eq_false (by simp only [Int.ofNat_eq_natCast]; omega)]
 obtain ⟨cell, c1⟩ := c1
 refine ⟨(cell.natAbs : Int) * bI (decide ((1000000000000000000 : Int) ≤ cell.natAbs)), Int.fmod cell 2305843009213693951 + 39373 * Int.ofNat k + Int.ofNat m, ?_, ?_, ?_, ?_⟩
 ·cases decide ((1000000000000000000 : Int) ≤ cell.natAbs)
  ·show (0 : Int) ≤ (cell.natAbs : Int) * 0
   omega
  ·show (0 : Int) ≤ (cell.natAbs : Int) * 1
   omega
 ·rw [Int.fmod_eq_emod_of_nonneg _ (by decide)]; simp only [Int.ofNat_eq_natCast]; omega
 ·rw [Int.fmod_eq_emod_of_nonneg _ (by decide)]; simp only [Int.ofNat_eq_natCast]; omega
 ·show endS (bBox m Φ [some (.ref t), some (.p (.int (.ofNat k))), none] h) = _
  have eQ : bBox m Φ [some (.ref t), some (.p (.int (.ofNat k))), none] h = .rt (.ref h.n) (h.nw (li [(cell.natAbs : Int) * bI (decide ((1000000000000000000 : Int) ≤ cell.natAbs)), Int.fmod cell 2305843009213693951 + 39373 * Int.ofNat k + Int.ofNat m, 0])) := by
   refine jDB (jDh c1) (w_ret (v_lst (jCa (jAE (jC4 (jAl rfl) o_abs) (jC4 (jAE (jC4 (jAl rfl) o_abs) (jAE v_c v_c o_pow18) o_ge) o_intb) (jES ?_)) (jCa (jAE (jAE (jAE (jC4 (jAl rfl) jEj) v_c (jDu (by decide))) (jAE v_c (jAl rfl) (jES rfl)) jCA) v_c jCA) (jCa v_c v_nil))) rfl))
   cases decide ((1000000000000000000 : Int) ≤ cell.natAbs)
   ·rw [show iSm (bI false) n64 = true from rfl, Bool.or_true]
   ·rw [show iSm (bI true) n64 = true from rfl, Bool.or_true]
  rw [eQ]; rfl
theorem upI_set {l : List Int} {k : Nat} {i : Int} : setN (upI l) k (.p (.int i)) = upI (l.set k i) := by
 rw [jBC, jBn, jBn, List.map_set]
noncomputable def tgC : CT := tTup (jAF (jAq 3) (jAF (jAq 4) tNil))
noncomputable def bdC : CS := sSeq (jA1 5 (cOp2 oMod (cOp1 oInt (cVar 3)) (cVar 1))) (jDO (cVar 2) (cVar 5) (cOp2 oAdd (cOp2 oIxA (cVar 2) (cVar 5)) (cOp2 jAM (cVar 4) (cOp2 oAdd (cVar 3) (cC (.int (.ofNat 2)))))))
theorem jIk {q i : Nat} {l : List Int} (g : h.get q = some (li l)) (eQ : i < l.length) : It.next (.enum i (.l q)) h = .two [.p (.int (.ofNat i)), .p (.int l[i])] (.enum (i + 1) (.l q)) := by
 show fN i (fun i => Sc.at (.l q) h i (fun x s => Nx.two [.p (.int (.ofNat i)), x] (.enum (Nat.succ i) s)) .stop) = _
 rw [jA7]
 show jAw h q _ _ = _
 rw [jAo g]
 show Option.rec (motive := fun _ => Nx) _ _ (nth (upI l) i) = _
 rw [jBp, jBn, List.getElem?_map, List.getElem?_eq_getElem eQ]
 rfl
theorem jIj {q : Nat} {l : List Int} (g : h.get q = some (li l)) : It.next (.enum l.length (.l q)) h = .stop := by
 show fN l.length (fun i => Sc.at (.l q) h i (fun x s => Nx.two [.p (.int (.ofNat i)), x] (.enum (Nat.succ i) s)) .stop) = _
 rw [jA7]
 show jAw h q _ _ = _
 rw [jAo g]
 show Option.rec (motive := fun _ => Nx) (Bool.rec .bad .stop (Nat.beq (lenL (upI l)) l.length)) _ (nth (upI l) l.length) = _
 rw [jBp, jBn, List.getElem?_eq_none (by rw [List.length_map]; exact Nat.le_refl _), jAx, List.length_map, show Nat.beq l.length l.length = true from Nat.beq_refl _]
theorem tgC_eq {i j : Int} {it : It} {α : Type} {stQ b : α} {f : Env → It → α} : tgt tgC (.two [.p (.int i), .p (.int j)] it) σQ stQ f b = f (setN (setN σQ 3 (some (.p (.int i)))) 4 (some (.p (.int j)))) it := by
 have eQ : tgC (.p (.tup 1 [.int i, .int j])) σQ = some (setN (setN σQ 3 (some (.p (.int i)))) 4 (some (.p (.int j)))) := by
  show Option.rec (motive := fun _ => Option Env) none (fun σQ => Option.rec (motive := fun _ => Option Env) none (fun σQ => some σQ) (fD (.p (.int j)) fun v => some (setN σQ 4 (some v)))) (fD (.p (.int i)) fun v => some (setN σQ 3 (some v))) = _
  rw [jBs]
  show Option.rec (motive := fun _ => Option Env) none (fun σQ => some σQ) (fD (.p (.int j)) fun v => some (setN _ 4 (some v))) = _
  rw [jBs]
 show Option.rec (motive := fun _ => α) b (fun σQ => f σQ it) (tgC (.p (.tup 1 [.int i, .int j])) σQ) = _
 rw [eQ]
theorem jE9 {m jc q : Nat} {s : D} {rest : List Int} (hm : 0 < m) (hr : rest.length ≤ 1000) (ne : q ≠ jc) : ∀ (d i f : Nat) (cs : List Int) (h : EH) (a3 a4 a5 : Option D), rest.length = i + d → d < f → (0 < d → cs.length = m) → h.get q = some (li rest) → h.get jc = some (li cs) →
  ∃ cs' h' b3 b4 b5, cs'.length = cs.length ∧ h'.get jc = some (li cs') ∧ forN tgC (bdC Φ) f (.enum i (.l q)) [some s, some (.p (.int (.ofNat m))), some (.ref jc), a3, a4, a5] h = .nx [some s, some (.p (.int (.ofNat m))), some (.ref jc), b3, b4, b5] h'
 | _, _, 0, _, _, _, _, _, _, eQ, _, _, _ => absurd eQ (Nat.not_lt_zero _)
 | 0, i, f + 1, cs, h, a3, a4, a5, e1, _, _, gq, gj => by
  refine ⟨cs, h, a3, a4, a5, rfl, gj, ?_⟩
  show tgt tgC (It.next (.enum i (.l q)) h) _ _ _ _ = _
  have : i = rest.length := e1.symm
  subst this
  rw [jIj gq]; rfl
 | d + 1, i, f + 1, cs, h, a3, a4, a5, e1, e2, e3, gq, gj => by
  have lt : i < rest.length := by omega
  have lc := e3 (Nat.succ_pos _)
  have lm : i % m < cs.length := by rw [lc]; exact Nat.mod_lt _ hm
  have hmod : Int.fmod (Int.ofNat i) (Int.ofNat m) = Int.ofNat (i % m) := by
   rw [Int.fmod_eq_emod_of_nonneg _ (by simp only [Int.ofNat_eq_natCast]; omega)]; rfl
  have bd : bdC Φ [some s, some (.p (.int (.ofNat m))), some (.ref jc), some (.p (.int (.ofNat i))), some (.p (.int rest[i])), a5] h =
    .nx [some s, some (.p (.int (.ofNat m))), some (.ref jc), some (.p (.int (.ofNat i))), some (.p (.int rest[i])), some (.p (.int (.ofNat (i % m))))] (h.put jc (li (cs.set (i % m) (cs[i % m] + rest[i] * (Int.ofNat i + Int.ofNat 2))))) := by
   have e5 := jDh (i := 5) (jAE (jC4 (jAl (i := 3) (Φ := Φ) (σQ := [some s, some (.p (.int (.ofNat m))), some (.ref jc), some (.p (.int (.ofNat i))), some (.p (.int rest[i])), a5]) (h := h) rfl) jEj) (jAl (i := 1) rfl) (jDu (j := Int.ofNat m) (by simp only [Int.ofNat_eq_natCast]; omega)))
   rw [hmod] at e5
   refine jDB e5 ?_
   have e6 := w_putA (Φ := Φ) (σQ := setN [some s, some (.p (.int (.ofNat m))), some (.ref jc), some (.p (.int (.ofNat i))), some (.p (.int rest[i])), a5] 5 (some (.p (.int (.ofNat (i % m)))))) (h := h)
    (jAE (jAE (jAl (i := 2) rfl) (jAl (i := 5) rfl) (o_ix gj (upI_at lm))) (jAE (jAl (i := 4) rfl) (jAE (jAl (i := 3) rfl) (v_c (p := .int (.ofNat 2))) jCA) (jES (by
     rw [jE4 (i := Int.ofNat i + Int.ofNat 2) (n := n64) (by show _ < 18446744073709551616; simp only [Int.ofNat_eq_natCast]; omega), Bool.or_true]))) jCA) (jAl (i := 2) rfl) (jAl (i := 5) rfl) gj (m := i % m) (by
      show fN (lenL (upI cs)) (fun n => Bool.rec (motive := fun _ => Option Nat) none (some (i % m)) (Nat.blt (i % m) n)) = _
      rw [jA7, jAx, jBe, show Nat.blt (i % m) cs.length = true from Nat.ble_eq_true_of_le lm])
   rw [upI_set] at e6
   exact e6
  obtain ⟨cs', h', b3, b4, b5, l1, g', ih⟩ := jE9 (s := s) hm hr ne d (i + 1) f (cs.set (i % m) (cs[i % m] + rest[i] * (Int.ofNat i + Int.ofNat 2))) (h.put jc (li (cs.set (i % m) (cs[i % m] + rest[i] * (Int.ofNat i + Int.ofNat 2))))) (some (.p (.int (.ofNat i)))) (some (.p (.int rest[i]))) (some (.p (.int (.ofNat (i % m))))) (by omega) (by omega) (fun _ => by rw [List.length_set]; exact lc) (jBb gj gq ne) (get_put gj)
  refine ⟨cs', h', b3, b4, b5, by rw [l1, List.length_set], g', ?_⟩
  show tgt tgC (It.next (.enum i (.l q)) h) _ _ _ _ = _
  rw [jIk gq lt, tgC_eq]
  show turnS (bdC Φ [some s, some (.p (.int (.ofNat m))), some (.ref jc), some (.p (.int (.ofNat i))), some (.p (.int rest[i])), a5] h) _ = _
  rw [bd]
  exact ih
end
end Mi

namespace Mi
open PySem PySem.Spec L2
open PyProof.Rows hiding St
section
variable {Φ : Ph} {σQ : Env} {h h1 h2 : EH} {a b cQ : CE} {la : CL} {v x y : D}
theorem v_op1n {f : EH → D → VR} {o : O} (eQ : a Φ σQ h = .ok x h1) (g : f h1 x = .new o) : cOp1 f a Φ σQ h = .ok (.ref h1.n) (h1.nw o) := by
 show bE (a Φ σQ h) _ = _
 rw [eQ, bE_ok, g]
 exact jCT _ _
theorem v_or {w : RE} (eQ : a Φ σQ h = .ok x h1) {t : Bool} (g : tru h1 x = some t) (k : (bif t then .ok x h1 else b Φ σQ h1) = w) : cOr a b Φ σQ h = w := by
 show bE (a Φ σQ h) _ = _
 rw [eQ, bE_ok]; show tE h1 x (.ok x h1) (b Φ σQ h1) .bad = _
 unfold tE
 rw [g]
 cases t <;> exact k
theorem tru_l {k : Nat} {l : List D} (g : h.get k = some (.lst l)) : tru h (.ref k) = some (isN l) := by
 show Option.rec (motive := fun _ => Option Bool) none _ (h.get k) = _
 rw [g]; rfl
theorem o_lst {k : Nat} {l : List D} (g : h.get k = some (.lst l)) : jEk h (.ref k) = .new (.lst l) := by
 show jBH h k _ (oLst h (.ref k)) = _
 rw [jBG g]
 show jAw h k _ _ = _
 rw [jAo g]
theorem co_s {i : Int} {k : Option Int → EH → RE} (eQ : a Φ σQ h = .ok (.p (.int i)) h1) : coS a Φ σQ h k = k (some i) h1 := by
 show bE (a Φ σQ h) _ = _
 rw [eQ]; rfl
theorem v_slS {ns : List Int} {lo hi : CO} {l u : Option Int} (eQ : a Φ σQ h = .ok (.p (.fn 999)) h) (e1 : ∀ k, lo Φ σQ h k = k l h) (e2 : ∀ k, hi Φ σQ h k = k u h) : cSlS ns a lo hi Φ σQ h = .ok (.ref h.n) (h.nw (.lst (cutD (upI ns) l u))) := by
 show bE (a Φ σQ h) _ = _
 rw [eQ, bE_ok, e1, e2]
 exact jCT _ _
noncomputable def clip (m n : Nat) : Nat := Bool.rec n m (Nat.ble m n)
theorem jG5 (m n : Nat) : clip m n = min m n := by
 unfold clip
 cases q : Nat.ble m n with
 | true => exact (Nat.min_eq_left (Nat.le_of_ble_eq_true q)).symm
 | false =>
  have : ¬ m ≤ n := Nat.not_le_of_not_ble_eq_true (by rw [q]; decide)
  show n = min m n
  omega
theorem upI_drop (l : List Int) (k : Nat) : (upI l).drop k = upI (l.drop k) := by rw [jBn, jBn, List.map_drop]
theorem jGA (l : List Int) (k : Nat) : (upI l).take k = upI (l.take k) := by rw [jBn, jBn, List.map_take]
theorem cut1 {ns : List Int} {m : Nat} : cutD (upI ns) none (some (Int.ofNat m)) = upI (ns.take m) := by
 show fN (lenL (upI ns)) (fun n => fN 0 fun a => fN (clip m n) fun b => takeL (dropL (upI ns) a) (Nat.sub b a)) = _
 rw [jA7, jA7, jA7, jDz, jD3, List.drop_zero, jAx, jBe, jG5, jGA]
 congr 1
 show ns.take (min m ns.length - 0) = _
 rw [Nat.sub_zero, List.take_eq_take_iff]
 omega
theorem cut2 {ns : List Int} {m : Nat} : cutD (upI ns) (some (Int.ofNat m)) (some (Int.ofNat 63)) = upI ((ns.drop (min m ns.length)).take (min 63 ns.length - min m ns.length)) := by
 show fN (lenL (upI ns)) (fun n => fN (clip m n) fun a => fN (clip 63 n) fun b => takeL (dropL (upI ns) a) (Nat.sub b a)) = _
 rw [jA7, jA7, jA7, jDz, jD3, jAx, jBe, jG5, jG5, upI_drop, jGA]
 rfl
theorem jHr {m : Nat} {ns : List Int} (hm : 0 < m) (hl : ns.length ≤ 63) :
  ∃ cs j h', 1 ≤ cs.length ∧ cs.length ≤ m ∧ runF ⟨2, 6, jDq ns⟩ Φ [.p (.fn 999), .p (.int (.ofNat m))] e0 = .ok (.ref j) h' ∧ h'.get j = some (li cs) := by
 generalize hrest : ((ns.drop (min m ns.length)).take (min 63 ns.length - min m ns.length)) = rest
 have rl : rest.length ≤ 1000 := by rw [← hrest, List.length_take, List.length_drop]; omega
 have rm : rest ≠ [] → m < ns.length := fun zQ => by
  apply Classical.byContradiction
  intro q
  apply zQ
  rw [← hrest, List.take_eq_nil_iff]
  exact .inr (List.drop_eq_nil_of_le (by omega))
 -- behind the first statement
 have main : ∀ (n : Nat) (c0 : List Int) (h0 : EH), 1 ≤ c0.length → c0.length ≤ m → (rest ≠ [] → c0.length = m) → h0.get n = some (li c0) →
   jA1 2 (cOr (cOp1 jEk (cSlS ns (cVar 0) coN (coS (cVar 1)))) (cLst (jAb (cC (.int (.ofNat 0))) cNil))) Φ [some (.p (.fn 999)), some (.p (.int (.ofNat m))), none, none, none, none] e0 = .nx [some (.p (.fn 999)), some (.p (.int (.ofNat m))), some (.ref n), none, none, none] h0 →
   ∃ cs j h', 1 ≤ cs.length ∧ cs.length ≤ m ∧ runF ⟨2, 6, jDq ns⟩ Φ [.p (.fn 999), .p (.int (.ofNat m))] e0 = .ok (.ref j) h' ∧ h'.get j = some (li cs) := fun n c0 h0 h1 h2 h3 g0 eQ => by
  obtain ⟨cs, h', b3, b4, b5, l1, g', lp⟩ := jE9 (Φ := Φ) (m := m) (jc := n) (q := h0.n) (s := .p (.fn 999)) (rest := rest) hm rl (Ne.symm (Nat.ne_of_lt (jB7 g0))) rest.length 0 big c0 (h0.nw (li rest)) none none none (by omega) (by show _ < 100000000; omega) (fun zQ => h3 (by intro q; rw [q] at zQ; exact absurd zQ (Nat.lt_irrefl _))) jAr (jAm g0)
  refine ⟨cs, n, h', by omega, by omega, ?_, g'⟩
  show endS (jDq ns Φ [some (.p (.fn 999)), some (.p (.int (.ofNat m))), none, none, none, none] e0) = _
  have e2 : sFor tgC (iEnum (jAb (cSlS ns (cVar 0) (coS (cVar 1)) (coS (cC (.int (.ofNat 63))))) cNil)) bdC Φ [some (.p (.fn 999)), some (.p (.int (.ofNat m))), some (.ref n), none, none, none] h0 = .nx [some (.p (.fn 999)), some (.p (.int (.ofNat m))), some (.ref n), b3, b4, b5] h' := by
   have e3 : jAb (cSlS ns (cVar 0) (coS (cVar 1)) (coS (cC (.int (.ofNat 63))))) cNil Φ [some (.p (.fn 999)), some (.p (.int (.ofNat m))), some (.ref n), none, none, none] h0 = .ok [.ref h0.n] (h0.nw (li rest)) := by
    have := v_slS (Φ := Φ) (σQ := [some (.p (.fn 999)), some (.p (.int (.ofNat m))), some (.ref n), none, none, none]) (h := h0) (ns := ns) (jAl (i := 0) rfl) (fun k => co_s (jAl (i := 1) rfl)) (fun k => co_s (v_c (p := .int (.ofNat 63))))
    rw [cut2, hrest] at this
    exact jCa this v_nil
   show RI.rec (motive := fun _ => RS) _ _ _ (bLI (jAb _ cNil Φ _ _) _) = _
   rw [e3]
   have e4 : i1 [D.ref h0.n] (fun x => scOf (h0.nw (li rest)) x (fun s => RI.ok (.enum 0 s) (h0.nw (li rest))) .bad) .bad = RI.ok (.enum 0 (.l h0.n)) (h0.nw (li rest)) := by
    show jAw (h0.nw (li rest)) h0.n _ _ = _
    exact jAo (l := upI rest) (jAr (o := li rest))
   show RI.rec (motive := fun _ => RS) _ _ _ (i1 [D.ref h0.n] (fun x => scOf (h0.nw (li rest)) x (fun s => RI.ok (.enum 0 s) (h0.nw (li rest))) .bad) .bad) = _
   rw [e4]
   exact lp
  have e5 : jDq ns Φ [some (.p (.fn 999)), some (.p (.int (.ofNat m))), none, none, none, none] e0 = .rt (.ref n) h' := jDB eQ (jDB e2 (w_ret (jAl rfl)))
  rw [e5]; rfl
 have s1Q := v_slS (Φ := Φ) (σQ := [some (.p (.fn 999)), some (.p (.int (.ofNat m))), none, none, none, none]) (h := e0) (ns := ns) (lo := coN) (jAl (i := 0) rfl) (fun k => rfl) (fun k => co_s (jAl (i := 1) rfl))
 rw [cut1] at s1Q
 have s2 := v_op1n (f := jEk) s1Q (o_lst (l := upI (ns.take m)) jAr)
 cases q : ns with
 | nil =>
  subst q
  rw [List.take_nil] at s2
  refine main _ [0] _ (by decide) hm (fun zQ => absurd (rm zQ) (by simp)) ?_ (jDh (v_or (t := false) s2 (tru_l (l := upI []) jAr) (v_lst (jCa v_c v_nil) rfl)))
  exact jAr
 | cons i r =>
  subst q
  obtain ⟨m', rfl⟩ : ∃ m', m = m' + 1 := ⟨m - 1, by omega⟩
  refine main _ ((i :: r).take (m' + 1)) _ (by simp) (by rw [List.length_take]; omega) (fun zQ => by rw [List.length_take]; have := rm zQ; omega) ?_ (jDh (v_or (t := true) s2 (tru_l (l := upI ((i :: r).take (m' + 1))) jAr) rfl))
  exact jAr
end
end Mi

namespace Mi
open PySem PySem.Spec L2
open PyProof.Rows hiding St
section
variable {Φ Φ' : Ph} {σQ : Env} {h h1 h2 : EH} {a b cQ : CE} {la : CL} {v x y : D}
theorem jFY : ∀ l : List Int, jB2 (upI l) = true
 | [] => rfl
 | _ :: l => jFY l
theorem v_call {k : Nat} {l : List D} {w : RE} (eQ : la Φ σQ h = .ok l h1) (g : jA8 (Φ k) l h1 = w) : jAs k la Φ σQ h = w := by
 show bL (la Φ σQ h) _ = _
 rw [eQ]; exact g
theorem jFd {φ : List D → EH → RE} {l : List D} {w : RE} (eQ : jB2 l = false) (g : φ l h = w) : jA8 φ l h = w := by
 unfold jA8
 rw [eQ]; exact g
theorem jIq {α : Type u} {h : EH} {j : Nat} {cs : List Int} (q : h.get j = some (li cs)) {y : O → α} {n : α} : jBh h j y n = y (li cs) := by
 unfold jBh
 rw [q]
 show Bool.rec (motive := fun _ => α) n (y (li cs)) (lone (li cs)) = _
 have eQ : lone (li cs) = true := jFY cs
 rw [eQ]
theorem jIT {φ : List D → EH → RE} {l : List D} {cs : List Int} {j : Nat} {h' : EH} (eQ : jB2 l = true) (g : φ l e0 = .ok (.ref j) h') (q : h'.get j = some (li cs)) : jA8 φ l h = .ok (.ref h.n) (h.nw (li cs)) := by
 unfold jA8
 rw [eQ]
 show RE.rec (motive := fun _ => RE) _ _ _ (φ l e0) = _
 rw [g]
 show jBh h' j _ _ = _
 rw [jIq q]
 exact EH.new_eq h (li cs) fun k h => RE.ok (.ref k) h
theorem jEE {f : Fn} {l : List D} (eQ : jB2 l = false) : runT f Φ l h = runF f Φ l h := by
 have q : jFi l h = false := by
  obtain ⟨n, t⟩ := h
  show Bool.rec (motive := fun _ => Bool) false (jB2 l) (Nat.beq n 0) = false
  rw [eQ]
  cases Nat.beq n 0 <;> rfl
 unfold runT
 rw [q]
theorem jHT {f : Fn} {l : List D} {cs : List Int} {j : Nat} {h' : EH} (eQ : jB2 l = true) (g : runF f Φ l e0 = .ok (.ref j) h') (q : h'.get j = some (li cs)) : runT f Φ l e0 = .ok (.ref 0) (e0.nw (li cs)) := by
 have zQ : jFi l e0 = true := eQ
 unfold runT
 rw [zQ, g]
 show jBh h' j _ _ = _
 rw [jIq q]
 exact EH.new_eq e0 (li cs) fun k h => RE.ok (.ref k) h
noncomputable def hSrc (cs : List Int) (x y : Int) : EH := (e0.nw (li cs)).nw (li [x, y, 0])
theorem src_ok {jc jb m cQ k : Nat} {ns : List Int} (fc : Φ jc = runT ⟨2, 6, jDq ns⟩ Φ') (fb : Φ jb = runT ⟨2, 3, bBox cQ⟩ Φ') (hm : 0 < m) (hl : ns.length ≤ 63) (hk : k < 1000000) (hc : cQ < 1000000000) (es : nth σQ 0 = some (some (.p (.fn 999)))) :
  ∃ x y cs, 0 ≤ x ∧ 0 ≤ y ∧ y < 4611686018427387000 ∧ 1 ≤ cs.length ∧ cs.length ≤ m ∧ jAs jb (jAb (jAs jc (jAb (cVar 0) (jAb (cC (.int (.ofNat m))) cNil))) (jAb (cC (.int (.ofNat k))) cNil)) Φ σQ e0 = .ok (.ref 1) (hSrc cs x y) := by
 obtain ⟨cs, j, h', l1, l2, e1, e2⟩ := jHr (Φ := Φ') (m := m) hm hl
 obtain ⟨x, y, hxQ, hy1, hy2, e3⟩ := box_ok (Φ := Φ') (h := e0.nw (li cs)) (t := 0) (k := k) (m := cQ) (cs := cs) (jAr (h := e0)) hk hc
 have n1 : (e0.nw (li cs)).n = 1 := EH.nw_n
 rw [n1] at e3
 refine ⟨x, y, cs, hxQ, hy1, hy2, l1, l2, v_call (jCa (v_call (jCa (jAl es) (jCa v_c v_nil)) (jIT rfl (by rw [fc]; exact jHT rfl e1 e2) (jAr (h := e0)))) (jCa v_c v_nil)) (jFd rfl (by rw [fb, jEE rfl]; exact e3))⟩
theorem take1 {jt n t : Nat} {x y zQ : Int} {p q : CE} (ft : Φ jt = runT ⟨2, 6, jDx⟩ Φ') (ep : p Φ σQ h = .ok (.ref t) h1) (eq : q Φ σQ h1 = .ok (.p (.int (.ofNat n))) h1) (g : h1.get t = some (li [x, y, zQ])) (hn : 0 < n) (hs : n < 1000000000) (hxQ : 0 ≤ x) (hy : 0 ≤ y ∧ y < 4611686018427387000) (hzQ : 0 ≤ zQ ∧ zQ < 4000000000) :
  ∃ (r : Nat) (x' z' : Int), r < n ∧ 0 ≤ x' ∧ 0 ≤ z' ∧ z' ≤ zQ + 1 ∧ jAs jt (jAb p (jAb q cNil)) Φ σQ h = .ok (.p (.int (.ofNat r))) (h1.put t (li [x', y, z'])) := by
 obtain ⟨r, x', z', h1, h2, h3, h4, h5, eQ⟩ := take_ok (Φ := Φ') (n := .ofNat n) g (by simp only [Int.ofNat_eq_natCast]; omega) (by simp only [Int.ofNat_eq_natCast]; omega) hxQ ⟨hy.1, by omega⟩ ⟨hzQ.1, by omega⟩
 simp only [Int.ofNat_eq_natCast] at h2
 obtain ⟨r', rfl⟩ := Int.eq_ofNat_of_zero_le h1
 exact ⟨r', x', z', by omega, h3, h4, h5, v_call (jCa ep (jCa eq v_nil)) (jFd rfl (by rw [ft, jEE rfl]; exact eQ))⟩
theorem draw_ok {jc jb jt m cQ k n : Nat} {ns : List Int} (fc : Φ jc = runT ⟨2, 6, jDq ns⟩ Φ') (fb : Φ jb = runT ⟨2, 3, bBox cQ⟩ Φ') (ft : Φ jt = runT ⟨2, 6, jDx⟩ Φ') (hm : 0 < m) (hl : ns.length ≤ 63) (hk : k < 1000000) (hc : cQ < 1000000000) (hn : 0 < n) (hs : n < 1000000000) (es : nth σQ 0 = some (some (.p (.fn 999)))) :
  ∃ (r : Nat) (x0 x y zQ : Int) (cs : List Int), r < n ∧ 1 ≤ cs.length ∧ cs.length ≤ m ∧ jAs jt (jAb (jAs jb (jAb (jAs jc (jAb (cVar 0) (jAb (cC (.int (.ofNat m))) cNil))) (jAb (cC (.int (.ofNat k))) cNil))) (jAb (cC (.int (.ofNat n))) cNil)) Φ σQ e0 = .ok (.p (.int (.ofNat r))) ((hSrc cs x0 y).put 1 (li [x, y, zQ])) := by
 obtain ⟨x, y, cs, hxQ, hy1, hy2, l1, l2, eQ⟩ := src_ok (σQ := σQ) fc fb hm hl hk hc es
 obtain ⟨r, x', z', h1, h2, h3, h4, e2⟩ := take1 (t := 1) (x := x) (y := y) (zQ := 0) ft eQ v_c (by
  have g := jAr (h := e0.nw (li cs)) (o := li [x, y, 0])
  rw [show (e0.nw (li cs)).n = 1 from EH.nw_n] at g
  exact g) hn hs hxQ ⟨hy1, hy2⟩ (by decide)
 exact ⟨r, x, x', y, z', cs, h1, l1, l2, e2⟩
theorem cs1 {cs : List Int} (h1 : 1 ≤ cs.length) (h2 : cs.length ≤ 1) : ∃ x, cs = [x] := by
 match cs, h1, h2 with
 | [x], _, _ => exact ⟨x, rfl⟩
end
end Mi

namespace Mi
open PySem PySem.Spec L2
open PyProof.Rows hiding St
end Mi

namespace Mi
open PySem PySem.Spec L2
open PyProof.Rows hiding St
end Mi

namespace Mi
open PySem PySem.Spec L2
open PyProof.Rows hiding St
end Mi

namespace Mi
open PySem PySem.Spec L2
open PyProof.Rows hiding St
end Mi

namespace Mi
open PySem PySem.Spec L2
open PyProof.Rows hiding St
end Mi

namespace Mi
open PySem PySem.Spec L2
open PyProof.Rows hiding St
end Mi

namespace Mi
open PySem PySem.Spec L2
open PyProof.Rows hiding St
end Mi

namespace Mi
open PySem PySem.Spec L2
open PyProof.Rows hiding St
end Mi

namespace Mi
open PySem PySem.Spec L2
open PyProof.Rows hiding St
end Mi

namespace Mi
open PySem PySem.Spec L2
open PyProof.Rows hiding St
end Mi

namespace Mi
open PySem PySem.Spec L2
open PyProof.Rows hiding St
end Mi

namespace Mi
open PySem PySem.Spec L2
open PyProof.Rows hiding St
end Mi

namespace Mi
open PySem PySem.Spec L2
open PyProof.Rows hiding St
end Mi

namespace Mi
open PySem PySem.Spec L2
open PyProof.Rows hiding St
end Mi

namespace Mi
open PySem PySem.Spec L2 TS
open PyProof.Rows hiding St


end Mi

namespace Mi
open PySem PySem.Spec L2
open PyProof.Rows hiding St
end Mi

namespace Mi
open PySem PySem.Spec L2 TS
open PyProof.Rows hiding St
end Mi

namespace Mi
open PySem PySem.Spec L2
open PyProof.Rows hiding St
end Mi

namespace Mi
open PySem PySem.Spec L2
open PyProof.Rows hiding St
theorem jFX : ∀ l : List P, jB2 (upP l) = true
 | [] => rfl
 | _ :: l => jFX l
end Mi

namespace Mi
open PySem PySem.Spec L2
open PyProof.Rows hiding St
end Mi

namespace Mi
open PySem PySem.Spec L2
open PyProof.Rows hiding St
end Mi

namespace Mi
open PySem PySem.Spec L2
open PyProof.Rows hiding St
end Mi

namespace Mi
open PySem PySem.Spec L2
open PyProof.Rows hiding St
end Mi

namespace Mi
open PySem PySem.Spec L2
open PyProof.Rows hiding St
structure NeC (K : PySem.W.Frag) (C f : Addr) : Prop where
 at_ : ∃ nm q N bs hdct sn sub ab col dd k0 k1 k2 k3 k5 newId, List.lookup C K = some (excClassObj nm q C N bs [.type "object"] hdct sn sub ab col dd k0 k1 k2 k3 k5 newId) ∧
  ∃ o es ep, List.lookup N K = some o ∧ o.data = .dict es ep ∧ StrKeys es ∧ nsFind es "__eq__" = some (.ref f) ∧ nsFind es "__ne__" = none
 fn : ∃ o, List.lookup f K = some o ∧ o.cls = .type "function"
end Mi

namespace Mi
open PySem PySem.Spec L2
open PyProof.Rows hiding St
def strKB (eQ : DictEntry) : Bool := match eQ.key with | .str _ _ => true | _ => false
def nsB (K : PySem.W.Frag) (N f : Addr) : Bool := match List.lookup N K with
 | some o =>
    (match o.data with
  | .dict es _ => es.toList.all strKB && (decide (nsFind es "__eq__" = some (.ref f)) && decide (nsFind es "__ne__" = none))
  | _ => false)
 | none => false
def fnB (K : PySem.W.Frag) (f : Addr) : Bool := match List.lookup f K with
 | some o => decide (o.cls = .type "function")
 | none => false
def neB (K : PySem.W.Frag) (C f : Addr) : Bool := match List.lookup C K with
 | some o => (match o.data, o.slots.toList with
  | .cls cd, [_, _, _, _, some (.builtin _), _] => decide (o.cls = .type "type") && (decide (cd.mro = [.ref C, .type "object"]) && (decide (cd.hasDel = false) && (nsB K cd.ns f && fnB K f)))
  | _, _ => false)
 | none => false
theorem ns_of {K : PySem.W.Frag} {N f : Addr} (cQ : nsB K N f = true) : ∃ o es ep, List.lookup N K = some o ∧ o.data = .dict es ep ∧ StrKeys es ∧ nsFind es "__eq__" = some (.ref f) ∧ nsFind es "__ne__" = none := by
 unfold nsB at cQ
 split at cQ
 ·rename_i o h
  split at cQ
  ·rename_i es ep hd
   rw [Bool.and_eq_true, Bool.and_eq_true] at cQ
   obtain ⟨c1, c2, c3⟩ := cQ
   refine ⟨o, es, ep, h, hd, fun eQ he => ?_, of_decide_eq_true c2, of_decide_eq_true c3⟩
   have zQ := List.all_eq_true.mp c1 eQ (Array.mem_toList_iff.mpr he)
   unfold strKB at zQ
   split at zQ
   ·rename_i n t hk
    exact ⟨n, t, hk⟩
   ·cases zQ
  ·cases cQ
 ·cases cQ
theorem ne_of {K : PySem.W.Frag} {C f : Addr} (cQ : neB K C f = true) : NeC K C f := by
 unfold neB at cQ
 split at cQ
 ·rename_i o h
  split at cQ
  ·rename_i sl cd k0 k1 k2 k3 nid k5 hd hs
   rw [Bool.and_eq_true, Bool.and_eq_true, Bool.and_eq_true, Bool.and_eq_true] at cQ
   obtain ⟨c1, c2, c5, c3, c4⟩ := cQ
   have d3 := of_decide_eq_true c5
   have d1 := of_decide_eq_true c1
   have d2 := of_decide_eq_true c2
   clear c1 c2 c5
   refine ⟨⟨cd.name, cd.qualname, cd.ns, cd.bases, cd.hasDict, cd.slotNames, cd.subclasses, cd.abstract, cd.collection, o.dict, k0, k1, k2, k3, k5, nid, ?_, ns_of c3⟩, ?_⟩
   ·rw [h]
    obtain ⟨oc, od, odt, os⟩ := o
    obtain ⟨nm, bs, mro, ns, qn, hd', sn, sub, ab, col, hdl⟩ := cd
    dsimp only at hd hs d1 d2 d3
    subst hd d1 d2 d3
    have eQ : os = #[k0, k1, k2, k3, some (.builtin nid), k5] := by
     cases os with
     | mk l => dsimp only at hs; rw [hs]
    rw [eQ]
   ·unfold fnB at c4
    split at c4
    ·rename_i g hg
     exact ⟨g, hg, of_decide_eq_true c4⟩
    ·cases c4
  ·cases cQ
 ·cases cQ
end Mi

namespace Mi
open PySem PySem.Spec L2
open PyProof.Rows hiding St
end Mi

namespace Mi
open PySem PySem.Spec L2
open PyProof.Rows hiding St
end Mi

namespace Mi
open PySem PySem.Spec L2
open PyProof.Rows hiding St
end Mi

namespace Mi
open PySem PySem.Spec L2
open PyProof.Rows hiding St
end Mi

namespace Mi
open PySem PySem.Calls PySem.Spec PySem.W PyProof.Rows
end Mi

namespace Mi
open PySem PySem.Spec L2
open PyProof.Rows hiding St
end Mi

namespace Mi
open PySem PySem.Spec L2
open PyProof.Rows hiding St
end Mi


namespace Mi
noncomputable section
open PySem PySem.Spec L2
open PyProof.Rows hiding St
structure Cns (mg : Str → Option Value) (G : Gi) : Prop where
 tt : True
structure Exs (P : Program) (K : PySem.W.Frag) (mg : Str → Option Value) (G : Gi) : Prop where
 Unfit : Exc0 K mg G "Unfit" 0
 tUnfit : ∃ C, mg "Unfit" = some (.ref C) ∧ jHw K G (.ref C) [0]
 b_ValueError : mg "ValueError" = none
 iUnfit_ValueError : ∀ C, G.ca 0 = some C → ExcC K C ∧ PySem.W.kitOne K (.ref C) (.type "ValueError") = some true
def atL : List Str := (["%0", "%1", "%2", "%3", "%4", "%5", "%6", "%7", "%8", "%9", "%10", "%11", "%12", "%13", "%14", "%15", "%16", "%17", "%18", "%19", "%20", "%21", "%22", "%23", "%24", "%25", "%26", "%27", "%28", "%29"] : List Str) ++ (["%30", "%31", "%32", "%33", "%34", "%35", "%36", "%37", "%38", "%39", "%40", "%41", "%42", "%43", "%44", "%45", "%46", "%47", "%48", "%49", "%50", "%51", "%52", "%53", "%54", "%55", "%56", "%57", "%58", "%59"] : List Str) ++ (["%60", "%61", "%62", "%63", "%64", "%65", "%66", "%67", "%68", "%69", "%70", "%71", "%72", "%73", "%74", "%75", "%76", "%77", "%78", "%79", "%80", "%81", "%82", "%83", "%84", "%85", "%86", "%87", "%88", "%89"] : List Str) ++ (["%90", "%91", "%92", "%93", "%94", "%95", "%96", "%97", "%98", "%99", "%100", "%101", "%102", "%103", "%104", "%105", "%106", "%107", "%108", "%109", "%110", "%111", "%112", "%113", "%114", "%115", "%116", "%117", "%118", "%119"] : List Str) ++ (["%120", "%121", "%122", "%123", "%124", "%125", "%126", "%127"] : List Str)
structure Inss (K : PySem.W.Frag) (ic : Nat → Option Addr) (at_ : Nat → Str) : Prop where
 at' : AtOk at_
abbrev nfn : Nat := 19
abbrev jCD : List Str := ["thing"]
abbrev jDA : List Str := ["thing", "prime", "length", "own"]
abbrev jEg : List Str := ["prime", "residue", "own"]
abbrev jD9 : List Str := ["prime", "rows", "factors", "length", "found", "row", "factor", "own", "far"]
abbrev jCW : List Str := ["prime", "row", "other", "own", "far"]
abbrev jDg : List Str := ["script", "k", "cell"]
abbrev jCE : List Str := ["tin", "below_so", "once_so", "wide_so", "twice_so", "drawn"]
abbrev jCp : List Str := ["script", "most_so", "cells_so", "k", "cell", "at_so"]
abbrev jEh : List Str := ["tin", "goods_so"]
abbrev jBA : List Str := ["matter", "bit"]
abbrev jBV : List Str := ["got", "due", "mine", "its"]
abbrev jBW : List Str := ["p", "one_so", "two_so", "factor_so", "own", "its"]
abbrev jCn : List Str := ["p", "vectors_so", "factors_so", "wide_so", "found", "own", "n"]
abbrev jB9 : List Str := ["p", "one_so", "two_so", "own", "its"]
abbrev jAK : List Str := ["tin", "p", "count_so", "wide_so", "found", "lap", "kind_so", "k"]
abbrev jCo : List Str := ["p", "n", "error", "caught", "mine"]
abbrev jAt : List Str := ["got", "due", "wide_so", "good_so", "odd", "p", "n", "k", "own"]
abbrev jBq : List Str := ["tin", "vectors_so", "bids_so", "due", "got", "want_so", "own", "cells_so", "matter", "fine_so", "p", "count_so", "wide_so", "k", "n"]
abbrev N_law : List Str := ["script", "cells_so", "k"]
def jBS : Kb := ⟨0, ["length", "prime", "thing"], [], [2, 1, 0]⟩
def jB6 : Kb := ⟨0, ["residue", "prime"], [], [1, 0]⟩
def jBR : Kb := ⟨0, ["length", "factors", "rows", "prime"], [], [3, 2, 1, 0]⟩
def jB5 : Kb := ⟨0, ["other", "row", "prime"], [], [2, 1, 0]⟩
def kbs : Nat → List Kb := fun i => bif Nat.beq i 1 then [jBS] else bif Nat.beq i 2 then [jB6] else bif Nat.beq i 3 then [jBR] else bif Nat.beq i 4 then [jB5] else []
theorem jF7 {G : Gi} (h : G.kb = kbs) : jBS ∈ G.kb 1 := by rw [h]; exact List.mem_of_getElem? (i := 0) rfl
theorem jEX {G : Gi} (h : G.kb = kbs) : jB6 ∈ G.kb 2 := by rw [h]; exact List.mem_of_getElem? (i := 0) rfl
theorem jF6 {G : Gi} (h : G.kb = kbs) : jBR ∈ G.kb 3 := by rw [h]; exact List.mem_of_getElem? (i := 0) rfl
theorem jEW {G : Gi} (h : G.kb = kbs) : jB5 ∈ G.kb 4 := by rw [h]; exact List.mem_of_getElem? (i := 0) rfl
def nm : Nat → Str := fun i => match i with
 | 0 => "is_number"
 | 1 => "is_row"
 | 2 => "inverse"
 | 3 => "row_by"
 | 4 => "product"
 | 5 => "_law_box"
 | 6 => "_law_take"
 | 7 => "_law_cells"
 | 8 => "_law_of"
 | 9 => "_law_lists"
 | 10 => "_law_same"
 | 11 => "_law_plus"
 | 12 => "_law_mixed"
 | 13 => "_law_times"
 | 14 => "_law_drawn_vectors"
 | 15 => "_law_heard"
 | 16 => "_law_by_hand_right"
 | 17 => "_law_right"
 | 18 => "law"
 | _ => ""
def whm : Nat → Who := fun i => match i with
 | _ => .fn ""
def wh : Nat → Who := fun i => bif Nat.blt i nfn then .fn (nm i) else whm i
section
variable {P : Program} {w : World} {K : PySem.W.Frag} {mg : Str → Option Value} {base : Heap} {G : Gi} {k : Nat} {Φ : Ph}
theorem jAN {N : List Str} {x : Str} {stQ : Stmt} {cQ : CS} (h : ∀ (f : Addr) (cdv : Value) (A : Around) (outer : List PySem.Env) (s : Shared) (H : Hp) (E : XK), Room (2 * k + 1) (jEa P w K mg base N x stQ f cdv A outer s H E).A → (jEa P w K mg base N x stQ f cdv A outer s H E).A.units + 64 < cLine →
  (jEa P w K mg base N x stQ f cdv A outer s H E).A.units + 65 < cLine → (jEa P w K mg base N x stQ f cdv A outer s H E).A.depth + 1 < recursionLimit → Takes (jEa P w K mg base N x stQ f cdv A outer s H E) (fun cls d _ H => E cls d H) →
  PassesOwn (model P w) (jEa P w K mg base N x stQ f cdv A outer s H E).A (jEa P w K mg base N x stQ f cdv A outer s H E).env (jEa P w K mg base N x stQ f cdv A outer s H E).xe → SSs (jEa P w K mg base N x stQ f cdv A outer s H E) G (fun cls d _ H => E cls d H) Φ (defBody stQ) cQ) : Good P w K mg base G Φ k N x stQ cQ :=
 fun f cdv A outer s H E hr => h f cdv A outer s H E hr (hu64 hr) (hu65 hr) (by have := hr.dp; omega) (takes_of rfl rfl rfl rfl) (passes_of rfl)
theorem jDJ : FnScope jCD ["thing"] (defScope (top 3)) := ⟨rfl, rfl, rfl, by decide +kernel, rfl, by decide +kernel, by decide +kernel⟩
theorem jGt (hK : G.K = K) (bl : Blt mg) (cn : Cns mg G) (hkb : G.kb = kbs) (ex : Exs P K mg G) (ic : Inss K G.ic G.at_) (sm : G.K = K ∧ G.pg = P ∧ G.w = w) (hH : G.fa hnd = none) (hP : ∀ p ∈ G.prs, noHP p.1 = true) (fa : ∀ i, i < 19 → FX P w K mg base G Φ k (wh i) i) : Good P w K mg base G Φ k jCD "is_number" (top 3) b_is_number := by
 refine jAN fun f cdv A outer s H E hr hu hv hrd tk pn => ?_
 have nd := (jDJ).nd
 exact (jAn (jAO (jDI hK (jBE (j := 2) hK rfl bl.isinstance rfl bl.int boot_int ⟨by decide, rfl⟩ (sv 0)) (jEu (se_not hK (jBE (j := 1) hK rfl bl.isinstance rfl bl.bool boot_bool ⟨by decide, rfl⟩ (sv 0)))))))
theorem jGS : FnScope jDA ["thing", "prime", "length"] (defScope (top 5)) := ⟨rfl, rfl, rfl, by decide +kernel, rfl, by decide +kernel, by decide +kernel⟩
theorem g_is_row (hK : G.K = K) (bl : Blt mg) (cn : Cns mg G) (hkb : G.kb = kbs) (ex : Exs P K mg G) (ic : Inss K G.ic G.at_) (sm : G.K = K ∧ G.pg = P ∧ G.w = w) (hH : G.fa hnd = none) (hP : ∀ p ∈ G.prs, noHP p.1 = true) (fa : ∀ i, i < 19 → FX P w K mg base G Φ k (wh i) i) : Good P w K mg base G Φ k jDA "is_row" (top 5) b_is_row := by
 refine jAN fun f cdv A outer s H E hr hu hv hrd tk pn => ?_
 have nd := (jGS).nd
 exact (jAh (jEi (sw_pt (sw_or (jGH (jBM hK (jBE (j := 4) hK rfl bl.isinstance rfl bl.tuple boot_tuple ⟨by decide, rfl⟩ (sv 0)))) (jGF (jBX (jDQ hK ⟨sm.1, sm.2.1, sm.2.2⟩ hu) jFV (jC6 (jCm hK ⟨sm.1, sm.2.1, sm.2.2⟩) rfl bl.len boot_len (sv 0)) (sv 2) rfl)))) (jAn (jAO jCL)) jCc) (jAn (jAO (jC6 (jG4 rfl ⟨sm.1, sm.2.1, sm.2.2⟩) rfl bl.all boot_all (jBf rfl rfl nd (own := [("own", 3)]) (jC5 hK ⟨sm.1, sm.2.1, sm.2.2⟩ (sv 0)) (blkOk_by (N := jDA) (sc := defScope (top 5)) (by decide +kernel)) (fun _ _ _ _ _ => (sg 3 nd)) (fun _ _ _ _ _ => jBy) (fun _ _ _ _ _ => (jDI hK (sc (fa 0 (by decide)) hr jC0 (jAa (sv 3) jAd)) (jEu (se_chain (jIc ⟨sm.1, sm.2.1, sm.2.2⟩ hu) (jGh ⟨sm.1, sm.2.1, sm.2.2⟩ hu) jAc (sv 3) (sv 1))))))))))
theorem jFq : FnScope jEg ["prime", "residue"] (defScope (top 6)) := ⟨rfl, rfl, rfl, by decide +kernel, rfl, by decide +kernel, by decide +kernel⟩
theorem jIC (hK : G.K = K) (bl : Blt mg) (cn : Cns mg G) (hkb : G.kb = kbs) (ex : Exs P K mg G) (ic : Inss K G.ic G.at_) (sm : G.K = K ∧ G.pg = P ∧ G.w = w) (hH : G.fa hnd = none) (hP : ∀ p ∈ G.prs, noHP p.1 = true) (fa : ∀ i, i < 19 → FX P w K mg base G Φ k (wh i) i) : Good P w K mg base G Φ k jEg "inverse" (top 6) b_inverse := by
 refine jAN fun f cdv A outer s H E hr hu hv hrd tk pn => ?_
 have nd := (jFq).nd
 exact (jAh (jEr (vs := [2]) pn rfl (si_rng2 rfl bl.range (jAa jAc (jAa (sv 0) jAd))) (sg 2 nd) (jAn (jEi (jBX (jBO hK ⟨sm.1, sm.2.1, sm.2.2⟩ hu) bv_eqB (jAi jBg (jAi (jA6 hK) (sv 2) (sv 1)) (sv 0)) jAc rfl) (jAn (jAO (sv 2))) jCc))) (jAn (jHQ ex.Unfit rfl tk)))
theorem jGR : FnScope jD9 ["prime", "rows", "factors", "length"] (defScope (top 7)) := ⟨rfl, rfl, rfl, by decide +kernel, rfl, by decide +kernel, by decide +kernel⟩
theorem g_row_by (hK : G.K = K) (bl : Blt mg) (cn : Cns mg G) (hkb : G.kb = kbs) (ex : Exs P K mg G) (ic : Inss K G.ic G.at_) (sm : G.K = K ∧ G.pg = P ∧ G.w = w) (hH : G.fa hnd = none) (hP : ∀ p ∈ G.prs, noHP p.1 = true) (fa : ∀ i, i < 19 → FX P w K mg base G Φ k (wh i) i) : Good P w K mg base G Φ k jD9 "row_by" (top 7) b_row_by := by
 refine jAN fun f cdv A outer s H E hr hu hv hrd tk pn => ?_
 have nd := (jGR).nd
 exact (jAh (ssN 4 nd (jAi (jA6 hK) (jAy (jAa jAc jAd)) (sv 3))) (jAh (jEr (vs := [5, 6]) pn rfl (jDF hK rfl bl.zip (jAa (sv 1) (jAa (sv 2) jAd))) (jC1 hK rfl (jA5 (sg 5 nd) (jA5 (sg 6 nd) jBB)) (jAv (jAv jBm))) (jAn (jGJ rfl rfl nd (i := 4) rfl rfl (sw_true rfl rfl rfl (by decide +kernel)) (own := [("own", 7), ("far", 8)]) (jDF hK rfl bl.zip (jAa (sv 4) (jAa (sv 5) jAd))) (blkOk_by (N := jD9) (sc := defScope (top 7)) (by decide +kernel)) (fun _ _ _ _ _ => (jC1 hK rfl (jA5 (sg 7 nd) (jA5 (sg 8 nd) jBB)) (jAv (jAv jBm)))) (fun _ _ _ _ _ => jBy) (fun _ _ _ _ _ => (jAi jBg (jAi (jA0 hK) (sv 7) (jAi (jA6 hK) (sv 6) (sv 8))) (sv 0)))))) (jAn (jAO (jBz (jBU hK) rfl bl.tuple boot_tuple (sv 4))))))
theorem jFp : FnScope jCW ["prime", "row", "other"] (defScope (top 8)) := ⟨rfl, rfl, rfl, by decide +kernel, rfl, by decide +kernel, by decide +kernel⟩
theorem jIB (hK : G.K = K) (bl : Blt mg) (cn : Cns mg G) (hkb : G.kb = kbs) (ex : Exs P K mg G) (ic : Inss K G.ic G.at_) (sm : G.K = K ∧ G.pg = P ∧ G.w = w) (hH : G.fa hnd = none) (hP : ∀ p ∈ G.prs, noHP p.1 = true) (fa : ∀ i, i < 19 → FX P w K mg base G Φ k (wh i) i) : Good P w K mg base G Φ k jCW "product" (top 8) b_product := by
 refine jAN fun f cdv A outer s H E hr hu hv hrd tk pn => ?_
 have nd := (jFp).nd
 exact (jAn (jAO (jAi jBg (jC6 (jIQ hK rfl) rfl bl.sum boot_sum (jBf rfl rfl nd (own := [("own", 3), ("far", 4)]) (jDF hK rfl bl.zip (jAa (sv 1) (jAa (sv 2) jAd))) (blkOk_by (N := jCW) (sc := defScope (top 8)) (by decide +kernel)) (fun _ _ _ _ _ => (jC1 hK rfl (jA5 (sg 3 nd) (jA5 (sg 4 nd) jBB)) (jAv (jAv jBm)))) (fun _ _ _ _ _ => jBy) (fun _ _ _ _ _ => (jAi (jA6 hK) (sv 3) (sv 4))))) (sv 0))))
theorem jEv : FnScope jDg ["script", "k"] (defScope (top 10)) := ⟨rfl, rfl, rfl, by decide +kernel, rfl, by decide +kernel, by decide +kernel⟩
theorem jHA (hK : G.K = K) (bl : Blt mg) (cn : Cns mg G) (hkb : G.kb = kbs) (ex : Exs P K mg G) (ic : Inss K G.ic G.at_) (sm : G.K = K ∧ G.pg = P ∧ G.w = w) (hH : G.fa hnd = none) (hP : ∀ p ∈ G.prs, noHP p.1 = true) (fa : ∀ i, i < 19 → FX P w K mg base G Φ k (wh i) i) : Good P w K mg base G Φ k jDg "_law_box" (top 10) b__law_box := by
 refine jAN fun f cdv A outer s H E hr hu hv hrd tk pn => ?_
 have nd := (jEv).nd
 exact (jAh (ssN 2 nd (se_if (jBX (jGh ⟨sm.1, sm.2.1, sm.2.2⟩ hu) bv_ltA (sv 1) (jC6 (jCm hK ⟨sm.1, sm.2.1, sm.2.2⟩) rfl bl.len boot_len (sv 0)) rfl) (jBk hK ⟨sm.1, sm.2.1, sm.2.2⟩ hu (sv 0) (sv 1)) jAc)) (jAn (jAO (jAy (jAa (jAi (jA6 hK) (jC6 jIR rfl bl.abs boot_abs (sv 2)) (jBz jBt rfl bl.int boot_int (jCJ (opr_geA ⟨sm.1, sm.2.1, sm.2.2⟩ hu) (jC6 jIR rfl bl.abs boot_abs (sv 2)) (jAi opr_pow jAc jAc) rfl))) (jAa (jAi (jA0 hK) (jAi (jA0 hK) (jAi jBg (jBz jBt rfl bl.int boot_int (sv 2)) jAc) (jAi (jA6 hK) jAc (sv 1))) jAc) (jAa jAc jAd)))))))
theorem jDK : FnScope jCE ["tin", "below_so"] (defScope (top 11)) := ⟨rfl, rfl, rfl, by decide +kernel, rfl, by decide +kernel, by decide +kernel⟩
theorem jGu (hK : G.K = K) (bl : Blt mg) (cn : Cns mg G) (hkb : G.kb = kbs) (ex : Exs P K mg G) (ic : Inss K G.ic G.at_) (sm : G.K = K ∧ G.pg = P ∧ G.w = w) (hH : G.fa hnd = none) (hP : ∀ p ∈ G.prs, noHP p.1 = true) (fa : ∀ i, i < 19 → FX P w K mg base G Φ k (wh i) i) : Good P w K mg base G Φ k jCE "_law_take" (top 11) b__law_take := by
 refine jAN fun f cdv A outer s H E hr hu hv hrd tk pn => ?_
 have nd := (jDK).nd
 exact (jAh (jEi (jBX (opr_gtA ⟨sm.1, sm.2.1, sm.2.2⟩ hu) bv_gtA (jBk hK ⟨sm.1, sm.2.1, sm.2.2⟩ hu (sv 0) jAc) jAc rfl) (jAh (ssN 5 nd (jAi jBg (jBz jBt rfl bl.int boot_int (jBk hK ⟨sm.1, sm.2.1, sm.2.2⟩ hu (sv 0) jAc)) (sv 1))) (jAh (jED ⟨sm.1, sm.2.1, sm.2.2⟩ hu (jAi jGi (jBk hK ⟨sm.1, sm.2.1, sm.2.2⟩ hu (sv 0) jAc) (sv 1)) (sv 0) jAc) (jAn (jAO (sv 5))))) jCc) (jAh (jED ⟨sm.1, sm.2.1, sm.2.2⟩ hu (jAi (jA0 hK) (jBk hK ⟨sm.1, sm.2.1, sm.2.2⟩ hu (sv 0) jAc) jAc) (sv 0) jAc) (jAh (ssN 2 nd (jAi jBg (jBz jBt rfl bl.int boot_int (jAi (jA6 hK) (jAi (jA0 hK) (jBk hK ⟨sm.1, sm.2.1, sm.2.2⟩ hu (sv 0) jAc) (jAi (jA6 hK) jAc (jBk hK ⟨sm.1, sm.2.1, sm.2.2⟩ hu (sv 0) jAc))) (jAi (jA0 hK) jAc (jBk hK ⟨sm.1, sm.2.1, sm.2.2⟩ hu (sv 0) jAc)))) jAc)) (jAh (ssN 3 nd (jAi (jA0 hK) (jAi jBg (jBz jBt rfl bl.int boot_int (sv 2)) jAc) jAc)) (jAh (ssN 4 nd (jAi jBg (jBz jBt rfl bl.int boot_int (jAi (jA6 hK) (jAi (jA0 hK) (jAi (jA0 hK) (sv 2) (jBk hK ⟨sm.1, sm.2.1, sm.2.2⟩ hu (sv 0) jAc)) (jAi jGi (jBk hK ⟨sm.1, sm.2.1, sm.2.2⟩ hu (sv 0) jAc) jAc)) (sv 3))) jAc)) (jAn (jAO (jAi jBg (jBz jBt rfl bl.int boot_int (jAi jGi (jAi jBg (jBz jBt rfl bl.int boot_int (jAi (jA0 hK) (jAi (jA6 hK) (sv 4) jAc) (sv 2))) jAc) jAc)) (sv 1)))))))))
theorem jDn : FnScope jCp ["script", "most_so"] (defScope (top 12)) := ⟨rfl, rfl, rfl, by decide +kernel, rfl, by decide +kernel, by decide +kernel⟩
theorem jFF {ns : List Int} (hs : Scr K G ns) (hK : G.K = K) (bl : Blt mg) (cn : Cns mg G) (hkb : G.kb = kbs) (ex : Exs P K mg G) (ic : Inss K G.ic G.at_) (sm : G.K = K ∧ G.pg = P ∧ G.w = w) (hH : G.fa hnd = none) (hP : ∀ p ∈ G.prs, noHP p.1 = true) (fa : ∀ i, i < 19 → FX P w K mg base G Φ k (wh i) i) : Good P w K mg base G Φ k jCp "_law_cells" (top 12) (jDp ns) := by
 refine jAN fun f cdv A outer s H E hr hu hv hrd tk pn => ?_
 have nd := (jDn).nd
 exact (jAh (ssN 2 nd (se_or hK (jBz (jD5 hK rfl ⟨sm.1, sm.2.1, sm.2.2⟩) rfl bl.list boot_list (se_slS hK hs (sv 0) so_none (jGd (sv 1)))) (jEu (jAy (jAa jAc jAd))))) (jAh (jEr (vs := [3, 4]) pn rfl (si_enum hK rfl bl.enumerate (jAa (se_slS hK hs (sv 0) (jGd (sv 1)) (jGd jAc)) jAd)) (jC1 hK rfl (jA5 (sg 3 nd) (jA5 (sg 4 nd) jBB)) (jAv (jAv jBm))) (jAh (ssN 5 nd (jAi jBg (jBz jBt rfl bl.int boot_int (sv 3)) (sv 1))) (jAn (jED ⟨sm.1, sm.2.1, sm.2.2⟩ hu (jAi (jA0 hK) (jBk hK ⟨sm.1, sm.2.1, sm.2.2⟩ hu (sv 2) (sv 5)) (jAi (jA6 hK) (sv 4) (jAi (jA0 hK) (sv 3) jAc))) (sv 2) (sv 5))))) (jAn (jAO (sv 2)))))
theorem jFr : FnScope jEh ["tin", "goods_so"] (defScope (top 13)) := ⟨rfl, rfl, rfl, by decide +kernel, rfl, by decide +kernel, by decide +kernel⟩
theorem jID (hK : G.K = K) (bl : Blt mg) (cn : Cns mg G) (hkb : G.kb = kbs) (ex : Exs P K mg G) (ic : Inss K G.ic G.at_) (sm : G.K = K ∧ G.pg = P ∧ G.w = w) (hH : G.fa hnd = none) (hP : ∀ p ∈ G.prs, noHP p.1 = true) (fa : ∀ i, i < 19 → FX P w K mg base G Φ k (wh i) i) : Good P w K mg base G Φ k jEh "_law_of" (top 13) b__law_of := by
 refine jAN fun f cdv A outer s H E hr hu hv hrd tk pn => ?_
 have nd := (jFr).nd
 exact (jAn (jAO (jBk hK ⟨sm.1, sm.2.1, sm.2.2⟩ hu (sv 1) (sc (fa 6 (by decide)) hr tk (jAa (sv 0) (jAa (jC6 (jCm hK ⟨sm.1, sm.2.1, sm.2.2⟩) rfl bl.len boot_len (sv 1)) jAd))))))
theorem jDl : FnScope jBA ["matter"] (defScope (top 14)) := ⟨rfl, rfl, rfl, by decide +kernel, rfl, by decide +kernel, by decide +kernel⟩
theorem jFD (hK : G.K = K) (bl : Blt mg) (cn : Cns mg G) (hkb : G.kb = kbs) (ex : Exs P K mg G) (ic : Inss K G.ic G.at_) (sm : G.K = K ∧ G.pg = P ∧ G.w = w) (hH : G.fa hnd = none) (hP : ∀ p ∈ G.prs, noHP p.1 = true) (fa : ∀ i, i < 19 → FX P w K mg base G Φ k (wh i) i) : Good P w K mg base G Φ k jBA "_law_lists" (top 14) b__law_lists := by
 refine jAN fun f cdv A outer s H E hr hu hv hrd tk pn => ?_
 have nd := (jDl).nd
 exact (jAn (jAO (se_if (jBM hK (jGf (j := 5) (i := 4) hK rfl bl.isinstance rfl bl.list boot_list ⟨by decide, rfl⟩ rfl bl.tuple boot_tuple ⟨by decide, rfl⟩ (sv 0))) (jBf rfl rfl nd (own := [("bit", 1)]) (jC5 hK ⟨sm.1, sm.2.1, sm.2.2⟩ (sv 0)) (blkOk_by (N := jBA) (sc := defScope (top 14)) (by decide +kernel)) (fun _ _ _ _ _ => (sg 1 nd)) (fun _ _ _ _ _ => jBy) (fun _ _ _ _ _ => (sc (fa 9 (by decide)) hr jC0 (jAa (sv 1) jAd)))) (sv 0))))
theorem jDL : FnScope jBV ["got", "due"] (defScope (top 15)) := ⟨rfl, rfl, rfl, by decide +kernel, rfl, by decide +kernel, by decide +kernel⟩
theorem jGv (hK : G.K = K) (bl : Blt mg) (cn : Cns mg G) (hkb : G.kb = kbs) (ex : Exs P K mg G) (ic : Inss K G.ic G.at_) (sm : G.K = K ∧ G.pg = P ∧ G.w = w) (hH : G.fa hnd = none) (hP : ∀ p ∈ G.prs, noHP p.1 = true) (fa : ∀ i, i < 19 → FX P w K mg base G Φ k (wh i) i) : Good P w K mg base G Φ k jBV "_law_same" (top 15) b__law_same := by
 refine jAN fun f cdv A outer s H E hr hu hv hrd tk pn => ?_
 have nd := (jDL).nd
 exact (jAh (jEi (jBM hK (jGf (j := 5) (i := 4) hK rfl bl.isinstance rfl bl.list boot_list ⟨by decide, rfl⟩ rfl bl.tuple boot_tuple ⟨by decide, rfl⟩ (sv 1))) (jAh (jEi (sw_pt (sw_or (jBX (jDQ hK ⟨sm.1, sm.2.1, sm.2.2⟩ hu) jFV (jBE (j := 5) hK rfl bl.isinstance rfl bl.list boot_list ⟨by decide, rfl⟩ (sv 0)) (jBE (j := 5) hK rfl bl.isinstance rfl bl.list boot_list ⟨by decide, rfl⟩ (sv 1)) rfl) (jGF (jBX (jDQ hK ⟨sm.1, sm.2.1, sm.2.2⟩ hu) jFV (jBE (j := 4) hK rfl bl.isinstance rfl bl.tuple boot_tuple ⟨by decide, rfl⟩ (sv 0)) (jBE (j := 4) hK rfl bl.isinstance rfl bl.tuple boot_tuple ⟨by decide, rfl⟩ (sv 1)) rfl)))) (jAn (jAO jCL)) jCc) (jAn (jAO (jDI hK (jCJ (jBO hK ⟨sm.1, sm.2.1, sm.2.2⟩ hu) (jC6 (jCm hK ⟨sm.1, sm.2.1, sm.2.2⟩) rfl bl.len boot_len (sv 0)) (jC6 (jCm hK ⟨sm.1, sm.2.1, sm.2.2⟩) rfl bl.len boot_len (sv 1)) rfl) (jEu (jC6 (jG4 rfl ⟨sm.1, sm.2.1, sm.2.2⟩) rfl bl.all boot_all (jBf rfl rfl nd (own := [("mine", 2), ("its", 3)]) (jDF hK rfl bl.zip (jAa (sv 0) (jAa (sv 1) jAd))) (blkOk_by (N := jBV) (sc := defScope (top 15)) (by decide +kernel)) (fun _ _ _ _ _ => (jC1 hK rfl (jA5 (sg 2 nd) (jA5 (sg 3 nd) jBB)) (jAv (jAv jBm)))) (fun _ _ _ _ _ => jBy) (fun _ _ _ _ _ => (sc (fa 10 (by decide)) hr jC0 (jAa (sv 2) (jAa (sv 3) jAd))))))))))) jCc) (jAh (jEi (sw_pt (sw_or (jBX jEM bv_isA (sv 1) jCI rfl) (jGF (jBM hK (jGf (j := 1) (i := 3) hK rfl bl.isinstance rfl bl.bool boot_bool ⟨by decide, rfl⟩ rfl bl.str boot_str ⟨by decide, rfl⟩ (sv 1)))))) (jAn (jAO (jDI hK (jCJ (jBO hK ⟨sm.1, sm.2.1, sm.2.2⟩ hu) (sv 0) (sv 1) rfl) (jDI hK (jCJ (jBO hK ⟨sm.1, sm.2.1, sm.2.2⟩ hu) (jBE (j := 1) hK rfl bl.isinstance rfl bl.bool boot_bool ⟨by decide, rfl⟩ (sv 0)) (jBE (j := 1) hK rfl bl.isinstance rfl bl.bool boot_bool ⟨by decide, rfl⟩ (sv 1)) rfl) (jEu (jCJ (jBO hK ⟨sm.1, sm.2.1, sm.2.2⟩ hu) (jCJ jEM (sv 0) jCI rfl) (jCJ jEM (sv 1) jCI rfl) rfl)))))) jCc) (jAn (jAO (jDI hK (jBE (j := 2) hK rfl bl.isinstance rfl bl.int boot_int ⟨by decide, rfl⟩ (sv 0)) (jDI hK (se_not hK (jBE (j := 1) hK rfl bl.isinstance rfl bl.bool boot_bool ⟨by decide, rfl⟩ (sv 0))) (jEu (jCJ (jBO hK ⟨sm.1, sm.2.1, sm.2.2⟩ hu) (sv 0) (sv 1) rfl))))))))
theorem jDM : FnScope jBW ["p", "one_so", "two_so", "factor_so"] (defScope (top 16)) := ⟨rfl, rfl, rfl, by decide +kernel, rfl, by decide +kernel, by decide +kernel⟩
theorem jGw (hK : G.K = K) (bl : Blt mg) (cn : Cns mg G) (hkb : G.kb = kbs) (ex : Exs P K mg G) (ic : Inss K G.ic G.at_) (sm : G.K = K ∧ G.pg = P ∧ G.w = w) (hH : G.fa hnd = none) (hP : ∀ p ∈ G.prs, noHP p.1 = true) (fa : ∀ i, i < 19 → FX P w K mg base G Φ k (wh i) i) : Good P w K mg base G Φ k jBW "_law_plus" (top 16) b__law_plus := by
 refine jAN fun f cdv A outer s H E hr hu hv hrd tk pn => ?_
 have nd := (jDM).nd
 exact (jAn (jAO (jBz (jBU hK) rfl bl.tuple boot_tuple (jBf rfl rfl nd (own := [("own", 4), ("its", 5)]) (jDF hK rfl bl.zip (jAa (sv 1) (jAa (sv 2) jAd))) (blkOk_by (N := jBW) (sc := defScope (top 16)) (by decide +kernel)) (fun _ _ _ _ _ => (jC1 hK rfl (jA5 (sg 4 nd) (jA5 (sg 5 nd) jBB)) (jAv (jAv jBm)))) (fun _ _ _ _ _ => jBy) (fun _ _ _ _ _ => (jAi jBg (jBz jBt rfl bl.int boot_int (jAi (jA0 hK) (sv 4) (jAi (jA6 hK) (sv 3) (sv 5)))) (sv 0)))))))
theorem jDk : FnScope jCn ["p", "vectors_so", "factors_so", "wide_so"] (defScope (top 17)) := ⟨rfl, rfl, rfl, by decide +kernel, rfl, by decide +kernel, by decide +kernel⟩
theorem jFC (hK : G.K = K) (bl : Blt mg) (cn : Cns mg G) (hkb : G.kb = kbs) (ex : Exs P K mg G) (ic : Inss K G.ic G.at_) (sm : G.K = K ∧ G.pg = P ∧ G.w = w) (hH : G.fa hnd = none) (hP : ∀ p ∈ G.prs, noHP p.1 = true) (fa : ∀ i, i < 19 → FX P w K mg base G Φ k (wh i) i) : Good P w K mg base G Φ k jCn "_law_mixed" (top 17) b__law_mixed := by
 refine jAN fun f cdv A outer s H E hr hu hv hrd tk pn => ?_
 have nd := (jDk).nd
 exact (jAh (ssN 4 nd (jAi (jA6 hK) (jAj (jAa jAc jAd)) (sv 3))) (jAh (jEr (vs := [5, 6]) pn rfl (jDF hK rfl bl.zip (jAa (sv 1) (jAa (sv 2) jAd))) (jC1 hK rfl (jA5 (sg 5 nd) (jA5 (sg 6 nd) jBB)) (jAv (jAv jBm))) (jAn (ssN 4 nd (sc (fa 11 (by decide)) hr tk (jAa (sv 0) (jAa (sv 4) (jAa (sv 5) (jAa (sv 6) jAd)))))))) (jAn (jAO (sv 4)))))
theorem jDi : FnScope jB9 ["p", "one_so", "two_so"] (defScope (top 18)) := ⟨rfl, rfl, rfl, by decide +kernel, rfl, by decide +kernel, by decide +kernel⟩
theorem jFA (hK : G.K = K) (bl : Blt mg) (cn : Cns mg G) (hkb : G.kb = kbs) (ex : Exs P K mg G) (ic : Inss K G.ic G.at_) (sm : G.K = K ∧ G.pg = P ∧ G.w = w) (hH : G.fa hnd = none) (hP : ∀ p ∈ G.prs, noHP p.1 = true) (fa : ∀ i, i < 19 → FX P w K mg base G Φ k (wh i) i) : Good P w K mg base G Φ k jB9 "_law_times" (top 18) b__law_times := by
 refine jAN fun f cdv A outer s H E hr hu hv hrd tk pn => ?_
 have nd := (jDi).nd
 exact (jAn (jAO (jAi jBg (jBz jBt rfl bl.int boot_int (jC6 (jIQ hK rfl) rfl bl.sum boot_sum (jBf rfl rfl nd (own := [("own", 3), ("its", 4)]) (jDF hK rfl bl.zip (jAa (sv 1) (jAa (sv 2) jAd))) (blkOk_by (N := jB9) (sc := defScope (top 18)) (by decide +kernel)) (fun _ _ _ _ _ => (jC1 hK rfl (jA5 (sg 3 nd) (jA5 (sg 4 nd) jBB)) (jAv (jAv jBm)))) (fun _ _ _ _ _ => jBy) (fun _ _ _ _ _ => (jAi (jA6 hK) (sv 3) (sv 4)))))) (sv 0))))
theorem jBu : FnScope jAK ["tin", "p", "count_so", "wide_so"] (defScope (top 19)) := ⟨rfl, rfl, rfl, by decide +kernel, rfl, by decide +kernel, by decide +kernel⟩
theorem jCw (hK : G.K = K) (bl : Blt mg) (cn : Cns mg G) (hkb : G.kb = kbs) (ex : Exs P K mg G) (ic : Inss K G.ic G.at_) (sm : G.K = K ∧ G.pg = P ∧ G.w = w) (hH : G.fa hnd = none) (hP : ∀ p ∈ G.prs, noHP p.1 = true) (fa : ∀ i, i < 19 → FX P w K mg base G Φ k (wh i) i) : Good P w K mg base G Φ k jAK "_law_drawn_vectors" (top 19) b__law_drawn_vectors := by
 refine jAN fun f cdv A outer s H E hr hu hv hrd tk pn => ?_
 have nd := (jBu).nd
 exact (jAh (ssN 4 nd (jAy jAd)) (jAh (jEr (vs := [5]) pn rfl (jCY rfl bl.range (jAa (sv 2) jAd)) (sg 5 nd) (jAh (ssN 6 nd (sc (fa 6 (by decide)) hr tk (jAa (sv 0) (jAa jAc jAd)))) (jAn (jEi (jBX (jBO hK ⟨sm.1, sm.2.1, sm.2.2⟩ hu) bv_eqB (sv 6) jAc rfl) (jAn (jDE (jCd (sv 4) (jAa (jAi (jA6 hK) (jAj (jAa jAc jAd)) (sv 3)) jAd)))) (jAn (jEi (sw_pt (sw_and (jBX (jBO hK ⟨sm.1, sm.2.1, sm.2.2⟩ hu) bv_eqB (sv 6) jAc rfl) (sw_and1 (jBX (jDQ hK ⟨sm.1, sm.2.1, sm.2.2⟩ hu) jFV (sv 4) (jAy jAd) rfl)))) (jAn (jDE (jCd (sv 4) (jAa (sc (fa 11 (by decide)) hr tk (jAa (sv 1) (jAa (jAi (jA6 hK) (jAj (jAa jAc jAd)) (sv 3)) (jAa (sc (fa 8 (by decide)) hr tk (jAa (sv 0) (jAa (sv 4) jAd))) (jAa (sc (fa 6 (by decide)) hr tk (jAa (sv 0) (jAa (sv 1) jAd))) jAd))))) jAd)))) (jAn (jDE (jCd (sv 4) (jAa (jBz (jBU hK) rfl bl.tuple boot_tuple (jBf rfl rfl nd (own := [("k", 7)]) (jCY rfl bl.range (jAa (sv 3) jAd)) (blkOk_by (N := jAK) (sc := defScope (top 19)) (by decide +kernel)) (fun _ _ _ _ _ => (sg 7 nd)) (fun _ _ _ _ _ => jBy) (fun _ _ _ _ _ => (sc (fa 6 (by decide)) hr jC0 (jAa (sv 0) (jAa (sv 1) jAd)))))) jAd)))))))))) (jAn (jAO (jBz (jBU hK) rfl bl.tuple boot_tuple (sv 4))))))
theorem jDm : FnScope jCo ["p", "n"] (defScope (top 20)) := ⟨rfl, rfl, rfl, by decide +kernel, rfl, by decide +kernel, by decide +kernel⟩
theorem jFE (hK : G.K = K) (bl : Blt mg) (cn : Cns mg G) (hkb : G.kb = kbs) (ex : Exs P K mg G) (ic : Inss K G.ic G.at_) (sm : G.K = K ∧ G.pg = P ∧ G.w = w) (hH : G.fa hnd = none) (hP : ∀ p ∈ G.prs, noHP p.1 = true) (fa : ∀ i, i < 19 → FX P w K mg base G Φ k (wh i) i) : Good P w K mg base G Φ k jCo "_law_heard" (top 20) b__law_heard := by
 refine jAN fun f cdv A outer s H E hr hu hv hrd tk pn => ?_
 have nd := (jDm).nd
 obtain ⟨C_Unfit, mC_Unfit, tC_Unfit⟩ := ex.tUnfit
 exact (jAh (ss_set (vs := [3, 4]) (jAj (jAa jCI (jAa jCI jAd))) (jC1 hK rfl (jA5 (sg 3 nd) (jA5 (sg 4 nd) jBB)) (jAv (jAv jBm)))) (jAh (ss_try (l := [(Value.ref C_Unfit, (⟨[0], (some 2), fun cQ x => (jA1 3 (cLst (jAb (cC (.str [117, 110, 102, 105, 116])) (jAb (cOfH true (cVar 2) (.bl true)) cNil))))⟩ : Hdl))]) rfl rfl nd hH hP tk (fun _ _ _ tk pn => (jAn (ssN 4 nd (sc (fa 2 (by decide)) hr tk (jAa (sv 0) (jAa (sv 1) jAd)))))) (.named ⟨rfl, by decide, .inl mC_Unfit⟩ (suite_ok fun a oeQ cls d pn cQ x G' hzQ hf hm g => by
  have hc := memN1 hm
  subst hc
  exact (fun (hK : G'.K = K) (ic : Inss K G'.ic G'.at_) (sm : G'.K = K ∧ G'.pg = P ∧ G'.w = w) => (jAn (ssN 3 nd (jAy (jAa (jDH (s := [117, 110, 102, 105, 116])) (jAa (se_isE2 g hzQ hf ex.iUnfit_ValueError (by rfl) bl.isinstance (by rfl) ex.b_ValueError (by decide +kernel) (sv 2)) jAd)))))) (g.like.K.symm.trans hK) (g.like.ic ▸ g.like.at_ ▸ ic) ⟨g.like.K.symm.trans sm.1, g.like.pg.symm.trans sm.2.1, g.like.w.symm.trans sm.2.2⟩) rfl rfl .nil) (by intro p hpQ; simp only [List.mem_cons, List.not_mem_nil, or_false] at hpQ; rcases hpQ with rfl; exact tC_Unfit)) (jAn (jAO (se_if (jBX jEM bv_isA (sv 3) jCI rfl) (sv 4) (sv 3))))))
theorem jBv : FnScope jAt [] (defScope (top 21)) := ⟨rfl, rfl, rfl, by decide +kernel, rfl, by decide +kernel, by decide +kernel⟩
theorem jCx (hK : G.K = K) (bl : Blt mg) (cn : Cns mg G) (hkb : G.kb = kbs) (ex : Exs P K mg G) (ic : Inss K G.ic G.at_) (sm : G.K = K ∧ G.pg = P ∧ G.w = w) (hH : G.fa hnd = none) (hP : ∀ p ∈ G.prs, noHP p.1 = true) (fa : ∀ i, i < 19 → FX P w K mg base G Φ k (wh i) i) : Good P w K mg base G Φ k jAt "_law_by_hand_right" (top 21) b__law_by_hand_right := by
 refine jAN fun f cdv A outer s H E hr hu hv hrd tk pn => ?_
 have nd := (jBv).nd
 exact (jAh (jGJ rfl rfl nd (i := 0) rfl rfl (sw_true rfl rfl rfl (by decide +kernel)) (own := [("p", 5)]) (jC5 hK ⟨sm.1, sm.2.1, sm.2.2⟩ (jAj (jAa jAc (jAa jAc (jAa jAc jAd))))) (blkOk_by (N := jAt) (sc := defScope (top 21)) (by decide +kernel)) (fun _ _ _ _ _ => (sg 5 nd)) (fun _ _ _ _ _ => jBy) (fun _ _ _ _ _ => (jBf rfl rfl nd (own := [("n", 6)]) (jCY rfl bl.range (jAa (sv 5) jAd)) (blkOk_by (by rfl)) (fun _ _ _ _ _ => (sg 6 nd)) (fun _ _ _ _ _ => jBy) (fun _ _ _ _ _ => (sc (fa 15 (by decide)) hr jC0 (jAa (sv 5) (jAa (sv 6) jAd))))))) (jAh (ssN 1 nd (jAy (jAa (jAy (jAa (jAy (jAa (jDH (s := [117, 110, 102, 105, 116])) (jAa jCL jAd))) (jAa jAc jAd))) (jAa (jAy (jAa (jAy (jAa (jDH (s := [117, 110, 102, 105, 116])) (jAa jCL jAd))) (jAa jAc (jAa jAc jAd)))) (jAa (jAy (jAa (jAy (jAa (jDH (s := [117, 110, 102, 105, 116])) (jAa jCL jAd))) (jAa jAc (jAa jAc (jAa jAc (jAa jAc jAd)))))) jAd))))) (jAh (ssN 0 nd (jAi (jA0 hK) (sv 0) (jAy (jAa (jCK (q := jB6) (fa 2 (by decide)) (jEX hkb) hr tk (jBr jAc (jBr jAc jGM))) (jAa (sc (fa 4 (by decide)) hr tk (jAa jAc (jAa (jAj (jAa jAc (jAa jAc jAd))) (jAa (jAj (jAa jAc (jAa jAc jAd))) jAd)))) (jAa (sc (fa 4 (by decide)) hr tk (jAa jAc (jAa (jAj jAd) (jAa (jAj jAd) jAd)))) (jAa (jCK (q := jB5) (fa 4 (by decide)) (jEW hkb) hr tk (jBr (jAy (jAa jAc (jAa jAc jAd))) (jBr (jAy (jAa jAc (jAa jAc jAd))) (jBr jAc jGM)))) jAd))))))) (jAh (ssN 1 nd (jAi (jA0 hK) (sv 1) (jAy (jAa jAc (jAa jAc (jAa jAc (jAa jAc jAd))))))) (jAh (ssN 0 nd (jAi (jA0 hK) (sv 0) (jAy (jAa (sc (fa 3 (by decide)) hr tk (jAa jAc (jAa (jAj (jAa (jAj (jAa jAc (jAa jAc (jAa jAc jAd)))) (jAa (jAj (jAa jAc (jAa jAc (jAa jAc jAd)))) (jAa (jAj (jAa jAc (jAa jAc (jAa jAc jAd)))) jAd)))) (jAa (jAj (jAa jAc (jAa jAc (jAa jAc jAd)))) (jAa jAc jAd))))) (jAa (sc (fa 3 (by decide)) hr tk (jAa jAc (jAa (jAj jAd) (jAa (jAj jAd) (jAa jAc jAd))))) (jAa (sc (fa 3 (by decide)) hr tk (jAa jAc (jAa (jAj (jAa (jAj jAd) (jAa (jAj jAd) jAd))) (jAa (jAj (jAa jAc (jAa jAc jAd))) (jAa jAc jAd))))) jAd)))))) (jAh (ssN 1 nd (jAi (jA0 hK) (sv 1) (jAy (jAa (jAj (jAa jAc (jAa jAc (jAa jAc jAd)))) (jAa (jAj (jAa jAc (jAa jAc (jAa jAc (jAa jAc jAd))))) (jAa (jAj jAd) jAd)))))) (jAh (ssN 0 nd (jAi (jA0 hK) (sv 0) (jAy (jAa (jCK (q := jBR) (fa 3 (by decide)) (jF6 hkb) hr tk (jBr jAc (jBr (jAy (jAa jAc (jAa jAc jAd))) (jBr (jAy (jAa (jAy (jAa jAc (jAa jAc jAd))) (jAa (jAy (jAa jAc (jAa jAc jAd))) jAd))) (jBr jAc jGM))))) (jAa (sc (fa 3 (by decide)) hr tk (jAa jAc (jAa (jAj (jAa (jAj (jAa jAc (jAa jAc jAd))) (jAa (jAj (jAa jAc (jAa jAc jAd))) (jAa (jAj (jAa jAc (jAa jAc jAd))) jAd)))) (jAa (jAj (jAa jAc (jAa jAc (jAa jAc jAd)))) (jAa jAc jAd))))) jAd))))) (jAh (ssN 1 nd (jAi (jA0 hK) (sv 1) (jAy (jAa (jAj (jAa jAc (jAa jAc jAd))) (jAa (jAj (jAa jAc (jAa jAc jAd))) jAd))))) (jAh (ssN 2 nd (jBz (jBU hK) rfl bl.tuple boot_tuple (jBf rfl rfl nd (own := [("k", 7)]) (jCY rfl bl.range (jAa jAc jAd)) (blkOk_by (N := jAt) (sc := defScope (top 21)) (by decide +kernel)) (fun _ _ _ _ _ => (sg 7 nd)) (fun _ _ _ _ _ => jBy) (fun _ _ _ _ _ => (jAi jBg (jBz jBt rfl bl.int boot_int (sv 7)) jAc))))) (jAh (ssN 0 nd (jAi (jA0 hK) (sv 0) (jAy (jAa (sc (fa 3 (by decide)) hr tk (jAa jAc (jAa (jAi (jA6 hK) (jAj (jAa (sv 2) jAd)) jAc) (jAa (jAi (jA6 hK) (jAj (jAa jAc jAd)) jAc) (jAa jAc jAd))))) (jAa (sc (fa 4 (by decide)) hr tk (jAa jAc (jAa (sv 2) (jAa (sv 2) jAd)))) jAd))))) (jAh (ssN 1 nd (jAi (jA0 hK) (sv 1) (jAy (jAa (jAi (jA6 hK) (jAj (jAa jAc jAd)) jAc) (jAa jAc jAd))))) (jAh (ssN 3 nd (jAy (jAa (jAj (jAa (jAj jAd) (jAa jAc (jAa jAc jAd)))) (jAa (jAj (jAa (jAj (jAa jAc (jAa jAc jAd))) (jAa jAc (jAa jAc jAd)))) (jAa (jAj (jAa (jAj (jAa jAc (jAa jAc (jAa jAc jAd)))) (jAa jAc (jAa jAc jAd)))) (jAa (jAj (jAa (jAj (jAa jAc jAd)) (jAa jAc (jAa jAc jAd)))) jAd)))))) (jAh (ssN 4 nd (jAy (jAa (jAj (jAa (jAj (jAa jAc jAd)) (jAa jAc (jAa jAc jAd)))) (jAa (jAj (jAa (jAj (jAa jAc (jAa jAc jAd))) (jAa jAc (jAa jAc jAd)))) (jAa (jAj (jAa (jAj (jAa (se_un jIb jAc) jAd)) (jAa jAc (jAa jAc jAd)))) (jAa (jAj (jAa (jAj (jAa jAc (jAa jAc jAd))) (jAa jAc (jAa jAc jAd)))) (jAa (jAj (jAa (jAj (jAa jAc (jAa jAc jAd))) (jAa jAc (jAa jAc jAd)))) (jAa (jAj (jAa (jAy (jAa jAc (jAa jAc jAd))) (jAa jAc (jAa jAc jAd)))) (jAa (jAj (jAa (jAj (jAa jCL (jAa jAc jAd))) (jAa jAc (jAa jAc jAd)))) (jAa (jAj (jAa jCI (jAa jAc (jAa jAc jAd)))) jAd)))))))))) (jAh (ssN 4 nd (jAi (jA0 hK) (sv 4) (jAy (jAa (jAj (jAa (jAj (jAa (jDH (s := [48])) jAd)) (jAa jAc (jAa jAc jAd)))) (jAa (jAj (jAa (jAj (jAa (jAj (jAa jAc jAd)) jAd)) (jAa jAc (jAa jAc jAd)))) (jAa (jAj (jAa (jAj (jAa jAc (jAa jCI jAd))) (jAa jAc (jAa jAc jAd)))) (jAa (jAj (jAa jAc (jAa jAc (jAa jAc jAd)))) (jAa (jAj (jAa (jAj (jAa jCL jAd)) (jAa jAc (jAa jAc jAd)))) (jAa (jAj (jAa (jDH (s := [48, 49])) (jAa jAc (jAa jAc jAd)))) jAd))))))))) (jAh (ssN 0 nd (jAi (jA0 hK) (jAi (jA0 hK) (sv 0) (jBf rfl rfl nd (own := [("own", 8)]) (jC5 hK ⟨sm.1, sm.2.1, sm.2.2⟩ (sv 3)) (blkOk_by (N := jAt) (sc := defScope (top 21)) (by decide +kernel)) (fun _ _ _ _ _ => (sg 8 nd)) (fun _ _ _ _ _ => jBy) (fun _ _ _ _ _ => (sc (fa 1 (by decide)) hr jC0 (jAa (jBk hK ⟨sm.1, sm.2.1, sm.2.2⟩ hu (sv 8) jAc) (jAa (jBk hK ⟨sm.1, sm.2.1, sm.2.2⟩ hu (sv 8) jAc) (jAa (jBk hK ⟨sm.1, sm.2.1, sm.2.2⟩ hu (sv 8) jAc) jAd))))))) (jBf rfl rfl nd (own := [("own", 8)]) (jC5 hK ⟨sm.1, sm.2.1, sm.2.2⟩ (sv 4)) (blkOk_by (N := jAt) (sc := defScope (top 21)) (by decide +kernel)) (fun _ _ _ _ _ => (sg 8 nd)) (fun _ _ _ _ _ => jBy) (fun _ _ _ _ _ => (jCK (q := jBS) (fa 1 (by decide)) (jF7 hkb) hr jC0 (jBr (jBk hK ⟨sm.1, sm.2.1, sm.2.2⟩ hu (sv 8) jAc) (jBr (jBk hK ⟨sm.1, sm.2.1, sm.2.2⟩ hu (sv 8) jAc) (jBr (jBk hK ⟨sm.1, sm.2.1, sm.2.2⟩ hu (sv 8) jAc) jGM)))))))) (jAn (jAO (sc (fa 10 (by decide)) hr tk (jAa (sv 0) (jAa (jAi (jA0 hK) (jAi (jA0 hK) (sv 1) (jAi (jA6 hK) (jAy (jAa jCL jAd)) (jC6 (jCm hK ⟨sm.1, sm.2.1, sm.2.2⟩) rfl bl.len boot_len (sv 3)))) (jAi (jA6 hK) (jAy (jAa jCL jAd)) (jC6 (jCm hK ⟨sm.1, sm.2.1, sm.2.2⟩) rfl bl.len boot_len (sv 4)))) jAd))))))))))))))))))))
theorem jDj : FnScope jBq ["tin"] (defScope (top 22)) := ⟨rfl, rfl, rfl, by decide +kernel, rfl, by decide +kernel, by decide +kernel⟩
theorem jFB (hK : G.K = K) (bl : Blt mg) (cn : Cns mg G) (hkb : G.kb = kbs) (ex : Exs P K mg G) (ic : Inss K G.ic G.at_) (sm : G.K = K ∧ G.pg = P ∧ G.w = w) (hH : G.fa hnd = none) (hP : ∀ p ∈ G.prs, noHP p.1 = true) (fa : ∀ i, i < 19 → FX P w K mg base G Φ k (wh i) i) : Good P w K mg base G Φ k jBq "_law_right" (top 22) b__law_right := by
 refine jAN fun f cdv A outer s H E hr hu hv hrd tk pn => ?_
 have nd := (jDj).nd
 exact (jAh (ss_set (vs := [10, 11, 12]) (jAj (jAa (sc (fa 8 (by decide)) hr tk (jAa (sv 0) (jAa (jAy (jAa jAc (jAa jAc (jAa jAc jAd)))) jAd))) (jAa (sc (fa 6 (by decide)) hr tk (jAa (sv 0) (jAa jAc jAd))) (jAa (sc (fa 6 (by decide)) hr tk (jAa (sv 0) (jAa jAc jAd))) jAd)))) (jC1 hK rfl (jA5 (sg 10 nd) (jA5 (sg 11 nd) (jA5 (sg 12 nd) jBB))) (jAv (jAv (jAv jBm))))) (jAh (ssN 1 nd (sc (fa 14 (by decide)) hr tk (jAa (sv 0) (jAa (sv 10) (jAa (sv 11) (jAa (sv 12) jAd)))))) (jAh (ssN 2 nd (jBz (jBU hK) rfl bl.tuple boot_tuple (jBf rfl rfl nd (own := [("k", 13)]) (jCY rfl bl.range (jAa (sv 11) jAd)) (blkOk_by (N := jBq) (sc := defScope (top 22)) (by decide +kernel)) (fun _ _ _ _ _ => (sg 13 nd)) (fun _ _ _ _ _ => jBy) (fun _ _ _ _ _ => (sc (fa 6 (by decide)) hr jC0 (jAa (sv 0) (jAa (sv 10) jAd))))))) (jAh (ssN 3 nd (sc (fa 12 (by decide)) hr tk (jAa (sv 10) (jAa (sv 1) (jAa (sv 2) (jAa (sv 12) jAd)))))) (jAh (ssN 4 nd (jAy (jAa (sc (fa 3 (by decide)) hr tk (jAa (sv 10) (jAa (sv 1) (jAa (sv 2) (jAa (sv 12) jAd))))) (jAa (sc (fa 3 (by decide)) hr tk (jAa (sv 10) (jAa (sc (fa 9 (by decide)) hr tk (jAa (sv 1) jAd)) (jAa (jBz (jD5 hK rfl ⟨sm.1, sm.2.1, sm.2.2⟩) rfl bl.list boot_list (sv 2)) (jAa (sv 12) jAd))))) jAd)))) (jAh (ssN 5 nd (jAy (jAa (sv 3) (jAa (sv 3) jAd)))) (jAh (jEr (vs := [6]) pn rfl (jC5 hK ⟨sm.1, sm.2.1, sm.2.2⟩ (sv 1)) (sg 6 nd) (jAh (jDE (jCd (sv 4) (jAa (sc (fa 4 (by decide)) hr tk (jAa (sv 10) (jAa (sv 6) (jAa (sv 3) jAd)))) jAd))) (jAn (jDE (jCd (sv 5) (jAa (sc (fa 13 (by decide)) hr tk (jAa (sv 10) (jAa (sv 6) (jAa (sv 3) jAd)))) jAd)))))) (jAh (ssN 7 nd (jBz (jD5 hK rfl ⟨sm.1, sm.2.1, sm.2.2⟩) rfl bl.list boot_list (sv 3))) (jAh (jEi (jBX (jDQ hK ⟨sm.1, sm.2.1, sm.2.2⟩ hu) jFV (sv 7) (jAy jAd) rfl) (jAn (jED ⟨sm.1, sm.2.1, sm.2.2⟩ hu (sc (fa 8 (by decide)) hr tk (jAa (sv 0) (jAa (jAy (jAa (sv 10) (jAa (se_un jIb jAc) (jAa jCI (jAa jCL (jAa (jDH (s := [48])) (jAa jAc (jAa (jAi opr_sub (sv 10) jAc) (jAa (jAj (jAa jAc jAd)) (jAa (jAi (jA0 hK) (sv 10) jAc) jAd)))))))))) jAd))) (sv 7) (sc (fa 6 (by decide)) hr tk (jAa (sv 0) (jAa (sv 12) jAd))))) jCc) (jAh (ssN 8 nd (jBz (jBU hK) rfl bl.tuple boot_tuple (sv 7))) (jAh (ssN 9 nd (jCJ (jBO hK ⟨sm.1, sm.2.1, sm.2.2⟩ hu) (jBf rfl rfl nd (own := [("n", 14)]) (jC5 hK ⟨sm.1, sm.2.1, sm.2.2⟩ (sv 8)) (blkOk_by (N := jBq) (sc := defScope (top 22)) (by decide +kernel)) (fun _ _ _ _ _ => (sg 14 nd)) (fun _ _ _ _ _ => (sq_one (sw_pt (sw_or (jBM hK (jBE (j := 1) hK rfl bl.isinstance rfl bl.bool boot_bool ⟨by decide, rfl⟩ (sv 14))) (sw_or (jGH (jBM hK (jBE (j := 2) hK rfl bl.isinstance rfl bl.int boot_int ⟨by decide, rfl⟩ (sv 14)))) (jGF (jGH (st_chain (jIc ⟨sm.1, sm.2.1, sm.2.2⟩ hu) (jGh ⟨sm.1, sm.2.1, sm.2.2⟩ hu) bv_leA bv_ltA jAc (sv 14) (sv 10))))))))) (fun _ _ _ _ _ => (sv 14))) (jAy jAd) rfl)) (jAh (ssN 4 nd (jAi (jA0 hK) (sv 4) (jAy (jAa (sc (fa 1 (by decide)) hr tk (jAa (sv 3) (jAa (sv 10) (jAa (sv 12) jAd)))) (jAa (sc (fa 1 (by decide)) hr tk (jAa (sv 3) (jAa (sv 10) (jAa (jAi (jA0 hK) (sv 12) jAc) jAd)))) (jAa (sc (fa 1 (by decide)) hr tk (jAa (jBz (jD5 hK rfl ⟨sm.1, sm.2.1, sm.2.2⟩) rfl bl.list boot_list (sv 3)) (jAa (sv 10) (jAa (sv 12) jAd)))) (jAa (sc (fa 1 (by decide)) hr tk (jAa (sv 8) (jAa (sv 10) (jAa (sv 12) jAd)))) jAd))))))) (jAn (jAO (sc (fa 10 (by decide)) hr tk (jAa (sv 4) (jAa (jAi (jA0 hK) (sv 5) (jAy (jAa jCL (jAa jCL (jAa jCL (jAa (sv 9) jAd)))))) jAd)))))))))))))))))
theorem s_law : FnScope N_law ["script"] (defScope (top 23)) := ⟨rfl, rfl, rfl, by decide +kernel, rfl, by decide +kernel, by decide +kernel⟩
theorem g_law (hK : G.K = K) (bl : Blt mg) (cn : Cns mg G) (hkb : G.kb = kbs) (ex : Exs P K mg G) (ic : Inss K G.ic G.at_) (sm : G.K = K ∧ G.pg = P ∧ G.w = w) (hH : G.fa hnd = none) (hP : ∀ p ∈ G.prs, noHP p.1 = true) (fa : ∀ i, i < 19 → FX P w K mg base G Φ k (wh i) i) : Good P w K mg base G Φ k N_law "law" (top 23) b_law := by
 refine jAN fun f cdv A outer s H E hr hu hv hrd tk pn => ?_
 have nd := (s_law).nd
 exact (jAh (jEi (jGH (jBM hK (sc0 (fa 16 (by decide)) hr tk))) (jAn (jAO jCL)) jCc) (jAh (ssN 1 nd (sc (fa 7 (by decide)) hr tk (jAa (sv 0) (jAa jAc jAd)))) (jAn (jAO (jC6 (jG4 rfl ⟨sm.1, sm.2.1, sm.2.2⟩) rfl bl.all boot_all (jBf rfl rfl nd (own := [("k", 2)]) (jCY rfl bl.range (jAa (jC6 (jCm hK ⟨sm.1, sm.2.1, sm.2.2⟩) rfl bl.len boot_len (sv 1)) jAd)) (blkOk_by (N := N_law) (sc := defScope (top 23)) (by decide +kernel)) (fun _ _ _ _ _ => (sg 2 nd)) (fun _ _ _ _ _ => jBy) (fun _ _ _ _ _ => (sc (fa 17 (by decide)) hr jC0 (jAa (sc (fa 5 (by decide)) hr jC0 (jAa (sv 1) (jAa (sv 2) jAd))) jAd)))))))))
end
end
end Mi

namespace Mi
noncomputable section
open PySem PySem.Spec L2
open PyProof.Rows hiding St
def iniSt (stQ : Stmt) : Stmt := match stQ with
 | .ClassDef _ _ _ (d :: _) _ _ _ _ _ _ _ => d
 | s => s
theorem obM_eq {n : List Addr} {fs : List Lk} {fn : List He.DefD} {xs : List IniD} (s : PySem.W.SharedT) : obM n fs fn xs s = (hookM n fs fn xs).obs s.abs := by
 have eQ : HandSHeadRun.getT s = s.abs.heap.get? := funext fun a => HandSHeadRun.getT_eq s a
 unfold obM
 rw [eQ] <;> rfl
theorem obM_cut {E : Option PySem.W.SharedT} {n : List Addr} {fs : List Lk} {fn : List He.DefD} {xs : List IniD} (k : Nat) (a : Option.map (fun s => obM n fs (fn.take k) [] s) E = some (valM (fn.take k) []))
  (b : Option.map (fun s => obM n [] (fn.drop k) xs s) E = some (valM (fn.drop k) xs)) : Option.map (fun s => obM n fs fn xs s) E = some (valM fn xs) := by
 cases E with
 | none => cases a
 | some s =>
  have a := Option.some.inj a
  have b := Option.some.inj b
  refine congrArg some ?_
  unfold obM obsM valM He.valD at a b ⊢
  have a1 := congrArg (fun q : AlM => q.1.1) a
  have a2 := congrArg (fun q : AlM => q.1.2) a
  have b1 := congrArg (fun q : AlM => q.1.1) b
  have b2 := congrArg (fun q : AlM => q.1.2) b
  have b3 := congrArg (fun q : AlM => q.2) b
  dsimp only at a1 a2 b1 b2 b3
  rw [Bool.and_eq_true] at a1 b1
  have eQ := List.take_append_drop k fn
  refine Prod.ext (Prod.ext ?_ ?_) b3
  ·show (_ && _) = true
   rw [Bool.and_eq_true]
   refine ⟨a1.1, ?_⟩
   rw [← eQ, List.all_append, Bool.and_eq_true]
   exact ⟨a1.2, b1.2⟩
  ·show List.map _ fn = List.map _ fn
   rw [← eQ, List.map_append, List.map_append, a2, b2]
section
variable {fs : List Lk} {fn : List He.DefD} {xs : List IniD} {K : PySem.W.Frag}
theorem jAH (cQ : obsM fs fn xs K = valM fn xs) (i : Nat) {f : Lk} (h : fs[i]? = some f := by rfl) : f K = true := by
 have eQ := congrArg (fun zQ : AlM => zQ.1.1) cQ
 have e2 : ((fs.all fun f => f K) && fn.all fun d => d.ok K) = true := eQ
 rw [Bool.and_eq_true] at e2
 exact List.all_eq_true.mp e2.1 f (List.mem_of_getElem? h)
theorem jBc (cQ : obsM fs fn xs K = valM fn xs) (i : Nat) {d : He.DefD} (h : fn[i]? = some d := by rfl) : ∃ fd, FunD K d.name d.qual d.params d.body d.scope (d.dvs K) (d.kws K) (He.fAd K d.at_) fd := by
 have eQ := congrArg (fun zQ : AlM => zQ.1.1) cQ
 have e2 : ((fs.all fun f => f K) && fn.all fun d => d.ok K) = true := eQ
 rw [Bool.and_eq_true] at e2
 have e3 : fn.map (fun d => He.fnW K d.at_) = fn.map He.DefD.val := congrArg (fun zQ : AlM => zQ.1.2) cQ
 have e4 : (fn.map fun d => He.fnW K d.at_)[i]? = (fn.map He.DefD.val)[i]? := by rw [e3]
 rw [List.getElem?_map, List.getElem?_map, h] at e4
 exact He.DefD.funD (Option.some.inj e4) (List.all_eq_true.mp e2.2 d (List.mem_of_getElem? h))
end
section
variable
   {K : PySem.W.Frag} {h : Heap} {mg : Str → Option Value}
theorem jAZ (X : K.In h) (G : h.Ns mainGlobals mg) {x : Str} (cQ : jB3 x K = true) : mg x = some (.ref (He.ga K x)) := PySem.W.mg_of X G (of_decide_eq_true cQ)
theorem jAJ (X : K.In h) (G : h.Ns mainGlobals mg) {x : Str} (cQ : jAV x K = true) : mg x = none := PySem.W.mg_none_of X G (of_decide_eq_true cQ)
end
theorem exc0_mg {K : PySem.W.Frag} {h : Heap} {mg : Str → Option Value} {G : Gi} (X : K.In h) (N : h.Ns mainGlobals mg) {x : Str} {j : Nat} {bm : List Value} {B newId initId : String} (F : ExcBaseFacts B newId initId bm) (cQ : lkExc x bm newId K = true) (g : jB3 x K = true) (ca : G.ca j = some (He.ga K x)) (fl : G.fld j = none) : Exc0 K mg G x j := by
 unfold lkExc at cQ
 simp only [Bool.and_eq_true] at cQ
 obtain ⟨c1, c2, c3, c4⟩ := cQ
 exact ⟨_, B, newId, initId, bm, F, c1, jAZ X N g, c2, of_decide_eq_true c3, of_decide_eq_true c4, ca, fl⟩
theorem kit_mg {K : PySem.W.Frag} {x : Str} {T : String} {b : Bool} (cQ : lkKit x T b K = true) : PySem.W.kitOne K (.ref (He.ga K x)) (.type T) = some b := of_decide_eq_true cQ
theorem jF0 {α : Type} {cQ : Nat} {x : α} : ∀ {l : List (Nat × α)}, l.lookup cQ = some x → (cQ, x) ∈ l
 | [], h => nomatch h
 | (d, y) :: l, h => by
  rw [List.lookup_cons] at h
  cases eQ : cQ == d with
  | true =>
   rw [eQ] at h
   have := eq_of_beq eQ
   subst this
   cases h
   exact .head _
  | false =>
   rw [eQ] at h
   exact .tail _ (jF0 h)
theorem takes_mg {K : PySem.W.Frag} {G : Gi} {y : Str} {cs : List Nat} {l : List (Nat × Str)} (hca : G.ca = fun cQ => (l.lookup cQ).map fun x => He.ga K x) (cQ : jIr y cs l K = true) : jHw K G (.ref (He.ga K y)) cs := fun i C h => by
 rw [hca] at h
 obtain ⟨x, e1, e2⟩ := Option.map_eq_some_iff.mp h
 subst e2
 exact of_decide_eq_true (List.all_eq_true.mp cQ _ (jF0 e1))
section
variable {P : Program} {w : World} {K : PySem.W.Frag} {mg : Str → Option Value} {base : Heap} {G : Gi}
theorem fn_okD {xn x : Str} {stQ : Stmt} {params : Arguments} {f : Addr} {fd : FuncData} {dvs : List V} {kws : List (Str × V)} {N ps : List Str} {k : Nat} {g : Fn} {Φ : Ph} (F : FunD K xn x params (defBody stQ) (defScope stQ) dvs kws f fd) (S : FnScope N ps (defScope stQ)) (har : g.ar = ps.length) (hsl : g.sl = N.length) (hb : Good P w K mg base G Φ k N x stQ g.body) :
  FnOk P w K mg base (L2.CX P w) (2 * (k + 1)) f fd ps (spF G ps.length (runF g Φ)) := by
 refine F.ok S (fun vs H Q E h => h.1) fun cdv A outer s H vs Q E hr ⟨hl, ρ, dsQ, h, r, S1, x⟩ => ⟨_, hb f cdv A outer s H E hr, ρ, somes dsQ (nones (N.length - vs.length)), h, jHP r, S1, ?_⟩
 unfold runF at x
 rw [jAx, har, hsl] at x
 have eQ : Nat.beq dsQ.length ps.length = true := by rw [r.length, hl]; exact Nat.beq_refl _
 rw [eQ] at x
 rw [hl]
 exact wS.end x
def jBD (P : Program) (w : World) (K : PySem.W.Frag) (mg : Str → Option Value) (base : Heap) (G : Gi) (n : Nat) (T : Nat → Option Fn) (wh : Nat → Who) (j : Nat) : Prop :=
 ∃ (f : Addr) (fd : FuncData) (ps : List Str) (g : Fn), T j = some g ∧ g.ar = ps.length ∧ WhOk K mg G (wh j) f j ∧ Binds K fd ps [] ∧ (∀ q ∈ G.kb j, KbOk K G fd ps q) ∧
   ∀ (k : Nat) (Φ : Ph), (∀ i, i < n → FX P w K mg base G Φ k (wh i) i) → FnOk P w K mg base (L2.CX P w) (2 * (k + 1)) f fd ps (spF G ps.length (runF g Φ))
theorem jAC {n : Nat} {T : Nat → Option Fn} {wh : Nat → Who} {u : Who} {j : Nat} {xn x : Str} {stQ : Stmt} {params : Arguments} {f : Addr} {fd : FuncData} {dvs : List V} {kws : List (Str × V)} {N ps : List Str} {ar sl : Nat} {bd : CS} (F : FunD K xn x params (defBody stQ) (defScope stQ) dvs kws f fd) (hxQ : wh j = u) (hT : T j = some ⟨ar, sl, bd⟩) (S : FnScope N ps (defScope stQ)) (har : ar = ps.length) (hsl : sl = N.length)
  (hm : WhOk K mg G u f j) (hb : Binds K fd ps []) (kb : ∀ q ∈ G.kb j, KbOk K G fd ps q) (hg : ∀ (k : Nat) (Φ : Ph), (∀ i, i < n → FX P w K mg base G Φ k (wh i) i) → Good P w K mg base G Φ k N x stQ bd) : jBD P w K mg base G n T wh j :=
 ⟨f, fd, ps, ⟨ar, sl, bd⟩, hT, har, hxQ ▸ hm, hb, kb, fun k Φ fa => fn_okD (g := ⟨ar, sl, bd⟩) F S har hsl (hg k Φ fa)⟩
theorem allS {p : Nat → Prop} {n : Nat} (h : ∀ j, j < n → p j) (q : p n) : ∀ j, j < n + 1 → p j := fun j hj => (Nat.lt_succ_iff_lt_or_eq.mp hj).elim (h j) fun eQ => eQ ▸ q
theorem all0 {p : Nat → Prop} : ∀ j, j < 0 → p j := fun j hj => absurd hj (Nat.not_lt_zero j)
end
theorem prs0 {G : Gi} (h : G.prs = []) : ∀ p ∈ G.prs, noHP p.1 = true := fun p hpQ => by rw [h] at hpQ; exact absurd hpQ List.not_mem_nil
theorem kb0 {K : PySem.W.Frag} {G : Gi} {fd : FuncData} {ps : List Str} {j : Nat} (h : G.kb j = []) : ∀ q ∈ G.kb j, KbOk K G fd ps q := fun q hq => by rw [h] at hq; exact absurd hq List.not_mem_nil
theorem jGT {r : RE} (h : jFs r = true) : ∃ eQ, r = .ok (.p (.bl true)) eQ := by
 cases r with
 | bad => cases h
 | ex => cases h
 | ok v eQ => cases v with
  | ref => cases h
  | mt => cases h
  | p p => cases p with
   | bl b =>
    have : b = true := h
    subst this
    exact ⟨eQ, rfl⟩
   | _ => cases h
theorem sp_true {G : Gi} {a : Addr} {H : Hp} {φ : List D → EH → RE} (ha : G.fa 999 = some a) (hpQ : G.pins = []) (hq : G.prs = []) (hv : jFs (φ [.p (.fn 999)] e0) = true) : spF G 1 φ [.ref a] H (fun v _ => v = .bl true) fun _ _ _ => False := by
 obtain ⟨eQ, he⟩ := jGT hv
 refine ⟨rfl, [], [.p (.fn 999)], e0, .cons (.p (.fn ha)) .nil, ⟨rfl, rfl, List.nodup_nil, fun i o a h _ => (by cases h), fun p h => (by rw [hpQ] at h; cases h), fun p h => (by rw [hq] at h; cases h)⟩, ?_⟩
 rw [he]
 intro ρ' H' v _ _ r
 cases r with
 | p r => cases r with
  | bl => rfl
theorem scr_mk {K : PySem.W.Frag} {H : Hp} {a : Addr} {ns : List Int} (hO : Only H) (hS : SqL K H a (ns.map V.int)) : ∃ pns : List (Addr × HO), (∀ p ∈ pns, H p.1 = some p.2 ∧ PinK p.2) ∧ ∀ G : Gi, G.pins = pns → G.fa 999 = some a → G.K = K → Scr K G ns := by
 rcases hS with (eQ | ⟨o, eQ⟩) | eQ
 ·rcases hO a with zQ | ⟨o, xs, zQ⟩
  ·rw [zQ] at eQ; cases eQ
  ·rw [zQ] at eQ; cases eQ
 ·refine ⟨[(a, .frz o (.lst (ns.map V.int)))], fun p hpQ => ?_, fun G h1 h2 _ => ⟨a, h2, fun ρ h H' S => .inl (.inr ⟨o, (S.pin (a, .frz o (.lst (ns.map V.int))) (by rw [h1]; exact List.mem_singleton_self _)).1⟩)⟩⟩
  rw [List.mem_singleton.mp hpQ]
  exact ⟨eQ, (fun xs q => nomatch q), fun φ q => nomatch q⟩
 ·exact ⟨[], fun p hpQ => absurd hpQ List.not_mem_nil, fun G _ h2 _ => ⟨a, h2, fun ρ h H' S => .inr eQ⟩⟩
theorem sp_trueP {G : Gi} {a : Addr} {H : Hp} {pns : List (Addr × HO)} {φ : List D → EH → RE} (ha : G.fa 999 = some a) (hpQ : G.pins = pns) (hq : G.prs = []) (h1 : ∀ p ∈ pns, H p.1 = some p.2 ∧ PinK p.2) (hv : jFs (φ [.p (.fn 999)] e0) = true) : spF G 1 φ [.ref a] H (fun v _ => v = .bl true) fun _ _ _ => False := by
 obtain ⟨eQ, he⟩ := jGT hv
 refine ⟨rfl, [], [.p (.fn 999)], e0, .cons (.p (.fn ha)) .nil, ⟨rfl, rfl, List.nodup_nil, fun i o a h _ => (by cases h), fun p h => (by rw [hpQ] at h; exact ⟨(h1 p h).1, List.not_mem_nil, (h1 p h).2⟩), fun p h => (by rw [hq] at h; cases h)⟩, ?_⟩
 rw [he]
 intro ρ' H' v _ _ r
 cases r with
 | p r => cases r with
  | bl => rfl
theorem excC_mg {K : PySem.W.Frag} {x : Str} (cQ : lkExcC x K = true) : ExcC K (He.ga K x) := by
 unfold lkExcC at cQ
 simp only [Bool.and_eq_true] at cQ
 obtain ⟨c1, c2, c3, c4, c5⟩ := cQ
 obtain ⟨a1, a2, a3, a4⟩ := xfB_ok c1
 exact ⟨a1, a2, a3, a4, of_decide_eq_true c2, of_decide_eq_true c3, of_decide_eq_true c4, of_decide_eq_true c5⟩
theorem walk_w {l : PySem.W.OpenLaw} {n k : Nat} {q : Program} {loose : List Str} {XP : (Str → Option Value) → Heap → Prop} {YP : World → Heap → Prop} {d : DefRec} {x : Str} (hn : l.most = some n) (hs : n ≤ sizeLine) (hd : d.params.defaults = []) (hr : Room k callerA)
  (F : ∀ (w : World) (mg : Str → Option Value) (f : Addr) (h : Heap), YP w h → h.Ns mainGlobals mg → mg d.name = some (.ref f) → ∃ (K : PySem.W.Frag) (fd : FuncData) (sp : Sp), K.In h ∧ (∀ (s : Shared) (u : Value), BindsTo s fd ⟨[u], []⟩ [(x, u)]) ∧
   (∀ (H : Hp) (a : Addr) (ns : List Int), ns.length ≤ n → Only H → SqL K H a (ns.map V.int) → sp [.ref a] H (fun v _ => v = .bl true) fun _ _ _ => False) ∧ ∀ b : Heap, K.In b → b.Ns mainGlobals mg → FnOk l.prog w K mg b (L2.CX l.prog w) k f fd [x] sp) : PySem.W.WalkO q loose XP YP l.row.toRowW d [] (fun f vs => PySem.call f vs) := by
 refine Att.attach_call hn hd fun w s0 s1Q mg mb f o pm cd doc a vs ns T Y hoQ hf hc hm hl hi hzQ hg => ?_
 obtain ⟨K, fd, sp, KX, h1, h2, h3⟩ := F w mg f _ Y T.T.g hm
 refine law_call KX T.T.g T.T.b T.T.builtins T.T.nolimit hg hl hi (Nat.le_trans hzQ hs) hr h3 h1 (fun H hO hS => h2 H a ns hzQ hO hS) fun H eQ s2 zQ => ?_
 obtain ⟨_, _, _, _, _, _, _, _, _, _, _, _, zQ⟩ := zQ
 exact zQ
end
end Mi

namespace Mi
open PySem PySem.Spec L2
open PyProof.Rows hiding St
abbrev VQ := D → EH → Prop
abbrev LQ := List D → EH → Prop
abbrev XQ := Nat → P → EH → Prop
def nX : XQ := fun _ _ _ => False
def OkE (r : RE) (Q : VQ) (X : XQ) : Prop := match r with
 | .ok v h => Q v h
 | .ex cQ x h => X cQ x h
 | .bad => False
def OkL (r : RL) (Q : LQ) (X : XQ) : Prop := match r with
 | .ok v h => Q v h
 | .ex cQ x h => X cQ x h
 | .bad => False
structure PQ where
 nx : Env → EH → Prop
 rt : VQ := fun _ _ => False
 bk : Env → EH → Prop := fun _ _ => False
 ct : Env → EH → Prop := fun _ _ => False
 ex : XQ := nX
def OkS (r : RS) (q : PQ) : Prop := match r with
 | .nx σQ h => q.nx σQ h
 | .rt v h => q.rt v h
 | .bk σQ h => q.bk σQ h
 | .ct σQ h => q.ct σQ h
 | .ex cQ x _ h => q.ex cQ x h
 | .bad => False
section
variable {Φ : Ph} {σQ σ1 : Env} {h h1 h2 : EH} {a b cQ eQ : CE} {la : CL} {v x y : D} {Q Q' : VQ} {X : XQ} {q : PQ} {s t : CS} {i : Nat} {N B C : Env → EH → Prop} {R : VQ}
theorem OkE.imp {r : RE} (k : OkE r Q X) (m : ∀ v h, Q v h → Q' v h) : OkE r Q' X := by
 cases r with
 | ok v h => exact m v h k
 | ex cQ x h => exact k
 | bad => exact k
theorem OkE.get {r : RE} (k : OkE r Q nX) : ∃ v h, r = .ok v h ∧ Q v h := by
 cases r with
 | ok v h => exact ⟨v, h, rfl, k⟩
 | ex cQ x h => exact k.elim
 | bad => exact k.elim
theorem jDt {r : RE} (eQ : r = .ok v h) (k : Q v h) : OkE r Q X := by rw [eQ]; exact k
theorem jBY {r : RE} {f : D → EH → RE} (k : OkE r (fun v h => OkE (f v h) Q X) X) : OkE (bE r f) Q X := by
 cases r <;> exact k
theorem jGX {r : RL} {f : List D → EH → RE} (k : OkL r (fun v h => OkE (f v h) Q X) X) : OkE (bL r f) Q X := by
 cases r <;> exact k
theorem okL_bEL {r : RE} {f : D → EH → RL} {Q : LQ} (k : OkE r (fun v h => OkL (f v h) Q X) X) : OkL (bEL r f) Q X := by
 cases r <;> exact k
theorem okL_bLL {r : RL} {f : List D → EH → RL} {Q : LQ} (k : OkL r (fun v h => OkL (f v h) Q X) X) : OkL (bLL r f) Q X := by
 cases r <;> exact k
theorem jCi {r : RE} {f : D → EH → RS} (k : OkE r (fun v h => OkS (f v h) ⟨N, R, B, C, X⟩) X) : OkS (bES σQ r f) ⟨N, R, B, C, X⟩ := by
 cases r <;> exact k
theorem jAe (eQ : nth σQ i = some (some v)) (k : Q v h) : OkE (cVar i Φ σQ h) Q X := jDt (jAl eQ) k
theorem ok_c {p : P} (k : Q (.p p) h) : OkE (cC p Φ σQ h) Q X := k
theorem jAg {r : VR} (eQ : r = .val v) (k : Q v h) : OkE (r.re h) Q X := by rw [eQ]; exact k
theorem jCQ {r : VR} {o : O} (eQ : r = .new o) (k : Q (.ref h.n) (h.nw o)) : OkE (r.re h) Q X := by rw [eQ, jCT]; exact k
theorem jAk {f : EH → D → VR} (k : OkE (a Φ σQ h) (fun x h => OkE ((f h x).re h) Q X) X) : OkE (cOp1 f a Φ σQ h) Q X := jBY k
theorem jA9 {f : EH → D → D → VR} (k : OkE (a Φ σQ h) (fun x h => OkE (b Φ σQ h) (fun y h => OkE ((f h x y).re h) Q X) X) X) : OkE (cOp2 f a b Φ σQ h) Q X := jBY (k.imp fun _ _ => jBY)
theorem jAz {Q : LQ} (k : Q [] h) : OkL (cNil Φ σQ h) Q X := k
theorem OkL.imp {Q Q' : LQ} {r : RL} (k : OkL r Q X) (m : ∀ v h, Q v h → Q' v h) : OkL r Q' X := by
 cases r with
 | ok v h => exact m v h k
 | ex cQ x h => exact k
 | bad => exact k
theorem jAf {Q : LQ} (k : OkE (a Φ σQ h) (fun x h => OkL (la Φ σQ h) (fun l h => Q (x :: l) h) X) X) : OkL (jAb a la Φ σQ h) Q X := by
 refine okL_bEL (k.imp fun x h zQ => ?_)
 show OkL (fD x _) Q X
 rw [jBs]
 exact okL_bLL zQ
theorem jCh (k : OkL (la Φ σQ h) (fun l h => jAG l = true ∧ Q (.ref h.n) (h.nw (.lst l))) X) : OkE (cLst la Φ σQ h) Q X :=
 jGX (k.imp fun l h ⟨zQ, w⟩ => by rw [gdt zQ]; exact jCQ rfl w)
theorem jFx (k : OkL (la Φ σQ h) (fun l h => ∃ v, mkTc l = .val v ∧ Q v h) X) : OkE (cTup la Φ σQ h) Q X :=
 jGX (k.imp fun l h ⟨v, zQ, w⟩ => jAg zQ w)
theorem ok_tE {α : Sort u} {y n b : α} {f : α → Prop} {tt : Bool} (g : tru h x = some tt) (k : f (bif tt then y else n)) : f (tE h x y n b) := by
 have : tE h x y n b = (bif tt then y else n) := by
  unfold tE
  rw [g]
  cases tt <;> rfl
 rw [this]; exact k
theorem ok_if (k : OkE (cQ Φ σQ h) (fun x h => ∃ t, tru h x = some t ∧ OkE (bif t then a Φ σQ h else b Φ σQ h) Q X) X) : OkE (cIf cQ a b Φ σQ h) Q X :=
 jBY (k.imp fun x h ⟨t, g, zQ⟩ => ok_tE (f := fun r => OkE r Q X) g zQ)
theorem jBF (k : OkE (a Φ σQ h) (fun x h => ∃ t, tru h x = some t ∧ OkE (bif t then b Φ σQ h else .ok x h) Q X) X) : OkE (cAnd a b Φ σQ h) Q X :=
 jBY (k.imp fun x h ⟨t, g, zQ⟩ => ok_tE (f := fun r => OkE r Q X) g zQ)
theorem jCf (k : OkE (a Φ σQ h) (fun x h => ∃ t, tru h x = some t ∧ OkE (bif t then .ok x h else b Φ σQ h) Q X) X) : OkE (cOr a b Φ σQ h) Q X :=
 jBY (k.imp fun x h ⟨t, g, zQ⟩ => ok_tE (f := fun r => OkE r Q X) g zQ)
theorem jCg (k : OkE (a Φ σQ h) (fun x h => ∃ t, tru h x = some t ∧ Q (.p (.bl (!t))) h) X) : OkE (cNot a Φ σQ h) Q X :=
 jBY (k.imp fun x h ⟨t, g, zQ⟩ => ok_tE (f := fun r => OkE r Q X) g (by cases t <;> exact zQ))
theorem jAA {k : Nat} (zQ : OkL (la Φ σQ h) (fun l h => OkE (jA8 (Φ k) l h) Q X) X) : OkE (jAs k la Φ σQ h) Q X := jGX zQ
theorem jBa (k : OkE (a Φ σQ h) (fun x h => N (setN σQ i (some x)) h) X) : OkS (jA1 i a Φ σQ h) ⟨N, R, B, C, X⟩ :=
 jCi (k.imp fun x h zQ => by show OkS (fD x _) ⟨N, R, B, C, X⟩; rw [jBs]; exact zQ)
theorem ok_set {tg : CT} (k : OkE (a Φ σQ h) (fun x h => ∃ σ', tg x σQ = some σ' ∧ N σ' h) X) : OkS (sSet tg a Φ σQ h) ⟨N, R, B, C, X⟩ :=
 jCi (k.imp fun x h ⟨σ', zQ, w⟩ => by rw [zQ]; exact w)
theorem OkS.imp {r : RS} {q' : PQ} (k : OkS r q) (m1 : ∀ σQ h, q.nx σQ h → q'.nx σQ h) (m2 : ∀ v h, q.rt v h → q'.rt v h) (m3 : ∀ σQ h, q.bk σQ h → q'.bk σQ h) (m4 : ∀ σQ h, q.ct σQ h → q'.ct σQ h) (m5 : ∀ cQ x h, q.ex cQ x h → q'.ex cQ x h) : OkS r q' := by
 cases r with
 | nx σQ h => exact m1 _ _ k
 | rt σQ h => exact m2 _ _ k
 | bk σQ h => exact m3 _ _ k
 | ct σQ h => exact m4 _ _ k
 | ex cQ x σQ h => exact m5 _ _ _ k
 | bad => exact k
theorem jA4 (k : OkS (s Φ σQ h) ⟨fun σQ h => OkS (t Φ σQ h) ⟨N, R, B, C, X⟩, R, B, C, X⟩) : OkS (sSeq s t Φ σQ h) ⟨N, R, B, C, X⟩ :=
 by
 show OkS (bSS (s Φ σQ h) fun σQ h => t Φ σQ h) ⟨N, R, B, C, X⟩
 cases zQ : s Φ σQ h <;> rw [zQ] at k <;> exact k
theorem jBl (k : OkE (cQ Φ σQ h) (fun x h => ∃ tt, tru h x = some tt ∧ OkS (bif tt then s Φ σQ h else t Φ σQ h) ⟨N, R, B, C, X⟩) X) : OkS (sIf cQ s t Φ σQ h) ⟨N, R, B, C, X⟩ :=
 jCi (k.imp fun x h ⟨t, g, zQ⟩ => ok_tE (f := fun r => OkS r ⟨N, R, B, C, X⟩) g zQ)
theorem jAT (k : OkE (a Φ σQ h) R X) : OkS (sRet a Φ σQ h) ⟨N, R, B, C, X⟩ :=
 jCi (k.imp fun x h zQ => by show OkS (fD x _) ⟨N, R, B, C, X⟩; rw [jBs]; exact zQ)
theorem jFy (k : N σQ h) : OkS (.nx σQ h) ⟨N, R, B, C, X⟩ := k
theorem ok_nop (k : N σQ h) : OkS (sNop Φ σQ h) ⟨N, R, B, C, X⟩ := k
theorem jCZ (k : OkE (a Φ σQ h) (fun _ h => N σQ h) X) : OkS (sExpr a Φ σQ h) ⟨N, R, B, C, X⟩ := jCi k
theorem jAQ {g : Fn} {l : List D} (hl : l.length = g.ar) (k : OkS (g.body Φ (somes l (nones (g.sl - g.ar))) h) { nx := fun _ h => Q (.p .non) h, rt := Q, ex := X }) : OkE (runF g Φ l h) Q X := by
 unfold runF
 rw [jAx, hl, show Nat.beq g.ar g.ar = true from Nat.beq_refl _]
 show OkE (endS (g.body Φ (somes l (nones (g.sl - g.ar))) h)) Q X
 cases zQ : g.body Φ (somes l (nones (g.sl - g.ar))) h <;> rw [zQ] at k <;> exact k
structure Gr (h h' : EH) : Prop where
 n : h.n ≤ h'.n
 k : ∀ {i : Nat} {o : O}, h.get i = some o → h'.get i = some o
structure GrX (t : Nat) (h h' : EH) : Prop where
 n : h.n ≤ h'.n
 k : ∀ {i : Nat} {o : O}, i ≠ t → h.get i = some o → h'.get i = some o
theorem Gr.refl : Gr h h := ⟨Nat.le_refl _, fun eQ => eQ⟩
theorem Gr.trans (a : Gr h h1) (b : Gr h1 h2) : Gr h h2 := ⟨Nat.le_trans a.n b.n, fun eQ => b.k (a.k eQ)⟩
theorem Gr.nw {o : O} : Gr h (h.nw o) := ⟨by rw [EH.nw_n]; exact Nat.le_succ _, fun eQ => jAm eQ⟩
theorem Gr.nwT {o : O} (a : Gr h h1) : Gr h (h1.nw o) := a.trans .nw
theorem GrX.refl {t : Nat} : GrX t h h := ⟨Nat.le_refl _, fun _ eQ => eQ⟩
theorem GrX.trans {t : Nat} (a : GrX t h h1) (b : GrX t h1 h2) : GrX t h h2 := ⟨Nat.le_trans a.n b.n, fun zQ eQ => b.k zQ (a.k zQ eQ)⟩
theorem Gr.toX {t : Nat} (a : Gr h h1) : GrX t h h1 := ⟨a.n, fun _ eQ => a.k eQ⟩
theorem GrX.put {t : Nat} {o o1 : O} (g : h.get t = some o) : GrX t h (h.put t o1) := ⟨by rw [EH.put_n]; exact Nat.le_refl _, fun zQ eQ => jBb g eQ zQ⟩
theorem jFe {g : Fn} {l : List D} (eQ : jB2 l = true) (k : OkE (runF g Φ l e0) (fun v _ => ∃ x, v = .p x ∧ Q (.p x) h) (fun cQ x _ => X cQ x h)) : OkE (jA8 (runT g Φ) l h) Q X := by
 unfold jA8
 rw [eQ]
 have zQ : jFi l e0 = true := eQ
 show OkE (RE.rec (motive := fun _ => RE) (fun v h' => impD v h' h) (fun cQ x _ => .ex cQ x h) .bad (runT g Φ l e0)) Q X
 unfold runT
 rw [zQ]
 show OkE (RE.rec (motive := fun _ => RE) (fun v h' => impD v h' h) (fun cQ x _ => .ex cQ x h) .bad (jEB (runF g Φ l e0))) Q X
 cases w : runF g Φ l e0 with
 | bad => rw [w] at k; exact k
 | ex cQ x h' => rw [w] at k; exact k
 | ok v h' =>
  rw [w] at k
  obtain ⟨x, rfl, k⟩ := k
  exact k
theorem callPL {g : Fn} {l : List D} (eQ : jB2 l = true) (k : OkE (runF g Φ l e0) (fun v h' => ∃ k o, v = .ref k ∧ h'.get k = some o ∧ lone o = true ∧ Q (.ref h.n) (h.nw o)) (fun cQ x _ => X cQ x h)) : OkE (jA8 (runT g Φ) l h) Q X := by
 unfold jA8
 rw [eQ]
 have zQ : jFi l e0 = true := eQ
 show OkE (RE.rec (motive := fun _ => RE) (fun v h' => impD v h' h) (fun cQ x _ => .ex cQ x h) .bad (runT g Φ l e0)) Q X
 unfold runT
 rw [zQ]
 show OkE (RE.rec (motive := fun _ => RE) (fun v h' => impD v h' h) (fun cQ x _ => .ex cQ x h) .bad (jEB (runF g Φ l e0))) Q X
 cases w : runF g Φ l e0 with
 | bad => rw [w] at k; exact k
 | ex cQ x h' => rw [w] at k; exact k
 | ok v h' =>
  rw [w] at k
  obtain ⟨j, o, rfl, g1, g2Q, k⟩ := k
  have la : ∀ {α : Type} (h : EH) (j : Nat) (y : O → α) (n : α), h.get j = some o → jBh h j y n = y o := fun h j y n q => by
   unfold jBh
   rw [q]
   show Bool.rec (motive := fun _ => _) n (y o) (lone o) = _
   rw [g2Q]
  have t1 : jEB (.ok (.ref j) h') = .ok (.ref 0) (e0.nw o) := by
   show jBh h' j (fun o => e0.new o fun k h => RE.ok (.ref k) h) _ = _
   rw [la h' j _ _ g1]
   exact EH.new_eq e0 o fun k h => RE.ok (.ref k) h
  rw [t1]
  show OkE (jBh (e0.nw o) 0 (fun o => h.new o fun k h => RE.ok (.ref k) h) (jDs (.ref 0) (e0.nw o) h)) Q X
  rw [la _ 0 _ _ (jAr (h := e0))]
  exact jCQ rfl k
theorem callR {g : Fn} {l : List D} (eQ : jB2 l = false) (k : OkE (runF g Φ l h) Q X) : OkE (jA8 (runT g Φ) l h) Q X := by
 rw [jFd eQ (jEE eQ)]; exact k
end
end Mi

namespace Mi
open PySem PySem.Spec L2
open PyProof.Rows hiding St
def Sq (h : EH) (d : D) (xs : List D) : Prop := (∃ n l, d = .p (.tup n l) ∧ xs = upP l) ∨ (∃ k, d = .ref k ∧ h.get k = some (.lst xs)) ∨ d = .mt xs
def Sh (d : D) : Prop := match d with
 | .p x => dep x ≤ 40
 | _ => True
def ScY (h : EH) (s : Sc) (i : Nat) (xs : List D) : Prop := s = .t xs ∨ ∃ k l, s = .l k ∧ h.get k = some (.lst l) ∧ i ≤ l.length ∧ l.drop i = xs
noncomputable def tA (tg : CT) (l : List D) (σQ : Env) : Option Env := match l with
 | [x] => tg x σQ
 | l => VR.rec (motive := fun _ => Option Env) (fun v => tg v σQ) (fun _ => none) none (mkT l)
def nxOf (l : List D) (t : It) : Nx := match l with
 | [x] => .item x t
 | l => .two l t
def ItY (Kp : EH → Prop) : List (List D) → It → Prop
 | [], t => ∀ h, Kp h → t.next h = .stop
 | l :: r, t => ∃ t', (∀ h, Kp h → t.next h = nxOf l t') ∧ ItY Kp r t'
def NoLk (t : It) : Prop := ∀ {α : Type} (f : Nat → α → α) (r : α), unlT t f r = r
def OkI (r : RI) (Q : It → EH → Prop) (X : XQ) : Prop := match r with
 | .ok t h => Q t h
 | .ex cQ x h => X cQ x h
 | .bad => False
section
variable {Φ : Ph} {σQ σ1 : Env} {h h1 h2 : EH} {a b cQ eQ : CE} {la : CL} {v x y d : D} {Q Q' : VQ} {X : XQ} {q : PQ} {s t : CS} {N B C : Env → EH → Prop} {R : VQ} {i : Nat} {xs ys : List D} {Kp : EH → Prop}
theorem Sq.seqOf {α : Sort u} {f : List D → α} {n : α} (zQ : Sq h d xs) : seqOf h d f n = f xs := by
 rcases zQ with ⟨n, l, rfl, rfl⟩ | ⟨k, rfl, g⟩ | rfl
 ·rfl
 ·exact jAo g
 ·rfl
theorem Sq.gr (zQ : Sq h d xs) (g : Gr h h1) : Sq h1 d xs := by
 rcases zQ with zQ | ⟨k, eQ, zQ⟩ | zQ
 ·exact .inl zQ
 ·exact .inr (.inl ⟨k, eQ, g.k zQ⟩)
 ·exact .inr (.inr zQ)
theorem Sq.tup {n : Nat} {l : List P} : Sq h (.p (.tup n l)) (upP l) := .inl ⟨n, l, rfl, rfl⟩
theorem Sq.lst {k : Nat} (g : h.get k = some (.lst xs)) : Sq h (.ref k) xs := .inr (.inl ⟨k, rfl, g⟩)
theorem jCX (l : List P) : upP l = l.map .p := by
 induction l with
 | nil => rfl
 | cons a l ih => exact congrArg (D.p a :: ·) ih
theorem Sq.len (zQ : Sq h d xs) : jBP h d = .val (.p (.int xs.length)) := by
 rcases zQ with ⟨n, l, rfl, rfl⟩ | ⟨k, rfl, g⟩ | rfl
 ·show fN (lenL l) (fun n => vP (.int (.ofNat n))) = _
  rw [jA7, jAx, jBd]; rfl
 ·exact o_len g
 ·show fN (lenL xs) (fun n => vP (.int (.ofNat n))) = _
  rw [jA7, jAx]; rfl
theorem Sq.sc {α : Sort u} {f : Sc → α} {n : α} (zQ : Sq h d xs) : ∃ s, scOf h d f n = f s ∧ ∀ h', Sq h' d xs → ScY h' s 0 xs := by
 rcases zQ with ⟨n, l, rfl, rfl⟩ | ⟨k, rfl, g⟩ | rfl
 ·exact ⟨.t (upP l), rfl, fun _ _ => .inl rfl⟩
 ·refine ⟨.l k, jAo g, fun h' zQ => ?_⟩
  rcases zQ with ⟨_, _, eQ, _⟩ | ⟨k', eQ, g'⟩ | eQ
  ·cases eQ
  ·cases eQ; exact .inr ⟨k, xs, rfl, g', Nat.zero_le _, rfl⟩
  ·cases eQ
 ·exact ⟨.t xs, rfl, fun _ _ => .inl rfl⟩
theorem Sq.noDic {α : Sort u} {f : Nat → Nat → List (P × D) → α} {n : α} (zQ : Sq h d xs) : jB4 h d f n = n := by
 rcases zQ with ⟨n, l, rfl, rfl⟩ | ⟨k, rfl, g⟩ | rfl
 ·rfl
 ·exact jBG g
 ·rfl
theorem at_nil {s : Sc} {f : D → Sc → Nx} {n : Nx} (zQ : ScY h s i []) : s.at h i f n = n := by
 rcases zQ with rfl | ⟨k, l, rfl, g, le, eQ⟩
 ·rfl
 ·show jAw h k _ _ = _
  rw [jAo g]
  have lz : l.length ≤ i := by
   have := congrArg List.length eQ
   rw [List.length_drop, List.length_nil] at this
   omega
  have ei : i = l.length := Nat.le_antisymm le lz
  show Option.rec (motive := fun _ => Nx) (Bool.rec .bad n (Nat.beq (lenL l) i)) _ (nth l i) = _
  rw [jBp, List.getElem?_eq_none lz, jAx, ei, show Nat.beq l.length l.length = true from Nat.beq_refl _]
def ScN (s : Sc) (r : List D) : Sc := match s with
 | .l k => .l k
 | .t _ => .t r
theorem jFg {s : Sc} {f : D → Sc → Nx} {n : Nx} (zQ : ScY h s i (x :: xs)) : s.at h i f n = f x (ScN s xs) := by
 rcases zQ with rfl | ⟨k, l, rfl, g, le, eQ⟩
 ·rfl
 ·show jAw h k _ _ = _
  rw [jAo g]
  have q : l[i]? = some x := by
   have := congrArg (fun l => l[0]?) eQ
   simpa using this
  show Option.rec (motive := fun _ => Nx) _ (fun x => f x (.l k)) (nth l i) = _
  rw [jBp, q]; rfl
theorem ScY.next {s : Sc} (zQ : ScY h s i (x :: xs)) : ScY h (ScN s xs) (i + 1) xs := by
 rcases zQ with rfl | ⟨k, l, rfl, g, le, eQ⟩
 ·exact .inl rfl
 ·refine .inr ⟨k, l, rfl, g, ?_, ?_⟩
  ·have := congrArg List.length eQ
   rw [List.length_drop, List.length_cons] at this
   omega
  ·rw [← List.drop_drop, eQ]; rfl
theorem jGq : ∀ {l : List D}, ItY Kp (l.map fun x => [x]) (.seq l)
 | [] => fun _ _ => rfl
 | x :: l => ⟨.seq l, fun _ _ => rfl, jGq⟩
theorem jI3 {k : Nat} {l : List D} (g : ∀ h, Kp h → h.get k = some (.lst l)) : ∀ (n i : Nat), l.length - i = n → ItY Kp ((l.drop i).map fun x => [x]) (.lst k i)
 | 0, i, eQ => by
  rw [List.drop_eq_nil_of_le (by omega)]
  intro h zQ
  show jAw h k (fun l => oN (nth l i) _) _ = _
  rw [jAo (g h zQ), jBp, List.getElem?_eq_none (by omega)]; rfl
 | n + 1, i, eQ => by
  have lt : i < l.length := by omega
  rw [List.drop_eq_getElem_cons lt]
  refine ⟨.lst k (i + 1), fun h zQ => ?_, jI3 g n (i + 1) (by omega)⟩
  show jAw h k (fun l => oN (nth l i) _) _ = _
  rw [jAo (g h zQ), jBp, List.getElem?_eq_getElem lt]
  show fN (Nat.succ i) (fun j => Nx.item l[i] (.lst k j)) = _
  rw [jA7]; rfl
def rngL (i : Int) : Nat → List D
 | 0 => []
 | n + 1 => .p (.int i) :: rngL (i + 1) n
theorem jEF (i : Int) (n : Nat) : (rngL i n).length = n := by
 induction
    n generalizing i with
 | zero => rfl
 | succ n ih => exact congrArg Nat.succ (ih _)
theorem jI2 : ∀ {n : Nat} {i : Int}, ItY Kp ((rngL i n).map fun x => [x]) (.rng i n)
 | 0, _ => fun _ _ => rfl
 | n + 1, i => ⟨.rng (i + 1) n, fun h _ => by show fI i (fun i => Nx.item (.p (.int i)) (.rng (Int.add i 1) n)) = _; rw [jDw]; rfl, jI2⟩
def zipY (l m : List D) : List (List D) := List.zipWith (fun x y => [x, y]) l m
theorem jI1 : ∀ {l m : List D} {s t : Sc} {i : Nat}, (∀ h, Kp h → ScY h s i l) → (∀ h, Kp h → ScY h t i m) → ItY Kp (zipY l m) (.zip s t i)
 | [], m, s, t, i, hs, ht => fun h zQ => by
  show fN i (fun i => s.at h i (fun x s => t.at h i (fun y t => Nx.two [x, y] (.zip s t (Nat.succ i))) .stop) (t.at h i (fun _ _ => .stop) .stop)) = _
  rw [jA7, at_nil (hs h zQ)]
  cases m with
  | nil => rw [at_nil (ht h zQ)]
  | cons y m => rw [jFg (ht h zQ)]
 | x :: l, [], s, t, i, hs, ht => fun h zQ => by
  show fN i (fun i => s.at h i (fun x s => t.at h i (fun y t => Nx.two [x, y] (.zip s t (Nat.succ i))) .stop) (t.at h i (fun _ _ => .stop) .stop)) = _
  rw [jA7, jFg (hs h zQ), at_nil (ht h zQ)]
 | x :: l, y :: m, s, t, i, hs, ht => ⟨.zip (ScN s l) (ScN t m) (i + 1), fun h zQ => by
   show fN i (fun i => s.at h i (fun x s => t.at h i (fun y t => Nx.two [x, y] (.zip s t (Nat.succ i))) .stop) (t.at h i (fun _ _ => .stop) .stop)) = _
   rw [jA7, jFg (hs h zQ), jFg (ht h zQ)]; rfl, jI1 (fun h zQ => (hs h zQ).next) fun h zQ => (ht h zQ).next⟩
theorem OkI.imp {Q Q' : It → EH → Prop} {r : RI} (k : OkI r Q X) (m : ∀ v h, Q v h → Q' v h) : OkI r Q' X := by
 cases r with
 | ok v h => exact m v h k
 | ex cQ x h => exact k
 | bad => exact k
theorem okI_bEI {r : RE} {f : D → EH → RI} {Q : It → EH → Prop} (k : OkE r (fun v h => OkI (f v h) Q X) X) : OkI (bEI r f) Q X := by
 cases r <;> exact k
theorem jIe {r : RL} {f : List D → EH → RI} {Q : It → EH → Prop} (k : OkL r (fun v h => OkI (f v h) Q X) X) : OkI (bLI r f) Q X := by
 cases r <;> exact k
def ItQ (Q : It → EH → Prop) (h : EH) (xs : List (List D)) (Kp : EH → Prop) : Prop := ∀ t, NoLk t → ItY Kp xs t → Q t h
theorem jCR {Q : It → EH → Prop} (k : OkE (cQ Φ σQ h) (fun d h => ∃ xs Kp, Sq h d xs ∧ (∀ h', Kp h' → Sq h' d xs) ∧ ItQ Q h (xs.map fun x => [x]) Kp) X) : OkI (jEl cQ Φ σQ h) Q X :=
 okI_bEI (k.imp fun d h ⟨xs, Kp, zQ, kp, w⟩ => by
  rw [zQ.noDic]
  rcases zQ with ⟨n, l, rfl, rfl⟩ | ⟨k, rfl, g⟩ | rfl
  ·exact w _ (fun _ _ => rfl) jGq
  ·show OkI (jAw h k _ _) Q X
   rw [jAo g]
   refine w (.lst k 0) (fun _ _ => rfl) ?_
   have := jI3 (Kp := Kp) (k := k) (l := xs) (fun h' q => by
    rcases kp h' q with ⟨_, _, eQ, _⟩ | ⟨k', eQ, g'⟩ | eQ
    ·cases eQ
    ·cases eQ; exact g'
    ·cases eQ) _ 0 rfl
   exact this
  ·exact w _ (fun _ _ => rfl) jGq)
theorem jEP {Q : It → EH → Prop} (k : OkE (cQ Φ σQ h) (fun d h => ∃ n : Nat, d = .p (.int (.ofNat n)) ∧ n < 1000000000 ∧ ItQ Q h ((rngL 0 n).map fun x => [x]) (fun _ => True)) X) : OkI (jEm (jAb cQ cNil) Φ σQ h) Q X :=
 jIe (jAf (k.imp fun d h ⟨n, eQ, lt, w⟩ => by
  subst eQ
  show OkI (Bool.rec (motive := fun _ => RI) .bad (fN n fun n => .ok (.rng (.ofNat 0) n) h) (i62 (.ofNat n))) Q X
  have : i62 (.ofNat n) = true := Nat.ble_eq_true_of_le (show n < 4611686018427387904 by omega)
  rw [this, jA7]
  exact w _ (fun _ _ => rfl) jI2))
theorem jEO {Q : It → EH → Prop} {c' : CE} (k : OkE (cQ Φ σQ h) (fun d h => OkE (c' Φ σQ h) (fun d' h => ∃ xs ys Kp, Sq h d xs ∧ Sq h d' ys ∧ (∀ h', Kp h' → Sq h' d xs ∧ Sq h' d' ys) ∧ ItQ Q h (zipY xs ys) Kp) X) X) : OkI (iZip (jAb cQ (jAb c' cNil)) Φ σQ h) Q X :=
 jIe (jAf (k.imp fun d h k => jAf (k.imp fun d' h ⟨xs, ys, Kp, z1, z2, kp, w⟩ => by
  show OkI (scOf h d (fun s => scOf h d' (fun t => .ok (.zip s t 0) h) .bad) .bad) Q X
  obtain ⟨s, e1, p1⟩ := z1.sc (f := fun s => scOf h d' (fun t => RI.ok (.zip s t 0) h) .bad) (n := .bad)
  rw [e1]
  obtain ⟨t, e2, p2⟩ := z2.sc (f := fun t => RI.ok (.zip s t 0) h) (n := .bad)
  rw [e2]
  exact w _ (fun _ _ => rfl) (jI1 (fun h q => p1 h (kp h q).1) fun h q => p2 h (kp h q).2))))
theorem jGD {α : Type} {tg : CT} {l : List D} {it : It} {stQ bd : α} {f : Env → It → α} {σ' : Env} (eQ : tA tg l σQ = some σ') : tgt tg (nxOf l it) σQ stQ f bd = f σ' it := by
 match l, eQ with
 | [], eQ =>
  have eQ : VR.rec (motive := fun _ => Option Env) (fun v => tg v σQ) (fun _ => none) none (mkT []) = some σ' := eQ
  show Option.rec (motive := fun _ => α) bd (fun σQ => f σQ it) (VR.rec (motive := fun _ => Option Env) (fun v => tg v σQ) (fun _ => none) none (mkT [])) = _
  rw [eQ]
 | [x], eQ =>
  have eQ : tg x σQ = some σ' := eQ
  show Option.rec (motive := fun _ => α) bd (fun σQ => f σQ it) (tg x σQ) = _
  rw [eQ]
 | x :: y :: l, eQ =>
  have eQ : VR.rec (motive := fun _ => Option Env) (fun v => tg v σQ) (fun _ => none) none (mkT (x :: y :: l)) = some σ' := eQ
  show Option.rec (motive := fun _ => α) bd (fun σQ => f σQ it) (VR.rec (motive := fun _ => Option Env) (fun v => tg v σQ) (fun _ => none) none (mkT (x :: y :: l))) = _
  rw [eQ]
structure LoopI (tg : CT) (b : Env → EH → RS) (N : Env → EH → Prop) (R : VQ) (B C : Env → EH → Prop) (X : XQ) (Kp : EH → Prop) (I : List (List D) → Env → EH → Prop) : Prop where
 kp : ∀ {l σQ h}, I l σQ h → Kp h
 step : ∀ {l r σQ h}, I (l :: r) σQ h → ∃ σ', tA tg l σQ = some σ' ∧ OkS (b σ' h) { nx := I r, rt := R, bk := N, ct := I r, ex := X }
 fin : ∀ {σQ h}, I [] σQ h → N σQ h
theorem jGj {tg : CT} {b : Env → EH → RS} {I : List (List D) → Env → EH → Prop} (L : LoopI tg b N R B C X Kp I) : ∀ (xs : List (List D)) (n : Nat) (it : It) (σQ : Env) (h : EH), xs.length < n → ItY Kp xs it → I xs σQ h → OkS (forN tg b n it σQ h) ⟨N, R, B, C, X⟩
 | _, 0, _, _, _, lt, _, _ => absurd lt (Nat.not_lt_zero _)
 | [], n + 1, it, σQ, h, _, y, j => by
  show OkS (tgt tg (it.next h) σQ (.nx σQ h) (fun σQ t => turnS (b σQ h) fun σQ h => forN tg b n t σQ h) .bad) ⟨N, R, B, C, X⟩
  rw [y h (L.kp j)]
  exact L.fin j
 | l :: r, n + 1, it, σQ, h, lt, ⟨t', y, y'⟩, j => by
  obtain ⟨σ', eQ, k⟩ := L.step j
  show OkS (tgt tg (it.next h) σQ (.nx σQ h) (fun σQ t => turnS (b σQ h) fun σQ h => forN tg b n t σQ h) .bad) ⟨N, R, B, C, X⟩
  rw [y h (L.kp j), jGD eQ]
  have lt' : r.length < n := Nat.lt_of_succ_lt_succ lt
  cases zQ : b σ' h with
  | nx σQ h => rw [zQ] at k; exact jGj L r n t' σQ h lt' y' k
  | ct σQ h => rw [zQ] at k; exact jGj L r n t' σQ h lt' y' k
  | rt v h => rw [zQ] at k; exact k
  | bk σQ h => rw [zQ] at k; exact k
  | ex cQ x σQ h => rw [zQ] at k; exact k
  | bad => rw [zQ] at k; exact k
theorem ok_for {tg : CT} {it : CI} {b : CS} (k : OkI (it Φ σQ h) (fun t h => NoLk t ∧ ∃ xs Kp I, ItY Kp xs t ∧ xs.length < 1000000 ∧ LoopI tg (b Φ) N R B C X Kp I ∧ I xs σQ h) X) : OkS (sFor tg it b Φ σQ h) ⟨N, R, B, C, X⟩ := by
 show OkS (RI.rec (motive := fun _ => RS) (fun t h => unlT t unlS (forN tg (b Φ) big t σQ h)) (fun cQ x h => .ex cQ x σQ h) .bad (it Φ σQ h)) ⟨N, R, B, C, X⟩
 cases zQ : it Φ σQ h with
 | ok t h1 =>
  rw [zQ] at k
  obtain ⟨nl, xs, Kp, I, y, lt, L, j⟩ := k
  show OkS (unlT t unlS (forN tg (b Φ) big t σQ h1)) ⟨N, R, B, C, X⟩
  rw [nl]
  exact jGj L xs big t σQ h1 (Nat.lt_trans lt (by decide)) y j
 | ex cQ x h => rw [zQ] at k; exact k
 | bad => rw [zQ] at k; exact k
theorem jEQ {tg : CT} {it : CI} {b : CS} (I : List (List D) → Env → EH → Prop) (k : OkI (it Φ σQ h) (fun t h => NoLk t ∧ ∃ xs Kp, ItY Kp xs t ∧ xs.length < 1000000 ∧ LoopI tg (b Φ) N R B C X Kp I ∧ I xs σQ h) X) : OkS (sFor tg it b Φ σQ h) ⟨N, R, B, C, X⟩ :=
 ok_for (k.imp fun t h ⟨n, xs, Kp, zQ⟩ => ⟨n, xs, Kp, I, zQ⟩)
structure CompI (tg : CT) (cQ eQ : Env → EH → RE) (σQ : Env) (Kp : EH → Prop) (J : List (List D) → List D → EH → Prop) (Q : List D → EH → Prop) : Prop where
 kp : ∀ {l acc h}, J l acc h → Kp h
 step : ∀ {l r acc h}, J (l :: r) acc h → ∃ σ', tA tg l σQ = some σ' ∧ OkE (cQ σ' h) (fun b h => ∃ t, tru h b = some t ∧ bif t then OkE (eQ σ' h) (fun y h => J r (acc ++ [y]) h) nX else J r acc h) nX
 fin : ∀ {acc h}, J [] acc h → Q acc h
theorem jER {tg : CT} {cQ eQ : Env → EH → RE} {J : List (List D) → List D → EH → Prop} {Q : List D → EH → Prop} (L : CompI tg cQ eQ σQ Kp J Q) : ∀ (xs : List (List D)) (n : Nat) (it : It) (h : EH) (acc : List D), xs.length < n → ItY Kp xs it → J xs acc.reverse h → OkL (jBI tg cQ eQ σQ n it h acc) (fun l h => Q l.reverse h) nX
 | _, 0, _, _, _, lt, _, _ => absurd lt (Nat.not_lt_zero _)
 | [], n + 1, it, h, acc, _, y, j => by
  show OkL (tgt tg (it.next h) σQ (.ok acc h) _ .bad) _ _
  rw [y h (L.kp j)]
  exact L.fin j
 | l :: r, n + 1, it, h, acc, lt, ⟨t', y, y'⟩, j => by
  obtain ⟨σ', e1, k⟩ := L.step j
  show OkL (tgt tg (it.next h) σQ (.ok acc h) (fun σQ t => bC (cQ σQ h) fun b h => tE h b (bC (eQ σQ h) fun y h => fD y fun y => jBI tg cQ eQ _ n t h (y :: acc)) (jBI tg cQ eQ _ n t h acc) .bad) .bad) _ _
  rw [y h (L.kp j), jGD e1]
  have lt' : r.length < n := Nat.lt_of_succ_lt_succ lt
  cases zQ : cQ σ' h with
  | ex cQ x h => rw [zQ] at k; exact k.elim
  | bad => rw [zQ] at k; exact k.elim
  | ok bv h1 =>
   rw [zQ] at k
   obtain ⟨tt, g, k⟩ := k
   show OkL (tE h1 bv _ _ .bad) _ _
   refine ok_tE (f := fun r => OkL r (fun l h => Q l.reverse h) nX) g ?_
   cases tt with
   | false => exact jER L r n t' h1 acc lt' y' k
   | true =>
    have k : OkE (eQ σ' h1) (fun y h => J r (acc.reverse ++ [y]) h) nX := k
    show OkL (bC (eQ σ' h1) fun y h => fD y fun y => jBI tg cQ eQ σQ n t' h (y :: acc)) _ _
    cases z2 : eQ σ' h1 with
    | ex cQ x h => rw [z2] at k; exact k.elim
    | bad => rw [z2] at k; exact k.elim
    | ok v h2 =>
     rw [z2] at k
     show OkL (fD v fun y => jBI tg cQ eQ σQ n t' h2 (y :: acc)) _ _
     rw [jBs]
     exact jER L r n t' h2 (v :: acc) lt' y' (by rw [List.reverse_cons]; exact k)
theorem jC9 {own : List Nat} {tg : CT} {it : CI} (J : List (List D) → List D → EH → Prop)
  (k : OkI (it Φ σQ h) (fun t h => NoLk t ∧ ∃ xs Kp, ItY Kp xs t ∧ xs.length < 1000000 ∧ CompI tg (cQ Φ) (eQ Φ) (jBj own σQ) Kp J (fun l h => Q (.ref h.n) (h.nw (.lst l))) ∧ J xs [] h) X) : OkE (jBi own tg it cQ eQ Φ σQ h) Q X := by
 show OkE (RI.rec (motive := fun _ => RE) (fun t h => RL.rec (motive := fun _ => RE) (fun acc h => (VR.new (.lst (revL acc))).re h) (fun _ _ _ => .bad) .bad (unlT t unlL (jBI tg (cQ Φ) (eQ Φ) (jBj own σQ) jCG t h []))) (fun cQ x h => .ex cQ x h) .bad (it Φ σQ h)) Q X
 cases zQ : it Φ σQ h with
 | ex cQ x h => rw [zQ] at k; exact k
 | bad => rw [zQ] at k; exact k
 | ok t h1 =>
  rw [zQ] at k
  obtain ⟨nl, xs, Kp, y, lt, L, j⟩ := k
  show OkE (RL.rec (motive := fun _ => RE) (fun acc h => (VR.new (.lst (revL acc))).re h) (fun _ _ _ => .bad) .bad (unlT t unlL (jBI tg (cQ Φ) (eQ Φ) (jBj own σQ) jCG t h1 []))) Q X
  rw [nl]
  have w := jER L xs jCG t h1 [] lt y j
  cases z2 : jBI tg (cQ Φ) (eQ Φ) (jBj own σQ) jCG t h1 [] with
  | ex cQ x h => rw [z2] at w; exact w.elim
  | bad => rw [z2] at w; exact w.elim
  | ok l h2 =>
   rw [z2] at w
   refine jCQ rfl ?_
   rw [jHU]
   exact w
end
end Mi

namespace Mi
open PySem PySem.Spec L2
open PyProof.Rows hiding St
def tI (n : Nat) (xs : List Int) : D := .p (.tup n (xs.map P.int))
def RowD (d : D) (xs : List Int) : Prop := ∃ n, d = tI n xs ∧ unf n = 1
section
variable {Φ : Ph} {σQ σ1 : Env} {h h1 h2 : EH} {a b cQ eQ : CE} {la : CL} {v x y d : D} {Q Q' : VQ} {X : XQ} {q : PQ} {s t : CS} {i j : Int} {k k' : Nat} {xs ys : List D}
theorem o_eqI : oEqB h (.p (.int i)) (.p (.int j)) = .val (.p (.bl (decide (i = j)))) := by
 show fB (iEq i j) (fun r => vP (.bl r)) = _
 rw [jAR, jBw]; rfl
theorem o_neI : oNeB h (.p (.int i)) (.p (.int j)) = .val (.p (.bl (!decide (i = j)))) := by
 show fB (iEq i j) (fun r => vP (.bl (Bool.not r))) = _
 rw [jAR, jBw]; rfl
theorem jGY {a b : Bool} : oNeB h (.p (.bl a)) (.p (.bl b)) = .val (.p (.bl (a != b))) := by
 cases a <;> cases b <;> rfl
theorem o_eqBl {a b : Bool} : oEqB h (.p (.bl a)) (.p (.bl b)) = .val (.p (.bl (a == b))) := by
 cases a <;> cases b <;> rfl
theorem refX_l {f : D → D → Option Bool} (g : h.get k = some (.lst xs)) (g' : h.get k' = some (.lst ys)) : refX f h k k' = bB (Nat.beq (lenL xs) (lenL ys)) (eqXl f xs ys) (some false) := by
 unfold refX
 rw [g, g']; rfl
theorem jGB (g : h.get k = some (.lst xs)) (g' : h.get k' = some (.lst [])) : topX h (.ref k) (.ref k') = some (!isN xs) := by
 show refX (eqX h 12) h k k' = _
 rw [refX_l g g']
 cases xs with
 | nil => rfl
 | cons a l =>
  rw [jAx, jAx]; rfl
theorem o_eqNil (g : h.get k = some (.lst xs)) (g' : h.get k' = some (.lst [])) : oEqB h (.ref k) (.ref k') = .val (.p (.bl (!isN xs))) := by
 unfold oEqB
 rw [jGB g g']
 show fB (!isN xs) (fun r => vP (.bl r)) = _
 rw [jAR]; rfl
theorem jIf (g : h.get k = some (.lst xs)) (g' : h.get k' = some (.lst [])) : oNeB h (.ref k) (.ref k') = .val (.p (.bl (isN xs))) := by
 unfold oNeB
 rw [jGB g g']
 show fB (!isN xs) (fun r => vP (.bl (Bool.not r))) = _
 rw [jAR, Bool.not_not]; rfl
theorem o_neg : oNeg h (.p (.int i)) = .val (.p (.int (-i))) := by
 show fI (Int.neg i) (fun r => vP (.int r)) = _
 rw [jDw]; rfl
theorem o_le : oLeA h (.p (.int i)) (.p (.int j)) = .val (.p (.bl (decide (i ≤ j)))) := by
 show fB (iLe i j) (fun r => vP (.bl r)) = _
 rw [jAR, jBZ]; rfl
theorem jDP : ∀ l : List P, jC7 (upP l) = some l
 | [] => rfl
 | a :: l => by
  show Option.rec (motive := fun _ => Option (List P)) none (fun r => some (a :: r)) (jC7 (upP l)) = _
  rw [jDP l]
theorem jBN {α : Type} {l : List α} (eQ : l.length ≤ 1000000) : jAG l = true := jGO l _ eQ
theorem mkT_up {l : List P} (hl : l.length ≤ 1000000) (hd : dmx l ≤ 50) : mkT (upP l) = .val (.p (.tup (dmx l) l)) := by
 show gd (jAG (upP l)) (Option.rec (motive := fun _ => VR) (.val (.mt (upP l))) (fun r => fN (dmx r) fun d => gd (Nat.ble d deepest) (.val (.p (.tup d r)))) (jC7 (upP l))) = _
 rw [gdt (jBN (by rw [jBd]; exact hl)), jDP]
 show fN (dmx l) (fun d => gd (Nat.ble d deepest) (.val (.p (.tup d l)))) = _
 rw [jA7, gdt (show Nat.ble (dmx l) deepest = true from Nat.ble_eq_true_of_le hd)]
theorem jGl {l : List P} (hl : l.length ≤ 1000000) (hd : dmx l ≤ 50) : mkTc (upP l) = .val (.p (.tup (dmx l + 100) l)) := by
 unfold mkTc
 rw [mkT_up hl hd]
 show VR.val (fN (dmx l + 100) fun d => .p (.tup d l)) = _
 rw [jA7]
theorem jHp (a : P) (l : List P) : dmx (a :: l) = max (dep a + 1) (dmx l) := by
 show fN (Nat.succ (dep a)) (fun d => fN (dmx l) fun eQ => maxN d eQ) = _
 rw [jA7, jA7, jGn]
theorem jFb {n : Nat} : ∀ {l : List P}, (∀ x ∈ l, dep x ≤ n) → dmx l ≤ n + 1
 | [], _ => by show 1 ≤ n + 1; omega
 | a :: l, zQ => by
  rw [jHp]
  have h1 := zQ a List.mem_cons_self
  have h2 := jFb (l := l) fun x m => zQ x (List.mem_cons_of_mem _ m)
  omega
theorem jD4 : ∀ xs : List Int, dmx (xs.map P.int) = 1
 | [] => rfl
 | i :: xs => by
  rw [List.map_cons, jHp, jD4 xs]; rfl
theorem jCr : ∀ xs : List Int, upP (xs.map P.int) = upI xs
 | [] => rfl
 | i :: xs => congrArg (D.p (.int i) :: ·) (jCr xs)
theorem RowD.sq {xs : List Int} (zQ : RowD d xs) : Sq h d (upI xs) := by
 obtain ⟨n, rfl, _⟩ := zQ
 rw [← jCr]; exact .tup
theorem unf_add {n : Nat} (eQ : n < 100) : unf (n + 100) = n := by
 unfold unf fl
 rw [show Nat.ble 100 (n + 100) = true from Nat.ble_eq_true_of_le (by omega)]
 show Nat.sub (n + 100) 100 = n
 exact Nat.add_sub_cancel _ _
theorem o_tupI {xs : List Int} (hl : xs.length ≤ 1000000) (g : h.get k = some (li xs)) : oTup h (.ref k) = .val (tI 101 xs) := by
 show jAw h k mkTc .bad = _
 rw [jAo g, ← jCr, jGl (by rw [List.length_map]; exact hl) (by rw [jD4]; decide), jD4]; rfl
theorem RowD.t101 {xs : List Int} : RowD (tI 101 xs) xs := ⟨101, rfl, rfl⟩
theorem o_tupP {l : List P} (hl : l.length ≤ 1000000) (hd : dmx l ≤ 50) (g : h.get k = some (.lst (upP l))) : oTup h (.ref k) = .val (.p (.tup (dmx l + 100) l)) := by
 show jAw h k mkTc .bad = _
 rw [jAo g, jGl hl hd]
theorem o_lstS (zQ : Sq h d xs) : jEk h d = .new (.lst xs) := by
 show jB4 h d _ (oLst h d) = _
 rw [zQ.noDic]
 show Mi.seqOf h d _ _ = _
 rw [zQ.seqOf]
theorem jGV {α : Type} (a : α) (n : Nat) : repL [a] n = List.replicate n a := by
 rw [jEG]
 induction n with
 | zero => rfl
 | succ n ih => rw [List.replicate_succ, List.flatten_cons, ih]; rfl
theorem o_mulL {n : Nat} {a : D} (hn : n < 1000000) (g : h.get k = some (.lst [a])) : jAM h (.ref k) (.p (.int (.ofNat n))) = .new (.lst (List.replicate n a)) := by
 show jAw h k (fun l => gd (iSm (.ofNat n) 1000000) (gd (jAG (repL l (Int.ofNat n).toNat)) (.new (.lst (repL l (Int.ofNat n).toNat))))) .bad = _
 rw [jAo g, gdt (jE4 hn)]
 show gd (jAG (repL [a] n)) (.new (.lst (repL [a] n))) = _
 rw [jGV, gdt (jBN (by rw [List.length_replicate]; omega))]
theorem o_mulT {n m : Nat} {i : Int} (hn : n ≤ 1000) (hm : unf m = 1) : ∃ m', jAM h (.p (.tup m [.int i])) (.p (.int (.ofNat n))) = .val (tI m' (List.replicate n i)) ∧ unf m' = 1 := by
 have eQ : jAM h (.p (.tup m [.int i])) (.p (.int (.ofNat n))) = bB (iEq (.ofNat n) (.ofNat 1)) (vP (.tup m [.int i])) (bB (iLe (.ofNat n) (.ofNat 0)) (bB (i62 (.ofNat n)) (vP (.tup 1 [])) .bad) (oMul h (.p (.tup m [.int i])) (.p (.int (.ofNat n))))) := rfl
 rw [eQ, jBw, jBZ]
 match n, hn with
 | 0, _ => exact ⟨1, rfl, rfl⟩
 | 1, _ => exact ⟨m, rfl, hm⟩
 | n + 2, hn =>
  rw [decide_eq_false (by simp only [Int.ofNat_eq_natCast]; omega), decide_eq_false (by simp only [Int.ofNat_eq_natCast]; omega)]
  refine ⟨1, ?_, rfl⟩
  show gd (Bool.and true (Bool.and (iLe (.ofNat 2) (.ofNat (n + 2))) (iLe (.ofNat (n + 2)) (.ofNat 1000)))) (gd true (fN (unf m) fun d => vP (.tup d (repL [P.int i] (n + 2))))) = _
  rw [jBZ, jBZ, decide_eq_true (by simp only [Int.ofNat_eq_natCast]; omega), decide_eq_true (by simp only [Int.ofNat_eq_natCast]; omega)]
  show fN (unf m) (fun d => vP (.tup d (repL [P.int i] (n + 2)))) = _
  rw [jA7, hm, jGV]
  show VR.val _ = VR.val (.p (.tup 1 ((List.replicate (n + 2) i).map P.int)))
  rw [List.map_replicate]
theorem jF5 : ∀ xs : List Int, jC3 (upI xs) = some xs
 | [] => rfl
 | i :: xs => by
  show Option.rec (motive := fun _ => Option (List Int)) none (fun r => some (i :: r)) (jC3 (upI xs)) = _
  rw [jF5 xs]
theorem o_sum {xs : List Int} (g : h.get k = some (li xs)) : oSumA h (.ref k) = .val (.p (.int xs.sum)) := by
 show jAw h k (fun l => oV (jC3 l) fun r => fI (sumI r) fun b => vP (.int b)) .bad = _
 rw [jAo g, jF5]
 show fI (sumI xs) (fun b => vP (.int b)) = _
 rw [jDw, jEC]; rfl
def upB (l : List Bool) : List D := l.map fun b => .p (.bl b)
theorem upB_up : ∀ l : List Bool, upB l = upP (l.map P.bl)
 | [] => rfl
 | b :: l => congrArg (D.p (.bl b) :: ·) (upB_up l)
theorem jJc : ∀ l : List Bool, allL plnP (l.map P.bl) = true
 | [] => rfl
 | _ :: l => jJc l
theorem jIZ : ∀ l : List Bool, allT (l.map P.bl) = l.all id
 | [] => rfl
 | b :: l => by
  show Bool.and b (allT (l.map P.bl)) = _
  rw [jIZ l]; rfl
theorem o_all {l : List Bool} (g : h.get k = some (.lst (upB l))) : jFz h (.ref k) = .val (.p (.bl (l.all id))) := by
 show jAw h k (fun l => Option.rec (motive := fun _ => VR) .bad (fun r => bB (allL plnP r) (fB (allT r) fun b => vP (.bl b)) .bad) (jC7 l)) .bad = _
 rw [jAo g, upB_up, jDP]
 show bB (allL plnP (l.map P.bl)) (fB (allT (l.map P.bl)) fun b => vP (.bl b)) .bad = _
 rw [jJc, jIZ]
 show fB (l.all id) (fun b => vP (.bl b)) = _
 rw [jAR]; rfl
theorem o_ixS {n : Nat} (g : h.get k = some (.lst xs)) (eQ : xs[n]? = some v) : oIxA h (.ref k) (.p (.int (.ofNat n))) = .val v := o_ix g (by
 show nth xs n = _
 rw [jBp, eQ])
theorem jEz {o : CE} (eo : ∀ h, o Φ σQ h = .ok (.ref k) h) (g0 : ∃ xs, h.get k = some (.lst xs)) (zQ : OkE (a Φ σQ h) (fun y h => ∃ xs, h.get k = some (.lst xs) ∧ jAG xs = true ∧ Q (.p .non) (h.put k (.lst (xs ++ [y])))) X) : OkE (cLm mApp o (jAb a cNil) Φ σQ h) Q X := by
 obtain ⟨xs, g0⟩ := g0
 refine jBY ?_
 rw [eo]
 show OkE (jAw h k (fun _ => bL (jAb a cNil Φ σQ h) fun vs h => jAw h k (fun xs => mApp xs vs h fun ys v => .ok v (h.put k (.lst ys))) .bad) .bad) Q X
 rw [jAo g0]
 refine jGX (jAf (zQ.imp fun y h ⟨xs, g, sh, w⟩ => ?_))
 show OkE (jAw h k (fun xs => mApp xs [y] h fun ys v => .ok v (h.put k (.lst ys))) .bad) Q X
 rw [jAo g]
 show OkE (bB (jAG xs) (RE.ok (.p .non) (h.put k (.lst (app xs [y])))) .bad) Q X
 rw [sh, jB8]
 exact w
theorem jId {f g : EH → D → D → VR} (zQ : OkE (a Φ σQ h) (fun x h => OkE (b Φ σQ h) (fun y h => ∃ r, f h x y = .val (.p (.bl r)) ∧ bif r then OkE (cQ Φ σQ h) (fun w h => OkE ((g h y w).re h) Q X) X else Q (.p (.bl false)) h) X) X) : OkE (jDZ f g a b cQ Φ σQ h) Q X :=
 jBY (zQ.imp fun x h zQ => jBY (zQ.imp fun y h ⟨r, eQ, zQ⟩ => jBY (by
  rw [eQ]
  show OkE (Bool.rec (motive := fun _ => RE) (.ok (.p (.bl false)) h) (bE (cQ Φ σQ h) fun w h => (g h y w).re h) r) Q X
  cases r with
  | false => exact zQ
  | true => exact jBY zQ)))
theorem o_addL (g : h.get k = some (.lst xs)) (g' : h.get k' = some (.lst ys)) (sh : jAG (xs ++ ys) = true) : oAdd h (.ref k) (.ref k') = .new (.lst (xs ++ ys)) := by
 show jAw h k (fun l => jAw h k' (fun m => gd (jAG (app l m)) (.new (.lst (app l m)))) .bad) .bad = _
 rw [jAo g, jAo g', jB8, gdt sh]
theorem jDD {n : Nat} : tA (jAq n) [x] σQ = some (setN σQ n (some x)) := by
 show fD x (fun v => some (setN σQ n (some v))) = _
 rw [jBs]
theorem Sh.dep {p : P} (zQ : Sh (.p p)) : dep p ≤ 40 := zQ
theorem jGE {n m : Nat} (hxQ : Sh x) (hy : Sh y) : tA (tTup (jAF (jAq n) (jAF (jAq m) tNil))) [x, y] σQ = some (setN (setN σQ n (some x)) m (some y)) := by
 have fin : (jAF (jAq n) (jAF (jAq m) tNil)) [x, y] σQ = some (setN (setN σQ n (some x)) m (some y)) := by
  show Option.rec (motive := fun _ => Option Env) none (fun σQ => Option.rec (motive := fun _ => Option Env) none (fun σQ => some σQ) (fD y fun v => some (setN σQ m (some v)))) (fD x fun v => some (setN σQ n (some v))) = _
  rw [jBs]
  show Option.rec (motive := fun _ => Option Env) none (fun σQ => some σQ) (fD y fun v => some (setN _ m (some v))) = _
  rw [jBs]
 show VR.rec (motive := fun _ => Option Env) (fun v => tTup (jAF (jAq n) (jAF (jAq m) tNil)) v σQ) (fun _ => none) none (mkT [x, y]) = _
 have nopure : jC7 [x, y] = none → mkT [x, y] = .val (.mt [x, y]) := fun eQ => by
  show gd (jAG [x, y]) (Option.rec (motive := fun _ => VR) (.val (.mt [x, y])) _ (jC7 [x, y])) = _
  rw [eQ, gdt (show jAG [x, y] = true from rfl)]
 cases x with
 | p p =>
  cases y with
  | p q =>
   have eQ : mkT [.p p, .p q] = .val (.p (.tup (dmx [p, q]) [p, q])) := mkT_up (l := [p, q]) (by show 2 ≤ 1000000; decide) (by
    have h1 := hxQ.dep
    have h2 := hy.dep
    have : dmx [p, q] ≤ 41 := jFb (n := 40) fun zQ m => by
     rcases List.mem_cons.mp m with eQ | m
     ·rw [eQ]; exact h1
     ·rw [List.mem_singleton.mp m]; exact h2
    omega)
   rw [eQ]; exact fin
  | ref _ => rw [nopure rfl]; exact fin
  | mt _ => rw [nopure rfl]; exact fin
 | ref _ => rw [nopure (by cases y <;> rfl)]; exact fin
 | mt _ => rw [nopure (by cases y <;> rfl)]; exact fin
theorem Sh.row {xs : List Int} (zQ : RowD d xs) : Sh d := by
 obtain ⟨n, rfl, eQ⟩ := zQ
 show unf n ≤ 40
 omega
theorem Sh.int : Sh (.p (.int i)) := Nat.zero_le _
end
end Mi

namespace Mi
open PySem PySem.Spec L2
open PyProof.Rows hiding St
def Has (L : Nat → Ph) (j : Nat) (g : Fn) : Prop := ∀ n, L (n + 1) j = runT g (L n)
theorem has_lev {T : Nat → Option Fn} {j : Nat} {g : Fn} (eQ : T j = some g) : Has (lev T) j g := fun n => by
 funext l h
 show Option.rec (motive := fun _ => RE) .bad (fun g => runT g (lev T n) l h) (T j) = _
 rw [eQ]
noncomputable section
def jEc (j : Nat) : CS := (sSeq (sIf (cOp1 (oIsi [5, 4]) (cVar 1)) (sSeq (sIf (cOr (cOp2 oNeB (cOp1 (oIsi [5]) (cVar 0)) (cOp1 (oIsi [5]) (cVar 1))) (cOp2 oNeB (cOp1 (oIsi [4]) (cVar 0)) (cOp1 (oIsi [4]) (cVar 1)))) (sRet (cC (.bl false))) sNop) (sRet (cAnd (cOp2 oEqB (cOp1 jBP (cVar 0)) (cOp1 jBP (cVar 1))) (cOp1 jFz (jBi [2, 3] (tTup (jAF (jAq 2) (jAF (jAq 3) tNil))) (iZip (jAb (cVar 0) (jAb (cVar 1) cNil))) (cC (.bl true)) (jAs j (jAb (cVar 2) (jAb (cVar 3) cNil)))))))) sNop) (sSeq (sIf (cOr (cOp2 oIsA (cVar 1) (cC .non)) (cOp1 (oIsi [1, 3]) (cVar 1))) (sRet (cAnd (cOp2 oEqB (cVar 0) (cVar 1)) (cAnd (cOp2 oEqB (cOp1 (oIsi [1]) (cVar 0)) (cOp1 (oIsi [1]) (cVar 1))) (cOp2 oEqB (cOp2 oIsA (cVar 0) (cC .non)) (cOp2 oIsA (cVar 1) (cC .non)))))) sNop) (sRet (cAnd (cOp1 (oIsi [2]) (cVar 0)) (cAnd (cNot (cOp1 (oIsi [1]) (cVar 0))) (cOp2 oEqB (cVar 0) (cVar 1)))))))
def bOf (jt : Nat) : CS := (sRet (cOp2 oIxA (cVar 1) (jAs jt (jAb (cVar 0) (jAb (cOp1 jBP (cVar 1)) cNil)))))
def bPlus : CS := (sRet (cOp1 oTup (jBi [4, 5] (tTup (jAF (jAq 4) (jAF (jAq 5) tNil))) (iZip (jAb (cVar 1) (jAb (cVar 2) cNil))) (cC (.bl true)) (cOp2 oMod (cOp1 oInt (cOp2 oAdd (cVar 4) (cOp2 jAM (cVar 3) (cVar 5)))) (cVar 0)))))
def bMixed (jp : Nat) : CS := (sSeq (jA1 4 (cOp2 jAM (cTup (jAb (cC (.int (.ofNat 0))) cNil)) (cVar 3))) (sSeq (sFor (tTup (jAF (jAq 5) (jAF (jAq 6) tNil))) (iZip (jAb (cVar 1) (jAb (cVar 2) cNil))) (jA1 4 (jAs jp (jAb (cVar 0) (jAb (cVar 4) (jAb (cVar 5) (jAb (cVar 6) cNil))))))) (sRet (cVar 4))))
def bTimes : CS := (sRet (cOp2 oMod (cOp1 oInt (cOp1 oSumA (jBi [3, 4] (tTup (jAF (jAq 3) (jAF (jAq 4) tNil))) (iZip (jAb (cVar 1) (jAb (cVar 2) cNil))) (cC (.bl true)) (cOp2 jAM (cVar 3) (cVar 4))))) (cVar 0)))
end
inductive Sam (h : EH) : Nat → D → D → Prop
 | int {n : Nat} (i : Int) : Sam h n (.p (.int i)) (.p (.int i))
 | bl {n : Nat} (b : Bool) : Sam h n (.p (.bl b)) (.p (.bl b))
 | non {n : Nat} : Sam h n (.p .non) (.p .non)
 | str {n : Nat} (s : List Nat) : Sam h n (.p (.str s)) (.p (.str s))
 | tup {n a b : Nat} {l m : List P} : l.length = m.length → l.length ≤ 1000 → (∀ x ∈ l, dep x ≤ 40) → (∀ x ∈ m, dep x ≤ 40) → (∀ (i : Nat) (x y : P), l[i]? = some x → m[i]? = some y → Sam h n (.p x) (.p y)) → Sam h (n + 1) (.p (.tup a l)) (.p (.tup b m))
 | lst {n k k' : Nat} {xs ys : List D} : h.get k = some (.lst xs) → h.get k' = some (.lst ys) → xs.length = ys.length → xs.length ≤ 1000 → (∀ x ∈ xs, Sh x) → (∀ x ∈ ys, Sh x) → (∀ (i : Nat) (x y : D), xs[i]? = some x → ys[i]? = some y → Sam h n x y) → Sam h (n + 1) (.ref k) (.ref k')
section
variable {L : Nat → Ph} {Φ : Ph} {σQ : Env} {h h1 h2 : EH} {a b cQ eQ : CE} {v x y d : D} {Q : VQ} {X : XQ} {q : PQ} {i : Int} {k k' : Nat} {xs ys : List D}
theorem Sam.gr {n : Nat} (zQ : Sam h n x y) (g : Gr h h1) : Sam h1 n x y := by
 induction zQ with
 | int i => exact .int i
 | bl b => exact .bl b
 | non => exact .non
 | str s => exact .str s
 | tup eQ l d1 d2 _ ih => exact .tup eQ l d1 d2 ih
 | lst g1 g2Q eQ l d1 d2 _ ih => exact .lst (g.k g1) (g.k g2Q) eQ l d1 d2 ih
theorem Sam.pure {n : Nat} {p p' : P} (zQ : Sam h n (.p p) (.p p')) : Sam h1 n (.p p) (.p p') := by
 have : ∀ {n : Nat} {x y : D}, Sam h n x y → ∀ {p p' : P}, x = .p p → y = .p p' → Sam h1 n (.p p) (.p p') := by
  intro n x y zQ
  induction zQ with
  | int i => intro p p' eQ eQ'; cases eQ; cases eQ'; exact .int i
  | bl b => intro p p' eQ eQ'; cases eQ; cases eQ'; exact .bl b
  | non => intro p p' eQ eQ'; cases eQ; cases eQ'; exact .non
  | str s => intro p p' eQ eQ'; cases eQ; cases eQ'; exact .str s
  | tup eQ l d1 d2 _ ih => intro p p' e1 e2; cases e1; cases e2; exact .tup eQ l d1 d2 fun i x y h1 h2 => ih i x y h1 h2 rfl rfl
  | lst _ _ _ _ _ _ _ _ => intro p p' eQ; cases eQ
 exact this zQ rfl rfl
theorem jBT {js : List Nat} : oIsi js h (.p (.int i)) = .val (.p (.bl (List.rec (motive := fun _ => Bool) false (fun j _ ih => Bool.rec (motive := fun _ => Bool) ih true (isK 2 j)) js))) := by
 show fB _ (fun b => vP (.bl b)) = _
 rw [jAR]; rfl
theorem jE3 {js : List Nat} {b : Bool} : oIsi js h (.p (.bl b)) = .val (.p (.bl (List.rec (motive := fun _ => Bool) false (fun j _ ih => Bool.rec (motive := fun _ => Bool) ih true (isK 1 j)) js))) := by
 show fB _ (fun b => vP (.bl b)) = _
 rw [jAR]; rfl
theorem jDT {js : List Nat} : oIsi js h (.p .non) = .val (.p (.bl (List.rec (motive := fun _ => Bool) false (fun j _ ih => Bool.rec (motive := fun _ => Bool) ih true (isK 0 j)) js))) := by
 show fB _ (fun b => vP (.bl b)) = _
 rw [jAR]; rfl
theorem jDd {js : List Nat} {s : List Nat} : oIsi js h (.p (.str s)) = .val (.p (.bl (List.rec (motive := fun _ => Bool) false (fun j _ ih => Bool.rec (motive := fun _ => Bool) ih true (isK 3 j)) js))) := by
 show fB _ (fun b => vP (.bl b)) = _
 rw [jAR]; rfl
theorem jB1 {js : List Nat} {n : Nat} {l : List P} : oIsi js h (.p (.tup n l)) = .val (.p (.bl (List.rec (motive := fun _ => Bool) false (fun j _ ih => Bool.rec (motive := fun _ => Bool) ih true (isK 4 j)) js))) := by
 show fB _ (fun b => vP (.bl b)) = _
 rw [jAR]; rfl
theorem jDe {js : List Nat} (g : h.get k = some (.lst xs)) : oIsi js h (.ref k) = .val (.p (.bl (List.rec (motive := fun _ => Bool) false (fun j _ ih => Bool.rec (motive := fun _ => Bool) ih true (isK 5 j)) js))) := by
 have eQ : kindOf h (.ref k) = 5 := jAo g
 show fN (kindOf h (.ref k)) (fun k => gd (Nat.blt k 9) (fB (List.rec (motive := fun _ => Bool) false (fun j _ ih => Bool.rec (motive := fun _ => Bool) ih true (isK k j)) js) fun b => vP (.bl b))) = _
 rw [jA7, eQ]
 show fB _ (fun b => vP (.bl b)) = _
 rw [jAR]; rfl
theorem isA_p {p : P} : oIsA h (.p p) (.p .non) = .val (.p (.bl (jCk p))) := by
 show fB (jCk p) (fun r => vP (.bl r)) = _
 rw [jAR]; rfl
theorem jGU : ∀ s : List Nat, sEq s s = true
 | [] => rfl
 | a :: s => by
  show Bool.rec (motive := fun _ => Bool) false (sEq s s) (Nat.beq a a) = true
  rw [show Nat.beq a a = true from Nat.beq_refl a, jGU s]
theorem o_eqStr {s : List Nat} : oEqB h (.p (.str s)) (.p (.str s)) = .val (.p (.bl true)) := by
 show fB (sEq s s) (fun r => vP (.bl r)) = _
 rw [jGU]; rfl
theorem o_eqNon : oEqB h (.p .non) (.p .non) = .val (.p (.bl true)) := rfl
theorem jCF : ∀ {l m : List D}, (zipY l m).length = min l.length m.length
 | [], _ => by simp [zipY]
 | _ :: _, [] => by simp [zipY]
 | x :: l, y :: m => by simp [zipY]
theorem Has.call {j : Nat} {g : Fn} (hj : Has L j g) {n : Nat} {l : List D} (zQ : OkE (jA8 (runT g (L n)) l h) Q X) : OkE (jA8 (L (n + 1) j) l h) Q X := by rw [hj n]; exact zQ
theorem OkE.weak {r : RE} {Q' : VQ} (k : OkE r Q nX) (m : ∀ v h, Q v h → Q' v h) : OkE r Q' X := by
 cases r with
 | ok v h => exact m v h k
 | ex cQ x h => exact k.elim
 | bad => exact k
theorem jGQ {j m : Nat} {Q : VQ} (call : ∀ (i : Nat) (x y : D) (h1 : EH), Gr h h1 → xs[i]? = some x → ys[i]? = some y → OkE (jA8 (L m j) [x, y] h1) (fun v h2 => v = .p (.bl true) ∧ Gr h1 h2) nX)
  (hl : xs.length = ys.length) (hm : xs.length ≤ 1000) (sx : ∀ x ∈ xs, Sh x) (sy : ∀ x ∈ ys, Sh x) (zx : Sq h x xs) (zy : Sq h y ys)
  (e0 : nth σQ 0 = some (some x)) (e1 : nth σQ 1 = some (some y)) (w : jBj [2, 3] σQ = [some x, some y, none, none]) (fin : ∀ h', Gr h h' → Q (.p (.bl true)) h') :
  OkE (cOp1 jFz (jBi [2, 3] (tTup (jAF (jAq 2) (jAF (jAq 3) tNil))) (iZip (jAb (cVar 0) (jAb (cVar 1) cNil))) (cC (.bl true)) (jAs j (jAb (cVar 2) (jAb (cVar 3) cNil)))) (L m) σQ h) Q X := by
 refine jAk ?_
 refine jC9 (fun r acc h1 => ∃ i, r = zipY (xs.drop i) (ys.drop i) ∧ acc = upB (List.replicate i true) ∧ i ≤ xs.length ∧ Gr h h1) ?_
 refine jEO (jAe e0 (jAe e1 ⟨xs, ys, Gr h, zx, zy, fun h' g => ⟨zx.gr g, zy.gr g⟩, fun t nl yt => ⟨nl, _, _, yt, by rw [jCF]; omega, ?_, 0, rfl, rfl, Nat.zero_le _, .refl⟩⟩))
 refine ⟨fun ⟨_, _, _, _, g⟩ => g, ?_, ?_⟩
 ·rintro l r acc h1 ⟨i, eQ, rfl, hi, g⟩
  have lt : i < xs.length := by
   have q := congrArg List.length eQ
   rw [jCF, List.length_cons, List.length_drop, List.length_drop] at q
   omega
  have lt' : i < ys.length := by omega
  rw [List.drop_eq_getElem_cons lt, List.drop_eq_getElem_cons lt'] at eQ
  obtain ⟨rfl, rfl⟩ := List.cons.inj eQ
  refine ⟨_, jGE (sx _ (List.getElem_mem lt)) (sy _ (List.getElem_mem lt')), ?_⟩
  rw [w]
  refine ok_c ⟨true, rfl, ?_⟩
  refine jAA (jAf (jAe rfl (jAf (jAe rfl (jAz ?_)))))
  refine (call i _ _ h1 g (List.getElem?_eq_getElem lt) (List.getElem?_eq_getElem lt')).imp fun v h2 ⟨ev, g2Q⟩ => ⟨i + 1, rfl, ?_, lt, g.trans g2Q⟩
  rw [ev]
  show (List.replicate i true).map _ ++ [D.p (.bl true)] = (List.replicate (i + 1) true).map _
  rw [List.replicate_succ', List.map_append]; rfl
 ·rintro acc h1 ⟨i, eQ, rfl, hi, g⟩
  refine jAg (o_all jAr) ?_
  have : (List.replicate i true).all id = true := by
   rw [List.all_eq_true]
   intro b hb
   rw [(List.mem_replicate.mp hb).2]; rfl
  rw [this]
  exact fin _ (g.trans .nw)
theorem jBo {j m : Nat} {p : P} (hpQ : p = .non ∨ (∃ b, p = .bl b) ∨ (∃ s, p = .str s) ∨ ∃ i, p = .int i) : OkE (runF ⟨2, 4, jEc j⟩ (L m) [.p p, .p p] h) (fun v h' => v = .p (.bl true) ∧ Gr h h') nX := by
 refine jAQ rfl ?_
 show OkS (jEc j (L m) [some (.p p), some (.p p), none, none] h) _
 have fin : ∀ {p : P} {σQ : Env} {q : PQ}, nth σQ 0 = some (some (.p p)) → nth σQ 1 = some (some (.p p)) → (∀ h, oEqB h (.p p) (.p p) = .val (.p (.bl true))) → (∃ b, ∀ h, oIsi [1] h (.p p) = .val (.p (.bl b))) → q.rt (.p (.bl true)) h → OkS (sRet (cAnd (cOp2 oEqB (cVar 0) (cVar 1)) (cAnd (cOp2 oEqB (cOp1 (oIsi [1]) (cVar 0)) (cOp1 (oIsi [1]) (cVar 1))) (cOp2 oEqB (cOp2 oIsA (cVar 0) (cC .non)) (cOp2 oIsA (cVar 1) (cC .non))))) (L m) σQ h) q := by
  rintro p σQ q e0 e1 he ⟨b, hb⟩ w
  refine jAT (jBF (jA9 (jAe e0 (jAe e1 (jAg (he h) ⟨true, rfl, ?_⟩)))))
  refine jBF (jA9 (jAk (jAe e0 (jAg (hb h) (jAk (jAe e1 (jAg (hb h) (jAg o_eqBl ⟨true, ?_, ?_⟩))))))))
  ·cases b <;> rfl
  ·refine jA9 (jA9 (jAe e0 (ok_c (jAg isA_p (jA9 (jAe e1 (ok_c (jAg isA_p (jAg o_eqBl ?_)))))))))
   cases jCk p <;> exact w
 rcases hpQ with rfl | ⟨b, rfl⟩ | ⟨s, rfl⟩ | ⟨i, rfl⟩
 ·refine jA4 (jBl (jAk (jAe rfl (jAg jDT ⟨false, rfl, jFy ?_⟩))))
  refine jA4 (jBl (jCf (jA9 (jAe rfl (ok_c ?_)))))
  refine jAg isA_p ⟨true, rfl, ?_⟩
  exact ⟨true, rfl, fin rfl rfl (fun _ => o_eqNon) ⟨_, fun _ => jDT⟩ ⟨rfl, .refl⟩⟩
 ·refine jA4 (jBl (jAk (jAe rfl (jAg jE3 ⟨false, rfl, jFy ?_⟩))))
  refine jA4 (jBl (jCf (jA9 (jAe rfl (ok_c ?_)))))
  refine jAg isA_p ⟨false, rfl, jAk (jAe rfl (jAg jE3 ⟨true, rfl, ?_⟩))⟩
  exact fin rfl rfl (fun _ => by rw [o_eqBl]; cases b <;> rfl) ⟨_, fun _ => jE3⟩ ⟨rfl, .refl⟩
 ·refine jA4 (jBl (jAk (jAe rfl (jAg jDd ⟨false, rfl, jFy ?_⟩))))
  refine jA4 (jBl (jCf (jA9 (jAe rfl (ok_c ?_)))))
  refine jAg isA_p ⟨false, rfl, jAk (jAe rfl (jAg jDd ⟨true, rfl, ?_⟩))⟩
  exact fin rfl rfl (fun _ => o_eqStr) ⟨_, fun _ => jDd⟩ ⟨rfl, .refl⟩
 ·refine jA4 (jBl (jAk (jAe rfl (jAg jBT ⟨false, rfl, jFy ?_⟩))))
  refine jA4 (jBl (jCf (jA9 (jAe rfl (ok_c ?_)))))
  refine jAg isA_p ⟨false, rfl, jAk (jAe rfl (jAg jBT ⟨false, rfl, jFy ?_⟩))⟩
  refine jAT (jBF (jAk (jAe rfl (jAg jBT ⟨true, rfl, ?_⟩))))
  refine jBF (jCg (jAk (jAe rfl (jAg jBT ⟨false, rfl, true, rfl, ?_⟩))))
  refine jA9 (jAe rfl (jAe rfl (jAg o_eqI ?_)))
  rw [decide_eq_true rfl]
  exact ⟨rfl, .refl⟩
theorem allPu2 {p p' : P} : jB2 [.p p, .p p'] = true := rfl
theorem jJa {l : List D} : jB2 (.ref k :: l) = false := rfl
theorem Sam.call {j n m : Nat} (hj : Has L j ⟨2, 4, jEc j⟩) (run : ∀ {x y : D} {h : EH}, Sam h n x y → OkE (runF ⟨2, 4, jEc j⟩ (L m) [x, y] h) (fun v h' => v = .p (.bl true) ∧ Gr h h') nX) (zQ : Sam h n x y) : OkE (jA8 (L (m + 1) j) [x, y] h) (fun v h' => v = .p (.bl true) ∧ Gr h h') nX := by
 refine hj.call ?_
 have pu : ∀ {p p' : P}, Sam h n (.p p) (.p p') → OkE (jA8 (runT ⟨2, 4, jEc j⟩ (L m)) [.p p, .p p'] h) (fun v h' => v = .p (.bl true) ∧ Gr h h') nX := fun zQ => jFe allPu2 ((run zQ.pure).weak fun v h' ⟨eQ, _⟩ => ⟨_, eQ, rfl, .refl⟩)
 cases zQ with
 | int i => exact pu (.int i)
 | bl b => exact pu (.bl b)
 | non => exact pu .non
 | str s => exact pu (.str s)
 | tup eQ l d1 d2 f => exact pu (.tup eQ l d1 d2 f)
 | lst g1 g2Q eQ l d1 d2 f => exact callR jJa (run (.lst g1 g2Q eQ l d1 d2 f))
theorem same_run {j : Nat} (hj : Has L j ⟨2, 4, jEc j⟩) : ∀ {n : Nat} {x y : D} {h : EH}, Sam h n x y → ∀ m, n ≤ m → OkE (runF ⟨2, 4, jEc j⟩ (L m) [x, y] h) (fun v h' => v = .p (.bl true) ∧ Gr h h') nX := by
 intro n
 induction n with
 | zero =>
  intro x y h zQ m _
  cases zQ with
  | int i => exact jBo (.inr (.inr (.inr ⟨i, rfl⟩)))
  | bl b => exact jBo (.inr (.inl ⟨b, rfl⟩))
  | non => exact jBo (.inl rfl)
  | str s => exact jBo (.inr (.inr (.inl ⟨s, rfl⟩)))
 | succ n ih =>
  intro x y h zQ m hm
  obtain ⟨m, rfl⟩ : ∃ m', m = m' + 1 := ⟨m - 1, by omega⟩
  have call : ∀ {x y : D} {h : EH}, Sam h n x y → OkE (jA8 (L (m + 1) j) [x, y] h) (fun v h' => v = .p (.bl true) ∧ Gr h h') nX := fun zQ => zQ.call hj fun zQ => ih zQ m (by omega)
  cases zQ with
  | int i => exact jBo (.inr (.inr (.inr ⟨i, rfl⟩)))
  | bl b => exact jBo (.inr (.inl ⟨b, rfl⟩))
  | non => exact jBo (.inl rfl)
  | str s => exact jBo (.inr (.inr (.inl ⟨s, rfl⟩)))
  | @tup _ a b l1 l2 eQ l d1 d2 f =>
   refine jAQ rfl ?_
   show OkS (jEc j (L (m + 1)) [some (.p (.tup a l1)), some (.p (.tup b l2)), none, none] h) _
   refine jA4 (jBl (jAk (jAe rfl (jAg jB1 ⟨true, rfl, ?_⟩))))
   refine jA4 (jBl (jCf (jA9 (jAk (jAe rfl (jAg jB1 (jAk (jAe rfl (jAg jB1 (jAg jGY ⟨false, rfl, ?_⟩))))))))))
   refine jA9 (jAk (jAe rfl (jAg jB1 (jAk (jAe rfl (jAg jB1 (jAg jGY ⟨false, rfl, jFy ?_⟩)))))))
   refine jAT (jBF (jA9 (jAk (jAe rfl (jAg Sq.tup.len (jAk (jAe rfl (jAg Sq.tup.len (jAg o_eqI ⟨true, ?_, ?_⟩)))))))))
   ·rw [jBd, jBd, eQ, decide_eq_true rfl]; rfl
   ·have up : ∀ {l : List P}, (∀ x ∈ l, dep x ≤ 40) → ∀ x ∈ upP l, Sh x := fun d x hxQ => by
     rw [jCX] at hxQ
     obtain ⟨p, hpQ, rfl⟩ := List.mem_map.mp hxQ
     exact d p hpQ
    refine jGQ (fun i x y h1 g hxQ hy => ?_) (by rw [jBd, jBd, eQ]) (by rw [jBd]; exact l) (up d1) (up d2) Sq.tup Sq.tup rfl rfl rfl fun h' g => ⟨rfl, g⟩
    rw [jCX, List.getElem?_map] at hxQ hy
    obtain ⟨p, hpQ, rfl⟩ := Option.map_eq_some_iff.mp hxQ
    obtain ⟨p', hp', rfl⟩ := Option.map_eq_some_iff.mp hy
    exact call (f i p p' hpQ hp').pure
  | @lst _ k1 k2 l1 l2 g1 g2Q eQ l d1 d2 f =>
   refine jAQ rfl ?_
   show OkS (jEc j (L (m + 1)) [some (.ref k1), some (.ref k2), none, none] h) _
   refine jA4 (jBl (jAk (jAe rfl (jAg (jDe g2Q) ⟨true, rfl, ?_⟩))))
   refine jA4 (jBl (jCf (jA9 (jAk (jAe rfl (jAg (jDe g1) (jAk (jAe rfl (jAg (jDe g2Q) (jAg jGY ⟨false, rfl, ?_⟩))))))))))
   refine jA9 (jAk (jAe rfl (jAg (jDe g1) (jAk (jAe rfl (jAg (jDe g2Q) (jAg jGY ⟨false, rfl, jFy ?_⟩)))))))
   refine jAT (jBF (jA9 (jAk (jAe rfl (jAg (Sq.lst g1).len (jAk (jAe rfl (jAg (Sq.lst g2Q).len (jAg o_eqI ⟨true, ?_, ?_⟩)))))))))
   ·rw [eQ, decide_eq_true rfl]; rfl
   ·exact jGQ (fun i x y h1 g hxQ hy => call ((f i x y hxQ hy).gr g)) eQ l d1 d2 (Sq.lst g1) (Sq.lst g2Q) rfl rfl rfl fun h' g => ⟨rfl, g⟩
theorem jHR {j n m : Nat} (hj : Has L j ⟨2, 4, jEc j⟩) (hm : n ≤ m) (zQ : Sam h n x y) (k : ∀ h', Gr h h' → Q (.p (.bl true)) h') : OkE (jA8 (L (m + 1) j) [x, y] h) Q X :=
 (zQ.call hj fun zQ => same_run hj zQ m hm).weak fun v h' ⟨eQ, g⟩ => by rw [eQ]; exact k h' g
end
end Mi

namespace Mi
open PySem PySem.Spec L2
open PyProof.Rows hiding St
section
variable {L : Nat → Ph} {Φ Φ' : Ph} {σQ : Env} {h h1 h2 : EH} {a b cQ eQ : CE} {la : CL} {v x y d : D} {Q : VQ} {X : XQ} {q : PQ} {N B C : Env → EH → Prop} {R : VQ} {i : Int} {k k' : Nat} {xs ys : List D} {lo hi : CO}
def Tin (h : EH) (t n : Nat) : Prop := ∃ x y zQ : Int, h.get t = some (li [x, y, zQ]) ∧ 0 ≤ x ∧ (0 ≤ y ∧ y < 4611686018427387000) ∧ 0 ≤ zQ ∧ zQ ≤ n
theorem Tin.gr {t n : Nat} (zQ : Tin h t n) (g : Gr h h1) : Tin h1 t n := by
 obtain ⟨x, y, w, eQ, r⟩ := zQ
 exact ⟨x, y, w, g.k eQ, r⟩
theorem jC8 {jt n m t : Nat} {p q : CE} (ft : Φ jt = runT ⟨2, 6, jDx⟩ Φ') (ep : p Φ σQ h = .ok (.ref t) h) (eq : q Φ σQ h = .ok (.p (.int (.ofNat n))) h) (T : Tin h t m) (hm : m < 4000000000) (hn : 0 < n) (hs : n < 1000000000)
  (zQ : ∀ r h', r < n → Tin h' t (m + 1) → GrX t h h' → h'.n = h.n → Q (.p (.int (.ofNat r))) h') : OkE (jAs jt (jAb p (jAb q cNil)) Φ σQ h) Q X := by
 obtain ⟨x, y, w, g, hxQ, hy, hzQ, hz2⟩ := T
 obtain ⟨r, x', z', h1, h2, h3, h4, eQ⟩ := take1 (n := n) ft ep eq g hn hs hxQ hy ⟨hzQ, by omega⟩
 exact jDt eQ (zQ r _ h1 ⟨x', y, z', get_put g, h2, hy, h3, by omega⟩ (.put g) EH.put_n)
end
end Mi

namespace Mi
open PySem PySem.Spec L2
open PyProof.Rows hiding St
section
variable {L : Nat → Ph} {Φ Φ' : Ph} {σQ : Env} {h h1 h2 : EH} {a b cQ eQ : CE} {la : CL} {v x y d d1 d2 : D} {Q : VQ} {X : XQ} {q : PQ} {N B C : Env → EH → Prop} {R : VQ} {k k' : Nat} {xs ys : List D}
theorem Sh.ints {xs : List Int} : ∀ x ∈ upI xs, Sh x := fun x m => by
 rw [jBn] at m
 obtain ⟨i, _, rfl⟩ := List.mem_map.mp m
 exact Sh.int
theorem jEA (l : List Int) (i : Int) : upI l ++ [.p (.int i)] = upI (l ++ [i]) := by rw [jBn, jBn, List.map_append]; rfl
theorem jCV {own : List Nat} {i j : Nat} {xs ys : List Int} {f : Int → Int → Int} (ea : a Φ σQ h = .ok d1 h) (eb : b Φ σQ h = .ok d2 h) (z1 : Sq h d1 (upI xs)) (z2 : Sq h d2 (upI ys)) (len : xs.length ≤ 1000)
  (he : ∀ (x y : Int), x ∈ xs → y ∈ ys → eQ Φ (setN (setN (jBj own σQ) i (some (.p (.int x)))) j (some (.p (.int y)))) h = .ok (.p (.int (f x y))) h) (k : Q (.ref h.n) (h.nw (li (List.zipWith f xs ys)))) :
  OkE (jBi own (tTup (jAF (jAq i) (jAF (jAq j) tNil))) (iZip (jAb a (jAb b cNil))) (cC (.bl true)) eQ Φ σQ h) Q X := by
 refine jC9 (fun r acc h1 => h1 = h ∧ ∃ xs' ys', r = zipY (upI xs') (upI ys') ∧ acc ++ upI (List.zipWith f xs' ys') = upI (List.zipWith f xs ys) ∧ (∀ x ∈ xs', x ∈ xs) ∧ ∀ y ∈ ys', y ∈ ys) ?_
 refine jEO (jDt ea (jDt eb ⟨_, _, fun h' => h' = h, z1, z2, fun h' eQ => by rw [eQ]; exact ⟨z1, z2⟩, fun t nl yt => ⟨nl, _, _, yt, ?_, ⟨fun ⟨eQ, _⟩ => eQ, ?_, ?_⟩, rfl, xs, ys, rfl, rfl, fun _ m => m, fun _ m => m⟩⟩))
 ·rw [jCF, jBe]; omega
 ·rintro l r acc h1 ⟨rfl, xs', ys', e1, e2, m1, m2⟩
  match xs', ys', e1, e2, m1, m2 with
  | [], _, e1, _, _, _ => cases e1
  | _ :: _, [], e1, _, _, _ => cases e1
  | x :: xs', y :: ys', e1, e2, m1, m2 =>
   obtain ⟨rfl, rfl⟩ := List.cons.inj (show l :: r = [.p (.int x), .p (.int y)] :: zipY (upI xs') (upI ys') from e1)
   refine ⟨_, jGE Sh.int Sh.int, ok_c ⟨true, rfl, ?_⟩⟩
   refine jDt (he _ _ (m1 x List.mem_cons_self) (m2 y List.mem_cons_self)) ⟨rfl, xs', ys', rfl, ?_, fun x m => m1 x (List.mem_cons_of_mem _ m), fun y m => m2 y (List.mem_cons_of_mem _ m)⟩
   rw [List.append_assoc]; exact e2
 ·rintro acc h1 ⟨rfl, xs', ys', e1, e2, m1, m2⟩
  have : List.zipWith f xs' ys' = [] := by
   match xs', ys', e1 with
   | [], _, _ => rfl
   | _ :: _, [], _ => rfl
  rw [this] at e2
  have e2 : acc = upI (List.zipWith f xs ys) := (List.append_nil acc).symm.trans e2
  rw [e2]
  exact k
theorem jFS {own : List Nat} {i : Nat} {it : CI} {g : D → D} {xs : List D} (hi : ∀ {Q : It → EH → Prop}, (∀ t, NoLk t → ItY (fun h' => h' = h) (xs.map fun x => [x]) t → Q t h) → OkI (it Φ σQ h) Q X) (len : xs.length ≤ 1000)
  (he : ∀ x ∈ xs, eQ Φ (setN (jBj own σQ) i (some x)) h = .ok (g x) h) (k : Q (.ref h.n) (h.nw (.lst (xs.map g)))) :
  OkE (jBi own (jAq i) it (cC (.bl true)) eQ Φ σQ h) Q X := by
 refine jC9 (fun r acc h1 => h1 = h ∧ ∃ xs' : List D, r = xs'.map (fun x => [x]) ∧ acc ++ xs'.map g = xs.map g ∧ (∀ x ∈ xs', x ∈ xs)) ?_
 refine hi fun t nl yt => ⟨nl, _, _, yt, by rw [List.length_map]; omega, ⟨fun ⟨eQ, _⟩ => eQ, ?_, ?_⟩, rfl, xs, rfl, rfl, fun _ m => m⟩
 ·rintro l r acc h1 ⟨rfl, xs', e1, e2, m1⟩
  match xs', e1, e2, m1 with
  | [], e1, _, _ => cases e1
  | x :: xs', e1, e2, m1 =>
   obtain ⟨rfl, rfl⟩ := List.cons.inj (show l :: r = [x] :: xs'.map (fun x => [x]) from e1)
   refine ⟨_, jDD, ok_c ⟨true, rfl, ?_⟩⟩
   refine jDt (he _ (m1 x List.mem_cons_self)) ⟨rfl, xs', rfl, ?_, fun x m => m1 x (List.mem_cons_of_mem _ m)⟩
   rw [List.append_assoc]; exact e2
 ·rintro acc h1 ⟨rfl, xs', e1, e2, m1⟩
  have : xs' = [] := by
   match xs', e1 with
   | [], _ => rfl
  rw [this, List.map_nil, List.append_nil] at e2
  rw [e2]
  exact k
theorem jI6 (t : Tr) (n0 : Nat) : ∀ (n m : Nat) (h : EH), Gr h (impA t n0 n m h) ∧ ∀ i, i < n → (impA t n0 n m h).get (i + h.n) = some (shO n0 (tgd t (m + i)))
 | 0, m, h => ⟨.refl, fun i lt => absurd lt (Nat.not_lt_zero _)⟩
 | n + 1, m, h => by
  rw [impA_s]
  obtain ⟨g, f⟩ := jI6 t n0 n (m + 1) (h.nw (shO n0 (tgd t m)))
  refine ⟨Gr.nw.trans g, fun i lt => ?_⟩
  cases i with
  | zero => rw [Nat.zero_add]; exact g.k jAr
  | succ i =>
   have := f i (Nat.lt_of_succ_lt_succ lt)
   rw [EH.nw_n] at this
   rw [show i + 1 + h.n = i + Nat.succ h.n by omega, show m + (i + 1) = m + 1 + i by omega]
   exact this
theorem tgd_get {h : EH} {k : Nat} {o : O} (g : h.get k = some o) : tgd h.t k = o := by
 have := jCB (jB7 g)
 rw [g] at this
 unfold tgd
 rw [← this]
theorem callW {g : Fn} {l : List D} (eQ : jB2 l = true) (k : OkE (runF g Φ l e0) (fun v h' => ∃ j o, v = .ref j ∧ h'.get j = some o ∧ lone o = false ∧ ∀ h'', Gr h h'' → (∀ i o, h'.get i = some o → h''.get (i + h.n) = some (shO h.n o)) → Q (.ref (j + h.n)) h'') (fun cQ x _ => X cQ x h)) : OkE (jA8 (runT g Φ) l h) Q X := by
 unfold jA8
 rw [eQ]
 have zQ : jFi l e0 = true := eQ
 show OkE (RE.rec (motive := fun _ => RE) (fun v h' => impD v h' h) (fun cQ x _ => .ex cQ x h) .bad (runT g Φ l e0)) Q X
 unfold runT
 rw [zQ]
 show OkE (RE.rec (motive := fun _ => RE) (fun v h' => impD v h' h) (fun cQ x _ => .ex cQ x h) .bad (jEB (runF g Φ l e0))) Q X
 cases w : runF g Φ l e0 with
 | bad => rw [w] at k; exact k
 | ex cQ x h' => rw [w] at k; exact k
 | ok v h' =>
  rw [w] at k
  obtain ⟨j, o, rfl, g1, g2Q, k⟩ := k
  have la : ∀ {α : Type} (y : O → α) (n : α), jBh h' j y n = n := fun y n => by
   unfold jBh
   rw [g1]
   show Bool.rec (motive := fun _ => _) n (y o) (lone o) = _
   rw [g2Q]
  have t1 : jEB (.ok (.ref j) h') = .ok (.ref j) h' := la _ _
  rw [t1]
  show OkE (jBh h' j (fun o => h.new o fun k h => RE.ok (.ref k) h) (jDs (.ref j) h' h)) Q X
  rw [la]
  have ew : jDs (.ref j) h' h = .ok (.ref (j + h.n)) (impA h'.t h.n h'.n 0 h) := by
   obtain ⟨n', t'⟩ := h'
   obtain ⟨n0, t0⟩ := h
   rfl
  rw [ew]
  obtain ⟨gr, f⟩ := jI6 h'.t h.n h'.n 0 h
  refine k _ gr fun i o gi => ?_
  rw [f i (jB7 gi), Nat.zero_add, tgd_get gi]
end
end Mi

namespace Mi
open PySem PySem.Spec L2
open PyProof.Rows hiding St
def comb (p f : Int) (xs ys : List Int) : List Int := List.zipWith (fun x y => Int.fmod (x + f * y) p) xs ys
def mixF (p : Int) : List Int → List (List Int) → List Int → List Int
 | acc, r :: rs, f :: fs => mixF p (comb p f acc r) rs fs
 | acc, _, _ => acc
def dotF (p : Int) (xs ys : List Int) : Int := Int.fmod (List.zipWith (fun x y => x * y) xs ys).sum p
def mixL (p : Int) (rs : List (List Int)) (fs : List Int) (w : Nat) : List Int := mixF p (List.replicate w 0) rs fs
inductive Two {α β : Type} (R : α → β → Prop) : List α → List β → Prop
 | nil : Two R [] []
 | cons {a : α} {b : β} {l : List α} {m : List β} : R a b → Two R l m → Two R (a :: l) (b :: m)
theorem Two.length {α β : Type} {R : α → β → Prop} {l : List α} {m : List β} (t : Two R l m) : l.length = m.length := by
 induction t with
 | nil => rfl
 | cons _ _ ih =>
    rw [List.length_cons, List.length_cons, ih]
theorem Two.imp {α β : Type} {R S : α → β → Prop} {l : List α} {m : List β} (t : Two R l m) (k : ∀ a b, R a b → S a b) : Two S l m := by
 induction t with
 | nil => exact .nil
 | cons h _ ih => exact .cons (k _ _ h) ih
theorem Two.snoc {α β : Type} {R : α → β → Prop} {l : List α} {m : List β} {a : α} {b : β} (t : Two R l m) (r : R a b) : Two R (l ++ [a]) (m ++ [b]) := by
 induction t with
 | nil => exact .cons r .nil
 | cons h _ ih => exact .cons h ih
theorem Two.at {α β : Type} {R : α → β → Prop} {l : List α} {m : List β} (t : Two R l m) : ∀ (i : Nat) (a : α) (b : β), l[i]? = some a → m[i]? = some b → R a b := by
 induction t with
 | nil => intro i a b eQ; simp at eQ
 | cons h _ ih =>
  intro i a b e1 e2
  cases i with
  | zero => simp at e1 e2; rw [← e1, ← e2]; exact h
  | succ i => exact ih i a b (by simpa using e1) (by simpa using e2)
def RowsD (d : D) (rs : List (List Int)) : Prop := ∃ n l, d = .p (.tup n l) ∧ unf n ≤ 3 ∧ Two (fun x r => RowD (.p x) r) l rs
theorem jD6 {p f : Int} {xs ys : List Int} : (comb p f xs ys).length = min xs.length ys.length := List.length_zipWith
section
variable {L : Nat → Ph} {Φ Φ' : Ph} {σQ : Env} {h h1 h2 : EH} {a b cQ eQ : CE} {la : CL} {v x y d d1 d2 : D} {Q : VQ} {X : XQ} {q : PQ} {N B C : Env → EH → Prop} {R : VQ} {k k' : Nat} {xs ys : List Int} {p f : Int}
theorem RowD.pure (zQ : RowD d xs) : ∃ x, d = .p x := by
 obtain ⟨n, rfl, _⟩ := zQ
 exact ⟨_, rfl⟩
theorem iSm_f (hf : 0 ≤ f ∧ f < 1000) : iSm f n64 = true := jE4 (by show f.natAbs < 18446744073709551616; omega)
theorem o_mulI (hf : 0 ≤ f ∧ f < 1000) {j : Int} : jAM h (.p (.int f)) (.p (.int j)) = .val (.p (.int (f * j))) := jES (by rw [iSm_f hf, Bool.true_or])
theorem jIg {i j : Int} (hf : 0 ≤ i ∧ i < 1000) : jAM h (.p (.int i)) (.p (.int j)) = .val (.p (.int (i * j))) := jES (by rw [iSm_f hf, Bool.true_or])
theorem jFw {j n : Nat} (hj : Has L j ⟨4, 6, bPlus⟩) (z1 : RowD d1 xs) (z2 : RowD d2 ys) (hpQ : p ≠ 0) (hf : 0 ≤ f ∧ f < 1000) (len : xs.length ≤ 1000) (k : Q (tI 101 (comb p f xs ys)) h) :
  OkE (jA8 (L (n + 1) j) [.p (.int p), d1, d2, .p (.int f)] h) Q X := by
 refine hj.call ?_
 obtain ⟨x1, rfl⟩ := z1.pure
 obtain ⟨x2, rfl⟩ := z2.pure
 refine jFe rfl (jAQ rfl ?_)
 show OkS (bPlus (L n) [some (.p (.int p)), some (.p x1), some (.p x2), some (.p (.int f)), none, none] e0) _
 refine jAT (jAk (jCV (f := fun x y => Int.fmod (x + f * y) p) (jAl rfl) (jAl rfl) z1.sq z2.sq len (fun x y _ _ => ?_) ?_))
 ·exact jAE (jC4 (jAE (jAl rfl) (jAE (jAl rfl) (jAl rfl) (o_mulI hf)) jCA) jEj) (jAl rfl) (jDu hpQ)
 ·refine jAg (o_tupI ?_ jAr) ⟨_, rfl, k⟩
  have := jD6 (p := p) (f := f) (xs := xs) (ys := ys)
  show (comb p f xs ys).length ≤ _
  omega
theorem jH1 {j n : Nat} (hj : Has L j ⟨3, 5, bTimes⟩) (z1 : RowD d1 xs) (z2 : RowD d2 ys) (hpQ : p ≠ 0) (hxQ : ∀ x ∈ xs, 0 ≤ x ∧ x < 1000) (len : xs.length ≤ 1000) (k : Q (.p (.int (dotF p xs ys))) h) :
  OkE (jA8 (L (n + 1) j) [.p (.int p), d1, d2] h) Q X := by
 refine hj.call ?_
 obtain ⟨x1, rfl⟩ := z1.pure
 obtain ⟨x2, rfl⟩ := z2.pure
 refine jFe rfl (jAQ rfl ?_)
 show OkS (bTimes (L n) [some (.p (.int p)), some (.p x1), some (.p x2), none, none] e0) _
 refine jAT (jA9 (jAk (jAk (jCV (f := fun x y => x * y) (jAl rfl) (jAl rfl) z1.sq z2.sq len (fun x y hx' _ => ?_) ?_))))
 ·exact jAE (jAl rfl) (jAl rfl) (jIg (hxQ x hx'))
 ·exact jAg (o_sum jAr) (jAg jEj (jAe rfl (jAg (jDu hpQ) ⟨_, rfl, k⟩)))
theorem jHf : mkTc [.p (.int 0)] = .val (tI 101 [0]) := rfl
theorem jH7 {j jp n w : Nat} {rs : List (List Int)} {fs : List Int} (hj : Has L j ⟨4, 7, bMixed jp⟩) (hjp : Has L jp ⟨4, 6, bPlus⟩) (z1 : RowsD d1 rs) (z2 : RowD d2 fs) (hpQ : p ≠ 0) (hf : ∀ f ∈ fs, 0 ≤ f ∧ f < 1000) (hw : w ≤ 1000) (lr : rs.length ≤ 1000)
  (k : ∀ d, RowD d (mixL p rs fs w) → Q d h) : OkE (jA8 (L (n + 2) j) [.p (.int p), d1, d2, .p (.int (.ofNat w))] h) Q X := by
 refine hj.call ?_
 obtain ⟨m, l, rfl, _, t⟩ := z1
 obtain ⟨x2, rfl⟩ := z2.pure
 refine jFe rfl (jAQ rfl ?_)
 show OkS (bMixed jp (L (n + 1)) [some (.p (.int p)), some (.p (.tup m l)), some (.p x2), some (.p (.int (.ofNat w))), none, none, none] e0) _
 refine jA4 (jBa (jA9 (jFx (jAf (ok_c (jAz ⟨_, jHf, jAe rfl ?_⟩))))))
 obtain ⟨m', eQ, hm'⟩ := o_mulT (h := e0) (n := w) (m := 101) (i := 0) hw rfl
 refine jAg eQ ?_
 show OkS (sSeq _ _ (L (n + 1)) [some (.p (.int p)), some (.p (.tup m l)), some (.p x2), some (.p (.int (.ofNat w))), some (tI m' (List.replicate w 0)), none, none] e0) _
 refine jA4 (jEQ (fun r σQ h1 => h1 = e0 ∧ ∃ l' rs' fs' acc da b5 b6, r = zipY (upP l') (upI fs') ∧ Two (fun x r => RowD (.p x) r) l' rs' ∧ (∀ f ∈ fs', f ∈ fs) ∧ σQ = [some (.p (.int p)), some (.p (.tup m l)), some (.p x2), some (.p (.int (.ofNat w))), some da, b5, b6] ∧ RowD da acc ∧ acc.length ≤ 1000 ∧ mixF p acc rs' fs' = mixL p rs fs w) ?_)
 refine jEO (jAe rfl (jAe rfl ⟨_, _, fun h' => h' = e0, Sq.tup, z2.sq, fun h' eQ => ⟨Sq.tup, z2.sq⟩, fun t' nl yt => ⟨nl, _, _, yt, ?_, ⟨fun ⟨eQ, _⟩ => eQ, ?_, ?_⟩, rfl, l, rs, fs, List.replicate w 0, _, none, none, rfl, t, fun _ m => m, rfl, ⟨m', rfl, hm'⟩, by rw [List.length_replicate]; exact hw, rfl⟩⟩))
 ·rw [jCF, jBd, t.length]; omega
 ·rintro it r σQ h1 ⟨rfl, l', rs', fs', acc, da, b5, b6, e1, t', mf, rfl, za, la, em⟩
  match l', rs', fs', e1, t', mf, em with
  | [], _, _, e1, _, _, _ => cases e1
  | _ :: _, _, [], e1, _, _, _ => cases e1
  | x :: l', r' :: rs', f :: fs', e1, .cons hxQ t', mf, em =>
   obtain ⟨rfl, rfl⟩ := List.cons.inj (show it :: r = [.p x, .p (.int f)] :: zipY (upP l') (upI fs') from e1)
   refine ⟨_, jGE (Sh.row hxQ) Sh.int, jBa (jAA (jAf (jAe rfl (jAf (jAe rfl (jAf (jAe rfl (jAf (jAe rfl (jAz ?_))))))))))⟩
   refine jFw hjp za hxQ hpQ (hf f (mf f List.mem_cons_self)) la ⟨rfl, l', rs', fs', comb p f acc r', _, _, _, rfl, t', fun g m => mf g (List.mem_cons_of_mem _ m), rfl, .t101, ?_, em⟩
   rw [jD6]; omega
 ·rintro σQ h1 ⟨rfl, l', rs', fs', acc, da, b5, b6, e1, t', mf, rfl, za, la, em⟩
  obtain ⟨xa, rfl⟩ := za.pure
  refine jAT (jAe rfl ⟨xa, rfl, k _ ?_⟩)
  have : mixF p acc rs' fs' = acc := by
   match l', rs', fs', e1, t' with
   | [], _, fs', _, .nil => cases fs' <;> rfl
   | _ :: _, _ :: _, [], _, _ => rfl
  rw [← em, this]
  exact za
end
end Mi

namespace Mi
open PySem PySem.Spec L2
open PyProof.Rows hiding St
theorem c_t {a b : Prop} (k : a) : bif true then a else b := k
theorem c_f {a b : Prop} (k : b) : bif false then a else b := k
section
variable {L : Nat → Ph} {Φ Φ' : Ph} {σQ : Env} {h h1 h2 : EH} {a b cQ eQ : CE} {la : CL} {v x y d d1 d2 : D} {Q : VQ} {X : XQ} {k k' : Nat} {n : Nat}
theorem okE_t {a b : RE} (k : OkE a Q X) : OkE (bif true then a else b) Q X := k
theorem okE_f {a b : RE} (k : OkE b Q X) : OkE (bif false then a else b) Q X := k
theorem okS_t {a b : RS} {q : PQ} (k : OkS a q) : OkS (bif true then a else b) q := k
theorem okS_f {a b : RS} {q : PQ} (k : OkS b q) : OkS (bif false then a else b) q := k
theorem GrX.put' {t kk : Nat} {o o1 : O} (g : GrX t h h1) (eQ : h1.get kk = some o) (le : h.n ≤ kk) : GrX t h (h1.put kk o1) := ⟨by rw [EH.put_n]; exact g.n, fun {i o'} zQ w => by
 have lt := jB7 w
 exact jBb eQ (g.k zQ w) (by omega)⟩
theorem GrX.nw {t : Nat} {o : O} (g : GrX t h h1) : GrX t h (h1.nw o) := g.trans (Gr.nw).toX
theorem Tin.put {t m kk : Nat} {o o1 : O} (T : Tin h t m) (eQ : h.get kk = some o) (ne : kk ≠ t) : Tin (h.put kk o1) t m := by
 obtain ⟨x, y, zQ, g, r⟩ := T
 exact ⟨x, y, zQ, jBb eQ g (Ne.symm ne), r⟩
theorem Tin.le {t m m' : Nat} (T : Tin h t m) (le : m ≤ m') : Tin h t m' := by
 obtain ⟨x, y, zQ, g, r1, r2, r3, r4⟩ := T
 exact ⟨x, y, zQ, g, r1, r2, r3, by omega⟩
theorem jGk {j jt t m kg : Nat} {gs : List D} (hj : Has L j ⟨2, 2, bOf jt⟩) (ht : Has L jt ⟨2, 6, jDx⟩) (T : Tin h t m) (hm : m < 4000000000) (g : h.get kg = some (.lst gs)) (hne : 0 < gs.length) (hl : gs.length < 1000000) (ne : kg ≠ t)
  (k : ∀ (r : Nat) (v : D) (h' : EH), gs[r]? = some v → Tin h' t (m + 1) → GrX t h h' → h'.n = h.n → Q v h') : OkE (jA8 (L (n + 2) j) [.ref t, .ref kg] h) Q X := by
 refine hj.call (callR rfl (jAQ rfl ?_))
 show OkS (bOf jt (L (n + 1)) [some (.ref t), some (.ref kg)] h) _
 refine jAT (jA9 (jAe rfl ?_))
 refine jC8 (ht n) (jAl rfl) (jC4 (jAl rfl) (o_len g)) T hm hne (by omega) fun r h' hr T' G n' => ?_
 have eQ : gs[r]? = some gs[r] := List.getElem?_eq_getElem hr
 exact jAg (o_ixS (G.k ne g) eQ) (k r _ h' eQ T' G n')
theorem jDX {jt t m w p i : Nat} {own : List Nat} (ht : Has L jt ⟨2, 6, jDx⟩) (ea : ∀ h v, a (L (n + 1)) (setN (jBj own σQ) i (some v)) h = .ok (.ref t) h) (eb : ∀ h v, b (L (n + 1)) (setN (jBj own σQ) i (some v)) h = .ok (.p (.int (.ofNat p))) h) (ec : cQ (L (n + 1)) σQ h = .ok (.p (.int (.ofNat w))) h)
  (T : Tin h t m) (hm : m + w < 4000000000) (hpQ : 0 < p ∧ p < 1000) (hw : w ≤ 1000)
  (k : ∀ (xs : List Int) h', xs.length = w → (∀ x ∈ xs, 0 ≤ x ∧ x < p) → Tin h' t (m + w) → GrX t h h' → Q (tI 101 xs) h') :
  OkE (cOp1 oTup (jBi own (jAq i) (jEm (jAb cQ cNil)) (cC (.bl true)) (jAs jt (jAb a (jAb b cNil)))) (L (n + 1)) σQ h) Q X := by
 refine jAk ?_
 refine jC9 (fun r acc h1 => ∃ (xs : List Int) (j : Int) (q : Nat), r = (rngL j q).map (fun x => [x]) ∧ acc = upI xs ∧ xs.length + q = w ∧ (∀ x ∈ xs, 0 ≤ x ∧ x < p) ∧ Tin h1 t (m + xs.length) ∧ GrX t h h1) ?_
 refine jEP (jDt ec ⟨w, rfl, by omega, fun t' nl yt => ⟨nl, _, _, yt, by rw [List.length_map, jEF]; omega, ⟨fun _ => trivial, ?_, ?_⟩, [], 0, w, rfl, rfl, Nat.zero_add _, (fun _ m => nomatch m), T, .refl⟩⟩)
 ·rintro it r acc h1 ⟨xs, j, q, e1, rfl, e2, hxQ, T1, G1⟩
  cases q with
  | zero => cases e1
  | succ q =>
   obtain ⟨rfl, rfl⟩ := List.cons.inj (show it :: r = [.p (.int j)] :: (rngL (j + 1) q).map (fun x => [x]) from e1)
   refine ⟨_, jDD, ok_c ⟨true, rfl, ?_⟩⟩
   refine c_t (jC8 (ht n) (ea _ _) (eb _ _) T1 (by omega) hpQ.1 (by omega) fun r' h' hr T' G _ => ⟨xs ++ [.ofNat r'], j + 1, q, rfl, jEA _ _, by rw [List.length_append, List.length_singleton]; omega, ?_, ?_, G1.trans G⟩)
   ·intro x mx
    rcases List.mem_append.mp mx with mx | mx
    ·exact hxQ x mx
    ·rw [List.mem_singleton.mp mx]
     simp only [Int.ofNat_eq_natCast]
     omega
   ·rw [List.length_append, List.length_singleton]; exact T'
 ·rintro acc h1 ⟨xs, j, q, e1, rfl, e2, hxQ, T1, G1⟩
  cases q with
  | succ q => cases e1
  | zero =>
   refine jAg (o_tupI (by omega) jAr) (k xs _ (by omega) hxQ ?_ G1.nw)
   have eQ : xs.length = w := by omega
   rw [eQ] at T1
   exact T1.gr .nw
theorem tS3 {i j l dd : Nat} {x1 x2 x3 : P} : (tTup (jAF (jAq i) (jAF (jAq j) (jAF (jAq l) tNil)))) (.p (.tup dd [x1, x2, x3])) σQ = some (setN (setN (setN σQ i (some (.p x1))) j (some (.p x2))) l (some (.p x3))) := by
 show Option.rec (motive := fun _ => Option Env) none (fun σQ => Option.rec (motive := fun _ => Option Env) none (fun σQ => Option.rec (motive := fun _ => Option Env) none (fun σQ => some σQ) (fD (.p x3) fun v => some (setN σQ l (some v)))) (fD (.p x2) fun v => some (setN σQ j (some v)))) (fD (.p x1) fun v => some (setN σQ i (some v))) = _
 rw [jBs]
 show Option.rec (motive := fun _ => Option Env) none (fun σQ => Option.rec (motive := fun _ => Option Env) none (fun σQ => some σQ) (fD (.p x3) fun v => some (setN σQ l (some v)))) (fD (.p x2) fun v => some (setN _ j (some v))) = _
 rw [jBs]
 show Option.rec (motive := fun _ => Option Env) none (fun σQ => some σQ) (fD (.p x3) fun v => some (setN _ l (some v))) = _
 rw [jBs]
theorem ok_putA {o i : CE} {N B C : Env → EH → Prop} {R : VQ} (zQ : OkE (eQ Φ σQ h) (fun v h => OkE (o Φ σQ h) (fun x h => ∃ kk, x = .ref kk ∧ OkE (i Φ σQ h) (fun y h => ∃ (j : Nat) (xs : List D), y = .p (.int (.ofNat j)) ∧ h.get kk = some (.lst xs) ∧ j < xs.length ∧ N σQ (h.put kk (.lst (xs.set j v)))) X) X) X) : OkS (jDO o i eQ Φ σQ h) ⟨N, R, B, C, X⟩ := by
 refine jCi (zQ.imp fun v h zQ => ?_)
 show OkS (fD v fun v => bES σQ (o Φ σQ h) fun o h => bES σQ (i Φ σQ h) fun i h => putD h o i v (fun h => .nx σQ h) .bad) _
 rw [jBs]
 refine jCi (zQ.imp fun x h ⟨kk, ex, zQ⟩ => jCi (zQ.imp fun y h ⟨j, xs, ey, g, lt, w⟩ => ?_))
 subst ex; subst ey
 show OkS (jBH h kk _ (setD h (.ref kk) (.p (.int (.ofNat j))) v (fun h => .nx σQ h) .bad)) _
 rw [jBG g]
 show OkS (jAw h kk _ _) _
 rw [jAo g]
 have ei : ixD xs (Int.ofNat j) = some j := by
  unfold ixD
  rw [jA7, jAx]
  show Bool.rec (motive := fun _ => Option Nat) none (some j) (Nat.blt j xs.length) = _
  rw [show Nat.blt j xs.length = true from Nat.ble_eq_true_of_le lt]
 show OkS (Option.rec (motive := fun _ => RS) .bad (fun m => .nx σQ (h.put kk (.lst (setN xs m v)))) (ixD xs (Int.ofNat j))) _
 rw [ei]
 show N σQ (h.put kk (.lst (setN xs j v)))
 rw [jBC]
 exact w
theorem Sam.row {xs : List Int} (z1 : RowD d1 xs) (z2 : RowD d2 xs) (len : xs.length ≤ 1000) : Sam h (n + 1) d1 d2 := by
 obtain ⟨m1, rfl, _⟩ := z1
 obtain ⟨m2, rfl, _⟩ := z2
 refine .tup rfl (by rw [List.length_map]; exact len) (fun x m => ?_) (fun x m => ?_) fun i x y h1 h2 => ?_
 ·obtain ⟨j, _, rfl⟩ := List.mem_map.mp m
  exact Nat.zero_le _
 ·obtain ⟨j, _, rfl⟩ := List.mem_map.mp m
  exact Nat.zero_le _
 ·rw [h1] at h2
  cases h2
  rw [List.getElem?_map] at h1
  obtain ⟨j, _, rfl⟩ := Option.map_eq_some_iff.mp h1
  exact .int j
theorem GrX.toGr {t : Nat} {h0 : EH} (a : Gr h0 h) (g : GrX t h h1) (le : h0.n ≤ t) : Gr h0 h1 := ⟨Nat.le_trans a.n g.n, fun {i o} eQ => by
 have lt := jB7 eQ
 exact g.k (by omega) (a.k eQ)⟩
end
end Mi

namespace Mi
open PySem PySem.Spec L2
open PyProof.Rows hiding St
theorem true_E {r : RE} (eQ : jFs r = true) : ∃ h, r = .ok (.p (.bl true)) h := by
 cases r with
 | ex cQ x h => cases eQ
 | bad => cases eQ
 | ok v h =>
  cases v with
  | ref k => cases eQ
  | mt l => cases eQ
  | p p =>
   cases p with
   | bl b =>
    have eQ : b = true := eQ
    rw [eQ]; exact ⟨h, rfl⟩
   | _ => cases eQ
theorem call_yes {φ : List D → EH → RE} {l : List D} {h : EH} (eQ : jB2 l = true) (zQ : jFs (φ l e0) = true) : jA8 φ l h = .ok (.p (.bl true)) h := by
 obtain ⟨h', zQ⟩ := true_E zQ
 unfold jA8
 rw [eQ]
 show RE.rec (motive := fun _ => RE) _ _ _ (φ l e0) = _
 rw [zQ]; rfl
section
variable {L : Nat → Ph} {σQ : Env} {h : EH} {Q : VQ} {X : XQ}
theorem jHE {jc m n : Nat} {ns : List Int} (hj : Has L jc ⟨2, 6, jDq ns⟩) (hm : 0 < m) (hl : ns.length ≤ 63) (k : ∀ cs, 1 ≤ cs.length → cs.length ≤ m → Q (.ref h.n) (h.nw (li cs))) :
  OkE (jA8 (L (n + 1) jc) [.p (.fn 999), .p (.int (.ofNat m))] h) Q X := by
 obtain ⟨cs, j, h', l1, l2, e1, e2⟩ := jHr (Φ := L n) (m := m) hm hl
 refine jDt (jIT rfl (by rw [hj n]; exact jHT rfl e1 e2) (jAr (h := e0))) (k cs l1 l2)
theorem box_call {jb t i cQ n : Nat} {cs : List Int} (hj : Has L jb ⟨2, 3, bBox cQ⟩) (g : h.get t = some (li cs)) (hi : i < 1000000) (hc : cQ < 1000000000) (k : ∀ h', Gr h h' → Tin h' h.n 0 → Q (.ref h.n) h') :
  OkE (jA8 (L (n + 1) jb) [.ref t, .p (.int (.ofNat i))] h) Q X := by
 obtain ⟨x, y, hxQ, hy, hy2, eQ⟩ := box_ok (Φ := L n) (m := cQ) g hi hc
 refine jDt (jFd rfl (by rw [hj n, jEE rfl]; exact eQ)) (k _ .nw ⟨x, y, 0, jAr, hxQ, ⟨hy, hy2⟩, by decide, by decide⟩)
theorem jIY {jr jb t cQ n : Nat} {cs : List Int} {own : List Nat} {i v1 : Nat} (hb : Has L jb ⟨2, 3, bBox cQ⟩) (hc : cQ < 1000000000) (g : h.get t = some (li cs)) (lc : cs.length ≤ 1000)
  (right : ∀ (h1 : EH) (kb : Nat), Tin h1 kb 0 → OkE (jA8 (L (n + 1) jr) [.ref kb] h1) (fun v h' => v = .p (.bl true) ∧ GrX kb h1 h') nX)
  (e1 : nth σQ v1 = some (some (.ref t))) (w1 : ∀ v, nth (setN (jBj own σQ) i (some v)) v1 = some (some (.ref t))) (wi : ∀ v, nth (setN (jBj own σQ) i (some v)) i = some (some v)) (k : ∀ h', Q (.p (.bl true)) h') :
  OkE (cOp1 jFz (jBi own (jAq i) (jEm (jAb (cOp1 jBP (cVar v1)) cNil)) (cC (.bl true)) (jAs jr (jAb (jAs jb (jAb (cVar v1) (jAb (cVar i) cNil))) cNil))) (L (n + 1)) σQ h) Q X := by
 refine jAk (jC9 (fun r acc h1 => ∃ (j q : Nat), r = (rngL (.ofNat j) q).map (fun x => [x]) ∧ acc = upB (List.replicate j true) ∧ j + q = cs.length ∧ Gr h h1) ?_)
 refine jEP (jAk (jAe e1 (jAg (o_len g) ⟨cs.length, by rw [jBe]; rfl, by omega, fun t' nl yt => ⟨nl, _, _, yt, by rw [List.length_map, jEF]; omega, ⟨fun _ => trivial, ?_, ?_⟩, 0, cs.length, rfl, rfl, Nat.zero_add _, .refl⟩⟩)))
 ·rintro it r acc h1 ⟨j, q, e2, rfl, e3, G⟩
  cases q with
  | zero => cases e2
  | succ q =>
   obtain ⟨rfl, rfl⟩ := List.cons.inj (show it :: r = [.p (.int (.ofNat j))] :: (rngL (.ofNat (j + 1)) q).map (fun x => [x]) from e2)
   refine ⟨_, jDD, ok_c ⟨true, rfl, ?_⟩⟩
   refine c_t (jAA (jAf (jAA (jAf (jAe (w1 _) (jAf (jAe (wi _) (jAz ?_))))))))
   refine box_call hb (G.k g) (by omega) hc fun h2 G2 T2 => jAz ?_
   refine (right h2 h1.n T2).imp fun v h3 ⟨ev, G3⟩ => ⟨j + 1, q, rfl, ?_, by omega, ?_⟩
   ·rw [ev]
    show (List.replicate j true).map _ ++ [D.p (.bl true)] = (List.replicate (j + 1) true).map _
    rw [List.replicate_succ', List.map_append]; rfl
   ·exact GrX.toGr (G.trans G2) G3 G.n
 ·rintro acc h1 ⟨j, q, e2, rfl, e3, G⟩
  refine jAg (o_all jAr) ?_
  have : (List.replicate j true).all id = true := by
   rw [List.all_eq_true]
   intro b hb
   rw [(List.mem_replicate.mp hb).2]; rfl
  rw [this]
  exact k _
end
end Mi

namespace Mi
open PySem PySem.Spec L2
open PyProof.Rows hiding St
section
variable {Φ Φ' : Ph} {σQ : Env} {h h1 h2 : EH} {a b cQ eQ : CE} {la : CL} {v x y d d1 d2 : D} {Q : VQ} {X : XQ} {k k' : Nat} {xs ys : List Int} {p f : Int} {ns : List Int} {n : Nat}
theorem hs {j : Nat} {g : Fn} (eQ : tab ns j = some g) : Has (lev (tab ns)) j g := has_lev eQ
theorem jFt {w : Nat} {dsQ : List D} {rs : List (List Int)} {fs : List Int} (z1 : Sq h d1 dsQ) (t : Two (fun d r => Sq h d (upI r) ∧ Sh d) dsQ rs) (z2 : Sq h d2 (upI fs)) (hpQ : p ≠ 0) (hf : ∀ f ∈ fs, 0 ≤ f ∧ f < 1000) (hw : w ≤ 1000) (lr : rs.length ≤ 1000) :
  OkE (runF ⟨4, 9, b_row_by⟩ Φ [.p (.int p), d1, d2, .p (.int (.ofNat w))] h) (fun v h' => v = tI 101 (mixL p rs fs w) ∧ Gr h h') nX := by
 refine jAQ rfl ?_
 show OkS (b_row_by Φ [some (.p (.int p)), some d1, some d2, some (.p (.int (.ofNat w))), none, none, none, none, none] h) _
 unfold b_row_by
 refine jA4 (jBa (jA9 (jCh (jAf (ok_c (jAz ⟨rfl, jAe rfl ?_⟩))))))
 refine jCQ (o_mulL (by omega) jAr) ?_
 show OkS (sSeq _ _ Φ [some (.p (.int p)), some d1, some d2, some (.p (.int (.ofNat w))), some (.ref (h.nw (.lst [.p (.int (.ofNat 0))])).n), none, none, none, none] _) _
 have e0 : (O.lst (List.replicate w (D.p (.int (.ofNat 0))))) = li (List.replicate w 0) := by
  show O.lst _ = O.lst _
  rw [jBn, List.map_replicate]; rfl
 rw [e0]
 refine jA4 (jEQ (fun r σQ h1 => Gr h h1 ∧ ∃ ds' rs' fs' acc ka b5 b6 b7 b8, r = zipY ds' (upI fs') ∧ Two (fun d r => Sq h d (upI r) ∧ Sh d) ds' rs' ∧ (∀ f ∈ fs', f ∈ fs) ∧ σQ = [some (.p (.int p)), some d1, some d2, some (.p (.int (.ofNat w))), some (.ref ka), b5, b6, b7, b8] ∧ h1.get ka = some (li acc) ∧ acc.length ≤ 1000 ∧ mixF p acc rs' fs' = mixL p rs fs w) ?_)
 refine jEO (jAe rfl (jAe rfl ⟨_, _, fun h' => Gr h h', z1.gr (Gr.nw.trans .nw), z2.gr (Gr.nw.trans .nw), fun h' g => ⟨z1.gr g, z2.gr g⟩, fun t' nl yt => ⟨nl, _, _, yt, ?_, ⟨fun ⟨eQ, _⟩ => eQ, ?_, ?_⟩, Gr.nw.trans .nw, dsQ, rs, fs, List.replicate w 0, _, none, none, none, none, rfl, t, fun _ m => m, rfl, jAr, by rw [List.length_replicate]; exact hw, rfl⟩⟩))
 ·rw [jCF, t.length]; omega
 ·rintro it r σQ h1 ⟨gr, ds', rs', fs', acc, ka, b5, b6, b7, b8, e1, t', mf, rfl, ga, la, em⟩
  match ds', rs', fs', e1, t', mf, em with
  | [], _, _, e1, _, _, _ => cases e1
  | _ :: _, _, [], e1, _, _, _ => cases e1
  | x :: ds', r' :: rs', f :: fs', e1, .cons hxQ t', mf, em =>
   obtain ⟨rfl, rfl⟩ := List.cons.inj (show it :: r = [x, .p (.int f)] :: zipY ds' (upI fs') from e1)
   refine ⟨_, jGE hxQ.2 Sh.int, jBa (jCV (f := fun x y => Int.fmod (x + f * y) p) (jAl rfl) (jAl rfl) (Sq.lst ga) (hxQ.1.gr gr) la (fun x y _ _ => ?_) ?_)⟩
   ·exact jAE (jAE (jAl rfl) (jAE (jAl rfl) (jAl rfl) (o_mulI (hf f (mf f List.mem_cons_self)))) jCA) (jAl rfl) (jDu hpQ)
   ·refine ⟨gr.nwT, ds', rs', fs', comb p f acc r', _, _, _, _, _, rfl, t', fun g m => mf g (List.mem_cons_of_mem _ m), rfl, jAr, ?_, em⟩
    rw [jD6]; omega
 ·rintro σQ h1 ⟨gr, ds', rs', fs', acc, ka, b5, b6, b7, b8, e1, t', mf, rfl, ga, la, em⟩
  have : mixF p acc rs' fs' = acc := by
   match ds', rs', fs', e1, t' with
   | [], _, fs', _, .nil => cases fs' <;> rfl
   | _ :: _, _ :: _, [], _, _ => rfl
  rw [this] at em
  subst em
  exact jAT (jAk (jAe rfl (jAg (o_tupI (by omega) ga) ⟨rfl, gr⟩)))
theorem jH3 {w : Nat} {rs : List (List Int)} {fs : List Int} (z1 : RowsD d1 rs) (z2 : RowD d2 fs) (hpQ : p ≠ 0) (hf : ∀ f ∈ fs, 0 ≤ f ∧ f < 1000) (hw : w ≤ 1000) (lr : rs.length ≤ 1000) (k : Q (tI 101 (mixL p rs fs w)) h) :
  OkE (jA8 (lev (tab ns) (n + 1) 3) [.p (.int p), d1, d2, .p (.int (.ofNat w))] h) Q X := by
 refine (hs (ns := ns) (j := 3) rfl).call ?_
 obtain ⟨m, l, rfl, _, t⟩ := z1
 obtain ⟨x2, rfl⟩ := z2.pure
 refine jFe rfl ((jFt Sq.tup ?_ z2.sq hpQ hf hw lr).weak fun v h' ⟨eQ, _⟩ => ⟨_, eQ, k⟩)
 clear lr k
 induction t with
 | nil => exact .nil
 | cons hxQ _ ih => exact .cons ⟨hxQ.sq, Sh.row hxQ⟩ ih
theorem jGg {w kr : Nat} {dsQ : List D} {rs : List (List Int)} {fs : List Int} (z1 : Sq h (.ref kr) dsQ) (t : Two (fun d r => Sq h d (upI r) ∧ Sh d) dsQ rs) (z2 : Sq h d2 (upI fs)) (hpQ : p ≠ 0) (hf : ∀ f ∈ fs, 0 ≤ f ∧ f < 1000) (hw : w ≤ 1000) (lr : rs.length ≤ 1000) (k : ∀ h', Gr h h' → Q (tI 101 (mixL p rs fs w)) h') :
  OkE (jA8 (lev (tab ns) (n + 1) 3) [.p (.int p), .ref kr, d2, .p (.int (.ofNat w))] h) Q X := by
 refine (hs (ns := ns) (j := 3) rfl).call (callR rfl ((jFt z1 t z2 hpQ hf hw lr).weak fun v h' ⟨eQ, g⟩ => ?_))
 rw [eQ]; exact k h' g
theorem jFv (z1 : RowD d1 xs) (z2 : RowD d2 ys) (hpQ : p ≠ 0) (hxQ : ∀ x ∈ xs, 0 ≤ x ∧ x < 1000) (len : xs.length ≤ 1000) (k : Q (.p (.int (dotF p xs ys))) h) :
  OkE (jA8 (lev (tab ns) (n + 1) 4) [.p (.int p), d1, d2] h) Q X := by
 refine (hs (ns := ns) (j := 4) rfl).call ?_
 obtain ⟨x1, rfl⟩ := z1.pure
 obtain ⟨x2, rfl⟩ := z2.pure
 refine jFe rfl (jAQ rfl ?_)
 show OkS (b_product (lev (tab ns) n) [some (.p (.int p)), some (.p x1), some (.p x2), none, none] e0) _
 unfold b_product
 refine jAT (jA9 (jAk (jCV (f := fun x y => x * y) (jAl rfl) (jAl rfl) z1.sq z2.sq len (fun x y hx' _ => ?_) ?_)))
 ·exact jAE (jAl rfl) (jAl rfl) (jIg (hxQ x hx'))
 ·exact jAg (o_sum jAr) (jAe rfl (jAg (jDu hpQ) ⟨_, rfl, k⟩))
def Dat (x : P) : Prop := ∀ k, x ≠ .fn k
def isNum (x : P) : Bool := match x with
 | .int _ => true
 | _ => false
def okP (p : Int) (x : P) : Bool := match x with
 | .int i => decide (0 ≤ i) && decide (i < p)
 | _ => false
theorem jH9 {x : P} (hxQ : Dat x) (k : Q (.p (.bl (isNum x))) h) : OkE (jA8 (lev (tab ns) (n + 1) 0) [.p x] h) Q X := by
 refine (hs (ns := ns) (j := 0) rfl).call (jFe rfl (jAQ rfl ?_))
 show OkS (b_is_number (lev (tab ns) n) [some (.p x)] e0) _
 unfold b_is_number
 cases x with
 | fn j => exact absurd rfl (hxQ j)
 | non => exact jAT (jBF (jAk (jAe rfl (jAg jDT ⟨false, rfl, _, rfl, k⟩))))
 | str s => exact jAT (jBF (jAk (jAe rfl (jAg jDd ⟨false, rfl, _, rfl, k⟩))))
 | tup m l => exact jAT (jBF (jAk (jAe rfl (jAg jB1 ⟨false, rfl, _, rfl, k⟩))))
 | bl b =>
  refine jAT (jBF (jAk (jAe rfl (jAg jE3 ⟨true, rfl, ?_⟩))))
  exact jCg (jAk (jAe rfl (jAg jE3 ⟨true, rfl, _, rfl, k⟩)))
 | int i =>
  refine jAT (jBF (jAk (jAe rfl (jAg jBT ⟨true, rfl, ?_⟩))))
  exact jCg (jAk (jAe rfl (jAg jBT ⟨false, rfl, _, rfl, k⟩)))
theorem jDc {m len : Nat} {l : List P} (hxQ : ∀ x ∈ l, Dat x) (ll : l.length ≤ 1000) (k : Q (.p (.bl (decide (l.length = len) && l.all (okP p)))) h) :
  OkE (jA8 (lev (tab ns) (n + 2) 1) [.p (.tup m l), .p (.int p), .p (.int (.ofNat len))] h) Q X := by
 refine (hs (ns := ns) (j := 1) rfl).call (jFe rfl (jAQ rfl ?_))
 show OkS (b_is_row (lev (tab ns) (n + 1)) [some (.p (.tup m l)), some (.p (.int p)), some (.p (.int (.ofNat len))), none] e0) _
 unfold b_is_row
 refine jA4 (jBl (jCf (jCg (jAk (jAe rfl (jAg jB1 ⟨true, rfl, false, rfl, ?_⟩))))))
 refine jA9 (jAk (jAe rfl (jAg Sq.tup.len (jAe rfl (jAg o_neI ⟨!decide (l.length = len), ?_, ?_⟩)))))
 ·show some (!decide (((upP l).length : Int) = Int.ofNat len)) = _
  rw [jBd]
  congr 2
  exact decide_eq_decide.mpr ⟨fun eQ => Int.ofNat.inj eQ, fun eQ => by rw [eQ]; rfl⟩
 ·cases q : decide (l.length = len) with
  | false =>
   rw [q] at k
   exact jAT (ok_c ⟨_, rfl, k⟩)
  | true =>
   rw [q, Bool.true_and] at k
   refine jFy (jAT (jAk ?_))
   have run : ∀ x ∈ l, cAnd (jAs 0 (jAb (cVar 3) cNil)) (jDZ oLeA oLtA (cC (.int (.ofNat 0))) (cVar 3) (cVar 1)) (lev (tab ns) (n + 1)) [some (.p (.tup m l)), some (.p (.int p)), some (.p (.int (.ofNat len))), some (.p x)] e0 = .ok (.p (.bl (okP p x))) e0 := fun x mx => by
    have zQ : OkE (cAnd (jAs 0 (jAb (cVar 3) cNil)) (jDZ oLeA oLtA (cC (.int (.ofNat 0))) (cVar 3) (cVar 1)) (lev (tab ns) (n + 1)) [some (.p (.tup m l)), some (.p (.int p)), some (.p (.int (.ofNat len))), some (.p x)] e0) (fun v h' => v = .p (.bl (okP p x)) ∧ h' = e0) nX := by
     refine jBF (jAA (jAf (jAe rfl (jAz (jH9 (hxQ x mx) ⟨isNum x, rfl, ?_⟩)))))
     cases x with
     | int i =>
      refine jId (ok_c (jAe rfl ⟨decide (0 ≤ i), o_le, ?_⟩))
      show bif decide (0 ≤ i) then _ else _
      cases q : decide (0 ≤ i) with
      | false => exact ⟨by rw [okP, q]; rfl, rfl⟩
      | true =>
       refine c_t ?_
       exact jAe rfl (jAg o_lt ⟨by rw [okP, q]; rfl, rfl⟩)
     | _ => exact ⟨rfl, rfl⟩
    obtain ⟨v, h', eQ, rfl, rfl⟩ := zQ.get
    exact eQ
   refine jFS (own := [3]) (xs := upP l) (g := fun d => .p (.bl (D.cs d (okP p) (fun _ => false) (fun _ => false)))) (fun w => jCR (jAe rfl ⟨_, _, Sq.tup, fun h' eQ => Sq.tup, w⟩)) (by rw [jBd]; exact ll) (fun x mx => ?_) ?_
   ·rw [jCX] at mx
    obtain ⟨p', mp, rfl⟩ := List.mem_map.mp mx
    exact run p' mp
   ·have eQ : (upP l).map (fun d => D.p (.bl (D.cs d (okP p) (fun _ => false) (fun _ => false)))) = upB (l.map (okP p)) := by
     rw [jCX, List.map_map]
     unfold upB
     rw [List.map_map]; rfl
    rw [eQ]
    refine jAg (o_all jAr) ⟨_, rfl, ?_⟩
    rw [List.all_map]
    exact k
theorem jI4 {kr len : Nat} {zs : List D} (g : h.get kr = some (.lst zs)) (k : Q (.p (.bl false)) h) : OkE (jA8 (lev (tab ns) (n + 1) 1) [.ref kr, .p (.int p), .p (.int (.ofNat len))] h) Q X := by
 refine (hs (ns := ns) (j := 1) rfl).call (callR rfl (jAQ rfl ?_))
 show OkS (b_is_row (lev (tab ns) n) [some (.ref kr), some (.p (.int p)), some (.p (.int (.ofNat len))), none] h) _
 unfold b_is_row
 refine jA4 (jBl (jCf (jCg (jAk (jAe rfl (jAg (jDe g) ⟨false, rfl, true, rfl, ?_⟩))))))
 exact ⟨true, rfl, jAT (ok_c k)⟩
theorem jIt {i : Int} (k : Q (.p (.int i)) h) : OkE (jA8 (lev (tab ns) (n + 1) 9) [.p (.int i)] h) Q X := by
 refine (hs (ns := ns) (j := 9) rfl).call (jFe rfl (jAQ rfl ?_))
 show OkS (b__law_lists (lev (tab ns) n) [some (.p (.int i)), none] e0) _
 unfold b__law_lists
 refine jAT (ok_if (jAk (jAe rfl (jAg jBT ⟨false, rfl, ?_⟩))))
 refine okE_f ?_
 exact jAe rfl ⟨_, rfl, k⟩
theorem lone_up {l : List P} : lone (.lst (upP l)) = true := jFX l
theorem jIs (zQ : RowD d xs) (len : xs.length ≤ 1000) (k : Q (.ref h.n) (h.nw (li xs))) : OkE (jA8 (lev (tab ns) (n + 2) 9) [d] h) Q X := by
 refine (hs (ns := ns) (j := 9) rfl).call ?_
 obtain ⟨m, rfl, hm⟩ := zQ
 have sq : ∀ h, Sq h (tI m xs) (upI xs) := fun h => RowD.sq ⟨m, rfl, hm⟩
 refine callPL rfl (jAQ rfl ?_)
 show OkS (b__law_lists (lev (tab ns) (n + 1)) [some (tI m xs), none] e0) _
 unfold b__law_lists
 refine jAT (ok_if (jAk (jAe rfl (jAg jB1 ⟨true, rfl, ?_⟩))))
 refine okE_t ?_
 refine jFS (own := [1]) (xs := upI xs) (g := fun d => d) (fun w => jCR (jAe rfl ⟨_, _, sq _, fun h' eQ => sq _, w⟩)) (by rw [jBe]; exact len) (fun x mx => ?_) ?_
 ·rw [jBn] at mx
  obtain ⟨i, mi, rfl⟩ := List.mem_map.mp mx
  have zQ : OkE (jAs 9 (jAb (cVar 1) cNil) (lev (tab ns) (n + 1)) [some (tI m xs), some (.p (.int i))] e0) (fun v h' => v = .p (.int i) ∧ h' = e0) nX := jAA (jAf (jAe rfl (jAz (jIt ⟨rfl, rfl⟩))))
  obtain ⟨v, h', eQ, rfl, rfl⟩ := zQ.get
  exact eQ
 ·rw [List.map_id' (upI xs)]
  exact ⟨_, li xs, rfl, jAr, by show lone (.lst (upI xs)) = true; rw [← jCr]; exact lone_up, k⟩
theorem jH8 {m : Nat} {l : List P} {rs : List (List Int)} (t : Two (fun x r => RowD (.p x) r) l rs) (ll : l.length ≤ 1000) (lr : ∀ r ∈ rs, r.length ≤ 1000)
  (k : ∀ h' kr dsQ, Gr h h' → Sq h' (.ref kr) dsQ → Two (fun d r => Sq h' d (upI r) ∧ Sh d) dsQ rs → Q (.ref kr) h') : OkE (jA8 (lev (tab ns) (n + 3) 9) [.p (.tup m l)] h) Q X := by
 refine (hs (ns := ns) (j := 9) rfl).call ?_
 have run : OkE (runF ⟨1, 2, b__law_lists⟩ (lev (tab ns) (n + 2)) [.p (.tup m l)] e0) (fun v h' => ∃ j ks, v = .ref j ∧ h'.get j = some (.lst (ks.map .ref)) ∧ Two (fun k r => h'.get k = some (li r)) ks rs) nX := by
  refine jAQ rfl ?_
  show OkS (b__law_lists (lev (tab ns) (n + 2)) [some (.p (.tup m l)), none] e0) _
  unfold b__law_lists
  refine jAT (ok_if (jAk (jAe rfl (jAg jB1 ⟨true, rfl, ?_⟩))))
  refine okE_t ?_
  refine jC9 (fun r acc h1 => ∃ l' rs' pre ks, r = (upP l').map (fun x => [x]) ∧ Two (fun x r => RowD (.p x) r) l' rs' ∧ pre ++ rs' = rs ∧ acc = ks.map .ref ∧ Two (fun k r => h1.get k = some (li r)) ks pre) ?_
  refine jCR (jAe rfl ⟨_, fun _ => True, Sq.tup, fun h' eQ => Sq.tup, fun t' nl yt => ⟨nl, _, _, yt, ?_, ⟨fun _ => trivial, ?_, ?_⟩, l, rs, [], [], rfl, t, rfl, rfl, .nil⟩⟩)
  ·rw [List.length_map, jBd]; omega
  ·rintro it r acc h1 ⟨l', rs', pre, ks, e1, t', e2, rfl, tk⟩
   match l', rs', e1, t', e2 with
   | [], _, e1, _, _ => cases e1
   | x :: l', r' :: rs', e1, .cons hxQ t', e2 =>
    obtain ⟨rfl, rfl⟩ := List.cons.inj (show it :: r = [.p x] :: (upP l').map (fun x => [x]) from e1)
    refine ⟨_, jDD, ok_c ⟨true, rfl, jAA (jAf (jAe rfl (jAz (jIs hxQ (lr r' ?_) ?_))))⟩⟩
    ·rw [← e2]; exact List.mem_append_right _ List.mem_cons_self
    ·refine ⟨l', rs', pre ++ [r'], ks ++ [h1.n], rfl, t', by rw [List.append_assoc]; exact e2, by rw [List.map_append]; rfl, ?_⟩
     exact (tk.imp fun _ _ g => jAm g).snoc jAr
  ·rintro acc h1 ⟨l', rs', pre, ks, e1, t', e2, rfl, tk⟩
   match l', rs', e1, t', e2 with
   | [], _, _, .nil, e2 =>
    rw [List.append_nil] at e2
    subst e2
    exact ⟨_, ks, rfl, jAr, tk.imp fun _ _ g => jAm g⟩
 obtain ⟨v, h', er, j, ks, rfl, gj, tk⟩ := run.get
 cases ks with
 | nil =>
  cases tk
  refine callPL rfl (jDt er ⟨j, _, rfl, gj, rfl, k _ _ [] .nw (.lst jAr) .nil⟩)
 | cons k0 ks =>
  refine callW rfl (jDt er ⟨j, _, rfl, gj, rfl, fun h'' gr im => ?_⟩)
  have gj2 := im j _ gj
  have eQ : shO h.n (.lst ((k0 :: ks).map .ref)) = .lst ((k0 :: ks).map fun k => .ref (k + h.n)) := by
   show O.lst (mapL (shD h.n) ((k0 :: ks).map .ref)) = _
   rw [jCj, List.map_map]; rfl
  rw [eQ] at gj2
  refine k h'' _ _ gr (.lst gj2) ?_
  clear er gj gj2 eQ k t lr run
  generalize k0 :: ks = ks at tk
  induction tk with
  | nil => exact .nil
  | @cons a r _ _ g _ ih =>
   refine .cons ⟨.lst ?_, trivial⟩ ih
   have := im _ _ g
   have eQ : shO h.n (li r) = li r := by
    show O.lst (mapL (shD h.n) (upI r)) = O.lst (upI r)
    rw [jCj, jBn, List.map_map]; rfl
   rw [eQ] at this
   exact this
end
end Mi

namespace Mi
open PySem PySem.Spec L2
open PyProof.Rows hiding St
def Fine (p : Int) (w : Nat) (r : List Int) : Prop := r.length = w ∧ ∀ x ∈ r, 0 ≤ x ∧ x < p
theorem jFG {p : Int} {w : Nat} (hpQ : 0 < p) : Fine p w (List.replicate w 0) := ⟨List.length_replicate, fun x m => by rw [(List.mem_replicate.mp m).2]; omega⟩
theorem jGm {α β γ : Type} {f : α → β → γ} {l : List α} {m : List β} {zQ : γ} (hzQ : zQ ∈ List.zipWith f l m) : ∃ x y, x ∈ l ∧ y ∈ m ∧ zQ = f x y := by
 induction l generalizing m with
 | nil => cases hzQ
 | cons a l ih =>
  cases m with
  | nil => cases hzQ
  | cons b m =>
   rcases List.mem_cons.mp hzQ with eQ | hzQ
   ·exact ⟨a, b, List.mem_cons_self, List.mem_cons_self, eQ⟩
   ·obtain ⟨x, y, h1, h2, h3⟩ := ih hzQ
    exact ⟨x, y, List.mem_cons_of_mem _ h1, List.mem_cons_of_mem _ h2, h3⟩
theorem jFH {p f : Int} {w : Nat} {xs ys : List Int} (hpQ : 0 < p) (h1 : xs.length = w) (h2 : ys.length = w) : Fine p w (comb p f xs ys) := by
 refine ⟨by rw [jD6]; omega, fun zQ hzQ => ?_⟩
 obtain ⟨x, y, _, _, rfl⟩ := jGm hzQ
 rw
   [Int.fmod_eq_emod_of_nonneg _ (by omega)]
 exact ⟨Int.emod_nonneg _ (by omega), Int.emod_lt_of_pos _ hpQ⟩
theorem jHk {p : Int} {w : Nat} (hpQ : 0 < p) : ∀ (rs : List (List Int)) (fs : List Int) (acc : List Int), Fine p w acc → (∀ r ∈ rs, r.length = w) → Fine p w (mixF p acc rs fs)
 | [], fs, acc, zQ, _ => by cases fs <;> exact zQ
 | r :: rs, [], acc, zQ, _ => zQ
 | r :: rs, f :: fs, acc, zQ, hr => jHk hpQ rs fs _ (jFH hpQ zQ.1 (hr r List.mem_cons_self)) fun r m => hr r (List.mem_cons_of_mem _ m)
section
variable {Φ Φ' : Ph} {σQ : Env} {h h1 h2 : EH} {a b cQ eQ : CE} {la : CL} {v x y d d1 d2 : D} {Q : VQ} {X : XQ} {k k' : Nat} {xs ys : List Int} {p f : Int} {ns : List Int} {n : Nat}
theorem two_up {rs : List (List Int)} : ∀ {dsQ : List D}, Two (fun d r => RowD d r) dsQ rs → ∃ l, dsQ = upP l ∧ Two (fun x r => RowD (.p x) r) l rs := by
 intro dsQ t
 induction t with
 | nil => exact ⟨[], rfl, .nil⟩
 | cons h _ ih =>
  obtain ⟨l, rfl, t⟩ := ih
  obtain ⟨x, rfl⟩ := h.pure
  exact ⟨x :: l, rfl, .cons h t⟩
theorem rows_dmx {l : List P} {rs : List (List Int)} (t : Two (fun x r => RowD (.p x) r) l rs) : dmx l ≤ 2 := by
 refine jFb (n := 1) fun x m => ?_
 induction t with
 | nil => cases m
 | cons h _ ih =>
  rcases List.mem_cons.mp m with eQ | m
  ·rw [eQ]
   obtain ⟨k, eQ, hk⟩ := h
   cases eQ
   show unf k ≤ 1
   omega
  ·exact ih m
theorem jFk {t m cnt w p : Nat} (T : Tin h t m) (hm : m + cnt * (w + 3) < 1000000) (hpQ : 0 < p ∧ p < 1000) (hw : w ≤ 1000) (hc : cnt ≤ 1000)
  (k : ∀ d rs h', RowsD d rs → rs.length = cnt → (∀ r ∈ rs, Fine p w r) → Tin h' t (m + cnt * (w + 3)) → GrX t h h' → Q d h') :
  OkE (jA8 (lev (tab ns) (n + 3) 14) [.ref t, .p (.int (.ofNat p)), .p (.int (.ofNat cnt)), .p (.int (.ofNat w))] h) Q X := by
 have ht : Has (lev (tab ns)) 6 ⟨2, 6, jDx⟩ := hs rfl
 have hof : Has (lev (tab ns)) 8 ⟨2, 2, bOf 6⟩ := hs rfl
 have hpl : Has (lev (tab ns)) 11 ⟨4, 6, bPlus⟩ := hs rfl
 have hp0 : (Int.ofNat p) ≠ 0 := by simp only [Int.ofNat_eq_natCast]; omega
 have hpp : (0 : Int) < (p : Int) := by omega
 refine (hs (ns := ns) (j := 14) rfl).call (callR rfl (jAQ rfl ?_))
 show OkS (b__law_drawn_vectors (lev (tab ns) (n + 2)) [some (.ref t), some (.p (.int (.ofNat p))), some (.p (.int (.ofNat cnt))), some (.p (.int (.ofNat w))), none, none, none, none] h) _
 unfold b__law_drawn_vectors
 refine jA4 (jBa (jCh (jAz ⟨rfl, ?_⟩)))
 show OkS (sSeq _ _ (lev (tab ns) (n + 2)) [some (.ref t), some (.p (.int (.ofNat p))), some (.p (.int (.ofNat cnt))), some (.p (.int (.ofNat w))), some (.ref h.n), none, none, none] _) _
 have tn : t < h.n := by
  obtain ⟨_, _, _, g, _⟩ := T
  exact jB7 g
 refine jA4 (jEQ (fun r σQ h1 => ∃ (i : Int) (q : Nat) (dsQ : List D) (rs : List (List Int)) (b5 b6 b7 : Option D), r = (rngL i q).map (fun x => [x]) ∧ rs.length + q = cnt ∧ h1.get h.n = some (.lst dsQ) ∧ Two (fun d r => RowD d r) dsQ rs ∧ (∀ r ∈ rs, Fine p w r) ∧ Tin h1 t (m + rs.length * (w + 3)) ∧ GrX t h h1 ∧ σQ = [some (.ref t), some (.p (.int (.ofNat p))), some (.p (.int (.ofNat cnt))), some (.p (.int (.ofNat w))), some (.ref h.n), b5, b6, b7]) ?_)
 refine jEP (jAe rfl ⟨cnt, rfl, by omega, fun t' nl yt => ⟨nl, _, _, yt, by rw [List.length_map, jEF]; omega, ⟨fun _ => trivial, ?_, ?_⟩, 0, cnt, [], [], none, none, none, rfl, Nat.zero_add _, jAr, .nil, (fun _ m => nomatch m), ?_, Gr.nw.toX, rfl⟩⟩)
 ·rintro it r σQ h1 ⟨i, q, dsQ, rs, b5, b6, b7, e1, e2, gk, tw, fi, T1, G1, rfl⟩
  cases q with
  | zero => cases e1
  | succ q =>
   obtain ⟨rfl, rfl⟩ := List.cons.inj (show it :: r = [.p (.int i)] :: (rngL (i + 1) q).map (fun x => [x]) from e1)
   have bnd : m + rs.length * (w + 3) + (w + 3) ≤ m + cnt * (w + 3) := by
    have : (rs.length + 1) * (w + 3) ≤ cnt * (w + 3) := Nat.mul_le_mul_right _ (by omega)
    rw [Nat.add_mul] at this
    omega
   have nek : h.n ≠ t := by omega
   -- what a turn leaves
   have next : ∀ {h3 : EH} {y : D} {rw_ : List Int} {j : Nat}, RowD y rw_ → Fine p w rw_ → j ≤ w + 3 → Tin h3 t (m + rs.length * (w + 3) + j) → GrX t h h3 → h3.get h.n = some (.lst dsQ) →
     ∃ (ds' : List D) (rs' : List (List Int)), rs'.length + q = cnt ∧ (h3.put h.n (.lst (dsQ ++ [y]))).get h.n = some (.lst ds') ∧ Two (fun d r => RowD d r) ds' rs' ∧ (∀ r ∈ rs', Fine p w r) ∧ Tin (h3.put h.n (.lst (dsQ ++ [y]))) t (m + rs'.length * (w + 3)) ∧ GrX t h (h3.put h.n (.lst (dsQ ++ [y]))) := fun {h3 y rw_ j} hy hf hj T3 G3 g3 => by
    refine ⟨dsQ ++ [y], rs ++ [rw_], by rw [List.length_append, List.length_singleton]; omega, get_put g3, tw.snoc hy, fun r mr => ?_, ?_, G3.put' g3 (Nat.le_refl _)⟩
    ·rcases List.mem_append.mp mr with mr | mr
     ·exact fi r mr
     ·rw [List.mem_singleton.mp mr]; exact hf
    ·refine (T3.put g3 nek).le ?_
     rw [List.length_append, List.length_singleton, Nat.add_mul]
     omega
   have ldr : dsQ.length = rs.length := tw.length
   have sh : jAG dsQ = true := jBN (by omega)
   refine ⟨_, jDD, jA4 (jBa (jC8 (ht (n + 1)) (jAl rfl) v_c T1 (by omega) (by decide) (by decide) fun r h2 hr T2 G2 n2 => ?_))⟩
   show OkS (sIf _ _ _ (lev (tab ns) (n + 2)) [some (.ref t), some (.p (.int (.ofNat p))), some (.p (.int (.ofNat cnt))), some (.p (.int (.ofNat w))), some (.ref h.n), some (.p (.int i)), some (.p (.int (.ofNat r))), b7] h2) _
   have g2Q : h2.get h.n = some (.lst dsQ) := G2.k nek gk
   have G12 := G1.trans G2
   -- a row of 0s alone
   have zer : ∀ {hh : EH}, ∃ m', jAM hh (tI 101 [0]) (.p (.int (.ofNat w))) = .val (tI m' (List.replicate w 0)) ∧ unf m' = 1 := fun {hh} => o_mulT hw rfl
   refine jBl (jA9 (jAe rfl (ok_c (jAg o_eqI ⟨_, rfl, ?_⟩))))
   by_cases r0 : r = 0
   ·rw [decide_eq_true (by rw [r0])]
    refine okS_t (jCZ (jEz (fun h => jAl rfl) ⟨_, g2Q⟩ ?_))
    refine jA9 (jFx (jAf (ok_c (jAz ⟨_, jHf, jAe rfl ?_⟩))))
    obtain ⟨m', eQ, hm'⟩ := zer (hh := h2)
    refine jAg eQ ⟨dsQ, g2Q, sh, ?_⟩
    obtain ⟨ds', rs', f1, f2, f3Q, f4, f5, f6⟩ := next (j := 1) ⟨m', rfl, hm'⟩ (jFG hpp) (by omega) T2 G12 g2Q
    exact ⟨i + 1, q, ds', rs', _, _, _, rfl, f1, f2, f3Q, f4, f5, f6, rfl⟩
   ·rw [decide_eq_false (by simp only [Int.ofNat_eq_natCast]; omega)]
    refine okS_f (jBl (jBF (jA9 (jAe rfl (ok_c (jAg o_eqI ⟨_, rfl, ?_⟩))))))
    by_cases r1 : r = 1
    ·rw [decide_eq_true (by rw [r1])]
     refine okE_t (jA9 (jAe rfl (jCh (jAz ⟨rfl, ?_⟩))))
     refine jAg (jIf (jAm g2Q) jAr) ⟨_, rfl, ?_⟩
     have g3 : (h2.nw (.lst [])).get h.n = some (.lst dsQ) := jAm g2Q
     have T3 : Tin (h2.nw (.lst [])) t (m + rs.length * (w + 3) + 1) := T2.gr .nw
     have G3 : GrX t h (h2.nw (.lst [])) := G12.nw
     generalize h2.nw (.lst []) = h3 at g3 T3 G3
     cases hds : isN dsQ with
     | true =>
      have pos : 0 < dsQ.length := by
       cases dsQ with
       | nil => cases hds
       | cons _ _ => exact Nat.succ_pos _
      refine okS_t (jCZ (jEz (fun h => jAl rfl) ⟨_, g3⟩ ?_))
      refine jAA (jAf (jAe rfl (jAf ?_)))
      refine jA9 (jFx (jAf (ok_c (jAz ⟨_, jHf, jAe rfl ?_⟩))))
      obtain ⟨m', eQ, hm'⟩ := zer (hh := h3)
      refine jAg eQ ?_
      refine jAf (jAA (jAf (jAe rfl (jAf (jAe rfl (jAz ?_))))))
      refine jGk hof ht T3 (by omega) g3 pos (by omega) nek fun r' v h4 ev T4 G4 n4 => ?_
      refine jAf (jC8 (ht (n + 1)) (jAl rfl) (jAl rfl) T4 (by omega) hpQ.1 (by omega) fun f h5 hf T5 G5 n5 => jAz ?_)
      obtain ⟨rv, hrv⟩ : ∃ rv, rs[r']? = some rv := by
       have : r' < dsQ.length := (List.getElem?_eq_some_iff.mp ev).1
       exact ⟨rs[r'], List.getElem?_eq_getElem (by omega)⟩
      have rowv := tw.at r' v rv ev hrv
      have fv := fi rv (List.mem_of_getElem? hrv)
      refine jFw hpl ⟨m', rfl, hm'⟩ rowv hp0 ⟨by simp only [Int.ofNat_eq_natCast]; omega, by simp only [Int.ofNat_eq_natCast]; omega⟩ (by rw [List.length_replicate]; exact hw) ?_
      have g5 : h5.get h.n = some (.lst dsQ) := G5.k nek (G4.k nek g3)
      refine ⟨dsQ, g5, sh, ?_⟩
      obtain ⟨ds', rs', f1, f2, f3Q, f4, f5, f6⟩ := next (j := 3) .t101 (jFH (f := Int.ofNat f) hpp List.length_replicate fv.1) (by omega) T5 ((G3.trans G4).trans G5) g5
      exact ⟨i + 1, q, ds', rs', _, _, _, rfl, f1, f2, f3Q, f4, f5, f6, rfl⟩
     | false =>
      refine okS_f (jCZ (jEz (fun h => jAl rfl) ⟨_, g3⟩ ?_))
      refine jDX ht (fun _ _ => jAl rfl) (fun _ _ => jAl rfl) (jAl rfl) T3 (by omega) hpQ hw fun xs h4 lx fx T4 G4 => ?_
      have g4 : h4.get h.n = some (.lst dsQ) := G4.k nek g3
      refine ⟨dsQ, g4, sh, ?_⟩
      obtain ⟨ds', rs', f1, f2, f3Q, f4, f5, f6⟩ := next (j := 1 + w) .t101 ⟨lx, fx⟩ (by omega) (by rw [← Nat.add_assoc]; exact T4) (G3.trans G4) g4
      exact ⟨i + 1, q, ds', rs', _, _, _, rfl, f1, f2, f3Q, f4, f5, f6, rfl⟩
    ·rw [decide_eq_false (by simp only [Int.ofNat_eq_natCast]; omega)]
     refine okE_f ⟨false, rfl, ?_⟩
     refine okS_f (jCZ (jEz (fun h => jAl rfl) ⟨_, g2Q⟩ ?_))
     refine jDX ht (fun _ _ => jAl rfl) (fun _ _ => jAl rfl) (jAl rfl) T2 (by omega) hpQ hw fun xs h4 lx fx T4 G4 => ?_
     have g4 : h4.get h.n = some (.lst dsQ) := G4.k nek g2Q
     refine ⟨dsQ, g4, sh, ?_⟩
     obtain ⟨ds', rs', f1, f2, f3Q, f4, f5, f6⟩ := next (j := 1 + w) .t101 ⟨lx, fx⟩ (by omega) (by rw [← Nat.add_assoc]; exact T4) (G12.trans G4) g4
     exact ⟨i + 1, q, ds', rs', _, _, _, rfl, f1, f2, f3Q, f4, f5, f6, rfl⟩
 ·rintro σQ h1 ⟨i, q, dsQ, rs, b5, b6, b7, e1, e2, gk, tw, fi, T1, G1, rfl⟩
  cases q with
  | succ q => cases e1
  | zero =>
   obtain ⟨l, rfl, tl⟩ := two_up tw
   have ll : l.length ≤ 1000000 := by rw [tl.length]; omega
   have hd := rows_dmx tl
   refine jAT (jAk (jAe rfl (jAg (o_tupP ll (by omega) gk) ?_)))
   refine k _ rs h1 ⟨_, l, rfl, ?_, tl⟩ (by omega) fi ?_ G1
   ·rw [unf_add (by omega)]; omega
   ·have : rs.length = cnt := by omega
    rw [← this]; exact T1
 ·rw [List.length_nil, Nat.zero_mul]; exact T.gr .nw
end
end Mi

namespace Mi
open PySem PySem.Spec L2
open PyProof.Rows hiding St
section
variable {Φ Φ' : Ph} {σQ : Env} {h h1 h2 : EH} {a b cQ eQ : CE} {la : CL} {v x y d d1 d2 : D} {Q : VQ} {X : XQ} {k k' : Nat} {xs ys : List Int} {p f : Int} {ns : List Int} {n : Nat}
def Odd (v : D) : Prop := ∃ x, v = .p x ∧ Dat x ∧ dep x ≤ 1
theorem jCC {i : Int} : Dat (.int i) := fun _ eQ => nomatch eQ
theorem bad_comp {m : Nat} {l : List P} {P : Nat} {s0 s1Q s2 s3 s4 s5 s6 s7 s9 s11 s12 s13 s14 : Option D} (hl : ∀ x ∈ l, Dat x) (ll : l.length ≤ 1000)
  (k : ∀ h' kf acc, Gr h h' → h'.get kf = some (.lst acc) → (!isN acc) = l.all (okP P) → Q (.ref kf) h') :
  OkE (jBi [14] (jAq 14) (jEl (cVar 8)) (cOr (cOp1 (oIsi [1]) (cVar 14)) (cOr (cNot (cOp1 (oIsi [2]) (cVar 14))) (cNot (jDZ oLeA oLtA (cC (.int (.ofNat 0))) (cVar 14) (cVar 10))))) (cVar 14) Φ
   [s0, s1Q, s2, s3, s4, s5, s6, s7, some (.p (.tup m l)), s9, some (.p (.int (.ofNat P))), s11, s12, s13, s14] h) Q X := by
 have cond : ∀ x, Dat x → OkE (cOr (cOp1 (oIsi [1]) (cVar 14)) (cOr (cNot (cOp1 (oIsi [2]) (cVar 14))) (cNot (jDZ oLeA oLtA (cC (.int (.ofNat 0))) (cVar 14) (cVar 10)))) Φ
   [s0, s1Q, s2, s3, s4, s5, s6, s7, some (.p (.tup m l)), s9, some (.p (.int (.ofNat P))), s11, s12, s13, some (.p x)] h) (fun v h' => v = .p (.bl (!okP P x)) ∧ h' = h) nX := fun x hxQ => by
  cases x with
  | fn j => exact absurd rfl (hxQ j)
  | bl b => exact jCf (jAk (jAe rfl (jAg jE3 ⟨true, rfl, rfl, rfl⟩)))
  | non =>
   refine jCf (jAk (jAe rfl (jAg jDT ⟨false, rfl, ?_⟩)))
   refine okE_f (jCf (jCg (jAk (jAe rfl (jAg jDT ⟨false, rfl, true, rfl, ?_⟩)))))
   exact ⟨rfl, rfl⟩
  | str s =>
   refine jCf (jAk (jAe rfl (jAg jDd ⟨false, rfl, ?_⟩)))
   refine okE_f (jCf (jCg (jAk (jAe rfl (jAg jDd ⟨false, rfl, true, rfl, ?_⟩)))))
   exact ⟨rfl, rfl⟩
  | tup m l =>
   refine jCf (jAk (jAe rfl (jAg jB1 ⟨false, rfl, ?_⟩)))
   refine okE_f (jCf (jCg (jAk (jAe rfl (jAg jB1 ⟨false, rfl, true, rfl, ?_⟩)))))
   exact ⟨rfl, rfl⟩
  | int i =>
   refine jCf (jAk (jAe rfl (jAg jBT ⟨false, rfl, ?_⟩)))
   refine okE_f (jCf (jCg (jAk (jAe rfl (jAg jBT ⟨true, rfl, false, rfl, ?_⟩)))))
   refine okE_f (jCg (jId (ok_c (jAe rfl ⟨decide (0 ≤ i), o_le, ?_⟩))))
   cases q : decide (0 ≤ i) with
   | false => exact c_f ⟨false, rfl, by rw [okP, q]; rfl, rfl⟩
   | true => exact c_t (jAe rfl (jAg o_lt ⟨decide (i < P), rfl, by rw [okP, q]; rfl, rfl⟩))
 refine jC9 (fun r acc h1 => h1 = h ∧ ∃ l', r = (upP l').map (fun x => [x]) ∧ (∀ x ∈ l', x ∈ l) ∧ ((!isN acc) && l'.all (okP P)) = l.all (okP P)) ?_
 refine jCR (jAe rfl ⟨_, fun h' => h' = h, Sq.tup, fun h' eQ => Sq.tup, fun t nl yt => ⟨nl, _, _, yt, by rw [List.length_map, jBd]; omega, ⟨fun ⟨eQ, _⟩ => eQ, ?_, ?_⟩, rfl, l, rfl, (fun _ m => m), rfl⟩⟩)
 ·rintro it r acc h1 ⟨rfl, l', e1, ml, e2⟩
  cases l' with
  | nil => cases e1
  | cons x l' =>
   obtain ⟨rfl, rfl⟩ := List.cons.inj (show it :: r = [.p x] :: (upP l').map (fun x => [x]) from e1)
   refine ⟨_, jDD, (cond x (hl x (ml x List.mem_cons_self))).imp fun v h' ⟨ev, eh⟩ => ?_⟩
   subst ev; subst eh
   refine ⟨!okP P x, rfl, ?_⟩
   cases q : okP P x with
   | true =>
    refine c_f ⟨rfl, l', rfl, fun x m => ml x (List.mem_cons_of_mem _ m), ?_⟩
    rw [← e2, List.all_cons, q, Bool.true_and]
   | false =>
    refine c_t (jAe rfl ⟨rfl, l', rfl, fun x m => ml x (List.mem_cons_of_mem _ m), ?_⟩)
    rw [← e2, List.all_cons, q, Bool.false_and, Bool.and_false]
    cases acc <;> rfl
 ·rintro acc h1 ⟨rfl, l', e1, ml, e2⟩
  cases l' with
  | cons x l' => cases e1
  | nil =>
   rw [List.all_nil, Bool.and_true] at e2
   exact k _ _ acc .nw jAr e2
theorem Two.app {α β : Type} {R : α → β → Prop} {l l' : List α} {m m' : List β} (t : Two R l m) (u : Two R l' m') : Two R (l ++ l') (m ++ m') := by
 induction t with
 | nil => exact u
 | cons h _ ih => exact .cons h ih
theorem jHI {n : Nat} : ∀ is : List Int, Two (Sam h n) (upI is) (upI is)
 | [] => .nil
 | i :: is => .cons (.int i) (jHI is)
theorem mkTc_3 {i j l : Int} : mkTc [.p (.int i), .p (.int j), .p (.int l)] = .val (.p (.tup 101 [.int i, .int j, .int l])) :=
 jGl (l := [.int i, .int j, .int l]) (by show 3 ≤ 1000000; decide) (by show dmx ([i, j, l].map P.int) ≤ 50; rw [jD4]; decide)
theorem jH4 {t m : Nat} (T : Tin h t m) (hm : m ≤ 100) (k : ∀ h', GrX t h h' → Q (.p (.bl true)) h') : OkE (jA8 (lev (tab ns) (n + 8) 17) [.ref t] h) Q X := by
 have ht : Has (lev (tab ns)) 6 ⟨2, 6, jDx⟩ := hs rfl
 have hof : Has (lev (tab ns)) 8 ⟨2, 2, bOf 6⟩ := hs rfl
 have hpl : Has (lev (tab ns)) 11 ⟨4, 6, bPlus⟩ := hs rfl
 have hmx : Has (lev (tab ns)) 12 ⟨4, 7, bMixed 11⟩ := hs rfl
 have htm : Has (lev (tab ns)) 13 ⟨3, 5, bTimes⟩ := hs rfl
 have hsa : Has (lev (tab ns)) 10 ⟨2, 4, jEc 10⟩ := hs rfl
 refine (hs (ns := ns) (j := 17) rfl).call (callR rfl (jAQ rfl ?_))
 show OkS (b__law_right (lev (tab ns) (n + 7)) [some (.ref t), none, none, none, none, none, none, none, none, none, none, none, none, none, none] h) _
 unfold b__law_right
 have tn : t < h.n := by
  obtain ⟨_, _, _, g, _⟩ := T
  exact jB7 g
 -- p, count, wide
 refine jA4 (ok_set (jFx (jAf (jAA (jAf (jAe rfl (jAf (jCh (jAf (ok_c (jAf (ok_c (jAf (ok_c (jAz ⟨rfl, jAz ?_⟩)))))))))))))))
 refine jGk hof ht (T.gr .nw) (by omega) jAr (by decide) (by decide) (by omega) fun r0 v h3 ev T3 G3 _ => ?_
 obtain ⟨p, rfl, hpQ⟩ : ∃ p : Nat, v = .p (.int (.ofNat p)) ∧ 2 ≤ p ∧ p ≤ 5 := by
  match r0, ev with
  | 0, ev => exact ⟨2, (Option.some.inj ev).symm, by decide, by decide⟩
  | 1, ev => exact ⟨3, (Option.some.inj ev).symm, by decide, by decide⟩
  | 2, ev => exact ⟨5, (Option.some.inj ev).symm, by decide, by decide⟩
 have G3' : GrX t h h3 := (Gr.nw.toX).trans G3
 refine jAf (jC8 (ht (n + 6)) (jAl rfl) v_c T3 (by omega) (by decide) (by decide) fun cnt h4 hc T4 G4 _ => ?_)
 refine jAf (jC8 (ht (n + 6)) (jAl rfl) v_c T4 (by omega) (by decide) (by decide) fun w h5 hw T5 G5 _ => jAz ⟨_, mkTc_3, _, tS3, ?_⟩)
 have G5' := (G3'.trans G4).trans G5
 show OkS (sSeq _ _ (lev (tab ns) (n + 7)) [some (.ref t), none, none, none, none, none, none, none, none, none, some (.p (.int (.ofNat p))), some (.p (.int (.ofNat cnt))), some (.p (.int (.ofNat w))), none, none] h5) _
 have hp0 : (Int.ofNat p) ≠ 0 := by simp only [Int.ofNat_eq_natCast]; omega
 have hpp : (0 : Int) < (p : Int) := by omega
 have bw : cnt * (w + 3) ≤ 6 * 9 := Nat.mul_le_mul (by omega) (by omega)
 -- the vectors
 refine jA4 (jBa (jAA (jAf (jAe rfl (jAf (jAe rfl (jAf (jAe rfl (jAf (jAe rfl (jAz ?_)))))))))))
 refine jFk (n := n + 4) T5 (by omega) (by omega) (by omega) (by omega) fun dv rs h6 zv lrs frs T6 G6 => ?_
 have G6' := G5'.trans G6
 obtain ⟨mv, lv, rfl, hmv, tv⟩ := zv
 have zv : RowsD (.p (.tup mv lv)) rs := ⟨mv, lv, rfl, hmv, tv⟩
 -- the factors
 refine jA4 (jBa ?_)
 refine jDX (p := p) (w := cnt) ht (fun _ _ => jAl rfl) (fun _ _ => jAl rfl) (jAl rfl) T6 (by omega) (by omega) (by omega) fun fs h7 lfs ffs T7 G7 => ?_
 have G7' := G6'.trans G7
 show OkS (sSeq _ _ (lev (tab ns) (n + 7)) [some (.ref t), some (.p (.tup mv lv)), some (tI 101 fs), none, none, none, none, none, none, none, some (.p (.int (.ofNat p))), some (.p (.int (.ofNat cnt))), some (.p (.int (.ofNat w))), none, none] h7) _
 have zf : RowD (tI 101 fs) fs := .t101
 have ffs' : ∀ f ∈ fs, 0 ≤ f ∧ f < 1000 := fun f mf => by have := ffs f mf; omega
 -- what is due
 refine jA4 (jBa (jAA (jAf (jAe rfl (jAf (jAe rfl (jAf (jAe rfl (jAf (jAe rfl (jAz ?_)))))))))))
 refine jH7 (n := n + 5) hmx hpl zv zf hp0 ffs' (by omega) (by omega) fun dd zd => ?_
 generalize hM : mixL (Int.ofNat p) rs fs w = M at zd
 have fM : Fine p w M := by
  rw [← hM]
  exact jHk hpp rs fs _ (jFG hpp) fun r mr => (frs r mr).1
 obtain ⟨md, rfl, hmd⟩ := zd
 have zd : RowD (tI md M) M := ⟨md, rfl, hmd⟩
 show OkS (sSeq _ _ (lev (tab ns) (n + 7)) [some (.ref t), some (.p (.tup mv lv)), some (tI 101 fs), some (tI md M), none, none, none, none, none, none, some (.p (.int (.ofNat p))), some (.p (.int (.ofNat cnt))), some (.p (.int (.ofNat w))), none, none] h7) _
 -- got
 refine jA4 (jBa (jCh (jAf (jAA (jAf (jAe rfl (jAf (jAe rfl (jAf (jAe rfl (jAf (jAe rfl (jAz ?_)))))))))))))
 refine jH3 (n := n + 6) zv zf hp0 ffs' (by omega) (by omega) ?_
 refine jAf (jAA (jAf (jAe rfl (jAf (jAA (jAf (jAe rfl (jAz ?_))))))))
 refine jH8 (n := n + 4) tv (by rw [tv.length]; omega) (fun r mr => by rw [(frs r mr).1]; omega) fun h8 kr dsQ G8 sq8 two8 => ?_
 refine jAf (jAk (jAe rfl (jCQ (o_lstS zf.sq) ?_)))
 refine jAf (jAe rfl (jAz ?_))
 refine jGg (n := n + 6) (sq8.gr .nw) (two8.imp fun d r zQ => ⟨zQ.1.gr .nw, zQ.2⟩) (Sq.lst jAr) hp0 ffs' (by omega) (by omega) fun h9 G9 => jAz ⟨rfl, ?_⟩
 rw [hM]
 have G79 : Gr h7 h9 := G8.trans (Gr.nw.trans G9)
 show OkS (sSeq _ _ (lev (tab ns) (n + 7)) [some (.ref t), some (.p (.tup mv lv)), some (tI 101 fs), some (tI md M), some (.ref h9.n), none, none, none, none, none, some (.p (.int (.ofNat p))), some (.p (.int (.ofNat cnt))), some (.p (.int (.ofNat w))), none, none] _) _
 -- want
 refine jA4 (jBa (jCh (jAf (jAe rfl (jAf (jAe rfl (jAz ⟨rfl, ?_⟩)))))))
 have n10 : (h9.nw (.lst [tI 101 M, tI 101 M])).n = h9.n + 1 := EH.nw_n
 rw [n10]
 have gG : ((h9.nw (.lst [tI 101 M, tI 101 M])).nw (.lst [tI md M, tI md M])).get h9.n = some (.lst [tI 101 M, tI 101 M]) := jAm jAr
 have gW : ((h9.nw (.lst [tI 101 M, tI 101 M])).nw (.lst [tI md M, tI md M])).get (h9.n + 1) = some (.lst [tI md M, tI md M]) := by rw [← n10]; exact jAr
 have G11 : Gr h7 ((h9.nw (.lst [tI 101 M, tI 101 M])).nw (.lst [tI md M, tI md M])) := G79.trans (Gr.nw.trans .nw)
 generalize (h9.nw (.lst [tI 101 M, tI 101 M])).nw (.lst [tI md M, tI md M]) = h11 at gG gW G11
 have n79 := G79.n
 have n7 := G7'.n
 have T11 : Tin h11 t (m + 3 + cnt * (w + 3) + cnt) := T7.gr G11
 have G11' : GrX t h h11 := G7'.trans G11.toX
 generalize hkG : h9.n = kG at gG gW n79
 clear n10
 show OkS (sSeq _ _ (lev (tab ns) (n + 7)) [some (.ref t), some (.p (.tup mv lv)), some (tI 101 fs), some (tI md M), some (.ref kG), some (.ref (kG + 1)), none, none, none, none, some (.p (.int (.ofNat p))), some (.p (.int (.ofNat cnt))), some (.p (.int (.ofNat w))), none, none] h11) _
 -- the products
 refine jA4 (jEQ (fun r σQ h1 => ∃ (l' : List P) (rs' : List (List Int)) (is : List Int) (b6 : Option D), r = (upP l').map (fun x => [x]) ∧ Two (fun x r => RowD (.p x) r) l' rs' ∧ (∀ r ∈ rs', r ∈ rs) ∧ is.length + l'.length ≤ cnt ∧ h1.get kG = some (.lst ([tI 101 M, tI 101 M] ++ upI is)) ∧ h1.get (kG + 1) = some (.lst ([tI md M, tI md M] ++ upI is)) ∧ Tin h1 t (m + 3 + cnt * (w + 3) + cnt) ∧ GrX t h h1 ∧
  σQ = [some (.ref t), some (.p (.tup mv lv)), some (tI 101 fs), some (tI md M), some (.ref kG), some (.ref (kG + 1)), b6, none, none, none, some (.p (.int (.ofNat p))), some (.p (.int (.ofNat cnt))), some (.p (.int (.ofNat w))), none, none]) ?_)
 refine jCR (jAe rfl ⟨_, fun _ => True, Sq.tup, fun h' eQ => Sq.tup, fun t' nl yt => ⟨nl, _, _, yt, by rw [List.length_map, jBd, tv.length]; omega, ⟨fun _ => trivial, ?_, ?_⟩, lv, rs, [], none, rfl, tv, (fun _ m => m), by rw [tv.length, List.length_nil]; omega, gG, gW, T11, G11', rfl⟩⟩)
 ·rintro it r σQ h1 ⟨l', rs', is, b6, e1, tw, mr, li', gG, gW, T1, G1, rfl⟩
  cases tw with
  | nil => cases e1
  | @cons x r' l' rs' hxQ tw =>
   obtain ⟨rfl, rfl⟩ := List.cons.inj (show it :: r = [.p x] :: (upP l').map (fun x => [x]) from e1)
   have fr := frs r' (mr r' List.mem_cons_self)
   have bnd : ∀ x ∈ r', 0 ≤ x ∧ x < 1000 := fun x mx => by have := fr.2 x mx; omega
   have lis : is.length ≤ 6 := by rw [List.length_cons] at li'; omega
   refine ⟨_, jDD, jA4 (jCZ (jEz (fun h => jAl rfl) ⟨_, gG⟩ (jAA (jAf (jAe rfl (jAf (jAe rfl (jAf (jAe rfl (jAz ?_)))))))))) ⟩
   refine jFv (n := n + 6) hxQ zd hp0 bnd (by rw [fr.1]; omega) ⟨_, gG, jBN (by simp [jBe]; omega), ?_⟩
   have gW' := jBb (o1 := .lst (([tI 101 M, tI 101 M] ++ upI is) ++ [.p (.int (dotF (Int.ofNat p) r' M))])) gG gW (by omega)
   refine jCZ (jEz (fun h => jAl rfl) ⟨_, gW'⟩ (jAA (jAf (jAe rfl (jAf (jAe rfl (jAf (jAe rfl (jAz ?_)))))))))
   refine jH1 (n := n + 6) htm hxQ zd hp0 bnd (by rw [fr.1]; omega) ⟨_, gW', jBN (by simp [jBe]; omega), ?_⟩
   refine ⟨l', rs', is ++ [dotF (Int.ofNat p) r' M], _, rfl, tw, fun r m => mr r (List.mem_cons_of_mem _ m), by rw [List.length_append, List.length_singleton]; rw [List.length_cons] at li'; omega, ?_, ?_, ?_, ?_, rfl⟩
   ·rw [← jEA, ← List.append_assoc]
    exact jBb gW' (get_put gG) (by omega)
   ·rw [← jEA, ← List.append_assoc]
    exact get_put gW'
   ·exact (T1.put gG (by omega)).put gW' (by omega)
   ·exact (G1.put' gG (by omega)).put' gW' (by omega)
 ·rintro σQ h1 ⟨l', rs', is, b6, e1, tw, mr, li', gG, gW, T1, G1, rfl⟩
  have lis : is.length ≤ 6 := by omega
  have tk : t < kG := by omega
  show OkS (sSeq _ _ (lev (tab ns) (n + 7)) [some (.ref t), some (.p (.tup mv lv)), some (tI 101 fs), some (tI md M), some (.ref kG), some (.ref (kG + 1)), b6, none, none, none, some (.p (.int (.ofNat p))), some (.p (.int (.ofNat cnt))), some (.p (.int (.ofNat w))), none, none] h1) _
  -- the cells
  refine jA4 (jBa (jAk (jAe rfl (jCQ (o_lstS zd.sq) ?_))))
  have lG := jB7 gG
  have lW := jB7 gW
  have gc : (h1.nw (.lst (upI M))).get h1.n = some (.lst (upI M)) := jAr
  have gG2 : (h1.nw (.lst (upI M))).get kG = _ := jAm gG
  have gW2 : (h1.nw (.lst (upI M))).get (kG + 1) = _ := jAm gW
  have T2 : Tin (h1.nw (.lst (upI M))) t (m + 3 + cnt * (w + 3) + cnt) := T1.gr .nw
  have G2 : GrX t h (h1.nw (.lst (upI M))) := G1.nw
  have nc : kG + 1 < h1.n := lW
  generalize h1.nw (.lst (upI M)) = h2 at gc gG2 gW2 T2 G2
  generalize h1.n = kc at gc nc
  show OkS (sSeq _ _ (lev (tab ns) (n + 7)) [some (.ref t), some (.p (.tup mv lv)), some (tI 101 fs), some (tI md M), some (.ref kG), some (.ref (kG + 1)), b6, some (.ref kc), none, none, some (.p (.int (.ofNat p))), some (.p (.int (.ofNat cnt))), some (.p (.int (.ofNat w))), none, none] h2) _
  refine jA4 (OkS.imp (q := ⟨fun σQ h5 => ∃ l : List P, h5.get kc = some (.lst (upP l)) ∧ (∀ x ∈ l, Dat x ∧ dep x ≤ 1) ∧ l.length = w ∧ h5.get kG = some (.lst ([tI 101 M, tI 101 M] ++ upI is)) ∧ h5.get (kG + 1) = some (.lst ([tI md M, tI md M] ++ upI is)) ∧ GrX t h h5 ∧
   σQ = [some (.ref t), some (.p (.tup mv lv)), some (tI 101 fs), some (tI md M), some (.ref kG), some (.ref (kG + 1)), b6, some (.ref kc), none, none, some (.p (.int (.ofNat p))), some (.p (.int (.ofNat cnt))), some (.p (.int (.ofNat w))), none, none], fun _ _ => False, fun _ _ => False, fun _ _ => False, nX⟩) ?_ ?_ (fun _ _ zQ => zQ.elim) (fun _ _ zQ => zQ.elim) (fun _ _ zQ => zQ.elim) (fun _ _ _ zQ => zQ.elim))
  ·-- one of them is bent
   have dM : ∀ x ∈ M.map P.int, Dat x ∧ dep x ≤ 1 := fun x mx => by
    obtain ⟨i, _, rfl⟩ := List.mem_map.mp mx
    exact ⟨jCC, Nat.zero_le _⟩
   refine jBl (jA9 (jAe rfl (jCh (jAz ⟨rfl, ?_⟩))))
   refine jAg (jIf (jAm gc) jAr) ⟨_, rfl, ?_⟩
   have gc3 : (h2.nw (.lst [])).get kc = _ := jAm gc
   have gG3 : (h2.nw (.lst [])).get kG = _ := jAm gG2
   have gW3 : (h2.nw (.lst [])).get (kG + 1) = _ := jAm gW2
   have T3 : Tin (h2.nw (.lst [])) t (m + 3 + cnt * (w + 3) + cnt) := T2.gr .nw
   have G3 : GrX t h (h2.nw (.lst [])) := G2.nw
   generalize h2.nw (.lst []) = h3 at gc3 gG3 gW3 T3 G3
   cases hM : isN (upI M) with
   | false =>
    refine okS_f (ok_nop ⟨M.map P.int, by rw [jCr]; exact gc3, dM, by rw [List.length_map]; exact fM.1, gG3, gW3, G3, rfl⟩)
   | true =>
    have pos : 0 < w := by
     rw [← fM.1]
     cases M with
     | nil => cases hM
     | cons _ _ => exact Nat.succ_pos _
    refine okS_t (ok_putA (jAA (jAf (jAe rfl (jAf (jCh ?_)))))) 
    refine jAf (jAe rfl (jAf (jAk (ok_c (jAg o_neg ?_)))))
    refine jAf (ok_c (jAf (ok_c (jAf (ok_c (jAf (ok_c (jAf (jA9 (jAe rfl (ok_c (jAg o_sub ?_))))))))))))
    refine jAf (jFx (jAf (ok_c (jAz ⟨_, jHf, ?_⟩))))
    refine jAf (jA9 (jAe rfl (ok_c (jAg jCA (jAz ⟨rfl, jAz ?_⟩)))))
    refine jGk hof ht (T3.gr .nw) (by omega) jAr (by show 0 < 9; decide) (by show 9 < 1000000; decide) (by have := jB7 gc3; omega) fun r' v h4 ev T4 G4 n4 => ?_
    obtain ⟨vp, rfl, dv1, dv2⟩ : Odd v := by
     match r', ev with
     | 0, ev => cases ev; exact ⟨_, rfl, jCC, Nat.zero_le _⟩
     | 1, ev => cases ev; exact ⟨_, rfl, jCC, Nat.zero_le _⟩
     | 2, ev => cases ev; exact ⟨_, rfl, (fun _ eQ => nomatch eQ), Nat.zero_le _⟩
     | 3, ev => cases ev; exact ⟨_, rfl, (fun _ eQ => nomatch eQ), Nat.zero_le _⟩
     | 4, ev => cases ev; exact ⟨_, rfl, (fun _ eQ => nomatch eQ), Nat.zero_le _⟩
     | 5, ev => cases ev; exact ⟨_, rfl, jCC, Nat.zero_le _⟩
     | 6, ev => cases ev; exact ⟨_, rfl, jCC, Nat.zero_le _⟩
     | 7, ev => cases ev; exact ⟨_, rfl, (fun _ eQ => nomatch eQ), by decide⟩
     | 8, ev => cases ev; exact ⟨_, rfl, jCC, Nat.zero_le _⟩
    have gX : ∀ {kk : Nat} {o : O}, kk ≠ t → h3.get kk = some o → h4.get kk = some o := fun ne g => G4.k ne (jAm g)
    refine jAe rfl ⟨kc, rfl, jC8 (ht (n + 6)) (jAl rfl) (jAl rfl) T4 (by omega) pos (by omega) fun j h6 hj T6 G6 n6 => ⟨j, upI M, rfl, G6.k (by omega) (gX (by omega) gc3), by rw [jBe, fM.1]; exact hj, ?_⟩⟩
    have gc6 := G6.k (i := kc) (by omega) (gX (by omega) gc3)
    have eQ : (upI M).set j (.p vp) = upP ((M.map P.int).set j vp) := by rw [← jCr, jCX, jCX, List.map_set]
    rw [eQ]
    refine ⟨(M.map P.int).set j vp, get_put gc6, fun x mx => ?_, by rw [List.length_set, List.length_map]; exact fM.1, jBb gc6 (G6.k (by omega) (gX (by omega) gG3)) (by omega), jBb gc6 (G6.k (by omega) (gX (by omega) gW3)) (by omega), ?_, rfl⟩
    ·rcases List.mem_or_eq_of_mem_set mx with mx | rfl
     ·exact dM x mx
     ·exact ⟨dv1, dv2⟩
    ·exact (((G3.nw).trans G4).trans G6).put' gc6 (by omega)
  ·rintro σQ h5 ⟨l, gc5, dl, ll, gG5, gW5, G5, rfl⟩
   have dmxl : dmx l ≤ 2 := jFb (n := 1) fun x mx => (dl x mx).2
   show OkS (sSeq _ _ (lev (tab ns) (n + 7)) [some (.ref t), some (.p (.tup mv lv)), some (tI 101 fs), some (tI md M), some (.ref kG), some (.ref (kG + 1)), b6, some (.ref kc), none, none, some (.p (.int (.ofNat p))), some (.p (.int (.ofNat cnt))), some (.p (.int (.ofNat w))), none, none] h5) _
   refine jA4 (jBa (jAk (jAe rfl (jAg (o_tupP (by omega) (by omega) gc5) ?_))))
   show OkS (sSeq _ _ (lev (tab ns) (n + 7)) [some (.ref t), some (.p (.tup mv lv)), some (tI 101 fs), some (tI md M), some (.ref kG), some (.ref (kG + 1)), b6, some (.ref kc), some (.p (.tup (dmx l + 100) l)), none, some (.p (.int (.ofNat p))), some (.p (.int (.ofNat cnt))), some (.p (.int (.ofNat w))), none, none] h5) _
   refine jA4 (jBa (jA9 (bad_comp (fun x mx => (dl x mx).1) (by omega) fun h6 kf acc G6 g6 e6 => ?_)))
   refine jCh (jAz ⟨rfl, jAg (o_eqNil (jAm g6) jAr) ?_⟩)
   have e6 : (!isN acc) = l.all (okP (Int.ofNat p)) := e6
   rw [e6]
   have G56 : Gr h5 (h6.nw (.lst [])) := G6.trans .nw
   generalize h6.nw (.lst []) = h7 at G56
   generalize hF : l.all (okP (Int.ofNat p)) = F
   show OkS (sSeq _ _ (lev (tab ns) (n + 7)) [some (.ref t), some (.p (.tup mv lv)), some (tI 101 fs), some (tI md M), some (.ref kG), some (.ref (kG + 1)), b6, some (.ref kc), some (.p (.tup (dmx l + 100) l)), some (.p (.bl F)), some (.p (.int (.ofNat p))), some (.p (.int (.ofNat cnt))), some (.p (.int (.ofNat w))), none, none] h7) _
   have gG7 := G56.k gG5
   have gW7 := G56.k gW5
   have allM : (M.map P.int).all (okP (Int.ofNat p)) = true := by
    rw [List.all_eq_true]
    intro x mx
    obtain ⟨i, mi, rfl⟩ := List.mem_map.mp mx
    have := fM.2 i mi
    show (decide (0 ≤ i) && decide (i < p)) = true
    rw [decide_eq_true this.1, decide_eq_true this.2]; rfl
   have datM : ∀ x ∈ M.map P.int, Dat x := fun x mx => by
    obtain ⟨i, _, rfl⟩ := List.mem_map.mp mx
    exact jCC
   have lM : (M.map P.int).length = w := by rw [List.length_map]; exact fM.1
   -- the four answers of is_row
   refine jA4 (jBa (jA9 (jAe rfl (jCh (jAf (jAA (jAf (jAe rfl (jAf (jAe rfl (jAf (jAe rfl (jAz ?_)))))))))))))
   refine jDc (n := n + 5) datM (by omega) ?_
   rw [lM, allM, decide_eq_true rfl, Bool.true_and]
   refine jAf (jAA (jAf (jAe rfl (jAf (jAe rfl (jAf (jA9 (jAe rfl (ok_c (jAg jCA (jAz ?_)))))))))))
   refine jDc (n := n + 5) (len := w + 1) datM (by omega) ?_
   rw [lM, decide_eq_false (by omega), Bool.false_and]
   refine jAf (jAA (jAf (jAk (jAe rfl (jCQ (o_lstS zd.sq) ?_)))))
   refine jAf (jAe rfl (jAf (jAe rfl (jAz ?_))))
   refine jI4 (n := n + 6) jAr ?_
   refine jAf (jAA (jAf (jAe rfl (jAf (jAe rfl (jAf (jAe rfl (jAz ?_))))))))
   refine jDc (n := n + 5) (fun x mx => (dl x mx).1) (by omega) ?_
   rw [ll, decide_eq_true rfl, hF, Bool.true_and]
   refine jAz ⟨rfl, jCQ (o_addL (jAm (jAm gG7)) jAr (jBN (by simp [jBe]; omega))) ?_⟩
   have gW9 : ((h7.nw (.lst (upI M))).nw (.lst [.p (.bl true), .p (.bl false), .p (.bl false), .p (.bl F)])).get (kG + 1) = some (.lst ([tI md M, tI md M] ++ upI is)) := jAm (jAm gW7)
   have G9 : Gr h5 ((h7.nw (.lst (upI M))).nw (.lst [.p (.bl true), .p (.bl false), .p (.bl false), .p (.bl F)])) := G56.trans (Gr.nw.trans .nw)
   generalize hA : ([tI 101 M, tI 101 M] ++ upI is) ++ [.p (.bl true), .p (.bl false), .p (.bl false), .p (.bl F)] = A
   have gA : (((h7.nw (.lst (upI M))).nw (.lst [.p (.bl true), .p (.bl false), .p (.bl false), .p (.bl F)])).nw (.lst A)).get ((h7.nw (.lst (upI M))).nw (.lst [.p (.bl true), .p (.bl false), .p (.bl false), .p (.bl F)])).n = some (.lst A) := jAr
   have gW10 := jAm (o1 := .lst A) gW9
   have G10 : Gr h5 (((h7.nw (.lst (upI M))).nw (.lst [.p (.bl true), .p (.bl false), .p (.bl false), .p (.bl F)])).nw (.lst A)) := G9.nwT
   generalize ((h7.nw (.lst (upI M))).nw (.lst [.p (.bl true), .p (.bl false), .p (.bl false), .p (.bl F)])).nw (.lst A) = h10 at gA gW10 G10
   generalize ((h7.nw (.lst (upI M))).nw (.lst [.p (.bl true), .p (.bl false), .p (.bl false), .p (.bl F)])).n = kA at gA
   show OkS (sRet _ (lev (tab ns) (n + 7)) [some (.ref t), some (.p (.tup mv lv)), some (tI 101 fs), some (tI md M), some (.ref kA), some (.ref (kG + 1)), b6, some (.ref kc), some (.p (.tup (dmx l + 100) l)), some (.p (.bl F)), some (.p (.int (.ofNat p))), some (.p (.int (.ofNat cnt))), some (.p (.int (.ofNat w))), none, none] h10) _
   refine jAT (jAA (jAf (jAe rfl (jAf (jA9 (jAe rfl (jCh (jAf (ok_c (jAf (ok_c (jAf (ok_c (jAf (jAe rfl (jAz ⟨rfl, ?_⟩))))))))))))))))
   refine jCQ (o_addL (jAm gW10) jAr (jBN (by simp [jBe]; omega))) (jAz ?_)
   have tw : Two (Sam ((h10.nw (.lst [.p (.bl true), .p (.bl false), .p (.bl false), .p (.bl F)])).nw (.lst (([tI md M, tI md M] ++ upI is) ++ [.p (.bl true), .p (.bl false), .p (.bl false), .p (.bl F)]))) 1) A (([tI md M, tI md M] ++ upI is) ++ [.p (.bl true), .p (.bl false), .p (.bl false), .p (.bl F)]) := by
    rw [← hA]
    have row : ∀ {h : EH}, Sam h 1 (tI 101 M) (tI md M) := fun {h} => .row (n := 0) .t101 zd (by rw [fM.1]; omega)
    exact ((Two.cons row (.cons row .nil)).app (jHI is)).app (.cons (.bl _) (.cons (.bl _) (.cons (.bl _) (.cons (.bl _) .nil))))
   have shA : ∀ {d : D} {zQ : List Int}, RowD d zQ → ∀ x ∈ ([d, d] ++ upI is) ++ [.p (.bl true), .p (.bl false), .p (.bl false), .p (.bl F)], Sh x := fun {d zQ} hd x mx => by
    rcases List.mem_append.mp mx with mx | mx
    ·rcases List.mem_append.mp mx with mx | mx
     ·rcases List.mem_cons.mp mx with eQ | mx
      ·rw [eQ]; exact Sh.row hd
      ·rw [List.mem_singleton.mp mx]; exact Sh.row hd
     ·exact Sh.ints x mx
    ·rcases List.mem_cons.mp mx with eQ | mx
     ·rw [eQ]; exact Nat.zero_le _
     ·rcases List.mem_cons.mp mx with eQ | mx
      ·rw [eQ]; exact Nat.zero_le _
      ·rcases List.mem_cons.mp mx with eQ | mx
       ·rw [eQ]; exact Nat.zero_le _
       ·rw [List.mem_singleton.mp mx]; exact Nat.zero_le _
   have lA : A.length ≤ 1000 := by rw [← hA]; simp [jBe]; omega
   refine jHR (n := 2) (m := n + 6) hsa (by omega) (.lst (jAm (jAm gA)) jAr tw.length lA (by rw [← hA]; exact shA (.t101 (xs := M))) (shA zd) tw.at) fun h' g => k h' ?_
   exact G5.trans ((G10.trans (Gr.nw.trans .nw)).trans g).toX
end
end Mi

namespace Mi
open PySem PySem.Spec L2
open PyProof.Rows hiding St
theorem valueZ (ns : List Int) (hl : ns.length ≤ 63) : jFs (runF ⟨1, 3, b_law⟩ (lev (tab ns) 59) [.p (.fn 999)] e0) = true := by
 have hb : Has (lev (tab ns)) 5 ⟨2, 3, bBox 3155002⟩ := hs rfl
 have hc : Has (lev (tab ns)) 7 ⟨2, 6, jDq ns⟩ := hs rfl
 have hand : ∀ h, jA8 (lev (tab ns) 59 16) [] h = .ok (.p (.bl true)) h := fun h => call_yes rfl (ek_hand ns)
 have key : OkE (runF ⟨1, 3, b_law⟩ (lev (tab ns) 59) [.p (.fn 999)] e0) (fun v _ => v = .p (.bl true)) nX := by
  refine jAQ rfl ?_
  show OkS (b_law (lev (tab ns) 59) [some (.p (.fn 999)), none, none] e0) _
  unfold b_law
  refine jA4 (jBl (jCg (jAA (jAz ?_))))
  refine jDt (hand _) ⟨true, rfl, false, rfl, okS_f (ok_nop ?_)⟩
  refine jA4 (jBa (jAA (jAf (jAe rfl (jAf (ok_c (jAz ?_)))))))
  refine jHE (n := 58) hc (by decide) hl fun cs l1 l2 => ?_
  show OkS (sRet _ (lev (tab ns) 59) [some (.p (.fn 999)), some (.ref 0), none] (e0.nw (li cs))) _
  refine jAT (jIY (n := 58) hb (by decide) (jAr (h := e0)) (by omega) (fun h1 kb T => ?_) rfl (fun _ => rfl) (fun _ => rfl) fun _ => rfl)
  exact jH4 (n := 51) T (by decide) fun h' g => ⟨rfl, g⟩
 obtain ⟨v, h, eQ, rfl⟩ := key.get
 rw [eQ]; rfl
end Mi

namespace Mi
noncomputable section
open PySem PySem.Spec L2
open PyProof.Rows hiding St
def insL : List (Nat × Str) := []
abbrev Pg : Program := PySem.Challenge.pw_anydlooks_k02_rows_sums_and_inverses
def ini (x : Str) (i : Nat) : IniD := ⟨x, defArgs (iniSt (top i)), defBody (iniSt (top i)), defScope (iniSt (top i))⟩
def fldL : List (Nat × Str) := []
def gof (K : PySem.W.Frag) (a : Addr) (w : World) (pns : List (Addr × HO)) : Gi := { K := K, pg := Pg, w := w, ic := fun cQ => (insL.lookup cQ).map fun x => He.ga K x, at_ := fun i => atL.getD i "", fa := fun k => if k < 19 then some (He.ga K (nm k)) else if k = 999 then some a else none, ca := fun cQ => (clsL.lookup cQ).map fun x => He.ga K x, fld := fun cQ => fldL.lookup cQ, pins := pns, prs := [], kb := kbs }
theorem jGz {w : World} {K : PySem.W.Frag} {mg : Str → Option Value} {base : Heap} {a : Addr} {pns : List (Addr × HO)} {ns : List Int} (cQ : obsM jAD jA3 jA2 K = valM jA3 jA2) (hm : mg "is_number" = some (.ref (He.ga K "is_number"))) (bl : Blt mg) (cn : Cns mg (gof K a w pns)) (ex : Exs Pg K mg (gof K a w pns)) (ic : Inss K (gof K a w pns).ic (gof K a w pns).at_) : jBD Pg w K mg base (gof K a w pns) 19 (tab ns) wh 0 := by
 obtain ⟨fd, F⟩ := jBc cQ 0 (d := ddf "is_number" (top 3))
 exact jAC (N := jCD) (ps := ["thing"]) F rfl rfl jDJ rfl rfl ⟨hm, F.kp, rfl⟩ (FunD.bindsN F fun _ _ _ _ _ _ us hl => match us, hl with | [_], _ => rfl) (kb0 rfl) fun k Φ fa => jGt rfl bl cn rfl ex ic ⟨rfl, rfl, rfl⟩ rfl (prs0 rfl) fa
theorem d_is_row {w : World} {K : PySem.W.Frag} {mg : Str → Option Value} {base : Heap} {a : Addr} {pns : List (Addr × HO)} {ns : List Int} (cQ : obsM jAD jA3 jA2 K = valM jA3 jA2) (hm : mg "is_row" = some (.ref (He.ga K "is_row"))) (bl : Blt mg) (cn : Cns mg (gof K a w pns)) (ex : Exs Pg K mg (gof K a w pns)) (ic : Inss K (gof K a w pns).ic (gof K a w pns).at_) : jBD Pg w K mg base (gof K a w pns) 19 (tab ns) wh 1 := by
 obtain ⟨fd, F⟩ := jBc cQ 1 (d := ddf "is_row" (top 5))
 exact jAC (N := jDA) (ps := ["thing", "prime", "length"]) F rfl rfl jGS rfl rfl ⟨hm, F.kp, rfl⟩ (FunD.bindsN F fun _ _ _ _ _ _ us hl => match us, hl with | [_, _, _], _ => rfl) (fun q hq => by
  have hq : q ∈ [jBS] := hq
  simp only [List.mem_cons, List.not_mem_nil, or_false] at hq
  subst hq
  exact ⟨[], [], .nil, fun _ => .nil, fun s us ws _ h1 h2 => by
    obtain ⟨oc, od, dV, kV, doc, pm, an, cdv, ct, osl, e1, e2, e3, e4, e5⟩ := F.ex
    subst e1
    rcases e4 with ⟨_, e4⟩ | ⟨e4, _⟩
    ·subst e4
     exact match us, ws, h1, h2 with | [], [_, _, _], _, _ => .of_eq rfl
    ·exact absurd rfl e4⟩) fun k Φ fa => g_is_row rfl bl cn rfl ex ic ⟨rfl, rfl, rfl⟩ rfl (prs0 rfl) fa
theorem jIO {w : World} {K : PySem.W.Frag} {mg : Str → Option Value} {base : Heap} {a : Addr} {pns : List (Addr × HO)} {ns : List Int} (cQ : obsM jAD jA3 jA2 K = valM jA3 jA2) (hm : mg "inverse" = some (.ref (He.ga K "inverse"))) (bl : Blt mg) (cn : Cns mg (gof K a w pns)) (ex : Exs Pg K mg (gof K a w pns)) (ic : Inss K (gof K a w pns).ic (gof K a w pns).at_) : jBD Pg w K mg base (gof K a w pns) 19 (tab ns) wh 2 := by
 obtain ⟨fd, F⟩ := jBc cQ 2 (d := ddf "inverse" (top 6))
 exact jAC (N := jEg) (ps := ["prime", "residue"]) F rfl rfl jFq rfl rfl ⟨hm, F.kp, rfl⟩ (FunD.bindsN F fun _ _ _ _ _ _ us hl => match us, hl with | [_, _], _ => rfl) (fun q hq => by
  have hq : q ∈ [jB6] := hq
  simp only [List.mem_cons, List.not_mem_nil, or_false] at hq
  subst hq
  exact ⟨[], [], .nil, fun _ => .nil, fun s us ws _ h1 h2 => by
    obtain ⟨oc, od, dV, kV, doc, pm, an, cdv, ct, osl, e1, e2, e3, e4, e5⟩ := F.ex
    subst e1
    rcases e4 with ⟨_, e4⟩ | ⟨e4, _⟩
    ·subst e4
     exact match us, ws, h1, h2 with | [], [_, _], _, _ => .of_eq rfl
    ·exact absurd rfl e4⟩) fun k Φ fa => jIC rfl bl cn rfl ex ic ⟨rfl, rfl, rfl⟩ rfl (prs0 rfl) fa
theorem d_row_by {w : World} {K : PySem.W.Frag} {mg : Str → Option Value} {base : Heap} {a : Addr} {pns : List (Addr × HO)} {ns : List Int} (cQ : obsM jAD jA3 jA2 K = valM jA3 jA2) (hm : mg "row_by" = some (.ref (He.ga K "row_by"))) (bl : Blt mg) (cn : Cns mg (gof K a w pns)) (ex : Exs Pg K mg (gof K a w pns)) (ic : Inss K (gof K a w pns).ic (gof K a w pns).at_) : jBD Pg w K mg base (gof K a w pns) 19 (tab ns) wh 3 := by
 obtain ⟨fd, F⟩ := jBc cQ 3 (d := ddf "row_by" (top 7))
 exact jAC (N := jD9) (ps := ["prime", "rows", "factors", "length"]) F rfl rfl jGR rfl rfl ⟨hm, F.kp, rfl⟩ (FunD.bindsN F fun _ _ _ _ _ _ us hl => match us, hl with | [_, _, _, _], _ => rfl) (fun q hq => by
  have hq : q ∈ [jBR] := hq
  simp only [List.mem_cons, List.not_mem_nil, or_false] at hq
  subst hq
  exact ⟨[], [], .nil, fun _ => .nil, fun s us ws _ h1 h2 => by
    obtain ⟨oc, od, dV, kV, doc, pm, an, cdv, ct, osl, e1, e2, e3, e4, e5⟩ := F.ex
    subst e1
    rcases e4 with ⟨_, e4⟩ | ⟨e4, _⟩
    ·subst e4
     exact match us, ws, h1, h2 with | [], [_, _, _, _], _, _ => .of_eq rfl
    ·exact absurd rfl e4⟩) fun k Φ fa => g_row_by rfl bl cn rfl ex ic ⟨rfl, rfl, rfl⟩ rfl (prs0 rfl) fa
theorem jIN {w : World} {K : PySem.W.Frag} {mg : Str → Option Value} {base : Heap} {a : Addr} {pns : List (Addr × HO)} {ns : List Int} (cQ : obsM jAD jA3 jA2 K = valM jA3 jA2) (hm : mg "product" = some (.ref (He.ga K "product"))) (bl : Blt mg) (cn : Cns mg (gof K a w pns)) (ex : Exs Pg K mg (gof K a w pns)) (ic : Inss K (gof K a w pns).ic (gof K a w pns).at_) : jBD Pg w K mg base (gof K a w pns) 19 (tab ns) wh 4 := by
 obtain ⟨fd, F⟩ := jBc cQ 4 (d := ddf "product" (top 8))
 exact jAC (N := jCW) (ps := ["prime", "row", "other"]) F rfl rfl jFp rfl rfl ⟨hm, F.kp, rfl⟩ (FunD.bindsN F fun _ _ _ _ _ _ us hl => match us, hl with | [_, _, _], _ => rfl) (fun q hq => by
  have hq : q ∈ [jB5] := hq
  simp only [List.mem_cons, List.not_mem_nil, or_false] at hq
  subst hq
  exact ⟨[], [], .nil, fun _ => .nil, fun s us ws _ h1 h2 => by
    obtain ⟨oc, od, dV, kV, doc, pm, an, cdv, ct, osl, e1, e2, e3, e4, e5⟩ := F.ex
    subst e1
    rcases e4 with ⟨_, e4⟩ | ⟨e4, _⟩
    ·subst e4
     exact match us, ws, h1, h2 with | [], [_, _, _], _, _ => .of_eq rfl
    ·exact absurd rfl e4⟩) fun k Φ fa => jIB rfl bl cn rfl ex ic ⟨rfl, rfl, rfl⟩ rfl (prs0 rfl) fa
theorem jHB {w : World} {K : PySem.W.Frag} {mg : Str → Option Value} {base : Heap} {a : Addr} {pns : List (Addr × HO)} {ns : List Int} (cQ : obsM jAD jA3 jA2 K = valM jA3 jA2) (hm : mg "_law_box" = some (.ref (He.ga K "_law_box"))) (bl : Blt mg) (cn : Cns mg (gof K a w pns)) (ex : Exs Pg K mg (gof K a w pns)) (ic : Inss K (gof K a w pns).ic (gof K a w pns).at_) : jBD Pg w K mg base (gof K a w pns) 19 (tab ns) wh 5 := by
 obtain ⟨fd, F⟩ := jBc cQ 5 (d := ddf "_law_box" (top 10))
 exact jAC (N := jDg) (ps := ["script", "k"]) F rfl rfl jEv rfl rfl ⟨hm, F.kp, rfl⟩ (FunD.bindsN F fun _ _ _ _ _ _ us hl => match us, hl with | [_, _], _ => rfl) (kb0 rfl) fun k Φ fa => jHA rfl bl cn rfl ex ic ⟨rfl, rfl, rfl⟩ rfl (prs0 rfl) fa
theorem jG0 {w : World} {K : PySem.W.Frag} {mg : Str → Option Value} {base : Heap} {a : Addr} {pns : List (Addr × HO)} {ns : List Int} (cQ : obsM jAD jA3 jA2 K = valM jA3 jA2) (hm : mg "_law_take" = some (.ref (He.ga K "_law_take"))) (bl : Blt mg) (cn : Cns mg (gof K a w pns)) (ex : Exs Pg K mg (gof K a w pns)) (ic : Inss K (gof K a w pns).ic (gof K a w pns).at_) : jBD Pg w K mg base (gof K a w pns) 19 (tab ns) wh 6 := by
 obtain ⟨fd, F⟩ := jBc cQ 6 (d := ddf "_law_take" (top 11))
 exact jAC (N := jCE) (ps := ["tin", "below_so"]) F rfl rfl jDK rfl rfl ⟨hm, F.kp, rfl⟩ (FunD.bindsN F fun _ _ _ _ _ _ us hl => match us, hl with | [_, _], _ => rfl) (kb0 rfl) fun k Φ fa => jGu rfl bl cn rfl ex ic ⟨rfl, rfl, rfl⟩ rfl (prs0 rfl) fa
theorem jFQ {w : World} {K : PySem.W.Frag} {mg : Str → Option Value} {base : Heap} {a : Addr} {pns : List (Addr × HO)} {ns : List Int} (hs : Scr K (gof K a w pns) ns) (cQ : obsM jAD jA3 jA2 K = valM jA3 jA2) (hm : mg "_law_cells" = some (.ref (He.ga K "_law_cells"))) (bl : Blt mg) (cn : Cns mg (gof K a w pns)) (ex : Exs Pg K mg (gof K a w pns)) (ic : Inss K (gof K a w pns).ic (gof K a w pns).at_) : jBD Pg w K mg base (gof K a w pns) 19 (tab ns) wh 7 := by
 obtain ⟨fd, F⟩ := jBc cQ 7 (d := ddf "_law_cells" (top 12))
 exact jAC (N := jCp) (ps := ["script", "most_so"]) F rfl rfl jDn rfl rfl ⟨hm, F.kp, rfl⟩ (FunD.bindsN F fun _ _ _ _ _ _ us hl => match us, hl with | [_, _], _ => rfl) (kb0 rfl) fun k Φ fa => jFF hs rfl bl cn rfl ex ic ⟨rfl, rfl, rfl⟩ rfl (prs0 rfl) fa
theorem jIP {w : World} {K : PySem.W.Frag} {mg : Str → Option Value} {base : Heap} {a : Addr} {pns : List (Addr × HO)} {ns : List Int} (cQ : obsM jAD jA3 jA2 K = valM jA3 jA2) (hm : mg "_law_of" = some (.ref (He.ga K "_law_of"))) (bl : Blt mg) (cn : Cns mg (gof K a w pns)) (ex : Exs Pg K mg (gof K a w pns)) (ic : Inss K (gof K a w pns).ic (gof K a w pns).at_) : jBD Pg w K mg base (gof K a w pns) 19 (tab ns) wh 8 := by
 obtain ⟨fd, F⟩ := jBc cQ 8 (d := ddf "_law_of" (top 13))
 exact jAC (N := jEh) (ps := ["tin", "goods_so"]) F rfl rfl jFr rfl rfl ⟨hm, F.kp, rfl⟩ (FunD.bindsN F fun _ _ _ _ _ _ us hl => match us, hl with | [_, _], _ => rfl) (kb0 rfl) fun k Φ fa => jID rfl bl cn rfl ex ic ⟨rfl, rfl, rfl⟩ rfl (prs0 rfl) fa
theorem jFO {w : World} {K : PySem.W.Frag} {mg : Str → Option Value} {base : Heap} {a : Addr} {pns : List (Addr × HO)} {ns : List Int} (cQ : obsM jAD jA3 jA2 K = valM jA3 jA2) (hm : mg "_law_lists" = some (.ref (He.ga K "_law_lists"))) (bl : Blt mg) (cn : Cns mg (gof K a w pns)) (ex : Exs Pg K mg (gof K a w pns)) (ic : Inss K (gof K a w pns).ic (gof K a w pns).at_) : jBD Pg w K mg base (gof K a w pns) 19 (tab ns) wh 9 := by
 obtain ⟨fd, F⟩ := jBc cQ 9 (d := ddf "_law_lists" (top 14))
 exact jAC (N := jBA) (ps := ["matter"]) F rfl rfl jDl rfl rfl ⟨hm, F.kp, rfl⟩ (FunD.bindsN F fun _ _ _ _ _ _ us hl => match us, hl with | [_], _ => rfl) (kb0 rfl) fun k Φ fa => jFD rfl bl cn rfl ex ic ⟨rfl, rfl, rfl⟩ rfl (prs0 rfl) fa
theorem jG1 {w : World} {K : PySem.W.Frag} {mg : Str → Option Value} {base : Heap} {a : Addr} {pns : List (Addr × HO)} {ns : List Int} (cQ : obsM jAD jA3 jA2 K = valM jA3 jA2) (hm : mg "_law_same" = some (.ref (He.ga K "_law_same"))) (bl : Blt mg) (cn : Cns mg (gof K a w pns)) (ex : Exs Pg K mg (gof K a w pns)) (ic : Inss K (gof K a w pns).ic (gof K a w pns).at_) : jBD Pg w K mg base (gof K a w pns) 19 (tab ns) wh 10 := by
 obtain ⟨fd, F⟩ := jBc cQ 10 (d := ddf "_law_same" (top 15))
 exact jAC (N := jBV) (ps := ["got", "due"]) F rfl rfl jDL rfl rfl ⟨hm, F.kp, rfl⟩ (FunD.bindsN F fun _ _ _ _ _ _ us hl => match us, hl with | [_, _], _ => rfl) (kb0 rfl) fun k Φ fa => jGv rfl bl cn rfl ex ic ⟨rfl, rfl, rfl⟩ rfl (prs0 rfl) fa
theorem jG2 {w : World} {K : PySem.W.Frag} {mg : Str → Option Value} {base : Heap} {a : Addr} {pns : List (Addr × HO)} {ns : List Int} (cQ : obsM jAD jA3 jA2 K = valM jA3 jA2) (hm : mg "_law_plus" = some (.ref (He.ga K "_law_plus"))) (bl : Blt mg) (cn : Cns mg (gof K a w pns)) (ex : Exs Pg K mg (gof K a w pns)) (ic : Inss K (gof K a w pns).ic (gof K a w pns).at_) : jBD Pg w K mg base (gof K a w pns) 19 (tab ns) wh 11 := by
 obtain ⟨fd, F⟩ := jBc cQ 11 (d := ddf "_law_plus" (top 16))
 exact jAC (N := jBW) (ps := ["p", "one_so", "two_so", "factor_so"]) F rfl rfl jDM rfl rfl ⟨hm, F.kp, rfl⟩ (FunD.bindsN F fun _ _ _ _ _ _ us hl => match us, hl with | [_, _, _, _], _ => rfl) (kb0 rfl) fun k Φ fa => jGw rfl bl cn rfl ex ic ⟨rfl, rfl, rfl⟩ rfl (prs0 rfl) fa
theorem jFN {w : World} {K : PySem.W.Frag} {mg : Str → Option Value} {base : Heap} {a : Addr} {pns : List (Addr × HO)} {ns : List Int} (cQ : obsM jAD jA3 jA2 K = valM jA3 jA2) (hm : mg "_law_mixed" = some (.ref (He.ga K "_law_mixed"))) (bl : Blt mg) (cn : Cns mg (gof K a w pns)) (ex : Exs Pg K mg (gof K a w pns)) (ic : Inss K (gof K a w pns).ic (gof K a w pns).at_) : jBD Pg w K mg base (gof K a w pns) 19 (tab ns) wh 12 := by
 obtain ⟨fd, F⟩ := jBc cQ 12 (d := ddf "_law_mixed" (top 17))
 exact jAC (N := jCn) (ps := ["p", "vectors_so", "factors_so", "wide_so"]) F rfl rfl jDk rfl rfl ⟨hm, F.kp, rfl⟩ (FunD.bindsN F fun _ _ _ _ _ _ us hl => match us, hl with | [_, _, _, _], _ => rfl) (kb0 rfl) fun k Φ fa => jFC rfl bl cn rfl ex ic ⟨rfl, rfl, rfl⟩ rfl (prs0 rfl) fa
theorem jFL {w : World} {K : PySem.W.Frag} {mg : Str → Option Value} {base : Heap} {a : Addr} {pns : List (Addr × HO)} {ns : List Int} (cQ : obsM jAD jA3 jA2 K = valM jA3 jA2) (hm : mg "_law_times" = some (.ref (He.ga K "_law_times"))) (bl : Blt mg) (cn : Cns mg (gof K a w pns)) (ex : Exs Pg K mg (gof K a w pns)) (ic : Inss K (gof K a w pns).ic (gof K a w pns).at_) : jBD Pg w K mg base (gof K a w pns) 19 (tab ns) wh 13 := by
 obtain ⟨fd, F⟩ := jBc cQ 13 (d := ddf "_law_times" (top 18))
 exact jAC (N := jB9) (ps := ["p", "one_so", "two_so"]) F rfl rfl jDi rfl rfl ⟨hm, F.kp, rfl⟩ (FunD.bindsN F fun _ _ _ _ _ _ us hl => match us, hl with | [_, _, _], _ => rfl) (kb0 rfl) fun k Φ fa => jFA rfl bl cn rfl ex ic ⟨rfl, rfl, rfl⟩ rfl (prs0 rfl) fa
theorem jCy {w : World} {K : PySem.W.Frag} {mg : Str → Option Value} {base : Heap} {a : Addr} {pns : List (Addr × HO)} {ns : List Int} (cQ : obsM jAD jA3 jA2 K = valM jA3 jA2) (hm : mg "_law_drawn_vectors" = some (.ref (He.ga K "_law_drawn_vectors"))) (bl : Blt mg) (cn : Cns mg (gof K a w pns)) (ex : Exs Pg K mg (gof K a w pns)) (ic : Inss K (gof K a w pns).ic (gof K a w pns).at_) : jBD Pg w K mg base (gof K a w pns) 19 (tab ns) wh 14 := by
 obtain ⟨fd, F⟩ := jBc cQ 14 (d := ddf "_law_drawn_vectors" (top 19))
 exact jAC (N := jAK) (ps := ["tin", "p", "count_so", "wide_so"]) F rfl rfl jBu rfl rfl ⟨hm, F.kp, rfl⟩ (FunD.bindsN F fun _ _ _ _ _ _ us hl => match us, hl with | [_, _, _, _], _ => rfl) (kb0 rfl) fun k Φ fa => jCw rfl bl cn rfl ex ic ⟨rfl, rfl, rfl⟩ rfl (prs0 rfl) fa
theorem jFP {w : World} {K : PySem.W.Frag} {mg : Str → Option Value} {base : Heap} {a : Addr} {pns : List (Addr × HO)} {ns : List Int} (cQ : obsM jAD jA3 jA2 K = valM jA3 jA2) (hm : mg "_law_heard" = some (.ref (He.ga K "_law_heard"))) (bl : Blt mg) (cn : Cns mg (gof K a w pns)) (ex : Exs Pg K mg (gof K a w pns)) (ic : Inss K (gof K a w pns).ic (gof K a w pns).at_) : jBD Pg w K mg base (gof K a w pns) 19 (tab ns) wh 15 := by
 obtain ⟨fd, F⟩ := jBc cQ 15 (d := ddf "_law_heard" (top 20))
 exact jAC (N := jCo) (ps := ["p", "n"]) F rfl rfl jDm rfl rfl ⟨hm, F.kp, rfl⟩ (FunD.bindsN F fun _ _ _ _ _ _ us hl => match us, hl with | [_, _], _ => rfl) (kb0 rfl) fun k Φ fa => jFE rfl bl cn rfl ex ic ⟨rfl, rfl, rfl⟩ rfl (prs0 rfl) fa
theorem jCz {w : World} {K : PySem.W.Frag} {mg : Str → Option Value} {base : Heap} {a : Addr} {pns : List (Addr × HO)} {ns : List Int} (cQ : obsM jAD jA3 jA2 K = valM jA3 jA2) (hm : mg "_law_by_hand_right" = some (.ref (He.ga K "_law_by_hand_right"))) (bl : Blt mg) (cn : Cns mg (gof K a w pns)) (ex : Exs Pg K mg (gof K a w pns)) (ic : Inss K (gof K a w pns).ic (gof K a w pns).at_) : jBD Pg w K mg base (gof K a w pns) 19 (tab ns) wh 16 := by
 obtain ⟨fd, F⟩ := jBc cQ 16 (d := ddf "_law_by_hand_right" (top 21))
 exact jAC (N := jAt) (ps := []) F rfl rfl jBv rfl rfl ⟨hm, F.kp, rfl⟩ (FunD.bindsN F fun _ _ _ _ _ _ us hl => match us, hl with | [], _ => rfl) (kb0 rfl) fun k Φ fa => jCx rfl bl cn rfl ex ic ⟨rfl, rfl, rfl⟩ rfl (prs0 rfl) fa
theorem jFM {w : World} {K : PySem.W.Frag} {mg : Str → Option Value} {base : Heap} {a : Addr} {pns : List (Addr × HO)} {ns : List Int} (cQ : obsM jAD jA3 jA2 K = valM jA3 jA2) (hm : mg "_law_right" = some (.ref (He.ga K "_law_right"))) (bl : Blt mg) (cn : Cns mg (gof K a w pns)) (ex : Exs Pg K mg (gof K a w pns)) (ic : Inss K (gof K a w pns).ic (gof K a w pns).at_) : jBD Pg w K mg base (gof K a w pns) 19 (tab ns) wh 17 := by
 obtain ⟨fd, F⟩ := jBc cQ 17 (d := ddf "_law_right" (top 22))
 exact jAC (N := jBq) (ps := ["tin"]) F rfl rfl jDj rfl rfl ⟨hm, F.kp, rfl⟩ (FunD.bindsN F fun _ _ _ _ _ _ us hl => match us, hl with | [_], _ => rfl) (kb0 rfl) fun k Φ fa => jFB rfl bl cn rfl ex ic ⟨rfl, rfl, rfl⟩ rfl (prs0 rfl) fa
theorem d_law {w : World} {K : PySem.W.Frag} {mg : Str → Option Value} {base : Heap} {a : Addr} {pns : List (Addr × HO)} {ns : List Int} (cQ : obsM jAD jA3 jA2 K = valM jA3 jA2) (hm : mg "law" = some (.ref (He.ga K "law"))) (bl : Blt mg) (cn : Cns mg (gof K a w pns)) (ex : Exs Pg K mg (gof K a w pns)) (ic : Inss K (gof K a w pns).ic (gof K a w pns).at_) : jBD Pg w K mg base (gof K a w pns) 19 (tab ns) wh 18 := by
 obtain ⟨fd, F⟩ := jBc cQ 18 (d := ddf "law" (top 23))
 exact jAC (N := N_law) (ps := ["script"]) F rfl rfl s_law rfl rfl ⟨hm, F.kp, rfl⟩ (FunD.bindsN F fun _ _ _ _ _ _ us hl => match us, hl with | [_], _ => rfl) (kb0 rfl) fun k Φ fa => g_law rfl bl cn rfl ex ic ⟨rfl, rfl, rfl⟩ rfl (prs0 rfl) fa
theorem jHm {w : World} {K : PySem.W.Frag} {h : Heap} {mg : Str → Option Value} (X : K.In h) (N : h.Ns mainGlobals mg) (cQ : obsM jAD jA3 jA2 K = valM jA3 jA2) : Blt mg ∧ (∀ a pns, Cns mg (gof K a w pns)) ∧ (∀ a pns, Exs Pg K mg (gof K a w pns)) ∧ (∀ a pns, Inss K (gof K a w pns).ic (gof K a w pns).at_) := ⟨{
 len := jAJ X N (jAH cQ 0)
 tuple := jAJ X N (jAH cQ 1)
 list := jAJ X N (jAH cQ 2)
 all := jAJ X N (jAH cQ 3)
 any := jAJ X N (jAH cQ 4)
 sum := jAJ X N (jAH cQ 5)
 max := jAJ X N (jAH cQ 6)
 min := jAJ X N (jAH cQ 7)
 int := jAJ X N (jAH cQ 8)
 bool := jAJ X N (jAH cQ 9)
 str := jAJ X N (jAH cQ 10)
 abs := jAJ X N (jAH cQ 11)
 isinstance := jAJ X N (jAH cQ 12)
 range := jAJ X N (jAH cQ 13)
 enumerate := jAJ X N (jAH cQ 14)
 zip := jAJ X N (jAH cQ 15)
 reversed := jAJ X N (jAH cQ 16)
 set := jAJ X N (jAH cQ 17)
 sorted := jAJ X N (jAH cQ 18)
 dict := jAJ X N (jAH cQ 19)
 divmod := jAJ X N (jAH cQ 20) }, fun a pns => {
 tt := trivial }, fun a pns => {
 Unfit := exc0_mg X N PySem.F.excBase_ValueError (jAH cQ 22) (jAH cQ 21) rfl rfl
 tUnfit := ⟨_, jAZ X N (jAH cQ 21), takes_mg rfl (jAH cQ 23)⟩
 b_ValueError := jAJ X N (jAH cQ 24)
 iUnfit_ValueError := fun C h => by cases h; exact ⟨excC_mg (jAH cQ 25), kit_mg (jAH cQ 26)⟩ }, fun a pns => {
 at' := atOk_of (l := atL) (by decide +kernel) (by decide +kernel) }⟩
theorem all_mk {w : World} {K : PySem.W.Frag} {h base : Heap} {mg : Str → Option Value} {a : Addr} {pns : List (Addr × HO)} {ns : List Int} (hs : Scr K (gof K a w pns) ns) (X : K.In h) (N : h.Ns mainGlobals mg) (cQ : obsM jAD jA3 jA2 K = valM jA3 jA2) : ∀ j, j < 19 → jBD Pg w K mg base (gof K a w pns) 19 (tab ns) wh j := by
 obtain ⟨bl, cn, ex, ic⟩ := jHm (w := w) X N cQ
 exact (allS (allS (allS (allS (allS (allS (allS (allS (allS (allS (allS (allS (allS (allS (allS (allS (allS (allS (allS all0 (jGz (ns := ns) cQ (jAZ X N (jAH cQ 27)) bl (cn a pns) (ex a pns) (ic a pns))) (d_is_row (ns := ns) cQ (jAZ X N (jAH cQ 28)) bl (cn a pns) (ex a pns) (ic a pns))) (jIO (ns := ns) cQ (jAZ X N (jAH cQ 29)) bl (cn a pns) (ex a pns) (ic a pns))) (d_row_by (ns := ns) cQ (jAZ X N (jAH cQ 30)) bl (cn a pns) (ex a pns) (ic a pns))) (jIN (ns := ns) cQ (jAZ X N (jAH cQ 31)) bl (cn a pns) (ex a pns) (ic a pns))) (jHB (ns := ns) cQ (jAZ X N (jAH cQ 32)) bl (cn a pns) (ex a pns) (ic a pns))) (jG0 (ns := ns) cQ (jAZ X N (jAH cQ 33)) bl (cn a pns) (ex a pns) (ic a pns))) (jFQ hs cQ (jAZ X N (jAH cQ 34)) bl (cn a pns) (ex a pns) (ic a pns))) (jIP (ns := ns) cQ (jAZ X N (jAH cQ 35)) bl (cn a pns) (ex a pns) (ic a pns))) (jFO (ns := ns) cQ (jAZ X N (jAH cQ 36)) bl (cn a pns) (ex a pns) (ic a pns))) (jG1 (ns := ns) cQ (jAZ X N (jAH cQ 37)) bl (cn a pns) (ex a pns) (ic a pns))) (jG2 (ns := ns) cQ (jAZ X N (jAH cQ 38)) bl (cn a pns) (ex a pns) (ic a pns))) (jFN (ns := ns) cQ (jAZ X N (jAH cQ 39)) bl (cn a pns) (ex a pns) (ic a pns))) (jFL (ns := ns) cQ (jAZ X N (jAH cQ 40)) bl (cn a pns) (ex a pns) (ic a pns))) (jCy (ns := ns) cQ (jAZ X N (jAH cQ 41)) bl (cn a pns) (ex a pns) (ic a pns))) (jFP (ns := ns) cQ (jAZ X N (jAH cQ 42)) bl (cn a pns) (ex a pns) (ic a pns))) (jCz (ns := ns) cQ (jAZ X N (jAH cQ 43)) bl (cn a pns) (ex a pns) (ic a pns))) (jFM (ns := ns) cQ (jAZ X N (jAH cQ 44)) bl (cn a pns) (ex a pns) (ic a pns))) (d_law (ns := ns) cQ (jAZ X N (jAH cQ 45)) bl (cn a pns) (ex a pns) (ic a pns)))
def lawV (ns : List Int) : List D → EH → RE := runF ⟨1, 3, b_law⟩ (lev (tab ns) 59)
def sp (w : World) (K : PySem.W.Frag) : Sp := fun vs H Q E => ∃ a ns pns, vs = [.ref a] ∧ Scr K (gof K a w pns) ns ∧ spF (gof K a w pns) 1 (lawV ns) vs H Q E
theorem law_ok {w : World} {K : PySem.W.Frag} {h : Heap} {mg : Str → Option Value} {fa : Addr} (X : K.In h) (N : h.Ns mainGlobals mg) (cQ : obsM jAD jA3 jA2 K = valM jA3 jA2) (hm : mg "law" = some (.ref fa)) :
  ∃ fd : FuncData, (∀ (s : Shared) (u : Value), BindsTo s fd ⟨[u], []⟩ [("script", u)]) ∧ ∀ base : Heap, K.In base → base.Ns mainGlobals mg → FnOk Pg w K mg base (L2.CX Pg w) 120 fa fd ["script"] (sp w K) := by
 obtain ⟨fd, F⟩ := jBc cQ 18 (d := ddf "law" (top 23))
 have b := FunD.bindsA (ps := ["script"]) F fun _ _ _ _ _ _ us hl =>
    match us, hl with | [_], _ => rfl
 have eQ := hm.symm.trans (jAZ X N (jAH cQ 45))
 cases eQ
 refine ⟨fd, fun s v => b s [v] rfl, fun base _ _ => ⟨fun vs H Q E ⟨a, ns, pns, eQ, hs, h⟩ => by rw [eQ]; rfl, fun A outer s H args us vs Q E hr e0 btQ r ⟨a, ns, pns, eQ, hs, h⟩ => ?_⟩⟩
 obtain ⟨bl, cn, ex, ic⟩ := jHm (w := w) X N cQ
 exact (fn_okD (g := ⟨1, 3, b_law⟩) F s_law rfl rfl (g_law rfl bl (cn a pns) rfl (ex a pns) (ic a pns) ⟨rfl, rfl, rfl⟩ rfl (prs0 rfl) (fun i hi => fa_all (all_mk (w := w) (base := base) (a := a) hs X N cQ) 59 i hi))).run A outer s H args us vs Q E hr e0 btQ r h
end
end Mi

set_option maxHeartbeats 0
namespace Mi
open PySem
open PySem.W
open PySem.Calls
open PyProof.Rows
theorem value (ns : List Int) (hl : ns.length ≤ 63) : jFs (lawV ns [.p (.fn 999)] e0) = true := valueZ ns hl

theorem run (w : World) : CutEq Rw (view Rw.prog [23]) (hookM adr jAD jA3 jA2) (obM adr jAD jA3 jA2) (12 + (1 + (766 + 2))) names w := fun os => ⟨(StE 24 w os), ek_top w os, ek_r1 w os, ek_r2 w os, Option.some.inj (ek_r3 w os)⟩
end Mi
open PySem
open PySem.W
open PySem.Calls
open PyProof.Rows
theorem PySem.Challenge.cw_anydlooks_k02_rows_sums_and_inverses_holds : PySem.Challenge.rw_anydlooks_k02_rows_sums_and_inverses.Holds := by
 refine Mi.ek_head (fun s => Mi.obM_eq s) Mi.run ?_
 refine Mi.walk_w (l := PySem.Challenge.rw_anydlooks_k02_rows_sums_and_inverses) (n := 63) (k := 120) (x := "script") rfl (by decide) (by kernel_rfl) ⟨rfl, by decide, by decide⟩ ?F
 intro w mg fa h Y G hmg0
 obtain ⟨K, KX, cQ⟩ := Y
 have hmgQ : mg ("law" : PySem.Str) = some (.ref fa) := by
  have eQ : (HandSHeadRun.topDef (OpenLaw.row PySem.Challenge.rw_anydlooks_k02_rows_sums_and_inverses).prog 23).name = ("law" : PySem.Str) := by kernel_rfl
  rw [← eQ]
  exact hmg0
 obtain ⟨fd, hb, hF⟩ := Mi.law_ok (w := w) KX G cQ hmgQ
 exact ⟨K, fd, Mi.sp w K, KX, hb, fun H a ns hl hO hS => by
   obtain ⟨pns, h1, h2⟩ := Mi.scr_mk hO hS
   exact ⟨a, ns, pns, rfl, h2 _ rfl rfl rfl, Mi.sp_trueP rfl rfl rfl h1 (Mi.value ns hl)⟩, hF⟩

