import PyProof.Rows.All
import HandS.ExcInit
import HandS.ExcOwn
import KE.KExcInit
import KE.KTryMore
import PyProof.ExcBaseAll.ArithmeticError
import PyProof.ExcBaseAll.LookupError
import PyProof.ExcBaseAll.ValueError
import Wide.All
import OpenK.AllK
import Wide.FinOn
import KE.KStateDown
import Lean
import HandS.ForMost
import HandS.ForExc
import HandS.Wide
import HandS.Defaults
import HandS.Property
import HandS.OwnEq
import HandS.Head0
import HandS.Head1
import HandS.Head2
import HandS.HeadEnd
import HandS.HeadHook1
import HandS.HeadHook2
import HandS.HeadNt
import KE.KNestM
import KE.KSuper
import HandS.Lambda
import HandS.TupAny
import HandS.TupMul
import HandS.IsInst
import HandS.Zip
import HandS.CallSlots
import HandS.ClsMeth
import KE.KOpsOwn
import PyProof.FactsAll.int_1
import PyProof.Draws
import HandS.Zip0
import HandS.Style
import PyProof.EqAt
import PyProof.NeKinds
import PyProof.InstNe
import HandS.SortInts
import HandS.Deep
import PyProof.SumWalk
import HandS.Ends
import PyProof.ReprRoads
import HandS.RaiseMore
import HandS.Dict
import HandS.Text
import HandS.NoneIn
import HandS.Conv
import HandS.Iter
import HandS.SortRule
import HandS.SetKeys
import KE.KExcIs
import HandS.Star
import KE.KDflt
import HandS.FStr
import HandS.DeepEq
import HandS.Nested
import HandS.StrMore
import PyProof.CallRoads
import HandS.MakeKw
import HandS.Codes
import PySem.Challenge.RW_exactstats_k01_error_classes
set_option Elab.async false
set_option linter.all false
set_option maxRecDepth 100000
set_option maxHeartbeats 0
namespace L3
open PySem PySem.Spec PyProof.Rows L2
/-- K may end with a row that no look-up meets: the names of defs that make lambdas -/
def TK (K : PySem.W.Frag) : List Str := match K.getLast? with
  | some (_, ⟨.none, none, .fields vs, _⟩) => vs.toList.filterMap fun v => match v with
    | .str x _ => some x
    | _ => none
  | _ => []
/-- a def's code object, its table of code objects -/
def cdA (K : PySem.W.Frag) (x : Str) : Addr := match K.lookup (He.ga K x) with
  | some ⟨_, _, .func fd, _⟩ => (match fd.code with
    | .ref c => c
    | _ => 0)
  | _ => 0
def tA (K : PySem.W.Frag) (x : Str) : Addr := match K.lookup (cdA K x) with
  | some ⟨_, _, .fields vs, _⟩ => (match vs.getD 11 .none with
    | .ref P => P
    | _ => 0)
  | _ => 0
def clsBody : Stmt → List Stmt
  | .ClassDef _ _ _ body _ _ _ _ _ _ _ => body
  | _ => []
def eqB (a b : Option Bool) : Bool := decide (a = b)
def kisiB (K : PySem.W.Frag) : Bool := He.eqO (PySem.W.specialIn K (.builtin "object.__class__") "__get__") (some (some (.builtin "getset_descriptor.__get__"))) && eqB (PySem.W.takesIn K (.builtin "object.__class__")) (some true)
structure DefX where
  ad : PySem.W.Frag → Addr
  name : Str
  qual : Str
  params : Arguments
  body : List Stmt
  scope : Scope
  dfl : List He.Dv := []
  kwd : List (Str × He.Dv) := []
  sup : Bool := false
/-- what the def closes over: nothing, or (sup) the cell of its class -/
def supCl : Bool → List (Str × Addr)
  | true => [("__class__", 0)]
  | false => []
def DefX.val (d : DefX) : He.FnW := some (d.name, d.qual, d.params, .stmts d.body, d.scope, mainGlobals, supCl d.sup, builtinsNs)
def fnX (K : PySem.W.Frag) (a : Addr) : He.FnW := match K.lookup a with
  | some ⟨_, _, .func fd, _⟩ => some (fd.name, fd.qualname, fd.params, fd.body, fd.scope, fd.globals, fd.closure.map fun p => (p.1, 0), fd.builtins)
  | _ => none
def DefX.dvs (K : PySem.W.Frag) (d : DefX) : List V := d.dfl.map (He.Dv.v K)
def DefX.kws (K : PySem.W.Frag) (d : DefX) : List (Str × V) := d.kwd.map fun q => (q.1, q.2.v K)
def DefX.ok (K : PySem.W.Frag) (d : DefX) : Bool := PySem.W.keepIn K (.ref (d.ad K)) && (match K.lookup (d.ad K) with
  | some ⟨_, _, .func fd, _⟩ => PySem.W.codeIn K fd.code d.qual && (He.dflB K fd.defaults (d.dvs K) && He.kwdB K fd.kwdefaults (d.kws K))
  | _ => false)
abbrev AlX : Type := Bool × List He.FnW
def obsX (fa : List He.Fa) (xs : List (PySem.W.Frag → Bool)) (fn : List DefX) (K : PySem.W.Frag) : AlX := ((fa.all fun f => f.ok K) && ((xs.all fun x => x K) && fn.all fun d => d.ok K), fn.map fun d => fnX K (d.ad K))
def valX (fn : List DefX) : AlX := (true, fn.map DefX.val)
def SaysX (fa : List He.Fa) (xs : List (PySem.W.Frag → Bool)) (fn : List DefX) (K : PySem.W.Frag) : Prop := obsX fa xs fn K = valX fn
inductive EB where
  | ve | le | ae
def EB.B : EB → String
  | .ve => "ValueError" | .le => "LookupError" | .ae => "ArithmeticError"
def EB.bm (b : EB) : List Value := [.type b.B, .type "Exception", .type "BaseException", .type "object"]
def EB.nw : EB → String
  | .ve => "ValueError.__new__" | .le => "LookupError.__new__" | .ae => "ArithmeticError.__new__"
def EB.it : EB → String
  | .ve => "ValueError.__init__" | .le => "LookupError.__init__" | .ae => "ArithmeticError.__init__"
def efB (K : PySem.W.Frag) (C : Addr) (f : Str) : Bool := He.eqO (PySem.W.findIn K (.ref C) "__getattribute__") (some (some (.builtin "BaseException.__getattribute__"))) && (He.eqO (PySem.W.findIn K (.ref C) "__getattr__") (some none) &&
  (He.eqO (PySem.W.findIn K (.ref C) f) (some none) && (eqB (PySem.W.subIn K (.ref C) (.type "BaseException")) (some true) && PySem.W.hasDictIn K C)))
def oxB (b : EB) (c f : Str) (K : PySem.W.Frag) : Bool :=
  PySem.W.excInitIn K (He.ga K c) b.bm b.nw && (PySem.W.excOver K (He.ga K c) b.bm && (PySem.W.hasDictIn K (He.ga K c) && (He.eqO (PySem.W.findIn K (.ref (He.ga K c)) "__setattr__") (some (some (.builtin "object.__setattr__"))) &&
  (eqB (PySem.W.subIn K (.ref (He.ga K c)) (.type "BaseException")) (some true) && (decide (PySem.W.typeIn K (.ref (He.ga K c)) = some (.type "type")) && (PySem.W.keepIn K (.ref (He.ga K c)) &&
  (He.eqO (PySem.W.findIn K (.ref (He.ga K c)) "__init__") (some (some (.ref (He.ma K (He.ga K c) "__init__")))) && (PySem.W.isFn K (.ref (He.ma K (He.ga K c) "__init__")) && He.eqO (PySem.W.takerIn K (He.ga K c) f) (some none)))))))))
def ex0B (b : EB) (c : Str) (K : PySem.W.Frag) : Bool :=
  PySem.W.excIn K (He.ga K c) b.bm b.nw && (PySem.W.keepIn K (.ref (He.ga K c)) && (eqB (PySem.W.subIn K (.ref (He.ga K c)) (.type "BaseException")) (some true) && decide (PySem.W.typeIn K (.ref (He.ga K c)) = some (.type "type"))))
def hefB (cs : List Str) (f : Str) (K : PySem.W.Frag) : Bool := cs.all fun c => efB K (He.ga K c) f
end L3
namespace L3
open PySem PySem.Spec PyProof.Rows L2
def tbB : Obj → Bool
  | ⟨.none, none, .fields ws, zs⟩ => decide (ws.size = 0 ∧ zs.size = 0)
  | _ => false
theorem tbB_eq {o : Obj} (h : tbB o = true) : o = { cls := .none, data := .fields #[] } := by
  obtain ⟨c1, d1, d2, sl⟩ := o
  cases c1 with
  | none =>
    cases d1 with
    | none =>
      cases d2 with
      | fields ws =>
        obtain ⟨h1, h2⟩ := of_decide_eq_true (show decide (ws.size = 0 ∧ sl.size = 0) = true from h)
        rw [Array.eq_empty_of_size_eq_zero h1, Array.eq_empty_of_size_eq_zero h2]
      | _ => cases h
    | some d => cases d2 <;> cases h
  | _ => cases d1 <;> cases d2 <;> cases h
def mkT (names : List Str) : Addr × Obj := (mainGlobals, ⟨.none, none, .fields (names.map fun x => Value.str x 0).toArray, #[]⟩)
theorem lookup_app {α : Type} {a : Addr} {m : Addr × α} : ∀ {l : List (Addr × α)} {o : α}, (l ++ [m]).lookup a = some o → l.lookup a = some o ∨ (l.lookup a = none ∧ a = m.1)
  | [], o, h => by
    obtain ⟨b, x⟩ := m
    rw [List.nil_append, List.lookup_cons] at h
    cases q : (a == b) with
    | true => exact .inr ⟨rfl, eq_of_beq q⟩
    | false => rw [q] at h; cases h
  | (b, x) :: r, o, h => by
    rw [List.cons_append, List.lookup_cons] at h
    rw [List.lookup_cons]
    cases q : (a == b) with
    | true => rw [q] at h; exact .inl h
    | false => rw [q] at h; exact lookup_app h
theorem names_back : ∀ r : List Str, ((r.map fun x => Value.str x 0).filterMap fun v => match v with
    | .str x _ => some x
    | _ => none) = r
  | [] => rfl
  | x :: r => congrArg (x :: ·) (names_back r)
/-- isinstance of a caught exception -/
def exiB (K : PySem.W.Frag) (C : Addr) : Bool := (PySem.W.clsIn K C).isSome && (He.eqO (PySem.W.findIn K (.ref C) "__getattribute__") (some (some (.builtin "BaseException.__getattribute__"))) && (He.eqO (PySem.W.findIn K (.ref C) "__getattr__") (some none) &&
  (eqB (PySem.W.subIn K (.ref C) (.type "BaseException")) (some true) && (He.eqO (PySem.W.findIn K (.ref C) "__class__") (some (some (.builtin "object.__class__"))) && (He.eqO (PySem.W.specialIn K (.builtin "object.__class__") "__get__") (some (some (.builtin "getset_descriptor.__get__"))) &&
  (eqB (PySem.W.takesIn K (.builtin "object.__class__")) (some true) && eqB (PySem.W.mroIn K C (.type "object")) (some true)))))))
def isxA (K : PySem.W.Frag) (C : Addr) : List Str → Option Bool
  | [n] => PySem.W.kitOne K (.ref C) (.ref (He.ga K n))
  | ns => PySem.W.kitAny K (.ref C) (ns.map fun n => .ref (He.ga K n))
def isxB (ns all yes : List Str) (K : PySem.W.Frag) : Bool := all.all fun c => exiB K (He.ga K c) && eqB (isxA K (He.ga K c) ns) (some (decide (c ∈ yes)))
structure Tabs (h : Heap) (K : PySem.W.Frag) (names : List Str) : Prop where
  tk : TK K = names
  nd : (names.map (tA K)).Nodup
  hd : ∀ x ∈ names, PySem.W.CodeHd h (cdA K x) (tA K x)
  emp : ∀ x ∈ names, h.get? (tA K x) = some { cls := .none, data := .fields #[] }
  out : ∀ x ∈ names, K.lookup (tA K x) = none
end L3
namespace L3
open PySem PySem.W PySem.Calls PyProof.Rows HandSHeadRun
noncomputable section
def mkBT (i : Nat) (f : Nat → Obj) (n : Nat) : Nat → Nat → Nat → PySem.W.BT
  | 0, _, _ => .nil
  | k + 1, a, b => match Nat.blt b n with
    | true => .node (f b) (mkBT i f n k (2 * a) (a + b)) (mkBT i f n k (2 * a) (2 * a + b))
    | false => .nil
def lookN (i : Nat) : List (Nat × Obj) → Nat → Option Obj
  | [], _ => none
  | (a, o) :: r, b => match Nat.beq a b with
    | true => some o
    | false => lookN i r b
/-- the i-th state's objects: those of E in full, others by x -/
def pick (i : Nat) (E : List (Nat × Obj)) (x : Nat → Obj) (b : Nat) : Obj := match lookN i E b with
  | some o => o
  | none => x b
def stV (i : Nat) (E : List (Nat × Obj)) (x : Nat → Obj) (n k : Nat) (os : OsState) : SharedT := ⟨mkBT i (pick i E x) n 16 1 0, n, {}, #[], {}, k, os⟩
abbrev Seg : Type := Option (Flow × SharedT × Code × Pos)
/-- what stands at an address behind a piece -/
def objAt (i : Nat) (r : Seg) (b : Nat) : Obj := match r with
  | some (_, s, _, _) => (match s.tree.get b with
    | some o => o
    | none => default)
  | none => default
def segS (os : OsState) (r : Seg) : SharedT := match r with
  | some (_, s, _, _) => s
  | none => ⟨.nil, 0, {}, #[], {}, 0, os⟩
def preS (os : OsState) (r : Option (SharedT × Thread)) : SharedT := match r with
  | some (s, _) => s
  | none => ⟨.nil, 0, {}, #[], {}, 0, os⟩
def finS (os : OsState) (r : Option SharedT) : SharedT := match r with
  | some s => s
  | none => ⟨.nil, 0, {}, #[], {}, 0, os⟩
section
variable (st : SharedT → Thread → Option (SharedT × Thread)) (n0 : Nat) (ann : Option Value)
def segF : Nat → SharedT → Thread → Seg
  | 0, _, _ => none
  | m + 1, s, t => match endAt 1 t with
    | some f => some (f, s, t.code, t.pos)
    | none => match stepOk n0 ann t with
      | false => none
      | true => match st s t with
        | some (s', t') => frS s' fun s' => segF m s' t'
        | none => none
def goT : Nat → SharedT → Thread → Option (SharedT × Thread)
  | 0, s, t => some (s, t)
  | m + 1, s, t => match through t with
    | true => none
    | false => match stepOk n0 ann t with
      | false => none
      | true => match st s t with
        | some (s', t') => frS s' fun s' => goT m s' t'
        | none => none
end
section
variable {tb : String → Option Builtin} {p : Program} {w : World} {n0 : Nat} {ann : Option Value}
theorem segF_ok : ∀ {m : Nat} {s s' : SharedT} {t : Thread} {f : Flow} {c : Code} {q : Pos}, segF (stepT (denote tb) p w) n0 ann m s t = some (f, s', c, q) → segRun tb p w n0 ann 1 m s.abs t = some (f, s'.abs, c, q)
  | 0, _, _, _, _, _, _, h => by cases h
  | m + 1, s, s', t, f, c, q, h => by
    unfold segF at h
    unfold segRun
    cases he : endAt 1 t with
    | some x => rw [he] at h; cases h; rfl
    | none =>
      rw [he] at h
      cases hk : stepOk n0 ann t with
      | false => rw [hk] at h; cases h
      | true =>
        rw [hk] at h
        cases hs : stepT (denote tb) p w s t with
        | none => rw [hs] at h; cases h
        | some r =>
          obtain ⟨s2, t2⟩ := r
          rw [hs] at h
          have h3 : (frS s2 fun s' => segF (stepT (denote tb) p w) n0 ann m s' t2) = some (f, s', c, q) := h
          rw [frS_eq] at h3
          show (match step (denote tb) p w s.abs t with
            | .go s' t' => segRun tb p w n0 ann 1 m s' t'
            | .halt _ _ => none) = some (f, s'.abs, c, q)
          rw [stepT_spec hs]
          exact segF_ok h3
theorem goT_ok : ∀ {m : Nat} {s s' : SharedT} {t t' : Thread}, goT (stepT (denote tb) p w) n0 ann m s t = some (s', t') → topGo tb p w n0 ann m s.abs t = some (s'.abs, t')
  | 0, _, _, _, _, h => by cases h; rfl
  | m + 1, s, s', t, t', h => by
    unfold goT at h
    unfold topGo
    cases he : through t with
    | true => rw [he] at h; cases h
    | false =>
      rw [he] at h
      cases hk : stepOk n0 ann t with
      | false => rw [hk] at h; cases h
      | true =>
        rw [hk] at h
        cases hs : stepT (denote tb) p w s t with
        | none => rw [hs] at h; cases h
        | some r =>
          obtain ⟨s2, t2⟩ := r
          rw [hs] at h
          have h3 : (frS s2 fun s' => goT (stepT (denote tb) p w) n0 ann m s' t2) = some (s', t') := h
          rw [frS_eq] at h3
          show (match step (denote tb) p w s.abs t with
            | .go s' t' => topGo tb p w n0 ann m s' t'
            | .halt _ _ => none) = some (s'.abs, t')
          rw [stepT_spec hs]
          exact goT_ok h3
end
def execQ : List Stmt → Env → Sem Flow := PySem.W.Fast.tw12563942051412417395
theorem execQ_eq : @PySem.execs = execQ := PySem.W.Fast.te12563942051412417395
def blkQ : List Stmt → Env → Sem Unit := PySem.W.Fast.tw1066825118222455980
theorem blkQ_eq : @PySem.blockStart = blkQ := PySem.W.Fast.te1066825118222455980
def stQ (p : Program) (w : World) : SharedT → Thread → Option (SharedT × Thread) := stepQ (denQ tabQ) p w
theorem stQ_eq (p : Program) (w : World) : stepT (denote treeTable) p w = stQ p w := by
  unfold stQ
  rw [stepQ_eq, denQ_eq, tabQ_eq]
def pcsT (l : List Stmt) (env : Env) (c : Code) (p q : Pos) : Thread := ⟨(execQ l env).wrap doneF deadEnd id id, c, p, [topFrame q]⟩
def blkT (l : List Stmt) (env : Env) (c : Code) (p q : Pos) : Thread := ⟨(blkQ l env).wrap (fun _ => doneF .next) deadEnd id id, c, p, [topFrame q]⟩
section
variable {p : Program} {w : World} {env : Env} {q : Pos} {N M : Nat} {s s' : SharedT} {r : Shared}
abbrev n00 : Nat := 11
abbrev an0 : Option Value := some (.ref 6)
theorem cut_piece {l rest : List Stmt} {c : Code} {pos p' : Pos} (h : segF (stQ p w) n00 an0 N s (pcsT l env c pos q) = some (.next, s', c, p')) (k : topRun treeTable p w n00 an0 M s'.abs (restOf rest env c p' [topFrame q]) = some r) :
    topRun treeTable p w n00 an0 (N + M) s.abs (restOf (l ++ rest) env c pos [topFrame q]) = some r := by
  have e : piecesOf l env c pos [topFrame q] = pcsT l env c pos q := by
    unfold pcsT
    rw [← execQ_eq]
  rw [← stQ_eq, ← e] at h
  exact piece_app (segF_ok h) k
theorem cut_block {b : List Stmt} {c : Code} {pos p' : Pos} (h : segF (stQ p w) n00 an0 N s (blkT b env c pos q) = some (.next, s', c, p')) (k : topRun treeTable p w n00 an0 M s'.abs (restOf b env c p' [topFrame q]) = some r) :
    topRun treeTable p w n00 an0 (N + M) s.abs ⟨denote treeTable (.body b env), c, pos, [topFrame q]⟩ = some r := by
  have e : blockOf b env c pos [topFrame q] = blkT b env c pos q := by
    unfold blkT
    rw [← blkQ_eq]
  rw [← stQ_eq, ← e] at h
  exact piece_block (segF_ok h) k
theorem cut_pre {b : List Stmt} {c : Code} {pos : Pos} (h : goT (stQ p w) n00 an0 N s (topStub p) = some (s', ⟨denQ tabQ (.body b env), c, pos, [topFrame q]⟩)) (k : topRun treeTable p w n00 an0 M s'.abs ⟨denote treeTable (.body b env), c, pos, [topFrame q]⟩ = some r) :
    topRun treeTable p w n00 an0 (N + M) s.abs (topStub p) = some r := by
  rw [← stQ_eq, ← denQ_eq, ← tabQ_eq] at h
  exact go_top (goT_ok h) k
theorem cut_end {c : Code} {pos : Pos} (h : goF (stQ p w) n00 an0 N s ⟨doneF .next, c, pos, [topFrame q]⟩ = some s') : topRun treeTable p w n00 an0 N s.abs (restOf [] env c pos [topFrame q]) = some s'.abs := by
  rw [← stQ_eq] at h
  exact goF_ok h
end
def boot0 (w : World) (os : OsState) : SharedT := match putAll (boot_heap w.params).objs.toList .nil 0 with
  | some r => bootT w os r
  | none => ⟨.nil, 0, {}, #[], {}, 0, os⟩
theorem boot_put (P : Params) : (putAll (boot_heap P).objs.toList .nil 0).isSome = true := by kernel_rfl
theorem boot_len (P : Params) : (boot_heap P).objs.size = 11 := by kernel_rfl
theorem boot_an (w : World) : bootAnn w = some (.ref 6) := by kernel_rfl
theorem boot0_abs (w : World) (os : OsState) : (boot0 w os).abs = ⟨boot_heap w.params, #[], boot_drawn, boot_toks, os⟩ := by
  unfold boot0
  have h := boot_put w.params
  cases e : putAll (boot_heap w.params).objs.toList .nil 0 with
  | none => rw [e] at h; cases h
  | some r =>
    obtain ⟨t, n⟩ := r
    have eh := putAll_heap e
    show (⟨absHeap t n (boot_heap w.params).life, #[], boot_drawn, boot_toks, os⟩ : Shared) = _
    rw [eh]
theorem left_cut {p q : Program} {loose : List Str} {Xt : Shared → Bool} {α : Type} {Yf : Shared → α} {Ya : World → α} {N M : Nat}
    (e : opening p = plainProg p.main.scope.names) (hN : Nat.ble 600 N = true) (f : ∀ s, fenceModules? p s = some s) (le : Nat.ble M N = true) (S : World → OsState → SharedT)
    (run : ∀ (w : World) (os : OsState), topRun treeTable p w n00 an0 M (boot0 w os).abs (topStub p) = some (S w os).abs)
    (k1 : ∀ (w : World) (os : OsState), looksF p (boot_heap w.params) (S w os).abs = true) (k2 : ∀ (w : World) (os : OsState), openSeen q loose (importedModules p.main.body) Xt true (S w os).abs = openGood q loose)
    (k3 : ∀ (w : World) (os : OsState), Yf (S w os).abs = Ya w) : LeftO p q loose Xt Yf Ya N true := fun w => by
  obtain ⟨⟨h, gs, d, k, os⟩, a, a'⟩ := Option.map_eq_some_iff.mp (boot_open e hN f w)
  obtain ⟨rfl, rfl, rfl, rfl⟩ : h = boot_heap w.params ∧ gs = Array.mk [] ∧ d = boot_drawn ∧ k = boot_toks := by simpa using a'
  have r := topRun_mono (N - M) _ _ _ _ (run w os)
  rw [show M + (N - M) = N by have := Nat.le_of_ble_eq_true le; omega, boot0_abs] at r
  have l1' : (staticsOk (importedModules p.main.body) (boot_heap w.params) (S w os).abs.heap && namesBound p (S w os).abs.heap && gensDone (S w os).abs && laidKept (boot_heap w.params) (S w os).abs.heap) = true := k1 w os
  have r' : topRun treeTable p w (boot_heap w.params).objs.size (bootAnn w) N ⟨boot_heap w.params, #[], boot_drawn, boot_toks, os⟩ (topStub p) = some (S w os).abs := by
    rw [boot_len, boot_an]
    exact r
  have t : topFrom treeTable p w N ⟨boot_heap w.params, Array.mk [], boot_drawn, boot_toks, os⟩ = some (S w os).abs := by
    unfold topFrom
    dsimp only
    rw [boot_ns]
    show (topRun treeTable p w (boot_heap w.params).objs.size (bootAnn w) N ⟨boot_heap w.params, #[], boot_drawn, boot_toks, os⟩ (topStub p)).bind _ = _
    rw [r']
    show (match staticsOk (importedModules p.main.body) (boot_heap w.params) (S w os).abs.heap && namesBound p (S w os).abs.heap && gensDone (S w os).abs && laidKept (boot_heap w.params) (S w os).abs.heap with | true => some (S w os).abs | false => none) = _
    rw [l1']
  unfold openEnds
  rw [a]
  show (topFrom treeTable p w N _).map _ = _
  rw [t]
  exact congrArg some (Prod.ext (k2 w os) (k3 w os))
theorem head_cut {r : OpenRow} {q : Program} {H : Hook} {M : Nat} {loose : List PySem.Str} {d : DefRec} {kwd : List (PySem.Str × PySem.Expr)}
    (e : opening r.prog = plainProg r.prog.main.scope.names) (f : ∀ s, fenceModules? r.prog s = some s) (S : World → OsState → SharedT)
    (run : ∀ (w : World) (os : OsState), topRun treeTable r.prog w n00 an0 M (boot0 w os).abs (topStub r.prog) = some (S w os).abs)
    (k1 : ∀ (w : World) (os : OsState), looksF r.prog (boot_heap w.params) (S w os).abs = true)
    (k2 : ∀ (w : World) (os : OsState), seenQ q loose (importedModules r.prog.main.body) (fun s => xlAt q [] s && recOk r.toRowW.records s) (S w os).abs = openGood q loose)
    (k3 : ∀ (w : World) (os : OsState), H.obs (S w os).abs = H.val w)
    (hdef : defOf q r.name = some (d, kwd)) (hp : r.prog.theDef r.name = some (d.params, d.body, d.scope)) (hk : kwWritten? d.params.kwonlyargs d.params.kw_defaults = some kwd)
    (hwr : (!r.writes || r.records.isEmpty) = true) (w1 : r.wellSaid = true) (ok : (chainsOk q && opensWell r.prog && (frees r.toRowW && r.within.isEmpty)) = true) (hb : r.prog.bare) (hw : r.toRowW.promised)
    (call : WalkO q loose (XL q []) H.says r.toRowW d kwd fun f vs => PySem.call f vs) : r.Holds := by
  have left : LeftO r.prog q loose (fun s => xlAt q [] s && recOk r.toRowW.records s) H.obs H.val (M + 600) true :=
    left_cut (M := M) e (Nat.ble_eq_true_of_le (by omega)) f (Nat.ble_eq_true_of_le (by omega)) S run k1 (fun w os => by rw [seenQ_eq]; exact k2 w os) k3
  exact PySem.W.holds_open (r := r) (q := q) (loose := loose) (XP := XL q []) (YP := H.says) (d := d) (kwd := kwd) left H.of H.keeps (fun s z => xl_of s (Bool.and_eq_true_iff.mp z).1) XL.keeps hdef hp hk (fun s z => recFacts_of (Bool.and_eq_true_iff.mp z).2) hwr w1 ok hb hw call
end
end L3
namespace L3
open PySem PySem.Spec PyProof.Rows L2
def sel {α : Type} (j : Nat) : List Nat → List α → List α
  | c :: cs, d :: ds => match Nat.beq c j with
    | true => d :: sel j cs ds
    | false => sel j cs ds
  | _, _ => []
theorem sel_mem {α : Type} {x : α} : ∀ {cs : List Nat} {ds : List α}, cs.length = ds.length → x ∈ ds → ∃ j ∈ cs, x ∈ sel j cs ds
  | [], [], _, h => by cases h
  | c :: cs, d :: ds, e, h => by
    rcases List.mem_cons.mp h with h | h
    · refine ⟨c, List.mem_cons_self, ?_⟩
      unfold sel
      rw [show Nat.beq c c = true from Nat.beq_refl c, h]
      exact List.mem_cons_self
    · obtain ⟨j, hj, hx⟩ := sel_mem (cs := cs) (ds := ds) (by simpa using e) h
      refine ⟨j, List.mem_cons_of_mem _ hj, ?_⟩
      unfold sel
      cases Nat.beq c j with
      | true => exact List.mem_cons_of_mem _ hx
      | false => exact hx
theorem sel_all {α : Type} {p : α → Bool} {cs js : List Nat} {ds : List α} (e : Nat.beq cs.length ds.length = true) (h : (cs.all fun c => js.contains c) = true) (a : ∀ j ∈ js, (sel j cs ds).all p = true) : ds.all p = true := by
  refine List.all_eq_true.mpr fun x hx => ?_
  obtain ⟨j, hj, hm⟩ := sel_mem (Nat.eq_of_beq_eq_true e) hx
  have hj' : j ∈ js := by simpa using List.all_eq_true.mp h j hj
  exact List.all_eq_true.mp (a j hj') x hm
theorem sel_map {α β : Type} {f g : α → β} {cs js : List Nat} {ds : List α} (e : Nat.beq cs.length ds.length = true) (h : (cs.all fun c => js.contains c) = true) (a : ∀ j ∈ js, (sel j cs ds).map f = (sel j cs ds).map g) : ds.map f = ds.map g := by
  refine List.map_congr_left fun x hx => ?_
  obtain ⟨j, hj, hm⟩ := sel_mem (Nat.eq_of_beq_eq_true e) hx
  have hj' : j ∈ js := by simpa using List.all_eq_true.mp h j hj
  exact List.map_inj_left.mp (a j hj') x hm
def kOf (as : List Addr) (names : List Str) (g : Addr → Option Obj) : PySem.W.Frag := (as.map fun a => (a, (g a).getD default)) ++ [mkT names]
theorem lookup_map {g : Addr → Obj} {a : Addr} {o : Obj} : ∀ {as : List Addr}, (as.map fun a => (a, g a)).lookup a = some o → a ∈ as ∧ o = g a
  | [], h => by cases h
  | b :: r, h => by
    rw [List.map_cons, List.lookup_cons] at h
    cases q : (a == b) with
    | true =>
      rw [q] at h
      rw [eq_of_beq q]
      exact ⟨List.mem_cons_self, (Option.some.inj h).symm⟩
    | false =>
      rw [q] at h
      obtain ⟨h1, h2⟩ := lookup_map (as := r) h
      exact ⟨List.mem_cons_of_mem _ h1, h2⟩
theorem lookup_map_none {g : Addr → Obj} {a : Addr} : ∀ {as : List Addr}, (as.map fun a => (a, g a)).lookup a = none → a ∉ as
  | [], h => fun z => nomatch z
  | b :: r, h => by
    rw [List.map_cons, List.lookup_cons] at h
    cases q : (a == b) with
    | true => rw [q] at h; cases h
    | false =>
      rw [q] at h
      intro z
      rcases List.mem_cons.mp z with z | z
      · rw [z] at q
        simp at q
      · exact lookup_map_none h z
theorem kOf_at {g : Addr → Option Obj} {as : List Addr} {names : List Str} (h1 : (as.all fun a => (g a).isSome) = true) (h2 : mainGlobals ∈ as) {a : Addr} {o : Obj} (h : (kOf as names g).lookup a = some o) : a ∈ as ∧ g a = some o := by
  unfold kOf at h
  rcases lookup_app h with h | ⟨h3, h4⟩
  · obtain ⟨ha, e⟩ := lookup_map (g := fun a => (g a).getD default) h
    have hs := List.all_eq_true.mp h1 a ha
    cases q : g a with
    | none => rw [q] at hs; cases hs
    | some u =>
      rw [q] at e
      exact ⟨ha, by rw [e]; rfl⟩
  · have := lookup_map_none h3
    rw [h4] at this
    exact (this h2).elim
def tabA (as : List Addr) (names : List Str) (g : Addr → Option Obj) : Bool :=
  decide (names.map (tA (kOf as names g))).Nodup && names.all fun x => PySem.W.codeHdIn (kOf as names g) (cdA (kOf as names g) x) (tA (kOf as names g) x) && ((match g (tA (kOf as names g) x) with
    | some o => tbB o
    | none => false) && !as.contains (tA (kOf as names g) x))
def obsA (as : List Addr) (fa : List He.Fa) (xs : List (PySem.W.Frag → Bool)) (fn : List DefX) (names : List Str) (g : Addr → Option Obj) : AlX :=
  (((as.all fun a => (g a).isSome) && as.contains mainGlobals) && ((obsX fa xs fn (kOf as names g)).1 && tabA as names g), (obsX fa xs fn (kOf as names g)).2)
def hookA (as : List Addr) (fa : List He.Fa) (xs : List (PySem.W.Frag → Bool)) (fn : List DefX) (names : List Str) : PySem.W.Hook where
  α := AlX
  obs := fun s => obsA as fa xs fn names s.heap.get?
  val := fun _ => valX fn
  says := fun _ h => ∃ K : PySem.W.Frag, K.In h ∧ SaysX fa xs fn K ∧ Tabs h K names
  of := fun _ s e => by
    have e0 : obsA as fa xs fn names s.heap.get? = valX fn := e
    have e1 := (Prod.mk.inj e0).1
    have e2 := (Prod.mk.inj e0).2
    obtain ⟨a1, a2⟩ := He.ba e1
    obtain ⟨h1, h2⟩ := He.ba a1
    have h2 : mainGlobals ∈ as := by simpa using h2
    obtain ⟨a3, b1⟩ := He.ba a2
    obtain ⟨b2, b3⟩ := He.ba b1
    refine ⟨_, fun a o q => (kOf_at h1 h2 q).2, Prod.ext a3 e2, ?_, of_decide_eq_true b2, fun x hx => PySem.W.codeHd_of_K (fun a o q => (kOf_at h1 h2 q).2) (He.ba (List.all_eq_true.mp b3 x hx)).1, fun x hx => ?_, fun x hx => ?_⟩
    · unfold kOf TK
      rw [List.getLast?_append]
      exact names_back names
    · have z := (He.ba (He.ba (List.all_eq_true.mp b3 x hx)).2).1
      split at z
      · rename_i o eo
        rw [eo, tbB_eq z]
      · cases z
    · have z := (He.ba (He.ba (List.all_eq_true.mp b3 x hx)).2).2
      match q : (kOf as names s.heap.get?).lookup (tA (kOf as names s.heap.get?) x) with
      | none => rfl
      | some o =>
        have := (kOf_at h1 h2 q).1
        simp [this] at z
  keeps := fun _ _ _ ⟨K, hK, c, t⟩ k => ⟨K, PySem.W.Frag.In.keeps hK k, c, t.tk, t.nd, fun x hx => (t.hd x hx).keeps k, fun x hx => k _ _ (t.emp x hx), t.out⟩
theorem obsA_eq {as : List Addr} {fa : List He.Fa} {xs : List (PySem.W.Frag → Bool)} {fn : List DefX} {names : List Str} {g : Addr → Option Obj} {s : Shared} (h : ∀ a, g a = s.heap.get? a) : obsA as fa xs fn names g = (hookA as fa xs fn names).obs s := by
  have e : g = s.heap.get? := funext h
  rw [e] <;> rfl
/-- one part of it -/
def obsP (j : Nat) (pa pf px pn : List Nat) (as : List Addr) (fa : List He.Fa) (xs : List (PySem.W.Frag → Bool)) (fn : List DefX) (names : List Str) (g : Addr → Option Obj) : AlX :=
  (((sel j pa as).all fun a => (g a).isSome) && (((sel j pf fa).all fun f => f.ok (kOf as names g)) && (((sel j px xs).all fun x => x (kOf as names g)) && (sel j pn fn).all fun d => d.ok (kOf as names g))), (sel j pn fn).map fun d => fnX (kOf as names g) (d.ad (kOf as names g)))
def lensB (pa pf px pn js : List Nat) (as : List Addr) (fa : List He.Fa) (xs : List (PySem.W.Frag → Bool)) (fn : List DefX) : Bool :=
  (Nat.beq pa.length as.length && (Nat.beq pf.length fa.length && (Nat.beq px.length xs.length && Nat.beq pn.length fn.length))) && ((pa.all fun c => js.contains c) && ((pf.all fun c => js.contains c) && ((px.all fun c => js.contains c) && (pn.all fun c => js.contains c))))
theorem obs_parts {pa pf px pn js : List Nat} {as : List Addr} {fa : List He.Fa} {xs : List (PySem.W.Frag → Bool)} {fn : List DefX} {names : List Str} {s : PySem.W.SharedT} (l : lensB pa pf px pn js as fa xs fn = true) (hm : as.contains mainGlobals = true) (t : tabA as names (HandSHeadRun.getT s) = true)
    (h : ∀ j ∈ js, obsP j pa pf px pn as fa xs fn names (HandSHeadRun.getT s) = (true, (sel j pn fn).map DefX.val)) : (hookA as fa xs fn names).obs s.abs = valX fn := by
  rw [← obsA_eq (HandSHeadRun.getT_eq s)]
  obtain ⟨l1, l2⟩ := He.ba l
  obtain ⟨a1, l1⟩ := He.ba l1
  obtain ⟨f1, l1⟩ := He.ba l1
  obtain ⟨x1, n1⟩ := He.ba l1
  obtain ⟨a2, l2⟩ := He.ba l2
  obtain ⟨f2, l2⟩ := He.ba l2
  obtain ⟨x2, n2⟩ := He.ba l2
  have p1 := fun j (hj : j ∈ js) => He.ba (Prod.mk.inj (h j hj)).1
  have p2 := fun j (hj : j ∈ js) => (Prod.mk.inj (h j hj)).2
  have q1 := sel_all a1 a2 fun j hj => (p1 j hj).1
  have q2 := sel_all f1 f2 fun j hj => (He.ba (p1 j hj).2).1
  have q3 := sel_all x1 x2 fun j hj => (He.ba (He.ba (p1 j hj).2).2).1
  have q4 := sel_all n1 n2 fun j hj => (He.ba (He.ba (p1 j hj).2).2).2
  have q5 := sel_map n1 n2 p2
  unfold obsA obsX valX
  rw [q1, hm, q2, q3, q4, q5, t]
  rfl
/-- what stands behind a piece: objects that stood before it are met as before (those that it changed stand in full) -/
def nxV (i lo : Nat) (r : Seg) (x : Nat → Obj) (b : Nat) : Obj := match Nat.blt b lo with
  | true => x b
  | false => objAt i r b
end L3
namespace L3
open PySem PySem.Spec PyProof.Rows L2
end L3
namespace L3
open PySem PySem.Spec PyProof.Rows L2
def sysB (K : PySem.W.Frag) : Bool := (K.lookup sysModules).isSome
end L3
namespace L3
open PySem PySem.Spec PyProof.Rows L2
end L3
namespace L3
open PySem PySem.Spec PyProof.Rows L2
end L3
namespace L3
open PySem PySem.Spec PyProof.Rows L2
def isbB (n : String) (all yes : List Str) (K : PySem.W.Frag) : Bool := all.all fun c => exiB K (He.ga K c) && eqB (PySem.W.kitOne K (.ref (He.ga K c)) (.type n)) (some (decide (c ∈ yes)))
end L3
namespace Gk01
open PySem PySem.Spec PyProof.Rows L2 L3
def top (i : Nat) : Stmt := PySem.Challenge.pw_exactstats_k01_error_classes.main.body.getD i (.Pass ⟨0, 0, 0, 0⟩)
abbrev s_BadAmount___init__ : Stmt := ((clsBody (top 10)).getD 0 (.Pass ⟨0, 0, 0, 0⟩))
abbrev s_BadRule___init__ : Stmt := ((clsBody (top 9)).getD 0 (.Pass ⟨0, 0, 0, 0⟩))
abbrev s_BadShare___init__ : Stmt := ((clsBody (top 8)).getD 0 (.Pass ⟨0, 0, 0, 0⟩))
abbrev s_BadNumber___init__ : Stmt := ((clsBody (top 4)).getD 0 (.Pass ⟨0, 0, 0, 0⟩))
abbrev s_BadSample___init__ : Stmt := ((clsBody (top 5)).getD 0 (.Pass ⟨0, 0, 0, 0⟩))
abbrev s_BadSummary___init__ : Stmt := ((clsBody (top 14)).getD 0 (.Pass ⟨0, 0, 0, 0⟩))
abbrev s_BadText___init__ : Stmt := ((clsBody (top 13)).getD 0 (.Pass ⟨0, 0, 0, 0⟩))
abbrev s_BadName___init__ : Stmt := ((clsBody (top 12)).getD 0 (.Pass ⟨0, 0, 0, 0⟩))
abbrev s_BadEdges___init__ : Stmt := ((clsBody (top 11)).getD 0 (.Pass ⟨0, 0, 0, 0⟩))
abbrev s_BadPairs___init__ : Stmt := ((clsBody (top 7)).getD 0 (.Pass ⟨0, 0, 0, 0⟩))
abbrev s_BadWeights___init__ : Stmt := ((clsBody (top 6)).getD 0 (.Pass ⟨0, 0, 0, 0⟩))
abbrev s_Outside___init__ : Stmt := ((clsBody (top 18)).getD 0 (.Pass ⟨0, 0, 0, 0⟩))
abbrev s_NotThere___init__ : Stmt := ((clsBody (top 17)).getD 0 (.Pass ⟨0, 0, 0, 0⟩))
abbrev s_TooFew___init__ : Stmt := ((clsBody (top 16)).getD 0 (.Pass ⟨0, 0, 0, 0⟩))
abbrev s_NotPositive___init__ : Stmt := ((clsBody (top 22)).getD 0 (.Pass ⟨0, 0, 0, 0⟩))
abbrev s_TooMany___init__ : Stmt := ((clsBody (top 25)).getD 0 (.Pass ⟨0, 0, 0, 0⟩))
abbrev s_w_source : Stmt := (top 27)
abbrev s_w_next : Stmt := (top 28)
abbrev s_w_pick : Stmt := (top 29)
abbrev s_w_named : Stmt := (top 31)
abbrev s_w_made : Stmt := (top 30)
abbrev s_w_fields : Stmt := (top 32)
abbrev s_w_marks : Stmt := (top 33)
abbrev s_w_families : Stmt := (top 34)
abbrev s_law : Stmt := (top 35)
def D_w_source : DefX := ⟨fun K => He.ga K "_law_source", "_law_source", "_law_source", defArgs s_w_source, defBody s_w_source, defScope s_w_source, [], [], false⟩
def D_w_next : DefX := ⟨fun K => He.ga K "_law_next", "_law_next", "_law_next", defArgs s_w_next, defBody s_w_next, defScope s_w_next, [], [], false⟩
def D_w_pick : DefX := ⟨fun K => He.ga K "_law_pick", "_law_pick", "_law_pick", defArgs s_w_pick, defBody s_w_pick, defScope s_w_pick, [], [], false⟩
def D_w_named : DefX := ⟨fun K => He.ga K "_law_named", "_law_named", "_law_named", defArgs s_w_named, defBody s_w_named, defScope s_w_named, [], [], false⟩
def D_w_made : DefX := ⟨fun K => He.ga K "_law_made", "_law_made", "_law_made", defArgs s_w_made, defBody s_w_made, defScope s_w_made, [], [], false⟩
def D_w_fields : DefX := ⟨fun K => He.ga K "_law_fields", "_law_fields", "_law_fields", defArgs s_w_fields, defBody s_w_fields, defScope s_w_fields, [], [], false⟩
def D_w_marks : DefX := ⟨fun K => He.ga K "_law_marks", "_law_marks", "_law_marks", defArgs s_w_marks, defBody s_w_marks, defScope s_w_marks, [], [], false⟩
def D_w_families : DefX := ⟨fun K => He.ga K "_law_families", "_law_families", "_law_families", defArgs s_w_families, defBody s_w_families, defScope s_w_families, [], [], false⟩
def D_law : DefX := ⟨fun K => He.ga K "law", "law", "law", defArgs s_law, defBody s_law, defScope s_law, [], [], false⟩
def D_BadAmount___init__ : DefX := ⟨fun K => He.ma K (He.ga K "BadAmount") "__init__", "__init__", "BadAmount.__init__", defArgs s_BadAmount___init__, defBody s_BadAmount___init__, defScope s_BadAmount___init__, [], [], false⟩
def D_BadRule___init__ : DefX := ⟨fun K => He.ma K (He.ga K "BadRule") "__init__", "__init__", "BadRule.__init__", defArgs s_BadRule___init__, defBody s_BadRule___init__, defScope s_BadRule___init__, [], [], false⟩
def D_BadShare___init__ : DefX := ⟨fun K => He.ma K (He.ga K "BadShare") "__init__", "__init__", "BadShare.__init__", defArgs s_BadShare___init__, defBody s_BadShare___init__, defScope s_BadShare___init__, [], [], false⟩
def D_BadNumber___init__ : DefX := ⟨fun K => He.ma K (He.ga K "BadNumber") "__init__", "__init__", "BadNumber.__init__", defArgs s_BadNumber___init__, defBody s_BadNumber___init__, defScope s_BadNumber___init__, [], [], false⟩
def D_BadSample___init__ : DefX := ⟨fun K => He.ma K (He.ga K "BadSample") "__init__", "__init__", "BadSample.__init__", defArgs s_BadSample___init__, defBody s_BadSample___init__, defScope s_BadSample___init__, [.non], [], false⟩
def D_BadSummary___init__ : DefX := ⟨fun K => He.ma K (He.ga K "BadSummary") "__init__", "__init__", "BadSummary.__init__", defArgs s_BadSummary___init__, defBody s_BadSummary___init__, defScope s_BadSummary___init__, [], [], false⟩
def D_BadText___init__ : DefX := ⟨fun K => He.ma K (He.ga K "BadText") "__init__", "__init__", "BadText.__init__", defArgs s_BadText___init__, defBody s_BadText___init__, defScope s_BadText___init__, [], [], false⟩
def D_BadName___init__ : DefX := ⟨fun K => He.ma K (He.ga K "BadName") "__init__", "__init__", "BadName.__init__", defArgs s_BadName___init__, defBody s_BadName___init__, defScope s_BadName___init__, [], [], false⟩
def D_BadEdges___init__ : DefX := ⟨fun K => He.ma K (He.ga K "BadEdges") "__init__", "__init__", "BadEdges.__init__", defArgs s_BadEdges___init__, defBody s_BadEdges___init__, defScope s_BadEdges___init__, [.non], [], false⟩
def D_BadPairs___init__ : DefX := ⟨fun K => He.ma K (He.ga K "BadPairs") "__init__", "__init__", "BadPairs.__init__", defArgs s_BadPairs___init__, defBody s_BadPairs___init__, defScope s_BadPairs___init__, [.non], [], false⟩
def D_BadWeights___init__ : DefX := ⟨fun K => He.ma K (He.ga K "BadWeights") "__init__", "__init__", "BadWeights.__init__", defArgs s_BadWeights___init__, defBody s_BadWeights___init__, defScope s_BadWeights___init__, [.non], [], false⟩
def D_Outside___init__ : DefX := ⟨fun K => He.ma K (He.ga K "Outside") "__init__", "__init__", "Outside.__init__", defArgs s_Outside___init__, defBody s_Outside___init__, defScope s_Outside___init__, [], [], false⟩
def D_NotThere___init__ : DefX := ⟨fun K => He.ma K (He.ga K "NotThere") "__init__", "__init__", "NotThere.__init__", defArgs s_NotThere___init__, defBody s_NotThere___init__, defScope s_NotThere___init__, [], [], false⟩
def D_TooFew___init__ : DefX := ⟨fun K => He.ma K (He.ga K "TooFew") "__init__", "__init__", "TooFew.__init__", defArgs s_TooFew___init__, defBody s_TooFew___init__, defScope s_TooFew___init__, [], [], false⟩
def D_NotPositive___init__ : DefX := ⟨fun K => He.ma K (He.ga K "NotPositive") "__init__", "__init__", "NotPositive.__init__", defArgs s_NotPositive___init__, defBody s_NotPositive___init__, defScope s_NotPositive___init__, [.non], [], false⟩
def D_TooMany___init__ : DefX := ⟨fun K => He.ma K (He.ga K "TooMany") "__init__", "__init__", "TooMany.__init__", defArgs s_TooMany___init__, defBody s_TooMany___init__, defScope s_TooMany___init__, [], [], false⟩
def fn : List DefX := [D_w_source, D_w_next, D_w_pick, D_w_named, D_w_made, D_w_fields, D_w_marks, D_w_families, D_law, D_BadAmount___init__, D_BadRule___init__, D_BadShare___init__, D_BadNumber___init__, D_BadSample___init__, D_BadSummary___init__, D_BadText___init__, D_BadName___init__, D_BadEdges___init__, D_BadPairs___init__, D_BadWeights___init__, D_Outside___init__, D_NotThere___init__, D_TooFew___init__, D_NotPositive___init__, D_TooMany___init__]
def fa : List He.Fa := [.glo "_law_source", .glo "_law_next", .glo "_law_pick", .glo "_law_named", .glo "_law_made", .glo "_law_fields", .glo "_law_marks", .glo "_law_families", .glo "law", .glo "BadAmount", .glo "BadRule", .glo "BadShare", .glo "BadNumber", .glo "BadSample", .glo "BadSummary", .glo "BadText", .glo "BadName", .glo "BadEdges", .glo "BadPairs", .glo "BadWeights", .glo "NothingDone", .glo "Outside", .glo "NotThere", .glo "TooFew", .glo "Empty", .glo "Unbounded", .glo "Impossible", .glo "NotPositive", .glo "NoSpread", .glo "DividedByZero", .glo "TooMany", .glo "Undefined", .glo "Absent", .glo "BadInput", .free "ArithmeticError", .free "LookupError", .free "ValueError", .free "enumerate", .free "isinstance", .free "len", .free "max", .free "min", .free "range", .free "repr"]
def xs : List (PySem.W.Frag → Bool) := [kisiB, oxB .ve "BadAmount" "value", oxB .ve "BadRule" "value", oxB .ve "BadShare" "value", oxB .ve "BadNumber" "value", oxB .ve "BadSample" "index", oxB .ve "BadSummary" "value", oxB .ve "BadText" "value", oxB .ve "BadName" "value", oxB .ve "BadEdges" "index", oxB .ve "BadPairs" "index", oxB .ve "BadWeights" "index", ex0B .le "NothingDone", oxB .le "Outside" "value", oxB .le "NotThere" "item", oxB .le "TooFew" "needed", ex0B .le "Empty", ex0B .ae "Unbounded", ex0B .ae "Impossible", oxB .ae "NotPositive" "index", ex0B .ae "NoSpread", ex0B .ae "DividedByZero", oxB .ae "TooMany" "most", hefB ["BadNumber", "BadShare", "BadRule", "BadAmount", "BadName", "BadText", "BadSummary", "Outside"] "value", hefB ["BadSample", "BadWeights", "BadPairs", "BadEdges", "NotPositive"] "index", hefB ["TooMany"] "most", hefB ["NotThere"] "item", hefB ["TooFew"] "needed", isxB ["BadRule"] ["BadInput", "Absent", "Undefined", "BadNumber", "BadSample", "BadWeights", "BadPairs", "BadShare", "BadRule", "BadAmount", "BadEdges", "BadName", "BadText", "BadSummary", "Empty", "TooFew", "NotThere", "Outside", "NothingDone", "DividedByZero", "NoSpread", "NotPositive", "Impossible", "Unbounded", "TooMany"] ["BadRule"], isxB ["BadShare"] ["BadInput", "Absent", "Undefined", "BadNumber", "BadSample", "BadWeights", "BadPairs", "BadShare", "BadRule", "BadAmount", "BadEdges", "BadName", "BadText", "BadSummary", "Empty", "TooFew", "NotThere", "Outside", "NothingDone", "DividedByZero", "NoSpread", "NotPositive", "Impossible", "Unbounded", "TooMany"] ["BadShare"], isxB ["BadNumber"] ["BadInput", "Absent", "Undefined", "BadNumber", "BadSample", "BadWeights", "BadPairs", "BadShare", "BadRule", "BadAmount", "BadEdges", "BadName", "BadText", "BadSummary", "Empty", "TooFew", "NotThere", "Outside", "NothingDone", "DividedByZero", "NoSpread", "NotPositive", "Impossible", "Unbounded", "TooMany"] ["BadNumber"], isxB ["BadText"] ["BadInput", "Absent", "Undefined", "BadNumber", "BadSample", "BadWeights", "BadPairs", "BadShare", "BadRule", "BadAmount", "BadEdges", "BadName", "BadText", "BadSummary", "Empty", "TooFew", "NotThere", "Outside", "NothingDone", "DividedByZero", "NoSpread", "NotPositive", "Impossible", "Unbounded", "TooMany"] ["BadText"], isxB ["BadName"] ["BadInput", "Absent", "Undefined", "BadNumber", "BadSample", "BadWeights", "BadPairs", "BadShare", "BadRule", "BadAmount", "BadEdges", "BadName", "BadText", "BadSummary", "Empty", "TooFew", "NotThere", "Outside", "NothingDone", "DividedByZero", "NoSpread", "NotPositive", "Impossible", "Unbounded", "TooMany"] ["BadName"], isxB ["BadAmount"] ["BadInput", "Absent", "Undefined", "BadNumber", "BadSample", "BadWeights", "BadPairs", "BadShare", "BadRule", "BadAmount", "BadEdges", "BadName", "BadText", "BadSummary", "Empty", "TooFew", "NotThere", "Outside", "NothingDone", "DividedByZero", "NoSpread", "NotPositive", "Impossible", "Unbounded", "TooMany"] ["BadAmount"], isxB ["BadWeights"] ["BadInput", "Absent", "Undefined", "BadNumber", "BadSample", "BadWeights", "BadPairs", "BadShare", "BadRule", "BadAmount", "BadEdges", "BadName", "BadText", "BadSummary", "Empty", "TooFew", "NotThere", "Outside", "NothingDone", "DividedByZero", "NoSpread", "NotPositive", "Impossible", "Unbounded", "TooMany"] ["BadWeights"], isxB ["BadSample"] ["BadInput", "Absent", "Undefined", "BadNumber", "BadSample", "BadWeights", "BadPairs", "BadShare", "BadRule", "BadAmount", "BadEdges", "BadName", "BadText", "BadSummary", "Empty", "TooFew", "NotThere", "Outside", "NothingDone", "DividedByZero", "NoSpread", "NotPositive", "Impossible", "Unbounded", "TooMany"] ["BadSample"], isxB ["BadSummary"] ["BadInput", "Absent", "Undefined", "BadNumber", "BadSample", "BadWeights", "BadPairs", "BadShare", "BadRule", "BadAmount", "BadEdges", "BadName", "BadText", "BadSummary", "Empty", "TooFew", "NotThere", "Outside", "NothingDone", "DividedByZero", "NoSpread", "NotPositive", "Impossible", "Unbounded", "TooMany"] ["BadSummary"], isxB ["Empty"] ["BadInput", "Absent", "Undefined", "BadNumber", "BadSample", "BadWeights", "BadPairs", "BadShare", "BadRule", "BadAmount", "BadEdges", "BadName", "BadText", "BadSummary", "Empty", "TooFew", "NotThere", "Outside", "NothingDone", "DividedByZero", "NoSpread", "NotPositive", "Impossible", "Unbounded", "TooMany"] ["Empty"], isxB ["BadEdges"] ["BadInput", "Absent", "Undefined", "BadNumber", "BadSample", "BadWeights", "BadPairs", "BadShare", "BadRule", "BadAmount", "BadEdges", "BadName", "BadText", "BadSummary", "Empty", "TooFew", "NotThere", "Outside", "NothingDone", "DividedByZero", "NoSpread", "NotPositive", "Impossible", "Unbounded", "TooMany"] ["BadEdges"], isxB ["BadPairs"] ["BadInput", "Absent", "Undefined", "BadNumber", "BadSample", "BadWeights", "BadPairs", "BadShare", "BadRule", "BadAmount", "BadEdges", "BadName", "BadText", "BadSummary", "Empty", "TooFew", "NotThere", "Outside", "NothingDone", "DividedByZero", "NoSpread", "NotPositive", "Impossible", "Unbounded", "TooMany"] ["BadPairs"], isxB ["Outside"] ["BadInput", "Absent", "Undefined", "BadNumber", "BadSample", "BadWeights", "BadPairs", "BadShare", "BadRule", "BadAmount", "BadEdges", "BadName", "BadText", "BadSummary", "Empty", "TooFew", "NotThere", "Outside", "NothingDone", "DividedByZero", "NoSpread", "NotPositive", "Impossible", "Unbounded", "TooMany"] ["Outside"], isxB ["NotThere"] ["BadInput", "Absent", "Undefined", "BadNumber", "BadSample", "BadWeights", "BadPairs", "BadShare", "BadRule", "BadAmount", "BadEdges", "BadName", "BadText", "BadSummary", "Empty", "TooFew", "NotThere", "Outside", "NothingDone", "DividedByZero", "NoSpread", "NotPositive", "Impossible", "Unbounded", "TooMany"] ["NotThere"], isxB ["TooFew"] ["BadInput", "Absent", "Undefined", "BadNumber", "BadSample", "BadWeights", "BadPairs", "BadShare", "BadRule", "BadAmount", "BadEdges", "BadName", "BadText", "BadSummary", "Empty", "TooFew", "NotThere", "Outside", "NothingDone", "DividedByZero", "NoSpread", "NotPositive", "Impossible", "Unbounded", "TooMany"] ["TooFew"], isxB ["NoSpread"] ["BadInput", "Absent", "Undefined", "BadNumber", "BadSample", "BadWeights", "BadPairs", "BadShare", "BadRule", "BadAmount", "BadEdges", "BadName", "BadText", "BadSummary", "Empty", "TooFew", "NotThere", "Outside", "NothingDone", "DividedByZero", "NoSpread", "NotPositive", "Impossible", "Unbounded", "TooMany"] ["NoSpread"], isxB ["DividedByZero"] ["BadInput", "Absent", "Undefined", "BadNumber", "BadSample", "BadWeights", "BadPairs", "BadShare", "BadRule", "BadAmount", "BadEdges", "BadName", "BadText", "BadSummary", "Empty", "TooFew", "NotThere", "Outside", "NothingDone", "DividedByZero", "NoSpread", "NotPositive", "Impossible", "Unbounded", "TooMany"] ["DividedByZero"], isxB ["NothingDone"] ["BadInput", "Absent", "Undefined", "BadNumber", "BadSample", "BadWeights", "BadPairs", "BadShare", "BadRule", "BadAmount", "BadEdges", "BadName", "BadText", "BadSummary", "Empty", "TooFew", "NotThere", "Outside", "NothingDone", "DividedByZero", "NoSpread", "NotPositive", "Impossible", "Unbounded", "TooMany"] ["NothingDone"], isxB ["Unbounded"] ["BadInput", "Absent", "Undefined", "BadNumber", "BadSample", "BadWeights", "BadPairs", "BadShare", "BadRule", "BadAmount", "BadEdges", "BadName", "BadText", "BadSummary", "Empty", "TooFew", "NotThere", "Outside", "NothingDone", "DividedByZero", "NoSpread", "NotPositive", "Impossible", "Unbounded", "TooMany"] ["Unbounded"], isxB ["Impossible"] ["BadInput", "Absent", "Undefined", "BadNumber", "BadSample", "BadWeights", "BadPairs", "BadShare", "BadRule", "BadAmount", "BadEdges", "BadName", "BadText", "BadSummary", "Empty", "TooFew", "NotThere", "Outside", "NothingDone", "DividedByZero", "NoSpread", "NotPositive", "Impossible", "Unbounded", "TooMany"] ["Impossible"], isxB ["NotPositive"] ["BadInput", "Absent", "Undefined", "BadNumber", "BadSample", "BadWeights", "BadPairs", "BadShare", "BadRule", "BadAmount", "BadEdges", "BadName", "BadText", "BadSummary", "Empty", "TooFew", "NotThere", "Outside", "NothingDone", "DividedByZero", "NoSpread", "NotPositive", "Impossible", "Unbounded", "TooMany"] ["NotPositive"], isxB ["TooMany"] ["BadInput", "Absent", "Undefined", "BadNumber", "BadSample", "BadWeights", "BadPairs", "BadShare", "BadRule", "BadAmount", "BadEdges", "BadName", "BadText", "BadSummary", "Empty", "TooFew", "NotThere", "Outside", "NothingDone", "DividedByZero", "NoSpread", "NotPositive", "Impossible", "Unbounded", "TooMany"] ["TooMany"], isxB ["Undefined"] ["BadInput", "Absent", "Undefined", "BadNumber", "BadSample", "BadWeights", "BadPairs", "BadShare", "BadRule", "BadAmount", "BadEdges", "BadName", "BadText", "BadSummary", "Empty", "TooFew", "NotThere", "Outside", "NothingDone", "DividedByZero", "NoSpread", "NotPositive", "Impossible", "Unbounded", "TooMany"] ["Undefined", "DividedByZero", "NoSpread", "NotPositive", "Impossible", "Unbounded", "TooMany"], isxB ["Absent"] ["BadInput", "Absent", "Undefined", "BadNumber", "BadSample", "BadWeights", "BadPairs", "BadShare", "BadRule", "BadAmount", "BadEdges", "BadName", "BadText", "BadSummary", "Empty", "TooFew", "NotThere", "Outside", "NothingDone", "DividedByZero", "NoSpread", "NotPositive", "Impossible", "Unbounded", "TooMany"] ["Absent", "Empty", "TooFew", "NotThere", "Outside", "NothingDone"], isxB ["BadInput"] ["BadInput", "Absent", "Undefined", "BadNumber", "BadSample", "BadWeights", "BadPairs", "BadShare", "BadRule", "BadAmount", "BadEdges", "BadName", "BadText", "BadSummary", "Empty", "TooFew", "NotThere", "Outside", "NothingDone", "DividedByZero", "NoSpread", "NotPositive", "Impossible", "Unbounded", "TooMany"] ["BadInput", "BadNumber", "BadSample", "BadWeights", "BadPairs", "BadShare", "BadRule", "BadAmount", "BadEdges", "BadName", "BadText", "BadSummary"], isbB "ArithmeticError" ["BadInput", "Absent", "Undefined", "BadNumber", "BadSample", "BadWeights", "BadPairs", "BadShare", "BadRule", "BadAmount", "BadEdges", "BadName", "BadText", "BadSummary", "Empty", "TooFew", "NotThere", "Outside", "NothingDone", "DividedByZero", "NoSpread", "NotPositive", "Impossible", "Unbounded", "TooMany"] ["Undefined", "DividedByZero", "NoSpread", "NotPositive", "Impossible", "Unbounded", "TooMany"], isbB "LookupError" ["BadInput", "Absent", "Undefined", "BadNumber", "BadSample", "BadWeights", "BadPairs", "BadShare", "BadRule", "BadAmount", "BadEdges", "BadName", "BadText", "BadSummary", "Empty", "TooFew", "NotThere", "Outside", "NothingDone", "DividedByZero", "NoSpread", "NotPositive", "Impossible", "Unbounded", "TooMany"] ["Absent", "Empty", "TooFew", "NotThere", "Outside", "NothingDone"], isbB "ValueError" ["BadInput", "Absent", "Undefined", "BadNumber", "BadSample", "BadWeights", "BadPairs", "BadShare", "BadRule", "BadAmount", "BadEdges", "BadName", "BadText", "BadSummary", "Empty", "TooFew", "NotThere", "Outside", "NothingDone", "DividedByZero", "NoSpread", "NotPositive", "Impossible", "Unbounded", "TooMany"] ["BadInput", "BadNumber", "BadSample", "BadWeights", "BadPairs", "BadShare", "BadRule", "BadAmount", "BadEdges", "BadName", "BadText", "BadSummary"], sysB]
end Gk01
namespace Gk01
open PySem PySem.W PySem.Spec PyProof.Rows L3
noncomputable section
def loose : List Str := (["BadInput", "Absent", "Undefined", "BadNumber", "BadSample", "BadWeights", "BadPairs", "BadShare", "BadRule", "BadAmount", "BadEdges", "BadName"] : List Str) ++ (["BadText", "BadSummary", "Empty", "TooFew", "NotThere", "Outside", "NothingDone", "DividedByZero", "NoSpread", "NotPositive", "Impossible", "Unbounded"] : List Str) ++ (["TooMany", "_law_source", "_law_next", "_law_pick", "_law_made", "_law_named", "_law_fields", "_law_marks", "_law_families"] : List Str)
abbrev R : PySem.W.OpenRow := PySem.W.OpenLaw.row PySem.Challenge.rw_exactstats_k01_error_classes
abbrev PR : PySem.Program := R.prog
def bd : List Stmt := PR.main.body
def env : Env := { scope := PR.main.scope, locals := mainNs, globals := mainNs, cells := [], code := .ref 13, frame := some 14 }
def cE : Code := .body bd env
def fp : Pos := { line := 0, col := 0, endLine := 0, endCol := 0 }
def l1 : List Stmt := (bd.drop 0).take 14
def l2 : List Stmt := (bd.drop 14).take 22
theorem split : bd = l1 ++ (l2 ++ []) := by kernel_rfl
def E1 (P : Params) : List (Nat × Obj) := [(0, PySem.W.boot_o_0 P),
  (1, PySem.W.boot_o_1 P),
  (2, { cls := Value.none, data := Data.dict #[{ hash := PyData.keyHash P (Str.ofString "type.__subclasses__.ArithmeticError.0"), key := Value.str (Str.ofString "type.__subclasses__.ArithmeticError.0") 241, val := Value.int 50 0 }, { hash := PyData.keyHash P (Str.ofString "type.__subclasses__.ArithmeticError.n"), key := Value.str (Str.ofString "type.__subclasses__.ArithmeticError.n") 242, val := Value.int 1 0 }] 2 }),
  (3, { cls := Value.type "dict", data := Data.dict #[{ hash := PyData.keyHash P (Str.ofString "__name__"), key := Value.str (Str.ofString "__name__") 165, val := Value.str (Str.ofString "exactstats.errors") 187 }, { hash := PyData.keyHash P (Str.ofString "__doc__"), key := Value.str (Str.ofString "__doc__") 166, val := Value.none }, { hash := PyData.keyHash P (Str.ofString "__package__"), key := Value.str (Str.ofString "__package__") 167, val := Value.none }, { hash := PyData.keyHash P (Str.ofString "__loader__"), key := Value.str (Str.ofString "__loader__") 168, val := Value.builtin "__main__.__loader__#opaque" }, { hash := PyData.keyHash P (Str.ofString "__spec__"), key := Value.str (Str.ofString "__spec__") 169, val := Value.none }, { hash := PyData.keyHash P (Str.ofString "__annotations__"), key := Value.str (Str.ofString "__annotations__") 170, val := Value.ref 6 }, { hash := PyData.keyHash P (Str.ofString "__builtins__"), key := Value.str (Str.ofString "__builtins__") 171, val := Value.ref 4 }, { hash := PyData.keyHash P (Str.ofString "__file__"), key := Value.str (Str.ofString "__file__") 173, val := Value.str (Str.ofString "/claim/cut.py") 172 }, { hash := PyData.keyHash P (Str.ofString "__cached__"), key := Value.str (Str.ofString "__cached__") 174, val := Value.none }, { hash := PyData.keyHash P (Str.ofString "BadInput"), key := Value.str (Str.ofString "BadInput") 206, val := Value.ref 24 }, { hash := PyData.keyHash P (Str.ofString "Absent"), key := Value.str (Str.ofString "Absent") 224, val := Value.ref 37 }, { hash := PyData.keyHash P (Str.ofString "Undefined"), key := Value.str (Str.ofString "Undefined") 244, val := Value.ref 50 }, { hash := PyData.keyHash P (Str.ofString "BadNumber"), key := Value.str (Str.ofString "BadNumber") 269, val := Value.ref 70 }, { hash := PyData.keyHash P (Str.ofString "BadSample"), key := Value.str (Str.ofString "BadSample") 294, val := Value.ref 90 }, { hash := PyData.keyHash P (Str.ofString "BadWeights"), key := Value.str (Str.ofString "BadWeights") 319, val := Value.ref 110 }, { hash := PyData.keyHash P (Str.ofString "BadPairs"), key := Value.str (Str.ofString "BadPairs") 344, val := Value.ref 130 }, { hash := PyData.keyHash P (Str.ofString "BadShare"), key := Value.str (Str.ofString "BadShare") 369, val := Value.ref 149 }, { hash := PyData.keyHash P (Str.ofString "BadRule"), key := Value.str (Str.ofString "BadRule") 394, val := Value.ref 168 }, { hash := PyData.keyHash P (Str.ofString "BadAmount"), key := Value.str (Str.ofString "BadAmount") 419, val := Value.ref 187 }, { hash := PyData.keyHash P (Str.ofString "BadEdges"), key := Value.str (Str.ofString "BadEdges") 444, val := Value.ref 207 }, { hash := PyData.keyHash P (Str.ofString "BadName"), key := Value.str (Str.ofString "BadName") 469, val := Value.ref 226 }, { hash := PyData.keyHash P (Str.ofString "BadText"), key := Value.str (Str.ofString "BadText") 494, val := Value.ref 245 }] 22 }),
  (4, PySem.W.boot_o_4 P),
  (5, PySem.W.boot_o_5 P),
  (6, PySem.W.boot_o_6 P),
  (7, PySem.W.boot_o_7 P),
  (8, PySem.W.boot_o_8 P),
  (9, PySem.W.boot_o_9 P),
  (10, PySem.W.boot_o_10 P),
  (11, { cls := Value.type "tuple", data := Data.seq #[] }),
  (12, { cls := Value.none, data := Data.fields #[Value.int 2 0, Value.int 0 0, Value.ref 20, Value.int 4 0, Value.int 0 0, Value.ref 33, Value.int 6 0, Value.int 0 0, Value.ref 46, Value.int 8 0, Value.int 0 0, Value.ref 59, Value.int 12 0, Value.int 0 0, Value.ref 78, Value.int 16 0, Value.int 0 0, Value.ref 98, Value.int 20 0, Value.int 0 0, Value.ref 118, Value.int 24 0, Value.int 0 0, Value.ref 138, Value.int 28 0, Value.int 0 0, Value.ref 157, Value.int 32 0, Value.int 0 0, Value.ref 176, Value.int 36 0, Value.int 0 0, Value.ref 195, Value.int 40 0, Value.int 0 0, Value.ref 215, Value.int 44 0, Value.int 0 0, Value.ref 234] }),
  (13, { cls := Value.type "code", data := Data.fields #[Value.str (Str.ofString "<module>") 182, Value.str (Str.ofString "<module>") 183, Value.str (Str.ofString "/claim/cut.py") 184, Value.int 1 0, Value.int 0 0, Value.int 0 0, Value.int 0 0, Value.int 0 0, Value.ref 11, Value.bool false, Value.int 181 0, Value.ref 12, Value.none, Value.none, Value.none, Value.none, Value.int 185 0, Value.int 1 0, Value.str (Str.ofString "/claim/cut.py") 186] }),
  (14, { cls := Value.type "frame", slots := #[some (Value.ref 13), some (Value.ref 3), some (Value.ref 3), none, some (Value.str (Str.ofString "__main__") 164), none, some (Value.ref 0)] }),
  (23, { cls := Value.type "dict", data := Data.dict #[{ hash := PyData.keyHash P (Str.ofString "__module__"), key := Value.str (Str.ofString "__module__") 196, val := Value.str (Str.ofString "exactstats.errors") 187 }, { hash := PyData.keyHash P (Str.ofString "__firstlineno__"), key := Value.str (Str.ofString "__firstlineno__") 200, val := Value.int 2 199 }, { hash := PyData.keyHash P (Str.ofString "__static_attributes__"), key := Value.str (Str.ofString "__static_attributes__") 201, val := Value.ref 22 }, { hash := PyData.keyHash P (Str.ofString "__weakref__"), key := Value.str (Str.ofString "__weakref__") 203, val := Value.ref 25 }, { hash := PyData.keyHash P (Str.ofString "__doc__"), key := Value.str (Str.ofString "__doc__") 204, val := Value.none }] 3 }),
  (24, { cls := Value.type "type", data := Data.cls { name := Str.ofString "BadInput", bases := [Value.type "ValueError"], mro := [Value.ref 24, Value.type "ValueError", Value.type "Exception", Value.type "BaseException", Value.type "object"], ns := 23, qualname := Str.ofString "BadInput", subclasses := [Value.ref 70, Value.ref 90, Value.ref 110, Value.ref 130, Value.ref 149, Value.ref 168, Value.ref 187, Value.ref 207, Value.ref 226, Value.ref 245] }, slots := #[some (Value.ref 15), none, some (Value.str (Str.ofString "BadInput") 189), some (Value.str (Str.ofString "BadInput") 197), some (Value.builtin "ValueError.__new__"), some (Value.bool true)] }),
  (36, { cls := Value.type "dict", data := Data.dict #[{ hash := PyData.keyHash P (Str.ofString "__module__"), key := Value.str (Str.ofString "__module__") 214, val := Value.str (Str.ofString "exactstats.errors") 187 }, { hash := PyData.keyHash P (Str.ofString "__firstlineno__"), key := Value.str (Str.ofString "__firstlineno__") 218, val := Value.int 4 217 }, { hash := PyData.keyHash P (Str.ofString "__static_attributes__"), key := Value.str (Str.ofString "__static_attributes__") 219, val := Value.ref 35 }, { hash := PyData.keyHash P (Str.ofString "__weakref__"), key := Value.str (Str.ofString "__weakref__") 221, val := Value.ref 38 }, { hash := PyData.keyHash P (Str.ofString "__doc__"), key := Value.str (Str.ofString "__doc__") 222, val := Value.none }] 3 }),
  (37, { cls := Value.type "type", data := Data.cls { name := Str.ofString "Absent", bases := [Value.type "LookupError"], mro := [Value.ref 37, Value.type "LookupError", Value.type "Exception", Value.type "BaseException", Value.type "object"], ns := 36, qualname := Str.ofString "Absent" }, slots := #[some (Value.ref 28), none, some (Value.str (Str.ofString "Absent") 207), some (Value.str (Str.ofString "Absent") 215), some (Value.builtin "LookupError.__new__"), some (Value.bool true)] }),
  (49, { cls := Value.type "dict", data := Data.dict #[{ hash := PyData.keyHash P (Str.ofString "__module__"), key := Value.str (Str.ofString "__module__") 232, val := Value.str (Str.ofString "exactstats.errors") 187 }, { hash := PyData.keyHash P (Str.ofString "__firstlineno__"), key := Value.str (Str.ofString "__firstlineno__") 236, val := Value.int 6 235 }, { hash := PyData.keyHash P (Str.ofString "__static_attributes__"), key := Value.str (Str.ofString "__static_attributes__") 237, val := Value.ref 48 }, { hash := PyData.keyHash P (Str.ofString "__weakref__"), key := Value.str (Str.ofString "__weakref__") 239, val := Value.ref 51 }, { hash := PyData.keyHash P (Str.ofString "__doc__"), key := Value.str (Str.ofString "__doc__") 240, val := Value.none }] 3 }),
  (50, { cls := Value.type "type", data := Data.cls { name := Str.ofString "Undefined", bases := [Value.type "ArithmeticError"], mro := [Value.ref 50, Value.type "ArithmeticError", Value.type "Exception", Value.type "BaseException", Value.type "object"], ns := 49, qualname := Str.ofString "Undefined" }, slots := #[some (Value.ref 41), none, some (Value.str (Str.ofString "Undefined") 225), some (Value.str (Str.ofString "Undefined") 233), some (Value.builtin "ArithmeticError.__new__"), some (Value.bool true)] })]
def E2 (P : Params) : List (Nat × Obj) := [(0, PySem.W.boot_o_0 P),
  (1, PySem.W.boot_o_1 P),
  (2, { cls := Value.none, data := Data.dict #[{ hash := PyData.keyHash P (Str.ofString "type.__subclasses__.ArithmeticError.0"), key := Value.str (Str.ofString "type.__subclasses__.ArithmeticError.0") 241, val := Value.int 50 0 }, { hash := PyData.keyHash P (Str.ofString "type.__subclasses__.ArithmeticError.n"), key := Value.str (Str.ofString "type.__subclasses__.ArithmeticError.n") 242, val := Value.int 1 0 }] 2 }),
  (3, { cls := Value.type "dict", data := Data.dict #[{ hash := PyData.keyHash P (Str.ofString "__name__"), key := Value.str (Str.ofString "__name__") 165, val := Value.str (Str.ofString "law_exactstats_k01_error_classes") 741 }, { hash := PyData.keyHash P (Str.ofString "__doc__"), key := Value.str (Str.ofString "__doc__") 166, val := Value.none }, { hash := PyData.keyHash P (Str.ofString "__package__"), key := Value.str (Str.ofString "__package__") 167, val := Value.none }, { hash := PyData.keyHash P (Str.ofString "__loader__"), key := Value.str (Str.ofString "__loader__") 168, val := Value.builtin "__main__.__loader__#opaque" }, { hash := PyData.keyHash P (Str.ofString "__spec__"), key := Value.str (Str.ofString "__spec__") 169, val := Value.none }, { hash := PyData.keyHash P (Str.ofString "__annotations__"), key := Value.str (Str.ofString "__annotations__") 170, val := Value.ref 6 }, { hash := PyData.keyHash P (Str.ofString "__builtins__"), key := Value.str (Str.ofString "__builtins__") 171, val := Value.ref 4 }, { hash := PyData.keyHash P (Str.ofString "__file__"), key := Value.str (Str.ofString "__file__") 173, val := Value.str (Str.ofString "/claim/cut.py") 172 }, { hash := PyData.keyHash P (Str.ofString "__cached__"), key := Value.str (Str.ofString "__cached__") 174, val := Value.none }, { hash := PyData.keyHash P (Str.ofString "BadInput"), key := Value.str (Str.ofString "BadInput") 206, val := Value.ref 24 }, { hash := PyData.keyHash P (Str.ofString "Absent"), key := Value.str (Str.ofString "Absent") 224, val := Value.ref 37 }, { hash := PyData.keyHash P (Str.ofString "Undefined"), key := Value.str (Str.ofString "Undefined") 244, val := Value.ref 50 }, { hash := PyData.keyHash P (Str.ofString "BadNumber"), key := Value.str (Str.ofString "BadNumber") 269, val := Value.ref 70 }, { hash := PyData.keyHash P (Str.ofString "BadSample"), key := Value.str (Str.ofString "BadSample") 294, val := Value.ref 90 }, { hash := PyData.keyHash P (Str.ofString "BadWeights"), key := Value.str (Str.ofString "BadWeights") 319, val := Value.ref 110 }, { hash := PyData.keyHash P (Str.ofString "BadPairs"), key := Value.str (Str.ofString "BadPairs") 344, val := Value.ref 130 }, { hash := PyData.keyHash P (Str.ofString "BadShare"), key := Value.str (Str.ofString "BadShare") 369, val := Value.ref 149 }, { hash := PyData.keyHash P (Str.ofString "BadRule"), key := Value.str (Str.ofString "BadRule") 394, val := Value.ref 168 }, { hash := PyData.keyHash P (Str.ofString "BadAmount"), key := Value.str (Str.ofString "BadAmount") 419, val := Value.ref 187 }, { hash := PyData.keyHash P (Str.ofString "BadEdges"), key := Value.str (Str.ofString "BadEdges") 444, val := Value.ref 207 }, { hash := PyData.keyHash P (Str.ofString "BadName"), key := Value.str (Str.ofString "BadName") 469, val := Value.ref 226 }, { hash := PyData.keyHash P (Str.ofString "BadText"), key := Value.str (Str.ofString "BadText") 494, val := Value.ref 245 }, { hash := PyData.keyHash P (Str.ofString "BadSummary"), key := Value.str (Str.ofString "BadSummary") 519, val := Value.ref 264 }, { hash := PyData.keyHash P (Str.ofString "Empty"), key := Value.str (Str.ofString "Empty") 535, val := Value.ref 276 }, { hash := PyData.keyHash P (Str.ofString "TooFew"), key := Value.str (Str.ofString "TooFew") 560, val := Value.ref 295 }, { hash := PyData.keyHash P (Str.ofString "NotThere"), key := Value.str (Str.ofString "NotThere") 585, val := Value.ref 314 }, { hash := PyData.keyHash P (Str.ofString "Outside"), key := Value.str (Str.ofString "Outside") 610, val := Value.ref 333 }, { hash := PyData.keyHash P (Str.ofString "NothingDone"), key := Value.str (Str.ofString "NothingDone") 626, val := Value.ref 345 }, { hash := PyData.keyHash P (Str.ofString "DividedByZero"), key := Value.str (Str.ofString "DividedByZero") 642, val := Value.ref 357 }, { hash := PyData.keyHash P (Str.ofString "NoSpread"), key := Value.str (Str.ofString "NoSpread") 658, val := Value.ref 369 }, { hash := PyData.keyHash P (Str.ofString "NotPositive"), key := Value.str (Str.ofString "NotPositive") 683, val := Value.ref 389 }, { hash := PyData.keyHash P (Str.ofString "Impossible"), key := Value.str (Str.ofString "Impossible") 699, val := Value.ref 401 }, { hash := PyData.keyHash P (Str.ofString "Unbounded"), key := Value.str (Str.ofString "Unbounded") 715, val := Value.ref 413 }, { hash := PyData.keyHash P (Str.ofString "TooMany"), key := Value.str (Str.ofString "TooMany") 740, val := Value.ref 432 }, { hash := PyData.keyHash P (Str.ofString "_law_source"), key := Value.str (Str.ofString "_law_source") 751, val := Value.ref 441 }, { hash := PyData.keyHash P (Str.ofString "_law_next"), key := Value.str (Str.ofString "_law_next") 762, val := Value.ref 448 }, { hash := PyData.keyHash P (Str.ofString "_law_pick"), key := Value.str (Str.ofString "_law_pick") 770, val := Value.ref 455 }, { hash := PyData.keyHash P (Str.ofString "_law_made"), key := Value.str (Str.ofString "_law_made") 778, val := Value.ref 462 }, { hash := PyData.keyHash P (Str.ofString "_law_named"), key := Value.str (Str.ofString "_law_named") 786, val := Value.ref 469 }, { hash := PyData.keyHash P (Str.ofString "_law_fields"), key := Value.str (Str.ofString "_law_fields") 792, val := Value.ref 474 }, { hash := PyData.keyHash P (Str.ofString "_law_marks"), key := Value.str (Str.ofString "_law_marks") 800, val := Value.ref 481 }, { hash := PyData.keyHash P (Str.ofString "_law_families"), key := Value.str (Str.ofString "_law_families") 808, val := Value.ref 488 }, { hash := PyData.keyHash P (Str.ofString "law"), key := Value.str (Str.ofString "law") 814, val := Value.ref 493 }] 43 }),
  (4, PySem.W.boot_o_4 P),
  (5, PySem.W.boot_o_5 P),
  (6, PySem.W.boot_o_6 P),
  (7, PySem.W.boot_o_7 P),
  (8, PySem.W.boot_o_8 P),
  (9, PySem.W.boot_o_9 P),
  (10, PySem.W.boot_o_10 P),
  (11, { cls := Value.type "tuple", data := Data.seq #[] }),
  (12, { cls := Value.none, data := Data.fields #[Value.int 2 0, Value.int 0 0, Value.ref 20, Value.int 4 0, Value.int 0 0, Value.ref 33, Value.int 6 0, Value.int 0 0, Value.ref 46, Value.int 8 0, Value.int 0 0, Value.ref 59, Value.int 12 0, Value.int 0 0, Value.ref 78, Value.int 16 0, Value.int 0 0, Value.ref 98, Value.int 20 0, Value.int 0 0, Value.ref 118, Value.int 24 0, Value.int 0 0, Value.ref 138, Value.int 28 0, Value.int 0 0, Value.ref 157, Value.int 32 0, Value.int 0 0, Value.ref 176, Value.int 36 0, Value.int 0 0, Value.ref 195, Value.int 40 0, Value.int 0 0, Value.ref 215, Value.int 44 0, Value.int 0 0, Value.ref 234, Value.int 48 0, Value.int 0 0, Value.ref 253, Value.int 52 0, Value.int 0 0, Value.ref 272, Value.int 54 0, Value.int 0 0, Value.ref 284, Value.int 58 0, Value.int 0 0, Value.ref 303, Value.int 62 0, Value.int 0 0, Value.ref 322, Value.int 66 0, Value.int 0 0, Value.ref 341, Value.int 68 0, Value.int 0 0, Value.ref 353, Value.int 70 0, Value.int 0 0, Value.ref 365, Value.int 72 0, Value.int 0 0, Value.ref 377, Value.int 76 0, Value.int 0 0, Value.ref 397, Value.int 78 0, Value.int 0 0, Value.ref 409, Value.int 80 0, Value.int 0 0, Value.ref 421, Value.int 85 0, Value.int 0 0, Value.ref 440, Value.int 88 0, Value.int 0 0, Value.ref 447, Value.int 97 0, Value.int 0 0, Value.ref 454, Value.int 99 0, Value.int 0 0, Value.ref 461, Value.int 104 0, Value.int 0 0, Value.ref 468, Value.int 111 0, Value.int 0 0, Value.ref 473, Value.int 114 0, Value.int 0 0, Value.ref 480, Value.int 123 0, Value.int 0 0, Value.ref 487, Value.int 126 0, Value.int 0 0, Value.ref 492] }),
  (13, { cls := Value.type "code", data := Data.fields #[Value.str (Str.ofString "<module>") 182, Value.str (Str.ofString "<module>") 183, Value.str (Str.ofString "/claim/cut.py") 184, Value.int 1 0, Value.int 0 0, Value.int 0 0, Value.int 0 0, Value.int 0 0, Value.ref 11, Value.bool false, Value.int 181 0, Value.ref 12, Value.none, Value.none, Value.none, Value.none, Value.int 185 0, Value.int 1 0, Value.str (Str.ofString "/claim/cut.py") 186] }),
  (14, { cls := Value.type "frame", slots := #[some (Value.ref 13), some (Value.ref 3), some (Value.ref 3), none, some (Value.str (Str.ofString "__main__") 164), none, some (Value.ref 0)] }),
  (23, { cls := Value.type "dict", data := Data.dict #[{ hash := PyData.keyHash P (Str.ofString "__module__"), key := Value.str (Str.ofString "__module__") 196, val := Value.str (Str.ofString "exactstats.errors") 187 }, { hash := PyData.keyHash P (Str.ofString "__firstlineno__"), key := Value.str (Str.ofString "__firstlineno__") 200, val := Value.int 2 199 }, { hash := PyData.keyHash P (Str.ofString "__static_attributes__"), key := Value.str (Str.ofString "__static_attributes__") 201, val := Value.ref 22 }, { hash := PyData.keyHash P (Str.ofString "__weakref__"), key := Value.str (Str.ofString "__weakref__") 203, val := Value.ref 25 }, { hash := PyData.keyHash P (Str.ofString "__doc__"), key := Value.str (Str.ofString "__doc__") 204, val := Value.none }] 3 }),
  (24, { cls := Value.type "type", data := Data.cls { name := Str.ofString "BadInput", bases := [Value.type "ValueError"], mro := [Value.ref 24, Value.type "ValueError", Value.type "Exception", Value.type "BaseException", Value.type "object"], ns := 23, qualname := Str.ofString "BadInput", subclasses := [Value.ref 70, Value.ref 90, Value.ref 110, Value.ref 130, Value.ref 149, Value.ref 168, Value.ref 187, Value.ref 207, Value.ref 226, Value.ref 245, Value.ref 264] }, slots := #[some (Value.ref 15), none, some (Value.str (Str.ofString "BadInput") 189), some (Value.str (Str.ofString "BadInput") 197), some (Value.builtin "ValueError.__new__"), some (Value.bool true)] }),
  (36, { cls := Value.type "dict", data := Data.dict #[{ hash := PyData.keyHash P (Str.ofString "__module__"), key := Value.str (Str.ofString "__module__") 214, val := Value.str (Str.ofString "exactstats.errors") 187 }, { hash := PyData.keyHash P (Str.ofString "__firstlineno__"), key := Value.str (Str.ofString "__firstlineno__") 218, val := Value.int 4 217 }, { hash := PyData.keyHash P (Str.ofString "__static_attributes__"), key := Value.str (Str.ofString "__static_attributes__") 219, val := Value.ref 35 }, { hash := PyData.keyHash P (Str.ofString "__weakref__"), key := Value.str (Str.ofString "__weakref__") 221, val := Value.ref 38 }, { hash := PyData.keyHash P (Str.ofString "__doc__"), key := Value.str (Str.ofString "__doc__") 222, val := Value.none }] 3 }),
  (37, { cls := Value.type "type", data := Data.cls { name := Str.ofString "Absent", bases := [Value.type "LookupError"], mro := [Value.ref 37, Value.type "LookupError", Value.type "Exception", Value.type "BaseException", Value.type "object"], ns := 36, qualname := Str.ofString "Absent", subclasses := [Value.ref 276, Value.ref 295, Value.ref 314, Value.ref 333, Value.ref 345] }, slots := #[some (Value.ref 28), none, some (Value.str (Str.ofString "Absent") 207), some (Value.str (Str.ofString "Absent") 215), some (Value.builtin "LookupError.__new__"), some (Value.bool true)] }),
  (49, { cls := Value.type "dict", data := Data.dict #[{ hash := PyData.keyHash P (Str.ofString "__module__"), key := Value.str (Str.ofString "__module__") 232, val := Value.str (Str.ofString "exactstats.errors") 187 }, { hash := PyData.keyHash P (Str.ofString "__firstlineno__"), key := Value.str (Str.ofString "__firstlineno__") 236, val := Value.int 6 235 }, { hash := PyData.keyHash P (Str.ofString "__static_attributes__"), key := Value.str (Str.ofString "__static_attributes__") 237, val := Value.ref 48 }, { hash := PyData.keyHash P (Str.ofString "__weakref__"), key := Value.str (Str.ofString "__weakref__") 239, val := Value.ref 51 }, { hash := PyData.keyHash P (Str.ofString "__doc__"), key := Value.str (Str.ofString "__doc__") 240, val := Value.none }] 3 }),
  (50, { cls := Value.type "type", data := Data.cls { name := Str.ofString "Undefined", bases := [Value.type "ArithmeticError"], mro := [Value.ref 50, Value.type "ArithmeticError", Value.type "Exception", Value.type "BaseException", Value.type "object"], ns := 49, qualname := Str.ofString "Undefined", subclasses := [Value.ref 357, Value.ref 369, Value.ref 389, Value.ref 401, Value.ref 413, Value.ref 432] }, slots := #[some (Value.ref 41), none, some (Value.str (Str.ofString "Undefined") 225), some (Value.str (Str.ofString "Undefined") 233), some (Value.builtin "ArithmeticError.__new__"), some (Value.bool true)] })]
def pre (w : World) (os : OsState) := goT (stQ PR w) n00 an0 12 (boot0 w os) (topStub PR)
theorem c_pre (w : World) (os : OsState) : pre w os = some (preS os (pre w os), ⟨HandSHeadRun.denQ HandSHeadRun.tabQ (.body bd env), cE, { line := 0, col := 0, endLine := 0, endCol := 0 }, [topFrame fp]⟩) := by kernel_rfl
def blk (w : World) (os : OsState) : Seg := segF (stQ PR w) n00 an0 1 (preS os (pre w os)) (blkT bd env cE { line := 0, col := 0, endLine := 0, endCol := 0 } fp)
theorem c_blk (w : World) (os : OsState) : blk w os = some (.next, segS os (blk w os), cE, { line := 0, col := 0, endLine := 0, endCol := 0 }) := by kernel_rfl
def r1 (w : World) (os : OsState) : Seg := segF (stQ PR w) n00 an0 3032 (segS os (blk w os)) (pcsT l1 env cE { line := 0, col := 0, endLine := 0, endCol := 0 } fp)
def x1 (w : World) (os : OsState) : Nat → Obj := objAt 1 (r1 w os)
theorem c1 (w : World) (os : OsState) : r1 w os = some (.next, stV 1 (E1 w.params) (x1 w os) 248 495 os, cE, { line := 44, col := 0, endLine := 47, endCol := 26 }) := by kernel_rfl
def r2 (x : Nat → Obj) (w : World) (os : OsState) : Seg := segF (stQ PR w) n00 an0 3025 (stV 1 (E1 w.params) x 248 495 os) (pcsT l2 env cE { line := 44, col := 0, endLine := 47, endCol := 26 } fp)
theorem c2 (x : Nat → Obj) (w : World) (os : OsState) : r2 x w os = some (.next, stV 2 (E2 w.params) (nxV 2 248 (r2 x w os) x) 494 815 os, cE, { line := 126, col := 0, endLine := 143, endCol := 83 }) := by kernel_rfl
def x2 (w : World) (os : OsState) : Nat → Obj := nxV 2 248 (r2 (x1 w os) w os) (x1 w os)
def fi (w : World) (os : OsState) := HandSHeadRun.goF (stQ PR w) n00 an0 21 (stV 2 (E2 w.params) (x2 w os) 494 815 os) ⟨doneF .next, cE, { line := 126, col := 0, endLine := 143, endCol := 83 }, [topFrame fp]⟩
def S (w : World) (os : OsState) : SharedT := finS os (fi w os)
theorem c_fin (w : World) (os : OsState) : fi w os = some (S w os) := by kernel_rfl
theorem run (w : World) (os : OsState) : topRun treeTable PR w n00 an0 (12 + (1 + (3032 + (3025 + (21))))) (boot0 w os).abs (topStub PR) = some (S w os).abs := by
  have h := cut_piece (c1 w os) (cut_piece (c2 (x1 w os) w os) (cut_end (c_fin w os)))
  rw [← split] at h
  exact cut_pre (c_pre w os) (cut_block (c_blk w os) h)
theorem k1 (w : World) (os : OsState) : HandSHeadRun.looksF PR (boot_heap w.params) (S w os).abs = true := by kernel_rfl
theorem k2 (w : World) (os : OsState) : HandSHeadRun.seenQ (PySem.W.view PR [35]) loose (importedModules PR.main.body) (fun s => xlAt (PySem.W.view PR [35]) [] s && recOk R.toRowW.records s) (S w os).abs = openGood (PySem.W.view PR [35]) loose := by kernel_rfl
def as_ : List Addr := ([3, 0, 1, 2, 6, 17, 23, 24, 30, 36, 37, 43, 49, 50, 56, 69, 70, 75, 89, 90, 95, 109, 110, 115, 129, 130, 135, 148, 149, 154, 167, 168, 173, 186, 187, 192, 206, 207, 212, 225, 226, 231, 244, 245, 250, 263, 264, 269, 275, 276, 281, 294, 295, 300, 313, 314, 319, 332, 333, 338] : List Addr) ++ ([344, 345, 350, 356, 357, 362, 368, 369, 374, 388, 389, 394, 400, 401, 406, 412, 413, 418, 431, 432, 67, 87, 107, 127, 146, 165, 184, 204, 223, 242, 261, 292, 311, 330, 386, 429, 441, 448, 455, 462, 469, 474, 481, 488, 493, 9, 13, 20, 33, 46, 59, 66, 78, 86, 98, 106, 118, 126, 138, 145] : List Addr) ++ ([157, 164, 176, 183, 195, 203, 215, 222, 234, 241, 253, 260, 272, 284, 291, 303, 310, 322, 329, 341, 353, 365, 377, 385, 397, 409, 421, 428, 440, 447, 454, 461, 468, 473, 480, 487, 492, 4, 5, 7, 11, 15, 18, 22, 25, 28, 31, 35, 38, 41, 44, 48, 51, 54, 57, 61, 63, 64, 68, 73] : List Addr) ++ ([76, 80, 81, 83, 84, 88, 93, 96, 100, 101, 103, 104, 108, 113, 116, 120, 121, 123, 124, 128, 133, 136, 140, 142, 143, 147, 152, 155, 159, 161, 162, 166, 171, 174, 178, 180, 181, 185, 190, 193, 197, 198, 200, 201, 205, 210, 213, 217, 219, 220, 224, 229, 232, 236, 238, 239, 243, 248, 251, 255] : List Addr) ++ ([257, 258, 262, 267, 270, 274, 279, 282, 286, 288, 289, 293, 298, 301, 305, 307, 308, 312, 317, 320, 324, 326, 327, 331, 336, 339, 343, 348, 351, 355, 360, 363, 367, 372, 375, 379, 380, 382, 383, 387, 392, 395, 399, 404, 407, 411, 416, 419, 423, 425, 426, 430, 435, 437, 438, 442, 444, 445, 449, 451] : List Addr) ++ ([452, 456, 458, 459, 463, 465, 466, 470, 475, 477, 478, 482, 484, 485, 489] : List Addr)
def pa : List Nat := ([1, 1, 1, 1, 1, 1, 1, 1, 1, 1, 1, 1, 1, 1, 1, 1, 1, 1, 1, 1, 1, 1, 1, 1, 1, 1, 1, 1, 1, 1, 1, 1, 1, 1, 1, 1, 1, 1, 1, 1, 1, 1, 1, 1, 2, 2, 2, 2, 2, 2, 2, 2, 2, 2, 2, 2, 2, 2, 2, 2] : List Nat) ++ ([2, 2, 2, 2, 2, 2, 2, 2, 2, 2, 2, 2, 2, 2, 2, 2, 2, 2, 2, 2, 1, 1, 1, 1, 1, 1, 1, 1, 1, 1, 2, 2, 2, 2, 2, 2, 2, 2, 2, 2, 2, 2, 2, 2, 2, 1, 1, 1, 1, 1, 1, 1, 1, 1, 1, 1, 1, 1, 1, 1] : List Nat) ++ ([1, 1, 1, 1, 1, 1, 1, 1, 1, 1, 2, 2, 2, 2, 2, 2, 2, 2, 2, 2, 2, 2, 2, 2, 2, 2, 2, 2, 2, 2, 2, 2, 2, 2, 2, 2, 2, 1, 1, 1, 1, 1, 1, 1, 1, 1, 1, 1, 1, 1, 1, 1, 1, 1, 1, 1, 1, 1, 1, 1] : List Nat) ++ ([1, 1, 1, 1, 1, 1, 1, 1, 1, 1, 1, 1, 1, 1, 1, 1, 1, 1, 1, 1, 1, 1, 1, 1, 1, 1, 1, 1, 1, 1, 1, 1, 1, 1, 1, 1, 1, 1, 1, 1, 1, 1, 1, 1, 1, 1, 1, 1, 1, 1, 1, 1, 1, 1, 1, 1, 1, 2, 2, 2] : List Nat) ++ ([2, 2, 2, 2, 2, 2, 2, 2, 2, 2, 2, 2, 2, 2, 2, 2, 2, 2, 2, 2, 2, 2, 2, 2, 2, 2, 2, 2, 2, 2, 2, 2, 2, 2, 2, 2, 2, 2, 2, 2, 2, 2, 2, 2, 2, 2, 2, 2, 2, 2, 2, 2, 2, 2, 2, 2, 2, 2, 2, 2] : List Nat) ++ ([2, 2, 2, 2, 2, 2, 2, 2, 2, 2, 2, 2, 2, 2, 2] : List Nat)
def pf : List Nat := [2, 2, 2, 2, 2, 2, 2, 2, 2, 2, 2, 2, 2, 2, 2, 2, 2, 2, 2, 2, 2, 2, 2, 2, 2, 2, 2, 2, 2, 2, 2, 2, 2, 2, 2, 2, 2, 2, 2, 2, 2, 2, 2, 2]
def px : List Nat := [2, 1, 1, 1, 1, 1, 2, 1, 1, 1, 1, 1, 2, 2, 2, 2, 2, 2, 2, 2, 2, 2, 2, 2, 2, 2, 2, 2, 2, 2, 2, 2, 2, 2, 2, 2, 2, 2, 2, 2, 2, 2, 2, 2, 2, 2, 2, 2, 2, 2, 2, 2, 2, 2, 2, 2, 2]
def pn : List Nat := [2, 2, 2, 2, 2, 2, 2, 2, 2, 1, 1, 1, 1, 1, 2, 1, 1, 1, 1, 1, 2, 2, 2, 2, 2]
abbrev hk : PySem.W.Hook := hookA as_ fa xs fn []
theorem o1 (w : World) (os : OsState) : obsP 1 pa pf px pn as_ fa xs fn [] (HandSHeadRun.getT (S w os)) = (true, (sel 1 pn fn).map DefX.val) := by kernel_rfl
theorem o2 (w : World) (os : OsState) : obsP 2 pa pf px pn as_ fa xs fn [] (HandSHeadRun.getT (S w os)) = (true, (sel 2 pn fn).map DefX.val) := by kernel_rfl
theorem o_tab (w : World) (os : OsState) : tabA as_ [] (HandSHeadRun.getT (S w os)) = true := by kernel_rfl
theorem k3 (w : World) (os : OsState) : hk.obs (S w os).abs = hk.val w := obs_parts (js := [1, 2]) (by kernel_rfl) (by kernel_rfl) (o_tab w os) fun j hj => by
  simp only [List.mem_cons, List.not_mem_nil, or_false] at hj
  rcases hj with rfl | rfl
  · exact o1 w os
  · exact o2 w os
end
end Gk01
namespace L3
open PySem PySem.Spec PyProof.Rows L2
/-- a lambda: its object, its code object, that one's name, the maker's values -/
structure Clo where
  f : Addr
  c : Addr
  q : Str
  vs : List V
inductive PV where
  | non | bl (b : Bool) | int (i : Int) | str (x : Str) | rat (q : Rat)
  | tup (xs : List PV) | lst (xs : List PV) | frz (xs : List PV) | obj (C : Addr) (ns : List Str) (xs : List PV)
  | ptr (n : Nat) | adr (a : Addr) | ty (n : String)
  | dk (ks : List Key) (xs : List PV) | dt (ks : List (List Key)) (xs : List PV) | exc (c : Str) (ns : List Str) (xs : List PV) | clo (t : Clo) (xs : List PV)
/-- a slot: a value, or a list of the frame's own -/
inductive SV where
  | val (v : PV) | own (xs : List PV)
/-- a shared object that may change -/
inductive MO where
  | lst (xs : List PV) | ins (C : Addr) (ns : List Str) (xs : List PV) | dic (ks : List Key) (xs : List PV) | nst (c : Str) (ns : List Str) (xs : List PV)
inductive R (s a : Type) where
  | ok (v : a) (t : s) | exn (e : PV) (t : s) | bad
@[simp] def R.bind {s a b : Type} (r : R s a) (k : a → s → R s b) : R s b := match r with
  | .ok v t => k v t
  | .exn e t => .exn e t
  | .bad => .bad
structure S where
  env : List (Option SV)
  mu : List MO
abbrev DE := S → R S PV
abbrev DT := S → R S Bool
abbrev DA := S → R S (List PV)
inductive Fl where
  | nx | rt (v : PV) | bk | ct
abbrev DS := S → R S Fl
/-- what a def computes -/
abbrev DF := List PV → List MO → R (List MO) PV
def KT (K : PySem.W.Frag) (a : Addr) (xs : List V) : Prop := ∃ (o : Obj) (its : Array Value) (n : Nat), K.lookup a = some o ∧ o.cls = .type "tuple" ∧ o.data = .seq its n ∧ its.size ≤ sizeLine ∧ Vals xs its.toList
/-- a caught exception's object: its class, its dict -/
def exv (a C : Addr) (d : Option Addr) : HO := .ext fun h => ∃ oe vs, h.get? a = some oe ∧ oe.cls = .ref C ∧ oe.dict = d ∧ oe.data = .fields vs
def KL (K : PySem.W.Frag) (a : Addr) (xs : List V) : Prop := ∃ (o : Obj) (its : Array Value) (n : Nat), K.lookup a = some o ∧ o.cls = .type "list" ∧ o.dict = none ∧ o.data = .seq its n ∧ its.size ≤ sizeLine ∧ Vals xs its.toList
mutual
def Rep (K : PySem.W.Frag) (CR : Addr) (al : List Addr) (L : Addr → Prop) (H : Hp) : PV → V → Prop
  | .non, v => v = .non
  | .bl b, v => v = .bl b
  | .int i, v => v = .int i
  | .str x, v => v = .str x
  | .rat q, v => ∃ a dx, v = .ref a ∧ ¬ L a ∧ H a = some (.ins CR dx [("own_top", .int q.num), ("own_bottom", .int q.den)])
  | .tup xs, v => ∃ a vs, v = .ref a ∧ (¬ L a ∧ Rd H a (.tup vs) ∨ KT K a vs) ∧ RepL K CR al L H xs vs
  | .lst xs, v => ∃ a vs, v = .ref a ∧ ¬ L a ∧ H a = some (.lst vs) ∧ RepL K CR al L H xs vs
  | .frz xs, v => ∃ a vs, v = .ref a ∧ (¬ L a ∧ Rd H a (.lst vs) ∨ KL K a vs) ∧ RepL K CR al L H xs vs
  | .obj C ns xs, v => ∃ a dx vs, v = .ref a ∧ ¬ L a ∧ H a = some (.ins C dx (ns.zip vs)) ∧ ns.length = vs.length ∧ RepL K CR al L H xs vs
  | .ptr n, v => ∃ a, al[n]? = some a ∧ v = .ref a
  | .adr a, v => v = .ref a
  | .ty n, v => v = .ty n
  | .dk ks xs, v => ∃ a vs, v = .ref a ∧ ¬ L a ∧ Rd H a (.dK (ks.zip vs)) ∧ ks.length = vs.length ∧ RepL K CR al L H xs vs
  | .dt ks xs, v => ∃ a vs, v = .ref a ∧ ¬ L a ∧ Rd H a (.dT (ks.zip vs)) ∧ ks.length = vs.length ∧ RepL K CR al L H xs vs
  | .exc C ns xs, v => ∃ a d vs, v = .ref a ∧ ¬ L a ∧ H a = some (exv a (He.ga K C) d) ∧ ns.length = vs.length ∧ ((d = none ∧ ns = []) ∨ ∃ dd, d = some dd ∧ ¬ L dd ∧ H dd = some (.xd (ns.zip vs))) ∧ RepL K CR al L H xs vs
  | .clo t xs, v => v = .ref t.f ∧ ¬ L t.c ∧ H t.c = some (LamX.CodeO t.c t.q) ∧ RepL K CR al L H xs t.vs
def RepL (K : PySem.W.Frag) (CR : Addr) (al : List Addr) (L : Addr → Prop) (H : Hp) : List PV → List V → Prop
  | [], vs => vs = []
  | x :: xs, vs => ∃ v r, vs = v :: r ∧ Rep K CR al L H x v ∧ RepL K CR al L H xs r
end
/-- where one stands: the shared objects' addresses, what may be written, the abstract heap -/
structure Lc where
  al : List Addr
  M : Addr → Prop
  H : Hp
/-- fixed through a body: the class Ratio, what else must not be met (the callers' own lists), what is wanted of an exception -/
structure Gx where
  CR : Addr
  N : Addr → Prop
  W : WX
abbrev Gx.L (g : Gx) (l : Lc) : Addr → Prop := fun a => l.M a ∨ g.N a
/-- a def that makes lambdas: its table of code objects, all of one name -/
structure TabI (K : PySem.W.Frag) (g : Gx) (l : Lc) (x : Str) : Prop where
  M : l.M (tA K x)
  al : tA K x ∉ l.al
  is : ∃ ps : Array Value, l.H (tA K x) = some (.tbl ps) ∧ TriplesOk ps.toList ∧ ∀ (pos : Pos) (cv : Value), codeAmong pos ps.toList = some cv → ∃ c, cv = .ref c ∧ ¬ g.L l c ∧ l.H c = some (LamX.CodeO c (x ++ ".<locals>.<lambda>"))
abbrev RepG (K : PySem.W.Frag) (g : Gx) (l : Lc) : PV → V → Prop := Rep K g.CR l.al (g.L l) l.H
abbrev RepGL (K : PySem.W.Frag) (g : Gx) (l : Lc) : List PV → List V → Prop := RepL K g.CR l.al (g.L l) l.H
structure Step (l l' : Lc) : Prop where
  pre : ∃ b, l'.al = l.al ++ b
  new : ∀ a, l'.M a → l.M a ∨ l.H a = none
  keep : ∀ a o, ¬ l.M a → l.H a = some o → l'.H a = some o
  dom : ∀ a, l.H a ≠ none → l'.H a ≠ none
theorem Step.refl (l : Lc) : Step l l := ⟨⟨[], by simp⟩, fun _ h => .inl h, fun _ _ _ h => h, fun _ h => h⟩
theorem Step.trans {l l1 l2 : Lc} (a : Step l l1) (b : Step l1 l2) : Step l l2 where
  pre := by
    obtain ⟨x, hx⟩ := a.pre
    obtain ⟨y, hy⟩ := b.pre
    exact ⟨x ++ y, by rw [hy, hx, List.append_assoc]⟩
  new := fun c h => by
    rcases b.new c h with h | h
    · exact a.new c h
    · cases q : l.H c with
      | none => exact .inr rfl
      | some o => exact absurd h (a.dom c (by rw [q]; simp))
  keep := fun c o h e => by
    have e1 := a.keep c o h e
    refine b.keep c o (fun z => ?_) e1
    rcases a.new c z with z | z
    · exact h z
    · rw [z] at e; cases e
  dom := fun c h => b.dom c (a.dom c h)
theorem Rd.keep {H H' : Hp} {a : Addr} {o : HO} (k : ∀ o, H a = some o → H' a = some o) (h : Rd H a o) : Rd H' a o := by
  rcases h with h | ⟨u, h⟩
  · exact .inl (k _ h)
  · exact .inr ⟨u, k _ h⟩
theorem Rd.some {H : Hp} {a : Addr} {o : HO} (h : Rd H a o) : ∃ u, H a = some u := by
  rcases h with h | ⟨u, h⟩
  · exact ⟨_, h⟩
  · exact ⟨_, h⟩
theorem SqT.of2 {K : PySem.W.Frag} {L : Addr → Prop} {H : Hp} {a : Addr} {xs : List V} (h : ¬ L a ∧ Rd H a (.tup xs) ∨ KT K a xs) : SqT K H a xs := by
  rcases h with ⟨_, h⟩ | h
  · exact .inl h
  · exact .inr h
theorem SqL.of2 {K : PySem.W.Frag} {L : Addr → Prop} {H : Hp} {a : Addr} {xs : List V} (h : ¬ L a ∧ Rd H a (.lst xs) ∨ KL K a xs) : SqL K H a xs := by
  rcases h with ⟨_, h⟩ | h
  · exact .inl h
  · exact .inr h
mutual
theorem Rep.mono {K : PySem.W.Frag} {CR : Addr} {al al' : List Addr} {L L' : Addr → Prop} {H H' : Hp} (ha : ∀ (n : Nat) a, al[n]? = some a → al'[n]? = some a)
    (hL : ∀ a o, ¬ L a → H a = some o → H' a = some o ∧ ¬ L' a) : ∀ (x : PV) (v : V), Rep K CR al L H x v → Rep K CR al' L' H' x v
  | .non, v, h => h
  | .bl b, v, h => h
  | .int i, v, h => h
  | .str x, v, h => h
  | .rat q, v, h => by
    obtain ⟨a, dx, e, n, h⟩ := h
    exact ⟨a, dx, e, (hL a _ n h).2, (hL a _ n h).1⟩
  | .tup xs, v, h => by
    obtain ⟨a, vs, e, h, r⟩ := h
    refine ⟨a, vs, e, ?_, RepL.mono ha hL xs vs r⟩
    rcases h with ⟨n, h⟩ | h
    · obtain ⟨u, hu⟩ := Rd.some h
      exact .inl ⟨(hL a u n hu).2, Rd.keep (fun o q => (hL a o n q).1) h⟩
    · exact .inr h
  | .lst xs, v, h => by
    obtain ⟨a, vs, e, n, h, r⟩ := h
    exact ⟨a, vs, e, (hL a _ n h).2, (hL a _ n h).1, RepL.mono ha hL xs vs r⟩
  | .frz xs, v, h => by
    obtain ⟨a, vs, e, h, r⟩ := h
    refine ⟨a, vs, e, ?_, RepL.mono ha hL xs vs r⟩
    rcases h with ⟨n, h⟩ | h
    · obtain ⟨u, hu⟩ := Rd.some h
      exact .inl ⟨(hL a u n hu).2, Rd.keep (fun o q => (hL a o n q).1) h⟩
    · exact .inr h
  | .obj C ns xs, v, h => by
    obtain ⟨a, dx, vs, e, n, h, z, r⟩ := h
    exact ⟨a, dx, vs, e, (hL a _ n h).2, (hL a _ n h).1, z, RepL.mono ha hL xs vs r⟩
  | .ptr n, v, h => by
    obtain ⟨a, h, e⟩ := h
    exact ⟨a, ha n a h, e⟩
  | .adr a, v, h => h
  | .ty n, v, h => h
  | .dk ks xs, v, h => by
    obtain ⟨a, vs, e, n, h, z, r⟩ := h
    obtain ⟨u, hu⟩ := Rd.some h
    exact ⟨a, vs, e, (hL a u n hu).2, Rd.keep (fun o q => (hL a o n q).1) h, z, RepL.mono ha hL xs vs r⟩
  | .dt ks xs, v, h => by
    obtain ⟨a, vs, e, n, h, z, r⟩ := h
    obtain ⟨u, hu⟩ := Rd.some h
    exact ⟨a, vs, e, (hL a u n hu).2, Rd.keep (fun o q => (hL a o n q).1) h, z, RepL.mono ha hL xs vs r⟩
  | .exc C ns xs, v, h => by
    obtain ⟨a, d, vs, e, n, h, z, q, r⟩ := h
    refine ⟨a, d, vs, e, (hL a _ n h).2, (hL a _ n h).1, z, ?_, RepL.mono ha hL xs vs r⟩
    rcases q with q | ⟨dd, q1, q2, q3⟩
    · exact .inl q
    · exact .inr ⟨dd, q1, (hL dd _ q2 q3).2, (hL dd _ q2 q3).1⟩
  | .clo t xs, v, h => by
    obtain ⟨e, n, h, r⟩ := h
    exact ⟨e, (hL t.c _ n h).2, (hL t.c _ n h).1, RepL.mono ha hL xs t.vs r⟩
theorem RepL.mono {K : PySem.W.Frag} {CR : Addr} {al al' : List Addr} {L L' : Addr → Prop} {H H' : Hp} (ha : ∀ (n : Nat) a, al[n]? = some a → al'[n]? = some a)
    (hL : ∀ a o, ¬ L a → H a = some o → H' a = some o ∧ ¬ L' a) : ∀ (x : List PV) (v : List V), RepL K CR al L H x v → RepL K CR al' L' H' x v
  | [], v, h => h
  | x :: xs, v, h => by
    obtain ⟨u, r, e, h1, h2⟩ := h
    exact ⟨u, r, e, Rep.mono ha hL x u h1, RepL.mono ha hL xs r h2⟩
end
theorem Step.al {l l' : Lc} (st : Step l l') (n : Nat) (a : Addr) (h : l.al[n]? = some a) : l'.al[n]? = some a := by
  obtain ⟨b, e⟩ := st.pre
  rw [e, List.getElem?_append_left (List.getElem?_eq_some_iff.mp h).1]
  exact h
theorem Step.repL' {l l' : Lc} {g : Gx} (st : Step l l') (a : Addr) (o : HO) (n : ¬ g.L l a) (h : l.H a = some o) : l'.H a = some o ∧ ¬ g.L l' a := by
  refine ⟨st.keep a o (fun z => n (.inl z)) h, fun z => ?_⟩
  rcases z with z | z
  · rcases st.new a z with q | q
    · exact n (.inl q)
    · rw [h] at q; cases q
  · exact n (.inr z)
theorem TabI.to {K : PySem.W.Frag} {g g' : Gx} {l l' : Lc} {x : Str} (h : TabI K g l x) (hM : l'.M (tA K x)) (hal : tA K x ∉ l'.al) (hP : ∀ ps, l.H (tA K x) = some (.tbl ps) → l'.H (tA K x) = some (.tbl ps))
    (hL : ∀ c q, ¬ g.L l c → l.H c = some (LamX.CodeO c q) → l'.H c = some (LamX.CodeO c q) ∧ ¬ g'.L l' c) : TabI K g' l' x := by
  obtain ⟨ps, h1, h2, h3⟩ := h.is
  refine ⟨hM, hal, ps, hP _ h1, h2, fun pos cv e => ?_⟩
  obtain ⟨c, e1, e2, e3⟩ := h3 pos cv e
  exact ⟨c, e1, (hL c _ e2 e3).2, (hL c _ e2 e3).1⟩
theorem TabI.there {K : PySem.W.Frag} {g : Gx} {l : Lc} {x : Str} (h : TabI K g l x) : l.H (tA K x) ≠ none := by
  obtain ⟨ps, h1, _⟩ := h.is
  rw [h1]
  exact fun z => nomatch z
theorem TabI.ne {K : PySem.W.Frag} {g : Gx} {l : Lc} {x : Str} {a : Addr} {o : HO} (h : TabI K g l x) (e : l.H a = some o) (n : ∀ ps, o ≠ .tbl ps) : tA K x ≠ a := fun z => by
  obtain ⟨ps, h1, _⟩ := h.is
  rw [z, e] at h1
  exact n ps (Option.some.inj h1)
theorem TabI.ne0 {K : PySem.W.Frag} {g : Gx} {l : Lc} {x : Str} {a : Addr} (h : TabI K g l x) (e : l.H a = none) : tA K x ≠ a := fun z => h.there (by rw [z]; exact e)
theorem TabI.same {K : PySem.W.Frag} {g g' : Gx} {l : Lc} {x : Str} (h : TabI K g l x) (e : g'.N = g.N) : TabI K g' l x := h.to h.M h.al (fun _ q => q) fun c q n e2 => ⟨e2, by
  show ¬ (l.M c ∨ g'.N c)
  rw [e]
  exact n⟩
theorem Step.rep {K : PySem.W.Frag} {g : Gx} {l l' : Lc} (st : Step l l') {x : PV} {v : V} (h : RepG K g l x v) : RepG K g l' x v := Rep.mono st.al (fun a o => st.repL' a o) x v h
theorem Step.reps {K : PySem.W.Frag} {g : Gx} {l l' : Lc} (st : Step l l') {x : List PV} {v : List V} (h : RepGL K g l x v) : RepGL K g l' x v := RepL.mono st.al (fun a o => st.repL' a o) x v h
theorem RepL.length {K : PySem.W.Frag} {CR : Addr} {al : List Addr} {L : Addr → Prop} {H : Hp} : ∀ {xs : List PV} {vs : List V}, RepL K CR al L H xs vs → xs.length = vs.length
  | [], vs, h => by have e : vs = [] := h; rw [e]; rfl
  | x :: xs, vs, h => by
    obtain ⟨v, r, e, _, h2⟩ := h
    rw [e, List.length_cons, List.length_cons, RepL.length h2]
theorem RepL.get {K : PySem.W.Frag} {CR : Addr} {al : List Addr} {L : Addr → Prop} {H : Hp} : ∀ {xs : List PV} {vs : List V} {i : Nat} {x : PV}, RepL K CR al L H xs vs → xs[i]? = some x → ∃ v, vs[i]? = some v ∧ Rep K CR al L H x v
  | [], _, _, _, _, e => by simp at e
  | y :: xs, vs, 0, x, h, e => by
    obtain ⟨v, r, ev, h1, _⟩ := h
    simp only [List.getElem?_cons_zero, Option.some.injEq] at e
    subst e
    exact ⟨v, by rw [ev]; rfl, h1⟩
  | y :: xs, vs, i + 1, x, h, e => by
    obtain ⟨v, r, ev, _, h2⟩ := h
    obtain ⟨u, h3, h4⟩ := RepL.get (i := i) (x := x) h2 (by simpa using e)
    exact ⟨u, by rw [ev]; simpa using h3, h4⟩
theorem RepL.append {K : PySem.W.Frag} {CR : Addr} {al : List Addr} {L : Addr → Prop} {H : Hp} : ∀ {xs ys : List PV} {vs ws : List V}, RepL K CR al L H xs vs → RepL K CR al L H ys ws → RepL K CR al L H (xs ++ ys) (vs ++ ws)
  | [], ys, vs, ws, h, q => by have e : vs = [] := h; rw [e]; exact q
  | x :: xs, ys, vs, ws, h, q => by
    obtain ⟨v, r, ev, h1, h2⟩ := h
    exact ⟨v, r ++ ws, by rw [ev]; rfl, h1, RepL.append h2 q⟩
theorem RepL.split {K : PySem.W.Frag} {CR : Addr} {al : List Addr} {L : Addr → Prop} {H : Hp} : ∀ {xs ys : List PV} {vs : List V}, RepL K CR al L H (xs ++ ys) vs → ∃ v1 v2, vs = v1 ++ v2 ∧ RepL K CR al L H xs v1 ∧ RepL K CR al L H ys v2
  | [], ys, vs, h => ⟨[], vs, rfl, rfl, h⟩
  | x :: xs, ys, vs, h => by
    obtain ⟨v, r, ev, h1, h2⟩ := h
    obtain ⟨v1, v2, e, a, b⟩ := RepL.split h2
    exact ⟨v :: v1, v2, by rw [ev, e]; rfl, ⟨v, v1, rfl, h1, a⟩, b⟩
theorem RepL.iff {K : PySem.W.Frag} {CR : Addr} {al : List Addr} {L : Addr → Prop} {H : Hp} : ∀ {xs : List PV} {vs : List V}, RepL K CR al L H xs vs ↔ xs.length = vs.length ∧ ∀ (i : Nat) x, xs[i]? = some x → ∃ v, vs[i]? = some v ∧ Rep K CR al L H x v
  | [], [] => ⟨fun _ => ⟨rfl, fun i x h => by simp at h⟩, fun _ => rfl⟩
  | [], v :: vs => ⟨fun h => (by cases h), fun h => nomatch h.1⟩
  | x :: xs, [] => ⟨fun h => (by obtain ⟨v, r, e, _⟩ := h; exact nomatch e), fun h => nomatch h.1⟩
  | x :: xs, v :: vs => by
    refine ⟨fun h => ⟨h.length, fun i y => h.get⟩, fun ⟨h1, h2⟩ => ?_⟩
    obtain ⟨u, e, r⟩ := h2 0 x rfl
    simp only [List.getElem?_cons_zero, Option.some.injEq] at e
    subst e
    exact ⟨v, vs, rfl, r, RepL.iff.mpr ⟨by simpa using h1, fun i y hy => by simpa using h2 (i + 1) y (by simpa using hy)⟩⟩
end L3
namespace L3
open PySem PySem.Spec PyProof.Rows L2
abbrev St := L2.St
def MoRep (K : PySem.W.Frag) (g : Gx) (l : Lc) (a : Addr) : MO → Prop
  | .lst xs => ∃ vs, l.H a = some (.lst vs) ∧ RepGL K g l xs vs
  | .ins C ns xs => ∃ dx vs, l.H a = some (.ins C dx (ns.zip vs)) ∧ ns.length = vs.length ∧ RepGL K g l xs vs
  | .nst c ns xs => ∃ dx vs, l.H a = some (.ins (He.ga K c) dx (ns.zip vs)) ∧ ns.length = vs.length ∧ RepGL K g l xs vs
  | .dic ks xs => ∃ vs, l.H a = some (.dK (ks.zip vs)) ∧ ks.length = vs.length ∧ (ks.Nodup) ∧ RepGL K g l xs vs
structure Sok (K : PySem.W.Frag) (g : Gx) (l : Lc) (s : S) (σ : St) : Prop where
  len : s.env.length = σ.length
  env : ∀ (i : Nat) v, s.env[i]? = some (some (.val v)) → ∃ u, σ[i]? = some (some u) ∧ RepG K g l v u
  own : ∀ (i : Nat) xs, s.env[i]? = some (some (.own xs)) → ∃ a vs, σ[i]? = some (some (.ref a)) ∧ l.M a ∧ a ∉ l.al ∧ l.H a = some (.lst vs) ∧ RepGL K g l xs vs
  dis : ∀ (i j : Nat) xs ys a, i ≠ j → s.env[i]? = some (some (.own xs)) → s.env[j]? = some (some (.own ys)) → σ[i]? = some (some (.ref a)) → σ[j]? = some (some (.ref a)) → False
  mlen : l.al.length = s.mu.length
  mu : ∀ (n : Nat) a m, l.al[n]? = some a → s.mu[n]? = some m → MoRep K g l a m
  nd : l.al.Nodup
  alM : ∀ a, a ∈ l.al → l.M a
  there : ∀ a, l.M a ∨ g.N a → l.H a ≠ none
  mn : ∀ a, l.M a → ¬ g.N a
  tabs : ∀ x ∈ TK K, TabI K g l x
/-- an exception's abstract value -/
def RepX (K : PySem.W.Frag) (g : Gx) (l : Lc) (e : PV) (cls : Value) (dd : Option Addr) : Prop :=
  ∃ c ns xs vs, e = .exc c ns xs ∧ cls = .ref (He.ga K c) ∧ ns.length = vs.length ∧ RepGL K g l xs vs ∧ ((dd = none ∧ ns = []) ∨ ∃ d, dd = some d ∧ ¬ g.L l d ∧ l.H d = some (.xd (ns.zip vs)))
/-- from here on, for an expression -/
def Run (K : PySem.W.Frag) (g : Gx) (r : R S PV) (l : Lc) (σ : St) (Q : VK) : Prop := match r with
  | .ok v s' => ∀ l' u, Step l l' → Sok K g l' s' σ → RepG K g l' v u → Q u l'.H
  | .exn e s' => ∀ l' cls dd, Step l l' → Sok K g l' s' σ → RepX K g l' e cls dd → g.W cls dd σ l'.H
  | .bad => False
def RunT (K : PySem.W.Frag) (g : Gx) (r : R S Bool) (l : Lc) (σ : St) (Q : Bool → Hp → Prop) : Prop := match r with
  | .ok b s' => ∀ l', Step l l' → Sok K g l' s' σ → Q b l'.H
  | .exn e s' => ∀ l' cls dd, Step l l' → Sok K g l' s' σ → RepX K g l' e cls dd → g.W cls dd σ l'.H
  | .bad => False
def RunA (K : PySem.W.Frag) (g : Gx) (r : R S (List PV)) (l : Lc) (σ : St) (Q : List V → Hp → Prop) : Prop := match r with
  | .ok vs s' => ∀ l' us, Step l l' → Sok K g l' s' σ → RepGL K g l' vs us → Q us l'.H
  | .exn e s' => ∀ l' cls dd, Step l l' → Sok K g l' s' σ → RepX K g l' e cls dd → g.W cls dd σ l'.H
  | .bad => False
def RunS (K : PySem.W.Frag) (g : Gx) (r : R S Fl) (l : Lc) (D : Ends) (σ : St) : Prop := match r with
  | .ok .nx s' => ∀ l' σ', Step l l' → Sok K g l' s' σ' → D.nx σ' l'.H
  | .ok .bk s' => ∀ l' σ', Step l l' → Sok K g l' s' σ' → D.bk σ' l'.H
  | .ok .ct s' => ∀ l' σ', Step l l' → Sok K g l' s' σ' → D.ct σ' l'.H
  | .ok (.rt v) s' => ∀ l' σ' u, Step l l' → Sok K g l' s' σ' → RepG K g l' v u → D.rt u l'.H
  | .exn e s' => ∀ l' σ' cls dd, Step l l' → Sok K g l' s' σ' → RepX K g l' e cls dd → g.W cls dd σ' l'.H
  | .bad => False
def LE (K : PySem.W.Frag) (g : Gx) (d : DE) : TE := fun σ H Q => ∃ l s, l.H = H ∧ Sok K g l s σ ∧ Run K g (d s) l σ Q
def LT (K : PySem.W.Frag) (g : Gx) (d : DT) : TT := fun σ H Q => ∃ l s, l.H = H ∧ Sok K g l s σ ∧ RunT K g (d s) l σ Q
def LA (K : PySem.W.Frag) (g : Gx) (d : DA) : TA := fun σ H Q => ∃ l s, l.H = H ∧ Sok K g l s σ ∧ RunA K g (d s) l σ Q
def LS (K : PySem.W.Frag) (g : Gx) (d : DS) : TS := fun D σ H => ∃ l s, l.H = H ∧ Sok K g l s σ ∧ RunS K g (d s) l D σ
/-- the judgements: code and what it computes -/
abbrev JE (X : Cx) (g : Gx) (e : Expr) (d : DE) : Prop := PE X e (LE X.K g d)
abbrev JT (X : Cx) (g : Gx) (e : Expr) (d : DT) : Prop := PT X e (LT X.K g d)
abbrev JA (X : Cx) (g : Gx) (es : List Expr) (d : DA) : Prop := PA X es (LA X.K g d)
abbrev JS (X : Cx) (g : Gx) (st : Stmt) (d : DS) : Prop := PS X st (LS X.K g d)
abbrev JSs (X : Cx) (g : Gx) (st : List Stmt) (d : DS) : Prop := PSs X st (LS X.K g d)
section
variable {K : PySem.W.Frag} {g : Gx} {l l1 : Lc} {σ : St} {Q : VK}
theorem Run.step {r : R S PV} (h : Run K g r l σ Q) (st : Step l l1) : Run K g r l1 σ Q := by
  cases r with
  | ok v s' => exact fun l' u a => h l' u (st.trans a)
  | exn e s' => exact fun l' c d a => h l' c d (st.trans a)
  | bad => exact h
theorem RunT.step {r : R S Bool} {Q : Bool → Hp → Prop} (h : RunT K g r l σ Q) (st : Step l l1) : RunT K g r l1 σ Q := by
  cases r with
  | ok v s' => exact fun l' a => h l' (st.trans a)
  | exn e s' => exact fun l' c d a => h l' c d (st.trans a)
  | bad => exact h
theorem RunA.step {r : R S (List PV)} {Q : List V → Hp → Prop} (h : RunA K g r l σ Q) (st : Step l l1) : RunA K g r l1 σ Q := by
  cases r with
  | ok v s' => exact fun l' u a => h l' u (st.trans a)
  | exn e s' => exact fun l' c d a => h l' c d (st.trans a)
  | bad => exact h
theorem RunS.step {r : R S Fl} {D : Ends} (h : RunS K g r l D σ) (st : Step l l1) : RunS K g r l1 D σ := by
  cases r with
  | ok f s' =>
    cases f with
    | nx => exact fun l' u a => h l' u (st.trans a)
    | bk => exact fun l' u a => h l' u (st.trans a)
    | ct => exact fun l' u a => h l' u (st.trans a)
    | rt v => exact fun l' u x a => h l' u x (st.trans a)
  | exn e s' => exact fun l' u c d a => h l' u c d (st.trans a)
  | bad => exact h
theorem Run.mono {r : R S PV} {Q' : VK} (h : Run K g r l σ Q) (i : ∀ u H, Q u H → Q' u H) : Run K g r l σ Q' := by
  cases r with
  | ok v s' => exact fun l' u a b c => i _ _ (h l' u a b c)
  | exn e s' => exact h
  | bad => exact h
theorem RunT.mono {r : R S Bool} {Q Q' : Bool → Hp → Prop} (h : RunT K g r l σ Q) (i : ∀ u H, Q u H → Q' u H) : RunT K g r l σ Q' := by
  cases r with
  | ok v s' => exact fun l' a b => i _ _ (h l' a b)
  | exn e s' => exact h
  | bad => exact h
theorem RunA.mono {r : R S (List PV)} {Q Q' : List V → Hp → Prop} (h : RunA K g r l σ Q) (i : ∀ u H, Q u H → Q' u H) : RunA K g r l σ Q' := by
  cases r with
  | ok v s' => exact fun l' u a b c => i _ _ (h l' u a b c)
  | exn e s' => exact h
  | bad => exact h
/-- an expression, then what follows -/
theorem Run.bind {r : R S PV} {k : PV → S → R S PV} (h : Run K g (r.bind k) l σ Q) : Run K g r l σ (fun u H1 => ∃ l1 s1 v, l1.H = H1 ∧ Sok K g l1 s1 σ ∧ RepG K g l1 v u ∧ Step l l1 ∧ Run K g (k v s1) l1 σ Q) := by
  cases r with
  | ok v s' => exact fun l' u a ok rp => ⟨l', s', v, rfl, ok, rp, a, Run.step (r := k v s') h a⟩
  | exn e s' => exact h
  | bad => exact h
theorem Run.bindT {r : R S PV} {k : PV → S → R S Bool} {Q : Bool → Hp → Prop} (h : RunT K g (r.bind k) l σ Q) : Run K g r l σ (fun u H1 => ∃ l1 s1 v, l1.H = H1 ∧ Sok K g l1 s1 σ ∧ RepG K g l1 v u ∧ Step l l1 ∧ RunT K g (k v s1) l1 σ Q) := by
  cases r with
  | ok v s' => exact fun l' u a ok rp => ⟨l', s', v, rfl, ok, rp, a, RunT.step (r := k v s') h a⟩
  | exn e s' => exact h
  | bad => exact h
theorem Run.bindA {r : R S PV} {k : PV → S → R S (List PV)} {Q : List V → Hp → Prop} (h : RunA K g (r.bind k) l σ Q) : Run K g r l σ (fun u H1 => ∃ l1 s1 v, l1.H = H1 ∧ Sok K g l1 s1 σ ∧ RepG K g l1 v u ∧ Step l l1 ∧ RunA K g (k v s1) l1 σ Q) := by
  cases r with
  | ok v s' => exact fun l' u a ok rp => ⟨l', s', v, rfl, ok, rp, a, RunA.step (r := k v s') h a⟩
  | exn e s' => exact h
  | bad => exact h
theorem Run.bindS {r : R S PV} {k : PV → S → R S Fl} {D : Ends} (h : RunS K g (r.bind k) l D σ) : Run K g r l σ (fun u H1 => ∃ l1 s1 v, l1.H = H1 ∧ Sok K g l1 s1 σ ∧ RepG K g l1 v u ∧ Step l l1 ∧ RunS K g (k v s1) l1 D σ) := by
  cases r with
  | ok v s' => exact fun l' u a ok rp => ⟨l', s', v, rfl, ok, rp, a, RunS.step (r := k v s') h a⟩
  | exn e s' => exact fun l' c d => h l' σ c d
  | bad => exact h
theorem RunT.bind {r : R S Bool} {k : Bool → S → R S PV} (h : Run K g (r.bind k) l σ Q) : RunT K g r l σ (fun b H1 => ∃ l1 s1, l1.H = H1 ∧ Sok K g l1 s1 σ ∧ Step l l1 ∧ Run K g (k b s1) l1 σ Q) := by
  cases r with
  | ok v s' => exact fun l' a ok => ⟨l', s', rfl, ok, a, Run.step (r := k v s') h a⟩
  | exn e s' => exact h
  | bad => exact h
theorem RunT.bindS {r : R S Bool} {k : Bool → S → R S Fl} {D : Ends} (h : RunS K g (r.bind k) l D σ) : RunT K g r l σ (fun b H1 => ∃ l1 s1, l1.H = H1 ∧ Sok K g l1 s1 σ ∧ Step l l1 ∧ RunS K g (k b s1) l1 D σ) := by
  cases r with
  | ok v s' => exact fun l' a ok => ⟨l', s', rfl, ok, a, RunS.step (r := k v s') h a⟩
  | exn e s' => exact fun l' c d => h l' σ c d
  | bad => exact h
theorem RunA.bind {r : R S (List PV)} {k : List PV → S → R S PV} (h : Run K g (r.bind k) l σ Q) : RunA K g r l σ (fun us H1 => ∃ l1 s1 vs, l1.H = H1 ∧ Sok K g l1 s1 σ ∧ RepGL K g l1 vs us ∧ Step l l1 ∧ Run K g (k vs s1) l1 σ Q) := by
  cases r with
  | ok v s' => exact fun l' u a ok rp => ⟨l', s', v, rfl, ok, rp, a, Run.step (r := k v s') h a⟩
  | exn e s' => exact h
  | bad => exact h
theorem RunA.bindA {r : R S (List PV)} {k : List PV → S → R S (List PV)} {Q : List V → Hp → Prop} (h : RunA K g (r.bind k) l σ Q) : RunA K g r l σ (fun us H1 => ∃ l1 s1 vs, l1.H = H1 ∧ Sok K g l1 s1 σ ∧ RepGL K g l1 vs us ∧ Step l l1 ∧ RunA K g (k vs s1) l1 σ Q) := by
  cases r with
  | ok v s' => exact fun l' u a ok rp => ⟨l', s', v, rfl, ok, rp, a, RunA.step (r := k v s') h a⟩
  | exn e s' => exact h
  | bad => exact h
end
section
variable {X : Cx}
/-- what suffices -/
theorem PE.cq {e : Expr} {t t' : TE} (h : PE X e t) (i : ∀ pins s σ H Q, Inv X pins σ H s → t' σ H Q → t σ H Q) : PE X e t' := ⟨fun pins s σ H Q I q => h.run pins s σ H Q I (i pins s σ H Q I q)⟩
theorem PA.cq {es : List Expr} {t t' : TA} (h : PA X es t) (i : ∀ σ H Q, t' σ H Q → t σ H Q) : PA X es t' := ⟨fun pos pins s σ H Q I q => h.run pos pins s σ H Q I (i σ H Q q)⟩
theorem PS.cq {st : Stmt} {t t' : TS} (h : PS X st t) (i : ∀ pins s D σ H, Inv X pins σ H s → t' D σ H → t D σ H) : PS X st t' := ⟨fun pins s σ H D I q => h.run pins s σ H D I (i pins s D σ H I q)⟩
theorem PSs.cq {st : List Stmt} {t t' : TS} (h : PSs X st t) (i : ∀ D σ H, t' D σ H → t D σ H) : PSs X st t' := ⟨fun pins s σ H D I q => h.run pins s σ H D I (i D σ H q)⟩
end
section
variable {K : PySem.W.Frag} {g : Gx} {l : Lc} {s : S} {σ : St} {p : Addr} {o : HO}
theorem Step.alloc (hp : l.H p = none) : Step l ⟨l.al, l.M, upd l.H p o⟩ where
  pre := ⟨[], by simp⟩
  new := fun _ h => .inl h
  keep := fun a u _ h => by show upd l.H p o a = some u; rw [upd_ne (ne_of_none h hp)]; exact h
  dom := fun a h => by
    show upd l.H p o a ≠ none
    by_cases e : a = p
    · rw [e, upd_same]; simp
    · rw [upd_ne e]; exact h
/-- all that was known stays where objects are only made -/
theorem Sok.grow {l' : Lc} (ok : Sok K g l s σ) (ea : l'.al = l.al) (eM : l'.M = l.M) (k : ∀ a o, l.H a = some o → l'.H a = some o) : Sok K g l' s σ := by
  have st : Step l l' := ⟨⟨[], by simp [ea]⟩, fun a h => .inl (by rw [← eM]; exact h), fun a o _ h => k a o h, fun a h => by
    cases q : l.H a with
    | none => exact absurd q h
    | some o => rw [k a o q]; simp⟩
  refine ⟨ok.len, fun i v e => ?_, fun i xs e => ?_, ok.dis, by rw [ea]; exact ok.mlen, fun n a m h1 h2 => ?_, by rw [ea]; exact ok.nd, by rw [ea, eM]; exact ok.alM, fun a h => st.dom a (ok.there a (by rw [← eM]; exact h)), by rw [eM]; exact ok.mn, fun x hx => (ok.tabs x hx).to (by rw [eM]; exact (ok.tabs x hx).M) (by rw [ea]; exact (ok.tabs x hx).al) (fun _ q => k _ _ q) fun c q n e => st.repL' c _ n e⟩
  · obtain ⟨u, h1, h2⟩ := ok.env i v e
    exact ⟨u, h1, st.rep h2⟩
  · obtain ⟨a, vs, h1, h2, h3, h4, h5⟩ := ok.own i xs e
    exact ⟨a, vs, h1, by rw [eM]; exact h2, by rw [ea]; exact h3, k _ _ h4, st.reps h5⟩
  · rw [ea] at h1
    have q := ok.mu n a m h1 h2
    cases m with
    | lst xs =>
      obtain ⟨vs, q1, q2⟩ := q
      exact ⟨vs, k _ _ q1, st.reps q2⟩
    | ins C ns xs =>
      obtain ⟨dx, vs, q1, q2, q3⟩ := q
      exact ⟨dx, vs, k _ _ q1, q2, st.reps q3⟩
    | nst C ns xs =>
      obtain ⟨dx, vs, q1, q2, q3⟩ := q
      exact ⟨dx, vs, k _ _ q1, q2, st.reps q3⟩
    | dic ns xs =>
      obtain ⟨vs, q1, q2, q9, q3⟩ := q
      exact ⟨vs, k _ _ q1, q2, q9, st.reps q3⟩
theorem Sok.alloc (ok : Sok K g l s σ) (hp : l.H p = none) : Sok K g ⟨l.al, l.M, upd l.H p o⟩ s σ :=
  ok.grow rfl rfl fun a u h => by show upd l.H p o a = some u; rw [upd_ne (ne_of_none h hp)]; exact h
theorem Sok.fresh (ok : Sok K g l s σ) (hp : l.H p = none) : ¬ g.L l p := fun h => ok.there p h hp
end
end L3
namespace L3
open PySem PySem.Spec PyProof.Rows L2
@[simp] def dC (v : PV) : DE := fun s => .ok v s
@[simp] def dVar (i : Nat) : DE := fun s => match s.env[i]? with
  | some (some (.val v)) => .ok v s
  | _ => .bad
@[simp] def dBin (f : PV → PV → S → R S PV) (da db : DE) : DE := fun s => (da s).bind fun x s1 => (db s1).bind fun y s2 => f x y s2
@[simp] def dUn (f : PV → S → R S PV) (da : DE) : DE := fun s => (da s).bind f
@[simp] def dNil : DA := fun s => .ok [] s
@[simp] def dCons (da : DE) (dr : DA) : DA := fun s => (da s).bind fun x s1 => (dr s1).bind fun xs s2 => .ok (x :: xs) s2
@[simp] def dFn (f : List PV → S → R S PV) (da : DA) : DE := fun s => (da s).bind f
/-- an operation on values at a state -/
def OJ (X : Cx) (g : Gx) (fn : Value → Value → Sem Value) (f : PV → PV → S → R S PV) : Prop :=
  ∀ (pins : List (Addr × Obj)) (s : Shared) (σ : St) (x y : V) (v u : Value) (Q : VK) (l : Lc) (st : S) (p q : PV), Inv X pins σ l.H s → RelV x v → RelV y u → Sok X.K g l st σ → RepG X.K g l p x → RepG X.K g l q y →
    Run X.K g (f p q st) l σ Q → wpAny (model X.prog X.w) X.A (fn v u) (EP X pins σ Q) X.xe s
def UJ (X : Cx) (g : Gx) (fn : Value → Sem Value) (f : PV → S → R S PV) : Prop :=
  ∀ (pins : List (Addr × Obj)) (s : Shared) (σ : St) (x : V) (v : Value) (Q : VK) (l : Lc) (st : S) (p : PV), Inv X pins σ l.H s → RelV x v → Sok X.K g l st σ → RepG X.K g l p x →
    Run X.K g (f p st) l σ Q → wpAny (model X.prog X.w) X.A (fn v) (EP X pins σ Q) X.xe s
def CJ (X : Cx) (g : Gx) (fn : List Value → Sem Value) (f : List PV → S → R S PV) : Prop :=
  ∀ (pins : List (Addr × Obj)) (s : Shared) (σ : St) (xs : List V) (vs : List Value) (Q : VK) (l : Lc) (st : S) (ps : List PV), Inv X pins σ l.H s → Vals xs vs → Sok X.K g l st σ → RepGL X.K g l ps xs →
    Run X.K g (f ps st) l σ Q → wpAny (model X.prog X.w) X.A (fn vs) (EP X pins σ Q) X.xe s
section
variable {X : Cx} {g : Gx} {a b c e : Expr} {es : List Expr} {da db dc de : DE} {dr : DA} {pos : Pos}
theorem OJ.of {fn : Value → Value → Sem Value} {f : PV → PV → S → R S PV} {r : R2} (h : OpR X fn r) (i : ∀ l st σ p q x y Q, Sok X.K g l st σ → RepG X.K g l p x → RepG X.K g l q y → Run X.K g (f p q st) l σ Q → r x y l.H Q) : OJ X g fn f :=
  fun pins s σ x y v u Q l st p q I rx ry ok rp rq q' => h pins s σ l.H x y v u Q I rx ry (i l st σ p q x y Q ok rp rq q')
theorem UJ.of {fn : Value → Sem Value} {f : PV → S → R S PV} {r : V → Hp → VK → Prop} (h : UnR X fn r) (i : ∀ l st σ p x Q, Sok X.K g l st σ → RepG X.K g l p x → Run X.K g (f p st) l σ Q → r x l.H Q) : UJ X g fn f :=
  fun pins s σ x v Q l st p I rx ok rp q' => h pins s σ l.H x v Q I rx (i l st σ p x Q ok rp q')
theorem CJ.of {v : Value} {f : List PV → S → R S PV} {r : List V → Hp → VK → Prop} (h : CallR X v r) (i : ∀ l st σ ps xs Q, Sok X.K g l st σ → RepGL X.K g l ps xs → Run X.K g (f ps st) l σ Q → r xs l.H Q) : CJ X g (fun us => call v us) f :=
  fun pins s σ xs us Q l st ps I rx ok rp q' => h pins s σ l.H xs us Q I rx (i l st σ ps xs Q ok rp q')
theorem jc {v : V} {p : PV} (h : PE X e (tC v)) (r : ∀ l, RepG X.K g l p v) : JE X g e (dC p) := PE.cq h fun pins s σ H Q I q => by
  obtain ⟨l, s, rfl, ok, q⟩ := q
  exact q l v (Step.refl l) ok (r l)
theorem j_int {i j pos} : JE X g (.Constant (.int i) j pos) (dC (.int i)) := jc pe_int fun _ => rfl
theorem j_bl {b j pos} : JE X g (.Constant (.bool b) j pos) (dC (.bl b)) := jc pe_bl fun _ => rfl
theorem j_non {j pos} : JE X g (.Constant .none j pos) (dC .non) := jc pe_non fun _ => rfl
theorem j_str {x j pos} : JE X g (.Constant (.str x) j pos) (dC (.str x)) := jc pe_str fun _ => rfl
theorem jv (i : Nat) {x : Str} (hN : X.N[i]? = some x := by rfl) (hv : Vis X.env.scope x := by first | exact Or.inl rfl | exact Or.inr (Or.inl rfl) | exact Or.inr (Or.inr rfl)) (hd : (x == ("__debug__" : Str)) = false := by decide)
    (hcd : (x == ("__classdict__" : Str)) = false := by decide) : JE X g (.Name x pos) (dVar i) := PE.cq (pe_var hN hv hd hcd) fun pins s σ H Q I q => by
  obtain ⟨l, s, rfl, ok, q⟩ := q
  cases e : s.env[i]? with
  | none => simp only [dVar, e] at q; exact q.elim
  | some o =>
    cases o with
    | none => simp only [dVar, e] at q; exact q.elim
    | some z =>
      cases z with
      | own xs => simp only [dVar, e] at q; exact q.elim
      | val v =>
        simp only [dVar, e] at q
        obtain ⟨u, h1, h2⟩ := ok.env i v e
        exact ⟨u, h1, q l u (Step.refl l) ok h2⟩
theorem j_bin {op : Operator} {f : PV → PV → S → R S PV} (ho : OJ X g (binaryOp op) f) (ha : JE X g a da) (hb : JE X g b db) : JE X g (.BinOp a op b pos) (dBin f da db) := by
  refine ⟨fun pins s σ H Q I h => ?_⟩
  obtain ⟨l, st, rfl, ok, h⟩ := h
  refine wpAny_BinOp (binT (R := fun x y H2 => ∃ l2 st2 p q, l2.H = H2 ∧ Sok X.K g l2 st2 σ ∧ RepG X.K g l2 p x ∧ RepG X.K g l2 q y ∧ Run X.K g (f p q st2) l2 σ Q) ha hb I ?_ fun v u s2 x y H2 I2 rx ry q => ?_)
  · refine ⟨l, st, rfl, ok, Run.mono (Run.bind h) fun u H1 ⟨l1, s1, p, e1, ok1, r1, st1, h1⟩ => ?_⟩
    refine ⟨l1, s1, e1, ok1, Run.mono (Run.bind h1) fun w H2 ⟨l2, s2, q, e2, ok2, r2, st2, h2⟩ => ?_⟩
    exact ⟨l2, s2, p, q, e2, ok2, st2.rep r1, r2, h2⟩
  · obtain ⟨l2, st2, p, q, rfl, ok2, rp, rq, h⟩ := q
    exact ho pins s2 σ x y v u Q l2 st2 p q I2 rx ry ok2 rp rq h
end
end L3
namespace L3
open PySem PySem.Spec PyProof.Rows L2
@[simp] def orB {s a : Type} (x y : R s a) : R s a := match x with
  | .bad => y
  | r => r
section
variable {X : Cx} {g : Gx}
theorem OJ.or {fn : Value → Value → Sem Value} {f f' : PV → PV → S → R S PV} (h : OJ X g fn f) (h' : OJ X g fn f') : OJ X g fn (fun p q s => orB (f p q s) (f' p q s)) :=
  fun pins s σ x y v u Q l st p q I rx ry ok rp rq r => by
    have r : Run X.K g (orB (f p q st) (f' p q st)) l σ Q := r
    cases e : f p q st with
    | bad => rw [e] at r; exact h' pins s σ x y v u Q l st p q I rx ry ok rp rq r
    | ok w t => rw [e] at r; exact h pins s σ x y v u Q l st p q I rx ry ok rp rq (by rw [e]; exact r)
    | exn w t => rw [e] at r; exact h pins s σ x y v u Q l st p q I rx ry ok rp rq (by rw [e]; exact r)
theorem UJ.or {fn : Value → Sem Value} {f f' : PV → S → R S PV} (h : UJ X g fn f) (h' : UJ X g fn f') : UJ X g fn (fun p s => orB (f p s) (f' p s)) :=
  fun pins s σ x v Q l st p I rx ok rp r => by
    have r : Run X.K g (orB (f p st) (f' p st)) l σ Q := r
    cases e : f p st with
    | bad => rw [e] at r; exact h' pins s σ x v Q l st p I rx ok rp r
    | ok w t => rw [e] at r; exact h pins s σ x v Q l st p I rx ok rp (by rw [e]; exact r)
    | exn w t => rw [e] at r; exact h pins s σ x v Q l st p I rx ok rp (by rw [e]; exact r)
theorem CJ.or {fn : List Value → Sem Value} {f f' : List PV → S → R S PV} (h : CJ X g fn f) (h' : CJ X g fn f') : CJ X g fn (fun p s => orB (f p s) (f' p s)) :=
  fun pins s σ x v Q l st p I rx ok rp r => by
    have r : Run X.K g (orB (f p st) (f' p st)) l σ Q := r
    cases e : f p st with
    | bad => rw [e] at r; exact h' pins s σ x v Q l st p I rx ok rp r
    | ok w t => rw [e] at r; exact h pins s σ x v Q l st p I rx ok rp (by rw [e]; exact r)
    | exn w t => rw [e] at r; exact h pins s σ x v Q l st p I rx ok rp (by rw [e]; exact r)
end
@[simp] def fI2 (F : Int → Int → Option PV) : PV → PV → S → R S PV := fun p q s => match p, q with
  | .int i, .int j => (match F i j with | some v => .ok v s | none => .bad)
  | _, _ => .bad
section
variable {X : Cx} {g : Gx}
/-- two ints by a rule of the layer -/
theorem OJ.ints {fn : Value → Value → Sem Value} {r : R2} {F : Int → Int → Option PV} (h : OpR X fn r)
    (i : ∀ (i j : Int) v (H : Hp) (Q : VK), F i j = some v → (∀ u, (∀ l, RepG X.K g l v u) → Q u H) → r (.int i) (.int j) H Q) : OJ X g fn (fI2 F) :=
  OJ.of h fun l st σ p q x y Q ok rp rq run => by
    unfold fI2 at run
    split at run
    · rename_i a b
      cases e : F a b with
      | none => rw [e] at run; exact run.elim
      | some v =>
        rw [e] at run
        have ex : x = .int a := rp
        have ey : y = .int b := rq
        subst ex ey
        exact i a b v l.H Q e fun u hu => run l u (Step.refl l) ok (hu l)
    · exact run.elim
theorem o_addI : OJ X g (binaryOp .Add) (fI2 fun i j => some (.int (i + j))) := OJ.ints op_add fun i j v H Q e q => ⟨i, j, rfl, rfl, q _ fun l => by cases e; rfl⟩
/-- bits of an int -/
def ib (i : Int) : Nat := i.natAbs.log2 + 1
@[simp] def FMul (i j : Int) : Option PV := if ib i + ib j ≤ 1000000 then some (.int (i * j)) else none
theorem o_mulI : OJ X g (binaryOp .Mult) (fI2 FMul) := OJ.ints op_mulW fun i j v H Q e q => by
  unfold FMul at e
  split at e
  · cases e
    rename_i h
    exact ⟨i, j, rfl, rfl, by unfold CMulW; unfold ib at h; omega, q _ fun l => rfl⟩
  · cases e
@[simp] def FFdiv (i j : Int) : Option PV := if 0 < j ∧ ib j ≤ 9000 then some (.int (i / j)) else if j < 0 ∧ j.natAbs < 1073741824 then some (.int (i.fdiv j)) else none
theorem o_fdivI : OJ X g (binaryOp .FloorDiv) (fI2 FFdiv) := OJ.ints (OpR.or op_fdivW op_fdivN) fun i j v H Q e q => by
  unfold FFdiv at e
  split at e
  · cases e
    rename_i h
    exact .inl ⟨i, j, rfl, rfl, ⟨h.1, by have := h.2; unfold ib at this; omega⟩, q _ fun l => rfl⟩
  · split at e
    · cases e
      rename_i h
      exact .inr ⟨i, j, rfl, rfl, ⟨by omega, h.2⟩, q _ fun l => rfl⟩
    · cases e
@[simp] def FMod (i j : Int) : Option PV := if j ≠ 0 then some (.int (i.fmod j)) else none
theorem o_modI : OJ X g (binaryOp .Mod) (fI2 FMod) := OJ.ints op_modN fun i j v H Q e q => by
  unfold FMod at e
  split at e
  · cases e
    rename_i h
    exact ⟨i, j, rfl, rfl, h, q _ fun l => rfl⟩
  · cases e
@[simp] def FPow (i j : Int) : Option PV := if 0 ≤ j ∧ j ≤ 1000000 ∧ i.natAbs < 2 ^ 64 then some (.int (i ^ j.toNat)) else none
theorem o_powI : OJ X g (binaryOp .Pow) (fI2 FPow) := OJ.ints op_pow fun i j v H Q e q => by
  unfold FPow at e
  split at e
  · cases e
    rename_i h
    exact ⟨i, j, rfl, rfl, h, q _ fun l => rfl⟩
  · cases e
theorem o_lt : OJ X g (compareOp .Lt) (fI2 fun i j => some (.bl (decide (i < j)))) := OJ.ints op_lt fun i j v H Q e q => ⟨i, j, rfl, rfl, q _ fun l => by cases e; rfl⟩
theorem o_gt : OJ X g (compareOp .Gt) (fI2 fun i j => some (.bl (decide (j < i)))) := OJ.ints op_gt fun i j v H Q e q => ⟨i, j, rfl, rfl, q _ fun l => by cases e; rfl⟩
theorem o_ge : OJ X g (compareOp .GtE) (fI2 fun i j => some (.bl (decide (j ≤ i)))) := OJ.ints op_ge fun i j v H Q e q => ⟨i, j, rfl, rfl, q _ fun l => by cases e; rfl⟩
end
@[simp] def fCat : PV → PV → S → R S PV := fun p q s => match p, q with
  | .lst xs, .lst ys => if xs.length + ys.length ≤ 16777216 then .ok (.lst (xs ++ ys)) s else .bad
  | .str x, .str y => if x.length + y.length ≤ 16777216 then .ok (.str (x ++ y)) s else .bad
  | _, _ => .bad
end L3
namespace L3
open PySem PySem.Spec PyProof.Rows L2
theorem line_eq : (sizeLine : Nat) = 16777216 := sizeLine_eq
section
variable {K : PySem.W.Frag} {g : Gx} {l : Lc} {s : S} {σ : St} {Q : VK} {xs : List PV} {vs : List V}
theorem Run.lst (run : Run K g (.ok (.lst xs) s) l σ Q) (ok : Sok K g l s σ) (r : RepGL K g l xs vs) (p : Addr) (hp : l.H p = none) : Q (.ref p) (upd l.H p (.lst vs)) :=
  run ⟨l.al, l.M, upd l.H p (.lst vs)⟩ _ (Step.alloc hp) (ok.alloc hp) ⟨p, vs, rfl, ok.fresh hp, upd_same, (Step.alloc hp).reps r⟩
theorem Run.tup (run : Run K g (.ok (.tup xs) s) l σ Q) (ok : Sok K g l s σ) (r : RepGL K g l xs vs) (p : Addr) (hp : l.H p = none) : Q (.ref p) (upd l.H p (.tup vs)) :=
  run ⟨l.al, l.M, upd l.H p (.tup vs)⟩ _ (Step.alloc hp) (ok.alloc hp) ⟨p, vs, rfl, .inl ⟨ok.fresh hp, .inl upd_same⟩, (Step.alloc hp).reps r⟩
end
theorem RepL.drop {K : PySem.W.Frag} {CR : Addr} {al : List Addr} {L : Addr → Prop} {H : Hp} : ∀ (n : Nat) {xs : List PV} {vs : List V}, RepL K CR al L H xs vs → RepL K CR al L H (xs.drop n) (vs.drop n)
  | 0, _, _, h => h
  | n + 1, [], vs, h => by have e : vs = [] := h; rw [e]; rfl
  | n + 1, x :: xs, vs, h => by
    obtain ⟨v, r, e, _, h2⟩ := h
    rw [e]
    exact RepL.drop n h2
theorem RepL.take {K : PySem.W.Frag} {CR : Addr} {al : List Addr} {L : Addr → Prop} {H : Hp} : ∀ (n : Nat) {xs : List PV} {vs : List V}, RepL K CR al L H xs vs → RepL K CR al L H (xs.take n) (vs.take n)
  | 0, _, _, h => rfl
  | n + 1, [], vs, h => by have e : vs = [] := h; rw [e]; rfl
  | n + 1, x :: xs, vs, h => by
    obtain ⟨v, r, e, h1, h2⟩ := h
    rw [e]
    exact ⟨v, r.take n, rfl, h1, RepL.take n h2⟩
theorem RepL.eraseIdx {K : PySem.W.Frag} {CR : Addr} {al : List Addr} {L : Addr → Prop} {H : Hp} : ∀ (n : Nat) {xs : List PV} {vs : List V}, RepL K CR al L H xs vs → RepL K CR al L H (xs.eraseIdx n) (vs.eraseIdx n)
  | 0, [], vs, h => by have e : vs = [] := h; rw [e]; rfl
  | 0, x :: xs, vs, h => by obtain ⟨v, r, e, h1, h2⟩ := h; rw [e]; exact h2
  | n + 1, [], vs, h => by have e : vs = [] := h; rw [e]; rfl
  | n + 1, x :: xs, vs, h => by
    obtain ⟨v, r, e, h1, h2⟩ := h
    rw [e]
    exact ⟨v, r.eraseIdx n, rfl, h1, RepL.eraseIdx n h2⟩
theorem RepL.set {K : PySem.W.Frag} {CR : Addr} {al : List Addr} {L : Addr → Prop} {H : Hp} {y : PV} {w : V} (hy : Rep K CR al L H y w) : ∀ (n : Nat) {xs : List PV} {vs : List V}, RepL K CR al L H xs vs → RepL K CR al L H (xs.set n y) (vs.set n w)
  | n, [], vs, h => by have e : vs = [] := h; rw [e]; cases n <;> rfl
  | 0, x :: xs, vs, h => by obtain ⟨v, r, e, h1, h2⟩ := h; rw [e]; exact ⟨w, r, rfl, hy, h2⟩
  | n + 1, x :: xs, vs, h => by
    obtain ⟨v, r, e, h1, h2⟩ := h
    rw [e]
    exact ⟨v, r.set n w, rfl, h1, RepL.set hy n h2⟩
theorem RepL.flat {K : PySem.W.Frag} {CR : Addr} {al : List Addr} {L : Addr → Prop} {H : Hp} {xs : List PV} {vs : List V} (h : RepL K CR al L H xs vs) : ∀ n, RepL K CR al L H (List.replicate n xs).flatten (List.replicate n vs).flatten
  | 0 => rfl
  | n + 1 => by
    rw [List.replicate_succ, List.replicate_succ, List.flatten_cons, List.flatten_cons]
    exact h.append (RepL.flat h n)
/-- xs[lo:hi] -/
def cutP (xs : List PV) (lo hi : Option Int) : List PV := (xs.drop (HT.sIx xs.length 0 lo)).take (HT.sIx xs.length xs.length hi - HT.sIx xs.length 0 lo)
theorem RepL.cut {K : PySem.W.Frag} {CR : Addr} {al : List Addr} {L : Addr → Prop} {H : Hp} {xs : List PV} {vs : List V} (h : RepL K CR al L H xs vs) (lo hi : Option Int) : RepL K CR al L H (cutP xs lo hi) (cutV vs lo hi) := by
  unfold cutP cutV
  rw [h.length]
  exact (h.drop _).take _
theorem RepL.at {K : PySem.W.Frag} {CR : Addr} {al : List Addr} {L : Addr → Prop} {H : Hp} {xs : List PV} {vs : List V} (h : RepL K CR al L H xs vs) {i : Int} {x : PV} (e : atI xs i = some x) : ∃ v, atI vs i = some v ∧ Rep K CR al L H x v := by
  unfold atI at e ⊢
  rw [← h.length]
  cases q : ixN xs.length i with
  | none => rw [q] at e; cases e
  | some j => rw [q] at e; exact h.get e
mutual
def PV.dat : PV → Option PyData
  | .non => some .none
  | .bl b => some (.bool b)
  | .int i => some (.int i)
  | .str x => some (.str x)
  | .tup xs => (match PV.datL xs with | some ds => some (.tuple ds) | none => none)
  | .lst xs => (match PV.datL xs with | some ds => some (.list ds) | none => none)
  | .frz xs => (match PV.datL xs with | some ds => some (.list ds) | none => none)
  | _ => none
def PV.datL : List PV → Option (List PyData)
  | [] => some []
  | x :: xs => (match x.dat, PV.datL xs with | some d, some ds => some (d :: ds) | _, _ => none)
end
mutual
theorem PV.dat_dp {K : PySem.W.Frag} {CR : Addr} {al : List Addr} {L : Addr → Prop} {H : Hp} : ∀ (x : PV) (d : PyData) (v : V), x.dat = some d → Rep K CR al L H x v → Dp K H v d
  | .non, d, v, e, r => by cases e; have q : v = .non := r; rw [q]; exact .non
  | .bl b, d, v, e, r => by cases e; have q : v = .bl b := r; rw [q]; exact .bl b
  | .int i, d, v, e, r => by cases e; have q : v = .int i := r; rw [q]; exact .int i
  | .str x, d, v, e, r => by cases e; have q : v = .str x := r; rw [q]; exact .str x
  | .tup xs, d, v, e, r => by
    obtain ⟨a, vs, rfl, h, r⟩ := r
    unfold PV.dat at e
    cases q : PV.datL xs with
    | none => rw [q] at e; cases e
    | some ds => rw [q] at e; cases e; exact .tup (SqT.of2 h) (PV.datL_dp xs ds vs q r)
  | .lst xs, d, v, e, r => by
    obtain ⟨a, vs, rfl, _, h, r⟩ := r
    unfold PV.dat at e
    cases q : PV.datL xs with
    | none => rw [q] at e; cases e
    | some ds => rw [q] at e; cases e; exact .lst (SqL.of h) (PV.datL_dp xs ds vs q r)
  | .frz xs, d, v, e, r => by
    obtain ⟨a, vs, rfl, h, r⟩ := r
    unfold PV.dat at e
    cases q : PV.datL xs with
    | none => rw [q] at e; cases e
    | some ds => rw [q] at e; cases e; exact .lst (SqL.of2 h) (PV.datL_dp xs ds vs q r)
  | .rat q, d, v, e, r => nomatch e
  | .obj C ns xs, d, v, e, r => nomatch e
  | .ptr n, d, v, e, r => nomatch e
  | .adr a, d, v, e, r => nomatch e
  | .ty n, d, v, e, r => nomatch e
  | .dk ks xs, d, v, e, r => nomatch e
  | .dt ks xs, d, v, e, r => nomatch e
  | .exc C ns xs, d, v, e, r => nomatch e
theorem PV.datL_dp {K : PySem.W.Frag} {CR : Addr} {al : List Addr} {L : Addr → Prop} {H : Hp} : ∀ (xs : List PV) (ds : List PyData) (vs : List V), PV.datL xs = some ds → RepL K CR al L H xs vs → DpAll K H vs ds
  | [], ds, vs, e, r => by cases e; have q : vs = [] := r; rw [q]; exact .nil
  | x :: xs, ds, vs, e, r => by
    obtain ⟨v, w, rfl, h1, h2⟩ := r
    unfold PV.datL at e
    cases q1 : x.dat with
    | none => rw [q1] at e; cases e
    | some d =>
      cases q2 : PV.datL xs with
      | none => rw [q1, q2] at e; cases e
      | some ds' => rw [q1, q2] at e; cases e; exact .cons (PV.dat_dp x d v q1 h1) (PV.datL_dp xs ds' w q2 h2)
end
def fEqD (neg : Bool) : PV → PV → S → R S PV := fun p q s => match p.dat, q.dat with
  | some d, some e => if SeqAt.shaped d = true ∧ SeqAt.shaped e = true then .ok (.bl (xor neg (PyData.eqv d e))) s else .bad
  | _, _ => .bad
section
variable {X : Cx} {g : Gx}
theorem o_eqD (hu : X.A.units + 64 < cLine) : OJ X g (compareOp .Eq) (fEqD false) := OJ.of (op_eqD hu) fun l st σ p q x y Q ok rp rq run => by
  unfold fEqD at run
  split at run
  · rename_i d e h1 h2
    split at run
    · rename_i h3
      refine ⟨d, e, p.dat_dp d x h1 rp, q.dat_dp e y h2 rq, h3.1, h3.2, ?_⟩
      have z := run l (.bl (xor false (PyData.eqv d e))) (Step.refl l) ok rfl
      rwa [Bool.false_xor] at z
    · exact run.elim
  · exact run.elim
theorem o_neD (hu : X.A.units + 64 < cLine) : OJ X g (compareOp .NotEq) (fEqD true) := OJ.of (op_neD hu) fun l st σ p q x y Q ok rp rq run => by
  unfold fEqD at run
  split at run
  · rename_i d e h1 h2
    split at run
    · rename_i h3
      refine ⟨d, e, p.dat_dp d x h1 rp, q.dat_dp e y h2 rq, h3.1, h3.2, ?_⟩
      have z := run l (.bl (xor true (PyData.eqv d e))) (Step.refl l) ok rfl
      rwa [Bool.true_xor] at z
    · exact run.elim
  · exact run.elim
@[simp] def PV.isNon : PV → Bool
  | .non => true
  | _ => false
@[simp] def fIsN (neg : Bool) : PV → PV → S → R S PV := fun p q s => match q with
  | .non => .ok (.bl (xor neg p.isNon)) s
  | _ => .bad
theorem o_catL : OJ X g (binaryOp .Add) (fun p q s => match p, q with | .lst xs, .lst ys => if xs.length + ys.length ≤ 16777216 then .ok (.lst (xs ++ ys)) s else .bad | _, _ => .bad) :=
  OJ.of op_cat fun l st σ p q x y Q ok rp rq run => by
    split at run
    · split at run
      · rename_i h
        obtain ⟨a, vs, rfl, _, ha, ra⟩ := rp
        obtain ⟨b, ws, rfl, _, hb, rb⟩ := rq
        exact ⟨a, b, vs, ws, rfl, rfl, ha, hb, by rw [line_eq, ← ra.length, ← rb.length]; exact h, Run.lst run ok (ra.append rb)⟩
      · exact run.elim
    · exact run.elim
theorem o_catT : OJ X g (binaryOp .Add) (fun p q s => match p, q with | .tup xs, .tup ys => if xs.length + ys.length ≤ 16777216 then .ok (.tup (xs ++ ys)) s else .bad | _, _ => .bad) :=
  OJ.of op_catA fun l st σ p q x y Q ok rp rq run => by
    split at run
    · split at run
      · rename_i xs ys h
        obtain ⟨a, vs, rfl, ha, ra⟩ := rp
        obtain ⟨b, ws, rfl, hb, rb⟩ := rq
        refine ⟨a, b, vs, ws, rfl, rfl, SqT.of2 ha, SqT.of2 hb, by rw [line_eq, ← ra.length, ← rb.length]; exact h, fun e => ?_, fun _ e => ?_, fun _ _ => Run.tup run ok (ra.append rb)⟩
        · subst e
          have e2 : xs = [] := List.eq_nil_of_length_eq_zero ra.length
          subst e2
          exact run l _ (Step.refl l) ok ⟨b, ws, rfl, hb, rb⟩
        · subst e
          have e2 : ys = [] := List.eq_nil_of_length_eq_zero rb.length
          subst e2
          rw [List.append_nil] at run
          exact run l _ (Step.refl l) ok ⟨a, vs, rfl, ha, ra⟩
      · exact run.elim
    · exact run.elim
theorem o_catS : OJ X g (binaryOp .Add) (fun p q s => match p, q with | .str x, .str y => if x.length + y.length ≤ 16777216 then .ok (.str (x ++ y)) s else .bad | _, _ => .bad) :=
  OJ.of op_add_str fun l st σ p q x y Q ok rp rq run => by
    split at run
    · split at run
      · rename_i a b h
        exact ⟨a, b, rp, rq, by rw [line_eq]; exact h, run l _ (Step.refl l) ok rfl⟩
      · exact run.elim
    · exact run.elim
theorem o_repL : OJ X g (binaryOp .Mult) (fun p q s => match p, q with | .lst xs, .int k => if -(2 ^ 63) ≤ k ∧ k < 2 ^ 63 ∧ xs.length * k.toNat ≤ 16777216 then .ok (.lst (List.replicate k.toNat xs).flatten) s else .bad | _, _ => .bad) :=
  OJ.of op_rep fun l st σ p q x y Q ok rp rq run => by
    split at run
    · split at run
      · rename_i xs k h
        obtain ⟨a, vs, rfl, _, ha, ra⟩ := rp
        exact ⟨a, k, vs, rfl, rq, ha, h.1, h.2.1, by rw [line_eq, ← ra.length]; exact h.2.2, Run.lst run ok (ra.flat _)⟩
      · exact run.elim
    · exact run.elim
end
end L3
namespace L3
open PySem PySem.Spec PyProof.Rows L2
@[simp] def truP : PV → Option Bool
  | .non => some false
  | .bl b => some b
  | .int i => some (i != 0)
  | .str x => if x.length ≤ 16777216 then some ((x.length : Int) != 0) else none
  | .tup xs => some (!xs.isEmpty)
  | .lst xs => some (!xs.isEmpty)
  | .frz xs => some (!xs.isEmpty)
  | _ => none
@[simp] def dTru (d : DE) : DT := fun s => (d s).bind fun v s1 => match truP v with
  | some b => .ok b s1
  | none => .bad
@[simp] def dAndT (a b : DT) : DT := fun s => (a s).bind fun x s1 => match x with
  | true => b s1
  | false => .ok false s1
@[simp] def dOrT (a b : DT) : DT := fun s => (a s).bind fun x s1 => match x with
  | true => .ok true s1
  | false => b s1
@[simp] def dNotT (a : DT) : DT := fun s => (a s).bind fun x s1 => .ok (!x) s1
@[simp] def dAnd (a b : DE) : DE := fun s => (a s).bind fun x s1 => match x with
  | .bl true => b s1
  | .bl false => .ok (.bl false) s1
  | _ => .bad
@[simp] def dOr (a b : DE) : DE := fun s => (a s).bind fun x s1 => match x with
  | .bl true => .ok (.bl true) s1
  | .bl false => b s1
  | _ => .bad
@[simp] def dNot (a : DE) : DE := fun s => (a s).bind fun x s1 => match x with
  | .bl b => .ok (.bl (!b)) s1
  | _ => .bad
@[simp] def dIf (c : DT) (a b : DE) : DE := fun s => (c s).bind fun x s1 => match x with
  | true => a s1
  | false => b s1
@[simp] def dChain (f f' : PV → PV → S → R S PV) (da db dc : DE) : DE := fun s => (da s).bind fun x s1 => (db s1).bind fun y s2 => (f x y s2).bind fun z s3 => match z with
  | .bl true => (dc s3).bind fun w s4 => f' y w s4
  | .bl false => .ok (.bl false) s3
  | _ => .bad
theorem isEmpty_len {a b : Type} {xs : List a} {ys : List b} (h : xs.length = ys.length) : xs.isEmpty = ys.isEmpty := by
  cases xs <;> cases ys <;> first | rfl | cases h
section
variable {X : Cx} {g : Gx} {a b c e : Expr} {es : List Expr} {da db dc de : DE} {ta tb tc : DT} {dr : DA} {pos : Pos}
theorem j_cmp {op : CmpOp} {f : PV → PV → S → R S PV} (ho : OJ X g (compareOp op) f) (ha : JE X g a da) (hb : JE X g b db) (hm : behindInMarks op b = false := by first | exact nobehind _ (by decide) (by decide) | rfl | with_unfolding_all rfl) : JE X g (.Compare a [op] [b] pos) (dBin f da db) := by
  refine ⟨fun pins s σ H Q I h => ?_⟩
  obtain ⟨l, st, rfl, ok, h⟩ := h
  refine wpAny_Compare1 (binT (R := fun x y H2 => ∃ l2 st2 p q, l2.H = H2 ∧ Sok X.K g l2 st2 σ ∧ RepG X.K g l2 p x ∧ RepG X.K g l2 q y ∧ Run X.K g (f p q st2) l2 σ Q) ha hb I ?_ fun v u s2 x y H2 I2 rx ry q => ?_) hm
  · refine ⟨l, st, rfl, ok, Run.mono (Run.bind h) fun u H1 ⟨l1, s1, p, e1, ok1, r1, st1, h1⟩ => ?_⟩
    refine ⟨l1, s1, e1, ok1, Run.mono (Run.bind h1) fun w H2 ⟨l2, s2, q, e2, ok2, r2, st2, h2⟩ => ?_⟩
    exact ⟨l2, s2, p, q, e2, ok2, st2.rep r1, r2, h2⟩
  · obtain ⟨l2, st2, p, q, rfl, ok2, rp, rq, h⟩ := q
    exact ho pins s2 σ x y v u Q l2 st2 p q I2 rx ry ok2 rp rq h
/-- a value's truth, from its representation -/
theorem rep_tru {K : PySem.W.Frag} {l : Lc} {p : PV} {x : V} {k : Bool} (r : RepG K g l p x) (h : truP p = some k) : TruV K x l.H k := by
  cases p with
  | non => have e : x = .non := r; subst e; cases h; rfl
  | bl b => have e : x = .bl b := r; subst e; cases h; rfl
  | int i => have e : x = .int i := r; subst e; cases h; rfl
  | str z =>
    have e : x = .str z := r; subst e
    simp only [truP] at h
    split at h
    · cases h
      rename_i q
      exact ⟨by rw [line_eq]; exact q, rfl⟩
    · cases h
  | tup xs =>
    obtain ⟨a, vs, rfl, ha, ra⟩ := r
    cases h
    exact .inr (.inl ⟨vs, SqT.of2 ha, by rw [isEmpty_len ra.length]⟩)
  | lst xs =>
    obtain ⟨a, vs, rfl, _, ha, ra⟩ := r
    cases h
    exact .inl ⟨vs, SqL.of ha, by rw [isEmpty_len ra.length]⟩
  | frz xs =>
    obtain ⟨a, vs, rfl, ha, ra⟩ := r
    cases h
    exact .inl ⟨vs, SqL.of2 ha, by rw [isEmpty_len ra.length]⟩
  | _ => cases h
/-- a comparison as a test -/
theorem jt_cmp {op : CmpOp} {f : PV → PV → S → R S PV} (ho : OJ X g (compareOp op) f) (ha : JE X g a da) (hb : JE X g b db) (hm : behindInMarks op b = false := by first | exact nobehind _ (by decide) (by decide) | rfl | with_unfolding_all rfl) : JT X g (.Compare a [op] [b] pos) (dTru (dBin f da db)) := by
  refine ⟨fun pins s σ H Q I h => ?_⟩
  obtain ⟨l, st, rfl, ok, h⟩ := h
  refine wpAny_isTrue_Compare1 (binT (R := fun x y H2 => ∃ l2 st2 p q, l2.H = H2 ∧ Sok X.K g l2 st2 σ ∧ RepG X.K g l2 p x ∧ RepG X.K g l2 q y ∧ RunT X.K g ((f p q st2).bind fun v s1 => match truP v with | some b => .ok b s1 | none => .bad) l2 σ Q) ha hb I ?_ fun v u s2 x y H2 I2 rx ry q => ?_) hm
  · have h' : RunT X.K g ((da st).bind fun x s1 => (db s1).bind fun y s2 => (f x y s2).bind fun v s1 => match truP v with | some b => .ok b s1 | none => .bad) l σ Q := by
      have e : dTru (dBin f da db) st = ((da st).bind fun x s1 => (db s1).bind fun y s2 => (f x y s2).bind fun v s1 => match truP v with | some b => .ok b s1 | none => .bad) := by
        simp only [dTru, dBin]
        cases da st <;> try rfl
        rename_i v t
        show ((db t).bind _).bind _ = (db t).bind _
        cases db t <;> rfl
      rw [e] at h
      exact h
    refine ⟨l, st, rfl, ok, Run.mono (Run.bindT h') fun u H1 ⟨l1, s1, p, e1, ok1, r1, st1, h1⟩ => ?_⟩
    refine ⟨l1, s1, e1, ok1, Run.mono (Run.bindT h1) fun w H2 ⟨l2, s2, q, e2, ok2, r2, st2, h2⟩ => ?_⟩
    exact ⟨l2, s2, p, q, e2, ok2, st2.rep r1, r2, h2⟩
  · obtain ⟨l2, st2, p, q, rfl, ok2, rp, rq, h⟩ := q
    refine thn (ho pins s2 σ x y v u _ l2 st2 p q I2 rx ry ok2 rp rq (Run.bindT h)) fun w s3 ⟨z, H3, I3, r3, l3, s3', pz, e3, ok3, r3', st3, h3⟩ => ?_
    subst e3
    cases e : truP pz with
    | none => rw [e] at h3; exact h3.elim
    | some k =>
      rw [e] at h3
      exact tru_ok pins s3 σ l3.H z w Q I3 r3 ⟨k, rep_tru r3' e, h3 l3 (Step.refl l3) ok3⟩
theorem j_one {op} (h : JE X g a da) : JE X g (.BoolOp op [a] pos) da := pe_one h
theorem j_and {rest : List Expr} (ha : JE X g a da) (hb : JE X g (.BoolOp .And (b :: rest) pos) db) : JE X g (.BoolOp .And (a :: b :: rest) pos) (dAnd da db) := PE.cq (pe_and ha hb) fun pins s σ H Q I q => by
  obtain ⟨l, s, rfl, ok, q⟩ := q
  refine ⟨l, s, rfl, ok, Run.mono (Run.bind q) fun u H1 ⟨l1, s1, p, e1, ok1, r1, st1, h1⟩ => ?_⟩
  subst e1
  cases p with
  | bl k =>
    cases (show u = .bl k from r1)
    refine ⟨k, rfl, ?_⟩
    cases k with
    | true => exact ⟨l1, s1, rfl, ok1, h1⟩
    | false => exact h1 l1 _ (Step.refl l1) ok1 rfl
  | _ => exact h1.elim
theorem j_if (hc : JT X g c tc) (ha : JE X g a da) (hb : JE X g b db) : JE X g (.IfExp c a b pos) (dIf tc da db) := PE.cq (pe_ifExp hc ha hb) fun pins s σ H Q I q => by
  obtain ⟨l, s, rfl, ok, q⟩ := q
  refine ⟨l, s, rfl, ok, RunT.mono (RunT.bind q) fun u H1 ⟨l1, s1, e1, ok1, st1, h1⟩ => ?_⟩
  subst e1
  cases u with
  | true => exact ⟨l1, s1, rfl, ok1, h1⟩
  | false => exact ⟨l1, s1, rfl, ok1, h1⟩
end
end L3
namespace L3
open PySem PySem.Spec PyProof.Rows L2
@[simp] def dTup (d : DA) : DE := fun s => (d s).bind fun xs s1 => if xs.length ≤ 1000 then .ok (.tup xs) s1 else .bad
@[simp] def dLst (d : DA) : DE := fun s => (d s).bind fun xs s1 => if xs.length ≤ 1000 then .ok (.lst xs) s1 else .bad
/-- a display that becomes a shared list -/
@[simp] def dNew (d : DA) : DE := fun s => (d s).bind fun xs s1 => if xs.length ≤ 1000 then .ok (.ptr s1.mu.length) ⟨s1.env, s1.mu ++ [.lst xs]⟩ else .bad
@[simp] def optR {s a : Type} (o : Option a) (t : s) : R s a := match o with
  | some v => .ok v t
  | none => .bad
/-- what a value is as a list -/
@[simp] def asL (mu : List MO) : PV → Option (List PV)
  | .lst xs => some xs
  | .tup xs => some xs
  | .frz xs => some xs
  | .ptr n => (match mu[n]? with
    | some (.lst xs) => some xs
    | _ => none)
  | _ => none
@[simp] def fIx : PV → PV → S → R S PV := fun p q s => match q with
  | .int i => (match asL s.mu p with
    | some xs => optR (atI xs i) s
    | none => .bad)
  | _ => .bad
abbrev DO := S → R S (Option Int)
@[simp] def dNone : DO := fun s => .ok none s
@[simp] def dSome (d : DE) : DO := fun s => (d s).bind fun v s1 => match v with
  | .int i => .ok (some i) s1
  | _ => .bad
@[simp] def fCut (v : PV) (a b : Option Int) (s : S) : R S PV := match v with
  | .lst xs => .ok (.lst (cutP xs a b)) s
  | .tup xs => .ok (.tup (cutP xs a b)) s
  | _ => .bad
@[simp] def dSlice (d : DE) (lo hi : DO) : DE := fun s => (d s).bind fun v s1 => (lo s1).bind fun a s2 => (hi s2).bind fun b s3 => fCut v a b s3
@[simp] def fLen : List PV → S → R S PV := fun ps s => match ps with
  | [.str x] => if x.length ≤ 16777216 then .ok (.int x.length) s else .bad
  | [p] => (match asL s.mu p with
    | some xs => .ok (.int xs.length) s
    | none => .bad)
  | _ => .bad
@[simp] def fList : List PV → S → R S PV := fun ps s => match ps with
  | [p] => (match asL s.mu p with
    | some xs => .ok (.lst xs) s
    | none => .bad)
  | _ => .bad
@[simp] def fTuple : List PV → S → R S PV := fun ps s => match ps with
  | [p] => (match asL s.mu p with
    | some xs => .ok (.tup xs) s
    | none => .bad)
  | _ => .bad
@[simp] def fAbsI : List PV → S → R S PV := fun ps s => match ps with
  | [.int i] => .ok (.int i.natAbs) s
  | _ => .bad
@[simp] def fMax2 : List PV → S → R S PV := fun ps s => match ps with
  | [.int i, .int j] => .ok (.int (max i j)) s
  | _ => .bad
@[simp] def fMin2 : List PV → S → R S PV := fun ps s => match ps with
  | [.int i, .int j] => .ok (.int (min i j)) s
  | _ => .bad
@[simp] def fIntB : List PV → S → R S PV := fun ps s => match ps with
  | [.int i] => .ok (.int i) s
  | [.bl b] => .ok (.int (if b then 1 else 0)) s
  | _ => .bad
@[simp] def fBool : List PV → S → R S PV := fun ps s => match ps with
  | [.int i] => .ok (.bl (i != 0)) s
  | [.bl b] => .ok (.bl b) s
  | _ => .bad
section
variable {X : Cx} {g : Gx} {a b c e : Expr} {es : List Expr} {da db dc de : DE} {dr : DA} {pos : Pos}
theorem ja_nil : JA X g [] dNil := PA.cq pa_nil fun σ H Q q => by
  obtain ⟨l, s, rfl, ok, q⟩ := q
  exact q l [] (Step.refl l) ok rfl
theorem ja_cons (ha : JE X g e de) (hr : JA X g es dr) (hs : starEach (e :: es) X.env = (false, eval e X.env) :: starEach es X.env := by rfl) : JA X g (e :: es) (dCons de dr) := PA.cq (pa_cons ha hr hs) fun σ H Q q => by
  obtain ⟨l, s, rfl, ok, q⟩ := q
  refine ⟨l, s, rfl, ok, Run.mono (Run.bindA q) fun u H1 ⟨l1, s1, p, e1, ok1, r1, st1, h1⟩ => ?_⟩
  refine ⟨l1, s1, e1, ok1, RunA.mono (RunA.bindA h1) fun us H2 ⟨l2, s2, ps, e2, ok2, r2, st2, h2⟩ => ?_⟩
  subst e2
  exact h2 l2 (u :: us) (Step.refl l2) ok2 ⟨u, us, rfl, st2.rep r1, r2⟩
theorem j_tup {x1} (h : JA X g es dr) : JE X g (.Tuple es x1 pos) (dTup dr) := PE.cq (pe_tup h) fun pins s σ H Q I q => by
  obtain ⟨l, s, rfl, ok, q⟩ := q
  refine ⟨l, s, rfl, ok, RunA.mono (RunA.bind q) fun u H1 ⟨l1, s1, p, e1, ok1, r1, st1, h1⟩ => ?_⟩
  subst e1
  split at h1
  · rename_i z
    exact ⟨by rw [line_eq, ← r1.length]; omega, Run.tup h1 ok1 r1⟩
  · exact h1.elim
theorem j_lst (h : JA X g es dr) : JE X g (.List es pos) (dLst dr) := PE.cq (pe_lst h) fun pins s σ H Q I q => by
  obtain ⟨l, s, rfl, ok, q⟩ := q
  refine ⟨l, s, rfl, ok, RunA.mono (RunA.bind q) fun u H1 ⟨l1, s1, p, e1, ok1, r1, st1, h1⟩ => ?_⟩
  subst e1
  split at h1
  · rename_i z
    exact ⟨by rw [line_eq, ← r1.length]; omega, Run.lst h1 ok1 r1⟩
  · exact h1.elim
theorem j_callB {x : Str} {id : String} {f : List PV → S → R S PV} {p : Pos} (hc : CJ X g (fun us => call (.builtin id) us) f) (hg : Gl X x) (hm : X.mg x = none) (hv : bootBuiltins x = some (.builtin id)) (ha : JA X g (e :: es) dr) (hn : x ≠ "__name__" := by decide) (hdb : (x == ("__debug__" : Str)) = false := by decide)
    (he : starEach (e :: es) X.env = (false, eval e X.env) :: starEach es X.env := by rfl) (hpl : (backTo pos (starEach es X.env)).any (·.1) = false := by rfl) : JE X g (.Call (.Name x p) (e :: es) [] pos) (dFn f dr) := by
  refine ⟨fun pins s σ H Q I h => ?_⟩
  obtain ⟨l, st, rfl, ok, h⟩ := h
  refine wpAny_Call_Name_kw (ld_blt I hg hm hv ?_ hn hdb)
  refine PyProof.Rows.callWith_builtin1 (thn (ha.run pos pins s σ _ _ I ⟨l, st, rfl, ok, RunA.bind h⟩) fun us s1 ⟨vs, H1, I1, r1, l1, s1', ps, e1, ok1, rp, st1, h1⟩ => ?_) he hpl
  subst e1
  exact hc pins s1 σ vs us Q l1 s1' ps I1 r1 ok1 rp h1
/-- a value seen as a list: where it stands -/
theorem rep_asL {K : PySem.W.Frag} {l : Lc} {s : S} {σ : St} {p : PV} {x : V} {xs : List PV} (ok : Sok K g l s σ) (r : RepG K g l p x) (h : asL s.mu p = some xs) :
    ∃ a vs, x = .ref a ∧ (SqL K l.H a vs ∨ SqT K l.H a vs) ∧ RepGL K g l xs vs := by
  cases p with
  | lst ys => obtain ⟨a, vs, rfl, _, ha, ra⟩ := r; cases h; exact ⟨a, vs, rfl, .inl (SqL.of ha), ra⟩
  | tup ys => obtain ⟨a, vs, rfl, ha, ra⟩ := r; cases h; exact ⟨a, vs, rfl, .inr (SqT.of2 ha), ra⟩
  | frz ys => obtain ⟨a, vs, rfl, ha, ra⟩ := r; cases h; exact ⟨a, vs, rfl, .inl (SqL.of2 ha), ra⟩
  | ptr n =>
    obtain ⟨a, ha, rfl⟩ := r
    simp only [asL] at h
    cases e : s.mu[n]? with
    | none => rw [e] at h; cases h
    | some m =>
      rw [e] at h
      cases m with
      | lst ys =>
        cases h
        obtain ⟨vs, h1, h2⟩ := ok.mu n a _ ha e
        exact ⟨a, vs, rfl, .inl (SqL.of h1), h2⟩
      | ins C ns ys => cases h
      | nst C ns ys => cases h
      | dic ks ys => cases h
  | _ => cases h
/-- a[b] -/
theorem j_ix (ha : JE X g a da) (hb : JE X g b db) (hs : PlainIx b := by exact fun _ _ => rfl) : JE X g (.Subscript a b pos) (dBin fIx da db) := by
  refine ⟨fun pins s σ H Q I h => ?_⟩
  obtain ⟨l, st, rfl, ok, h⟩ := h
  refine Subscript_ (binT (R := fun x y H2 => ∃ l2 st2 p q, l2.H = H2 ∧ Sok X.K g l2 st2 σ ∧ RepG X.K g l2 p x ∧ RepG X.K g l2 q y ∧ Run X.K g (fIx p q st2) l2 σ Q) ha hb I ?_ fun v u s2 x y H2 I2 rx ry q => ?_)
  · refine ⟨l, st, rfl, ok, Run.mono (Run.bind h) fun u H1 ⟨l1, s1, p, e1, ok1, r1, st1, h1⟩ => ?_⟩
    refine ⟨l1, s1, e1, ok1, Run.mono (Run.bind h1) fun w H2 ⟨l2, s2, q, e2, ok2, r2, st2, h2⟩ => ?_⟩
    exact ⟨l2, s2, p, q, e2, ok2, st2.rep r1, r2, h2⟩
  · obtain ⟨l2, st2, p, q, rfl, ok2, rp, rq, h⟩ := q
    cases q with
    | int i =>
      cases (show y = .int i from rq)
      simp only [fIx] at h
      cases e : asL st2.mu p with
      | none => rw [e] at h; exact h.elim
      | some xs =>
        rw [e] at h
        obtain ⟨a, vs, rfl, hq, rv⟩ := rep_asL ok2 rp e
        cases e2 : atI xs i with
        | none => simp only [e2, optR] at h; exact h.elim
        | some v =>
          simp only [e2, optR] at h
          obtain ⟨w, hw, rw'⟩ := rv.at e2
          refine IxR.or ix_list ix_tup _ _ pins s2 σ l2.H (.ref a) (.int i) _ _ Q I2 rx ry ?_ (hs _ _)
          rcases hq with hq | hq
          · exact .inl ⟨a, vs, i, w, rfl, rfl, hq, hw, h l2 w (Step.refl l2) ok2 rw'⟩
          · exact .inr ⟨a, vs, i, w, rfl, rfl, hq, hw, h l2 w (Step.refl l2) ok2 rw'⟩
    | _ => exact h.elim
def LO (K : PySem.W.Frag) (g : Gx) (d : DO) : TO := fun σ H Q => ∃ l s, l.H = H ∧ Sok K g l s σ ∧ match d s with
  | .ok o s' => ∀ l', Step l l' → Sok K g l' s' σ → Q o l'.H
  | .exn e s' => ∀ l' cls dd, Step l l' → Sok K g l' s' σ → RepX K g l' e cls dd → g.W cls dd σ l'.H
  | .bad => False
abbrev JO (X : Cx) (g : Gx) (e : Option Expr) (d : DO) : Prop := PO X e (LO X.K g d)
theorem PO.cq {e : Option Expr} {t t' : TO} (h : PO X e t) (i : ∀ σ H Q, t' σ H Q → t σ H Q) : PO X e t' := ⟨fun pins s σ H Q I q => h.run pins s σ H Q I (i σ H Q q)⟩
theorem jo_none : JO X g none dNone := PO.cq po_none fun σ H Q q => by
  obtain ⟨l, s, rfl, ok, q⟩ := q
  exact q l (Step.refl l) ok
theorem jo_some (h : JE X g e de) : JO X g (some e) (dSome de) := PO.cq (po_some h) fun σ H Q q => by
  obtain ⟨l, s, rfl, ok, q⟩ := q
  refine ⟨l, s, rfl, ok, ?_⟩
  simp only [dSome] at q
  cases e1 : de s with
  | bad => rw [e1] at q; exact q
  | exn e t => rw [e1] at q; exact q
  | ok v t =>
    rw [e1] at q
    intro l1 u st1 ok1 r1
    cases v with
    | int i => exact ⟨i, r1, q l1 st1 ok1⟩
    | _ => exact q.elim
theorem o_slice {lo hi : Option Expr} {dl dh : DO} {p2 : Pos} (he : JE X g e de) (hl : JO X g lo dl) (hh : JO X g hi dh) : JE X g (.Subscript e (.Slice lo hi none p2) pos) (dSlice de dl dh) :=
  PE.cq (pe_slice (SlR.or sl_list sl_tupA) he hl hh) fun pins s σ H Q I q => by
    obtain ⟨l, s, rfl, ok, q⟩ := q
    refine ⟨l, s, rfl, ok, Run.mono (Run.bind q) fun u H1 ⟨l1, s1, p, e1, ok1, r1, st1, h1⟩ => ?_⟩
    refine ⟨l1, s1, e1, ok1, ?_⟩
    cases ea : dl s1 with
    | bad => rw [ea] at h1; exact h1
    | exn e t => rw [ea] at h1; exact h1
    | ok a t =>
      rw [ea] at h1
      intro l2 st2 ok2
      refine ⟨l2, t, rfl, ok2, ?_⟩
      have h1 : Run X.K g ((dh t).bind fun b s3 => fCut p a b s3) l1 σ Q := h1
      cases eb : dh t with
      | bad => rw [eb] at h1; exact h1
      | exn e t => rw [eb] at h1; exact fun l' c d s4 => h1 l' c d (st2.trans s4)
      | ok b t2 =>
        rw [eb] at h1
        intro l3 st3 ok3
        have r3 := st3.rep (st2.rep r1)
        have h3 := Run.step h1 (st2.trans st3)
        cases p with
        | lst xs =>
          obtain ⟨c, vs, rfl, _, hc, rc⟩ := r3
          exact .inl ⟨c, vs, rfl, SqL.of hc, Run.lst h3 ok3 (rc.cut a b)⟩
        | tup xs =>
          obtain ⟨c, vs, rfl, hc, rc⟩ := r3
          refine .inr ⟨c, vs, rfl, SqT.of2 hc, fun z => ?_, fun _ => Run.tup h3 ok3 (rc.cut a b)⟩
          have ec : cutP xs a b = xs := by
            unfold cutP
            rw [rc.length, z.1, z.2, List.drop_zero, Nat.sub_zero, ← rc.length, List.take_length]
          have h3 : Run X.K g (.ok (.tup (cutP xs a b)) t2) l3 σ Q := h3
          rw [ec] at h3
          exact h3 l3 _ (Step.refl l3) ok3 ⟨c, vs, rfl, hc, rc⟩
        | _ => exact h3.elim
theorem c_len : CJ X g (fun us => call (.builtin "len") us) fLen := CJ.of call_len fun l st σ ps xs Q ok rp run => by
  unfold fLen at run
  split at run
  · obtain ⟨v, r, rfl, h1, h2⟩ := rp
    cases (show r = [] from h2)
    split at run
    · rename_i z
      exact ⟨v, _, rfl, by rw [show v = .str _ from h1]; exact ⟨by rw [line_eq]; exact z, rfl⟩, run l _ (Step.refl l) ok rfl⟩
    · exact run.elim
  · obtain ⟨v, r, rfl, h1, h2⟩ := rp
    cases (show r = [] from h2)
    rename_i p hp
    cases e : asL st.mu p with
    | none => rw [e] at run; exact run.elim
    | some ys =>
      rw [e] at run
      obtain ⟨a, vs, rfl, hq, rv⟩ := rep_asL ok h1 e
      refine ⟨.ref a, ys.length, rfl, ?_, run l _ (Step.refl l) ok rfl⟩
      rcases hq with hq | hq
      · exact .inl ⟨vs, hq, rv.length⟩
      · exact .inr ⟨vs, hq, rv.length⟩
  · exact run.elim
theorem c_max2 (hc : X.calm = true) : CJ X g (fun us => call (.builtin "max") us) fMax2 := CJ.of (call_max2 hc) fun l st σ ps xs Q ok rp run => by
  unfold fMax2 at run
  split at run
  · obtain ⟨v, r, rfl, h1, w, r2, rfl, h2, h3⟩ := rp
    cases (show r2 = [] from h3)
    rename_i i j
    refine ⟨i, j, by rw [show v = .int i from h1, show w = .int j from h2], run l _ (Step.refl l) ok ?_⟩
    show V.int _ = V.int _
    congr 1
    omega
  · exact run.elim
theorem c_min2 (hc : X.calm = true) : CJ X g (fun us => call (.builtin "min") us) fMin2 := CJ.of (call_min2 hc) fun l st σ ps xs Q ok rp run => by
  unfold fMin2 at run
  split at run
  · obtain ⟨v, r, rfl, h1, w, r2, rfl, h2, h3⟩ := rp
    cases (show r2 = [] from h3)
    rename_i i j
    refine ⟨i, j, by rw [show v = .int i from h1, show w = .int j from h2], run l _ (Step.refl l) ok ?_⟩
    show V.int _ = V.int _
    congr 1
    omega
  · exact run.elim
theorem c_int : CJ X g (fun us => call (.type "int") us) fIntB := CJ.of call_int1 fun l st σ ps xs Q ok rp run => by
  unfold fIntB at run
  split at run
  · obtain ⟨v, r, rfl, h1, h2⟩ := rp
    cases (show r = [] from h2)
    rename_i i
    exact .inl ⟨i, by rw [show v = .int i from h1], run l _ (Step.refl l) ok rfl⟩
  · obtain ⟨v, r, rfl, h1, h2⟩ := rp
    cases (show r = [] from h2)
    rename_i i
    exact .inr ⟨i, by rw [show v = .bl i from h1], run l _ (Step.refl l) ok rfl⟩
  · exact run.elim
end
end L3
namespace L3
open PySem PySem.Spec PyProof.Rows L2
@[simp] def dSkip : DS := fun s => .ok .nx s
@[simp] def dSeq (a b : DS) : DS := fun s => (a s).bind fun f s1 => match f with
  | .nx => b s1
  | .rt v => .ok (.rt v) s1
  | .bk => .ok .bk s1
  | .ct => .ok .ct s1
@[simp] def setE (i : Nat) (v : PV) (s : S) : S := ⟨s.env.set i (some (.val v)), s.mu⟩
@[simp] def dSet (i : Nat) (d : DE) : DS := fun s => (d s).bind fun v s1 => .ok .nx (setE i v s1)
@[simp] def dExpr (d : DE) : DS := fun s => (d s).bind fun _ s1 => .ok .nx s1
@[simp] def dRet (d : DE) : DS := fun s => (d s).bind fun v s1 => .ok (.rt v) s1
@[simp] def dRetN : DS := fun s => .ok (.rt .non) s
@[simp] def dBrk : DS := fun s => .ok .bk s
@[simp] def dCont : DS := fun s => .ok .ct s
@[simp] def dIfS (c : DT) (a b : DS) : DS := fun s => (c s).bind fun x s1 => match x with
  | true => a s1
  | false => b s1
@[simp] def dNever : DS := fun _ => .bad
abbrev DG := PV → S → R S Unit
@[simp] def gN (i : Nat) : DG := fun v s => .ok () (setE i v s)
abbrev DGs := List PV → S → R S Unit
@[simp] def gNil : DGs := fun vs s => match vs with
  | [] => .ok () s
  | _ => .bad
@[simp] def gCons (t : DG) (u : DGs) : DGs := fun vs s => match vs with
  | [] => .bad
  | v :: r => (t v s).bind fun _ s1 => u r s1
@[simp] def gT (n : Nat) (t : DGs) : DG := fun v s => match v with
  | .tup xs => if xs.length = n then t xs s else .bad
  | _ => .bad
/-- a target is stored or the run is given up -/
@[simp] def tgt {b : Type} (r : R S Unit) (k : S → R S b) : R S b := match r with
  | .ok _ s => k s
  | _ => .bad
@[simp] def dAsg (d : DE) (t : DG) : DS := fun s => (d s).bind fun v s1 => tgt (t v s1) fun s2 => .ok .nx s2
def forL (t : DG) (b : DS) : List PV → S → R S Fl
  | [], s => .ok .nx s
  | x :: xs, s => tgt (t x s) fun s1 => (b s1).bind fun f s2 => match f with
    | .nx => forL t b xs s2
    | .ct => forL t b xs s2
    | .bk => .ok .nx s2
    | .rt v => .ok (.rt v) s2
abbrev DI := S → R S (List PV)
@[simp] def dFor (di : DI) (t : DG) (b : DS) : DS := fun s => (di s).bind fun xs s1 => forL t b xs s1
def whileL (c : DT) (b : DS) : Nat → S → R S Fl
  | 0, _ => .bad
  | n + 1, s => (c s).bind fun k s1 => match k with
    | false => .ok .nx s1
    | true => (b s1).bind fun f s2 => match f with
      | .nx => whileL c b n s2
      | .ct => whileL c b n s2
      | .bk => .ok .nx s2
      | .rt v => .ok (.rt v) s2
@[simp] def dWhile (fuel : S → Nat) (c : DT) (b : DS) : DS := fun s => whileL c b (fuel s) s
section
variable {K : PySem.W.Frag} {g : Gx} {l : Lc} {s : S} {σ : St} {p : PV} {v : V} {i : Nat}
theorem get_set {α : Type} {xs : List (Option α)} {i j : Nat} {a b : α} (h : (xs.set i (some a))[j]? = some (some b)) : (j = i ∧ a = b ∧ i < xs.length) ∨ (j ≠ i ∧ xs[j]? = some (some b)) := by
  by_cases e : j = i
  · subst e
    by_cases hl : j < xs.length
    · rw [List.getElem?_set_self hl] at h
      cases h
      exact .inl ⟨rfl, rfl, hl⟩
    · rw [List.getElem?_eq_none (by rw [List.length_set]; omega)] at h
      cases h
  · rw [List.getElem?_set_ne (Ne.symm e)] at h
    exact .inr ⟨e, h⟩
theorem Sok.set (ok : Sok K g l s σ) (r : RepG K g l p v) : Sok K g l (setE i p s) (σ.set i (some v)) where
  len := by show (s.env.set i _).length = _; rw [List.length_set, List.length_set]; exact ok.len
  env := fun j w h => by
    rcases get_set h with ⟨e, e2, hl⟩ | ⟨e, h⟩
    · cases e2
      subst e
      exact ⟨v, by rw [List.getElem?_set_self (by rw [← ok.len]; exact hl)], r⟩
    · obtain ⟨u, h1, h2⟩ := ok.env j w h
      exact ⟨u, by rw [List.getElem?_set_ne (Ne.symm e)]; exact h1, h2⟩
  own := fun j xs h => by
    rcases get_set h with ⟨e, e2, hl⟩ | ⟨e, h⟩
    · cases e2
    · obtain ⟨a, vs, h1, h2⟩ := ok.own j xs h
      exact ⟨a, vs, by rw [List.getElem?_set_ne (Ne.symm e)]; exact h1, h2⟩
  dis := fun j k xs ys a hne h1 h2 h3 h4 => by
    rcases get_set h1 with ⟨_, e2, _⟩ | ⟨e1, h1⟩
    · cases e2
    · rcases get_set h2 with ⟨_, e2, _⟩ | ⟨e2, h2⟩
      · cases e2
      · rw [List.getElem?_set_ne (Ne.symm e1)] at h3
        rw [List.getElem?_set_ne (Ne.symm e2)] at h4
        exact ok.dis j k xs ys a hne h1 h2 h3 h4
  mlen := ok.mlen
  mu := ok.mu
  nd := ok.nd
  alM := ok.alM
  there := ok.there
  mn := ok.mn
  tabs := ok.tabs
end
def LI (K : PySem.W.Frag) (g : Gx) (d : DI) (ItOk : Lc → It → List PV → Prop) : TI := fun σ H Rq => ∃ l s, l.H = H ∧ Sok K g l s σ ∧ match d s with
  | .ok xs s' => ∀ l' J, Step l l' → Sok K g l' s' σ → ItOk l' J xs → Rq J l'.H
  | .exn e s' => ∀ l' cls dd, Step l l' → Sok K g l' s' σ → RepX K g l' e cls dd → g.W cls dd σ l'.H
  | .bad => False
/-- an iterator that yields these -/
def ItOk (K : PySem.W.Frag) (g : Gx) (l0 : Lc) (J : It) (xs : List PV) : Prop := ∀ (i : Nat) (g' : Gx) (l : Lc), Step l0 l → g'.CR = g.CR → (∀ a, g'.N a → g.N a ∨ l0.H a = none) → (∀ a, g'.L l a → l.H a ≠ none) →
  (∀ x, xs[i]? = some x → J.go i l.H ∧ ∀ u H', J.yld i l.H u H' → (∀ a o, l.H a = some o → H' a = some o) ∧ (∀ l1 : Lc, l1.al = l.al → l1.M = l.M → l1.H = H' → RepG K g' l1 x u)) ∧ (xs.length ≤ i → J.stop i l.H)
theorem Step.rep2 {K : PySem.W.Frag} {g g' : Gx} {l l' : Lc} (st : Step l l') (ec : g'.CR = g.CR) (hN : ∀ a, g'.N a → g.N a ∨ l.H a = none) {x : PV} {v : V} (h : RepG K g l x v) : RepG K g' l' x v := by
  have q : Rep K g.CR l'.al (g'.L l') l'.H x v := Rep.mono st.al (fun a o n e => ⟨st.keep a o (fun z => n (.inl z)) e, fun z => by
    rcases z with z | z
    · rcases st.new a z with z | z
      · exact n (.inl z)
      · rw [e] at z; cases z
    · rcases hN a z with z | z
      · exact n (.inr z)
      · rw [e] at z; cases z⟩) x v h
  rw [← ec] at q
  exact q
abbrev JI (X : Cx) (g : Gx) (tg iter : Expr) (d : DI) : Prop := PI X tg iter (LI X.K g d (ItOk X.K g))
def LG (K : PySem.W.Frag) (g : Gx) (js : List Nat) (d : DG) : TG := fun v σ H Q => ∃ l s p, l.H = H ∧ Sok K g l s σ ∧ RepG K g l p v ∧ match d p s with
  | .ok _ s' => ∀ l' σ', Step l l' → Sok K g l' s' σ' → (∀ vs : List Nat, (∀ i ∈ js, i ∈ vs) → wipe σ' vs = wipe σ vs) → Q σ' l'.H
  | .exn _ _ => False
  | .bad => False
def LGs (K : PySem.W.Frag) (g : Gx) (js : List Nat) (d : DGs) : TGs := fun vs σ H Q => ∃ l s ps, l.H = H ∧ Sok K g l s σ ∧ RepGL K g l ps vs ∧ match d ps s with
  | .ok _ s' => ∀ l' σ', Step l l' → Sok K g l' s' σ' → (∀ vs : List Nat, (∀ i ∈ js, i ∈ vs) → wipe σ' vs = wipe σ vs) → Q σ' l'.H
  | .exn _ _ => False
  | .bad => False
abbrev JG (X : Cx) (g : Gx) (js : List Nat) (tg : Expr) (d : DG) : Prop := PG X tg (LG X.K g js d)
abbrev JGs (X : Cx) (g : Gx) (js : List Nat) (tg : List Expr) (d : DGs) : Prop := PGs X tg (LGs X.K g js d)
theorem wipe_set {σ : St} {i : Nat} {x : Option V} : ∀ {vs : List Nat}, i ∈ vs → wipe (σ.set i x) vs = wipe σ vs
  | v :: vs, h => by
    unfold wipe
    by_cases e : i ∈ vs
    · rw [wipe_set e]
    · have ev : i = v := by
        rcases List.mem_cons.mp h with h | h
        · exact h
        · exact absurd h e
      subst ev
      have gen : ∀ (ws : List Nat), i ∉ ws → wipe (σ.set i x) ws = (wipe σ ws).set i x := by
        intro ws
        induction ws with
        | nil => intro _; rfl
        | cons w ws ih =>
          intro hw
          unfold wipe
          rw [ih fun z => hw (List.mem_cons_of_mem _ z)]
          exact List.set_comm _ _ (fun z => hw (by rw [z]; exact List.mem_cons_self))
      rw [gen vs e, List.set_set]
section
variable {X : Cx} {g : Gx} {a b c e tg iter : Expr} {es : List Expr} {st : Stmt} {rest : List Stmt} {da db dc de : DE} {ds du : DS} {dt : DT} {dr : DA} {pos : Pos}
theorem PG.cq {t t' : TG} (h : PG X e t) (i : ∀ v σ H Q, t' v σ H Q → t v σ H Q) : PG X e t' := ⟨fun pins s σ H v u Q I r q => h.run pins s σ H v u Q I r (i v σ H Q q)⟩
theorem PGs.cq {t t' : TGs} (h : PGs X es t) (i : ∀ v σ H Q, t' v σ H Q → t v σ H Q) : PGs X es t' := ⟨fun pins s σ H v u Q I r q => h.run pins s σ H v u Q I r (i v σ H Q q)⟩
theorem PI.cq {t t' : TI} (h : PI X tg iter t) (i : ∀ pins s σ H Q, Inv X pins σ H s → t' σ H Q → t σ H Q) : PI X tg iter t' := ⟨fun pins s σ H Q I q => h.run pins s σ H Q I (i pins s σ H Q I q)⟩
theorem js_nil : JSs X g [] dSkip := PSs.cq pss_nil fun D σ H q => by
  obtain ⟨l, s, rfl, ok, q⟩ := q
  exact q l σ (Step.refl l) ok
theorem js_cons (h1 : JS X g st ds) (h2 : JSs X g rest du) : JSs X g (st :: rest) (dSeq ds du) := PSs.cq (pss_cons h1 h2) fun D σ H q => by
  obtain ⟨l, s, rfl, ok, q⟩ := q
  refine ⟨l, s, rfl, ok, ?_⟩
  simp only [dSeq] at q
  cases e : ds s with
  | bad => rw [e] at q; exact q
  | exn e t => rw [e] at q; exact q
  | ok f t =>
    rw [e] at q
    cases f with
    | nx => exact fun l1 σ1 s1 ok1 => ⟨l1, t, rfl, ok1, RunS.step (r := du t) (σ := σ) q s1⟩
    | bk => exact q
    | ct => exact q
    | rt v => exact q
theorem js_one (h1 : JS X g st ds) : JSs X g [st] ds := pss_one h1
theorem js_set {i : Nat} {x : Str} {pos' : Pos} (hN : X.N.Nodup) (he : JE X g e de) (hi : X.N[i]? = some x := by rfl) (hx : Loc X.env.scope x := by first | exact Or.inl rfl | exact Or.inr rfl) (hs : swapsWith e (some (.Name x pos')) pos.line X.env = pure false := by rfl)
    (hf : X.fn x = true ∨ X.env.scope.names.lookup x = some .local := by first | exact .inl rfl | exact .inr rfl) : JS X g (.Assign [.Name x pos'] e pos) (dSet i de) := PS.cq (ps_set hN hi hx he hs hf) fun pins s D σ H I q => by
  obtain ⟨l, s, rfl, ok, q⟩ := q
  refine ⟨l, s, rfl, ok, Run.mono (Run.bindS q) fun u H1 ⟨l1, s1, p, e1, ok1, r1, st1, h1⟩ => ?_⟩
  subst e1
  exact h1 l1 _ (Step.refl l1) (ok1.set r1)
theorem js_expr (he : JE X g e de) (hs : swapsWith e none pos.line X.env = pure false := by rfl) : JS X g (.Expr e pos) (dExpr de) := PS.cq (ps_expr he hs) fun pins s D σ H I q => by
  obtain ⟨l, s, rfl, ok, q⟩ := q
  refine ⟨l, s, rfl, ok, Run.mono (Run.bindS q) fun u H1 ⟨l1, s1, p, e1, ok1, r1, st1, h1⟩ => ?_⟩
  subst e1
  exact h1 l1 _ (Step.refl l1) ok1
theorem js_ret (he : JE X g e de) : JS X g (.Return (some e) pos) (dRet de) := PS.cq (ps_ret he) fun pins s D σ H I q => by
  obtain ⟨l, s, rfl, ok, q⟩ := q
  refine ⟨l, s, rfl, ok, Run.mono (Run.bindS q) fun u H1 ⟨l1, s1, p, e1, ok1, r1, st1, h1⟩ => ?_⟩
  subst e1
  exact h1 l1 σ u (Step.refl l1) ok1 r1
theorem js_if {A B : List Stmt} (hc : JT X g c dt) (ha : JSs X g A ds) (hb : JSs X g B du) : JS X g (.If c A B pos) (dIfS dt ds du) := PS.cq (ps_if hc ha hb) fun pins s D σ H I q => by
  obtain ⟨l, s, rfl, ok, q⟩ := q
  refine ⟨l, s, rfl, ok, RunT.mono (RunT.bindS q) fun u H1 ⟨l1, s1, e1, ok1, st1, h1⟩ => ?_⟩
  subst e1
  cases u with
  | true => exact ⟨l1, s1, rfl, ok1, h1⟩
  | false => exact ⟨l1, s1, rfl, ok1, h1⟩
theorem jg_name {x : Str} (i : Nat) (hN : X.N.Nodup) (hi : X.N[i]? = some x := by rfl) (hx : Loc X.env.scope x := by first | exact Or.inl rfl | exact Or.inr rfl) (hf : X.fn x = true ∨ X.env.scope.names.lookup x = some .local := by first | exact .inl rfl | exact .inr rfl) : JG X g [i] (.Name x pos) (gN i) :=
  PG.cq (pg_name hN hi hx hf) fun v σ H Q q => by
    obtain ⟨l, s, p, rfl, ok, r, q⟩ := q
    exact q l _ (Step.refl l) (ok.set r) fun vs hv => wipe_set (hv i List.mem_cons_self)
theorem jgs_nil : JGs X g [] [] gNil := PGs.cq pgs_nil fun v σ H Q q => by
  obtain ⟨l, s, ps, rfl, ok, r, q⟩ := q
  cases ps with
  | nil => exact ⟨r, q l σ (Step.refl l) ok fun _ _ => rfl⟩
  | cons => exact q.elim
theorem jgs_cons {t : DG} {u : DGs} {i1 i2 : List Nat} (h1 : JG X g i1 e t) (h2 : JGs X g i2 es u) (hs : (assignEach (e :: es) X.env).map (·.2) = assign e X.env :: (assignEach es X.env).map (·.2) := by rfl) : JGs X g (i1 ++ i2) (e :: es) (gCons t u) :=
  PGs.cq (pgs_cons h1 h2 hs) fun vs σ H Q q => by
    obtain ⟨l, s, ps, rfl, ok, r, q⟩ := q
    cases ps with
    | nil => exact q.elim
    | cons p ps =>
      obtain ⟨v, w, rfl, r1, r2⟩ := r
      refine ⟨v, w, rfl, l, s, p, rfl, ok, r1, ?_⟩
      simp only [gCons] at q
      cases e : t p s with
      | bad => rw [e] at q; exact q.elim
      | exn e t => rw [e] at q; exact q.elim
      | ok f s1 =>
        rw [e] at q
        intro l1 σ1 st1 ok1 w1
        refine ⟨l1, s1, ps, rfl, ok1, st1.reps r2, ?_⟩
        simp only [R.bind] at q
        cases e2 : u ps s1 with
        | bad => rw [e2] at q; exact q.elim
        | exn e t => rw [e2] at q; exact q.elim
        | ok f s2 =>
          rw [e2] at q
          exact fun l2 σ2 st2 ok2 w2 => q l2 σ2 (st1.trans st2) ok2 fun vs hv => (w2 vs fun i hi => hv i (List.mem_append_right _ hi)).trans (w1 vs fun i hi => hv i (List.mem_append_left _ hi))
theorem jg_tup {t : DGs} {k n : Nat} {js : List Nat} (hc : X.calm = true) (h : JGs X g js es t) (hn : (assignEach es X.env).length = n := by rfl) (hst : (assignEach es X.env).findIdx? (·.1) = none := by rfl) : JG X g js (.Tuple es k pos) (gT n t) :=
  PG.cq (pg_tup hc h hn hst) fun v σ H Q q => by
    obtain ⟨l, s, p, rfl, ok, r, q⟩ := q
    cases p with
    | tup xs =>
      obtain ⟨a, vs, rfl, ha, ra⟩ := r
      simp only [gT] at q
      by_cases z : xs.length = n
      · rw [if_pos z] at q
        exact ⟨a, vs, rfl, SqT.of2 ha, by rw [← ra.length]; exact z, l, s, xs, rfl, ok, ra, q⟩
      · rw [if_neg z] at q
        exact q.elim
    | _ => exact q.elim
theorem RunS.nxc {r : R S Fl} {k : S → R S Fl} {D : Ends} {l : Lc} {σ : St} {K : PySem.W.Frag} {N : St → Hp → Prop}
    (h : RunS K g (r.bind fun f s2 => match f with
        | .nx => k s2
        | .ct => k s2
        | .bk => .ok .nx s2
        | .rt v => .ok (.rt v) s2) l D σ) (hN : ∀ t l' σ', Step l l' → Sok K g l' t σ' → RunS K g (k t) l' D σ' → N σ' l'.H) : RunS K g r l { D with nx := N, ct := N, bk := D.nx } σ := by
  cases r with
  | bad => exact h
  | exn e t => exact h
  | ok f t =>
    cases f with
    | nx => exact fun l' σ' st' ok' => hN t l' σ' st' ok' (RunS.step (r := k t) (σ := σ) h st')
    | ct => exact fun l' σ' st' ok' => hN t l' σ' st' ok' (RunS.step (r := k t) (σ := σ) h st')
    | bk => exact h
    | rt v => exact h
theorem js_for {body : List Stmt} {di : DI} {t : DG} {js : List Nat} (hp : PassesOwn (model X.prog X.w) X.A X.env X.xe) (hc : X.calm = true) (hi : JI X g tg iter di) (hg : JG X g js tg t) (hb : JSs X g body ds)
    (hs : ∀ x, foldedSetIterable iter X.env x = pure x := by intro _; rfl) : JS X g (.For tg iter body [] pos) (dFor di t ds) := PS.cq (ps_for hp hc hi hg hb hs) fun pins s D σ H I q => by
  obtain ⟨l, s, rfl, ok, q⟩ := q
  refine ⟨l, s, rfl, ok, ?_⟩
  simp only [dFor] at q
  cases e : di s with
  | bad => rw [e] at q; exact q
  | exn e t => rw [e] at q; exact fun l' c d => q l' σ c d
  | ok xs s1 =>
    rw [e] at q
    intro l0 J st0 ok0 it
    have q0 := RunS.step (r := forL t ds xs s1) (σ := σ) q st0
    refine ⟨fun i m σ' H' => m = xs.length - i ∧ i ≤ xs.length ∧ ∃ l' s', l'.H = H' ∧ Step l0 l' ∧ Sok X.K g l' s' σ' ∧ RunS X.K g (forL t ds (xs.drop i) s') l' D σ', ⟨xs.length, by simp, Nat.zero_le _, l0, s1, rfl, Step.refl l0, ok0, q0⟩, ?_⟩
    rintro i m σ1 H1 ⟨rfl, hi', l1, s2, rfl, st1, ok1, q1⟩
    obtain ⟨i1, i2⟩ := it i g l1 st1 rfl (fun _ h => .inl h) ok1.there
    by_cases hlt : i < xs.length
    · obtain ⟨g1, g2⟩ := i1 xs[i] (by simp [hlt])
      refine .inr ⟨g1, fun σ' H' => ∃ l' s', l'.H = H' ∧ Step l0 l' ∧ Sok X.K g l' s' σ' ∧ RunS X.K g (forL t ds (xs.drop (i + 1)) s') l' D σ', fun σ' H' z => ⟨xs.length - (i + 1), by omega, rfl, hlt, z⟩, fun x H' y => ?_⟩
      obtain ⟨k1, k2⟩ := g2 x H' y
      rw [List.drop_eq_getElem_cons hlt] at q1
      have ok2 : Sok X.K g ⟨l1.al, l1.M, H'⟩ s2 σ1 := ok1.grow rfl rfl k1
      have st2 : Step l1 ⟨l1.al, l1.M, H'⟩ := ⟨⟨[], by simp⟩, fun _ h => .inl h, fun a o _ h => k1 a o h, fun a h => by
        cases q : l1.H a with
        | none => exact absurd q h
        | some o => show H' a ≠ none; rw [k1 a o q]; simp⟩
      refine ⟨⟨l1.al, l1.M, H'⟩, s2, xs[i], rfl, ok2, k2 _ rfl rfl rfl, ?_⟩
      have q2 := RunS.step (r := forL t ds (xs[i] :: xs.drop (i + 1)) s2) (σ := σ1) q1 st2
      unfold forL at q2
      cases et : t xs[i] s2 with
      | bad => rw [et] at q2; exact q2.elim
      | exn e t => rw [et] at q2; exact q2.elim
      | ok f s3 =>
        rw [et] at q2
        intro l3 σ3 st3 ok3 _
        refine ⟨l3, s3, rfl, ok3, ?_⟩
        exact RunS.nxc (k := fun s2 => forL t ds (xs.drop (i + 1)) s2) (RunS.step (σ := σ1) q2 st3) fun t' l' σ' st' ok' h' => ⟨l', t', rfl, (st1.trans st2).trans (st3.trans st'), ok', h'⟩
    · have ei : i = xs.length := by omega
      refine .inl ⟨i2 (by omega), ?_⟩
      rw [ei, List.drop_length] at q1
      exact q1 l1 σ1 (Step.refl l1) ok1
end
end L3
namespace L3
open PySem PySem.Spec PyProof.Rows L2
@[simp] def iSeq (d : DE) : DI := fun s => (d s).bind fun v s1 => match v with
  | .lst xs => .ok xs s1
  | .tup xs => .ok xs s1
  | .frz xs => .ok xs s1
  | _ => .bad
def rangeP (lo : Int) (n : Nat) : List PV := (List.range n).map fun (k : Nat) => .int (lo + (k : Int))
@[simp] def iRange1 (d : DA) : DI := fun s => (d s).bind fun vs s1 => match vs with
  | [.int j] => if -(2 ^ 62) ≤ j ∧ j < 2 ^ 62 then .ok (rangeP 0 j.toNat) s1 else .bad
  | _ => .bad
@[simp] def iRange2 (d : DA) : DI := fun s => (d s).bind fun vs s1 => match vs with
  | [.int i, .int j] => if -(2 ^ 62) ≤ i ∧ i < 2 ^ 62 ∧ -(2 ^ 62) ≤ j ∧ j < 2 ^ 62 then .ok (rangeP i (j - i).toNat) s1 else .bad
  | _ => .bad
def enumP (xs : List PV) : List PV := (List.range xs.length).map fun (k : Nat) => .tup [.int (k : Int), xs.getD k .non]
@[simp] def iEnum (d : DA) : DI := fun s => (d s).bind fun vs s1 => match vs with
  | [.lst xs] => .ok (enumP xs) s1
  | _ => .bad
def zipP (xs ys : List PV) : List PV := (xs.zip ys).map fun p => .tup [p.1, p.2]
@[simp] def iZip (d : DA) : DI := fun s => (d s).bind fun vs s1 => match vs with
  | [.lst xs, .lst ys] => .ok (zipP xs ys) s1
  | [.tup xs, .tup ys] => .ok (zipP xs ys) s1
  | _ => .bad
theorem enumP_get {xs : List PV} {i : Nat} {x : PV} (h : (enumP xs)[i]? = some x) : ∃ y, xs[i]? = some y ∧ x = .tup [.int (i : Int), y] := by
  unfold enumP at h
  rw [List.getElem?_map] at h
  cases e : (List.range xs.length)[i]? with
  | none => rw [e] at h; cases h
  | some k =>
    rw [e] at h
    obtain ⟨hl, ek⟩ := List.getElem?_eq_some_iff.mp e
    rw [List.getElem_range] at ek
    subst ek
    rw [List.length_range] at hl
    cases h
    exact ⟨xs[i], by simp [hl], by simp [List.getD, hl]⟩
section
variable {X : Cx} {g : Gx} {a b c e tg iter : Expr} {es : List Expr} {da db dc de : DE} {dr : DA} {pos : Pos}
theorem pi_seq {l : Expr} {tl : TE} (hl : PE X l tl) : PI X tg l (fun σ H Rq => tl σ H fun x H1 => ∃ a, x = .ref a ∧ ((∃ xs, SqL X.K H1 a xs) ∧ Rq (Itl X.K a) H1 ∨ (∃ xs, SqT X.K H1 a xs) ∧ Rq (Itt X.K a) H1)) := by
  refine ⟨fun pins s σ H R I h => ?_⟩
  refine thn (hl.run pins s σ H _ I h) fun v s1 ⟨x, H1, I1, r1, q1⟩ => ?_
  obtain ⟨a, e, ⟨⟨xs, hq⟩, q⟩ | ⟨⟨xs, hq⟩, q⟩⟩ := q1
  · subst e
    cases r1
    obtain ⟨its, rv, p, hz⟩ := I1.list hq
    refine wpAny_pyIter_list p.isList ?_
    refine ⟨s1.heap.objs.size, [s1.heap.objs.size], _, _, H1, rfl, I1.kept (t' := s1.toks) fun b o e => Heap.get?_push_of_some _ e, turn_list a _, ⟨_, Heap.get?_push_size _ rfl, rfl, rfl⟩, fun b hb => ?_, q⟩
    have e : b = s1.heap.objs.size := by simpa using hb
    subst e
    exact I1.fpOk (Nat.le_refl _) (I1.hok.fresh (Nat.le_refl _))
  · subst e
    cases r1
    obtain ⟨its, rv, p, hz⟩ := I1.tuple hq
    refine wpAny_pyIter_tuple (show s1.heap.IsTuple a its.toArray from p) ?_
    refine ⟨s1.heap.objs.size, [s1.heap.objs.size], _, _, H1, rfl, I1.kept (t' := s1.toks) fun b o e => Heap.get?_push_of_some _ e, turn_tuple a _, ⟨_, Heap.get?_push_size _ rfl, rfl, rfl⟩, fun b hb => ?_, q⟩
    have e : b = s1.heap.objs.size := by simpa using hb
    subst e
    exact I1.fpOk (Nat.le_refl _) (I1.hok.fresh (Nat.le_refl _))
theorem rep_here {K : PySem.W.Frag} {l l1 : Lc} {p : PV} {u : V} (ea : l1.al = l.al) (eM : l1.M = l.M) (k : ∀ a o, l.H a = some o → l1.H a = some o) (r : RepG K g l p u) : RepG K g l1 p u := by
  have st : Step l l1 := ⟨⟨[], by simp [ea]⟩, fun a h => .inl (by rw [← eM]; exact h), fun a o _ h => k a o h, fun a h => by
    cases q : l.H a with
    | none => exact absurd q h
    | some o => rw [k a o q]; simp⟩
  exact st.rep r
theorem it_list {K : PySem.W.Frag} {l0 : Lc} {a : Addr} {vs : List V} {xs : List PV} (hn : ∀ l, Step l0 l → SqL K l.H a vs) (rv : RepGL K g l0 xs vs) : ItOk K g l0 (Itl K a) xs := fun i g' l st ec hN th => by
  have h1 := hn l st
  refine ⟨fun x hx => ?_, fun hx => ⟨vs, h1, by rw [← rv.length]; exact hx⟩⟩
  obtain ⟨v, hv, r⟩ := rv.get hx
  refine ⟨⟨vs, v, h1, hv⟩, fun u H' y => ?_⟩
  obtain ⟨e, y⟩ := y
  subst e
  have eu : u = v := by have := y vs h1; rw [hv] at this; exact (Option.some.inj this).symm
  subst eu
  exact ⟨fun _ _ h => h, fun l1 ea eM eH => rep_here ea eM (fun a o h => by rw [eH]; exact h) (st.rep2 ec hN r)⟩
theorem it_tup {K : PySem.W.Frag} {l0 : Lc} {a : Addr} {vs : List V} {xs : List PV} (hn : ∀ l, Step l0 l → SqT K l.H a vs) (rv : RepGL K g l0 xs vs) : ItOk K g l0 (Itt K a) xs := fun i g' l st ec hN th => by
  have h1 := hn l st
  refine ⟨fun x hx => ?_, fun hx => ⟨vs, h1, by rw [← rv.length]; exact hx⟩⟩
  obtain ⟨v, hv, r⟩ := rv.get hx
  refine ⟨⟨vs, v, h1, hv⟩, fun u H' y => ?_⟩
  obtain ⟨e, y⟩ := y
  subst e
  have eu : u = v := by have := y vs h1; rw [hv] at this; exact (Option.some.inj this).symm
  subst eu
  exact ⟨fun _ _ h => h, fun l1 ea eM eH => rep_here ea eM (fun a o h => by rw [eH]; exact h) (st.rep2 ec hN r)⟩
/-- a list of immutables stays -/
theorem lst_stays {K : PySem.W.Frag} {l0 l : Lc} {a : Addr} {vs : List V} (n : ¬ l0.M a) (h : l0.H a = some (.lst vs)) (st : Step l0 l) : SqL K l.H a vs := SqL.of (st.keep a _ n h)
theorem tup_stays {K : PySem.W.Frag} {g : Gx} {l0 l : Lc} {a : Addr} {vs : List V} (h : ¬ g.L l0 a ∧ Rd l0.H a (.tup vs) ∨ KT K a vs) (st : Step l0 l) : SqT K l.H a vs := by
  rcases h with ⟨n, h⟩ | h
  · exact .inl (Rd.keep (fun o q => st.keep a o (fun z => n (.inl z)) q) h)
  · exact .inr h
theorem frz_stays {K : PySem.W.Frag} {g : Gx} {l0 l : Lc} {a : Addr} {vs : List V} (h : ¬ g.L l0 a ∧ Rd l0.H a (.lst vs) ∨ KL K a vs) (st : Step l0 l) : SqL K l.H a vs := by
  rcases h with ⟨n, h⟩ | h
  · exact .inl (Rd.keep (fun o q => st.keep a o (fun z => n (.inl z)) q) h)
  · exact .inr h
/-- an expression's list is walked -/
theorem ji_seq (he : JE X g e de) : JI X g tg e (iSeq de) := PI.cq (pi_seq he) fun pins s σ H Q I q => by
  obtain ⟨l, s, rfl, ok, q⟩ := q
  refine ⟨l, s, rfl, ok, ?_⟩
  simp only [iSeq] at q
  cases e1 : de s with
  | bad => rw [e1] at q; exact q
  | exn e t => rw [e1] at q; exact q
  | ok v t =>
    rw [e1] at q
    intro l1 u st1 ok1 r1
    cases v with
    | lst xs =>
      obtain ⟨a, vs, rfl, n, h, rv⟩ := r1
      exact ⟨a, rfl, .inl ⟨⟨vs, SqL.of h⟩, q l1 _ st1 ok1 (it_list (fun l st => lst_stays (fun z => n (.inl z)) h st) rv)⟩⟩
    | tup xs =>
      obtain ⟨a, vs, rfl, h, rv⟩ := r1
      exact ⟨a, rfl, .inr ⟨⟨vs, SqT.of2 h⟩, q l1 _ st1 ok1 (it_tup (fun l st => tup_stays h st) rv)⟩⟩
    | frz xs =>
      obtain ⟨a, vs, rfl, h, rv⟩ := r1
      exact ⟨a, rfl, .inl ⟨⟨vs, SqL.of2 h⟩, q l1 _ st1 ok1 (it_list (fun l st => frz_stays h st) rv)⟩⟩
    | _ => exact q.elim
theorem it_range {K : PySem.W.Frag} {l0 : Lc} {lo : Int} {n : Nat} : ItOk K g l0 (Itr lo n) (rangeP lo n) := fun i g' l st ec hN th => by
  have hl : (rangeP lo n).length = n := by simp [rangeP]
  refine ⟨fun x hx => ?_, fun hx => by rw [hl] at hx; exact hx⟩
  unfold rangeP at hx
  rw [List.getElem?_map] at hx
  cases e : (List.range n)[i]? with
  | none => rw [e] at hx; cases hx
  | some k =>
    rw [e] at hx
    obtain ⟨h1, ek⟩ := List.getElem?_eq_some_iff.mp e
    rw [List.getElem_range] at ek
    subst ek
    rw [List.length_range] at h1
    cases hx
    refine ⟨h1, fun u H' y => ?_⟩
    obtain ⟨e1, e2⟩ := y
    subst e1 e2
    exact ⟨fun _ _ h => h, fun _ _ _ _ => rfl⟩
theorem ji_range1 {p : Pos} (ha : JA X g [a] dr) (hm : X.mg "range" = none) (hg : Gl X "range" := by rfl) (hs : starEach [a] X.env = [(false, eval a X.env)] := by rfl) : JI X g tg (.Call (.Name "range" p) [a] [] pos) (iRange1 dr) :=
  PI.cq (pi_range1 hg hm ha hs) fun pins s σ H Q I q => by
    obtain ⟨l, s, rfl, ok, q⟩ := q
    refine ⟨l, s, rfl, ok, ?_⟩
    simp only [iRange1] at q
    cases e1 : dr s with
    | bad => rw [e1] at q; exact q
    | exn e t => rw [e1] at q; exact q
    | ok vs t =>
      rw [e1] at q
      intro l1 us st1 ok1 r1
      simp only [R.bind] at q
      split at q
      · rename_i e2
        split at e2
        · rename_i j
          obtain ⟨v, r, rfl, h1, h2⟩ := r1
          cases (show r = [] from h2)
          cases (show v = .int j from h1)
          by_cases z : -(2 ^ 62) ≤ j ∧ j < 2 ^ 62
          · rw [if_pos z] at e2
            cases e2
            exact ⟨j, rfl, z.1, z.2, q l1 _ st1 ok1 it_range⟩
          · rw [if_neg z] at e2
            cases e2
        · cases e2
      · rename_i e2
        split at e2
        · split at e2 <;> cases e2
        · cases e2
      · exact q.elim
theorem upd_keep {H : Hp} {T : Addr} {o : HO} (h : H T = none) : ∀ a u, H a = some u → upd H T o a = some u := fun a u e => by rw [upd_ne (ne_of_none e h)]; exact e
/-- a pair that an iterator lays anew -/
theorem pair_rep {K : PySem.W.Frag} {l l1 : Lc} {T : Addr} {x y : PV} {u v : V} (hT : l.H T = none) (there : ¬ g.L l T) (ea : l1.al = l.al) (eM : l1.M = l.M) (eH : l1.H = upd l.H T (.tup [u, v])) (rx : RepG K g l x u) (ry : RepG K g l y v) : RepG K g l1 (.tup [x, y]) (.ref T) := by
  have k : ∀ a o, l.H a = some o → l1.H a = some o := fun a o h => by rw [eH]; exact upd_keep hT a o h
  refine ⟨T, [u, v], rfl, .inl ⟨fun z => there (by rcases z with z | z; exact .inl (by rw [← eM]; exact z); exact .inr z), .inl (by rw [eH, upd_same])⟩, u, [v], rfl, rep_here ea eM k rx, v, [], rfl, rep_here ea eM k ry, rfl⟩
theorem it_enum {K : PySem.W.Frag} {l0 : Lc} {a : Addr} {vs : List V} {xs : List PV} (hn : ∀ l, Step l0 l → SqL K l.H a vs) (rv : RepGL K g l0 xs vs) : ItOk K g l0 (Ite K a) (enumP xs) := fun i g' l st ec hN th => by
  have h1 := hn l st
  have hl : (enumP xs).length = xs.length := by simp [enumP]
  refine ⟨fun x hx => ?_, fun hx => ⟨vs, h1, by rw [← rv.length]; rw [hl] at hx; exact hx⟩⟩
  obtain ⟨y, hy, rfl⟩ := enumP_get hx
  obtain ⟨v, hv, r⟩ := rv.get hy
  refine ⟨⟨vs, v, h1, hv⟩, fun u H' z => ?_⟩
  obtain ⟨T, w, rfl, hT, rfl, z⟩ := z
  have ew : w = v := by have := z vs h1; rw [hv] at this; exact (Option.some.inj this).symm
  subst ew
  exact ⟨upd_keep hT, fun l1 ea eM eH => pair_rep hT (fun z => th T z hT) ea eM eH rfl (st.rep2 ec hN r)⟩
end
end L3
namespace L3
open PySem PySem.Spec PyProof.Rows L2
abbrev DL := S → R S (List PV)
def RunF (K : PySem.W.Frag) (g : Gx) (r : R S (List PV)) (l : Lc) (σ : St) (Q : VK) : Prop := match r with
  | .ok xs s' => ∀ l' us p, Step l l' → Sok K g l' s' σ → RepGL K g l' xs us → l'.H p = none → Q (.ref p) (upd l'.H p (.lst us))
  | .exn e s' => ∀ l' cls dd, Step l l' → Sok K g l' s' σ → RepX K g l' e cls dd → g.W cls dd σ l'.H
  | .bad => False
def LF (K : PySem.W.Frag) (g : Gx) (d : DL) : TE := fun σ H Q => ∃ l s, l.H = H ∧ Sok K g l s σ ∧ RunF K g (d s) l σ Q
/-- code that lays a new list -/
abbrev JF (X : Cx) (g : Gx) (e : Expr) (d : DL) : Prop := PE X e (LF X.K g d)
@[simp] def dFr (d : DL) : DE := fun s => (d s).bind fun xs s1 => .ok (.lst xs) s1
@[simp] def okB {a b : Type} (r : R S a) (k : a → S → R S b) : R S b := match r with
  | .ok v s => k v s
  | _ => .bad
def wipeE (env : List (Option SV)) : List Nat → List (Option SV)
  | [] => env
  | v :: vs => (wipeE env vs).set v none
@[simp] def wipeS (vs : List Nat) (s : S) : S := ⟨wipeE s.env vs, s.mu⟩
@[simp] def dYes : DT := fun s => .ok true s
def compL (t : DG) (tt : DT) (te : DE) (vs : List Nat) : List PV → List PV → S → R S (List PV)
  | [], acc, s => .ok acc s
  | x :: xs, acc, s => tgt (t x s) fun s1 => okB (tt s1) fun b s2 => match b with
    | true => okB (te s2) fun y s3 => if acc.length < 16777216 then compL t tt te vs xs (acc ++ [y]) (wipeS vs s3) else .bad
    | false => compL t tt te vs xs acc (wipeS vs s2)
@[simp] def dComp (di : DI) (t : DG) (tt : DT) (te : DE) (vs : List Nat) : DL := fun s => (di s).bind fun xs s1 => compL t tt te vs xs [] (wipeS vs s1)
@[simp] def dLstF (d : DA) : DL := fun s => (d s).bind fun xs s1 => if xs.length ≤ 1000 then .ok xs s1 else .bad
@[simp] def dListF (d : DE) : DL := fun s => (d s).bind fun p s1 => match asL s1.mu p with
  | some xs => .ok xs s1
  | none => .bad
abbrev W0 : WX := fun _ _ _ _ => False
abbrev Gx.at (g : Gx) (N : Addr → Prop) : Gx := ⟨g.CR, N, W0⟩
/-- the same objects known, the abstract heap another -/
theorem Sok.to {K : PySem.W.Frag} {g g' : Gx} {l l' : Lc} {s : S} {σ : St} (ok : Sok K g l s σ) (ec : g'.CR = g.CR) (ea : l'.al = l.al) (eM : l'.M = l.M) (k : ∀ a o, ¬ g.N a → l.H a = some o → l'.H a = some o) (kN : ∀ a o, ¬ g.N a → l.H a = some o → ¬ g'.N a) (th : ∀ a, l.M a ∨ g'.N a → l'.H a ≠ none) : Sok K g' l' s σ := by
  have rp : ∀ x v, RepG K g l x v → RepG K g' l' x v := fun x v h => by
    have q : Rep K g.CR l'.al (g'.L l') l'.H x v := Rep.mono (fun n a h => by rw [ea]; exact h) (fun a o n e => ⟨k a o (fun z => n (.inr z)) e, fun z => by
      rcases z with z | z
      · exact n (.inl (by rw [← eM]; exact z))
      · exact kN a o (fun z => n (.inr z)) e z⟩) x v h
    rw [← ec] at q
    exact q
  have rps : ∀ x v, RepGL K g l x v → RepGL K g' l' x v := fun x v h => by
    rw [RepGL, RepL.iff] at h ⊢
    exact ⟨h.1, fun i y e => let ⟨w, h1, h2⟩ := h.2 i y e; ⟨w, h1, rp y w h2⟩⟩
  refine ⟨ok.len, fun i v e => ?_, fun i xs e => ?_, ok.dis, by rw [ea]; exact ok.mlen, fun n a m h1 h2 => ?_, by rw [ea]; exact ok.nd, by rw [ea, eM]; exact ok.alM, fun a h => th a (by rw [eM] at h; exact h), fun a h z => ?_, fun x hx => (ok.tabs x hx).to (by rw [eM]; exact (ok.tabs x hx).M) (by rw [ea]; exact (ok.tabs x hx).al) (fun _ q => k _ _ (ok.mn _ (ok.tabs x hx).M) q) fun c q n e => ⟨k _ _ (fun z => n (.inr z)) e, fun z => by
    rcases z with z | z
    · exact n (.inl (by rw [← eM]; exact z))
    · exact kN c _ (fun z => n (.inr z)) e z⟩⟩
  · obtain ⟨u, h1, h2⟩ := ok.env i v e
    exact ⟨u, h1, rp v u h2⟩
  · obtain ⟨a, vs, h1, h2, h3, h4, h5⟩ := ok.own i xs e
    exact ⟨a, vs, h1, by rw [eM]; exact h2, by rw [ea]; exact h3, k _ _ (ok.mn a h2) h4, rps xs vs h5⟩
  · rw [ea] at h1
    have hM := ok.alM a (List.mem_of_getElem? h1)
    have q := ok.mu n a m h1 h2
    cases m with
    | lst xs =>
      obtain ⟨vs, q1, q2⟩ := q
      exact ⟨vs, k _ _ (ok.mn a hM) q1, rps _ _ q2⟩
    | ins C ns xs =>
      obtain ⟨dx, vs, q1, q2, q3⟩ := q
      exact ⟨dx, vs, k _ _ (ok.mn a hM) q1, q2, rps _ _ q3⟩
    | nst C ns xs =>
      obtain ⟨dx, vs, q1, q2, q3⟩ := q
      exact ⟨dx, vs, k _ _ (ok.mn a hM) q1, q2, rps _ _ q3⟩
    | dic ns xs =>
      obtain ⟨vs, q1, q2, q9, q3⟩ := q
      exact ⟨vs, k _ _ (ok.mn a hM) q1, q2, q9, rps _ _ q3⟩
  · rw [eM] at h
    have nn := ok.mn a h
    have hs := ok.there a (.inl h)
    cases q : l.H a with
    | none => exact hs q
    | some o => exact kN a o nn q z
theorem RepL.to {K : PySem.W.Frag} {g g' : Gx} {l l' : Lc} (ec : g'.CR = g.CR) (ea : l'.al = l.al) (eM : l'.M = l.M) (k : ∀ a o, ¬ g.N a → l.H a = some o → l'.H a = some o) (kN : ∀ a o, ¬ g.N a → l.H a = some o → ¬ g'.N a) {x : List PV} {v : List V} (h : RepGL K g l x v) : RepGL K g' l' x v := by
  have q : RepL K g.CR l'.al (g'.L l') l'.H x v := RepL.mono (fun n a h => by rw [ea]; exact h) (fun a o n e => ⟨k a o (fun z => n (.inr z)) e, fun z => by
      rcases z with z | z
      · exact n (.inl (by rw [← eM]; exact z))
      · exact kN a o (fun z => n (.inr z)) e z⟩) x v h
  rw [← ec] at q
  exact q
theorem wipeE_len (env : List (Option SV)) : ∀ vs, (wipeE env vs).length = env.length
  | [] => rfl
  | v :: vs => by unfold wipeE; rw [List.length_set, wipeE_len env vs]
theorem wipeE_get {env : List (Option SV)} {i : Nat} {x : SV} : ∀ {vs : List Nat}, (wipeE env vs)[i]? = some (some x) → env[i]? = some (some x) ∧ i ∉ vs
  | [], h => ⟨h, by simp⟩
  | v :: vs, h => by
    unfold wipeE at h
    by_cases e : i = v
    · subst e
      by_cases hl : i < (wipeE env vs).length
      · rw [List.getElem?_set_self hl] at h; cases h
      · rw [List.getElem?_eq_none (by rw [List.length_set]; omega)] at h; cases h
    · rw [List.getElem?_set_ne (Ne.symm e)] at h
      obtain ⟨h1, h2⟩ := wipeE_get h
      exact ⟨h1, fun z => by rcases List.mem_cons.mp z with z | z; exact e z; exact h2 z⟩
theorem wipe_get {σ : St} {i : Nat} : ∀ {vs : List Nat}, i ∉ vs → (wipe σ vs)[i]? = σ[i]?
  | [], _ => rfl
  | v :: vs, h => by
    unfold wipe
    rw [List.getElem?_set_ne (fun z => h (by rw [z]; exact List.mem_cons_self)), wipe_get fun z => h (List.mem_cons_of_mem _ z)]
/-- slots that are forgotten may hold anything -/
theorem Sok.wipe {K : PySem.W.Frag} {g : Gx} {l : Lc} {s : S} {σ τ : St} {vs : List Nat} (ok : Sok K g l s σ) (h : L2.wipe τ vs = L2.wipe σ vs) : Sok K g l (wipeS vs s) τ := by
  have hl : τ.length = σ.length := by rw [← L2.wipe_length τ vs, h, L2.wipe_length]
  have hg : ∀ i, i ∉ vs → τ[i]? = σ[i]? := fun i hi => by rw [← wipe_get (σ := τ) hi, h, wipe_get hi]
  refine ⟨by show (wipeE s.env vs).length = _; rw [wipeE_len, hl]; exact ok.len, fun i v e => ?_, fun i xs e => ?_, fun i j xs ys a hn e1 e2 h1 h2 => ?_, ok.mlen, ok.mu, ok.nd, ok.alM, ok.there, ok.mn, ok.tabs⟩
  · obtain ⟨e, hi⟩ := wipeE_get e
    obtain ⟨u, h1, h2⟩ := ok.env i v e
    exact ⟨u, by rw [hg i hi]; exact h1, h2⟩
  · obtain ⟨e, hi⟩ := wipeE_get e
    obtain ⟨a, vs', h1, h2⟩ := ok.own i xs e
    exact ⟨a, vs', by rw [hg i hi]; exact h1, h2⟩
  · obtain ⟨e1, hi⟩ := wipeE_get e1
    obtain ⟨e2, hj⟩ := wipeE_get e2
    rw [hg i hi] at h1
    rw [hg j hj] at h2
    exact ok.dis i j xs ys a hn e1 e2 h1 h2
theorem wipe_none {i : Nat} : ∀ (ws : List Nat) (τ : St), i ∈ ws → i < τ.length → (L2.wipe τ ws)[i]? = some none
  | w :: ws, τ, h, hl => by
    show ((L2.wipe τ ws).set w none)[i]? = some none
    by_cases e : w = i
    · subst e
      rw [List.getElem?_set_self (by rw [L2.wipe_length]; exact hl)]
    · rw [List.getElem?_set_ne e]
      exact wipe_none ws τ (by rcases List.mem_cons.mp h with h | h; exact absurd h.symm e; exact h) hl
theorem wipe_wipe (σ : St) (vs : List Nat) : L2.wipe (L2.wipe σ vs) vs = L2.wipe σ vs := List.ext_getElem? fun i => by
  by_cases hi : i ∈ vs
  · by_cases hl : i < σ.length
    · rw [wipe_none vs (L2.wipe σ vs) hi (by rw [L2.wipe_length]; exact hl), wipe_none vs σ hi hl]
    · rw [List.getElem?_eq_none (by rw [L2.wipe_length, L2.wipe_length]; omega), List.getElem?_eq_none (by rw [L2.wipe_length]; omega)]
  · rw [wipe_get hi]
theorem Sok.unwipe {K : PySem.W.Frag} {g : Gx} {l : Lc} {s : S} {σ : St} {vs : List Nat} (ok : Sok K g l s (L2.wipe σ vs)) : Sok K g l s σ := by
  refine ⟨by rw [ok.len, L2.wipe_length], fun i v e => ?_, fun i xs e => ?_, fun i j xs ys a hn e1 e2 h1 h2 => ?_, ok.mlen, ok.mu, ok.nd, ok.alM, ok.there, ok.mn, ok.tabs⟩
  · obtain ⟨u, h1, h2⟩ := ok.env i v e
    exact ⟨u, (wipe_some h1).1, h2⟩
  · obtain ⟨a, ws, h1, h2⟩ := ok.own i xs e
    exact ⟨a, ws, (wipe_some h1).1, h2⟩
  · obtain ⟨b, _, h3, _⟩ := ok.own i xs e1
    obtain ⟨c, _, h4, _⟩ := ok.own j ys e2
    have k3 := (wipe_some h3).1
    have k4 := (wipe_some h4).1
    rw [h1] at k3
    rw [h2] at k4
    cases k3
    cases k4
    exact ok.dis i j xs ys a hn e1 e2 h3 h4
theorem compL_noexn {t : DG} {tt : DT} {te : DE} {vs : List Nat} : ∀ (xs acc : List PV) (s : S) (e : PV) (u : S), compL t tt te vs xs acc s ≠ .exn e u
  | [], acc, s, e, u, h => by unfold compL at h; cases h
  | x :: xs, acc, s, e, u, h => by
    unfold compL at h
    cases e1 : t x s with
    | bad => rw [e1] at h; cases h
    | exn => rw [e1] at h; cases h
    | ok v s1 =>
      rw [e1] at h
      simp only [tgt] at h
      cases e2 : tt s1 with
      | bad => rw [e2] at h; cases h
      | exn => rw [e2] at h; cases h
      | ok b s2 =>
        rw [e2] at h
        simp only [okB] at h
        cases b with
        | false => exact compL_noexn xs acc _ e u h
        | true =>
          cases e3 : te s2 with
          | bad => simp only [e3] at h; cases h
          | exn => simp only [e3] at h; cases h
          | ok y s3 =>
            simp only [e3] at h
            split at h
            · exact compL_noexn xs _ _ e u h
            · cases h
def del (H : Hp) (D : Addr) : Hp := fun a => if a = D then none else H a
theorem del_ne {H : Hp} {D a : Addr} (h : a ≠ D) : del H D a = H a := by unfold del; rw [if_neg h]
theorem del_same {H : Hp} {D : Addr} : del H D D = none := by unfold del; rw [if_pos rfl]
theorem upd_del {H : Hp} {D : Addr} {o : HO} (h : H D = some o) : upd (del H D) D o = H := by
  funext a
  unfold upd del
  by_cases e : a = D
  · rw [if_pos e, e, h]
  · rw [if_neg e, if_neg e]
section
variable {X : Cx} {g : Gx} {a b c e tg iter elt : Expr} {es ifs : List Expr} {da db dc de : DE} {dr : DA} {dl : DL} {pos : Pos}
theorem j_ofF (h : JF X g e dl) : JE X g e (dFr dl) := PE.cq h fun pins s σ H Q I q => by
  obtain ⟨l, s, rfl, ok, q⟩ := q
  refine ⟨l, s, rfl, ok, ?_⟩
  simp only [dFr] at q
  cases e1 : dl s with
  | bad => rw [e1] at q; exact q
  | exn e t => rw [e1] at q; exact q
  | ok xs t =>
    rw [e1] at q
    exact fun l1 us p st1 ok1 r1 hp => Run.lst (Run.step (r := .ok (.lst xs) t) q st1) ok1 r1 p hp
theorem jf_lst (h : JA X g es dr) : JF X g (.List es pos) (dLstF dr) := PE.cq (pe_lst h) fun pins s σ H Q I q => by
  obtain ⟨l, s, rfl, ok, q⟩ := q
  refine ⟨l, s, rfl, ok, ?_⟩
  simp only [dLstF] at q
  cases e1 : dr s with
  | bad => rw [e1] at q; exact q
  | exn e t => rw [e1] at q; exact q
  | ok xs t =>
    rw [e1] at q
    intro l1 us st1 ok1 r1
    simp only [R.bind] at q
    by_cases z : xs.length ≤ 1000
    · rw [if_pos z] at q
      exact ⟨by rw [line_eq, ← r1.length]; omega, fun p hp => q l1 us p st1 ok1 r1 hp⟩
    · rw [if_neg z] at q
      exact q.elim
/-- what a comprehension's reading asks -/
theorem comp_reads {js vs : List Nat} {di : DI} {t : DG} {tt : DT} {te : DE} (hjs : ∀ i ∈ js, i ∈ vs) {σ : St} {H : Hp} {Q : VK} (q : LF X.K g (dComp di t tt te vs) σ H Q) :
    tLc (LI X.K g di (ItOk X.K g)) (fun v σ H Q => ∃ N, LG X.K (g.at N) js t v σ H Q) (fun σ H Q => ∃ N, LT X.K (g.at N) tt σ H Q) (fun σ H Q => ∃ N, LE X.K (g.at N) te σ H Q) vs σ H Q := by
  obtain ⟨l, s, rfl, ok, q⟩ := q
  refine ⟨l, s, rfl, ok, ?_⟩
  simp only [dComp] at q
  cases e1 : di s with
  | bad => rw [e1] at q; exact q
  | exn e t => rw [e1] at q; exact q
  | ok xs s1 =>
    rw [e1] at q
    simp only [R.bind] at q
    intro l1 J st1 ok1 it D hD
    have hND : ¬ g.L l1 D := ok1.fresh hD
    let N' : Addr → Prop := fun a => g.N a ∨ a = D
    have neD : ∀ a o, l1.H a = some o → a ≠ D := fun a o h z => by rw [z, hD] at h; cases h
    have hu : ∀ a o, l1.H a = some o → upd l1.H D (.lst []) a = some o := fun a o h => by rw [upd_ne (neD a o h)]; exact h
    have okS : Sok X.K (g.at N') ⟨l1.al, l1.M, upd l1.H D (.lst [])⟩ (wipeS vs s1) (L2.wipe σ vs) := by
      refine Sok.wipe (σ := σ) (Sok.to ok1 rfl rfl rfl (fun a o _ h => hu a o h) (fun a o n h z => ?_) (fun a h => ?_)) (wipe_wipe σ vs)
      · rcases z with z | z
        · exact n z
        · exact neD a o h z
      · rcases h with h | h | h
        · cases q : l1.H a with
          | none => exact absurd q (ok1.there a (.inl h))
          | some o => show upd l1.H D _ a ≠ none; rw [hu a o q]; simp
        · cases q : l1.H a with
          | none => exact absurd q (ok1.there a (.inr h))
          | some o => show upd l1.H D _ a ≠ none; rw [hu a o q]; simp
        · show upd l1.H D _ a ≠ none
          rw [h, upd_same]; simp
    have stS : Step l1 ⟨l1.al, l1.M, upd l1.H D (.lst [])⟩ := Step.alloc hD
    -- the invariant's last part
    let Fin (r : R S (List PV)) : Prop := match r with
      | .ok ys s' => ∀ l' us, Step l1 l' → Sok X.K (g.at N') l' s' (L2.wipe σ vs) → RepGL X.K (g.at N') l' ys us → l'.H D = some (.lst us) → Q (.ref D) l'.H
      | _ => False
    have fin0 : Fin (compL t tt te vs xs [] (wipeS vs s1)) := by
      show (match compL t tt te vs xs [] (wipeS vs s1) with | .ok ys s' => _ | _ => False)
      cases e2 : compL t tt te vs xs [] (wipeS vs s1) with
      | bad => rw [e2] at q; exact q
      | exn e t => exact absurd e2 (compL_noexn _ _ _ _ _)
      | ok ys s' =>
        rw [e2] at q
        intro l' us st' ok' r' hD'
        have nD : ∀ a, ¬ N' a → a ≠ D := fun a n z => n (.inr z)
        have k0 : ∀ a o, ¬ N' a → l'.H a = some o → del l'.H D a = some o := fun a o n h => by rw [del_ne (nD a n)]; exact h
        have st2 : Step l1 ⟨l'.al, l'.M, del l'.H D⟩ := by
          refine ⟨st'.pre, st'.new, fun a o n h => ?_, fun a h => ?_⟩
          · show del l'.H D a = some o
            rw [del_ne (neD a o h)]
            exact st'.keep a o n h
          · cases e : l1.H a with
            | none => exact absurd e h
            | some o =>
              show del l'.H D a ≠ none
              rw [del_ne (neD a o e)]
              exact st'.dom a h
        have ok2 : Sok X.K g ⟨l'.al, l'.M, del l'.H D⟩ s' σ := by
          refine Sok.unwipe (vs := vs) (Sok.to ok' rfl rfl rfl k0 (fun a o n _ z => n (.inl z)) fun a h => ?_)
          have ne : a ≠ D := fun z => by
            rcases h with h | h
            · exact ok'.mn a h (.inr z)
            · rw [z] at h
              exact hND (.inr h)
          show del l'.H D a ≠ none
          rw [del_ne ne]
          exact ok'.there a (by rcases h with h | h; exact .inl h; exact .inr (.inl h))
        have z := q ⟨l'.al, l'.M, del l'.H D⟩ us D (st1.trans st2) ok2 (RepL.to (g := g.at N') (g' := g) (l := l') (l' := ⟨l'.al, l'.M, del l'.H D⟩) rfl rfl rfl k0 (fun a o n _ z => n (.inl z)) r') del_same
        rw [show upd (del l'.H D) D (.lst us) = l'.H from upd_del hD'] at z
        exact z
    have hDM : ∀ {l : Lc} {s : S} {τ : St}, Sok X.K (g.at N') l s τ → ¬ l.M D := fun ok z => ok.mn D z (.inr rfl)
    refine ⟨fun i m H => m = xs.length - i ∧ i ≤ xs.length ∧ ∃ l s acc us, l.H = H ∧ Step l1 l ∧ Sok X.K (g.at N') l s (L2.wipe σ vs) ∧ H D = some (.lst us) ∧ RepGL X.K (g.at N') l acc us ∧ Fin (compL t tt te vs (xs.drop i) acc s),
      ⟨xs.length, by simp, Nat.zero_le _, _, wipeS vs s1, [], [], rfl, stS, okS, upd_same, rfl, fin0⟩, ?_⟩
    rintro i m H ⟨rfl, hi, l2, s2, acc, us, rfl, st2, ok2, hD2, r2, f2⟩
    obtain ⟨i1, i2⟩ := it i (g.at N') l2 st2 rfl (fun a h => by rcases h with h | h; exact .inl h; exact .inr (by rw [h]; exact hD)) ok2.there
    by_cases hlt : i < xs.length
    · obtain ⟨g1, g2⟩ := i1 xs[i] (by simp [hlt])
      refine .inr ⟨g1, fun H' => ∃ l s acc us, l.H = H' ∧ Step l1 l ∧ Sok X.K (g.at N') l s (L2.wipe σ vs) ∧ H' D = some (.lst us) ∧ RepGL X.K (g.at N') l acc us ∧ Fin (compL t tt te vs (xs.drop (i + 1)) acc s),
        fun H' z => ⟨xs.length - (i + 1), by omega, rfl, hlt, z⟩, fun x H' y => ?_⟩
      obtain ⟨k1, k2⟩ := g2 x H' y
      rw [List.drop_eq_getElem_cons hlt] at f2
      have ok3 : Sok X.K (g.at N') ⟨l2.al, l2.M, H'⟩ s2 (L2.wipe σ vs) := ok2.grow rfl rfl k1
      have st3 : Step l2 ⟨l2.al, l2.M, H'⟩ := ⟨⟨[], by simp⟩, fun _ h => .inl h, fun a o _ h => k1 a o h, fun a h => by
        cases q : l2.H a with
        | none => exact absurd q h
        | some o => show H' a ≠ none; rw [k1 a o q]; simp⟩
      refine ⟨N', ⟨l2.al, l2.M, H'⟩, s2, xs[i], rfl, ok3, k2 _ rfl rfl rfl, ?_⟩
      unfold compL at f2
      cases et : t xs[i] s2 with
      | bad => rw [et] at f2; exact f2.elim
      | exn e t => rw [et] at f2; exact f2.elim
      | ok v s3 =>
        rw [et] at f2
        simp only [tgt] at f2
        intro l4 σ2 st4 ok4 hw
        refine ⟨(hw vs hjs).trans (wipe_wipe σ vs), N', l4, s3, rfl, ok4, ?_⟩
        cases ett : tt s3 with
        | bad => rw [ett] at f2; exact f2.elim
        | exn e t => rw [ett] at f2; exact f2.elim
        | ok b s4 =>
          rw [ett] at f2
          simp only [okB] at f2
          intro l5 st5 ok5
          have stA : Step l2 l5 := st3.trans (st4.trans st5)
          have hD5 : l5.H D = some (.lst us) := stA.keep D _ (hDM ok2) hD2
          cases b with
          | false => exact ⟨l5, wipeS vs s4, acc, us, rfl, st2.trans stA, Sok.wipe ok5 (hw vs hjs).symm, hD5, stA.reps r2, f2⟩
          | true =>
            refine (if_pos rfl).mpr ⟨N', l5, s4, rfl, ok5, ?_⟩
            simp only at f2
            cases ee : te s4 with
            | bad => rw [ee] at f2; exact f2.elim
            | exn e t => rw [ee] at f2; exact f2.elim
            | ok y s5 =>
              rw [ee] at f2
              simp only at f2
              intro l6 u st6 ok6 r6
              have hD6 : l6.H D = some (.lst us) := st6.keep D _ (hDM ok5) hD5
              by_cases hz : acc.length < 16777216
              · rw [if_pos hz] at f2
                refine ⟨us, hD6, by rw [line_eq, ← r2.length]; exact hz, ?_⟩
                have k7 : ∀ a o, ¬ N' a → l6.H a = some o → upd l6.H D (.lst (us ++ [u])) a = some o := fun a o n h => by rw [upd_ne (fun z => n (.inr z))]; exact h
                have stB : Step l1 l6 := st2.trans (stA.trans st6)
                refine ⟨⟨l6.al, l6.M, upd l6.H D (.lst (us ++ [u]))⟩, wipeS vs s5, acc ++ [y], us ++ [u], rfl, ?_, ?_, upd_same, ?_, ?_⟩
                · refine ⟨stB.pre, stB.new, fun a o n h => ?_, fun a h => ?_⟩
                  · show upd l6.H D _ a = some o
                    rw [upd_ne (neD a o h)]
                    exact stB.keep a o n h
                  · show upd l6.H D _ a ≠ none
                    by_cases e : a = D
                    · rw [e, upd_same]; simp
                    · rw [upd_ne e]; exact stB.dom a h
                · refine Sok.wipe (σ := σ2) (Sok.to ok6 rfl rfl rfl k7 (fun a o n _ => n) fun a h => ?_) (hw vs hjs).symm
                  by_cases e : a = D
                  · show upd l6.H D _ a ≠ none
                    rw [e, upd_same]; simp
                  · show upd l6.H D _ a ≠ none
                    rw [upd_ne e]
                    exact ok6.there a h
                · have rq : RepGL X.K (g.at N') l6 [y] [u] := ⟨u, [], rfl, r6, rfl⟩
                  exact RepL.to (g := g.at N') (g' := g.at N') (l := l6) (l' := ⟨l6.al, l6.M, upd l6.H D (.lst (us ++ [u]))⟩) rfl rfl rfl k7 (fun a o n _ => n) (((stA.trans st6).reps r2).append rq)
                · exact f2
              · rw [if_neg hz] at f2
                exact f2.elim
    · have ei : i = xs.length := by omega
      refine .inl ⟨i2 (by omega), ?_⟩
      rw [ei, List.drop_length] at f2
      unfold compL at f2
      exact f2 l2 us st2 ok2 r2 hD2
theorem PG.ex {t : (Addr → Prop) → TG} (h : ∀ N, PG X e (t N)) : PG X e (fun v σ H Q => ∃ N, t N v σ H Q) := ⟨fun pins s σ H v u Q I r ⟨N, q⟩ => (h N).run pins s σ H v u Q I r q⟩
theorem PE.ex {t : (Addr → Prop) → TE} (h : ∀ N, PE X e (t N)) : PE X e (fun σ H Q => ∃ N, t N σ H Q) := ⟨fun pins s σ H Q I ⟨N, q⟩ => (h N).run pins s σ H Q I q⟩
theorem PTs.ex {t : (Addr → Prop) → TT} (h : ∀ N, PTs X ifs (t N)) : PTs X ifs (fun σ H Q => ∃ N, t N σ H Q) := ⟨fun pins s σ H Q I ⟨N, q⟩ => (h N).run pins s σ H Q I q⟩
abbrev JTs (X : Cx) (g : Gx) (es : List Expr) (d : DT) : Prop := PTs X es (LT X.K g d)
theorem jts_nil : JTs X g [] dYes := ⟨fun pins s σ H Q I q => by
  obtain ⟨l, st, rfl, ok, q⟩ := q
  exact pts_nil.run pins s σ l.H Q I (q l (Step.refl l) ok)⟩
theorem jf_comp {scope : Scope} {own : List (Str × Nat)} {di : DI} {t : DG} {tt : DT} {te : DE} {js : List Nat} (hc : X.calm = true) (hN : X.N.Nodup) (hi : JI X g tg iter di) (ok : BlkOk X.N X.env.scope scope own)
    (hg : ∀ (s : Shared) (H : Hp) (C : Addr) (cl : List (Str × Addr)) (fp : List Addr) (N : Addr → Prop), JG (X.blk s H scope (compEnvC scope cl C X.env) fp) (g.at N) js tg t)
    (ht : ∀ (s : Shared) (H : Hp) (C : Addr) (cl : List (Str × Addr)) (fp : List Addr) (N : Addr → Prop), JTs (X.blk s H scope (compEnvC scope cl C X.env) fp) (g.at N) ifs tt)
    (he : ∀ (s : Shared) (H : Hp) (C : Addr) (cl : List (Str × Addr)) (fp : List Addr) (N : Addr → Prop), JE (X.blk s H scope (compEnvC scope cl C X.env) fp) (g.at N) elt te)
    (hjs : ∀ i ∈ js, i ∈ own.map (·.2) := by decide) (hs : ∀ x, foldedSetIterable iter X.env x = pure x := by intro _; rfl) : JF X g (.ListComp elt [⟨tg, iter, ifs, 0⟩] scope pos) (dComp di t tt te (own.map (·.2))) :=
  PE.cq (pe_lc hc hN hi ok (fun s H C cl fp => PG.ex (hg s H C cl fp)) (fun s H C cl fp => PTs.ex (ht s H C cl fp)) (fun s H C cl fp => PE.ex (he s H C cl fp)) hs) fun pins s σ H Q I q => comp_reads hjs q
end
end L3
namespace L3
open PySem PySem.Spec PyProof.Rows L2
@[simp] def setO (i : Nat) (xs : List PV) (s : S) : S := ⟨s.env.set i (some (.own xs)), s.mu⟩
@[simp] def setM (n : Nat) (xs : List PV) (s : S) : S := ⟨s.env, s.mu.set n (.lst xs)⟩
@[simp] def dOwn (i : Nat) (d : DL) : DS := fun s => (d s).bind fun xs s1 => .ok .nx (setO i xs s1)
@[simp] def dNewF (d : DL) : DE := fun s => (d s).bind fun xs s1 => .ok (.ptr s1.mu.length) ⟨s1.env, s1.mu ++ [.lst xs]⟩
/-- the list that slot i holds, to be changed: its items, and how it is written -/
@[simp] def lstAt (i : Nat) (s : S) : Option (List PV × (List PV → S)) := match s.env[i]? with
  | some (some (.own xs)) => some (xs, fun ys => setO i ys s)
  | some (some (.val (.ptr n))) => (match s.mu[n]? with
    | some (.lst xs) => some (xs, fun ys => setM n ys s)
    | _ => none)
  | _ => none
@[simp] def dApp (i : Nat) (d : DE) : DE := fun s => match lstAt i s with
  | some _ => (d s).bind fun v s1 => (match lstAt i s1 with
    | some (xs, k) => if xs.length < 16777216 then .ok .non (k (xs ++ [v])) else .bad
    | none => .bad)
  | none => .bad
@[simp] def dPopAt (i : Nat) (d : DE) : DE := fun s => match lstAt i s with
  | some _ => (d s).bind fun v s1 => (match v, lstAt i s1 with
    | .int j, some (xs, k) => (match ixN xs.length j with
      | some m => (match xs[m]? with
        | some y => if xs.length ≤ 16777216 then .ok y (k (xs.eraseIdx m)) else .bad
        | none => .bad)
      | none => .bad)
    | _, _ => .bad)
  | none => .bad
@[simp] def dPut (i : Nat) (d ix : DE) : DS := fun s => (d s).bind fun v s1 => match lstAt i s1 with
  | some _ => (ix s1).bind fun j s2 => (match j, lstAt i s2 with
    | .int j, some (xs, k) => (match ixN xs.length j with
      | some m => .ok .nx (k (xs.set m v))
      | none => .bad)
    | _, _ => .bad)
  | none => .bad
section
variable {K : PySem.W.Frag} {g : Gx} {l : Lc} {s : S} {σ : St} {xs ys : List PV} {vs ws : List V} {i n : Nat} {a : Addr}
theorem Step.at_ (h : l.M a) (o : HO) : Step l ⟨l.al, l.M, upd l.H a o⟩ where
  pre := ⟨[], by simp⟩
  new := fun _ h => .inl h
  keep := fun b u n e => by show upd l.H a o b = some u; rw [upd_ne (fun z => n (by rw [z]; exact h))]; exact e
  dom := fun b h => by
    show upd l.H a o b ≠ none
    by_cases e : b = a
    · rw [e, upd_same]; simp
    · rw [upd_ne e]; exact h
theorem upd_there {H : Hp} {a b : Addr} {o : HO} (h : H b ≠ none) : upd H a o b ≠ none := by
  by_cases e : b = a
  · rw [e, upd_same]; simp
  · rw [upd_ne e]; exact h
theorem Sok.ownSet (ok : Sok K g l s σ) (he : s.env[i]? = some (some (.own xs))) (hs : σ[i]? = some (some (.ref a))) (hM : l.M a) (hal : a ∉ l.al) (r : RepGL K g l ys ws) :
    Sok K g ⟨l.al, l.M, upd l.H a (.lst ws)⟩ (setO i ys s) σ := by
  have st : Step l ⟨l.al, l.M, upd l.H a (.lst ws)⟩ := Step.at_ hM _
  have hi : i < s.env.length := (List.getElem?_eq_some_iff.mp he).1
  have oth : ∀ (j : Nat) zs, j ≠ i → (s.env.set i (some (.own ys)))[j]? = some (some (.own zs)) → s.env[j]? = some (some (.own zs)) := fun j zs e h => by rw [List.getElem?_set_ne (Ne.symm e)] at h; exact h
  refine ⟨by show (s.env.set i _).length = _; rw [List.length_set]; exact ok.len, fun j v h => ?_, fun j zs h => ?_, fun j k zs us b hn h1 h2 h3 h4 => ?_, ok.mlen, fun m b o h1 h2 => ?_, ok.nd, ok.alM, fun b h => upd_there (ok.there b h), ok.mn, fun x hx => ?_⟩
  rotate_right
  · obtain ⟨a', vs', e1, _, _, e4, _⟩ := ok.own i xs he
    rw [hs] at e1
    cases e1
    have ne := (ok.tabs x hx).ne e4 fun ps z => by cases z
    exact (ok.tabs x hx).to (ok.tabs x hx).M (ok.tabs x hx).al (fun ps q => by show upd l.H a _ _ = _; rw [upd_ne ne]; exact q) fun c q n e => st.repL' c _ n e
  · rcases get_set h with ⟨_, e, _⟩ | ⟨e, h⟩
    · cases e
    · obtain ⟨u, h1, h2⟩ := ok.env j v h
      exact ⟨u, h1, st.rep h2⟩
  · by_cases e : j = i
    · subst e
      have h' : (s.env.set j (some (.own ys)))[j]? = some (some (.own zs)) := h
      rw [List.getElem?_set_self hi] at h'
      cases h'
      exact ⟨a, ws, hs, hM, hal, upd_same, st.reps r⟩
    · have h' := oth j zs e h
      obtain ⟨b, us, h1, h2, h3, h4, h5⟩ := ok.own j zs h'
      have ne : b ≠ a := fun z => by rw [z] at h1; exact ok.dis j i zs xs a e h' he h1 hs
      exact ⟨b, us, h1, h2, h3, by show upd l.H a _ b = _; rw [upd_ne ne]; exact h4, st.reps h5⟩
  · have g1 : ∃ zs', s.env[j]? = some (some (.own zs')) := by
      by_cases e : j = i
      · rw [e]; exact ⟨xs, he⟩
      · exact ⟨zs, oth j zs e h1⟩
    have g2 : ∃ zs', s.env[k]? = some (some (.own zs')) := by
      by_cases e : k = i
      · rw [e]; exact ⟨xs, he⟩
      · exact ⟨us, oth k us e h2⟩
    obtain ⟨z1, q1⟩ := g1
    obtain ⟨z2, q2⟩ := g2
    exact ok.dis j k z1 z2 b hn q1 q2 h3 h4
  · have ne : b ≠ a := fun z => hal (by rw [← z]; exact List.mem_of_getElem? h1)
    have q := ok.mu m b o h1 h2
    cases o with
    | lst zs =>
      obtain ⟨us, q1, q2⟩ := q
      exact ⟨us, by show upd l.H a _ b = _; rw [upd_ne ne]; exact q1, st.reps q2⟩
    | ins C ns zs =>
      obtain ⟨dx, us, q1, q2, q3⟩ := q
      exact ⟨dx, us, by show upd l.H a _ b = _; rw [upd_ne ne]; exact q1, q2, st.reps q3⟩
    | nst C ns zs =>
      obtain ⟨dx, us, q1, q2, q3⟩ := q
      exact ⟨dx, us, by show upd l.H a _ b = _; rw [upd_ne ne]; exact q1, q2, st.reps q3⟩
    | dic ns zs =>
      obtain ⟨us, q1, q2, q9, q3⟩ := q
      exact ⟨us, by show upd l.H a _ b = _; rw [upd_ne ne]; exact q1, q2, q9, st.reps q3⟩
theorem Sok.muSet {o' : HO} {m' : MO} (ok : Sok K g l s σ) (ha : l.al[n]? = some a) (r : ∀ l', l'.al = l.al → l'.M = l.M → l'.H = upd l.H a o' → MoRep K g l' a m') :
    Sok K g ⟨l.al, l.M, upd l.H a o'⟩ ⟨s.env, s.mu.set n m'⟩ σ := by
  have hM : l.M a := ok.alM a (List.mem_of_getElem? ha)
  have st : Step l ⟨l.al, l.M, upd l.H a o'⟩ := Step.at_ hM _
  refine ⟨ok.len, fun j v h => ?_, fun j zs h => ?_, ok.dis, by show l.al.length = (s.mu.set n m').length; rw [List.length_set]; exact ok.mlen, fun m b o h1 h2 => ?_, ok.nd, ok.alM, fun b h => upd_there (ok.there b h), ok.mn, fun x hx => ?_⟩
  rotate_right
  · have ne : tA K x ≠ a := fun z => (ok.tabs x hx).al (by rw [z]; exact List.mem_of_getElem? ha)
    exact (ok.tabs x hx).to (ok.tabs x hx).M (ok.tabs x hx).al (fun ps q => by show upd l.H a _ _ = _; rw [upd_ne ne]; exact q) fun c q n e => st.repL' c _ n e
  · obtain ⟨u, h1, h2⟩ := ok.env j v h
    exact ⟨u, h1, st.rep h2⟩
  · obtain ⟨b, us, h1, h2, h3, h4, h5⟩ := ok.own j zs h
    have ne : b ≠ a := fun z => h3 (by rw [z]; exact List.mem_of_getElem? ha)
    exact ⟨b, us, h1, h2, h3, by show upd l.H a _ b = _; rw [upd_ne ne]; exact h4, st.reps h5⟩
  · have h1' : l.al[m]? = some b := h1
    have h2' : (s.mu.set n m')[m]? = some o := h2
    by_cases e : m = n
    · subst e
      rw [h1'] at ha
      cases ha
      by_cases hl : m < s.mu.length
      · rw [List.getElem?_set_self hl] at h2'
        cases h2'
        exact r _ rfl rfl rfl
      · rw [List.getElem?_eq_none (by rw [List.length_set]; omega)] at h2'
        cases h2'
    · rw [List.getElem?_set_ne (Ne.symm e)] at h2'
      have ne : b ≠ a := fun z => by
        rw [z] at h1'
        have hm : m < l.al.length := (List.getElem?_eq_some_iff.mp h1').1
        have hn' : n < l.al.length := (List.getElem?_eq_some_iff.mp ha).1
        exact e ((List.getElem_inj ok.nd).mp ((List.getElem?_eq_some_iff.mp h1').2.trans (List.getElem?_eq_some_iff.mp ha).2.symm))
      have q := ok.mu m b o h1' h2'
      cases o with
      | lst zs =>
        obtain ⟨us, q1, q2⟩ := q
        exact ⟨us, by show upd l.H a _ b = _; rw [upd_ne ne]; exact q1, st.reps q2⟩
      | ins C ns zs =>
        obtain ⟨dx, us, q1, q2, q3⟩ := q
        exact ⟨dx, us, by show upd l.H a _ b = _; rw [upd_ne ne]; exact q1, q2, st.reps q3⟩
      | nst C ns zs =>
        obtain ⟨dx, us, q1, q2, q3⟩ := q
        exact ⟨dx, us, by show upd l.H a _ b = _; rw [upd_ne ne]; exact q1, q2, st.reps q3⟩
      | dic ns zs =>
        obtain ⟨us, q1, q2, q9, q3⟩ := q
        exact ⟨us, by show upd l.H a _ b = _; rw [upd_ne ne]; exact q1, q2, q9, st.reps q3⟩
/-- a slot's list: where it lies, and how it is written -/
theorem Sok.lst {k : List PV → S} (ok : Sok K g l s σ) (h : lstAt i s = some (xs, k)) : ∃ a vs, σ[i]? = some (some (.ref a)) ∧ l.M a ∧ l.H a = some (.lst vs) ∧ RepGL K g l xs vs ∧
    ∀ ys ws, RepGL K g l ys ws → Sok K g ⟨l.al, l.M, upd l.H a (.lst ws)⟩ (k ys) σ := by
  unfold lstAt at h
  split at h
  · rename_i zs e
    cases h
    obtain ⟨a, vs, h1, h2, h3, h4, h5⟩ := ok.own i _ e
    exact ⟨a, vs, h1, h2, h4, h5, fun ys ws r => ok.ownSet e h1 h2 h3 r⟩
  · rename_i n e
    split at h
    · rename_i zs e2
      cases h
      obtain ⟨u, h1, b, h2, h3⟩ := ok.env i _ e
      subst h3
      obtain ⟨vs, h4, h5⟩ := ok.mu n b _ h2 e2
      refine ⟨b, vs, h1, ok.alM b (List.mem_of_getElem? h2), h4, h5, fun ys ws r => ok.muSet h2 fun l' ea eM eH => ?_⟩
      refine ⟨ws, by rw [eH, upd_same], ?_⟩
      have st : Step l ⟨l.al, l.M, upd l.H b (.lst ws)⟩ := Step.at_ (ok.alM b (List.mem_of_getElem? h2)) _
      obtain ⟨al', M', H'⟩ := l'
      cases ea
      cases eM
      cases eH
      exact st.reps r
    · cases h
  · cases h
end
section
variable {K : PySem.W.Frag} {g : Gx} {l : Lc} {s : S} {σ : St} {xs ys : List PV} {us : List V} {i n : Nat} {p : Addr}
/-- a new shared list -/
theorem Sok.muNew (ok : Sok K g l s σ) (hp : l.H p = none) (r : RepGL K g l xs us) : Step l ⟨l.al ++ [p], fun a => l.M a ∨ a = p, upd l.H p (.lst us)⟩ ∧ Sok K g ⟨l.al ++ [p], fun a => l.M a ∨ a = p, upd l.H p (.lst us)⟩ ⟨s.env, s.mu ++ [.lst xs]⟩ σ := by
  have st : Step l ⟨l.al ++ [p], fun a => l.M a ∨ a = p, upd l.H p (.lst us)⟩ := ⟨⟨[p], rfl⟩, fun a h => by
      rcases h with h | h
      · exact .inl h
      · exact .inr (by rw [h]; exact hp), fun a o _ h => by show upd l.H p _ a = some o; rw [upd_ne (ne_of_none h hp)]; exact h, fun a h => upd_there h⟩
  have nal : p ∉ l.al := fun z => ok.there p (.inl (ok.alM p z)) hp
  refine ⟨st, ok.len, fun j v h => ?_, fun j zs h => ?_, ok.dis, by show (l.al ++ [p]).length = (s.mu ++ [_]).length; rw [List.length_append, List.length_append, ok.mlen]; rfl, fun m b o h1 h2 => ?_, ?_, fun a h => ?_, fun b h => ?_, fun b h => ?_, fun x hx => ?_⟩
  rotate_right
  · have ne : tA K x ≠ p := (ok.tabs x hx).ne0 hp
    exact (ok.tabs x hx).to (.inl (ok.tabs x hx).M) (fun z => by
      rcases List.mem_append.mp z with z | z
      · exact (ok.tabs x hx).al z
      · exact ne (List.mem_singleton.mp z)) (fun ps q => by show upd l.H p _ _ = _; rw [upd_ne ne]; exact q) fun c q n e => st.repL' c _ n e
  · obtain ⟨u, h1, h2⟩ := ok.env j v h
    exact ⟨u, h1, st.rep h2⟩
  · obtain ⟨b, ws, h1, h2, h3, h4, h5⟩ := ok.own j zs h
    have nb : b ≠ p := ne_of_none h4 hp
    exact ⟨b, ws, h1, .inl h2, fun z => by
      rcases List.mem_append.mp z with z | z
      · exact h3 z
      · exact nb (by simpa using z), by show upd l.H p _ b = _; rw [upd_ne nb]; exact h4, st.reps h5⟩
  · have h1' : (l.al ++ [p])[m]? = some b := h1
    have h2' : (s.mu ++ [MO.lst xs])[m]? = some o := h2
    by_cases e : m < l.al.length
    · rw [List.getElem?_append_left e] at h1'
      rw [List.getElem?_append_left (by rw [← ok.mlen]; exact e)] at h2'
      have nb : b ≠ p := fun z => nal (by rw [← z]; exact List.mem_of_getElem? h1')
      have q := ok.mu m b o h1' h2'
      cases o with
      | lst zs =>
        obtain ⟨ws, q1, q2⟩ := q
        exact ⟨ws, by show upd l.H p _ b = _; rw [upd_ne nb]; exact q1, st.reps q2⟩
      | ins C ns zs =>
        obtain ⟨dx, ws, q1, q2, q3⟩ := q
        exact ⟨dx, ws, by show upd l.H p _ b = _; rw [upd_ne nb]; exact q1, q2, st.reps q3⟩
      | nst C ns zs =>
        obtain ⟨dx, ws, q1, q2, q3⟩ := q
        exact ⟨dx, ws, by show upd l.H p _ b = _; rw [upd_ne nb]; exact q1, q2, st.reps q3⟩
      | dic ns zs =>
        obtain ⟨ws, q1, q2, q9, q3⟩ := q
        exact ⟨ws, by show upd l.H p _ b = _; rw [upd_ne nb]; exact q1, q2, q9, st.reps q3⟩
    · by_cases e2 : m = l.al.length
      · subst e2
        rw [List.getElem?_append_right (Nat.le_refl _), Nat.sub_self] at h1'
        rw [ok.mlen, List.getElem?_append_right (Nat.le_refl _), Nat.sub_self] at h2'
        cases h1'
        cases h2'
        exact ⟨us, upd_same, st.reps r⟩
      · rw [List.getElem?_eq_none (by rw [List.length_append]; show l.al.length + 1 ≤ m; omega)] at h1'
        cases h1'
  · refine List.nodup_append.mpr ⟨ok.nd, by simp, fun a ha b hb => ?_⟩
    rw [List.mem_singleton] at hb
    rw [hb]
    exact fun z => nal (by rw [← z]; exact ha)
  · rcases List.mem_append.mp h with h | h
    · exact .inl (ok.alM a h)
    · exact .inr (by simpa using h)
  · rcases h with (h | h) | h
    · exact upd_there (ok.there b (.inl h))
    · show upd l.H p _ b ≠ none
      rw [h, upd_same]; simp
    · exact upd_there (ok.there b (.inr h))
  · rcases h with h | h
    · exact ok.mn b h
    · rw [h]
      exact fun z => ok.there p (.inr z) hp
end
section
variable {X : Cx} {g : Gx} {a b c e tg iter elt : Expr} {es ifs : List Expr} {da db dc de : DE} {dr : DA} {dl : DL} {pos : Pos}
theorem j_new (h : JF X g e dl) : JE X g e (dNewF dl) := PE.cq h fun pins s σ H Q I q => by
  obtain ⟨l, s, rfl, ok, q⟩ := q
  refine ⟨l, s, rfl, ok, ?_⟩
  simp only [dNewF] at q
  cases e1 : dl s with
  | bad => rw [e1] at q; exact q
  | exn e t => rw [e1] at q; exact q
  | ok xs t =>
    rw [e1] at q
    intro l1 us p st1 ok1 r1 hp
    obtain ⟨st2, ok2⟩ := ok1.muNew hp r1
    exact q _ _ (st1.trans st2) ok2 ⟨p, by rw [← ok1.mlen]; simp, rfl⟩
/-- x.append(e) -/
theorem j_app {i : Nat} {x : Str} {px apos : Pos} (he : JE X g e de) (hN : X.N[i]? = some x := by rfl) (hv : Vis X.env.scope x := by first | exact Or.inl rfl | exact Or.inr (Or.inl rfl) | exact Or.inr (Or.inr rfl))
    (hbase : attributeBase (.Name x px) "append" X.env (eval (.Name x px) X.env) = eval (.Name x px) X.env := by rfl)
    (hfew : ((backTo pos (starEach (e :: []) X.env)).all (fun x => !x.1) && (backToKw pos (keywordEach [] X.env)).all (fun x => x.1.isSome)
      && decide ((e :: []).length + ([] : List Keyword).length + (if ([] : List Keyword).isEmpty then 0 else 1) < 30)) = true := by rfl)
    (hline : (apos.endLine == pos.line) = true := by rfl) (hs : starEach (e :: []) X.env = (false, eval e X.env) :: starEach [] X.env := by rfl) (hplain : (backTo pos (starEach [] X.env)).any (·.1) = false := by rfl)
    (hd : (x == ("__debug__" : Str)) = false := by decide) (hcd : (x == ("__classdict__" : Str)) = false := by decide) : JE X g (.Call (.Attribute (.Name x px) "append" apos) [e] [] pos) (dApp i de) :=
  PE.cq (pe_bm PySem.F.plainAttrs_list PySem.F.slot_list_append PySem.F.type_list_append mt_append (pe_var (i := i) hN hv hd hcd) (pa_cons he pa_nil hs) hbase hfew hline hs hplain) fun pins s σ H Q I q => by
    obtain ⟨l, s, rfl, ok, q⟩ := q
    simp only [dApp] at q
    cases e0 : lstAt i s with
    | none => rw [e0] at q; exact q.elim
    | some z =>
      rw [e0] at q
      obtain ⟨xs0, k0⟩ := z
      obtain ⟨a0, vs0, h1, h2, h3, h4, _⟩ := ok.lst e0
      refine ⟨.ref a0, h1, .inl ⟨rfl, vs0, SqL.of h3⟩, l, s, rfl, ok, Run.mono (Run.bind q) fun u H1 ⟨l1, s1, v, e1, ok1, r1, st1, h5⟩ => ?_⟩
      subst e1
      cases e6 : lstAt i s1 with
      | none => rw [e6] at h5; exact h5.elim
      | some z =>
        obtain ⟨xs, k⟩ := z
        rw [e6] at h5
        simp only at h5
        obtain ⟨a1, vs, g1, g2, g3, g4, g5⟩ := ok1.lst e6
        rw [h1] at g1
        cases g1
        by_cases hz : xs.length < 16777216
        · rw [if_pos hz] at h5
          have r : RepGL X.K g l1 [v] [u] := ⟨u, [], rfl, r1, rfl⟩
          exact ⟨a0, vs, u, rfl, rfl, g3, by rw [line_eq, ← g4.length]; exact hz, h5 ⟨l1.al, l1.M, upd l1.H a0 (.lst (vs ++ [u]))⟩ _ (Step.at_ g2 _) (g5 _ _ (g4.append r)) rfl⟩
        · rw [if_neg hz] at h5
          exact h5.elim
/-- x[j] = e -/
theorem js_put {i : Nat} {x : Str} {px tpos : Pos} {di : DE} (he : JE X g e de) (hi : JE X g a di) (hN : X.N[i]? = some x := by rfl) (hv : Vis X.env.scope x := by first | exact Or.inl rfl | exact Or.inr (Or.inl rfl) | exact Or.inr (Or.inr rfl))
    (ha : ∀ v, assign (.Subscript (.Name x px) a tpos) X.env v = (do
      let ov ← holding [v] (eval (.Name x px) X.env)
      let iv ← holding [v, ov] (eval a X.env)
      standAt tpos
      holding [v, ov, iv] (setItem ov iv v)
      release [v, ov, iv] []) := by intro _; rfl)
    (hs : swapsWithSole [.Subscript (.Name x px) a tpos] e pos.line X.env = pure false := by rfl) (hw : swappedStores [.Subscript (.Name x px) a tpos] e X.env = pure none := by rfl)
    (h1 : (assignEach [.Subscript (.Name x px) a tpos] X.env).map (·.2) = [assign (.Subscript (.Name x px) a tpos) X.env] := by rfl)
    (hd : (x == ("__debug__" : Str)) = false := by decide) (hcd : (x == ("__classdict__" : Str)) = false := by decide) : JS X g (.Assign [.Subscript (.Name x px) a tpos] e pos) (dPut i de di) :=
  PS.cq (ps_asg he (pg_sub (pe_var (i := i) hN hv hd hcd) hi set_list ha) hs hw h1) fun pins s D σ H I q => by
    obtain ⟨l, s, rfl, ok, q⟩ := q
    simp only [dPut] at q
    refine ⟨l, s, rfl, ok, Run.mono (Run.bindS q) fun u H1 ⟨l1, s1, v, e1, ok1, r1, st1, h5⟩ => ?_⟩
    subst e1
    cases e0 : lstAt i s1 with
    | none => rw [e0] at h5; exact h5.elim
    | some z =>
      rw [e0] at h5
      obtain ⟨xs0, k0⟩ := z
      obtain ⟨a0, vs0, h1, h2, h3, h4, _⟩ := ok1.lst e0
      refine ⟨.ref a0, h1, l1, s1, rfl, ok1, Run.mono (Run.bindS h5) fun w H2 ⟨l2, s2, j, e2, ok2, r2, st2, h6⟩ => ?_⟩
      subst e2
      cases j with
      | int j =>
        cases (show w = .int j from r2)
        cases e6 : lstAt i s2 with
        | none => rw [e6] at h6; exact h6.elim
        | some z =>
          obtain ⟨xs, k⟩ := z
          rw [e6] at h6
          simp only at h6
          obtain ⟨a1, vs, g1, g2, g3, g4, g5⟩ := ok2.lst e6
          rw [h1] at g1
          cases g1
          cases e7 : ixN xs.length j with
          | none => rw [e7] at h6; exact h6.elim
          | some m =>
            rw [e7] at h6
            rw [g4.length] at e7
            exact ⟨a0, vs, j, m, rfl, rfl, g3, e7, h6 ⟨l2.al, l2.M, upd l2.H a0 (.lst (vs.set m u))⟩ _ (Step.at_ g2 _) (g5 _ _ (RepL.set (st2.rep r1) m g4))⟩
      | _ => exact h6.elim
end
end L3
namespace L3
open PySem PySem.Spec PyProof.Rows L2
/-- room, and no guard on the stack -/
structure Room (k : Nat) (A : Around) : Prop where
  rm : L2.Room k A
  gd : A.guards = some []
theorem Room.un {k : Nat} {A : Around} (r : Room k A) : A.units + 16 * k + 200 < cLine := r.rm.un
theorem Room.hd {k : Nat} {A : Around} (r : Room k A) : A.handled = none := r.rm.hd
theorem Room.mono {j k : Nat} {A : Around} (r : Room k A) (h : j ≤ k) : Room j A := ⟨r.rm.mono h, r.gd⟩
theorem Room.deeper {k : Nat} {A : Around} (r : Room (k + 1) A) (env : Env) : Room k (A.deeper env) := ⟨r.rm.deeper env, r.gd⟩
theorem Room.in1 {k : Nat} {A : Around} (r : Room (k + 1) A) : Room k A.in1 := ⟨r.rm.in1, r.gd⟩
theorem guards_make {A : Around} {C : Addr} {us : List Value} {kw : List (Str × Value)} (h : A.guards = some []) : (A.under (.builtin "type.__call__" ⟨.ref C :: us, kw⟩)).guards = some [] := by
  have e : (A.under (.builtin "type.__call__" ⟨.ref C :: us, kw⟩)).guards = pushGuards (Code.builtin "type.__call__" ⟨.ref C :: us, kw⟩).guards A.guards := rfl
  rw [e, h]
  have g : (Code.builtin "type.__call__" ⟨.ref C :: us, kw⟩).isGuard = false := by simp [Code.isGuard, guardIds]
  simp [Code.guards, g, pushGuards]
theorem Room.make {k : Nat} {A : Around} (r : Room (k + 1) A) (C : Addr) (us : List Value) (kw : List (Str × Value)) : Room k (A.under (.builtin "type.__call__" ⟨.ref C :: us, kw⟩)) := ⟨r.rm.make C us kw, guards_make r.gd⟩
theorem Room.units {k : Nat} {A : Around} (r : Room k A) : A.units + 64 < cLine := r.rm.units
structure Sub (X : Cx) (n : Nat) (A : Around) : Prop where
  room : Room n A
  fr : A.frames = X.A.frames
theorem Sub.in1 {X : Cx} {n : Nat} {A : Around} (s : Sub X (n + 1) A) : Sub X n A.in1 := ⟨s.room.in1, s.fr⟩
theorem Sub.mono {X : Cx} {n m : Nat} {A : Around} (s : Sub X n A) (h : m ≤ n) : Sub X m A := ⟨s.room.mono h, s.fr⟩
/-- a def's promise, called where nothing guards -/
structure FnG (P : Program) (w : World) (K : PySem.W.Frag) (mg : Str → Option Value) (base : Heap) (CX : CXT) (k : Nat) (f : Addr) (fd : FuncData) (ps : List Str) (sp : Sp) : Prop where
  len : ∀ vs H Q E, sp vs H Q E → vs.length = ps.length
  run : ∀ (A : Around) (outer : List Env) (s : Shared) (H : Hp) (args : Args) (us : List Value) (vs : List V) (Q : VK) (E : XK), Room k A → Env0 P w K mg base A outer s H → BindsTo s fd args (ps.zip us) → Vals vs us →
    sp vs H Q E → codeAny (model P w) A (.call (.ref f) args) (CR CX outer P w H s Q E) s
theorem FnG.mono {P : Program} {w : World} {K : PySem.W.Frag} {mg : Str → Option Value} {base : Heap} {CX : CXT} {j k : Nat} {f : Addr} {fd : FuncData} {ps : List Str} {sp : Sp} (F : FnG P w K mg base CX j f fd ps sp) (h : j ≤ k) :
    FnG P w K mg base CX k f fd ps sp where
  len := F.len
  run := fun A outer s H args us vs Q E hr => F.run A outer s H args us vs Q E (hr.mono h)
theorem FnG.imp {P : Program} {w : World} {K : PySem.W.Frag} {mg : Str → Option Value} {base : Heap} {CX : CXT} {k : Nat} {f : Addr} {fd : FuncData} {ps : List Str} {sp sp' : Sp} (F : FnG P w K mg base CX k f fd ps sp)
    (h : ∀ vs H Q E, sp' vs H Q E → sp vs H Q E) : FnG P w K mg base CX k f fd ps sp' where
  len := fun vs H Q E q => F.len vs H Q E (h _ _ _ _ q)
  run := fun A outer s H args us vs Q E hr he hb hv hs => F.run A outer s H args us vs Q E hr he hb hv (h _ _ _ _ hs)
/-- where the def's code object stands -/
def CodeAt (K : PySem.W.Frag) (f : Addr) (cdv : Value) (q : Str) : Prop := (∃ (oc : Value) (od : Option Addr) (fd : FuncData) (osl : Array (Option Value)), K.lookup f = some ⟨oc, od, .func fd, osl⟩ ∧ fd.code = cdv) ∧ PySem.W.codeIn K cdv q = true
/-- a def called at one place -/
theorem fn_run {P : Program} {w : World} {K : PySem.W.Frag} {mg : Str → Option Value} {base : Heap} {CX : CXT} {x qual : Str} {params : Arguments} {body : List Stmt} {scope : Scope} {dvs : List V} {kws : List (Str × V)} {f : Addr} {fd : FuncData} {N ps : List Str} {k : Nat}
    {A : Around} {outer : List Env} {s : Shared} {H : Hp} {args : Args} {us : List Value} {vs : List V} {Q : VK} {E : XK} (F : FunD K x qual params body scope dvs kws f fd) (S : FnScope N ps scope) (hr : Room (k + 1) A) (e0 : Env0 P w K mg base A outer s H) (hb : BindsTo s fd args (ps.zip us)) (r : Vals vs us) (hl : vs.length = ps.length)
    (hbody : ∀ (cdv : Value), CodeAt K f cdv qual → Room k (A.deeper (envOfC qual scope s.heap.objs.size f cdv)) → ∃ t, PSs (cxOf CX P w K mg base N qual scope f cdv A outer s H E) body t ∧ t { nx := fun _ H' => Q .non H', rt := Q } (start N vs) H) :
    codeAny (model P w) A (.call (.ref f) args) (CR CX outer P w H s Q E) s := by
  obtain ⟨oc, od, dV, kV, doc, pm, an, cdv, ct, osl, rfl, lk, hcd, _, _⟩ := F.ex
  have KX : K.In s.heap := e0.mod.kin.keeps fun b o e => (e0.bs b o e).1
  refine codeAny_call_function hr.rm.depth (KX _ _ lk) rfl S.co S.gen rfl (PySem.W.codeRec_of KX hcd) (hb _ _ _ _ ?_)
  have hk : ∀ y ∈ ps.zip us, scope.names.lookup y.1 = some .local ∨ (scope.names.lookup y.1 = some .cell ∧ ((cellsFrom (s.heap.objs.size + 1) scope.names []).lookup y.1).isSome = true) := by
    rintro ⟨n, v⟩ hy
    exact (S.par n (List.of_mem_zip hy).1).imp id fun q => ⟨q, PySem.W.cellsFrom_some _ _ _ (.inl q)⟩
  refine wpAny_newFunctionEnv_cells S.kind hk fun env he s1 x => ?_
  cases he
  refine ⟨(e0.mod.nolimit.keeps fun b o e => (e0.bs b o e).1).keeps x.toInCall.keep, codeAny_func ?_⟩
  obtain ⟨t, ht, hq⟩ := hbody cdv ⟨⟨oc, od, _, osl, lk, rfl⟩, hcd⟩ (hr.deeper _)
  have I := inv_start (CX := CX) (E := E) S hr.hd e0 hl r x
  refine wpAny_mono (ht.run [] s1 (start N vs) H _ I hq) (fun fl s' hs => ?_) fun _ _ z => z
  match fl, hs with
  | .ret u, ⟨v, σ', H', J, rv, q⟩ => exact ⟨v, H', J.os, J.bare, J.base, J.hok, rv, q⟩
  | .next, ⟨σ', H', J, q⟩ => exact ⟨.non, H', J.os, J.bare, J.base, J.hok, rfl, q⟩
  | .brk, ⟨_, _, _, q⟩ => exact q.elim
  | .cont, ⟨_, _, _, q⟩ => exact q.elim
/-- from a promise that asks for room alone, at one place -/
theorem fnG_ofC {P : Program} {w : World} {K : PySem.W.Frag} {mg : Str → Option Value} {base : Heap} {CX : CXT} {x qual : Str} {params : Arguments} {body : List Stmt} {scope : Scope} {dvs : List V} {kws : List (Str × V)} {f : Addr} {fd : FuncData} {N ps : List Str} {k : Nat} {sp : Sp}
    (F : FunD K x qual params body scope dvs kws f fd) (S : FnScope N ps scope) (len : ∀ vs H Q E, sp vs H Q E → vs.length = ps.length)
    (hbody : ∀ (cdv : Value) (_ : CodeAt K f cdv qual) (A : Around) (outer : List Env) (s : Shared) (H : Hp) (vs : List V) (Q : VK) (E : XK), Room k (A.deeper (envOfC qual scope s.heap.objs.size f cdv)) → sp vs H Q E →
      ∃ t, PSs (cxOf CX P w K mg base N qual scope f cdv A outer s H E) body t ∧ t { nx := fun _ H' => Q .non H', rt := Q } (start N vs) H) : FnG P w K mg base CX (k + 1) f fd ps sp where
  len := len
  run := fun A outer s H args us vs Q E hr e0 hb r hsp => fn_run F S hr e0 hb r (len _ _ _ _ hsp) fun cdv hc hr' => hbody cdv hc A outer s H vs Q E hr' hsp
theorem fnG_of {P : Program} {w : World} {K : PySem.W.Frag} {mg : Str → Option Value} {base : Heap} {CX : CXT} {x qual : Str} {params : Arguments} {body : List Stmt} {scope : Scope} {dvs : List V} {kws : List (Str × V)} {f : Addr} {fd : FuncData} {N ps : List Str} {k : Nat} {sp : Sp}
    (F : FunD K x qual params body scope dvs kws f fd) (S : FnScope N ps scope) (len : ∀ vs H Q E, sp vs H Q E → vs.length = ps.length)
    (hbody : ∀ (cdv : Value) (A : Around) (outer : List Env) (s : Shared) (H : Hp) (vs : List V) (Q : VK) (E : XK), Room k (A.deeper (envOfC qual scope s.heap.objs.size f cdv)) → sp vs H Q E →
      ∃ t, PSs (cxOf CX P w K mg base N qual scope f cdv A outer s H E) body t ∧ t { nx := fun _ H' => Q .non H', rt := Q } (start N vs) H) : FnG P w K mg base CX (k + 1) f fd ps sp := fnG_ofC F S len fun cdv _ => hbody cdv
/-- a table of code objects -/
def IsT (K : PySem.W.Frag) (a : Addr) : Prop := ∃ x ∈ TK K, a = tA K x
theorem Sok.inM {K : PySem.W.Frag} {g : Gx} {l : Lc} {s : S} {σ : St} (ok : Sok K g l s σ) {a : Addr} (h : a ∈ l.al ∨ IsT K a) : l.M a := h.elim (ok.alM a) fun ⟨x, hx, e⟩ => by rw [e]; exact (ok.tabs x hx).M
theorem Sok.noT {K : PySem.W.Frag} {g : Gx} {l : Lc} {s : S} {σ : St} (ok : Sok K g l s σ) {a : Addr} {o : HO} (e : l.H a = some o) (n : ∀ ps, o ≠ .tbl ps) : ¬ IsT K a := fun ⟨x, hx, z⟩ => (ok.tabs x hx).ne e n z.symm
/-- the state at a call -/
structure Fok (K : PySem.W.Frag) (CR : Addr) (N : Addr → Prop) (l : Lc) (mu : List MO) : Prop where
  iff : ∀ a, l.M a ↔ a ∈ l.al ∨ IsT K a
  ok : Sok K ⟨CR, N, W0⟩ l ⟨[], mu⟩ []
/-- a promise: what F says -/
def spJ (K : PySem.W.Frag) (CR : Addr) (n : Nat) (F : DF) : Sp := fun vs H Q E => ∃ (N : Addr → Prop) (l : Lc) (ps : List PV) (mu : List MO), l.H = H ∧ Fok K CR N l mu ∧ RepGL K ⟨CR, N, W0⟩ l ps vs ∧ ps.length = n ∧ match F ps mu with
  | .ok v mu' => ∀ l' u, Step l l' → Fok K CR N l' mu' → RepG K ⟨CR, N, W0⟩ l' v u → Q u l'.H
  | .exn e mu' => ∀ l' cls dd, Step l l' → Fok K CR N l' mu' → RepX K ⟨CR, N, W0⟩ l' e cls dd → E cls dd l'.H
  | .bad => False
abbrev FJ (P : Program) (w : World) (K : PySem.W.Frag) (mg : Str → Option Value) (base : Heap) (CR : Addr) (k : Nat) (f : Addr) (fd : FuncData) (ps : List Str) (F : DF) : Prop := FnG P w K mg base (L2.CX P w) k f fd ps (spJ K CR ps.length F)
/-- F' says no more than F -/
def Below (n : Nat) (F' F : DF) : Prop := ∀ ps mu, ps.length = n → F' ps mu = .bad ∨ F ps mu = F' ps mu
theorem FJ.imp {P : Program} {w : World} {K : PySem.W.Frag} {mg : Str → Option Value} {base : Heap} {CR : Addr} {k : Nat} {f : Addr} {fd : FuncData} {ps : List Str} {F F' : DF} (h : FJ P w K mg base CR k f fd ps F) (b : Below ps.length F' F) : FJ P w K mg base CR k f fd ps F' :=
  FnG.imp h fun vs H Q E q => by
    obtain ⟨N, l, qs, mu, e, ok, r, hl, q⟩ := q
    refine ⟨N, l, qs, mu, e, ok, r, hl, ?_⟩
    rcases b qs mu hl with z | z
    · rw [z] at q; exact q.elim
    · rw [z]; exact q
def runBody (n : Nat) (d : DS) : DF := fun ps mu => match d ⟨ps.map (fun p => some (.val p)) ++ List.replicate (n - ps.length) none, mu⟩ with
  | .ok (.rt v) s => .ok v s.mu
  | .ok .nx s => .ok .non s.mu
  | .ok _ _ => .bad
  | .exn e s => .exn e s.mu
  | .bad => .bad
/-- the shared objects alone -/
theorem Sok.toF {K : PySem.W.Frag} {g : Gx} {l : Lc} {s : S} {σ : St} {N' : Addr → Prop} (ok : Sok K g l s σ) (hN : ∀ a, N' a → l.M a ∨ g.N a) (hN2 : ∀ a, a ∈ l.al ∨ IsT K a → ¬ N' a) : Fok K g.CR N' ⟨l.al, fun a => a ∈ l.al ∨ IsT K a, l.H⟩ s.mu := by
  have hL : ∀ a, ¬ g.L l a → ¬ Gx.L ⟨g.CR, N', W0⟩ ⟨l.al, fun a => a ∈ l.al ∨ IsT K a, l.H⟩ a := fun a n z => by
    rcases z with z | z
    · exact n (.inl (ok.inM z))
    · exact n (hN a z)
  have rp : ∀ x v, RepGL K g l x v → RepGL K ⟨g.CR, N', W0⟩ ⟨l.al, fun a => a ∈ l.al ∨ IsT K a, l.H⟩ x v := fun x v h => RepL.mono (fun _ _ h => h) (fun a o n e => ⟨e, hL a n⟩) x v h
  refine ⟨fun a => Iff.rfl, rfl, fun i v e => by simp at e, fun i v e => by simp at e, fun i j xs ys a _ e => by simp at e, ok.mlen, fun n a m h1 h2 => ?_, ok.nd, fun a h => .inl h, fun a h => ?_, hN2, fun x hx => (ok.tabs x hx).to (.inr ⟨x, hx, rfl⟩) (ok.tabs x hx).al (fun _ q => q) fun c q n e => ⟨e, hL c n⟩⟩
  · have q := ok.mu n a m h1 h2
    cases m with
    | lst xs => obtain ⟨vs, q1, q2⟩ := q; exact ⟨vs, q1, rp _ _ q2⟩
    | ins C ns xs => obtain ⟨dx, vs, q1, q2, q3⟩ := q; exact ⟨dx, vs, q1, q2, rp _ _ q3⟩
    | nst C ns xs => obtain ⟨dx, vs, q1, q2, q3⟩ := q; exact ⟨dx, vs, q1, q2, rp _ _ q3⟩
    | dic ns xs => obtain ⟨vs, q1, q2, q9, q3⟩ := q; exact ⟨vs, q1, q2, q9, rp _ _ q3⟩
  · rcases h with h | h
    · exact ok.there a (.inl (ok.inM h))
    · exact ok.there a (hN a h)
theorem length_start {N : List Str} {vs : List V} (h : vs.length ≤ N.length) : (L2.start N vs).length = N.length := by
  unfold L2.start
  rw [List.length_append, List.length_map, List.length_replicate]
  omega
/-- a body, from what the promise says -/
theorem body_asks {P : Program} {w : World} {K : PySem.W.Frag} {mg : Str → Option Value} {base : Heap} {CR : Addr} {qual : Str} {body : List Stmt} {scope : Scope} {f : Addr} {N ps : List Str} {d : DS} {cdv : Value} {A : Around} {outer : List Env} {s : Shared} {H : Hp} {E : XK} {vs : List V} {Q : VK} (S : FnScope N ps scope)
    (hb : ∀ (Nn : Addr → Prop), JSs (cxOf (L2.CX P w) P w K mg base N qual scope f cdv A outer s H E) ⟨CR, Nn, fun c dd _ H => E c dd H⟩ body d) (h : spJ K CR ps.length (runBody N.length d) vs H Q E) :
    ∃ t, PSs (cxOf (L2.CX P w) P w K mg base N qual scope f cdv A outer s H E) body t ∧ t { nx := fun _ H' => Q .non H', rt := Q } (L2.start N vs) H := by
  have hps : ps.length ≤ N.length := by
    have := congrArg List.length S.pre
    rw [List.length_take] at this
    omega
  obtain ⟨Nn, l, qs, mu, rfl, ok, r, hl, q⟩ := h
  refine ⟨_, hb Nn, l, ⟨qs.map (fun p => some (.val p)) ++ List.replicate (N.length - qs.length) none, mu⟩, rfl, ?_, ?_⟩
  · have hv : vs.length = ps.length := by rw [← r.length]; exact hl
    have e1 : ∀ (i : Nat) sv, (qs.map (fun p => some (SV.val p)) ++ List.replicate (N.length - qs.length) none)[i]? = some (some sv) → ∃ p, qs[i]? = some p ∧ sv = .val p := by
      intro i sv e
      by_cases h : i < qs.length
      · rw [List.getElem?_append_left (by rw [List.length_map]; exact h), List.getElem?_map] at e
        cases e2 : qs[i]? with
        | none => rw [e2] at e; cases e
        | some p => rw [e2] at e; cases e; exact ⟨p, rfl, rfl⟩
      · rw [List.getElem?_append_right (by rw [List.length_map]; omega), List.getElem?_replicate] at e
        split at e <;> cases e
    refine ⟨?_, fun i v e => ?_, fun i v e => ?_, fun i j xs ys a _ e => ?_, ok.ok.mlen, fun n a m h1 h2 => ?_, ok.ok.nd, ok.ok.alM, ok.ok.there, ok.ok.mn, fun x hx => (ok.ok.tabs x hx).same rfl⟩
    · rw [length_start (by omega)]
      show (qs.map (fun p => some (SV.val p)) ++ List.replicate (N.length - qs.length) none).length = _
      rw [List.length_append, List.length_map, List.length_replicate]
      omega
    · obtain ⟨p, h1, h2⟩ := e1 i _ e
      cases h2
      obtain ⟨u, h3, h4⟩ := r.get h1
      refine ⟨u, ?_, h4⟩
      unfold L2.start
      rw [List.getElem?_append_left (by rw [List.length_map]; exact (List.getElem?_eq_some_iff.mp h3).1), List.getElem?_map, h3] <;> rfl
    · obtain ⟨p, h1, h2⟩ := e1 i _ e
      cases h2
    · obtain ⟨p, h1, h2⟩ := e1 i _ e
      cases h2
    · have q := ok.ok.mu n a m h1 h2
      cases m <;> exact q
  · -- the end
    have fin : ∀ {l' : Lc} {s' : L3.S} {σ' : St} {v : PV} {u : V}, Step l l' → Sok K ⟨CR, Nn, fun c dd _ H => E c dd H⟩ l' s' σ' → RepG K ⟨CR, Nn, W0⟩ l' v u →
        Step l ⟨l'.al, fun a => a ∈ l'.al ∨ IsT K a, l'.H⟩ ∧ Fok K CR Nn ⟨l'.al, fun a => a ∈ l'.al ∨ IsT K a, l'.H⟩ s'.mu ∧ RepG K ⟨CR, Nn, W0⟩ ⟨l'.al, fun a => a ∈ l'.al ∨ IsT K a, l'.H⟩ v u := by
      intro l' s' σ' v u st ok' rv
      refine ⟨⟨st.pre, fun a h => st.new a (ok'.inM h), st.keep, st.dom⟩, Sok.toF ok' (fun a h => .inr h) (fun a h => ok'.mn a (ok'.inM h)), Rep.mono (fun _ _ h => h) (fun a o n e => ⟨e, fun z => by
        rcases z with z | z
        · exact n (.inl (ok'.inM z))
        · exact n (.inr z)⟩) v u rv⟩
    unfold runBody at q
    cases e : d ⟨qs.map (fun p => some (.val p)) ++ List.replicate (N.length - qs.length) none, mu⟩ with
    | bad => rw [e] at q; exact q
    | exn ex t =>
      rw [e] at q
      intro l' σ' cls dd st ok' rx
      obtain ⟨f1, f2, _⟩ := fin (v := .non) (u := .non) st ok' rfl
      refine q ⟨l'.al, fun a => a ∈ l'.al ∨ IsT K a, l'.H⟩ cls dd f1 f2 ?_
      obtain ⟨C, ns, xs, us, h1, h2, h3, h4, h5⟩ := rx
      refine ⟨C, ns, xs, us, h1, h2, h3, RepL.mono (fun _ _ h => h) (fun a o n e => ⟨e, fun z => by
        rcases z with z | z
        · exact n (.inl (ok'.inM z))
        · exact n (.inr z)⟩) _ _ h4, ?_⟩
      rcases h5 with h5 | ⟨d', h5, h6, h7⟩
      · exact .inl h5
      · exact .inr ⟨d', h5, fun z => h6 (by
          rcases z with z | z
          · exact .inl (ok'.inM z)
          · exact .inr z), h7⟩
    | ok fl t =>
      rw [e] at q
      cases fl with
      | nx =>
        intro l' σ' st ok'
        obtain ⟨f1, f2, f3⟩ := fin (v := .non) (u := .non) st ok' rfl
        exact q ⟨l'.al, fun a => a ∈ l'.al ∨ IsT K a, l'.H⟩ .non f1 f2 f3
      | rt v =>
        intro l' σ' u st ok' rv
        obtain ⟨f1, f2, f3⟩ := fin st ok' rv
        exact q ⟨l'.al, fun a => a ∈ l'.al ∨ IsT K a, l'.H⟩ u f1 f2 f3
      | bk => exact (show False from q).elim
      | ct => exact (show False from q).elim
/-- THE RULE for a def: what its body computes -/
theorem jf_fnC {P : Program} {w : World} {K : PySem.W.Frag} {mg : Str → Option Value} {base : Heap} {CR : Addr} {x qual : Str} {params : Arguments} {body : List Stmt} {scope : Scope} {dvs : List V} {kws : List (Str × V)} {f : Addr} {fd : FuncData} {N ps : List Str} {k : Nat} {d : DS}
    (F : FunD K x qual params body scope dvs kws f fd) (S : FnScope N ps scope) (hb : ∀ (cdv : Value) (_ : CodeAt K f cdv qual) (A : Around) (outer : List Env) (s : Shared) (H : Hp) (E : XK) (Nn : Addr → Prop), Room k (A.deeper (envOfC qual scope s.heap.objs.size f cdv)) →
      JSs (cxOf (L2.CX P w) P w K mg base N qual scope f cdv A outer s H E) ⟨CR, Nn, fun c dd _ H => E c dd H⟩ body d) : FJ P w K mg base CR (k + 1) f fd ps (runBody N.length d) := by
  refine fnG_ofC F S (fun vs H Q E h => ?_) (fun cdv hcd A outer s H vs Q E hr h => body_asks S (fun Nn => hb cdv hcd A outer s H E Nn hr) h)
  obtain ⟨N, l, qs, mu, e, ok, r, hl, q⟩ := h
  rw [← r.length, hl]
theorem jf_fn {P : Program} {w : World} {K : PySem.W.Frag} {mg : Str → Option Value} {base : Heap} {CR : Addr} {x qual : Str} {params : Arguments} {body : List Stmt} {scope : Scope} {dvs : List V} {kws : List (Str × V)} {f : Addr} {fd : FuncData} {N ps : List Str} {k : Nat} {d : DS}
    (F : FunD K x qual params body scope dvs kws f fd) (S : FnScope N ps scope) (hb : ∀ (cdv : Value) (A : Around) (outer : List Env) (s : Shared) (H : Hp) (E : XK) (Nn : Addr → Prop), Room k (A.deeper (envOfC qual scope s.heap.objs.size f cdv)) →
      JSs (cxOf (L2.CX P w) P w K mg base N qual scope f cdv A outer s H E) ⟨CR, Nn, fun c dd _ H => E c dd H⟩ body d) : FJ P w K mg base CR (k + 1) f fd ps (runBody N.length d) := jf_fnC F S fun cdv _ => hb cdv
/-- the other lists of a frame, hidden from a callee -/
def hidN (K : PySem.W.Frag) (g : Gx) (l : Lc) : Addr → Prop := fun a => g.N a ∨ (l.M a ∧ a ∉ l.al ∧ ¬ IsT K a)
@[simp] def dFnS (F : DF) (da : DA) : DE := fun s => (da s).bind fun ps s1 => match F ps s1.mu with
  | .ok v mu => .ok v ⟨s1.env, mu⟩
  | .exn e mu => .exn e ⟨s1.env, mu⟩
  | .bad => .bad
section
variable {K : PySem.W.Frag} {g : Gx} {l : Lc} {s : S} {σ : St} {ps : List PV} {us : List V} {Q : VK} {F : DF} {n : Nat}
/-- at a call: what the callee's promise asks -/
theorem call_asks (ok : Sok K g l s σ) (r : RepGL K g l ps us) (hn : ps.length = n) (run : Run K g (match F ps s.mu with | .ok v mu => .ok v ⟨s.env, mu⟩ | .exn e mu => .exn e ⟨s.env, mu⟩ | .bad => .bad) l σ Q) :
    spJ K g.CR n F us l.H Q (fun c dd H => g.W c dd σ H) := by
  have hL : ∀ a, (Gx.L ⟨g.CR, hidN K g l, W0⟩ ⟨l.al, fun a => a ∈ l.al ∨ IsT K a, l.H⟩ a) → g.L l a := fun a h => by
    rcases h with h | h | ⟨h, _⟩
    · exact .inl (ok.inM h)
    · exact .inr h
    · exact .inl h
  refine ⟨hidN K g l, ⟨l.al, fun a => a ∈ l.al ∨ IsT K a, l.H⟩, ps, s.mu, rfl, ok.toF (fun a h => by
    rcases h with h | ⟨h, _⟩
    · exact .inr h
    · exact .inl h) (fun a h z => by
    rcases z with z | ⟨_, z, z2⟩
    · exact ok.mn a (ok.inM h) z
    · exact h.elim z z2), RepL.mono (fun _ _ h => h) (fun a o n e => ⟨e, fun z => n (hL a z)⟩) _ _ r, hn, ?_⟩
  -- what the caller sees behind the call
  have back : ∀ {lc : Lc} {mu' : List MO}, Step ⟨l.al, fun a => a ∈ l.al ∨ IsT K a, l.H⟩ lc → Fok K g.CR (hidN K g l) lc mu' →
      ∃ l', l'.H = lc.H ∧ l'.al = lc.al ∧ Step l l' ∧ Sok K g l' ⟨s.env, mu'⟩ σ ∧ ∀ a, g.L l' a → Gx.L ⟨g.CR, hidN K g l, W0⟩ lc a := by
    intro lc mu' st fo
    have stM : ∀ a, lc.M a → l.M a ∨ l.H a = none := fun a h => by
      rcases st.new a h with h | h
      · exact .inl (ok.inM h)
      · exact .inr h
    have st' : Step l ⟨lc.al, fun a => lc.M a ∨ (l.M a ∧ a ∉ l.al ∧ ¬ IsT K a), lc.H⟩ := by
      refine ⟨st.pre, fun a h => ?_, fun a o n e => st.keep a o (fun z => n (ok.inM z)) e, st.dom⟩
      rcases h with h | ⟨h, _⟩
      · exact stM a h
      · exact .inl h
    have back2 : ∀ a, g.L ⟨lc.al, fun a => lc.M a ∨ (l.M a ∧ a ∉ l.al ∧ ¬ IsT K a), lc.H⟩ a → Gx.L ⟨g.CR, hidN K g l, W0⟩ lc a := fun a h => by
      rcases h with (h | h) | h
      · exact .inl h
      · exact .inr (.inr h)
      · exact .inr (.inl h)
    have nal : ∀ a, l.M a → a ∉ l.al → ¬ IsT K a → a ∉ lc.al := fun a h1 h2 h3 z => by
      rcases st.new a ((fo.iff a).mpr (.inl z)) with q | q
      · exact q.elim h2 h3
      · exact ok.there a (.inl h1) q
    refine ⟨⟨lc.al, fun a => lc.M a ∨ (l.M a ∧ a ∉ l.al ∧ ¬ IsT K a), lc.H⟩, rfl, rfl, st', ⟨ok.len, fun i v e => ?_, fun i xs e => ?_, ok.dis, fo.ok.mlen, fun n a m h1 h2 => ?_, fo.ok.nd, fun a h => .inl (fo.ok.alM a h), fun a h => ?_, fun a h => ?_, fun x hx => (fo.ok.tabs x hx).to (.inl (fo.ok.tabs x hx).M) (fo.ok.tabs x hx).al (fun _ q => q) fun c q n e => ⟨e, fun z => n (back2 c z)⟩⟩, back2⟩
    · obtain ⟨u, h1, h2⟩ := ok.env i v e
      exact ⟨u, h1, st'.rep h2⟩
    · obtain ⟨a, vs, h1, h2, h3, h4, h5⟩ := ok.own i xs e
      have h6 := ok.noT h4 fun ps z => by cases z
      exact ⟨a, vs, h1, .inr ⟨h2, h3, h6⟩, nal a h2 h3 h6, st.keep a _ (fun z => z.elim h3 h6) h4, st'.reps h5⟩
    · have q := fo.ok.mu n a m h1 h2
      have rp : ∀ x v, RepGL K ⟨g.CR, hidN K g l, W0⟩ lc x v → RepGL K g ⟨lc.al, fun a => lc.M a ∨ (l.M a ∧ a ∉ l.al ∧ ¬ IsT K a), lc.H⟩ x v := fun x v h => RepL.mono (fun _ _ h => h) (fun a o n e => ⟨e, fun z => n (back2 a z)⟩) x v h
      cases m with
      | lst xs => obtain ⟨vs, q1, q2⟩ := q; exact ⟨vs, q1, rp _ _ q2⟩
      | ins C ns xs => obtain ⟨dx, vs, q1, q2, q3⟩ := q; exact ⟨dx, vs, q1, q2, rp _ _ q3⟩
      | nst C ns xs => obtain ⟨dx, vs, q1, q2, q3⟩ := q; exact ⟨dx, vs, q1, q2, rp _ _ q3⟩
      | dic ns xs => obtain ⟨vs, q1, q2, q9, q3⟩ := q; exact ⟨vs, q1, q2, q9, rp _ _ q3⟩
    · rcases h with (h | ⟨h, _⟩) | h
      · exact fo.ok.there a (.inl h)
      · exact st.dom a (ok.there a (.inl h))
      · exact st.dom a (ok.there a (.inr h))
    · rcases h with h | ⟨h, _⟩
      · exact fun z => fo.ok.mn a h (.inl z)
      · exact ok.mn a h
  cases e : F ps s.mu with
  | bad => rw [e] at run; exact run
  | ok v mu =>
    rw [e] at run
    intro lc u st fo rv
    obtain ⟨l', e1, e2, st', ok', hb⟩ := back st fo
    have := run l' u st' ok' (by
      show Rep K g.CR l'.al (g.L l') l'.H v u
      rw [e1, e2]
      exact Rep.mono (fun _ _ h => h) (fun a o n e => ⟨e, fun z => n (hb a z)⟩) v u rv)
    rw [e1] at this
    exact this
  | exn ex mu =>
    rw [e] at run
    intro lc cls dd st fo rx
    obtain ⟨l', e1, e2, st', ok', hb⟩ := back st fo
    have := run l' cls dd st' ok' (by
      obtain ⟨C, ns, xs, us, h1, h2, h3, h4, h5⟩ := rx
      refine ⟨C, ns, xs, us, h1, h2, h3, ?_, ?_⟩
      · show RepL K g.CR l'.al (g.L l') l'.H xs us
        rw [e1, e2]
        exact RepL.mono (fun _ _ h => h) (fun a o n e => ⟨e, fun z => n (hb a z)⟩) _ _ h4
      · rcases h5 with h5 | ⟨d', h5, h6, h7⟩
        · exact .inl h5
        · exact .inr ⟨d', h5, fun z => h6 (hb _ z), by rw [e1]; exact h7⟩)
    rw [e1] at this
    exact this
end
end L3
namespace L3
open PySem PySem.Spec PyProof.Rows L2
def putN (f : Str) : List Str → List Str
  | [] => [f]
  | n :: ns => if n = f then n :: ns else n :: putN f ns
def putV {a : Type} (f : Str) (v : a) : List Str → List a → List a
  | n :: ns, x :: xs => if n = f then v :: xs else x :: putV f v ns xs
  | _, _ => [v]
def getV {a : Type} (f : Str) : List Str → List a → Option a
  | n :: ns, x :: xs => if n = f then some x else getV f ns xs
  | _, _ => none
theorem lookup_zip {f : Str} : ∀ {ns : List Str} {vs : List V}, (ns.zip vs).lookup f = getV f ns vs
  | [], _ => by simp [getV]
  | n :: ns, [] => rfl
  | n :: ns, x :: vs => by
    show ((n, x) :: ns.zip vs).lookup f = if n = f then some x else getV f ns vs
    by_cases e : n = f
    · have hb : (f == n) = true := beq_iff_eq.mpr e.symm
      rw [if_pos e]; simp only [List.lookup, hb]
    · have hb : (f == n) = false := beq_eq_false_iff_ne.mpr (Ne.symm e)
      rw [if_neg e, ← lookup_zip]; simp only [List.lookup, hb]
section
variable {K : PySem.W.Frag} {CR : Addr} {al : List Addr} {L : Addr → Prop} {H : Hp} {f : Str}
theorem RepL.getV {x : PV} : ∀ {ns : List Str} {xs : List PV} {vs : List V}, RepL K CR al L H xs vs → L3.getV f ns xs = some x → ∃ v, L3.getV f ns vs = some v ∧ Rep K CR al L H x v
  | [], xs, vs, h, e => by simp [L3.getV] at e
  | n :: ns, [], vs, h, e => by simp [L3.getV] at e
  | n :: ns, y :: xs, vs, h, e => by
    obtain ⟨w, r, rfl, h1, h2⟩ := h
    have e : (if n = f then some y else L3.getV f ns xs) = some x := e
    show ∃ v, (if n = f then some w else L3.getV f ns r) = some v ∧ _
    by_cases z : n = f
    · rw [if_pos z] at e ⊢
      cases e
      exact ⟨w, rfl, h1⟩
    · rw [if_neg z] at e ⊢
      exact RepL.getV h2 e
end
def insP (mu : List MO) : PV → Option (Addr × List Str × List PV)
  | .ptr n => (match mu[n]? with
    | some (.ins C ns xs) => some (C, ns, xs)
    | _ => none)
  | .obj C ns xs => some (C, ns, xs)
  | _ => none
@[simp] theorem insP_obj {mu : List MO} {C : Addr} {ns : List Str} {xs : List PV} : insP mu (.obj C ns xs) = some (C, ns, xs) := rfl
@[simp] theorem insP_ptr {mu : List MO} {n : Nat} : insP mu (.ptr n) = (match mu[n]? with | some (.ins C ns xs) => some (C, ns, xs) | _ => none) := rfl
@[simp] def fFld (cs : List Addr) (f : Str) : PV → S → R S PV := fun p s => match insP s.mu p with
  | some (C, ns, xs) => if C ∈ cs then optR (getV f ns xs) s else .bad
  | none => .bad
@[simp] def dFPut (cs : List Addr) (f : Str) (ob de : DE) : DS := fun s => (de s).bind fun v s1 => (ob s1).bind fun o s2 => match o with
  | .ptr n => (match s2.mu[n]? with
    | some (.ins C ns xs) => if C ∈ cs ∧ ns.length < 1000 then .ok .nx ⟨s2.env, s2.mu.set n (.ins C (putN f ns) (putV f v ns xs))⟩ else .bad
    | _ => .bad)
  | _ => .bad
@[simp] def fTop : PV → S → R S PV := fun p s => match p with
  | .rat q => .ok (.int q.num) s
  | _ => .bad
@[simp] def fBot : PV → S → R S PV := fun p s => match p with
  | .rat q => .ok (.int q.den) s
  | _ => .bad
inductive TP where
  | non | bl | int | str | tup | lst | rat | cls (C : Addr) | dct | nam (c : Str)
def TP.val (K : PySem.W.Frag) (CR : Addr) : TP → Value
  | .non => .type "NoneType" | .bl => .type "bool" | .int => .type "int" | .str => .type "str" | .tup => .type "tuple" | .lst => .type "list" | .rat => .ref CR | .cls C => .ref C | .dct => .type "dict" | .nam c => .ref (He.ga K c)
@[simp] def tpOf (mu : List MO) : PV → Option TP
  | .non => some .non | .bl _ => some .bl | .int _ => some .int | .str _ => some .str | .tup _ => some .tup | .lst _ => some .lst | .frz _ => some .lst | .rat _ => some .rat
  | .obj C _ _ => some (.cls C)
  | .ptr n => (match mu[n]? with
    | some (.lst _) => some .lst
    | some (.ins C _ _) => some (.cls C)
    | some (.dic _ _) => none
    | some (.nst c _ _) => some (.nam c)
    | none => none)
  | .adr _ => none | .ty _ => none
  | .dk _ _ => some .dct | .dt _ _ => none | .exc _ _ _ => none | .clo _ _ => none
@[simp] def fIsi (b : TP → Option Bool) : PV → S → R S PV := fun p s => match tpOf s.mu p with
  | some t => (match b t with
    | some r => .ok (.bl r) s
    | none => .bad)
  | none => .bad
end L3
namespace L3
open PySem PySem.Spec PyProof.Rows L2
/-- how many arguments -/
def Ln (d : DA) (n : Nat) : Prop := ∀ s vs s', d s = .ok vs s' → vs.length = n
theorem Ln.nil : Ln dNil 0 := fun s vs s' h => by cases h; rfl
theorem Ln.cons {a : DE} {r : DA} {n : Nat} (h : Ln r n) : Ln (dCons a r) (n + 1) := fun s vs s' e => by
  simp only [dCons] at e
  cases e1 : a s with
  | bad => rw [e1] at e; cases e
  | exn x t => rw [e1] at e; cases e
  | ok v t =>
    rw [e1] at e
    have e : (r t).bind (fun xs s2 => R.ok (v :: xs) s2) = .ok vs s' := e
    cases e2 : r t with
    | bad => rw [e2] at e; cases e
    | exn x t => rw [e2] at e; cases e
    | ok us t2 =>
      rw [e2] at e
      cases e
      rw [List.length_cons, h _ _ _ e2]
@[simp] def fnS (F : DF) : List PV → S → R S PV := fun ps s => match F ps s.mu with
  | .ok v mu => .ok v ⟨s.env, mu⟩
  | .exn e mu => .exn e ⟨s.env, mu⟩
  | .bad => .bad
/-- a callee's exceptions are not looked at -/
@[simp] def fnQ (F : DF) : List PV → S → R S PV := fun ps s => match F ps s.mu with
  | .ok v mu => .ok v ⟨s.env, mu⟩
  | _ => .bad
@[simp] def fMakeR (okb : Int → Int → Bool) : List PV → S → R S PV := fun ps s => match ps with
  | [.int t, .int b] => if b ≠ 0 ∧ okb t b = true then .ok (.rat (Rat.divInt t b)) s else .bad
  | [.int t] => if okb t 1 = true then .ok (.rat (Rat.divInt t 1)) s else .bad
  | _ => .bad
section
variable {X : Cx} {g : Gx} {a b c e tg iter elt o : Expr} {es ifs : List Expr} {da db dc de dob : DE} {dr : DA} {dl : DL} {pos : Pos} {k : Nat} {f C : Addr} {fd : FuncData} {ps : List Str} {F : DF} {x m : Str} {p apos : Pos}
/-- f(e, ..), f a value that is known -/
theorem j_callG {u : Value} {fn : List PV → S → R S PV} (hc : CJ X g (fun us => call u us) fn) (hg : Gl X x) (hm : X.mg x = some u) (hk : PySem.W.keepIn X.K u = true) (ha : JA X g (e :: es) dr)
    (hdb : (x == ("__debug__" : Str)) = false := by decide) (he : starEach (e :: es) X.env = (false, eval e X.env) :: starEach es X.env := by rfl) (hpl : (backTo pos (starEach es X.env)).any (·.1) = false := by rfl) :
    JE X g (.Call (.Name x p) (e :: es) [] pos) (dFn fn dr) := by
  refine ⟨fun pins s σ H Q I h => ?_⟩
  obtain ⟨l, st, rfl, ok, h⟩ := h
  refine wpAny_Call_Name_kw (ld_glob I hg hm ?_ hdb)
  refine PySem.W.callWith_K (h₀ := X.base) I.ok.mod.kin hk (thn (ha.run pos pins s σ _ _ I ⟨l, st, rfl, ok, RunA.bind h⟩) fun us s1 ⟨vs, H1, I1, r, l1, s1', ps, e1, ok1, rp, st1, h1⟩ => ⟨I1.kIn, ?_⟩) he hpl
  subst e1
  exact hc pins s1 σ vs us Q l1 s1' ps I1 r ok1 rp h1
/-- a def of the text by its value -/
def KJ (X : Cx) (g : Gx) (f : Addr) (fn : List PV → S → R S PV) : Prop :=
  ∀ (pins : List (Addr × Obj)) (s : Shared) (σ : St) (xs : List V) (vs : List Value) (Q : VK) (l : Lc) (st : S) (ps : List PV), Inv X pins σ l.H s → Vals xs vs → Sok X.K g l st σ → RepGL X.K g l ps xs →
    Run X.K g (fn ps st) l σ Q → codeAny (model X.prog X.w) X.A (.call (.ref f) ⟨vs, []⟩) (fun r s' => match r with | .ok (.ret v) => EP X pins σ Q v s' | .ok _ => False | .error e => X.xe e s') s
theorem KJ.cj {fn : List PV → S → R S PV} (h : KJ X g f fn) : CJ X g (fun us => call (.ref f) us) fn := fun pins s σ xs vs Q l st ps I rv ok rp run => wpAny_call (h pins s σ xs vs Q l st ps I rv ok rp run)
/-- the same, deeper in -/
def KA (X : Cx) (g : Gx) (k : Nat) (f : Addr) (fn : List PV → S → R S PV) : Prop :=
  ∀ (A : Around), Sub X k A → ∀ (pins : List (Addr × Obj)) (s : Shared) (σ : St) (xs : List V) (vs : List Value) (Q : VK) (l : Lc) (st : S) (ps : List PV), Inv X pins σ l.H s → Vals xs vs → Sok X.K g l st σ → RepGL X.K g l ps xs →
    Run X.K g (fn ps st) l σ Q → codeAny (model X.prog X.w) A (.call (.ref f) ⟨vs, []⟩) (fun r s' => match r with | .ok (.ret v) => EP X pins σ Q v s' | .ok _ => False | .error e => X.xe e s') s
theorem KA.kj {fn : List PV → S → R S PV} (h : KA X g k f fn) (hr : Room k X.A) : KJ X g f fn := h X.A ⟨hr, rfl⟩
/-- the arguments given, then defaults -/
theorem ka_fnD {dvs : List V} {ds : List Value} {dps : List PV} {n : Nat} (G : FJ X.prog X.w X.K X.mg X.base g.CR k f fd ps F) (hb : Binds X.K fd ps ds) (hd : Vals dvs ds) (rd : ∀ l, RepGL X.K g l dps dvs) (hn : n + dps.length = ps.length) (tk : Takes X g.W) : KA X g k f (fun qs s => if qs.length = n then fnS F (qs ++ dps) s else .bad) := by
  intro A sb pins s σ xs vs Q l st qs I rv ok rp run
  by_cases z : qs.length = n
  · have run : Run X.K g (if qs.length = n then fnS F (qs ++ dps) st else .bad) l σ Q := run
    rw [if_pos z] at run
    have h := call_asks (F := F) (n := ps.length) ok (RepL.append rp (rd l)) (by rw [List.length_append, z, hn]) run
    have r2 : Vals (xs ++ dvs) (vs ++ ds) := rv.append hd
    have hl : (vs ++ ds).length = ps.length := by rw [← r2.length]; exact G.len _ _ _ _ h
    have e0 : Env0 X.prog X.w X.K X.mg X.base A X.stack s l.H := by
      have e := I.env0
      exact ⟨by rw [sb.fr]; exact e.frames, e.mod, e.bs, e.bsz, e.funs, e.frf, e.hok, e.bare⟩
    refine codeAny_mono (G.run A X.stack s l.H ⟨vs, []⟩ (vs ++ ds) (xs ++ dvs) Q (fun c dd H => g.W c dd σ H) sb.room e0 (hb s vs I.kIn hl) r2 h) fun r s' hq => ?_
    cases r with
    | error e => exact passAt tk σ pins l.H s e s' I hq
    | ok fl =>
      cases fl with
      | ret u => exact I.after hq
      | next => exact False.elim hq
      | brk => exact False.elim hq
      | cont => exact False.elim hq
  · have run : Run X.K g (if qs.length = n then fnS F (qs ++ dps) st else .bad) l σ Q := run
    rw [if_neg z] at run
    exact run.elim
theorem ka_fn (n : Nat) (G : FJ X.prog X.w X.K X.mg X.base g.CR k f fd ps F) (hb : Binds X.K fd ps []) (tk : Takes X g.W) (hn : n = ps.length := by rfl) : KA X g k f (fun qs s => if qs.length = n then fnS F qs s else .bad) := by
  have h := ka_fnD (dps := []) (n := n) (g := g) G hb .nil (fun l => rfl) hn tk
  intro A sb pins s σ xs vs Q l st qs I rv ok rp run
  exact h A sb pins s σ xs vs Q l st qs I rv ok rp (by
    show Run X.K g (if qs.length = n then fnS F (qs ++ []) st else .bad) l σ Q
    rw [List.append_nil]
    exact run)
theorem k_fn (n : Nat) (G : FJ X.prog X.w X.K X.mg X.base g.CR k f fd ps F) (hr : Room k X.A) (hb : Binds X.K fd ps []) (tk : Takes X g.W) (hn : n = ps.length := by rfl) : KJ X g f (fun qs s => if qs.length = n then fnS F qs s else .bad) := (ka_fn n G hb tk hn).kj hr
/-- f(e, ..) of a def of the text, every parameter given -/
theorem j_call (G : FJ X.prog X.w X.K X.mg X.base g.CR k f fd ps F) (hr : Room k X.A) (hm : X.mg x = some (.ref f)) (hk : PySem.W.keepIn X.K (.ref f) = true) (hb : Binds X.K fd ps []) (tk : Takes X g.W) (ha : JA X g (e :: es) dr) (hg : Gl X x := by rfl)
    (hn : ∀ s vs s', dr s = .ok vs s' → vs.length = ps.length) (hdb : (x == ("__debug__" : Str)) = false := by decide) (he : starEach (e :: es) X.env = (false, eval e X.env) :: starEach es X.env := by rfl) (hpl : (backTo pos (starEach es X.env)).any (·.1) = false := by rfl) :
    JE X g (.Call (.Name x p) (e :: es) [] pos) (dFnS F dr) :=
  PE.cq (j_callG (k_fn ps.length G hr hb tk).cj hg hm hk ha hdb he hpl) fun pins s σ H Q I q => by
    obtain ⟨l, s, rfl, ok, q⟩ := q
    refine ⟨l, s, rfl, ok, ?_⟩
    have q : Run X.K g ((dr s).bind fun ps s1 => fnS F ps s1) l σ Q := q
    show Run X.K g ((dr s).bind fun qs s => if qs.length = ps.length then fnS F qs s else .bad) l σ Q
    cases e1 : dr s with
    | bad => rw [e1] at q; exact q
    | exn e t => rw [e1] at q; exact q
    | ok vs t =>
      rw [e1] at q
      show Run X.K g (if vs.length = ps.length then fnS F vs t else .bad) l σ Q
      rw [if_pos (hn s vs t e1)]
      exact q
/-- e.f, a property of a ratio -/
@[simp] def fRat (fn : List PV → S → R S PV) : PV → S → R S PV := fun p s => match p with
  | .rat q => fn [.rat q] s
  | _ => .bad
/-- o.m(e, ..) of a ratio -/
@[simp] def dMethR (fn : List PV → S → R S PV) (d : DE) (dr : DA) : DE := fun s => (d s).bind fun p s1 => match p with
  | .rat q => (dr s1).bind fun ps s2 => fn (.rat q :: ps) s2
  | _ => .bad
end
end L3
namespace L3
open PySem PySem.Spec PyProof.Rows L2
end L3
namespace L3
open PySem PySem.Spec PyProof.Rows L2
@[simp] def fRL (fn : List PV → S → R S PV) : PV → PV → S → R S PV := fun p q s => match p, q with
  | .rat a, .rat b => fn [.rat a, .rat b] s
  | .rat a, .int b => fn [.rat a, .int b] s
  | _, _ => .bad
@[simp] def fRR (fn : List PV → S → R S PV) : PV → PV → S → R S PV := fun p q s => match p, q with
  | .int a, .rat b => fn [.rat b, .int a] s
  | _, _ => .bad
section
variable {X : Cx} {g : Gx} {f : Addr} {fn : List PV → S → R S PV} {op : Operator}
@[simp] def fNegI : PV → S → R S PV := fun p s => match p with
  | .int i => .ok (.int (-i)) s
  | _ => .bad
theorem u_negI : UJ X g (unaryOp .USub) fNegI := UJ.of un_neg fun l st σ p x Q ok rp run => by
  cases p with
  | int i => exact ⟨i, rp, run l _ (Step.refl l) ok rfl⟩
  | _ => exact run.elim
theorem j_un {op : UnaryOp} {f : PV → S → R S PV} {a : Expr} {da : DE} {pos : Pos} (ho : UJ X g (unaryOp op) f) (ha : JE X g a da) : JE X g (.UnaryOp op a pos) (dUn f da) := by
  refine ⟨fun pins s σ H Q I h => ?_⟩
  obtain ⟨l, st, rfl, ok, h⟩ := h
  refine UnaryOp_ (thn (ha.run pins s σ _ _ I ⟨l, st, rfl, ok, Run.bind h⟩) fun v s1 ⟨x, H1, I1, r1, l1, s1', p, e1, ok1, rp, st1, h1⟩ => ?_)
  subst e1
  exact ho pins s1 σ x v Q l1 s1' p I1 r1 ok1 rp h1
@[simp] def fEqL (fn : List PV → S → R S PV) : PV → PV → S → R S PV := fun p q s => match p, q with
  | .rat a, .rat b => fn [.rat a, .rat b] s
  | .rat a, .int b => fn [.rat a, .int b] s
  | .rat a, .bl b => fn [.rat a, .bl b] s
  | .rat a, .str b => fn [.rat a, .str b] s
  | .rat a, .non => fn [.rat a, .non] s
  | _, _ => .bad
end
end L3
namespace L3
open PySem PySem.Spec PyProof.Rows L2
def froz1 (i : Nat) (s : S) : S := match s.env[i]? with
  | some (some (.own xs)) => ⟨s.env.set i (some (.val (.lst xs))), s.mu⟩
  | _ => s
@[simp] def frozS : List Nat → S → S
  | [], s => s
  | i :: is, s => frozS is (froz1 i s)
mutual
def flatP : PV → Bool
  | .tup xs => flatL xs
  | .obj _ _ xs => flatL xs
  | .dk _ xs => flatL xs
  | .dt _ xs => flatL xs
  | .exc _ _ xs => flatL xs
  | .clo _ xs => flatL xs
  | .lst _ => false
  | .frz _ => false
  | _ => true
def flatL : List PV → Bool
  | [] => true
  | x :: xs => flatP x && flatL xs
end
@[simp] def flatM : MO → Bool
  | .lst xs => flatL xs
  | .ins _ _ xs => flatL xs
  | .nst _ _ xs => flatL xs
  | .dic _ xs => flatL xs
def flatMs (mu : List MO) : Bool := mu.all flatM
/-- only these slots hold own lists -/
def ownIn (is : List Nat) (env : List (Option SV)) : Bool := (List.range env.length).all fun i => match env[i]? with
  | some (some (.own _)) => is.contains i
  | _ => true
@[simp] def dBor (is : List Nat) (d : DE) : DE := fun s => if ownIn is s.env = true then (match d (frozS is s) with
  | .ok v s1 => if flatP v = true ∧ flatMs s1.mu = true then .ok v ⟨s.env, s1.mu⟩ else .bad
  | _ => .bad) else .bad
@[simp] def dBorT (is : List Nat) (d : DT) : DT := fun s => if ownIn is s.env = true then (match d (frozS is s) with
  | .ok v s1 => if flatMs s1.mu = true then .ok v ⟨s.env, s1.mu⟩ else .bad
  | _ => .bad) else .bad
@[simp] def dRetF (is : List Nat) (d : DE) : DS := fun s => dRet d (frozS is s)
@[simp] def dFrz (is : List Nat) (d : DS) : DS := fun s => d (frozS is s)
end L3
namespace L3
open PySem PySem.Spec PyProof.Rows L2
abbrev Gx.hid (g : Gx) (P : List Addr) : Gx := ⟨g.CR, fun a => g.N a ∨ a ∈ P, g.W⟩
def RepSV (K : PySem.W.Frag) (g : Gx) (l : Lc) : List SV → List V → List Addr → Prop
  | [], us, P => us = [] ∧ P = []
  | .val v :: r, us, P => ∃ u us', us = u :: us' ∧ RepG K g l v u ∧ RepSV K g l r us' P
  | .own xs :: r, us, P => ∃ p vs us' P', us = .ref p :: us' ∧ P = p :: P' ∧ l.H p = some (.lst vs) ∧ RepGL K g l xs vs ∧ RepSV K g l r us' P'
abbrev DX := S → R S (List SV)
def RunX (K : PySem.W.Frag) (g : Gx) (r : R S (List SV)) (l : Lc) (σ : St) (Q : List V → Hp → Prop) : Prop := match r with
  | .ok svs s' => ∀ l' us P, Step l l' → (∀ p ∈ P, l.H p = none) → P.Nodup → Sok K (g.hid P) l' s' σ → RepSV K (g.hid P) l' svs us P → Q us l'.H
  | .exn e s' => ∀ l' cls dd, Step l l' → Sok K g l' s' σ → RepX K g l' e cls dd → g.W cls dd σ l'.H
  | .bad => False
def LX (K : PySem.W.Frag) (g : Gx) (d : DX) : TA := fun σ H Q => ∃ l s, l.H = H ∧ Sok K g l s σ ∧ RunX K g (d s) l σ Q
@[simp] def xNil : DX := fun s => .ok [] s
@[simp] def xVal (d : DE) (r : DX) : DX := fun s => (d s).bind fun v s1 => (r s1).bind fun vs s2 => .ok (.val v :: vs) s2
@[simp] def xOwn (d : DL) (r : DX) : DX := fun s => (d s).bind fun v s1 => (r s1).bind fun vs s2 => .ok (.own v :: vs) s2
@[simp] def setX : List Nat → List SV → S → Option S
  | [], [], s => some s
  | j :: js, v :: vs, s => setX js vs ⟨s.env.set j (some v), s.mu⟩
  | _, _, _ => none
@[simp] def dAsgX (js : List Nat) (d : DX) : DS := fun s => (d s).bind fun vs s1 => match setX js vs s1 with
  | some s2 => .ok .nx s2
  | none => .bad
section
variable {K : PySem.W.Frag} {g : Gx} {l l' : Lc} {s : S} {σ : St}
theorem RepX.less {N' : Addr → Prop} {e : PV} {cls : Value} {dd : Option Addr} (hN : ∀ a, g.N a → N' a) (h : RepX K ⟨g.CR, N', g.W⟩ l e cls dd) : RepX K g l e cls dd := by
  obtain ⟨C, ns, xs, vs, h1, h2, h3, h4, h5⟩ := h
  have hL : ∀ a, g.L l a → Gx.L ⟨g.CR, N', g.W⟩ l a := fun a z => z.elim .inl fun z => .inr (hN a z)
  refine ⟨C, ns, xs, vs, h1, h2, h3, RepL.mono (fun _ _ h => h) (fun a o n e => ⟨e, fun z => n (hL a z)⟩) _ _ h4, ?_⟩
  rcases h5 with h5 | ⟨d, h5, h6, h7⟩
  · exact .inl h5
  · exact .inr ⟨d, h5, fun z => h6 (hL d z), h7⟩
theorem Sok.less {N' : Addr → Prop} (ok : Sok K ⟨g.CR, N', g.W⟩ l s σ) (hN : ∀ a, g.N a → N' a) : Sok K g l s σ := by
  have hL : ∀ a, g.L l a → Gx.L ⟨g.CR, N', g.W⟩ l a := fun a z => z.elim .inl fun z => .inr (hN a z)
  have rp : ∀ x v, Rep K g.CR l.al (Gx.L ⟨g.CR, N', g.W⟩ l) l.H x v → RepG K g l x v := fun x v h => Rep.mono (fun _ _ h => h) (fun a o n e => ⟨e, fun z => n (hL a z)⟩) x v h
  have rpl : ∀ x v, RepL K g.CR l.al (Gx.L ⟨g.CR, N', g.W⟩ l) l.H x v → RepGL K g l x v := fun x v h => RepL.mono (fun _ _ h => h) (fun a o n e => ⟨e, fun z => n (hL a z)⟩) x v h
  refine ⟨ok.len, fun i v e => ?_, fun i xs e => ?_, ok.dis, ok.mlen, fun n a m h1 h2 => ?_, ok.nd, ok.alM, fun a h => ok.there a (h.elim .inl fun z => .inr (hN a z)), fun a h z => ok.mn a h (hN a z), fun x hx => (ok.tabs x hx).to (ok.tabs x hx).M (ok.tabs x hx).al (fun ps q => q) fun c q n e => ⟨e, fun z => n (hL c z)⟩⟩
  · obtain ⟨u, h1, h2⟩ := ok.env i v e
    exact ⟨u, h1, rp _ _ h2⟩
  · obtain ⟨a, vs, h1, h2, h3, h4, h5⟩ := ok.own i xs e
    exact ⟨a, vs, h1, h2, h3, h4, rpl _ _ h5⟩
  · have q := ok.mu n a m h1 h2
    cases m with
    | lst xs => obtain ⟨vs, r1, r2⟩ := q; exact ⟨vs, r1, rpl _ _ r2⟩
    | ins C ns xs => obtain ⟨dx, vs, r1, r2, r3⟩ := q; exact ⟨dx, vs, r1, r2, rpl _ _ r3⟩
    | nst C ns xs => obtain ⟨dx, vs, r1, r2, r3⟩ := q; exact ⟨dx, vs, r1, r2, rpl _ _ r3⟩
    | dic ns xs => obtain ⟨vs, r1, r2, r9, r3⟩ := q; exact ⟨vs, r1, r2, r9, rpl _ _ r3⟩
@[simp] def setσ : List Nat → List V → St → St
  | j :: js, v :: vs, σ => setσ js vs (σ.set j (some v))
  | _, _, σ => σ
theorem RepSV.imp {g' : Gx} {l' : Lc} (h : ∀ {x v}, RepG K g l x v → RepG K g' l' x v) (hl : ∀ {x v}, RepGL K g l x v → RepGL K g' l' x v) (hH : l'.H = l.H) : ∀ {svs : List SV} {us : List V} {P : List Addr}, RepSV K g l svs us P → RepSV K g' l' svs us P
  | [], us, P, q => q
  | .val v :: r, us, P, q => by
    obtain ⟨u, us', e, h1, h2⟩ := q
    exact ⟨u, us', e, h h1, RepSV.imp h hl hH h2⟩
  | .own xs :: r, us, P, q => by
    obtain ⟨p, vs, us', P', e1, e2, h1, h2, h3⟩ := q
    exact ⟨p, vs, us', P', e1, e2, by rw [hH]; exact h1, hl h2, RepSV.imp h hl hH h3⟩
end
end L3
namespace L3
open PySem
open Sem (wp)
open AutoSeq1 (wpAny_loadPart')
theorem meets_enum_newT (l : Addr) (ys : Array Value) (n : Nat) (dc0 : Option Addr) (sl0 : Array (Option Value)) :
    Meets (Builtin.«enumerate.__new__» ⟨[.type "enumerate", .ref l], []⟩) (fun _ R s => s.heap.get? l = some { cls := .type "tuple", dict := dc0, data := .seq ys n, slots := sl0 } ∧
      R (.ok (.ret (.ref (s.heap.push { cls := .type "tuple_iterator", data := .fields #[.ref l, .int 0 0] }).objs.size)))
        { s with heap := (s.heap.push { cls := .type "tuple_iterator", data := .fields #[.ref l, .int 0 0] }).push { cls := .type "enumerate", data := .fields #[.none, .bool false, .ref s.heap.objs.size, rawInt 0, .none, .none] } }) :=
  Meets.of_wp fun pg wl ar R s h => by
    obtain ⟨hp0, g, d, tk0, os0⟩ := s; obtain ⟨hat, h⟩ := h
    have hsubE := sub_enumerate
    have hLt : Heap.IsTuple (Shared.heap ⟨hp0, g, d, tk0, os0⟩) l ys := ⟨_, hat, rfl, n, rfl⟩
    wp_walk using wpAny_loadPart' hat
    refine wpAny_stack_any (fun _ => wpAny_pure ?_)
    split
    · rename_i c _ _ _ _ _
      rcases (c == Value.type "enumerate") with _ | _
      · wp_walk using wpAny_loadPart' hat, wpAny_pyIter_tuple hLt
        exact ⟨_, rfl, h⟩
      · wp_walk using wpAny_loadPart' hat, wpAny_pyIter_tuple hLt
        exact ⟨_, rfl, h⟩
    · wp_walk using wpAny_loadPart' hat, wpAny_pyIter_tuple hLt
      exact ⟨_, rfl, h⟩
section
variable {prog : Program} {w : World} {A : Around} {E : Value → Shared → Prop} {s : Shared}
theorem call_enum_tuple {l : Addr} {ys : Array Value} {Q : Value → Shared → Prop} (hLt : s.heap.IsTuple l ys)
    (h : ∀ g1, IsEnum g1 (s.heap.objs.size + 1) s.heap.objs.size 0 .none → g1.IsTupleIter s.heap.objs.size l 0 → g1.objs.size = s.heap.objs.size + 2 →
      (∀ b o, s.heap.get? b = some o → g1.get? b = some o) → Q (.ref (s.heap.objs.size + 1)) { s with heap := g1 }) :
    wpAny (model prog w) A (call (.type "enumerate") [.ref l]) Q E s := by
  obtain ⟨⟨c, dc0, dt0, sl0⟩, hat, hcls, n, hda⟩ := hLt
  replace hcls : c = .type "tuple" := hcls
  replace hda : dt0 = .seq ys n := hda
  subst hcls hda
  refine callType_new F.called_enumerate (by decide) (F.typeCall_enumerate_1 _) (F.newCall_enumerate_1 _) (fun obj => F.args_object_init_2 obj _) F.entry_enumerate_new
    (meets_enum_newT l ys n dc0 sl0) ⟨hat, ?_⟩
  have hz : (s.heap.push { cls := .type "tuple_iterator", data := .fields #[.ref l, .int 0 0] }).objs.size = s.heap.objs.size + 1 := Heap.size_push ..
  show _ ∧ _
  rw [hz]
  have heA : IsEnum ((s.heap.push { cls := .type "tuple_iterator", data := .fields #[.ref l, .int 0 0] }).push
      { cls := .type "enumerate", data := .fields #[.none, .bool false, .ref s.heap.objs.size, rawInt 0, .none, .none] }) (s.heap.objs.size + 1) s.heap.objs.size 0 .none := by
    have := Heap.get?_push_size (s.heap.push { cls := .type "tuple_iterator", data := .fields #[.ref l, .int 0 0] })
      (o := { cls := .type "enumerate", data := .fields #[.none, .bool false, .ref s.heap.objs.size, rawInt 0, .none, .none] }) rfl
    rw [hz] at this; exact this
  refine ⟨⟨_, heA, rfl⟩, h _ heA ⟨_, Heap.get?_push_of_some _ (Heap.get?_push_size _ rfl), rfl, rfl⟩ (by rw [Heap.size_push, hz]) fun b o x => Heap.get?_push_of_some _ (Heap.get?_push_of_some _ x)⟩
theorem draws_tup {l it : Addr} {ys : Array Value} (hhd : A.handled = none) (hne : l ≠ it) : Draws prog w A it [it, l] ys.size (fun i x => ys[i]? = some x) (fun i h => h.IsTupleIter it l i ∧ h.IsTuple l ys) where
  live := fun i h stk => let ⟨⟨o, e, _⟩, _⟩ := stk; ⟨o, e⟩
  frame := fun i h g1 stk k => by
    obtain ⟨stk, o, e, r⟩ := stk
    exact ⟨stk.at fun o q => k it (by simp) o q, o, k l (by simp) o e, r⟩
  item := fun i s Q E hi stk hQ0 => by
    obtain ⟨stk, ht⟩ := stk
    refine RZ.nextOf_tuple_item stk ht (x := ys[i]) (by simp [hi]) fun g1 stB sb => ?_
    obtain ⟨o, e, r⟩ := ht
    exact hQ0 _ g1 s.toks (by simp [hi]) ⟨stB, o, (sb.2 l hne).trans e, r⟩ sb
  done := fun s Q E stk hE => by
    obtain ⟨stk, ht⟩ := stk
    exact RZ.nextOf_tuple_end hhd stk ht (by simp) hE
theorem pyNext_enumT_end {e it l : Addr} {i : Nat} {ys : Array Value} {old : Value} {Q : Option Value → Shared → Prop} (hhd : A.handled = none)
    (heA : IsEnum s.heap e it i old) (hItA : s.heap.IsTupleIter it l i) (hat : s.heap.IsTuple l ys) (hxL : ys[i]? = none)
    (hQ0 : ∀ g1, Heap.ExtBut it s.heap g1 → Q none { s with heap := g1 }) : wpAny (model prog w) A (pyNext (.ref e)) Q E s := by
  have hTe : s.TypeIs (.ref e) "enumerate" := ⟨_, heA, rfl⟩
  unfold pyNext
  refine wpAny_bind (wpAny_attempt (wpAny_callSpecial?_slot (name := Str.ofString "__next__") hTe F.slot_enumerate_next
    (wpAny_call_entry F.slot_enumerate_next hTe F.entry_enumerate_next ?_ (F.args_enumerate_next_1 _))))
  show wpAny _ _ (field (.ref e) 2 >>= _) _ _ _
  refine wpAny_bind (wpAny_field heA rfl (x := .ref it) rfl ?_)
  refine wpAny_bind (RZ.nextOf_tuple_end hhd hItA hat hxL fun g1 x heB hxB => ?_)
  obtain ⟨o, ho0, hcls⟩ := hxB
  refine wpAny_bind (wpAny_isInstance (T := "StopIteration") (b := true) ⟨o, ho0, hcls⟩ isSubtype_stop ?_)
  exact wpAny_pure (hQ0 _ heB)
end
end L3
namespace L3
open PySem PySem.Spec PyProof.Rows L2
def IteT (K : PySem.W.Frag) (a : Addr) : It :=
  ⟨fun i H => ∃ (xs : List V) (x : V), SqT K H a xs ∧ xs[i]? = some x, fun i H v H' => ∃ T x, v = .ref T ∧ H T = none ∧ H' = upd H T (.tup [.int (i : Nat), x]) ∧ ∀ xs, SqT K H a xs → xs[i]? = some x, fun i H => ∃ xs : List V, SqT K H a xs ∧ xs.length ≤ i⟩
theorem turn_enumT {P : Program} {w : World} {K : PySem.W.Frag} {elts : List Expr} {kk : Nat} {tpos : Pos} (a e it : Addr) :
    Turn P w K (.Tuple elts kk tpos) (IteT K a) [e, it] e (fun i h => (∃ old, IsEnum h e it ((i : Nat) : Int) old) ∧ h.IsTupleIter it a i ∧ e ≠ it ∧ a ≠ it ∧ e ≠ a) where
  mem := by simp
  obj := fun i h st b hb => by
    obtain ⟨⟨old, heA⟩, ⟨o, ho, hc, hd⟩, _⟩ := st
    have eb1 : b = e ∨ b = it := by simpa using hb
    rcases eb1 with z | z
    · rw [z]; exact ⟨_, heA, fun v q => nomatch q⟩
    · rw [z]; exact ⟨o, ho, fun v q => by rw [hd] at q; cases q⟩
  keep := fun i h g1 st k => let ⟨⟨old, heA⟩, hi, hne⟩ := st; ⟨⟨old, k e (by simp) _ heA⟩, hi.at fun o q => k it (by simp) o q, hne⟩
  item := by
    intro X hPr hw hK hc i pins s σ H E I hfL st hg
    subst hPr hw hK
    obtain ⟨⟨old, heA⟩, hItA, hne, hai, hea⟩ := st
    obtain ⟨xs, x, hqL, hxL⟩ := hg
    obtain ⟨arr, rvl, p, hz⟩ := I.tuple hqL
    obtain ⟨u, hu, ru⟩ := rvl.get hxL
    have heL : e < s.heap.objs.size := Heap.lt_size heA
    have hiL : it < s.heap.objs.size := by obtain ⟨_, q, _⟩ := hItA; exact Heap.lt_size q
    have hlt : i < arr.toArray.size := by
      rw [List.size_toArray]
      exact (List.getElem?_eq_some_iff.mp hu).1
    refine wpAny_pyNext_enum_itemD (draws_tup (A := X.A.in1) (I.ok.hd hc) hai) heA ⟨hItA, show s.heap.IsTuple a arr.toArray from p⟩ hlt hne (by simp [hne, hea]) fun x' g1 tk hP' ho hItB hTy hSz hKp => ?_
    have ex : x' = u := by
      have h1 : arr[i]? = some x' := by simpa using hP'
      rw [h1] at hu
      exact (Option.some.inj hu)
    subst ex
    refine ⟨_, rfl, wpAny_letOwnedTupleGo_enum (s := { s with heap := g1, toks := tk + 1 }) ho fun g2 heB sb => ?_⟩
    have hTyB : g2.get? s.heap.objs.size = some { cls := .type "tuple", data := .seq #[.int i tk, x'] } := (sb.2 _ (Nat.ne_of_gt heL)).trans hTy
    have new : ObjOk X.prog X.w (upd H s.heap.objs.size (.tup [.int (i : Nat), x])) g2 s.heap.objs.size (.tup [.int (i : Nat), x]) :=
      ⟨by show 2 ≤ sizeLine; decide, [.int i tk, x'], .cons ⟨_, rfl⟩ (.cons ru .nil), ⟨_, hTyB, rfl, _, rfl⟩⟩
    have Inv1 : Inv X pins σ (upd H s.heap.objs.size (.tup [.int (i : Nat), x])) { s with heap := g2, toks := tk + 1 } :=
      I.turnedNew (ch := [e, it]) (fun b ob hb q => (sb.2 b (fun z => hb (by simp [z]))).trans (hKp b ob (fun z => hb (by simp [z])) (fun z => hb (by simp [z])) q)) hfL (Nat.le_refl _) new
    refine ⟨.ref s.heap.objs.size, _, Inv1, rfl, ⟨_, x, rfl, I.hok.fresh (Nat.le_refl _), rfl, fun ys hy => by rw [I.tuple_inj hy hqL]; exact hxL⟩, ⟨⟨x', ?_⟩, hItB.1.at fun o q => (sb.2 it (Ne.symm hne)).trans q, hne, hai, hea⟩, fun b hb => ?_⟩
    · have e1 : ((i + 1 : Nat) : Int) = (i : Int) + 1 := by omega
      rw [e1]; exact heB
    · have hbL : b < s.heap.objs.size := by
        have eb1 : b = e ∨ b = it := by simpa using hb
        rcases eb1 with z | z
        · rw [z]; exact heL
        · rw [z]; exact hiL
      rw [upd_ne (Nat.ne_of_lt hbL)]
      exact (hfL b hb).1
  done := by
    intro X hPr hw hK hc i pins s σ H E I hfL st hg
    subst hPr hw hK
    obtain ⟨⟨old, heA⟩, hItA, hne, hai, hea⟩ := st
    obtain ⟨xs, hqL, hxL⟩ := hg
    obtain ⟨arr, rvl, p, hz⟩ := I.tuple hqL
    obtain ⟨w0, w1, w2, w3, w4, w5⟩ := hfL it (by simp)
    have hl := rvl.length
    exact pyNext_enumT_end (I.ok.hd hc) heA hItA (show s.heap.IsTuple a arr.toArray from p) (by simp; omega) fun g1 eb => ⟨rfl, I.turned (t' := s.toks) (fun b o hb q => eb b o hb q) w0 w1 w3 w4 w5⟩
  self := fun A i s Q E st h => let ⟨⟨_, heA⟩, _⟩ := st; wpAny_pyIter_enum heA h
def iEnumA (K : PySem.W.Frag) (ta : TA) : TI := fun σ H R => ta σ H fun vs H1 => ∃ a xs, vs = [.ref a] ∧ ((SqL K H1 a xs ∧ R (Ite K a) H1) ∨ (SqT K H1 a xs ∧ R (IteT K a) H1))
theorem pi_enumA {X : Cx} {e : Expr} {ta : TA} {p pos tpos : Pos} {elts : List Expr} {kk : Nat} (hg : Gl X "enumerate") (hm : X.mg "enumerate" = none) (ha : PA X [e] ta) (hs : starEach [e] X.env = [(false, eval e X.env)] := by rfl) :
    PI X (.Tuple elts kk tpos) (.Call (.Name "enumerate" p) [e] [] pos) (iEnumA X.K ta) := by
  refine ⟨fun pins s σ H R I h => ?_⟩
  refine Call_ (ld_blt I hg hm boot_enumerate (PyProof.Rows.callWith_type1 (thn (ha.run pos pins s σ H _ I h) fun us s1 ⟨vs, H1, Inv1, r1, qq⟩ => ?_) hs rfl))
  obtain ⟨a, xs, ex, hqL⟩ := qq
  subst ex
  cases r1 with
  | cons r rr =>
    cases rr
    cases r
    have fpsL : ∀ b, b = s1.heap.objs.size + 1 ∨ b = s1.heap.objs.size → s1.heap.objs.size ≤ b := fun b eb1 => by
      rcases eb1 with z | z
      · rw [z]; exact Nat.le_add_right _ _
      · rw [z]; exact Nat.le_refl _
    rcases hqL with ⟨hqL, q⟩ | ⟨hqL, q⟩
    · obtain ⟨arr, rvl, pB, hz⟩ := Inv1.list hqL
      refine call_enumerate_list pB.isList fun g1 heA hItA hSz hKp => wpAny_pyIter_enum heA ?_
      have Inv2 : Inv X pins σ H1 { s1 with heap := g1 } := Inv1.kept (t' := s1.toks) hKp
      refine ⟨s1.heap.objs.size + 1, [s1.heap.objs.size + 1, s1.heap.objs.size], _, _, H1, rfl, Inv2, turn_enum a (s1.heap.objs.size + 1) s1.heap.objs.size, ⟨⟨.none, heA⟩, hItA, Nat.succ_ne_self _⟩, fun b hb => ?_, q⟩
      have hle := fpsL b (by simpa using hb)
      exact Inv1.fpOk hle (Inv1.hok.fresh hle)
    · obtain ⟨arr, rvl, pB, hz⟩ := Inv1.tuple hqL
      have hla : a < s1.heap.objs.size := by
        obtain ⟨o, e, _⟩ := (show s1.heap.IsTuple a arr.toArray from pB)
        exact Heap.lt_size e
      refine call_enum_tuple (show s1.heap.IsTuple a arr.toArray from pB) fun g1 heA hItA hSz hKp => wpAny_pyIter_enum heA ?_
      have Inv2 : Inv X pins σ H1 { s1 with heap := g1 } := Inv1.kept (t' := s1.toks) hKp
      refine ⟨s1.heap.objs.size + 1, [s1.heap.objs.size + 1, s1.heap.objs.size], _, _, H1, rfl, Inv2, turn_enumT a (s1.heap.objs.size + 1) s1.heap.objs.size, ⟨⟨.none, heA⟩, hItA, Nat.succ_ne_self _, Nat.ne_of_lt hla, Nat.ne_of_gt (Nat.lt_succ_of_lt hla)⟩, fun b hb => ?_, q⟩
      have hle := fpsL b (by simpa using hb)
      exact Inv1.fpOk hle (Inv1.hok.fresh hle)
section
variable {g : Gx}
theorem it_enumT {K : PySem.W.Frag} {l0 : Lc} {a : Addr} {vs : List V} {xs : List PV} (hn : ∀ l, Step l0 l → SqT K l.H a vs) (rvl : RepGL K g l0 xs vs) : ItOk K g l0 (IteT K a) (enumP xs) := fun i g' l st ec hN th => by
  have h1 := hn l st
  have hl : (enumP xs).length = xs.length := by simp [enumP]
  refine ⟨fun x hxL => ?_, fun hxL => ⟨vs, h1, by rw [← rvl.length, ← hl]; exact hxL⟩⟩
  obtain ⟨y, hy, rfl⟩ := enumP_get hxL
  obtain ⟨v, hv, r⟩ := rvl.get hy
  refine ⟨⟨vs, v, h1, hv⟩, fun u H' z => ?_⟩
  obtain ⟨T, w, rfl, hTy, rfl, z⟩ := z
  have ew : w = v := by have := z vs h1; rw [hv] at this; exact (Option.some.inj this).symm
  subst ew
  exact ⟨upd_keep hTy, fun l1 ea eM eH => pair_rep hTy (fun z => th T z hTy) ea eM eH rfl (st.rep2 ec hN r)⟩
@[simp] def iEnumQ (d : DA) : DI := fun s => (d s).bind fun vs s1 => match vs with
  | [.lst xs] => .ok (enumP xs) s1
  | [.tup xs] => .ok (enumP xs) s1
  | _ => .bad
variable {X : Cx} {a : Expr} {dr : DA} {pos : Pos}
theorem ji_enumA {p tpos : Pos} {elts : List Expr} {kk : Nat} (ha : JA X g [a] dr) (hm : X.mg "enumerate" = none) (hg : Gl X "enumerate" := by rfl) (hs : starEach [a] X.env = [(false, eval a X.env)] := by rfl) : JI X g (.Tuple elts kk tpos) (.Call (.Name "enumerate" p) [a] [] pos) (iEnumQ dr) :=
  PI.cq (pi_enumA hg hm ha hs) fun pins s σ H Q I q => by
    obtain ⟨l, s, rfl, ok, q⟩ := q
    refine ⟨l, s, rfl, ok, ?_⟩
    simp only [iEnumQ] at q
    cases e1 : dr s with
    | bad => rw [e1] at q; exact q
    | exn e t => rw [e1] at q; exact q
    | ok vs t =>
      rw [e1] at q
      intro l1 us st1 ok1 r1
      simp only [R.bind] at q
      split at q
      · rename_i e2
        split at e2
        · rename_i xs
          cases e2
          obtain ⟨v, r, rfl, h1, h2⟩ := r1
          cases (show r = [] from h2)
          obtain ⟨b, ws, rfl, n, hb, rb⟩ := h1
          exact ⟨b, ws, rfl, .inl ⟨SqL.of hb, q l1 _ st1 ok1 (it_enum (fun l st => lst_stays (fun z => n (.inl z)) hb st) rb)⟩⟩
        · rename_i xs
          cases e2
          obtain ⟨v, r, rfl, h1, h2⟩ := r1
          cases (show r = [] from h2)
          obtain ⟨b, ws, rfl, hb, rb⟩ := h1
          refine ⟨b, ws, rfl, .inr ⟨SqT.of2 hb, q l1 _ st1 ok1 (it_enumT (fun l st => ?_) rb)⟩⟩
          rcases hb with ⟨n, hb⟩ | hb
          · exact .inl (Rd.keep (fun o e => st.keep b o (fun z => n (.inl z)) e) hb)
          · exact .inr hb
        · cases e2
      · rename_i e2
        split at e2 <;> cases e2
      · exact q.elim
end
end L3
namespace L3
open PySem PySem.Spec PyProof.Rows L2
/-- a def of the text, known by a global name -/
def Has (P : Program) (w : World) (K : PySem.W.Frag) (mg : Str → Option Value) (base : Heap) (CR : Addr) (x : Str) (k : Nat) (ps : List Str) (F : DF) : Prop :=
  ∃ f fd, mg x = some (.ref f) ∧ PySem.W.keepIn K (.ref f) = true ∧ Binds K fd ps [] ∧ FJ P w K mg base CR k f fd ps F
/-- a def at an address -/
def At (P : Program) (w : World) (K : PySem.W.Frag) (mg : Str → Option Value) (base : Heap) (CR f : Addr) (k : Nat) (ps : List Str) (F : DF) : Prop :=
  ∃ fd, Binds K fd ps [] ∧ FJ P w K mg base CR k f fd ps F
theorem Has.imp {P : Program} {w : World} {K : PySem.W.Frag} {mg : Str → Option Value} {base : Heap} {CR : Addr} {x : Str} {k : Nat} {ps : List Str} {F F' : DF} (h : Has P w K mg base CR x k ps F) (b : Below ps.length F' F) : Has P w K mg base CR x k ps F' :=
  let ⟨f, fd, h1, h2, h3, h4⟩ := h
  ⟨f, fd, h1, h2, h3, h4.imp b⟩
theorem At.imp {P : Program} {w : World} {K : PySem.W.Frag} {mg : Str → Option Value} {base : Heap} {CR f : Addr} {k : Nat} {ps : List Str} {F F' : DF} (h : At P w K mg base CR f k ps F) (b : Below ps.length F' F) : At P w K mg base CR f k ps F' :=
  let ⟨fd, h3, h4⟩ := h
  ⟨fd, h3, h4.imp b⟩
section
variable {X : Cx} {g : Gx} {a b c e : Expr} {es : List Expr} {da db dc de : DE} {dr : DA} {pos p : Pos} {x : Str} {f : Addr} {k n : Nat} {ps : List Str} {F : DF}
theorem At.kj (h : At X.prog X.w X.K X.mg X.base g.CR f k ps F) (hr : Room k X.A) (tk : Takes X g.W) : KJ X g f (fun qs s => if qs.length = ps.length then fnS F qs s else .bad) :=
  let ⟨fd, hb, G⟩ := h
  k_fn ps.length G hr hb tk
/-- how a call looks when the number of arguments is right -/
theorem KJ.of {fn fn' : List PV → S → R S PV} (h : KJ X g f fn) (i : ∀ qs s, fn' qs s = .bad ∨ fn qs s = fn' qs s) : KJ X g f fn' := fun pins s σ xs vs Q l st qs I rv ok rp run => by
  rcases i qs st with e | e
  · rw [e] at run; exact run.elim
  · exact h pins s σ xs vs Q l st qs I rv ok rp (by rw [e]; exact run)
/-- f(e, ..) -/
theorem j_callH (h : Has X.prog X.w X.K X.mg X.base g.CR x k ps F) (hr : Room k X.A) (tk : Takes X g.W) (ha : JA X g (e :: es) dr) (hn : Ln dr n := by repeat (first | with_reducible exact Ln.nil | with_reducible apply Ln.cons)) (hl : n = ps.length := by rfl) (hg : Gl X x := by rfl)
    (hdb : (x == ("__debug__" : Str)) = false := by decide) (he : starEach (e :: es) X.env = (false, eval e X.env) :: starEach es X.env := by rfl) (hpl : (backTo pos (starEach es X.env)).any (·.1) = false := by rfl) :
    JE X g (.Call (.Name x p) (e :: es) [] pos) (dFnS F dr) :=
  let ⟨_, _, hm, hk, hb, G⟩ := h
  j_call G hr hm hk hb tk ha hg (hl ▸ hn) hdb he hpl
def intsP : List PV → Option (List Int)
  | [] => some []
  | .int i :: r => (match intsP r with | some is => some (i :: is) | none => none)
  | _ => none
@[simp] def fSumI : List PV → S → R S PV := fun ps s => match ps with
  | [.lst xs] => (match intsP xs with
    | some is => .ok (.int is.sum) s
    | none => .bad)
  | _ => .bad
@[simp] def fIsB (neg : Bool) : PV → PV → S → R S PV := fun p q s => match p, q with
  | .bl a, .bl b => .ok (.bl (xor neg (decide (a = b)))) s
  | _, _ => .bad
end
end L3
namespace L3
open PySem PySem.Spec PyProof.Rows L2
theorem OJ.below {X : Cx} {g : Gx} {fn : Value → Value → Sem Value} {f f' : PV → PV → S → R S PV} (h : OJ X g fn f) (i : ∀ p q s, f' p q s = .bad ∨ f p q s = f' p q s) : OJ X g fn f' := fun pins s σ x y v u Q l st p q I rx ry ok rp rq run => by
  rcases i p q st with e | e
  · rw [e] at run; exact run.elim
  · exact h pins s σ x y v u Q l st p q I rx ry ok rp rq (by rw [e]; exact run)
@[simp] def gAdd : PV → PV → S → R S PV := fun p q s => match p, q with
  | .int i, .int j => .ok (.int (i + j)) s
  | .lst xs, .lst ys => if xs.length + ys.length ≤ 16777216 then .ok (.lst (xs ++ ys)) s else .bad
  | .tup xs, .tup ys => if xs.length + ys.length ≤ 16777216 then .ok (.tup (xs ++ ys)) s else .bad
  | .str x, .str y => if x.length + y.length ≤ 16777216 then .ok (.str (x ++ y)) s else .bad
  | _, _ => .bad
@[simp] def gSub : PV → PV → S → R S PV := fun p q s => match p, q with
  | .int i, .int j => .ok (.int (i - j)) s
  | _, _ => .bad
@[simp] def gMul : PV → PV → S → R S PV := fun p q s => match p, q with
  | .int i, .int j => if ib i + ib j ≤ 1000000 then .ok (.int (i * j)) s else .bad
  | .lst xs, .int k => if -(2 ^ 63) ≤ k ∧ k < 2 ^ 63 ∧ xs.length * k.toNat ≤ 16777216 then .ok (.lst (List.replicate k.toNat xs).flatten) s else .bad
  | _, _ => .bad
@[simp] def gFdiv : PV → PV → S → R S PV := fun p q s => match p, q with
  | .int i, .int j => if 0 < j ∧ ib j ≤ 9000 then .ok (.int (i / j)) s else if j < 0 ∧ j.natAbs < 1073741824 then .ok (.int (i.fdiv j)) s else .bad
  | _, _ => .bad
@[simp] def gMod : PV → PV → S → R S PV := fun p q s => match p, q with
  | .int i, .int j => if j ≠ 0 then .ok (.int (i.fmod j)) s else .bad
  | _, _ => .bad
@[simp] def gPow : PV → PV → S → R S PV := fun p q s => match p, q with
  | .int i, .int j => if 0 ≤ j ∧ j ≤ 1000000 ∧ i.natAbs < 2 ^ 64 then .ok (.int (i ^ j.toNat)) s else .bad
  | _, _ => .bad
@[simp] def gLt : PV → PV → S → R S PV := fun p q s => match p, q with
  | .int i, .int j => .ok (.bl (decide (i < j))) s
  | _, _ => .bad
@[simp] def gLe : PV → PV → S → R S PV := fun p q s => match p, q with
  | .int i, .int j => .ok (.bl (decide (i ≤ j))) s
  | _, _ => .bad
@[simp] def gGt : PV → PV → S → R S PV := fun p q s => match p, q with
  | .int i, .int j => .ok (.bl (decide (j < i))) s
  | _, _ => .bad
@[simp] def gGe : PV → PV → S → R S PV := fun p q s => match p, q with
  | .int i, .int j => .ok (.bl (decide (j ≤ i))) s
  | _, _ => .bad
mutual
def okD : Nat → PV → Bool
  | _, .non => true
  | _, .bl _ => true
  | _, .int _ => true
  | _, .str x => SeqAt.shaped (.str x)
  | n + 1, .tup xs => okDL n xs
  | n + 1, .lst xs => okDL n xs
  | n + 1, .frz xs => okDL n xs
  | _, _ => false
def okDL : Nat → List PV → Bool
  | _, [] => true
  | n, x :: xs => okD n x && okDL n xs
end
mutual
def eqP : PV → PV → Bool
  | .non, .non => true
  | .bl a, .bl b => a == b
  | .bl a, .int j => (if a then 1 else 0) == j
  | .int i, .bl b => i == (if b then 1 else 0)
  | .int i, .int j => i == j
  | .str x, .str y => x == y
  | .tup xs, .tup ys => eqPL xs ys
  | .lst xs, .lst ys => eqPL xs ys
  | .lst xs, .frz ys => eqPL xs ys
  | .frz xs, .lst ys => eqPL xs ys
  | .frz xs, .frz ys => eqPL xs ys
  | _, _ => false
def eqPL : List PV → List PV → Bool
  | [], [] => true
  | x :: xs, y :: ys => eqP x y && eqPL xs ys
  | _, _ => false
end
mutual
theorem okD_dat : ∀ (n : Nat) (p : PV), okD n p = true → ∃ d, p.dat = some d ∧ d.canLay0 = true ∧ d.depth ≤ n
  | n, .non, _ => ⟨_, rfl, rfl, Nat.zero_le _⟩
  | n, .bl _, _ => ⟨_, rfl, rfl, Nat.zero_le _⟩
  | n, .int _, _ => ⟨_, rfl, rfl, Nat.zero_le _⟩
  | n, .str x, h => by
    have h : SeqAt.shaped (.str x) = true := by cases n <;> exact h
    exact ⟨_, rfl, SeqAt.canLay_of_shaped h, Nat.zero_le _⟩
  | n + 1, .tup xs, h => by
    obtain ⟨ds, h1, h2, h3⟩ := okDL_dat n xs (by unfold okD at h; exact h)
    exact ⟨.tuple ds, by unfold PV.dat; rw [h1], h2, Nat.succ_le_succ h3⟩
  | n + 1, .lst xs, h => by
    obtain ⟨ds, h1, h2, h3⟩ := okDL_dat n xs (by unfold okD at h; exact h)
    exact ⟨.list ds, by unfold PV.dat; rw [h1], h2, Nat.succ_le_succ h3⟩
  | n + 1, .frz xs, h => by
    obtain ⟨ds, h1, h2, h3⟩ := okDL_dat n xs (by unfold okD at h; exact h)
    exact ⟨.list ds, by unfold PV.dat; rw [h1], h2, Nat.succ_le_succ h3⟩
  | 0, .tup xs, h => by unfold okD at h; cases h
  | 0, .lst xs, h => by unfold okD at h; cases h
  | 0, .frz xs, h => by unfold okD at h; cases h
  | n, .rat _, h => by cases n <;> (unfold okD at h; cases h)
  | n, .obj _ _ _, h => by cases n <;> (unfold okD at h; cases h)
  | n, .ptr _, h => by cases n <;> (unfold okD at h; cases h)
  | n, .adr _, h => by cases n <;> (unfold okD at h; cases h)
  | n, .ty _, h => by cases n <;> (unfold okD at h; cases h)
  | n, .dk _ _, h => by cases n <;> (unfold okD at h; cases h)
  | n, .dt _ _, h => by cases n <;> (unfold okD at h; cases h)
  | n, .exc _ _ _, h => by cases n <;> (unfold okD at h; cases h)
theorem okDL_dat : ∀ (n : Nat) (xs : List PV), okDL n xs = true → ∃ ds, PV.datL xs = some ds ∧ PyData.canLayAll0 ds = true ∧ PyData.depthAll ds ≤ n
  | n, [], _ => ⟨[], rfl, rfl, Nat.zero_le _⟩
  | n, x :: xs, h => by
    have h : (okD n x && okDL n xs) = true := by unfold okDL at h; exact h
    rw [Bool.and_eq_true] at h
    obtain ⟨d, h1, h2, h3⟩ := okD_dat n x h.1
    obtain ⟨ds, g1, g2, g3⟩ := okDL_dat n xs h.2
    refine ⟨d :: ds, by unfold PV.datL; rw [h1, g1], ?_, ?_⟩
    · show (d.canLay0 && PyData.canLayAll0 ds) = true
      rw [h2, g2]; rfl
    · show max d.depth (PyData.depthAll ds) ≤ n
      exact Nat.max_le.mpr ⟨h3, g3⟩
end
mutual
theorem eqP_ok : ∀ (p q : PV) (d e : PyData), p.dat = some d → q.dat = some e → PyData.eqv d e = eqP p q
  | .non, q, d, e, h1, h2 => by
    cases h1
    cases q <;> first | (cases h2; rfl) | (unfold PV.dat at h2; split at h2 <;> first | (cases h2; rfl) | cases h2) | cases h2
  | .bl a, q, d, e, h1, h2 => by
    cases h1
    cases q <;> first | (cases h2; rfl) | (unfold PV.dat at h2; split at h2 <;> first | (cases h2; rfl) | cases h2) | cases h2
  | .int a, q, d, e, h1, h2 => by
    cases h1
    cases q <;> first | (cases h2; rfl) | (unfold PV.dat at h2; split at h2 <;> first | (cases h2; rfl) | cases h2) | cases h2
  | .str a, q, d, e, h1, h2 => by
    cases h1
    cases q <;> first | (cases h2; rfl) | (unfold PV.dat at h2; split at h2 <;> first | (cases h2; rfl) | cases h2) | cases h2
  | .tup xs, q, d, e, h1, h2 => by
    unfold PV.dat at h1
    split at h1
    · rename_i ds e1
      cases h1
      cases q with
      | tup ys =>
        unfold PV.dat at h2
        split at h2
        · rename_i es e2
          cases h2
          show PyData.eqvAll ds es = eqP (.tup xs) (.tup ys)
          rw [eqPL_ok xs ys ds es e1 e2]; simp only [eqP]
        · cases h2
      | lst ys => unfold PV.dat at h2; split at h2 <;> first | (cases h2; simp only [eqP]; rfl) | cases h2
      | frz ys => unfold PV.dat at h2; split at h2 <;> first | (cases h2; simp only [eqP]; rfl) | cases h2
      | non => cases h2; simp only [eqP]; rfl
      | bl b => cases h2; simp only [eqP]; rfl
      | int b => cases h2; simp only [eqP]; rfl
      | str b => cases h2; simp only [eqP]; rfl
      | _ => cases h2
    · cases h1
  | .lst xs, q, d, e, h1, h2 => by
    unfold PV.dat at h1
    split at h1
    · rename_i ds e1
      cases h1
      cases q with
      | lst ys =>
        unfold PV.dat at h2
        split at h2
        · rename_i es e2
          cases h2
          show PyData.eqvAll ds es = eqP (.lst xs) (.lst ys)
          rw [eqPL_ok xs ys ds es e1 e2]; simp only [eqP]
        · cases h2
      | frz ys =>
        unfold PV.dat at h2
        split at h2
        · rename_i es e2
          cases h2
          show PyData.eqvAll ds es = eqP (.lst xs) (.frz ys)
          rw [eqPL_ok xs ys ds es e1 e2]; simp only [eqP]
        · cases h2
      | tup ys => unfold PV.dat at h2; split at h2 <;> first | (cases h2; simp only [eqP]; rfl) | cases h2
      | non => cases h2; simp only [eqP]; rfl
      | bl b => cases h2; simp only [eqP]; rfl
      | int b => cases h2; simp only [eqP]; rfl
      | str b => cases h2; simp only [eqP]; rfl
      | _ => cases h2
    · cases h1
  | .frz xs, q, d, e, h1, h2 => by
    unfold PV.dat at h1
    split at h1
    · rename_i ds e1
      cases h1
      cases q with
      | lst ys =>
        unfold PV.dat at h2
        split at h2
        · rename_i es e2
          cases h2
          show PyData.eqvAll ds es = eqP (.frz xs) (.lst ys)
          rw [eqPL_ok xs ys ds es e1 e2]; simp only [eqP]
        · cases h2
      | frz ys =>
        unfold PV.dat at h2
        split at h2
        · rename_i es e2
          cases h2
          show PyData.eqvAll ds es = eqP (.frz xs) (.frz ys)
          rw [eqPL_ok xs ys ds es e1 e2]; simp only [eqP]
        · cases h2
      | tup ys => unfold PV.dat at h2; split at h2 <;> first | (cases h2; simp only [eqP]; rfl) | cases h2
      | non => cases h2; simp only [eqP]; rfl
      | bl b => cases h2; simp only [eqP]; rfl
      | int b => cases h2; simp only [eqP]; rfl
      | str b => cases h2; simp only [eqP]; rfl
      | _ => cases h2
    · cases h1
  | .rat _, _, _, _, h1, _ => nomatch h1
  | .obj _ _ _, _, _, _, h1, _ => nomatch h1
  | .ptr _, _, _, _, h1, _ => nomatch h1
  | .adr _, _, _, _, h1, _ => nomatch h1
  | .ty _, _, _, _, h1, _ => nomatch h1
theorem eqPL_ok : ∀ (xs ys : List PV) (ds es : List PyData), PV.datL xs = some ds → PV.datL ys = some es → PyData.eqvAll ds es = eqPL xs ys
  | [], [], ds, es, h1, h2 => by cases h1; cases h2; simp only [eqPL]; rfl
  | [], y :: ys, ds, es, h1, h2 => by
    cases h1
    unfold PV.datL at h2
    split at h2
    · cases h2; simp only [eqPL]; rfl
    · cases h2
  | x :: xs, [], ds, es, h1, h2 => by
    cases h2
    unfold PV.datL at h1
    split at h1
    · cases h1; simp only [eqPL]; rfl
    · cases h1
  | x :: xs, y :: ys, ds, es, h1, h2 => by
    unfold PV.datL at h1 h2
    split at h1
    · rename_i d ds' e1 e2
      cases h1
      split at h2
      · rename_i e es' e3 e4
        cases h2
        show (PyData.eqv d e && PyData.eqvAll ds' es') = eqPL (x :: xs) (y :: ys)
        rw [eqP_ok x y d e e1 e3, eqPL_ok xs ys ds' es' e2 e4]; simp only [eqPL]
      · cases h2
    · cases h1
end
@[simp] def gEqD (neg : Bool) : PV → PV → S → R S PV := fun p q s => if okD 8 p = true ∧ okD 8 q = true then .ok (.bl (xor neg (eqP p q))) s else .bad
theorem gEqD_ok (neg : Bool) (p q : PV) (s : S) : gEqD neg p q s = .bad ∨ fEqD neg p q s = gEqD neg p q s := by
  unfold gEqD
  by_cases h : okD 8 p = true ∧ okD 8 q = true
  · obtain ⟨d, d1, d2, d3⟩ := okD_dat 8 p h.1
    obtain ⟨e, e1, e2, e3⟩ := okD_dat 8 q h.2
    refine .inr ?_
    rw [if_pos h]
    unfold fEqD
    rw [d1, e1]
    have sd : SeqAt.shaped d = true := by unfold SeqAt.shaped; rw [d2, Bool.true_and]; exact decide_eq_true (by omega)
    have se : SeqAt.shaped e = true := by unfold SeqAt.shaped; rw [e2, Bool.true_and]; exact decide_eq_true (by omega)
    show (if SeqAt.shaped d = true ∧ SeqAt.shaped e = true then _ else _) = _
    rw [if_pos ⟨sd, se⟩, eqP_ok p q d e d1 e1]
  · rw [if_neg h]; exact .inl rfl
section
variable {X : Cx} {g : Gx}
theorem o_add : OJ X g (binaryOp .Add) gAdd := ((o_addI).or (o_catL.or (o_catT.or o_catS))).below fun p q s => by cases p <;> first | exact .inl rfl | (cases q <;> first | exact .inl rfl | exact .inr rfl | (simp only [gAdd, orB, fI2]; split <;> simp))
theorem o_mul : OJ X g (binaryOp .Mult) gMul := (o_mulI.or o_repL).below fun p q s => by cases p <;> first | exact .inl rfl | (cases q <;> first | exact .inl rfl | exact .inr rfl | (simp only [gMul, orB, fI2, FMul]; split <;> simp_all))
theorem o_fdiv : OJ X g (binaryOp .FloorDiv) gFdiv := o_fdivI.below fun p q s => by cases p <;> first | exact .inl rfl | (cases q <;> first | exact .inl rfl | exact .inr rfl | (simp only [gFdiv, fI2, FFdiv]; split <;> first | exact .inr rfl | (split <;> first | exact .inr rfl | exact .inl rfl)))
theorem o_mod : OJ X g (binaryOp .Mod) gMod := o_modI.below fun p q s => by cases p <;> first | exact .inl rfl | (cases q <;> first | exact .inl rfl | exact .inr rfl | (simp only [gMod, fI2, FMod]; split <;> first | exact .inr rfl | exact .inl rfl))
theorem o_pow : OJ X g (binaryOp .Pow) gPow := o_powI.below fun p q s => by cases p <;> first | exact .inl rfl | (cases q <;> first | exact .inl rfl | exact .inr rfl | (simp only [gPow, fI2, FPow]; split <;> first | exact .inr rfl | exact .inl rfl))
theorem o_ltI : OJ X g (compareOp .Lt) gLt := o_lt.below fun p q s => by cases p <;> first | exact .inl rfl | (cases q <;> first | exact .inl rfl | exact .inr rfl)
theorem o_gtI : OJ X g (compareOp .Gt) gGt := o_gt.below fun p q s => by cases p <;> first | exact .inl rfl | (cases q <;> first | exact .inl rfl | exact .inr rfl)
theorem o_geI : OJ X g (compareOp .GtE) gGe := o_ge.below fun p q s => by cases p <;> first | exact .inl rfl | (cases q <;> first | exact .inl rfl | exact .inr rfl)
theorem o_eq (hu : X.A.units + 64 < cLine) : OJ X g (compareOp .Eq) (gEqD false) := (o_eqD hu).below fun p q s => gEqD_ok false p q s
theorem o_ne (hu : X.A.units + 64 < cLine) : OJ X g (compareOp .NotEq) (gEqD true) := (o_neD hu).below fun p q s => gEqD_ok true p q s
end
@[simp] def fuI (i : Nat) : S → Nat := fun s => match s.env[i]? with
  | some (some (.val (.int n))) => n.natAbs + 1
  | _ => 0
@[simp] def fuL (i : Nat) : S → Nat := fun s => match s.env[i]? with
  | some (some (.own xs)) => xs.length + 1
  | some (some (.val (.lst xs))) => xs.length + 1
  | _ => 0
end L3
namespace L3
open PySem PySem.Spec PyProof.Rows L2
@[simp] def bInt : TP → Option Bool
  | .int => some true | .bl => some true | .cls _ => none | .nam _ => none | _ => some false
@[simp] def bBool : TP → Option Bool
  | .bl => some true | .cls _ => none | .nam _ => none | _ => some false
@[simp] def bStr : TP → Option Bool
  | .str => some true | .cls _ => none | .nam _ => none | _ => some false
@[simp] def bTup : TP → Option Bool
  | .tup => some true | .cls _ => none | .nam _ => none | _ => some false
@[simp] def bLst : TP → Option Bool
  | .lst => some true | .cls _ => none | .nam _ => none | _ => some false
@[simp] def bRat : TP → Option Bool
  | .rat => some true | .cls _ => none | .nam _ => none | _ => some false
end L3
namespace L3
open PySem PySem.Spec PyProof.Rows L2
@[simp] def fMt (n : Nat) (F : DF) : List PV → S → R S PV := fun qs s => if qs.length = n then fnS F qs s else .bad
@[simp] def fCm (n : Nat) (CR : Addr) (F : DF) : List PV → S → R S PV := fun qs s => if qs.length + 1 = n then fnS F (.adr CR :: qs) s else .bad
end L3
namespace L3
open PySem PySem.Spec PyProof.Rows L2
@[simp] def setP : List Nat → List PV → S → Option S
  | [], [], s => some s
  | j :: js, v :: vs, s => setP js vs (setE j v s)
  | _, _, _ => none
@[simp] def dPar (js : List Nat) (d : DA) : DS := fun s => (d s).bind fun vs s1 => match setP js vs s1 with
  | some s2 => .ok .nx s2
  | none => .bad
section
variable {X : Cx} {g : Gx} {a b c e : Expr} {es : List Expr} {da db dc de : DE} {dr : DA} {dx : DX} {pos : Pos} {i j l : Nat} {x y z : Str} {px py pz pt : Pos} {kt k2 : _} {pt2 : Pos}
theorem LA.mono {K : PySem.W.Frag} (σ : St) (H : Hp) (Q Q' : List V → Hp → Prop) (i : ∀ us H1, Q us H1 → Q' us H1) (h : LA K g dr σ H Q) : LA K g dr σ H Q' := let ⟨l, s, e, ok, q⟩ := h; ⟨l, s, e, ok, RunA.mono q i⟩
theorem LX.mono {K : PySem.W.Frag} (σ : St) (H : Hp) (Q Q' : List V → Hp → Prop) (i : ∀ us H1, Q us H1 → Q' us H1) (h : LX K g dx σ H Q) : LX K g dx σ H Q' := by
  obtain ⟨l, s, e, ok, q⟩ := h
  refine ⟨l, s, e, ok, ?_⟩
  cases e1 : dx s with
  | bad => rw [e1] at q; exact q
  | exn x t => rw [e1] at q; exact q
  | ok svs t => rw [e1] at q; exact fun l' us P a b c d f => i _ _ (q l' us P a b c d f)
end
end L3
namespace L3
open PySem PySem.Spec PyProof.Rows L2
section
variable {prog : Program} {w : World} {A : Around} {E : Value → Shared → Prop} {s : Shared} {a b : Addr} {xs ys : Array Value} {Q : Value → Shared → Prop}
theorem rc_empty (hl : s.heap.IsList a xs) (hb : s.heap.IsList b ys) (hu : A.units < cLine) (h0 : xs.size = 0 ∨ ys.size = 0) (h : Q (.bool (xs.size == ys.size)) s) : wpAny (model prog w) A (richCompare .Eq (.ref a) (.ref b)) Q E s := by
  obtain ⟨⟨c1, d1, t1, l1⟩, o1, e1, n1, f1⟩ := id hl
  obtain ⟨⟨c2, d2, t2, l2⟩, o2, e2, n2, f2⟩ := id hb
  simp only at e1 f1 e2 f2
  subst e1 f1 e2 f2
  have ta : s.TypeIs (.ref a) "list" := ⟨_, o1, rfl⟩
  refine wpAny_richCompare_same_room (op := .Eq) ta ⟨_, o2, rfl⟩ F.slot_list_eq ?_ hu
  by_cases z : xs.size = ys.size
  · refine call_meets F.slot_list_eq ta F.entry_list_eq (F.args_list_eq_2 _ _) (SeqAt.list_eqAt a b xs ys n1 n2 d1 d2 l1 l2 z (fun _ => true)) ⟨o1, o2, fun j h1 h2 => absurd h0 (by omega), ?_⟩
    have e : (List.range xs.size).all (fun _ => true) = (xs.size == ys.size) := by simp [z]
    rw [e]
    exact ⟨(fun x => nomatch x), h⟩
  · have z' : (xs.size != ys.size) = true := by simpa using z
    refine call_meets F.slot_list_eq ta F.entry_list_eq (F.args_list_eq_2 _ _) (SeqAt.list_eq_lengthsAt a b xs ys n1 n2 d1 d2 l1 l2 z') ⟨o1, o2, ?_⟩
    have e : (xs.size == ys.size) = false := by simpa using z
    rw [e] at h
    exact ⟨(fun x => nomatch x), h⟩
theorem rn_empty (hl : s.heap.IsList a xs) (hb : s.heap.IsList b ys) (hu : A.units < cLine) (h0 : xs.size = 0 ∨ ys.size = 0) (h : Q (.bool (!(xs.size == ys.size))) s) : wpAny (model prog w) A (richCompare .NotEq (.ref a) (.ref b)) Q E s := by
  obtain ⟨⟨c1, d1, t1, l1⟩, o1, e1, n1, f1⟩ := id hl
  obtain ⟨⟨c2, d2, t2, l2⟩, o2, e2, n2, f2⟩ := id hb
  simp only at e1 f1 e2 f2
  subst e1 f1 e2 f2
  have ta : s.TypeIs (.ref a) "list" := ⟨_, o1, rfl⟩
  refine wpAny_richCompare_same_room (op := .NotEq) ta ⟨_, o2, rfl⟩ F.slot_list_ne ?_ hu
  by_cases z : xs.size = ys.size
  · refine call_meets F.slot_list_ne ta F.entry_list_ne (F.args_list_ne_2 _ _) (SeqAt.list_neAt a b xs ys n1 n2 d1 d2 l1 l2 z (fun _ => true)) ⟨o1, o2, fun j h1 h2 => absurd h0 (by omega), ?_⟩
    have e : (List.range xs.size).all (fun _ => true) = (xs.size == ys.size) := by simp [z]
    rw [e]
    exact ⟨(fun x => nomatch x), h⟩
  · have z' : (xs.size != ys.size) = true := by simpa using z
    refine call_meets F.slot_list_ne ta F.entry_list_ne (F.args_list_ne_2 _ _) (SeqAt.list_ne_lengthsAt a b xs ys n1 n2 d1 d2 l1 l2 z') ⟨o1, o2, ?_⟩
    have e : (xs.size == ys.size) = false := by simpa using z
    rw [e] at h
    exact ⟨(fun x => nomatch x), h⟩
end
def fEqE (neg : Bool) : PV → PV → S → R S PV := fun p q s => match p, q with
  | .lst xs, .lst ys => if xs.length = 0 ∨ ys.length = 0 then .ok (.bl (xor neg (xs.length == ys.length))) s else .bad
  | .str a, .str b => .ok (.bl (xor neg (a == b))) s
  | _, _ => .bad
theorem dec_strV {a b : Str} : decide (V.str a = V.str b) = (a == b) := by
  rw [Bool.eq_iff_iff]
  simp
section
variable {X : Cx} {g : Gx}
theorem o_eqE (hu : X.A.units + 64 < cLine) : OJ X g (compareOp .Eq) (fEqE false) := by
  intro pins s σ x y v u Q l st p q I rx ry ok rp rq run
  unfold fEqE at run
  split at run
  · rename_i xs ys
    split at run
    · rename_i h0
      obtain ⟨a, vs, rfl, _, ha, ra⟩ := rp
      obtain ⟨b, ws, rfl, _, hb, rb⟩ := rq
      cases (show v = .ref a from rx)
      cases (show u = .ref b from ry)
      obtain ⟨its, rv, p1, _⟩ := I.list (SqL.of ha)
      obtain ⟨its2, rv2, p2, _⟩ := I.list (SqL.of hb)
      have l1 : its.toArray.size = _ := (List.size_toArray ..).trans (rv.length.symm.trans ra.length.symm)
      have l2 : its2.toArray.size = _ := (List.size_toArray ..).trans (rv2.length.symm.trans rb.length.symm)
      refine rc_empty p1.isList p2.isList (by omega) (by rw [l1, l2]; exact h0) ?_
      rw [l1, l2]
      have z := run l (.bl (xor false (xs.length == ys.length))) (Step.refl l) ok rfl
      rw [Bool.false_xor] at z
      exact ⟨.bl (xs.length == ys.length), l.H, I, rfl, z⟩
    · exact run.elim
  · rename_i a b
    have z := run l (.bl (xor false (a == b))) (Step.refl l) ok rfl
    cases (show x = .str a from rp)
    cases (show y = .str b from rq)
    refine op_eq pins s σ l.H _ _ v u Q I rx ry ⟨rfl, ?_⟩
    rw [dec_strV]
    rw [Bool.false_xor] at z
    exact z
  · exact run.elim
theorem o_neE (hu : X.A.units + 64 < cLine) : OJ X g (compareOp .NotEq) (fEqE true) := by
  intro pins s σ x y v u Q l st p q I rx ry ok rp rq run
  unfold fEqE at run
  split at run
  · rename_i xs ys
    split at run
    · rename_i h0
      obtain ⟨a, vs, rfl, _, ha, ra⟩ := rp
      obtain ⟨b, ws, rfl, _, hb, rb⟩ := rq
      cases (show v = .ref a from rx)
      cases (show u = .ref b from ry)
      obtain ⟨its, rv, p1, _⟩ := I.list (SqL.of ha)
      obtain ⟨its2, rv2, p2, _⟩ := I.list (SqL.of hb)
      have l1 : its.toArray.size = _ := (List.size_toArray ..).trans (rv.length.symm.trans ra.length.symm)
      have l2 : its2.toArray.size = _ := (List.size_toArray ..).trans (rv2.length.symm.trans rb.length.symm)
      refine rn_empty p1.isList p2.isList (by omega) (by rw [l1, l2]; exact h0) ?_
      rw [l1, l2]
      have z := run l (.bl (xor true (xs.length == ys.length))) (Step.refl l) ok rfl
      rw [Bool.true_xor] at z
      exact ⟨.bl (!(xs.length == ys.length)), l.H, I, rfl, z⟩
    · exact run.elim
  · rename_i a b
    have z := run l (.bl (xor true (a == b))) (Step.refl l) ok rfl
    cases (show x = .str a from rp)
    cases (show y = .str b from rq)
    refine op_ne pins s σ l.H _ _ v u Q I rx ry ⟨rfl, ?_⟩
    rw [dec_strV]
    rw [Bool.true_xor] at z
    exact z
  · exact run.elim
/-- == of data, or of a list and an empty list -/
@[simp] def gEq (neg : Bool) : PV → PV → S → R S PV := fun p q s => if okD 8 p = true ∧ okD 8 q = true then .ok (.bl (xor neg (eqP p q))) s else fEqE neg p q s
theorem gEq_str (neg : Bool) (a b : Str) (s : S) : gEq neg (.str a) (.str b) s = .ok (.bl (xor neg (a == b))) s := by
  unfold gEq
  split
  · simp [eqP]
  · rfl
theorem gEq_ok (neg : Bool) (p q : PV) (s : S) : gEq neg p q s = .bad ∨ orB (gEqD neg p q s) (fEqE neg p q s) = gEq neg p q s := by
  refine .inr ?_
  simp only [gEq, gEqD]
  split <;> rfl
theorem o_eqA (hu : X.A.units + 64 < cLine) : OJ X g (compareOp .Eq) (gEq false) := ((o_eq hu).or (o_eqE hu)).below fun p q s => gEq_ok false p q s
theorem o_neA (hu : X.A.units + 64 < cLine) : OJ X g (compareOp .NotEq) (gEq true) := ((o_ne hu).or (o_neE hu)).below fun p q s => gEq_ok true p q s
end
end L3
namespace L3
open PySem PySem.Spec PyProof.Rows L2
theorem DefX.funD {K : PySem.W.Frag} {d : DefX} (hs : d.sup = false) (e : fnX K (d.ad K) = d.val) (c : d.ok K = true) : ∃ fd, FunD K d.name d.qual d.params d.body d.scope (d.dvs K) (d.kws K) (d.ad K) fd := by
  obtain ⟨kp, c2⟩ := He.ba c
  unfold fnX at e
  revert c2 e
  cases q : K.lookup (d.ad K) with
  | none => exact fun e c2 => nomatch c2
  | some o =>
    obtain ⟨oc, od, dt, osl⟩ := o
    cases dt with
    | func fd =>
      intro e c2
      obtain ⟨n1, n2, n3, n4, n5, n6, n7, n8, n9, n10, n11, n12, n13, n14, n15⟩ := fd
      have e2 : (some (n1, n2, n3, n4, n5, n6, n7.map fun p => (p.1, 0), n15) : He.FnW) = some (d.name, d.qual, d.params, .stmts d.body, d.scope, mainGlobals, supCl d.sup, builtinsNs) := e
      rw [hs] at e2
      simp only [Option.some.injEq, Prod.mk.injEq] at e2
      obtain ⟨g1, g2, g3, g4, g5, g6, g7, g8⟩ := e2
      have g7 : n7 = [] := List.map_eq_nil_iff.mp g7
      subst g1 g2 g3 g4 g5 g6 g7 g8
      obtain ⟨k1, k2⟩ := He.ba (show (PySem.W.codeIn K n13 d.qual && (He.dflB K n8 (d.dvs K) && He.kwdB K n9 (d.kws K))) = true from c2)
      obtain ⟨k3, k4⟩ := He.ba k2
      exact ⟨_, ⟨oc, od, n8, n9, n10, n11, n12, n13, n14, osl, rfl, q, k1, He.dflB_ok k3, He.kwdB_ok k4⟩, kp⟩
    | _ => exact fun e c2 => nomatch c2
section
variable {fa : List He.Fa} {xs : List (PySem.W.Frag → Bool)} {fn : List DefX} {K : PySem.W.Frag}
theorem SaysX.fact (c : SaysX fa xs fn K) (i : Nat) {f : He.Fa} (h : fa[i]? = some f := by rfl) : f.ok K = true :=
  List.all_eq_true.mp (He.ba (show ((fa.all fun f => f.ok K) && ((xs.all fun x => x K) && fn.all fun d => d.ok K)) = true from congrArg (fun z : AlX => z.1) c)).1 f (List.mem_of_getElem? h)
theorem SaysX.chk (c : SaysX fa xs fn K) (i : Nat) {x : PySem.W.Frag → Bool} (h : xs[i]? = some x := by rfl) : x K = true :=
  List.all_eq_true.mp (He.ba (He.ba (show ((fa.all fun f => f.ok K) && ((xs.all fun x => x K) && fn.all fun d => d.ok K)) = true from congrArg (fun z : AlX => z.1) c)).2).1 x (List.mem_of_getElem? h)
theorem SaysX.at_ (c : SaysX fa xs fn K) (i : Nat) {d : DefX} (h : fn[i]? = some d) : fnX K (d.ad K) = d.val ∧ d.ok K = true := by
  have c2 := (He.ba (He.ba (show ((fa.all fun f => f.ok K) && ((xs.all fun x => x K) && fn.all fun d => d.ok K)) = true from congrArg (fun z : AlX => z.1) c)).2).2
  have e : fn.map (fun d => fnX K (d.ad K)) = fn.map DefX.val := congrArg (fun z : AlX => z.2) c
  have e2 : (fn.map fun d => fnX K (d.ad K))[i]? = (fn.map DefX.val)[i]? := by rw [e]
  rw [List.getElem?_map, List.getElem?_map, h] at e2
  exact ⟨Option.some.inj e2, List.all_eq_true.mp c2 d (List.mem_of_getElem? h)⟩
theorem SaysX.def_ (c : SaysX fa xs fn K) (i : Nat) {d : DefX} (h : fn[i]? = some d := by rfl) (hs : d.sup = false := by rfl) : ∃ fd, FunD K d.name d.qual d.params d.body d.scope (d.dvs K) (d.kws K) (d.ad K) fd :=
  DefX.funD hs (c.at_ i h).1 (c.at_ i h).2
end
end L3
namespace L3
open PySem PySem.Spec PyProof.Rows L2
/-- what the law's promise asks, from the plain law -/
theorem law_sp {K : PySem.W.Frag} {CR : Addr} {F : DF} {n : Nat} (h : ∀ ns : List Int, ns.length ≤ n → ∃ mu', F [.frz (ns.map .int)] [] = .ok (.bl true) mu') (H : Hp) (a : Addr) (ns : List Int) (hl : ns.length ≤ n) (hT : ∀ x ∈ TK K, H (tA K x) = some (.tbl #[])) (hS : SqL K H a (ns.map V.int)) :
    spJ K CR 1 F [.ref a] H (fun v _ => v = .bl true) fun _ _ _ => False := by
  obtain ⟨mu', e⟩ := h ns hl
  have rl : ∀ (ns : List Int), RepGL K ⟨CR, fun _ => False, W0⟩ ⟨[], fun a => IsT K a, H⟩ (ns.map PV.int) (ns.map V.int) := fun ns => by
    induction ns with
    | nil => rfl
    | cons i r ih => exact ⟨.int i, _, rfl, rfl, ih⟩
  have nT : ∀ o, Rd H a (.lst o) → ¬ IsT K a := fun o e ⟨x, hx, z⟩ => by
    rw [z] at e
    rcases e with e | ⟨u, e⟩
    · rw [hT x hx] at e; cases e
    · rw [hT x hx] at e; cases e
  refine ⟨fun _ => False, ⟨[], fun a => IsT K a, H⟩, [.frz (ns.map .int)], [], rfl, ⟨fun a => by simp, ⟨rfl, fun i v e => by simp at e, fun i v e => by simp at e, fun i j xs ys a _ e => by simp at e, rfl, fun n a m h1 _ => by simp at h1, List.nodup_nil, fun a h => by simp at h, fun a h => ?_, fun a _ h => h.elim, fun x hx => ⟨⟨x, hx, rfl⟩, by simp, #[], hT x hx, trivial, fun pos cv z => ?_⟩⟩⟩, ?_, rfl, ?_⟩
  · obtain ⟨x, hx, z⟩ : IsT K a := h.elim id False.elim
    rw [z]
    show H _ ≠ none
    rw [hT x hx]; simp
  · have z : codeAmong pos [] = some cv := z
    simp [codeAmong] at z
  · refine ⟨.ref a, [], rfl, ⟨a, ns.map V.int, rfl, ?_, rl ns⟩, rfl⟩
    rcases hS with hS | hS
    · exact .inl ⟨fun z => by rcases z with z | z; exact nT _ hS z; exact z, hS⟩
    · exact .inr hS
  · rw [e]
    intro l' u _ _ r
    exact r
end L3
namespace L3
open PySem PySem.Spec PyProof.Rows L2
end L3
namespace L3
open PySem PySem.Spec PyProof.Rows L2
/-- a promise that lets nothing out, whatever is wished of exceptions -/
theorem calm_of {P : Program} {w : World} {K : PySem.W.Frag} {mg : Str → Option Value} {base : Heap} {CX : CXT} {k : Nat} {f : Addr} {fd : FuncData} {ps : List Str} {sp : Sp} (F : FnG P w K mg base (L2.CX P w) k f fd ps sp) : FnG P w K mg base CX k f fd ps (fun vs H Q _ => sp vs H Q fun _ _ _ => False) where
  len := fun vs H Q E h => F.len vs H Q _ h
  run := fun A outer s H args us vs Q E hr e0 hb r h => codeAny_mono (F.run A outer s H args us vs Q _ hr e0 hb r h) fun r s' hq => by
    cases r with
    | error e =>
      obtain ⟨_, _, _, _, _, _, _, _, _, _, _, _, z⟩ := (show L2.CX P w outer H s (fun _ _ _ => False) e s' from hq)
      exact z.elim
    | ok fl => cases fl <;> exact hq
end L3
namespace L3
open PySem PySem.W PyProof.Rows
end L3
namespace L3
open PySem PySem.Spec PyProof.Rows L2
/-- a binary operator: a ratio on the left, or what h says -/
def gRL (F : DF) (h : PV → PV → S → R S PV) : PV → PV → S → R S PV := fun p q s => match p, q with
  | .rat a, .rat b => fMt 2 F [.rat a, .rat b] s
  | .rat a, .int b => fMt 2 F [.rat a, .int b] s
  | p, q => h p q s
/-- .. or on either side -/
def gRR (F FR : DF) (h : PV → PV → S → R S PV) : PV → PV → S → R S PV := fun p q s => match p, q with
  | .rat a, .rat b => fMt 2 F [.rat a, .rat b] s
  | .rat a, .int b => fMt 2 F [.rat a, .int b] s
  | .int a, .rat b => fMt 2 FR [.rat b, .int a] s
  | p, q => h p q s
def gR1 (F : DF) (h : PV → S → R S PV) : PV → S → R S PV := fun p s => match p with
  | .rat a => fMt 1 F [.rat a] s
  | p => h p s
def gEqR (F : DF) (h : PV → PV → S → R S PV) : PV → PV → S → R S PV := fun p q s => match p, q with
  | .rat a, .rat b => fMt 2 F [.rat a, .rat b] s
  | .rat a, .int b => fMt 2 F [.rat a, .int b] s
  | .rat a, .bl b => fMt 2 F [.rat a, .bl b] s
  | .rat a, .str b => fMt 2 F [.rat a, .str b] s
  | .rat a, .non => fMt 2 F [.rat a, .non] s
  | p, q => h p q s
@[simp] def notK : PV → S → R S PV := fun v s => match v with
  | .bl b => .ok (.bl (!b)) s
  | _ => .bad
def gNeR (F : DF) (h : PV → PV → S → R S PV) : PV → PV → S → R S PV := fun p q s => match p, q with
  | .rat a, .rat b => (fMt 2 F [.rat a, .rat b] s).bind notK
  | .rat a, .int b => (fMt 2 F [.rat a, .int b] s).bind notK
  | .rat a, .bl b => (fMt 2 F [.rat a, .bl b] s).bind notK
  | .rat a, .str b => (fMt 2 F [.rat a, .str b] s).bind notK
  | .rat a, .non => (fMt 2 F [.rat a, .non] s).bind notK
  | p, q => h p q s
end L3
namespace L3
open PySem PySem.Spec PyProof.Rows L2
@[simp] def dFnD (F : DF) (n : Nat) (dps : List PV) (da : DA) : DE := fun s => (da s).bind fun ps s1 => if ps.length = n then fnS F (ps ++ dps) s1 else .bad
@[simp] def dFnK (F : DF) (n m : Nat) (gP : List PV → List PV → List PV) (da dk : DA) : DE := fun s => (da s).bind fun ps s1 => (dk s1).bind fun zs s2 => if ps.length = n ∧ zs.length = m then fnS F (gP ps zs) s2 else .bad
section
variable {X : Cx} {g : Gx} {a b c e : Expr} {es : List Expr} {da db dc de : DE} {dr dk : DA} {pos p : Pos} {x : Str} {f : Addr} {k n : Nat} {ps : List Str} {F : DF} {dps : List PV}
/-- keywords' values -/
abbrev JK (X : Cx) (g : Gx) (kws : List Keyword) (d : DA) : Prop := PK X kws (LA X.K g d)
theorem PK.cq {kws : List Keyword} {t t' : TA} (h : PK X kws t) (i : ∀ σ H Q, t' σ H Q → t σ H Q) : PK X kws t' := ⟨fun pos pins s σ H Q I q => h.run pos pins s σ H Q I (i σ H Q q)⟩
theorem jk_nil : JK X g [] dNil := PK.cq pk_nil fun σ H Q q => by
  obtain ⟨l, s, rfl, ok, q⟩ := q
  exact q l [] (Step.refl l) ok rfl
theorem jk_cons {kws : List Keyword} {nm : Option Str} {kpos : Pos} (ha : JE X g e de) (hr : JK X g kws dk) : JK X g (⟨nm, e, kpos⟩ :: kws) (dCons de dk) := PK.cq (pk_cons ha hr) fun σ H Q q => by
  obtain ⟨l, s, rfl, ok, q⟩ := q
  refine ⟨l, s, rfl, ok, Run.mono (Run.bindA q) fun u H1 ⟨l1, s1, v, e1, ok1, r1, st1, h1⟩ => ?_⟩
  refine ⟨l1, s1, e1, ok1, RunA.mono (RunA.bindA h1) fun us H2 ⟨l2, s2, vs, e2, ok2, r2, st2, h2⟩ => ?_⟩
  subst e2
  exact h2 l2 (u :: us) (Step.refl _) ok2 ⟨u, us, rfl, st2.rep r1, r2⟩
end
end L3
namespace L3
open PySem PySem.Spec PyProof.Rows L2
section
variable {α : Type} (le : α → α → Bool)
def insB (x : α) : List α → List α
  | [] => [x]
  | y :: r => if le x y = true then x :: y :: r else y :: insB x r
def srt : List α → List α
  | [] => []
  | x :: r => insB le x (srt r)
theorem insB_perm (x : α) : ∀ l : List α, (insB le x l).Perm (x :: l)
  | [] => .refl _
  | y :: r => by
    unfold insB
    split
    · exact .refl _
    · exact ((insB_perm x r).cons y).trans (List.Perm.swap x y r)
theorem srt_perm : ∀ l : List α, (srt le l).Perm l
  | [] => .refl _
  | x :: r => (insB_perm le x _).trans ((srt_perm r).cons x)
variable {le} (tot : ∀ a b, le a b = true ∨ le b a = true) (tr : ∀ a b c, le a b = true → le b c = true → le a c = true) (as : ∀ a b, le a b = true → le b a = true → a = b)
include tot tr in
theorem insB_sorted (x : α) : ∀ l : List α, l.Pairwise (fun a b => le a b = true) → (insB le x l).Pairwise (fun a b => le a b = true)
  | [], _ => List.pairwise_singleton ..
  | y :: r, h => by
    unfold insB
    rw [List.pairwise_cons] at h
    split
    · rename_i hx
      refine List.pairwise_cons.mpr ⟨fun z hz => ?_, List.pairwise_cons.mpr h⟩
      rcases List.mem_cons.mp hz with e | e
      · rw [e]; exact hx
      · exact tr _ _ _ hx (h.1 z e)
    · rename_i hx
      refine List.pairwise_cons.mpr ⟨fun z hz => ?_, insB_sorted x r h.2⟩
      rcases List.mem_cons.mp ((insB_perm le x r).mem_iff.mp hz) with e | e
      · rw [e]; exact (tot x y).resolve_left hx
      · exact h.1 z e
include tot tr in
theorem srt_sorted : ∀ l : List α, (srt le l).Pairwise (fun a b => le a b = true)
  | [] => List.Pairwise.nil
  | x :: r => insB_sorted tot tr x _ (srt_sorted r)
end
def leI (a b : Int) : Bool := decide (a ≤ b)
abbrev isort (l : List Int) : List Int := srt leI l
@[simp] def fSortI : List PV → S → R S PV := fun ps s => match ps with
  | [.lst xs] => (match intsP xs with
    | some is => .ok (.lst ((isort is).map .int)) s
    | none => .bad)
  | _ => .bad
@[simp] def boolsP : List PV → Option (List Bool)
  | [] => some []
  | .bl b :: r => (match boolsP r with | some bs => some (b :: bs) | none => none)
  | _ => none
@[simp] def fAll : List PV → S → R S PV := fun ps s => match ps with
  | [.lst xs] => (match boolsP xs with
    | some bs => .ok (.bl (bs.all id)) s
    | none => .bad)
  | _ => .bad
/-- x in a list, x and its items data -/
@[simp] def gIn (neg : Bool) : PV → PV → S → R S PV := fun p q s => match q with
  | .lst xs => if okD 8 p = true ∧ okD 8 (.lst xs) = true then .ok (.bl (xor neg (xs.any fun z => eqP z p))) s else .bad
  | .tup xs => if okD 8 p = true ∧ okD 8 (.tup xs) = true then .ok (.bl (xor neg (xs.any fun z => eqP z p))) s else .bad
  | .str y => (match p with
    | .str x => .ok (.bl (xor neg (!(Builtin.Str.occurrences y x 0 y.length 1).isEmpty))) s
    | _ => .bad)
  | _ => .bad
end L3
namespace L3
open PySem PySem.Spec PyProof.Rows L2 PySem.Calls
def gAbs (F : DF) : List PV → S → R S PV := fun ps s => match ps with
  | [.rat a] => fMt 1 F [.rat a] s
  | ps => fAbsI ps s
end L3
namespace L3
open PySem PySem.Spec PyProof.Rows L2 PySem.Calls
end L3
namespace L3
open PySem PySem.Spec PyProof.Rows L2 PySem.Calls
def ratsP : List PV → Option (List Rat)
  | [] => some []
  | .rat q :: xs => (ratsP xs).map (q :: ·)
  | _ :: _ => none
end L3
namespace L3
open PySem PySem.Spec PyProof.Rows L2 PySem.Calls
section
variable {X : Cx} {g : Gx} {o e : Expr} {es : List Expr} {da : DE} {dr : DA}
@[simp] def fCount : PV → List PV → S → R S PV := fun p ps s => match p, ps with
  | .lst xs, [x] => if okD 8 x = true ∧ okD 8 (.lst xs) = true then .ok (.int (xs.countP fun z => eqP z x : Nat)) s else .bad
  | _, _ => .bad
@[simp] def fMaxL : List PV → S → R S PV := fun ps s => match ps with
  | [.lst xs] => (match intsP xs with
    | some (i :: is) => .ok (.int (is.foldl max i)) s
    | _ => .bad)
  | _ => .bad
/-- xs.count(x) -/
@[simp] def dCount (da : DE) (dr : DA) : DE := fun s => (da s).bind fun p s1 => match p with
  | .lst xs => (dr s1).bind fun ps s2 => fCount (.lst xs) ps s2
  | _ => .bad
end
end L3
namespace L3
open PySem PySem.Spec PyProof.Rows L2
theorem room_top {k : Nat} (h : L2.Room k callerA) : Room k callerA := ⟨h, rfl⟩
end L3
namespace L3
open PySem PySem.Spec PyProof.Rows L2
/-- the text of data -/
def rpr (p : PV) : Str := match p.dat with
  | some d => d.shown
  | none => ""
mutual
/-- what can be shown: ints below 2 ^ 1920 -/
def okS : PV → Bool
  | .non => true
  | .bl _ => true
  | .int i => decide (i.natAbs.log2 < 1920)
  | .str _ => true
  | .tup xs => okSL xs
  | .lst xs => okSL xs
  | .frz xs => okSL xs
  | _ => false
def okSL : List PV → Bool
  | [] => true
  | x :: xs => okS x && okSL xs
end
mutual
/-- a bound of the text's length -/
def szP : PV → Nat
  | .str x => (reprText x).length
  | .tup xs => szPL xs + 6
  | .lst xs => szPL xs + 6
  | .frz xs => szPL xs + 6
  | _ => 2000
def szPL : List PV → Nat
  | [] => 0
  | x :: xs => szP x + 2 + szPL xs
end
theorem textFrom_le : ∀ (ts : List Str) (k : Nat) (acc : Str), (textFrom k acc ts).length ≤ acc.length + piled ts
  | [], k, acc => Nat.le_refl _
  | t :: ts, k, acc => by
    have h := textFrom_le ts (k + 1) (acc ++ (if k > 0 then ", " else "" : String) ++ t)
    have e : (acc ++ (if k > 0 then ", " else "" : String) ++ t).length ≤ acc.length + 2 + t.length := by
      rw [strLen_append, strLen_append]
      split
      · exact Nat.le_refl _
      · have : (Str.ofString "").length = 0 := rfl
        show acc.length + (Str.ofString "").length + t.length ≤ _
        omega
    rw [piled_cons]
    show (textFrom (k + 1) (acc ++ (if k > 0 then ", " else "" : String) ++ t) ts).length ≤ _
    omega
theorem listText_le (ts : List Str) : (listText ts).length ≤ piled ts + 2 := by
  have h := textFrom_le ts 0 "["
  have e : (listText ts).length = (textFrom 0 "[" ts).length + 1 := strLen_append _ _
  have e2 : (Str.ofString "[").length = 1 := rfl
  have h : (textFrom 0 "[" ts).length ≤ 1 + piled ts := h
  omega
theorem tupleText_le (ts : List Str) : (tupleText ts).length ≤ piled ts + 5 := by
  have e : (tupleText ts).length = (("(" : Str) ++ Str.join ", " ts).length + (Str.ofString (if ts.length == 1 then ",)" else ")")).length := strLen_append _ _
  rw [strLen_append] at e
  have e1 : (Str.ofString "(").length = 1 := rfl
  have e3 : (Str.ofString (if ts.length == 1 then ",)" else ")")).length ≤ 2 := by split <;> exact (by decide)
  have e4 : (Str.join ", " ts).length ≤ piled ts + 2 := by
    by_cases z : ts = []
    · subst z
      exact Nat.zero_le _
    · have := join_length_add ts z
      omega
  have e1 : (("(" : Str)).length = 1 := rfl
  omega
theorem int_show {i : Int} (h : i.natAbs.log2 < 1920) : (toString i : String).length ≤ 1930 := by
  have hn : i.natAbs < 2 ^ 1921 := Nat.lt_of_lt_of_le Nat.lt_log2_self (Nat.pow_le_pow_right (by decide) (by omega))
  have h1 := nat_repr_length_le (k := 1921) (by decide) hn
  cases i with
  | ofNat n =>
    have : (toString (Int.ofNat n) : String) = Nat.repr n := rfl
    rw [this]
    have h1 : (Nat.repr n).length ≤ 1921 := h1
    omega
  | negSucc n =>
    have : (toString (Int.negSucc n) : String) = "-" ++ Nat.repr (n + 1) := rfl
    rw [this, String.length_append]
    have h1 : (Nat.repr (n + 1)).length ≤ 1921 := h1
    have : ("-" : String).length = 1 := rfl
    omega
mutual
theorem okS_dat : ∀ (n : Nat) (p : PV) (d : PyData), okS p = true → p.dat = some d → d.showable = true ∧ d.hasDict = false ∧ d.shown.length ≤ szP p
  | n, .non, d, h, e => by cases e; exact ⟨rfl, rfl, by show (Str.ofString "None").length ≤ 2000; decide⟩
  | n, .bl b, d, h, e => by cases e; refine ⟨rfl, rfl, ?_⟩; cases b <;> exact (by decide)
  | n, .int i, d, h, e => by
    cases e
    have h : decide (i.natAbs.log2 < 1920) = true := by unfold okS at h; exact h
    have h2 := int_show (of_decide_eq_true h)
    refine ⟨h, rfl, ?_⟩
    show (Str.ofString (toString i)).length ≤ 2000
    rw [PySem.ofString_length]
    omega
  | n, .str x, d, h, e => by cases e; exact ⟨rfl, rfl, by unfold szP; exact Nat.le_refl _⟩
  | n, .tup xs, d, h, e => by
    unfold PV.dat at e
    split at e
    · rename_i ds q
      cases e
      obtain ⟨a, b, c⟩ := okSL_dat n xs ds (by unfold okS at h; exact h) q
      refine ⟨a, b, ?_⟩
      have := tupleText_le (PyData.shownAll ds)
      unfold szP
      show (tupleText (PyData.shownAll ds)).length ≤ _
      omega
    · cases e
  | n, .lst xs, d, h, e => by
    unfold PV.dat at e
    split at e
    · rename_i ds q
      cases e
      obtain ⟨a, b, c⟩ := okSL_dat n xs ds (by unfold okS at h; exact h) q
      refine ⟨a, b, ?_⟩
      have := listText_le (PyData.shownAll ds)
      unfold szP
      show (listText (PyData.shownAll ds)).length ≤ _
      omega
    · cases e
  | n, .frz xs, d, h, e => by
    unfold PV.dat at e
    split at e
    · rename_i ds q
      cases e
      obtain ⟨a, b, c⟩ := okSL_dat n xs ds (by unfold okS at h; exact h) q
      refine ⟨a, b, ?_⟩
      have := listText_le (PyData.shownAll ds)
      unfold szP
      show (listText (PyData.shownAll ds)).length ≤ _
      omega
    · cases e
  | n, .rat _, d, h, e => nomatch e
  | n, .obj _ _ _, d, h, e => nomatch e
  | n, .ptr _, d, h, e => nomatch e
  | n, .adr _, d, h, e => nomatch e
  | n, .ty _, d, h, e => nomatch e
  | n, .dk _ _, d, h, e => nomatch e
  | n, .dt _ _, d, h, e => nomatch e
  | n, .exc _ _ _, d, h, e => nomatch e
theorem okSL_dat : ∀ (n : Nat) (xs : List PV) (ds : List PyData), okSL xs = true → PV.datL xs = some ds → PyData.showableAll ds = true ∧ PyData.hasDictAll ds = false ∧ piled (PyData.shownAll ds) ≤ szPL xs
  | n, [], ds, h, e => by cases e; exact ⟨rfl, rfl, Nat.le_refl _⟩
  | n, x :: xs, ds, h, e => by
    have h : (okS x && okSL xs) = true := by unfold okSL at h; exact h
    rw [Bool.and_eq_true] at h
    unfold PV.datL at e
    split at e
    · rename_i d1 ds1 e1 e2
      cases e
      obtain ⟨a1, a2, a3⟩ := okS_dat n x d1 h.1 e1
      obtain ⟨b1, b2, b3⟩ := okSL_dat n xs ds1 h.2 e2
      refine ⟨?_, ?_, ?_⟩
      · show (d1.showable && PyData.showableAll ds1) = true
        rw [a1, b1]; rfl
      · show (d1.hasDict || PyData.hasDictAll ds1) = false
        rw [a2, b2]; rfl
      · show piled (d1.shown :: PyData.shownAll ds1) ≤ _
        rw [piled_cons]
        unfold szPL
        omega
    · cases e
end
/-- repr(x), x data -/
def fRepr : List PV → S → R S PV := fun ps s => match ps with
  | [.lst xs] => if okD 8 (.lst xs) = true ∧ okS (.lst xs) = true ∧ szP (.lst xs) ≤ 16777216 then .ok (.str (rpr (.lst xs))) s else .bad
  | [.frz xs] => if okD 8 (.frz xs) = true ∧ okS (.frz xs) = true ∧ szP (.frz xs) ≤ 16777216 then .ok (.str (rpr (.frz xs))) s else .bad
  | [.tup xs] => if okD 8 (.tup xs) = true ∧ okS (.tup xs) = true ∧ szP (.tup xs) ≤ 16777216 then .ok (.str (rpr (.tup xs))) s else .bad
  | [.int i] => if okS (.int i) = true then .ok (.str (rpr (.int i))) s else .bad
  | _ => .bad
section
variable {X : Cx} {g : Gx}
theorem repr_asks {l : Lc} {st : S} {σ : St} {p : PV} {v : V} {u : Value} {s : Shared} {pins : List (Addr × Obj)} {Q : VK} (hg : X.A.guards = some []) (hu : X.A.units + 64 < cLine) (I : Inv X pins σ l.H s) (rv : RelV v u) (ok : Sok X.K g l st σ) (rp : RepG X.K g l p v)
    (h : okD 8 p = true ∧ okS p = true ∧ szP p ≤ 16777216) (hr : ∃ a, v = .ref a) (run : Run X.K g (.ok (.str (rpr p)) st) l σ Q) : wpAny (model X.prog X.w) X.A (call (.builtin "repr") [u]) (EP X pins σ Q) X.xe s := by
  obtain ⟨d, d1, d2, d3⟩ := okD_dat 8 p h.1
  obtain ⟨e1, e2, e3⟩ := okS_dat 0 p d h.2.1 d1
  obtain ⟨a, rfl⟩ := hr
  obtain rfl : u = Value.ref a := rv
  obtain ⟨as, r⟩ := Dp.reads I d (.ref a) (.ref a) (PV.dat_dp p d _ d1 rp) rfl
  refine repr_of_reads' r e1 (fun z => by rw [e2] at z; cases z) hg (by omega) (fun _ _ z => z) (fun h' w tk k => ?_) (by rw [line_eq]; omega)
  have e : rpr p = d.shown := by unfold rpr; rw [d1]
  exact ⟨.str d.shown, l.H, I.kept k, ⟨_, rfl⟩, run l _ (Step.refl l) ok (by rw [e]; rfl)⟩
theorem c_repr {k : Nat} (hr : Room k X.A) : CJ X g (fun us => call (.builtin "repr") us) fRepr := by
  intro pins s σ xs vs Q l st ps I rv ok rp run
  have one : ∀ {p : PV}, RepGL X.K g l [p] xs → ∃ v u, xs = [v] ∧ vs = [u] ∧ RelV v u ∧ RepG X.K g l p v := by
    rintro p ⟨v, r, rfl, h1, h2⟩
    cases (show r = [] from h2)
    cases rv with
    | cons a b => cases b; exact ⟨_, _, rfl, rfl, a, h1⟩
  unfold fRepr at run
  split at run
  · split at run
    · rename_i h
      obtain ⟨v, u, rfl, rfl, r1, r2⟩ := one rp
      obtain ⟨a, _, e, _⟩ := id r2
      exact repr_asks hr.gd hr.units I r1 ok r2 h ⟨a, e⟩ run
    · exact run.elim
  · split at run
    · rename_i h
      obtain ⟨v, u, rfl, rfl, r1, r2⟩ := one rp
      obtain ⟨a, _, e, _⟩ := id r2
      exact repr_asks hr.gd hr.units I r1 ok r2 h ⟨a, e⟩ run
    · exact run.elim
  · split at run
    · rename_i h
      obtain ⟨v, u, rfl, rfl, r1, r2⟩ := one rp
      obtain ⟨a, _, e, _⟩ := id r2
      exact repr_asks hr.gd hr.units I r1 ok r2 h ⟨a, e⟩ run
    · exact run.elim
  · rename_i i
    split at run
    · rename_i h
      obtain ⟨v, u, rfl, rfl, r1, r2⟩ := one rp
      cases (show v = .int i from r2)
      have h : decide (i.natAbs.log2 < 1920) = true := by unfold okS at h; exact h
      exact SkE.call_repr_int pins s σ l.H _ _ Q I rv ⟨i, rfl, of_decide_eq_true h, run l _ (Step.refl l) ok rfl⟩
    · exact run.elim
  · exact run.elim
end
end L3
namespace L3
open PySem PySem.Spec PyProof.Rows L2
def keyP : PV → Option Key
  | .int i => some (.inl i)
  | .str x => some (.inr x)
  | _ => none
def lookK {κ : Type} [DecidableEq κ] (k : κ) : List κ → List PV → Option PV
  | j :: ks, x :: xs => if j = k then some x else lookK k ks xs
  | _, _ => none
@[simp] def fIxD : PV → PV → S → R S PV := fun p q s => match p with
  | .dk ks xs => (match keyP q with
    | some k => optR (lookK k ks xs) s
    | none => .bad)
  | _ => .bad
@[simp] def fGetD : PV → PV → PV → S → R S PV := fun p q z s => match p with
  | .dk ks xs => (match keyP q with
    | some k => .ok ((lookK k ks xs).getD z) s
    | none => .bad)
  | _ => .bad
@[simp] def dIxD (da db : DE) : DE := fun s => (da s).bind fun p s1 => (db s1).bind fun q s2 => fIxD p q s2
@[simp] def dGetD (da db dc : DE) : DE := fun s => (da s).bind fun p s1 => match p with
  | .dk ks xs => (db s1).bind fun q s2 => (dc s2).bind fun z s3 => fGetD (.dk ks xs) q z s3
  | _ => .bad
@[simp] def dDk0 : DE := fun s => .ok (.dk [] []) s
@[simp] def dDisp (ks : List Key) (d : DA) : DE := fun s => (d s).bind fun xs s1 => if ks.length = xs.length then .ok (.dk ks xs) s1 else .bad
theorem mergeK_nodup : ∀ (more kvs : List (Key × V)), ((kvs ++ more).map (·.1)).Nodup → mergeK kvs more = kvs ++ more
  | [], kvs, _ => by rw [List.append_nil]; rfl
  | p :: r, kvs, h => by
    have hn : valV kvs p.1 = none := by
      have key : ∀ l : List (Key × V), p.1 ∉ l.map (·.1) → valV l p.1 = none := by
        intro l
        induction l with
        | nil => intro _; rfl
        | cons q l ih =>
          intro hq
          rw [valV_neg (fun z => hq (by rw [List.map_cons]; exact List.mem_cons.mpr (.inl z.symm)))]
          exact ih fun z => hq (by rw [List.map_cons]; exact List.mem_cons_of_mem _ z)
      refine key kvs fun z => ?_
      rw [List.map_append, List.nodup_append] at h
      exact h.2.2 _ z _ (by rw [List.map_cons]; exact List.mem_cons_self) rfl
    show mergeK (putK kvs p.1 p.2) r = _
    rw [putK_new _ hn]
    have e : kvs ++ p :: r = kvs ++ [(p.1, p.2)] ++ r := by simp
    rw [mergeK_nodup r (kvs ++ [(p.1, p.2)]) (by rw [← e]; exact h), e]
section
variable {X : Cx} {g : Gx} {a b c e o : Expr} {es : List Expr} {da db dc de : DE} {dr : DA} {pos : Pos}
theorem Run.dk {K : PySem.W.Frag} {l : Lc} {s : S} {σ : St} {Q : VK} {ks : List Key} {xs : List PV} {vs : List V} (run : Run K g (.ok (.dk ks xs) s) l σ Q) (ok : Sok K g l s σ) (r : RepGL K g l xs vs) (hl : ks.length = vs.length) (p : Addr) (hp : l.H p = none) : Q (.ref p) (upd l.H p (.dK (ks.zip vs))) :=
  run ⟨l.al, l.M, upd l.H p (.dK (ks.zip vs))⟩ _ (Step.alloc hp) (ok.alloc hp) ⟨p, vs, rfl, ok.fresh hp, .inl upd_same, hl, (Step.alloc hp).reps r⟩
/-- the pairs of a display whose keys are written -/
def JP (X : Cx) (g : Gx) (pos : Pos) (keys : List (Option Expr)) (vals : List Expr) (ks : List Key) (d : DA) : Prop :=
  ∃ trs, PPs X pos keys vals trs ∧ ∀ (N : Addr → Prop) (σ : St) (R : List (V × V) → Hp → Prop) (l : Lc) (s : S), Sok X.K ⟨g.CR, N, g.W⟩ l s σ → RunA X.K ⟨g.CR, N, g.W⟩ (d s) l σ (fun us H' => R ((ks.map kV).zip us) H') → tPairs trs σ l.H R
theorem jp_nil : JP X g pos [] [] [] dNil := ⟨_, pps_nil, fun N σ R l s ok q => q l [] (Step.refl l) ok rfl⟩
theorem jp_cons {k v : Expr} {key : Key} {ks : List Key} {keys : List (Option Expr)} {vals : List Expr} (hk : PE X k (tC (kV key))) (hv : ∀ N, JE X ⟨g.CR, N, g.W⟩ v de) (hr : JP X g pos keys vals ks dr) : JP X g pos (some k :: keys) (v :: vals) (key :: ks) (dCons de dr) := by
  obtain ⟨trs, h1, h2⟩ := hr
  have any : PE X v (fun σ H Q => ∃ N, LE X.K ⟨g.CR, N, g.W⟩ de σ H Q) := ⟨fun pins s σ H Q I q => let ⟨N, q⟩ := q; (hv N).run pins s σ H Q I q⟩
  refine ⟨_, pps_cons hk any h1, fun N σ R l s ok q => ?_⟩
  refine ⟨N, l, s, rfl, ok, Run.mono (Run.bindA q) fun u H1 ⟨l1, s1, p, e1, ok1, r1, st1, h3⟩ => ?_⟩
  subst e1
  refine h2 N σ _ l1 s1 ok1 ?_
  cases e : dr s1 with
  | bad => rw [e] at h3; exact h3
  | exn x t => rw [e] at h3; exact h3
  | ok xs t =>
    rw [e] at h3
    intro l' us st ok' ru
    exact h3 l' (u :: us) st ok' ⟨u, us, rfl, st.rep r1, ru⟩
/-- {k: v, ..} -/
theorem j_disp {keys : List (Option Expr)} {vals : List Expr} {ks : List Key} (h : JP X g pos keys vals ks dr) (hd : ks.Nodup := by decide) (h15 : ks.length ≤ 15 := by decide) (hall : keys.all (·.isSome) = true := by rfl) (hl : keys.length = vals.length := by rfl) (h0 : keys ≠ [] := by simp) (hk15 : keys.length ≤ 15 := by decide) :
    JE X g (.Dict keys vals pos) (dDisp ks dr) := by
  refine ⟨fun pins s0 σ H Q I q => ?_⟩
  obtain ⟨l, s, rfl, ok, q⟩ := q
  obtain ⟨trs, h1, h2⟩ := h
  refine (pe_disp h1 hall hl h0 hk15).run pins s0 σ l.H Q I fun p hp => ?_
  have st1' : Step l ⟨l.al, l.M, upd l.H p (.dK [])⟩ := Step.alloc hp
  have ne : ∀ a o, l.H a = some o → a ≠ p := fun a o h => ne_of_none h hp
  have ok1 : Sok X.K ⟨g.CR, fun a => g.N a ∨ a = p, g.W⟩ ⟨l.al, l.M, upd l.H p (.dK [])⟩ s σ := ok.to rfl rfl rfl (fun a o _ h => by show upd l.H p _ a = some o; rw [upd_ne (ne a o h)]; exact h) (fun a o n h z => z.elim n (ne a o h)) (fun a h => by
    show upd l.H p _ a ≠ none
    rcases h with h | h | h
    · exact upd_there (ok.there a (.inl h))
    · exact upd_there (ok.there a (.inr h))
    · rw [h, upd_same]; simp)
  refine h2 _ σ _ ⟨l.al, l.M, upd l.H p (.dK [])⟩ s ok1 ?_
  simp only [dDisp] at q
  cases e : dr s with
  | bad => rw [e] at q; exact q
  | exn x t =>
    rw [e] at q
    exact fun l' c d st' ok' rx => q l' c d (st1'.trans st') (ok'.less fun a h => .inl h) (rx.less fun a h => .inl h)
  | ok xs t =>
    rw [e] at q
    have q : Run X.K g (if ks.length = xs.length then .ok (.dk ks xs) t else .bad) l σ Q := q
    by_cases z : ks.length = xs.length
    · rw [if_pos z] at q
      intro l2 us st2 ok2 r2
      have nM : ¬ l.M p := fun y => ok.there p (.inl y) hp
      have hp2 : l2.H p = some (.dK []) := st2.keep p _ nM upd_same
      have lu : ks.length = us.length := by rw [z]; exact RepL.length r2
      have hz : ∀ (ks : List Key) (us : List V), ks.length = us.length → (ks.map kV).zip us = (ks.zip us).map (fun kv => (kV kv.1, kv.2)) := by
        intro ks
        induction ks with
        | nil => intro us _; rfl
        | cons k ks ih =>
          intro us hl
          cases us with
          | nil => cases hl
          | cons u us =>
            show (kV k, u) :: (ks.map kV).zip us = _
            rw [ih us (by simpa using hl)]; rfl
      refine ⟨hp2, ks.zip us, hz ks us lu, by rw [List.length_zip]; omega, ?_⟩
      rw [mergeK_nodup (ks.zip us) [] (by
        rw [List.nil_append, List.map_fst_zip (by omega)]
        exact hd), List.nil_append]
      -- behind it
      have nM2 : ¬ l2.M p := fun y => by
        rcases st2.new p y with h | h
        · exact nM h
        · have h : upd l.H p (.dK []) p = none := h
          rw [upd_same] at h; cases h
      have fin : ∀ a o, ¬ (g.N a ∨ a = p) → l2.H a = some o → upd l2.H p (.dK (ks.zip us)) a = some o := fun a o n h => by rw [upd_ne (fun y => n (.inr y))]; exact h
      have st3 : Step l ⟨l2.al, l2.M, upd l2.H p (.dK (ks.zip us))⟩ := by
        have st := st1'.trans st2
        exact ⟨st.pre, st.new, fun a o n h => by show upd l2.H p _ a = some o; rw [upd_ne (ne a o h)]; exact st.keep a o n h, fun a h => upd_there (st.dom a h)⟩
      have ok3 : Sok X.K g ⟨l2.al, l2.M, upd l2.H p (.dK (ks.zip us))⟩ t σ := ok2.to rfl rfl rfl fin (fun a o n h y => n (.inl y)) fun a h => by
        rcases h with h | h
        · exact upd_there (ok2.there a (.inl h))
        · exact upd_there (ok2.there a (.inr (.inl h)))
      refine q ⟨l2.al, l2.M, upd l2.H p (.dK (ks.zip us))⟩ (.ref p) st3 ok3 ⟨p, us, rfl, fun y => ?_, .inl upd_same, lu, ?_⟩
      · rcases y with y | y
        · exact nM2 y
        · exact ok.there p (.inr y) hp
      · exact RepL.to (l := l2) (l' := ⟨l2.al, l2.M, upd l2.H p (.dK (ks.zip us))⟩) (g := ⟨g.CR, fun a => g.N a ∨ a = p, g.W⟩) (g' := g) rfl rfl rfl fin (fun a o n h y => n (.inl y)) r2
    · rw [if_neg z] at q
      exact q.elim
end
end L3
namespace L3
open PySem PySem.Spec PyProof.Rows L2
@[simp] def dMatch (d : DE) (m : Str → DS) : DS := fun s => (d s).bind fun v s1 => match v with
  | .str x => m x s1
  | _ => .bad
end L3
namespace L3
open PySem PySem.Spec PyProof.Rows L2
/-- where a parameter's value comes from: (0, i) the i-th by position, (1, i) the i-th default, (2, i) the i-th keyword -/
def src {α : Type} (us ds zs : List α) : Nat × Nat → Option α
  | (0, i) => us[i]?
  | (1, i) => ds[i]?
  | (_, i) => zs[i]?
def pick3 {α : Type} (is : List (Nat × Nat)) (us ds zs : List α) : List α := is.filterMap (src us ds zs)
theorem vals_get {vs : List V} {us : List Value} (h : Vals vs us) : ∀ i : Nat, (∃ v u, vs[i]? = some v ∧ us[i]? = some u ∧ RelV v u) ∨ (vs[i]? = none ∧ us[i]? = none) := fun i => by
  cases e : vs[i]? with
  | some v =>
    obtain ⟨u, h1, h2⟩ := h.get e
    exact .inl ⟨v, u, rfl, h1, h2⟩
  | none => exact .inr ⟨rfl, by rw [List.getElem?_eq_none_iff] at e ⊢; rw [← h.length]; exact e⟩
theorem pick3_vals {is : List (Nat × Nat)} {vs ds zs : List V} {us ts ws : List Value} (h1 : Vals vs us) (h2 : Vals ds ts) (h3 : Vals zs ws) : Vals (pick3 is vs ds zs) (pick3 is us ts ws) := by
  induction is with
  | nil => exact .nil
  | cons p is ih =>
    have one : (∃ v u, src vs ds zs p = some v ∧ src us ts ws p = some u ∧ RelV v u) ∨ (src vs ds zs p = none ∧ src us ts ws p = none) := by
      obtain ⟨k, i⟩ := p
      match k with
      | 0 => exact vals_get h1 i
      | 1 => exact vals_get h2 i
      | k + 2 => exact vals_get h3 i
    unfold pick3 at ih ⊢
    rcases one with ⟨v, u, e1, e2, r⟩ | ⟨e1, e2⟩
    · rw [List.filterMap_cons_some e1, List.filterMap_cons_some e2]
      exact .cons r ih
    · rw [List.filterMap_cons_none e1, List.filterMap_cons_none e2]
      exact ih
section
variable {K : PySem.W.Frag} {x qual : Str} {params : Arguments} {body : List Stmt} {scope : Scope} {dvs : List V} {kws : List (Str × V)} {f : Addr} {fd : FuncData} {ps : List Str}
/-- no default is read -/
theorem FunD.kb3 (F : FunD K x qual params body scope [] kws f fd) (n : Nat) (ks : List Str) (is : List (Nat × Nat))
    (h : ∀ (kV doc pm : Value) (an : Option Addr) (cdv ct : Value) (us ws : List Value), us.length = n → ws.length = ks.length → bindArgs (PySem.W.fnOf x qual params body scope .none kV doc pm an cdv ct) ⟨us, ks.zip ws⟩ = pure (ps.zip (pick3 is us [] ws))) :
    KBn K fd ps n ks (fun us ws => pick3 is us [] ws) (fun vs zs => pick3 is vs [] zs) := by
  obtain ⟨c1, d1, v1, k1, doc1, pm1, an1, cd1, ct1, sl1, hfd, hlk, hcd, hD, hK⟩ := F.ex
  subst hfd
  rcases hD with ⟨_, hv⟩ | ⟨hv, _⟩
  · subst hv
    exact ⟨fun s us ws X l1 l2 => .of_eq (h k1 doc1 pm1 an1 cd1 ct1 us ws l1 l2), fun r1 r2 => pick3_vals r1 .nil r2⟩
  · exact absurd rfl hv
end
end L3
namespace L3
open PySem PySem.Spec PyProof.Rows L2
end L3
namespace L3
open PySem PySem.Spec PyProof.Rows L2
theorem EB.facts : ∀ b : EB, ExcBaseFacts b.B b.nw b.it b.bm
  | .ve => PySem.F.excBase_ValueError
  | .le => PySem.F.excBase_LookupError
  | .ae => PySem.F.excBase_ArithmeticError
theorem EB.store : ∀ b : EB, StoreFacts b.B b.bm "object.__setattr__" "object"
  | .ve => PySem.F.store_ValueError
  | .le => PySem.F.store_LookupError
  | .ae => PySem.F.store_ArithmeticError
/-- what the text says of an own exception class at C -/
structure OxB (K : PySem.W.Frag) (b : EB) (C : Addr) : Prop where
  ini : PySem.W.excInitIn K C b.bm b.nw = true
  ovr : PySem.W.excOver K C b.bm = true
  hd : PySem.W.hasDictIn K C = true
  sa : PySem.W.findIn K (.ref C) "__setattr__" = some (some (.builtin "object.__setattr__"))
  exC : PySem.W.subIn K (.ref C) (.type "BaseException") = some true
  tyC : PySem.W.typeIn K (.ref C) = some (.type "type")
  kC : PySem.W.keepIn K (.ref C) = true
section
variable {prog : Program} {w : World} {A : Around} {R : Result → Shared → Prop} {hp : Heap} {g : Array GenState} {d : Drawn} {t : Nat} {os : OsState}
/-- the first field of an exception that is being made -/
theorem osaB {K : PySem.W.Frag} {b : EB} {name : Str} {tk : Tok} {v : Value} {x C : Addr} {fv : Array Value} (T : OxB K b C) (X : K.In hp) (hx : hp.get? x = some { cls := .ref C, data := .fields fv }) (ha : PySem.W.takerIn K C name = some none)
    (hq : ∀ h' tk' dx, (∀ b o, b ≠ x → hp.get? b = some o → h'.get? b = some o) → hp.objs.size ≤ dx → dx ≠ x → h'.get? x = some { cls := .ref C, dict := some dx, data := .fields fv } →
      h'.Ns1 dx (fun y => if y = name then some v else none) → R (.ok (.ret .none)) ⟨h', g, d, tk', os⟩) :
    codeAny (model prog w) A (.call (.builtin "object.__setattr__") ⟨[.ref x, .str name tk, v], []⟩) R ⟨hp, g, d, t, os⟩ := by
  have I : PySem.W.InstAt hp x { cls := .ref C, data := .fields fv } C none := ⟨hx, rfl, rfl, trivial⟩
  refine PySem.W.osa_openX (s := ⟨hp, g, d, t, os⟩) b.store X I T.ovr ha fun bb => ?_
  dsimp only
  obtain ⟨cd, hcd, hdict⟩ := PySem.W.any_some T.hd
  have hcls : PySem.W.Looks (model prog w) hp (classData C) cd := PySem.W.looks_clsIn X hcd
  have hxs : x ≠ hp.objs.size := Nat.ne_of_lt (Heap.lt_size hx)
  obtain ⟨nm, bs, mro, ns, qn, hd, sn, sb, ab, col, del⟩ := cd
  have hh : hd = true := hdict
  subst hh
  unfold Builtin.ObjectAttr.storeInOwnDict Builtin.ObjectAttr.ownDictForStores
  repeat (first | with_reducible refine PySem.HandSPX.store_in_new ?_ ?_ | with_reducible refine wpAny_loadPart_at hx ?_ | with_reducible refine hcls.at ?_ | wp_step)
  · exact ⟨_, #[], _, (Heap.get?_update_ne _ _ _ _ hxs.symm).trans (Heap.get?_push_at rfl rfl), rfl, fun e he => absurd he (by simp), fun _ => rfl⟩
  · intro h' tk' hn' hs
    have old : ∀ {b : Addr} {o : Obj}, b ≠ x → hp.get? b = some o → h'.get? b = some o := fun {b o} hb ho =>
      (hs.2 b (Nat.ne_of_lt (Heap.lt_size ho))).trans ((Heap.get?_update_ne _ _ _ _ hb).trans (Heap.get?_push_of_some _ ho))
    refine hq h' tk' hp.objs.size (fun _ _ => old) (Nat.le_refl _) hxs.symm ?_ hn'
    have e : (hp.push { cls := .type "dict", data := .dict #[] }).get? x = some { cls := .ref C, data := .fields fv } := Heap.get?_push_of_some _ hx
    exact (hs.2 x hxs).trans (Heap.get?_update_self _ e rfl)
end
section
variable {X : Cx} {pins : List (Addr × Obj)} {σ : St} {H : Hp} {s : Shared} {a C : Addr} {f : Str} {y : V} {u : Value} {b : EB}
theorem ostB {Q : Unit → Shared → Prop} {E : Value → Shared → Prop} (T : OxB X.K b C) (I : Inv X pins σ H s) (e : H a = some (exo a C none)) (hno : PySem.W.takerIn X.K C f = some none) (ry : RelV y u)
    (h : ∀ dx s', H dx = none → dx ≠ a → Inv X pins σ (upd (upd H dx (exd dx [(f, y)])) a (exo a C (some dx))) s' → Q () s') : wpAny (model X.prog X.w) X.A (setAttr (.ref a) f u) Q E s := by
  obtain ⟨t1, ho⟩ := exo_at I.hok e
  obtain ⟨hp, g, d, t, os⟩ := s
  refine PySem.W.set_plain I.kIn (ox := { cls := .ref C, dict := none, data := .fields #[.ref t1, .none, .none, .none, .bool false, .none] }) (od := none) ⟨ho, rfl, rfl, trivial⟩ T.sa ?_
  refine osaB T I.kIn ho hno fun h' tk' dx k dn dne hx hn => ?_
  have hnd : H dx = none := I.hok.fresh dn
  have nd : ∀ {c : Addr} {o : Obj}, hp.get? c = some o → c ≠ dx := fun {c o} q => Nat.ne_of_lt (Nat.lt_of_lt_of_le (Heap.lt_size q) dn)
  have na : ∀ {c : Addr}, H c = none → c ≠ a := fun {c} n z => by rw [z, e] at n; cases n
  have both : ∀ {c : Addr} {o : HO}, H c = some o → exo a C none ≠ o → upd (upd H dx (exd dx [(f, y)])) a (exo a C (some dx)) c = H c := fun {c o} q n => by rw [upd_ne (at_ne e q n), upd_ne (ne_of_none q hnd)]
  refine h dx _ hnd dne (I.un (t' := tk') { keep := fun c o q n _ _ => k c o (na n) q, slot := fun c o q n _ _ => ⟨o.slots, k c o (na n) q⟩, free := fun c o q n _ => by rw [upd_ne (na n), upd_ne (nd q)]; exact n, there := fun c o q _ => ?_, tups := fun c xs q => by rw [both q exo_tup]; exact q, frzs := fun c o v q => by rw [both q exo_frz]; exact q, tbls := fun c ps q => ⟨#[], by rw [both q exo_tbl, q]; simp⟩ } fun c o q => ?_)
  · by_cases hc : c = a
    · rw [hc]; exact ⟨_, hx⟩
    · exact ⟨o, k c o hc q⟩
  · by_cases hc : c = a
    · subst hc
      rw [upd_same] at q
      cases q
      exact exo_ok hx
    · rw [upd_ne hc] at q
      by_cases hd : c = dx
      · subst hd
        rw [upd_same] at q
        cases q
        exact exd_ok hn (relO_put (fs := []) ry fun g => True.intro)
      · rw [upd_ne hd] at q
        refine (I.hok c o q).stay (fun c' v hc' z => k c' v ?_ z) (fun c' hc' => by rw [both hc' exo_own]; exact hc') fun c' xs hc' => by rw [both hc' exo_tup]; exact hc'
        rcases hc' with hc' | hc'
        · rw [hc']; exact hc
        · exact at_ne e hc' exo_own
/-- what such an __init__ keeps -/
def spI (C : Addr) (f : Str) : Sp := fun vs H Q _ => ∃ a v, vs = [.ref a, v] ∧ H a = some (exo a C none) ∧ ∀ dx, H dx = none → dx ≠ a → Q .non (upd (upd H dx (exd dx [(f, v)])) a (exo a C (some dx)))
def tOstB (C : Addr) (f : Str) (to te : TE) : TS := fun D σ H => te σ H fun y H1 => to σ H1 fun x H2 => ∃ a, x = .ref a ∧ H2 a = some (exo a C none) ∧ ∀ dx, H2 dx = none → dx ≠ a → D.nx σ (upd (upd H2 dx (exd dx [(f, y)])) a (exo a C (some dx)))
theorem ps_ostB {o e : Expr} {to te : TE} {p' pos : Pos} (T : OxB X.K b C) (hno : PySem.W.takerIn X.K C f = some none) (ho : PE X o to) (he : PE X e te) (hs : swapsWith e (some (.Attribute o f p')) pos.line X.env = pure false := by rfl) : PS X (.Assign [.Attribute o f p'] e pos) (tOstB C f to te) := by
  refine ⟨fun pins s σ H D I h => ?_⟩
  refine plainObj_wpAny_Assign_Attribute (thn (he.run pins s σ H _ I h) fun v s1 ⟨y, H1, I1, r1, q1⟩ => thn (ho.run pins s1 σ H1 _ I1 q1) fun u s2 ⟨x, H2, I2, r2, a, ex, ea, q⟩ => ?_) hs
  subst ex
  obtain rfl : u = Value.ref a := r2
  exact ostB T I2 ea hno r1 fun dx s' n ne J => ⟨σ, _, J, q dx n ne⟩
end
/-- the class's own __init__(self, f): self.f = f -/
theorem initB {P : Program} {w : World} {K : PySem.W.Frag} {mg : Str → Option Value} {base : Heap} {C fI : Addr} {b : EB} {x qual f : Str} {params : Arguments} {body : List Stmt} {scope : Scope} {dvs : List V} {kws : List (Str × V)} {fd : FuncData} {q1 q2 q3 q4 : Pos} (T : OxB K b C)
    (hno : PySem.W.takerIn K C f = some none) (F : FunD K x qual params body scope dvs kws fI fd) (S : FnScope ["self", f] ["self", f] scope) (hb : body = [.Assign [.Attribute (.Name "self" q1) f q2] (.Name f q3) q4]) (h1 : (f == ("__debug__" : Str)) = false) (h2 : (f == ("__classdict__" : Str)) = false) :
    FnG P w K mg base (L2.CX P w) 1 fI fd ["self", f] (spI C f) := by
  refine fnG_of F S (fun vs H Q E h => ?_) fun cdv A outer s H vs Q E hr h => ?_
  · obtain ⟨a, v, rfl, _⟩ := h
    rfl
  · obtain ⟨a, v, rfl, ea, q⟩ := h
    subst hb
    have vis : ∀ y : Str, y ∈ [("self" : Str), f] → Vis scope y := fun y hy => (S.par y hy).elim (fun z => .inl z) fun z => .inr (.inl z)
    refine ⟨_, pss_one (ps_ostB (X := cxOf (L2.CX P w) P w K mg base ["self", f] qual scope fI cdv A outer s H E) (C := C) (f := f) T hno (pe_var (i := 0) rfl (vis "self" (by simp))) (pe_var (i := 1) rfl (vis f (by simp)) h1 h2)), ?_⟩
    exact ⟨v, rfl, .ref a, rfl, a, rfl, ea, q⟩
/-- C(e), C with such an __init__ -/
theorem pmkB {X : Cx} {b : EB} {C fI : Addr} {k : Nat} {fd : FuncData} {f x : Str} {e : Expr} {ta : TA} {p pos : Pos} (T : OxB X.K b C) (iC : PySem.W.findIn X.K (.ref C) "__init__" = some (some (.ref fI))) (tI : PySem.W.isFn X.K (.ref fI) = true)
    (F1 : FnG X.prog X.w X.K X.mg X.base (L2.CX X.prog X.w) k fI fd ["self", f] (spI C f)) (hr : Room (k + 1) X.A) (hb : Binds X.K fd ["self", f] []) (hm : X.mg x = some (.ref C)) (ha : PA X [e] ta) (hg : Gl X x := by rfl)
    (hdb : (x == ("__debug__" : Str)) = false := by decide) (he : starEach [e] X.env = (false, eval e X.env) :: starEach [] X.env := by rfl) (hpl : (backTo pos (starEach [] X.env)).any (·.1) = false := by rfl) :
    PMk X (.Call (.Name x p) [e] [] pos) (fun σ H Q => ta σ H fun vs H1 => ∃ v, vs = [v] ∧ ∀ d, H1 d = none → Q (.ref C) (some d) (upd H1 d (.xd [(f, v)]))) := by
  intro pins s σ H Q I h
  refine wpAny_Call_Name_kw (ld_glob I hg hm ?_ hdb)
  refine PySem.W.callWith_K (h₀ := X.base) I.ok.mod.kin T.kC (thn (ha.run pos pins s σ H _ I h) fun us s1 ⟨vs, H1, I1, r1, v, ev, q1⟩ => ⟨I1.kIn, ?_⟩) he hpl
  subst ev
  obtain ⟨nm, N', qn, bs, bm, hdct, sn, sub, ab, col, dd, k0, k1, k2, k3, k5, hC, hT⟩ := PySem.W.excInit_of I1.kIn T.ini
  obtain ⟨oI, hoI, hcI⟩ : ∃ oI, s1.heap.get? fI = some oI ∧ oI.cls = .type "function" := by
    obtain ⟨o, ho, hc⟩ := Option.map_eq_some_iff.mp (show (X.K.lookup fI).map (·.cls) = some (.type "function") from beq_iff_eq.mp tI)
    exact ⟨o, I1.kIn _ _ ho, hc⟩
  show wpAny _ _ (call (.ref C) us) _ _ _
  obtain ⟨hp, g, dr, tk, os⟩ := s1
  let a := hp.objs.size + 1
  let h2 := (hp.push (PySem.W.kdv_tup us)).push (PySem.HandSPX.excO C hp.objs.size)
  have hsz : hp.objs.size ≤ a := Nat.le_succ _
  have kk : ∀ b o, hp.get? b = some o → h2.get? b = some o := fun b o e => Heap.get?_push_of_some _ (Heap.get?_push_of_some _ e)
  have hget : h2.get? a = some (PySem.HandSPX.excO C hp.objs.size) := by
    show ((hp.push (PySem.W.kdv_tup us)).push (PySem.HandSPX.excO C hp.objs.size)).get? (hp.objs.size + 1) = _
    heap_get
  have I2 : Inv X pins σ (upd H1 a (exo a C none)) ⟨h2, g, dr, tk, os⟩ := I1.laid (t' := tk) (a := a) (o := exo a C none) (h' := h2) kk hsz (exo_ok hget)
  have r2 : Vals (V.ref a :: [v]) (Value.ref a :: us) := .cons rfl r1
  have hl : (Value.ref a :: us ++ []).length = 2 := by
    rw [List.append_nil]
    exact r2.length.symm
  have hus : us.length ≤ sizeLine := by
    rw [← Paired.length r1, sizeLine_eq]
    exact (by decide : 1 ≤ 16777216)
  have hn : H1 a = none := I1.hok.fresh hsz
  have b2 := hb ⟨h2, g, dr, tk, os⟩ (Value.ref a :: us) I2.kIn hl
  rw [List.append_nil] at b2
  have asks : spI C f [.ref a, v] (upd H1 a (exo a C none)) (fun w H2 => w = .non ∧ ∃ d, H2 a = some (exo a C (some d)) ∧ H2 d = some (exd d [(f, v)]) ∧ H1 d = none ∧ Q (.ref C) (some d) (upd (del H2 a) d (.xd [(f, v)]))) (fun _ _ _ => False) := by
    refine ⟨a, v, rfl, upd_same, fun dx hdx ne => ⟨rfl, dx, upd_same, by rw [upd_ne ne, upd_same], ?_, ?_⟩⟩
    · rw [upd_ne ne] at hdx; exact hdx
    · have hd1 : H1 dx = none := by rw [upd_ne ne] at hdx; exact hdx
      have z := q1 dx hd1
      have e : upd (del (upd (upd (upd H1 a (exo a C none)) dx (exd dx [(f, v)])) a (exo a C (some dx))) a) dx (.xd [(f, v)]) = upd H1 dx (.xd [(f, v)]) := by
        funext c
        by_cases h1 : c = dx
        · rw [h1, upd_same, upd_same]
        · rw [upd_ne h1, upd_ne h1]
          by_cases h2 : c = a
          · rw [h2, del_same, hn]
          · rw [del_ne h2, upd_ne h2, upd_ne h1, upd_ne h2]
      rw [e]
      exact z
  refine wpAny_call (PySem.HandSPX.call_own b.facts hT hC (PySem.W.looks_findIn I1.kIn iC) (fun self => PySem.W.exc_bind hoI hcI self) hus
    (codeAny_mono (F1.run _ X.stack _ _ ⟨Value.ref a :: us, []⟩ (Value.ref a :: us) _ _ (fun _ _ _ => False) (hr.make C us []) (I2.env0.make C us []) b2 r2 asks) fun r s' z => ?_))
  match r, z with
  | .error er, ⟨_, _, _, _, _, _, _, _, _, _, _, _, z⟩ => exact z.elim
  | .ok .next, z => exact False.elim z
  | .ok .brk, z => exact False.elim z
  | .ok .cont, z => exact False.elim z
  | .ok (.ret u), ⟨w', H2, os2, bare2, un2, hok2, rv, ev, d, ea, ed, hd1, q2⟩ =>
    subst ev
    obtain ⟨h3, g2, d2, t2, os'⟩ := s'
    exact ⟨rv, mk_end (raises_own T.exC T.tyC) I1 hsz kk un2 hok2 os2 bare2 ea ed hd1 q2⟩
/-- raise c(e) -/
@[simp] def dRaise (c f : Str) (d : DE) : DS := fun s => (d s).bind fun v s1 => .exn (.exc c [f] [v]) s1
/-- raise c('..') -/
@[simp] def dRaise0 (c : Str) : DS := fun s => .exn (.exc c [] []) s
/-- an own exception class with an __init__ of one field -/
def HasE (P : Program) (w : World) (K : PySem.W.Frag) (mg : Str → Option Value) (base : Heap) (c f : Str) (b : EB) : Prop :=
  mg c = some (.ref (He.ga K c)) ∧ OxB K b (He.ga K c) ∧ ∃ fI fd, PySem.W.findIn K (.ref (He.ga K c)) "__init__" = some (some (.ref fI)) ∧ PySem.W.isFn K (.ref fI) = true ∧ Binds K fd ["self", f] [] ∧ FnG P w K mg base (L2.CX P w) 1 fI fd ["self", f] (spI (He.ga K c) f)
/-- .. without -/
def HasE0 (K : PySem.W.Frag) (mg : Str → Option Value) (c : Str) (b : EB) : Prop :=
  mg c = some (.ref (He.ga K c)) ∧ PySem.W.excIn K (He.ga K c) b.bm b.nw = true ∧ PySem.W.keepIn K (.ref (He.ga K c)) = true ∧ PySem.W.subIn K (.ref (He.ga K c)) (.type "BaseException") = some true ∧ PySem.W.typeIn K (.ref (He.ga K c)) = some (.type "type")
end L3
namespace L3
open PySem PySem.Spec PyProof.Rows L2
@[simp] def unE (i : Nat) (s : S) : S := wipeS [i] s
/-- try: db / except .. as n: ds, n's slot i; yes: the classes that the clause takes -/
@[simp] def dTryAs (yes : List Str) (i : Nat) (ds db : DS) : DS := fun s => match db s with
  | .exn (.exc c ns xs) s1 => if c ∈ yes then (ds (setE i (.exc c ns xs) s1)).bind fun f s2 => .ok f (unE i s2) else .bad
  | .exn _ _ => .bad
  | r => r
section
variable {X : Cx} {pins : List (Addr × Obj)} {σ : St} {H : Hp} {sI s s' : Shared} {B : Heap}
/-- back on the ground, the exception a value like others -/
theorem Inv.landedT {a : Addr} {o : HO} (I : Inv X pins σ H sI) (nb : ∀ b o, sI.heap.get? b = some o → b ∉ frs X.stack → B.get? b = some o) (st : B.StaysIn s'.heap) (up : sI.heap.UpToSlots s'.heap) (os : s'.os = sI.os) (ag : AllBare s'.gens)
    (hB : B.get? a = none) (nf : a ∉ frs X.stack) (na : H a = none) (new : ObjOk X.prog X.w (upd H a o) s'.heap a o) : Inv X pins σ (upd H a o) s' := by
  have nfs : ∀ b ∈ frs X.stack, ∀ o, sI.heap.get? b = some o → ∃ sl, s'.heap.get? b = some { o with slots := sl } := fun b hb o e => by
    obtain ⟨_, o', e', hd⟩ := I.stack.mem hb
    rw [e] at e'; cases e'
    exact up b o e hd
  have n0 : ∀ b o, sI.heap.get? b = some o → b ≠ a := fun b o e z => by
    subst z
    have q := nb _ o e nf
    rw [hB] at q; cases q
  refine I.call' (ch := []) os ⟨fun b o e _ hb _ => st b o (nb b o e hb), fun b o e _ hb _ => nfs b hb o e, fun b o e n _ => by rw [upd_ne (n0 b o e)]; exact n, fun b o e _ => by
      by_cases hb : b ∈ frs X.stack
      · obtain ⟨sl, q⟩ := nfs b hb o e
        exact ⟨_, q⟩
      · exact ⟨o, st b o (nb b o e hb)⟩, fun b xs e => by rw [upd_ne (ne_of_none e na)]; exact e, fun b o xs e => by rw [upd_ne (ne_of_none e na)]; exact e, fun b ps e => ⟨#[], by rw [upd_ne (ne_of_none e na), e]; simp⟩⟩ (fun b u e => ?_) ag (fun _ z => nomatch z)
  by_cases hb : b = a
  · subst hb
    rw [upd_same] at e
    cases e
    exact new
  · rw [upd_ne hb] at e
    exact (((I.inGround nb).kept st) b u e).stay (fun c v _ q => q) (fun c q => by rw [upd_ne (ne_of_none q na)]; exact q) fun c xs q => by rw [upd_ne (ne_of_none q na)]; exact q
end
end L3
namespace L3
open PySem PySem.Spec PyProof.Rows L2
/-- a field of an own exception class at C -/
structure EFld (K : PySem.W.Frag) (C : Addr) (f : Str) : Prop where
  ga : PySem.W.findIn K (.ref C) "__getattribute__" = some (some (.builtin "BaseException.__getattribute__"))
  gg : PySem.W.findIn K (.ref C) "__getattr__" = some none
  no : PySem.W.findIn K (.ref C) f = some none
  ex : PySem.W.subIn K (.ref C) (.type "BaseException") = some true
  hd : PySem.W.hasDictIn K C = true
theorem ef_ok {K : PySem.W.Frag} {C : Addr} {f : Str} (h : efB K C f = true) : EFld K C f := by
  obtain ⟨h1, h⟩ := He.ba h
  obtain ⟨h2, h⟩ := He.ba h
  obtain ⟨h3, h⟩ := He.ba h
  obtain ⟨h4, h5⟩ := He.ba h
  exact ⟨He.eqO_ok h1, He.eqO_ok h2, He.eqO_ok h3, of_decide_eq_true h4, h5⟩
/-- the classes cs have the field f -/
def HasEF (K : PySem.W.Frag) (cs : List Str) (f : Str) : Prop := ∀ c ∈ cs, EFld K (He.ga K c) f
@[simp] def fEFld (cs : List Str) (f : Str) : PV → S → R S PV := fun p s => match p with
  | .exc c ns xs => if c ∈ cs then optR (getV f ns xs) s else .bad
  | _ => .bad
section
variable {X : Cx} {g : Gx} {e : Expr} {de : DE} {f : Str} {cs : List Str} {pos : Pos}
theorem j_efld (T : HasEF X.K cs f) (he : JE X g e de) (hb : attributeBase e f X.env (eval e X.env) = eval e X.env := by rfl) : JE X g (.Attribute e f pos) (dUn (fEFld cs f) de) := by
  refine ⟨fun pins s σ H Q I h => ?_⟩
  obtain ⟨l, s0, rfl, ok, h⟩ := h
  refine attr_of hb (thn (he.run pins s σ _ _ I ⟨l, s0, rfl, ok, Run.bind h⟩) fun u s1 ⟨x, H1, I1, rx, l1, s2, v, e1, ok1, r1, st1, h1⟩ => ?_)
  subst e1
  cases v with
  | exc c ns xs =>
    simp only [fEFld] at h1
    by_cases hc : c ∈ cs
    · rw [if_pos hc] at h1
      cases e3 : getV f ns xs with
      | none => simp only [e3, optR] at h1; exact h1.elim
      | some y =>
        simp only [e3, optR] at h1
        obtain ⟨a, d, vs, rfl, na, ha, hl, hd, rxs⟩ := r1
        obtain rfl : u = Value.ref a := rx
        obtain ⟨w, hw, rw'⟩ := rxs.getV e3
        rcases hd with ⟨_, hd⟩ | ⟨dd, rfl, nd, hd⟩
        · subst hd
          simp [getV] at e3
        · have T1 := T c hc
          obtain ⟨⟨oe, vs', h4, h5, h6, h7⟩, _⟩ := (show ObjOk X.prog X.w l1.H s1.heap a (exv a (He.ga X.K c) (some dd)) from I1.hok a _ ha)
          obtain ⟨mA, hns, hr⟩ := (show ObjOk X.prog X.w l1.H s1.heap dd (.xd (ns.zip vs)) from I1.hok dd _ hd)
          obtain ⟨od, ho, hk⟩ := lookIn_ns hns
          obtain ⟨u', hu, ru⟩ := RelO.some_of (v := w) (o := mA f) (by rw [← hw, ← lookup_zip]; exact hr f)
          have J : PySem.W.InstAt s1.heap a oe (He.ga X.K c) (some od) := ⟨h4, h5, by unfold PySem.W.notCls; rw [h7] <;> rfl, by rw [h6]; exact ho⟩
          exact HandSPX.exc_get I1.kIn J T1.ga T1.gg T1.ex (PySem.W.findObj_own T1.hd T1.no rfl (by rw [hk, hu])) (handed_of ru) ⟨w, l1.H, I1.tok _, ru, h1 l1 w (Step.refl l1) ok1 rw'⟩
    · rw [if_neg hc] at h1
      exact h1.elim
  | _ => exact h1.elim
end
end L3
namespace L3
open PySem PySem.Spec PyProof.Rows L2
theorem hasE_of {P : Program} {w : World} {K : PySem.W.Frag} {mg : Str → Option Value} {base : Heap} {c f : Str} {b : EB} {x qual : Str} {params : Arguments} {body : List Stmt} {scope : Scope} {dvs : List V} {kws : List (Str × V)} {fd : FuncData} {q1 q2 q3 q4 : Pos}
    (hm : mg c = some (.ref (He.ga K c))) (h : oxB b c f K = true) (F : FunD K x qual params body scope dvs kws (He.ma K (He.ga K c) "__init__") fd) (hbd : Binds K fd ["self", f] []) (S : FnScope ["self", f] ["self", f] scope)
    (hb : body = [.Assign [.Attribute (.Name "self" q1) f q2] (.Name f q3) q4]) (h1 : (f == ("__debug__" : Str)) = false := by decide) (h2 : (f == ("__classdict__" : Str)) = false := by decide) : HasE P w K mg base c f b := by
  obtain ⟨a1, h⟩ := He.ba h
  obtain ⟨a2, h⟩ := He.ba h
  obtain ⟨a3, h⟩ := He.ba h
  obtain ⟨a4, h⟩ := He.ba h
  obtain ⟨a5, h⟩ := He.ba h
  obtain ⟨a6, h⟩ := He.ba h
  obtain ⟨a7, h⟩ := He.ba h
  obtain ⟨a8, h⟩ := He.ba h
  obtain ⟨a9, a10⟩ := He.ba h
  have T : OxB K b (He.ga K c) := ⟨a1, a2, a3, He.eqO_ok a4, of_decide_eq_true a5, of_decide_eq_true a6, a7⟩
  exact ⟨hm, T, _, fd, He.eqO_ok a8, a9, hbd, initB T (He.eqO_ok a10) F S hb h1 h2⟩
theorem hasE0_of {K : PySem.W.Frag} {mg : Str → Option Value} {c : Str} {b : EB} (hm : mg c = some (.ref (He.ga K c))) (h : ex0B b c K = true) : HasE0 K mg c b := by
  obtain ⟨a1, h⟩ := He.ba h
  obtain ⟨a2, h⟩ := He.ba h
  obtain ⟨a3, a4⟩ := He.ba h
  exact ⟨hm, a1, a2, of_decide_eq_true a3, of_decide_eq_true a4⟩
theorem hasEF_of {K : PySem.W.Frag} {cs : List Str} {f : Str} (h : hefB cs f K = true) : HasEF K cs f := fun c hc => ef_ok (List.all_eq_true.mp h c hc)
end L3
namespace LD
open PySem L3
def okR (t b : Int) : Bool := decide (ib b ≤ 9000)
/-- slots: _law_script, _law_k, _law_cell -/
def d_w_source : DS := (dSeq (dSet 2 (dIf (dTru (dBin (gEq true) (dVar 0) (dLst dNil))) (dBin fIx (dVar 0) (dBin gMod (dVar 1) (dFn fLen (dCons (dVar 0) dNil)))) (dC (.int 1)))) (dRet (dNewF (dLstF (dCons (dVar 2) (dCons (dBin gMul (dC (.int 3)) (dVar 1)) (dCons (dIf (dTru (dBin gGe (dVar 2) (dBin gPow (dC (.int 10)) (dC (.int 18))))) (dBin gFdiv (dVar 2) (dBin gPow (dC (.int 10)) (dC (.int 18)))) (dC (.int 0))) dNil)))))))
def F_w_source : DF := runBody 3 d_w_source
/-- slots: _law_source_here, _law_many, _law_primes, _law_prime, _law_found -/
def d_w_next : DS := (dSeq (dIfS (dTru (dBin gGt (dBin fIx (dVar 0) (dC (.int 2))) (dC (.int 0)))) (dSeq (dSet 4 (dBin gMod (dBin fIx (dVar 0) (dC (.int 2))) (dVar 1))) (dSeq (dPut 0 (dBin gFdiv (dBin fIx (dVar 0) (dC (.int 2))) (dVar 1)) (dC (.int 2))) (dRet (dVar 4)))) dSkip) (dSeq (dPut 0 (dBin gAdd (dBin fIx (dVar 0) (dC (.int 1))) (dC (.int 1))) (dC (.int 1))) (dSeq (dSet 2 (dLst (dCons (dC (.int 2147483647)) (dCons (dC (.int 2147483629)) (dCons (dC (.int 2147483587)) (dCons (dC (.int 2147483579)) (dCons (dC (.int 2147483563)) (dCons (dC (.int 2147483549)) (dCons (dC (.int 2147483543)) (dCons (dC (.int 2147483497)) dNil)))))))))) (dSeq (dSet 3 (dBin fIx (dBin gAdd (dVar 2) (dLst (dCons (dC (.int 2147483489)) (dCons (dC (.int 2147483477)) (dCons (dC (.int 2147483423)) dNil))))) (dBin gMod (dBin fIx (dVar 0) (dC (.int 1))) (dC (.int 11))))) (dRet (dBin gMod (dBin gFdiv (dBin gMod (dBin gPow (dBin gAdd (dBin gAdd (dBin gMod (dBin fIx (dVar 0) (dC (.int 0))) (dVar 3)) (dBin gMul (dC (.int 7919)) (dBin fIx (dVar 0) (dC (.int 1))))) (dC (.int 1))) (dC (.int 5))) (dVar 3)) (dC (.int 13))) (dVar 1)))))))
def F_w_next : DF := runBody 5 d_w_next
/-- slots: _law_source_here, _law_items -/
def d_w_pick : DS := (dRet (dBin fIx (dVar 1) (dFnS F_w_next (dCons (dVar 0) (dCons (dFn fLen (dCons (dVar 1) dNil)) dNil)))))
def F_w_pick : DF := runBody 2 d_w_pick
/-- slots: value -/
def d_is_integer : DS := (dRet (dAnd (dUn (fIsi bInt) (dVar 0)) (dNot (dUn (fIsi bBool) (dVar 0)))))
def F_is_integer : DF := runBody 1 d_is_integer
/-- slots: value -/
def d_is_number : DS := (dRet (dOr (dFnS F_is_integer (dCons (dVar 0) dNil)) (dUn (fIsi bRat) (dVar 0))))
def F_is_number : DF := runBody 1 d_is_number
/-- slots: value -/
def d_need_number : DS := (dIfS (dNotT (dTru (dFnS F_is_number (dCons (dVar 0) dNil)))) (dRaise "BadNumber" "value" (dVar 0)) dSkip)
def F_need_number : DF := runBody 1 d_need_number
/-- slots: value -/
def d_ratio_of : DS := (dRet (dIf (dTru (dUn (fIsi bRat) (dVar 0))) (dVar 0) (dFn (fMakeR okR) (dCons (dVar 0) dNil))))
def F_ratio_of : DF := runBody 1 d_ratio_of
/-- slots: cls, value -/
def d_Ratio_of : DS := (dSeq (dExpr (dFnS F_need_number (dCons (dVar 1) dNil))) (dRet (dFnS F_ratio_of (dCons (dVar 1) dNil))))
def F_Ratio_of : DF := runBody 2 d_Ratio_of
/-- slots: self, other, far -/
def d_Ratio_over : DS := (dSeq (dExpr (dFnS F_need_number (dCons (dVar 1) dNil))) (dSeq (dSet 2 (dFnS F_ratio_of (dCons (dVar 1) dNil))) (dRet (dFn (fMakeR okR) (dCons (dBin gMul (dUn fTop (dVar 0)) (dUn fBot (dVar 2))) (dCons (dBin gMul (dUn fBot (dVar 0)) (dUn fTop (dVar 2))) dNil))))))
def F_Ratio_over : DF := runBody 3 d_Ratio_over
end LD
namespace L3
class Ko (a s : Type) where
  run : a → s → Prop
def WD {s a : Type} (r : R s a) (Q : a → s → Prop) : Prop := match r with
  | .ok v t => Q v t
  | _ => False
inductive WI {s a : Type} (r : R s a) [K : Ko a s] : Prop where
  | mk (h : WD r K.run) : WI r
abbrev W {s a : Type} (r : R s a) (Q : a → s → Prop) : Prop := @WI s a r ⟨Q⟩
theorem WI_iff {s a : Type} {r : R s a} {Q : a → s → Prop} : @WI s a r ⟨Q⟩ = WD r Q := propext ⟨fun h => h.1, fun h => @WI.mk s a r ⟨Q⟩ h⟩
section
variable {s a b : Type} {r : R s a} {Q Q' : a → s → Prop}
@[simp] theorem D_ok {v : a} {t : s} {Q : a → s → Prop} : WD (.ok v t) Q = Q v t := rfl
theorem W_ok {v : a} {t : s} {Q : a → s → Prop} : W (.ok v t) Q = Q v t := by
  simp only [W, WI_iff]
  exact D_ok
@[simp] theorem I_ok {v : a} {t : s} {Q : a → s → Prop} : WI (.ok v t) (K := ⟨Q⟩) = Q v t := W_ok
@[simp] theorem D_bad {Q : a → s → Prop} : WD .bad Q = False := rfl
theorem W_bad {Q : a → s → Prop} : W .bad Q = False := by
  simp only [W, WI_iff]
  exact D_bad
@[simp] theorem I_bad {Q : a → s → Prop} : WI .bad (K := ⟨Q⟩) = False := W_bad
@[simp] theorem D_exn {e : PV} {t : s} {Q : a → s → Prop} : WD (.exn e t) Q = False := rfl
theorem W_exn {e : PV} {t : s} {Q : a → s → Prop} : W (.exn e t) Q = False := by
  simp only [W, WI_iff]
  exact D_exn
@[simp] theorem I_exn {e : PV} {t : s} {Q : a → s → Prop} : WI (.exn e t) (K := ⟨Q⟩) = False := W_exn
@[simp] theorem D_bind {k : a → s → R s b} {P : b → s → Prop} : WD (r.bind k) P = WD r (fun v t => WD (k v t) P) := by cases r <;> rfl
theorem W_bind {k : a → s → R s b} {P : b → s → Prop} : W (r.bind k) P = W r (fun v t => W (k v t) P) := by
  simp only [W, WI_iff]
  exact D_bind
@[simp ↓] theorem I_bind {k : a → s → R s b} {P : b → s → Prop} : WI (r.bind k) (K := ⟨P⟩) = WI r (K := ⟨(fun v t => WI (k v t) (K := ⟨P⟩))⟩) := W_bind
theorem WD.mono (h : WD r Q) (i : ∀ v t, Q v t → Q' v t) : WD r Q' := by
  cases r with
  | ok v t => exact i v t h
  | _ => exact h
theorem W.mono (h : W r Q) (i : ∀ v t, Q v t → Q' v t) : W r Q' := by
  simp only [W, WI_iff] at *
  exact WD.mono h i
theorem WD.of {v : a} {t : s} (e : r = .ok v t) (h : Q v t) : WD r Q := by rw [e]; exact h
theorem W.of {v : a} {t : s} (e : r = .ok v t) (h : Q v t) : W r Q := by
  simp only [W, WI_iff]
  exact WD.of e h
theorem WD.out (h : WD r Q) : ∃ v t, r = .ok v t ∧ Q v t := by
  cases r with
  | ok v t => exact ⟨v, t, rfl, h⟩
  | _ => exact h.elim
theorem W.out (h : W r Q) : ∃ v t, r = .ok v t ∧ Q v t := by
  simp only [W, WI_iff] at h
  exact WD.out h
end
section
variable {s : S} {Q : PV → S → Prop} {P : Fl → S → Prop} {T : Bool → S → Prop} {A : List PV → S → Prop} {da db dc : DE} {dr : DA} {ds du : DS} {ta tb : DT} {f f' : PV → PV → S → R S PV} {g : PV → S → R S PV} {fn : List PV → S → R S PV} {F : DF} {i n : Nat} {tg : DG} {dl : DL} {di : DI}
theorem D_dSeq : WD (dSeq ds du s) P = WD (ds s) (fun f s1 => match f with | .nx => WD (du s1) P | .rt v => P (.rt v) s1 | .bk => P .bk s1 | .ct => P .ct s1) := by
  show WD ((ds s).bind _) P = _
  rw [D_bind]
  congr 1
  funext f s1
  cases f <;> rfl
theorem W_dSeq : W (dSeq ds du s) P = W (ds s) (fun f s1 => match f with | .nx => W (du s1) P | .rt v => P (.rt v) s1 | .bk => P .bk s1 | .ct => P .ct s1) := by
  simp only [W, WI_iff]
  exact D_dSeq
@[simp ↓] theorem I_dSeq : WI (dSeq ds du s) (K := ⟨P⟩) = WI (ds s) (K := ⟨(fun f s1 => match f with | .nx => WI (du s1) (K := ⟨P⟩) | .rt v => P (.rt v) s1 | .bk => P .bk s1 | .ct => P .ct s1)⟩) := W_dSeq
theorem D_dSet : WD (dSet i da s) P = WD (da s) (fun v s1 => P .nx (setE i v s1)) := D_bind
theorem W_dSet : W (dSet i da s) P = W (da s) (fun v s1 => P .nx (setE i v s1)) := by
  simp only [W, WI_iff]
  exact D_dSet
@[simp ↓] theorem I_dSet : WI (dSet i da s) (K := ⟨P⟩) = WI (da s) (K := ⟨(fun v s1 => P .nx (setE i v s1))⟩) := W_dSet
theorem D_dExpr : WD (dExpr da s) P = WD (da s) (fun v s1 => P .nx s1) := D_bind
theorem W_dExpr : W (dExpr da s) P = W (da s) (fun v s1 => P .nx s1) := by
  simp only [W, WI_iff]
  exact D_dExpr
@[simp ↓] theorem I_dExpr : WI (dExpr da s) (K := ⟨P⟩) = WI (da s) (K := ⟨(fun v s1 => P .nx s1)⟩) := W_dExpr
theorem D_dRet : WD (dRet da s) P = WD (da s) (fun v s1 => P (.rt v) s1) := D_bind
theorem W_dRet : W (dRet da s) P = W (da s) (fun v s1 => P (.rt v) s1) := by
  simp only [W, WI_iff]
  exact D_dRet
@[simp ↓] theorem I_dRet : WI (dRet da s) (K := ⟨P⟩) = WI (da s) (K := ⟨(fun v s1 => P (.rt v) s1)⟩) := W_dRet
theorem D_dIfS : WD (dIfS ta ds du s) P = WD (ta s) (fun x s1 => if x = true then WD (ds s1) P else WD (du s1) P) := by
  show WD ((ta s).bind _) P = _
  rw [D_bind]
  congr 1
  funext f s1
  cases f <;> simp
theorem W_dIfS : W (dIfS ta ds du s) P = W (ta s) (fun x s1 => if x = true then W (ds s1) P else W (du s1) P) := by
  simp only [W, WI_iff]
  exact D_dIfS
@[simp ↓] theorem I_dIfS : WI (dIfS ta ds du s) (K := ⟨P⟩) = WI (ta s) (K := ⟨(fun x s1 => if x = true then WI (ds s1) (K := ⟨P⟩) else WI (du s1) (K := ⟨P⟩))⟩) := W_dIfS
theorem D_dIf : WD (dIf ta da db s) Q = WD (ta s) (fun x s1 => if x = true then WD (da s1) Q else WD (db s1) Q) := by
  show WD ((ta s).bind _) Q = _
  rw [D_bind]
  congr 1
  funext f s1
  cases f <;> simp
theorem W_dIf : W (dIf ta da db s) Q = W (ta s) (fun x s1 => if x = true then W (da s1) Q else W (db s1) Q) := by
  simp only [W, WI_iff]
  exact D_dIf
@[simp ↓] theorem I_dIf : WI (dIf ta da db s) (K := ⟨Q⟩) = WI (ta s) (K := ⟨(fun x s1 => if x = true then WI (da s1) (K := ⟨Q⟩) else WI (db s1) (K := ⟨Q⟩))⟩) := W_dIf
theorem D_dBin : WD (dBin f da db s) Q = WD (da s) (fun x s1 => WD (db s1) fun y s2 => WD (f x y s2) Q) := by
  show WD ((da s).bind _) Q = _
  rw [D_bind]
  congr 1
  funext x s1
  exact D_bind
theorem W_dBin : W (dBin f da db s) Q = W (da s) (fun x s1 => W (db s1) fun y s2 => W (f x y s2) Q) := by
  simp only [W, WI_iff]
  exact D_dBin
@[simp ↓] theorem I_dBin : WI (dBin f da db s) (K := ⟨Q⟩) = WI (da s) (K := ⟨(fun x s1 => WI (db s1) (K := ⟨fun y s2 => WI (f x y s2) (K := ⟨Q⟩)⟩))⟩) := W_dBin
theorem D_dUn : WD (dUn g da s) Q = WD (da s) (fun x s1 => WD (g x s1) Q) := D_bind
theorem W_dUn : W (dUn g da s) Q = W (da s) (fun x s1 => W (g x s1) Q) := by
  simp only [W, WI_iff]
  exact D_dUn
@[simp ↓] theorem I_dUn : WI (dUn g da s) (K := ⟨Q⟩) = WI (da s) (K := ⟨(fun x s1 => WI (g x s1) (K := ⟨Q⟩))⟩) := W_dUn
theorem D_dNil : WD (dNil s) A = A [] s := rfl
theorem W_dNil : W (dNil s) A = A [] s := by
  simp only [W, WI_iff]
  exact D_dNil
@[simp ↓] theorem I_dNil : WI (dNil s) (K := ⟨A⟩) = A [] s := W_dNil
theorem D_dCons : WD (dCons da dr s) A = WD (da s) (fun x s1 => WD (dr s1) fun xs s2 => A (x :: xs) s2) := by
  show WD ((da s).bind _) A = _
  rw [D_bind]
  congr 1
  funext x s1
  exact D_bind
theorem W_dCons : W (dCons da dr s) A = W (da s) (fun x s1 => W (dr s1) fun xs s2 => A (x :: xs) s2) := by
  simp only [W, WI_iff]
  exact D_dCons
@[simp ↓] theorem I_dCons : WI (dCons da dr s) (K := ⟨A⟩) = WI (da s) (K := ⟨(fun x s1 => WI (dr s1) (K := ⟨fun xs s2 => A (x :: xs) s2⟩))⟩) := W_dCons
theorem D_dFn : WD (dFn fn dr s) Q = WD (dr s) (fun ps s1 => WD (fn ps s1) Q) := D_bind
theorem W_dFn : W (dFn fn dr s) Q = W (dr s) (fun ps s1 => W (fn ps s1) Q) := by
  simp only [W, WI_iff]
  exact D_dFn
@[simp ↓] theorem I_dFn : WI (dFn fn dr s) (K := ⟨Q⟩) = WI (dr s) (K := ⟨(fun ps s1 => WI (fn ps s1) (K := ⟨Q⟩))⟩) := W_dFn
theorem D_dFnS : WD (dFnS F dr s) Q = WD (dr s) (fun ps s1 => WD (F ps s1.mu) (fun v mu => Q v ⟨s1.env, mu⟩)) := by
  show WD ((dr s).bind _) Q = _
  rw [D_bind]
  congr 1
  funext ps s1
  cases F ps s1.mu <;> rfl
theorem W_dFnS : W (dFnS F dr s) Q = W (dr s) (fun ps s1 => W (F ps s1.mu) (fun v mu => Q v ⟨s1.env, mu⟩)) := by
  simp only [W, WI_iff]
  exact D_dFnS
@[simp ↓] theorem I_dFnS : WI (dFnS F dr s) (K := ⟨Q⟩) = WI (dr s) (K := ⟨(fun ps s1 => WI (F ps s1.mu) (K := ⟨(fun v mu => Q v ⟨s1.env, mu⟩)⟩))⟩) := W_dFnS
theorem D_fnS {ps : List PV} : WD (fnS F ps s) Q = WD (F ps s.mu) (fun v mu => Q v ⟨s.env, mu⟩) := by
  show WD (match F ps s.mu with | .ok v mu => _ | .exn e mu => _ | .bad => _) Q = _
  cases F ps s.mu <;> rfl
theorem W_fnS {ps : List PV} : W (fnS F ps s) Q = W (F ps s.mu) (fun v mu => Q v ⟨s.env, mu⟩) := by
  simp only [W, WI_iff]
  exact D_fnS
@[simp ↓] theorem I_fnS {ps : List PV} : WI (fnS F ps s) (K := ⟨Q⟩) = WI (F ps s.mu) (K := ⟨(fun v mu => Q v ⟨s.env, mu⟩)⟩) := W_fnS
theorem D_fMt {ps : List PV} : WD (fMt n F ps s) Q = (ps.length = n ∧ WD (F ps s.mu) (fun v mu => Q v ⟨s.env, mu⟩)) := by
  show WD (if ps.length = n then fnS F ps s else .bad) Q = _
  by_cases h : ps.length = n
  · rw [if_pos h, D_fnS]; simp [h]
  · rw [if_neg h]; simp [h]
theorem W_fMt {ps : List PV} : W (fMt n F ps s) Q = (ps.length = n ∧ W (F ps s.mu) (fun v mu => Q v ⟨s.env, mu⟩)) := by
  simp only [W, WI_iff]
  exact D_fMt
@[simp ↓] theorem I_fMt {ps : List PV} : WI (fMt n F ps s) (K := ⟨Q⟩) = (ps.length = n ∧ WI (F ps s.mu) (K := ⟨(fun v mu => Q v ⟨s.env, mu⟩)⟩)) := W_fMt
theorem D_fCm {ps : List PV} {C : PySem.Addr} : WD (fCm n C F ps s) Q = (ps.length + 1 = n ∧ WD (F (.adr C :: ps) s.mu) (fun v mu => Q v ⟨s.env, mu⟩)) := by
  show WD (if ps.length + 1 = n then fnS F (.adr C :: ps) s else .bad) Q = _
  by_cases h : ps.length + 1 = n
  · rw [if_pos h, D_fnS]; simp [h]
  · rw [if_neg h]; simp [h]
theorem W_fCm {ps : List PV} {C : PySem.Addr} : W (fCm n C F ps s) Q = (ps.length + 1 = n ∧ W (F (.adr C :: ps) s.mu) (fun v mu => Q v ⟨s.env, mu⟩)) := by
  simp only [W, WI_iff]
  exact D_fCm
@[simp ↓] theorem I_fCm {ps : List PV} {C : PySem.Addr} : WI (fCm n C F ps s) (K := ⟨Q⟩) = (ps.length + 1 = n ∧ WI (F (.adr C :: ps) s.mu) (K := ⟨(fun v mu => Q v ⟨s.env, mu⟩)⟩)) := W_fCm
theorem D_dTup : WD (dTup dr s) Q = WD (dr s) (fun xs s1 => xs.length ≤ 1000 ∧ Q (.tup xs) s1) := by
  show WD ((dr s).bind _) Q = _
  rw [D_bind]
  congr 1
  funext xs s1
  by_cases h : xs.length ≤ 1000 <;> simp [h]
theorem W_dTup : W (dTup dr s) Q = W (dr s) (fun xs s1 => xs.length ≤ 1000 ∧ Q (.tup xs) s1) := by
  simp only [W, WI_iff]
  exact D_dTup
@[simp ↓] theorem I_dTup : WI (dTup dr s) (K := ⟨Q⟩) = WI (dr s) (K := ⟨(fun xs s1 => xs.length ≤ 1000 ∧ Q (.tup xs) s1)⟩) := W_dTup
theorem D_dLst : WD (dLst dr s) Q = WD (dr s) (fun xs s1 => xs.length ≤ 1000 ∧ Q (.lst xs) s1) := by
  show WD ((dr s).bind _) Q = _
  rw [D_bind]
  congr 1
  funext xs s1
  by_cases h : xs.length ≤ 1000 <;> simp [h]
theorem W_dLst : W (dLst dr s) Q = W (dr s) (fun xs s1 => xs.length ≤ 1000 ∧ Q (.lst xs) s1) := by
  simp only [W, WI_iff]
  exact D_dLst
@[simp ↓] theorem I_dLst : WI (dLst dr s) (K := ⟨Q⟩) = WI (dr s) (K := ⟨(fun xs s1 => xs.length ≤ 1000 ∧ Q (.lst xs) s1)⟩) := W_dLst
theorem D_dLstF {B : List PV → S → Prop} : WD (dLstF dr s) B = WD (dr s) (fun xs s1 => xs.length ≤ 1000 ∧ B xs s1) := by
  show WD ((dr s).bind _) B = _
  rw [D_bind]
  congr 1
  funext xs s1
  by_cases h : xs.length ≤ 1000 <;> simp [h]
theorem W_dLstF {B : List PV → S → Prop} : W (dLstF dr s) B = W (dr s) (fun xs s1 => xs.length ≤ 1000 ∧ B xs s1) := by
  simp only [W, WI_iff]
  exact D_dLstF
@[simp ↓] theorem I_dLstF {B : List PV → S → Prop} : WI (dLstF dr s) (K := ⟨B⟩) = WI (dr s) (K := ⟨(fun xs s1 => xs.length ≤ 1000 ∧ B xs s1)⟩) := W_dLstF
theorem D_dFr : WD (dFr dl s) Q = WD (dl s) (fun xs s1 => Q (.lst xs) s1) := D_bind
theorem W_dFr : W (dFr dl s) Q = W (dl s) (fun xs s1 => Q (.lst xs) s1) := by
  simp only [W, WI_iff]
  exact D_dFr
@[simp ↓] theorem I_dFr : WI (dFr dl s) (K := ⟨Q⟩) = WI (dl s) (K := ⟨(fun xs s1 => Q (.lst xs) s1)⟩) := W_dFr
theorem D_dTru : WD (dTru da s) T = WD (da s) (fun v s1 => match truP v with | some b => T b s1 | none => False) := by
  show WD ((da s).bind _) T = _
  rw [D_bind]
  congr 1
  funext v s1
  cases truP v <;> rfl
theorem W_dTru : W (dTru da s) T = W (da s) (fun v s1 => match truP v with | some b => T b s1 | none => False) := by
  simp only [W, WI_iff]
  exact D_dTru
@[simp ↓] theorem I_dTru : WI (dTru da s) (K := ⟨T⟩) = WI (da s) (K := ⟨(fun v s1 => match truP v with | some b => T b s1 | none => False)⟩) := W_dTru
theorem D_dAndT : WD (dAndT ta tb s) T = WD (ta s) (fun x s1 => if x = true then WD (tb s1) T else T false s1) := by
  show WD ((ta s).bind _) T = _
  rw [D_bind]
  congr 1
  funext f s1
  cases f <;> simp
theorem W_dAndT : W (dAndT ta tb s) T = W (ta s) (fun x s1 => if x = true then W (tb s1) T else T false s1) := by
  simp only [W, WI_iff]
  exact D_dAndT
@[simp ↓] theorem I_dAndT : WI (dAndT ta tb s) (K := ⟨T⟩) = WI (ta s) (K := ⟨(fun x s1 => if x = true then WI (tb s1) (K := ⟨T⟩) else T false s1)⟩) := W_dAndT
theorem D_dOrT : WD (dOrT ta tb s) T = WD (ta s) (fun x s1 => if x = true then T true s1 else WD (tb s1) T) := by
  show WD ((ta s).bind _) T = _
  rw [D_bind]
  congr 1
  funext f s1
  cases f <;> simp
theorem W_dOrT : W (dOrT ta tb s) T = W (ta s) (fun x s1 => if x = true then T true s1 else W (tb s1) T) := by
  simp only [W, WI_iff]
  exact D_dOrT
@[simp ↓] theorem I_dOrT : WI (dOrT ta tb s) (K := ⟨T⟩) = WI (ta s) (K := ⟨(fun x s1 => if x = true then T true s1 else WI (tb s1) (K := ⟨T⟩))⟩) := W_dOrT
theorem D_dNotT : WD (dNotT ta s) T = WD (ta s) (fun x s1 => T (!x) s1) := D_bind
theorem W_dNotT : W (dNotT ta s) T = W (ta s) (fun x s1 => T (!x) s1) := by
  simp only [W, WI_iff]
  exact D_dNotT
@[simp ↓] theorem I_dNotT : WI (dNotT ta s) (K := ⟨T⟩) = WI (ta s) (K := ⟨(fun x s1 => T (!x) s1)⟩) := W_dNotT
theorem D_dAnd : WD (dAnd da db s) Q = WD (da s) (fun x s1 => match x with | .bl true => WD (db s1) Q | .bl false => Q (.bl false) s1 | _ => False) := by
  show WD ((da s).bind _) Q = _
  rw [D_bind]
  congr 1
  funext x s1
  cases x <;> first | rfl | (rename_i b; cases b <;> rfl)
theorem W_dAnd : W (dAnd da db s) Q = W (da s) (fun x s1 => match x with | .bl true => W (db s1) Q | .bl false => Q (.bl false) s1 | _ => False) := by
  simp only [W, WI_iff]
  exact D_dAnd
@[simp ↓] theorem I_dAnd : WI (dAnd da db s) (K := ⟨Q⟩) = WI (da s) (K := ⟨(fun x s1 => match x with | .bl true => WI (db s1) (K := ⟨Q⟩) | .bl false => Q (.bl false) s1 | _ => False)⟩) := W_dAnd
theorem D_dOr : WD (dOr da db s) Q = WD (da s) (fun x s1 => match x with | .bl true => Q (.bl true) s1 | .bl false => WD (db s1) Q | _ => False) := by
  show WD ((da s).bind _) Q = _
  rw [D_bind]
  congr 1
  funext x s1
  cases x <;> first | rfl | (rename_i b; cases b <;> rfl)
theorem W_dOr : W (dOr da db s) Q = W (da s) (fun x s1 => match x with | .bl true => Q (.bl true) s1 | .bl false => W (db s1) Q | _ => False) := by
  simp only [W, WI_iff]
  exact D_dOr
@[simp ↓] theorem I_dOr : WI (dOr da db s) (K := ⟨Q⟩) = WI (da s) (K := ⟨(fun x s1 => match x with | .bl true => Q (.bl true) s1 | .bl false => WI (db s1) (K := ⟨Q⟩) | _ => False)⟩) := W_dOr
theorem D_dNot : WD (dNot da s) Q = WD (da s) (fun x s1 => match x with | .bl b => Q (.bl (!b)) s1 | _ => False) := by
  show WD ((da s).bind _) Q = _
  rw [D_bind]
  congr 1
  funext x s1
  cases x <;> rfl
theorem W_dNot : W (dNot da s) Q = W (da s) (fun x s1 => match x with | .bl b => Q (.bl (!b)) s1 | _ => False) := by
  simp only [W, WI_iff]
  exact D_dNot
@[simp ↓] theorem I_dNot : WI (dNot da s) (K := ⟨Q⟩) = WI (da s) (K := ⟨(fun x s1 => match x with | .bl b => Q (.bl (!b)) s1 | _ => False)⟩) := W_dNot
theorem D_dChain : WD (dChain f f' da db dc s) Q = WD (da s) (fun x s1 => WD (db s1) fun y s2 => WD (f x y s2) fun z s3 => match z with | .bl true => WD (dc s3) (fun w s4 => WD (f' y w s4) Q) | .bl false => Q (.bl false) s3 | _ => False) := by
  show WD ((da s).bind _) Q = _
  rw [D_bind]
  congr 1
  funext x s1
  rw [D_bind]
  congr 1
  funext y s2
  rw [D_bind]
  congr 1
  funext z s3
  cases z <;> first | rfl | (rename_i b; cases b <;> first | rfl | exact D_bind)
theorem W_dChain : W (dChain f f' da db dc s) Q = W (da s) (fun x s1 => W (db s1) fun y s2 => W (f x y s2) fun z s3 => match z with | .bl true => W (dc s3) (fun w s4 => W (f' y w s4) Q) | .bl false => Q (.bl false) s3 | _ => False) := by
  simp only [W, WI_iff]
  exact D_dChain
@[simp ↓] theorem I_dChain : WI (dChain f f' da db dc s) (K := ⟨Q⟩) = WI (da s) (K := ⟨(fun x s1 => WI (db s1) (K := ⟨fun y s2 => WI (f x y s2) (K := ⟨fun z s3 => match z with | .bl true => WI (dc s3) (K := ⟨(fun w s4 => WI (f' y w s4) (K := ⟨Q⟩))⟩) | .bl false => Q (.bl false) s3 | _ => False⟩)⟩))⟩) := W_dChain
theorem D_dPar {js : List Nat} : WD (dPar js dr s) P = WD (dr s) (fun vs s1 => match setP js vs s1 with | some s2 => P .nx s2 | none => False) := by
  show WD ((dr s).bind _) P = _
  rw [D_bind]
  congr 1
  funext v s1
  cases setP js v s1 <;> rfl
theorem W_dPar {js : List Nat} : W (dPar js dr s) P = W (dr s) (fun vs s1 => match setP js vs s1 with | some s2 => P .nx s2 | none => False) := by
  simp only [W, WI_iff]
  exact D_dPar
@[simp ↓] theorem I_dPar {js : List Nat} : WI (dPar js dr s) (K := ⟨P⟩) = WI (dr s) (K := ⟨(fun vs s1 => match setP js vs s1 with | some s2 => P .nx s2 | none => False)⟩) := W_dPar
theorem D_dAsgX {js : List Nat} {dx : DX} : WD (dAsgX js dx s) P = WD (dx s) (fun vs s1 => match setX js vs s1 with | some s2 => P .nx s2 | none => False) := by
  show WD ((dx s).bind _) P = _
  rw [D_bind]
  congr 1
  funext v s1
  cases setX js v s1 <;> rfl
theorem W_dAsgX {js : List Nat} {dx : DX} : W (dAsgX js dx s) P = W (dx s) (fun vs s1 => match setX js vs s1 with | some s2 => P .nx s2 | none => False) := by
  simp only [W, WI_iff]
  exact D_dAsgX
@[simp ↓] theorem I_dAsgX {js : List Nat} {dx : DX} : WI (dAsgX js dx s) (K := ⟨P⟩) = WI (dx s) (K := ⟨(fun vs s1 => match setX js vs s1 with | some s2 => P .nx s2 | none => False)⟩) := W_dAsgX
theorem D_xVal {dx : DX} {B : List SV → S → Prop} : WD (xVal da dx s) B = WD (da s) (fun v s1 => WD (dx s1) fun vs s2 => B (.val v :: vs) s2) := by
  show WD ((da s).bind _) B = _
  rw [D_bind]
  congr 1
  funext x s1
  exact D_bind
theorem W_xVal {dx : DX} {B : List SV → S → Prop} : W (xVal da dx s) B = W (da s) (fun v s1 => W (dx s1) fun vs s2 => B (.val v :: vs) s2) := by
  simp only [W, WI_iff]
  exact D_xVal
@[simp ↓] theorem I_xVal {dx : DX} {B : List SV → S → Prop} : WI (xVal da dx s) (K := ⟨B⟩) = WI (da s) (K := ⟨(fun v s1 => WI (dx s1) (K := ⟨fun vs s2 => B (.val v :: vs) s2⟩))⟩) := W_xVal
theorem D_xOwn {dx : DX} {B : List SV → S → Prop} : WD (xOwn dl dx s) B = WD (dl s) (fun v s1 => WD (dx s1) fun vs s2 => B (.own v :: vs) s2) := by
  show WD ((dl s).bind _) B = _
  rw [D_bind]
  congr 1
  funext x s1
  exact D_bind
theorem W_xOwn {dx : DX} {B : List SV → S → Prop} : W (xOwn dl dx s) B = W (dl s) (fun v s1 => W (dx s1) fun vs s2 => B (.own v :: vs) s2) := by
  simp only [W, WI_iff]
  exact D_xOwn
@[simp ↓] theorem I_xOwn {dx : DX} {B : List SV → S → Prop} : WI (xOwn dl dx s) (K := ⟨B⟩) = WI (dl s) (K := ⟨(fun v s1 => WI (dx s1) (K := ⟨fun vs s2 => B (.own v :: vs) s2⟩))⟩) := W_xOwn
theorem D_tgt {b : Type} {r : R S Unit} {k : S → R S b} {B : b → S → Prop} : WD (tgt r k) B = WD r (fun _ s1 => WD (k s1) B) := by
  cases r <;> rfl
theorem W_tgt {b : Type} {r : R S Unit} {k : S → R S b} {B : b → S → Prop} : W (tgt r k) B = W r (fun _ s1 => W (k s1) B) := by
  simp only [W, WI_iff]
  exact D_tgt
@[simp ↓] theorem I_tgt {b : Type} {r : R S Unit} {k : S → R S b} {B : b → S → Prop} : WI (tgt r k) (K := ⟨B⟩) = WI r (K := ⟨(fun _ s1 => WI (k s1) (K := ⟨B⟩))⟩) := W_tgt
theorem D_dAsg : WD (dAsg da tg s) P = WD (da s) (fun v s1 => WD (tg v s1) fun _ s2 => P .nx s2) := by
  show WD ((da s).bind _) P = _
  rw [D_bind]
  congr 1
  funext v s1
  exact D_tgt
theorem W_dAsg : W (dAsg da tg s) P = W (da s) (fun v s1 => W (tg v s1) fun _ s2 => P .nx s2) := by
  simp only [W, WI_iff]
  exact D_dAsg
@[simp ↓] theorem I_dAsg : WI (dAsg da tg s) (K := ⟨P⟩) = WI (da s) (K := ⟨(fun v s1 => WI (tg v s1) (K := ⟨fun _ s2 => P .nx s2⟩))⟩) := W_dAsg
theorem D_dFor : WD (dFor di tg ds s) P = WD (di s) (fun xs s1 => WD (forL tg ds xs s1) P) := D_bind
theorem W_dFor : W (dFor di tg ds s) P = W (di s) (fun xs s1 => W (forL tg ds xs s1) P) := by
  simp only [W, WI_iff]
  exact D_dFor
@[simp ↓] theorem I_dFor : WI (dFor di tg ds s) (K := ⟨P⟩) = WI (di s) (K := ⟨(fun xs s1 => WI (forL tg ds xs s1) (K := ⟨P⟩))⟩) := W_dFor
theorem D_dFrz {is : List Nat} : WD (dFrz is ds s) P = WD (ds (frozS is s)) P := rfl
theorem W_dFrz {is : List Nat} : W (dFrz is ds s) P = W (ds (frozS is s)) P := by
  simp only [W, WI_iff]
  exact D_dFrz
@[simp ↓] theorem I_dFrz {is : List Nat} : WI (dFrz is ds s) (K := ⟨P⟩) = WI (ds (frozS is s)) (K := ⟨P⟩) := W_dFrz
theorem D_dOwn : WD (dOwn i dl s) P = WD (dl s) (fun xs s1 => P .nx (setO i xs s1)) := D_bind
theorem W_dOwn : W (dOwn i dl s) P = W (dl s) (fun xs s1 => P .nx (setO i xs s1)) := by
  simp only [W, WI_iff]
  exact D_dOwn
@[simp ↓] theorem I_dOwn : WI (dOwn i dl s) (K := ⟨P⟩) = WI (dl s) (K := ⟨(fun xs s1 => P .nx (setO i xs s1))⟩) := W_dOwn
theorem D_dNewF : WD (dNewF dl s) Q = WD (dl s) (fun xs s1 => Q (.ptr s1.mu.length) ⟨s1.env, s1.mu ++ [.lst xs]⟩) := D_bind
theorem W_dNewF : W (dNewF dl s) Q = W (dl s) (fun xs s1 => Q (.ptr s1.mu.length) ⟨s1.env, s1.mu ++ [.lst xs]⟩) := by
  simp only [W, WI_iff]
  exact D_dNewF
@[simp ↓] theorem I_dNewF : WI (dNewF dl s) (K := ⟨Q⟩) = WI (dl s) (K := ⟨(fun xs s1 => Q (.ptr s1.mu.length) ⟨s1.env, s1.mu ++ [.lst xs]⟩)⟩) := W_dNewF
theorem D_dBor {is : List Nat} : WD (dBor is da s) Q = (ownIn is s.env = true ∧ WD (da (frozS is s)) (fun v s1 => flatP v = true ∧ flatMs s1.mu = true ∧ Q v ⟨s.env, s1.mu⟩)) := by
  show WD (if ownIn is s.env = true then _ else _) Q = _
  by_cases h : ownIn is s.env = true
  · rw [if_pos h]
    cases da (frozS is s) with
    | ok v t =>
      show WD (if flatP v = true ∧ flatMs t.mu = true then _ else _) Q = _
      by_cases h2 : flatP v = true ∧ flatMs t.mu = true
      · rw [if_pos h2]; simp [h, h2]
      · rw [if_neg h2]
        simp only [D_bad, D_ok, h, true_and, eq_iff_iff, false_iff]
        exact fun z => h2 ⟨z.1, z.2.1⟩
    | _ => simp
  · rw [if_neg h]; simp [h]
theorem W_dBor {is : List Nat} : W (dBor is da s) Q = (ownIn is s.env = true ∧ W (da (frozS is s)) (fun v s1 => flatP v = true ∧ flatMs s1.mu = true ∧ Q v ⟨s.env, s1.mu⟩)) := by
  simp only [W, WI_iff]
  exact D_dBor
@[simp ↓] theorem I_dBor {is : List Nat} : WI (dBor is da s) (K := ⟨Q⟩) = (ownIn is s.env = true ∧ WI (da (frozS is s)) (K := ⟨(fun v s1 => flatP v = true ∧ flatMs s1.mu = true ∧ Q v ⟨s.env, s1.mu⟩)⟩)) := W_dBor
theorem D_dBorT {is : List Nat} : WD (dBorT is ta s) T = (ownIn is s.env = true ∧ WD (ta (frozS is s)) (fun v s1 => flatMs s1.mu = true ∧ T v ⟨s.env, s1.mu⟩)) := by
  show WD (if ownIn is s.env = true then _ else _) T = _
  by_cases h : ownIn is s.env = true
  · rw [if_pos h]
    cases ta (frozS is s) with
    | ok v t =>
      show WD (if flatMs t.mu = true then _ else _) T = _
      by_cases h2 : flatMs t.mu = true
      · rw [if_pos h2]; simp [h, h2]
      · rw [if_neg h2]
        simp only [D_bad, D_ok, h, true_and, eq_iff_iff, false_iff]
        exact fun z => h2 z.1
    | _ => simp
  · rw [if_neg h]; simp [h]
theorem W_dBorT {is : List Nat} : W (dBorT is ta s) T = (ownIn is s.env = true ∧ W (ta (frozS is s)) (fun v s1 => flatMs s1.mu = true ∧ T v ⟨s.env, s1.mu⟩)) := by
  simp only [W, WI_iff]
  exact D_dBorT
@[simp ↓] theorem I_dBorT {is : List Nat} : WI (dBorT is ta s) (K := ⟨T⟩) = (ownIn is s.env = true ∧ WI (ta (frozS is s)) (K := ⟨(fun v s1 => flatMs s1.mu = true ∧ T v ⟨s.env, s1.mu⟩)⟩)) := W_dBorT
theorem D_dApp {Q : PV → S → Prop} : WD (dApp i da s) Q = ((lstAt i s).isSome = true ∧ WD (da s) (fun v s1 => match lstAt i s1 with | some (xs, k) => xs.length < 16777216 ∧ Q .non (k (xs ++ [v])) | none => False)) := by
  show WD (match lstAt i s with | some _ => _ | none => _) Q = _
  cases e : lstAt i s with
  | none => simp
  | some z =>
    rw [D_bind]
    simp only [Option.isSome_some, true_and]
    congr 1
    funext v s1
    cases lstAt i s1 with
    | none => rfl
    | some y =>
      obtain ⟨xs, k⟩ := y
      show WD (if xs.length < 16777216 then _ else _) Q = _
      by_cases h : xs.length < 16777216 <;> simp [h]
theorem W_dApp {Q : PV → S → Prop} : W (dApp i da s) Q = ((lstAt i s).isSome = true ∧ W (da s) (fun v s1 => match lstAt i s1 with | some (xs, k) => xs.length < 16777216 ∧ Q .non (k (xs ++ [v])) | none => False)) := by
  simp only [W, WI_iff]
  exact D_dApp
@[simp ↓] theorem I_dApp {Q : PV → S → Prop} : WI (dApp i da s) (K := ⟨Q⟩) = ((lstAt i s).isSome = true ∧ WI (da s) (K := ⟨(fun v s1 => match lstAt i s1 with | some (xs, k) => xs.length < 16777216 ∧ Q .non (k (xs ++ [v])) | none => False)⟩)) := W_dApp
theorem D_dSlice {lo hi : DO} : WD (dSlice da lo hi s) Q = WD (da s) (fun v s1 => WD (lo s1) fun a s2 => WD (hi s2) fun b s3 => WD (fCut v a b s3) Q) := by
  show WD ((da s).bind _) Q = _
  rw [D_bind]
  congr 1
  funext x s1
  rw [D_bind]
  congr 1
  funext y s2
  exact D_bind
theorem W_dSlice {lo hi : DO} : W (dSlice da lo hi s) Q = W (da s) (fun v s1 => W (lo s1) fun a s2 => W (hi s2) fun b s3 => W (fCut v a b s3) Q) := by
  simp only [W, WI_iff]
  exact D_dSlice
@[simp ↓] theorem I_dSlice {lo hi : DO} : WI (dSlice da lo hi s) (K := ⟨Q⟩) = WI (da s) (K := ⟨(fun v s1 => WI (lo s1) (K := ⟨fun a s2 => WI (hi s2) (K := ⟨fun b s3 => WI (fCut v a b s3) (K := ⟨Q⟩)⟩)⟩))⟩) := W_dSlice
theorem D_dSome {B : Option Int → S → Prop} : WD (dSome da s) B = WD (da s) (fun v s1 => match v with | .int i => B (some i) s1 | _ => False) := by
  show WD ((da s).bind _) B = _
  rw [D_bind]
  congr 1
  funext v s1
  cases v <;> rfl
theorem W_dSome {B : Option Int → S → Prop} : W (dSome da s) B = W (da s) (fun v s1 => match v with | .int i => B (some i) s1 | _ => False) := by
  simp only [W, WI_iff]
  exact D_dSome
@[simp ↓] theorem I_dSome {B : Option Int → S → Prop} : WI (dSome da s) (K := ⟨B⟩) = WI (da s) (K := ⟨(fun v s1 => match v with | .int i => B (some i) s1 | _ => False)⟩) := W_dSome
theorem D_dComp {B : List PV → S → Prop} {vs : List Nat} : WD (dComp di tg ta da vs s) B = WD (di s) (fun xs s1 => WD (compL tg ta da vs xs [] (wipeS vs s1)) B) := D_bind
theorem W_dComp {B : List PV → S → Prop} {vs : List Nat} : W (dComp di tg ta da vs s) B = W (di s) (fun xs s1 => W (compL tg ta da vs xs [] (wipeS vs s1)) B) := by
  simp only [W, WI_iff]
  exact D_dComp
@[simp ↓] theorem I_dComp {B : List PV → S → Prop} {vs : List Nat} : WI (dComp di tg ta da vs s) (K := ⟨B⟩) = WI (di s) (K := ⟨(fun xs s1 => WI (compL tg ta da vs xs [] (wipeS vs s1)) (K := ⟨B⟩))⟩) := W_dComp
theorem D_dMethR : WD (dMethR fn da dr s) Q = WD (da s) (fun p s1 => match p with | .rat q => WD (dr s1) (fun xs s2 => WD (fn (.rat q :: xs) s2) Q) | _ => False) := by
  show WD ((da s).bind _) Q = _
  rw [D_bind]
  congr 1
  funext p s1
  cases p <;> first | rfl | exact D_bind
theorem W_dMethR : W (dMethR fn da dr s) Q = W (da s) (fun p s1 => match p with | .rat q => W (dr s1) (fun xs s2 => W (fn (.rat q :: xs) s2) Q) | _ => False) := by
  simp only [W, WI_iff]
  exact D_dMethR
@[simp ↓] theorem I_dMethR : WI (dMethR fn da dr s) (K := ⟨Q⟩) = WI (da s) (K := ⟨(fun p s1 => match p with | .rat q => WI (dr s1) (K := ⟨(fun xs s2 => WI (fn (.rat q :: xs) s2) (K := ⟨Q⟩))⟩) | _ => False)⟩) := W_dMethR
theorem D_iSeq {B : List PV → S → Prop} : WD (iSeq da s) B = WD (da s) (fun v s1 => match v with | .lst xs => B xs s1 | .tup xs => B xs s1 | .frz xs => B xs s1 | _ => False) := by
  show WD ((da s).bind _) B = _
  rw [D_bind]
  congr 1
  funext v s1
  cases v <;> rfl
theorem W_iSeq {B : List PV → S → Prop} : W (iSeq da s) B = W (da s) (fun v s1 => match v with | .lst xs => B xs s1 | .tup xs => B xs s1 | .frz xs => B xs s1 | _ => False) := by
  simp only [W, WI_iff]
  exact D_iSeq
@[simp ↓] theorem I_iSeq {B : List PV → S → Prop} : WI (iSeq da s) (K := ⟨B⟩) = WI (da s) (K := ⟨(fun v s1 => match v with | .lst xs => B xs s1 | .tup xs => B xs s1 | .frz xs => B xs s1 | _ => False)⟩) := W_iSeq
theorem D_iRange1 {B : List PV → S → Prop} : WD (iRange1 dr s) B = WD (dr s) (fun vs s1 => match vs with | [.int j] => (-(2 ^ 62) ≤ j ∧ j < 2 ^ 62) ∧ B (rangeP 0 j.toNat) s1 | _ => False) := by
  show WD ((dr s).bind _) B = _
  rw [D_bind]
  congr 1
  funext vs s1
  split
  · rename_i j
    by_cases h : -(2 ^ 62) ≤ j ∧ j < 2 ^ 62
    · rw [if_pos h]; simp only [h, true_and, D_ok, and_self]
    · rw [if_neg h]; simp only [h, false_and, D_bad]
  · first | (split <;> simp_all) | simp_all | simp
theorem W_iRange1 {B : List PV → S → Prop} : W (iRange1 dr s) B = W (dr s) (fun vs s1 => match vs with | [.int j] => (-(2 ^ 62) ≤ j ∧ j < 2 ^ 62) ∧ B (rangeP 0 j.toNat) s1 | _ => False) := by
  simp only [W, WI_iff]
  exact D_iRange1
@[simp ↓] theorem I_iRange1 {B : List PV → S → Prop} : WI (iRange1 dr s) (K := ⟨B⟩) = WI (dr s) (K := ⟨(fun vs s1 => match vs with | [.int j] => (-(2 ^ 62) ≤ j ∧ j < 2 ^ 62) ∧ B (rangeP 0 j.toNat) s1 | _ => False)⟩) := W_iRange1
theorem D_iRange2 {B : List PV → S → Prop} : WD (iRange2 dr s) B = WD (dr s) (fun vs s1 => match vs with | [.int i, .int j] => (-(2 ^ 62) ≤ i ∧ i < 2 ^ 62 ∧ -(2 ^ 62) ≤ j ∧ j < 2 ^ 62) ∧ B (rangeP i (j - i).toNat) s1 | _ => False) := by
  show WD ((dr s).bind _) B = _
  rw [D_bind]
  congr 1
  funext vs s1
  split
  · rename_i i j
    by_cases h : -(2 ^ 62) ≤ i ∧ i < 2 ^ 62 ∧ -(2 ^ 62) ≤ j ∧ j < 2 ^ 62
    · rw [if_pos h]; simp only [h, true_and, D_ok, and_self]
    · rw [if_neg h]; simp only [h, false_and, D_bad]
  · first | (split <;> simp_all) | simp_all | simp
theorem W_iRange2 {B : List PV → S → Prop} : W (iRange2 dr s) B = W (dr s) (fun vs s1 => match vs with | [.int i, .int j] => (-(2 ^ 62) ≤ i ∧ i < 2 ^ 62 ∧ -(2 ^ 62) ≤ j ∧ j < 2 ^ 62) ∧ B (rangeP i (j - i).toNat) s1 | _ => False) := by
  simp only [W, WI_iff]
  exact D_iRange2
@[simp ↓] theorem I_iRange2 {B : List PV → S → Prop} : WI (iRange2 dr s) (K := ⟨B⟩) = WI (dr s) (K := ⟨(fun vs s1 => match vs with | [.int i, .int j] => (-(2 ^ 62) ≤ i ∧ i < 2 ^ 62 ∧ -(2 ^ 62) ≤ j ∧ j < 2 ^ 62) ∧ B (rangeP i (j - i).toNat) s1 | _ => False)⟩) := W_iRange2
theorem D_iEnumQ {B : List PV → S → Prop} : WD (iEnumQ dr s) B = WD (dr s) (fun vs s1 => match vs with | [.lst xs] => B (enumP xs) s1 | [.tup xs] => B (enumP xs) s1 | _ => False) := by
  show WD ((dr s).bind _) B = _
  rw [D_bind]
  congr 1
  funext vs s1
  split <;> simp_all
theorem W_iEnumQ {B : List PV → S → Prop} : W (iEnumQ dr s) B = W (dr s) (fun vs s1 => match vs with | [.lst xs] => B (enumP xs) s1 | [.tup xs] => B (enumP xs) s1 | _ => False) := by
  simp only [W, WI_iff]
  exact D_iEnumQ
@[simp ↓] theorem I_iEnumQ {B : List PV → S → Prop} : WI (iEnumQ dr s) (K := ⟨B⟩) = WI (dr s) (K := ⟨(fun vs s1 => match vs with | [.lst xs] => B (enumP xs) s1 | [.tup xs] => B (enumP xs) s1 | _ => False)⟩) := W_iEnumQ
theorem D_iZip {B : List PV → S → Prop} : WD (iZip dr s) B = WD (dr s) (fun vs s1 => match vs with | [.lst xs, .lst ys] => B (zipP xs ys) s1 | [.tup xs, .tup ys] => B (zipP xs ys) s1 | _ => False) := by
  show WD ((dr s).bind _) B = _
  rw [D_bind]
  congr 1
  funext vs s1
  split <;> simp_all
theorem W_iZip {B : List PV → S → Prop} : W (iZip dr s) B = W (dr s) (fun vs s1 => match vs with | [.lst xs, .lst ys] => B (zipP xs ys) s1 | [.tup xs, .tup ys] => B (zipP xs ys) s1 | _ => False) := by
  simp only [W, WI_iff]
  exact D_iZip
@[simp ↓] theorem I_iZip {B : List PV → S → Prop} : WI (iZip dr s) (K := ⟨B⟩) = WI (dr s) (K := ⟨(fun vs s1 => match vs with | [.lst xs, .lst ys] => B (zipP xs ys) s1 | [.tup xs, .tup ys] => B (zipP xs ys) s1 | _ => False)⟩) := W_iZip
theorem D_dListF {B : List PV → S → Prop} : WD (dListF da s) B = WD (da s) (fun p s1 => match asL s1.mu p with | some xs => B xs s1 | none => False) := by
  show WD ((da s).bind _) B = _
  rw [D_bind]
  congr 1
  funext v s1
  cases h : asL s1.mu v <;> simp [h]
theorem W_dListF {B : List PV → S → Prop} : W (dListF da s) B = W (da s) (fun p s1 => match asL s1.mu p with | some xs => B xs s1 | none => False) := by
  simp only [W, WI_iff]
  exact D_dListF
@[simp ↓] theorem I_dListF {B : List PV → S → Prop} : WI (dListF da s) (K := ⟨B⟩) = WI (da s) (K := ⟨(fun p s1 => match asL s1.mu p with | some xs => B xs s1 | none => False)⟩) := W_dListF
theorem D_dWhile {fuel : S → Nat} : WD (dWhile fuel ta ds s) P = WD (whileL ta ds (fuel s) s) P := rfl
theorem W_dWhile {fuel : S → Nat} : W (dWhile fuel ta ds s) P = W (whileL ta ds (fuel s) s) P := by
  simp only [W, WI_iff]
  exact D_dWhile
@[simp ↓] theorem I_dWhile {fuel : S → Nat} : WI (dWhile fuel ta ds s) (K := ⟨P⟩) = WI (whileL ta ds (fuel s) s) (K := ⟨P⟩) := W_dWhile
theorem D_runBody {d : DS} {ps : List PV} {mu : List MO} {B : PV → List MO → Prop} : WD (runBody n d ps mu) B = WD (d ⟨ps.map (fun p => some (.val p)) ++ List.replicate (n - ps.length) none, mu⟩) (fun f s => match f with | .rt v => B v s.mu | .nx => B .non s.mu | _ => False) := by
  unfold runBody
  cases d ⟨ps.map (fun p => some (.val p)) ++ List.replicate (n - ps.length) none, mu⟩ with
  | ok f t => cases f <;> rfl
  | _ => rfl
theorem W_runBody {d : DS} {ps : List PV} {mu : List MO} {B : PV → List MO → Prop} : W (runBody n d ps mu) B = W (d ⟨ps.map (fun p => some (.val p)) ++ List.replicate (n - ps.length) none, mu⟩) (fun f s => match f with | .rt v => B v s.mu | .nx => B .non s.mu | _ => False) := by
  simp only [W, WI_iff]
  exact D_runBody
theorem D_forL (I : List PV → S → Prop) {xs : List PV} (h0 : I xs s) (hs : ∀ x ys s, I (x :: ys) s → WD (tgt (tg x s) ds) (fun f s' => match f with | .nx => I ys s' | .ct => I ys s' | .bk => P .nx s' | .rt v => P (.rt v) s')) (he : ∀ s, I [] s → P .nx s) : WD (forL tg ds xs s) P := by
  induction xs generalizing s with
  | nil => exact he s h0
  | cons x ys ih =>
    have h := hs x ys s h0
    unfold forL
    rw [D_tgt] at h ⊢
    refine h.mono fun _ s1 h1 => ?_
    rw [D_bind]
    refine h1.mono fun f s2 h2 => ?_
    cases f with
    | nx => exact ih h2
    | ct => exact ih h2
    | bk => exact h2
    | rt v => exact h2
theorem W_forL (I : List PV → S → Prop) {xs : List PV} (h0 : I xs s) (hs : ∀ x ys s, I (x :: ys) s → W (tgt (tg x s) ds) (fun f s' => match f with | .nx => I ys s' | .ct => I ys s' | .bk => P .nx s' | .rt v => P (.rt v) s')) (he : ∀ s, I [] s → P .nx s) : W (forL tg ds xs s) P := by
  simp only [W, WI_iff] at hs ⊢
  exact D_forL I h0 hs he
end
end L3
namespace LD
open PySem L3
/-- slots: self, other, far -/
def d_Ratio___eq__ : DS := (dSeq (dIfS (dNotT (dTru (dFnS F_is_number (dCons (dVar 1) dNil)))) (dRet (dC (.bl false))) dSkip) (dSeq (dSet 2 (dFnS F_ratio_of (dCons (dVar 1) dNil))) (dRet (dAnd (dBin (gEq false) (dUn fTop (dVar 0)) (dUn fTop (dVar 2))) (dBin (gEq false) (dUn fBot (dVar 0)) (dUn fBot (dVar 2)))))))
def F_Ratio___eq__ : DF := runBody 3 d_Ratio___eq__
/-- slots: self, other, far -/
def d_Ratio___sub__ : DS := (dSeq (dSet 2 (dFnS F_ratio_of (dCons (dVar 1) dNil))) (dRet (dFn (fMakeR okR) (dCons (dBin gSub (dBin gMul (dUn fTop (dVar 0)) (dUn fBot (dVar 2))) (dBin gMul (dUn fTop (dVar 2)) (dUn fBot (dVar 0)))) (dCons (dBin gMul (dUn fBot (dVar 0)) (dUn fBot (dVar 2))) dNil)))))
def F_Ratio___sub__ : DF := runBody 3 d_Ratio___sub__
/-- slots: self, other, far -/
def d_Ratio___mul__ : DS := (dSeq (dSet 2 (dFnS F_ratio_of (dCons (dVar 1) dNil))) (dRet (dFn (fMakeR okR) (dCons (dBin gMul (dUn fTop (dVar 0)) (dUn fTop (dVar 2))) (dCons (dBin gMul (dUn fBot (dVar 0)) (dUn fBot (dVar 2))) dNil)))))
def F_Ratio___mul__ : DF := runBody 3 d_Ratio___mul__
end LD
namespace LD
open PySem L3
end LD
namespace LD
open PySem L3
/-- slots: self -/
def d_Ratio_floor : DS := (dRet (dBin gFdiv (dUn fTop (dVar 0)) (dUn fBot (dVar 0))))
def F_Ratio_floor : DF := runBody 1 d_Ratio_floor
end LD
namespace LD
open PySem L3
/-- slots: self -/
def d_Ratio___abs__ : DS := (dRet (dFn (fMakeR okR) (dCons (dFn fAbsI (dCons (dUn fTop (dVar 0)) dNil)) (dCons (dUn fBot (dVar 0)) dNil))))
def F_Ratio___abs__ : DF := runBody 1 d_Ratio___abs__
end LD
namespace LD
open PySem L3
/-- slots: self, other -/
def d_Ratio___rmul__ : DS := (dRet (dBin (gRL F_Ratio___mul__ gMul) (dFnS F_ratio_of (dCons (dVar 1) dNil)) (dVar 0)))
def F_Ratio___rmul__ : DF := runBody 2 d_Ratio___rmul__
/-- slots: self, other, far -/
def d_Ratio___add__ : DS := (dSeq (dSet 2 (dFnS F_ratio_of (dCons (dVar 1) dNil))) (dRet (dFn (fMakeR okR) (dCons (dBin gAdd (dBin gMul (dUn fTop (dVar 0)) (dUn fBot (dVar 2))) (dBin gMul (dUn fTop (dVar 2)) (dUn fBot (dVar 0)))) (dCons (dBin gMul (dUn fBot (dVar 0)) (dUn fBot (dVar 2))) dNil)))))
def F_Ratio___add__ : DF := runBody 3 d_Ratio___add__
/-- slots: self -/
def d_Ratio___neg__ : DS := (dRet (dFn (fMakeR okR) (dCons (dBin gSub (dC (.int 0)) (dUn fTop (dVar 0))) (dCons (dUn fBot (dVar 0)) dNil))))
def F_Ratio___neg__ : DF := runBody 1 d_Ratio___neg__
end LD
namespace LD
open PySem L3
/-- slots: self, other, far, difference -/
def d_Ratio_compared : DS := (dSeq (dExpr (dFnS F_need_number (dCons (dVar 1) dNil))) (dSeq (dSet 2 (dFnS F_ratio_of (dCons (dVar 1) dNil))) (dSeq (dSet 3 (dBin gSub (dBin gMul (dUn fTop (dVar 0)) (dUn fBot (dVar 2))) (dBin gMul (dUn fTop (dVar 2)) (dUn fBot (dVar 0))))) (dRet (dBin gSub (dFn fIntB (dCons (dBin gGt (dVar 3) (dC (.int 0))) dNil)) (dFn fIntB (dCons (dBin gLt (dVar 3) (dC (.int 0))) dNil)))))))
def F_Ratio_compared : DF := runBody 4 d_Ratio_compared
end LD
namespace LD
open PySem L3
end LD
set_option maxHeartbeats 2000000
namespace L3
open PySem PySem.Spec PyProof.Rows L2
def IsQ : Bool → Heap → Addr → Array Value → Prop
  | true, h, l, xs => h.IsTuple l xs
  | false, h, l, xs => h.IsList l xs
def IsQi : Bool → Heap → Addr → Addr → Nat → Prop
  | true, h, it, l, k => h.IsTupleIter it l k
  | false, h, it, l, k => h.IsListIter it l k
theorem IsQi.obj {t : Bool} {h : Heap} {it l : Addr} {k : Nat} (x : IsQi t h it l k) : ∃ o, h.get? it = some o ∧ ∀ v, o.data ≠ .cell v := by
  cases t with
  | true =>
    obtain ⟨o, e, _, d⟩ := x
    exact ⟨o, e, fun v q => by rw [d] at q; cases q⟩
  | false =>
    obtain ⟨o, e, _, d⟩ := x
    exact ⟨o, e, fun v q => by rw [d] at q; cases q⟩
theorem IsQ.obj {t : Bool} {h : Heap} {l : Addr} {xs : Array Value} (x : IsQ t h l xs) : ∃ o, h.get? l = some o := by
  cases t with
  | true => exact ⟨_, x.choose_spec.1⟩
  | false => exact ⟨_, x.choose_spec.1⟩
end L3
set_option maxHeartbeats 2000000
namespace L3
open PySem PySem.Spec PyProof.Rows L2
end L3
set_option maxHeartbeats 2000000
namespace L3
open PySem PySem.Spec PyProof.Rows L2
/-- the items of a list or a tuple -/
@[simp] def seqP : PV → Option (List PV)
  | .lst xs => some xs | .tup xs => some xs | .frz xs => some xs
  | _ => none
@[simp] def iZipQ (d : DA) : DI := fun s => (d s).bind fun vs s1 => match vs with
  | [p, q] => (match seqP p, seqP q with
    | some xs, some ys => .ok (zipP xs ys) s1
    | _, _ => .bad)
  | _ => .bad
end L3
namespace LD
open PySem L3
end LD
set_option maxHeartbeats 2000000
namespace L3
open PySem PySem.Spec PyProof.Rows L2
def repS (x : Str) (n : Nat) : Str := ⟨(List.replicate n x.cps).foldl (· ++ ·) #[]⟩
@[simp] def fRepS : PV → PV → S → R S PV := fun p q s => match p, q with
  | .str x, .int k => if -1000 ≤ k ∧ k ≤ 1000 ∧ x.length ≤ 1000 then .ok (.str (repS x k.toNat)) s else .bad
  | _, _ => .bad
@[simp] def gMulS : PV → PV → S → R S PV := fun p q s => match p with
  | .str _ => fRepS p q s
  | _ => gMul p q s
section
variable {X : Cx} {g : Gx}
@[simp] def fIntT : List PV → S → R S PV := fun ps s => match ps with
  | [.str x] => if x.length ≤ 640 then (match intText? x with
    | some n => .ok (.int n) s
    | none => .bad) else .bad
  | _ => fIntB ps s
@[simp] def fStrI : List PV → S → R S PV := fun ps s => match ps with
  | [.int i] => if ib i ≤ 1900 then .ok (.str (Str.ofString (toString i))) s else .bad
  | _ => .bad
end
end L3
set_option maxHeartbeats 2000000
namespace L3
open PySem PySem.Spec PyProof.Rows L2
@[simp] def gTL (n : Nat) (t : DGs) : DG := fun v s => match v with
  | .lst xs => if xs.length = n then t xs s else .bad
  | _ => .bad
end L3
namespace LD
open PySem L3
end LD
namespace LD
open PySem L3
end LD
set_option maxHeartbeats 1000000
namespace L3
open PySem PySem.Spec PyProof.Rows L2
end L3
set_option maxHeartbeats 1000000
namespace L3
open PySem PySem.Spec PyProof.Rows L2
@[simp] def gInK (neg : Bool) : PV → PV → S → R S PV := fun p q s => match q with
  | .dk ks xs => (match keyP p with
    | some k => .ok (.bl (xor neg (lookK k ks xs).isSome)) s
    | none => .bad)
  | _ => .bad
end L3
namespace LD
open PySem L3
/-- slots: self -/
def d_Ratio_ceiling : DS := (dRet (dBin gSub (dC (.int 0)) (dBin gFdiv (dBin gSub (dC (.int 0)) (dUn fTop (dVar 0))) (dUn fBot (dVar 0)))))
def F_Ratio_ceiling : DF := runBody 1 d_Ratio_ceiling
end LD
namespace LD
open PySem L3
end LD
set_option maxHeartbeats 1000000
namespace L3
open PySem PySem.Spec PyProof.Rows L2
def downP (i : Int) (n : Nat) : List PV := (List.range n).map fun k => PV.int (i - (k : Nat))
def DnOk (i j : Int) : Prop := -(2 ^ 62) ≤ i ∧ i < 2 ^ 62 ∧ -(2 ^ 62) ≤ j ∧ j < 2 ^ 62 ∧ (i - j).toNat ≤ 2 ^ 24
instance (i j : Int) : Decidable (DnOk i j) := by unfold DnOk; infer_instance
@[simp] def dListDn (d : DA) : DL := fun s => (d s).bind fun ps s1 => match ps with
  | [.int i, .int j, .int c] => if c = -1 ∧ DnOk i j then .ok (downP i (i - j).toNat) s1 else .bad
  | _ => .bad
end L3
namespace LD
open PySem L3
end LD
set_option maxHeartbeats 1000000
namespace L3
open PySem PySem.Spec PyProof.Rows L2
def UpOk (j : Int) : Prop := -(2 ^ 62) ≤ j ∧ j < 2 ^ 62 ∧ j.toNat ≤ 2 ^ 24
instance (j : Int) : Decidable (UpOk j) := by unfold UpOk; infer_instance
@[simp] def dListUp (d : DA) : DL := fun s => (d s).bind fun ps s1 => match ps with
  | [.int j] => if UpOk j then .ok (rangeP 0 j.toNat) s1 else .bad
  | _ => .bad
end L3
set_option maxHeartbeats 1000000
namespace L3
open PySem PySem.Spec PyProof.Rows L2
def leP (a b : Int × Int) : Bool := decide (a.1 < b.1 ∨ (a.1 = b.1 ∧ a.2 ≤ b.2))
abbrev psort (l : List (Int × Int)) : List (Int × Int) := srt leP l
def prP (p : Int × Int) : PV := .tup [.int p.1, .int p.2]
def pairsP : List PV → Option (List (Int × Int))
  | [] => some []
  | .tup [.int i, .int j] :: r => (match pairsP r with | some ps => some ((i, j) :: ps) | none => none)
  | _ => none
@[simp] def fSortP : List PV → S → R S PV := fun ps s => match ps with
  | [.lst xs] => (match pairsP xs with
    | some is => .ok (.lst ((psort is).map prP)) s
    | none => .bad)
  | _ => .bad
end L3
namespace LD
open PySem L3
end LD
namespace LD
open PySem L3
end LD
set_option maxHeartbeats 1000000
namespace L3
open PySem PySem.Spec PyProof.Rows L2
instance keyIn (k : Key) (ks : List Key) : Decidable (k ∈ ks) := decidable_of_iff ((ks.any fun j => decide (j = k)) = true) (by rw [List.any_eq_true]; exact ⟨fun ⟨x, h, e⟩ => by rw [← of_decide_eq_true e]; exact h, fun h => ⟨k, h, decide_eq_true rfl⟩⟩)
def dicAt (mu : List MO) : PV → Option (Nat × List Key × List PV)
  | .ptr n => (match mu[n]? with
    | some (.dic ks xs) => some (n, ks, xs)
    | _ => none)
  | _ => none
@[simp] theorem dicAt_ptr {mu : List MO} {n : Nat} : dicAt mu (.ptr n) = (match mu[n]? with | some (.dic ks xs) => some (n, ks, xs) | _ => none) := rfl
def putKs (ks : List Key) (k : Key) : List Key := if k ∈ ks then ks else ks ++ [k]
def putXs {α : Type} : List Key → List α → Key → α → List α
  | j :: ks, x :: xs, k, v => if j = k then v :: xs else x :: putXs ks xs k v
  | _, _, _, v => [v]
@[simp] def dNewD : DE := fun s => .ok (.ptr s.mu.length) ⟨s.env, s.mu ++ [.dic [] []]⟩
@[simp] def dIxM (da db : DE) : DE := fun s => (da s).bind fun p s1 => (db s1).bind fun q s2 => match dicAt s2.mu p, keyP q with
  | some (_, ks, xs), some k => optR (lookK k ks xs) s2
  | _, _ => .bad
@[simp] def dGetM (da db dc : DE) : DE := fun s => (da s).bind fun p s1 => match dicAt s1.mu p with
  | some _ => (db s1).bind fun q s2 => (dc s2).bind fun z s3 => (match dicAt s3.mu p, keyP q with
    | some (_, ks, xs), some k => .ok ((lookK k ks xs).getD z) s3
    | _, _ => .bad)
  | none => .bad
@[simp] def dSetdM (da db dc : DE) : DE := fun s => (da s).bind fun p s1 => match dicAt s1.mu p with
  | some _ => (db s1).bind fun q s2 => (dc s2).bind fun z s3 => (match dicAt s3.mu p, keyP q with
    | some (n, ks, xs), some k => if ks.length < 16777216 then (match lookK k ks xs with
      | some x => .ok x s3
      | none => .ok z ⟨s3.env, s3.mu.set n (.dic (putKs ks k) (putXs ks xs k z))⟩) else .bad
    | _, _ => .bad)
  | none => .bad
@[simp] def dPutM (dv da db : DE) : DS := fun s => (dv s).bind fun v s1 => (da s1).bind fun p s2 => (db s2).bind fun q s3 => match dicAt s3.mu p, keyP q with
  | some (n, ks, xs), some k => if ks.length < 16777216 then .ok .nx ⟨s3.env, s3.mu.set n (.dic (putKs ks k) (putXs ks xs k v))⟩ else .bad
  | _, _ => .bad
end L3
namespace LD
open PySem L3
end LD
namespace L3
open PySem PySem.Spec PyProof.Rows L2
/-- the maker's names as the lambda sees them: own lists are not seen -/
@[simp] def capt : List (Option SV) → List (Option SV)
  | [] => []
  | some (.val v) :: r => some (.val v) :: capt r
  | _ :: r => none :: capt r
@[simp] def capV : List (Option SV) → List PV
  | [] => []
  | some (.val v) :: r => v :: capV r
  | _ :: r => .non :: capV r
section
variable {X : Cx} {pins : List (Addr × Obj)} {σ : St} {H : Hp} {s : Shared}
/-- where lambdas are made: the def's own code object, its table -/
structure Mkr (X : Cx) (y : Str) : Prop where
  mem : y ∈ TK X.K
  code : X.env.code = .ref (cdA X.K y)
  tab : LamX.TabB X.base X.mg (cdA X.K y) (tA X.K y)
  qual : X.env.qual ++ "<lambda>" = y ++ ".<locals>.<lambda>"
  inj : ∀ z ∈ TK X.K, tA X.K z = tA X.K y → z = y
end
end L3
namespace L3
open PySem PySem.Spec PyProof.Rows L2
section
variable {P : Program} {w : World} {K : PySem.W.Frag} {mg mb : Str → Option Value} {CX : CXT} {k : Nat} {fa a : Addr} {fd : FuncData} {x : Str} {sp : Sp} {s₁ : Shared} {vs : List Value} {ns : List Int} {names : List Str}
theorem callGT (KX : K.In s₁.heap) (hns : s₁.heap.Ns mainGlobals mg) (hb : s₁.heap.Ns builtinsNs mb) (hbb : ∀ x : Str, x ≠ "__name__" → mb x = bootBuiltins x) (hlim : s₁.heap.NoLimit) (hg : s₁.gens = #[]) (T : Tabs s₁.heap K names)
    (hbm : ∃ (bm : Addr) (ob : Obj), mg "__builtins__" = some (.ref bm) ∧ bm ≠ builtinsNs ∧ s₁.heap.get? bm = some ob ∧ ob.cls = .type "module" ∧ ob.dict = some builtinsNs ∧ ob.data = .plain)
    (ha : s₁.heap.get? a = some { cls := .type "list", data := .seq vs.toArray }) (hi : IntsAre vs ns) (hl : ns.length ≤ sizeLine) (hr : L2.Room k callerA)
    (F : ∀ base : Heap, K.In base → base.Ns mainGlobals mg → (∀ x ∈ names, LamX.TabB base mg (cdA K x) (tA K x)) → FnG P w K mg base CX k fa fd [x] sp) (hbind : ∀ (s : Shared) (u : Value), BindsTo s fd ⟨[u], []⟩ [(x, u)])
    (hsp : ∀ H : Hp, (∀ x ∈ names, H (tA K x) = some (.tbl #[])) → SqL K H a (ns.map V.int) → sp [.ref a] H (fun v _ => v = .bl true) fun _ _ _ => False) (hCX : ∀ H e s', CX [] H s₁ (fun _ _ _ => False) e s' → False) :
    codeAny (model P w) callerA (.call (.ref fa) ⟨[.ref a], []⟩) (fun r s' => r = .ok (.ret (.bool true)) ∧ OldK s₁.heap s'.heap ∧ s'.os = s₁.os ∧ AllBare s'.gens) s₁ := by
  have rv := vals_ints hi
  have isT : ∀ b ∈ names.map (tA K), s₁.heap.get? b = some { cls := .none, data := .fields #[] } := fun b hb => by
    obtain ⟨y, hy, rfl⟩ := List.mem_map.mp hb
    exact T.emp y hy
  have aT : a ∉ names.map (tA K) := fun z => by
    have q := isT a z
    rw [ha] at q
    cases q
  have inT : ∀ y ∈ names, tA K y ∈ names.map (tA K) := fun y hy => List.mem_map.mpr ⟨y, hy, rfl⟩
  -- the heap that is tracked: the tables, and the script
  obtain ⟨H, hT, hcase, hok, hS⟩ : ∃ H : Hp, (∀ b ∈ names.map (tA K), H b = some (.tbl #[])) ∧ (∀ b, b ∉ names.map (tA K) → H b = none ∨ (b = a ∧ K.lookup a = none ∧ ∃ o xs, H b = some (.frz o (.lst xs)))) ∧ HOk P w H s₁.heap ∧ SqL K H a (ns.map V.int) := by
    match hk : K.lookup a with
    | some o =>
      have e := KX a o hk
      rw [ha] at e
      cases e
      refine ⟨fun b => if b ∈ names.map (tA K) then some (.tbl #[]) else none, fun b h => if_pos h, fun b h => .inl (if_neg h), fun b u z => ?_, .inr ⟨_, vs.toArray, _, hk, rfl, rfl, rfl, by rw [List.size_toArray, hi.length]; exact hl, by simpa using rv⟩⟩
      by_cases q : b ∈ names.map (tA K)
      · have z := (if_pos q).symm.trans z
        cases z
        exact isT b q
      · have z := (if_neg q).symm.trans z
        cases z
    | none =>
      let ob : Obj := { cls := .type "list", data := .seq vs.toArray }
      refine ⟨fun b => if b ∈ names.map (tA K) then some (.tbl #[]) else if b = a then some (.frz ob (.lst (ns.map V.int))) else none, fun b h => if_pos h, fun b h => ?_, fun b u z => ?_, .inl (.inr ⟨ob, (if_neg aT).trans (if_pos rfl)⟩)⟩
      · by_cases q : b = a
        · exact .inr ⟨q, rfl, ob, _, (if_neg h).trans (if_pos q)⟩
        · exact .inl ((if_neg h).trans (if_neg q))
      · by_cases q : b ∈ names.map (tA K)
        · have z := (if_pos q).symm.trans z
          cases z
          exact isT b q
        · have z := (if_neg q).symm.trans z
          by_cases q2 : b = a
          · have z := (if_pos q2).symm.trans z
            cases z
            subst q2
            exact ⟨ha, by rw [List.length_map]; exact hl, vs, _, rv, ha⟩
          · have z := (if_neg q2).symm.trans z
            cases z
  -- what is not tracked
  have out : ∀ (b : Addr) (o : Obj), s₁.heap.get? b = some o → (∀ us n, o.data ≠ .seq us n) → o.data ≠ .fields #[] → H b = none := fun b o e n1 n2 => by
    by_cases q : b ∈ names.map (tA K)
    · rw [isT b q] at e
      cases e
      exact absurd rfl n2
    · rcases hcase b q with z | ⟨z, _⟩
      · exact z
      · rw [z, ha] at e
        cases e
        exact absurd rfl (n1 _ _)
  have hid : ∀ {b : Addr} {m : Str → Option Value}, s₁.heap.Ns b m → (hidT s₁.heap H).Ns b m := by
    rintro b m ⟨o, es, ep, e, d, r⟩
    exact ⟨o, es, ep, hidT_get e (out b o e (fun us n z => by rw [d] at z; cases z) (fun z => by rw [d] at z; cases z)), d, r⟩
  have kin : K.In (hidT s₁.heap H) := fun b o e => by
    refine hidT_get (KX b o e) ?_
    by_cases q : b ∈ names.map (tA K)
    · obtain ⟨y, hy, rfl⟩ := List.mem_map.mp q
      rw [T.out y hy] at e
      cases e
    · rcases hcase b q with z | ⟨z, z2, _⟩
      · exact z
      · rw [z, z2] at e
        cases e
  have tb : ∀ y ∈ names, LamX.TabB (hidT s₁.heap H) mg (cdA K y) (tA K y) := fun y hy => by
    refine ⟨?_, ?_, fun z => ?_⟩
    · obtain ⟨o, us, file, tf, flags, tg, inF, text, tt, e1, r1, r2, r3, r⟩ := T.hd y hy
      exact ⟨o, us, file, tf, flags, tg, inF, text, tt, hidT_get e1 (out _ o e1 (fun vs n z => by rw [r2] at z; cases z) fun z => by
        rw [r2] at z
        cases z
        simp at r3), r1, r2, r3, r⟩
    · obtain ⟨bm, ob, b1, b2, b3, b4, b5, b6⟩ := hbm
      refine ⟨bm, ob, b1, b2, fun q => ?_, fun q => ?_, hidT_get b3 (out _ ob b3 (fun vs n z => by rw [b6] at z; cases z) fun z => by rw [b6] at z; cases z), b4, b5, b6⟩
      · obtain ⟨o, es, ep, e, hd, _⟩ := hns
        rw [q, e] at b3
        cases b3
        rw [hd] at b6
        cases b6
      · rw [q, T.emp y hy] at b3
        cases b3
        cases b6
    · obtain ⟨o, es, ep, e, hd, _⟩ := hns
      rw [z, T.emp y hy] at e
      cases e
      cases hd
  obtain ⟨mc, c1, c2⟩ := hlim
  have e0 : Env0 P w K mg (hidT s₁.heap H) callerA [] s₁ H := ⟨rfl, ⟨kin, hid hns, ⟨mb, hid hb, hbb⟩, ⟨mc, hid c1, c2⟩⟩, fun b o e => of_hidT e, Nat.le_of_eq (hidT_size _ _), trivial, fun b z => (nomatch z), hok, .of_eq hg⟩
  refine codeAny_mono ((F _ kin (hid hns) tb).run callerA [] s₁ H ⟨[.ref a], []⟩ [.ref a] [.ref a] _ _ (room_top hr) e0 (hbind s₁ (.ref a)) (.cons rfl .nil) (hsp H (fun y hy => hT _ (inT y hy)) hS)) fun r s' h => ?_
  match r, h with
  | .error e, z => exact (hCX H e s' z).elim
  | .ok .next, z => exact False.elim z
  | .ok .brk, z => exact False.elim z
  | .ok .cont, z => exact False.elim z
  | .ok (.ret u), ⟨v, H', os, bare, un, hok', rv', ev⟩ =>
    have ev : v = .bl true := ev
    subst ev
    cases (show u = Value.bool true from rv')
    have tabs' : ∀ b ∈ names.map (tA K), ∃ more : Array Value, s'.heap.get? b = some { cls := .none, data := .fields more } := fun b hb => by
      obtain ⟨more, z⟩ := un.tbls b #[] (hT b hb)
      exact ⟨_, hok' b _ z⟩
    have keep' : ∀ b o, b ∉ names.map (tA K) → s₁.heap.get? b = some o → s'.heap.get? b = some o := fun b o nb e => by
      rcases hcase b nb with z | ⟨_, _, ob, xs, z⟩
      · exact un.keep b o e z (fun y => nomatch y) (fun y => nomatch y)
      · have e1 := (hok b _ z).1
        rw [e] at e1
        cases e1
        exact (hok' b _ (un.frzs b _ _ z)).1
    refine ⟨rfl, ⟨fun b o e => ?_, fun b o e => ?_⟩, os, bare⟩
    · by_cases q : b ∈ names.map (tA K)
      · obtain ⟨more, hm⟩ := tabs' b q
        obtain ⟨y, hy, ey⟩ := List.mem_map.mp q
        have e2 := e
        rw [isT b q] at e2
        cases e2
        have cd := (T.hd y hy).tab (T.emp y hy)
        rw [ey] at cd
        exact .inr (.inl ⟨cd.isCodeTable, rfl, #[], more, rfl, by rw [Array.empty_append]; exact hm⟩)
      · exact .inl (keep' b o q e)
    · by_cases q : b ∈ names.map (tA K)
      · obtain ⟨more, hm⟩ := tabs' b q
        exact ⟨_, hm⟩
      · exact ⟨o, keep' b o q e⟩
end
/-- a law's end -/
theorem walkGT {l : PySem.W.OpenLaw} {n k : Nat} {q : Program} {loose : List Str} {XP : (Str → Option Value) → Heap → Prop} {YP : World → Heap → Prop} {d : DefRec} {CX : CXT} {x : Str} {names : List Str} (hn : l.most = some n) (hn2 : n ≤ sizeLine) (hdf : d.params.defaults = []) (hr : L2.Room k callerA)
    (F : ∀ (w : World) (mg : Str → Option Value) (fa : Addr) (h : Heap), YP w h → h.Ns mainGlobals mg → mg d.name = some (.ref fa) →
      ∃ (K : PySem.W.Frag) (fd : FuncData) (sp : Sp), K.In h ∧ Tabs h K names ∧ (∀ (s : Shared) (u : Value), BindsTo s fd ⟨[u], []⟩ [(x, u)]) ∧ (∀ (H : Hp) (a : Addr) (ns : List Int), ns.length ≤ n → (∀ x ∈ names, H (tA K x) = some (.tbl #[])) → SqL K H a (ns.map V.int) → sp [.ref a] H (fun v _ => v = .bl true) fun _ _ _ => False) ∧
        ∀ base : Heap, K.In base → base.Ns mainGlobals mg → (∀ x ∈ names, LamX.TabB base mg (cdA K x) (tA K x)) → FnG l.prog w K mg base CX k fa fd [x] sp)
    (hCX : ∀ (H : Hp) (s : Shared) (e : Value) (s' : Shared), CX [] H s (fun _ _ _ => False) e s' → False) : PySem.W.WalkO q loose XP YP l.row.toRowW d [] (fun f vs => PySem.call f vs) := by
  refine Att.attach_call hn hdf fun w s₀ s₁ mg mb fa o pm cd doc a vs ns G Y ho hd hcd hmg hobj hints hlen hg => ?_
  obtain ⟨K, fd, sp, KX, T, hb, hsp, hF⟩ := F w mg fa _ Y G.T.g hmg
  have t := G.T
  exact callGT KX t.g t.b t.builtins t.nolimit hg T t.bmain hobj hints (Nat.le_trans hlen hn2) hr hF hb (fun H hT hS => hsp H a ns hlen hT hS) fun H e s' => hCX H s₁ e s'
theorem inj_nd {f : Str → Addr} : ∀ {l : List Str}, (l.map f).Nodup → ∀ a ∈ l, ∀ b ∈ l, f a = f b → a = b
  | n :: r, h, a, ha, b, hb, e => by
    rw [List.map_cons, List.nodup_cons] at h
    rcases List.mem_cons.mp ha with ha | ha
    · rcases List.mem_cons.mp hb with hb | hb
      · rw [ha, hb]
      · exact absurd (List.mem_map.mpr ⟨b, hb, by rw [← e, ha]⟩) h.1
    · rcases List.mem_cons.mp hb with hb | hb
      · exact absurd (List.mem_map.mpr ⟨a, ha, by rw [e, hb]⟩) h.1
      · exact inj_nd h.2 a ha b hb e
/-- a def that makes lambdas -/
theorem Mkr.of {K : PySem.W.Frag} {base : Heap} {mg : Str → Option Value} {h : Heap} {names : List Str} {P : Program} {w : World} {N : List Str} {y : Str} {scope : Scope} {cdv : Value} {A : Around} {outer : List Env} {s : Shared} {H : Hp} {E : XK} (T : Tabs h K names) (tb : ∀ x ∈ names, LamX.TabB base mg (cdA K x) (tA K x)) (hy : y ∈ names) (hc : CodeAt K (He.ga K y) cdv y)
    (hq : (envOfC y scope s.heap.objs.size (He.ga K y) cdv).qual ++ "<lambda>" = y ++ ".<locals>.<lambda>") : Mkr (cxOf (L2.CX P w) P w K mg base N y scope (He.ga K y) cdv A outer s H E) y := by
  obtain ⟨⟨oc, od, fd, osl, lk, e⟩, cc⟩ := hc
  have hcd : cdv = .ref (cdA K y) := by
    unfold cdA
    rw [lk]
    match cdv, cc, e with
    | .ref c, _, e => show Value.ref c = .ref (match fd.code with | .ref c => c | _ => 0); rw [e]
  refine ⟨by rw [show TK (cxOf (L2.CX P w) P w K mg base N y scope (He.ga K y) cdv A outer s H E).K = names from T.tk]; exact hy, hcd, tb y hy, hq, fun z hz e2 => ?_⟩
  have hz : z ∈ names := by rw [← T.tk]; exact hz
  exact inj_nd T.nd z hz y hy e2
end L3
namespace L3
open PySem PySem.Spec PyProof.Rows L2
structure ExI (K : PySem.W.Frag) (C : Addr) : Prop where
  cl : (PySem.W.clsIn K C).isSome = true
  ga : PySem.W.findIn K (.ref C) "__getattribute__" = some (some (.builtin "BaseException.__getattribute__"))
  gt : PySem.W.findIn K (.ref C) "__getattr__" = some none
  sb : PySem.W.subIn K (.ref C) (.type "BaseException") = some true
  ha : PySem.W.findIn K (.ref C) "__class__" = some (some (.builtin "object.__class__"))
  hn : PySem.W.specialIn K (.builtin "object.__class__") "__get__" = some (some (.builtin "getset_descriptor.__get__"))
  tk : PySem.W.takesIn K (.builtin "object.__class__") = some true
  hm : PySem.W.mroIn K C (.type "object") = some true
def HasIX (K : PySem.W.Frag) (mg : Str → Option Value) (ns all yes : List Str) : Prop := (∀ n ∈ ns, mg n = some (.ref (He.ga K n))) ∧ ∀ c ∈ all, ExI K (He.ga K c) ∧ isxA K (He.ga K c) ns = some (decide (c ∈ yes))
theorem hasIX_of {K : PySem.W.Frag} {mg : Str → Option Value} {ns all yes : List Str} (g : ∀ n ∈ ns, mg n = some (.ref (He.ga K n))) (h : isxB ns all yes K = true) : HasIX K mg ns all yes := ⟨g, fun c hc => by
  obtain ⟨h, z⟩ := He.ba (List.all_eq_true.mp h c hc)
  obtain ⟨h1, h⟩ := He.ba h
  obtain ⟨h2, h⟩ := He.ba h
  obtain ⟨h3, h⟩ := He.ba h
  obtain ⟨h4, h⟩ := He.ba h
  obtain ⟨h5, h⟩ := He.ba h
  obtain ⟨h6, h⟩ := He.ba h
  obtain ⟨h7, h8⟩ := He.ba h
  exact ⟨⟨h1, He.eqO_ok h2, He.eqO_ok h3, of_decide_eq_true h4, He.eqO_ok h5, He.eqO_ok h6, of_decide_eq_true h7, of_decide_eq_true h8⟩, of_decide_eq_true z⟩⟩
@[simp] def fIsX (all yes : List Str) : PV → S → R S PV := fun p s => match p with
  | .exc c _ _ => if c ∈ all then .ok (.bl (decide (c ∈ yes))) s else .bad
  | _ => .bad
/-- the object of a caught exception -/
def ExO (H : Hp) (a C : Addr) : Prop := ∃ d, H a = some (exv a C d) ∧ ∀ dd, d = some dd → ∃ m, H dd = some (.xd m)
def rIsX (K : PySem.W.Frag) : List V → Hp → VK → Prop := fun xs H Q => ∃ (a C : Addr) (c : V) (cv : Value) (b : Bool), xs = [.ref a, c] ∧ (∀ u, RelV c u → u = cv) ∧ ExO H a C ∧ ExI K C ∧ PySem.W.kitOne K (.ref C) cv = some b ∧ Q (.bl b) H
section
variable {X : Cx} {pins : List (Addr × Obj)} {σ : St} {H : Hp} {s : Shared}
theorem exO_at {a C : Addr} (I : Inv X pins σ H s) (h : ExO H a C) : ∃ oe od, PySem.W.InstAt s.heap a oe C od := by
  obtain ⟨d, ha, hd⟩ := h
  obtain ⟨⟨oe, vs, h4, h5, h6, h7⟩, _⟩ := (show ObjOk X.prog X.w H s.heap a (exv a C d) from I.hok a _ ha)
  have nc : PySem.W.notCls oe = true := by unfold PySem.W.notCls; rw [h7] <;> rfl
  match d, h6, hd with
  | none, h6, _ =>
    refine ⟨oe, none, h4, h5, nc, ?_⟩
    rw [h6]
    trivial
  | some dd, h6, hd =>
    obtain ⟨m, hm⟩ := hd dd rfl
    obtain ⟨mA, hns, hr⟩ := (show ObjOk X.prog X.w H s.heap dd (.xd m) from I.hok dd _ hm)
    obtain ⟨od, ho, hk⟩ := lookIn_ns hns
    exact ⟨oe, some od, h4, h5, nc, by rw [h6]; exact ho⟩
theorem call_isX : CallR X (.builtin "isinstance") (rIsX X.K) := by
  intro pins s σ H xs us Q I r h
  obtain ⟨a, C, c, cv, b, rfl, hcv, hO, E, e, q⟩ := h
  obtain ⟨u1, u2, rfl, r1, r2⟩ := vals2 r
  cases (show u1 = Value.ref a from r1)
  cases hcv _ r2
  obtain ⟨oe, od, J⟩ := exO_at I hO
  exact PySem.W.kia_one (PySem.W.kitx_exc E.cl E.ga E.gt E.sb E.ha E.hn E.tk E.hm) I.kIn J e (fun z => nomatch z) fun tk => ⟨.bl b, H, I.tok tk, rfl, q⟩
end
section
variable {X : Cx} {g : Gx} {a : Expr} {da : DE} {pos p p1 p2 : Pos} {n1 n2 : Str} {all yes : List Str}
theorem exO_of {K : PySem.W.Frag} {l : Lc} {c : Str} {ns : List Str} {xs : List PV} {x : V} (r : RepG K g l (.exc c ns xs) x) : ∃ a, x = .ref a ∧ ExO l.H a (He.ga K c) := by
  obtain ⟨a, d, vs, rfl, na, ha, hl, hd, rxs⟩ := r
  refine ⟨a, rfl, d, ha, fun dd e => ?_⟩
  rcases hd with ⟨hd, _⟩ | ⟨d2, hd, _, h3⟩
  · rw [hd] at e; cases e
  · rw [hd] at e; cases e; exact ⟨_, h3⟩
/-- isinstance(e, C) -/
theorem j_isX1 (T : HasIX X.K X.mg [n1] all yes) (hm : X.mg "isinstance" = none) (ha : JE X g a da) (hg : Gl X "isinstance" := by rfl) (hg1 : Gl X n1 := by rfl) (hd1 : (n1 == ("__debug__" : Str)) = false := by decide)
    (h1 : starEach [a, .Name n1 p1] X.env = (false, eval a X.env) :: starEach [.Name n1 p1] X.env := by rfl) (h2 : starEach [.Name n1 p1] X.env = (false, eval (.Name n1 p1) X.env) :: starEach [] X.env := by rfl) (hpl : (backTo pos (starEach [.Name n1 p1] X.env)).any (·.1) = false := by rfl) :
    JE X g (.Call (.Name "isinstance" p) [a, .Name n1 p1] [] pos) (dUn (fIsX all yes) da) :=
  PE.cq (pe_callB call_isX hg hm (by decide +kernel) (pa_cons ha (pa_cons (pe_glob (v := .ref (He.ga X.K n1)) hg1 (T.1 n1 List.mem_cons_self) rfl hd1) pa_nil h2) h1) (by decide) (by decide) h1 hpl) fun pins s σ H Q I q => by
    obtain ⟨l, s, rfl, ok, q⟩ := q
    refine ⟨l, s, rfl, ok, Run.mono (Run.bind q) fun u H1 ⟨l1, s1, v, e1, ok1, r1, st1, h3⟩ => ?_⟩
    subst e1
    cases v with
    | exc c ns xs =>
      simp only [fIsX] at h3
      by_cases hc : c ∈ all
      · rw [if_pos hc] at h3
        obtain ⟨ad, rfl, hO⟩ := exO_of r1
        obtain ⟨E, k⟩ := T.2 c hc
        exact ⟨ad, _, _, _, _, rfl, fun _ z => z, hO, E, k, h3 l1 _ (Step.refl l1) ok1 rfl⟩
      · rw [if_neg hc] at h3
        exact h3.elim
    | _ => exact h3.elim
end
end L3
namespace LD
end LD
namespace L3
open PySem PySem.Spec PyProof.Rows L2
@[simp] def catF : PV → PV → S → R S (List PV) := fun p q s => match p, q with
  | .lst xs, .lst ys => if xs.length + ys.length ≤ 16777216 then .ok (xs ++ ys) s else .bad
  | _, _ => .bad
@[simp] def dCatF (da db : DE) : DL := fun s => (da s).bind fun p s1 => (db s1).bind fun q s2 => catF p q s2
end L3
namespace LD
end LD
namespace L3
open PySem PySem.Spec PyProof.Rows L2
def insN (mu : List MO) : PV → Option (Str × List Str × List PV)
  | .ptr n => (match mu[n]? with
    | some (.nst c ns xs) => some (c, ns, xs)
    | _ => none)
  | _ => none
@[simp] theorem insN_ptr {mu : List MO} {n : Nat} : insN mu (.ptr n) = (match mu[n]? with | some (.nst c ns xs) => some (c, ns, xs) | _ => none) := rfl
@[simp] def fFldN (cs : List Str) (f : Str) : PV → S → R S PV := fun p s => match insN s.mu p with
  | some (c, ns, xs) => if c ∈ cs then optR (getV f ns xs) s else .bad
  | none => .bad
@[simp] def dFPutN (cs : List Str) (f : Str) (ob de : DE) : DS := fun s => (de s).bind fun v s1 => (ob s1).bind fun o s2 => match o with
  | .ptr n => (match s2.mu[n]? with
    | some (.nst c ns xs) => if c ∈ cs ∧ ns.length < 1000 then .ok .nx ⟨s2.env, s2.mu.set n (.nst c (putN f ns) (putV f v ns xs))⟩ else .bad
    | _ => .bad)
  | _ => .bad
section
variable {X : Cx} {g : Gx} {a b c e o : Expr} {es : List Expr} {da db dc de dob : DE} {dr : DA} {pos : Pos} {p apos : Pos}
@[simp] def dMethN (m : Str) (tb : List (Str × (List PV → S → R S PV))) (d : DE) (dr : DA) : DE := fun s => (d s).bind fun p s1 => match insN s1.mu p with
  | some (c, ns, _) => (match tb.lookup c with
    | some fn => if m ∈ ns then .bad else (dr s1).bind fun ps s2 => fn (p :: ps) s2
    | none => .bad)
  | none => .bad
@[simp] def fPropN (tb : List (Str × DF)) : PV → S → R S PV := fun p s => match insN s.mu p with
  | some (c, _, _) => (match tb.lookup c with
    | some F => fnQ F [p] s
    | none => .bad)
  | none => .bad
end
end L3
namespace L3
open PySem PySem.Spec PyProof.Rows L2
/-- C(..): the instance without fields, then __init__ over all of its parameters -/
@[simp] def newG (c : Str) (F : DF) (as : PV → List PV) (s : S) : R S PV := match F (as (.ptr s.mu.length)) (s.mu ++ [.nst c [] []]) with
  | .ok .non mu => .ok (.ptr s.mu.length) ⟨s.env, mu⟩
  | .exn e mu => .exn e ⟨s.env, mu⟩
  | _ => .bad
def HasNew (P : Program) (w : World) (K : PySem.W.Frag) (mg : Str → Option Value) (base : Heap) (CR : Addr) (c : Str) (k : Nat) (ps : List Str) (n : Nat) (ks : List Str) (gP : List PV → List PV → List PV) (F : DF) : Prop :=
  (∀ us zs : List PV, us.length = n + 1 → zs.length = ks.length → (gP us zs).length = ps.length) ∧ mg c = some (.ref (He.ga K c)) ∧
  ∃ f fd g gV, Mk K (He.ga K c) f ∧ KBn K fd ps (n + 1) ks g gV ∧ (∀ (CR : Addr) (al : List Addr) (L : Addr → Prop) (H : Hp) us zs vs ws, us.length = n + 1 → zs.length = ks.length → RepL K CR al L H us vs → RepL K CR al L H zs ws → RepL K CR al L H (gP us zs) (gV vs ws)) ∧ FJ P w K mg base CR k f fd ps F
@[simp] def dNewK (c : Str) (F : DF) (n m : Nat) (gP : List PV → List PV → List PV) (da dk : DA) : DE := fun s => (da s).bind fun ps s1 => (dk s1).bind fun zs s2 => if ps.length = n ∧ zs.length = m then newG c F (fun p => gP (p :: ps) zs) s2 else .bad
end L3
namespace L3
open PySem PySem.Spec PyProof.Rows L2
@[simp] def dCallN (tb : List (Str × (List PV → S → R S PV))) (d : DE) (dr : DA) : DE := fun s => (d s).bind fun p s1 => match p with
  | .ptr n => (dr s1).bind fun ps s2 => (match insN s2.mu (.ptr n) with
    | some (c, _, _) => (match tb.lookup c with
      | some fn => fn (.ptr n :: ps) s2
      | none => .bad)
    | none => .bad)
  | _ => .bad
end L3
namespace L3
open PySem PySem.Spec PyProof.Rows L2
@[simp] def fMk (n m : Nat) (gP : List PV → List PV → List PV) (F : DF) : List PV → List PV → S → R S PV := fun us zs s => if us.length = n ∧ zs.length = m then fnS F (gP us zs) s else .bad
@[simp] def dMethNK (m : Str) (tb : List (Str × (List PV → List PV → S → R S PV))) (d : DE) (dr dk : DA) : DE := fun s => (d s).bind fun p s1 => match insN s1.mu p with
  | some (c, ns, _) => (match tb.lookup c with
    | some fn => if m ∈ ns then .bad else (dr s1).bind fun ps s2 => (dk s2).bind fun qs s3 => fn (p :: ps) qs s3
    | none => .bad)
  | none => .bad
@[simp] def dCallNK (tb : List (Str × (List PV → List PV → S → R S PV))) (d : DE) (dr dk : DA) : DE := fun s => (d s).bind fun p s1 => match p with
  | .ptr n => (dr s1).bind fun ps s2 => (dk s2).bind fun qs s3 => (match insN s3.mu (.ptr n) with
    | some (c, _, _) => (match tb.lookup c with
      | some fn => fn (.ptr n :: ps) qs s3
      | none => .bad)
    | none => .bad)
  | _ => .bad
end L3
namespace L3
open PySem PySem.Spec PyProof.Rows L2
@[simp] def gFldN (cs : List Str) (f : Str) (ob : DE) : DG := fun v s => match ob s with
  | .ok o s2 => (match o with
    | .ptr n => (match s2.mu[n]? with
      | some (.nst c ns xs) => if c ∈ cs ∧ ns.length < 1000 then .ok () ⟨s2.env, s2.mu.set n (.nst c (putN f ns) (putV f v ns xs))⟩ else .bad
      | _ => .bad)
    | _ => .bad)
  | _ => .bad
end L3
namespace L3
open PySem PySem.Spec PyProof.Rows L2
theorem HasNew.kp {P : Program} {w : World} {K : PySem.W.Frag} {mg : Str → Option Value} {base : Heap} {CR : Addr} {c : Str} {k n : Nat} {ps ks : List Str} {gP : List PV → List PV → List PV} {F : DF} (h : HasNew P w K mg base CR c k ps n ks gP F) : PySem.W.keepIn K (.ref (He.ga K c)) = true :=
  let ⟨_, _, _, _, _, _, M, _⟩ := h
  M.kp
end L3
namespace LD
end LD
namespace L3
open PySem PySem.Spec PyProof.Rows L2
end L3
namespace L3
open PySem PySem.Spec PyProof.Rows L2
@[simp] def dBorF (is : List Nat) (d : DL) : DL := fun s => if ownIn is s.env = true then (match d (frozS is s) with
  | .ok v s1 => if flatL v = true ∧ flatMs s1.mu = true then .ok v ⟨s.env, s1.mu⟩ else .bad
  | _ => .bad) else .bad
end L3
namespace L3
open PySem PySem.Spec PyProof.Rows L2
end L3
namespace L3
open PySem PySem.Spec PyProof.Rows L2
end L3
namespace LD
end LD
namespace L3
open PySem PySem.Spec PyProof.Rows L2
def keyD : Key → PyData
  | .inl i => .int i
  | .inr x => .str x
mutual
def PV.dat2 : PV → Option PyData
  | .non => some .none
  | .bl b => some (.bool b)
  | .int i => some (.int i)
  | .str x => some (.str x)
  | .tup xs => (match PV.dat2L xs with | some ds => some (.tuple ds) | none => none)
  | .lst xs => (match PV.dat2L xs with | some ds => some (.list ds) | none => none)
  | .dk ks xs => (match PV.dat2L xs with | some ds => if ks.length = ds.length then some (.dict ((ks.map keyD).zip ds)) else none | none => none)
  | _ => none
def PV.dat2L : List PV → Option (List PyData)
  | [] => some []
  | x :: xs => (match x.dat2, PV.dat2L xs with | some d, some ds => some (d :: ds) | _, _ => none)
end
section
variable {X : Cx} {pins : List (Addr × Obj)} {σ : St} {H : Hp} {s : Shared}
/-- the table of modules is known -/
def SysIn (K : PySem.W.Frag) : Prop := sysB K = true
theorem sys_out (S : SysIn X.K) (I : Inv X pins σ H s) : H sysModules = none := by
  unfold SysIn sysB at S
  obtain ⟨o, e⟩ := Option.isSome_iff_exists.mp S
  exact (I.bs _ _ (I.ok.mod.kin _ _ e)).2
theorem keyD_reads {k : Key} {v : Value} (h : keyIs k v = true) : Reads s.heap v (keyD k) [] := by
  rcases keyIs_shape h with ⟨i, t, rfl, rfl⟩ | ⟨x, t, rfl, rfl⟩
  · exact Reads.int i t
  · exact Reads.str x t
mutual
theorem PV.reads2 {CR : Addr} {al : List Addr} {L : Addr → Prop} (S : SysIn X.K) (I : Inv X pins σ H s) : ∀ (x : PV) (d : PyData) (v : V) (u : Value), x.dat2 = some d → Rep X.K CR al L H x v → RelV v u → ∃ as, Reads s.heap u d as ∧ sysModules ∉ as
  | .non, d, v, u, e, r, z => by
    cases e
    have q : v = .non := r
    subst q
    cases (show u = Value.none from z)
    exact ⟨_, Reads.none, by simp⟩
  | .bl b, d, v, u, e, r, z => by
    cases e
    have q : v = .bl b := r
    subst q
    cases (show u = Value.bool b from z)
    exact ⟨_, Reads.bool b, by simp⟩
  | .int i, d, v, u, e, r, z => by
    cases e
    have q : v = .int i := r
    subst q
    obtain ⟨t, rfl⟩ := z
    exact ⟨_, Reads.int i t, by simp⟩
  | .str x, d, v, u, e, r, z => by
    cases e
    have q : v = .str x := r
    subst q
    obtain ⟨t, rfl⟩ := z
    exact ⟨_, Reads.str x t, by simp⟩
  | .tup xs, d, v, u, e, r, z => by
    obtain ⟨a, vs, rfl, h, r⟩ := r
    unfold PV.dat2 at e
    cases q : PV.dat2L xs with
    | none => rw [q] at e; cases e
    | some ds =>
      rw [q] at e; cases e
      cases (show u = Value.ref a from z)
      obtain ⟨its, rv, ⟨o, ho, hc, n, hd⟩, _⟩ := I.tuple (SqT.of2 h)
      obtain ⟨as, h1, h2⟩ := PV.reads2L S I xs ds vs its q r rv
      exact ⟨as, Reads.tuple ho hc hd h1, h2⟩
  | .lst xs, d, v, u, e, r, z => by
    obtain ⟨a, vs, rfl, _, h, r⟩ := r
    unfold PV.dat2 at e
    cases q : PV.dat2L xs with
    | none => rw [q] at e; cases e
    | some ds =>
      rw [q] at e; cases e
      cases (show u = Value.ref a from z)
      obtain ⟨its, rv, ⟨o, n, ho, hc, _, hd⟩, _⟩ := I.list (SqL.of h)
      obtain ⟨as, h1, h2⟩ := PV.reads2L S I xs ds vs its q r rv
      refine ⟨a :: as, Reads.list ho hc hd h1, fun w => ?_⟩
      rcases List.mem_cons.mp w with w | w
      · rw [← w, sys_out S I] at h; cases h
      · exact h2 w
  | .frz xs, d, v, u, e, r, z => nomatch e
  | .dk ks xs, d, v, u, e, r, z => by
    obtain ⟨a, vs, rfl, _, h, hl, r⟩ := r
    unfold PV.dat2 at e
    cases q : PV.dat2L xs with
    | none => rw [q] at e; cases e
    | some ds =>
      rw [q] at e
      by_cases hk : ks.length = ds.length
      rotate_left
      · have e : (if ks.length = ds.length then some (PyData.dict ((ks.map keyD).zip ds)) else none) = some d := e
        rw [if_neg hk] at e
        cases e
      have e : (if ks.length = ds.length then some (PyData.dict ((ks.map keyD).zip ds)) else none) = some d := e
      rw [if_pos hk] at e
      cases e
      cases (show u = Value.ref a from z)
      have hok : (ks.zip vs).length ≤ sizeLine ∧ (a == sysModules) = false ∧ ∃ ws, KV (ks.zip vs) ws ∧ s.heap.DictOf (mixKind X.prog X.w) a ws := by
        rcases h with h | ⟨o, h⟩
        · exact (show ObjOk X.prog X.w H s.heap a (.dK (ks.zip vs)) from I.hok a _ h)
        · exact (show ObjOk X.prog X.w H s.heap a (.frz o (.dK (ks.zip vs))) from I.hok a _ h).2
      obtain ⟨_, ya, ws, kv, o, es, ep, ho, hx, hd, _, hp, _⟩ := hok
      have lens : ks.length = vs.length := hl
      -- keys and values, one by one
      have both : ∀ (ks : List Key) (vs : List V) (ws : List (Key × Value)) (es : List DictEntry), ks.length = vs.length → KV (ks.zip vs) ws → Pairs (mixKind X.prog X.w) es ws → ReadsAll s.heap (es.map (·.key)) (ks.map keyD) [] ∧ Vals vs (es.map (·.val)) := by
        intro ks
        induction ks with
        | nil =>
          intro vs ws es h1 h2 h3
          cases vs with
          | nil => cases h2; cases h3; exact ⟨ReadsAll.nil, .nil⟩
          | cons v r => cases h1
        | cons k ks ih =>
          intro vs ws es h1 h2 h3
          cases vs with
          | nil => cases h1
          | cons v r =>
            unfold KV at h2
            cases h2 with
            | cons a b =>
              cases h3 with
              | cons c d e =>
                obtain ⟨i1, i2⟩ := ih r _ _ (by simpa using h1) b e
                have c : keyIs _ _ = true := c
                rw [← a.1] at c
                refine ⟨ReadsAll.cons (as := []) (bs := []) (keyD_reads c) i1, .cons ?_ i2⟩
                show RelV v (DictEntry.val _)
                rw [d]
                exact a.2
      obtain ⟨b1, b2⟩ := both ks vs ws es.toList lens kv hp
      obtain ⟨as, h1, h2⟩ := PV.reads2L S I xs ds vs _ q r b2
      have hkd : (ks.map keyD).length = ds.length := by rw [List.length_map]; exact hk
      refine ⟨_, Reads.dict ho hx.1 hd (by rw [List.map_fst_zip (by omega)]; exact b1) (by rw [List.map_snd_zip (by omega)]; exact h1), fun w => ?_⟩
      simp only [List.append_nil, List.cons_append, List.mem_cons, List.nil_append] at w
      rcases w with w | w
      · rw [← w] at ya; simp at ya
      · exact h2 w
  | .rat q, d, v, u, e, r, z => nomatch e
  | .obj C ns xs, d, v, u, e, r, z => nomatch e
  | .ptr n, d, v, u, e, r, z => nomatch e
  | .adr a, d, v, u, e, r, z => nomatch e
  | .ty n, d, v, u, e, r, z => nomatch e
  | .dt ks xs, d, v, u, e, r, z => nomatch e
  | .exc C ns xs, d, v, u, e, r, z => nomatch e
  | .clo t xs, d, v, u, e, r, z => nomatch e
theorem PV.reads2L {CR : Addr} {al : List Addr} {L : Addr → Prop} (S : SysIn X.K) (I : Inv X pins σ H s) : ∀ (xs : List PV) (ds : List PyData) (vs : List V) (us : List Value), PV.dat2L xs = some ds → RepL X.K CR al L H xs vs → Vals vs us → ∃ as, ReadsAll s.heap us ds as ∧ sysModules ∉ as
  | [], ds, vs, us, e, r, z => by
    cases e
    have q : vs = [] := r
    subst q
    cases z
    exact ⟨_, ReadsAll.nil, by simp⟩
  | x :: xs, ds, vs, us, e, r, z => by
    obtain ⟨v, w, rfl, h1, h2⟩ := r
    unfold PV.dat2L at e
    cases q1 : x.dat2 with
    | none => rw [q1] at e; cases e
    | some d =>
      cases q2 : PV.dat2L xs with
      | none => rw [q1, q2] at e; cases e
      | some ds' =>
        rw [q1, q2] at e
        cases e
        cases z with
        | cons z1 z2 =>
          obtain ⟨as, a1, a2⟩ := PV.reads2 S I x d v _ q1 h1 z1
          obtain ⟨bs, b1, b2⟩ := PV.reads2L S I xs ds' w _ q2 h2 z2
          exact ⟨_, ReadsAll.cons a1 b1, fun y => (List.mem_append.mp y).elim a2 b2⟩
end
end
def isRefP : PV → Bool
  | .tup _ => true
  | .lst _ => true
  | .dk _ _ => true
  | _ => false
def fRepr2 (p : PV) (s : S) : R S PV := match p.dat2 with
  | some d => if isRefP p = true ∧ d.showable = true ∧ d.depth ≤ 32 ∧ d.shown.length ≤ 16777216 then .ok (.str d.shown) s else .bad
  | none => .bad
/-- repr(x), x data, dicts among it -/
def fReprW : List PV → S → R S PV := fun ps s => match fRepr ps s with
  | .ok v t => .ok v t
  | _ => (match ps with | [p] => fRepr2 p s | _ => .bad)
section
variable {X : Cx} {g : Gx}
theorem c_reprW {k : Nat} (hr : Room k X.A) (S : SysIn X.K) : CJ X g (fun us => call (.builtin "repr") us) fReprW := by
  intro pins s σ xs vs Q l st ps I rv ok rp run
  unfold fReprW at run
  cases e : fRepr ps st with
  | ok v t => rw [e] at run; exact c_repr hr pins s σ xs vs Q l st ps I rv ok rp (by rw [e]; exact run)
  | _ =>
    rw [e] at run
    simp only at run
    split at run
    · rename_i p
      unfold fRepr2 at run
      split at run
      · rename_i d e1
        split at run
        · rename_i h
          obtain ⟨v, r, rfl, h1, h2⟩ := rp
          cases (show r = [] from h2)
          obtain ⟨u, rfl, rz⟩ : ∃ u, vs = [u] ∧ RelV v u := by
            cases rv with
            | cons a b => cases b; exact ⟨_, rfl, a⟩
          obtain ⟨a, rfl⟩ : ∃ a, v = .ref a := by
            have hp := h.1
            cases p <;> first | (cases hp; done) | skip
            · obtain ⟨a, _, e, _⟩ := h1; exact ⟨a, e⟩
            · obtain ⟨a, _, e, _⟩ := h1; exact ⟨a, e⟩
            · obtain ⟨a, _, e, _⟩ := h1; exact ⟨a, e⟩
          obtain ⟨as, r1, r2⟩ := PV.reads2 S I p d (.ref a) u e1 h1 rz
          obtain rfl : u = Value.ref a := rz
          have hu := hr.units
          refine repr_of_reads' r1 h.2.1 (fun _ => r2) hr.gd (by omega) (fun _ _ z => z) (fun h' w tk k => ?_) (by rw [line_eq]; omega)
          exact ⟨.str d.shown, l.H, I.kept k, ⟨_, rfl⟩, run l _ (Step.refl l) ok rfl⟩
        · exact run.elim
      · exact run.elim
    · exact run.elim
end
end L3
namespace LD
end LD
namespace LD
open PySem L3
end LD
namespace LD
end LD
namespace L3
open PySem PySem.Spec PyProof.Rows L2
@[simp] def dRev (d : DE) : DE := fun s => (d s).bind fun v s1 => match v with
  | .lst xs => .ok (.lst xs.reverse) s1
  | _ => .bad
end L3
namespace LD
end LD
namespace L3
open PySem PySem.Spec PyProof.Rows L2 PySem.Calls
/-- the truth of a value, ratios by their own __bool__ -/
def truR (F : DF) : PV → S → R S Bool := fun v s => match v with
  | .rat a => (fMt 1 F [.rat a] s).bind fun w s2 => match w with
    | .bl b => .ok b s2
    | _ => .bad
  | v => match truP v with
    | some b => .ok b s
    | none => .bad
@[simp] def dTruR (F : DF) (d : DE) : DT := fun s => (d s).bind (truR F)
end L3
namespace L3
open PySem PySem.Spec PyProof.Rows L2
@[simp] def dFmt (d : DE) : DE := fun s => (d s).bind fun v s1 => match v with
  | .str y => if y.length ≤ 16777216 then .ok (.str y) s1 else .bad
  | .int i => if ib i ≤ 1900 then .ok (.str (Str.ofString (toString i))) s1 else .bad
  | _ => .bad
@[simp] def dJs : List DE → Str → DE
  | [], acc => fun s => .ok (.str acc) s
  | d :: ds, acc => fun s => (d s).bind fun v s1 => match v with
    | .str y => if (acc ++ y).length ≤ 16777216 then dJs ds (acc ++ y) s1 else .bad
    | _ => .bad
end L3
namespace L3
open PySem PySem.Spec PyProof.Rows L2
end L3
namespace L3
open PySem PySem.Spec PyProof.Rows L2
@[simp] def okX : TP → Bool
  | .tup => true | .lst => true | .dct => true | _ => false
end L3
namespace L3
open PySem PySem.Spec PyProof.Rows L2
end L3
namespace L3
open PySem PySem.Spec PyProof.Rows L2
end L3
namespace L3
open PySem PySem.Spec PyProof.Rows L2
end L3
namespace LD
noncomputable section
open PySem L3
/-- slots: self -/
def d_Ratio___bool__ : DS := (dRet (dFn fBool (dCons (dUn fTop (dVar 0)) dNil)))
def F_Ratio___bool__ : DF := runBody 1 d_Ratio___bool__
end
end LD
namespace L3
open PySem PySem.Spec PyProof.Rows L2
end L3
namespace L3
open PySem PySem.Spec PyProof.Rows L2
@[simp] def catO (i : Nat) (q : PV) (s : S) : R S (List PV) := match s.env[i]?, q with
  | some (some (.own xs)), .lst ys => if xs.length + ys.length ≤ 16777216 then .ok (xs ++ ys) s else .bad
  | _, _ => .bad
@[simp] def dCatO (i : Nat) (db : DE) : DL := fun s => match s.env[i]? with
  | some (some (.own _)) => (db s).bind fun q s2 => catO i q s2
  | _ => .bad
end L3
namespace LD
end LD
namespace LD
end LD
namespace L3
open PySem PySem.Spec PyProof.Rows L2
@[simp] def dExt (i : Nat) (d : DE) : DE := fun s => match lstAt i s with
  | some _ => (d s).bind fun v s1 => (match lstAt i s1, v with
    | some (xs, k), .lst ys => if xs.length + ys.length ≤ 16777216 then .ok .non (k (xs ++ ys)) else .bad
    | _, _ => .bad)
  | none => .bad
end L3
namespace L3
open PySem PySem.Spec PyProof.Rows L2
def rangeC (lo c : Int) (n : Nat) : List PV := (List.range n).map fun (k : Nat) => .int (lo + (k : Int) * c)
def numC (i j c : Int) : Nat := if i < j then ((j - i - 1) / c + 1).toNat else 0
@[simp] def iRange3 (d : DA) : DI := fun s => (d s).bind fun vs s1 => match vs with
  | [.int i, .int j, .int c] => if 0 ≤ i ∧ i ≤ 2 ^ 40 ∧ -(2 ^ 40) ≤ j ∧ j ≤ 2 ^ 40 ∧ 1 ≤ c ∧ c ≤ 1000 then .ok (rangeC i c (numC i j c)) s1 else .bad
  | _ => .bad
end L3
namespace LD
end LD
namespace L3
open PySem PySem.Spec PyProof.Rows L2
/-- the values given, as the parameters hold them: those left over as a new tuple -/
def starP (n : Nat) (ps : List PV) : List PV := ps.take n ++ [.tup (ps.drop n)]
@[simp] def fMtS (n : Nat) (F : DF) : List PV → S → R S PV := fun qs s => if n ≤ qs.length ∧ qs.length ≤ 16777216 then fnS F (starP n qs) s else .bad
end L3
namespace L3
open PySem PySem.Spec PyProof.Rows L2
/-- a method whose def closes over the cell of its class -/
structure FunS (K : PySem.W.Frag) (x qual : Str) (params : Arguments) (body : List Stmt) (scope : Scope) (dvs : List V) (kws : List (Str × V)) (f : Addr) (fd : FuncData) (cc c : Addr) : Prop where
  ex : ∃ (oc : Value) (od : Option Addr) (dV kV doc pm : Value) (an : Option Addr) (ct : Value) (osl : Array (Option Value)),
    fd = PySem.W.fnX x qual params body scope [("__class__", cc)] dV kV doc pm an (.ref c) ct ∧ K.lookup f = some ⟨oc, od, .func fd, osl⟩ ∧ PySem.W.codeIn K (.ref c) qual = true ∧ DflV K dV dvs ∧ KwdV K kV kws
  kp : PySem.W.keepIn K (.ref f) = true
/-- the body's words -/
abbrev sNF (x qual : Str) (params : Arguments) (body : List Stmt) (scope : Scope) (cc c : Addr) : NdefX.NF := ⟨x, qual, params, body, scope, [("__class__", cc)], c⟩
/-- the frame's side -/
structure SupX (X : Cx) (f cc c : Addr) : Prop where
  ks : X.env.kindOf "super" = some .globalImplicit
  kc : X.env.kindOf "__class__" = some .free
  kx : X.env.kindOf "self" = some .local
  fu : X.env.func = some f
  co : X.env.code = .ref c
  ce : X.env.cells.lookup ("__class__" : Str) = some cc
  n0 : X.N[0]? = some ("self" : Str)
  vis : Vis X.env.scope "self"
  fn : ∃ (oc : Value) (od : Option Addr) (fd : FuncData) (osl : Array (Option Value)) (ar : Arg), X.K.lookup f = some ⟨oc, od, .func fd, osl⟩ ∧ (fd.params.posonlyargs ++ fd.params.args).head? = some ar ∧ ar.arg = "self"
@[simp] def dSup (cs : List Str) (fn : List PV → S → R S PV) (dr : DA) : DE := fun s => match s.env[0]? with
  | some (some (SV.val p)) => (match insN s.mu p with
    | some (c, _, _) => if c ∈ cs then (dr s).bind fun ps s1 => fn (p :: ps) s1 else .bad
    | none => .bad)
  | _ => .bad
end L3
namespace L3
open PySem PySem.Spec PyProof.Rows L2
section
variable {P : Program} {w : World} {K : PySem.W.Frag} {mg : Str → Option Value} {base : Heap} {Cr : Addr} {x qual : Str} {params : Arguments} {body : List Stmt} {scope : Scope} {dvs : List V} {kws : List (Str × V)} {f cc c : Addr} {fd : FuncData} {N ps : List Str} {pv : Str} {k : Nat} {d : DS}
/-- the context of the body -/
abbrev scx (P : Program) (w : World) (K : PySem.W.Frag) (mg : Str → Option Value) (base : Heap) (N : List Str) (x qual : Str) (params : Arguments) (body : List Stmt) (scope : Scope) (cc c f : Addr) (A : Around) (outer : List Env) (s : Shared) (H : Hp) (E : XK) : Cx :=
  NdefX.ncx (L2.CX P w) P w K mg base N (sNF x qual params body scope cc c) f A outer s H E
end
end L3
namespace L3
open PySem PySem.Spec PyProof.Rows L2 PySem.Calls
@[simp] def lenBk : PV → S → R S PV := fun v s => match v with
  | .int n => if 0 ≤ n ∧ n < 2 ^ 63 then .ok (.int n) s else .bad
  | _ => .bad
end L3
namespace L3
open PySem PySem.Spec PyProof.Rows L2
section
variable {K : PySem.W.Frag} {x qual : Str} {params : Arguments} {body : List Stmt} {scope : Scope} {dvs : List V} {kws : List (Str × V)} {f cc c : Addr} {fd : FuncData} {ps : List Str} {pv : Str}
/-- the frame of such a method -/
theorem SupX.of {P : Program} {w : World} {mg : Str → Option Value} {base : Heap} {N : List Str} {A : Around} {outer : List Env} {s : Shared} {H : Hp} {E : XK} {ar : Arg} (F : FunS K x qual params body scope dvs kws f fd cc c)
    (hp : (params.posonlyargs ++ params.args).head? = some ar) (ha : ar.arg = "self") (h1 : scope.names.lookup ("super" : Str) = some .globalImplicit) (h2 : scope.names.lookup ("__class__" : Str) = some .free) (h3 : scope.names.lookup ("self" : Str) = some .local) (h4 : N[0]? = some ("self" : Str)) :
    SupX (scx P w K mg base N x qual params body scope cc c f A outer s H E) f cc c := by
  obtain ⟨c1, d1, v1, k1, doc1, pm1, an1, ct1, sl1, hfd, hlk, hcd, hD, hK⟩ := F.ex
  subst hfd
  exact ⟨h1, h2, h3, rfl, rfl, by
    show ([(("__class__" : Str), cc)] : List (Str × Addr)).lookup ("__class__" : Str) = some cc
    rw [List.lookup_cons, show (("__class__" : Str) == ("__class__" : Str)) = true from beq_self_eq_true _], h4, .inl h3, _, _, _, _, ar, hlk, hp, ha⟩
end
end L3
namespace L3
open PySem PySem.Spec PyProof.Rows L2
/-- the first place of an equal one -/
def idxP (x : PV) : List PV → Option Nat
  | [] => none
  | y :: r => if eqP y x then some 0 else (idxP x r).map (· + 1)
@[simp] def fIndex : PV → List PV → S → R S PV := fun p ps s => match p, ps with
  | .lst xs, [x] => if okD 8 x = true ∧ okD 8 (.lst xs) = true then (match idxP x xs with
    | some j => .ok (.int (j : Nat)) s
    | none => .bad) else .bad
  | _, _ => .bad
@[simp] def dIndex (da : DE) (dr : DA) : DE := fun s => (da s).bind fun p s1 => match p with
  | .lst xs => (dr s1).bind fun ps s2 => fIndex (.lst xs) ps s2
  | _ => .bad
end L3
namespace L3
open PySem PySem.Spec PyProof.Rows L2
/-- two tuples of ratios, else h -/
def gEqV (h : PV → PV → S → R S PV) : PV → PV → S → R S PV := fun p q s => match p, q with
  | .tup xs, .tup ys => (match ratsP xs, ratsP ys with
    | some us, some vs => .ok (.bl (decide (us = vs))) s
    | _, _ => h (.tup xs) (.tup ys) s)
  | p, q => h p q s
end L3
namespace L3
open PySem PySem.Calls L2
end L3
namespace LD
end LD
namespace LD
end LD
namespace L3
open PySem PySem.Calls L2 PyProof.Rows
end L3
namespace LD
end LD
namespace LD
end LD
namespace LD
end LD
namespace LD
end LD
namespace L3
open PySem PySem.Spec PyProof.Rows L2
end L3
namespace LD
end LD
namespace L3
open PySem PySem.Spec PyProof.Rows L2
@[simp] def fMinL : List PV → S → R S PV := fun ps s => match ps with
  | [.lst xs] => (match intsP xs with
    | some (i :: is) => .ok (.int (is.foldl min i)) s
    | _ => .bad)
  | _ => .bad
end L3
namespace LD
end LD
namespace L3
open PySem PySem.Spec PyProof.Rows L2
end L3
namespace L3
open PySem PySem.Spec PyProof.Rows L2
end L3
namespace LD
end LD
namespace L3
open PySem PySem.Spec PyProof.Rows L2
@[simp] def dTxt (f : Str → List PV → S → R S PV) (da : DE) (dr : DA) : DE := fun s => (da s).bind fun p s1 => match p with
  | .str x => (dr s1).bind fun ps s2 => f x ps s2
  | _ => .bad
@[simp] def f_split : Str → List PV → S → R S PV := fun x ps s => match ps with
  | [.str y] => if (y.length == 0) = false ∧ x.length ≤ 16000000 then .ok (.lst ((Txt.split x y).map .str)) s else .bad
  | _ => .bad
@[simp] def f_isdigit : Str → List PV → S → R S PV := fun x ps s => match ps with
  | [] => .ok (.bl (Txt.isdigit x)) s
  | _ => .bad
@[simp] def f_zfill : Str → List PV → S → R S PV := fun x ps s => match ps with
  | [.int i] => if PadOk i = true then .ok (.str (Txt.zfill x i)) s else .bad
  | _ => .bad
end L3
namespace L3
open PySem PySem.Spec PyProof.Rows L2
@[simp] def fCutS (v : PV) (a b : Option Int) (s : S) : R S PV := match v with
  | .str z => if z.length ≤ 16000000 then .ok (.str (cutS z a b)) s else .bad
  | _ => .bad
@[simp] def dSliceS (d : DE) (lo hi : DO) : DE := fun s => (d s).bind fun v s1 => (lo s1).bind fun a s2 => (hi s2).bind fun b s3 => fCutS v a b s3
end L3
namespace L3
open PySem PySem.Spec PyProof.Rows L2
@[simp] def dClsR (CR : Addr) (f : List PV → S → R S PV) (dv : DE) (dr : DA) : DE := fun s => (dv s).bind fun c s1 => match c with
  | .adr C => if C = CR then (dr s1).bind fun ps s2 => f ps s2 else .bad
  | _ => .bad
end L3
namespace L3
open PySem PySem.Spec PyProof.Rows L2
@[simp] def dNotR (F : DF) (d : DE) : DE := fun s => (d s).bind fun p s1 => (truR F p s1).bind fun b s2 => .ok (.bl (!b)) s2
end L3
namespace L3
open PySem PySem.Spec PyProof.Rows L2
@[simp] def gFdivG : PV → PV → S → R S PV := fun p q s => match p, q with
  | .int i, .int j => if j ≠ 0 ∧ ib j ≤ 9000 then .ok (.int (i.fdiv j)) s else .bad
  | _, _ => .bad
end L3
namespace LD
noncomputable section
open PySem L3
/-- slots: self, other, far -/
def d_Ratio___floordiv___k09 : DS := (dSeq (dSet 2 (dFnS F_ratio_of (dCons (dVar 1) dNil))) (dSeq (dIfS (dTru (dBin (gEq false) (dUn fTop (dVar 2)) (dC (.int 0)))) (dRaise0 "DividedByZero") dSkip) (dRet (dBin gFdivG (dBin gMul (dUn fTop (dVar 0)) (dUn fBot (dVar 2))) (dBin gMul (dUn fBot (dVar 0)) (dUn fTop (dVar 2)))))))
def F_Ratio___floordiv___k09 : DF := runBody 3 d_Ratio___floordiv___k09
end
end LD
namespace L3
open PySem PySem.Spec PyProof.Rows L2
def signs (x : Str) : List PV := x.cps.toList.map fun c => PV.str ⟨#[c]⟩
@[simp] def iTxt (d : DE) : DI := fun s => (d s).bind fun v s1 => match v with
  | .str x => .ok (signs x) s1
  | _ => .bad
@[simp] def strsP : List PV → Option (List Str)
  | [] => some []
  | .str x :: r => (strsP r).map (x :: ·)
  | _ => none
@[simp] def f_find : Str → List PV → S → R S PV := fun x ps s => match ps with
  | [.str y] => .ok (.int (Txt.find x y)) s
  | _ => .bad
@[simp] def f_join : Str → List PV → S → R S PV := fun a ps s => match ps with
  | [.lst xs] => match strsP xs with
    | some ys => if (ys.map (·.length)).sum + ys.length * a.length ≤ 16777216 then .ok (.str (Txt.join a ys)) s else .bad
    | none => .bad
  | _ => .bad
end L3
namespace LD
end LD
namespace PySem
namespace HandSPX
open PySem.Spec PyProof.Rows
section
variable {M : Model} {A : Around} {E : Value → Shared → Prop} {hp : Heap} {gs : Array GenState} {dr : Drawn} {tk : Nat} {os : OsState}
variable {nm q : Str} {C N : Addr} {bs bm bmB : List Value} {hdct : Bool} {sn : List Str} {sub : List Value} {ab : Bool} {col : Option Bool} {dd : Option Addr} {k0 k1 k2 k3 k5 : Option Value} {B nw it : String}
theorem ckNewK (F : ExcBaseFacts B nw it bmB) (hT : ∀ X : String, bm.contains (.type X) = bmB.contains (.type X)) {us : List Value} {kv : List (Str × Value)} {Q : Unit → Shared → Prop}
    (at_ : hp.get? C = some (excClassObj nm q C N bs bm hdct sn sub ab col dd k0 k1 k2 k3 k5 nw)) (fin : Q () ⟨hp, gs, dr, tk, os⟩) :
    wpAny M A (checkBuiltinCall nw ⟨.ref C :: us, kv⟩) Q E ⟨hp, gs, dr, tk, os⟩ := by
  have sup : (Value.ref C :: bm).contains (.type B) = true := by rw [List.contains_cons, hT, F.hasB, Bool.or_true]
  have nst := F.noStar
  simp only [checkBuiltinCall, F.newKind, F.newSplit, F.newRow]; repeat (first | refine wpAny_loadPart_at at_ ?_ | (refine wpAny_isSubtype_exc at_ ?_; rw [sup]) | refine wpAny_staticBase_exc at_ ?_ | refine wpAny_madeBy_exc at_ ?_ | simp only [bne_self_eq_false, Bool.false_eq_true, if_false] | wp_step)
  exact fin
end
section
variable {prog : Program} {w : World} {A : Around} {E : Value → Shared → Prop} {R : Result → Shared → Prop} {hp : Heap} {gs : Array GenState} {dr : Drawn} {tk : Nat} {os : OsState}
variable {nm q : Str} {C N : Addr} {bs bm bmB : List Value} {hdct : Bool} {sn : List Str} {sub : List Value} {ab : Bool} {col : Option Bool} {dd : Option Addr} {k0 k1 k2 k3 k5 : Option Value} {B nw it : String}
theorem newKw (F : ExcBaseFacts B nw it bmB) (hT : ∀ X : String, bm.contains (.type X) = bmB.contains (.type X)) {us : List Value} {kv : List (Str × Value)}
    (at_ : hp.get? C = some (excClassObj nm q C N bs bm hdct sn sub ab col dd k0 k1 k2 k3 k5 nw))
    (fin : R (.ok (.ret (.ref (hp.objs.size + 1)))) ⟨(hp.push (W.kdv_tup us)).push (excO C hp.objs.size), gs, dr, tk, os⟩) (few : us.length ≤ sizeLine) :
    codeAny (model prog w) A (.builtin nw ⟨.ref C :: us, kv⟩) R ⟨hp, gs, dr, tk, os⟩ := by
  have ends := F.ends
  have sB : (Value.ref C :: bm).contains (.type B) = true := by rw [List.contains_cons, hT, F.hasB, Bool.or_true]
  have sA : (Value.ref C :: bm).contains (.type "AttributeError") = false := by rw [List.contains_cons, hT, F.noAttr]; rfl
  have sN : (Value.ref C :: bm).contains (.type "NameError") = false := by rw [List.contains_cons, hT, F.noName]; rfl
  refine codeAny_builtinAt F.entry ?_; unfold Builtin.«BaseException.__new__»; refine wpAt_bind ?_
  show wpAt _ _ _ (stack >>= _) _ _ _; refine wpAt_bind (wpAt_stack fun fr lower => wpAt_of_wpAny ?_)
  wp_walk
  refine wpAt_of_wpAny ?_
  rw [F.owner]
  repeat (first | with_reducible refine wpAny_madeHere_exc F.canon at_ ?_ | with_reducible refine wpAny_loadPart_at at_ ?_ | (with_reducible refine wpAny_isSubtype_exc at_ ?_; first | rw [sB] | rw [sA] | rw [sN]) | wp_step)
  show R _ _
  rw [Heap.size_push]
  exact fin
theorem typeKw (F : ExcBaseFacts B nw it bmB) (hT : ∀ X : String, bm.contains (.type X) = bmB.contains (.type X)) {us : List Value} {kv : List (Str × Value)} {fI : Addr} {Q : Fin → Shared → Prop}
    (at_ : hp.get? C = some (excClassObj nm q C N bs bm hdct sn sub ab col dd k0 k1 k2 k3 k5 nw))
    (ini : W.Looks (model prog w) hp (typeLookup (.ref C) "__init__") (some (.ref fI))) (bnd : ∀ self, W.Looks (model prog w) hp (bindSpecial (.ref fI) self) (.ref fI, [self])) (few : us.length ≤ sizeLine)
    (run : codeAny (model prog w) A (.call (.ref fI) ⟨.ref (hp.objs.size + 1) :: us, kv⟩)
      (fun r s' => match r with | .ok (.ret v) => v = .none ∧ Q (.done (.ret (.ref (hp.objs.size + 1)))) s' | .ok _ => False | .error e => E e s')
      ⟨(hp.push (W.kdv_tup us)).push (excO C hp.objs.size), gs, dr, tk, os⟩) :
    wpAny (model prog w) A (Builtin.«type.__call__» ⟨.ref C :: us, kv⟩) Q E ⟨hp, gs, dr, tk, os⟩ := by
  repeat (first | with_reducible refine wpAny_loadPart_at at_ ?_ | with_reducible refine wpAny_madeBy_exc at_ ?_ | wp_step)
  refine codeAny_call_builtin_code (Code.quiet_builtin _ F.quiet) (ckNewK F hT at_ ?_)
  refine newKw F hT at_ ?_ few
  show wpAny _ _ _ _ _ _; have kp : ∀ b o, hp.get? b = some o → ((hp.push (W.kdv_tup us)).push (excO C hp.objs.size)).get? b = some o := fun b o e => Heap.get?_push_of_some _ (Heap.get?_push_of_some _ e)
  have at2 := kp _ _ at_
  have got : ((hp.push (W.kdv_tup us)).push (excO C hp.objs.size)).get? (hp.objs.size + 1) = some (excO C hp.objs.size) := by heap_get
  have sC : (Value.ref C :: bm).contains (.ref C) = true := by simp
  have i2 := ini.keeps kp
  have b2 := (bnd (.ref (hp.objs.size + 1))).keeps kp
  unfold isInstance
  repeat (first | with_reducible refine wpAny_loadPart_at got ?_ | (with_reducible refine wpAny_isSubtype_exc at2 ?_; rw [sC]) | wp_step)
  show wpAny _ _ (typeLookup (.ref C) _) _ _ _; refine i2.at (wpAny_holding (wpAny_bind (b2.at ?_)))
  refine wpAny_bind (wpAny_call (codeAny_mono run fun r s' z => ?_))
  rcases r with er | (vr | _ | _ | _) <;> first | exact z | exact z.elim | skip
  obtain ⟨rfl, zz⟩ := z
  first | exact wpAny_pure (wpAny_pure zz) | (wp_walk; exact zz)
theorem callKwE (F : ExcBaseFacts B nw it bmB) (hT : ∀ X : String, bm.contains (.type X) = bmB.contains (.type X)) {us : List Value} {kv : List (Str × Value)} {fI : Addr}
    (at_ : hp.get? C = some (excClassObj nm q C N bs bm hdct sn sub ab col dd k0 k1 k2 k3 k5 nw))
    (ini : W.Looks (model prog w) hp (typeLookup (.ref C) "__init__") (some (.ref fI))) (bnd : ∀ self, W.Looks (model prog w) hp (bindSpecial (.ref fI) self) (.ref fI, [self])) (few : us.length ≤ sizeLine)
    (run : codeAny (model prog w) (A.under (.builtin "type.__call__" ⟨.ref C :: us, kv⟩)) (.call (.ref fI) ⟨.ref (hp.objs.size + 1) :: us, kv⟩) (W.InitBack (hp.objs.size + 1) R)
      ⟨(hp.push (W.kdv_tup us)).push (excO C hp.objs.size), gs, dr, tk, os⟩) :
    codeAny (model prog w) A (.call (.ref C) ⟨us, kv⟩) R ⟨hp, gs, dr, tk, os⟩ := by
  have look := tc_lookup
  have bind := tc_bind (.ref C)
  have isT : (⟨hp, gs, dr, tk, os⟩ : Shared).TypeIs (.ref C) "type" := ⟨_, at_, rfl⟩
  refine codeAny_of_tree ?_; show wpAny _ _ (callAny (.ref C) _) _ _ _
  repeat (any_goals (first | assumption | with_reducible refine wpAny_loadPart_at at_ ?_ | wp_step))
  refine ⟨rfl, ?_⟩
  refine codeAny_call_builtin_at (Code.quiet_builtin _ (by decide +kernel)) entry_typeCall (wpAny_check_type_call_sub at_ (typeKw F hT at_ ini bnd few ?_))
  refine codeAny_mono run fun r s' z => ?_
  rcases r with er | (vr | _ | _ | _) <;> exact z
end
end HandSPX
end PySem
namespace L3
open PySem PySem.Spec PyProof.Rows L2
section
variable {X : Cx} {pins : List (Addr × Obj)} {σ : St} {u : Value} {s' : Shared} {QV : VK}
/-- what was made stays a value -/
theorem landV {C : Addr} (h : MkP X pins σ (fun cls d H' => cls = .ref C ∧ ∀ a, H' a = none → QV (.ref a) (upd H' a (exv a C d))) u s') : EP X pins σ QV u s' := by
  obtain ⟨a, oe, vs, sI, H', cls, d, rfl, J, kp, ga, ho, hz, hd, h1, na, os, bare, hr, hc, q⟩ := h
  subst hc
  have nf : a ∉ frs X.stack := fun hb => by
    obtain ⟨_, o', e', _⟩ := J.stack.mem hb
    rw [ga] at e'
    cases e'
  have new : ObjOk X.prog X.w (upd H' a (exv a C d)) s'.heap a (exv a C d) :=
    ⟨⟨oe, vs, ho, hz.1, hz.2, hd⟩, ⟨_, ho⟩, fun _ _ z k => by
      obtain ⟨o2, v2, z1, z2⟩ := z
      exact ⟨o2, v2, k _ z1, z2⟩⟩
  exact ⟨.ref a, _, Inv.landedT (B := sI.heap) J (fun b o e _ => e) kp (Heap.UpToSlots.of_keeps kp) os bare ga nf na new, rfl, q a na⟩
/-- C(..) with an __init__ of one field, however it is called -/
theorem mkCore {b : EB} {C fI : Addr} {k n : Nat} {fd : FuncData} {f : Str} {ks : List Str} {gB : List Value → List Value → List Value} {gV : List V → List V → List V} {Q : XK} {H1 : Hp} {s1 : Shared} {us ws : List Value} {vs zs : List V} {v : V}
    (T : OxB X.K b C) (iC : PySem.W.findIn X.K (.ref C) "__init__" = some (some (.ref fI))) (tI : PySem.W.isFn X.K (.ref fI) = true)
    (F1 : FnG X.prog X.w X.K X.mg X.base (L2.CX X.prog X.w) k fI fd ["self", f] (spI C f)) (hr : Room (k + 1) X.A) (hb : KBn X.K fd ["self", f] (n + 1) ks gB gV) (I1 : Inv X pins σ H1 s1)
    (r1 : Vals vs us) (rz : Vals zs ws) (l1 : us.length = n) (l2 : ws.length = ks.length) (hn : n ≤ 5) (hv : ∀ a : V, gV (a :: vs) zs = [a, v])
    (q1 : ∀ d, H1 d = none → Q (.ref C) (some d) (upd H1 d (.xd [(f, v)]))) : wpAny (model X.prog X.w) X.A (call (.ref C) us (ks.zip ws)) (MkP X pins σ Q) X.xe s1 := by
  obtain ⟨nm, N', qn, bs, bm, hdct, sn, sub, ab, col, dd, k0, k1, k2, k3, k5, hC, hT⟩ := PySem.W.excInit_of I1.kIn T.ini
  obtain ⟨oI, hoI, hcI⟩ : ∃ oI, s1.heap.get? fI = some oI ∧ oI.cls = .type "function" := by
    obtain ⟨o, ho, hc⟩ := Option.map_eq_some_iff.mp (show (X.K.lookup fI).map (·.cls) = some (.type "function") from beq_iff_eq.mp tI)
    exact ⟨o, I1.kIn _ _ ho, hc⟩
  obtain ⟨hp, g, dr, tk, os⟩ := s1
  let a := hp.objs.size + 1
  let h2 := (hp.push (PySem.W.kdv_tup us)).push (PySem.HandSPX.excO C hp.objs.size)
  have hsz : hp.objs.size ≤ a := Nat.le_succ _
  have kk : ∀ b o, hp.get? b = some o → h2.get? b = some o := fun b o e => Heap.get?_push_of_some _ (Heap.get?_push_of_some _ e)
  have hget : h2.get? a = some (PySem.HandSPX.excO C hp.objs.size) := by
    show ((hp.push (PySem.W.kdv_tup us)).push (PySem.HandSPX.excO C hp.objs.size)).get? (hp.objs.size + 1) = _
    heap_get
  have I2 : Inv X pins σ (upd H1 a (exo a C none)) ⟨h2, g, dr, tk, os⟩ := I1.laid (t' := tk) (a := a) (o := exo a C none) (h' := h2) kk hsz (exo_ok hget)
  have r2 := hb.rel (vs := V.ref a :: vs) (us := Value.ref a :: us) (.cons rfl r1) rz
  rw [hv] at r2
  have hus : us.length ≤ sizeLine := by
    rw [l1, sizeLine_eq]
    omega
  have hnn : H1 a = none := I1.hok.fresh hsz
  have b2 := hb.to ⟨h2, g, dr, tk, os⟩ (Value.ref a :: us) ws I2.kIn (congrArg Nat.succ l1) l2
  have asks : spI C f [.ref a, v] (upd H1 a (exo a C none)) (fun w H2 => w = .non ∧ ∃ d, H2 a = some (exo a C (some d)) ∧ H2 d = some (exd d [(f, v)]) ∧ H1 d = none ∧ Q (.ref C) (some d) (upd (del H2 a) d (.xd [(f, v)]))) (fun _ _ _ => False) := by
    refine ⟨a, v, rfl, upd_same, fun dx hdx ne => ⟨rfl, dx, upd_same, by rw [upd_ne ne, upd_same], ?_, ?_⟩⟩
    · rw [upd_ne ne] at hdx; exact hdx
    · have hd1 : H1 dx = none := by rw [upd_ne ne] at hdx; exact hdx
      have z := q1 dx hd1
      have e : upd (del (upd (upd (upd H1 a (exo a C none)) dx (exd dx [(f, v)])) a (exo a C (some dx))) a) dx (.xd [(f, v)]) = upd H1 dx (.xd [(f, v)]) := by
        funext c
        by_cases h1 : c = dx
        · rw [h1, upd_same, upd_same]
        · rw [upd_ne h1, upd_ne h1]
          by_cases h2 : c = a
          · rw [h2, del_same, hnn]
          · rw [del_ne h2, upd_ne h2, upd_ne h1, upd_ne h2]
      rw [e]
      exact z
  refine wpAny_call (PySem.HandSPX.callKwE b.facts hT hC (PySem.W.looks_findIn I1.kIn iC) (fun self => PySem.W.exc_bind hoI hcI self) hus
    (codeAny_mono (F1.run _ X.stack _ _ ⟨Value.ref a :: us, ks.zip ws⟩ (gB (Value.ref a :: us) ws) _ _ (fun _ _ _ => False) (hr.make C us (ks.zip ws)) (I2.env0.make C us (ks.zip ws)) b2 r2 asks) fun r s' z => ?_))
  match r, z with
  | .error er, ⟨_, _, _, _, _, _, _, _, _, _, _, _, z⟩ => exact z.elim
  | .ok .next, z => exact False.elim z
  | .ok .brk, z => exact False.elim z
  | .ok .cont, z => exact False.elim z
  | .ok (.ret u), ⟨w', H2, os2, bare2, un2, hok2, rv, ev, d, ea, ed, hd1, q2⟩ =>
    subst ev
    obtain ⟨h3, g2, d2, t2, os'⟩ := s'
    exact ⟨rv, mk_end (raises_own T.exC T.tyC) I1 hsz kk un2 hok2 os2 bare2 ea ed hd1 q2⟩
/-- an own class without __init__, made without arguments -/
theorem mkNone {C : Addr} {bmB : List Value} {B newId initId : String} {Q : XK} {H : Hp} {s : Shared} (F : ExcBaseFacts B newId initId bmB) (q : PySem.W.excIn X.K C bmB newId = true) (r : Raises X (.ref C)) (I : Inv X pins σ H s) (h : Q (.ref C) none H) :
    wpAny (model X.prog X.w) X.A (call (.ref C) []) (MkP X pins σ Q) X.xe s := by
  obtain ⟨bm, N, nm, qn, bs, hdct, sn, sub, ab, col, dd, k0, k1, k2, k3, k5, mN, hC, hN, hni, T⟩ := exc_obj I.kIn q
  refine wpAny_call_exc_subT F T hC hN hni (fun h' e hm => ?_) (by show 0 ≤ sizeLine; exact Nat.zero_le _)
  exact mk_of I hm r h (I.hok.gone hm.new)
end
end L3
namespace L3
open PySem PySem.Spec PyProof.Rows L2
/-- c(e) as a value -/
@[simp] def dExcV (c f : Str) (d : DE) : DE := fun s => (d s).bind fun v s1 => .ok (.exc c [f] [v]) s1
/-- c(f = e) as a value -/
@[simp] def dExcK (c f : Str) (d : DA) : DE := fun s => (d s).bind fun vs s1 => match vs with
  | [v] => .ok (.exc c [f] [v]) s1
  | _ => .bad
@[simp] def dExc0 (c : Str) : DE := fun s => .ok (.exc c [] []) s
def HasEK (P : Program) (w : World) (K : PySem.W.Frag) (mg : Str → Option Value) (base : Heap) (c f : Str) (b : EB) : Prop :=
  mg c = some (.ref (He.ga K c)) ∧ OxB K b (He.ga K c) ∧ ∃ fI fd gB gV, PySem.W.findIn K (.ref (He.ga K c)) "__init__" = some (some (.ref fI)) ∧ PySem.W.isFn K (.ref fI) = true ∧
    KBn K fd ["self", f] (0 + 1) [f] gB gV ∧ (∀ a v : V, gV [a] [v] = [a, v]) ∧ FnG P w K mg base (L2.CX P w) 1 fI fd ["self", f] (spI (He.ga K c) f)
def HasED (P : Program) (w : World) (K : PySem.W.Frag) (mg : Str → Option Value) (base : Heap) (c f : Str) (b : EB) : Prop :=
  mg c = some (.ref (He.ga K c)) ∧ OxB K b (He.ga K c) ∧ ∃ fI fd gB gV, PySem.W.findIn K (.ref (He.ga K c)) "__init__" = some (some (.ref fI)) ∧ PySem.W.isFn K (.ref fI) = true ∧
    KBn K fd ["self", f] (0 + 1) [] gB gV ∧ (∀ a : V, gV [a] [] = [a, .non]) ∧ FnG P w K mg base (L2.CX P w) 1 fI fd ["self", f] (spI (He.ga K c) f)
/-- the class against a built-in class above it -/
def HasIB (K : PySem.W.Frag) (mg : Str → Option Value) (n : String) (all yes : List Str) : Prop := ∀ c ∈ all, ExI K (He.ga K c) ∧ PySem.W.kitOne K (.ref (He.ga K c)) (.type n) = some (decide (c ∈ yes))
theorem hasIB_of {K : PySem.W.Frag} {mg : Str → Option Value} {n : String} {all yes : List Str} (h : isbB n all yes K = true) : HasIB K mg n all yes := fun c hc => by
  obtain ⟨h, z⟩ := He.ba (List.all_eq_true.mp h c hc)
  obtain ⟨h1, h⟩ := He.ba h
  obtain ⟨h2, h⟩ := He.ba h
  obtain ⟨h3, h⟩ := He.ba h
  obtain ⟨h4, h⟩ := He.ba h
  obtain ⟨h5, h⟩ := He.ba h
  obtain ⟨h6, h⟩ := He.ba h
  obtain ⟨h7, h8⟩ := He.ba h
  exact ⟨⟨h1, He.eqO_ok h2, He.eqO_ok h3, of_decide_eq_true h4, He.eqO_ok h5, He.eqO_ok h6, of_decide_eq_true h7, of_decide_eq_true h8⟩, of_decide_eq_true z⟩
section
variable {X : Cx} {g : Gx} {e : Expr} {de : DE} {c f : Str} {b : EB} {p pos : Pos}
/-- the value of a new exception with one field -/
theorem exc_here {l : Lc} {s : S} {σ : St} {Q : VK} {v : PV} {u : V} (ok : Sok X.K g l s σ) (r : RepG X.K g l v u) (h : Run X.K g (.ok (.exc c [f] [v]) s) l σ Q) :
    ∀ d, l.H d = none → ((.ref (He.ga X.K c) : Value) = .ref (He.ga X.K c) ∧ ∀ a, (upd l.H d (.xd [(f, u)])) a = none → Q (.ref a) (upd (upd l.H d (.xd [(f, u)])) a (exv a (He.ga X.K c) (some d)))) := fun d hd => by
  refine ⟨rfl, fun a ha => ?_⟩
  have st2 : Step l ⟨l.al, l.M, upd l.H d (.xd [(f, u)])⟩ := Step.alloc hd
  have ok2 : Sok X.K g ⟨l.al, l.M, upd l.H d (.xd [(f, u)])⟩ s σ := ok.alloc hd
  have st3 : Step (⟨l.al, l.M, upd l.H d (.xd [(f, u)])⟩ : Lc) ⟨l.al, l.M, upd (upd l.H d (.xd [(f, u)])) a (exv a (He.ga X.K c) (some d))⟩ := Step.alloc ha
  have ok3 : Sok X.K g ⟨l.al, l.M, upd (upd l.H d (.xd [(f, u)])) a (exv a (He.ga X.K c) (some d))⟩ s σ := ok2.alloc ha
  refine h _ (.ref a) (st2.trans st3) ok3 ⟨a, some d, [u], rfl, ok2.fresh ha, upd_same, rfl, .inr ⟨d, rfl, ok.fresh hd, ?_⟩, ⟨u, [], rfl, st3.rep (st2.rep r), rfl⟩⟩
  have hh : upd l.H d (.xd [(f, u)]) d = some (.xd [(f, u)]) := upd_same
  show upd (upd l.H d (.xd [(f, u)])) a _ d = _
  rw [upd_ne (ne_of_none hh ha)]
  exact hh
theorem j_excP {k : Nat} (h : HasE X.prog X.w X.K X.mg X.base c f b) (hr : Room (k + 2) X.A) (he : JE X g e de) (hg : Gl X c := by rfl) (hdb : (c == ("__debug__" : Str)) = false := by decide)
    (hs : starEach [e] X.env = (false, eval e X.env) :: starEach [] X.env := by rfl) (hpl : (backTo pos (starEach [] X.env)).any (·.1) = false := by rfl) : JE X g (.Call (.Name c p) [e] [] pos) (dExcV c f de) := by
  obtain ⟨hm, T, fI, fd, iC, tI, hb, F1⟩ := h
  refine ⟨fun pins s σ H Q I h => ?_⟩
  obtain ⟨l, st, rfl, ok, h⟩ := h
  refine wpAny_mono (pmkB T iC tI F1 (hr.mono (by omega)) hb hm (pa_cons he pa_nil hs) hg hdb hs hpl pins s σ _ (fun cls d H' => cls = .ref (He.ga X.K c) ∧ ∀ a, H' a = none → Q (.ref a) (upd H' a (exv a (He.ga X.K c) d))) I ?_) (fun u s1 z => landV z) (fun _ _ z => z)
  refine ⟨l, st, rfl, ok, Run.mono (Run.bind h) fun u H1 ⟨l1, s1, v, e1, ok1, r1, st1, h1⟩ => ⟨u, rfl, ?_⟩⟩
  subst e1
  exact exc_here ok1 r1 h1
/-- c(f = e) -/
theorem j_excK {kws : List Keyword} {dk : DA} {k : Nat} (h : HasEK X.prog X.w X.K X.mg X.base c f b) (hr : Room (k + 2) X.A) (hkw : JK X g kws dk) (hg : Gl X c := by rfl)
    (hall : (backToKw pos (keywordEach kws X.env)).all (·.1.isSome) = true := by rfl) (hks : (backToKw pos (keywordEach kws X.env)).filterMap (·.1) = [f] := by rfl) (hdb : (c == ("__debug__" : Str)) = false := by decide)
    (hpl : ((backTo pos (starEach [] X.env)).any (·.1) || (backToKw pos (keywordEach kws X.env)).any (·.1.isNone)) = false := by rfl) :
    JE X g (.Call (.Name c p) [] kws pos) (dExcK c f dk) := by
  obtain ⟨hm, T, fI, fd, gB, gV, iC, tI, hb, hgv, F1⟩ := h
  refine ⟨fun pins s σ H Q I q => ?_⟩
  obtain ⟨l, st, rfl, ok, q⟩ := q
  have q : Run X.K g ((dk st).bind fun vs s1 => match vs with
    | [v] => .ok (.exc c [f] [v]) s1
    | _ => .bad) l σ Q := q
  refine wpAny_Call_Name_kw (ld_glob I hg hm ?_ hdb)
  refine PySem.W.callWith_KW0 (h₀ := X.base) I.ok.mod.kin T.kC hall ?_ hpl
  refine thn (hkw.run pos pins s σ _ _ I ⟨l, st, rfl, ok, RunA.bind q⟩) fun ws s2 ⟨zs, H2, I2, rz, l2, st2, qs, e2, ok2, r2, sp2, h2⟩ => ⟨I2.kIn, ?_⟩
  subst e2
  rw [hks]
  match qs, r2, h2 with
  | [], _, h2 => exact h2.elim
  | v :: v2 :: vs, _, h2 => exact h2.elim
  | [v], r2, h2 =>
    obtain ⟨u, r, rfl, r3, r4⟩ := r2
    cases (show r = [] from r4)
    have h2 : Run X.K g (.ok (.exc c [f] [v]) st2) l2 σ Q := h2
    have lz : ws.length = [f].length := rz.length.symm
    exact wpAny_mono (mkCore (n := 0) (k := 1) (ks := [f]) (Q := fun cls d H' => cls = .ref (He.ga X.K c) ∧ ∀ a, H' a = none → Q (.ref a) (upd H' a (exv a (He.ga X.K c) d))) T iC tI F1 (hr.mono (by omega)) hb I2 .nil rz rfl lz (by omega) (fun a => hgv a u) (exc_here ok2 r3 h2)) (fun u s1 z => landV z) (fun _ _ z => z)
/-- c(), the field None -/
theorem j_excD {k : Nat} (h : HasED X.prog X.w X.K X.mg X.base c f b) (hr : Room (k + 2) X.A) (hg : Gl X c := by rfl) (hdb : (c == ("__debug__" : Str)) = false := by decide) :
    JE X g (.Call (.Name c p) [] [] pos) (dExcV c f (dC .non)) := by
  obtain ⟨hm, T, fI, fd, gB, gV, iC, tI, hb, hgv, F1⟩ := h
  refine ⟨fun pins s σ H Q I q => ?_⟩
  obtain ⟨l, st, rfl, ok, q⟩ := q
  have q : Run X.K g (.ok (.exc c [f] [.non]) st) l σ Q := q
  refine wpAny_Call_Name_kw (ld_glob I hg hm ?_ hdb)
  refine PySem.W.callWith_K0 I.kIn T.kC ?_
  exact wpAny_mono (mkCore (n := 0) (k := 1) (ks := []) (us := []) (ws := []) (Q := fun cls d H' => cls = .ref (He.ga X.K c) ∧ ∀ a, H' a = none → Q (.ref a) (upd H' a (exv a (He.ga X.K c) d))) T iC tI F1 (hr.mono (by omega)) hb I .nil .nil rfl rfl (by omega) (fun a => hgv a) (exc_here ok (v := .non) (u := .non) rfl q)) (fun u s1 z => landV z) (fun _ _ z => z)
/-- c(), no __init__ -/
theorem j_exc0 (h : HasE0 X.K X.mg c b) (hg : Gl X c := by rfl) (hdb : (c == ("__debug__" : Str)) = false := by decide) : JE X g (.Call (.Name c p) [] [] pos) (dExc0 c) := by
  obtain ⟨hm, hx, kp, h1, h2⟩ := h
  refine ⟨fun pins s σ H Q I q => ?_⟩
  obtain ⟨l, st, rfl, ok, q⟩ := q
  have q : Run X.K g (.ok (.exc c [] []) st) l σ Q := q
  refine wpAny_Call_Name_kw (ld_glob I hg hm ?_ hdb)
  refine PySem.W.callWith_K0 I.kIn kp ?_
  refine wpAny_mono (mkNone (Q := fun cls d H' => cls = .ref (He.ga X.K c) ∧ ∀ a, H' a = none → Q (.ref a) (upd H' a (exv a (He.ga X.K c) d))) b.facts hx (raises_own h1 h2) I ⟨rfl, fun a ha => ?_⟩) (fun u s1 z => landV z) (fun _ _ z => z)
  have st2 : Step l ⟨l.al, l.M, upd l.H a (exv a (He.ga X.K c) none)⟩ := Step.alloc ha
  exact q _ (.ref a) st2 (ok.alloc ha) ⟨a, none, [], rfl, ok.fresh ha, upd_same, rfl, .inl ⟨rfl, rfl⟩, rfl⟩
end
section
variable {X : Cx} {g : Gx} {a : Expr} {da : DE} {pos p p1 : Pos} {n : String} {y : Str} {all yes : List Str}
/-- isinstance(e, C), C built in -/
theorem j_isB (T : HasIB X.K X.mg n all yes) (hy : X.mg y = none) (hv : bootBuiltins y = some (.type n)) (hm : X.mg "isinstance" = none) (ha : JE X g a da) (hg : Gl X "isinstance" := by rfl) (hg2 : Gl X y := by rfl) (hn : y ≠ "__name__" := by decide) (hd : (y == ("__debug__" : Str)) = false := by decide)
    (h1 : starEach [a, .Name y p1] X.env = (false, eval a X.env) :: starEach [.Name y p1] X.env := by rfl) (h2 : starEach [.Name y p1] X.env = (false, eval (.Name y p1) X.env) :: starEach [] X.env := by rfl) (hpl : (backTo pos (starEach [.Name y p1] X.env)).any (·.1) = false := by rfl) :
    JE X g (.Call (.Name "isinstance" p) [a, .Name y p1] [] pos) (dUn (fIsX all yes) da) :=
  PE.cq (pe_callB call_isX hg hm (by decide +kernel) (pa_cons ha (pa_cons (pe_bltn (v := .ty n) hg2 hy hv rfl hn hd) pa_nil h2) h1) (by decide) (by decide) h1 hpl) fun pins s σ H Q I q => by
    obtain ⟨l, s, rfl, ok, q⟩ := q
    refine ⟨l, s, rfl, ok, Run.mono (Run.bind q) fun u H1 ⟨l1, s1, v, e1, ok1, r1, st1, h3⟩ => ?_⟩
    subst e1
    cases v with
    | exc c ns xs =>
      simp only [fIsX] at h3
      by_cases hc : c ∈ all
      · rw [if_pos hc] at h3
        obtain ⟨ad, rfl, hO⟩ := exO_of r1
        obtain ⟨E, k⟩ := T c hc
        exact ⟨ad, _, _, _, _, rfl, fun _ z => z, hO, E, k, h3 l1 _ (Step.refl l1) ok1 rfl⟩
      · rw [if_neg hc] at h3
        exact h3.elim
    | _ => exact h3.elim
end
end L3
namespace L3
open PySem PySem.Spec PyProof.Rows L2
/-- data behind a pointer to a list -/
def datB (mu : List MO) : PV → Option PyData
  | .ptr n => (match mu[n]? with
    | some (.lst xs) => (PV.datL xs).map PyData.list
    | _ => none)
  | p => p.dat
def datBL (mu : List MO) : List PV → Option (List PyData)
  | [] => some []
  | x :: xs => (match datB mu x, datBL mu xs with
    | some d, some ds => some (d :: ds)
    | _, _ => none)
theorem datB_dp {K : PySem.W.Frag} {g : Gx} {l : Lc} {s : S} {σ : St} (ok : Sok K g l s σ) {p : PV} {x : V} {d : PyData} (r : RepG K g l p x) (h : datB s.mu p = some d) : Dp K l.H x d := by
  cases p with
  | ptr n =>
    obtain ⟨a, ha, rfl⟩ := r
    have h : (match s.mu[n]? with
      | some (.lst xs) => (PV.datL xs).map PyData.list
      | _ => none) = some d := h
    cases e : s.mu[n]? with
    | none => rw [e] at h; cases h
    | some o =>
      rw [e] at h
      cases o with
      | lst xs =>
        have h : (PV.datL xs).map PyData.list = some d := h
        cases e2 : PV.datL xs with
        | none => rw [e2] at h; cases h
        | some ds =>
          rw [e2] at h
          cases h
          obtain ⟨vs, h1, h2⟩ := ok.mu n a _ ha e
          exact .lst (SqL.of h1) (PV.datL_dp xs ds vs e2 h2)
      | ins C ns ys => cases h
      | nst C ns ys => cases h
      | dic ks ys => cases h
  | _ => exact PV.dat_dp _ d x h r
theorem datBL_dp {K : PySem.W.Frag} {g : Gx} {l : Lc} {s : S} {σ : St} (ok : Sok K g l s σ) : ∀ {xs : List PV} {vs : List V} {ds : List PyData}, RepGL K g l xs vs → datBL s.mu xs = some ds → DpAll K l.H vs ds
  | [], vs, ds, r, h => by
    cases h
    rw [show vs = [] from r]
    exact .nil
  | x :: xs, vs, ds, r, h => by
    obtain ⟨v, w, rfl, h1, h2⟩ := r
    unfold datBL at h
    cases q1 : datB s.mu x with
    | none => rw [q1] at h; cases h
    | some d =>
      cases q2 : datBL s.mu xs with
      | none => rw [q1, q2] at h; cases h
      | some ds' =>
        rw [q1, q2] at h
        cases h
        exact .cons (datB_dp ok h1 q1) (datBL_dp ok h2 q2)
def fEqB : PV → PV → S → R S PV := fun p q s => match p with
  | .lst ps => (match datBL s.mu ps, q.dat with
    | some ds, some e => if SeqAt.shaped (.list ds) = true ∧ SeqAt.shaped e = true then .ok (.bl (PyData.eqv (.list ds) e)) s else .bad
    | _, _ => .bad)
  | _ => .bad
def isBx : PV → Bool
  | .lst (.ptr _ :: _) => true
  | _ => false
def gEqB (h : PV → PV → S → R S PV) : PV → PV → S → R S PV := fun p q s => if isBx p = true then fEqB p q s else h p q s
section
variable {X : Cx} {g : Gx}
theorem o_eqB (hu : X.A.units + 64 < cLine) : OJ X g (compareOp .Eq) fEqB := OJ.of (op_eqD hu) fun l st σ p q x y Q ok rp rq run => by
  unfold fEqB at run
  split at run
  · rename_i ps
    split at run
    · rename_i ds e h1 h2
      split at run
      · rename_i h3
        obtain ⟨a, vs, rfl, _, h, r⟩ := rp
        exact ⟨.list ds, e, .lst (SqL.of h) (datBL_dp ok r h1), q.dat_dp e y h2 rq, h3.1, h3.2, run l _ (Step.refl l) ok rfl⟩
      · exact run.elim
    · exact run.elim
  · exact run.elim
theorem OJ.eqB {h : PV → PV → S → R S PV} (hu : X.A.units + 64 < cLine) (ho : OJ X g (compareOp .Eq) h) : OJ X g (compareOp .Eq) (gEqB h) := by
  intro pins s σ x y v u Q l st p q I rx ry ok rp rq run
  unfold gEqB at run
  split at run
  · exact o_eqB hu pins s σ x y v u Q l st p q I rx ry ok rp rq run
  · exact ho pins s σ x y v u Q l st p q I rx ry ok rp rq run
end
end L3
namespace L3
open PySem PySem.Spec PyProof.Rows L2
section
variable {P : Program} {w : World} {K : PySem.W.Frag} {mg : Str → Option Value} {base : Heap} {c f : Str} {b : EB} {x qual : Str} {params : Arguments} {body : List Stmt} {scope : Scope} {dvs : List V} {kws : List (Str × V)} {fd : FuncData} {q1 q2 q3 q4 : Pos} {gB : List Value → List Value → List Value} {gV : List V → List V → List V}
theorem oxB_of (h : oxB b c f K = true) : OxB K b (He.ga K c) ∧ PySem.W.findIn K (.ref (He.ga K c)) "__init__" = some (some (.ref (He.ma K (He.ga K c) "__init__"))) ∧ PySem.W.isFn K (.ref (He.ma K (He.ga K c) "__init__")) = true ∧ PySem.W.takerIn K (He.ga K c) f = some none := by
  obtain ⟨a1, h⟩ := He.ba h
  obtain ⟨a2, h⟩ := He.ba h
  obtain ⟨a3, h⟩ := He.ba h
  obtain ⟨a4, h⟩ := He.ba h
  obtain ⟨a5, h⟩ := He.ba h
  obtain ⟨a6, h⟩ := He.ba h
  obtain ⟨a7, h⟩ := He.ba h
  obtain ⟨a8, h⟩ := He.ba h
  obtain ⟨a9, a10⟩ := He.ba h
  exact ⟨⟨a1, a2, a3, He.eqO_ok a4, of_decide_eq_true a5, of_decide_eq_true a6, a7⟩, He.eqO_ok a8, a9, He.eqO_ok a10⟩
theorem hasEK_of (hm : mg c = some (.ref (He.ga K c))) (h : oxB b c f K = true) (F : FunD K x qual params body scope dvs kws (He.ma K (He.ga K c) "__init__") fd) (hk : KBn K fd ["self", f] (0 + 1) [f] gB gV) (hg : ∀ a v : V, gV [a] [v] = [a, v]) (S : FnScope ["self", f] ["self", f] scope)
    (hb : body = [.Assign [.Attribute (.Name "self" q1) f q2] (.Name f q3) q4]) (h1 : (f == ("__debug__" : Str)) = false := by decide) (h2 : (f == ("__classdict__" : Str)) = false := by decide) : HasEK P w K mg base c f b := by
  obtain ⟨T, i, t, k⟩ := oxB_of h
  exact ⟨hm, T, _, fd, gB, gV, i, t, hk, hg, initB T k F S hb h1 h2⟩
theorem hasED_of (hm : mg c = some (.ref (He.ga K c))) (h : oxB b c f K = true) (F : FunD K x qual params body scope dvs kws (He.ma K (He.ga K c) "__init__") fd) (hk : KBn K fd ["self", f] (0 + 1) [] gB gV) (hg : ∀ a : V, gV [a] [] = [a, .non]) (S : FnScope ["self", f] ["self", f] scope)
    (hb : body = [.Assign [.Attribute (.Name "self" q1) f q2] (.Name f q3) q4]) (h1 : (f == ("__debug__" : Str)) = false := by decide) (h2 : (f == ("__classdict__" : Str)) = false := by decide) : HasED P w K mg base c f b := by
  obtain ⟨T, i, t, k⟩ := oxB_of h
  exact ⟨hm, T, _, fd, gB, gV, i, t, hk, hg, initB T k F S hb h1 h2⟩
/-- bound by keyword, a default not read for the field -/
theorem FunD.ekw (F : FunD K x qual params body scope [.non] kws (He.ma K (He.ga K c) "__init__") fd)
    (h : ∀ (T : Addr) (kV doc pm : Value) (an : Option Addr) (cdv ct : Value) (a v d : Value), ∃ k, bindArgs (PySem.W.fnOf x qual params body scope (.ref T) kV doc pm an cdv ct) ⟨[a], [(f, v)]⟩ = seqItems? (.ref T) >>= k ∧ k (some [d].toArray) = pure ((["self", f] : List Str).zip [a, v])) :
    ∃ gB gV, KBn K fd ["self", f] (0 + 1) [f] gB gV ∧ ∀ a v : V, gV [a] [v] = [a, v] := by
  obtain ⟨its, hk⟩ := FunD.kbindsD (ps := ["self", f]) F 1 [f] (fun us _ ws => us ++ ws) (by simp) (fun r1 _ r3 => r1.append r3) (fun T kV doc pm an cdv ct us its ws hu hi hw => by
    match us, its, ws, hu, hi, hw with
    | [a], [d], [v], _, _, _ => exact h T kV doc pm an cdv ct a v d)
  exact ⟨_, _, hk, fun _ _ => rfl⟩
theorem FunD.edf (F : FunD K x qual params body scope [.non] kws (He.ma K (He.ga K c) "__init__") fd)
    (h : ∀ (T : Addr) (kV doc pm : Value) (an : Option Addr) (cdv ct : Value) (a d : Value), ∃ k, bindArgs (PySem.W.fnOf x qual params body scope (.ref T) kV doc pm an cdv ct) ⟨[a], []⟩ = seqItems? (.ref T) >>= k ∧ k (some [d].toArray) = pure ((["self", f] : List Str).zip [a, d])) :
    ∃ gB gV, KBn K fd ["self", f] (0 + 1) [] gB gV ∧ ∀ a : V, gV [a] [] = [a, .non] := by
  obtain ⟨its, hk⟩ := FunD.kbindsD (ps := ["self", f]) F 1 [] (fun us ds _ => us ++ ds) (by simp) (fun r1 r2 _ => r1.append r2) (fun T kV doc pm an cdv ct us its ws hu hi hw => by
    match us, its, ws, hu, hi, hw with
    | [a], [d], [], _, _, _ => exact h T kV doc pm an cdv ct a d)
  exact ⟨_, _, hk, fun _ => rfl⟩
end
end L3
namespace LD
noncomputable section
open PySem L3
/-- slots: _law_thing, _law_found -/
def d_w_named : DS := (dSeq (dSet 1 (dLst (dCons (dExcK "BadNumber" "value" (dCons (dVar 0) dNil)) (dCons (dExcK "BadShare" "value" (dCons (dVar 0) dNil)) (dCons (dExcK "BadRule" "value" (dCons (dVar 0) dNil)) (dCons (dExcK "BadAmount" "value" (dCons (dVar 0) dNil)) dNil)))))) (dSeq (dSet 1 (dBin gAdd (dVar 1) (dLst (dCons (dExcK "BadName" "value" (dCons (dVar 0) dNil)) (dCons (dExcK "BadText" "value" (dCons (dVar 0) dNil)) (dCons (dExcK "BadSummary" "value" (dCons (dVar 0) dNil)) (dCons (dExcK "BadSample" "index" (dCons (dVar 0) dNil)) dNil))))))) (dSeq (dSet 1 (dBin gAdd (dVar 1) (dLst (dCons (dExcK "BadWeights" "index" (dCons (dVar 0) dNil)) (dCons (dExcK "BadPairs" "index" (dCons (dVar 0) dNil)) (dCons (dExcK "BadEdges" "index" (dCons (dVar 0) dNil)) dNil)))))) (dSeq (dSet 1 (dBin gAdd (dVar 1) (dLst (dCons (dExc0 "Empty") (dCons (dExcK "TooFew" "needed" (dCons (dVar 0) dNil)) (dCons (dExcK "NotThere" "item" (dCons (dVar 0) dNil)) (dCons (dExcK "Outside" "value" (dCons (dVar 0) dNil)) (dCons (dExc0 "NothingDone") dNil)))))))) (dSeq (dSet 1 (dBin gAdd (dVar 1) (dLst (dCons (dExc0 "DividedByZero") (dCons (dExc0 "NoSpread") (dCons (dExcK "NotPositive" "index" (dCons (dVar 0) dNil)) (dCons (dExc0 "Impossible") (dCons (dExc0 "Unbounded") dNil)))))))) (dRet (dBin gAdd (dVar 1) (dLst (dCons (dExcK "TooMany" "most" (dCons (dVar 0) dNil)) dNil)))))))))
def F_w_named : DF := runBody 2 d_w_named
/-- slots: _law_thing, _law_found -/
def d_w_made : DS := (dSeq (dSet 1 (dLst (dCons (dExcV "BadNumber" "value" (dVar 0)) (dCons (dExcV "BadShare" "value" (dVar 0)) (dCons (dExcV "BadRule" "value" (dVar 0)) (dCons (dExcV "BadAmount" "value" (dVar 0)) (dCons (dExcV "BadName" "value" (dVar 0)) (dCons (dExcV "BadText" "value" (dVar 0)) dNil)))))))) (dSeq (dSet 1 (dBin gAdd (dVar 1) (dLst (dCons (dExcV "BadSummary" "value" (dVar 0)) (dCons (dExcV "BadSample" "index" (dVar 0)) (dCons (dExcV "BadWeights" "index" (dVar 0)) (dCons (dExcV "BadPairs" "index" (dVar 0)) (dCons (dExcV "BadEdges" "index" (dVar 0)) dNil)))))))) (dSeq (dSet 1 (dBin gAdd (dVar 1) (dLst (dCons (dExc0 "Empty") (dCons (dExcV "TooFew" "needed" (dVar 0)) (dCons (dExcV "NotThere" "item" (dVar 0)) (dCons (dExcV "Outside" "value" (dVar 0)) (dCons (dExc0 "NothingDone") dNil)))))))) (dRet (dBin gAdd (dVar 1) (dLst (dCons (dExc0 "DividedByZero") (dCons (dExc0 "NoSpread") (dCons (dExcV "NotPositive" "index" (dVar 0)) (dCons (dExc0 "Impossible") (dCons (dExc0 "Unbounded") (dCons (dExcV "TooMany" "most" (dVar 0)) dNil))))))))))))
def F_w_made : DF := runBody 2 d_w_made
def e_w_fields_1 : DE := (dUn (fEFld ["BadNumber", "BadShare", "BadRule", "BadAmount", "BadName", "BadText", "BadSummary", "Outside"] "value") (dVar 2))
def e_w_fields_2 : DE := (dUn (fEFld ["BadSample", "BadWeights", "BadPairs", "BadEdges", "NotPositive"] "index") (dVar 2))
/-- slots: _law_some, _law_found, _law_error -/
def d_w_fields : DS := (dSeq (dSet 1 (dBin gAdd (dFr (dComp (iSeq (dSlice (dVar 0) dNone (dSome (dC (.int 7))))) (gN 2) dYes e_w_fields_1 [2])) (dFr (dComp (iSeq (dSlice (dVar 0) (dSome (dC (.int 7))) (dSome (dC (.int 11))))) (gN 2) dYes e_w_fields_2 [2])))) (dRet (dBin gAdd (dVar 1) (dLst (dCons (dUn (fEFld ["TooFew"] "needed") (dBin fIx (dVar 0) (dC (.int 12)))) (dCons (dUn (fEFld ["NotThere"] "item") (dBin fIx (dVar 0) (dC (.int 13)))) (dCons (dUn (fEFld ["BadNumber", "BadShare", "BadRule", "BadAmount", "BadName", "BadText", "BadSummary", "Outside"] "value") (dBin fIx (dVar 0) (dC (.int 14)))) (dCons (dUn (fEFld ["BadSample", "BadWeights", "BadPairs", "BadEdges", "NotPositive"] "index") (dBin fIx (dVar 0) (dC (.int 18)))) (dCons (dUn (fEFld ["TooMany"] "most") (dBin fIx (dVar 0) (dC (.int 21)))) dNil)))))))))
def F_w_fields : DF := runBody 3 d_w_fields
/-- slots: _law_error, _law_found -/
def d_w_marks : DS := (dSeq (dSet 1 (dLst (dCons (dUn (fIsX ["BadInput", "Absent", "Undefined", "BadNumber", "BadSample", "BadWeights", "BadPairs", "BadShare", "BadRule", "BadAmount", "BadEdges", "BadName", "BadText", "BadSummary", "Empty", "TooFew", "NotThere", "Outside", "NothingDone", "DividedByZero", "NoSpread", "NotPositive", "Impossible", "Unbounded", "TooMany"] ["BadNumber"]) (dVar 0)) (dCons (dUn (fIsX ["BadInput", "Absent", "Undefined", "BadNumber", "BadSample", "BadWeights", "BadPairs", "BadShare", "BadRule", "BadAmount", "BadEdges", "BadName", "BadText", "BadSummary", "Empty", "TooFew", "NotThere", "Outside", "NothingDone", "DividedByZero", "NoSpread", "NotPositive", "Impossible", "Unbounded", "TooMany"] ["BadShare"]) (dVar 0)) (dCons (dUn (fIsX ["BadInput", "Absent", "Undefined", "BadNumber", "BadSample", "BadWeights", "BadPairs", "BadShare", "BadRule", "BadAmount", "BadEdges", "BadName", "BadText", "BadSummary", "Empty", "TooFew", "NotThere", "Outside", "NothingDone", "DividedByZero", "NoSpread", "NotPositive", "Impossible", "Unbounded", "TooMany"] ["BadRule"]) (dVar 0)) dNil))))) (dSeq (dSet 1 (dBin gAdd (dVar 1) (dLst (dCons (dUn (fIsX ["BadInput", "Absent", "Undefined", "BadNumber", "BadSample", "BadWeights", "BadPairs", "BadShare", "BadRule", "BadAmount", "BadEdges", "BadName", "BadText", "BadSummary", "Empty", "TooFew", "NotThere", "Outside", "NothingDone", "DividedByZero", "NoSpread", "NotPositive", "Impossible", "Unbounded", "TooMany"] ["BadAmount"]) (dVar 0)) (dCons (dUn (fIsX ["BadInput", "Absent", "Undefined", "BadNumber", "BadSample", "BadWeights", "BadPairs", "BadShare", "BadRule", "BadAmount", "BadEdges", "BadName", "BadText", "BadSummary", "Empty", "TooFew", "NotThere", "Outside", "NothingDone", "DividedByZero", "NoSpread", "NotPositive", "Impossible", "Unbounded", "TooMany"] ["BadName"]) (dVar 0)) (dCons (dUn (fIsX ["BadInput", "Absent", "Undefined", "BadNumber", "BadSample", "BadWeights", "BadPairs", "BadShare", "BadRule", "BadAmount", "BadEdges", "BadName", "BadText", "BadSummary", "Empty", "TooFew", "NotThere", "Outside", "NothingDone", "DividedByZero", "NoSpread", "NotPositive", "Impossible", "Unbounded", "TooMany"] ["BadText"]) (dVar 0)) dNil)))))) (dSeq (dSet 1 (dBin gAdd (dVar 1) (dLst (dCons (dUn (fIsX ["BadInput", "Absent", "Undefined", "BadNumber", "BadSample", "BadWeights", "BadPairs", "BadShare", "BadRule", "BadAmount", "BadEdges", "BadName", "BadText", "BadSummary", "Empty", "TooFew", "NotThere", "Outside", "NothingDone", "DividedByZero", "NoSpread", "NotPositive", "Impossible", "Unbounded", "TooMany"] ["BadSummary"]) (dVar 0)) (dCons (dUn (fIsX ["BadInput", "Absent", "Undefined", "BadNumber", "BadSample", "BadWeights", "BadPairs", "BadShare", "BadRule", "BadAmount", "BadEdges", "BadName", "BadText", "BadSummary", "Empty", "TooFew", "NotThere", "Outside", "NothingDone", "DividedByZero", "NoSpread", "NotPositive", "Impossible", "Unbounded", "TooMany"] ["BadSample"]) (dVar 0)) (dCons (dUn (fIsX ["BadInput", "Absent", "Undefined", "BadNumber", "BadSample", "BadWeights", "BadPairs", "BadShare", "BadRule", "BadAmount", "BadEdges", "BadName", "BadText", "BadSummary", "Empty", "TooFew", "NotThere", "Outside", "NothingDone", "DividedByZero", "NoSpread", "NotPositive", "Impossible", "Unbounded", "TooMany"] ["BadWeights"]) (dVar 0)) dNil)))))) (dSeq (dSet 1 (dBin gAdd (dVar 1) (dLst (dCons (dUn (fIsX ["BadInput", "Absent", "Undefined", "BadNumber", "BadSample", "BadWeights", "BadPairs", "BadShare", "BadRule", "BadAmount", "BadEdges", "BadName", "BadText", "BadSummary", "Empty", "TooFew", "NotThere", "Outside", "NothingDone", "DividedByZero", "NoSpread", "NotPositive", "Impossible", "Unbounded", "TooMany"] ["BadPairs"]) (dVar 0)) (dCons (dUn (fIsX ["BadInput", "Absent", "Undefined", "BadNumber", "BadSample", "BadWeights", "BadPairs", "BadShare", "BadRule", "BadAmount", "BadEdges", "BadName", "BadText", "BadSummary", "Empty", "TooFew", "NotThere", "Outside", "NothingDone", "DividedByZero", "NoSpread", "NotPositive", "Impossible", "Unbounded", "TooMany"] ["BadEdges"]) (dVar 0)) (dCons (dUn (fIsX ["BadInput", "Absent", "Undefined", "BadNumber", "BadSample", "BadWeights", "BadPairs", "BadShare", "BadRule", "BadAmount", "BadEdges", "BadName", "BadText", "BadSummary", "Empty", "TooFew", "NotThere", "Outside", "NothingDone", "DividedByZero", "NoSpread", "NotPositive", "Impossible", "Unbounded", "TooMany"] ["Empty"]) (dVar 0)) dNil)))))) (dSeq (dSet 1 (dBin gAdd (dVar 1) (dLst (dCons (dUn (fIsX ["BadInput", "Absent", "Undefined", "BadNumber", "BadSample", "BadWeights", "BadPairs", "BadShare", "BadRule", "BadAmount", "BadEdges", "BadName", "BadText", "BadSummary", "Empty", "TooFew", "NotThere", "Outside", "NothingDone", "DividedByZero", "NoSpread", "NotPositive", "Impossible", "Unbounded", "TooMany"] ["TooFew"]) (dVar 0)) (dCons (dUn (fIsX ["BadInput", "Absent", "Undefined", "BadNumber", "BadSample", "BadWeights", "BadPairs", "BadShare", "BadRule", "BadAmount", "BadEdges", "BadName", "BadText", "BadSummary", "Empty", "TooFew", "NotThere", "Outside", "NothingDone", "DividedByZero", "NoSpread", "NotPositive", "Impossible", "Unbounded", "TooMany"] ["NotThere"]) (dVar 0)) (dCons (dUn (fIsX ["BadInput", "Absent", "Undefined", "BadNumber", "BadSample", "BadWeights", "BadPairs", "BadShare", "BadRule", "BadAmount", "BadEdges", "BadName", "BadText", "BadSummary", "Empty", "TooFew", "NotThere", "Outside", "NothingDone", "DividedByZero", "NoSpread", "NotPositive", "Impossible", "Unbounded", "TooMany"] ["Outside"]) (dVar 0)) dNil)))))) (dSeq (dSet 1 (dBin gAdd (dVar 1) (dLst (dCons (dUn (fIsX ["BadInput", "Absent", "Undefined", "BadNumber", "BadSample", "BadWeights", "BadPairs", "BadShare", "BadRule", "BadAmount", "BadEdges", "BadName", "BadText", "BadSummary", "Empty", "TooFew", "NotThere", "Outside", "NothingDone", "DividedByZero", "NoSpread", "NotPositive", "Impossible", "Unbounded", "TooMany"] ["NothingDone"]) (dVar 0)) (dCons (dUn (fIsX ["BadInput", "Absent", "Undefined", "BadNumber", "BadSample", "BadWeights", "BadPairs", "BadShare", "BadRule", "BadAmount", "BadEdges", "BadName", "BadText", "BadSummary", "Empty", "TooFew", "NotThere", "Outside", "NothingDone", "DividedByZero", "NoSpread", "NotPositive", "Impossible", "Unbounded", "TooMany"] ["DividedByZero"]) (dVar 0)) (dCons (dUn (fIsX ["BadInput", "Absent", "Undefined", "BadNumber", "BadSample", "BadWeights", "BadPairs", "BadShare", "BadRule", "BadAmount", "BadEdges", "BadName", "BadText", "BadSummary", "Empty", "TooFew", "NotThere", "Outside", "NothingDone", "DividedByZero", "NoSpread", "NotPositive", "Impossible", "Unbounded", "TooMany"] ["NoSpread"]) (dVar 0)) dNil)))))) (dSeq (dSet 1 (dBin gAdd (dVar 1) (dLst (dCons (dUn (fIsX ["BadInput", "Absent", "Undefined", "BadNumber", "BadSample", "BadWeights", "BadPairs", "BadShare", "BadRule", "BadAmount", "BadEdges", "BadName", "BadText", "BadSummary", "Empty", "TooFew", "NotThere", "Outside", "NothingDone", "DividedByZero", "NoSpread", "NotPositive", "Impossible", "Unbounded", "TooMany"] ["NotPositive"]) (dVar 0)) (dCons (dUn (fIsX ["BadInput", "Absent", "Undefined", "BadNumber", "BadSample", "BadWeights", "BadPairs", "BadShare", "BadRule", "BadAmount", "BadEdges", "BadName", "BadText", "BadSummary", "Empty", "TooFew", "NotThere", "Outside", "NothingDone", "DividedByZero", "NoSpread", "NotPositive", "Impossible", "Unbounded", "TooMany"] ["Impossible"]) (dVar 0)) (dCons (dUn (fIsX ["BadInput", "Absent", "Undefined", "BadNumber", "BadSample", "BadWeights", "BadPairs", "BadShare", "BadRule", "BadAmount", "BadEdges", "BadName", "BadText", "BadSummary", "Empty", "TooFew", "NotThere", "Outside", "NothingDone", "DividedByZero", "NoSpread", "NotPositive", "Impossible", "Unbounded", "TooMany"] ["Unbounded"]) (dVar 0)) dNil)))))) (dRet (dBin gAdd (dVar 1) (dLst (dCons (dUn (fIsX ["BadInput", "Absent", "Undefined", "BadNumber", "BadSample", "BadWeights", "BadPairs", "BadShare", "BadRule", "BadAmount", "BadEdges", "BadName", "BadText", "BadSummary", "Empty", "TooFew", "NotThere", "Outside", "NothingDone", "DividedByZero", "NoSpread", "NotPositive", "Impossible", "Unbounded", "TooMany"] ["TooMany"]) (dVar 0)) dNil)))))))))))
def F_w_marks : DF := runBody 2 d_w_marks
/-- slots: _law_error, _law_found -/
def d_w_families : DS := (dSeq (dSet 1 (dLst (dCons (dUn (fIsX ["BadInput", "Absent", "Undefined", "BadNumber", "BadSample", "BadWeights", "BadPairs", "BadShare", "BadRule", "BadAmount", "BadEdges", "BadName", "BadText", "BadSummary", "Empty", "TooFew", "NotThere", "Outside", "NothingDone", "DividedByZero", "NoSpread", "NotPositive", "Impossible", "Unbounded", "TooMany"] ["BadInput", "BadNumber", "BadSample", "BadWeights", "BadPairs", "BadShare", "BadRule", "BadAmount", "BadEdges", "BadName", "BadText", "BadSummary"]) (dVar 0)) (dCons (dUn (fIsX ["BadInput", "Absent", "Undefined", "BadNumber", "BadSample", "BadWeights", "BadPairs", "BadShare", "BadRule", "BadAmount", "BadEdges", "BadName", "BadText", "BadSummary", "Empty", "TooFew", "NotThere", "Outside", "NothingDone", "DividedByZero", "NoSpread", "NotPositive", "Impossible", "Unbounded", "TooMany"] ["Absent", "Empty", "TooFew", "NotThere", "Outside", "NothingDone"]) (dVar 0)) (dCons (dUn (fIsX ["BadInput", "Absent", "Undefined", "BadNumber", "BadSample", "BadWeights", "BadPairs", "BadShare", "BadRule", "BadAmount", "BadEdges", "BadName", "BadText", "BadSummary", "Empty", "TooFew", "NotThere", "Outside", "NothingDone", "DividedByZero", "NoSpread", "NotPositive", "Impossible", "Unbounded", "TooMany"] ["Undefined", "DividedByZero", "NoSpread", "NotPositive", "Impossible", "Unbounded", "TooMany"]) (dVar 0)) dNil))))) (dRet (dBin gAdd (dVar 1) (dLst (dCons (dUn (fIsX ["BadInput", "Absent", "Undefined", "BadNumber", "BadSample", "BadWeights", "BadPairs", "BadShare", "BadRule", "BadAmount", "BadEdges", "BadName", "BadText", "BadSummary", "Empty", "TooFew", "NotThere", "Outside", "NothingDone", "DividedByZero", "NoSpread", "NotPositive", "Impossible", "Unbounded", "TooMany"] ["BadInput", "BadNumber", "BadSample", "BadWeights", "BadPairs", "BadShare", "BadRule", "BadAmount", "BadEdges", "BadName", "BadText", "BadSummary"]) (dVar 0)) (dCons (dUn (fIsX ["BadInput", "Absent", "Undefined", "BadNumber", "BadSample", "BadWeights", "BadPairs", "BadShare", "BadRule", "BadAmount", "BadEdges", "BadName", "BadText", "BadSummary", "Empty", "TooFew", "NotThere", "Outside", "NothingDone", "DividedByZero", "NoSpread", "NotPositive", "Impossible", "Unbounded", "TooMany"] ["Absent", "Empty", "TooFew", "NotThere", "Outside", "NothingDone"]) (dVar 0)) (dCons (dUn (fIsX ["BadInput", "Absent", "Undefined", "BadNumber", "BadSample", "BadWeights", "BadPairs", "BadShare", "BadRule", "BadAmount", "BadEdges", "BadName", "BadText", "BadSummary", "Empty", "TooFew", "NotThere", "Outside", "NothingDone", "DividedByZero", "NoSpread", "NotPositive", "Impossible", "Unbounded", "TooMany"] ["Undefined", "DividedByZero", "NoSpread", "NotPositive", "Impossible", "Unbounded", "TooMany"]) (dVar 0)) dNil)))))))
def F_w_families : DF := runBody 2 d_w_families
def e_law_k01_1 : DE := (dBin (gEqB (gEq false)) (dVar 10) (dVar 7))
def e_law_k01_2 : DE := (dBin (gEqB (gEq false)) (dBin gMod (dVar 10) (dC (.int 3))) (dVar 9))
def b_law_k01_3 : DS := (dSeq (dIfS (dTru (dBin (gEq true) (dFnS F_w_marks (dCons (dVar 8) dNil)) (dFr (dComp (iRange1 (dCons (dC (.int 22)) dNil)) (gN 10) dYes e_law_k01_1 [10])))) (dRet (dC (.bl false))) dSkip) (dSeq (dSet 9 (dIf (dTru (dBin gLt (dVar 7) (dC (.int 11)))) (dC (.int 0)) (dIf (dTru (dBin gLt (dVar 7) (dC (.int 16)))) (dC (.int 1)) (dC (.int 2))))) (dIfS (dTru (dBin (gEq true) (dFnS F_w_families (dCons (dVar 8) dNil)) (dFr (dComp (iRange1 (dCons (dC (.int 6)) dNil)) (gN 10) dYes e_law_k01_2 [10])))) (dRet (dC (.bl false))) dSkip)))
def b_law_k01_4 : DS := (dSeq (dIfS (dTru (dBin (gEq true) (dFn fReprW (dCons (dFnS F_w_fields (dCons (dVar 3) dNil)) dNil)) (dFn fReprW (dCons (dBin gMul (dLst (dCons (dVar 6) dNil)) (dC (.int 16))) dNil)))) (dRet (dC (.bl false))) dSkip) (dFor (iEnumQ (dCons (dVar 3) dNil)) (gT 2 (gCons (gN 7) (gCons (gN 8) gNil))) b_law_k01_3))
def b_law_k01_5 : DS := (dSeq (dSet 5 (dFnS F_w_source (dCons (dVar 0) (dCons (dVar 1) dNil)))) (dSeq (dSet 6 (dFnS F_w_pick (dCons (dVar 5) (dCons (dLst (dCons (dC .non) (dCons (dC (.int 5)) (dCons (dC (.str ("half" : Str))) (dCons (dTup (dCons (dC (.str ("a" : Str))) (dCons (dC (.int 1)) dNil))) (dCons (dLst (dCons (dC (.str ("b" : Str))) dNil)) (dCons (dDisp [.inr "c"] (dCons (dC (.int 2)) dNil)) (dCons (dC (.bl true)) (dCons (dC (.str ("" : Str))) (dCons (dBin gPow (dC (.int 10)) (dC (.int 30))) (dCons (dUn fNegI (dC (.int 1))) dNil))))))))))) dNil)))) (dFor (iSeq (dTup (dCons (dFnS F_w_made (dCons (dVar 6) dNil)) (dCons (dFnS F_w_named (dCons (dVar 6) dNil)) dNil)))) (gN 3) b_law_k01_4)))
/-- slots: _law_script, _law_k, _law_box, _law_some, _law_plain, _law_source_here, _law_thing, _law_spot, _law_error, _law_part, _law_n -/
def d_law_k01 : DS := (dSeq (dFor (iRange1 (dCons (dFn fMax2 (dCons (dC (.int 1)) (dCons (dFn fMin2 (dCons (dC (.int 3)) (dCons (dFn fLen (dCons (dVar 0) dNil)) dNil))) dNil))) dNil)) (gN 1) b_law_k01_5) (dSeq (dSet 2 (dNewF (dLstF (dCons (dC (.str ("a" : Str))) dNil)))) (dSeq (dSet 3 (dFnS F_w_made (dCons (dVar 2) dNil))) (dSeq (dExpr (dApp 2 (dC (.str ("b" : Str))))) (dSeq (dSet 4 (dLst (dCons (dUn (fEFld ["BadSample", "BadWeights", "BadPairs", "BadEdges", "NotPositive"] "index") (dExcV "BadSample" "index" (dC .non))) (dCons (dUn (fEFld ["BadSample", "BadWeights", "BadPairs", "BadEdges", "NotPositive"] "index") (dExcV "BadWeights" "index" (dC .non))) (dCons (dUn (fEFld ["BadSample", "BadWeights", "BadPairs", "BadEdges", "NotPositive"] "index") (dExcV "BadPairs" "index" (dC .non))) (dCons (dUn (fEFld ["BadSample", "BadWeights", "BadPairs", "BadEdges", "NotPositive"] "index") (dExcV "BadEdges" "index" (dC .non))) (dCons (dUn (fEFld ["BadSample", "BadWeights", "BadPairs", "BadEdges", "NotPositive"] "index") (dExcV "NotPositive" "index" (dC .non))) dNil))))))) (dRet (dAnd (dBin (gEqB (gEq false)) (dFnS F_w_fields (dCons (dVar 3) dNil)) (dBin gMul (dLst (dCons (dLst (dCons (dC (.str ("a" : Str))) (dCons (dC (.str ("b" : Str))) dNil))) dNil)) (dC (.int 16)))) (dBin (gEqB (gEq false)) (dVar 4) (dBin gMul (dLst (dCons (dC .non) dNil)) (dC (.int 5)))))))))))
def F_law_k01 : DF := runBody 11 d_law_k01
end
end LD
namespace PC
open PySem L3 LD
theorem ib_le {i : Int} {b : Nat} (h : i.natAbs ≤ 2 ^ b) : ib i ≤ b + 1 := by
  unfold ib
  have : i.natAbs.log2 ≤ b := by
    by_cases z : i.natAbs = 0
    · rw [z]; simp
    · have := (Nat.log2_lt z (k := b + 1)).mpr (by rw [Nat.pow_succ]; have := Nat.one_le_two_pow (n := b); omega)
      omega
  omega
@[simp] theorem e_is_integer_i (i : Int) (mu : List MO) : F_is_integer [.int i] mu = .ok (.bl true) mu := rfl
@[simp] theorem e_is_integer_r (q : Rat) (mu : List MO) : F_is_integer [.rat q] mu = .ok (.bl false) mu := rfl
@[simp] theorem e_is_integer_b (q : Bool) (mu : List MO) : F_is_integer [.bl q] mu = .ok (.bl false) mu := rfl
@[simp] theorem e_is_number_i (i : Int) (mu : List MO) : F_is_number [.int i] mu = .ok (.bl true) mu := rfl
@[simp] theorem e_is_number_r (q : Rat) (mu : List MO) : F_is_number [.rat q] mu = .ok (.bl true) mu := rfl
@[simp] theorem e_need_number_i (i : Int) (mu : List MO) : F_need_number [.int i] mu = .ok .non mu := rfl
@[simp] theorem e_need_number_r (q : Rat) (mu : List MO) : F_need_number [.rat q] mu = .ok .non mu := rfl
theorem ok1 : okR t 1 = true := by unfold okR; decide
theorem divInt_one (i : Int) : Rat.divInt i 1 = (i : Rat) := by
  apply Rat.ext
  · rw [Rat.num_divInt]; simp
  · rw [Rat.den_divInt]; simp
@[simp] theorem e_ratio_of_i (i : Int) (mu : List MO) : F_ratio_of [.int i] mu = .ok (.rat (i : Rat)) mu := by
  rw [← divInt_one]; rfl
@[simp] theorem e_ratio_of_r (q : Rat) (mu : List MO) : F_ratio_of [.rat q] mu = .ok (.rat q) mu := rfl
@[simp] theorem e_of_i (C : Addr) (i : Int) (mu : List MO) : F_Ratio_of [.adr C, .int i] mu = .ok (.rat (i : Rat)) mu := by
  rw [← divInt_one]; rfl
@[simp] theorem e_of_r (C : Addr) (q : Rat) (mu : List MO) : F_Ratio_of [.adr C, .rat q] mu = .ok (.rat q) mu := rfl
theorem num_div (t b : Int) (h : b ≠ 0) : (if 0 < b then t / (Int.gcd t b : Int) else 0 - t / (Int.gcd t b : Int)) = (Rat.divInt t b).num := by
  rw [Rat.num_divInt, Int.gcd_comm b t]
  have hd : (Int.gcd t b : Int) ∣ t := Int.gcd_dvd_left ..
  by_cases z : 0 < b
  · rw [if_pos z, Int.sign_eq_one_of_pos z, Int.one_mul]
  · have z' : b < 0 := by omega
    rw [if_neg z, Int.sign_eq_neg_one_of_neg z', Int.neg_one_mul, Int.neg_ediv_of_dvd hd, Int.zero_sub]
theorem den_div (t b : Int) (h : b ≠ 0) : ((b.natAbs : Int) / (Int.gcd t b : Int)) = ((Rat.divInt t b).den : Int) := by
  rw [Rat.den_divInt, if_neg h, Int.gcd_comm b t]; rfl
end PC
namespace PC
open PySem L3 LD
end PC
namespace PC
open PySem L3 LD
variable {Fq : List MO → Prop}
def fr (q : Rat) : PV := .tup [.int q.num, .int q.den]
@[simp] theorem at0 {a : Type} (x : a) (xs : List a) : L2.atI (x :: xs) 0 = some x := by simp [L2.atI, L2.ixN]
theorem ix_of {n i : Nat} (h : i < n) : L2.ixN n (i : Int) = some i := by
  unfold L2.ixN
  rw [if_pos (by omega), if_pos (by omega)]
  simp
theorem at_of {a : Type} {xs : List a} {i : Nat} (h : i < xs.length) : L2.atI xs (i : Int) = some xs[i] := by
  unfold L2.atI
  rw [ix_of h]
  simp [h]
@[simp] theorem at1 {a : Type} (x y : a) (xs : List a) : L2.atI (x :: y :: xs) 1 = some y := at_of (xs := x :: y :: xs) (i := 1) (by simp)
@[simp] theorem at2 {a : Type} (x y z : a) (xs : List a) : L2.atI (x :: y :: z :: xs) 2 = some z := at_of (xs := x :: y :: z :: xs) (i := 2) (by simp)
def primes : List PV := [.int 2147483647, .int 2147483629, .int 2147483587, .int 2147483579, .int 2147483563, .int 2147483549, .int 2147483543, .int 2147483497, .int 2147483489, .int 2147483477, .int 2147483423]
theorem prime_ok (j : Int) : ∃ p : Int, 1 < p ∧ p < 2147483648 ∧ L2.atI primes (j.fmod 11) = some (.int p) := by
  have h1 : 0 ≤ j.fmod 11 := by rw [Int.fmod_eq_emod_of_nonneg _ (by omega)]; omega
  have h2 : j.fmod 11 < 11 := by rw [Int.fmod_eq_emod_of_nonneg _ (by omega)]; omega
  generalize j.fmod 11 = i at *
  have : i = 0 ∨ i = 1 ∨ i = 2 ∨ i = 3 ∨ i = 4 ∨ i = 5 ∨ i = 6 ∨ i = 7 ∨ i = 8 ∨ i = 9 ∨ i = 10 := by omega
  rcases this with h | h | h | h | h | h | h | h | h | h | h <;> subst h <;> exact ⟨_, by decide, by decide, rfl⟩
theorem mod_bounds (i : Int) {m : Int} (h : 0 < m) : 0 ≤ i.fmod m ∧ i.fmod m < m := by
  rw [Int.fmod_eq_emod_of_nonneg _ (by omega)]
  exact ⟨Int.emod_nonneg _ (by omega), Int.emod_lt_of_pos _ h⟩
/-- a source at n; Fq: what else is known of the store, whatever stands at n -/
structure SrcR (Fq : List MO → Prop) (mu : List MO) (n k : Nat) : Prop where
  at_ : ∃ c k0 d : Int, mu[n]? = some (.lst [.int c, .int k0, .int d]) ∧ 0 ≤ k0 ∧ k0 ≤ k
  flat : flatMs mu = true
  keep : Fq mu
  stab : ∀ m v, Fq m → Fq (m.set n v)
abbrev Src : List MO → Nat → Nat → Prop := SrcR fun _ => True
theorem SrcR.also {Fq Fr : List MO → Prop} {mu : List MO} {n k : Nat} (h : SrcR Fq mu n k) (h1 : Fr mu) (h2 : ∀ m v, Fr m → Fr (m.set n v)) : SrcR Fr mu n k := ⟨h.at_, h.flat, h1, h2⟩
theorem SrcR.src {Fq : List MO → Prop} {mu : List MO} {n k : Nat} (h : SrcR Fq mu n k) : Src mu n k := h.also trivial fun _ _ _ => trivial
theorem SrcR.le {Fq : List MO → Prop} {mu : List MO} {n k k' : Nat} (h : SrcR Fq mu n k) (hk : k ≤ k') : SrcR Fq mu n k' := let ⟨⟨c, k0, d, h1, h2, h3⟩, hf, hq, hs⟩ := h; ⟨⟨c, k0, d, h1, h2, by omega⟩, hf, hq, hs⟩
theorem flat_set {mu : List MO} {n : Nat} {m : MO} (h : flatMs mu = true) (hm : flatM m = true) : flatMs (mu.set n m) = true := by
  unfold flatMs at h ⊢
  rw [List.all_eq_true] at h ⊢
  intro x hx
  rcases List.mem_or_eq_of_mem_set hx with z | z
  · exact h x z
  · rw [z]; exact hm
theorem flat_ints (a b c : Int) : flatM (.lst [.int a, .int b, .int c]) = true := by simp [flatL, flatP]
theorem next_ok {mu : List MO} {n k : Nat} {m : Int} (h : SrcR Fq mu n k) (hk : k + 1 ≤ 2 ^ 49) (hm : 0 < m) (hb : ib m ≤ 9000) : ∃ r mu', F_w_next [.ptr n, .int m] mu = .ok (.int r) mu' ∧ 0 ≤ r ∧ r < m ∧ SrcR Fq mu' n (k + 1) := by
  obtain ⟨⟨c, k0, d, h1, h2, h3⟩, hf, hq, hs⟩ := h
  have hn : n < mu.length := (List.getElem?_eq_some_iff.mp h1).1
  have e1 : mu[n] = .lst [.int c, .int k0, .int d] := (List.getElem?_eq_some_iff.mp h1).2
  have hm0 : ¬ m = 0 := by omega
  by_cases z : 0 < d
  · refine ⟨d.fmod m, mu.set n (.lst [.int c, .int k0, .int (d / m)]), ?_, ?_, ?_, ⟨⟨c, k0, d / m, by simp [hn], h2, by omega⟩, flat_set hf (flat_ints ..), hs _ _ hq, hs⟩⟩
    · simp [F_w_next, runBody, d_w_next, e1, hn, z, hm0, hm, hb, L2.ixN]
    · rw [Int.fmod_eq_emod_of_nonneg _ (by omega)]; exact Int.emod_nonneg _ hm0
    · rw [Int.fmod_eq_emod_of_nonneg _ (by omega)]; exact Int.emod_lt_of_pos _ hm
  · obtain ⟨p, p1, p2, p3⟩ := prime_ok (k0 + 1)
    have p0 : ¬ p = 0 := by omega
    obtain ⟨c1, c2⟩ := mod_bounds c (show 0 < p by omega)
    have hib : ib 7919 + ib (k0 + 1) ≤ 1000000 := by
      have h1 : ib (k0 + 1) ≤ 49 + 1 := ib_le (b := 49) (by omega)
      have h2 : ib 7919 ≤ 13 + 1 := ib_le (b := 13) (by decide)
      omega
    have hpow : (c.fmod p + 7919 * (k0 + 1) + 1).natAbs < 2 ^ 64 := by omega
    have hpow' : (c.fmod p + 7919 * (k0 + 1) + 1).natAbs < 18446744073709551616 := by omega
    have h13 : ib 13 ≤ 9000 := by decide
    have q := mod_bounds (((c.fmod p + 7919 * (k0 + 1) + 1) ^ 5).fmod p / 13) hm
    refine ⟨_, mu.set n (.lst [.int c, .int (k0 + 1), .int d]), ?_, q.1, q.2, ⟨⟨c, k0 + 1, d, by simp [hn], by omega, by omega⟩, flat_set hf (flat_ints ..), hs _ _ hq, hs⟩⟩
    unfold primes at p3
    simp [F_w_next, runBody, d_w_next, e1, hn, z, hm0, hm, hb, L2.ixN, p3, p0, hib, hpow', h13]
end PC
namespace PC
open PySem L3 LD
variable {Fq : List MO → Prop}
theorem okDL_ints (n : Nat) : ∀ ns : List Int, okDL n (ns.map PV.int) = true
  | [] => by simp [okDL]
  | i :: ns => by simp [okDL, okD, okDL_ints n ns]
theorem eqPL_nil (xs : List PV) : eqPL xs [] = xs.isEmpty := by cases xs <;> simp [eqPL]
theorem ib3 : ib 3 = 2 := by decide
theorem ib1018 : ib 1000000000000000000 ≤ 9000 := by decide
theorem source_ok (ns : List Int) (k : Nat) (mu : List MO) (hk : k ≤ 2 ^ 40) (hf : flatMs mu = true) : ∃ mu', F_w_source [.frz (ns.map .int), .int k] mu = .ok (.ptr mu.length) mu' ∧ Src mu' mu.length (3 * k) := by
  have h3 : ib 3 + ib (k : Int) ≤ 1000000 := by
    have : ib (k : Int) ≤ 40 + 1 := ib_le (b := 40) (by simpa using hk)
    rw [ib3]; omega
  have core : ∀ cell : Int, (if (1000000000000000000 : Int) ≤ cell then True else True) → ∀ d : Int, Src (mu ++ [.lst [.int cell, .int (3 * (k : Int)), .int d]]) mu.length (3 * k) := fun cell _ d =>
    ⟨⟨cell, 3 * k, d, by simp, by omega, by omega⟩, by unfold flatMs at hf ⊢; rw [List.all_append, hf]; simp [flatL, flatP], trivial, fun _ _ _ => trivial⟩
  have okns : okD 8 (.frz (ns.map PV.int)) = true := by unfold okD; exact okDL_ints 7 ns
  have oknil : okD 8 (.lst []) = true := by simp [okD, okDL]
  cases ns with
  | nil =>
    refine ⟨_, ?_, core 1 (by split <;> trivial) 0⟩
    simp [F_w_source, runBody, d_w_source, okns, oknil, okD, okDL, eqP, eqPL, h3]
  | cons n ns =>
    have hl : (0 : Int) < ((n :: ns).length : Int) := by simp
    obtain ⟨b1, b2⟩ := mod_bounds (k : Int) hl
    have hlt : ((k : Int).fmod ((n :: ns).length : Int)).toNat < ((n :: ns).map PV.int).length := by rw [List.length_map]; omega
    have hat := at_of hlt
    rw [Int.toNat_of_nonneg b1, List.getElem_map] at hat
    generalize hc : (n :: ns)[((k : Int).fmod ((n :: ns).length : Int)).toNat]'(by rw [List.length_map] at hlt; exact hlt) = cell at hat
    have he : eqP (.frz ((n :: ns).map PV.int)) (.lst []) = false := by simp [eqP, eqPL]
    have hl0 : ¬ ((n :: ns).length : Int) = 0 := by omega
    clear hc hlt
    generalize hxs : (n :: ns).map PV.int = xs at *
    have hlen : xs.length = (n :: ns).length := by rw [← hxs, List.length_map]
    generalize (n :: ns).length = L at *
    have hl1 : ¬ L = 0 := by omega
    by_cases z : (1000000000000000000 : Int) ≤ cell
    · refine ⟨_, ?_, core cell (by split <;> trivial) (cell / 1000000000000000000)⟩
      simp [F_w_source, runBody, d_w_source, okns, oknil, he, h3, hat, hlen, hl0, hl1, z, ib1018]
    · refine ⟨_, ?_, core cell (by split <;> trivial) 0⟩
      simp [F_w_source, runBody, d_w_source, okns, oknil, he, h3, hat, hlen, hl0, hl1, z]
theorem pick_ok {mu : List MO} {n k : Nat} {xs : List PV} (h : SrcR Fq mu n k) (hk : k + 1 ≤ 2 ^ 49) (hne : xs ≠ []) (hl : xs.length ≤ 16777216) : ∃ x mu', F_w_pick [.ptr n, .lst xs] mu = .ok x mu' ∧ x ∈ xs ∧ SrcR Fq mu' n (k + 1) := by
  have h0 : 0 < xs.length := List.length_pos_iff.mpr hne
  obtain ⟨r, mu', h1, h2, h3, h4⟩ := next_ok (m := xs.length) h hk (by omega) (by
    have := ib_le (i := (xs.length : Int)) (b := 24) (by simpa using hl)
    omega)
  have hlt : r.toNat < xs.length := by omega
  have hat := at_of hlt
  rw [Int.toNat_of_nonneg h2] at hat
  refine ⟨xs[r.toNat], mu', ?_, List.getElem_mem _, h4⟩
  simp [F_w_pick, runBody, d_w_pick, h1, hat]
end PC
namespace PC
open PySem L3 LD
def Zb (q : Rat) (b : Nat) : Prop := q.num.natAbs ≤ 2 ^ b ∧ q.den ≤ 2 ^ b
theorem Zb.le {q : Rat} {a b : Nat} (h : Zb q a) (l : a ≤ b) : Zb q b := ⟨Nat.le_trans h.1 (Nat.pow_le_pow_right (by omega) l), Nat.le_trans h.2 (Nat.pow_le_pow_right (by omega) l)⟩
theorem divInt_parts (n d : Int) (h : d ≠ 0) : (Rat.divInt n d).num.natAbs ≤ n.natAbs ∧ (Rat.divInt n d).den ≤ d.natAbs := by
  obtain ⟨m, hm, h1, h2⟩ := Rat.divInt_num_den (z' := (Rat.divInt n d).den_nz) (c := (Rat.divInt n d).reduced) h rfl
  have hm' : 0 < m.natAbs := by omega
  constructor
  · have e : n.natAbs = (Rat.divInt n d).num.natAbs * m.natAbs := by rw [← Int.natAbs_mul, ← h1]
    rw [e]; exact Nat.le_mul_of_pos_right _ hm'
  · have e : d.natAbs = (Rat.divInt n d).den * m.natAbs := by
      have := congrArg Int.natAbs h2
      rw [Int.natAbs_mul, Int.natAbs_natCast] at this
      exact this
    rw [e]; exact Nat.le_mul_of_pos_right _ hm'
theorem den_ne (q : Rat) : (q.den : Int) ≠ 0 := by have := q.den_nz; omega
theorem den_pos (q : Rat) : (0 : Int) < (q.den : Int) := by have := q.den_nz; omega
theorem add_divInt (x y : Rat) : Rat.divInt (x.num * y.den + y.num * x.den) (x.den * y.den) = x + y := by
  rw [← Rat.divInt_add_divInt _ _ (den_ne x) (den_ne y), Rat.num_divInt_den, Rat.num_divInt_den]
theorem mul_divInt (x y : Rat) : Rat.divInt (x.num * y.num) (x.den * y.den) = x * y := by
  rw [← Rat.divInt_mul_divInt, Rat.num_divInt_den, Rat.num_divInt_den]
theorem div_divInt (x y : Rat) : Rat.divInt (x.num * y.den) (x.den * y.num) = x / y := by
  rw [Rat.div_def, Rat.inv_def, ← Rat.divInt_mul_divInt, Rat.num_divInt_den]
theorem two_mul_le {a b x y : Nat} (h1 : x ≤ 2 ^ a) (h2 : y ≤ 2 ^ b) : x * y ≤ 2 ^ (a + b) := by rw [Nat.pow_add]; exact Nat.mul_le_mul h1 h2
theorem Zb.add {x y : Rat} {a b : Nat} (h1 : Zb x a) (h2 : Zb y b) : Zb (x + y) (a + b + 1) := by
  have hd : ((x.den : Int) * y.den) ≠ 0 := Int.mul_ne_zero (den_ne x) (den_ne y)
  have p := divInt_parts (x.num * y.den + y.num * x.den) (x.den * y.den) hd
  rw [add_divInt] at p
  have e1 := two_mul_le h1.1 h2.2
  have e2 := two_mul_le h2.1 h1.2
  have e3 := two_mul_le h1.2 h2.2
  have e0 : 2 ^ (a + b + 1) = 2 ^ (a + b) + 2 ^ (a + b) := by rw [Nat.pow_succ]; omega
  rw [Nat.add_comm b a] at e2
  refine ⟨Nat.le_trans p.1 (Nat.le_trans (Int.natAbs_add_le _ _) ?_), Nat.le_trans p.2 ?_⟩
  · rw [Int.natAbs_mul, Int.natAbs_mul, Int.natAbs_natCast, Int.natAbs_natCast]; omega
  · rw [Int.natAbs_mul, Int.natAbs_natCast, Int.natAbs_natCast]; omega
theorem Zb.mul {x y : Rat} {a b : Nat} (h1 : Zb x a) (h2 : Zb y b) : Zb (x * y) (a + b) := by
  have hd : ((x.den : Int) * y.den) ≠ 0 := Int.mul_ne_zero (den_ne x) (den_ne y)
  have p := divInt_parts (x.num * y.num) (x.den * y.den) hd
  rw [mul_divInt] at p
  refine ⟨Nat.le_trans p.1 ?_, Nat.le_trans p.2 ?_⟩
  · rw [Int.natAbs_mul]; exact two_mul_le h1.1 h2.1
  · rw [Int.natAbs_mul, Int.natAbs_natCast, Int.natAbs_natCast]; exact two_mul_le h1.2 h2.2
theorem Zb.ib_num {q : Rat} {a : Nat} (h : Zb q a) : ib q.num ≤ a + 1 := ib_le h.1
theorem Zb.ib_den {q : Rat} {a : Nat} (h : Zb q a) : ib (q.den : Int) ≤ a + 1 := ib_le (by rw [Int.natAbs_natCast]; exact h.2)
theorem ib_mul {i j : Int} {a b : Nat} (h1 : i.natAbs ≤ 2 ^ a) (h2 : j.natAbs ≤ 2 ^ b) : ib (i * j) ≤ a + b + 1 := ib_le (by rw [Int.natAbs_mul]; exact two_mul_le h1 h2)
def sumQ (qs : List Rat) : Rat := qs.foldl (· + ·) 0
end PC
namespace PC
open PySem L3 LD
variable {Fq : List MO → Prop}
theorem Zb_int {i : Int} {b : Nat} (h : i.natAbs ≤ 2 ^ b) : Zb (i : Rat) b := ⟨h, Nat.one_le_two_pow⟩
theorem okDL_fr (n : Nat) : ∀ qs : List Rat, okDL (n + 1) (qs.map fr) = true
  | [] => by simp [okDL]
  | q :: qs => by simp [okDL, okD, fr, okDL_fr n qs]
theorem okD_fr (q : Rat) : okD 8 (fr q) = true := by simp [fr, okD, okDL]
theorem okD_frs (qs : List Rat) : okD 8 (.lst (qs.map fr)) = true := by
  unfold okD; exact okDL_fr 6 qs
theorem okD_nil : okD 8 (.lst []) = true := by simp [okD, okDL]
@[simp] theorem okD_int (i : Int) : okD 8 (.int i) = true := by simp [okD]
@[simp] theorem okD_bl (i : Bool) : okD 8 (.bl i) = true := by simp [okD]
@[simp] theorem okD_non : okD 8 .non = true := by simp [okD]
@[simp] theorem eqP_int (i j : Int) : eqP (.int i) (.int j) = (i == j) := by simp [eqP]
@[simp] theorem eqP_bl (i j : Bool) : eqP (.bl i) (.bl j) = (i == j) := by simp [eqP]
end PC
namespace PC
open PySem L3 LD
variable {Fq : List MO → Prop}
/-- the value stands for the fraction -/
def Is (q : Rat) (p : PV) : Prop := p = .rat q ∨ (q.den = 1 ∧ p = .int q.num)
end PC
namespace PC
open PySem L3 LD
theorem Is_cases {q : Rat} {p : PV} (h : Is q p) : p = .rat q ∨ ∃ i : Int, q = (i : Rat) ∧ p = .int i := by
  rcases h with h | ⟨h1, h2⟩
  · exact .inl h
  · refine .inr ⟨q.num, ?_, h2⟩
    apply Rat.ext
    · rfl
    · rw [h1]; rfl
theorem e_ratio_of {q : Rat} {p : PV} (h : Is q p) (mu : List MO) : F_ratio_of [p] mu = .ok (.rat q) mu := by
  rcases Is_cases h with rfl | ⟨i, rfl, rfl⟩
  · exact e_ratio_of_r q mu
  · exact e_ratio_of_i i mu
theorem e_is_number {q : Rat} {p : PV} (h : Is q p) (mu : List MO) : F_is_number [p] mu = .ok (.bl true) mu := by
  rcases Is_cases h with rfl | ⟨i, rfl, rfl⟩
  · rfl
  · rfl
theorem e_need_number {q : Rat} {p : PV} (h : Is q p) (mu : List MO) : F_need_number [p] mu = .ok .non mu := by
  rcases Is_cases h with rfl | ⟨i, rfl, rfl⟩
  · rfl
  · rfl
theorem e_over {x y : Rat} {p : PV} {a b : Nat} (h1 : Zb x a) (h2 : Zb y b) (hp : Is y p) (hy : y.num ≠ 0) (hab : a + b ≤ 8000) (mu : List MO) : F_Ratio_over [.rat x, p] mu = .ok (.rat (x / y)) mu := by
  have hd : ((x.den : Int) * y.num) ≠ 0 := Int.mul_ne_zero (den_ne x) hy
  have h9 : okR (x.num * y.den) ((x.den : Int) * y.num) = true := by
    have := ib_mul (i := (x.den : Int)) (j := y.num) (a := a) (b := b) (by rw [Int.natAbs_natCast]; exact h1.2) h2.1
    exact decide_eq_true (by omega)
  have c1 : ib x.num + ib (y.den : Int) ≤ 1000000 := by have := h1.ib_num; have := h2.ib_den; omega
  have c2 : ib (x.den : Int) + ib y.num ≤ 1000000 := by have := h2.ib_num; have := h1.ib_den; omega
  have e1 := e_need_number hp mu
  have e2 := e_ratio_of hp mu
  have hx : ¬ x.den = 0 := x.den_nz
  rw [← div_divInt]
  simp [F_Ratio_over, runBody, d_Ratio_over, e1, e2, c1, c2, h9, hy, hx]
end PC
namespace PC
open PySem L3 LD
inductive All2 : List Rat → List PV → Prop where
  | nil : All2 [] []
  | cons {q : Rat} {p : PV} {qs : List Rat} {ps : List PV} (h : Is q p) (t : All2 qs ps) : All2 (q :: qs) (p :: ps)
theorem All2.len {qs : List Rat} {ps : List PV} (h : All2 qs ps) : qs.length = ps.length := by
  induction h with
  | nil => rfl
  | cons _ _ ih => simp [ih]
theorem All2.mem {qs : List Rat} {ps : List PV} (h : All2 qs ps) {p : PV} (hp : p ∈ ps) : ∃ q ∈ qs, Is q p := by
  induction h with
  | nil => cases hp
  | cons h t ih =>
    rcases List.mem_cons.mp hp with z | z
    · exact ⟨_, List.mem_cons_self, z ▸ h⟩
    · obtain ⟨q, h1, h2⟩ := ih z
      exact ⟨q, List.mem_cons_of_mem _ h1, h2⟩
theorem All2.rat : ∀ qs : List Rat, All2 qs (qs.map .rat)
  | [] => .nil
  | q :: qs => .cons (.inl rfl) (All2.rat qs)
/-- what a value that stands for a fraction is worth -/
def val : PV → Rat
  | .rat q => q
  | .int i => i
  | _ => 0
end PC
namespace PC
open PySem L3 LD
theorem add_same {L : Int} (h : L ≠ 0) (a b : Int) : Rat.divInt a L + Rat.divInt b L = Rat.divInt (a + b) L := by
  rw [Rat.divInt_add_divInt _ _ h h, Rat.divInt_eq_divInt_iff (Int.mul_ne_zero h h) h, ← Int.add_mul, Int.mul_assoc]
end PC
namespace PC
open PySem L3 LD
end PC
namespace PC
open PySem L3 LD
variable {Fq : List MO → Prop}
mutual
theorem eqP_self : ∀ (n : Nat) (p : PV), okD n p = true → eqP p p = true
  | n, .non, _ => by simp [eqP]
  | n, .bl b, _ => by simp [eqP]
  | n, .int i, _ => by simp [eqP]
  | n, .str x, _ => by simp [eqP]
  | n + 1, .tup xs, h => by unfold eqP; exact eqPL_self n xs (by unfold okD at h; exact h)
  | n + 1, .lst xs, h => by unfold eqP; exact eqPL_self n xs (by unfold okD at h; exact h)
  | n + 1, .frz xs, h => by unfold eqP; exact eqPL_self n xs (by unfold okD at h; exact h)
  | 0, .tup xs, h => by unfold okD at h; cases h
  | 0, .lst xs, h => by unfold okD at h; cases h
  | 0, .frz xs, h => by unfold okD at h; cases h
  | n, .rat _, h => by cases n <;> (unfold okD at h; cases h)
  | n, .obj _ _ _, h => by cases n <;> (unfold okD at h; cases h)
  | n, .ptr _, h => by cases n <;> (unfold okD at h; cases h)
  | n, .adr _, h => by cases n <;> (unfold okD at h; cases h)
  | n, .ty _, h => by cases n <;> (unfold okD at h; cases h)
theorem eqPL_self : ∀ (n : Nat) (xs : List PV), okDL n xs = true → eqPL xs xs = true
  | n, [], _ => by simp [eqPL]
  | n, x :: xs, h => by
    have h : (okD n x && okDL n xs) = true := by unfold okDL at h; exact h
    rw [Bool.and_eq_true] at h
    simp [eqPL, eqP_self n x h.1, eqPL_self n xs h.2]
end
theorem gEq_self (neg : Bool) {p : PV} (h : okD 8 p = true) (s : S) : gEq neg p p s = .ok (.bl (!neg)) s := by
  unfold gEq
  rw [if_pos ⟨h, h⟩, eqP_self 8 p h, Bool.xor_true]
end PC
namespace PD
open PySem L3 LD PC
structure Zd (D B : Nat) (q : Rat) : Prop where
  dvd : q.den ∣ D
  le : q.num.natAbs ≤ B * q.den
theorem Zd.mono {D B D' B' : Nat} {q : Rat} (h : Zd D B q) (h1 : D ∣ D') (h2 : B ≤ B') : Zd D' B' q := ⟨Nat.dvd_trans h.dvd h1, Nat.le_trans h.le (Nat.mul_le_mul_right _ h2)⟩
theorem Zd.zb {D B : Nat} {q : Rat} (h : Zd D B q) {b : Nat} (h0 : 0 < D) (hb : B * D ≤ 2 ^ b) (hd : D ≤ 2 ^ b) : Zb q b :=
  have l : q.den ≤ D := Nat.le_of_dvd h0 h.dvd
  ⟨Nat.le_trans h.le (Nat.le_trans (Nat.mul_le_mul_left _ l) hb), Nat.le_trans l hd⟩
/-- a fraction of ints: the lowest terms divide -/
theorem divInt_dvd (n d : Int) (h : d ≠ 0) : (Rat.divInt n d).den ∣ d.natAbs := by
  obtain ⟨m, hm, h1, h2⟩ := Rat.divInt_num_den (z' := (Rat.divInt n d).den_nz) (c := (Rat.divInt n d).reduced) h rfl
  have := congrArg Int.natAbs h2
  rw [Int.natAbs_mul, Int.natAbs_natCast] at this
  exact ⟨m.natAbs, this⟩
theorem divInt_le (n d : Int) (h : d ≠ 0) {B : Nat} (hb : n.natAbs ≤ B * d.natAbs) : (Rat.divInt n d).num.natAbs ≤ B * (Rat.divInt n d).den := by
  obtain ⟨m, hm, h1, h2⟩ := Rat.divInt_num_den (z' := (Rat.divInt n d).den_nz) (c := (Rat.divInt n d).reduced) h rfl
  have e1 : n.natAbs = (Rat.divInt n d).num.natAbs * m.natAbs := by rw [← Int.natAbs_mul, ← h1]
  have e2 : d.natAbs = (Rat.divInt n d).den * m.natAbs := by
    have := congrArg Int.natAbs h2
    rw [Int.natAbs_mul, Int.natAbs_natCast] at this
    exact this
  have hm' : 0 < m.natAbs := by omega
  rw [e1, e2, ← Nat.mul_assoc] at hb
  exact Nat.le_of_mul_le_mul_right hb hm'
theorem Zd.divInt {n d : Int} {D B : Nat} (h : d ≠ 0) (h1 : d.natAbs ∣ D) (h2 : n.natAbs ≤ B * d.natAbs) : Zd D B (Rat.divInt n d) := ⟨Nat.dvd_trans (divInt_dvd n d h) h1, divInt_le n d h h2⟩
theorem Zd.int {i : Int} {B : Nat} (h : i.natAbs ≤ B) : Zd 1 B (i : Rat) := ⟨Nat.dvd_refl _, by rw [show ((i : Rat)).den = 1 from rfl, Nat.mul_one]; exact h⟩
/-- with one bottom L that both divide: tops over it -/
theorem over_common {q : Rat} {D : Nat} (h0 : 0 < D) (h : q.den ∣ D) : ∃ t : Int, q = Rat.divInt t D ∧ ∀ B : Nat, q.num.natAbs ≤ B * q.den → t.natAbs ≤ B * D := by
  obtain ⟨m, hm⟩ := h
  refine ⟨q.num * m, ?_, fun B hB => ?_⟩
  · conv => lhs; rw [← Rat.num_divInt_den q]
    rw [hm, Rat.divInt_eq_divInt_iff (den_ne q) (by rw [← hm]; omega)]
    rw [Int.natCast_mul, Int.mul_assoc, Int.mul_comm (m : Int)]
  · rw [Int.natAbs_mul, Int.natAbs_natCast, hm, ← Nat.mul_assoc]
    exact Nat.mul_le_mul_right _ hB
theorem Zd.add {x y : Rat} {D A B : Nat} (h0 : 0 < D) (hx : Zd D A x) (hy : Zd D B y) : Zd D (A + B) (x + y) := by
  obtain ⟨t, e1, b1⟩ := over_common h0 hx.dvd
  obtain ⟨u, e2, b2⟩ := over_common h0 hy.dvd
  have c1 := b1 A hx.le
  have c2 := b2 B hy.le
  rw [e1, e2, add_same (by omega : ((D : Nat) : Int) ≠ 0)]
  refine Zd.divInt (by omega) (by rw [Int.natAbs_natCast]; exact Nat.dvd_refl _) ?_
  rw [Int.natAbs_natCast, Nat.add_mul]
  exact Nat.le_trans (Int.natAbs_add_le _ _) (Nat.add_le_add c1 c2)
theorem Zd.mul {x y : Rat} {D E A B : Nat} (hx : Zd D A x) (hy : Zd E B y) : Zd (D * E) (A * B) (x * y) := by
  have hd : ((x.den : Int) * y.den) ≠ 0 := Int.mul_ne_zero (den_ne x) (den_ne y)
  rw [← mul_divInt]
  refine Zd.divInt hd (by rw [Int.natAbs_mul, Int.natAbs_natCast, Int.natAbs_natCast]; exact Nat.mul_dvd_mul hx.dvd hy.dvd) ?_
  rw [Int.natAbs_mul, Int.natAbs_mul, Int.natAbs_natCast, Int.natAbs_natCast]
  have := Nat.mul_le_mul hx.le hy.le
  calc _ ≤ _ := this
    _ = _ := by ac_rfl
theorem Zd.sum {D B : Nat} (h0 : 0 < D) : ∀ (qs : List Rat) (acc : Rat) (A : Nat), Zd D A acc → (∀ q ∈ qs, Zd D B q) → Zd D (A + qs.length * B) (qs.foldl (· + ·) acc)
  | [], acc, A, h, _ => by simpa using h
  | q :: qs, acc, A, h, hz => by
    have := Zd.sum h0 qs (acc + q) (A + B) (h.add h0 (hz q List.mem_cons_self)) (fun y hy => hz y (List.mem_cons_of_mem _ hy))
    refine this.mono (Nat.dvd_refl _) ?_
    rw [List.length_cons, Nat.add_mul]; omega
/-- such fractions are small enough for sums and products of two -/
structure Sm (D B : Nat) : Prop where
  pos : 0 < D
  top : B * D ≤ 2 ^ 3990
  bot : D ≤ 2 ^ 3990
theorem Zd.sm {D B : Nat} {q : Rat} (h : Zd D B q) (s : Sm D B) : Zb q 3990 := h.zb s.pos s.top s.bot
theorem Sm.le {D B D' B' : Nat} (s : Sm D B) (h1 : 0 < D') (h2 : D' ≤ D) (h3 : B' ≤ B) : Sm D' B' := ⟨h1, Nat.le_trans (Nat.mul_le_mul h3 h2) s.top, Nat.le_trans h2 s.bot⟩
end PD
namespace PD
open PySem L3 LD PC
theorem sub_divInt (x y : Rat) : Rat.divInt (x.num * y.den - y.num * x.den) (x.den * y.den) = x - y := by
  rw [Rat.sub_eq_add_neg, ← add_divInt]
  rw [Rat.neg_num, Rat.neg_den]
  congr 1
  rw [Int.neg_mul, Int.sub_eq_add_neg]
theorem e_sub {x y : Rat} {p : PV} {a b : Nat} (h1 : Zb x a) (h2 : Zb y b) (hp : Is y p) (hab : a + b ≤ 8000) (mu : List MO) : F_Ratio___sub__ [.rat x, p] mu = .ok (.rat (x - y)) mu := by
  have hd : ((x.den : Int) * y.den) ≠ 0 := Int.mul_ne_zero (den_ne x) (den_ne y)
  have h9 : okR (x.num * y.den - y.num * x.den) ((x.den : Int) * y.den) = true := by
    have := ib_mul (i := (x.den : Int)) (j := (y.den : Int)) (a := a) (b := b) (by rw [Int.natAbs_natCast]; exact h1.2) (by rw [Int.natAbs_natCast]; exact h2.2)
    exact decide_eq_true (by omega)
  have c1 : ib x.num + ib (y.den : Int) ≤ 1000000 := by have := h1.ib_num; have := h2.ib_den; omega
  have c2 : ib y.num + ib (x.den : Int) ≤ 1000000 := by have := h2.ib_num; have := h1.ib_den; omega
  have c3 : ib (x.den : Int) + ib (y.den : Int) ≤ 1000000 := by have := h2.ib_den; have := h1.ib_den; omega
  have e2 := e_ratio_of hp mu
  have hx : ¬ x.den = 0 := x.den_nz
  have hy : ¬ y.den = 0 := y.den_nz
  rw [← sub_divInt]
  simp [F_Ratio___sub__, runBody, d_Ratio___sub__, e2, c1, c2, c3, h9, hx, hy]
theorem e_mul {x y : Rat} {p : PV} {a b : Nat} (h1 : Zb x a) (h2 : Zb y b) (hp : Is y p) (hab : a + b ≤ 8000) (mu : List MO) : F_Ratio___mul__ [.rat x, p] mu = .ok (.rat (x * y)) mu := by
  have hd : ((x.den : Int) * y.den) ≠ 0 := Int.mul_ne_zero (den_ne x) (den_ne y)
  have h9 : okR (x.num * y.num) ((x.den : Int) * y.den) = true := by
    have := ib_mul (i := (x.den : Int)) (j := (y.den : Int)) (a := a) (b := b) (by rw [Int.natAbs_natCast]; exact h1.2) (by rw [Int.natAbs_natCast]; exact h2.2)
    exact decide_eq_true (by omega)
  have c1 : ib x.num + ib y.num ≤ 1000000 := by have := h1.ib_num; have := h2.ib_num; omega
  have c3 : ib (x.den : Int) + ib (y.den : Int) ≤ 1000000 := by have := h2.ib_den; have := h1.ib_den; omega
  have e2 := e_ratio_of hp mu
  have hx : ¬ x.den = 0 := x.den_nz
  have hy : ¬ y.den = 0 := y.den_nz
  rw [← mul_divInt]
  simp [F_Ratio___mul__, runBody, d_Ratio___mul__, e2, c1, c3, h9, hx, hy]
theorem rat_eq (x y : Rat) : (decide (x = y)) = ((x.num == y.num) && ((x.den : Int) == (y.den : Int))) := by
  by_cases h : x = y
  · subst h; simp
  · rw [decide_eq_false h]
    by_cases h1 : x.num = y.num
    · have h2 : ¬ x.den = y.den := fun h2 => h (Rat.ext h1 h2)
      have h3 : ((x.den : Int) == (y.den : Int)) = false := by
        rw [beq_eq_false_iff_ne]; exact fun z => h2 (by omega)
      rw [h3, Bool.and_false]
    · have h3 : (x.num == y.num) = false := by rw [beq_eq_false_iff_ne]; exact h1
      rw [h3, Bool.false_and]
theorem e_eq {x y : Rat} {p : PV} (hp : Is y p) (mu : List MO) : F_Ratio___eq__ [.rat x, p] mu = .ok (.bl (decide (x = y))) mu := by
  have e1 := e_is_number hp mu
  have e2 := e_ratio_of hp mu
  rw [rat_eq]
  by_cases h1 : x.num = y.num
  · have h3 : (x.num == y.num) = true := by simpa using h1
    simp [F_Ratio___eq__, runBody, d_Ratio___eq__, e1, e2, h3]
  · have h3 : (x.num == y.num) = false := by simpa using h1
    simp [F_Ratio___eq__, runBody, d_Ratio___eq__, e1, e2, h3]
end PD
namespace Gk01
open PySem PySem.Spec PyProof.Rows L2 L3 LD
structure Fs (K : PySem.W.Frag) (mg : Str → Option Value) (CR : Addr) : Prop where
  n_ArithmeticError : mg "ArithmeticError" = none
  n_LookupError : mg "LookupError" = none
  n_ValueError : mg "ValueError" = none
  n_enumerate : mg "enumerate" = none
  n_isinstance : mg "isinstance" = none
  n_len : mg "len" = none
  n_max : mg "max" = none
  n_min : mg "min" = none
  n_range : mg "range" = none
  n_repr : mg "repr" = none
section
variable {P : Program} {w : World} {K : PySem.W.Frag} {mg : Str → Option Value} {base : Heap} {CR : Addr}
theorem sc_BadAmount___init__ : FnScope ["self", "value"] ["self", "value"] (defScope s_BadAmount___init__) := ⟨rfl, rfl, rfl, by decide +kernel, rfl, by decide +kernel, by decide +kernel⟩
theorem sc_BadRule___init__ : FnScope ["self", "value"] ["self", "value"] (defScope s_BadRule___init__) := ⟨rfl, rfl, rfl, by decide +kernel, rfl, by decide +kernel, by decide +kernel⟩
theorem sc_BadShare___init__ : FnScope ["self", "value"] ["self", "value"] (defScope s_BadShare___init__) := ⟨rfl, rfl, rfl, by decide +kernel, rfl, by decide +kernel, by decide +kernel⟩
theorem sc_BadNumber___init__ : FnScope ["self", "value"] ["self", "value"] (defScope s_BadNumber___init__) := ⟨rfl, rfl, rfl, by decide +kernel, rfl, by decide +kernel, by decide +kernel⟩
theorem sc_BadSample___init__ : FnScope ["self", "index"] ["self", "index"] (defScope s_BadSample___init__) := ⟨rfl, rfl, rfl, by decide +kernel, rfl, by decide +kernel, by decide +kernel⟩
theorem sc_BadSummary___init__ : FnScope ["self", "value"] ["self", "value"] (defScope s_BadSummary___init__) := ⟨rfl, rfl, rfl, by decide +kernel, rfl, by decide +kernel, by decide +kernel⟩
theorem sc_BadText___init__ : FnScope ["self", "value"] ["self", "value"] (defScope s_BadText___init__) := ⟨rfl, rfl, rfl, by decide +kernel, rfl, by decide +kernel, by decide +kernel⟩
theorem sc_BadName___init__ : FnScope ["self", "value"] ["self", "value"] (defScope s_BadName___init__) := ⟨rfl, rfl, rfl, by decide +kernel, rfl, by decide +kernel, by decide +kernel⟩
theorem sc_BadEdges___init__ : FnScope ["self", "index"] ["self", "index"] (defScope s_BadEdges___init__) := ⟨rfl, rfl, rfl, by decide +kernel, rfl, by decide +kernel, by decide +kernel⟩
theorem sc_BadPairs___init__ : FnScope ["self", "index"] ["self", "index"] (defScope s_BadPairs___init__) := ⟨rfl, rfl, rfl, by decide +kernel, rfl, by decide +kernel, by decide +kernel⟩
theorem sc_BadWeights___init__ : FnScope ["self", "index"] ["self", "index"] (defScope s_BadWeights___init__) := ⟨rfl, rfl, rfl, by decide +kernel, rfl, by decide +kernel, by decide +kernel⟩
theorem sc_Outside___init__ : FnScope ["self", "value"] ["self", "value"] (defScope s_Outside___init__) := ⟨rfl, rfl, rfl, by decide +kernel, rfl, by decide +kernel, by decide +kernel⟩
theorem sc_NotThere___init__ : FnScope ["self", "item"] ["self", "item"] (defScope s_NotThere___init__) := ⟨rfl, rfl, rfl, by decide +kernel, rfl, by decide +kernel, by decide +kernel⟩
theorem sc_TooFew___init__ : FnScope ["self", "needed"] ["self", "needed"] (defScope s_TooFew___init__) := ⟨rfl, rfl, rfl, by decide +kernel, rfl, by decide +kernel, by decide +kernel⟩
theorem sc_NotPositive___init__ : FnScope ["self", "index"] ["self", "index"] (defScope s_NotPositive___init__) := ⟨rfl, rfl, rfl, by decide +kernel, rfl, by decide +kernel, by decide +kernel⟩
theorem sc_TooMany___init__ : FnScope ["self", "most"] ["self", "most"] (defScope s_TooMany___init__) := ⟨rfl, rfl, rfl, by decide +kernel, rfl, by decide +kernel, by decide +kernel⟩
theorem sc_w_source : FnScope ["_law_script", "_law_k", "_law_cell"] ["_law_script", "_law_k"] (defScope s_w_source) := ⟨rfl, rfl, rfl, by decide +kernel, rfl, by decide +kernel, by decide +kernel⟩
theorem ok_w_source (E : Fs K mg CR)  {f : Addr} {fd : FuncData} (F : FunD K "_law_source" "_law_source" (defArgs s_w_source) (defBody s_w_source) (defScope s_w_source) [] [] f fd) : FJ P w K mg base CR 1 f fd ["_law_script", "_law_k"] (runBody 3 d_w_source) :=
  jf_fn F sc_w_source fun cdv A outer s H E' Nn hr => by
    have nd := sc_w_source.nd
    have hu := hr.units
    exact (js_cons (js_set (i := 2) nd (j_if (jt_cmp (o_neA hu) (jv 0) (j_lst ja_nil)) (j_ix (jv 0) (j_bin o_mod (jv 1) (j_callB c_len rfl E.n_len (by decide +kernel) (ja_cons (jv 0) ja_nil)))) j_int)) (js_one (js_ret (j_new (jf_lst (ja_cons (jv 2) (ja_cons (j_bin o_mul j_int (jv 1)) (ja_cons (j_if (jt_cmp o_geI (jv 2) (j_bin o_pow j_int j_int)) (j_bin o_fdiv (jv 2) (j_bin o_pow j_int j_int)) j_int) ja_nil))))))))
theorem sc_w_next : FnScope ["_law_source_here", "_law_many", "_law_primes", "_law_prime", "_law_found"] ["_law_source_here", "_law_many"] (defScope s_w_next) := ⟨rfl, rfl, rfl, by decide +kernel, rfl, by decide +kernel, by decide +kernel⟩
theorem ok_w_next (E : Fs K mg CR)  {f : Addr} {fd : FuncData} (F : FunD K "_law_next" "_law_next" (defArgs s_w_next) (defBody s_w_next) (defScope s_w_next) [] [] f fd) : FJ P w K mg base CR 1 f fd ["_law_source_here", "_law_many"] (runBody 5 d_w_next) :=
  jf_fn F sc_w_next fun cdv A outer s H E' Nn hr => by
    have nd := sc_w_next.nd
    have hu := hr.units
    exact (js_cons (js_if (jt_cmp o_gtI (j_ix (jv 0) j_int) j_int) (js_cons (js_set (i := 4) nd (j_bin o_mod (j_ix (jv 0) j_int) (jv 1))) (js_cons (js_put (i := 0) (j_bin o_fdiv (j_ix (jv 0) j_int) (jv 1)) j_int) (js_one (js_ret (jv 4))))) js_nil) (js_cons (js_put (i := 0) (j_bin o_add (j_ix (jv 0) j_int) j_int) j_int) (js_cons (js_set (i := 2) nd (j_lst (ja_cons j_int (ja_cons j_int (ja_cons j_int (ja_cons j_int (ja_cons j_int (ja_cons j_int (ja_cons j_int (ja_cons j_int ja_nil)))))))))) (js_cons (js_set (i := 3) nd (j_ix (j_bin o_add (jv 2) (j_lst (ja_cons j_int (ja_cons j_int (ja_cons j_int ja_nil))))) (j_bin o_mod (j_ix (jv 0) j_int) j_int))) (js_one (js_ret (j_bin o_mod (j_bin o_fdiv (j_bin o_mod (j_bin o_pow (j_bin o_add (j_bin o_add (j_bin o_mod (j_ix (jv 0) j_int) (jv 3)) (j_bin o_mul j_int (j_ix (jv 0) j_int))) j_int) j_int) (jv 3)) j_int) (jv 1))))))))
theorem sc_w_pick : FnScope ["_law_source_here", "_law_items"] ["_law_source_here", "_law_items"] (defScope s_w_pick) := ⟨rfl, rfl, rfl, by decide +kernel, rfl, by decide +kernel, by decide +kernel⟩
theorem ok_w_pick (E : Fs K mg CR) (h_w_next : Has P w K mg base CR "_law_next" 1 ["_law_source_here", "_law_many"] F_w_next) {f : Addr} {fd : FuncData} (F : FunD K "_law_pick" "_law_pick" (defArgs s_w_pick) (defBody s_w_pick) (defScope s_w_pick) [] [] f fd) : FJ P w K mg base CR 2 f fd ["_law_source_here", "_law_items"] (runBody 2 d_w_pick) :=
  jf_fn F sc_w_pick fun cdv A outer s H E' Nn hr => by
    have nd := sc_w_pick.nd
    have hu := hr.units
    exact (js_one (js_ret (j_ix (jv 1) (j_callH h_w_next (hr.mono (by decide)) (takes_of rfl rfl rfl (E₁ := _) rfl) (ja_cons (jv 0) (ja_cons (j_callB c_len rfl E.n_len (by decide +kernel) (ja_cons (jv 1) ja_nil)) ja_nil))))))
theorem sc_w_named : FnScope ["_law_thing", "_law_found"] ["_law_thing"] (defScope s_w_named) := ⟨rfl, rfl, rfl, by decide +kernel, rfl, by decide +kernel, by decide +kernel⟩
theorem ok_w_named (E : Fs K mg CR) (h_exc_BadAmount : HasE P w K mg base "BadAmount" "value" .ve) (h_excK_BadAmount : HasEK P w K mg base "BadAmount" "value" .ve) (h_exc_BadRule : HasE P w K mg base "BadRule" "value" .ve) (h_excK_BadRule : HasEK P w K mg base "BadRule" "value" .ve) (h_exc_BadShare : HasE P w K mg base "BadShare" "value" .ve) (h_excK_BadShare : HasEK P w K mg base "BadShare" "value" .ve) (h_exc_BadNumber : HasE P w K mg base "BadNumber" "value" .ve) (h_excK_BadNumber : HasEK P w K mg base "BadNumber" "value" .ve) (h_exc_BadSample : HasE P w K mg base "BadSample" "index" .ve) (h_excK_BadSample : HasEK P w K mg base "BadSample" "index" .ve) (h_exc_BadSummary : HasE P w K mg base "BadSummary" "value" .ve) (h_excK_BadSummary : HasEK P w K mg base "BadSummary" "value" .ve) (h_exc_BadText : HasE P w K mg base "BadText" "value" .ve) (h_excK_BadText : HasEK P w K mg base "BadText" "value" .ve) (h_exc_BadName : HasE P w K mg base "BadName" "value" .ve) (h_excK_BadName : HasEK P w K mg base "BadName" "value" .ve) (h_exc_BadEdges : HasE P w K mg base "BadEdges" "index" .ve) (h_excK_BadEdges : HasEK P w K mg base "BadEdges" "index" .ve) (h_exc_BadPairs : HasE P w K mg base "BadPairs" "index" .ve) (h_excK_BadPairs : HasEK P w K mg base "BadPairs" "index" .ve) (h_exc_BadWeights : HasE P w K mg base "BadWeights" "index" .ve) (h_excK_BadWeights : HasEK P w K mg base "BadWeights" "index" .ve) (h_exc_NothingDone : HasE0 K mg "NothingDone" .le) (h_exc_Outside : HasE P w K mg base "Outside" "value" .le) (h_excK_Outside : HasEK P w K mg base "Outside" "value" .le) (h_exc_NotThere : HasE P w K mg base "NotThere" "item" .le) (h_excK_NotThere : HasEK P w K mg base "NotThere" "item" .le) (h_exc_TooFew : HasE P w K mg base "TooFew" "needed" .le) (h_excK_TooFew : HasEK P w K mg base "TooFew" "needed" .le) (h_exc_Empty : HasE0 K mg "Empty" .le) (h_exc_Unbounded : HasE0 K mg "Unbounded" .ae) (h_exc_Impossible : HasE0 K mg "Impossible" .ae) (h_exc_NotPositive : HasE P w K mg base "NotPositive" "index" .ae) (h_excK_NotPositive : HasEK P w K mg base "NotPositive" "index" .ae) (h_exc_NoSpread : HasE0 K mg "NoSpread" .ae) (h_exc_DividedByZero : HasE0 K mg "DividedByZero" .ae) (h_exc_TooMany : HasE P w K mg base "TooMany" "most" .ae) (h_excK_TooMany : HasEK P w K mg base "TooMany" "most" .ae) {f : Addr} {fd : FuncData} (F : FunD K "_law_named" "_law_named" (defArgs s_w_named) (defBody s_w_named) (defScope s_w_named) [] [] f fd) : FJ P w K mg base CR 3 f fd ["_law_thing"] (runBody 2 d_w_named) :=
  jf_fn F sc_w_named fun cdv A outer s H E' Nn hr => by
    have nd := sc_w_named.nd
    have hu := hr.units
    exact (js_cons (js_set (i := 1) nd (j_lst (ja_cons (j_excK (k := 0) h_excK_BadNumber (hr.mono (by decide)) (jk_cons (jv 0) jk_nil)) (ja_cons (j_excK (k := 0) h_excK_BadShare (hr.mono (by decide)) (jk_cons (jv 0) jk_nil)) (ja_cons (j_excK (k := 0) h_excK_BadRule (hr.mono (by decide)) (jk_cons (jv 0) jk_nil)) (ja_cons (j_excK (k := 0) h_excK_BadAmount (hr.mono (by decide)) (jk_cons (jv 0) jk_nil)) ja_nil)))))) (js_cons (js_set (i := 1) nd (j_bin o_add (jv 1) (j_lst (ja_cons (j_excK (k := 0) h_excK_BadName (hr.mono (by decide)) (jk_cons (jv 0) jk_nil)) (ja_cons (j_excK (k := 0) h_excK_BadText (hr.mono (by decide)) (jk_cons (jv 0) jk_nil)) (ja_cons (j_excK (k := 0) h_excK_BadSummary (hr.mono (by decide)) (jk_cons (jv 0) jk_nil)) (ja_cons (j_excK (k := 0) h_excK_BadSample (hr.mono (by decide)) (jk_cons (jv 0) jk_nil)) ja_nil))))))) (js_cons (js_set (i := 1) nd (j_bin o_add (jv 1) (j_lst (ja_cons (j_excK (k := 0) h_excK_BadWeights (hr.mono (by decide)) (jk_cons (jv 0) jk_nil)) (ja_cons (j_excK (k := 0) h_excK_BadPairs (hr.mono (by decide)) (jk_cons (jv 0) jk_nil)) (ja_cons (j_excK (k := 0) h_excK_BadEdges (hr.mono (by decide)) (jk_cons (jv 0) jk_nil)) ja_nil)))))) (js_cons (js_set (i := 1) nd (j_bin o_add (jv 1) (j_lst (ja_cons (j_exc0 h_exc_Empty) (ja_cons (j_excK (k := 0) h_excK_TooFew (hr.mono (by decide)) (jk_cons (jv 0) jk_nil)) (ja_cons (j_excK (k := 0) h_excK_NotThere (hr.mono (by decide)) (jk_cons (jv 0) jk_nil)) (ja_cons (j_excK (k := 0) h_excK_Outside (hr.mono (by decide)) (jk_cons (jv 0) jk_nil)) (ja_cons (j_exc0 h_exc_NothingDone) ja_nil)))))))) (js_cons (js_set (i := 1) nd (j_bin o_add (jv 1) (j_lst (ja_cons (j_exc0 h_exc_DividedByZero) (ja_cons (j_exc0 h_exc_NoSpread) (ja_cons (j_excK (k := 0) h_excK_NotPositive (hr.mono (by decide)) (jk_cons (jv 0) jk_nil)) (ja_cons (j_exc0 h_exc_Impossible) (ja_cons (j_exc0 h_exc_Unbounded) ja_nil)))))))) (js_one (js_ret (j_bin o_add (jv 1) (j_lst (ja_cons (j_excK (k := 0) h_excK_TooMany (hr.mono (by decide)) (jk_cons (jv 0) jk_nil)) ja_nil))))))))))
theorem sc_w_made : FnScope ["_law_thing", "_law_found"] ["_law_thing"] (defScope s_w_made) := ⟨rfl, rfl, rfl, by decide +kernel, rfl, by decide +kernel, by decide +kernel⟩
theorem ok_w_made (E : Fs K mg CR) (h_exc_BadText : HasE P w K mg base "BadText" "value" .ve) (h_exc_BadName : HasE P w K mg base "BadName" "value" .ve) (h_exc_BadAmount : HasE P w K mg base "BadAmount" "value" .ve) (h_exc_BadRule : HasE P w K mg base "BadRule" "value" .ve) (h_exc_BadShare : HasE P w K mg base "BadShare" "value" .ve) (h_exc_BadNumber : HasE P w K mg base "BadNumber" "value" .ve) (h_exc_BadEdges : HasE P w K mg base "BadEdges" "index" .ve) (h_exc_BadPairs : HasE P w K mg base "BadPairs" "index" .ve) (h_exc_BadWeights : HasE P w K mg base "BadWeights" "index" .ve) (h_exc_BadSample : HasE P w K mg base "BadSample" "index" .ve) (h_exc_BadSummary : HasE P w K mg base "BadSummary" "value" .ve) (h_exc_NothingDone : HasE0 K mg "NothingDone" .le) (h_exc_Outside : HasE P w K mg base "Outside" "value" .le) (h_exc_NotThere : HasE P w K mg base "NotThere" "item" .le) (h_exc_TooFew : HasE P w K mg base "TooFew" "needed" .le) (h_exc_Empty : HasE0 K mg "Empty" .le) (h_exc_TooMany : HasE P w K mg base "TooMany" "most" .ae) (h_exc_Unbounded : HasE0 K mg "Unbounded" .ae) (h_exc_Impossible : HasE0 K mg "Impossible" .ae) (h_exc_NotPositive : HasE P w K mg base "NotPositive" "index" .ae) (h_exc_NoSpread : HasE0 K mg "NoSpread" .ae) (h_exc_DividedByZero : HasE0 K mg "DividedByZero" .ae) {f : Addr} {fd : FuncData} (F : FunD K "_law_made" "_law_made" (defArgs s_w_made) (defBody s_w_made) (defScope s_w_made) [] [] f fd) : FJ P w K mg base CR 3 f fd ["_law_thing"] (runBody 2 d_w_made) :=
  jf_fn F sc_w_made fun cdv A outer s H E' Nn hr => by
    have nd := sc_w_made.nd
    have hu := hr.units
    exact (js_cons (js_set (i := 1) nd (j_lst (ja_cons (j_excP (k := 0) h_exc_BadNumber (hr.mono (by decide)) (jv 0)) (ja_cons (j_excP (k := 0) h_exc_BadShare (hr.mono (by decide)) (jv 0)) (ja_cons (j_excP (k := 0) h_exc_BadRule (hr.mono (by decide)) (jv 0)) (ja_cons (j_excP (k := 0) h_exc_BadAmount (hr.mono (by decide)) (jv 0)) (ja_cons (j_excP (k := 0) h_exc_BadName (hr.mono (by decide)) (jv 0)) (ja_cons (j_excP (k := 0) h_exc_BadText (hr.mono (by decide)) (jv 0)) ja_nil)))))))) (js_cons (js_set (i := 1) nd (j_bin o_add (jv 1) (j_lst (ja_cons (j_excP (k := 0) h_exc_BadSummary (hr.mono (by decide)) (jv 0)) (ja_cons (j_excP (k := 0) h_exc_BadSample (hr.mono (by decide)) (jv 0)) (ja_cons (j_excP (k := 0) h_exc_BadWeights (hr.mono (by decide)) (jv 0)) (ja_cons (j_excP (k := 0) h_exc_BadPairs (hr.mono (by decide)) (jv 0)) (ja_cons (j_excP (k := 0) h_exc_BadEdges (hr.mono (by decide)) (jv 0)) ja_nil)))))))) (js_cons (js_set (i := 1) nd (j_bin o_add (jv 1) (j_lst (ja_cons (j_exc0 h_exc_Empty) (ja_cons (j_excP (k := 0) h_exc_TooFew (hr.mono (by decide)) (jv 0)) (ja_cons (j_excP (k := 0) h_exc_NotThere (hr.mono (by decide)) (jv 0)) (ja_cons (j_excP (k := 0) h_exc_Outside (hr.mono (by decide)) (jv 0)) (ja_cons (j_exc0 h_exc_NothingDone) ja_nil)))))))) (js_one (js_ret (j_bin o_add (jv 1) (j_lst (ja_cons (j_exc0 h_exc_DividedByZero) (ja_cons (j_exc0 h_exc_NoSpread) (ja_cons (j_excP (k := 0) h_exc_NotPositive (hr.mono (by decide)) (jv 0)) (ja_cons (j_exc0 h_exc_Impossible) (ja_cons (j_exc0 h_exc_Unbounded) (ja_cons (j_excP (k := 0) h_exc_TooMany (hr.mono (by decide)) (jv 0)) ja_nil)))))))))))))
theorem sc_w_fields : FnScope ["_law_some", "_law_found", "_law_error"] ["_law_some"] (defScope s_w_fields) := ⟨rfl, rfl, rfl, by decide +kernel, rfl, by decide +kernel, by decide +kernel⟩
theorem ok_w_fields (E : Fs K mg CR) (h_ef_value : HasEF K ["BadNumber", "BadShare", "BadRule", "BadAmount", "BadName", "BadText", "BadSummary", "Outside"] "value") (h_ef_index : HasEF K ["BadSample", "BadWeights", "BadPairs", "BadEdges", "NotPositive"] "index") (h_ef_most : HasEF K ["TooMany"] "most") (h_ef_item : HasEF K ["NotThere"] "item") (h_ef_needed : HasEF K ["TooFew"] "needed") {f : Addr} {fd : FuncData} (F : FunD K "_law_fields" "_law_fields" (defArgs s_w_fields) (defBody s_w_fields) (defScope s_w_fields) [] [] f fd) : FJ P w K mg base CR 1 f fd ["_law_some"] (runBody 3 d_w_fields) :=
  jf_fn F sc_w_fields fun cdv A outer s H E' Nn hr => by
    have nd := sc_w_fields.nd
    have hu := hr.units
    exact (js_cons (js_set (i := 1) nd (j_bin o_add (j_ofF (jf_comp rfl nd (ji_seq (o_slice (jv 0) jo_none (jo_some j_int))) (own := [("_law_error", 2)]) (blkOk_by (by kernel_rfl)) (fun _ _ _ _ _ _ => (jg_name 2 nd)) (fun _ _ _ _ _ _ => jts_nil) (fun _ _ _ _ _ _ => (j_efld h_ef_value (jv 2))))) (j_ofF (jf_comp rfl nd (ji_seq (o_slice (jv 0) (jo_some j_int) (jo_some j_int))) (own := [("_law_error", 2)]) (blkOk_by (by kernel_rfl)) (fun _ _ _ _ _ _ => (jg_name 2 nd)) (fun _ _ _ _ _ _ => jts_nil) (fun _ _ _ _ _ _ => (j_efld h_ef_index (jv 2))))))) (js_one (js_ret (j_bin o_add (jv 1) (j_lst (ja_cons (j_efld h_ef_needed (j_ix (jv 0) j_int)) (ja_cons (j_efld h_ef_item (j_ix (jv 0) j_int)) (ja_cons (j_efld h_ef_value (j_ix (jv 0) j_int)) (ja_cons (j_efld h_ef_index (j_ix (jv 0) j_int)) (ja_cons (j_efld h_ef_most (j_ix (jv 0) j_int)) ja_nil))))))))))
theorem sc_w_marks : FnScope ["_law_error", "_law_found"] ["_law_error"] (defScope s_w_marks) := ⟨rfl, rfl, rfl, by decide +kernel, rfl, by decide +kernel, by decide +kernel⟩
theorem ok_w_marks (E : Fs K mg CR) (h_isx_BadRule : HasIX K mg ["BadRule"] ["BadInput", "Absent", "Undefined", "BadNumber", "BadSample", "BadWeights", "BadPairs", "BadShare", "BadRule", "BadAmount", "BadEdges", "BadName", "BadText", "BadSummary", "Empty", "TooFew", "NotThere", "Outside", "NothingDone", "DividedByZero", "NoSpread", "NotPositive", "Impossible", "Unbounded", "TooMany"] ["BadRule"]) (h_isx_BadShare : HasIX K mg ["BadShare"] ["BadInput", "Absent", "Undefined", "BadNumber", "BadSample", "BadWeights", "BadPairs", "BadShare", "BadRule", "BadAmount", "BadEdges", "BadName", "BadText", "BadSummary", "Empty", "TooFew", "NotThere", "Outside", "NothingDone", "DividedByZero", "NoSpread", "NotPositive", "Impossible", "Unbounded", "TooMany"] ["BadShare"]) (h_isx_BadNumber : HasIX K mg ["BadNumber"] ["BadInput", "Absent", "Undefined", "BadNumber", "BadSample", "BadWeights", "BadPairs", "BadShare", "BadRule", "BadAmount", "BadEdges", "BadName", "BadText", "BadSummary", "Empty", "TooFew", "NotThere", "Outside", "NothingDone", "DividedByZero", "NoSpread", "NotPositive", "Impossible", "Unbounded", "TooMany"] ["BadNumber"]) (h_isx_BadText : HasIX K mg ["BadText"] ["BadInput", "Absent", "Undefined", "BadNumber", "BadSample", "BadWeights", "BadPairs", "BadShare", "BadRule", "BadAmount", "BadEdges", "BadName", "BadText", "BadSummary", "Empty", "TooFew", "NotThere", "Outside", "NothingDone", "DividedByZero", "NoSpread", "NotPositive", "Impossible", "Unbounded", "TooMany"] ["BadText"]) (h_isx_BadName : HasIX K mg ["BadName"] ["BadInput", "Absent", "Undefined", "BadNumber", "BadSample", "BadWeights", "BadPairs", "BadShare", "BadRule", "BadAmount", "BadEdges", "BadName", "BadText", "BadSummary", "Empty", "TooFew", "NotThere", "Outside", "NothingDone", "DividedByZero", "NoSpread", "NotPositive", "Impossible", "Unbounded", "TooMany"] ["BadName"]) (h_isx_BadAmount : HasIX K mg ["BadAmount"] ["BadInput", "Absent", "Undefined", "BadNumber", "BadSample", "BadWeights", "BadPairs", "BadShare", "BadRule", "BadAmount", "BadEdges", "BadName", "BadText", "BadSummary", "Empty", "TooFew", "NotThere", "Outside", "NothingDone", "DividedByZero", "NoSpread", "NotPositive", "Impossible", "Unbounded", "TooMany"] ["BadAmount"]) (h_isx_BadWeights : HasIX K mg ["BadWeights"] ["BadInput", "Absent", "Undefined", "BadNumber", "BadSample", "BadWeights", "BadPairs", "BadShare", "BadRule", "BadAmount", "BadEdges", "BadName", "BadText", "BadSummary", "Empty", "TooFew", "NotThere", "Outside", "NothingDone", "DividedByZero", "NoSpread", "NotPositive", "Impossible", "Unbounded", "TooMany"] ["BadWeights"]) (h_isx_BadSample : HasIX K mg ["BadSample"] ["BadInput", "Absent", "Undefined", "BadNumber", "BadSample", "BadWeights", "BadPairs", "BadShare", "BadRule", "BadAmount", "BadEdges", "BadName", "BadText", "BadSummary", "Empty", "TooFew", "NotThere", "Outside", "NothingDone", "DividedByZero", "NoSpread", "NotPositive", "Impossible", "Unbounded", "TooMany"] ["BadSample"]) (h_isx_BadSummary : HasIX K mg ["BadSummary"] ["BadInput", "Absent", "Undefined", "BadNumber", "BadSample", "BadWeights", "BadPairs", "BadShare", "BadRule", "BadAmount", "BadEdges", "BadName", "BadText", "BadSummary", "Empty", "TooFew", "NotThere", "Outside", "NothingDone", "DividedByZero", "NoSpread", "NotPositive", "Impossible", "Unbounded", "TooMany"] ["BadSummary"]) (h_isx_Empty : HasIX K mg ["Empty"] ["BadInput", "Absent", "Undefined", "BadNumber", "BadSample", "BadWeights", "BadPairs", "BadShare", "BadRule", "BadAmount", "BadEdges", "BadName", "BadText", "BadSummary", "Empty", "TooFew", "NotThere", "Outside", "NothingDone", "DividedByZero", "NoSpread", "NotPositive", "Impossible", "Unbounded", "TooMany"] ["Empty"]) (h_isx_BadEdges : HasIX K mg ["BadEdges"] ["BadInput", "Absent", "Undefined", "BadNumber", "BadSample", "BadWeights", "BadPairs", "BadShare", "BadRule", "BadAmount", "BadEdges", "BadName", "BadText", "BadSummary", "Empty", "TooFew", "NotThere", "Outside", "NothingDone", "DividedByZero", "NoSpread", "NotPositive", "Impossible", "Unbounded", "TooMany"] ["BadEdges"]) (h_isx_BadPairs : HasIX K mg ["BadPairs"] ["BadInput", "Absent", "Undefined", "BadNumber", "BadSample", "BadWeights", "BadPairs", "BadShare", "BadRule", "BadAmount", "BadEdges", "BadName", "BadText", "BadSummary", "Empty", "TooFew", "NotThere", "Outside", "NothingDone", "DividedByZero", "NoSpread", "NotPositive", "Impossible", "Unbounded", "TooMany"] ["BadPairs"]) (h_isx_Outside : HasIX K mg ["Outside"] ["BadInput", "Absent", "Undefined", "BadNumber", "BadSample", "BadWeights", "BadPairs", "BadShare", "BadRule", "BadAmount", "BadEdges", "BadName", "BadText", "BadSummary", "Empty", "TooFew", "NotThere", "Outside", "NothingDone", "DividedByZero", "NoSpread", "NotPositive", "Impossible", "Unbounded", "TooMany"] ["Outside"]) (h_isx_NotThere : HasIX K mg ["NotThere"] ["BadInput", "Absent", "Undefined", "BadNumber", "BadSample", "BadWeights", "BadPairs", "BadShare", "BadRule", "BadAmount", "BadEdges", "BadName", "BadText", "BadSummary", "Empty", "TooFew", "NotThere", "Outside", "NothingDone", "DividedByZero", "NoSpread", "NotPositive", "Impossible", "Unbounded", "TooMany"] ["NotThere"]) (h_isx_TooFew : HasIX K mg ["TooFew"] ["BadInput", "Absent", "Undefined", "BadNumber", "BadSample", "BadWeights", "BadPairs", "BadShare", "BadRule", "BadAmount", "BadEdges", "BadName", "BadText", "BadSummary", "Empty", "TooFew", "NotThere", "Outside", "NothingDone", "DividedByZero", "NoSpread", "NotPositive", "Impossible", "Unbounded", "TooMany"] ["TooFew"]) (h_isx_NoSpread : HasIX K mg ["NoSpread"] ["BadInput", "Absent", "Undefined", "BadNumber", "BadSample", "BadWeights", "BadPairs", "BadShare", "BadRule", "BadAmount", "BadEdges", "BadName", "BadText", "BadSummary", "Empty", "TooFew", "NotThere", "Outside", "NothingDone", "DividedByZero", "NoSpread", "NotPositive", "Impossible", "Unbounded", "TooMany"] ["NoSpread"]) (h_isx_DividedByZero : HasIX K mg ["DividedByZero"] ["BadInput", "Absent", "Undefined", "BadNumber", "BadSample", "BadWeights", "BadPairs", "BadShare", "BadRule", "BadAmount", "BadEdges", "BadName", "BadText", "BadSummary", "Empty", "TooFew", "NotThere", "Outside", "NothingDone", "DividedByZero", "NoSpread", "NotPositive", "Impossible", "Unbounded", "TooMany"] ["DividedByZero"]) (h_isx_NothingDone : HasIX K mg ["NothingDone"] ["BadInput", "Absent", "Undefined", "BadNumber", "BadSample", "BadWeights", "BadPairs", "BadShare", "BadRule", "BadAmount", "BadEdges", "BadName", "BadText", "BadSummary", "Empty", "TooFew", "NotThere", "Outside", "NothingDone", "DividedByZero", "NoSpread", "NotPositive", "Impossible", "Unbounded", "TooMany"] ["NothingDone"]) (h_isx_Unbounded : HasIX K mg ["Unbounded"] ["BadInput", "Absent", "Undefined", "BadNumber", "BadSample", "BadWeights", "BadPairs", "BadShare", "BadRule", "BadAmount", "BadEdges", "BadName", "BadText", "BadSummary", "Empty", "TooFew", "NotThere", "Outside", "NothingDone", "DividedByZero", "NoSpread", "NotPositive", "Impossible", "Unbounded", "TooMany"] ["Unbounded"]) (h_isx_Impossible : HasIX K mg ["Impossible"] ["BadInput", "Absent", "Undefined", "BadNumber", "BadSample", "BadWeights", "BadPairs", "BadShare", "BadRule", "BadAmount", "BadEdges", "BadName", "BadText", "BadSummary", "Empty", "TooFew", "NotThere", "Outside", "NothingDone", "DividedByZero", "NoSpread", "NotPositive", "Impossible", "Unbounded", "TooMany"] ["Impossible"]) (h_isx_NotPositive : HasIX K mg ["NotPositive"] ["BadInput", "Absent", "Undefined", "BadNumber", "BadSample", "BadWeights", "BadPairs", "BadShare", "BadRule", "BadAmount", "BadEdges", "BadName", "BadText", "BadSummary", "Empty", "TooFew", "NotThere", "Outside", "NothingDone", "DividedByZero", "NoSpread", "NotPositive", "Impossible", "Unbounded", "TooMany"] ["NotPositive"]) (h_isx_TooMany : HasIX K mg ["TooMany"] ["BadInput", "Absent", "Undefined", "BadNumber", "BadSample", "BadWeights", "BadPairs", "BadShare", "BadRule", "BadAmount", "BadEdges", "BadName", "BadText", "BadSummary", "Empty", "TooFew", "NotThere", "Outside", "NothingDone", "DividedByZero", "NoSpread", "NotPositive", "Impossible", "Unbounded", "TooMany"] ["TooMany"]) {f : Addr} {fd : FuncData} (F : FunD K "_law_marks" "_law_marks" (defArgs s_w_marks) (defBody s_w_marks) (defScope s_w_marks) [] [] f fd) : FJ P w K mg base CR 1 f fd ["_law_error"] (runBody 2 d_w_marks) :=
  jf_fn F sc_w_marks fun cdv A outer s H E' Nn hr => by
    have nd := sc_w_marks.nd
    have hu := hr.units
    exact (js_cons (js_set (i := 1) nd (j_lst (ja_cons (j_isX1 h_isx_BadNumber E.n_isinstance (jv 0)) (ja_cons (j_isX1 h_isx_BadShare E.n_isinstance (jv 0)) (ja_cons (j_isX1 h_isx_BadRule E.n_isinstance (jv 0)) ja_nil))))) (js_cons (js_set (i := 1) nd (j_bin o_add (jv 1) (j_lst (ja_cons (j_isX1 h_isx_BadAmount E.n_isinstance (jv 0)) (ja_cons (j_isX1 h_isx_BadName E.n_isinstance (jv 0)) (ja_cons (j_isX1 h_isx_BadText E.n_isinstance (jv 0)) ja_nil)))))) (js_cons (js_set (i := 1) nd (j_bin o_add (jv 1) (j_lst (ja_cons (j_isX1 h_isx_BadSummary E.n_isinstance (jv 0)) (ja_cons (j_isX1 h_isx_BadSample E.n_isinstance (jv 0)) (ja_cons (j_isX1 h_isx_BadWeights E.n_isinstance (jv 0)) ja_nil)))))) (js_cons (js_set (i := 1) nd (j_bin o_add (jv 1) (j_lst (ja_cons (j_isX1 h_isx_BadPairs E.n_isinstance (jv 0)) (ja_cons (j_isX1 h_isx_BadEdges E.n_isinstance (jv 0)) (ja_cons (j_isX1 h_isx_Empty E.n_isinstance (jv 0)) ja_nil)))))) (js_cons (js_set (i := 1) nd (j_bin o_add (jv 1) (j_lst (ja_cons (j_isX1 h_isx_TooFew E.n_isinstance (jv 0)) (ja_cons (j_isX1 h_isx_NotThere E.n_isinstance (jv 0)) (ja_cons (j_isX1 h_isx_Outside E.n_isinstance (jv 0)) ja_nil)))))) (js_cons (js_set (i := 1) nd (j_bin o_add (jv 1) (j_lst (ja_cons (j_isX1 h_isx_NothingDone E.n_isinstance (jv 0)) (ja_cons (j_isX1 h_isx_DividedByZero E.n_isinstance (jv 0)) (ja_cons (j_isX1 h_isx_NoSpread E.n_isinstance (jv 0)) ja_nil)))))) (js_cons (js_set (i := 1) nd (j_bin o_add (jv 1) (j_lst (ja_cons (j_isX1 h_isx_NotPositive E.n_isinstance (jv 0)) (ja_cons (j_isX1 h_isx_Impossible E.n_isinstance (jv 0)) (ja_cons (j_isX1 h_isx_Unbounded E.n_isinstance (jv 0)) ja_nil)))))) (js_one (js_ret (j_bin o_add (jv 1) (j_lst (ja_cons (j_isX1 h_isx_TooMany E.n_isinstance (jv 0)) ja_nil))))))))))))
theorem sc_w_families : FnScope ["_law_error", "_law_found"] ["_law_error"] (defScope s_w_families) := ⟨rfl, rfl, rfl, by decide +kernel, rfl, by decide +kernel, by decide +kernel⟩
theorem ok_w_families (E : Fs K mg CR) (h_isx_Undefined : HasIX K mg ["Undefined"] ["BadInput", "Absent", "Undefined", "BadNumber", "BadSample", "BadWeights", "BadPairs", "BadShare", "BadRule", "BadAmount", "BadEdges", "BadName", "BadText", "BadSummary", "Empty", "TooFew", "NotThere", "Outside", "NothingDone", "DividedByZero", "NoSpread", "NotPositive", "Impossible", "Unbounded", "TooMany"] ["Undefined", "DividedByZero", "NoSpread", "NotPositive", "Impossible", "Unbounded", "TooMany"]) (h_isx_Absent : HasIX K mg ["Absent"] ["BadInput", "Absent", "Undefined", "BadNumber", "BadSample", "BadWeights", "BadPairs", "BadShare", "BadRule", "BadAmount", "BadEdges", "BadName", "BadText", "BadSummary", "Empty", "TooFew", "NotThere", "Outside", "NothingDone", "DividedByZero", "NoSpread", "NotPositive", "Impossible", "Unbounded", "TooMany"] ["Absent", "Empty", "TooFew", "NotThere", "Outside", "NothingDone"]) (h_isx_BadInput : HasIX K mg ["BadInput"] ["BadInput", "Absent", "Undefined", "BadNumber", "BadSample", "BadWeights", "BadPairs", "BadShare", "BadRule", "BadAmount", "BadEdges", "BadName", "BadText", "BadSummary", "Empty", "TooFew", "NotThere", "Outside", "NothingDone", "DividedByZero", "NoSpread", "NotPositive", "Impossible", "Unbounded", "TooMany"] ["BadInput", "BadNumber", "BadSample", "BadWeights", "BadPairs", "BadShare", "BadRule", "BadAmount", "BadEdges", "BadName", "BadText", "BadSummary"]) (h_isb_ArithmeticError : HasIB K mg "ArithmeticError" ["BadInput", "Absent", "Undefined", "BadNumber", "BadSample", "BadWeights", "BadPairs", "BadShare", "BadRule", "BadAmount", "BadEdges", "BadName", "BadText", "BadSummary", "Empty", "TooFew", "NotThere", "Outside", "NothingDone", "DividedByZero", "NoSpread", "NotPositive", "Impossible", "Unbounded", "TooMany"] ["Undefined", "DividedByZero", "NoSpread", "NotPositive", "Impossible", "Unbounded", "TooMany"]) (h_isb_LookupError : HasIB K mg "LookupError" ["BadInput", "Absent", "Undefined", "BadNumber", "BadSample", "BadWeights", "BadPairs", "BadShare", "BadRule", "BadAmount", "BadEdges", "BadName", "BadText", "BadSummary", "Empty", "TooFew", "NotThere", "Outside", "NothingDone", "DividedByZero", "NoSpread", "NotPositive", "Impossible", "Unbounded", "TooMany"] ["Absent", "Empty", "TooFew", "NotThere", "Outside", "NothingDone"]) (h_isb_ValueError : HasIB K mg "ValueError" ["BadInput", "Absent", "Undefined", "BadNumber", "BadSample", "BadWeights", "BadPairs", "BadShare", "BadRule", "BadAmount", "BadEdges", "BadName", "BadText", "BadSummary", "Empty", "TooFew", "NotThere", "Outside", "NothingDone", "DividedByZero", "NoSpread", "NotPositive", "Impossible", "Unbounded", "TooMany"] ["BadInput", "BadNumber", "BadSample", "BadWeights", "BadPairs", "BadShare", "BadRule", "BadAmount", "BadEdges", "BadName", "BadText", "BadSummary"]) {f : Addr} {fd : FuncData} (F : FunD K "_law_families" "_law_families" (defArgs s_w_families) (defBody s_w_families) (defScope s_w_families) [] [] f fd) : FJ P w K mg base CR 1 f fd ["_law_error"] (runBody 2 d_w_families) :=
  jf_fn F sc_w_families fun cdv A outer s H E' Nn hr => by
    have nd := sc_w_families.nd
    have hu := hr.units
    exact (js_cons (js_set (i := 1) nd (j_lst (ja_cons (j_isX1 h_isx_BadInput E.n_isinstance (jv 0)) (ja_cons (j_isX1 h_isx_Absent E.n_isinstance (jv 0)) (ja_cons (j_isX1 h_isx_Undefined E.n_isinstance (jv 0)) ja_nil))))) (js_one (js_ret (j_bin o_add (jv 1) (j_lst (ja_cons (j_isB h_isb_ValueError E.n_ValueError (by decide +kernel) E.n_isinstance (jv 0)) (ja_cons (j_isB h_isb_LookupError E.n_LookupError (by decide +kernel) E.n_isinstance (jv 0)) (ja_cons (j_isB h_isb_ArithmeticError E.n_ArithmeticError (by decide +kernel) E.n_isinstance (jv 0)) ja_nil))))))))
theorem sc_law : FnScope ["_law_script", "_law_k", "_law_box", "_law_some", "_law_plain", "_law_source_here", "_law_thing", "_law_spot", "_law_error", "_law_part", "_law_n"] ["_law_script"] (defScope s_law) := ⟨rfl, rfl, rfl, by decide +kernel, rfl, by decide +kernel, by decide +kernel⟩
theorem ok_law (E : Fs K mg CR) (h_sys : SysIn K) (h_exc_NotPositive : HasE P w K mg base "NotPositive" "index" .ae) (h_excD_NotPositive : HasED P w K mg base "NotPositive" "index" .ae) (h_ef_index : HasEF K ["BadSample", "BadWeights", "BadPairs", "BadEdges", "NotPositive"] "index") (h_exc_BadEdges : HasE P w K mg base "BadEdges" "index" .ve) (h_excD_BadEdges : HasED P w K mg base "BadEdges" "index" .ve) (h_exc_BadPairs : HasE P w K mg base "BadPairs" "index" .ve) (h_excD_BadPairs : HasED P w K mg base "BadPairs" "index" .ve) (h_exc_BadWeights : HasE P w K mg base "BadWeights" "index" .ve) (h_excD_BadWeights : HasED P w K mg base "BadWeights" "index" .ve) (h_exc_BadSample : HasE P w K mg base "BadSample" "index" .ve) (h_excD_BadSample : HasED P w K mg base "BadSample" "index" .ve) (h_w_source : Has P w K mg base CR "_law_source" 1 ["_law_script", "_law_k"] F_w_source) (h_w_pick : Has P w K mg base CR "_law_pick" 2 ["_law_source_here", "_law_items"] F_w_pick) (h_w_named : Has P w K mg base CR "_law_named" 3 ["_law_thing"] F_w_named) (h_w_made : Has P w K mg base CR "_law_made" 3 ["_law_thing"] F_w_made) (h_w_fields : Has P w K mg base CR "_law_fields" 1 ["_law_some"] F_w_fields) (h_w_marks : Has P w K mg base CR "_law_marks" 1 ["_law_error"] F_w_marks) (h_w_families : Has P w K mg base CR "_law_families" 1 ["_law_error"] F_w_families) {f : Addr} {fd : FuncData} (F : FunD K "law" "law" (defArgs s_law) (defBody s_law) (defScope s_law) [] [] f fd) : FJ P w K mg base CR 4 f fd ["_law_script"] (runBody 11 d_law_k01) :=
  jf_fn F sc_law fun cdv A outer s H E' Nn hr => by
    have nd := sc_law.nd
    have hu := hr.units
    exact (js_cons (js_for (passes_of rfl) rfl (ji_range1 (ja_cons (j_callB (c_max2 rfl) rfl E.n_max (by decide +kernel) (ja_cons j_int (ja_cons (j_callB (c_min2 rfl) rfl E.n_min (by decide +kernel) (ja_cons j_int (ja_cons (j_callB c_len rfl E.n_len (by decide +kernel) (ja_cons (jv 0) ja_nil)) ja_nil))) ja_nil))) ja_nil) E.n_range) (jg_name 1 nd) (js_cons (js_set (i := 5) nd (j_callH h_w_source (hr.mono (by decide)) (takes_of rfl rfl rfl (E₁ := _) rfl) (ja_cons (jv 0) (ja_cons (jv 1) ja_nil)))) (js_cons (js_set (i := 6) nd (j_callH h_w_pick (hr.mono (by decide)) (takes_of rfl rfl rfl (E₁ := _) rfl) (ja_cons (jv 5) (ja_cons (j_lst (ja_cons j_non (ja_cons j_int (ja_cons j_str (ja_cons (j_tup (ja_cons j_str (ja_cons j_int ja_nil))) (ja_cons (j_lst (ja_cons j_str ja_nil)) (ja_cons (j_disp (ks := [.inr "c"]) (jp_cons pe_str (fun _ => j_int) jp_nil)) (ja_cons j_bl (ja_cons j_str (ja_cons (j_bin o_pow j_int j_int) (ja_cons (j_un u_negI j_int) ja_nil))))))))))) ja_nil)))) (js_one (js_for (passes_of rfl) rfl (ji_seq (j_tup (ja_cons (j_callH h_w_made (hr.mono (by decide)) (takes_of rfl rfl rfl (E₁ := _) rfl) (ja_cons (jv 6) ja_nil)) (ja_cons (j_callH h_w_named (hr.mono (by decide)) (takes_of rfl rfl rfl (E₁ := _) rfl) (ja_cons (jv 6) ja_nil)) ja_nil)))) (jg_name 3 nd) (js_cons (js_if (jt_cmp (o_neA hu) (j_callB (c_reprW hr h_sys) rfl E.n_repr (by decide +kernel) (ja_cons (j_callH h_w_fields (hr.mono (by decide)) (takes_of rfl rfl rfl (E₁ := _) rfl) (ja_cons (jv 3) ja_nil)) ja_nil)) (j_callB (c_reprW hr h_sys) rfl E.n_repr (by decide +kernel) (ja_cons (j_bin o_mul (j_lst (ja_cons (jv 6) ja_nil)) j_int) ja_nil))) (js_one (js_ret j_bl)) js_nil) (js_one (js_for (passes_of rfl) rfl (ji_enumA (ja_cons (jv 3) ja_nil) E.n_enumerate) (jg_tup rfl (jgs_cons (jg_name 7 nd) (jgs_cons (jg_name 8 nd) jgs_nil))) (js_cons (js_if (jt_cmp (o_neA hu) (j_callH h_w_marks (hr.mono (by decide)) (takes_of rfl rfl rfl (E₁ := _) rfl) (ja_cons (jv 8) ja_nil)) (j_ofF (jf_comp rfl nd (ji_range1 (ja_cons j_int ja_nil) E.n_range) (own := [("_law_n", 10)]) (blkOk_by (by kernel_rfl)) (fun _ _ _ _ _ _ => (jg_name 10 nd)) (fun _ _ _ _ _ _ => jts_nil) (fun _ _ _ _ _ _ => (j_cmp (OJ.eqB hu (o_eqA hu)) (jv 10) (jv 7)))))) (js_one (js_ret j_bl)) js_nil) (js_cons (js_set (i := 9) nd (j_if (jt_cmp o_ltI (jv 7) j_int) j_int (j_if (jt_cmp o_ltI (jv 7) j_int) j_int j_int))) (js_one (js_if (jt_cmp (o_neA hu) (j_callH h_w_families (hr.mono (by decide)) (takes_of rfl rfl rfl (E₁ := _) rfl) (ja_cons (jv 8) ja_nil)) (j_ofF (jf_comp rfl nd (ji_range1 (ja_cons j_int ja_nil) E.n_range) (own := [("_law_n", 10)]) (blkOk_by (by kernel_rfl)) (fun _ _ _ _ _ _ => (jg_name 10 nd)) (fun _ _ _ _ _ _ => jts_nil) (fun _ _ _ _ _ _ => (j_cmp (OJ.eqB hu (o_eqA hu)) (j_bin o_mod (jv 10) j_int) (jv 9)))))) (js_one (js_ret j_bl)) js_nil)))))))))))) (js_cons (js_set (i := 2) nd (j_new (jf_lst (ja_cons j_str ja_nil)))) (js_cons (js_set (i := 3) nd (j_callH h_w_made (hr.mono (by decide)) (takes_of rfl rfl rfl (E₁ := _) rfl) (ja_cons (jv 2) ja_nil))) (js_cons (js_expr (j_app (i := 2) j_str)) (js_cons (js_set (i := 4) nd (j_lst (ja_cons (j_efld h_ef_index (j_excD (k := 0) h_excD_BadSample (hr.mono (by decide)))) (ja_cons (j_efld h_ef_index (j_excD (k := 0) h_excD_BadWeights (hr.mono (by decide)))) (ja_cons (j_efld h_ef_index (j_excD (k := 0) h_excD_BadPairs (hr.mono (by decide)))) (ja_cons (j_efld h_ef_index (j_excD (k := 0) h_excD_BadEdges (hr.mono (by decide)))) (ja_cons (j_efld h_ef_index (j_excD (k := 0) h_excD_NotPositive (hr.mono (by decide)))) ja_nil))))))) (js_one (js_ret (j_and (j_cmp (OJ.eqB hu (o_eqA hu)) (j_callH h_w_fields (hr.mono (by decide)) (takes_of rfl rfl rfl (E₁ := _) rfl) (ja_cons (jv 3) ja_nil)) (j_bin o_mul (j_lst (ja_cons (j_lst (ja_cons j_str (ja_cons j_str ja_nil))) ja_nil)) j_int)) (j_one (j_cmp (OJ.eqB hu (o_eqA hu)) (jv 4) (j_bin o_mul (j_lst (ja_cons j_non ja_nil)) j_int)))))))))))
end
theorem facts {P : Program} {w : World} {K : PySem.W.Frag} {h : Heap} {mg : Str → Option Value} (X : K.In h) (G : h.Ns mainGlobals mg) (c : SaysX fa xs fn K) :
    mg "law" = some (.ref (He.ga K "law")) ∧ ∃ fd : FuncData, (∀ (s : Shared) (v : Value), BindsTo s fd ⟨[v], []⟩ [("_law_script", v)]) ∧ ∀ base : Heap, FJ P w K mg base (He.ga K "Ratio") 4 (He.ga K "law") fd ["_law_script"] F_law_k01 := by
  obtain ⟨fd_w_source, Q_w_source⟩ := c.def_ 0 (d := D_w_source) rfl
  obtain ⟨fd_w_next, Q_w_next⟩ := c.def_ 1 (d := D_w_next) rfl
  obtain ⟨fd_w_pick, Q_w_pick⟩ := c.def_ 2 (d := D_w_pick) rfl
  obtain ⟨fd_w_named, Q_w_named⟩ := c.def_ 3 (d := D_w_named) rfl
  obtain ⟨fd_w_made, Q_w_made⟩ := c.def_ 4 (d := D_w_made) rfl
  obtain ⟨fd_w_fields, Q_w_fields⟩ := c.def_ 5 (d := D_w_fields) rfl
  obtain ⟨fd_w_marks, Q_w_marks⟩ := c.def_ 6 (d := D_w_marks) rfl
  obtain ⟨fd_w_families, Q_w_families⟩ := c.def_ 7 (d := D_w_families) rfl
  obtain ⟨fd_law, Q_law⟩ := c.def_ 8 (d := D_law) rfl
  have E : Fs K mg (He.ga K "Ratio") := ⟨He.free_ok X G (c.fact 34 (f := .free "ArithmeticError") rfl), He.free_ok X G (c.fact 35 (f := .free "LookupError") rfl), He.free_ok X G (c.fact 36 (f := .free "ValueError") rfl), He.free_ok X G (c.fact 37 (f := .free "enumerate") rfl), He.free_ok X G (c.fact 38 (f := .free "isinstance") rfl), He.free_ok X G (c.fact 39 (f := .free "len") rfl), He.free_ok X G (c.fact 40 (f := .free "max") rfl), He.free_ok X G (c.fact 41 (f := .free "min") rfl), He.free_ok X G (c.fact 42 (f := .free "range") rfl), He.free_ok X G (c.fact 43 (f := .free "repr") rfl)⟩
  refine ⟨He.glo_ok X G (c.fact 8 (f := .glo "law") rfl), fd_law, fun s v => (FunD.bindsA (ps := ["_law_script"]) Q_law fun _ _ _ _ _ _ us hl => match us, hl with | [_], _ => rfl) s [v] rfl, fun base => ?_⟩
  obtain ⟨fd_BadAmount___init__, Q_BadAmount___init__⟩ := c.def_ 9 (d := D_BadAmount___init__) rfl
  have b_BadAmount___init__ : Binds K fd_BadAmount___init__ ["self", "value"] [] := (FunD.bindsN (ps := ["self", "value"]) Q_BadAmount___init__ fun _ _ _ _ _ _ us hl => match us, hl with | [_, _], _ => rfl)
  have h_exc_BadAmount : HasE P w K mg base "BadAmount" "value" .ve := hasE_of (He.glo_ok X G (c.fact 9 (f := .glo "BadAmount") rfl)) (c.chk 1 (x := oxB .ve "BadAmount" "value") rfl) Q_BadAmount___init__ b_BadAmount___init__ sc_BadAmount___init__ rfl
  have kk_BadAmount___init__ := FunD.kb3 (ps := ["self", "value"]) Q_BadAmount___init__ 1 ["value"] [(0, 0), (2, 0)] fun _ _ _ _ _ _ us ws hu hw => match us, ws, hu, hw with | [_], [_], _, _ => rfl
  have h_excK_BadAmount : HasEK P w K mg base "BadAmount" "value" .ve := hasEK_of (He.glo_ok X G (c.fact 9 (f := .glo "BadAmount") rfl)) (c.chk 1 (x := oxB .ve "BadAmount" "value") rfl) Q_BadAmount___init__ kk_BadAmount___init__ (fun _ _ => rfl) sc_BadAmount___init__ rfl
  obtain ⟨fd_BadRule___init__, Q_BadRule___init__⟩ := c.def_ 10 (d := D_BadRule___init__) rfl
  have b_BadRule___init__ : Binds K fd_BadRule___init__ ["self", "value"] [] := (FunD.bindsN (ps := ["self", "value"]) Q_BadRule___init__ fun _ _ _ _ _ _ us hl => match us, hl with | [_, _], _ => rfl)
  have h_exc_BadRule : HasE P w K mg base "BadRule" "value" .ve := hasE_of (He.glo_ok X G (c.fact 10 (f := .glo "BadRule") rfl)) (c.chk 2 (x := oxB .ve "BadRule" "value") rfl) Q_BadRule___init__ b_BadRule___init__ sc_BadRule___init__ rfl
  have kk_BadRule___init__ := FunD.kb3 (ps := ["self", "value"]) Q_BadRule___init__ 1 ["value"] [(0, 0), (2, 0)] fun _ _ _ _ _ _ us ws hu hw => match us, ws, hu, hw with | [_], [_], _, _ => rfl
  have h_excK_BadRule : HasEK P w K mg base "BadRule" "value" .ve := hasEK_of (He.glo_ok X G (c.fact 10 (f := .glo "BadRule") rfl)) (c.chk 2 (x := oxB .ve "BadRule" "value") rfl) Q_BadRule___init__ kk_BadRule___init__ (fun _ _ => rfl) sc_BadRule___init__ rfl
  obtain ⟨fd_BadShare___init__, Q_BadShare___init__⟩ := c.def_ 11 (d := D_BadShare___init__) rfl
  have b_BadShare___init__ : Binds K fd_BadShare___init__ ["self", "value"] [] := (FunD.bindsN (ps := ["self", "value"]) Q_BadShare___init__ fun _ _ _ _ _ _ us hl => match us, hl with | [_, _], _ => rfl)
  have h_exc_BadShare : HasE P w K mg base "BadShare" "value" .ve := hasE_of (He.glo_ok X G (c.fact 11 (f := .glo "BadShare") rfl)) (c.chk 3 (x := oxB .ve "BadShare" "value") rfl) Q_BadShare___init__ b_BadShare___init__ sc_BadShare___init__ rfl
  have kk_BadShare___init__ := FunD.kb3 (ps := ["self", "value"]) Q_BadShare___init__ 1 ["value"] [(0, 0), (2, 0)] fun _ _ _ _ _ _ us ws hu hw => match us, ws, hu, hw with | [_], [_], _, _ => rfl
  have h_excK_BadShare : HasEK P w K mg base "BadShare" "value" .ve := hasEK_of (He.glo_ok X G (c.fact 11 (f := .glo "BadShare") rfl)) (c.chk 3 (x := oxB .ve "BadShare" "value") rfl) Q_BadShare___init__ kk_BadShare___init__ (fun _ _ => rfl) sc_BadShare___init__ rfl
  obtain ⟨fd_BadNumber___init__, Q_BadNumber___init__⟩ := c.def_ 12 (d := D_BadNumber___init__) rfl
  have b_BadNumber___init__ : Binds K fd_BadNumber___init__ ["self", "value"] [] := (FunD.bindsN (ps := ["self", "value"]) Q_BadNumber___init__ fun _ _ _ _ _ _ us hl => match us, hl with | [_, _], _ => rfl)
  have h_exc_BadNumber : HasE P w K mg base "BadNumber" "value" .ve := hasE_of (He.glo_ok X G (c.fact 12 (f := .glo "BadNumber") rfl)) (c.chk 4 (x := oxB .ve "BadNumber" "value") rfl) Q_BadNumber___init__ b_BadNumber___init__ sc_BadNumber___init__ rfl
  have kk_BadNumber___init__ := FunD.kb3 (ps := ["self", "value"]) Q_BadNumber___init__ 1 ["value"] [(0, 0), (2, 0)] fun _ _ _ _ _ _ us ws hu hw => match us, ws, hu, hw with | [_], [_], _, _ => rfl
  have h_excK_BadNumber : HasEK P w K mg base "BadNumber" "value" .ve := hasEK_of (He.glo_ok X G (c.fact 12 (f := .glo "BadNumber") rfl)) (c.chk 4 (x := oxB .ve "BadNumber" "value") rfl) Q_BadNumber___init__ kk_BadNumber___init__ (fun _ _ => rfl) sc_BadNumber___init__ rfl
  obtain ⟨fd_BadSample___init__, Q_BadSample___init__⟩ := c.def_ 13 (d := D_BadSample___init__) rfl
  obtain ⟨ds_BadSample___init__, rD_BadSample___init__, b_BadSample___init__⟩ := FunD.binds1 (ps := ["self", "index"]) Q_BadSample___init__ 2 1 (by simp [DefX.dvs, D_BadSample___init__]) rfl fun _ _ _ _ _ _ _ us its hu hi => match us, its, hu, hi with | [_, _], [_], _, _ => ⟨_, rfl, rfl⟩
  cases rD_BadSample___init__
  have h_exc_BadSample : HasE P w K mg base "BadSample" "index" .ve := hasE_of (He.glo_ok X G (c.fact 13 (f := .glo "BadSample") rfl)) (c.chk 5 (x := oxB .ve "BadSample" "index") rfl) Q_BadSample___init__ b_BadSample___init__ sc_BadSample___init__ rfl
  obtain ⟨_, _, kk_BadSample___init__, kg_BadSample___init__⟩ := FunD.ekw (c := "BadSample") (f := "index") Q_BadSample___init__ fun _ _ _ _ _ _ _ _ _ _ => ⟨_, rfl, rfl⟩
  have h_excK_BadSample : HasEK P w K mg base "BadSample" "index" .ve := hasEK_of (He.glo_ok X G (c.fact 13 (f := .glo "BadSample") rfl)) (c.chk 5 (x := oxB .ve "BadSample" "index") rfl) Q_BadSample___init__ kk_BadSample___init__ kg_BadSample___init__ sc_BadSample___init__ rfl
  obtain ⟨fd_BadSummary___init__, Q_BadSummary___init__⟩ := c.def_ 14 (d := D_BadSummary___init__) rfl
  have b_BadSummary___init__ : Binds K fd_BadSummary___init__ ["self", "value"] [] := (FunD.bindsN (ps := ["self", "value"]) Q_BadSummary___init__ fun _ _ _ _ _ _ us hl => match us, hl with | [_, _], _ => rfl)
  have h_exc_BadSummary : HasE P w K mg base "BadSummary" "value" .ve := hasE_of (He.glo_ok X G (c.fact 14 (f := .glo "BadSummary") rfl)) (c.chk 6 (x := oxB .ve "BadSummary" "value") rfl) Q_BadSummary___init__ b_BadSummary___init__ sc_BadSummary___init__ rfl
  have kk_BadSummary___init__ := FunD.kb3 (ps := ["self", "value"]) Q_BadSummary___init__ 1 ["value"] [(0, 0), (2, 0)] fun _ _ _ _ _ _ us ws hu hw => match us, ws, hu, hw with | [_], [_], _, _ => rfl
  have h_excK_BadSummary : HasEK P w K mg base "BadSummary" "value" .ve := hasEK_of (He.glo_ok X G (c.fact 14 (f := .glo "BadSummary") rfl)) (c.chk 6 (x := oxB .ve "BadSummary" "value") rfl) Q_BadSummary___init__ kk_BadSummary___init__ (fun _ _ => rfl) sc_BadSummary___init__ rfl
  obtain ⟨fd_BadText___init__, Q_BadText___init__⟩ := c.def_ 15 (d := D_BadText___init__) rfl
  have b_BadText___init__ : Binds K fd_BadText___init__ ["self", "value"] [] := (FunD.bindsN (ps := ["self", "value"]) Q_BadText___init__ fun _ _ _ _ _ _ us hl => match us, hl with | [_, _], _ => rfl)
  have h_exc_BadText : HasE P w K mg base "BadText" "value" .ve := hasE_of (He.glo_ok X G (c.fact 15 (f := .glo "BadText") rfl)) (c.chk 7 (x := oxB .ve "BadText" "value") rfl) Q_BadText___init__ b_BadText___init__ sc_BadText___init__ rfl
  have kk_BadText___init__ := FunD.kb3 (ps := ["self", "value"]) Q_BadText___init__ 1 ["value"] [(0, 0), (2, 0)] fun _ _ _ _ _ _ us ws hu hw => match us, ws, hu, hw with | [_], [_], _, _ => rfl
  have h_excK_BadText : HasEK P w K mg base "BadText" "value" .ve := hasEK_of (He.glo_ok X G (c.fact 15 (f := .glo "BadText") rfl)) (c.chk 7 (x := oxB .ve "BadText" "value") rfl) Q_BadText___init__ kk_BadText___init__ (fun _ _ => rfl) sc_BadText___init__ rfl
  obtain ⟨fd_BadName___init__, Q_BadName___init__⟩ := c.def_ 16 (d := D_BadName___init__) rfl
  have b_BadName___init__ : Binds K fd_BadName___init__ ["self", "value"] [] := (FunD.bindsN (ps := ["self", "value"]) Q_BadName___init__ fun _ _ _ _ _ _ us hl => match us, hl with | [_, _], _ => rfl)
  have h_exc_BadName : HasE P w K mg base "BadName" "value" .ve := hasE_of (He.glo_ok X G (c.fact 16 (f := .glo "BadName") rfl)) (c.chk 8 (x := oxB .ve "BadName" "value") rfl) Q_BadName___init__ b_BadName___init__ sc_BadName___init__ rfl
  have kk_BadName___init__ := FunD.kb3 (ps := ["self", "value"]) Q_BadName___init__ 1 ["value"] [(0, 0), (2, 0)] fun _ _ _ _ _ _ us ws hu hw => match us, ws, hu, hw with | [_], [_], _, _ => rfl
  have h_excK_BadName : HasEK P w K mg base "BadName" "value" .ve := hasEK_of (He.glo_ok X G (c.fact 16 (f := .glo "BadName") rfl)) (c.chk 8 (x := oxB .ve "BadName" "value") rfl) Q_BadName___init__ kk_BadName___init__ (fun _ _ => rfl) sc_BadName___init__ rfl
  obtain ⟨fd_BadEdges___init__, Q_BadEdges___init__⟩ := c.def_ 17 (d := D_BadEdges___init__) rfl
  obtain ⟨ds_BadEdges___init__, rD_BadEdges___init__, b_BadEdges___init__⟩ := FunD.binds1 (ps := ["self", "index"]) Q_BadEdges___init__ 2 1 (by simp [DefX.dvs, D_BadEdges___init__]) rfl fun _ _ _ _ _ _ _ us its hu hi => match us, its, hu, hi with | [_, _], [_], _, _ => ⟨_, rfl, rfl⟩
  cases rD_BadEdges___init__
  have h_exc_BadEdges : HasE P w K mg base "BadEdges" "index" .ve := hasE_of (He.glo_ok X G (c.fact 17 (f := .glo "BadEdges") rfl)) (c.chk 9 (x := oxB .ve "BadEdges" "index") rfl) Q_BadEdges___init__ b_BadEdges___init__ sc_BadEdges___init__ rfl
  obtain ⟨_, _, kk_BadEdges___init__, kg_BadEdges___init__⟩ := FunD.ekw (c := "BadEdges") (f := "index") Q_BadEdges___init__ fun _ _ _ _ _ _ _ _ _ _ => ⟨_, rfl, rfl⟩
  have h_excK_BadEdges : HasEK P w K mg base "BadEdges" "index" .ve := hasEK_of (He.glo_ok X G (c.fact 17 (f := .glo "BadEdges") rfl)) (c.chk 9 (x := oxB .ve "BadEdges" "index") rfl) Q_BadEdges___init__ kk_BadEdges___init__ kg_BadEdges___init__ sc_BadEdges___init__ rfl
  obtain ⟨fd_BadPairs___init__, Q_BadPairs___init__⟩ := c.def_ 18 (d := D_BadPairs___init__) rfl
  obtain ⟨ds_BadPairs___init__, rD_BadPairs___init__, b_BadPairs___init__⟩ := FunD.binds1 (ps := ["self", "index"]) Q_BadPairs___init__ 2 1 (by simp [DefX.dvs, D_BadPairs___init__]) rfl fun _ _ _ _ _ _ _ us its hu hi => match us, its, hu, hi with | [_, _], [_], _, _ => ⟨_, rfl, rfl⟩
  cases rD_BadPairs___init__
  have h_exc_BadPairs : HasE P w K mg base "BadPairs" "index" .ve := hasE_of (He.glo_ok X G (c.fact 18 (f := .glo "BadPairs") rfl)) (c.chk 10 (x := oxB .ve "BadPairs" "index") rfl) Q_BadPairs___init__ b_BadPairs___init__ sc_BadPairs___init__ rfl
  obtain ⟨_, _, kk_BadPairs___init__, kg_BadPairs___init__⟩ := FunD.ekw (c := "BadPairs") (f := "index") Q_BadPairs___init__ fun _ _ _ _ _ _ _ _ _ _ => ⟨_, rfl, rfl⟩
  have h_excK_BadPairs : HasEK P w K mg base "BadPairs" "index" .ve := hasEK_of (He.glo_ok X G (c.fact 18 (f := .glo "BadPairs") rfl)) (c.chk 10 (x := oxB .ve "BadPairs" "index") rfl) Q_BadPairs___init__ kk_BadPairs___init__ kg_BadPairs___init__ sc_BadPairs___init__ rfl
  obtain ⟨fd_BadWeights___init__, Q_BadWeights___init__⟩ := c.def_ 19 (d := D_BadWeights___init__) rfl
  obtain ⟨ds_BadWeights___init__, rD_BadWeights___init__, b_BadWeights___init__⟩ := FunD.binds1 (ps := ["self", "index"]) Q_BadWeights___init__ 2 1 (by simp [DefX.dvs, D_BadWeights___init__]) rfl fun _ _ _ _ _ _ _ us its hu hi => match us, its, hu, hi with | [_, _], [_], _, _ => ⟨_, rfl, rfl⟩
  cases rD_BadWeights___init__
  have h_exc_BadWeights : HasE P w K mg base "BadWeights" "index" .ve := hasE_of (He.glo_ok X G (c.fact 19 (f := .glo "BadWeights") rfl)) (c.chk 11 (x := oxB .ve "BadWeights" "index") rfl) Q_BadWeights___init__ b_BadWeights___init__ sc_BadWeights___init__ rfl
  obtain ⟨_, _, kk_BadWeights___init__, kg_BadWeights___init__⟩ := FunD.ekw (c := "BadWeights") (f := "index") Q_BadWeights___init__ fun _ _ _ _ _ _ _ _ _ _ => ⟨_, rfl, rfl⟩
  have h_excK_BadWeights : HasEK P w K mg base "BadWeights" "index" .ve := hasEK_of (He.glo_ok X G (c.fact 19 (f := .glo "BadWeights") rfl)) (c.chk 11 (x := oxB .ve "BadWeights" "index") rfl) Q_BadWeights___init__ kk_BadWeights___init__ kg_BadWeights___init__ sc_BadWeights___init__ rfl
  have h_exc_NothingDone : HasE0 K mg "NothingDone" .le := hasE0_of (He.glo_ok X G (c.fact 20 (f := .glo "NothingDone") rfl)) (c.chk 12 (x := ex0B .le "NothingDone") rfl)
  obtain ⟨fd_Outside___init__, Q_Outside___init__⟩ := c.def_ 20 (d := D_Outside___init__) rfl
  have b_Outside___init__ : Binds K fd_Outside___init__ ["self", "value"] [] := (FunD.bindsN (ps := ["self", "value"]) Q_Outside___init__ fun _ _ _ _ _ _ us hl => match us, hl with | [_, _], _ => rfl)
  have h_exc_Outside : HasE P w K mg base "Outside" "value" .le := hasE_of (He.glo_ok X G (c.fact 21 (f := .glo "Outside") rfl)) (c.chk 13 (x := oxB .le "Outside" "value") rfl) Q_Outside___init__ b_Outside___init__ sc_Outside___init__ rfl
  have kk_Outside___init__ := FunD.kb3 (ps := ["self", "value"]) Q_Outside___init__ 1 ["value"] [(0, 0), (2, 0)] fun _ _ _ _ _ _ us ws hu hw => match us, ws, hu, hw with | [_], [_], _, _ => rfl
  have h_excK_Outside : HasEK P w K mg base "Outside" "value" .le := hasEK_of (He.glo_ok X G (c.fact 21 (f := .glo "Outside") rfl)) (c.chk 13 (x := oxB .le "Outside" "value") rfl) Q_Outside___init__ kk_Outside___init__ (fun _ _ => rfl) sc_Outside___init__ rfl
  obtain ⟨fd_NotThere___init__, Q_NotThere___init__⟩ := c.def_ 21 (d := D_NotThere___init__) rfl
  have b_NotThere___init__ : Binds K fd_NotThere___init__ ["self", "item"] [] := (FunD.bindsN (ps := ["self", "item"]) Q_NotThere___init__ fun _ _ _ _ _ _ us hl => match us, hl with | [_, _], _ => rfl)
  have h_exc_NotThere : HasE P w K mg base "NotThere" "item" .le := hasE_of (He.glo_ok X G (c.fact 22 (f := .glo "NotThere") rfl)) (c.chk 14 (x := oxB .le "NotThere" "item") rfl) Q_NotThere___init__ b_NotThere___init__ sc_NotThere___init__ rfl
  have kk_NotThere___init__ := FunD.kb3 (ps := ["self", "item"]) Q_NotThere___init__ 1 ["item"] [(0, 0), (2, 0)] fun _ _ _ _ _ _ us ws hu hw => match us, ws, hu, hw with | [_], [_], _, _ => rfl
  have h_excK_NotThere : HasEK P w K mg base "NotThere" "item" .le := hasEK_of (He.glo_ok X G (c.fact 22 (f := .glo "NotThere") rfl)) (c.chk 14 (x := oxB .le "NotThere" "item") rfl) Q_NotThere___init__ kk_NotThere___init__ (fun _ _ => rfl) sc_NotThere___init__ rfl
  obtain ⟨fd_TooFew___init__, Q_TooFew___init__⟩ := c.def_ 22 (d := D_TooFew___init__) rfl
  have b_TooFew___init__ : Binds K fd_TooFew___init__ ["self", "needed"] [] := (FunD.bindsN (ps := ["self", "needed"]) Q_TooFew___init__ fun _ _ _ _ _ _ us hl => match us, hl with | [_, _], _ => rfl)
  have h_exc_TooFew : HasE P w K mg base "TooFew" "needed" .le := hasE_of (He.glo_ok X G (c.fact 23 (f := .glo "TooFew") rfl)) (c.chk 15 (x := oxB .le "TooFew" "needed") rfl) Q_TooFew___init__ b_TooFew___init__ sc_TooFew___init__ rfl
  have kk_TooFew___init__ := FunD.kb3 (ps := ["self", "needed"]) Q_TooFew___init__ 1 ["needed"] [(0, 0), (2, 0)] fun _ _ _ _ _ _ us ws hu hw => match us, ws, hu, hw with | [_], [_], _, _ => rfl
  have h_excK_TooFew : HasEK P w K mg base "TooFew" "needed" .le := hasEK_of (He.glo_ok X G (c.fact 23 (f := .glo "TooFew") rfl)) (c.chk 15 (x := oxB .le "TooFew" "needed") rfl) Q_TooFew___init__ kk_TooFew___init__ (fun _ _ => rfl) sc_TooFew___init__ rfl
  have h_exc_Empty : HasE0 K mg "Empty" .le := hasE0_of (He.glo_ok X G (c.fact 24 (f := .glo "Empty") rfl)) (c.chk 16 (x := ex0B .le "Empty") rfl)
  have h_exc_Unbounded : HasE0 K mg "Unbounded" .ae := hasE0_of (He.glo_ok X G (c.fact 25 (f := .glo "Unbounded") rfl)) (c.chk 17 (x := ex0B .ae "Unbounded") rfl)
  have h_exc_Impossible : HasE0 K mg "Impossible" .ae := hasE0_of (He.glo_ok X G (c.fact 26 (f := .glo "Impossible") rfl)) (c.chk 18 (x := ex0B .ae "Impossible") rfl)
  obtain ⟨fd_NotPositive___init__, Q_NotPositive___init__⟩ := c.def_ 23 (d := D_NotPositive___init__) rfl
  obtain ⟨ds_NotPositive___init__, rD_NotPositive___init__, b_NotPositive___init__⟩ := FunD.binds1 (ps := ["self", "index"]) Q_NotPositive___init__ 2 1 (by simp [DefX.dvs, D_NotPositive___init__]) rfl fun _ _ _ _ _ _ _ us its hu hi => match us, its, hu, hi with | [_, _], [_], _, _ => ⟨_, rfl, rfl⟩
  cases rD_NotPositive___init__
  have h_exc_NotPositive : HasE P w K mg base "NotPositive" "index" .ae := hasE_of (He.glo_ok X G (c.fact 27 (f := .glo "NotPositive") rfl)) (c.chk 19 (x := oxB .ae "NotPositive" "index") rfl) Q_NotPositive___init__ b_NotPositive___init__ sc_NotPositive___init__ rfl
  obtain ⟨_, _, kk_NotPositive___init__, kg_NotPositive___init__⟩ := FunD.ekw (c := "NotPositive") (f := "index") Q_NotPositive___init__ fun _ _ _ _ _ _ _ _ _ _ => ⟨_, rfl, rfl⟩
  have h_excK_NotPositive : HasEK P w K mg base "NotPositive" "index" .ae := hasEK_of (He.glo_ok X G (c.fact 27 (f := .glo "NotPositive") rfl)) (c.chk 19 (x := oxB .ae "NotPositive" "index") rfl) Q_NotPositive___init__ kk_NotPositive___init__ kg_NotPositive___init__ sc_NotPositive___init__ rfl
  have h_exc_NoSpread : HasE0 K mg "NoSpread" .ae := hasE0_of (He.glo_ok X G (c.fact 28 (f := .glo "NoSpread") rfl)) (c.chk 20 (x := ex0B .ae "NoSpread") rfl)
  have h_exc_DividedByZero : HasE0 K mg "DividedByZero" .ae := hasE0_of (He.glo_ok X G (c.fact 29 (f := .glo "DividedByZero") rfl)) (c.chk 21 (x := ex0B .ae "DividedByZero") rfl)
  obtain ⟨fd_TooMany___init__, Q_TooMany___init__⟩ := c.def_ 24 (d := D_TooMany___init__) rfl
  have b_TooMany___init__ : Binds K fd_TooMany___init__ ["self", "most"] [] := (FunD.bindsN (ps := ["self", "most"]) Q_TooMany___init__ fun _ _ _ _ _ _ us hl => match us, hl with | [_, _], _ => rfl)
  have h_exc_TooMany : HasE P w K mg base "TooMany" "most" .ae := hasE_of (He.glo_ok X G (c.fact 30 (f := .glo "TooMany") rfl)) (c.chk 22 (x := oxB .ae "TooMany" "most") rfl) Q_TooMany___init__ b_TooMany___init__ sc_TooMany___init__ rfl
  have kk_TooMany___init__ := FunD.kb3 (ps := ["self", "most"]) Q_TooMany___init__ 1 ["most"] [(0, 0), (2, 0)] fun _ _ _ _ _ _ us ws hu hw => match us, ws, hu, hw with | [_], [_], _, _ => rfl
  have h_excK_TooMany : HasEK P w K mg base "TooMany" "most" .ae := hasEK_of (He.glo_ok X G (c.fact 30 (f := .glo "TooMany") rfl)) (c.chk 22 (x := oxB .ae "TooMany" "most") rfl) Q_TooMany___init__ kk_TooMany___init__ (fun _ _ => rfl) sc_TooMany___init__ rfl
  have h_ef_value : HasEF K ["BadNumber", "BadShare", "BadRule", "BadAmount", "BadName", "BadText", "BadSummary", "Outside"] "value" := hasEF_of (c.chk 23 (x := hefB ["BadNumber", "BadShare", "BadRule", "BadAmount", "BadName", "BadText", "BadSummary", "Outside"] "value") rfl)
  have h_ef_index : HasEF K ["BadSample", "BadWeights", "BadPairs", "BadEdges", "NotPositive"] "index" := hasEF_of (c.chk 24 (x := hefB ["BadSample", "BadWeights", "BadPairs", "BadEdges", "NotPositive"] "index") rfl)
  have h_ef_most : HasEF K ["TooMany"] "most" := hasEF_of (c.chk 25 (x := hefB ["TooMany"] "most") rfl)
  have h_ef_item : HasEF K ["NotThere"] "item" := hasEF_of (c.chk 26 (x := hefB ["NotThere"] "item") rfl)
  have h_ef_needed : HasEF K ["TooFew"] "needed" := hasEF_of (c.chk 27 (x := hefB ["TooFew"] "needed") rfl)
  have h_isx_BadRule : HasIX K mg ["BadRule"] ["BadInput", "Absent", "Undefined", "BadNumber", "BadSample", "BadWeights", "BadPairs", "BadShare", "BadRule", "BadAmount", "BadEdges", "BadName", "BadText", "BadSummary", "Empty", "TooFew", "NotThere", "Outside", "NothingDone", "DividedByZero", "NoSpread", "NotPositive", "Impossible", "Unbounded", "TooMany"] ["BadRule"] := hasIX_of (fun n hn => by rw [List.mem_singleton.mp hn]; exact He.glo_ok X G (c.fact 10 (f := .glo "BadRule") rfl)) (c.chk 28 (x := isxB ["BadRule"] ["BadInput", "Absent", "Undefined", "BadNumber", "BadSample", "BadWeights", "BadPairs", "BadShare", "BadRule", "BadAmount", "BadEdges", "BadName", "BadText", "BadSummary", "Empty", "TooFew", "NotThere", "Outside", "NothingDone", "DividedByZero", "NoSpread", "NotPositive", "Impossible", "Unbounded", "TooMany"] ["BadRule"]) rfl)
  have h_isx_BadShare : HasIX K mg ["BadShare"] ["BadInput", "Absent", "Undefined", "BadNumber", "BadSample", "BadWeights", "BadPairs", "BadShare", "BadRule", "BadAmount", "BadEdges", "BadName", "BadText", "BadSummary", "Empty", "TooFew", "NotThere", "Outside", "NothingDone", "DividedByZero", "NoSpread", "NotPositive", "Impossible", "Unbounded", "TooMany"] ["BadShare"] := hasIX_of (fun n hn => by rw [List.mem_singleton.mp hn]; exact He.glo_ok X G (c.fact 11 (f := .glo "BadShare") rfl)) (c.chk 29 (x := isxB ["BadShare"] ["BadInput", "Absent", "Undefined", "BadNumber", "BadSample", "BadWeights", "BadPairs", "BadShare", "BadRule", "BadAmount", "BadEdges", "BadName", "BadText", "BadSummary", "Empty", "TooFew", "NotThere", "Outside", "NothingDone", "DividedByZero", "NoSpread", "NotPositive", "Impossible", "Unbounded", "TooMany"] ["BadShare"]) rfl)
  have h_isx_BadNumber : HasIX K mg ["BadNumber"] ["BadInput", "Absent", "Undefined", "BadNumber", "BadSample", "BadWeights", "BadPairs", "BadShare", "BadRule", "BadAmount", "BadEdges", "BadName", "BadText", "BadSummary", "Empty", "TooFew", "NotThere", "Outside", "NothingDone", "DividedByZero", "NoSpread", "NotPositive", "Impossible", "Unbounded", "TooMany"] ["BadNumber"] := hasIX_of (fun n hn => by rw [List.mem_singleton.mp hn]; exact He.glo_ok X G (c.fact 12 (f := .glo "BadNumber") rfl)) (c.chk 30 (x := isxB ["BadNumber"] ["BadInput", "Absent", "Undefined", "BadNumber", "BadSample", "BadWeights", "BadPairs", "BadShare", "BadRule", "BadAmount", "BadEdges", "BadName", "BadText", "BadSummary", "Empty", "TooFew", "NotThere", "Outside", "NothingDone", "DividedByZero", "NoSpread", "NotPositive", "Impossible", "Unbounded", "TooMany"] ["BadNumber"]) rfl)
  have h_isx_BadText : HasIX K mg ["BadText"] ["BadInput", "Absent", "Undefined", "BadNumber", "BadSample", "BadWeights", "BadPairs", "BadShare", "BadRule", "BadAmount", "BadEdges", "BadName", "BadText", "BadSummary", "Empty", "TooFew", "NotThere", "Outside", "NothingDone", "DividedByZero", "NoSpread", "NotPositive", "Impossible", "Unbounded", "TooMany"] ["BadText"] := hasIX_of (fun n hn => by rw [List.mem_singleton.mp hn]; exact He.glo_ok X G (c.fact 15 (f := .glo "BadText") rfl)) (c.chk 31 (x := isxB ["BadText"] ["BadInput", "Absent", "Undefined", "BadNumber", "BadSample", "BadWeights", "BadPairs", "BadShare", "BadRule", "BadAmount", "BadEdges", "BadName", "BadText", "BadSummary", "Empty", "TooFew", "NotThere", "Outside", "NothingDone", "DividedByZero", "NoSpread", "NotPositive", "Impossible", "Unbounded", "TooMany"] ["BadText"]) rfl)
  have h_isx_BadName : HasIX K mg ["BadName"] ["BadInput", "Absent", "Undefined", "BadNumber", "BadSample", "BadWeights", "BadPairs", "BadShare", "BadRule", "BadAmount", "BadEdges", "BadName", "BadText", "BadSummary", "Empty", "TooFew", "NotThere", "Outside", "NothingDone", "DividedByZero", "NoSpread", "NotPositive", "Impossible", "Unbounded", "TooMany"] ["BadName"] := hasIX_of (fun n hn => by rw [List.mem_singleton.mp hn]; exact He.glo_ok X G (c.fact 16 (f := .glo "BadName") rfl)) (c.chk 32 (x := isxB ["BadName"] ["BadInput", "Absent", "Undefined", "BadNumber", "BadSample", "BadWeights", "BadPairs", "BadShare", "BadRule", "BadAmount", "BadEdges", "BadName", "BadText", "BadSummary", "Empty", "TooFew", "NotThere", "Outside", "NothingDone", "DividedByZero", "NoSpread", "NotPositive", "Impossible", "Unbounded", "TooMany"] ["BadName"]) rfl)
  have h_isx_BadAmount : HasIX K mg ["BadAmount"] ["BadInput", "Absent", "Undefined", "BadNumber", "BadSample", "BadWeights", "BadPairs", "BadShare", "BadRule", "BadAmount", "BadEdges", "BadName", "BadText", "BadSummary", "Empty", "TooFew", "NotThere", "Outside", "NothingDone", "DividedByZero", "NoSpread", "NotPositive", "Impossible", "Unbounded", "TooMany"] ["BadAmount"] := hasIX_of (fun n hn => by rw [List.mem_singleton.mp hn]; exact He.glo_ok X G (c.fact 9 (f := .glo "BadAmount") rfl)) (c.chk 33 (x := isxB ["BadAmount"] ["BadInput", "Absent", "Undefined", "BadNumber", "BadSample", "BadWeights", "BadPairs", "BadShare", "BadRule", "BadAmount", "BadEdges", "BadName", "BadText", "BadSummary", "Empty", "TooFew", "NotThere", "Outside", "NothingDone", "DividedByZero", "NoSpread", "NotPositive", "Impossible", "Unbounded", "TooMany"] ["BadAmount"]) rfl)
  have h_isx_BadWeights : HasIX K mg ["BadWeights"] ["BadInput", "Absent", "Undefined", "BadNumber", "BadSample", "BadWeights", "BadPairs", "BadShare", "BadRule", "BadAmount", "BadEdges", "BadName", "BadText", "BadSummary", "Empty", "TooFew", "NotThere", "Outside", "NothingDone", "DividedByZero", "NoSpread", "NotPositive", "Impossible", "Unbounded", "TooMany"] ["BadWeights"] := hasIX_of (fun n hn => by rw [List.mem_singleton.mp hn]; exact He.glo_ok X G (c.fact 19 (f := .glo "BadWeights") rfl)) (c.chk 34 (x := isxB ["BadWeights"] ["BadInput", "Absent", "Undefined", "BadNumber", "BadSample", "BadWeights", "BadPairs", "BadShare", "BadRule", "BadAmount", "BadEdges", "BadName", "BadText", "BadSummary", "Empty", "TooFew", "NotThere", "Outside", "NothingDone", "DividedByZero", "NoSpread", "NotPositive", "Impossible", "Unbounded", "TooMany"] ["BadWeights"]) rfl)
  have h_isx_BadSample : HasIX K mg ["BadSample"] ["BadInput", "Absent", "Undefined", "BadNumber", "BadSample", "BadWeights", "BadPairs", "BadShare", "BadRule", "BadAmount", "BadEdges", "BadName", "BadText", "BadSummary", "Empty", "TooFew", "NotThere", "Outside", "NothingDone", "DividedByZero", "NoSpread", "NotPositive", "Impossible", "Unbounded", "TooMany"] ["BadSample"] := hasIX_of (fun n hn => by rw [List.mem_singleton.mp hn]; exact He.glo_ok X G (c.fact 13 (f := .glo "BadSample") rfl)) (c.chk 35 (x := isxB ["BadSample"] ["BadInput", "Absent", "Undefined", "BadNumber", "BadSample", "BadWeights", "BadPairs", "BadShare", "BadRule", "BadAmount", "BadEdges", "BadName", "BadText", "BadSummary", "Empty", "TooFew", "NotThere", "Outside", "NothingDone", "DividedByZero", "NoSpread", "NotPositive", "Impossible", "Unbounded", "TooMany"] ["BadSample"]) rfl)
  have h_isx_BadSummary : HasIX K mg ["BadSummary"] ["BadInput", "Absent", "Undefined", "BadNumber", "BadSample", "BadWeights", "BadPairs", "BadShare", "BadRule", "BadAmount", "BadEdges", "BadName", "BadText", "BadSummary", "Empty", "TooFew", "NotThere", "Outside", "NothingDone", "DividedByZero", "NoSpread", "NotPositive", "Impossible", "Unbounded", "TooMany"] ["BadSummary"] := hasIX_of (fun n hn => by rw [List.mem_singleton.mp hn]; exact He.glo_ok X G (c.fact 14 (f := .glo "BadSummary") rfl)) (c.chk 36 (x := isxB ["BadSummary"] ["BadInput", "Absent", "Undefined", "BadNumber", "BadSample", "BadWeights", "BadPairs", "BadShare", "BadRule", "BadAmount", "BadEdges", "BadName", "BadText", "BadSummary", "Empty", "TooFew", "NotThere", "Outside", "NothingDone", "DividedByZero", "NoSpread", "NotPositive", "Impossible", "Unbounded", "TooMany"] ["BadSummary"]) rfl)
  have h_isx_Empty : HasIX K mg ["Empty"] ["BadInput", "Absent", "Undefined", "BadNumber", "BadSample", "BadWeights", "BadPairs", "BadShare", "BadRule", "BadAmount", "BadEdges", "BadName", "BadText", "BadSummary", "Empty", "TooFew", "NotThere", "Outside", "NothingDone", "DividedByZero", "NoSpread", "NotPositive", "Impossible", "Unbounded", "TooMany"] ["Empty"] := hasIX_of (fun n hn => by rw [List.mem_singleton.mp hn]; exact He.glo_ok X G (c.fact 24 (f := .glo "Empty") rfl)) (c.chk 37 (x := isxB ["Empty"] ["BadInput", "Absent", "Undefined", "BadNumber", "BadSample", "BadWeights", "BadPairs", "BadShare", "BadRule", "BadAmount", "BadEdges", "BadName", "BadText", "BadSummary", "Empty", "TooFew", "NotThere", "Outside", "NothingDone", "DividedByZero", "NoSpread", "NotPositive", "Impossible", "Unbounded", "TooMany"] ["Empty"]) rfl)
  have h_isx_BadEdges : HasIX K mg ["BadEdges"] ["BadInput", "Absent", "Undefined", "BadNumber", "BadSample", "BadWeights", "BadPairs", "BadShare", "BadRule", "BadAmount", "BadEdges", "BadName", "BadText", "BadSummary", "Empty", "TooFew", "NotThere", "Outside", "NothingDone", "DividedByZero", "NoSpread", "NotPositive", "Impossible", "Unbounded", "TooMany"] ["BadEdges"] := hasIX_of (fun n hn => by rw [List.mem_singleton.mp hn]; exact He.glo_ok X G (c.fact 17 (f := .glo "BadEdges") rfl)) (c.chk 38 (x := isxB ["BadEdges"] ["BadInput", "Absent", "Undefined", "BadNumber", "BadSample", "BadWeights", "BadPairs", "BadShare", "BadRule", "BadAmount", "BadEdges", "BadName", "BadText", "BadSummary", "Empty", "TooFew", "NotThere", "Outside", "NothingDone", "DividedByZero", "NoSpread", "NotPositive", "Impossible", "Unbounded", "TooMany"] ["BadEdges"]) rfl)
  have h_isx_BadPairs : HasIX K mg ["BadPairs"] ["BadInput", "Absent", "Undefined", "BadNumber", "BadSample", "BadWeights", "BadPairs", "BadShare", "BadRule", "BadAmount", "BadEdges", "BadName", "BadText", "BadSummary", "Empty", "TooFew", "NotThere", "Outside", "NothingDone", "DividedByZero", "NoSpread", "NotPositive", "Impossible", "Unbounded", "TooMany"] ["BadPairs"] := hasIX_of (fun n hn => by rw [List.mem_singleton.mp hn]; exact He.glo_ok X G (c.fact 18 (f := .glo "BadPairs") rfl)) (c.chk 39 (x := isxB ["BadPairs"] ["BadInput", "Absent", "Undefined", "BadNumber", "BadSample", "BadWeights", "BadPairs", "BadShare", "BadRule", "BadAmount", "BadEdges", "BadName", "BadText", "BadSummary", "Empty", "TooFew", "NotThere", "Outside", "NothingDone", "DividedByZero", "NoSpread", "NotPositive", "Impossible", "Unbounded", "TooMany"] ["BadPairs"]) rfl)
  have h_isx_Outside : HasIX K mg ["Outside"] ["BadInput", "Absent", "Undefined", "BadNumber", "BadSample", "BadWeights", "BadPairs", "BadShare", "BadRule", "BadAmount", "BadEdges", "BadName", "BadText", "BadSummary", "Empty", "TooFew", "NotThere", "Outside", "NothingDone", "DividedByZero", "NoSpread", "NotPositive", "Impossible", "Unbounded", "TooMany"] ["Outside"] := hasIX_of (fun n hn => by rw [List.mem_singleton.mp hn]; exact He.glo_ok X G (c.fact 21 (f := .glo "Outside") rfl)) (c.chk 40 (x := isxB ["Outside"] ["BadInput", "Absent", "Undefined", "BadNumber", "BadSample", "BadWeights", "BadPairs", "BadShare", "BadRule", "BadAmount", "BadEdges", "BadName", "BadText", "BadSummary", "Empty", "TooFew", "NotThere", "Outside", "NothingDone", "DividedByZero", "NoSpread", "NotPositive", "Impossible", "Unbounded", "TooMany"] ["Outside"]) rfl)
  have h_isx_NotThere : HasIX K mg ["NotThere"] ["BadInput", "Absent", "Undefined", "BadNumber", "BadSample", "BadWeights", "BadPairs", "BadShare", "BadRule", "BadAmount", "BadEdges", "BadName", "BadText", "BadSummary", "Empty", "TooFew", "NotThere", "Outside", "NothingDone", "DividedByZero", "NoSpread", "NotPositive", "Impossible", "Unbounded", "TooMany"] ["NotThere"] := hasIX_of (fun n hn => by rw [List.mem_singleton.mp hn]; exact He.glo_ok X G (c.fact 22 (f := .glo "NotThere") rfl)) (c.chk 41 (x := isxB ["NotThere"] ["BadInput", "Absent", "Undefined", "BadNumber", "BadSample", "BadWeights", "BadPairs", "BadShare", "BadRule", "BadAmount", "BadEdges", "BadName", "BadText", "BadSummary", "Empty", "TooFew", "NotThere", "Outside", "NothingDone", "DividedByZero", "NoSpread", "NotPositive", "Impossible", "Unbounded", "TooMany"] ["NotThere"]) rfl)
  have h_isx_TooFew : HasIX K mg ["TooFew"] ["BadInput", "Absent", "Undefined", "BadNumber", "BadSample", "BadWeights", "BadPairs", "BadShare", "BadRule", "BadAmount", "BadEdges", "BadName", "BadText", "BadSummary", "Empty", "TooFew", "NotThere", "Outside", "NothingDone", "DividedByZero", "NoSpread", "NotPositive", "Impossible", "Unbounded", "TooMany"] ["TooFew"] := hasIX_of (fun n hn => by rw [List.mem_singleton.mp hn]; exact He.glo_ok X G (c.fact 23 (f := .glo "TooFew") rfl)) (c.chk 42 (x := isxB ["TooFew"] ["BadInput", "Absent", "Undefined", "BadNumber", "BadSample", "BadWeights", "BadPairs", "BadShare", "BadRule", "BadAmount", "BadEdges", "BadName", "BadText", "BadSummary", "Empty", "TooFew", "NotThere", "Outside", "NothingDone", "DividedByZero", "NoSpread", "NotPositive", "Impossible", "Unbounded", "TooMany"] ["TooFew"]) rfl)
  have h_isx_NoSpread : HasIX K mg ["NoSpread"] ["BadInput", "Absent", "Undefined", "BadNumber", "BadSample", "BadWeights", "BadPairs", "BadShare", "BadRule", "BadAmount", "BadEdges", "BadName", "BadText", "BadSummary", "Empty", "TooFew", "NotThere", "Outside", "NothingDone", "DividedByZero", "NoSpread", "NotPositive", "Impossible", "Unbounded", "TooMany"] ["NoSpread"] := hasIX_of (fun n hn => by rw [List.mem_singleton.mp hn]; exact He.glo_ok X G (c.fact 28 (f := .glo "NoSpread") rfl)) (c.chk 43 (x := isxB ["NoSpread"] ["BadInput", "Absent", "Undefined", "BadNumber", "BadSample", "BadWeights", "BadPairs", "BadShare", "BadRule", "BadAmount", "BadEdges", "BadName", "BadText", "BadSummary", "Empty", "TooFew", "NotThere", "Outside", "NothingDone", "DividedByZero", "NoSpread", "NotPositive", "Impossible", "Unbounded", "TooMany"] ["NoSpread"]) rfl)
  have h_isx_DividedByZero : HasIX K mg ["DividedByZero"] ["BadInput", "Absent", "Undefined", "BadNumber", "BadSample", "BadWeights", "BadPairs", "BadShare", "BadRule", "BadAmount", "BadEdges", "BadName", "BadText", "BadSummary", "Empty", "TooFew", "NotThere", "Outside", "NothingDone", "DividedByZero", "NoSpread", "NotPositive", "Impossible", "Unbounded", "TooMany"] ["DividedByZero"] := hasIX_of (fun n hn => by rw [List.mem_singleton.mp hn]; exact He.glo_ok X G (c.fact 29 (f := .glo "DividedByZero") rfl)) (c.chk 44 (x := isxB ["DividedByZero"] ["BadInput", "Absent", "Undefined", "BadNumber", "BadSample", "BadWeights", "BadPairs", "BadShare", "BadRule", "BadAmount", "BadEdges", "BadName", "BadText", "BadSummary", "Empty", "TooFew", "NotThere", "Outside", "NothingDone", "DividedByZero", "NoSpread", "NotPositive", "Impossible", "Unbounded", "TooMany"] ["DividedByZero"]) rfl)
  have h_isx_NothingDone : HasIX K mg ["NothingDone"] ["BadInput", "Absent", "Undefined", "BadNumber", "BadSample", "BadWeights", "BadPairs", "BadShare", "BadRule", "BadAmount", "BadEdges", "BadName", "BadText", "BadSummary", "Empty", "TooFew", "NotThere", "Outside", "NothingDone", "DividedByZero", "NoSpread", "NotPositive", "Impossible", "Unbounded", "TooMany"] ["NothingDone"] := hasIX_of (fun n hn => by rw [List.mem_singleton.mp hn]; exact He.glo_ok X G (c.fact 20 (f := .glo "NothingDone") rfl)) (c.chk 45 (x := isxB ["NothingDone"] ["BadInput", "Absent", "Undefined", "BadNumber", "BadSample", "BadWeights", "BadPairs", "BadShare", "BadRule", "BadAmount", "BadEdges", "BadName", "BadText", "BadSummary", "Empty", "TooFew", "NotThere", "Outside", "NothingDone", "DividedByZero", "NoSpread", "NotPositive", "Impossible", "Unbounded", "TooMany"] ["NothingDone"]) rfl)
  have h_isx_Unbounded : HasIX K mg ["Unbounded"] ["BadInput", "Absent", "Undefined", "BadNumber", "BadSample", "BadWeights", "BadPairs", "BadShare", "BadRule", "BadAmount", "BadEdges", "BadName", "BadText", "BadSummary", "Empty", "TooFew", "NotThere", "Outside", "NothingDone", "DividedByZero", "NoSpread", "NotPositive", "Impossible", "Unbounded", "TooMany"] ["Unbounded"] := hasIX_of (fun n hn => by rw [List.mem_singleton.mp hn]; exact He.glo_ok X G (c.fact 25 (f := .glo "Unbounded") rfl)) (c.chk 46 (x := isxB ["Unbounded"] ["BadInput", "Absent", "Undefined", "BadNumber", "BadSample", "BadWeights", "BadPairs", "BadShare", "BadRule", "BadAmount", "BadEdges", "BadName", "BadText", "BadSummary", "Empty", "TooFew", "NotThere", "Outside", "NothingDone", "DividedByZero", "NoSpread", "NotPositive", "Impossible", "Unbounded", "TooMany"] ["Unbounded"]) rfl)
  have h_isx_Impossible : HasIX K mg ["Impossible"] ["BadInput", "Absent", "Undefined", "BadNumber", "BadSample", "BadWeights", "BadPairs", "BadShare", "BadRule", "BadAmount", "BadEdges", "BadName", "BadText", "BadSummary", "Empty", "TooFew", "NotThere", "Outside", "NothingDone", "DividedByZero", "NoSpread", "NotPositive", "Impossible", "Unbounded", "TooMany"] ["Impossible"] := hasIX_of (fun n hn => by rw [List.mem_singleton.mp hn]; exact He.glo_ok X G (c.fact 26 (f := .glo "Impossible") rfl)) (c.chk 47 (x := isxB ["Impossible"] ["BadInput", "Absent", "Undefined", "BadNumber", "BadSample", "BadWeights", "BadPairs", "BadShare", "BadRule", "BadAmount", "BadEdges", "BadName", "BadText", "BadSummary", "Empty", "TooFew", "NotThere", "Outside", "NothingDone", "DividedByZero", "NoSpread", "NotPositive", "Impossible", "Unbounded", "TooMany"] ["Impossible"]) rfl)
  have h_isx_NotPositive : HasIX K mg ["NotPositive"] ["BadInput", "Absent", "Undefined", "BadNumber", "BadSample", "BadWeights", "BadPairs", "BadShare", "BadRule", "BadAmount", "BadEdges", "BadName", "BadText", "BadSummary", "Empty", "TooFew", "NotThere", "Outside", "NothingDone", "DividedByZero", "NoSpread", "NotPositive", "Impossible", "Unbounded", "TooMany"] ["NotPositive"] := hasIX_of (fun n hn => by rw [List.mem_singleton.mp hn]; exact He.glo_ok X G (c.fact 27 (f := .glo "NotPositive") rfl)) (c.chk 48 (x := isxB ["NotPositive"] ["BadInput", "Absent", "Undefined", "BadNumber", "BadSample", "BadWeights", "BadPairs", "BadShare", "BadRule", "BadAmount", "BadEdges", "BadName", "BadText", "BadSummary", "Empty", "TooFew", "NotThere", "Outside", "NothingDone", "DividedByZero", "NoSpread", "NotPositive", "Impossible", "Unbounded", "TooMany"] ["NotPositive"]) rfl)
  have h_isx_TooMany : HasIX K mg ["TooMany"] ["BadInput", "Absent", "Undefined", "BadNumber", "BadSample", "BadWeights", "BadPairs", "BadShare", "BadRule", "BadAmount", "BadEdges", "BadName", "BadText", "BadSummary", "Empty", "TooFew", "NotThere", "Outside", "NothingDone", "DividedByZero", "NoSpread", "NotPositive", "Impossible", "Unbounded", "TooMany"] ["TooMany"] := hasIX_of (fun n hn => by rw [List.mem_singleton.mp hn]; exact He.glo_ok X G (c.fact 30 (f := .glo "TooMany") rfl)) (c.chk 49 (x := isxB ["TooMany"] ["BadInput", "Absent", "Undefined", "BadNumber", "BadSample", "BadWeights", "BadPairs", "BadShare", "BadRule", "BadAmount", "BadEdges", "BadName", "BadText", "BadSummary", "Empty", "TooFew", "NotThere", "Outside", "NothingDone", "DividedByZero", "NoSpread", "NotPositive", "Impossible", "Unbounded", "TooMany"] ["TooMany"]) rfl)
  have h_isx_Undefined : HasIX K mg ["Undefined"] ["BadInput", "Absent", "Undefined", "BadNumber", "BadSample", "BadWeights", "BadPairs", "BadShare", "BadRule", "BadAmount", "BadEdges", "BadName", "BadText", "BadSummary", "Empty", "TooFew", "NotThere", "Outside", "NothingDone", "DividedByZero", "NoSpread", "NotPositive", "Impossible", "Unbounded", "TooMany"] ["Undefined", "DividedByZero", "NoSpread", "NotPositive", "Impossible", "Unbounded", "TooMany"] := hasIX_of (fun n hn => by rw [List.mem_singleton.mp hn]; exact He.glo_ok X G (c.fact 31 (f := .glo "Undefined") rfl)) (c.chk 50 (x := isxB ["Undefined"] ["BadInput", "Absent", "Undefined", "BadNumber", "BadSample", "BadWeights", "BadPairs", "BadShare", "BadRule", "BadAmount", "BadEdges", "BadName", "BadText", "BadSummary", "Empty", "TooFew", "NotThere", "Outside", "NothingDone", "DividedByZero", "NoSpread", "NotPositive", "Impossible", "Unbounded", "TooMany"] ["Undefined", "DividedByZero", "NoSpread", "NotPositive", "Impossible", "Unbounded", "TooMany"]) rfl)
  have h_isx_Absent : HasIX K mg ["Absent"] ["BadInput", "Absent", "Undefined", "BadNumber", "BadSample", "BadWeights", "BadPairs", "BadShare", "BadRule", "BadAmount", "BadEdges", "BadName", "BadText", "BadSummary", "Empty", "TooFew", "NotThere", "Outside", "NothingDone", "DividedByZero", "NoSpread", "NotPositive", "Impossible", "Unbounded", "TooMany"] ["Absent", "Empty", "TooFew", "NotThere", "Outside", "NothingDone"] := hasIX_of (fun n hn => by rw [List.mem_singleton.mp hn]; exact He.glo_ok X G (c.fact 32 (f := .glo "Absent") rfl)) (c.chk 51 (x := isxB ["Absent"] ["BadInput", "Absent", "Undefined", "BadNumber", "BadSample", "BadWeights", "BadPairs", "BadShare", "BadRule", "BadAmount", "BadEdges", "BadName", "BadText", "BadSummary", "Empty", "TooFew", "NotThere", "Outside", "NothingDone", "DividedByZero", "NoSpread", "NotPositive", "Impossible", "Unbounded", "TooMany"] ["Absent", "Empty", "TooFew", "NotThere", "Outside", "NothingDone"]) rfl)
  have h_isx_BadInput : HasIX K mg ["BadInput"] ["BadInput", "Absent", "Undefined", "BadNumber", "BadSample", "BadWeights", "BadPairs", "BadShare", "BadRule", "BadAmount", "BadEdges", "BadName", "BadText", "BadSummary", "Empty", "TooFew", "NotThere", "Outside", "NothingDone", "DividedByZero", "NoSpread", "NotPositive", "Impossible", "Unbounded", "TooMany"] ["BadInput", "BadNumber", "BadSample", "BadWeights", "BadPairs", "BadShare", "BadRule", "BadAmount", "BadEdges", "BadName", "BadText", "BadSummary"] := hasIX_of (fun n hn => by rw [List.mem_singleton.mp hn]; exact He.glo_ok X G (c.fact 33 (f := .glo "BadInput") rfl)) (c.chk 52 (x := isxB ["BadInput"] ["BadInput", "Absent", "Undefined", "BadNumber", "BadSample", "BadWeights", "BadPairs", "BadShare", "BadRule", "BadAmount", "BadEdges", "BadName", "BadText", "BadSummary", "Empty", "TooFew", "NotThere", "Outside", "NothingDone", "DividedByZero", "NoSpread", "NotPositive", "Impossible", "Unbounded", "TooMany"] ["BadInput", "BadNumber", "BadSample", "BadWeights", "BadPairs", "BadShare", "BadRule", "BadAmount", "BadEdges", "BadName", "BadText", "BadSummary"]) rfl)
  have h_isb_ArithmeticError : HasIB K mg "ArithmeticError" ["BadInput", "Absent", "Undefined", "BadNumber", "BadSample", "BadWeights", "BadPairs", "BadShare", "BadRule", "BadAmount", "BadEdges", "BadName", "BadText", "BadSummary", "Empty", "TooFew", "NotThere", "Outside", "NothingDone", "DividedByZero", "NoSpread", "NotPositive", "Impossible", "Unbounded", "TooMany"] ["Undefined", "DividedByZero", "NoSpread", "NotPositive", "Impossible", "Unbounded", "TooMany"] := hasIB_of (c.chk 53 (x := isbB "ArithmeticError" ["BadInput", "Absent", "Undefined", "BadNumber", "BadSample", "BadWeights", "BadPairs", "BadShare", "BadRule", "BadAmount", "BadEdges", "BadName", "BadText", "BadSummary", "Empty", "TooFew", "NotThere", "Outside", "NothingDone", "DividedByZero", "NoSpread", "NotPositive", "Impossible", "Unbounded", "TooMany"] ["Undefined", "DividedByZero", "NoSpread", "NotPositive", "Impossible", "Unbounded", "TooMany"]) rfl)
  have h_isb_LookupError : HasIB K mg "LookupError" ["BadInput", "Absent", "Undefined", "BadNumber", "BadSample", "BadWeights", "BadPairs", "BadShare", "BadRule", "BadAmount", "BadEdges", "BadName", "BadText", "BadSummary", "Empty", "TooFew", "NotThere", "Outside", "NothingDone", "DividedByZero", "NoSpread", "NotPositive", "Impossible", "Unbounded", "TooMany"] ["Absent", "Empty", "TooFew", "NotThere", "Outside", "NothingDone"] := hasIB_of (c.chk 54 (x := isbB "LookupError" ["BadInput", "Absent", "Undefined", "BadNumber", "BadSample", "BadWeights", "BadPairs", "BadShare", "BadRule", "BadAmount", "BadEdges", "BadName", "BadText", "BadSummary", "Empty", "TooFew", "NotThere", "Outside", "NothingDone", "DividedByZero", "NoSpread", "NotPositive", "Impossible", "Unbounded", "TooMany"] ["Absent", "Empty", "TooFew", "NotThere", "Outside", "NothingDone"]) rfl)
  have h_isb_ValueError : HasIB K mg "ValueError" ["BadInput", "Absent", "Undefined", "BadNumber", "BadSample", "BadWeights", "BadPairs", "BadShare", "BadRule", "BadAmount", "BadEdges", "BadName", "BadText", "BadSummary", "Empty", "TooFew", "NotThere", "Outside", "NothingDone", "DividedByZero", "NoSpread", "NotPositive", "Impossible", "Unbounded", "TooMany"] ["BadInput", "BadNumber", "BadSample", "BadWeights", "BadPairs", "BadShare", "BadRule", "BadAmount", "BadEdges", "BadName", "BadText", "BadSummary"] := hasIB_of (c.chk 55 (x := isbB "ValueError" ["BadInput", "Absent", "Undefined", "BadNumber", "BadSample", "BadWeights", "BadPairs", "BadShare", "BadRule", "BadAmount", "BadEdges", "BadName", "BadText", "BadSummary", "Empty", "TooFew", "NotThere", "Outside", "NothingDone", "DividedByZero", "NoSpread", "NotPositive", "Impossible", "Unbounded", "TooMany"] ["BadInput", "BadNumber", "BadSample", "BadWeights", "BadPairs", "BadShare", "BadRule", "BadAmount", "BadEdges", "BadName", "BadText", "BadSummary"]) rfl)
  have h_sys : SysIn K := (c.chk 56 (x := sysB) rfl)
  obtain ⟨_, _, dk_NotPositive___init__, dg_NotPositive___init__⟩ := FunD.edf (c := "NotPositive") (f := "index") Q_NotPositive___init__ fun _ _ _ _ _ _ _ _ _ => ⟨_, rfl, rfl⟩
  have h_excD_NotPositive : HasED P w K mg base "NotPositive" "index" .ae := hasED_of (He.glo_ok X G (c.fact 27 (f := .glo "NotPositive") rfl)) (c.chk 19 (x := oxB .ae "NotPositive" "index") rfl) Q_NotPositive___init__ dk_NotPositive___init__ dg_NotPositive___init__ sc_NotPositive___init__ rfl
  obtain ⟨_, _, dk_BadEdges___init__, dg_BadEdges___init__⟩ := FunD.edf (c := "BadEdges") (f := "index") Q_BadEdges___init__ fun _ _ _ _ _ _ _ _ _ => ⟨_, rfl, rfl⟩
  have h_excD_BadEdges : HasED P w K mg base "BadEdges" "index" .ve := hasED_of (He.glo_ok X G (c.fact 17 (f := .glo "BadEdges") rfl)) (c.chk 9 (x := oxB .ve "BadEdges" "index") rfl) Q_BadEdges___init__ dk_BadEdges___init__ dg_BadEdges___init__ sc_BadEdges___init__ rfl
  obtain ⟨_, _, dk_BadPairs___init__, dg_BadPairs___init__⟩ := FunD.edf (c := "BadPairs") (f := "index") Q_BadPairs___init__ fun _ _ _ _ _ _ _ _ _ => ⟨_, rfl, rfl⟩
  have h_excD_BadPairs : HasED P w K mg base "BadPairs" "index" .ve := hasED_of (He.glo_ok X G (c.fact 18 (f := .glo "BadPairs") rfl)) (c.chk 10 (x := oxB .ve "BadPairs" "index") rfl) Q_BadPairs___init__ dk_BadPairs___init__ dg_BadPairs___init__ sc_BadPairs___init__ rfl
  obtain ⟨_, _, dk_BadWeights___init__, dg_BadWeights___init__⟩ := FunD.edf (c := "BadWeights") (f := "index") Q_BadWeights___init__ fun _ _ _ _ _ _ _ _ _ => ⟨_, rfl, rfl⟩
  have h_excD_BadWeights : HasED P w K mg base "BadWeights" "index" .ve := hasED_of (He.glo_ok X G (c.fact 19 (f := .glo "BadWeights") rfl)) (c.chk 11 (x := oxB .ve "BadWeights" "index") rfl) Q_BadWeights___init__ dk_BadWeights___init__ dg_BadWeights___init__ sc_BadWeights___init__ rfl
  obtain ⟨_, _, dk_BadSample___init__, dg_BadSample___init__⟩ := FunD.edf (c := "BadSample") (f := "index") Q_BadSample___init__ fun _ _ _ _ _ _ _ _ _ => ⟨_, rfl, rfl⟩
  have h_excD_BadSample : HasED P w K mg base "BadSample" "index" .ve := hasED_of (He.glo_ok X G (c.fact 13 (f := .glo "BadSample") rfl)) (c.chk 5 (x := oxB .ve "BadSample" "index") rfl) Q_BadSample___init__ dk_BadSample___init__ dg_BadSample___init__ sc_BadSample___init__ rfl
  have r_w_source : FJ P w K mg base (He.ga K "Ratio") 1 _ fd_w_source ["_law_script", "_law_k"] (runBody 3 d_w_source) := (ok_w_source E  Q_w_source)
  have b_w_source : Binds K fd_w_source ["_law_script", "_law_k"] [] := (FunD.bindsN (ps := ["_law_script", "_law_k"]) Q_w_source fun _ _ _ _ _ _ us hl => match us, hl with | [_, _], _ => rfl)
  have h_w_source : Has P w K mg base (He.ga K "Ratio") "_law_source" 1 ["_law_script", "_law_k"] F_w_source := ⟨_, fd_w_source, He.glo_ok X G (c.fact 0 (f := .glo "_law_source") rfl), Q_w_source.kp, b_w_source, r_w_source⟩
  have r_w_next : FJ P w K mg base (He.ga K "Ratio") 1 _ fd_w_next ["_law_source_here", "_law_many"] (runBody 5 d_w_next) := (ok_w_next E  Q_w_next)
  have b_w_next : Binds K fd_w_next ["_law_source_here", "_law_many"] [] := (FunD.bindsN (ps := ["_law_source_here", "_law_many"]) Q_w_next fun _ _ _ _ _ _ us hl => match us, hl with | [_, _], _ => rfl)
  have h_w_next : Has P w K mg base (He.ga K "Ratio") "_law_next" 1 ["_law_source_here", "_law_many"] F_w_next := ⟨_, fd_w_next, He.glo_ok X G (c.fact 1 (f := .glo "_law_next") rfl), Q_w_next.kp, b_w_next, r_w_next⟩
  have r_w_pick : FJ P w K mg base (He.ga K "Ratio") 2 _ fd_w_pick ["_law_source_here", "_law_items"] (runBody 2 d_w_pick) := (ok_w_pick E h_w_next Q_w_pick)
  have b_w_pick : Binds K fd_w_pick ["_law_source_here", "_law_items"] [] := (FunD.bindsN (ps := ["_law_source_here", "_law_items"]) Q_w_pick fun _ _ _ _ _ _ us hl => match us, hl with | [_, _], _ => rfl)
  have h_w_pick : Has P w K mg base (He.ga K "Ratio") "_law_pick" 2 ["_law_source_here", "_law_items"] F_w_pick := ⟨_, fd_w_pick, He.glo_ok X G (c.fact 2 (f := .glo "_law_pick") rfl), Q_w_pick.kp, b_w_pick, r_w_pick⟩
  have r_w_named : FJ P w K mg base (He.ga K "Ratio") 3 _ fd_w_named ["_law_thing"] (runBody 2 d_w_named) := (ok_w_named E h_exc_BadAmount h_excK_BadAmount h_exc_BadRule h_excK_BadRule h_exc_BadShare h_excK_BadShare h_exc_BadNumber h_excK_BadNumber h_exc_BadSample h_excK_BadSample h_exc_BadSummary h_excK_BadSummary h_exc_BadText h_excK_BadText h_exc_BadName h_excK_BadName h_exc_BadEdges h_excK_BadEdges h_exc_BadPairs h_excK_BadPairs h_exc_BadWeights h_excK_BadWeights h_exc_NothingDone h_exc_Outside h_excK_Outside h_exc_NotThere h_excK_NotThere h_exc_TooFew h_excK_TooFew h_exc_Empty h_exc_Unbounded h_exc_Impossible h_exc_NotPositive h_excK_NotPositive h_exc_NoSpread h_exc_DividedByZero h_exc_TooMany h_excK_TooMany Q_w_named)
  have b_w_named : Binds K fd_w_named ["_law_thing"] [] := (FunD.bindsN (ps := ["_law_thing"]) Q_w_named fun _ _ _ _ _ _ us hl => match us, hl with | [_], _ => rfl)
  have h_w_named : Has P w K mg base (He.ga K "Ratio") "_law_named" 3 ["_law_thing"] F_w_named := ⟨_, fd_w_named, He.glo_ok X G (c.fact 3 (f := .glo "_law_named") rfl), Q_w_named.kp, b_w_named, r_w_named⟩
  have r_w_made : FJ P w K mg base (He.ga K "Ratio") 3 _ fd_w_made ["_law_thing"] (runBody 2 d_w_made) := (ok_w_made E h_exc_BadText h_exc_BadName h_exc_BadAmount h_exc_BadRule h_exc_BadShare h_exc_BadNumber h_exc_BadEdges h_exc_BadPairs h_exc_BadWeights h_exc_BadSample h_exc_BadSummary h_exc_NothingDone h_exc_Outside h_exc_NotThere h_exc_TooFew h_exc_Empty h_exc_TooMany h_exc_Unbounded h_exc_Impossible h_exc_NotPositive h_exc_NoSpread h_exc_DividedByZero Q_w_made)
  have b_w_made : Binds K fd_w_made ["_law_thing"] [] := (FunD.bindsN (ps := ["_law_thing"]) Q_w_made fun _ _ _ _ _ _ us hl => match us, hl with | [_], _ => rfl)
  have h_w_made : Has P w K mg base (He.ga K "Ratio") "_law_made" 3 ["_law_thing"] F_w_made := ⟨_, fd_w_made, He.glo_ok X G (c.fact 4 (f := .glo "_law_made") rfl), Q_w_made.kp, b_w_made, r_w_made⟩
  have r_w_fields : FJ P w K mg base (He.ga K "Ratio") 1 _ fd_w_fields ["_law_some"] (runBody 3 d_w_fields) := (ok_w_fields E h_ef_value h_ef_index h_ef_most h_ef_item h_ef_needed Q_w_fields)
  have b_w_fields : Binds K fd_w_fields ["_law_some"] [] := (FunD.bindsN (ps := ["_law_some"]) Q_w_fields fun _ _ _ _ _ _ us hl => match us, hl with | [_], _ => rfl)
  have h_w_fields : Has P w K mg base (He.ga K "Ratio") "_law_fields" 1 ["_law_some"] F_w_fields := ⟨_, fd_w_fields, He.glo_ok X G (c.fact 5 (f := .glo "_law_fields") rfl), Q_w_fields.kp, b_w_fields, r_w_fields⟩
  have r_w_marks : FJ P w K mg base (He.ga K "Ratio") 1 _ fd_w_marks ["_law_error"] (runBody 2 d_w_marks) := (ok_w_marks E h_isx_BadRule h_isx_BadShare h_isx_BadNumber h_isx_BadText h_isx_BadName h_isx_BadAmount h_isx_BadWeights h_isx_BadSample h_isx_BadSummary h_isx_Empty h_isx_BadEdges h_isx_BadPairs h_isx_Outside h_isx_NotThere h_isx_TooFew h_isx_NoSpread h_isx_DividedByZero h_isx_NothingDone h_isx_Unbounded h_isx_Impossible h_isx_NotPositive h_isx_TooMany Q_w_marks)
  have b_w_marks : Binds K fd_w_marks ["_law_error"] [] := (FunD.bindsN (ps := ["_law_error"]) Q_w_marks fun _ _ _ _ _ _ us hl => match us, hl with | [_], _ => rfl)
  have h_w_marks : Has P w K mg base (He.ga K "Ratio") "_law_marks" 1 ["_law_error"] F_w_marks := ⟨_, fd_w_marks, He.glo_ok X G (c.fact 6 (f := .glo "_law_marks") rfl), Q_w_marks.kp, b_w_marks, r_w_marks⟩
  have r_w_families : FJ P w K mg base (He.ga K "Ratio") 1 _ fd_w_families ["_law_error"] (runBody 2 d_w_families) := (ok_w_families E h_isx_Undefined h_isx_Absent h_isx_BadInput h_isb_ArithmeticError h_isb_LookupError h_isb_ValueError Q_w_families)
  have b_w_families : Binds K fd_w_families ["_law_error"] [] := (FunD.bindsN (ps := ["_law_error"]) Q_w_families fun _ _ _ _ _ _ us hl => match us, hl with | [_], _ => rfl)
  have h_w_families : Has P w K mg base (He.ga K "Ratio") "_law_families" 1 ["_law_error"] F_w_families := ⟨_, fd_w_families, He.glo_ok X G (c.fact 7 (f := .glo "_law_families") rfl), Q_w_families.kp, b_w_families, r_w_families⟩
  exact (ok_law E h_sys h_exc_NotPositive h_excD_NotPositive h_ef_index h_exc_BadEdges h_excD_BadEdges h_exc_BadPairs h_excD_BadPairs h_exc_BadWeights h_excD_BadWeights h_exc_BadSample h_excD_BadSample h_w_source h_w_pick h_w_named h_w_made h_w_fields h_w_marks h_w_families Q_law)
end Gk01
set_option maxHeartbeats 1000000
namespace PX
open PySem L3 LD PC PD
end PX
namespace PD
open PySem L3 LD PC
/-- the mean -/
def mn (qs : List Rat) : Rat := sumQ qs / ((qs.length : Int) : Rat)
end PD
namespace L3
section
variable {s : S} {Q : PV → S → Prop} {da db dc : DE} {dr dk : DA} {F FR : DF} {n m : Nat} {dps : List PV} {h : PV → PV → S → R S PV} {h1 : PV → S → R S PV} {gP : List PV → List PV → List PV}
theorem W_dFnD : W (dFnD F n dps dr s) Q = W (dr s) (fun ps s1 => ps.length = n ∧ W (F (ps ++ dps) s1.mu) (fun v mu => Q v ⟨s1.env, mu⟩)) := by
  show W ((dr s).bind _) Q = _
  rw [W_bind]
  congr 1
  funext ps s1
  by_cases z : ps.length = n
  · rw [if_pos z, W_fnS]; simp [z]
  · rw [if_neg z]; simp [z]
@[simp ↓] theorem I_dFnD : WI (dFnD F n dps dr s) (K := ⟨Q⟩) = WI (dr s) (K := ⟨(fun ps s1 => ps.length = n ∧ WI (F (ps ++ dps) s1.mu) (K := ⟨(fun v mu => Q v ⟨s1.env, mu⟩)⟩))⟩) := W_dFnD
theorem W_dFnK : W (dFnK F n m gP dr dk s) Q = W (dr s) (fun ps s1 => W (dk s1) fun zs s2 => (ps.length = n ∧ zs.length = m) ∧ W (F (gP ps zs) s2.mu) (fun v mu => Q v ⟨s2.env, mu⟩)) := by
  show W ((dr s).bind _) Q = _
  rw [W_bind]
  congr 1
  funext ps s1
  rw [W_bind]
  congr 1
  funext zs s2
  by_cases z : ps.length = n ∧ zs.length = m
  · rw [if_pos z, W_fnS]; simp [z]
  · rw [if_neg z]; simp only [W_bad, z, false_and]
@[simp ↓] theorem I_dFnK : WI (dFnK F n m gP dr dk s) (K := ⟨Q⟩) = WI (dr s) (K := ⟨(fun ps s1 => WI (dk s1) (K := ⟨fun zs s2 => (ps.length = n ∧ zs.length = m) ∧ WI (F (gP ps zs) s2.mu) (K := ⟨(fun v mu => Q v ⟨s2.env, mu⟩)⟩)⟩))⟩) := W_dFnK
theorem fmt2 {a b : PV} : W (fMt 2 F [a, b] s) Q = W (F [a, b] s.mu) (fun v mu => Q v ⟨s.env, mu⟩) := by rw [W_fMt]; simp
theorem fmt1 {a : PV} : W (fMt 1 F [a] s) Q = W (F [a] s.mu) (fun v mu => Q v ⟨s.env, mu⟩) := by rw [W_fMt]; simp
theorem W_gRL_rat {a : Rat} {b : Rat} : W (gRL F h (.rat a) (.rat b) s) Q = W (F [.rat a, (.rat b)] s.mu) (fun v mu => Q v ⟨s.env, mu⟩) := fmt2
@[simp ↓] theorem I_gRL_rat {a : Rat} {b : Rat} : WI (gRL F h (.rat a) (.rat b) s) (K := ⟨Q⟩) = WI (F [.rat a, (.rat b)] s.mu) (K := ⟨(fun v mu => Q v ⟨s.env, mu⟩)⟩) := W_gRL_rat
theorem W_gRR_rat {a : Rat} {b : Rat} : W (gRR F FR h (.rat a) (.rat b) s) Q = W (F [.rat a, (.rat b)] s.mu) (fun v mu => Q v ⟨s.env, mu⟩) := fmt2
@[simp ↓] theorem I_gRR_rat {a : Rat} {b : Rat} : WI (gRR F FR h (.rat a) (.rat b) s) (K := ⟨Q⟩) = WI (F [.rat a, (.rat b)] s.mu) (K := ⟨(fun v mu => Q v ⟨s.env, mu⟩)⟩) := W_gRR_rat
theorem W_gRL_int {a : Rat} {b : Int} : W (gRL F h (.rat a) (.int b) s) Q = W (F [.rat a, (.int b)] s.mu) (fun v mu => Q v ⟨s.env, mu⟩) := fmt2
@[simp ↓] theorem I_gRL_int {a : Rat} {b : Int} : WI (gRL F h (.rat a) (.int b) s) (K := ⟨Q⟩) = WI (F [.rat a, (.int b)] s.mu) (K := ⟨(fun v mu => Q v ⟨s.env, mu⟩)⟩) := W_gRL_int
theorem W_gRR_int {a : Rat} {b : Int} : W (gRR F FR h (.rat a) (.int b) s) Q = W (F [.rat a, (.int b)] s.mu) (fun v mu => Q v ⟨s.env, mu⟩) := fmt2
@[simp ↓] theorem I_gRR_int {a : Rat} {b : Int} : WI (gRR F FR h (.rat a) (.int b) s) (K := ⟨Q⟩) = WI (F [.rat a, (.int b)] s.mu) (K := ⟨(fun v mu => Q v ⟨s.env, mu⟩)⟩) := W_gRR_int
theorem W_gRR_ir {a : Int} {b : Rat} : W (gRR F FR h (.int a) (.rat b) s) Q = W (FR [.rat b, .int a] s.mu) (fun v mu => Q v ⟨s.env, mu⟩) := fmt2
@[simp ↓] theorem I_gRR_ir {a : Int} {b : Rat} : WI (gRR F FR h (.int a) (.rat b) s) (K := ⟨Q⟩) = WI (FR [.rat b, .int a] s.mu) (K := ⟨(fun v mu => Q v ⟨s.env, mu⟩)⟩) := W_gRR_ir
theorem W_gRR_ii {a b : Int} : W (gRR F FR h (.int a) (.int b) s) Q = W (h (.int a) (.int b) s) Q := rfl
@[simp ↓] theorem I_gRR_ii {a b : Int} : WI (gRR F FR h (.int a) (.int b) s) (K := ⟨Q⟩) = WI (h (.int a) (.int b) s) (K := ⟨Q⟩) := W_gRR_ii
theorem W_gEqR_rat {a : Rat} {b : Rat} : W (gEqR F h (.rat a) (.rat b) s) Q = W (F [.rat a, (.rat b)] s.mu) (fun v mu => Q v ⟨s.env, mu⟩) := fmt2
@[simp ↓] theorem I_gEqR_rat {a : Rat} {b : Rat} : WI (gEqR F h (.rat a) (.rat b) s) (K := ⟨Q⟩) = WI (F [.rat a, (.rat b)] s.mu) (K := ⟨(fun v mu => Q v ⟨s.env, mu⟩)⟩) := W_gEqR_rat
theorem W_gNeR_rat {a : Rat} {b : Rat} : W (gNeR F h (.rat a) (.rat b) s) Q = W (F [.rat a, (.rat b)] s.mu) (fun v mu => W (notK v ⟨s.env, mu⟩) Q) := W_bind.trans fmt2
@[simp ↓] theorem I_gNeR_rat {a : Rat} {b : Rat} : WI (gNeR F h (.rat a) (.rat b) s) (K := ⟨Q⟩) = WI (F [.rat a, (.rat b)] s.mu) (K := ⟨(fun v mu => WI (notK v ⟨s.env, mu⟩) (K := ⟨Q⟩))⟩) := W_gNeR_rat
theorem W_gEqR_int {a : Rat} {b : Int} : W (gEqR F h (.rat a) (.int b) s) Q = W (F [.rat a, (.int b)] s.mu) (fun v mu => Q v ⟨s.env, mu⟩) := fmt2
@[simp ↓] theorem I_gEqR_int {a : Rat} {b : Int} : WI (gEqR F h (.rat a) (.int b) s) (K := ⟨Q⟩) = WI (F [.rat a, (.int b)] s.mu) (K := ⟨(fun v mu => Q v ⟨s.env, mu⟩)⟩) := W_gEqR_int
theorem W_gNeR_int {a : Rat} {b : Int} : W (gNeR F h (.rat a) (.int b) s) Q = W (F [.rat a, (.int b)] s.mu) (fun v mu => W (notK v ⟨s.env, mu⟩) Q) := W_bind.trans fmt2
@[simp ↓] theorem I_gNeR_int {a : Rat} {b : Int} : WI (gNeR F h (.rat a) (.int b) s) (K := ⟨Q⟩) = WI (F [.rat a, (.int b)] s.mu) (K := ⟨(fun v mu => WI (notK v ⟨s.env, mu⟩) (K := ⟨Q⟩))⟩) := W_gNeR_int
theorem W_gEqR_bl {a : Rat} {b : Bool} : W (gEqR F h (.rat a) (.bl b) s) Q = W (F [.rat a, (.bl b)] s.mu) (fun v mu => Q v ⟨s.env, mu⟩) := fmt2
@[simp ↓] theorem I_gEqR_bl {a : Rat} {b : Bool} : WI (gEqR F h (.rat a) (.bl b) s) (K := ⟨Q⟩) = WI (F [.rat a, (.bl b)] s.mu) (K := ⟨(fun v mu => Q v ⟨s.env, mu⟩)⟩) := W_gEqR_bl
theorem W_gNeR_bl {a : Rat} {b : Bool} : W (gNeR F h (.rat a) (.bl b) s) Q = W (F [.rat a, (.bl b)] s.mu) (fun v mu => W (notK v ⟨s.env, mu⟩) Q) := W_bind.trans fmt2
@[simp ↓] theorem I_gNeR_bl {a : Rat} {b : Bool} : WI (gNeR F h (.rat a) (.bl b) s) (K := ⟨Q⟩) = WI (F [.rat a, (.bl b)] s.mu) (K := ⟨(fun v mu => WI (notK v ⟨s.env, mu⟩) (K := ⟨Q⟩))⟩) := W_gNeR_bl
theorem W_gEqR_str {a : Rat} {b : PySem.Str} : W (gEqR F h (.rat a) (.str b) s) Q = W (F [.rat a, (.str b)] s.mu) (fun v mu => Q v ⟨s.env, mu⟩) := fmt2
@[simp ↓] theorem I_gEqR_str {a : Rat} {b : PySem.Str} : WI (gEqR F h (.rat a) (.str b) s) (K := ⟨Q⟩) = WI (F [.rat a, (.str b)] s.mu) (K := ⟨(fun v mu => Q v ⟨s.env, mu⟩)⟩) := W_gEqR_str
theorem W_gNeR_str {a : Rat} {b : PySem.Str} : W (gNeR F h (.rat a) (.str b) s) Q = W (F [.rat a, (.str b)] s.mu) (fun v mu => W (notK v ⟨s.env, mu⟩) Q) := W_bind.trans fmt2
@[simp ↓] theorem I_gNeR_str {a : Rat} {b : PySem.Str} : WI (gNeR F h (.rat a) (.str b) s) (K := ⟨Q⟩) = WI (F [.rat a, (.str b)] s.mu) (K := ⟨(fun v mu => WI (notK v ⟨s.env, mu⟩) (K := ⟨Q⟩))⟩) := W_gNeR_str
theorem W_gEqR_non {a : Rat} : W (gEqR F h (.rat a) .non s) Q = W (F [.rat a, .non] s.mu) (fun v mu => Q v ⟨s.env, mu⟩) := fmt2
@[simp ↓] theorem I_gEqR_non {a : Rat} : WI (gEqR F h (.rat a) .non s) (K := ⟨Q⟩) = WI (F [.rat a, .non] s.mu) (K := ⟨(fun v mu => Q v ⟨s.env, mu⟩)⟩) := W_gEqR_non
theorem W_gNeR_non {a : Rat} : W (gNeR F h (.rat a) .non s) Q = W (F [.rat a, .non] s.mu) (fun v mu => W (notK v ⟨s.env, mu⟩) Q) := W_bind.trans fmt2
@[simp ↓] theorem I_gNeR_non {a : Rat} : WI (gNeR F h (.rat a) .non s) (K := ⟨Q⟩) = WI (F [.rat a, .non] s.mu) (K := ⟨(fun v mu => WI (notK v ⟨s.env, mu⟩) (K := ⟨Q⟩))⟩) := W_gNeR_non
theorem W_gRL_lnon {q : PV} : W (gRL F h .non q s) Q = W (h .non q s) Q := rfl
@[simp ↓] theorem I_gRL_lnon {q : PV} : WI (gRL F h .non q s) (K := ⟨Q⟩) = WI (h .non q s) (K := ⟨Q⟩) := W_gRL_lnon
theorem W_gEqR_lnon {q : PV} : W (gEqR F h .non q s) Q = W (h .non q s) Q := rfl
@[simp ↓] theorem I_gEqR_lnon {q : PV} : WI (gEqR F h .non q s) (K := ⟨Q⟩) = WI (h .non q s) (K := ⟨Q⟩) := W_gEqR_lnon
theorem W_gNeR_lnon {q : PV} : W (gNeR F h .non q s) Q = W (h .non q s) Q := rfl
@[simp ↓] theorem I_gNeR_lnon {q : PV} : WI (gNeR F h .non q s) (K := ⟨Q⟩) = WI (h .non q s) (K := ⟨Q⟩) := W_gNeR_lnon
theorem W_gRL_lbl {x : Bool} {q : PV} : W (gRL F h (.bl x) q s) Q = W (h (.bl x) q s) Q := rfl
@[simp ↓] theorem I_gRL_lbl {x : Bool} {q : PV} : WI (gRL F h (.bl x) q s) (K := ⟨Q⟩) = WI (h (.bl x) q s) (K := ⟨Q⟩) := W_gRL_lbl
theorem W_gEqR_lbl {x : Bool} {q : PV} : W (gEqR F h (.bl x) q s) Q = W (h (.bl x) q s) Q := rfl
@[simp ↓] theorem I_gEqR_lbl {x : Bool} {q : PV} : WI (gEqR F h (.bl x) q s) (K := ⟨Q⟩) = WI (h (.bl x) q s) (K := ⟨Q⟩) := W_gEqR_lbl
theorem W_gNeR_lbl {x : Bool} {q : PV} : W (gNeR F h (.bl x) q s) Q = W (h (.bl x) q s) Q := rfl
@[simp ↓] theorem I_gNeR_lbl {x : Bool} {q : PV} : WI (gNeR F h (.bl x) q s) (K := ⟨Q⟩) = WI (h (.bl x) q s) (K := ⟨Q⟩) := W_gNeR_lbl
theorem W_gRL_lint {x : Int} {q : PV} : W (gRL F h (.int x) q s) Q = W (h (.int x) q s) Q := rfl
@[simp ↓] theorem I_gRL_lint {x : Int} {q : PV} : WI (gRL F h (.int x) q s) (K := ⟨Q⟩) = WI (h (.int x) q s) (K := ⟨Q⟩) := W_gRL_lint
theorem W_gEqR_lint {x : Int} {q : PV} : W (gEqR F h (.int x) q s) Q = W (h (.int x) q s) Q := rfl
@[simp ↓] theorem I_gEqR_lint {x : Int} {q : PV} : WI (gEqR F h (.int x) q s) (K := ⟨Q⟩) = WI (h (.int x) q s) (K := ⟨Q⟩) := W_gEqR_lint
theorem W_gNeR_lint {x : Int} {q : PV} : W (gNeR F h (.int x) q s) Q = W (h (.int x) q s) Q := rfl
@[simp ↓] theorem I_gNeR_lint {x : Int} {q : PV} : WI (gNeR F h (.int x) q s) (K := ⟨Q⟩) = WI (h (.int x) q s) (K := ⟨Q⟩) := W_gNeR_lint
theorem W_gRL_lstr {x : PySem.Str} {q : PV} : W (gRL F h (.str x) q s) Q = W (h (.str x) q s) Q := rfl
@[simp ↓] theorem I_gRL_lstr {x : PySem.Str} {q : PV} : WI (gRL F h (.str x) q s) (K := ⟨Q⟩) = WI (h (.str x) q s) (K := ⟨Q⟩) := W_gRL_lstr
theorem W_gEqR_lstr {x : PySem.Str} {q : PV} : W (gEqR F h (.str x) q s) Q = W (h (.str x) q s) Q := rfl
@[simp ↓] theorem I_gEqR_lstr {x : PySem.Str} {q : PV} : WI (gEqR F h (.str x) q s) (K := ⟨Q⟩) = WI (h (.str x) q s) (K := ⟨Q⟩) := W_gEqR_lstr
theorem W_gNeR_lstr {x : PySem.Str} {q : PV} : W (gNeR F h (.str x) q s) Q = W (h (.str x) q s) Q := rfl
@[simp ↓] theorem I_gNeR_lstr {x : PySem.Str} {q : PV} : WI (gNeR F h (.str x) q s) (K := ⟨Q⟩) = WI (h (.str x) q s) (K := ⟨Q⟩) := W_gNeR_lstr
theorem W_gRL_ltup {x : List PV} {q : PV} : W (gRL F h (.tup x) q s) Q = W (h (.tup x) q s) Q := rfl
@[simp ↓] theorem I_gRL_ltup {x : List PV} {q : PV} : WI (gRL F h (.tup x) q s) (K := ⟨Q⟩) = WI (h (.tup x) q s) (K := ⟨Q⟩) := W_gRL_ltup
theorem W_gEqR_ltup {x : List PV} {q : PV} : W (gEqR F h (.tup x) q s) Q = W (h (.tup x) q s) Q := rfl
@[simp ↓] theorem I_gEqR_ltup {x : List PV} {q : PV} : WI (gEqR F h (.tup x) q s) (K := ⟨Q⟩) = WI (h (.tup x) q s) (K := ⟨Q⟩) := W_gEqR_ltup
theorem W_gNeR_ltup {x : List PV} {q : PV} : W (gNeR F h (.tup x) q s) Q = W (h (.tup x) q s) Q := rfl
@[simp ↓] theorem I_gNeR_ltup {x : List PV} {q : PV} : WI (gNeR F h (.tup x) q s) (K := ⟨Q⟩) = WI (h (.tup x) q s) (K := ⟨Q⟩) := W_gNeR_ltup
theorem W_gRL_llst {x : List PV} {q : PV} : W (gRL F h (.lst x) q s) Q = W (h (.lst x) q s) Q := rfl
@[simp ↓] theorem I_gRL_llst {x : List PV} {q : PV} : WI (gRL F h (.lst x) q s) (K := ⟨Q⟩) = WI (h (.lst x) q s) (K := ⟨Q⟩) := W_gRL_llst
theorem W_gEqR_llst {x : List PV} {q : PV} : W (gEqR F h (.lst x) q s) Q = W (h (.lst x) q s) Q := rfl
@[simp ↓] theorem I_gEqR_llst {x : List PV} {q : PV} : WI (gEqR F h (.lst x) q s) (K := ⟨Q⟩) = WI (h (.lst x) q s) (K := ⟨Q⟩) := W_gEqR_llst
theorem W_gNeR_llst {x : List PV} {q : PV} : W (gNeR F h (.lst x) q s) Q = W (h (.lst x) q s) Q := rfl
@[simp ↓] theorem I_gNeR_llst {x : List PV} {q : PV} : WI (gNeR F h (.lst x) q s) (K := ⟨Q⟩) = WI (h (.lst x) q s) (K := ⟨Q⟩) := W_gNeR_llst
theorem W_gRL_lfrz {x : List PV} {q : PV} : W (gRL F h (.frz x) q s) Q = W (h (.frz x) q s) Q := rfl
@[simp ↓] theorem I_gRL_lfrz {x : List PV} {q : PV} : WI (gRL F h (.frz x) q s) (K := ⟨Q⟩) = WI (h (.frz x) q s) (K := ⟨Q⟩) := W_gRL_lfrz
theorem W_gEqR_lfrz {x : List PV} {q : PV} : W (gEqR F h (.frz x) q s) Q = W (h (.frz x) q s) Q := rfl
@[simp ↓] theorem I_gEqR_lfrz {x : List PV} {q : PV} : WI (gEqR F h (.frz x) q s) (K := ⟨Q⟩) = WI (h (.frz x) q s) (K := ⟨Q⟩) := W_gEqR_lfrz
theorem W_gNeR_lfrz {x : List PV} {q : PV} : W (gNeR F h (.frz x) q s) Q = W (h (.frz x) q s) Q := rfl
@[simp ↓] theorem I_gNeR_lfrz {x : List PV} {q : PV} : WI (gNeR F h (.frz x) q s) (K := ⟨Q⟩) = WI (h (.frz x) q s) (K := ⟨Q⟩) := W_gNeR_lfrz
theorem W_gRR_lstr {x : PySem.Str} {q : PV} : W (gRR F FR h (.str x) q s) Q = W (h (.str x) q s) Q := rfl
@[simp ↓] theorem I_gRR_lstr {x : PySem.Str} {q : PV} : WI (gRR F FR h (.str x) q s) (K := ⟨Q⟩) = WI (h (.str x) q s) (K := ⟨Q⟩) := W_gRR_lstr
theorem W_gRR_ltup {x : List PV} {q : PV} : W (gRR F FR h (.tup x) q s) Q = W (h (.tup x) q s) Q := rfl
@[simp ↓] theorem I_gRR_ltup {x : List PV} {q : PV} : WI (gRR F FR h (.tup x) q s) (K := ⟨Q⟩) = WI (h (.tup x) q s) (K := ⟨Q⟩) := W_gRR_ltup
theorem W_gRR_llst {x : List PV} {q : PV} : W (gRR F FR h (.lst x) q s) Q = W (h (.lst x) q s) Q := rfl
@[simp ↓] theorem I_gRR_llst {x : List PV} {q : PV} : WI (gRR F FR h (.lst x) q s) (K := ⟨Q⟩) = WI (h (.lst x) q s) (K := ⟨Q⟩) := W_gRR_llst
theorem W_gRR_lfrz {x : List PV} {q : PV} : W (gRR F FR h (.frz x) q s) Q = W (h (.frz x) q s) Q := rfl
@[simp ↓] theorem I_gRR_lfrz {x : List PV} {q : PV} : WI (gRR F FR h (.frz x) q s) (K := ⟨Q⟩) = WI (h (.frz x) q s) (K := ⟨Q⟩) := W_gRR_lfrz
theorem W_gR1_rat {a : Rat} : W (gR1 F h1 (.rat a)  s) Q = W (F [.rat a] s.mu) (fun v mu => Q v ⟨s.env, mu⟩) := fmt1
@[simp ↓] theorem I_gR1_rat {a : Rat} : WI (gR1 F h1 (.rat a)  s) (K := ⟨Q⟩) = WI (F [.rat a] s.mu) (K := ⟨(fun v mu => Q v ⟨s.env, mu⟩)⟩) := W_gR1_rat
theorem W_gR1_int {a : Int} : W (gR1 F h1 (.int a)  s) Q = W (h1 (.int a) s) Q := rfl
@[simp ↓] theorem I_gR1_int {a : Int} : WI (gR1 F h1 (.int a)  s) (K := ⟨Q⟩) = WI (h1 (.int a) s) (K := ⟨Q⟩) := W_gR1_int
theorem W_addL {xs ys : List PV} : W (gAdd (.lst xs) (.lst ys) s) Q = (xs.length + ys.length ≤ 16777216 ∧ Q (.lst (xs ++ ys)) s) := by
  show W (if xs.length + ys.length ≤ 16777216 then _ else _) Q = _
  by_cases z : xs.length + ys.length ≤ 16777216 <;> simp [z]
@[simp ↓] theorem I_addL {xs ys : List PV} : WI (gAdd (.lst xs) (.lst ys) s) (K := ⟨Q⟩) = (xs.length + ys.length ≤ 16777216 ∧ Q (.lst (xs ++ ys)) s) := W_addL
theorem W_addT {xs ys : List PV} : W (gAdd (.tup xs) (.tup ys) s) Q = (xs.length + ys.length ≤ 16777216 ∧ Q (.tup (xs ++ ys)) s) := by
  show W (if xs.length + ys.length ≤ 16777216 then _ else _) Q = _
  by_cases z : xs.length + ys.length ≤ 16777216 <;> simp [z]
@[simp ↓] theorem I_addT {xs ys : List PV} : WI (gAdd (.tup xs) (.tup ys) s) (K := ⟨Q⟩) = (xs.length + ys.length ≤ 16777216 ∧ Q (.tup (xs ++ ys)) s) := W_addT
theorem W_addS {xs ys : PySem.Str} : W (gAdd (.str xs) (.str ys) s) Q = (xs.length + ys.length ≤ 16777216 ∧ Q (.str (xs ++ ys)) s) := by
  show W (if xs.length + ys.length ≤ 16777216 then _ else _) Q = _
  by_cases z : xs.length + ys.length ≤ 16777216 <;> simp [z]
@[simp ↓] theorem I_addS {xs ys : PySem.Str} : WI (gAdd (.str xs) (.str ys) s) (K := ⟨Q⟩) = (xs.length + ys.length ≤ 16777216 ∧ Q (.str (xs ++ ys)) s) := W_addS
theorem W_mulI {i j : Int} : W (gMul (.int i) (.int j) s) Q = (ib i + ib j ≤ 1000000 ∧ Q (.int (i * j)) s) := by
  show W (if ib i + ib j ≤ 1000000 then _ else _) Q = _
  by_cases z : ib i + ib j ≤ 1000000 <;> simp [z]
@[simp ↓] theorem I_mulI {i j : Int} : WI (gMul (.int i) (.int j) s) (K := ⟨Q⟩) = (ib i + ib j ≤ 1000000 ∧ Q (.int (i * j)) s) := W_mulI
theorem W_mulL {xs : List PV} {k : Int} : W (gMul (.lst xs) (.int k) s) Q = ((-(2 ^ 63) ≤ k ∧ k < 2 ^ 63 ∧ xs.length * k.toNat ≤ 16777216) ∧ Q (.lst (List.replicate k.toNat xs).flatten) s) := by
  show W (if -(2 ^ 63) ≤ k ∧ k < 2 ^ 63 ∧ xs.length * k.toNat ≤ 16777216 then _ else _) Q = _
  by_cases z : -(2 ^ 63) ≤ k ∧ k < 2 ^ 63 ∧ xs.length * k.toNat ≤ 16777216
  · rw [if_pos z]; simp only [z, W_ok, and_self, true_and]
  · rw [if_neg z]; simp only [z, W_bad, false_and]
@[simp ↓] theorem I_mulL {xs : List PV} {k : Int} : WI (gMul (.lst xs) (.int k) s) (K := ⟨Q⟩) = ((-(2 ^ 63) ≤ k ∧ k < 2 ^ 63 ∧ xs.length * k.toNat ≤ 16777216) ∧ Q (.lst (List.replicate k.toNat xs).flatten) s) := W_mulL
end
end L3
namespace PD
open PySem L3 LD PC
variable {Fq : List MO → Prop}
section
variable {mu : List MO} {n k : Nat} {Q : PV → List MO → Prop}
theorem w_pick {xs : List PV} (h : SrcR Fq mu n k) (hk : k + 1 ≤ 2 ^ 49) (hne : xs ≠ []) (hl : xs.length ≤ 16777216) (i : ∀ x mu', x ∈ xs → SrcR Fq mu' n (k + 1) → Q x mu') : W (F_w_pick [.ptr n, .lst xs] mu) Q :=
  let ⟨x, mu', e, h1, h2⟩ := pick_ok h hk hne hl
  W.of e (i x mu' h1 h2)
theorem w_source {ns : List Int} {j : Nat} {mu : List MO} {Q : PV → List MO → Prop} (hk : j ≤ 2 ^ 40) (hf : flatMs mu = true) (i : ∀ mu', Src mu' mu.length (3 * j) → Q (.ptr mu.length) mu') : W (F_w_source [.frz (ns.map .int), .int j] mu) Q :=
  let ⟨mu', e, h⟩ := source_ok ns j mu hk hf
  W.of e (i mu' h)
end
end PD
set_option maxHeartbeats 1000000
namespace PD
open PySem L3 LD PC
variable {Fq : List MO → Prop}
theorem eqP_fr (x y : Rat) : eqP (fr x) (fr y) = decide (x = y) := by
  rw [rat_eq]
  simp [fr, eqP, eqPL]
theorem W_ne_fr {F : DF} {x y : Rat} {s : S} {Q : PV → S → Prop} : W (gNeR F (gEq true) (fr x) (fr y) s) Q = Q (.bl (!decide (x = y))) s := by
  have h : gNeR F (gEq true) (fr x) (fr y) s = .ok (.bl (!decide (x = y))) s := by
    show gEq true (fr x) (fr y) s = _
    unfold gEq
    rw [if_pos ⟨okD_fr x, okD_fr y⟩, eqP_fr, Bool.true_xor]
  rw [h, W_ok]
@[simp ↓] theorem I_ne_fr {F : DF} {x y : Rat} {s : S} {Q : PV → S → Prop} : WI (gNeR F (gEq true) (fr x) (fr y) s) (K := ⟨Q⟩) = Q (.bl (!decide (x = y))) s := W_ne_fr
theorem W_gne_fr {x y : Rat} {s : S} {Q : PV → S → Prop} : W (gEq true (fr x) (fr y) s) Q = Q (.bl (!decide (x = y))) s := by
  unfold gEq
  rw [if_pos ⟨okD_fr x, okD_fr y⟩, eqP_fr, Bool.true_xor, W_ok]
@[simp ↓] theorem I_gne_fr {x y : Rat} {s : S} {Q : PV → S → Prop} : WI (gEq true (fr x) (fr y) s) (K := ⟨Q⟩) = Q (.bl (!decide (x = y))) s := W_gne_fr
end PD
set_option maxHeartbeats 1000000
namespace PD
open PySem L3 LD PC
def leQ (a b : Rat) : Bool := decide (a ≤ b)
abbrev rsort (qs : List Rat) : List Rat := srt leQ qs
theorem leQ_tot (a b : Rat) : leQ a b = true ∨ leQ b a = true := by
  unfold leQ
  rcases Rat.le_total (a := a) (b := b) with h | h <;> simp [h]
theorem leQ_tr (a b c : Rat) (h1 : leQ a b = true) (h2 : leQ b c = true) : leQ a c = true := decide_eq_true (Rat.le_trans (of_decide_eq_true h1) (of_decide_eq_true h2))
theorem rsort_sorted (qs : List Rat) : (rsort qs).Pairwise (fun a b => leQ a b = true) := srt_sorted leQ_tot leQ_tr qs
theorem rsort_perm (qs : List Rat) : (rsort qs).Perm qs := srt_perm leQ qs
theorem rsort_len (qs : List Rat) : (rsort qs).length = qs.length := (rsort_perm qs).length_eq
end PD
namespace PD
open PySem L3 LD PC
theorem sIx_pos {n d : Nat} {i : Int} (h : 0 ≤ i) : HT.sIx n d (some i) = min i.toNat n := by
  show (if i < 0 then (i + (n : Int)).toNat else min i.toNat n) = _
  rw [if_neg (by omega)]
theorem cut_drop {xs : List PV} {i : Int} (h : 0 ≤ i) : cutP xs (some i) none = xs.drop i.toNat := by
  unfold cutP
  rw [sIx_pos h]
  show (xs.drop (min i.toNat xs.length)).take (xs.length - min i.toNat xs.length) = _
  by_cases z : i.toNat ≤ xs.length
  · rw [Nat.min_eq_left z, List.take_of_length_le (by rw [List.length_drop]; omega)]
  · rw [Nat.min_eq_right (by omega), List.drop_eq_nil_of_le (Nat.le_refl _), List.drop_eq_nil_of_le (by omega)]
    simp
end PD
set_option maxHeartbeats 1000000
namespace PX
open PySem L3 LD PC PD
def fl (q : Rat) : Int := q.num / (q.den : Int)
theorem e_floor {q : Rat} {a : Nat} (h : Zb q a) (ha : a ≤ 8000) (mu : List MO) : F_Ratio_floor [.rat q] mu = .ok (.int (fl q)) mu := by
  have h1 : (0 : Int) < (q.den : Int) := den_pos q
  have h1' : 0 < q.den := q.den_pos
  have h2 : ib (q.den : Int) ≤ 9000 := by have := h.ib_den; omega
  simp [F_Ratio_floor, runBody, d_Ratio_floor, h1, h1', h2, fl]
end PX
set_option maxHeartbeats 1000000
namespace PX
open PySem L3 LD PC PD
def ab (q : Rat) : Rat := ⟨q.num.natAbs, q.den, q.den_nz, by simpa using q.reduced⟩
theorem ab_num (q : Rat) : (ab q).num = (q.num.natAbs : Int) := rfl
theorem ab_den (q : Rat) : (ab q).den = q.den := rfl
theorem ab_divInt (q : Rat) : Rat.divInt (q.num.natAbs : Int) q.den = ab q := Rat.num_divInt_den (ab q)
theorem ab_nonneg {q : Rat} (h : 0 ≤ q) : ab q = q := by
  have h0 : 0 ≤ q.num := Rat.num_nonneg.mpr h
  rw [← ab_divInt, Int.natAbs_of_nonneg h0, Rat.num_divInt_den]
theorem ab_neg (q : Rat) : ab (-q) = ab q := by
  rw [← ab_divInt, ← ab_divInt q, Rat.neg_num, Rat.neg_den, Int.natAbs_neg]
theorem e_abs {q : Rat} {a : Nat} (h : Zb q a) (ha : a ≤ 8000) (mu : List MO) : F_Ratio___abs__ [.rat q] mu = .ok (.rat (ab q)) mu := by
  have h9 : okR (q.num.natAbs : Int) (q.den : Int) = true := by
    have := h.ib_den
    exact decide_eq_true (by omega)
  have hx : ¬ q.den = 0 := q.den_nz
  rw [← ab_divInt]
  simp [F_Ratio___abs__, runBody, d_Ratio___abs__, h9, hx]
def ix : Nat → List Rat → List (Nat × Rat)
  | _, [] => []
  | k, q :: qs => (k, q) :: ix (k + 1) qs
structure Cd (D B N : Nat) : Prop where
  d : 0 < D
  b : 1 ≤ B
  n : N ≤ 20
  n1 : 2 ≤ N
  s : Sm (D * 232792560) ((N + 2) * (B + N * B))
section
variable {D B N : Nat} {qs : List Rat} {ps : List PV} {sm : PV}
theorem Cd.s1 (c : Cd D B N) : Sm (D * 232792560) (N * (B + N * B) + (B + N * B)) := c.s.le c.s.pos (Nat.le_refl _) (by
  have h : (N + 2) * (B + N * B) = N * (B + N * B) + 2 * (B + N * B) := by rw [Nat.add_mul]
  omega)
end
end PX
set_option maxHeartbeats 1000000
namespace PX
open PySem L3 LD PC PD
theorem W_ne_nil {F : DF} {qs : List Rat} {s : S} {Q : PV → S → Prop} : W (gNeR F (gEq true) (.lst (qs.map fr)) (.lst []) s) Q = Q (.bl (!qs.isEmpty)) s := by
  have h : gNeR F (gEq true) (.lst (qs.map fr)) (.lst []) s = .ok (.bl (!qs.isEmpty)) s := by
    show gEq true (.lst (qs.map fr)) (.lst []) s = _
    unfold gEq
    rw [if_pos ⟨okD_frs qs, okD_nil⟩, show eqP (.lst (qs.map fr)) (.lst []) = eqPL (qs.map fr) [] from by simp [eqP], eqPL_nil, Bool.true_xor, List.isEmpty_map]
  rw [h, W_ok]
@[simp ↓] theorem I_ne_nil {F : DF} {qs : List Rat} {s : S} {Q : PV → S → Prop} : WI (gNeR F (gEq true) (.lst (qs.map fr)) (.lst []) s) (K := ⟨Q⟩) = Q (.bl (!qs.isEmpty)) s := W_ne_nil
theorem W_gne_nil {qs : List Rat} {s : S} {Q : PV → S → Prop} : W (gEq true (.lst (qs.map fr)) (.lst []) s) Q = Q (.bl (!qs.isEmpty)) s := by
  unfold gEq
  rw [if_pos ⟨okD_frs qs, okD_nil⟩, show eqP (.lst (qs.map fr)) (.lst []) = eqPL (qs.map fr) [] from by simp [eqP], eqPL_nil, Bool.true_xor, List.isEmpty_map, W_ok]
@[simp ↓] theorem I_gne_nil {qs : List Rat} {s : S} {Q : PV → S → Prop} : WI (gEq true (.lst (qs.map fr)) (.lst []) s) (K := ⟨Q⟩) = Q (.bl (!qs.isEmpty)) s := W_gne_nil
end PX
set_option maxHeartbeats 1000000
namespace PX
open PySem L3 LD PC PD
theorem e_add {x y : Rat} {p : PV} {a b : Nat} (h1 : Zb x a) (h2 : Zb y b) (hp : Is y p) (hab : a + b ≤ 8000) (mu : List MO) : F_Ratio___add__ [.rat x, p] mu = .ok (.rat (x + y)) mu := by
  have h9 : okR (x.num * y.den + y.num * x.den) ((x.den : Int) * y.den) = true := by
    have := ib_mul (i := (x.den : Int)) (j := (y.den : Int)) (a := a) (b := b) (by rw [Int.natAbs_natCast]; exact h1.2) (by rw [Int.natAbs_natCast]; exact h2.2)
    exact (decide_eq_true (by omega))
  have c1 : ib x.num + ib (y.den : Int) ≤ 1000000 := by have := h1.ib_num; have := h2.ib_den; omega
  have c2 : ib y.num + ib (x.den : Int) ≤ 1000000 := by have := h2.ib_num; have := h1.ib_den; omega
  have c3 : ib (x.den : Int) + ib (y.den : Int) ≤ 1000000 := by have := h2.ib_den; have := h1.ib_den; omega
  have e2 := e_ratio_of hp mu
  have hx : ¬ x.den = 0 := x.den_nz
  have hy : ¬ y.den = 0 := y.den_nz
  rw [← add_divInt]
  simp [F_Ratio___add__, runBody, d_Ratio___add__, e2, c1, c2, c3, h9, hx, hy]
theorem neg_divInt' (x : Rat) : Rat.divInt (-x.num) x.den = -x := by
  rw [← Rat.num_divInt_den (-x), Rat.neg_num, Rat.neg_den]
theorem e_neg {x : Rat} {a : Nat} (h : Zb x a) (ha : a ≤ 8000) (mu : List MO) : F_Ratio___neg__ [.rat x] mu = .ok (.rat (-x)) mu := by
  have h9 : okR (-x.num) (x.den : Int) = true := by
    have := h.ib_den
    exact (decide_eq_true (by omega))
  have hx : ¬ x.den = 0 := x.den_nz
  rw [← neg_divInt']
  simp [F_Ratio___neg__, runBody, d_Ratio___neg__, h9, hx]
theorem W_ne_self {p : PV} {s : S} {Q : PV → S → Prop} (h : okD 8 p = true) : W (gEq true p p s) Q = Q (.bl false) s := by
  unfold gEq
  rw [if_pos ⟨h, h⟩, eqP_self 8 p h, W_ok]
  rfl
@[simp ↓] theorem I_ne_self {p : PV} {s : S} {Q : PV → S → Prop} (h : okD 8 p = true) : WI (gEq true p p s) (K := ⟨Q⟩) = Q (.bl false) s := W_ne_self h
theorem W_ix0 {q : Rat} {s : S} {Q : PV → S → Prop} : W (fIx (fr q) (.int 0) s) Q = Q (.int q.num) s := by
  rw [show fIx (fr q) (.int 0) s = .ok (.int q.num) s from rfl, W_ok]
@[simp ↓] theorem I_ix0 {q : Rat} {s : S} {Q : PV → S → Prop} : WI (fIx (fr q) (.int 0) s) (K := ⟨Q⟩) = Q (.int q.num) s := W_ix0
theorem W_ix1 {q : Rat} {s : S} {Q : PV → S → Prop} : W (fIx (fr q) (.int 1) s) Q = Q (.int q.den) s := by
  rw [show fIx (fr q) (.int 1) s = .ok (.int q.den) s from rfl, W_ok]
@[simp ↓] theorem I_ix1 {q : Rat} {s : S} {Q : PV → S → Prop} : WI (fIx (fr q) (.int 1) s) (K := ⟨Q⟩) = Q (.int q.den) s := W_ix1
end PX
set_option maxHeartbeats 1000000
namespace PX
open PySem L3 LD PC PD
theorem ab_cases (q : Rat) : (0 ≤ q ∧ ab q = q) ∨ (q < 0 ∧ ab q = -q) := by
  rcases Rat.le_total (a := 0) (b := q) with h | h
  · exact .inl ⟨h, ab_nonneg h⟩
  · by_cases z : q = 0
    · subst z; exact .inl ⟨by decide, ab_nonneg (by decide)⟩
    · refine .inr ⟨by grind, ?_⟩
      rw [← ab_neg, ab_nonneg (by grind)]
def lo (qs : List Rat) : Rat := (rsort qs).getD ((qs.length - 1) / 2) 0
def hi (qs : List Rat) : Rat := (rsort qs).getD (qs.length / 2) 0
theorem rs_le {qs : List Rat} {i j : Nat} (hi : i ≤ j) (hj : j < (rsort qs).length) : (rsort qs)[i]'(by omega) ≤ (rsort qs)[j] := by
  rcases Nat.lt_or_eq_of_le hi with h | h
  · exact of_decide_eq_true (List.pairwise_iff_getElem.mp (rsort_sorted qs) i j (by omega) hj h)
  · subst h; exact Rat.le_refl
end PX
set_option maxHeartbeats 1000000
namespace PX
open PySem L3 LD PC PD
def sgn (x y : Rat) : Int := (if y < x then 1 else 0) - (if x < y then 1 else 0)
theorem e_compared {x y : Rat} {p : PV} {a b : Nat} (h1 : Zb x a) (h2 : Zb y b) (hp : Is y p) (hab : a + b ≤ 8000) (mu : List MO) : F_Ratio_compared [.rat x, p] mu = .ok (.int (sgn x y)) mu := by
  have c1 : ib x.num + ib (y.den : Int) ≤ 1000000 := by have := h1.ib_num; have := h2.ib_den; omega
  have c2 : ib y.num + ib (x.den : Int) ≤ 1000000 := by have := h2.ib_num; have := h1.ib_den; omega
  have e1 := e_need_number hp mu
  have e2 := e_ratio_of hp mu
  have l3 : (y.num * x.den < x.num * y.den) ↔ y < x := (Rat.lt_iff y x).symm
  have l2 : (x.num * y.den - y.num * x.den < 0) ↔ x < y := by rw [Rat.lt_iff]; omega
  have h : W (F_Ratio_compared [.rat x, p] mu) (fun v mu' => v = .int (sgn x y) ∧ mu' = mu) := by
    unfold F_Ratio_compared d_Ratio_compared
    simp [W_runBody, e1, e2, c1, c2]
    simp only [sgn, l3, l2]
  obtain ⟨v, mu', e, rfl, rfl⟩ := h.out
  exact e
end PX
set_option maxHeartbeats 1000000
namespace PX
open PySem L3 LD PC PD
abbrev E1 : Nat := 60 * 232792560
theorem sA : Sm E1 330 := ⟨by decide, by decide +kernel, by decide +kernel⟩
theorem ends {qs : List Rat} (h : qs ≠ []) : (rsort qs).headD 0 ∈ qs ∧ (rsort qs).getLastD 0 ∈ qs ∧ ∀ q ∈ qs, (rsort qs).headD 0 ≤ q ∧ q ≤ (rsort qs).getLastD 0 := by
  have hr : rsort qs ≠ [] := fun z => by have := rsort_len qs; rw [z] at this; exact h (List.eq_nil_of_length_eq_zero this.symm)
  have mem : ∀ {q}, q ∈ rsort qs → q ∈ qs := fun hq => (rsort_perm qs).mem_iff.mp hq
  have h0 : 0 < (rsort qs).length := List.length_pos_iff.mpr hr
  have e1 : (rsort qs).headD 0 = (rsort qs)[0] := by rw [List.headD_eq_head?_getD, List.head?_eq_getElem?, List.getElem?_eq_getElem h0]; rfl
  have e2 : (rsort qs).getLastD 0 = (rsort qs)[(rsort qs).length - 1] := by rw [List.getLastD_eq_getLast?, List.getLast?_eq_getElem?, List.getElem?_eq_getElem (by omega)]; rfl
  rw [e1, e2]
  refine ⟨mem (List.getElem_mem _), mem (List.getElem_mem _), fun q hq => ?_⟩
  obtain ⟨i, hi', e⟩ := List.mem_iff_getElem.mp ((rsort_perm qs).mem_iff.mpr hq)
  rw [← e]
  exact ⟨rs_le (Nat.zero_le _) hi', rs_le (by omega) (by omega)⟩
end PX
set_option maxHeartbeats 1000000
namespace PX
open PySem L3 LD PC PD
end PX
set_option maxHeartbeats 1000000
namespace PX
open PySem L3 LD PC PD
end PX
set_option maxHeartbeats 1000000
namespace PX
open PySem L3 LD PC PD
section
variable {D B : Nat} {qs : List Rat} {ps : List PV} {sm : PV}
theorem ratsP_map : ∀ f : List Rat, ratsP (f.map .rat) = some f
  | [] => rfl
  | q :: f => by
    show (ratsP (f.map .rat)).map (q :: ·) = _
    rw [ratsP_map f]; rfl
end
end PX
set_option maxHeartbeats 1000000
namespace PX
open PySem L3 LD PC PD
theorem W_eq_str {neg : Bool} {a b : Str} {s : S} {Q : PV → S → Prop} : W (gEq neg (.str a) (.str b) s) Q = Q (.bl (xor neg (a == b))) s := by
  rw [gEq_str, W_ok]
@[simp ↓] theorem I_eq_str {neg : Bool} {a b : Str} {s : S} {Q : PV → S → Prop} : WI (gEq neg (.str a) (.str b) s) (K := ⟨Q⟩) = Q (.bl (xor neg (a == b))) s := W_eq_str
end PX
set_option maxHeartbeats 1000000
namespace PX
open PySem L3 LD PC PD
end PX
set_option maxHeartbeats 1000000
namespace PX
open PySem L3 LD PC PD
end PX
set_option maxHeartbeats 1000000
namespace PX
open PySem L3 LD PC PD
end PX
set_option maxHeartbeats 1000000
namespace PX
open PySem L3 LD PC PD
def lessN (qs : List Rat) (f : Rat) : Nat := qs.countP fun q => decide (q < f)
theorem sgn_lt {q f : Rat} : sgn q f < 0 ↔ q < f := by
  unfold sgn
  by_cases h1 : f < q <;> by_cases h2 : q < f <;> simp [h1, h2]
  exact absurd (Std.lt_trans h1 h2) Rat.lt_irrefl
end PX
set_option maxHeartbeats 1000000
namespace PX
open PySem L3 LD PC PD
/-- a given number as the law keeps it -/
def kp (q : Rat) : PV := if 1 < q.den then fr q else .int q.num
end PX
set_option maxHeartbeats 1000000
namespace PX
open PySem L3 LD PC PD
end PX
set_option maxHeartbeats 1000000
namespace PX
open PySem L3 LD PC PD
end PX
set_option maxHeartbeats 1000000
namespace PX
open PySem L3 LD PC PD
end PX
set_option maxHeartbeats 1000000
namespace PX
open PySem L3 LD PC PD
end PX
set_option maxHeartbeats 1000000
namespace PX
open PySem L3 LD PC PD
/-- the places of the program, from 1 on -/
def lowK (n : Nat) (s : Rat) : Int := max 1 (-((-((n : Int) * s.num)) / (s.den : Int)))
def highK (n : Nat) (s : Rat) : Int := min (n : Int) ((n : Int) * s.num / (s.den : Int) + 1)
end PX
set_option maxHeartbeats 1000000
namespace PX
open PySem L3 LD PC PD
/-- to the nearest whole number, halves to the even one -/
def near (g d : Int) : Int := g / d + if d < 2 * (g % d) ∨ (2 * (g % d) = d ∧ (g / d) % 2 = 1) then 1 else 0
section
variable {s : Rat} {n : Nat} {a : Nat}
theorem e_ceiling {q : Rat} (h : Zb q a) (ha : a ≤ 8000) (mu : List MO) : F_Ratio_ceiling [.rat q] mu = .ok (.int (-((-q.num) / (q.den : Int)))) mu := by
  have h1 : (0 : Int) < (q.den : Int) := den_pos q
  have h1' : 0 < q.den := q.den_pos
  have h2 : ib (q.den : Int) ≤ 9000 := by have := h.ib_den; omega
  simp [F_Ratio_ceiling, runBody, d_Ratio_ceiling, h1, h1', h2]
end
end PX
set_option maxHeartbeats 1000000
namespace PX
open PySem L3 LD PC PD
def nearK (n : Nat) (s : Rat) : Int := max 1 (near ((n : Int) * s.num) (s.den : Int))
section
variable {s : Rat} {n : Nat} {a : Nat}
def plA (n : Nat) (s : Rat) (w : Nat) : Int := if w = 0 then lowK n s else if w = 1 then highK n s else if w = 2 then lowK n s else nearK n s
def plB (n : Nat) (s : Rat) (w : Nat) : Int := if w = 2 then highK n s else plA n s w
def plP (w : Nat) : Rat := if w = 2 then Rat.divInt 1 2 else 0
/-- the quantile -/
def qv (S : List Rat) (s : Rat) (w : Nat) : Rat := S.getD (plA S.length s w - 1).toNat 0 + (S.getD (plB S.length s w - 1).toNat 0 - S.getD (plA S.length s w - 1).toNat 0) * plP w
end
end PX
set_option maxHeartbeats 1000000
namespace PX
open PySem L3 LD PC PD
end PX
set_option maxHeartbeats 1000000
namespace PX
open PySem L3 LD PC PD
end PX
set_option maxHeartbeats 1000000
namespace PX
open PySem L3 LD PC PD
theorem flLe (q : Rat) : ((fl q : Int) : Rat) ≤ q := by
  rw [Rat.le_iff]
  show fl q * (q.den : Int) ≤ q.num * 1
  rw [Int.mul_one]
  exact Int.ediv_mul_le _ (den_ne q)
theorem flLt (q : Rat) : q < (((fl q + 1 : Int)) : Rat) := by
  rw [Rat.lt_iff]
  show q.num * 1 < (fl q + 1) * (q.den : Int)
  rw [Int.mul_one]
  exact Int.lt_ediv_add_one_mul_self _ (den_pos q)
theorem castLt {a b : Int} : (a : Rat) < (b : Rat) ↔ a < b := by
  rw [Rat.lt_iff]
  show a * 1 < b * 1 ↔ _
  omega
theorem leLt {a b c : Rat} (h1 : a ≤ b) (h2 : b < c) : a < c := by grind
theorem fl_is {x : Rat} {i : Int} (h1 : (i : Rat) ≤ x) (h2 : x < ((i + 1 : Int) : Rat)) : fl x = i := by
  have a1 := castLt.mp (leLt h1 (flLt x))
  have a2 := castLt.mp (leLt (flLe x) h2)
  omega
/-- the value at the position x of a sorted row -/
def way (T : List Rat) (x : Rat) : Rat :=
  if fl x < 1 then T.getD 0 0 else if (T.length : Int) ≤ fl x then T.getD (T.length - 1) 0 else
    T.getD (fl x - 1).toNat 0 + (T.getD (fl x).toNat 0 - T.getD (fl x - 1).toNat 0) * (x - ((fl x : Int) : Rat))
end PX
set_option maxHeartbeats 1000000
namespace PX
open PySem L3 LD PC PD
def mr (j : Nat) : Rat := if j = 0 then -1 else if j = 1 then 1 else if j = 2 then 0 else if j = 3 then Rat.divInt 1 3 else Rat.divInt 1 4
def st5 (j : Nat) : Rat := if j = 0 then 1 else if j = 1 then 0 else if j = 2 then Rat.divInt 1 2 else if j = 3 then Rat.divInt 1 3 else Rat.divInt 3 8
def pos5 (n : Nat) (s : Rat) (j : Nat) : Rat := (((n : Int) : Rat) + mr j) * s + st5 j
end PX
set_option maxHeartbeats 1000000
namespace PX
open PySem L3 LD PC PD
end PX
set_option maxHeartbeats 1000000
namespace PX
open PySem L3 LD PC PD
end PX
set_option maxHeartbeats 1000000
namespace PX
open PySem L3 LD PC PD
end PX
set_option maxHeartbeats 1000000
namespace PX
open PySem L3 LD PC PD
end PX
set_option maxHeartbeats 1000000
namespace PX
open PySem L3 LD PC PD
end PX
set_option maxHeartbeats 1000000
namespace PX
open PySem L3 LD PC PD
def q9 (T : List Rat) (s : Rat) (i : Nat) : Rat := if i < 4 then qv T s i else way T (pos5 T.length s (i - 4))
end PX
set_option maxHeartbeats 1000000
namespace PX
open PySem L3 LD PC PD
end PX
set_option maxHeartbeats 1000000
namespace PX
open PySem L3 LD PC PD
end PX
set_option maxHeartbeats 1000000
namespace PX
open PySem L3 LD PC PD
end PX
set_option maxHeartbeats 1000000
namespace PX
open PySem L3 LD PC PD
end PX
set_option maxHeartbeats 1000000
namespace PX
open PySem L3 LD PC PD
end PX
set_option maxHeartbeats 1000000
namespace PX
open PySem L3 LD PC PD
abbrev PQ := Rat × Rat
def vals (Z : List PQ) : List Rat := (Z.filter fun p => decide (0 < p.2)).map (·.1)
def upw (Z : List PQ) (x : Rat) : Rat := sumQ ((Z.filter fun p => !decide (x < p.1)).map (·.2))
def tot (Z : List PQ) : Rat := sumQ (Z.map (·.2))
def cnd (g : Rat) (low : Bool) (y : Rat) : Bool := decide (g < y) || (low && decide (g = y))
/-- the law's own way -/
def hv (Z : List PQ) (s : Rat) (low : Bool) : Rat := ((rsort (vals Z)).find? fun x => cnd (tot Z * s) low (upw Z x)).getD ((rsort (vals Z)).getLastD 0)
def pos (Z : List PQ) : List PQ := Z.filter fun p => decide (0 < p.2)
end PX
set_option maxHeartbeats 1000000
namespace PX
open PySem L3 LD PC PD
def top (L : Nat) (q : Rat) : Int := q.num * ((L : Int) / (q.den : Int))
end PX
set_option maxHeartbeats 1000000
namespace PX
open PySem L3 LD PC PD
end PX
set_option maxHeartbeats 1000000
namespace PX
open PySem L3 LD PC PD
end PX
set_option maxHeartbeats 1000000
namespace PD
open PySem L3
section
variable {i : Nat} {da dx : DE} {s : S} {P : Fl → S → Prop}
theorem D_dPut : WD (dPut i da dx s) P = WD (da s) (fun v s1 => (lstAt i s1).isSome = true ∧ WD (dx s1) (fun j s2 => match j, lstAt i s2 with
    | .int j, some (xs, k) => (match L2.ixN xs.length j with | some m => P .nx (k (xs.set m v)) | none => False)
    | _, _ => False)) := by
  show WD ((da s).bind _) P = _
  rw [D_bind]
  congr 1
  funext v s1
  cases e : lstAt i s1 with
  | none => simp
  | some z =>
    simp only [Option.isSome_some, true_and]
    show WD ((dx s1).bind _) P = _
    rw [D_bind]
    congr 1
    funext j s2
    cases j with
    | int j =>
      cases e2 : lstAt i s2 with
      | none => simp
      | some y =>
        obtain ⟨xs, k⟩ := y
        simp only
        cases e3 : L2.ixN xs.length j with
        | none => simp
        | some m => simp
    | _ => simp
theorem W_dPut : W (dPut i da dx s) P = W (da s) (fun v s1 => (lstAt i s1).isSome = true ∧ W (dx s1) (fun j s2 => match j, lstAt i s2 with
    | .int j, some (xs, k) => (match L2.ixN xs.length j with | some m => P .nx (k (xs.set m v)) | none => False)
    | _, _ => False)) := by
  simp only [W, WI_iff]
  exact D_dPut
@[simp ↓] theorem I_dPut : WI (dPut i da dx s) (K := ⟨P⟩) = WI (da s) (K := ⟨(fun v s1 => (lstAt i s1).isSome = true ∧ WI (dx s1) (K := ⟨(fun j s2 => match j, lstAt i s2 with
    | .int j, some (xs, k) => (match L2.ixN xs.length j with | some m => P .nx (k (xs.set m v)) | none => False)
    | _, _ => False)⟩))⟩) := W_dPut
variable {dr : DA} {B : List PV → S → Prop}
theorem D_dListUp : WD (dListUp dr s) B = WD (dr s) (fun vs s1 => match vs with | [.int j] => UpOk j ∧ B (rangeP 0 j.toNat) s1 | _ => False) := by
  show WD ((dr s).bind _) B = _
  rw [D_bind]
  congr 1
  funext vs s1
  split
  · rename_i j
    by_cases h : UpOk j
    · rw [if_pos h]; simp [h]
    · rw [if_neg h]; simp [h]
  · rename_i h
    simp
theorem W_dListUp : W (dListUp dr s) B = W (dr s) (fun vs s1 => match vs with | [.int j] => UpOk j ∧ B (rangeP 0 j.toNat) s1 | _ => False) := by
  simp only [W, WI_iff]
  exact D_dListUp
@[simp ↓] theorem I_dListUp : WI (dListUp dr s) (K := ⟨B⟩) = WI (dr s) (K := ⟨(fun vs s1 => match vs with | [.int j] => UpOk j ∧ B (rangeP 0 j.toNat) s1 | _ => False)⟩) := W_dListUp
end
end PD
set_option maxHeartbeats 1000000
namespace PX
open PySem L3 LD PC PD
end PX
set_option maxHeartbeats 1000000
namespace PX
open PySem L3 LD PC PD
end PX
set_option maxHeartbeats 1000000
namespace PX
open PySem L3 LD PC PD
end PX
set_option maxHeartbeats 1000000
namespace PX
open PySem L3 LD PC PD
end PX
set_option maxHeartbeats 1000000
namespace PX
open PySem L3 LD PC PD
end PX
set_option maxHeartbeats 1000000
namespace PX
open PySem L3 LD PC PD
end PX
set_option maxHeartbeats 1000000
namespace PX
open PySem L3 LD PC PD
end PX
set_option maxHeartbeats 1000000
namespace PX
open PySem L3 LD PC PD
def sN (l m : List Rat) : Nat := (m.map fun q => 2 * lessN l q + l.count q).sum
end PX
set_option maxHeartbeats 1000000
namespace PX
open PySem L3 LD PC PD
end PX
set_option maxHeartbeats 1000000
namespace PX
open PySem L3 LD PC PD
abbrev P2 := Rat × Rat
inductive PP : List P2 → List PV → Prop where
  | nil : PP [] []
  | cons {p : P2} {ps : List P2} {a b : PV} {ts : List PV} : Is p.1 a → Is p.2 b → PP ps ts → PP (p :: ps) (.tup [a, b] :: ts)
theorem PP.len {ps : List P2} {ts : List PV} (h : PP ps ts) : ts.length = ps.length := by
  induction h with
  | nil => rfl
  | cons _ _ _ ih => simp [ih]
theorem PP.mem {ps : List P2} {ts : List PV} (h : PP ps ts) : ∀ t ∈ ts, ∃ p a b, t = .tup [a, b] ∧ Is (p : P2).1 a ∧ Is p.2 b := by
  induction h with
  | nil => intro t ht; cases ht
  | cons h1 h2 _ ih =>
    intro t ht
    rcases List.mem_cons.mp ht with e | e
    · exact ⟨_, _, _, e, h1, h2⟩
    · exact ih t e
end PX
set_option maxHeartbeats 1000000
namespace PX
open PySem L3 LD PC PD
def fs (ps : List P2) : List Rat := ps.map (·.1)
def sn (ps : List P2) : List Rat := ps.map (·.2)
def pxx (ps : List P2) : List Rat := ps.map fun p => p.1 * p.1
def pxy (ps : List P2) : List Rat := ps.map fun p => p.1 * p.2
/-- sizes for sums of pairs -/
structure Ps (D B : Nat) (ps : List P2) : Prop where
  s1 : Sm D B
  s2 : Sm (D * D) (B * B)
  z : ∀ p ∈ ps, Zd D B p.1 ∧ Zd D B p.2
  len : ps.length ≤ 1000
  lo : B * D ≤ 2 ^ 400
  lo2 : D ≤ 2 ^ 400
section
variable {D B : Nat} {ps : List P2}
theorem Ps.zb (P : Ps D B ps) : ∀ p ∈ ps, Zb p.1 400 ∧ Zb p.2 400 := fun p hp => ⟨(P.z p hp).1.zb P.s1.pos P.lo P.lo2, (P.z p hp).2.zb P.s1.pos P.lo P.lo2⟩
end
end PX
set_option maxHeartbeats 1000000
namespace PX
open PySem L3 LD PC PD
def nQ (ps : List P2) : Rat := ((ps.length : Int) : Rat)
def spx (ps : List P2) : Rat := sumQ (pxx ps) - sumQ (fs ps) * sumQ (fs ps) / nQ ps
def spc (ps : List P2) : Rat := sumQ (pxy ps) - sumQ (fs ps) * sumQ (sn ps) / nQ ps
end PX
set_option maxHeartbeats 1000000
namespace PX
open PySem L3 LD PC PD
end PX
set_option maxHeartbeats 1000000
namespace PX
open PySem L3 LD PC PD
variable {Fq : List MO → Prop}
def noOwn : Option SV → Prop
  | some (.own _) => False
  | _ => True
theorem turnsN {ns : List Int} {b : DS} {m : Int} (h4 : m ≤ 4) (Rr : List (Option SV) → Prop) {o1 : Option SV} {rest : List (Option SV)} {mu : List MO} (h0 : Rr rest) (hf : flatMs mu = true) {P : Fl → S → Prop}
    (hb : ∀ (i : Nat) (rest : List (Option SV)) (mu : List MO), i ≤ 4 → Rr rest → flatMs mu = true → W (b ⟨some (.val (.frz (ns.map .int))) :: some (.val (.int (i : Int))) :: rest, mu⟩) fun f s' => f = .nx ∧ ∃ rest' mu', Rr rest' ∧ flatMs mu' = true ∧ s' = ⟨some (.val (.frz (ns.map .int))) :: some (.val (.int (i : Int))) :: rest', mu'⟩)
    (h1 : noOwn o1) (hP : ∀ o1 rest mu, noOwn o1 → Rr rest → flatMs mu = true → P .nx ⟨some (.val (.frz (ns.map .int))) :: o1 :: rest, mu⟩) :
    W (forL (gN 1) b (rangeP 0 m.toNat) ⟨some (.val (.frz (ns.map .int))) :: o1 :: rest, mu⟩) P := by
  refine W_forL (I := fun xs s => ∃ (is : List Nat) (o1 : Option SV) (rest : List (Option SV)) (mu : List MO), xs = is.map (fun i : Nat => PV.int (i : Int)) ∧ (∀ i ∈ is, i ≤ 4) ∧ noOwn o1 ∧ Rr rest ∧ flatMs mu = true ∧ s = ⟨some (.val (.frz (ns.map .int))) :: o1 :: rest, mu⟩) ?_ ?_ ?_
  · refine ⟨List.range m.toNat, o1, rest, mu, ?_, fun i hi => by have := List.mem_range.mp hi; omega, h1, h0, hf, rfl⟩
    unfold rangeP
    refine List.map_congr_left fun k _ => ?_
    rw [Int.zero_add]
  · intro x xs s hI
    obtain ⟨is, o1, rest, mu, e, hi, hn1, hr, hf, hs⟩ := hI
    subst hs
    cases is with
    | nil => cases e
    | cons i is =>
      cases e
      refine (hb i rest mu (hi i List.mem_cons_self) hr hf).mono fun f s' h => ?_
      obtain ⟨hf1, rest', mu', hr', hf', hs'⟩ := h
      subst hf1 hs'
      exact ⟨is, some (.val (.int (i : Int))), rest', mu', rfl, fun j hj => hi j (List.mem_cons_of_mem _ hj), trivial, hr', hf', rfl⟩
  · intro s hI
    obtain ⟨is, o1, rest, mu, e, hi, hn1, hr, hf, hs⟩ := hI
    subst hs
    exact hP o1 rest mu hn1 hr hf
end PX
set_option maxHeartbeats 1000000
namespace PX
open PySem L3 LD PC PD
end PX
set_option maxHeartbeats 1000000
namespace PX
open PySem L3 LD PC PD
end PX
set_option maxHeartbeats 1000000
namespace PX
open PySem L3 LD PC PD
end PX
set_option maxHeartbeats 1000000
namespace PX
open PySem L3 LD PC PD
variable {Fq : List MO → Prop}
theorem fdiv_den {t b : Int} (hb : b ≠ 0) : t.fdiv b = (Rat.divInt t b).num / ((Rat.divInt t b).den : Int) := by
  have pos : ∀ {t b : Int}, 0 < b → t / b = (Rat.divInt t b).num / ((Rat.divInt t b).den : Int) := fun {t b} h => by
    obtain ⟨m, hm, h1, h2⟩ := Rat.divInt_num_den (z' := (Rat.divInt t b).den_nz) (c := (Rat.divInt t b).reduced) (by omega : b ≠ 0) rfl
    have hp := den_pos (Rat.divInt t b)
    have hm' : 0 < m := by
      rcases Int.lt_or_gt_of_ne hm with z | z
      · have : ((Rat.divInt t b).den : Int) * m < 0 := Int.mul_neg_of_pos_of_neg hp z
        omega
      · exact z
    generalize Rat.divInt t b = q at *
    rw [h1, h2]
    exact Int.mul_ediv_mul_of_pos_left _ _ hm'
  rcases Int.lt_or_gt_of_ne hb with z | z
  · have e1 : t.fdiv b = (-t) / (-b) := by
      rw [← Int.fdiv_eq_ediv_of_nonneg (-t) (by omega : 0 ≤ -b), Int.neg_fdiv_neg]
    have e2 : Rat.divInt t b = Rat.divInt (-t) (-b) := by
      rw [Rat.divInt_eq_divInt_iff hb (by omega)]
      rw [Int.mul_neg, Int.neg_mul]
    rw [e1, e2]
    exact pos (by omega)
  · rw [Int.fdiv_eq_ediv_of_nonneg _ (by omega)]
    exact pos z
end PX
set_option maxHeartbeats 1000000
namespace PX
open PySem L3 LD PC PD
variable {Fq : List MO → Prop}
/-- what stands near -/
def N04 (x : Rat) : Prop := Zb x 150 ∧ x.den ≤ 2 ^ 10
theorem N04.mk {t b : Int} (hb : b ≠ 0) (h1 : t.natAbs ≤ 2 ^ 140) (h2 : b.natAbs ≤ 60) : N04 (Rat.divInt t b) := by
  have hd : (Rat.divInt t b).den ≤ b.natAbs := by
    have := den_div t b hb
    have h3 : ((Rat.divInt t b).den : Int) ≤ (b.natAbs : Int) := by
      rw [← this]
      exact Int.ediv_le_self _ (by omega)
    omega
  have hn : (Rat.divInt t b).num.natAbs ≤ t.natAbs := by
    have := num_div t b hb
    have h4 := Int.natAbs_ediv_le_natAbs t (Int.gcd t b : Int)
    rw [← this]
    split
    · exact h4
    · omega
  refine ⟨⟨Nat.le_trans hn (Nat.le_trans h1 (by decide)), Nat.le_trans hd (Nat.le_trans h2 (by decide))⟩, Nat.le_trans hd (Nat.le_trans h2 (by decide))⟩
end PX
set_option maxHeartbeats 1000000
namespace PX
open PySem L3 LD PC PD
variable {Fq : List MO → Prop}
theorem fRepr_or (p : PV) : (∀ s, fRepr [p] s = .bad) ∨ ∃ t, ∀ s, fRepr [p] s = .ok (.str t) s := by
  cases p with
  | lst xs =>
    by_cases z : okD 8 (.lst xs) = true ∧ okS (.lst xs) = true ∧ szP (.lst xs) ≤ 16777216
    · exact .inr ⟨_, fun s => if_pos z⟩
    · exact .inl fun s => if_neg z
  | frz xs =>
    by_cases z : okD 8 (.frz xs) = true ∧ okS (.frz xs) = true ∧ szP (.frz xs) ≤ 16777216
    · exact .inr ⟨_, fun s => if_pos z⟩
    · exact .inl fun s => if_neg z
  | tup xs =>
    by_cases z : okD 8 (.tup xs) = true ∧ okS (.tup xs) = true ∧ szP (.tup xs) ≤ 16777216
    · exact .inr ⟨_, fun s => if_pos z⟩
    · exact .inl fun s => if_neg z
  | int i =>
    by_cases z : okS (.int i) = true
    · exact .inr ⟨_, fun s => if_pos z⟩
    · exact .inl fun s => if_neg z
  | _ => exact .inl fun s => rfl
theorem reprW_of {p : PV} {d : PyData} (h1 : p.dat2 = some d) (h2 : isRefP p = true ∧ d.showable = true ∧ d.depth ≤ 32 ∧ d.shown.length ≤ 16777216) : ∃ t, ∀ s, fReprW [p] s = .ok (.str t) s := by
  rcases fRepr_or p with hb | ⟨t, e⟩
  · refine ⟨d.shown, fun s => ?_⟩
    unfold fReprW
    rw [hb]
    show fRepr2 p s = _
    unfold fRepr2
    rw [h1]
    exact if_pos h2
  · refine ⟨t, fun s => ?_⟩
    unfold fReprW
    rw [e]
end PX
set_option maxHeartbeats 1000000
namespace PX
open PySem L3 LD PC PD
end PX
set_option maxHeartbeats 1000000
namespace PX
open PySem L3 LD PC PD
variable {Fq : List MO → Prop}
theorem e_boolR (q : Rat) (mu : List MO) : F_Ratio___bool__ [.rat q] mu = .ok (.bl (q.num != 0)) mu := by
  simp [F_Ratio___bool__, runBody, d_Ratio___bool__]
end PX
set_option maxHeartbeats 1000000
namespace PX.k57
open PySem L3 LD PC PD
theorem rlt {a b c : Rat} (h1 : a < b) (h2 : b < c) : a < c := by grind
abbrev Rg := Rat × Int × Int
def vl (x : Rg) : Rat := x.1
def ls (x : Rg) : Int := x.2.1
def ms (x : Rg) : Int := x.2.2
/-- last least up to v, first most from v on -/
def Lx : Int → List Rg → Rat → Int
  | la, [], _ => la
  | la, x :: a, v => if vl x ≤ v then Lx (ls x) a v else la
def Ux : List Rg → Rat → Int → Int
  | [], _, n => n
  | x :: a, v, n => if v ≤ vl x then ms x else Ux a v n
/-- two ladders together, before the cut -/
def mg (na nb : Int) : List Rg → List Rg → Int → Int → List Rg
  | [], [], _, _ => []
  | x :: a, [], _, lb => (vl x, ls x + lb, ms x + nb) :: mg na nb a [] (ls x) lb
  | [], y :: b, la, _ => (vl y, la + ls y, na + ms y) :: mg na nb [] b la (ls y)
  | x :: a, y :: b, la, lb => if vl y < vl x then (vl y, la + ls y, ms x + ms y) :: mg na nb (x :: a) b la (ls y)
    else if vl x < vl y then (vl x, ls x + lb, ms x + ms y) :: mg na nb a (y :: b) (ls x) lb
    else (vl x, ls x + ls y, ms x + ms y) :: mg na nb a b (ls x) (ls y)
termination_by a b => a.length + b.length
def un : List Rg → List Rg → List Rat
  | [], b => b.map vl
  | x :: a, [] => (x :: a).map vl
  | x :: a, y :: b => if vl y < vl x then vl y :: un (x :: a) b else if vl x < vl y then vl x :: un a (y :: b) else vl x :: un a b
termination_by a b => a.length + b.length
abbrev Inc (a : List Rg) : Prop := a.Pairwise fun x y => vl x < vl y
theorem un_mem : ∀ (a b : List Rg) (v : Rat), v ∈ un a b ↔ v ∈ a.map vl ∨ v ∈ b.map vl
  | [], b, v => by unfold un; simp
  | x :: a, [], v => by unfold un; simp
  | x :: a, y :: b, v => by
    unfold un
    split
    · rw [List.mem_cons, un_mem (x :: a) b v]
      simp only [List.map_cons, List.mem_cons]
      grind
    · split
      · rw [List.mem_cons, un_mem a (y :: b) v]
        simp only [List.map_cons, List.mem_cons]
        grind
      · rename_i h1 h2
        have e : vl x = vl y := Rat.le_antisymm (Rat.not_lt.mp h1) (Rat.not_lt.mp h2)
        rw [List.mem_cons, un_mem a b v]
        simp only [List.map_cons, List.mem_cons]
        grind
termination_by a b => a.length + b.length
theorem un_inc : ∀ (a b : List Rg), Inc a → Inc b → (un a b).Pairwise (· < ·)
  | [], b, _, hb => by unfold un; exact List.pairwise_map.mpr hb
  | x :: a, [], ha, _ => by unfold un; exact List.pairwise_map.mpr ha
  | x :: a, y :: b, ha, hb => by
    obtain ⟨ha1, ha2⟩ := List.pairwise_cons.mp ha
    obtain ⟨hb1, hb2⟩ := List.pairwise_cons.mp hb
    unfold un
    split
    · rename_i h
      refine List.pairwise_cons.mpr ⟨fun v hv => ?_, un_inc (x :: a) b ha hb2⟩
      rcases (un_mem _ _ _).mp hv with z | z
      · obtain ⟨q, hq, rfl⟩ := List.mem_map.mp z
        rcases List.mem_cons.mp hq with rfl | hq
        · exact h
        · exact rlt h (ha1 q hq)
      · obtain ⟨q, hq, rfl⟩ := List.mem_map.mp z
        exact hb1 q hq
    · rename_i h1
      split
      · rename_i h
        refine List.pairwise_cons.mpr ⟨fun v hv => ?_, un_inc a (y :: b) ha2 hb⟩
        rcases (un_mem _ _ _).mp hv with z | z
        · obtain ⟨q, hq, rfl⟩ := List.mem_map.mp z
          exact ha1 q hq
        · obtain ⟨q, hq, rfl⟩ := List.mem_map.mp z
          rcases List.mem_cons.mp hq with rfl | hq
          · exact h
          · exact rlt h (hb1 q hq)
      · rename_i h2
        have e : vl x = vl y := Rat.le_antisymm (Rat.not_lt.mp h1) (Rat.not_lt.mp h2)
        refine List.pairwise_cons.mpr ⟨fun v hv => ?_, un_inc a b ha2 hb2⟩
        rcases (un_mem _ _ _).mp hv with z | z
        · obtain ⟨q, hq, rfl⟩ := List.mem_map.mp z
          exact ha1 q hq
        · obtain ⟨q, hq, rfl⟩ := List.mem_map.mp z
          rw [e]; exact hb1 q hq
termination_by a b => a.length + b.length
theorem Lx_skip {la : Int} {a : List Rg} {v : Rat} (h : ∀ x ∈ a, v < vl x) : Lx la a v = la := by
  cases a with
  | nil => rfl
  | cons x a => unfold Lx; rw [if_neg (Rat.not_le.mpr (h x List.mem_cons_self))]
theorem Lx_cons {la : Int} {x : Rg} {a : List Rg} {v : Rat} (h : vl x ≤ v) : Lx la (x :: a) v = Lx (ls x) a v := by
  show (if vl x ≤ v then Lx (ls x) a v else la) = _
  rw [if_pos h]
theorem Ux_cons {n : Int} {x : Rg} {a : List Rg} {v : Rat} (h : vl x < v) : Ux (x :: a) v n = Ux a v n := by
  show (if v ≤ vl x then ms x else Ux a v n) = _
  rw [if_neg (Rat.not_le.mpr h)]
theorem Ux_hit {n : Int} {x : Rg} {a : List Rg} {v : Rat} (h : v ≤ vl x) : Ux (x :: a) v n = ms x := by
  show (if v ≤ vl x then ms x else Ux a v n) = _
  rw [if_pos h]
theorem mg_un (na nb : Int) : ∀ (a b : List Rg) (la lb : Int), Inc a → Inc b → mg na nb a b la lb = (un a b).map fun v => (v, Lx la a v + Lx lb b v, Ux a v na + Ux b v nb)
  | [], [], la, lb, _, _ => by unfold mg un; rfl
  | x :: a, [], la, lb, ha, hb => by
    obtain ⟨ha1, ha2⟩ := List.pairwise_cons.mp ha
    have ih := mg_un na nb a [] (ls x) lb ha2 hb
    have e : un a [] = a.map vl := by cases a <;> (unfold un; rfl)
    rw [e] at ih
    unfold mg un
    rw [ih, List.map_cons, List.map_cons, Lx_cons Rat.le_refl, Lx_skip (fun q hq => ha1 q hq), Ux_hit Rat.le_refl]
    congr 1
    refine List.map_congr_left fun v hv => ?_
    obtain ⟨q, hq, rfl⟩ := List.mem_map.mp hv
    rw [Lx_cons (Rat.le_of_lt (ha1 q hq)), Ux_cons (ha1 q hq)]
  | [], y :: b, la, lb, ha, hb => by
    obtain ⟨hb1, hb2⟩ := List.pairwise_cons.mp hb
    have ih := mg_un na nb [] b la (ls y) ha hb2
    have e : un [] b = b.map vl := by unfold un; rfl
    rw [e] at ih
    unfold mg un
    rw [ih, List.map_cons, List.map_cons, Lx_cons (a := b) Rat.le_refl, Lx_skip (a := b) (fun q hq => hb1 q hq), Ux_hit (a := b) Rat.le_refl]
    congr 1
    refine List.map_congr_left fun v hv => ?_
    obtain ⟨q, hq, rfl⟩ := List.mem_map.mp hv
    rw [Lx_cons (a := b) (Rat.le_of_lt (hb1 q hq)), Ux_cons (a := b) (hb1 q hq)]
  | x :: a, y :: b, la, lb, ha, hb => by
    obtain ⟨ha1, ha2⟩ := List.pairwise_cons.mp ha
    obtain ⟨hb1, hb2⟩ := List.pairwise_cons.mp hb
    unfold mg un
    split
    · rename_i h
      have ih := mg_un na nb (x :: a) b la (ls y) ha hb2
      have al : ∀ q ∈ x :: a, vl y < vl q := fun q hq => by
        rcases List.mem_cons.mp hq with rfl | hq
        · exact h
        · exact rlt h (ha1 q hq)
      rw [ih, List.map_cons, Lx_skip al, Lx_cons (a := b) Rat.le_refl, Lx_skip (a := b) (fun q hq => hb1 q hq), Ux_hit (a := b) Rat.le_refl, Ux_hit (Rat.le_of_lt h)]
      congr 1
      refine List.map_congr_left fun v hv => ?_
      have hyv : vl y < v := by
        rcases (un_mem _ _ _).mp hv with z | z
        · obtain ⟨q, hq, rfl⟩ := List.mem_map.mp z; exact al q hq
        · obtain ⟨q, hq, rfl⟩ := List.mem_map.mp z; exact hb1 q hq
      rw [Lx_cons (a := b) (Rat.le_of_lt hyv), Ux_cons (a := b) hyv]
    · rename_i h1
      split
      · rename_i h
        have ih := mg_un na nb a (y :: b) (ls x) lb ha2 hb
        have al : ∀ q ∈ y :: b, vl x < vl q := fun q hq => by
          rcases List.mem_cons.mp hq with rfl | hq
          · exact h
          · exact rlt h (hb1 q hq)
        rw [ih, List.map_cons, Lx_skip al, Lx_cons (a := a) Rat.le_refl, Lx_skip (a := a) (fun q hq => ha1 q hq), Ux_hit (a := a) Rat.le_refl, Ux_hit (Rat.le_of_lt h)]
        congr 1
        refine List.map_congr_left fun v hv => ?_
        have hxv : vl x < v := by
          rcases (un_mem _ _ _).mp hv with z | z
          · obtain ⟨q, hq, rfl⟩ := List.mem_map.mp z; exact ha1 q hq
          · obtain ⟨q, hq, rfl⟩ := List.mem_map.mp z; exact al q hq
        rw [Lx_cons (a := a) (Rat.le_of_lt hxv), Ux_cons (a := a) hxv]
      · rename_i h2
        have e : vl x = vl y := Rat.le_antisymm (Rat.not_lt.mp h1) (Rat.not_lt.mp h2)
        have ih := mg_un na nb a b (ls x) (ls y) ha2 hb2
        rw [ih, List.map_cons, Lx_cons (a := a) Rat.le_refl, Lx_skip (a := a) (fun q hq => ha1 q hq), Lx_cons (a := b) (by rw [e]; exact Rat.le_refl), Lx_skip (a := b) (fun q hq => by rw [e]; exact hb1 q hq), Ux_hit (a := a) Rat.le_refl, Ux_hit (a := b) (by rw [e]; exact Rat.le_refl)]
        congr 1
        refine List.map_congr_left fun v hv => ?_
        have hxv : vl x < v := by
          rcases (un_mem _ _ _).mp hv with z | z
          · obtain ⟨q, hq, rfl⟩ := List.mem_map.mp z; exact ha1 q hq
          · obtain ⟨q, hq, rfl⟩ := List.mem_map.mp z; rw [e]; exact hb1 q hq
        rw [Lx_cons (a := a) (Rat.le_of_lt hxv), Ux_cons (a := a) hxv, Lx_cons (a := b) (by rw [← e]; exact Rat.le_of_lt hxv), Ux_cons (a := b) (by rw [← e]; exact hxv)]
termination_by a b => a.length + b.length
def lows (a : List Rg) (v : Rat) : List Int := (a.filter fun x => decide (vl x ≤ v)).map ls
def highs (a : List Rg) (v : Rat) : List Int := (a.filter fun x => decide (v ≤ vl x)).map ms
/-- a ladder of n items -/
structure Lad (n : Int) (a : List Rg) : Prop where
  inc : Inc a
  lo : a.Pairwise fun x y => ls x ≤ ls y
  hi : a.Pairwise fun x y => ms x ≤ ms y
  l0 : ∀ x ∈ a, 0 ≤ ls x ∧ ls x ≤ n
  m0 : ∀ x ∈ a, 0 ≤ ms x ∧ ms x ≤ n
  ends : (a = [] ∧ n = 0) ∨ ∃ x y, a.head? = some x ∧ a.getLast? = some y ∧ ms x = 0 ∧ ls y = n ∧ 0 < n
theorem lows_nil {a : List Rg} {v : Rat} (h : ∀ x ∈ a, v < vl x) : lows a v = [] := by
  unfold lows
  rw [List.filter_eq_nil_iff.mpr fun x hx => by simpa using Rat.not_le.mpr (h x hx)]
  rfl
theorem Lx_max : ∀ (a : List Rg) (la : Int) (v : Rat), Inc a → a.Pairwise (fun x y => ls x ≤ ls y) → (∀ x ∈ a, la ≤ ls x) → (lows a v).foldl max la = Lx la a v
  | [], la, v, _, _, _ => rfl
  | x :: a, la, v, hi, hl, h0 => by
    obtain ⟨hi1, hi2⟩ := List.pairwise_cons.mp hi
    obtain ⟨hl1, hl2⟩ := List.pairwise_cons.mp hl
    by_cases h : vl x ≤ v
    · have e : lows (x :: a) v = ls x :: lows a v := by unfold lows; rw [List.filter_cons_of_pos (by simpa using h)]; rfl
      rw [e, List.foldl_cons, show max la (ls x) = ls x by have := h0 x List.mem_cons_self; omega, Lx_cons h]
      exact Lx_max a (ls x) v hi2 hl2 hl1
    · have h' : v < vl x := Rat.not_le.mp h
      rw [lows_nil fun q hq => by
        rcases List.mem_cons.mp hq with rfl | hq
        · exact h'
        · exact rlt h' (hi1 q hq), Lx_skip fun q hq => by
        rcases List.mem_cons.mp hq with rfl | hq
        · exact h'
        · exact rlt h' (hi1 q hq)]
      rfl
theorem foldl_min_ge : ∀ (l : List Int) (i : Int), (∀ j ∈ l, i ≤ j) → l.foldl min i = i
  | [], i, _ => rfl
  | j :: l, i, h => by
    rw [List.foldl_cons, show min i j = i by have := h j List.mem_cons_self; omega]
    exact foldl_min_ge l i fun q hq => h q (List.mem_cons_of_mem _ hq)
theorem mem_highs {a : List Rg} {v : Rat} {j : Int} (h : j ∈ highs a v) : ∃ x ∈ a, j = ms x := by
  obtain ⟨x, hx, rfl⟩ := List.mem_map.mp h
  exact ⟨x, (List.mem_filter.mp hx).1, rfl⟩
theorem Ux_min : ∀ (a : List Rg) (n : Int) (v : Rat), a.Pairwise (fun x y => ms x ≤ ms y) → (∀ x ∈ a, ms x ≤ n) → (highs a v).foldl min n = Ux a v n
  | [], n, v, _, _ => rfl
  | x :: a, n, v, hm, h0 => by
    obtain ⟨hm1, hm2⟩ := List.pairwise_cons.mp hm
    by_cases h : v ≤ vl x
    · have e : highs (x :: a) v = ms x :: highs a v := by unfold highs; rw [List.filter_cons_of_pos (by simpa using h)]; rfl
      rw [e, List.foldl_cons, show min n (ms x) = ms x by have := h0 x List.mem_cons_self; omega, Ux_hit h]
      refine foldl_min_ge _ _ fun j hj => ?_
      obtain ⟨q, hq, rfl⟩ := mem_highs hj
      exact hm1 q hq
    · have e : highs (x :: a) v = highs a v := by unfold highs; rw [List.filter_cons_of_neg (by simpa using h)]
      rw [e, Ux_cons (Rat.not_le.mp h)]
      exact Ux_min a n v hm2 fun q hq => h0 q (List.mem_cons_of_mem _ hq)
end PX.k57
set_option maxHeartbeats 1000000
namespace PX.k57
open PySem L3 LD PC PD
theorem fmax_mem : ∀ (l : List Int) (i : Int), l.foldl max i = i ∨ l.foldl max i ∈ l
  | [], i => .inl rfl
  | j :: l, i => by
    rw [List.foldl_cons]
    rcases fmax_mem l (max i j) with h | h
    · rw [h]
      rcases Int.le_total i j with z | z
      · right; rw [show max i j = j by omega]; exact List.mem_cons_self
      · left; omega
    · exact .inr (List.mem_cons_of_mem _ h)
theorem fmax_ge : ∀ (l : List Int) (i : Int), i ≤ l.foldl max i ∧ ∀ j ∈ l, j ≤ l.foldl max i
  | [], i => ⟨Int.le_refl _, fun j hj => by cases hj⟩
  | j :: l, i => by
    rw [List.foldl_cons]
    obtain ⟨h1, h2⟩ := fmax_ge l (max i j)
    refine ⟨by omega, fun q hq => ?_⟩
    rcases List.mem_cons.mp hq with rfl | hq
    · omega
    · exact h2 q hq
theorem fmin_mem : ∀ (l : List Int) (i : Int), l.foldl min i = i ∨ l.foldl min i ∈ l
  | [], i => .inl rfl
  | j :: l, i => by
    rw [List.foldl_cons]
    rcases fmin_mem l (min i j) with h | h
    · rw [h]
      rcases Int.le_total i j with z | z
      · left; omega
      · right; rw [show min i j = j by omega]; exact List.mem_cons_self
    · exact .inr (List.mem_cons_of_mem _ h)
theorem fmin_le : ∀ (l : List Int) (i : Int), l.foldl min i ≤ i ∧ ∀ j ∈ l, l.foldl min i ≤ j
  | [], i => ⟨Int.le_refl _, fun j hj => by cases hj⟩
  | j :: l, i => by
    rw [List.foldl_cons]
    obtain ⟨h1, h2⟩ := fmin_le l (min i j)
    refine ⟨by omega, fun q hq => ?_⟩
    rcases List.mem_cons.mp hq with rfl | hq
    · omega
    · exact h2 q hq
section
variable {n na nb : Int} {a b : List Rg} {u v : Rat}
theorem Lad.lx (h : Lad n a) (v : Rat) : Lx 0 a v = (lows a v).foldl max 0 := (Lx_max a 0 v h.inc h.lo fun x hx => (h.l0 x hx).1).symm
theorem Lad.ux (h : Lad n a) (v : Rat) : Ux a v n = (highs a v).foldl min n := (Ux_min a n v h.hi fun x hx => (h.m0 x hx).2).symm
theorem Lad.n0 (h : Lad n a) : 0 ≤ n := by
  rcases h.ends with ⟨_, z⟩ | ⟨x, y, _, _, _, _, z⟩ <;> omega
theorem mem_lows {j : Int} (h : j ∈ lows a v) : ∃ x ∈ a, vl x ≤ v ∧ j = ls x := by
  obtain ⟨x, hx, rfl⟩ := List.mem_map.mp h
  exact ⟨x, (List.mem_filter.mp hx).1, by simpa using (List.mem_filter.mp hx).2, rfl⟩
theorem in_lows {x : Rg} (hx : x ∈ a) (h : vl x ≤ v) : ls x ∈ lows a v := List.mem_map.mpr ⟨x, List.mem_filter.mpr ⟨hx, by simpa using h⟩, rfl⟩
theorem mem_highs2 {j : Int} (h : j ∈ highs a v) : ∃ x ∈ a, v ≤ vl x ∧ j = ms x := by
  obtain ⟨x, hx, rfl⟩ := List.mem_map.mp h
  exact ⟨x, (List.mem_filter.mp hx).1, by simpa using (List.mem_filter.mp hx).2, rfl⟩
theorem in_highs {x : Rg} (hx : x ∈ a) (h : v ≤ vl x) : ms x ∈ highs a v := List.mem_map.mpr ⟨x, List.mem_filter.mpr ⟨hx, by simpa using h⟩, rfl⟩
theorem Lad.lmono (h : Lad n a) (huv : u ≤ v) : Lx 0 a u ≤ Lx 0 a v := by
  rw [h.lx, h.lx]
  obtain ⟨g1, g2⟩ := fmax_ge (lows a v) 0
  rcases fmax_mem (lows a u) 0 with e | e
  · rw [e]; exact g1
  · obtain ⟨x, hx, h1, h2⟩ := mem_lows e
    rw [h2]
    exact g2 _ (in_lows hx (Rat.le_trans h1 huv))
theorem Lad.umono (h : Lad n a) (huv : u ≤ v) : Ux a u n ≤ Ux a v n := by
  rw [h.ux, h.ux]
  obtain ⟨g1, g2⟩ := fmin_le (highs a u) n
  rcases fmin_mem (highs a v) n with e | e
  · rw [e]; exact g1
  · obtain ⟨x, hx, h1, h2⟩ := mem_highs2 e
    rw [h2]
    exact g2 _ (in_highs hx (Rat.le_trans huv h1))
theorem Lad.l01 (h : Lad n a) (v : Rat) : 0 ≤ Lx 0 a v ∧ Lx 0 a v ≤ n := by
  rw [h.lx]
  refine ⟨(fmax_ge _ _).1, ?_⟩
  rcases fmax_mem (lows a v) 0 with e | e
  · rw [e]; exact h.n0
  · obtain ⟨x, hx, h1, h2⟩ := mem_lows e
    rw [h2]; exact (h.l0 x hx).2
theorem Lad.u01 (h : Lad n a) (v : Rat) : 0 ≤ Ux a v n ∧ Ux a v n ≤ n := by
  rw [h.ux]
  refine ⟨?_, (fmin_le _ _).1⟩
  rcases fmin_mem (highs a v) n with e | e
  · rw [e]; exact h.n0
  · obtain ⟨x, hx, h1, h2⟩ := mem_highs2 e
    rw [h2]; exact (h.m0 x hx).1
theorem head_le {l : List Rat} (h : l.Pairwise (· < ·)) (e : l.head? = some v) : ∀ u ∈ l, v ≤ u := by
  cases l with
  | nil => cases e
  | cons x l =>
    cases e
    intro u hu
    rcases List.mem_cons.mp hu with rfl | hu
    · exact Rat.le_refl
    · exact Rat.le_of_lt ((List.pairwise_cons.mp h).1 u hu)
theorem last_ge : ∀ {l : List Rat}, l.Pairwise (· < ·) → l.getLast? = some v → ∀ u ∈ l, u ≤ v
  | [], _, e, _, _ => by cases e
  | [x], _, e, u, hu => by cases e; rw [List.mem_singleton.mp hu]; exact Rat.le_refl
  | x :: y :: l, h, e, u, hu => by
    obtain ⟨h1, h2⟩ := List.pairwise_cons.mp h
    have e' : (y :: l).getLast? = some v := by rw [← e]; simp [List.getLast?_cons_cons]
    rcases List.mem_cons.mp hu with rfl | hu
    · exact Rat.le_of_lt (h1 v (List.mem_of_getLast? e'))
    · exact last_ge h2 e' u hu
theorem Lx_full : ∀ {a : List Rg} {la : Int} {y : Rg}, (∀ x ∈ a, vl x ≤ v) → a.getLast? = some y → Lx la a v = ls y
  | [], _, _, _, e => by cases e
  | [x], la, y, h, e => by cases e; rw [Lx_cons (h x List.mem_cons_self)]; rfl
  | x :: x2 :: a, la, y, h, e => by
    have e' : (x2 :: a).getLast? = some y := by rw [← e]; simp [List.getLast?_cons_cons]
    rw [Lx_cons (h x List.mem_cons_self)]
    exact Lx_full (fun q hq => h q (List.mem_cons_of_mem _ hq)) e'
theorem Lad.lend (h : Lad n a) (hv : ∀ x ∈ a, vl x ≤ v) : Lx 0 a v = n := by
  rcases h.ends with ⟨rfl, z⟩ | ⟨x, y, _, e, _, e2, _⟩
  · rw [z]; rfl
  · rw [Lx_full hv e, e2]
theorem Lad.uend (h : Lad n a) (hv : ∀ x ∈ a, v ≤ vl x) : Ux a v n = 0 := by
  rcases h.ends with ⟨rfl, z⟩ | ⟨x, y, e, _, e2, _, _⟩
  · rw [z]; rfl
  · cases a with
    | nil => cases e
    | cons x' a =>
      cases e
      rw [Ux_hit (hv x List.mem_cons_self), e2]
/-- two ladders give a ladder -/
theorem Lad.mg (h1 : Lad na a) (h2 : Lad nb b) : Lad (na + nb) (mg na nb a b 0 0) := by
  have hu := un_inc a b h1.inc h2.inc
  have hm := un_mem a b
  rw [mg_un na nb a b 0 0 h1.inc h2.inc]
  have n1 := h1.n0
  have n2 := h2.n0
  refine ⟨List.pairwise_map.mpr hu, List.pairwise_map.mpr (hu.imp fun {u v} huv => ?_), List.pairwise_map.mpr (hu.imp fun {u v} huv => ?_), fun x hx => ?_, fun x hx => ?_, ?_⟩
  · show Lx 0 a u + Lx 0 b u ≤ Lx 0 a v + Lx 0 b v
    have := h1.lmono (Rat.le_of_lt huv)
    have := h2.lmono (Rat.le_of_lt huv)
    omega
  · show Ux a u na + Ux b u nb ≤ Ux a v na + Ux b v nb
    have := h1.umono (Rat.le_of_lt huv)
    have := h2.umono (Rat.le_of_lt huv)
    omega
  · obtain ⟨v, hv, rfl⟩ := List.mem_map.mp hx
    show 0 ≤ Lx 0 a v + Lx 0 b v ∧ Lx 0 a v + Lx 0 b v ≤ na + nb
    have := h1.l01 v
    have := h2.l01 v
    omega
  · obtain ⟨v, hv, rfl⟩ := List.mem_map.mp hx
    show 0 ≤ Ux a v na + Ux b v nb ∧ Ux a v na + Ux b v nb ≤ na + nb
    have := h1.u01 v
    have := h2.u01 v
    omega
  · cases e : un a b with
    | nil =>
      left
      have ha : a = [] := by
        cases a with
        | nil => rfl
        | cons x a => exact absurd ((hm (vl x)).mpr (.inl (by simp))) (by rw [e]; simp)
      have hb : b = [] := by
        cases b with
        | nil => rfl
        | cons x b => exact absurd ((hm (vl x)).mpr (.inr (by simp))) (by rw [e]; simp)
      subst ha hb
      refine ⟨rfl, ?_⟩
      rcases h1.ends with ⟨_, z1⟩ | ⟨x, y, e1, _⟩
      · rcases h2.ends with ⟨_, z2⟩ | ⟨x, y, e1, _⟩
        · omega
        · cases e1
      · cases e1
    | cons v0 r =>
      right
      rw [e] at hu hm
      have hh := head_le hu (v := v0) rfl
      obtain ⟨v1, hv1⟩ : ∃ v1, (v0 :: r).getLast? = some v1 := ⟨(v0 :: r).getLast (by simp), List.getLast?_eq_getLast (by simp)⟩
      have hl := last_ge hu hv1
      refine ⟨(v0, Lx 0 a v0 + Lx 0 b v0, Ux a v0 na + Ux b v0 nb), (v1, Lx 0 a v1 + Lx 0 b v1, Ux a v1 na + Ux b v1 nb), rfl, by rw [List.getLast?_map, hv1]; rfl, ?_, ?_, ?_⟩
      · show Ux a v0 na + Ux b v0 nb = 0
        rw [h1.uend fun x hx => hh _ ((hm _).mpr (.inl (List.mem_map_of_mem hx))), h2.uend fun x hx => hh _ ((hm _).mpr (.inr (List.mem_map_of_mem hx)))]
        rfl
      · show Lx 0 a v1 + Lx 0 b v1 = na + nb
        rw [h1.lend fun x hx => hl _ ((hm _).mpr (.inl (List.mem_map_of_mem hx))), h2.lend fun x hx => hl _ ((hm _).mpr (.inr (List.mem_map_of_mem hx)))]
      · have : v0 ∈ a.map vl ∨ v0 ∈ b.map vl := (hm v0).mp List.mem_cons_self
        rcases this with z | z
        · rcases h1.ends with ⟨z1, _⟩ | ⟨_, _, _, _, _, _, z1⟩
          · subst z1; cases z
          · omega
        · rcases h2.ends with ⟨z1, _⟩ | ⟨_, _, _, _, _, _, z1⟩
          · subst z1; cases z
          · omega
theorem Lad.nil : Lad 0 [] := ⟨.nil, .nil, .nil, (fun x hx => by cases hx), (fun x hx => by cases hx), .inl ⟨rfl, rfl⟩⟩
end
def d0 : Rg := (0, 0, 0)
def gaps (a : List Rg) : List Int := (List.range (a.length - 2)).map fun k => ms (a.getD (k + 2) d0) - ls (a.getD k d0)
/-- the least item -/
def lst (gs : List Int) : Int := gs.tail.foldl min (gs.headD 0)
def ixm (gs : List Int) : Nat := gs.findIdx fun g => decide (g ≤ lst gs)
def cutA (a : List Rg) : List Rg := a.take (1 + ixm (gaps a)) ++ a.drop (1 + ixm (gaps a) + 1)
def cutN (lim : Nat) : Nat → List Rg → List Rg
  | 0, a => a
  | k + 1, a => if lim < a.length then cutN lim k (cutA a) else a
def cutR (lim : Nat) (a : List Rg) : List Rg := cutN lim a.length a
theorem gaps_len (a : List Rg) : (gaps a).length = a.length - 2 := by unfold gaps; simp
theorem lst_mem {gs : List Int} (h : gs ≠ []) : lst gs ∈ gs := by
  cases gs with
  | nil => exact absurd rfl h
  | cons i is =>
    show is.foldl min i ∈ i :: is
    rcases fmin_mem is i with e | e
    · rw [e]; exact List.mem_cons_self
    · exact List.mem_cons_of_mem _ e
theorem ixm_lt {gs : List Int} (h : gs ≠ []) : ixm gs < gs.length := by
  unfold ixm
  exact List.findIdx_lt_length_of_exists ⟨lst gs, lst_mem h, by simp⟩
theorem cut_at {a : List Rg} (h : 3 < a.length) : 1 + ixm (gaps a) < a.length - 1 := by
  have := ixm_lt (gs := gaps a) (by
    intro e
    have := congrArg List.length e
    rw [gaps_len] at this
    simp at this
    omega)
  rw [gaps_len] at this
  omega
theorem cutA_sub (a : List Rg) : (cutA a).Sublist a := by
  unfold cutA
  rw [← List.eraseIdx_eq_take_drop_succ]
  exact List.eraseIdx_sublist ..
theorem Lad.cutA {n : Int} {a : List Rg} (h : Lad n a) (h3 : 3 < a.length) : Lad n (cutA a) := by
  have hs := cutA_sub a
  have hc := cut_at h3
  refine ⟨h.inc.sublist hs, h.lo.sublist hs, h.hi.sublist hs, fun x hx => h.l0 x (hs.subset hx), fun x hx => h.m0 x (hs.subset hx), ?_⟩
  rcases h.ends with ⟨e, _⟩ | ⟨x, y, e1, e2, e3, e4, e5⟩
  · rw [e] at h3; simp at h3
  · refine .inr ⟨x, y, ?_, ?_, e3, e4, e5⟩
    · unfold k57.cutA
      rw [List.head?_append, List.head?_take, if_neg (by omega), e1]
      rfl
    · unfold k57.cutA
      rw [List.getLast?_append, List.getLast?_drop, if_neg (by omega), e2]
      rfl
theorem Lad.cutN {n : Int} {lim : Nat} (h3 : 3 ≤ lim) : ∀ (k : Nat) (a : List Rg), Lad n a → Lad n (cutN lim k a)
  | 0, a, h => h
  | k + 1, a, h => by
    show Lad n (if lim < a.length then k57.cutN lim k (k57.cutA a) else a)
    split
    · exact Lad.cutN h3 k _ (h.cutA (by omega))
    · exact h
theorem Lad.cut {n : Int} {lim : Nat} {a : List Rg} (h3 : 3 ≤ lim) (h : Lad n a) : Lad n (cutR lim a) := Lad.cutN h3 _ _ h
end PX.k57
set_option maxHeartbeats 1000000
namespace PX
open PySem L3 LD PC PD
@[local simp] theorem ne_sh : (PySem.Str.ofString "own_slope" = PySem.Str.ofString "own_height") = False := eq_false (by decide +kernel)
section
variable {D B : Nat} {ps : List P2}
def lb (ps : List P2) : Rat := spc ps / spx ps
end
end PX
set_option maxHeartbeats 1000000
namespace PX
open PySem L3 LD PC PD
def smo (qs : List Rat) (k : Nat) : Rat := sumQ (qs.map (· ^ k))
def sms (o : Nat) (qs : List Rat) : List Rat := (List.range o).map fun j => smo qs (j + 1)
end PX
set_option maxHeartbeats 1000000
namespace PX
open PySem L3 LD PC PD
def moN : List Str := ["own_kind", "own_many", "own_order", "own_sums"]
/-- Moments by size, order, sums -/
def moV (many : Int) (o : Nat) (ss : List Rat) : MO := .nst "Moments" moN [.str "moments", .int many, .int o, .tup (ss.map .rat)]
/-- Moments of numbers -/
def moO (o : Nat) (qs : List Rat) : MO := moV qs.length o (sms o qs)
theorem flat_rats : ∀ qs : List Rat, flatL (qs.map .rat) = true
  | [] => rfl
  | q :: qs => by simp [flatL, flatP, flat_rats qs]
@[simp] theorem flat_moV (many : Int) (o : Nat) (ss : List Rat) : flatM (moV many o ss) = true := by
  simp [moV, flatL, flatP, flat_rats]
@[simp] theorem flat_moO (o : Nat) (qs : List Rat) : flatM (moO o qs) = true := flat_moV _ _ _
section
variable {a b c d v : PV}
@[simp] theorem mo_kind : L3.getV "own_kind" moN [a, b, c, d] = some a := by kernel_rfl
@[simp] theorem mo_many : L3.getV "own_many" moN [a, b, c, d] = some b := by kernel_rfl
@[simp] theorem mo_order : L3.getV "own_order" moN [a, b, c, d] = some c := by kernel_rfl
@[simp] theorem mo_sums : L3.getV "own_sums" moN [a, b, c, d] = some d := by kernel_rfl
@[simp] theorem mo_pmany : L3.putV "own_many" v moN [a, b, c, d] = [a, v, c, d] := by kernel_rfl
@[simp] theorem mo_psums : L3.putV "own_sums" v moN [a, b, c, d] = [a, b, c, v] := by kernel_rfl
@[simp] theorem mo_nmany : L3.putN "own_many" moN = moN := by kernel_rfl
@[simp] theorem mo_nsums : L3.putN "own_sums" moN = moN := by kernel_rfl
@[simp] theorem mo_len : moN.length = 4 := rfl
@[simp] theorem mem_mo : (("Moments" : Str) ∈ ([("Summary" : Str), ("Moments" : Str)] : List Str)) = True := eq_true (by decide +kernel)
def kN1 : List Str := ["own_kind"]
def kN2 : List Str := ["own_kind", "own_many"]
def kN3 : List Str := ["own_kind", "own_many", "own_order"]
@[simp] theorem kp1 : L3.putN "own_kind" [] = kN1 := by kernel_rfl
@[simp] theorem kp2 : L3.putN "own_many" kN1 = kN2 := by kernel_rfl
@[simp] theorem kp3 : L3.putN "own_order" kN2 = kN3 := by kernel_rfl
@[simp] theorem kp4 : L3.putN "own_sums" kN3 = moN := by kernel_rfl
@[simp] theorem kv1 : L3.putV "own_kind" a [] [] = [a] := by kernel_rfl
@[simp] theorem kv2 : L3.putV "own_many" b kN1 [a] = [a, b] := by kernel_rfl
@[simp] theorem kv3 : L3.putV "own_order" c kN2 [a, b] = [a, b, c] := by kernel_rfl
@[simp] theorem kv4 : L3.putV "own_sums" d kN3 [a, b, c] = [a, b, c, d] := by kernel_rfl
@[simp] theorem kl1 : kN1.length = 1 := rfl
@[simp] theorem kl2 : kN2.length = 2 := rfl
@[simp] theorem kl3 : kN3.length = 3 := rfl
end
theorem seq_nx {ds du : DS} {s s1 : L3.S} (h : ds s = .ok .nx s1) : dSeq ds du s = du s1 := by
  unfold dSeq
  rw [h]
  rfl
end PX
set_option maxHeartbeats 1000000
namespace PX
open PySem L3 LD PC PD
/-- sizes: at most N numbers by D, B, powers up to the o-th -/
structure Mz (D B N o : Nat) : Prop where
  b1 : 1 ≤ B
  hD : D ≤ 2 ^ 1000
  sm : Sm D B
  pw : (N * B ^ o) * D ^ o ≤ 2 ^ 1500
  dp : D ^ o ≤ 2 ^ 1500
  o2 : 2 ≤ o
  o8 : o ≤ 8
  n1 : N ≤ 1000
  n0 : 1 ≤ N
section
variable {D B N o : Nat} {qs xs ys : List Rat}
section
variable {mu : List MO} {a : Nat} {ps : List PV}
theorem set_set {mu : List MO} {a : Nat} {x y : MO} : (mu.set a x).set a y = mu.set a y := by simp
theorem get_set {mu : List MO} {a : Nat} {x y : MO} (h : mu[a]? = some y) : (mu.set a x)[a]? = some x := by
  have := (List.getElem?_eq_some_iff.mp h).1
  simp [this]
end
end
end PX
set_option maxHeartbeats 1000000
namespace PX
open PySem L3 LD PC PD
section
variable {D B N o : Nat} {qs xs ys : List Rat} {mu : List MO} {a b : Nat}
@[simp] theorem gEqV_rats (us vs : List Rat) (h : PV → PV → L3.S → R L3.S PV) (st : L3.S) : gEqV h (.tup (us.map .rat)) (.tup (vs.map .rat)) st = .ok (.bl (decide (us = vs))) st := by
  unfold gEqV
  simp only [ratsP_map]
@[simp] theorem gEqV_int (i j : Int) (h : PV → PV → L3.S → R L3.S PV) (st : L3.S) : gEqV h (.int i) (.int j) st = h (.int i) (.int j) st := rfl
end
end PX
set_option maxHeartbeats 1000000
namespace PX
open PySem L3 LD PC PD
end PX
set_option maxHeartbeats 1000000
namespace PX
open PySem L3 LD PC PD
end PX
set_option maxHeartbeats 1000000
namespace PX
open PySem L3 LD PC PD
end PX
set_option maxHeartbeats 1000000
namespace PX
open PySem L3 LD PC PD
section
variable {D B N o : Nat} {qs xs ys : List Rat} {mu : List MO} {a b : Nat}
theorem run_rt {n : Nat} {d : DS} {ps : List PV} {mu : List MO} {v : PV} {env : List (Option SV)} {s1 : L3.S} (he : ps.map (fun p => some (SV.val p)) ++ List.replicate (n - ps.length) none = env) (h : d ⟨env, mu⟩ = .ok (.rt v) s1) : runBody n d ps mu = .ok v s1.mu := by
  unfold runBody
  rw [he, h]
end
end PX
set_option maxHeartbeats 1000000
namespace PX
open PySem L3 LD PC PD
end PX
set_option maxHeartbeats 1000000
namespace PX
open PySem L3 LD PC PD
end PX
set_option maxHeartbeats 1000000
namespace PX
open PySem L3 LD PC PD
end PX
set_option maxHeartbeats 1000000
namespace PX
open PySem L3 LD PC PD
end PX
set_option maxHeartbeats 1000000
namespace PX
open PySem L3 LD PC PD
end PX
set_option maxHeartbeats 1000000
namespace PX
open PySem L3 LD PC PD
end PX
set_option maxHeartbeats 1000000
namespace PX
open PySem L3 LD PC PD
end PX
set_option maxHeartbeats 1000000
namespace PX
open PySem L3 LD PC PD
end PX
set_option maxHeartbeats 1000000
namespace PX
open PySem L3 LD PC PD
def ObR (l : List (Nat × MO)) (mu : List MO) : Prop := ∀ p ∈ l, mu[p.1]? = some p.2
structure ObS (l : List (Nat × MO)) (mu : List MO) (n k : Nat) : Prop where
  src : Src mu n k
  obs : ObR l mu
  ne : ∀ p ∈ l, p.1 ≠ n
  nd : (l.map (·.1)).Nodup
section
variable {l : List (Nat × MO)} {mu : List MO} {n k a : Nat} {x y : MO}
theorem obr_set {v : MO} (ne : ∀ p ∈ l, p.1 ≠ n) (h : ObR l mu) : ObR l (mu.set n v) := fun p hp => by
  rw [List.getElem?_set_ne (Ne.symm (ne p hp))]
  exact h p hp
theorem ObS.r (h : ObS l mu n k) : SrcR (ObR l) mu n k := ⟨h.src.at_, h.src.flat, h.obs, fun m v hm => obr_set h.ne hm⟩
theorem ObS.back (h : ObS l mu n k) {mu' : List MO} {k' : Nat} (h' : SrcR (ObR l) mu' n k') : ObS l mu' n k' := ⟨h'.src, h'.keep, h.ne, h.nd⟩
theorem ObS.le {k' : Nat} (h : ObS l mu n k) (hk : k ≤ k') : ObS l mu n k' := ⟨h.src.le hk, h.obs, h.ne, h.nd⟩
theorem ObS.at_ (h : ObS l mu n k) {p : Nat × MO} (hp : p ∈ l) : mu[p.1]? = some p.2 := h.obs p hp
theorem ObS.head (h : ObS ((a, x) :: l) mu n k) : mu[a]? = some x := h.obs (a, x) List.mem_cons_self
theorem ObS.set (h : ObS ((a, x) :: l) mu n k) (hf : flatM y = true) : ObS ((a, y) :: l) (mu.set a y) n k := by
  have hd := h.head
  have hne : a ≠ n := h.ne (a, x) List.mem_cons_self
  have hnd := List.nodup_cons.mp h.nd
  refine ⟨⟨?_, flat_set h.src.flat hf, trivial, fun _ _ _ => trivial⟩, fun p hp => ?_, fun p hp => ?_, h.nd⟩
  · obtain ⟨c, k0, d, h1, h2, h3⟩ := h.src.at_
    exact ⟨c, k0, d, by rw [List.getElem?_set_ne hne]; exact h1, h2, h3⟩
  · rcases List.mem_cons.mp hp with e | hp
    · subst e; exact get_set hd
    · rw [List.getElem?_set_ne (fun z => hnd.1 (List.mem_map.mpr ⟨p, hp, z.symm⟩))]
      exact h.obs p (List.mem_cons_of_mem _ hp)
  · rcases List.mem_cons.mp hp with e | hp
    · subst e; exact hne
    · exact h.ne p (List.mem_cons_of_mem _ hp)
theorem ObS.of (h : Src mu n k) : ObS [] mu n k := ⟨h, (fun p hp => by cases hp), (fun p hp => by cases hp), List.nodup_nil⟩
end
section
variable {D B N o : Nat} {qs xs : List Rat} {ps : List PV} {l : List (Nat × MO)} {mu : List MO} {n k a : Nat} {Q : PV → List MO → Prop}
theorem cutA {i : Int} (h : 0 ≤ i) (xs : List PV) (st : L3.S) : fCut (.lst xs) (some i) none st = .ok (.lst (xs.drop i.toNat)) st := by
  unfold fCut
  simp [cut_drop h]
end
section
variable {D B N o : Nat} {qs xs : List Rat} {ps : List PV} {l : List (Nat × MO)} {mu : List MO} {n k a : Nat} {Q : PV → List MO → Prop}
theorem c_int (i m : Int) (st : L3.S) : gEq false (.int m) (.int i) st = .ok (.bl (decide (m = i))) st := by
  have q : W (gEq false (.int m) (.int i) st) fun v t => v = .bl (decide (m = i)) ∧ t = st := by
    simp [okD, eqP]
    exact Bool.eq_iff_iff.mpr (by simp)
  obtain ⟨v, t, e, rfl, rfl⟩ := q.out
  exact e
end
end PX
set_option maxHeartbeats 1000000
namespace PX
open PySem L3 LD PC PD
end PX
set_option maxHeartbeats 1000000
namespace PX
open PySem L3 LD PC PD
end PX
set_option maxHeartbeats 1000000
namespace PX
open PySem L3 LD PC PD
end PX
set_option maxHeartbeats 1000000
namespace PX
open PySem L3 LD PC PD
/-- sizes for moved sums of powers -/
structure Sz (D B N o E C : Nat) : Prop where
  m : Mz D B N o
  e0 : 0 < E
  c1 : 1 ≤ C
  t : (700 * (N * B ^ o) * C ^ o) * (D ^ o * E ^ o) ≤ 2 ^ 3900
  u : D ^ o * E ^ o ≤ 2 ^ 3900
section
variable {D B N o E C k : Nat} {qs : List Rat} {b : Rat}
theorem Sz.dpos (Z : Sz D B N o E C) : 0 < D ^ o := Nat.pow_pos Z.m.sm.pos
theorem Sz.epos (Z : Sz D B N o E C) : 0 < E ^ o := Nat.pow_pos Z.e0
theorem Sz.par (Z : Sz D B N o E C) {i : Nat} (hi : i ≤ 10) {x : Rat} (h : Zd (D ^ o * E ^ o) (i * (N * B ^ o * 70 * C ^ o)) x) : Zb x 3900 := by
  refine h.zb (Nat.mul_pos Z.dpos Z.epos) (Nat.le_trans (Nat.mul_le_mul_right _ ?_) Z.t) Z.u
  calc i * (N * B ^ o * 70 * C ^ o) ≤ 10 * (N * B ^ o * 70 * C ^ o) := Nat.mul_le_mul_right _ hi
    _ = 700 * (N * B ^ o) * C ^ o := by rw [← Nat.mul_assoc, Nat.mul_comm (N * B ^ o) 70, ← Nat.mul_assoc]
end
end PX
set_option maxHeartbeats 1000000
namespace PX
open PySem L3 LD PC PD
end PX
set_option maxHeartbeats 1000000
namespace PX
open PySem L3 LD PC PD
end PX
set_option maxHeartbeats 1000000
namespace PX
open PySem L3 LD PC PD
end PX
set_option maxHeartbeats 1000000
namespace PX
open PySem L3 LD PC PD
end PX
set_option maxHeartbeats 1000000
namespace PX
open PySem L3 LD PC PD
end PX
set_option maxHeartbeats 1000000
namespace PX
open PySem L3 LD PC PD
end PX
set_option maxHeartbeats 1000000
namespace PX
open PySem L3 LD PC PD
end PX
set_option maxHeartbeats 1000000
namespace PX
open PySem L3 LD PC PD
end PX
set_option maxHeartbeats 1000000
namespace PX
open PySem L3 LD PC PD
end PX
set_option maxHeartbeats 1000000
namespace PX
open PySem L3 LD PC PD
end PX
set_option maxHeartbeats 1000000
namespace PX
open PySem L3 LD PC PD
end PX
set_option maxHeartbeats 1000000
namespace PX
open PySem L3 LD PC PD
end PX
set_option maxHeartbeats 1000000
namespace PX
open PySem L3 LD PC PD
end PX
set_option maxHeartbeats 1000000
namespace PX
open PySem L3 LD PC PD
def Pos (m : Int) (o : Nat) (f : Nat → Rat) : Bool :=
  if m = 0 then (List.range o).all fun j => decide (f j = 0)
  else if m = 1 then (List.range o).all fun j => decide (f j = f 0 ^ (j + 1))
  else decide (0 ≤ m) && !decide (f 1 * (m : Rat) < f 0 * f 0)
end PX
set_option maxHeartbeats 1000000
namespace PX
open PySem L3 LD PC PD
end PX
set_option maxHeartbeats 1000000
namespace PX
open PySem L3 LD PC PD
end PX
set_option maxHeartbeats 1000000
namespace PX
open PySem L3 LD PC PD
section
variable {D B N o a b : Nat} {f g : Nat → Rat} {m n : Int} {mu : List MO} {xs ys qs : List Rat} {ps : List PV}
abbrev dp (a : Nat) (ps : List PV) (o2 : Option SV) (mu : List MO) : L3.S := ⟨[some (.val (.ptr a)), some (.val (.tup ps)), o2], mu⟩
end
end PX
set_option maxHeartbeats 1000000
namespace PX
open PySem L3 LD PC PD
section
variable {D B N o a b : Nat} {f g : Nat → Rat} {m n : Int} {mu : List MO} {xs ys qs : List Rat} {ps : List PV}
theorem bin_ok {gg : PV → PV → L3.S → R L3.S PV} {d1 d2 : DE} {s s1 s2 : L3.S} {v w : PV} (h1 : d1 s = .ok v s1) (h2 : d2 s1 = .ok w s2) : dBin gg d1 d2 s = gg v w s2 := by
  unfold dBin
  rw [h1]
  show (d2 s1).bind _ = _
  rw [h2]
  rfl
theorem cons_ok {d : DE} {r : DA} {s s1 s2 : L3.S} {v : PV} {vs : List PV} (h : d s = .ok v s1) (h2 : r s1 = .ok vs s2) : dCons d r s = .ok (v :: vs) s2 := by
  unfold dCons
  rw [h]
  show (r s1).bind _ = _
  rw [h2]
  rfl
end
end PX
set_option maxHeartbeats 1000000
namespace PX
open PySem L3 LD PC PD
end PX
set_option maxHeartbeats 1000000
namespace PX
open PySem L3 LD PC PD
section
variable {D B N o a b : Nat} {f g : Nat → Rat} {m n : Int} {mu mu' : List MO} {xs ys qs : List Rat} {ps : List PV} {w : PV}
abbrev dt (a : Nat) (ps : List PV) : List (Option SV) := [some (.val (.ptr a)), some (.val (.lst ps))]
theorem ret_ok {x : DE} {s s2 : L3.S} {v : PV} (hx : x s = .ok v s2) : dRet x s = .ok (.rt v) s2 := by
  unfold dRet
  rw [hx]
  rfl
end
end PX
set_option maxHeartbeats 1000000
namespace PX
open PySem L3 LD PC PD
section
variable {D B N o a b : Nat} {f g : Nat → Rat} {m n : Int} {mu mu' : List MO} {xs ys qs : List Rat} {ps : List PV} {w : PV}
theorem forL_cons {t : DG} {b : DS} {x : PV} {xs : List PV} {s s1 s2 : L3.S} (h1 : t x s = .ok () s1) (h2 : b s1 = .ok .nx s2) : forL t b (x :: xs) s = forL t b xs s2 := by
  conv => lhs; unfold forL
  rw [h1]
  show (b s1).bind _ = _
  rw [h2]
  rfl
end
end PX
set_option maxHeartbeats 1000000
namespace PX
open PySem L3 LD PC PD
section
variable {D B N o a b c : Nat} {f g : Nat → Rat} {m n : Int} {mu mu' : List MO} {xs ys qs : List Rat} {ps : List PV} {w : PV} {s : List Rat}
/-- the law's environment -/
abbrev de (L1 L2 oi : PV) (o3 o4 o5 : Option SV) (a b : Nat) (o8 o9 : Option SV) : List (Option SV) := [some (.val L1), some (.val L2), some (.val oi), o3, o4, o5, some (.val (.ptr a)), some (.val (.ptr b)), o8, o9, none, none]
theorem var_ok {env : List (Option SV)} {i : Nat} {v : PV} (h : env[i]? = some (some (.val v))) : dVar i ⟨env, mu⟩ = .ok v ⟨env, mu⟩ := by
  simp [h]
end
end PX
set_option maxHeartbeats 1000000
namespace PX
open PySem L3 LD PC PD
end PX
set_option maxHeartbeats 1000000
namespace PX
open PySem L3 LD PC PD
end PX
set_option maxHeartbeats 1000000
namespace PX
open PySem L3 LD PC PD
end PX
set_option maxHeartbeats 1000000
namespace PX
open PySem L3 LD PC PD
end PX
set_option maxHeartbeats 1000000
namespace PX
open PySem L3 LD PC PD
end PX
set_option maxHeartbeats 1000000
namespace PX
open PySem L3 LD PC PD
end PX
set_option maxHeartbeats 1000000
namespace PX
open PySem L3 LD PC PD
section
variable {D B N o a b c n k : Nat} {mu mu' M0 : List MO} {us vs ws xs ys qs : List Rat} {ns : List Int} {ps as : List PV} {l : List (Nat × MO)} {Q : PV → List MO → Prop}
abbrev da (a n : Nat) (P : PV) (ps : List PV) : List (Option SV) := [some (.val (.ptr a)), some (.val P), some (.val (.ptr n)), some (.val (.lst ps))]
end
end PX
set_option maxHeartbeats 1000000
namespace PX
open PySem L3 LD PC PD
section
variable {D B N o a b c d n k : Nat} {mu mu' M0 : List MO} {us vs ws xs ys zs qs : List Rat} {ns : List Int} {ps as : List PV} {l : List (Nat × MO)} {Q : PV → List MO → Prop}
theorem fnS_ok {F : DF} {r : DA} {env : List (Option SV)} {as : List PV} {v : PV} (ha : r ⟨env, mu⟩ = .ok as ⟨env, mu⟩) (e : F as mu = .ok v mu') : dFnS F r ⟨env, mu⟩ = .ok v ⟨env, mu'⟩ := by
  simp [ha, e]
end
end PX
set_option maxHeartbeats 1000000
namespace PX
open PySem L3 LD PC PD
section
variable {D B N o a b c d n k : Nat} {mu mu' M0 : List MO} {us vs ws xs ys zs qs : List Rat} {ns : List Int} {ps as : List PV} {Q : PV → List MO → Prop}
abbrev te (P K : PV) (n : Nat) (o3 o4 o5 : Option SV) (oi X Y : PV) (a b c d : Nat) : List (Option SV) := [some (.val P), some (.val K), some (.val (.ptr n)), o3, o4, o5, some (.val oi), some (.val X), some (.val Y), some (.val (.ptr a)), some (.val (.ptr b)), some (.val (.ptr c)), some (.val (.ptr d)), none, none]
variable {P K X Y oi : PV} {o3 o4 o5 : Option SV}
theorem set_ok {x : DE} {i : Nat} {env env' : List (Option SV)} {v : PV} (h : x ⟨env, mu⟩ = .ok v ⟨env, mu'⟩) (hi : i < env.length) (he : env.set i (some (.val v)) = env') : dSet i x ⟨env, mu⟩ = .ok .nx ⟨env', mu'⟩ := by
  subst he
  simp [h, hi]
theorem tru_ok {x : DE} {s s1 : L3.S} {bb : Bool} (h : x s = .ok (.bl bb) s1) : dTru x s = .ok bb s1 := by
  simp [h]
end
end PX
set_option maxHeartbeats 1000000
namespace PX
open PySem L3 LD PC PD
section
variable {D B N o a b c d n k : Nat} {mu mu' M0 : List MO} {us vs ws xs ys zs qs : List Rat} {ns : List Int} {ps as : List PV} {l : List (Nat × MO)} {Q : PV → List MO → Prop} {P K X Y oi : PV} {o3 o4 o5 : Option SV}
theorem or_f {c e : DT} {s s1 : L3.S} (h : c s = .ok false s1) : dOrT c e s = e s1 := by
  unfold dOrT
  rw [h]
  rfl
theorem expr_ok {d : DE} {s s1 : L3.S} {v : PV} (h : d s = .ok v s1) : dExpr d s = .ok .nx s1 := by
  unfold dExpr
  rw [h]
  rfl
theorem if_no2 {c : DT} {d : DS} {s s1 : L3.S} (h : c s = .ok false s1) : dIfS c d dSkip s = .ok .nx s1 := by
  unfold dIfS
  rw [h]
  rfl
end
end PX
set_option maxHeartbeats 1000000
namespace PX
open PySem L3 LD PC PD
end PX
set_option maxHeartbeats 1000000
namespace PX.k57
open PySem L3 LD PC PD PX
def rp (x : Rg) : PV := .tup [.rat (vl x), .int (ls x), .int (ms x)]
section
variable {na nb : Int} {A B P : List Rg} {mu : List MO} {i j : Nat} {x y : Rg}
theorem or_t {a b : DE} {s s1 : L3.S} (h : a s = .ok (.bl true) s1) : dOr a b s = .ok (.bl true) s1 := by
  unfold dOr; rw [h]; rfl
theorem or_ff {a b : DE} {s s1 : L3.S} (h : a s = .ok (.bl false) s1) : dOr a b s = b s1 := by
  unfold dOr; rw [h]; rfl
theorem and_tt {a b : DE} {s s1 : L3.S} (h : a s = .ok (.bl true) s1) : dAnd a b s = b s1 := by
  unfold dAnd; rw [h]; rfl
theorem ltI {d e : DE} {s : L3.S} {p q : Int} (h1 : d s = .ok (.int p) s) (h2 : e s = .ok (.int q) s) : dBin gLt d e s = .ok (.bl (decide (p < q))) s := (bin_ok h1 h2).trans rfl
theorem eqI {d e : DE} {s : L3.S} {p q : Int} (h1 : d s = .ok (.int p) s) (h2 : e s = .ok (.int q) s) : dBin (gEq false) d e s = .ok (.bl (decide (p = q))) s := (bin_ok h1 h2).trans (c_int q p s)
theorem intB {d : DE} {s : L3.S} {b : Bool} (h : d s = .ok (.bl b) s) : dFn fIntB (dCons d dNil) s = .ok (.int (if b then 1 else 0)) s := by
  simp [h]
end
end PX.k57
set_option maxHeartbeats 1000000
namespace PX.k57
open PySem L3 LD PC PD PX
end PX.k57
set_option maxHeartbeats 1000000
namespace PX.k57
open PySem L3 LD PC PD PX
section
variable {A : List Rg} {mu : List MO} {lim : Nat}
abbrev cS (R0 : PV) (lim : Int) (F : List PV) (o3 o4 o5 o6 : Option SV) (mu : List MO) : L3.S := ⟨[some (.val R0), some (.val (.int lim)), some (.val (.lst F)), o3, o4, o5, o6], mu⟩
end
end PX.k57
set_option maxHeartbeats 1000000
namespace PX.k57
open PySem L3 LD PC PD PX
def ldN : List Str := ["own_kind", "own_limit", "own_many", "own_rungs"]
def ldV (lim n : Int) (rs : List Rg) : MO := .nst "Ladder" ldN [.str "ladder", .int lim, .int n, .tup (rs.map rp)]
theorem flat_rps : ∀ rs : List Rg, flatL (rs.map rp) = true
  | [] => rfl
  | x :: rs => by rw [List.map_cons]; simp [flatL, flatP, rp, flat_rps rs]
@[simp] theorem flat_ldV (lim n : Int) (rs : List Rg) : flatM (ldV lim n rs) = true := by
  simp [ldV, flatL, flatP, flat_rps]
section
variable {a b c d v : PV}
@[simp] theorem ld_kind : L3.getV "own_kind" ldN [a, b, c, d] = some a := by kernel_rfl
@[simp] theorem ld_lim : L3.getV "own_limit" ldN [a, b, c, d] = some b := by kernel_rfl
@[simp] theorem ld_many : L3.getV "own_many" ldN [a, b, c, d] = some c := by kernel_rfl
@[simp] theorem ld_rungs : L3.getV "own_rungs" ldN [a, b, c, d] = some d := by kernel_rfl
@[simp] theorem ld_pmany : L3.putV "own_many" v ldN [a, b, c, d] = [a, b, v, d] := by kernel_rfl
@[simp] theorem ld_prungs : L3.putV "own_rungs" v ldN [a, b, c, d] = [a, b, c, v] := by kernel_rfl
@[simp] theorem ld_nmany : L3.putN "own_many" ldN = ldN := by kernel_rfl
@[simp] theorem ld_nrungs : L3.putN "own_rungs" ldN = ldN := by kernel_rfl
@[simp] theorem ld_len : ldN.length = 4 := rfl
@[simp] theorem mem_ld1 : (("Ladder" : Str) ∈ ([("Ladder" : Str)] : List Str)) = True := eq_true (by decide +kernel)
@[simp] theorem mem_ld2 : (("Ladder" : Str) ∈ ([("Bounded" : Str), ("Ladder" : Str)] : List Str)) = True := eq_true (by decide +kernel)
def bN2 : List Str := ["own_kind", "own_limit"]
def bN3 : List Str := ["own_kind", "own_limit", "own_many"]
@[simp] theorem kpl2 : L3.putN "own_limit" kN1 = bN2 := by kernel_rfl
@[simp] theorem kpl3 : L3.putN "own_many" bN2 = bN3 := by kernel_rfl
@[simp] theorem kpl4 : L3.putN "own_rungs" bN3 = ldN := by kernel_rfl
@[simp] theorem kvl2 : L3.putV "own_limit" b kN1 [a] = [a, b] := by kernel_rfl
@[simp] theorem kvl3 : L3.putV "own_many" c bN2 [a, b] = [a, b, c] := by kernel_rfl
@[simp] theorem kvl4 : L3.putV "own_rungs" d bN3 [a, b, c] = [a, b, c, d] := by kernel_rfl
@[simp] theorem bl2 : bN2.length = 2 := rfl
@[simp] theorem bl3 : bN3.length = 3 := rfl
end
section
variable {mu : List MO} {lim n : Int} {rs : List Rg} {a : Nat} {env : List (Option SV)} {v : Rat} {x : PV}
theorem tup_ok {r : DA} {s s1 : L3.S} {as : List PV} (ha : r s = .ok as s1) (hl : as.length ≤ 1000) : dTup r s = .ok (.tup as) s1 := by
  unfold dTup
  rw [ha]
  simp [hl]
def st1 (lim : Nat) (p : Int × List Rg) (v : Rat) : Int × List Rg := (p.1 + 1, cutR lim (mg p.1 1 p.2 [(v, 1, 0)] 0 0))
/-- a ladder with sizes -/
structure LdZ (lim : Nat) (p : Int × List Rg) : Prop where
  lad : Lad p.1 p.2
  len : p.2.length ≤ lim
  z : ∀ x ∈ p.2, Zd 60 30 (vl x)
theorem LdZ.nil (lim : Nat) : LdZ lim (0, []) := ⟨Lad.nil, Nat.zero_le _, fun x hx => by cases hx⟩
end
end PX.k57
set_option maxHeartbeats 1000000
namespace PX.k57
open PySem L3 LD PC PD PX
section
variable {mu : List MO} {lim : Nat} {n : Int} {rs : List Rg} {a : Nat} {env : List (Option SV)} {v : Rat} {x : PV} {p : Int × List Rg} {qs : List Rat} {ts : List PV}
theorem for_ok {di : DI} {t : DG} {b : DS} {s s1 : L3.S} {ys : List PV} {r : R L3.S Fl} (h : di s = .ok ys s1) (h2 : forL t b ys s1 = r) : dFor di t b s = r := by
  unfold dFor
  rw [h]
  exact h2
def hiL (rs : List Rg) (v : Rat) : List Int := (rs.filter fun x => decide (v < vl x)).map ms
theorem seq_tup {d : DE} {s s1 : L3.S} {l : List PV} (h : d s = .ok (.tup l) s1) : iSeq d s = .ok l s1 := by
  simp [h]
end
end PX.k57
set_option maxHeartbeats 1000000
namespace PX.k57
open PySem L3 LD PC PD PX
theorem geI {d e : DE} {s : L3.S} {p q : Int} (h1 : d s = .ok (.int p) s) (h2 : e s = .ok (.int q) s) : dBin gGe d e s = .ok (.bl (decide (q ≤ p))) s := (bin_ok h1 h2).trans rfl
end PX.k57
set_option maxHeartbeats 1000000
namespace PX.k57
open PySem L3 LD PC PD PX
end PX.k57
set_option maxHeartbeats 1000000
namespace PX.k57
open PySem L3 LD PC PD PX
end PX.k57
set_option maxHeartbeats 1000000
namespace PX.k57
open PySem L3 LD PC PD PX
end PX.k57
set_option maxHeartbeats 1000000
namespace PX.k09
open PySem L3 LD PC PD PX L2 PX.k57
end PX.k09
set_option maxHeartbeats 1000000
namespace PX.k09
open PySem L3 LD PC PD PX L2 PX.k57
end PX.k09
set_option maxHeartbeats 1000000
namespace PX.k09
open PySem L3 LD PC PD PX L2 PX.k57
section
variable {mu : List MO} {env : List (Option SV)} {m d : Nat} {sg : Int} {T : Str} {i : Int}
theorem un_ok09 {f : PV → L3.S → R L3.S PV} {d : DE} {s s1 : L3.S} {v w : PV} (h : d s = .ok v s1) (h2 : f v s1 = .ok w s1) : dUn f d s = .ok w s1 := by
  unfold dUn
  rw [h]
  exact h2
end
end PX.k09
set_option maxHeartbeats 1000000
namespace PX.k09
open PySem L3 LD PC PD PX L2 PX.k57
end PX.k09
set_option maxHeartbeats 1000000
namespace PX.k09
open PySem L3 LD PC PD PX L2 PX.k57
section
variable {mu : List MO} {env : List (Option SV)} {x y z : Rat} {a b : Nat} {d e : DE}
theorem mt2 {F : DF} {p q w : PV} (e : F [p, q] mu = .ok w mu) : fMt 2 F [p, q] ⟨env, mu⟩ = .ok w ⟨env, mu⟩ := by
  simp [e]
theorem mt1 {F : DF} {p w : PV} (e : F [p] mu = .ok w mu) : fMt 1 F [p] ⟨env, mu⟩ = .ok w ⟨env, mu⟩ := by
  simp [e]
/-- an expression that gives a ratio -/
def RE (d : DE) (env : List (Option SV)) (mu : List MO) (x : Rat) (a : Nat) : Prop := d ⟨env, mu⟩ = .ok (.rat x) ⟨env, mu⟩ ∧ Zb x a
theorem re_add (h1 : RE d env mu x a) (h2 : RE e env mu y b) (hab : a + b ≤ 8000) : RE (dBin (gRL F_Ratio___add__ gAdd) d e) env mu (x + y) (a + b + 1) :=
  ⟨(bin_ok h1.1 h2.1).trans (mt2 (e_add h1.2 h2.2 (.inl rfl) hab mu)), h1.2.add h2.2⟩
theorem zsub9 {a b : Nat} (h1 : Zb x a) (h2 : Zb y b) : Zb (x - y) (a + b + 1) := by
  rw [Rat.sub_eq_add_neg]
  exact Zb.add h1 ⟨by rw [Rat.neg_num, Int.natAbs_neg]; exact h2.1, by rw [Rat.neg_den]; exact h2.2⟩
theorem re_sub (h1 : RE d env mu x a) (h2 : RE e env mu y b) (hab : a + b ≤ 8000) : RE (dBin (gRL F_Ratio___sub__ gSub) d e) env mu (x - y) (a + b + 1) :=
  ⟨(bin_ok h1.1 h2.1).trans (mt2 (e_sub h1.2 h2.2 (.inl rfl) hab mu)), zsub9 h1.2 h2.2⟩
theorem re_mul (h1 : RE d env mu x a) (h2 : RE e env mu y b) (hab : a + b ≤ 8000) : RE (dBin (gRR F_Ratio___mul__ F_Ratio___rmul__ gMul) d e) env mu (x * y) (a + b) :=
  ⟨(bin_ok h1.1 h2.1).trans (mt2 (e_mul h1.2 h2.2 (.inl rfl) hab mu)), h1.2.mul h2.2⟩
theorem re_neg (h1 : RE d env mu x a) (ha : a ≤ 8000) : RE (dUn (gR1 F_Ratio___neg__ fNegI) d) env mu (-x) a :=
  ⟨un_ok09 h1.1 (by
    have e := e_neg h1.2 ha mu
    simp [gR1, e]), ⟨by rw [Rat.neg_num, Int.natAbs_neg]; exact h1.2.1, by rw [Rat.neg_den]; exact h1.2.2⟩⟩
theorem re_over (h1 : RE d env mu x a) (h2 : RE e env mu y b) (hab : a + b ≤ 8000) (hy : y ≠ 0) : dMethR (fMt 2 F_Ratio_over) d (dCons e dNil) ⟨env, mu⟩ = .ok (.rat (x / y)) ⟨env, mu⟩ := by
  have hn : y.num ≠ 0 := fun h => hy (Rat.num_eq_zero.mp h)
  have eo := e_over h1.2 h2.2 (.inl rfl) hn hab mu
  have e2 : dCons e dNil ⟨env, mu⟩ = .ok [.rat y] ⟨env, mu⟩ := cons_ok h2.1 rfl
  unfold dMethR
  rw [h1.1]
  show (dCons e dNil ⟨env, mu⟩).bind _ = _
  rw [e2]
  exact mt2 eo
theorem ne_re (h1 : d ⟨env, mu⟩ = .ok (.rat x) ⟨env, mu⟩) (h2 : e ⟨env, mu⟩ = .ok (.rat y) ⟨env, mu⟩) (h : x = y) : dTru (dBin (gNeR F_Ratio___eq__ (gEq true)) d e) ⟨env, mu⟩ = .ok false ⟨env, mu⟩ := by
  subst h
  have q := e_eq (x := x) (y := x) (p := .rat x) (.inl rfl) mu
  refine tru_ok ((bin_ok h1 h2).trans ?_)
  unfold gNeR
  simp [q]
theorem re_abs (h1 : RE d env mu x a) (ha : a ≤ 8000) : RE (dFn (gAbs F_Ratio___abs__) (dCons d dNil)) env mu (ab x) a := by
  have e2 : dCons d dNil ⟨env, mu⟩ = .ok [.rat x] ⟨env, mu⟩ := cons_ok h1.1 rfl
  refine ⟨?_, ⟨by rw [ab_num, Int.natAbs_natCast]; exact h1.2.1, by rw [ab_den]; exact h1.2.2⟩⟩
  unfold dFn
  rw [e2]
  exact mt1 (e_abs h1.2 ha mu)
theorem tru_re (h1 : d ⟨env, mu⟩ = .ok (.rat y) ⟨env, mu⟩) : dTruR F_Ratio___bool__ d ⟨env, mu⟩ = .ok (decide (y ≠ 0)) ⟨env, mu⟩ := by
  have e := e_boolR y mu
  have en : (y.num != 0) = decide (y ≠ 0) := by
    rw [Bool.eq_iff_iff, bne_iff_ne, decide_eq_true_eq]
    exact not_congr Rat.num_eq_zero
  rw [en] at e
  unfold dTruR
  rw [h1]
  show truR F_Ratio___bool__ (.rat y) ⟨env, mu⟩ = _
  unfold truR
  simp [e]
theorem ab_mul9 (x y : Rat) : ab (x * y) = ab x * ab y := by
  rcases ab_cases x with ⟨h1, e1⟩ | ⟨h1, e1⟩ <;> rcases ab_cases y with ⟨h2, e2⟩ | ⟨h2, e2⟩ <;> rw [e1, e2]
  · exact ab_nonneg (Rat.mul_nonneg h1 h2)
  · have := Rat.mul_nonneg h1 (show 0 ≤ -y by grind)
    rw [← ab_neg, ab_nonneg (by grind)]
    grind
  · have := Rat.mul_nonneg (show 0 ≤ -x by grind) h2
    rw [← ab_neg, ab_nonneg (by grind)]
    grind
  · have := Rat.mul_nonneg (show 0 ≤ -x by grind) (show 0 ≤ -y by grind)
    rw [ab_nonneg (by grind)]
    grind
end
end PX.k09
set_option maxHeartbeats 1000000
namespace PX.k09
open PySem L3 LD PC PD PX L2 PX.k57
section
variable {mu : List MO} {x y z : Rat} {o3 o4 : Option SV} {CR : Addr}
theorem andT_t9 {c e : DT} {s s1 : L3.S} (h : c s = .ok true s1) : dAndT c e s = e s1 := by
  unfold dAndT
  rw [h]
  rfl
theorem andT_f9 {c e : DT} {s s1 : L3.S} (h : c s = .ok false s1) : dAndT c e s = .ok false s1 := by
  unfold dAndT
  rw [h]
  rfl
abbrev rS (x y z : Rat) (o3 o4 : Option SV) : List (Option SV) := [some (.val (.rat x)), some (.val (.rat y)), some (.val (.rat z)), o3, o4]
section
variable (zx : Zb x 200) (zy : Zb y 200) (zz : Zb z 200)
include zx zy zz
theorem r1 : (dIfS (dOrT (dTru (dBin (gNeR F_Ratio___eq__ (gEq true)) (dBin (gRL F_Ratio___add__ gAdd) (dBin (gRL F_Ratio___add__ gAdd) (dVar 0) (dVar 1)) (dVar 2)) (dBin (gRL F_Ratio___add__ gAdd) (dVar 0) (dBin (gRL F_Ratio___add__ gAdd) (dVar 1) (dVar 2))))) (dOrT (dTru (dBin (gNeR F_Ratio___eq__ (gEq true)) (dBin (gRL F_Ratio___add__ gAdd) (dVar 0) (dVar 1)) (dBin (gRL F_Ratio___add__ gAdd) (dVar 1) (dVar 0)))) (dTru (dBin (gNeR F_Ratio___eq__ (gEq true)) (dBin (gRR F_Ratio___mul__ F_Ratio___rmul__ gMul) (dVar 0) (dVar 1)) (dBin (gRR F_Ratio___mul__ F_Ratio___rmul__ gMul) (dVar 1) (dVar 0)))))) (dRet (dC (.bl false))) dSkip) ⟨rS x y z o3 o4, mu⟩ = .ok .nx ⟨rS x y z o3 o4, mu⟩ := by
  have X : RE (dVar 0) (rS x y z o3 o4) mu x 200 := ⟨rfl, zx⟩
  have Y : RE (dVar 1) (rS x y z o3 o4) mu y 200 := ⟨rfl, zy⟩
  have Z : RE (dVar 2) (rS x y z o3 o4) mu z 200 := ⟨rfl, zz⟩
  exact if_no2 ((or_f (ne_re (re_add (re_add X Y (by decide)) Z (by decide)).1 (re_add X (re_add Y Z (by decide)) (by decide)).1 (Rat.add_assoc x y z))).trans ((or_f (ne_re (re_add X Y (by decide)).1 (re_add Y X (by decide)).1 (Rat.add_comm x y))).trans (ne_re (re_mul X Y (by decide)).1 (re_mul Y X (by decide)).1 (Rat.mul_comm x y))))
theorem r2 : (dIfS (dOrT (dTru (dBin (gNeR F_Ratio___eq__ (gEq true)) (dBin (gRR F_Ratio___mul__ F_Ratio___rmul__ gMul) (dBin (gRR F_Ratio___mul__ F_Ratio___rmul__ gMul) (dVar 0) (dVar 1)) (dVar 2)) (dBin (gRR F_Ratio___mul__ F_Ratio___rmul__ gMul) (dVar 0) (dBin (gRR F_Ratio___mul__ F_Ratio___rmul__ gMul) (dVar 1) (dVar 2))))) (dTru (dBin (gNeR F_Ratio___eq__ (gEq true)) (dBin (gRR F_Ratio___mul__ F_Ratio___rmul__ gMul) (dVar 0) (dBin (gRL F_Ratio___add__ gAdd) (dVar 1) (dVar 2))) (dBin (gRL F_Ratio___add__ gAdd) (dBin (gRR F_Ratio___mul__ F_Ratio___rmul__ gMul) (dVar 0) (dVar 1)) (dBin (gRR F_Ratio___mul__ F_Ratio___rmul__ gMul) (dVar 0) (dVar 2)))))) (dRet (dC (.bl false))) dSkip) ⟨rS x y z o3 o4, mu⟩ = .ok .nx ⟨rS x y z o3 o4, mu⟩ := by
  have X : RE (dVar 0) (rS x y z o3 o4) mu x 200 := ⟨rfl, zx⟩
  have Y : RE (dVar 1) (rS x y z o3 o4) mu y 200 := ⟨rfl, zy⟩
  have Z : RE (dVar 2) (rS x y z o3 o4) mu z 200 := ⟨rfl, zz⟩
  exact if_no2 ((or_f (ne_re (re_mul (re_mul X Y (by decide)) Z (by decide)).1 (re_mul X (re_mul Y Z (by decide)) (by decide)).1 (Rat.mul_assoc x y z))).trans (ne_re (re_mul X (re_add Y Z (by decide)) (by decide)).1 (re_add (re_mul X Y (by decide)) (re_mul X Z (by decide)) (by decide)).1 (Rat.mul_add x y z)))
theorem r3 : (dIfS (dOrT (dTru (dBin (gNeR F_Ratio___eq__ (gEq true)) (dBin (gRL F_Ratio___sub__ gSub) (dBin (gRL F_Ratio___add__ gAdd) (dVar 0) (dVar 1)) (dVar 1)) (dVar 0))) (dOrT (dTru (dBin (gNeR F_Ratio___eq__ (gEq true)) (dBin (gRL F_Ratio___sub__ gSub) (dVar 0) (dVar 1)) (dUn (gR1 F_Ratio___neg__ fNegI) (dBin (gRL F_Ratio___sub__ gSub) (dVar 1) (dVar 0))))) (dTru (dBin (gNeR F_Ratio___eq__ (gEq true)) (dFn (gAbs F_Ratio___abs__) (dCons (dBin (gRR F_Ratio___mul__ F_Ratio___rmul__ gMul) (dVar 0) (dVar 1)) dNil)) (dBin (gRR F_Ratio___mul__ F_Ratio___rmul__ gMul) (dFn (gAbs F_Ratio___abs__) (dCons (dVar 0) dNil)) (dFn (gAbs F_Ratio___abs__) (dCons (dVar 1) dNil))))))) (dRet (dC (.bl false))) dSkip) ⟨rS x y z o3 o4, mu⟩ = .ok .nx ⟨rS x y z o3 o4, mu⟩ := by
  have X : RE (dVar 0) (rS x y z o3 o4) mu x 200 := ⟨rfl, zx⟩
  have Y : RE (dVar 1) (rS x y z o3 o4) mu y 200 := ⟨rfl, zy⟩
  exact if_no2 ((or_f (ne_re (re_sub (re_add X Y (by decide)) Y (by decide)).1 X.1 (by grind))).trans ((or_f (ne_re (re_sub X Y (by decide)).1 (re_neg (re_sub Y X (by decide)) (by decide)).1 (by grind))).trans (ne_re (re_abs (re_mul X Y (by decide)) (by decide)).1 (re_mul (re_abs X (by decide)) (re_abs Y (by decide)) (by decide)).1 (ab_mul9 x y))))
theorem zb_div (hy : y ≠ 0) : Zb (x / y) 400 := by
  have h := zx.mul (show Zb y⁻¹ 200 from ⟨by
    rw [Rat.num_inv, Int.natAbs_mul]
    have : (Int.sign y.num).natAbs ≤ 1 := by rcases Int.sign_trichotomy y.num with h | h | h <;> rw [h] <;> decide
    have h2 := zy.2
    rw [Int.natAbs_natCast]
    calc (Int.sign y.num).natAbs * y.den ≤ 1 * y.den := Nat.mul_le_mul_right _ this
      _ ≤ 2 ^ 200 := by omega, by
    rw [Rat.den_inv, if_neg (fun z => hy (Rat.num_eq_zero.mp z))]
    exact zy.1⟩)
  rwa [← Rat.div_def] at h
theorem r4 : (dIfS (dOrT (dAndT (dTruR F_Ratio___bool__ (dVar 1)) (dTru (dBin (gNeR F_Ratio___eq__ (gEq true)) (dMethR (fMt 2 F_Ratio_over) (dBin (gRR F_Ratio___mul__ F_Ratio___rmul__ gMul) (dVar 0) (dVar 1)) (dCons (dVar 1) dNil)) (dVar 0)))) (dAndT (dTruR F_Ratio___bool__ (dVar 1)) (dTru (dBin (gNeR F_Ratio___eq__ (gEq true)) (dBin (gRR F_Ratio___mul__ F_Ratio___rmul__ gMul) (dMethR (fMt 2 F_Ratio_over) (dVar 0) (dCons (dVar 1) dNil)) (dVar 1)) (dVar 0))))) (dRet (dC (.bl false))) dSkip) ⟨rS x y z o3 o4, mu⟩ = .ok .nx ⟨rS x y z o3 o4, mu⟩ := by
  have X : RE (dVar 0) (rS x y z o3 o4) mu x 200 := ⟨rfl, zx⟩
  have Y : RE (dVar 1) (rS x y z o3 o4) mu y 200 := ⟨rfl, zy⟩
  have t := tru_re Y.1
  by_cases h : y = 0
  · rw [decide_eq_false (by simpa using h)] at t
    exact if_no2 ((or_f (andT_f9 t)).trans (andT_f9 t))
  · rw [decide_eq_true h] at t
    have d1 := re_over (re_mul X Y (by decide)) Y (by decide) h
    have D : RE _ (rS x y z o3 o4) mu (x / y) 400 := ⟨re_over X Y (by decide) h, zb_div zx zy zz h⟩
    exact if_no2 ((or_f ((andT_t9 t).trans (ne_re d1 X.1 (Rat.mul_div_cancel h)))).trans ((andT_t9 t).trans (ne_re (re_mul D Y (by decide)).1 X.1 (Rat.div_mul_cancel h))))
end
end
end PX.k09
set_option maxHeartbeats 1000000
namespace PX
open PySem L3 LD PC PD
end PX
set_option maxHeartbeats 1000000
namespace PX
open PySem L3 LD PC PD
end PX
set_option maxHeartbeats 1000000
namespace PX
open PySem L3 LD PC PD
theorem fl_le (q : Rat) : ((fl q : Int) : Rat) ≤ q := by
  rw [Rat.le_iff]
  show fl q * (q.den : Int) ≤ q.num * 1
  rw [Int.mul_one]
  exact Int.ediv_mul_le _ (den_ne q)
theorem lt_fl (q : Rat) : q < (((fl q + 1 : Int)) : Rat) := by
  rw [Rat.lt_iff]
  show q.num * 1 < (fl q + 1) * (q.den : Int)
  rw [Int.mul_one]
  exact Int.lt_ediv_add_one_mul_self _ (den_pos q)
end PX
set_option maxHeartbeats 1000000
namespace PX.k09
open PySem L3 LD PC PD PX L2 PX.k57
section
variable {mu : List MO} {env : List (Option SV)} {x y z : Rat} {o3 o4 : Option SV} {CR : Addr} {d e : DE} {p : PV} {a b : Nat}
theorem meth0 {F : DF} {w : PV} (h : d ⟨env, mu⟩ = .ok (.rat x) ⟨env, mu⟩) (e : F [.rat x] mu = .ok w mu) : dMethR (fMt 1 F) d dNil ⟨env, mu⟩ = .ok w ⟨env, mu⟩ := by
  unfold dMethR
  rw [h]
  exact mt1 e
theorem cmp_re (h1 : RE d env mu x a) (h2 : e ⟨env, mu⟩ = .ok p ⟨env, mu⟩) (zy : Zb y b) (hp : Is y p) (hab : a + b ≤ 8000) : dMethR (fMt 2 F_Ratio_compared) d (dCons e dNil) ⟨env, mu⟩ = .ok (.int (sgn x y)) ⟨env, mu⟩ := by
  have ec := e_compared h1.2 zy hp hab mu
  have e2 : dCons e dNil ⟨env, mu⟩ = .ok [p] ⟨env, mu⟩ := cons_ok h2 rfl
  unfold dMethR
  rw [h1.1]
  show (dCons e dNil ⟨env, mu⟩).bind _ = _
  rw [e2]
  exact mt2 ec
theorem fl_abs (h : Zb x 200) : (fl x).natAbs ≤ 2 ^ 200 := Nat.le_trans (Int.natAbs_ediv_le_natAbs _ _) h.1
theorem sgn_ge (h : y ≤ x) : ¬ sgn x y < 0 := by
  unfold sgn
  rw [if_neg (Rat.not_lt.mpr h)]
  split <;> decide
theorem sgn_lt (h : x < y) : ¬ 0 ≤ sgn x y := by
  unfold sgn
  rw [if_pos h, if_neg (Rat.not_lt.mpr (Rat.le_of_lt h))]
  decide
end
end PX.k09
set_option maxHeartbeats 1000000
namespace PX.k09
open PySem L3 LD PC PD PX L2 PX.k57
section
variable {mu : List MO} {env : List (Option SV)} {x y z : Rat} {o3 o4 : Option SV} {CR : Addr} {d e : DE} {p : PV} {a b : Nat}
theorem ne_int9 {F : DF} (i j : Int) (st : L3.S) : gNeR F (gEq true) (.int i) (.int j) st = .ok (.bl (!decide (i = j))) st := by
  show gEq true (.int i) (.int j) st = _
  unfold gEq
  simp [okD]
  rw [Bool.eq_iff_iff]
  simp
theorem ne_ri (h1 : d ⟨env, mu⟩ = .ok (.rat x) ⟨env, mu⟩) {i : Int} (h2 : e ⟨env, mu⟩ = .ok (.int i) ⟨env, mu⟩) : dBin (gNeR F_Ratio___eq__ (gEq true)) d e ⟨env, mu⟩ = .ok (.bl (!decide (x = (i : Rat)))) ⟨env, mu⟩ := by
  have q := e_eq (x := x) (y := (i : Rat)) (p := .int i) (.inr ⟨rfl, rfl⟩) mu
  refine (bin_ok h1 h2).trans ?_
  unfold gNeR
  simp [q]
theorem cneg (n : Int) : ((-n - 1 : Int) : Rat) = -(n : Rat) - 1 := by
  rw [Rat.intCast_sub, Rat.intCast_neg]
  rfl
theorem cneg1 (n : Int) : ((-n - 1 + 1 : Int) : Rat) = -(n : Rat) := by
  rw [show -n - 1 + 1 = -n by omega, Rat.intCast_neg]
theorem cadd1 (n : Int) : ((n + 1 : Int) : Rat) = (n : Rat) + 1 := by
  rw [Rat.intCast_add]
  rfl
/-- ceiling less floor -/
theorem ceil_fl (x : Rat) : -((-x.num) / (x.den : Int)) - fl x = if x = (fl x : Rat) then 0 else 1 := by
  have h0 : (-x.num) / (x.den : Int) = fl (-x) := by unfold fl; rw [Rat.neg_num, Rat.neg_den]
  rw [h0]
  have h1 := fl_le x
  have h2 := lt_fl x
  rw [cadd1] at h2
  by_cases c : x = (fl x : Rat)
  · rw [if_pos c]
    have : fl (-x) = -(fl x) := fl_is (by rw [Rat.intCast_neg]; grind) (by rw [cadd1, Rat.intCast_neg]; grind)
    omega
  · rw [if_neg c]
    have : fl (-x) = -(fl x) - 1 := fl_is (by rw [cneg]; grind) (by rw [cneg1]; grind)
    omega
theorem r6 (zx : Zb x 200) : (dIfS (dOrT (dTru (dBin gLt (dMethR (fMt 2 F_Ratio_compared) (dVar 0) (dCons (dVar 3) dNil)) (dC (.int 0)))) (dOrT (dTru (dBin gGe (dMethR (fMt 2 F_Ratio_compared) (dVar 0) (dCons (dBin (gRL F_Ratio___add__ gAdd) (dVar 3) (dC (.int 1))) dNil)) (dC (.int 0)))) (dTru (dBin (gNeR F_Ratio___eq__ (gEq true)) (dBin (gRL F_Ratio___sub__ gSub) (dMethR (fMt 1 F_Ratio_ceiling) (dVar 0) dNil) (dVar 3)) (dFn fIntB (dCons (dBin (gNeR F_Ratio___eq__ (gEq true)) (dVar 0) (dVar 3)) dNil)))))) (dRet (dC (.bl false))) dSkip) ⟨rS x y z (some (.val (.int (fl x)))) o4, mu⟩ = .ok .nx ⟨rS x y z (some (.val (.int (fl x)))) o4, mu⟩ := by
  have X : RE (dVar 0) (rS x y z (some (.val (.int (fl x)))) o4) mu x 200 := ⟨rfl, zx⟩
  have fa := fl_abs zx
  have v3 : dVar 3 ⟨rS x y z (some (.val (.int (fl x)))) o4, mu⟩ = .ok (.int (fl x)) ⟨rS x y z (some (.val (.int (fl x)))) o4, mu⟩ := rfl
  have v4 : dBin (gRL F_Ratio___add__ gAdd) (dVar 3) (dC (.int 1)) ⟨rS x y z (some (.val (.int (fl x)))) o4, mu⟩ = .ok (.int (fl x + 1)) ⟨rS x y z (some (.val (.int (fl x)))) o4, mu⟩ := rfl
  have c1 := cmp_re X v3 (y := ((fl x : Int) : Rat)) (b := 201) (Zb_int (Nat.le_trans fa (Nat.pow_le_pow_right (by decide) (by decide)))) (.inr ⟨rfl, rfl⟩) (by decide)
  have c2 := cmp_re X v4 (y := ((fl x + 1 : Int) : Rat)) (b := 201) (Zb_int (by
    have : (2 : Nat) ^ 201 = 2 ^ 200 + 2 ^ 200 := by omega
    have h1 : 1 ≤ (2 : Nat) ^ 200 := Nat.one_le_two_pow
    have : (fl x + 1).natAbs ≤ (fl x).natAbs + 1 := by omega
    omega)) (.inr ⟨rfl, rfl⟩) (by decide)
  have t1 := tru_ok (ltI c1 (rfl : dC (.int 0) _ = .ok (.int 0) _))
  rw [decide_eq_false (sgn_ge (fl_le x))] at t1
  have t2 := tru_ok (geI c2 (rfl : dC (.int 0) _ = .ok (.int 0) _))
  rw [decide_eq_false (sgn_lt (lt_fl x))] at t2
  have ce := meth0 (d := dVar 0) (env := rS x y z (some (.val (.int (fl x)))) o4) (mu := mu) rfl (e_ceiling zx (by decide) mu)
  have c3 : dBin (gRL F_Ratio___sub__ gSub) (dMethR (fMt 1 F_Ratio_ceiling) (dVar 0) dNil) (dVar 3) ⟨rS x y z (some (.val (.int (fl x)))) o4, mu⟩ = .ok (.int (-((-x.num) / (x.den : Int)) - fl x)) ⟨rS x y z (some (.val (.int (fl x)))) o4, mu⟩ := (bin_ok ce v3).trans rfl
  have n3 := intB (ne_ri X.1 v3)
  rw [ceil_fl] at c3
  have t3 := tru_ok ((bin_ok c3 n3).trans (ne_int9 (F := F_Ratio___eq__) _ _ _))
  have ee : (!decide ((if x = (fl x : Rat) then (0 : Int) else 1) = if (!decide (x = (fl x : Rat))) = true then 1 else 0)) = false := by
    by_cases c : x = (fl x : Rat)
    · rw [if_pos c, decide_eq_true c]; rfl
    · rw [if_neg c, decide_eq_false c]; rfl
  rw [ee] at t3
  exact if_no2 ((or_f t1).trans ((or_f t2).trans t3))
end
end PX.k09
set_option maxHeartbeats 1000000
namespace PX.k09
open PySem L3 LD PC PD PX L2 PX.k57
end PX.k09
set_option maxHeartbeats 1000000
namespace PX.k09
open PySem L3 LD PC PD PX L2 PX.k57
section
variable {mu : List MO} {env : List (Option SV)} {x y z : Rat} {o3 o4 : Option SV} {CR : Addr} {d e : DE} {p : PV} {a b : Nat}
theorem mulI {d e : DE} {s : L3.S} {p q : Int} (h1 : d s = .ok (.int p) s) (h2 : e s = .ok (.int q) s) (hb : ib p + ib q ≤ 1000000) : dBin gMul d e s = .ok (.int (p * q)) s := by
  refine (bin_ok h1 h2).trans ?_
  show (if ib p + ib q ≤ 1000000 then _ else _) = _
  rw [if_pos hb]
theorem e_fdiv9 (h1 : Zb x 200) (h2 : Zb y 200) (hy : y ≠ 0) (mu : List MO) : F_Ratio___floordiv___k09 [.rat x, .rat y] mu = .ok (.int (fl (x / y))) mu := by
  have c1 : ib x.num + ib (y.den : Int) ≤ 1000000 := by have := h1.ib_num; have := h2.ib_den; omega
  have c2 : ib (x.den : Int) + ib y.num ≤ 1000000 := by have := h2.ib_num; have := h1.ib_den; omega
  have e2 := e_ratio_of (q := y) (p := .rat y) (.inl rfl) mu
  have hy' : y.num ≠ 0 := fun z => hy (Rat.num_eq_zero.mp z)
  have hd0 : ((x.den : Int) * y.num) ≠ 0 := Int.mul_ne_zero (den_ne x) hy'
  have hr : fl (x / y) = (x.num * y.den).fdiv ((x.den : Int) * y.num) := by
    rw [fdiv_den hd0, div_divInt]
    rfl
  have h9 : ib ((x.den : Int) * y.num) ≤ 9000 := by
    have := ib_mul (i := (x.den : Int)) (j := y.num) (a := 200) (b := 200) (by rw [Int.natAbs_natCast]; exact h1.2) h2.1
    omega
  have t1 : (dSet 2 (dFnS F_ratio_of (dCons (dVar 1) dNil))) ⟨[some (.val (.rat x)), some (.val (.rat y)), none], mu⟩ = .ok .nx ⟨[some (.val (.rat x)), some (.val (.rat y)), some (.val (.rat y))], mu⟩ := set_ok (fnS_ok (cons_ok (var_ok (i := 1) rfl) rfl) e2) (by show 2 < 3; decide) rfl
  have t0 := tru_ok (eqI (rfl : dUn fTop (dVar 2) ⟨[some (.val (.rat x)), some (.val (.rat y)), some (.val (.rat y))], mu⟩ = .ok (.int y.num) _) (rfl : dC (.int 0) _ = .ok (.int 0) _))
  rw [decide_eq_false hy'] at t0
  have t2 : (dIfS (dTru (dBin (gEq false) (dUn fTop (dVar 2)) (dC (.int 0)))) (dRaise0 "DividedByZero") dSkip) ⟨[some (.val (.rat x)), some (.val (.rat y)), some (.val (.rat y))], mu⟩ = .ok .nx ⟨[some (.val (.rat x)), some (.val (.rat y)), some (.val (.rat y))], mu⟩ := if_no2 t0
  have m1 := mulI (rfl : dUn fTop (dVar 0) ⟨[some (.val (.rat x)), some (.val (.rat y)), some (.val (.rat y))], mu⟩ = .ok (.int x.num) _) (rfl : dUn fBot (dVar 2) _ = .ok (.int (y.den : Int)) _) c1
  have m2 := mulI (rfl : dUn fBot (dVar 0) ⟨[some (.val (.rat x)), some (.val (.rat y)), some (.val (.rat y))], mu⟩ = .ok (.int (x.den : Int)) _) (rfl : dUn fTop (dVar 2) _ = .ok (.int y.num) _) c2
  have t3 : (dRet (dBin gFdivG (dBin gMul (dUn fTop (dVar 0)) (dUn fBot (dVar 2))) (dBin gMul (dUn fBot (dVar 0)) (dUn fTop (dVar 2))))) ⟨[some (.val (.rat x)), some (.val (.rat y)), some (.val (.rat y))], mu⟩ = .ok (.rt (.int (fl (x / y)))) ⟨[some (.val (.rat x)), some (.val (.rat y)), some (.val (.rat y))], mu⟩ := by
    rw [hr]
    refine ret_ok ((bin_ok m1 m2).trans ?_)
    show (if _ then _ else _) = _
    rw [if_pos ⟨hd0, h9⟩]
  exact run_rt (n := 3) (ps := [.rat x, .rat y]) rfl ((congrFun (rfl : d_Ratio___floordiv___k09 = dSeq _ (dSeq _ _)) _).trans ((seq_nx t1).trans ((seq_nx t2).trans t3)))
theorem r9 (zx : Zb x 200) (zy : Zb y 200) : (dRet (dOr (dNotR F_Ratio___bool__ (dVar 1)) (dBin (gEqR F_Ratio___eq__ (gEq false)) (dBin (gRL F_Ratio___floordiv___k09 gFdiv) (dVar 0) (dVar 1)) (dMethR (fMt 1 F_Ratio_floor) (dMethR (fMt 2 F_Ratio_over) (dVar 0) (dCons (dVar 1) dNil)) dNil)))) ⟨rS x y z o3 o4, mu⟩ = .ok (.rt (.bl true)) ⟨rS x y z o3 o4, mu⟩ := by
  have X : RE (dVar 0) (rS x y z o3 o4) mu x 200 := ⟨rfl, zx⟩
  have Y : RE (dVar 1) (rS x y z o3 o4) mu y 200 := ⟨rfl, zy⟩
  have nb : dNotR F_Ratio___bool__ (dVar 1) ⟨rS x y z o3 o4, mu⟩ = .ok (.bl (!decide (y ≠ 0))) ⟨rS x y z o3 o4, mu⟩ := by
    have t := tru_re Y.1
    unfold dTruR at t
    rw [Y.1] at t
    have t2 : truR F_Ratio___bool__ (.rat y) ⟨rS x y z o3 o4, mu⟩ = .ok (decide (y ≠ 0)) ⟨rS x y z o3 o4, mu⟩ := t
    unfold dNotR
    rw [Y.1]
    simp only [R.bind, t2]
  by_cases h : y = 0
  · rw [show (!decide (y ≠ 0)) = true by simp [h]] at nb
    exact ret_ok (or_t nb)
  · rw [show (!decide (y ≠ 0)) = false by simp [h]] at nb
    have f1 : dBin (gRL F_Ratio___floordiv___k09 gFdiv) (dVar 0) (dVar 1) ⟨rS x y z o3 o4, mu⟩ = .ok (.int (fl (x / y))) ⟨rS x y z o3 o4, mu⟩ := (bin_ok X.1 Y.1).trans (mt2 (e_fdiv9 zx zy h mu))
    have D : RE (dMethR (fMt 2 F_Ratio_over) (dVar 0) (dCons (dVar 1) dNil)) (rS x y z o3 o4) mu (x / y) 400 := ⟨re_over X Y (by decide) h, zb_div zx zy zx h⟩
    have f2 := meth0 D.1 (e_floor D.2 (by decide) mu)
    refine ret_ok ((or_ff nb).trans ((bin_ok f1 f2).trans ?_))
    show gEq false (.int (fl (x / y))) (.int (fl (x / y))) _ = _
    exact gEq_self false rfl _
end
end PX.k09
set_option maxHeartbeats 1000000
namespace PX.k57
open PySem L3 LD PC PD PX
section
variable {mu : List MO} {lim : Nat} {n : Int} {A : List Rg} {a : Nat} {v s f : Rat} {env : List (Option SV)}
theorem mt2 {F : DF} {p q w : PV} (e : F [p, q] mu = .ok w mu) : fMt 2 F [p, q] ⟨env, mu⟩ = .ok w ⟨env, mu⟩ := by
  simp [e]
end
end PX.k57
set_option maxHeartbeats 1000000
namespace PX.k57
open PySem L3 LD PC PD PX
end PX.k57
set_option maxHeartbeats 1000000
namespace PX.k57
open PySem L3 LD PC PD PX
end PX.k57
set_option maxHeartbeats 1000000
namespace PX.k57
open PySem L3 LD PC PD PX
abbrev I (i : Int) : Rat := (i : Rat)
section
variable {mu : List MO} {lim : Nat} {p : Int × List Rg} {a n k : Nat} {ys : List Rat} {l : List (Nat × MO)} {env : List (Option SV)}
theorem source_eq {ns : List Int} {j : Nat} (hk : j ≤ 2 ^ 40) (hf : flatMs mu = true) : ∃ mu', F_w_source [.frz (ns.map .int), .int j] mu = .ok (.ptr mu.length) mu' ∧ ObS [] mu' mu.length (3 * j) := by
  have q : W (F_w_source [.frz (ns.map .int), .int j] mu) fun v mu' => v = .ptr mu.length ∧ ObS [] mu' mu.length (3 * j) := w_source hk hf fun mu' h => ⟨rfl, ObS.of h⟩
  obtain ⟨v, t, e, rfl, hs⟩ := q.out
  exact ⟨t, e, hs⟩
end
end PX.k57
set_option maxHeartbeats 1000000
namespace PX.k09
open PySem L3 LD PC PD PX L2 PX.k57
section
variable {mu : List MO} {n k : Nat} {l : List (Nat × MO)}
theorem pick_eq {xs : List PV} (h : ObS l mu n k) (hk : k + 1 ≤ 2 ^ 49) (hne : xs ≠ []) (hl : xs.length ≤ 1000) : ∃ (x : PV) (mu' : List MO), F_w_pick [.ptr n, .lst xs] mu = .ok x mu' ∧ x ∈ xs ∧ ObS l mu' n (k + 1) := by
  have q : W (F_w_pick [.ptr n, .lst xs] mu) fun v mu' => v ∈ xs ∧ ObS l mu' n (k + 1) := w_pick h.r hk hne (by omega) fun x mu' hx hs => ⟨hx, h.back hs⟩
  obtain ⟨v, t, e, hx, hs⟩ := q.out
  exact ⟨v, t, e, hx, hs⟩
theorem fnS29 {F : DF} {r : DA} {s : L3.S} {env : List (Option SV)} {as : List PV} {v : PV} {mu' : List MO} (ha : r s = .ok as ⟨env, mu⟩) (e : F as mu = .ok v mu') : dFnS F r s = .ok v ⟨env, mu'⟩ := by
  unfold dFnS
  rw [ha]
  simp [e]
end
end PX.k09
namespace PX.k01
open PySem L3 LD PC PD PX L2 PX.k57 PX.k09
def mades (p : PV) : List PV := [(.exc "BadNumber" ["value"] [p]), (.exc "BadShare" ["value"] [p]), (.exc "BadRule" ["value"] [p]), (.exc "BadAmount" ["value"] [p]), (.exc "BadName" ["value"] [p]), (.exc "BadText" ["value"] [p]), (.exc "BadSummary" ["value"] [p]), (.exc "BadSample" ["index"] [p]), (.exc "BadWeights" ["index"] [p]), (.exc "BadPairs" ["index"] [p]), (.exc "BadEdges" ["index"] [p]), (.exc "Empty" [] []), (.exc "TooFew" ["needed"] [p]), (.exc "NotThere" ["item"] [p]), (.exc "Outside" ["value"] [p]), (.exc "NothingDone" [] []), (.exc "DividedByZero" [] []), (.exc "NoSpread" [] []), (.exc "NotPositive" ["index"] [p]), (.exc "Impossible" [] []), (.exc "Unbounded" [] []), (.exc "TooMany" ["most"] [p])]
abbrev eS (N K : PV) (o2 o3 o4 o5 o6 o7 o8 o9 o10 : Option SV) (mu : List MO) : L3.S := ⟨[some (.val N), some (.val K), o2, o3, o4, o5, o6, o7, o8, o9, o10], mu⟩
section
variable {p N K : PV} {mu : List MO} {o2 o3 o4 o5 o6 o7 o8 o9 o10 : Option SV}
theorem e_made (p : PV) (mu : List MO) : F_w_made [p] mu = .ok (.lst (mades p)) mu := by kernel_rfl
theorem e_named (p : PV) (mu : List MO) : F_w_named [p] mu = .ok (.lst (mades p)) mu := by kernel_rfl
theorem e_fields (p : PV) (mu : List MO) : F_w_fields [.lst (mades p)] mu = .ok (.lst [p, p, p, p, p, p, p, p, p, p, p, p, p, p, p, p]) mu := by kernel_rfl
theorem b3_0 : b_law_k01_3 (eS N K o2 o3 o4 o5 o6 (some (.val (.int 0))) (some (.val (.exc "BadNumber" ["value"] [p]))) o9 o10 mu) = .ok .nx (eS N K o2 o3 o4 o5 o6 (some (.val (.int 0))) (some (.val (.exc "BadNumber" ["value"] [p]))) (some (.val (.int 0))) none mu) := by kernel_rfl
theorem b3_1 : b_law_k01_3 (eS N K o2 o3 o4 o5 o6 (some (.val (.int 1))) (some (.val (.exc "BadShare" ["value"] [p]))) o9 o10 mu) = .ok .nx (eS N K o2 o3 o4 o5 o6 (some (.val (.int 1))) (some (.val (.exc "BadShare" ["value"] [p]))) (some (.val (.int 0))) none mu) := by kernel_rfl
theorem b3_2 : b_law_k01_3 (eS N K o2 o3 o4 o5 o6 (some (.val (.int 2))) (some (.val (.exc "BadRule" ["value"] [p]))) o9 o10 mu) = .ok .nx (eS N K o2 o3 o4 o5 o6 (some (.val (.int 2))) (some (.val (.exc "BadRule" ["value"] [p]))) (some (.val (.int 0))) none mu) := by kernel_rfl
theorem b3_3 : b_law_k01_3 (eS N K o2 o3 o4 o5 o6 (some (.val (.int 3))) (some (.val (.exc "BadAmount" ["value"] [p]))) o9 o10 mu) = .ok .nx (eS N K o2 o3 o4 o5 o6 (some (.val (.int 3))) (some (.val (.exc "BadAmount" ["value"] [p]))) (some (.val (.int 0))) none mu) := by kernel_rfl
theorem b3_4 : b_law_k01_3 (eS N K o2 o3 o4 o5 o6 (some (.val (.int 4))) (some (.val (.exc "BadName" ["value"] [p]))) o9 o10 mu) = .ok .nx (eS N K o2 o3 o4 o5 o6 (some (.val (.int 4))) (some (.val (.exc "BadName" ["value"] [p]))) (some (.val (.int 0))) none mu) := by kernel_rfl
theorem b3_5 : b_law_k01_3 (eS N K o2 o3 o4 o5 o6 (some (.val (.int 5))) (some (.val (.exc "BadText" ["value"] [p]))) o9 o10 mu) = .ok .nx (eS N K o2 o3 o4 o5 o6 (some (.val (.int 5))) (some (.val (.exc "BadText" ["value"] [p]))) (some (.val (.int 0))) none mu) := by kernel_rfl
theorem b3_6 : b_law_k01_3 (eS N K o2 o3 o4 o5 o6 (some (.val (.int 6))) (some (.val (.exc "BadSummary" ["value"] [p]))) o9 o10 mu) = .ok .nx (eS N K o2 o3 o4 o5 o6 (some (.val (.int 6))) (some (.val (.exc "BadSummary" ["value"] [p]))) (some (.val (.int 0))) none mu) := by kernel_rfl
theorem b3_7 : b_law_k01_3 (eS N K o2 o3 o4 o5 o6 (some (.val (.int 7))) (some (.val (.exc "BadSample" ["index"] [p]))) o9 o10 mu) = .ok .nx (eS N K o2 o3 o4 o5 o6 (some (.val (.int 7))) (some (.val (.exc "BadSample" ["index"] [p]))) (some (.val (.int 0))) none mu) := by kernel_rfl
theorem b3_8 : b_law_k01_3 (eS N K o2 o3 o4 o5 o6 (some (.val (.int 8))) (some (.val (.exc "BadWeights" ["index"] [p]))) o9 o10 mu) = .ok .nx (eS N K o2 o3 o4 o5 o6 (some (.val (.int 8))) (some (.val (.exc "BadWeights" ["index"] [p]))) (some (.val (.int 0))) none mu) := by kernel_rfl
theorem b3_9 : b_law_k01_3 (eS N K o2 o3 o4 o5 o6 (some (.val (.int 9))) (some (.val (.exc "BadPairs" ["index"] [p]))) o9 o10 mu) = .ok .nx (eS N K o2 o3 o4 o5 o6 (some (.val (.int 9))) (some (.val (.exc "BadPairs" ["index"] [p]))) (some (.val (.int 0))) none mu) := by kernel_rfl
theorem b3_10 : b_law_k01_3 (eS N K o2 o3 o4 o5 o6 (some (.val (.int 10))) (some (.val (.exc "BadEdges" ["index"] [p]))) o9 o10 mu) = .ok .nx (eS N K o2 o3 o4 o5 o6 (some (.val (.int 10))) (some (.val (.exc "BadEdges" ["index"] [p]))) (some (.val (.int 0))) none mu) := by kernel_rfl
theorem b3_11 : b_law_k01_3 (eS N K o2 o3 o4 o5 o6 (some (.val (.int 11))) (some (.val (.exc "Empty" [] []))) o9 o10 mu) = .ok .nx (eS N K o2 o3 o4 o5 o6 (some (.val (.int 11))) (some (.val (.exc "Empty" [] []))) (some (.val (.int 1))) none mu) := by kernel_rfl
theorem b3_12 : b_law_k01_3 (eS N K o2 o3 o4 o5 o6 (some (.val (.int 12))) (some (.val (.exc "TooFew" ["needed"] [p]))) o9 o10 mu) = .ok .nx (eS N K o2 o3 o4 o5 o6 (some (.val (.int 12))) (some (.val (.exc "TooFew" ["needed"] [p]))) (some (.val (.int 1))) none mu) := by kernel_rfl
theorem b3_13 : b_law_k01_3 (eS N K o2 o3 o4 o5 o6 (some (.val (.int 13))) (some (.val (.exc "NotThere" ["item"] [p]))) o9 o10 mu) = .ok .nx (eS N K o2 o3 o4 o5 o6 (some (.val (.int 13))) (some (.val (.exc "NotThere" ["item"] [p]))) (some (.val (.int 1))) none mu) := by kernel_rfl
theorem b3_14 : b_law_k01_3 (eS N K o2 o3 o4 o5 o6 (some (.val (.int 14))) (some (.val (.exc "Outside" ["value"] [p]))) o9 o10 mu) = .ok .nx (eS N K o2 o3 o4 o5 o6 (some (.val (.int 14))) (some (.val (.exc "Outside" ["value"] [p]))) (some (.val (.int 1))) none mu) := by kernel_rfl
theorem b3_15 : b_law_k01_3 (eS N K o2 o3 o4 o5 o6 (some (.val (.int 15))) (some (.val (.exc "NothingDone" [] []))) o9 o10 mu) = .ok .nx (eS N K o2 o3 o4 o5 o6 (some (.val (.int 15))) (some (.val (.exc "NothingDone" [] []))) (some (.val (.int 1))) none mu) := by kernel_rfl
theorem b3_16 : b_law_k01_3 (eS N K o2 o3 o4 o5 o6 (some (.val (.int 16))) (some (.val (.exc "DividedByZero" [] []))) o9 o10 mu) = .ok .nx (eS N K o2 o3 o4 o5 o6 (some (.val (.int 16))) (some (.val (.exc "DividedByZero" [] []))) (some (.val (.int 2))) none mu) := by kernel_rfl
theorem b3_17 : b_law_k01_3 (eS N K o2 o3 o4 o5 o6 (some (.val (.int 17))) (some (.val (.exc "NoSpread" [] []))) o9 o10 mu) = .ok .nx (eS N K o2 o3 o4 o5 o6 (some (.val (.int 17))) (some (.val (.exc "NoSpread" [] []))) (some (.val (.int 2))) none mu) := by kernel_rfl
theorem b3_18 : b_law_k01_3 (eS N K o2 o3 o4 o5 o6 (some (.val (.int 18))) (some (.val (.exc "NotPositive" ["index"] [p]))) o9 o10 mu) = .ok .nx (eS N K o2 o3 o4 o5 o6 (some (.val (.int 18))) (some (.val (.exc "NotPositive" ["index"] [p]))) (some (.val (.int 2))) none mu) := by kernel_rfl
theorem b3_19 : b_law_k01_3 (eS N K o2 o3 o4 o5 o6 (some (.val (.int 19))) (some (.val (.exc "Impossible" [] []))) o9 o10 mu) = .ok .nx (eS N K o2 o3 o4 o5 o6 (some (.val (.int 19))) (some (.val (.exc "Impossible" [] []))) (some (.val (.int 2))) none mu) := by kernel_rfl
theorem b3_20 : b_law_k01_3 (eS N K o2 o3 o4 o5 o6 (some (.val (.int 20))) (some (.val (.exc "Unbounded" [] []))) o9 o10 mu) = .ok .nx (eS N K o2 o3 o4 o5 o6 (some (.val (.int 20))) (some (.val (.exc "Unbounded" [] []))) (some (.val (.int 2))) none mu) := by kernel_rfl
theorem b3_21 : b_law_k01_3 (eS N K o2 o3 o4 o5 o6 (some (.val (.int 21))) (some (.val (.exc "TooMany" ["most"] [p]))) o9 o10 mu) = .ok .nx (eS N K o2 o3 o4 o5 o6 (some (.val (.int 21))) (some (.val (.exc "TooMany" ["most"] [p]))) (some (.val (.int 2))) none mu) := by kernel_rfl
theorem loop22 : forL (gT 2 (gCons (gN 7) (gCons (gN 8) gNil))) b_law_k01_3 (enumP (mades p)) (eS N K o2 o3 o4 o5 o6 o7 o8 o9 o10 mu) = .ok .nx (eS N K o2 o3 o4 o5 o6 (some (.val (.int 21))) (some (.val (.exc "TooMany" ["most"] [p]))) (some (.val (.int 2))) none mu) := (forL_cons (s1 := (eS N K o2 o3 o4 o5 o6 (some (.val (.int 0))) (some (.val (.exc "BadNumber" ["value"] [p]))) o9 o10 mu)) rfl b3_0).trans ((forL_cons (s1 := (eS N K o2 o3 o4 o5 o6 (some (.val (.int 1))) (some (.val (.exc "BadShare" ["value"] [p]))) (some (.val (.int 0))) none mu)) rfl b3_1).trans ((forL_cons (s1 := (eS N K o2 o3 o4 o5 o6 (some (.val (.int 2))) (some (.val (.exc "BadRule" ["value"] [p]))) (some (.val (.int 0))) none mu)) rfl b3_2).trans ((forL_cons (s1 := (eS N K o2 o3 o4 o5 o6 (some (.val (.int 3))) (some (.val (.exc "BadAmount" ["value"] [p]))) (some (.val (.int 0))) none mu)) rfl b3_3).trans ((forL_cons (s1 := (eS N K o2 o3 o4 o5 o6 (some (.val (.int 4))) (some (.val (.exc "BadName" ["value"] [p]))) (some (.val (.int 0))) none mu)) rfl b3_4).trans ((forL_cons (s1 := (eS N K o2 o3 o4 o5 o6 (some (.val (.int 5))) (some (.val (.exc "BadText" ["value"] [p]))) (some (.val (.int 0))) none mu)) rfl b3_5).trans ((forL_cons (s1 := (eS N K o2 o3 o4 o5 o6 (some (.val (.int 6))) (some (.val (.exc "BadSummary" ["value"] [p]))) (some (.val (.int 0))) none mu)) rfl b3_6).trans ((forL_cons (s1 := (eS N K o2 o3 o4 o5 o6 (some (.val (.int 7))) (some (.val (.exc "BadSample" ["index"] [p]))) (some (.val (.int 0))) none mu)) rfl b3_7).trans ((forL_cons (s1 := (eS N K o2 o3 o4 o5 o6 (some (.val (.int 8))) (some (.val (.exc "BadWeights" ["index"] [p]))) (some (.val (.int 0))) none mu)) rfl b3_8).trans ((forL_cons (s1 := (eS N K o2 o3 o4 o5 o6 (some (.val (.int 9))) (some (.val (.exc "BadPairs" ["index"] [p]))) (some (.val (.int 0))) none mu)) rfl b3_9).trans ((forL_cons (s1 := (eS N K o2 o3 o4 o5 o6 (some (.val (.int 10))) (some (.val (.exc "BadEdges" ["index"] [p]))) (some (.val (.int 0))) none mu)) rfl b3_10).trans ((forL_cons (s1 := (eS N K o2 o3 o4 o5 o6 (some (.val (.int 11))) (some (.val (.exc "Empty" [] []))) (some (.val (.int 0))) none mu)) rfl b3_11).trans ((forL_cons (s1 := (eS N K o2 o3 o4 o5 o6 (some (.val (.int 12))) (some (.val (.exc "TooFew" ["needed"] [p]))) (some (.val (.int 1))) none mu)) rfl b3_12).trans ((forL_cons (s1 := (eS N K o2 o3 o4 o5 o6 (some (.val (.int 13))) (some (.val (.exc "NotThere" ["item"] [p]))) (some (.val (.int 1))) none mu)) rfl b3_13).trans ((forL_cons (s1 := (eS N K o2 o3 o4 o5 o6 (some (.val (.int 14))) (some (.val (.exc "Outside" ["value"] [p]))) (some (.val (.int 1))) none mu)) rfl b3_14).trans ((forL_cons (s1 := (eS N K o2 o3 o4 o5 o6 (some (.val (.int 15))) (some (.val (.exc "NothingDone" [] []))) (some (.val (.int 1))) none mu)) rfl b3_15).trans ((forL_cons (s1 := (eS N K o2 o3 o4 o5 o6 (some (.val (.int 16))) (some (.val (.exc "DividedByZero" [] []))) (some (.val (.int 1))) none mu)) rfl b3_16).trans ((forL_cons (s1 := (eS N K o2 o3 o4 o5 o6 (some (.val (.int 17))) (some (.val (.exc "NoSpread" [] []))) (some (.val (.int 2))) none mu)) rfl b3_17).trans ((forL_cons (s1 := (eS N K o2 o3 o4 o5 o6 (some (.val (.int 18))) (some (.val (.exc "NotPositive" ["index"] [p]))) (some (.val (.int 2))) none mu)) rfl b3_18).trans ((forL_cons (s1 := (eS N K o2 o3 o4 o5 o6 (some (.val (.int 19))) (some (.val (.exc "Impossible" [] []))) (some (.val (.int 2))) none mu)) rfl b3_19).trans ((forL_cons (s1 := (eS N K o2 o3 o4 o5 o6 (some (.val (.int 20))) (some (.val (.exc "Unbounded" [] []))) (some (.val (.int 2))) none mu)) rfl b3_20).trans ((forL_cons (s1 := (eS N K o2 o3 o4 o5 o6 (some (.val (.int 21))) (some (.val (.exc "TooMany" ["most"] [p]))) (some (.val (.int 2))) none mu)) rfl b3_21).trans (rfl))))))))))))))))))))))
end
end PX.k01
namespace PX.k01
open PySem L3 LD PC PD PX L2 PX.k57 PX.k09
def things : List PV := [.non, .int 5, .str "half", .tup [.str "a", .int 1], .lst [.str "b"], .dk [.inr "c"] [.int 2], .bl true, .str "", .int (10 ^ 30), .int (-1)]
section
variable {p N K : PV} {mu : List MO} {n k : Nat} {o1 o2 o3 o4 o5 o6 o7 o8 o9 o10 : Option SV}
/-- they can be shown -/
theorem things_shown : ∀ p ∈ things, ∃ t, ∀ s, fReprW [.lst [p, p, p, p, p, p, p, p, p, p, p, p, p, p, p, p]] s = .ok (.str t) s := by
  intro p hp
  unfold things at hp
  simp only [List.mem_cons, List.not_mem_nil, or_false] at hp
  rcases hp with rfl | rfl | rfl | rfl | rfl | rfl | rfl | rfl | rfl | rfl
  · exact PX.reprW_of (d := (PV.dat2 (.lst [.non, .non, .non, .non, .non, .non, .non, .non, .non, .non, .non, .non, .non, .non, .non, .non])).getD .none) (by kernel_rfl) (by decide +kernel)
  · exact PX.reprW_of (d := (PV.dat2 (.lst [.int 5, .int 5, .int 5, .int 5, .int 5, .int 5, .int 5, .int 5, .int 5, .int 5, .int 5, .int 5, .int 5, .int 5, .int 5, .int 5])).getD .none) (by kernel_rfl) (by decide +kernel)
  · exact PX.reprW_of (d := (PV.dat2 (.lst [.str "half", .str "half", .str "half", .str "half", .str "half", .str "half", .str "half", .str "half", .str "half", .str "half", .str "half", .str "half", .str "half", .str "half", .str "half", .str "half"])).getD .none) (by kernel_rfl) (by decide +kernel)
  · exact PX.reprW_of (d := (PV.dat2 (.lst [.tup [.str "a", .int 1], .tup [.str "a", .int 1], .tup [.str "a", .int 1], .tup [.str "a", .int 1], .tup [.str "a", .int 1], .tup [.str "a", .int 1], .tup [.str "a", .int 1], .tup [.str "a", .int 1], .tup [.str "a", .int 1], .tup [.str "a", .int 1], .tup [.str "a", .int 1], .tup [.str "a", .int 1], .tup [.str "a", .int 1], .tup [.str "a", .int 1], .tup [.str "a", .int 1], .tup [.str "a", .int 1]])).getD .none) (by kernel_rfl) (by decide +kernel)
  · exact PX.reprW_of (d := (PV.dat2 (.lst [.lst [.str "b"], .lst [.str "b"], .lst [.str "b"], .lst [.str "b"], .lst [.str "b"], .lst [.str "b"], .lst [.str "b"], .lst [.str "b"], .lst [.str "b"], .lst [.str "b"], .lst [.str "b"], .lst [.str "b"], .lst [.str "b"], .lst [.str "b"], .lst [.str "b"], .lst [.str "b"]])).getD .none) (by kernel_rfl) (by decide +kernel)
  · exact PX.reprW_of (d := (PV.dat2 (.lst [.dk [.inr "c"] [.int 2], .dk [.inr "c"] [.int 2], .dk [.inr "c"] [.int 2], .dk [.inr "c"] [.int 2], .dk [.inr "c"] [.int 2], .dk [.inr "c"] [.int 2], .dk [.inr "c"] [.int 2], .dk [.inr "c"] [.int 2], .dk [.inr "c"] [.int 2], .dk [.inr "c"] [.int 2], .dk [.inr "c"] [.int 2], .dk [.inr "c"] [.int 2], .dk [.inr "c"] [.int 2], .dk [.inr "c"] [.int 2], .dk [.inr "c"] [.int 2], .dk [.inr "c"] [.int 2]])).getD .none) (by kernel_rfl) (by decide +kernel)
  · exact PX.reprW_of (d := (PV.dat2 (.lst [.bl true, .bl true, .bl true, .bl true, .bl true, .bl true, .bl true, .bl true, .bl true, .bl true, .bl true, .bl true, .bl true, .bl true, .bl true, .bl true])).getD .none) (by kernel_rfl) (by decide +kernel)
  · exact PX.reprW_of (d := (PV.dat2 (.lst [.str "", .str "", .str "", .str "", .str "", .str "", .str "", .str "", .str "", .str "", .str "", .str "", .str "", .str "", .str "", .str ""])).getD .none) (by kernel_rfl) (by decide +kernel)
  · exact PX.reprW_of (d := (PV.dat2 (.lst [.int (10 ^ 30), .int (10 ^ 30), .int (10 ^ 30), .int (10 ^ 30), .int (10 ^ 30), .int (10 ^ 30), .int (10 ^ 30), .int (10 ^ 30), .int (10 ^ 30), .int (10 ^ 30), .int (10 ^ 30), .int (10 ^ 30), .int (10 ^ 30), .int (10 ^ 30), .int (10 ^ 30), .int (10 ^ 30)])).getD .none) (by kernel_rfl) (by decide +kernel)
  · exact PX.reprW_of (d := (PV.dat2 (.lst [.int (-1), .int (-1), .int (-1), .int (-1), .int (-1), .int (-1), .int (-1), .int (-1), .int (-1), .int (-1), .int (-1), .int (-1), .int (-1), .int (-1), .int (-1), .int (-1)])).getD .none) (by kernel_rfl) (by decide +kernel)
theorem body4 (hp : p ∈ things) : b_law_k01_4 (eS N K o2 (some (.val (.lst (mades p)))) o4 o5 (some (.val p)) o7 o8 o9 o10 mu) = .ok .nx (eS N K o2 (some (.val (.lst (mades p)))) o4 o5 (some (.val p)) (some (.val (.int 21))) (some (.val (.exc "TooMany" ["most"] [p]))) (some (.val (.int 2))) none mu) := by
  obtain ⟨t, ht⟩ := things_shown p hp
  have v3 : dCons (dVar 3) dNil (eS N K o2 (some (.val (.lst (mades p)))) o4 o5 (some (.val p)) o7 o8 o9 o10 mu) = .ok [.lst (mades p)] (eS N K o2 (some (.val (.lst (mades p)))) o4 o5 (some (.val p)) o7 o8 o9 o10 mu) := cons_ok (var_ok (i := 3) rfl) rfl
  have f1 : dFnS F_w_fields (dCons (dVar 3) dNil) (eS N K o2 (some (.val (.lst (mades p)))) o4 o5 (some (.val p)) o7 o8 o9 o10 mu) = .ok (.lst [p, p, p, p, p, p, p, p, p, p, p, p, p, p, p, p]) (eS N K o2 (some (.val (.lst (mades p)))) o4 o5 (some (.val p)) o7 o8 o9 o10 mu) := fnS29 v3 (e_fields p mu)
  have f2 : dBin gMul (dLst (dCons (dVar 6) dNil)) (dC (.int 16)) (eS N K o2 (some (.val (.lst (mades p)))) o4 o5 (some (.val p)) o7 o8 o9 o10 mu) = .ok (.lst [p, p, p, p, p, p, p, p, p, p, p, p, p, p, p, p]) (eS N K o2 (some (.val (.lst (mades p)))) o4 o5 (some (.val p)) o7 o8 o9 o10 mu) := by kernel_rfl
  have r : ∀ {d : DE}, d (eS N K o2 (some (.val (.lst (mades p)))) o4 o5 (some (.val p)) o7 o8 o9 o10 mu) = .ok (.lst [p, p, p, p, p, p, p, p, p, p, p, p, p, p, p, p]) (eS N K o2 (some (.val (.lst (mades p)))) o4 o5 (some (.val p)) o7 o8 o9 o10 mu) → dFn fReprW (dCons d dNil) (eS N K o2 (some (.val (.lst (mades p)))) o4 o5 (some (.val p)) o7 o8 o9 o10 mu) = .ok (.str t) (eS N K o2 (some (.val (.lst (mades p)))) o4 o5 (some (.val p)) o7 o8 o9 o10 mu) := fun {d} h => by
    have e2 : dCons d dNil (eS N K o2 (some (.val (.lst (mades p)))) o4 o5 (some (.val p)) o7 o8 o9 o10 mu) = .ok [.lst [p, p, p, p, p, p, p, p, p, p, p, p, p, p, p, p]] (eS N K o2 (some (.val (.lst (mades p)))) o4 o5 (some (.val p)) o7 o8 o9 o10 mu) := cons_ok h rfl
    unfold dFn
    rw [e2]
    exact ht _
  have ne : ∀ st : L3.S, gEq true (.str t) (.str t) st = .ok (.bl false) st := fun st => by rw [gEq_str]; simp
  have t1 := if_no2 (d := dRet (dC (.bl false))) (tru_ok ((bin_ok (r f1) (r f2)).trans (ne _)))
  have it : iEnumQ (dCons (dVar 3) dNil) (eS N K o2 (some (.val (.lst (mades p)))) o4 o5 (some (.val p)) o7 o8 o9 o10 mu) = .ok (enumP (mades p)) (eS N K o2 (some (.val (.lst (mades p)))) o4 o5 (some (.val p)) o7 o8 o9 o10 mu) := by
    unfold iEnumQ
    rw [v3]
    rfl
  exact (congrFun (rfl : b_law_k01_4 = dSeq _ _) _).trans ((seq_nx t1).trans (for_ok it loop22))
theorem cell1 {ns : List Int} {i : Nat} (hi : i ≤ 4) (hf : flatMs mu = true) : ∃ (rest : List (Option SV)) (mu' : List MO), rest.length = 9 ∧ flatMs mu' = true ∧
    b_law_k01_5 ⟨[some (.val (.frz (ns.map .int))), some (.val (.int (i : Int))), o2, o3, o4, o5, o6, o7, o8, o9, o10], mu⟩ = .ok .nx ⟨some (.val (.frz (ns.map .int))) :: some (.val (.int (i : Int))) :: rest, mu'⟩ := by
  obtain ⟨m1, e1, H1⟩ := source_eq (ns := ns) (j := i) (by omega) hf
  generalize mu.length = n at *
  obtain ⟨N, hN⟩ : ∃ N : PV, N = .frz (ns.map .int) := ⟨_, rfl⟩
  obtain ⟨K, hK⟩ : ∃ K : PV, K = .int (i : Int) := ⟨_, rfl⟩
  rw [← hN, ← hK] at e1 ⊢
  have t1 : (dSet 5 (dFnS F_w_source (dCons (dVar 0) (dCons (dVar 1) dNil)))) ⟨[some (.val N), some (.val K), o2, o3, o4, o5, o6, o7, o8, o9, o10], mu⟩ = .ok .nx (eS N K o2 o3 o4 (some (.val (.ptr n))) o6 o7 o8 o9 o10 m1) :=
    set_ok (fnS29 (cons_ok (var_ok (i := 0) rfl) (cons_ok (var_ok (i := 1) rfl) rfl)) e1) (by show 5 < 11; decide) rfl
  obtain ⟨p, m2, e2, hp, H2⟩ := pick_eq (xs := things) H1 (by omega) (by simp [things]) (by simp [things])
  have lst : (dLst (dCons (dC .non) (dCons (dC (.int 5)) (dCons (dC (.str ("half" : Str))) (dCons (dTup (dCons (dC (.str ("a" : Str))) (dCons (dC (.int 1)) dNil))) (dCons (dLst (dCons (dC (.str ("b" : Str))) dNil)) (dCons (dDisp [.inr "c"] (dCons (dC (.int 2)) dNil)) (dCons (dC (.bl true)) (dCons (dC (.str ("" : Str))) (dCons (dBin gPow (dC (.int 10)) (dC (.int 30))) (dCons (dUn fNegI (dC (.int 1))) dNil))))))))))) (eS N K o2 o3 o4 (some (.val (.ptr n))) o6 o7 o8 o9 o10 m1) = .ok (.lst things) (eS N K o2 o3 o4 (some (.val (.ptr n))) o6 o7 o8 o9 o10 m1) := by kernel_rfl
  have t2 : (dSet 6 (dFnS F_w_pick (dCons (dVar 5) (dCons (dLst (dCons (dC .non) (dCons (dC (.int 5)) (dCons (dC (.str ("half" : Str))) (dCons (dTup (dCons (dC (.str ("a" : Str))) (dCons (dC (.int 1)) dNil))) (dCons (dLst (dCons (dC (.str ("b" : Str))) dNil)) (dCons (dDisp [.inr "c"] (dCons (dC (.int 2)) dNil)) (dCons (dC (.bl true)) (dCons (dC (.str ("" : Str))) (dCons (dBin gPow (dC (.int 10)) (dC (.int 30))) (dCons (dUn fNegI (dC (.int 1))) dNil))))))))))) dNil)))) (eS N K o2 o3 o4 (some (.val (.ptr n))) o6 o7 o8 o9 o10 m1) = .ok .nx (eS N K o2 o3 o4 (some (.val (.ptr n))) (some (.val p)) o7 o8 o9 o10 m2) :=
    set_ok (fnS29 (cons_ok (var_ok (i := 5) rfl) (cons_ok lst rfl)) e2) (by show 6 < 11; decide) rfl
  have v6 : dCons (dVar 6) dNil (eS N K o2 o3 o4 (some (.val (.ptr n))) (some (.val p)) o7 o8 o9 o10 m2) = .ok [p] (eS N K o2 o3 o4 (some (.val (.ptr n))) (some (.val p)) o7 o8 o9 o10 m2) := cons_ok (var_ok (i := 6) rfl) rfl
  have it : iSeq (dTup (dCons (dFnS F_w_made (dCons (dVar 6) dNil)) (dCons (dFnS F_w_named (dCons (dVar 6) dNil)) dNil))) (eS N K o2 o3 o4 (some (.val (.ptr n))) (some (.val p)) o7 o8 o9 o10 m2) = .ok [.lst (mades p), .lst (mades p)] (eS N K o2 o3 o4 (some (.val (.ptr n))) (some (.val p)) o7 o8 o9 o10 m2) :=
    seq_tup (tup_ok (cons_ok (fnS29 v6 (e_made p m2)) (cons_ok (fnS29 v6 (e_named p m2)) rfl)) (by simp))
  have b1 : b_law_k01_4 (eS N K o2 (some (.val (.lst (mades p)))) o4 (some (.val (.ptr n))) (some (.val p)) o7 o8 o9 o10 m2) = .ok .nx (eS N K o2 (some (.val (.lst (mades p)))) o4 (some (.val (.ptr n))) (some (.val p)) (some (.val (.int 21))) (some (.val (.exc "TooMany" ["most"] [p]))) (some (.val (.int 2))) none m2) := body4 hp
  have b2 : b_law_k01_4 (eS N K o2 (some (.val (.lst (mades p)))) o4 (some (.val (.ptr n))) (some (.val p)) (some (.val (.int 21))) (some (.val (.exc "TooMany" ["most"] [p]))) (some (.val (.int 2))) none m2) = .ok .nx (eS N K o2 (some (.val (.lst (mades p)))) o4 (some (.val (.ptr n))) (some (.val p)) (some (.val (.int 21))) (some (.val (.exc "TooMany" ["most"] [p]))) (some (.val (.int 2))) none m2) := body4 hp
  generalize mades p = ms at *
  have fl : forL (gN 3) b_law_k01_4 [.lst ms, .lst ms] (eS N K o2 o3 o4 (some (.val (.ptr n))) (some (.val p)) o7 o8 o9 o10 m2) = .ok .nx (eS N K o2 (some (.val (.lst ms))) o4 (some (.val (.ptr n))) (some (.val p)) (some (.val (.int 21))) (some (.val (.exc "TooMany" ["most"] [p]))) (some (.val (.int 2))) none m2) :=
    (forL_cons (t := gN 3) (b := b_law_k01_4) (x := .lst ms) (xs := [.lst ms]) (s := (eS N K o2 o3 o4 (some (.val (.ptr n))) (some (.val p)) o7 o8 o9 o10 m2)) (s1 := (eS N K o2 (some (.val (.lst ms))) o4 (some (.val (.ptr n))) (some (.val p)) o7 o8 o9 o10 m2)) rfl b1).trans ((forL_cons (t := gN 3) (b := b_law_k01_4) (x := .lst ms) (xs := []) (s := (eS N K o2 (some (.val (.lst ms))) o4 (some (.val (.ptr n))) (some (.val p)) (some (.val (.int 21))) (some (.val (.exc "TooMany" ["most"] [p]))) (some (.val (.int 2))) none m2)) (s1 := (eS N K o2 (some (.val (.lst ms))) o4 (some (.val (.ptr n))) (some (.val p)) (some (.val (.int 21))) (some (.val (.exc "TooMany" ["most"] [p]))) (some (.val (.int 2))) none m2)) rfl b2).trans rfl)
  have t3 := for_ok it fl
  exact ⟨_, m2, rfl, H2.src.flat, (congrFun (rfl : b_law_k01_5 = dSeq _ (dSeq _ _)) _).trans ((seq_nx t1).trans ((seq_nx t2).trans t3))⟩
abbrev cS (N : PV) (o1 o2 o3 o4 o5 o6 o7 o8 o9 o10 : Option SV) (mu : List MO) : L3.S := ⟨[some (.val N), o1, o2, o3, o4, o5, o6, o7, o8, o9, o10], mu⟩
theorem close1 : ∃ s' : L3.S, (dSeq (dSet 2 (dNewF (dLstF (dCons (dC (.str ("a" : Str))) dNil)))) (dSeq (dSet 3 (dFnS F_w_made (dCons (dVar 2) dNil))) (dSeq (dExpr (dApp 2 (dC (.str ("b" : Str))))) (dSeq (dSet 4 (dLst (dCons (dUn (fEFld ["BadSample", "BadWeights", "BadPairs", "BadEdges", "NotPositive"] "index") (dExcV "BadSample" "index" (dC .non))) (dCons (dUn (fEFld ["BadSample", "BadWeights", "BadPairs", "BadEdges", "NotPositive"] "index") (dExcV "BadWeights" "index" (dC .non))) (dCons (dUn (fEFld ["BadSample", "BadWeights", "BadPairs", "BadEdges", "NotPositive"] "index") (dExcV "BadPairs" "index" (dC .non))) (dCons (dUn (fEFld ["BadSample", "BadWeights", "BadPairs", "BadEdges", "NotPositive"] "index") (dExcV "BadEdges" "index" (dC .non))) (dCons (dUn (fEFld ["BadSample", "BadWeights", "BadPairs", "BadEdges", "NotPositive"] "index") (dExcV "NotPositive" "index" (dC .non))) dNil))))))) (dRet (dAnd (dBin (gEqB (gEq false)) (dFnS F_w_fields (dCons (dVar 3) dNil)) (dBin gMul (dLst (dCons (dLst (dCons (dC (.str ("a" : Str))) (dCons (dC (.str ("b" : Str))) dNil))) dNil)) (dC (.int 16)))) (dBin (gEqB (gEq false)) (dVar 4) (dBin gMul (dLst (dCons (dC .non) dNil)) (dC (.int 5)))))))))) (cS N o1 o2 o3 o4 o5 o6 o7 o8 o9 o10 mu) = .ok (.rt (.bl true)) s' := by
  have t2 : (dSet 2 (dNewF (dLstF (dCons (dC (.str ("a" : Str))) dNil)))) (cS N o1 o2 o3 o4 o5 o6 o7 o8 o9 o10 mu) = .ok .nx (cS N o1 (some (.val (.ptr mu.length))) o3 o4 o5 o6 o7 o8 o9 o10 (mu ++ [MO.lst [PV.str "a"]])) := rfl
  have t3 : (dSet 3 (dFnS F_w_made (dCons (dVar 2) dNil))) (cS N o1 (some (.val (.ptr mu.length))) o3 o4 o5 o6 o7 o8 o9 o10 (mu ++ [MO.lst [PV.str "a"]])) = .ok .nx (cS N o1 (some (.val (.ptr mu.length))) (some (.val (.lst (mades (.ptr mu.length))))) o4 o5 o6 o7 o8 o9 o10 (mu ++ [MO.lst [PV.str "a"]])) := set_ok (fnS29 (cons_ok (var_ok (i := 2) rfl) rfl) (e_made _ _)) (by show 3 < 11; decide) rfl
  have g1 : (mu ++ [MO.lst [PV.str "a"]])[mu.length]? = some (MO.lst [.str "a"]) := by simp
  have la : lstAt 2 (cS N o1 (some (.val (.ptr mu.length))) (some (.val (.lst (mades (.ptr mu.length))))) o4 o5 o6 o7 o8 o9 o10 (mu ++ [MO.lst [PV.str "a"]])) = some ([PV.str "a"], fun ys => setM mu.length ys (cS N o1 (some (.val (.ptr mu.length))) (some (.val (.lst (mades (.ptr mu.length))))) o4 o5 o6 o7 o8 o9 o10 (mu ++ [MO.lst [PV.str "a"]]))) := by
    show (match (mu ++ [MO.lst [PV.str "a"]])[mu.length]? with | some (.lst xs) => some (xs, fun ys => setM mu.length ys (cS N o1 (some (.val (.ptr mu.length))) (some (.val (.lst (mades (.ptr mu.length))))) o4 o5 o6 o7 o8 o9 o10 (mu ++ [MO.lst [PV.str "a"]]))) | _ => none) = _
    rw [g1]
  have sm : setM mu.length ([PV.str "a"] ++ [PV.str "b"]) (cS N o1 (some (.val (.ptr mu.length))) (some (.val (.lst (mades (.ptr mu.length))))) o4 o5 o6 o7 o8 o9 o10 (mu ++ [MO.lst [PV.str "a"]])) = (cS N o1 (some (.val (.ptr mu.length))) (some (.val (.lst (mades (.ptr mu.length))))) o4 o5 o6 o7 o8 o9 o10 (mu ++ [MO.lst [PV.str "a", PV.str "b"]])) := by
    show (⟨_, (mu ++ [MO.lst [PV.str "a"]]).set mu.length (MO.lst [.str "a", .str "b"])⟩ : L3.S) = _
    have e : (mu ++ [MO.lst [PV.str "a"]]).set mu.length (MO.lst [.str "a", .str "b"]) = (mu ++ [MO.lst [PV.str "a", PV.str "b"]]) := by simp
    rw [e]
  have ap : dApp 2 (dC (.str ("b" : Str))) (cS N o1 (some (.val (.ptr mu.length))) (some (.val (.lst (mades (.ptr mu.length))))) o4 o5 o6 o7 o8 o9 o10 (mu ++ [MO.lst [PV.str "a"]])) = .ok .non (cS N o1 (some (.val (.ptr mu.length))) (some (.val (.lst (mades (.ptr mu.length))))) o4 o5 o6 o7 o8 o9 o10 (mu ++ [MO.lst [PV.str "a", PV.str "b"]])) := by
    unfold dApp
    rw [la]
    show (match lstAt 2 (cS N o1 (some (.val (.ptr mu.length))) (some (.val (.lst (mades (.ptr mu.length))))) o4 o5 o6 o7 o8 o9 o10 (mu ++ [MO.lst [PV.str "a"]])) with | some (xs, k) => if xs.length < 16777216 then R.ok PV.non (k (xs ++ [PV.str "b"])) else .bad | none => .bad) = _
    rw [la]
    show (if [PV.str "a"].length < 16777216 then R.ok PV.non (setM mu.length ([PV.str "a"] ++ [PV.str "b"]) (cS N o1 (some (.val (.ptr mu.length))) (some (.val (.lst (mades (.ptr mu.length))))) o4 o5 o6 o7 o8 o9 o10 (mu ++ [MO.lst [PV.str "a"]]))) else .bad) = _
    rw [if_pos (by simp), sm]
  have t4 := expr_ok ap
  have t5 : (dSet 4 (dLst (dCons (dUn (fEFld ["BadSample", "BadWeights", "BadPairs", "BadEdges", "NotPositive"] "index") (dExcV "BadSample" "index" (dC .non))) (dCons (dUn (fEFld ["BadSample", "BadWeights", "BadPairs", "BadEdges", "NotPositive"] "index") (dExcV "BadWeights" "index" (dC .non))) (dCons (dUn (fEFld ["BadSample", "BadWeights", "BadPairs", "BadEdges", "NotPositive"] "index") (dExcV "BadPairs" "index" (dC .non))) (dCons (dUn (fEFld ["BadSample", "BadWeights", "BadPairs", "BadEdges", "NotPositive"] "index") (dExcV "BadEdges" "index" (dC .non))) (dCons (dUn (fEFld ["BadSample", "BadWeights", "BadPairs", "BadEdges", "NotPositive"] "index") (dExcV "NotPositive" "index" (dC .non))) dNil))))))) (cS N o1 (some (.val (.ptr mu.length))) (some (.val (.lst (mades (.ptr mu.length))))) o4 o5 o6 o7 o8 o9 o10 (mu ++ [MO.lst [PV.str "a", PV.str "b"]])) = .ok .nx (cS N o1 (some (.val (.ptr mu.length))) (some (.val (.lst (mades (.ptr mu.length))))) (some (.val (.lst [.non, .non, .non, .non, .non]))) o5 o6 o7 o8 o9 o10 (mu ++ [MO.lst [PV.str "a", PV.str "b"]])) := by kernel_rfl
  have f1 : dFnS F_w_fields (dCons (dVar 3) dNil) (cS N o1 (some (.val (.ptr mu.length))) (some (.val (.lst (mades (.ptr mu.length))))) (some (.val (.lst [.non, .non, .non, .non, .non]))) o5 o6 o7 o8 o9 o10 (mu ++ [MO.lst [PV.str "a", PV.str "b"]])) = .ok (.lst [(.ptr mu.length), (.ptr mu.length), (.ptr mu.length), (.ptr mu.length), (.ptr mu.length), (.ptr mu.length), (.ptr mu.length), (.ptr mu.length), (.ptr mu.length), (.ptr mu.length), (.ptr mu.length), (.ptr mu.length), (.ptr mu.length), (.ptr mu.length), (.ptr mu.length), (.ptr mu.length)]) (cS N o1 (some (.val (.ptr mu.length))) (some (.val (.lst (mades (.ptr mu.length))))) (some (.val (.lst [.non, .non, .non, .non, .non]))) o5 o6 o7 o8 o9 o10 (mu ++ [MO.lst [PV.str "a", PV.str "b"]])) := fnS29 (cons_ok (var_ok (i := 3) rfl) rfl) (e_fields _ _)
  have f2 : dBin gMul (dLst (dCons (dLst (dCons (dC (.str ("a" : Str))) (dCons (dC (.str ("b" : Str))) dNil))) dNil)) (dC (.int 16)) (cS N o1 (some (.val (.ptr mu.length))) (some (.val (.lst (mades (.ptr mu.length))))) (some (.val (.lst [.non, .non, .non, .non, .non]))) o5 o6 o7 o8 o9 o10 (mu ++ [MO.lst [PV.str "a", PV.str "b"]])) = .ok (.lst [(.lst [.str "a", .str "b"]), (.lst [.str "a", .str "b"]), (.lst [.str "a", .str "b"]), (.lst [.str "a", .str "b"]), (.lst [.str "a", .str "b"]), (.lst [.str "a", .str "b"]), (.lst [.str "a", .str "b"]), (.lst [.str "a", .str "b"]), (.lst [.str "a", .str "b"]), (.lst [.str "a", .str "b"]), (.lst [.str "a", .str "b"]), (.lst [.str "a", .str "b"]), (.lst [.str "a", .str "b"]), (.lst [.str "a", .str "b"]), (.lst [.str "a", .str "b"]), (.lst [.str "a", .str "b"])]) (cS N o1 (some (.val (.ptr mu.length))) (some (.val (.lst (mades (.ptr mu.length))))) (some (.val (.lst [.non, .non, .non, .non, .non]))) o5 o6 o7 o8 o9 o10 (mu ++ [MO.lst [PV.str "a", PV.str "b"]])) := by kernel_rfl
  have g2 : (mu ++ [MO.lst [PV.str "a", PV.str "b"]])[mu.length]? = some (MO.lst [.str "a", .str "b"]) := by simp
  have db : datB (mu ++ [MO.lst [PV.str "a", PV.str "b"]]) (.ptr mu.length) = some (.list [.str "a", .str "b"]) := by
    show (match (mu ++ [MO.lst [PV.str "a", PV.str "b"]])[mu.length]? with | some (.lst xs) => (PV.datL xs).map PyData.list | _ => none) = _
    rw [g2]
    rfl
  have dl : datBL (mu ++ [MO.lst [PV.str "a", PV.str "b"]]) [(.ptr mu.length), (.ptr mu.length), (.ptr mu.length), (.ptr mu.length), (.ptr mu.length), (.ptr mu.length), (.ptr mu.length), (.ptr mu.length), (.ptr mu.length), (.ptr mu.length), (.ptr mu.length), (.ptr mu.length), (.ptr mu.length), (.ptr mu.length), (.ptr mu.length), (.ptr mu.length)] = some [(.list [.str "a", .str "b"]), (.list [.str "a", .str "b"]), (.list [.str "a", .str "b"]), (.list [.str "a", .str "b"]), (.list [.str "a", .str "b"]), (.list [.str "a", .str "b"]), (.list [.str "a", .str "b"]), (.list [.str "a", .str "b"]), (.list [.str "a", .str "b"]), (.list [.str "a", .str "b"]), (.list [.str "a", .str "b"]), (.list [.str "a", .str "b"]), (.list [.str "a", .str "b"]), (.list [.str "a", .str "b"]), (.list [.str "a", .str "b"]), (.list [.str "a", .str "b"])] := by
    simp only [datBL, db]
  have q1 : gEqB (gEq false) (.lst [(.ptr mu.length), (.ptr mu.length), (.ptr mu.length), (.ptr mu.length), (.ptr mu.length), (.ptr mu.length), (.ptr mu.length), (.ptr mu.length), (.ptr mu.length), (.ptr mu.length), (.ptr mu.length), (.ptr mu.length), (.ptr mu.length), (.ptr mu.length), (.ptr mu.length), (.ptr mu.length)]) (.lst [(.lst [.str "a", .str "b"]), (.lst [.str "a", .str "b"]), (.lst [.str "a", .str "b"]), (.lst [.str "a", .str "b"]), (.lst [.str "a", .str "b"]), (.lst [.str "a", .str "b"]), (.lst [.str "a", .str "b"]), (.lst [.str "a", .str "b"]), (.lst [.str "a", .str "b"]), (.lst [.str "a", .str "b"]), (.lst [.str "a", .str "b"]), (.lst [.str "a", .str "b"]), (.lst [.str "a", .str "b"]), (.lst [.str "a", .str "b"]), (.lst [.str "a", .str "b"]), (.lst [.str "a", .str "b"])]) (cS N o1 (some (.val (.ptr mu.length))) (some (.val (.lst (mades (.ptr mu.length))))) (some (.val (.lst [.non, .non, .non, .non, .non]))) o5 o6 o7 o8 o9 o10 (mu ++ [MO.lst [PV.str "a", PV.str "b"]])) = .ok (.bl true) (cS N o1 (some (.val (.ptr mu.length))) (some (.val (.lst (mades (.ptr mu.length))))) (some (.val (.lst [.non, .non, .non, .non, .non]))) o5 o6 o7 o8 o9 o10 (mu ++ [MO.lst [PV.str "a", PV.str "b"]])) := by
    show fEqB (.lst [(.ptr mu.length), (.ptr mu.length), (.ptr mu.length), (.ptr mu.length), (.ptr mu.length), (.ptr mu.length), (.ptr mu.length), (.ptr mu.length), (.ptr mu.length), (.ptr mu.length), (.ptr mu.length), (.ptr mu.length), (.ptr mu.length), (.ptr mu.length), (.ptr mu.length), (.ptr mu.length)]) (.lst [(.lst [.str "a", .str "b"]), (.lst [.str "a", .str "b"]), (.lst [.str "a", .str "b"]), (.lst [.str "a", .str "b"]), (.lst [.str "a", .str "b"]), (.lst [.str "a", .str "b"]), (.lst [.str "a", .str "b"]), (.lst [.str "a", .str "b"]), (.lst [.str "a", .str "b"]), (.lst [.str "a", .str "b"]), (.lst [.str "a", .str "b"]), (.lst [.str "a", .str "b"]), (.lst [.str "a", .str "b"]), (.lst [.str "a", .str "b"]), (.lst [.str "a", .str "b"]), (.lst [.str "a", .str "b"])]) (cS N o1 (some (.val (.ptr mu.length))) (some (.val (.lst (mades (.ptr mu.length))))) (some (.val (.lst [.non, .non, .non, .non, .non]))) o5 o6 o7 o8 o9 o10 (mu ++ [MO.lst [PV.str "a", PV.str "b"]])) = _
    unfold fEqB
    show (match datBL (mu ++ [MO.lst [PV.str "a", PV.str "b"]]) [(.ptr mu.length), (.ptr mu.length), (.ptr mu.length), (.ptr mu.length), (.ptr mu.length), (.ptr mu.length), (.ptr mu.length), (.ptr mu.length), (.ptr mu.length), (.ptr mu.length), (.ptr mu.length), (.ptr mu.length), (.ptr mu.length), (.ptr mu.length), (.ptr mu.length), (.ptr mu.length)], PV.dat (.lst [(.lst [.str "a", .str "b"]), (.lst [.str "a", .str "b"]), (.lst [.str "a", .str "b"]), (.lst [.str "a", .str "b"]), (.lst [.str "a", .str "b"]), (.lst [.str "a", .str "b"]), (.lst [.str "a", .str "b"]), (.lst [.str "a", .str "b"]), (.lst [.str "a", .str "b"]), (.lst [.str "a", .str "b"]), (.lst [.str "a", .str "b"]), (.lst [.str "a", .str "b"]), (.lst [.str "a", .str "b"]), (.lst [.str "a", .str "b"]), (.lst [.str "a", .str "b"]), (.lst [.str "a", .str "b"])]) with | some ds, some e => if SeqAt.shaped (.list ds) = true ∧ SeqAt.shaped e = true then R.ok (PV.bl (PyData.eqv (.list ds) e)) (cS N o1 (some (.val (.ptr mu.length))) (some (.val (.lst (mades (.ptr mu.length))))) (some (.val (.lst [.non, .non, .non, .non, .non]))) o5 o6 o7 o8 o9 o10 (mu ++ [MO.lst [PV.str "a", PV.str "b"]])) else .bad | _, _ => .bad) = _
    rw [dl]
    kernel_rfl
  have a1 := (bin_ok f1 f2).trans q1
  have a2 : (dBin (gEqB (gEq false)) (dVar 4) (dBin gMul (dLst (dCons (dC .non) dNil)) (dC (.int 5)))) (cS N o1 (some (.val (.ptr mu.length))) (some (.val (.lst (mades (.ptr mu.length))))) (some (.val (.lst [.non, .non, .non, .non, .non]))) o5 o6 o7 o8 o9 o10 (mu ++ [MO.lst [PV.str "a", PV.str "b"]])) = .ok (.bl true) (cS N o1 (some (.val (.ptr mu.length))) (some (.val (.lst (mades (.ptr mu.length))))) (some (.val (.lst [.non, .non, .non, .non, .non]))) o5 o6 o7 o8 o9 o10 (mu ++ [MO.lst [PV.str "a", PV.str "b"]])) := by kernel_rfl
  exact ⟨_, (seq_nx t2).trans ((seq_nx t3).trans ((seq_nx t4).trans ((seq_nx t5).trans (ret_ok ((and_tt a1).trans a2)))))⟩
end
end PX.k01
namespace PX
open PySem L3 LD PC PD
theorem law_k01 (ns : List Int) (hn : ns.length ≤ 63) : ∃ mu', F_law_k01 [.frz (ns.map .int)] [] = .ok (.bl true) mu' := by
  have h : W (F_law_k01 [.frz (ns.map .int)] []) (fun v _ => v = .bl true) := by
    unfold F_law_k01
    rw [show d_law_k01 = dSeq (dFor (iRange1 (dCons (dFn fMax2 (dCons (dC (.int 1)) (dCons (dFn fMin2 (dCons (dC (.int 3)) (dCons (dFn fLen (dCons (dVar 0) dNil)) dNil))) dNil))) dNil)) (gN 1) b_law_k01_5) (dSeq (dSet 2 (dNewF (dLstF (dCons (dC (.str ("a" : Str))) dNil)))) (dSeq (dSet 3 (dFnS F_w_made (dCons (dVar 2) dNil))) (dSeq (dExpr (dApp 2 (dC (.str ("b" : Str))))) (dSeq (dSet 4 (dLst (dCons (dUn (fEFld ["BadSample", "BadWeights", "BadPairs", "BadEdges", "NotPositive"] "index") (dExcV "BadSample" "index" (dC .non))) (dCons (dUn (fEFld ["BadSample", "BadWeights", "BadPairs", "BadEdges", "NotPositive"] "index") (dExcV "BadWeights" "index" (dC .non))) (dCons (dUn (fEFld ["BadSample", "BadWeights", "BadPairs", "BadEdges", "NotPositive"] "index") (dExcV "BadPairs" "index" (dC .non))) (dCons (dUn (fEFld ["BadSample", "BadWeights", "BadPairs", "BadEdges", "NotPositive"] "index") (dExcV "BadEdges" "index" (dC .non))) (dCons (dUn (fEFld ["BadSample", "BadWeights", "BadPairs", "BadEdges", "NotPositive"] "index") (dExcV "NotPositive" "index" (dC .non))) dNil))))))) (dRet (dAnd (dBin (gEqB (gEq false)) (dFnS F_w_fields (dCons (dVar 3) dNil)) (dBin gMul (dLst (dCons (dLst (dCons (dC (.str ("a" : Str))) (dCons (dC (.str ("b" : Str))) dNil))) dNil)) (dC (.int 16)))) (dBin (gEqB (gEq false)) (dVar 4) (dBin gMul (dLst (dCons (dC .non) dNil)) (dC (.int 5)))))))))) from rfl]
    generalize hk : (dSeq (dSet 2 (dNewF (dLstF (dCons (dC (.str ("a" : Str))) dNil)))) (dSeq (dSet 3 (dFnS F_w_made (dCons (dVar 2) dNil))) (dSeq (dExpr (dApp 2 (dC (.str ("b" : Str))))) (dSeq (dSet 4 (dLst (dCons (dUn (fEFld ["BadSample", "BadWeights", "BadPairs", "BadEdges", "NotPositive"] "index") (dExcV "BadSample" "index" (dC .non))) (dCons (dUn (fEFld ["BadSample", "BadWeights", "BadPairs", "BadEdges", "NotPositive"] "index") (dExcV "BadWeights" "index" (dC .non))) (dCons (dUn (fEFld ["BadSample", "BadWeights", "BadPairs", "BadEdges", "NotPositive"] "index") (dExcV "BadPairs" "index" (dC .non))) (dCons (dUn (fEFld ["BadSample", "BadWeights", "BadPairs", "BadEdges", "NotPositive"] "index") (dExcV "BadEdges" "index" (dC .non))) (dCons (dUn (fEFld ["BadSample", "BadWeights", "BadPairs", "BadEdges", "NotPositive"] "index") (dExcV "NotPositive" "index" (dC .non))) dNil))))))) (dRet (dAnd (dBin (gEqB (gEq false)) (dFnS F_w_fields (dCons (dVar 3) dNil)) (dBin gMul (dLst (dCons (dLst (dCons (dC (.str ("a" : Str))) (dCons (dC (.str ("b" : Str))) dNil))) dNil)) (dC (.int 16)))) (dBin (gEqB (gEq false)) (dVar 4) (dBin gMul (dLst (dCons (dC .non) dNil)) (dC (.int 5)))))))))) = kk
    simp [W_runBody]
    refine ⟨⟨by omega, by omega⟩, ?_⟩
    refine turnsN (by omega) (fun r => r.length = 9) (by simp) rfl ?_ trivial ?_
    · rintro i rest mu hi hr hf
      obtain ⟨o2, o3, o4, o5, o6, o7, o8, o9, o10, rfl⟩ : ∃ o2 o3 o4 o5 o6 o7 o8 o9 o10, rest = [o2, o3, o4, o5, o6, o7, o8, o9, o10] := by
        match rest, hr with
        | [o2, o3, o4, o5, o6, o7, o8, o9, o10], _ => exact ⟨o2, o3, o4, o5, o6, o7, o8, o9, o10, rfl⟩
      obtain ⟨rest', mu', l', hf', e⟩ := k01.cell1 (ns := ns) (o2 := o2) (o3 := o3) (o4 := o4) (o5 := o5) (o6 := o6) (o7 := o7) (o8 := o8) (o9 := o9) (o10 := o10) hi hf
      exact W.of e ⟨rfl, rest', mu', l', hf', rfl⟩
    · rintro o1 rest mu n1 hr hf
      obtain ⟨o2, o3, o4, o5, o6, o7, o8, o9, o10, rfl⟩ : ∃ o2 o3 o4 o5 o6 o7 o8 o9 o10, rest = [o2, o3, o4, o5, o6, o7, o8, o9, o10] := by
        match rest, hr with
        | [o2, o3, o4, o5, o6, o7, o8, o9, o10], _ => exact ⟨o2, o3, o4, o5, o6, o7, o8, o9, o10, rfl⟩
      obtain ⟨s', e⟩ := k01.close1 (mu := mu) (N := .frz (ns.map .int)) (o1 := o1) (o2 := o2) (o3 := o3) (o4 := o4) (o5 := o5) (o6 := o6) (o7 := o7) (o8 := o8) (o9 := o9) (o10 := o10)
      rw [hk] at e
      exact W.of e rfl
  obtain ⟨v, mu', e, rfl⟩ := h.out
  exact ⟨mu', e⟩
end PX
open PySem PySem.W PySem.Calls PyProof.Rows
theorem PySem.Challenge.cw_exactstats_k01_error_classes_holds : PySem.Challenge.rw_exactstats_k01_error_classes.Holds := by
  w_on; o_law
  refine L3.head_cut (r := OpenLaw.row PySem.Challenge.rw_exactstats_k01_error_classes) (q := view (OpenLaw.row PySem.Challenge.rw_exactstats_k01_error_classes).prog [35]) (H := Gk01.hk) (loose := Gk01.loose) (d := HandSHeadRun.topDef (OpenLaw.row PySem.Challenge.rw_exactstats_k01_error_classes).prog 35) (kwd := [])
    (by kernel_rfl) (fun s => by kernel_rfl) Gk01.S Gk01.run Gk01.k1 Gk01.k2 Gk01.k3 (by kernel_rfl) (by kernel_rfl) (by kernel_rfl) (by rfl) (by first | assumption | decide +kernel) (by decide +kernel) ⟨rfl, rfl, rfl, rfl, rfl, by decide +kernel⟩ ?hw ?hc
  case hw => w_witness2
  case hc =>
    refine L3.walkGT (names := []) (l := PySem.Challenge.rw_exactstats_k01_error_classes) (n := 63) (k := 4) (x := "_law_script") (CX := L2.CX0) rfl (by decide) (by kernel_rfl) ⟨rfl, by decide, by decide⟩ ?F (fun _ _ _ _ z => z)
    intro w mg fa h Y G hmg0
    obtain ⟨K, KX, c, T⟩ := Y
    have hmg : mg ("law" : PySem.Str) = some (.ref fa) := by
      have e : (HandSHeadRun.topDef (OpenLaw.row PySem.Challenge.rw_exactstats_k01_error_classes).prog 35).name = ("law" : PySem.Str) := by kernel_rfl
      rw [← e]
      exact hmg0
    obtain ⟨hl, fd, hb, hF⟩ := Gk01.facts (P := (PySem.Challenge.rw_exactstats_k01_error_classes).prog) (w := w) KX G c
    have ee := hmg.symm.trans hl
    cases ee
    exact ⟨K, fd, (fun vs H Q _ => L3.spJ K (He.ga K "Ratio") 1 LD.F_law_k01 vs H Q fun _ _ _ => False), KX, T, hb, fun H a ns hn hT hS => L3.law_sp (n := 63) (fun ns h => PX.law_k01 ns h) H a ns hn (by rw [T.tk]; exact hT) hS, fun base _ _ tb => L3.FnG.mono (L3.calm_of (hF base )) (by decide)⟩
